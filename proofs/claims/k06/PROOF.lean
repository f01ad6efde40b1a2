import PyProof.Rows.All
import Wide.All
import OpenK.AllK
import Wide.FinOn
import PySem.Str
import PyProof.EqAt
import PyProof.EqKinds
import PyProof.TupleCall
import HandS.ForMost
import HandS.Exc
import HandS.ExcOwn
import HandS.TryOnly
import HandS.WordsExc
import HandS.ExcInit
import HandS.Walk
import HandS.Conv
import HandS.Deep
import HandS.Style
import HandS.Wide
import HandS.IsInst
import HandS.DictComp
import HandS.Lambda
import HandS.TupAny
import HandS.SortInts
import HandS.TryMany
import HandS.TupLe
import HandS.TupMul
import KE.GoesEnum
import HandS.Zip
import KE.KDictPairs
import HandS.WordsDict
import HandS.More
import HandS.SortRule
import HandS.TupLen
import HandS.ExcField
import HandS.EndTab
import KE.KNest
import HandS.RaiseMore
import KE.DataFind
import HandS.Star
import PySem.Challenge.RW_wovenkeep_k06_tables_full_joined_beside

set_option linter.all false
set_option autoImplicit false
/-! WkD: the functional reading of the given program's Python: data, stores, results, one combinator a construct. Plain Lean, no machine in sight. -/
namespace Wk
open PySem (Str)

/-- a value: scalars, tuples as data, everything that can change by its number in the store -/
inductive D where
  | non | bl (b : Bool) | int (i : Int) | str (x : Str) | tup (xs : List D) | frz (xs : List D) | ref (n : Nat)

mutual
def D.eqb : D → D → Bool
  | .non, .non => true
  | .bl a, .bl b => a == b
  | .int a, .int b => a == b
  | .str a, .str b => a == b
  | .tup a, .tup b => D.eqbs a b
  | .frz a, .frz b => D.eqbs a b
  | .ref a, .ref b => a == b
  | _, _ => false
def D.eqbs : List D → List D → Bool
  | [], [] => true
  | a :: as, b :: bs => D.eqb a b && D.eqbs as bs
  | _, _ => false
end
mutual
theorem D.eqb_iff : ∀ a b : D, D.eqb a b = true ↔ a = b
  | .non, b => by cases b <;> simp [D.eqb]
  | .bl a, b => by cases b <;> simp [D.eqb]
  | .int a, b => by cases b <;> simp [D.eqb]
  | .str a, b => by cases b <;> simp [D.eqb]
  | .ref a, b => by cases b <;> simp [D.eqb]
  | .tup a, b => by
    cases b with
    | tup b => simp only [D.eqb, D.tup.injEq]; exact D.eqbs_iff a b
    | _ => simp [D.eqb]
  | .frz a, b => by
    cases b with
    | frz b => simp only [D.eqb, D.frz.injEq]; exact D.eqbs_iff a b
    | _ => simp [D.eqb]
theorem D.eqbs_iff : ∀ a b : List D, D.eqbs a b = true ↔ a = b
  | [], b => by cases b <;> simp [D.eqbs]
  | a :: as, b => by
    cases b with
    | nil => simp [D.eqbs]
    | cons b bs => simp only [D.eqbs, Bool.and_eq_true, List.cons.injEq]; rw [D.eqb_iff a b, D.eqbs_iff as bs]
end
instance : DecidableEq D := fun a b => decidable_of_iff _ (D.eqb_iff a b)

/-- a dict's key: an int or a text -/
abbrev Kk := Sum Int Str
def kD : Kk → D
  | .inl i => .int i
  | .inr x => .str x
def keyD : D → Option Kk
  | .int i => some (.inl i)
  | .str x => some (.inr x)
  | _ => none
def keysD : List D → Option (List Kk)
  | [] => some []
  | d :: ds => match keyD d, keysD ds with
    | some k, some ks => some (k :: ks)
    | _, _ => none

/-- a tuple of ints and texts as a key -/
def keyT : D → Option (List Kk)
  | .tup ds => keysD ds
  | _ => none
/-- what stands in the store -/
inductive Ob where
  | lst (xs : List D)
  | dk (kvs : List (Kk × D))
  | dt (kvs : List (List Kk × D))
  deriving DecidableEq
abbrev Store := List Ob
abbrev Env := List (Option D)

inductive Res (α : Type) where
  | ok (a : α) (S : Store)
  | ex (c : String) (w : D) (S : Store)
  | bad
def Res.bind {α β : Type} (r : Res α) (f : α → Store → Res β) : Res β := match r with
  | .ok a S => f a S
  | .ex c w S => .ex c w S
  | .bad => .bad
@[simp] theorem Res.bind_ok {α β : Type} (a : α) (S : Store) (f : α → Store → Res β) : (Res.ok a S).bind f = f a S := rfl
@[simp] theorem Res.bind_ex {α β : Type} (c : String) (w : D) (S : Store) (f : α → Store → Res β) : (Res.ex c w S).bind f = .ex c w S := rfl
@[simp] theorem Res.bind_bad {α β : Type} (f : α → Store → Res β) : (Res.bad : Res α).bind f = .bad := rfl

inductive Rs where
  | nx (s : Env) (S : Store)
  | rt (d : D) (S : Store)
  | bk (s : Env) (S : Store)
  | ct (s : Env) (S : Store)
  | ex (c : String) (w : D) (s : Env) (S : Store)
  | bad
def ofE {α : Type} (r : Res α) (s : Env) (f : α → Store → Rs) : Rs := match r with
  | .ok a S => f a S
  | .ex c w S => .ex c w s S
  | .bad => .bad
@[simp] theorem ofE_ok {α : Type} (a : α) (S : Store) (s : Env) (f : α → Store → Rs) : ofE (.ok a S) s f = f a S := rfl
@[simp] theorem ofE_ex {α : Type} (c : String) (w : D) (S : Store) (s : Env) (f : α → Store → Rs) : ofE (.ex c w S) s f = .ex c w s S := rfl
@[simp] theorem ofE_bad {α : Type} (s : Env) (f : α → Store → Rs) : ofE .bad s f = .bad := rfl

abbrev FE := Env → Store → Res D
abbrev FT := Env → Store → Res Bool
abbrev FA := Env → Store → Res (List D)
abbrev FS := Env → Store → Rs
/-- a def: arguments, store -/
abbrev Fn := List D → Store → Res D
/-- what two values come to -/
abbrev Op := D → D → Store → Res D

/-! ### expressions -/
def eV (i : Nat) : FE := fun s S => match s[i]? with
  | some (some d) => .ok d S
  | _ => .bad
def eC (d : D) : FE := fun _ S => .ok d S
def eOp (o : Op) (a b : FE) : FE := fun s S => (a s S).bind fun x S1 => (b s S1).bind fun y S2 => o x y S2
def eUn (o : D → Store → Res D) (a : FE) : FE := fun s S => (a s S).bind o
def aNil : FA := fun _ S => .ok [] S
def aCons (a : FE) (r : FA) : FA := fun s S => (a s S).bind fun x S1 => (r s S1).bind fun xs S2 => .ok (x :: xs) S2
/-- the longest list -/
def LIM : Nat := 16777216
def eTup (a : FA) : FE := fun s S => (a s S).bind fun xs S1 => if xs.length ≤ LIM then .ok (.tup xs) S1 else .bad
def eLst (a : FA) : FE := fun s S => (a s S).bind fun xs S1 => if xs.length ≤ LIM then .ok (.ref S1.length) (S1 ++ [.lst xs]) else .bad
def eDictK : FE := fun _ S => .ok (.ref S.length) (S ++ [.dk []])
def eDictT : FE := fun _ S => .ok (.ref S.length) (S ++ [.dt []])
def eCall (F : Fn) (a : FA) : FE := fun s S => (a s S).bind F
/-- a test that is an expression whose value is a truth -/
def tE (a : FE) : FT := fun s S => (a s S).bind fun x S1 => match x with
  | .bl b => .ok b S1
  | _ => .bad
def tAnd (t u : FT) : FT := fun s S => (t s S).bind fun b S1 => if b = true then u s S1 else .ok false S1
def tOr (t u : FT) : FT := fun s S => (t s S).bind fun b S1 => if b = true then .ok true S1 else u s S1
def tNot (t : FT) : FT := fun s S => (t s S).bind fun b S1 => .ok (!b) S1
def eNot (a : FE) : FE := fun s S => (tE a s S).bind fun b S1 => .ok (.bl (!b)) S1
def eAnd (a b : FE) : FE := fun s S => (tE a s S).bind fun c S1 => if c = true then b s S1 else .ok (.bl false) S1
def eOr (a b : FE) : FE := fun s S => (tE a s S).bind fun c S1 => if c = true then .ok (.bl true) S1 else b s S1
def eIf (t : FT) (a b : FE) : FE := fun s S => (t s S).bind fun c S1 => if c = true then a s S1 else b s S1
/-- a op b op' c -/
def eChain (o o' : Op) (a b c : FE) : FE := fun s S => (a s S).bind fun x S1 => (b s S1).bind fun y S2 => (o x y S2).bind fun z S3 => match z with
  | .bl true => (c s S3).bind fun w S4 => o' y w S4
  | .bl false => .ok (.bl false) S3
  | _ => .bad

/-! ### targets -/
inductive Tg where
  | nm (i : Nat) | tp (ts : List Tg)
mutual
def gF : Tg → D → Env → Option Env
  | .nm i, d, s => some (s.set i (some d))
  | .tp ts, .tup ds, s => gFs ts ds s
  | .tp _, _, _ => none
def gFs : List Tg → List D → Env → Option Env
  | [], [], s => some s
  | t :: ts, d :: ds, s => match gF t d s with
    | some s' => gFs ts ds s'
    | none => none
  | _, _, _ => none
end

/-! ### what is walked: the items, and what has to stay as it is meanwhile -/
abbrev Chk := List (Nat × Ob)
def okC (c : Chk) (S : Store) : Bool := c.all fun p => decide (S[p.1]? = some p.2)
structure Its where
  items : List D
  chk : Chk
abbrev FI := Env → Store → Res Its
@[simp] theorem okC_nil (S : Store) : okC [] S = true := rfl

/-! ### comprehensions -/
def wipeE (s : Env) : List Nat → Env
  | [] => s
  | v :: vs => (wipeE s vs).set v none
/-- the elements, one behind the other; sw: the slots with the block's own forgotten -/
def compL (c : Chk) (g : Tg) (t : FT) (e : FE) (sw : Env) : List D → Store → Res (List D)
  | [], S => if okC c S then .ok [] S else .bad
  | d :: ds, S => if okC c S then (match gF g d sw with
    | none => .bad
    | some s1 => (t s1 S).bind fun b S1 => if b = true then (e s1 S1).bind fun y S2 => (compL c g t e sw ds S2).bind fun ys S3 => .ok (y :: ys) S3 else compL c g t e sw ds S1) else .bad
def noEx {α : Type} : Res α → Res α
  | .ok a S => .ok a S
  | _ => .bad
@[simp] theorem noEx_ok {α : Type} (a : α) (S : Store) : noEx (.ok a S) = .ok a S := rfl
def eComp (it : FI) (g : Tg) (t : FT) (e : FE) (vs : List Nat) : FE := fun s S => (it s S).bind fun I S1 =>
  (noEx (compL I.chk g t e (wipeE s vs) I.items S1)).bind fun ys S2 => .ok (.ref S2.length) (S2 ++ [.lst ys])
def tTrue : FT := fun _ S => .ok true S
/-- the entries of a dict comprehension, one behind the other -/
def compD (c : Chk) (g : Tg) (t : FT) (k e : FE) (sw : Env) : List D → Store → Res (List (Kk × D))
  | [], S => if okC c S then .ok [] S else .bad
  | d :: ds, S => if okC c S then (match gF g d sw with
    | none => .bad
    | some s1 => (t s1 S).bind fun b S1 => if b = true then (k s1 S1).bind fun x S2 => (e s1 S2).bind fun y S3 => match keyD x with
      | some kk => (compD c g t k e sw ds S3).bind fun ys S4 => .ok ((kk, y) :: ys) S4
      | none => .bad else compD c g t k e sw ds S1) else .bad

/-! ### dicts -/
def valD {κ : Type} [DecidableEq κ] (kvs : List (κ × D)) (k : κ) : Option D := (kvs.find? fun kv => decide (kv.1 = k)).map (·.2)
def putD {κ : Type} [DecidableEq κ] (kvs : List (κ × D)) (k : κ) (v : D) : List (κ × D) :=
  if (kvs.any fun kv => decide (kv.1 = k)) = true then kvs.map fun kv => if kv.1 = k then (kv.1, v) else kv else kvs ++ [(k, v)]
def mergeD {κ : Type} [DecidableEq κ] (kvs more : List (κ × D)) : List (κ × D) := more.foldl (fun acc kv => putD acc kv.1 kv.2) kvs
def eDComp (it : FI) (g : Tg) (t : FT) (k e : FE) (vs : List Nat) : FE := fun s S => (it s S).bind fun I S1 =>
  (noEx (compD I.chk g t k e (wipeE s vs) I.items S1)).bind fun ys S2 => .ok (.ref S2.length) (S2 ++ [.dk (mergeD [] ys)])

/-- the entries of a dict comprehension whose keys are tuples -/
def compT (c : Chk) (g : Tg) (t : FT) (k e : FE) (sw : Env) : List D → Store → Res (List (List Kk × D))
  | [], S => if okC c S then .ok [] S else .bad
  | d :: ds, S => if okC c S then (match gF g d sw with
    | none => .bad
    | some s1 => (t s1 S).bind fun b S1 => if b = true then (k s1 S1).bind fun x S2 => (e s1 S2).bind fun y S3 => match keyT x with
      | some kk => (compT c g t k e sw ds S3).bind fun ys S4 => .ok ((kk, y) :: ys) S4
      | none => .bad else compT c g t k e sw ds S1) else .bad
def eTComp (it : FI) (g : Tg) (t : FT) (k e : FE) (vs : List Nat) : FE := fun s S => (it s S).bind fun I S1 =>
  (noEx (compT I.chk g t k e (wipeE s vs) I.items S1)).bind fun ys S2 => .ok (.ref S2.length) (S2 ++ [.dt (mergeD [] ys)])
def orG (r q : Res D) : Res D := match r with
  | .bad => q
  | .ok d S => .ok d S
  | .ex c w S => .ex c w S
/-- keys ints, texts; else tuples of these -/
def eDCompA (it : FI) (g : Tg) (t : FT) (k e : FE) (vs : List Nat) : FE := fun s S => orG (eDComp it g t k e vs s S) (eTComp it g t k e vs s S)

/-! ### statements -/
def sSkip : FS := fun s S => .nx s S
def sSeq (f g : FS) : FS := fun s S => match f s S with
  | .nx s' S' => g s' S'
  | r => r
def sSet (i : Nat) (e : FE) : FS := fun s S => ofE (e s S) s fun d S1 => .nx (s.set i (some d)) S1
def sAsg (g : Tg) (e : FE) : FS := fun s S => ofE (e s S) s fun d S1 => match gF g d s with
  | some s' => .nx s' S1
  | none => .bad
def sPar (i j : Nat) (a b : FE) : FS := fun s S => ofE (a s S) s fun x S1 => ofE (b s S1) s fun y S2 => .nx ((s.set i (some x)).set j (some y)) S2
def sPar3 (i j k : Nat) (a b c : FE) : FS := fun s S => ofE (a s S) s fun x S1 => ofE (b s S1) s fun y S2 => ofE (c s S2) s fun z S3 => .nx (((s.set i (some x)).set j (some y)).set k (some z)) S3
def sExpr (e : FE) : FS := fun s S => ofE (e s S) s fun _ S1 => .nx s S1
def sRet (e : FE) : FS := fun s S => ofE (e s S) s fun d S1 => .rt d S1
def sRetN : FS := fun _ S => .rt .non S
def sIf (t : FT) (f g : FS) : FS := fun s S => ofE (t s S) s fun b S1 => if b = true then f s S1 else g s S1
def sBreak : FS := fun s S => .bk s S
def sCont : FS := fun s S => .ct s S
def sRaise (c : String) (e : FE) : FS := fun s S => ofE (e s S) s fun d S1 => .ex c d s S1
/-- o[i] = v -/
abbrev Up := D → D → D → Store → Option Store
def sSub (u : Up) (o i v : FE) : FS := fun s S => ofE (v s S) s fun x S1 => ofE (o s S1) s fun y S2 => ofE (i s S2) s fun z S3 => match u y z x S3 with
  | some S4 => .nx s S4
  | none => .bad
def whileL (t : FT) (b : FS) : Nat → FS
  | 0, _, _ => .bad
  | n + 1, s, S => ofE (t s S) s fun c S1 => if c = true then (match b s S1 with
    | .nx s2 S2 => whileL t b n s2 S2
    | .ct s2 S2 => whileL t b n s2 S2
    | .bk s2 S2 => .nx s2 S2
    | r => r) else .nx s S1
/-- the fuel of a while -/
def FUEL : Nat := 1000000000
def sWhile (t : FT) (b : FS) : FS := whileL t b FUEL
def forL (c : Chk) (g : Tg) (b : FS) : List D → FS
  | [], s, S => if okC c S then .nx s S else .bad
  | d :: ds, s, S => if okC c S then (match gF g d s with
    | none => .bad
    | some s1 => match b s1 S with
      | .nx s2 S2 => forL c g b ds s2 S2
      | .ct s2 S2 => forL c g b ds s2 S2
      | .bk s2 S2 => .nx s2 S2
      | r => r) else .bad
def sFor (it : FI) (g : Tg) (b : FS) : FS := fun s S => ofE (it s S) s fun I S1 => forL I.chk g b I.items s S1

/-! ### defs -/
def startE (n : Nat) (ds : List D) : Env := ds.map some ++ List.replicate (n - ds.length) none
/-- a def of k parameters and n names -/
def mkF (k n : Nat) (b : FS) : Fn := fun ds S => if ds.length = k then (match b (startE n ds) S with
  | .nx _ S' => .ok .non S'
  | .rt d S' => .ok d S'
  | .ex c w _ S' => .ex c w S'
  | _ => .bad) else .bad

/-! ### operations -/
def oAdd : Op := fun x y S => match x, y with
  | .int i, .int j => .ok (.int (i + j)) S
  | .str a, .str b => if a.length + b.length ≤ LIM then .ok (.str (a ++ b)) S else .bad
  | .tup a, .tup b => if a.length + b.length ≤ LIM then .ok (.tup (a ++ b)) S else .bad
  | .ref l, .ref m => match S[l]?, S[m]? with
    | some (.lst a), some (.lst b) => if a.length + b.length ≤ LIM then .ok (.ref S.length) (S ++ [.lst (a ++ b)]) else .bad
    | _, _ => .bad
  | _, _ => .bad
def oSub : Op := fun x y S => match x, y with
  | .int i, .int j => .ok (.int (i - j)) S
  | _, _ => .bad
/-- factors below 2 ^ 400000 -/
def bigOk (i : Int) : Bool := decide (i.natAbs.log2 < 400000)
def oMul : Op := fun x y S => match x, y with
  | .int i, .int j => if bigOk i && bigOk j then .ok (.int (i * j)) S else .bad
  | .ref l, .int k => match S[l]? with
    | some (.lst a) => if 0 ≤ k ∧ k ≤ 1000000 ∧ a.length * k.toNat ≤ LIM then .ok (.ref S.length) (S ++ [.lst (List.replicate k.toNat a).flatten]) else .bad
    | _ => .bad
  | .tup a, .int k => if a.length ≠ 0 ∧ a.length ≤ 1000 ∧ 2 ≤ k ∧ k ≤ 1000 then .ok (.tup (List.replicate k.toNat a).flatten) S else .bad
  | _, _ => .bad
def oFdiv : Op := fun x y S => match x, y with
  | .int i, .int j => if 0 < j ∧ j.natAbs.log2 < 9000 then .ok (.int (i / j)) S else .bad
  | _, _ => .bad
def oMod : Op := fun x y S => match x, y with
  | .int i, .int j => if 0 < j then .ok (.int (i % j)) S else .bad
  | _, _ => .bad
def oPow : Op := fun x y S => match x, y with
  | .int i, .int j => if 0 ≤ j ∧ j ≤ 1000000 ∧ i.natAbs < 2 ^ 64 then .ok (.int (i ^ j.toNat)) S else .bad
  | _, _ => .bad
def oCmp (p : Int → Int → Bool) : Op := fun x y S => match x, y with
  | .int i, .int j => .ok (.bl (p i j)) S
  | _, _ => .bad
def oLt : Op := oCmp fun i j => decide (i < j)
def intsD : List D → Option (List Int)
  | [] => some []
  | .int i :: ds => match intsD ds with
    | some is => some (i :: is)
    | none => none
  | _ => none
/-- two rows side by side: e where they are alike, r at the first place where they aren't, z where one is the other's head -/
def lexA (e r : Nat → Bool) (z : Bool) : Nat → Nat → Bool
  | _, 0 => z
  | i, n + 1 => if e i = true then lexA e r z (i + 1) n else r i
def lexLe (ns ms : List Int) : Bool := lexA (fun j => decide (ns.getD j 0 = ms.getD j 0)) (fun j => decide (ns.getD j 0 ≤ ms.getD j 0)) (decide (ns.length ≤ ms.length)) 0 (min ns.length ms.length)
def oLe : Op := fun x y S => match x, y with
  | .int i, .int j => .ok (.bl (decide (i ≤ j))) S
  | .tup a, .tup b => match intsD a, intsD b with
    | some ns, some ms => .ok (.bl (lexLe ns ms)) S
    | _, _ => .bad
  | _, _ => .bad
def oGt : Op := oCmp fun i j => decide (j < i)
def oGe : Op := oCmp fun i j => decide (j ≤ i)
def uNeg : D → Store → Res D := fun x S => match x with
  | .int i => .ok (.int (-i)) S
  | _ => .bad
def isNon : D → Bool
  | .non => true
  | _ => false
def oIsN : Op := fun x y S => match y with
  | .non => .ok (.bl (isNon x)) S
  | _ => .bad
def oNotN : Op := fun x y S => match y with
  | .non => .ok (.bl (!isNon x)) S
  | _ => .bad
def oIsB : Op := fun x y S => match x, y with
  | .bl a, .bl b => .ok (.bl (decide (a = b))) S
  | _, _ => .bad
/-- data as == sees it -/
inductive P where
  | non | bl (b : Bool) | int (i : Int) | str (x : Str) | lst (xs : List P) | tup (xs : List P)
mutual
def P.eqv : P → P → Bool
  | .non, .non => true
  | .bl a, .bl b => a == b
  | .bl a, .int j => (if a then 1 else 0) == j
  | .int i, .bl b => i == (if b then 1 else 0)
  | .int i, .int j => i == j
  | .str x, .str y => x == y
  | .lst xs, .lst ys => P.eqvs xs ys
  | .tup xs, .tup ys => P.eqvs xs ys
  | _, _ => false
def P.eqvs : List P → List P → Bool
  | [], [] => true
  | x :: xs, y :: ys => P.eqv x y && P.eqvs xs ys
  | _, _ => false
end
/-- the data of a value, lists by the store, to a depth -/
def toP (S : Store) : Nat → D → Option P
  | _, .non => some .non
  | _, .bl b => some (.bl b)
  | _, .int i => some (.int i)
  | _, .str x => if x.cps.all (· < 0x110000) then some (.str x) else none
  | 0, _ => none
  | n + 1, .tup ds => match ds.mapM (toP S n) with
    | some ps => some (.tup ps)
    | none => none
  | n + 1, .frz ds => match ds.mapM (toP S n) with
    | some ps => some (.lst ps)
    | none => none
  | n + 1, .ref l => match S[l]? with
    | some (.lst ds) => match ds.mapM (toP S n) with
      | some ps => some (.lst ps)
      | none => none
    | _ => none
def oEqG : Op := fun x y S => match toP S 60 x, toP S 60 y with
  | some p, some q => .ok (.bl (P.eqv p q)) S
  | _, _ => .bad
def oEq : Op := fun x y S => match x, y with
  | .int i, .int j => .ok (.bl (i == j)) S
  | .str a, .str b => .ok (.bl (a == b)) S
  | .bl a, .bl b => .ok (.bl (a == b)) S
  | .non, .non => .ok (.bl true) S
  | .int _, .str _ => .ok (.bl false) S
  | .str _, .int _ => .ok (.bl false) S
  | .non, .int _ => .ok (.bl false) S
  | .int _, .non => .ok (.bl false) S
  | .non, .str _ => .ok (.bl false) S
  | .str _, .non => .ok (.bl false) S
  | .non, .bl _ => .ok (.bl false) S
  | .bl _, .non => .ok (.bl false) S
  | .bl _, .str _ => .ok (.bl false) S
  | .str _, .bl _ => .ok (.bl false) S
  | x, y => oEqG x y S
def notR (r : Res D) : Res D := r.bind fun x S => match x with
  | .bl b => .ok (.bl (!b)) S
  | _ => .bad
def oNe : Op := fun x y S => notR (oEq x y S)
/-- flat values and their == -/
def flatD : D → Bool
  | .non => true
  | .bl _ => true
  | .int _ => true
  | .str _ => true
  | _ => false
def eqF : D → D → Bool
  | .non, .non => true
  | .bl a, .bl b => a == b
  | .bl a, .int b => (if a then 1 else 0) == b
  | .int a, .bl b => a == (if b then 1 else 0)
  | .int a, .int b => a == b
  | .str a, .str b => a == b
  | _, _ => false
def inF (x : D) (xs : List D) : Bool := xs.any fun y => eqF y x
/-- what a dict has for a key -/
def getD (S : Store) (l : Nat) (x : D) : Option (Option D) := match S[l]? with
  | some (.dk kvs) => match keyD x with
    | some k => some (valD kvs k)
    | none => none
  | some (.dt kvs) => match keyT x with
    | some k => some (valD kvs k)
    | none => none
  | _ => none
def oInL (xs : List D) (x : D) (S : Store) : Res D := if flatD x && xs.all flatD then .ok (.bl (inF x xs)) S else .bad
/-- x in a list or a tuple of data -/
def oInG : Op := fun x y S => match toP S 60 x, toP S 60 y with
  | some p, some (.lst qs) => .ok (.bl (qs.any fun q => P.eqv q p)) S
  | some p, some (.tup qs) => .ok (.bl (qs.any fun q => P.eqv q p)) S
  | _, _ => .bad
/-- x in a list or a tuple -/
def oInS : Op := fun x y S => match y with
  | .tup xs => orG (oInL xs x S) (oInG x y S)
  | .ref l => match S[l]? with
    | some (.lst xs) => orG (oInL xs x S) (oInG x y S)
    | _ => .bad
  | _ => .bad
/-- x in a dict -/
def oInD : Op := fun x y S => match y with
  | .ref l => match getD S l x with
    | some o => .ok (.bl o.isSome) S
    | none => .bad
  | _ => .bad
def oNinS : Op := fun x y S => notR (oInS x y S)
def oNinD : Op := fun x y S => notR (oInD x y S)
def ixN (n : Nat) (i : Int) : Option Nat := if 0 ≤ i then (if i < n then some i.toNat else none) else if -(n : Int) ≤ i then some (i + n).toNat else none
def atI {α : Type} (xs : List α) (i : Int) : Option α := (ixN xs.length i).bind fun j => xs[j]?
/-- xs[i] of a tuple or a list -/
def oIx : Op := fun x y S => match y with
  | .int i => match x with
    | .tup ds => match atI ds i with
      | some d => .ok d S
      | none => .bad
    | .frz ds => match atI ds i with
      | some d => .ok d S
      | none => .bad
    | .ref l => match S[l]? with
      | some (.lst ds) => match atI ds i with
        | some d => .ok d S
        | none => .bad
      | _ => .bad
    | _ => .bad
  | _ => .bad
/-- d[k] of a dict -/
def oIxD : Op := fun x y S => match x with
  | .ref l => match getD S l y with
    | some (some d) => .ok d S
    | _ => .bad
  | _ => .bad
def uSetL : Up := fun o i v S => match o, i with
  | .ref l, .int k => match S[l]? with
    | some (.lst ds) => match ixN ds.length k with
      | some j => some (S.set l (.lst (ds.set j v)))
      | none => none
    | _ => none
  | _, _ => none
def uSetD : Up := fun o i v S => match o with
  | .ref l => match S[l]? with
    | some (.dk kvs) => match keyD i with
      | some k => if kvs.length < LIM then some (S.set l (.dk (putD kvs k v))) else none
      | none => none
    | some (.dt kvs) => match keyT i with
      | some k => if kvs.length < LIM then some (S.set l (.dt (putD kvs k v))) else none
      | none => none
    | _ => none
  | _ => none

/-! ### built-ins -/
/-- the type's name of a value -/
def tyD (S : Store) : D → Option String
  | .non => some "NoneType"
  | .bl _ => some "bool"
  | .int _ => some "int"
  | .str _ => some "str"
  | .tup _ => some "tuple"
  | .frz _ => some "list"
  | .ref l => match S[l]? with
    | some (.lst _) => some "list"
    | some (.dk _) => some "dict"
    | some (.dt _) => some "dict"
    | none => none
/-- a type's name and what isinstance says of int, bool, tuple, list, str, dict -/
def isTy (t n : String) : Bool := t == n || (t == "bool" && n == "int")
def fIsInst (n : String) : D → Store → Res D := fun x S => match tyD S x with
  | some t => .ok (.bl (isTy t n)) S
  | none => .bad
def seqD (S : Store) : D → Option (List D)
  | .tup ds => some ds
  | .frz ds => some ds
  | .ref l => match S[l]? with
    | some (.lst ds) => some ds
    | _ => none
  | _ => none
def fLen : D → Store → Res D := fun x S => match x with
  | .str a => if a.length ≤ LIM then .ok (.int a.length) S else .bad
  | .ref l => match S[l]? with
    | some (.dk kvs) => .ok (.int kvs.length) S
    | some (.dt kvs) => .ok (.int kvs.length) S
    | _ => match seqD S x with
      | some ds => .ok (.int ds.length) S
      | none => .bad
  | _ => match seqD S x with
    | some ds => .ok (.int ds.length) S
    | none => .bad
def fList : D → Store → Res D := fun x S => match seqD S x with
  | some ds => .ok (.ref S.length) (S ++ [.lst ds])
  | none => .bad
def fTuple : D → Store → Res D := fun x S => match seqD S x with
  | some ds => .ok (.tup ds) S
  | none => .bad
def rngD (a b : Int) : List D := (List.range (b - a).toNat).map fun i => .int (a + (i : Nat))
def rgOk (a b : Int) : Bool := decide (-(2 ^ 62) ≤ a ∧ a < 2 ^ 62 ∧ -(2 ^ 62) ≤ b ∧ b < 2 ^ 62 ∧ (b - a).toNat ≤ LIM)
def oListRg : Op := fun x y S => match x, y with
  | .int a, .int b => if rgOk a b then .ok (.ref S.length) (S ++ [.lst (rngD a b)]) else .bad
  | _, _ => .bad
def oMax : Op := fun x y S => match x, y with
  | .int i, .int j => .ok (.int (if j > i then j else i)) S
  | _, _ => .bad
def oMin : Op := fun x y S => match x, y with
  | .int i, .int j => .ok (.int (if j < i then j else i)) S
  | _, _ => .bad
def insI (a : Int) : List Int → List Int
  | [] => [a]
  | b :: bs => if a ≤ b then a :: b :: bs else b :: insI a bs
def sortI : List Int → List Int
  | [] => []
  | a :: as => insI a (sortI as)
/-- pairs of ints -/
def prD (p : Int × Int) : D := .tup [.int p.1, .int p.2]
def prsD : List D → Option (List (Int × Int))
  | [] => some []
  | .tup [.int a, .int b] :: ds => match prsD ds with
    | some ps => some ((a, b) :: ps)
    | none => none
  | _ => none
def ltPr (p q : Int × Int) : Bool := if p.1 = q.1 then decide (p.2 < q.2) else decide (p.1 < q.1)
def insP (a : Int × Int) : List (Int × Int) → List (Int × Int)
  | [] => [a]
  | b :: bs => if ltPr b a = true then b :: insP a bs else a :: b :: bs
def sortP : List (Int × Int) → List (Int × Int)
  | [] => []
  | a :: as => insP a (sortP as)
def fSorted : D → Store → Res D := fun x S => match x with
  | .tup ds => match intsD ds with
    | some is => .ok (.ref S.length) (S ++ [.lst ((sortI is).map D.int)])
    | none => .bad
  | .ref l => match S[l]? with
    | some (.lst ds) => match intsD ds with
      | some is => .ok (.ref S.length) (S ++ [.lst ((sortI is).map D.int)])
      | none => match prsD ds with
        | some ps => .ok (.ref S.length) (S ++ [.lst ((sortP ps).map prD)])
        | none => .bad
    | some (.dk kvs) => match intsD (kvs.map fun kv => kD kv.1) with
      | some is => if is.length ≤ LIM then .ok (.ref S.length) (S ++ [.lst ((sortI is).map D.int)]) else .bad
      | none => .bad
    | some (.dt kvs) => match prsD (kvs.map fun kv => .tup (kv.1.map kD)) with
      | some ps => if ps.length ≤ LIM then .ok (.ref S.length) (S ++ [.lst ((sortP ps).map prD)]) else .bad
      | none => .bad
    | _ => .bad
  | _ => .bad
def minI : List Int → Option Int
  | [] => none
  | [a] => some a
  | a :: as => match minI as with
    | some m => some (if m < a then m else a)
    | none => some a
def fMin : D → Store → Res D := fun x S => match x with
  | .ref l => match S[l]? with
    | some (.lst ds) => match intsD ds with
      | some is => match minI is with
        | some m => .ok (.int m) S
        | none => .bad
      | none => .bad
    | _ => .bad
  | _ => .bad
/-- dict(a list of pairs) -/
def pairsD : List D → Option (List (Kk × D))
  | [] => some []
  | .tup [k, v] :: ds => match keyD k, pairsD ds with
    | some k', some r => some ((k', v) :: r)
    | _, _ => none
  | _ => none
def pairsT : List D → Option (List (List Kk × D))
  | [] => some []
  | .tup [k, v] :: ds => match keyT k, pairsT ds with
    | some k', some r => some ((k', v) :: r)
    | _, _ => none
  | _ => none
def fDict : D → Store → Res D := fun x S => match x with
  | .ref l => match S[l]? with
    | some (.lst ds) => match pairsD ds with
      | some r => .ok (.ref S.length) (S ++ [.dk (mergeD [] r)])
      | none => match pairsT ds with
        | some r => .ok (.ref S.length) (S ++ [.dt (mergeD [] r)])
        | none => .bad
    | _ => .bad
  | _ => .bad
def fBool : D → Store → Res D := fun x S => match x with
  | .int i => .ok (.bl (i != 0)) S
  | .bl b => .ok (.bl b) S
  | _ => .bad
def fRev : D → Store → Res D := fun x S => match x with
  | .ref l => match S[l]? with
    | some (.lst ds) => .ok (.ref S.length) (S ++ [.lst ds.reverse])
    | _ => .bad
  | .tup ds => .ok (.tup ds.reverse) S
  | _ => .bad

def fListRg : D → Store → Res D := fun x S => match x with
  | .int b => if -(2 ^ 62) ≤ b ∧ b ≤ 16777216 then .ok (.ref S.length) (S ++ [.lst (rngD 0 b)]) else .bad
  | _ => .bad
/-- a list is there -/
def isLst (x : D) (S : Store) : Bool := match x with
  | .frz _ => true
  | .ref l => match S[l]? with
    | some (.lst _) => true
    | _ => false
  | _ => false
def isDk (x : D) (S : Store) : Bool := match x with
  | .ref l => match S[l]? with
    | some (.dk _) => true
    | _ => false
  | _ => false
/-- xs.m(e) of a list -/
def eBM (o : Op) (a b : FE) : FE := fun s S => (a s S).bind fun x S1 => if isLst x S1 then (b s S1).bind fun y S2 => o x y S2 else .bad

/-! ### methods of lists and dicts -/
def oAppend : Op := fun x y S => match x with
  | .ref l => match S[l]? with
    | some (.lst ds) => if ds.length < LIM then .ok .non (S.set l (.lst (ds ++ [y]))) else .bad
    | _ => .bad
  | _ => .bad
def oExtend : Op := fun x y S => match x, y with
  | .ref l, .ref m => match S[l]?, S[m]? with
    | some (.lst ds), some (.lst es) => if ds.length + es.length ≤ LIM then .ok .non (S.set l (.lst (ds ++ es))) else .bad
    | _, _ => .bad
  | _, _ => .bad
def uPop : D → Store → Res D := fun x S => match x with
  | .ref l => match S[l]? with
    | some (.lst ds) => match ds[ds.length - 1]? with
      | some d => .ok d (S.set l (.lst ds.dropLast))
      | none => .bad
    | _ => .bad
  | _ => .bad
def oPopAt : Op := fun x y S => match x, y with
  | .ref l, .int i => match S[l]? with
    | some (.lst ds) => match ixN ds.length i with
      | some j => match ds[j]? with
        | some d => .ok d (S.set l (.lst (ds.eraseIdx j)))
        | none => .bad
      | none => .bad
    | _ => .bad
  | _, _ => .bad
/-- d.get(k, x) -/
def eGet2 (d k x : FE) : FE := fun s S => (d s S).bind fun l S1 => if isDk l S1 then (k s S1).bind fun y S2 => (x s S2).bind fun z S3 => match l with
  | .ref n => match getD S3 n y with
    | some o => .ok (o.getD z) S3
    | none => .bad
  | _ => .bad else .bad

/-- where x stands in a list of data -/
def idxD (S : Store) (x : D) (l : Nat) : Option Nat := match toP S 60 x, toP S 60 (.ref l) with
  | some p, some (.lst qs) => qs.findIdx? fun q => P.eqv q p
  | _, _ => none
def oIndex : Op := fun x y S => match x with
  | .ref l => match idxD S y l with
    | some j => .ok (.int (j : Nat)) S
    | none => .bad
  | _ => .bad
def oRemove : Op := fun x y S => match x with
  | .ref l => match S[l]? with
    | some (.lst ds) => match idxD S y l with
      | some j => .ok .non (S.set l (.lst (ds.eraseIdx j)))
      | none => .bad
    | _ => .bad
  | _ => .bad
/-- truths in a row -/
def blsD : List D → Option (List Bool)
  | [] => some []
  | .bl b :: ds => match blsD ds with
    | some bs => some (b :: bs)
    | none => none
  | _ => none
def fAllBy (f : List Bool → Bool) : D → Store → Res D := fun x S => match x with
  | .ref l => match S[l]? with
    | some (.lst ds) => match blsD ds with
      | some bs => .ok (.bl (f bs)) S
      | none => .bad
    | _ => .bad
  | _ => .bad
def fAll : D → Store → Res D := fAllBy fun bs => bs.all id
def fAny : D → Store → Res D := fAllBy fun bs => bs.any id
/-- *e, .. -/
def aStar (a : FE) (r : FA) : FA := fun s S => (a s S).bind fun x S1 => match seqD S1 x with
  | some xs => (r s S1).bind fun ys S2 => .ok (xs ++ ys) S2
  | none => .bad

/-! ### what is walked -/
def iSeq (e : FE) : FI := fun s S => (e s S).bind fun x S1 => match x with
  | .tup ds => .ok ⟨ds, []⟩ S1
  | .frz ds => .ok ⟨ds, []⟩ S1
  | .ref l => match S1[l]? with
    | some (.lst ds) => .ok ⟨ds, [(l, .lst ds)]⟩ S1
    | _ => .bad
  | _ => .bad
def iRng (e : FE) : FI := fun s S => (e s S).bind fun x S1 => match x with
  | .int j => if -(2 ^ 62) ≤ j ∧ j ≤ 16777216 then .ok ⟨rngD 0 j, []⟩ S1 else .bad
  | _ => .bad
def iRng2 (e f : FE) : FI := fun s S => (e s S).bind fun x S1 => (f s S1).bind fun y S2 => match x, y with
  | .int i, .int j => if -1000000 ≤ i ∧ i < 2 ^ 62 ∧ -(2 ^ 62) ≤ j ∧ j ≤ 1000000 then .ok ⟨rngD i j, []⟩ S2 else .bad
  | _, _ => .bad
def enumD (ds : List D) : List D := ds.mapIdx fun i d => .tup [.int i, d]
def iEnum (e : FE) : FI := fun s S => (e s S).bind fun x S1 => match x with
  | .tup ds => .ok ⟨enumD ds, []⟩ S1
  | .ref l => match S1[l]? with
    | some (.lst ds) => .ok ⟨enumD ds, [(l, .lst ds)]⟩ S1
    | _ => .bad
  | _ => .bad

/-- zip of two lists or of two tuples -/
def zipD : List D → List D → List D
  | a :: as, b :: bs => .tup [a, b] :: zipD as bs
  | _, _ => []
def iZip (e f : FE) : FI := fun s S => (e s S).bind fun x S1 => (f s S1).bind fun y S2 => match x, y with
  | .tup as, .tup bs => .ok ⟨zipD as bs, []⟩ S2
  | .ref l, .ref m => match S2[l]?, S2[m]? with
    | some (.lst as), some (.lst bs) => .ok ⟨zipD as bs, [(l, .lst as), (m, .lst bs)]⟩ S2
    | _, _ => .bad
  | _, _ => .bad
/-- sum of a list of ints -/
def fSum : D → Store → Res D := fun x S => match x with
  | .ref l => match S[l]? with
    | some (.lst ds) => match intsD ds with
      | some is => .ok (.int is.sum) S
      | none => .bad
    | _ => .bad
  | _ => .bad
/-- tuple(range(n)) -/
def fTupRg : D → Store → Res D := fun x S => match x with
  | .int b => if -(2 ^ 62) ≤ b ∧ b ≤ 16777216 then .ok (.tup (rngD 0 b)) S else .bad
  | _ => .bad

/-! ### a thing heard: try: return ("told", deed()) except X as r: return ("X", r.what) .. -/
def heardR (cs : List String) (r : Res D) : Res D := match r with
  | .ok d S => .ok (.tup [.str "told", d]) S
  | .ex c w S => if cs.contains c then .ok (.tup [.str (Str.ofString c), w]) S else .bad
  | .bad => .bad
def eHeard (cs : List String) (f : FE) : FE := fun s S => heardR cs (f s S)
def eBad : FE := fun _ _ => .bad
def tBad : FT := fun _ _ => .bad
def sBad : FS := fun _ _ => .bad
def fRevL : D → Store → Res D := fun x S => match x with
  | .ref l => match S[l]? with
    | some (.lst ds) => .ok (.ref S.length) (S ++ [.lst ds.reverse])
    | _ => .bad
  | _ => .bad
/-! ### slices -/
/-- a slice's part, of a sequence of n: d where it is left out -/
def slIx (n d : Nat) : Option Int → Nat
  | none => d
  | some v => if 0 ≤ v then min v.toNat n else (v + n).toNat
def cutD (xs : List D) (lo hi : Option Int) : List D := (xs.drop (slIx xs.length 0 lo)).take (slIx xs.length xs.length hi - slIx xs.length 0 lo)
abbrev FO := Env → Store → Res (Option Int)
def oNone : FO := fun _ S => .ok none S
def oSome (f : FE) : FO := fun s S => (f s S).bind fun x S1 => match x with
  | .int i => .ok (some i) S1
  | _ => .bad
def slD (x : D) (lo hi : Option Int) (S : Store) : Res D := match x with
  | .tup ds => .ok (.tup (cutD ds lo hi)) S
  | .ref l => match S[l]? with
    | some (.lst ds) => .ok (.ref S.length) (S ++ [.lst (cutD ds lo hi)])
    | _ => .bad
  | _ => .bad
def eSlice (a : FE) (lo hi : FO) : FE := fun s S => (a s S).bind fun x S1 => (lo s S1).bind fun l S2 => (hi s S2).bind fun u S3 => slD x l u S3
/-- xs[::-1] of a list or a tuple -/
def fRevA : D → Store → Res D := fun x S => match x with
  | .tup ds => .ok (.tup ds.reverse) S
  | _ => fRevL x S
def oNotB : Op := fun x y S => match x, y with
  | .bl a, .bl b => .ok (.bl (!decide (a = b))) S
  | _, _ => .bad
/-- str(i) -/
def fStrI : D → Store → Res D := fun x S => match x with
  | .int i => if i.natAbs.log2 < 1920 then .ok (.str (Str.ofString (toString i))) S else .bad
  | .str a => .ok (.str a) S
  | _ => .bad
end Wk


set_option Elab.async false
set_option linter.all false
set_option maxRecDepth 100000
set_option maxHeartbeats 4000000
set_option autoImplicit false
/-! WkRel: how the functional reading stands to the machine's abstract heap, and what it is for a piece of syntax to have a functional reading. -/
namespace Wk
open PySem PySem.Spec PyProof.Rows L2

theorem lim_eq : LIM = sizeLine := by rw [sizeLine_eq]; rfl

/-! ### lists in pairs -/
section
variable {α β : Type} {R : α → β → Prop}
theorem Paired.get1 : ∀ {xs : List α} {ys : List β} {i : Nat} {x : α}, Paired R xs ys → xs[i]? = some x → ∃ y, ys[i]? = some y ∧ R x y
  | _, _, _, _, .nil, e => by simp at e
  | _, _, 0, _, .cons r _, e => by simp at e; subst e; exact ⟨_, rfl, r⟩
  | _, _, i + 1, x, .cons _ t, e => by
    obtain ⟨u, h1, h2⟩ := Paired.get1 (i := i) (x := x) t (by simpa using e)
    exact ⟨u, by simpa using h1, h2⟩
theorem Paired.get2 : ∀ {xs : List α} {ys : List β} {i : Nat} {y : β}, Paired R xs ys → ys[i]? = some y → ∃ x, xs[i]? = some x ∧ R x y
  | _, _, _, _, .nil, e => by simp at e
  | _, _, 0, _, .cons r _, e => by simp at e; subst e; exact ⟨_, rfl, r⟩
  | _, _, i + 1, x, .cons _ t, e => by
    obtain ⟨u, h1, h2⟩ := Paired.get2 (i := i) (y := x) t (by simpa using e)
    exact ⟨u, by simpa using h1, h2⟩
theorem Paired.set1 {x : α} {y : β} (r : R x y) : ∀ {xs : List α} {ys : List β} (i : Nat), Paired R xs ys → Paired R (xs.set i x) (ys.set i y)
  | _, _, _, .nil => .nil
  | _, _, 0, .cons _ t => .cons r t
  | _, _, i + 1, .cons q t => .cons q (Paired.set1 r i t)
theorem Paired.app : ∀ {xs xs' : List α} {ys ys' : List β}, Paired R xs ys → Paired R xs' ys' → Paired R (xs ++ xs') (ys ++ ys')
  | _, _, _, _, .nil, s => s
  | _, _, _, _, .cons r t, s => .cons r (Paired.app t s)
theorem Paired.erase1 : ∀ {xs : List α} {ys : List β} (i : Nat), Paired R xs ys → Paired R (xs.eraseIdx i) (ys.eraseIdx i)
  | _, _, _, .nil => .nil
  | _, _, 0, .cons _ t => t
  | _, _, i + 1, .cons q t => .cons q (Paired.erase1 i t)
theorem Paired.dropL : ∀ {xs : List α} {ys : List β}, Paired R xs ys → Paired R xs.dropLast ys.dropLast
  | _, _, .nil => .nil
  | _, _, .cons _ .nil => .nil
  | _, _, .cons q (.cons r t) => .cons q (Paired.dropL (.cons r t))
theorem Paired.rev {xs : List α} {ys : List β} (h : Paired R xs ys) : Paired R xs.reverse ys.reverse := by
  induction h with
  | nil => exact .nil
  | cons r t ih => rw [List.reverse_cons, List.reverse_cons]; exact Paired.app ih (.cons r .nil)
theorem Paired.takeN : ∀ {xs : List α} {ys : List β} (i : Nat), Paired R xs ys → Paired R (xs.take i) (ys.take i)
  | _, _, 0, _ => .nil
  | _, _, _ + 1, .nil => .nil
  | _, _, i + 1, .cons q t => .cons q (Paired.takeN i t)
theorem Paired.dropN : ∀ {xs : List α} {ys : List β} (i : Nat), Paired R xs ys → Paired R (xs.drop i) (ys.drop i)
  | _, _, 0, r => r
  | _, _, _ + 1, .nil => .nil
  | _, _, i + 1, .cons _ t => Paired.dropN i t
theorem Paired.flat {xs : List α} {ys : List β} (h : Paired R xs ys) : ∀ k : Nat, Paired R (List.replicate k xs).flatten (List.replicate k ys).flatten
  | 0 => .nil
  | k + 1 => by
    rw [List.replicate_succ, List.replicate_succ, List.flatten_cons, List.flatten_cons]
    exact Paired.app h (Paired.flat h k)
theorem Paired.ofGet : ∀ {xs : List α} {ys : List β}, xs.length = ys.length → (∀ (i : Nat) (x : α) (y : β), xs[i]? = some x → ys[i]? = some y → R x y) → Paired R xs ys
  | [], [], _, _ => .nil
  | [], _ :: _, e, _ => by simp at e
  | _ :: _, [], e, _ => by simp at e
  | x :: xs, y :: ys, e, h => .cons (h 0 x y rfl rfl) (Paired.ofGet (by simpa using e) fun i a b p q => h (i + 1) a b (by simpa using p) (by simpa using q))
end

/-! ### values -/
def KTup (K : PySem.W.Frag) (a : Addr) (vs : List V) : Prop := ∃ (o : Obj) (its : Array Value) (n : Nat), K.lookup a = some o ∧ o.cls = .type "tuple" ∧ o.data = .seq its n ∧ its.size ≤ sizeLine ∧ Vals vs its.toList
def KLst (K : PySem.W.Frag) (a : Addr) (vs : List V) : Prop := ∃ (o : Obj) (its : Array Value) (n : Nat), K.lookup a = some o ∧ o.cls = .type "list" ∧ o.dict = none ∧ o.data = .seq its n ∧ its.size ≤ sizeLine ∧ Vals vs its.toList
def TupAt (_K : PySem.W.Frag) (H : Hp) (a : Addr) (vs : List V) : Prop := vs.length ≤ sizeLine ∧ H a = some (.tup vs)
def FrzAt (K : PySem.W.Frag) (H : Hp) (a : Addr) (vs : List V) : Prop := vs.length ≤ sizeLine ∧ ((∃ o, H a = some (.frz o (.lst vs))) ∨ KLst K a vs)
theorem TupAt.sq {K : PySem.W.Frag} {H : Hp} {a : Addr} {vs : List V} (h : TupAt K H a vs) : SqT K H a vs := .inl (.inl h.2)
theorem FrzAt.sq {K : PySem.W.Frag} {H : Hp} {a : Addr} {vs : List V} (h : FrzAt K H a vs) : SqL K H a vs := h.2.elim (fun z => .inl (.inr z)) .inr

mutual
def RD (K : PySem.W.Frag) (ρ : List Addr) (H : Hp) : D → V → Prop
  | .non, v => v = .non
  | .bl b, v => v = .bl b
  | .int i, v => v = .int i
  | .str x, v => v = .str x
  | .tup ds, v => ∃ a vs, v = .ref a ∧ TupAt K H a vs ∧ RDs K ρ H ds vs
  | .frz ds, v => ∃ a vs, v = .ref a ∧ FrzAt K H a vs ∧ RDs K ρ H ds vs
  | .ref n, v => ∃ a, v = .ref a ∧ ρ[n]? = some a
def RDs (K : PySem.W.Frag) (ρ : List Addr) (H : Hp) : List D → List V → Prop
  | [], vs => vs = []
  | d :: ds, vs => ∃ v r, vs = v :: r ∧ RD K ρ H d v ∧ RDs K ρ H ds r
end
section
variable {K : PySem.W.Frag} {ρ : List Addr} {H : Hp}
theorem RDs.pair : ∀ {ds : List D} {vs : List V}, RDs K ρ H ds vs → Paired (RD K ρ H) ds vs
  | [], vs, h => by unfold RDs at h; subst h; exact .nil
  | d :: ds, vs, h => by
    unfold RDs at h
    obtain ⟨v, r, rfl, h1, h2⟩ := h
    exact .cons h1 (RDs.pair h2)
theorem RDs.of : ∀ {ds : List D} {vs : List V}, Paired (RD K ρ H) ds vs → RDs K ρ H ds vs
  | _, _, .nil => by unfold RDs; rfl
  | _, _, .cons r t => by unfold RDs; exact ⟨_, _, rfl, r, RDs.of t⟩
theorem RDs.len {ds : List D} {vs : List V} (h : RDs K ρ H ds vs) : ds.length = vs.length := h.pair.length
theorem rd_non : RD K ρ H .non .non := by unfold RD; rfl
theorem rd_bl {b : Bool} : RD K ρ H (.bl b) (.bl b) := by unfold RD; rfl
theorem rd_int {i : Int} : RD K ρ H (.int i) (.int i) := by unfold RD; rfl
theorem rd_str {x : Str} : RD K ρ H (.str x) (.str x) := by unfold RD; rfl
theorem rd_ref {n : Nat} {a : Addr} (h : ρ[n]? = some a) : RD K ρ H (.ref n) (.ref a) := by unfold RD; exact ⟨a, rfl, h⟩
theorem rd_tup {ds : List D} {vs : List V} {a : Addr} (h : TupAt K H a vs) (r : RDs K ρ H ds vs) : RD K ρ H (.tup ds) (.ref a) := by unfold RD; exact ⟨a, vs, rfl, h, r⟩
theorem RD.non {v : V} (h : RD K ρ H .non v) : v = .non := by unfold RD at h; exact h
theorem RD.bl {b : Bool} {v : V} (h : RD K ρ H (.bl b) v) : v = .bl b := by unfold RD at h; exact h
theorem RD.int {i : Int} {v : V} (h : RD K ρ H (.int i) v) : v = .int i := by unfold RD at h; exact h
theorem RD.str {x : Str} {v : V} (h : RD K ρ H (.str x) v) : v = .str x := by unfold RD at h; exact h
theorem RD.ref {n : Nat} {v : V} (h : RD K ρ H (.ref n) v) : ∃ a, v = .ref a ∧ ρ[n]? = some a := by unfold RD at h; exact h
theorem RD.tup {ds : List D} {v : V} (h : RD K ρ H (.tup ds) v) : ∃ a vs, v = .ref a ∧ TupAt K H a vs ∧ RDs K ρ H ds vs := by unfold RD at h; exact h
theorem RD.frz {ds : List D} {v : V} (h : RD K ρ H (.frz ds) v) : ∃ a vs, v = .ref a ∧ FrzAt K H a vs ∧ RDs K ρ H ds vs := by unfold RD at h; exact h
end
/-- later worlds -/
structure Le (ρ : List Addr) (H : Hp) (ρ' : List Addr) (H' : Hp) : Prop where
  pre : ∃ e, ρ' = ρ ++ e
  tup : ∀ a vs, H a = some (.tup vs) → H' a = some (.tup vs)
  frz : ∀ a o u, H a = some (.frz o u) → a ∉ ρ → H' a = some (.frz o u)
  keep : ∀ b o, H b = some o → b ∉ ρ → (∀ ps, o ≠ .tbl ps) → H' b = some o
  new : ∀ b o, H b = some o → (∀ ps, o ≠ .tbl ps) → b ∉ ρ → b ∉ ρ'
theorem Le.refl (ρ : List Addr) (H : Hp) : Le ρ H ρ H := ⟨⟨[], by simp⟩, fun _ _ h => h, fun _ _ _ h _ => h, fun _ _ h _ _ => h, fun _ _ _ _ n => n⟩
theorem Le.nin {ρ ρ1 : List Addr} {H H1 : Hp} (a : Le ρ H ρ1 H1) {b : Addr} {o : HO} (h : H b = some o) (n : b ∉ ρ) (t : ∀ ps, o ≠ .tbl ps := by intro ps z; cases z) : b ∉ ρ1 := a.new b o h t n
theorem Le.trans {ρ ρ1 ρ2 : List Addr} {H H1 H2 : Hp} (a : Le ρ H ρ1 H1) (b : Le ρ1 H1 ρ2 H2) : Le ρ H ρ2 H2 where
  pre := by
    obtain ⟨e, rfl⟩ := a.pre
    obtain ⟨f, rfl⟩ := b.pre
    exact ⟨e ++ f, by simp⟩
  tup := fun x vs h => b.tup x vs (a.tup x vs h)
  frz := fun x o u h n => b.frz x o u (a.frz x o u h n) (a.nin h n (fun _ z => nomatch z))
  keep := fun x o h n t => b.keep x o (a.keep x o h n t) (a.nin h n t) t
  new := fun x o h t n => b.new x o (a.keep x o h n t) t (a.new x o h t n)
section
variable {K : PySem.W.Frag} {ρ ρ' : List Addr} {H H' : Hp}
theorem Le.get (l : Le ρ H ρ' H') {n : Nat} {a : Addr} (h : ρ[n]? = some a) : ρ'[n]? = some a := by
  obtain ⟨e, rfl⟩ := l.pre
  have hn := (List.getElem?_eq_some_iff.mp h).1
  rw [List.getElem?_append_left hn]; exact h
theorem TupAt.mono (l : Le ρ H ρ' H') {a : Addr} {vs : List V} (h : TupAt K H a vs) : TupAt K H' a vs := ⟨h.1, l.tup _ _ h.2⟩
end
/-- frozen things are not in the store -/
def NoFz (ρ : List Addr) (H : Hp) : Prop := ∀ a o u, H a = some (.frz o u) → a ∉ ρ
/-- what a value's reading leans on -/
structure Lw (ρ : List Addr) (H : Hp) (ρ' : List Addr) (H' : Hp) : Prop where
  pre : ∃ e, ρ' = ρ ++ e
  tup : ∀ a vs, H a = some (.tup vs) → H' a = some (.tup vs)
  frz : ∀ a o u, H a = some (.frz o u) → H' a = some (.frz o u)
theorem Le.lw {ρ ρ' : List Addr} {H H' : Hp} (l : Le ρ H ρ' H') (nf : NoFz ρ H) : Lw ρ H ρ' H' := ⟨l.pre, l.tup, fun a o u h => l.frz a o u h (nf a o u h)⟩
theorem Lw.get {ρ ρ' : List Addr} {H H' : Hp} (l : Lw ρ H ρ' H') {n : Nat} {a : Addr} (h : ρ[n]? = some a) : ρ'[n]? = some a := by
  obtain ⟨e, rfl⟩ := l.pre
  have hn := (List.getElem?_eq_some_iff.mp h).1
  rw [List.getElem?_append_left hn]; exact h
theorem TupAt.lw {K : PySem.W.Frag} {ρ ρ' : List Addr} {H H' : Hp} (l : Lw ρ H ρ' H') {a : Addr} {vs : List V} (h : TupAt K H a vs) : TupAt K H' a vs := ⟨h.1, l.tup _ _ h.2⟩
theorem FrzAt.lw {K : PySem.W.Frag} {ρ ρ' : List Addr} {H H' : Hp} (l : Lw ρ H ρ' H') {a : Addr} {vs : List V} (h : FrzAt K H a vs) : FrzAt K H' a vs :=
  ⟨h.1, h.2.elim (fun ⟨o, z⟩ => .inl ⟨o, l.frz _ _ _ z⟩) .inr⟩
theorem FrzAt.mono {K : PySem.W.Frag} {ρ ρ' : List Addr} {H H' : Hp} (l : Le ρ H ρ' H') (nf : NoFz ρ H) {a : Addr} {vs : List V} (h : FrzAt K H a vs) : FrzAt K H' a vs := h.lw (l.lw nf)
mutual
theorem RD.lw {K : PySem.W.Frag} {ρ ρ' : List Addr} {H H' : Hp} (l : Lw ρ H ρ' H') : ∀ (d : D) (v : V), RD K ρ H d v → RD K ρ' H' d v
  | .non, v, h => by unfold RD at h ⊢; exact h
  | .bl b, v, h => by unfold RD at h ⊢; exact h
  | .int i, v, h => by unfold RD at h ⊢; exact h
  | .str x, v, h => by unfold RD at h ⊢; exact h
  | .tup ds, v, h => by
    unfold RD at h ⊢
    obtain ⟨a, vs, e, t, r⟩ := h
    exact ⟨a, vs, e, t.lw l, RDs.lw l ds vs r⟩
  | .frz ds, v, h => by
    unfold RD at h ⊢
    obtain ⟨a, vs, e, t, r⟩ := h
    exact ⟨a, vs, e, t.lw l, RDs.lw l ds vs r⟩
  | .ref n, v, h => by
    unfold RD at h ⊢
    obtain ⟨a, e, q⟩ := h
    exact ⟨a, e, l.get q⟩
theorem RDs.lw {K : PySem.W.Frag} {ρ ρ' : List Addr} {H H' : Hp} (l : Lw ρ H ρ' H') : ∀ (ds : List D) (vs : List V), RDs K ρ H ds vs → RDs K ρ' H' ds vs
  | [], vs, h => by unfold RDs at h ⊢; exact h
  | d :: ds, vs, h => by
    unfold RDs at h ⊢
    obtain ⟨v, r, e, h1, h2⟩ := h
    exact ⟨v, r, e, RD.lw l d v h1, RDs.lw l ds r h2⟩
end
theorem RD.mono {K : PySem.W.Frag} {ρ ρ' : List Addr} {H H' : Hp} (l : Le ρ H ρ' H') (nf : NoFz ρ H) (d : D) (v : V) (h : RD K ρ H d v) : RD K ρ' H' d v := RD.lw (l.lw nf) d v h
theorem RDs.mono {K : PySem.W.Frag} {ρ ρ' : List Addr} {H H' : Hp} (l : Le ρ H ρ' H') (nf : NoFz ρ H) (d : List D) (v : List V) (h : RDs K ρ H d v) : RDs K ρ' H' d v := RDs.lw (l.lw nf) d v h

/-! ### the store -/
abbrev RKs (K : PySem.W.Frag) (ρ : List Addr) (H : Hp) {κ : Type} (kvs : List (κ × D)) (kws : List (κ × V)) : Prop := Paired (fun p q => p.1 = q.1 ∧ RD K ρ H p.2 q.2) kvs kws
def ROb (K : PySem.W.Frag) (ρ : List Addr) (H : Hp) (a : Addr) : Ob → Prop
  | .lst ds => ∃ vs, H a = some (.lst vs) ∧ RDs K ρ H ds vs ∧ vs.length ≤ sizeLine
  | .dk kvs => ∃ kws, H a = some (.dK kws) ∧ RKs K ρ H kvs kws ∧ kws.length ≤ sizeLine
  | .dt kvs => ∃ kws, H a = some (.dT kws) ∧ RKs K ρ H kvs kws ∧ kws.length ≤ sizeLine
theorem ROb.there {K : PySem.W.Frag} {ρ : List Addr} {H : Hp} {a : Addr} {o : Ob} (h : ROb K ρ H a o) : ∃ u, H a = some u ∧ (∀ xs, u ≠ .tup xs) ∧ (∀ o' w, u ≠ .frz o' w) ∧ ∀ ps, u ≠ .tbl ps := by
  cases o with
  | lst ds => obtain ⟨vs, h, _⟩ := h; exact ⟨_, h, (fun _ z => nomatch z), (fun _ _ z => nomatch z), (fun _ z => nomatch z)⟩
  | dk ds => obtain ⟨vs, h, _⟩ := h; exact ⟨_, h, (fun _ z => nomatch z), (fun _ _ z => nomatch z), (fun _ z => nomatch z)⟩
  | dt ds => obtain ⟨vs, h, _⟩ := h; exact ⟨_, h, (fun _ z => nomatch z), (fun _ _ z => nomatch z), (fun _ z => nomatch z)⟩
theorem RKs.mono {K : PySem.W.Frag} {ρ ρ' : List Addr} {H H' : Hp} {κ : Type} {kvs : List (κ × D)} {kws : List (κ × V)} (l : Le ρ H ρ' H') (nf : NoFz ρ H) (h : RKs K ρ H kvs kws) : RKs K ρ' H' kvs kws :=
  Paired.mapP h fun _ _ z => ⟨z.1, RD.mono l nf _ _ z.2⟩
/-- an object that stands as it did, in a later world -/
theorem ROb.mono {K : PySem.W.Frag} {ρ ρ' : List Addr} {H H' : Hp} {a : Addr} {o : Ob} (l : Le ρ H ρ' H') (nf : NoFz ρ H) (e : H' a = H a) (h : ROb K ρ H a o) : ROb K ρ' H' a o := by
  cases o with
  | lst ds => obtain ⟨vs, h1, h2, h3⟩ := h; exact ⟨vs, e.trans h1, RDs.mono l nf _ _ h2, h3⟩
  | dk ds => obtain ⟨vs, h1, h2, h3⟩ := h; exact ⟨vs, e.trans h1, RKs.mono l nf h2, h3⟩
  | dt ds => obtain ⟨vs, h1, h2, h3⟩ := h; exact ⟨vs, e.trans h1, RKs.mono l nf h2, h3⟩
abbrev Tbs := List (Addr × Str)
structure RS (K : PySem.W.Frag) (T : Tbs) (ρ : List Addr) (S : Store) (H : Hp) : Prop where
  len : ρ.length = S.length
  nd : ρ.Nodup
  ob : ∀ (i : Nat) (a : Addr) (o : Ob), ρ[i]? = some a → S[i]? = some o → ROb K ρ H a o
  tabs : LamX.Tabs T H
section
variable {K : PySem.W.Frag} {T : Tbs} {ρ ρ' : List Addr} {S S' : Store} {H H' : Hp}
theorem RS.at (r : RS K T ρ S H) {a : Addr} (h : a ∈ ρ) : ∃ (i : Nat) (o : Ob), ρ[i]? = some a ∧ S[i]? = some o ∧ ROb K ρ H a o := by
  obtain ⟨i, hi, e⟩ := List.getElem_of_mem h
  have h1 : ρ[i]? = some a := by rw [List.getElem?_eq_getElem hi, e]
  have h2 : S[i]? = some (S[i]'(by rw [← r.len]; exact hi)) := List.getElem?_eq_getElem _
  exact ⟨i, _, h1, h2, r.ob i a _ h1 h2⟩
theorem RS.nofz (r : RS K T ρ S H) : NoFz ρ H := fun a o u h z => by
  obtain ⟨i, ob, _, _, q⟩ := r.at z
  obtain ⟨w, e, _, n, _⟩ := q.there
  rw [h] at e; cases e
  exact n _ _ rfl
theorem RS.addr (r : RS K T ρ S H) {i : Nat} {o : Ob} (h : S[i]? = some o) : ∃ a, ρ[i]? = some a ∧ ROb K ρ H a o := by
  have hi : i < ρ.length := by rw [r.len]; exact (List.getElem?_eq_some_iff.mp h).1
  exact ⟨ρ[i], List.getElem?_eq_getElem hi, r.ob i _ o (List.getElem?_eq_getElem hi) h⟩
theorem RS.fresh (r : RS K T ρ S H) {p : Addr} (h : H p = none) : p ∉ ρ := fun z => by
  obtain ⟨i, o, _, _, q⟩ := r.at z
  obtain ⟨u, e, _⟩ := q.there
  rw [h] at e; cases e
theorem RD.le {d : D} {v : V} (h : RD K ρ H d v) (r : RS K T ρ S H) (l : Le ρ H ρ' H') : RD K ρ' H' d v := RD.mono l r.nofz d v h
theorem RDs.le {ds : List D} {vs : List V} (h : RDs K ρ H ds vs) (r : RS K T ρ S H) (l : Le ρ H ρ' H') : RDs K ρ' H' ds vs := RDs.mono l r.nofz ds vs h
/-- a new thing that is not of the store -/
theorem Le.fresh (r : RS K T ρ S H) {p : Addr} {o : HO} (h : H p = none) : Le ρ H ρ (upd H p o) where
  pre := ⟨[], by simp⟩
  tup := fun a vs e => by rw [upd_ne (ne_of_none e h)]; exact e
  frz := fun a _ _ e _ => by rw [upd_ne (ne_of_none e h)]; exact e
  keep := fun a _ e _ _ => by rw [upd_ne (ne_of_none e h)]; exact e
  new := fun _ _ _ _ n => n
theorem Tabs.fresh {p : Addr} {o : HO} (t : LamX.Tabs T H) (h : H p = none) : LamX.Tabs T (upd H p o) := t.ext fun b u e => by rw [upd_ne (ne_of_none e h)]; exact e
theorem RS.freshP (r : RS K T ρ S H) {p : Addr} {o : HO} (h : H p = none) : RS K T ρ S (upd H p o) where
  len := r.len
  nd := r.nd
  ob := fun i a ob h1 h2 => by
    have q := r.ob i a ob h1 h2
    obtain ⟨u, e, _⟩ := q.there
    exact q.mono (Le.fresh r h) r.nofz (upd_ne (ne_of_none e h))
  tabs := Tabs.fresh r.tabs h
/-- a new tuple -/
theorem tup_new (r : RS K T ρ S H) {p : Addr} {ds : List D} {vs : List V} (h : H p = none) (hv : RDs K ρ H ds vs) (hz : vs.length ≤ sizeLine) : Le ρ H ρ (upd H p (.tup vs)) ∧ RS K T ρ S (upd H p (.tup vs)) ∧ RD K ρ (upd H p (.tup vs)) (.tup ds) (.ref p) :=
  ⟨Le.fresh r h, r.freshP h, rd_tup ⟨hz, upd_same⟩ (hv.le r (Le.fresh r h))⟩
/-- a new thing of the store -/
theorem Le.laid (r : RS K T ρ S H) {p : Addr} {o : HO} (h : H p = none) : Le ρ H (ρ ++ [p]) (upd H p o) := by
  have l := Le.fresh (o := o) r h
  exact ⟨⟨[p], rfl⟩, l.tup, l.frz, l.keep, fun b o e _ n z => by
    rcases List.mem_append.mp z with z | z
    · exact n z
    · have : b = p := by simpa using z
      subst this; rw [h] at e; cases e⟩
theorem RS.laid (r : RS K T ρ S H) {p : Addr} {o : HO} {ob : Ob} (h : H p = none) (hob : ROb K (ρ ++ [p]) (upd H p o) p ob) : RS K T (ρ ++ [p]) (S ++ [ob]) (upd H p o) where
  len := by simp [r.len]
  nd := by
    rw [List.nodup_append]
    exact ⟨r.nd, by simp, fun a ha b hb e => by
      have : b = p := by simpa using hb
      subst this; subst e; exact r.fresh h ha⟩
  ob := fun i a o' h1 h2 => by
    by_cases hi : i < ρ.length
    · rw [List.getElem?_append_left hi] at h1
      rw [List.getElem?_append_left (by rw [← r.len]; exact hi)] at h2
      have q := r.ob i a o' h1 h2
      obtain ⟨u, e, _⟩ := q.there
      exact q.mono (Le.laid r h) r.nofz (upd_ne (ne_of_none e h))
    · have e1 : i = ρ.length := by
        have := (List.getElem?_eq_some_iff.mp h1).1
        rw [List.length_append, List.length_singleton] at this
        omega
      subst e1
      rw [List.getElem?_append_right (Nat.le_refl _), Nat.sub_self] at h1
      rw [List.getElem?_append_right (by rw [r.len]; exact Nat.le_refl _), r.len, Nat.sub_self] at h2
      simp at h1 h2
      subst h1 h2
      exact hob
  tabs := Tabs.fresh r.tabs h
theorem RS.lastAt (r : RS K T ρ S H) {p : Addr} : (ρ ++ [p])[S.length]? = some p := by rw [← r.len, List.getElem?_append_right (Nat.le_refl _), Nat.sub_self]; rfl
theorem lst_new (r : RS K T ρ S H) {p : Addr} {ds : List D} {vs : List V} (h : H p = none) (hv : RDs K ρ H ds vs) (hz : vs.length ≤ sizeLine) :
    Le ρ H (ρ ++ [p]) (upd H p (.lst vs)) ∧ RS K T (ρ ++ [p]) (S ++ [.lst ds]) (upd H p (.lst vs)) ∧ RD K (ρ ++ [p]) (upd H p (.lst vs)) (.ref S.length) (.ref p) :=
  ⟨Le.laid r h, r.laid h ⟨vs, upd_same, hv.le r (Le.laid r h), hz⟩, rd_ref r.lastAt⟩
theorem dk_new (r : RS K T ρ S H) {p : Addr} {ds : List (Kk × D)} {vs : List (Kk × V)} (h : H p = none) (hv : RKs K ρ H ds vs) (hz : vs.length ≤ sizeLine) :
    Le ρ H (ρ ++ [p]) (upd H p (.dK vs)) ∧ RS K T (ρ ++ [p]) (S ++ [.dk ds]) (upd H p (.dK vs)) ∧ RD K (ρ ++ [p]) (upd H p (.dK vs)) (.ref S.length) (.ref p) :=
  ⟨Le.laid r h, r.laid h ⟨vs, upd_same, RKs.mono (Le.laid r h) r.nofz hv, hz⟩, rd_ref r.lastAt⟩
theorem dt_new (r : RS K T ρ S H) {p : Addr} {ds : List (List Kk × D)} {vs : List (List Kk × V)} (h : H p = none) (hv : RKs K ρ H ds vs) (hz : vs.length ≤ sizeLine) :
    Le ρ H (ρ ++ [p]) (upd H p (.dT vs)) ∧ RS K T (ρ ++ [p]) (S ++ [.dt ds]) (upd H p (.dT vs)) ∧ RD K (ρ ++ [p]) (upd H p (.dT vs)) (.ref S.length) (.ref p) :=
  ⟨Le.laid r h, r.laid h ⟨vs, upd_same, RKs.mono (Le.laid r h) r.nofz hv, hz⟩, rd_ref r.lastAt⟩
/-- a thing of the store is changed -/
theorem Le.write (r : RS K T ρ S H) {i : Nat} {a : Addr} {ob : Ob} {o : HO} (ha : ρ[i]? = some a) (hs : S[i]? = some ob) : Le ρ H ρ (upd H a o) := by
  obtain ⟨u, e, n1, n2, n3⟩ := (r.ob i a ob ha hs).there
  have hm : a ∈ ρ := List.mem_of_getElem? ha
  have ne : ∀ {b : Addr} {w : HO}, H b = some w → (w ≠ u) → b ≠ a := fun {b w} h q z => by
    subst z; rw [e] at h; exact q (Option.some.inj h).symm
  exact ⟨⟨[], by simp⟩, fun b vs h => by rw [upd_ne (ne h (fun z => n1 _ z.symm))]; exact h, fun b _ _ h _ => by rw [upd_ne (ne h (fun z => n2 _ _ z.symm))]; exact h,
    fun b w h nb _ => by rw [upd_ne (fun z => nb (by rw [z]; exact hm))]; exact h, fun _ _ _ _ n => n⟩
theorem RS.write (r : RS K T ρ S H) {i : Nat} {a : Addr} {ob ob' : Ob} {o : HO} (ha : ρ[i]? = some a) (hs : S[i]? = some ob) (hob : ROb K ρ (upd H a o) a ob') : RS K T ρ (S.set i ob') (upd H a o) where
  len := by rw [List.length_set]; exact r.len
  nd := r.nd
  ob := fun j b o' h1 h2 => by
    by_cases hj : j = i
    · subst hj
      rw [ha] at h1; cases h1
      rw [List.getElem?_set_self (by rw [← r.len]; exact (List.getElem?_eq_some_iff.mp ha).1)] at h2
      cases h2
      exact hob
    · rw [List.getElem?_set_ne (Ne.symm hj)] at h2
      have q := r.ob j b o' h1 h2
      have nb : b ≠ a := fun z => by
        subst z
        exact hj ((List.getElem?_inj (List.getElem?_eq_some_iff.mp h1).1 r.nd).mp (h1.trans ha.symm))
      exact q.mono (Le.write r ha hs) r.nofz (upd_ne nb)
  tabs := by
    obtain ⟨u, e, n1, n2, n3⟩ := (r.ob i a ob ha hs).there
    intro p hp
    obtain ⟨ps, h1, h2, h3⟩ := r.tabs p hp
    have nP : p.1 ≠ a := fun z => by rw [z, e] at h1; exact n3 _ (Option.some.inj h1)
    refine ⟨ps, by rw [upd_ne nP]; exact h1, h2, fun pos cv hc => ?_⟩
    obtain ⟨c, e1, e2⟩ := h3 pos cv hc
    refine ⟨c, e1, ?_⟩
    have nc : c ≠ a := fun z => by
      rw [z] at e2
      cases ob with
      | lst ds => obtain ⟨vs, q, _⟩ := r.ob i a _ ha hs; rw [q] at e2; cases e2
      | dk ds => obtain ⟨vs, q, _⟩ := r.ob i a _ ha hs; rw [q] at e2; cases e2
      | dt ds => obtain ⟨vs, q, _⟩ := r.ob i a _ ha hs; rw [q] at e2; cases e2
    rw [upd_ne nc]; exact e2
theorem lst_write (r : RS K T ρ S H) {i : Nat} {a : Addr} {ob : Ob} {ds : List D} {vs : List V} (ha : ρ[i]? = some a) (hs : S[i]? = some ob) (hv : RDs K ρ H ds vs) (hz : vs.length ≤ sizeLine) :
    Le ρ H ρ (upd H a (.lst vs)) ∧ RS K T ρ (S.set i (.lst ds)) (upd H a (.lst vs)) :=
  ⟨Le.write r ha hs, r.write ha hs ⟨vs, upd_same, hv.le r (Le.write r ha hs), hz⟩⟩
theorem dk_write (r : RS K T ρ S H) {i : Nat} {a : Addr} {ob : Ob} {ds : List (Kk × D)} {vs : List (Kk × V)} (ha : ρ[i]? = some a) (hs : S[i]? = some ob) (hv : RKs K ρ H ds vs) (hz : vs.length ≤ sizeLine) :
    Le ρ H ρ (upd H a (.dK vs)) ∧ RS K T ρ (S.set i (.dk ds)) (upd H a (.dK vs)) :=
  ⟨Le.write r ha hs, r.write ha hs ⟨vs, upd_same, RKs.mono (Le.write r ha hs) r.nofz hv, hz⟩⟩
theorem dt_write (r : RS K T ρ S H) {i : Nat} {a : Addr} {ob : Ob} {ds : List (List Kk × D)} {vs : List (List Kk × V)} (ha : ρ[i]? = some a) (hs : S[i]? = some ob) (hv : RKs K ρ H ds vs) (hz : vs.length ≤ sizeLine) :
    Le ρ H ρ (upd H a (.dT vs)) ∧ RS K T ρ (S.set i (.dt ds)) (upd H a (.dT vs)) :=
  ⟨Le.write r ha hs, r.write ha hs ⟨vs, upd_same, RKs.mono (Le.write r ha hs) r.nofz hv, hz⟩⟩
end

theorem RKs.lw {K : PySem.W.Frag} {ρ ρ' : List Addr} {H H' : Hp} {κ : Type} {kvs : List (κ × D)} {kws : List (κ × V)} (l : Lw ρ H ρ' H') (h : RKs K ρ H kvs kws) : RKs K ρ' H' kvs kws :=
  Paired.mapP h fun _ _ z => ⟨z.1, RD.lw l _ _ z.2⟩
theorem ROb.lw {K : PySem.W.Frag} {ρ ρ' : List Addr} {H H' : Hp} {a : Addr} {o : Ob} (l : Lw ρ H ρ' H') (e : H' a = H a) (h : ROb K ρ H a o) : ROb K ρ' H' a o := by
  cases o with
  | lst ds => obtain ⟨vs, h1, h2, h3⟩ := h; exact ⟨vs, e.trans h1, RDs.lw l _ _ h2, h3⟩
  | dk ds => obtain ⟨vs, h1, h2, h3⟩ := h; exact ⟨vs, e.trans h1, RKs.lw l h2, h3⟩
  | dt ds => obtain ⟨vs, h1, h2, h3⟩ := h; exact ⟨vs, e.trans h1, RKs.lw l h2, h3⟩
section
variable {K : PySem.W.Frag} {T : Tbs} {ρ ρ' : List Addr} {S S' : Store} {H H' : Hp}
/-- a thing that stands beside the store comes into it -/
theorem RS.adopt (r : RS K T ρ S H) {p : Addr} {ob : Ob} (n : p ∉ ρ) (hob : ROb K ρ H p ob) : RS K T (ρ ++ [p]) (S ++ [ob]) H where
  len := by simp [r.len]
  nd := by
    rw [List.nodup_append]
    exact ⟨r.nd, by simp, fun a ha b hb e => by
      have : b = p := by simpa using hb
      subst this; subst e; exact n ha⟩
  ob := fun i a o' h1 h2 => by
    have lw : Lw ρ H (ρ ++ [p]) H := ⟨⟨_, rfl⟩, fun _ _ h => h, fun _ _ _ h => h⟩
    by_cases hi : i < ρ.length
    · rw [List.getElem?_append_left hi] at h1
      rw [List.getElem?_append_left (by rw [← r.len]; exact hi)] at h2
      exact (r.ob i a o' h1 h2).lw lw rfl
    · have e1 : i = ρ.length := by
        have := (List.getElem?_eq_some_iff.mp h1).1
        rw [List.length_append, List.length_singleton] at this
        omega
      subst e1
      rw [List.getElem?_append_right (Nat.le_refl _), Nat.sub_self] at h1
      rw [List.getElem?_append_right (by rw [r.len]; exact Nat.le_refl _), r.len, Nat.sub_self] at h2
      simp at h1 h2
      subst h1 h2
      exact hob.lw lw rfl
  tabs := r.tabs
/-- a list (a dict) beside the store is changed -/
theorem RS.side (r : RS K T ρ S H) {p : Addr} {u o : HO} (h : H p = some u) (n : p ∉ ρ) (n1 : ∀ vs, u ≠ .tup vs) (n2 : ∀ o w, u ≠ .frz o w) (n3 : ∀ ps, u ≠ .tbl ps) (n4 : ∀ φ, u ≠ .ext φ) :
    Lw ρ H ρ (upd H p o) ∧ RS K T ρ S (upd H p o) := by
  have ne : ∀ {b : Addr} {w : HO}, H b = some w → w ≠ u → b ≠ p := fun {b w} e q z => by
    subst z; rw [h] at e; exact q (Option.some.inj e).symm
  have lw : Lw ρ H ρ (upd H p o) := ⟨⟨[], by simp⟩, fun a vs e => by rw [upd_ne (ne e fun z => n1 _ z.symm)]; exact e, fun a _ _ e => by rw [upd_ne (ne e fun z => n2 _ _ z.symm)]; exact e⟩
  refine ⟨lw, ⟨r.len, r.nd, fun i a ob h1 h2 => ?_, fun q hq => ?_⟩⟩
  · exact (r.ob i a ob h1 h2).lw lw (upd_ne fun z => n (by rw [← z]; exact List.mem_of_getElem? h1))
  · obtain ⟨ps, h1, h2, h3⟩ := r.tabs q hq
    refine ⟨ps, by rw [upd_ne (ne h1 fun z => n3 _ z.symm)]; exact h1, h2, fun pos cv hc => ?_⟩
    obtain ⟨c, e1, e2⟩ := h3 pos cv hc
    exact ⟨c, e1, by rw [upd_ne (ne e2 fun z => n4 _ z.symm)]; exact e2⟩
/-- .. that was not there at first -/
theorem Le.side {p : Addr} {o : HO} (l : Le ρ H ρ' H') (h : H p = none) : Le ρ H ρ' (upd H' p o) where
  pre := l.pre
  tup := fun a vs e => by rw [upd_ne (ne_of_none e h)]; exact l.tup a vs e
  frz := fun a _ _ e n => by rw [upd_ne (ne_of_none e h)]; exact l.frz a _ _ e n
  keep := fun a _ e n t => by rw [upd_ne (ne_of_none e h)]; exact l.keep a _ e n t
  new := l.new
theorem Le.adopt {p : Addr} (l : Le ρ H ρ' H') (h : H p = none) : Le ρ H (ρ' ++ [p]) H' where
  pre := by obtain ⟨e, rfl⟩ := l.pre; exact ⟨e ++ [p], by simp⟩
  tup := l.tup
  frz := l.frz
  keep := l.keep
  new := fun b o e t n z => by
    rcases List.mem_append.mp z with z | z
    · exact l.new b o e t n z
    · have : b = p := by simpa using z
      subst this; rw [h] at e; cases e
end

/-! ### slots -/
def RO (K : PySem.W.Frag) (ρ : List Addr) (H : Hp) : Option D → Option V → Prop
  | none, _ => True
  | some d, some v => RD K ρ H d v
  | some _, none => False
abbrev RE (K : PySem.W.Frag) (ρ : List Addr) (H : Hp) (s : Env) (σ : L2.St) : Prop := Paired (RO K ρ H) s σ
theorem RO.le {K : PySem.W.Frag} {T : Tbs} {ρ ρ' : List Addr} {S : Store} {H H' : Hp} {x : Option D} {y : Option V} (h : RO K ρ H x y) (r : RS K T ρ S H) (l : Le ρ H ρ' H') : RO K ρ' H' x y := by
  cases x with
  | none => trivial
  | some d =>
    cases y with
    | none => exact h
    | some v => exact RD.le (show RD K ρ H d v from h) r l
theorem RE.le {K : PySem.W.Frag} {T : Tbs} {ρ ρ' : List Addr} {S : Store} {H H' : Hp} {s : Env} {σ : L2.St} (h : RE K ρ H s σ) (r : RS K T ρ S H) (l : Le ρ H ρ' H') : RE K ρ' H' s σ := Paired.mapP h fun _ _ z => RO.le z r l
theorem RE.set {K : PySem.W.Frag} {ρ : List Addr} {H : Hp} {s : Env} {σ : L2.St} {d : D} {v : V} (h : RE K ρ H s σ) (i : Nat) (r : RD K ρ H d v) : RE K ρ H (s.set i (some d)) (σ.set i (some v)) :=
  Paired.set1 (R := RO K ρ H) (x := some d) (y := some v) r i h
theorem RE.setN {K : PySem.W.Frag} {ρ : List Addr} {H : Hp} {s : Env} {σ : L2.St} {y : Option V} (h : RE K ρ H s σ) (i : Nat) : RE K ρ H (s.set i none) (σ.set i y) :=
  Paired.set1 (R := RO K ρ H) (x := none) (y := y) trivial i h
theorem RE.wipe {K : PySem.W.Frag} {ρ : List Addr} {H : Hp} {s : Env} {σ : L2.St} (h : RE K ρ H s σ) : ∀ vs : List Nat, RE K ρ H (wipeE s vs) (L2.wipe σ vs)
  | [] => h
  | v :: vs => RE.setN (RE.wipe h vs) v

/-! ### what a result is to bring -/
section
variable (K : PySem.W.Frag) (mg : Str → Option Value) (T : Tbs)
def Post (E : XK) (ρ : List Addr) (H : Hp) {α β : Type} (R : List Addr → Hp → α → β → Prop) (Q : β → Hp → Prop) : Res α → Prop
  | .ok a S' => ∀ ρ' H' b, Le ρ H ρ' H' → RS K T ρ' S' H' → R ρ' H' a b → Q b H'
  | .ex c w S' => ∀ ρ' H' v dd C, Le ρ H ρ' H' → RS K T ρ' S' H' → RD K ρ' H' w v → H' dd = some (.xd [(("what" : Str), v)]) → mg (Str.ofString c) = some (.ref C) → E (.ref C) (some dd) H'
  | .bad => False
def PostS (W : WX) (D : Ends) (ρ : List Addr) (H : Hp) : Rs → Prop
  | .nx s' S' => ∀ ρ' H' σ', Le ρ H ρ' H' → RS K T ρ' S' H' → RE K ρ' H' s' σ' → D.nx σ' H'
  | .rt d S' => ∀ ρ' H' v, Le ρ H ρ' H' → RS K T ρ' S' H' → RD K ρ' H' d v → D.rt v H'
  | .bk s' S' => ∀ ρ' H' σ', Le ρ H ρ' H' → RS K T ρ' S' H' → RE K ρ' H' s' σ' → D.bk σ' H'
  | .ct s' S' => ∀ ρ' H' σ', Le ρ H ρ' H' → RS K T ρ' S' H' → RE K ρ' H' s' σ' → D.ct σ' H'
  | .ex c w s' S' => ∀ ρ' H' σ' v dd C, Le ρ H ρ' H' → RS K T ρ' S' H' → RE K ρ' H' s' σ' → RD K ρ' H' w v → H' dd = some (.xd [(("what" : Str), v)]) → mg (Str.ofString c) = some (.ref C) → W (.ref C) (some dd) σ' H'
  | .bad => False
end
abbrev RB : List Addr → Hp → Bool → Bool → Prop := fun _ _ a b => a = b
section
variable {K : PySem.W.Frag} {mg : Str → Option Value} {T : Tbs} {E : XK} {W : WX} {Dd : Ends} {ρ ρ' : List Addr} {H H' : Hp} {α β α' β' : Type} {R : List Addr → Hp → α → β → Prop} {R' : List Addr → Hp → α' → β' → Prop} {Q Q' : β → Hp → Prop} {Q2 : β' → Hp → Prop}
theorem Post.le {r : Res α} (h : Post K mg T E ρ H R Q r) (l : Le ρ H ρ' H') : Post K mg T E ρ' H' R Q r := by
  cases r with
  | ok a S => exact fun ρ2 H2 b l2 => h ρ2 H2 b (l.trans l2)
  | ex c w S => exact fun ρ2 H2 v dd C l2 => h ρ2 H2 v dd C (l.trans l2)
  | bad => exact h
theorem Post.imp {r : Res α} (h : Post K mg T E ρ H R Q r) (q : ∀ b H', Q b H' → Q' b H') : Post K mg T E ρ H R Q' r := by
  cases r with
  | ok a S => exact fun ρ2 H2 b l2 h1 h2 => q _ _ (h ρ2 H2 b l2 h1 h2)
  | ex c w S => exact h
  | bad => exact h
theorem Post.bind {r : Res α} {f : α → Store → Res α'} (h : Post K mg T E ρ H R' Q2 (r.bind f)) :
    Post K mg T E ρ H R (fun b H1 => ∃ ρ1 S1 a, Le ρ H ρ1 H1 ∧ RS K T ρ1 S1 H1 ∧ R ρ1 H1 a b ∧ Post K mg T E ρ1 H1 R' Q2 (f a S1)) r := by
  cases r with
  | ok a S => exact fun ρ1 H1 b l h1 h2 => ⟨ρ1, S, a, l, h1, h2, Post.le (show Post K mg T E ρ H R' Q2 (f a S) from h) l⟩
  | ex c w S => exact h
  | bad => exact h
theorem PostS.le {r : Rs} (h : PostS K mg T W Dd ρ H r) (l : Le ρ H ρ' H') : PostS K mg T W Dd ρ' H' r := by
  cases r with
  | nx s S => exact fun ρ2 H2 b l2 => h ρ2 H2 b (l.trans l2)
  | rt s S => exact fun ρ2 H2 b l2 => h ρ2 H2 b (l.trans l2)
  | bk s S => exact fun ρ2 H2 b l2 => h ρ2 H2 b (l.trans l2)
  | ct s S => exact fun ρ2 H2 b l2 => h ρ2 H2 b (l.trans l2)
  | ex c w s S => exact fun ρ2 H2 σ v dd C l2 => h ρ2 H2 σ v dd C (l.trans l2)
  | bad => exact h
theorem PostS.ofE {S : Store} {s : Env} {σ : L2.St} {r : Res α} {k : α → Store → Rs} (rs : RS K T ρ S H) (re : RE K ρ H s σ) (h : PostS K mg T W Dd ρ H (ofE r s k)) :
    Post K mg T (WE W σ) ρ H R (fun b H1 => ∃ ρ1 S1 a, Le ρ H ρ1 H1 ∧ RS K T ρ1 S1 H1 ∧ RE K ρ1 H1 s σ ∧ R ρ1 H1 a b ∧ PostS K mg T W Dd ρ1 H1 (k a S1)) r := by
  cases r with
  | ok a S => exact fun ρ1 H1 b l h1 h2 => ⟨ρ1, S, a, l, h1, re.le rs l, h2, PostS.le (show PostS K mg T W Dd ρ H (k a S) from h) l⟩
  | ex c w S => exact fun ρ1 H1 v dd C l h1 h2 h3 h4 => h ρ1 H1 σ v dd C l h1 (re.le rs l) h2 h3 h4
  | bad => exact h
end

/-! ### functional readings of syntax -/
section
variable (X : Cx) (T : Tbs) (W : WX)
def TEf (f : FE) : TE := fun σ H Q => ∃ ρ S s, RS X.K T ρ S H ∧ RE X.K ρ H s σ ∧ Post X.K X.mg T (WE W σ) ρ H (RD X.K) Q (f s S)
def TTf (f : FT) : TT := fun σ H Q => ∃ ρ S s, RS X.K T ρ S H ∧ RE X.K ρ H s σ ∧ Post X.K X.mg T (WE W σ) ρ H RB Q (f s S)
def TAf (f : FA) : TA := fun σ H Q => ∃ ρ S s, RS X.K T ρ S H ∧ RE X.K ρ H s σ ∧ Post X.K X.mg T (WE W σ) ρ H (RDs X.K) Q (f s S)
def TSf (f : FS) : TS := fun D σ H => ∃ ρ S s, RS X.K T ρ S H ∧ RE X.K ρ H s σ ∧ PostS X.K X.mg T W D ρ H (f s S)
abbrev EV (e : Expr) (f : FE) : Prop := PE X e (TEf X T W f)
abbrev ET (e : Expr) (f : FT) : Prop := PT X e (TTf X T W f)
abbrev EW (e : Expr) (f : FT) : Prop := PW X e (TTf X T W f)
abbrev EA (es : List Expr) (f : FA) : Prop := PA X es (TAf X T W f)
abbrev ES (st : Stmt) (f : FS) : Prop := PS X st (TSf X T W f)
abbrev ESs (st : List Stmt) (f : FS) : Prop := PSs X st (TSf X T W f)
end
theorem PE.imp {X : Cx} {e : Expr} {t t' : TE} (h : PE X e t) (i : ∀ σ H Q, t' σ H Q → t σ H Q) : PE X e t' := ⟨fun pins s σ H Q I q => h.run pins s σ H Q I (i σ H Q q)⟩
theorem PT.imp {X : Cx} {e : Expr} {t t' : TT} (h : PT X e t) (i : ∀ σ H Q, t' σ H Q → t σ H Q) : PT X e t' := ⟨fun pins s σ H Q I q => h.run pins s σ H Q I (i σ H Q q)⟩
theorem PW.imp {X : Cx} {e : Expr} {t t' : TT} (h : PW X e t) (i : ∀ σ H Q, t' σ H Q → t σ H Q) : PW X e t' := ⟨fun wh pins s σ H Q I q => h.run wh pins s σ H Q I (i σ H Q q)⟩
theorem PA.imp {X : Cx} {e : List Expr} {t t' : TA} (h : PA X e t) (i : ∀ σ H Q, t' σ H Q → t σ H Q) : PA X e t' := ⟨fun pos pins s σ H Q I q => h.run pos pins s σ H Q I (i σ H Q q)⟩
theorem PS.imp {X : Cx} {e : Stmt} {t t' : TS} (h : PS X e t) (i : ∀ D σ H, t' D σ H → t D σ H) : PS X e t' := ⟨fun pins s σ H D I q => h.run pins s σ H D I (i D σ H q)⟩
theorem PSs.imp {X : Cx} {e : List Stmt} {t t' : TS} (h : PSs X e t) (i : ∀ D σ H, t' D σ H → t D σ H) : PSs X e t' := ⟨fun pins s σ H D I q => h.run pins s σ H D I (i D σ H q)⟩
end Wk


set_option Elab.async false
set_option linter.all false
set_option maxRecDepth 100000
set_option maxHeartbeats 4000000
set_option autoImplicit false
/-! WkRules: the functional reading of each construct. -/
namespace Wk
open PySem PySem.Spec PyProof.Rows L2

section
variable {K : PySem.W.Frag} {T : Tbs} {ρ : List Addr} {S : Store} {H : Hp}
theorem RS.lstAt (r : RS K T ρ S H) {l : Nat} {v : V} {ds : List D} (h : RD K ρ H (.ref l) v) (hs : S[l]? = some (.lst ds)) : ∃ a vs, v = .ref a ∧ ρ[l]? = some a ∧ H a = some (.lst vs) ∧ RDs K ρ H ds vs ∧ vs.length ≤ sizeLine := by
  obtain ⟨a, rfl, ha⟩ := h.ref
  obtain ⟨vs, h1, h2, h3⟩ := r.ob l a _ ha hs
  exact ⟨a, vs, rfl, ha, h1, h2, h3⟩
theorem RS.dkAt (r : RS K T ρ S H) {l : Nat} {v : V} {ds : List (Kk × D)} (h : RD K ρ H (.ref l) v) (hs : S[l]? = some (.dk ds)) : ∃ a vs, v = .ref a ∧ ρ[l]? = some a ∧ H a = some (.dK vs) ∧ RKs K ρ H ds vs ∧ vs.length ≤ sizeLine := by
  obtain ⟨a, rfl, ha⟩ := h.ref
  obtain ⟨vs, h1, h2, h3⟩ := r.ob l a _ ha hs
  exact ⟨a, vs, rfl, ha, h1, h2, h3⟩
theorem RS.dtAt (r : RS K T ρ S H) {l : Nat} {v : V} {ds : List (List Kk × D)} (h : RD K ρ H (.ref l) v) (hs : S[l]? = some (.dt ds)) : ∃ a vs, v = .ref a ∧ ρ[l]? = some a ∧ H a = some (.dT vs) ∧ RKs K ρ H ds vs ∧ vs.length ≤ sizeLine := by
  obtain ⟨a, rfl, ha⟩ := h.ref
  obtain ⟨vs, h1, h2, h3⟩ := r.ob l a _ ha hs
  exact ⟨a, vs, rfl, ha, h1, h2, h3⟩
end

section
variable {X : Cx} {T : Tbs} {W : WX} {pos : Pos}
/-! ### names, constants -/
theorem ev_v (i : Nat) {x : Str} (hN : X.N[i]? = some x := by rfl) (hv : Vis X.env.scope x := by first | exact Or.inl rfl | exact Or.inr (Or.inl rfl) | exact Or.inr (Or.inr rfl)) (hd : (x == ("__debug__" : Str)) = false := by decide) (hcd : (x == ("__classdict__" : Str)) = false := by decide) :
    EV X T W (.Name x pos) (eV i) := by
  refine PE.imp (pe_var hN hv hd hcd) ?_
  rintro σ H Q ⟨ρ, S, s, rs, re, h⟩
  unfold eV at h
  cases e : s[i]? with
  | none => rw [e] at h; exact h.elim
  | some o =>
    rw [e] at h
    cases o with
    | none => exact h.elim
    | some d =>
      obtain ⟨y, hy, r⟩ := Paired.get1 re e
      cases y with
      | none => exact (show False from r).elim
      | some v => exact ⟨v, hy, h ρ H v (Le.refl _ _) rs r⟩
theorem ev_int {i : Int} {j : Nat} : EV X T W (.Constant (.int i) j pos) (eC (.int i)) := by
  refine PE.imp pe_int ?_
  rintro σ H Q ⟨ρ, S, s, rs, re, h⟩
  exact h ρ H _ (Le.refl _ _) rs rd_int
theorem ev_bl {b : Bool} {j : Nat} : EV X T W (.Constant (.bool b) j pos) (eC (.bl b)) := by
  refine PE.imp pe_bl ?_
  rintro σ H Q ⟨ρ, S, s, rs, re, h⟩
  exact h ρ H _ (Le.refl _ _) rs rd_bl
theorem ev_non {j : Nat} : EV X T W (.Constant .none j pos) (eC .non) := by
  refine PE.imp pe_non ?_
  rintro σ H Q ⟨ρ, S, s, rs, re, h⟩
  exact h ρ H _ (Le.refl _ _) rs rd_non
theorem ev_str {x : Str} {j : Nat} : EV X T W (.Constant (.str x) j pos) (eC (.str x)) := by
  refine PE.imp pe_str ?_
  rintro σ H Q ⟨ρ, S, s, rs, re, h⟩
  exact h ρ H _ (Le.refl _ _) rs rd_str
/-- a module's constant -/
theorem ev_globI {x : Str} {i : Int} {t : Tok} (hm : X.mg x = some (.int i t)) (hg : Gl X x := by rfl) (hd : (x == ("__debug__" : Str)) = false := by decide) : EV X T W (.Name x pos) (eC (.int i)) := by
  refine PE.imp (pe_glob (v := .int i) hg hm ⟨_, rfl⟩ hd) ?_
  rintro σ H Q ⟨ρ, S, s, rs, re, h⟩
  exact h ρ H _ (Le.refl _ _) rs rd_int

/-! ### arguments, displays -/
theorem ea_nil : EA X T W [] aNil := by
  refine PA.imp pa_nil ?_
  rintro σ H Q ⟨ρ, S, s, rs, re, h⟩
  exact h ρ H _ (Le.refl _ _) rs (by unfold RDs; rfl)
theorem ea_cons {e : Expr} {es : List Expr} {f : FE} {g : FA} (ha : EV X T W e f) (hr : EA X T W es g) (hs : starEach (e :: es) X.env = (false, eval e X.env) :: starEach es X.env := by rfl) : EA X T W (e :: es) (aCons f g) := by
  refine PA.imp (pa_cons ha hr hs) ?_
  rintro σ H Q ⟨ρ, S, s, rs, re, h⟩
  refine ⟨ρ, S, s, rs, re, (Post.bind (R := RD X.K) h).imp ?_⟩
  rintro x H1 ⟨ρ1, S1, d, l1, rs1, rd1, h1⟩
  refine ⟨ρ1, S1, s, rs1, re.le rs l1, (Post.bind (R := RDs X.K) h1).imp ?_⟩
  rintro xs H2 ⟨ρ2, S2, ds, l2, rs2, rd2, h2⟩
  exact h2 ρ2 H2 (x :: xs) (Le.refl _ _) rs2 (by unfold RDs; exact ⟨x, xs, rfl, rd1.le rs1 l2, rd2⟩)
theorem ev_tup {es : List Expr} {f : FA} {x1} (h : EA X T W es f) : EV X T W (.Tuple es x1 pos) (eTup f) := by
  refine PE.imp (pe_tup h) ?_
  rintro σ H Q ⟨ρ, S, s, rs, re, h⟩
  refine ⟨ρ, S, s, rs, re, (Post.bind (R := RDs X.K) h).imp ?_⟩
  rintro xs H1 ⟨ρ1, S1, ds, l1, rs1, rd1, h1⟩
  have hl := rd1.len
  by_cases hz : ds.length ≤ LIM
  · rw [if_pos hz] at h1
    rw [lim_eq, hl] at hz
    refine ⟨hz, fun p hp => ?_⟩
    obtain ⟨a, b, c⟩ := tup_new rs1 hp rd1 hz
    exact h1 _ _ _ a b c
  · rw [if_neg hz] at h1; exact h1.elim
theorem ev_lst {es : List Expr} {f : FA} (h : EA X T W es f) : EV X T W (.List es pos) (eLst f) := by
  refine PE.imp (pe_lst h) ?_
  rintro σ H Q ⟨ρ, S, s, rs, re, h⟩
  refine ⟨ρ, S, s, rs, re, (Post.bind (R := RDs X.K) h).imp ?_⟩
  rintro xs H1 ⟨ρ1, S1, ds, l1, rs1, rd1, h1⟩
  have hl := rd1.len
  by_cases hz : ds.length ≤ LIM
  · rw [if_pos hz] at h1
    rw [lim_eq, hl] at hz
    refine ⟨hz, fun p hp => ?_⟩
    obtain ⟨a, b, c⟩ := lst_new rs1 hp rd1 hz
    exact h1 _ _ _ a b c
  · rw [if_neg hz] at h1; exact h1.elim
theorem ev_dictK : EV X T W (.Dict [] [] pos) eDictK := by
  refine PE.imp pe_dnewK ?_
  rintro σ H Q ⟨ρ, S, s, rs, re, h⟩
  intro p hp
  obtain ⟨a, b, c⟩ := dk_new (ds := []) (vs := []) rs hp .nil (Nat.zero_le _)
  exact h _ _ _ a b c
theorem ev_dictT : EV X T W (.Dict [] [] pos) eDictT := by
  refine PE.imp pe_dnewT ?_
  rintro σ H Q ⟨ρ, S, s, rs, re, h⟩
  intro p hp
  obtain ⟨a, b, c⟩ := dt_new (ds := []) (vs := []) rs hp .nil (Nat.zero_le _)
  exact h _ _ _ a b c

/-! ### operators by values -/
variable (X T) in
/-- a two-place rule and its function -/
def OpS (r : R2) (o : Op) : Prop := ∀ (E : XK) (ρ : List Addr) (S : Store) (H : Hp) (x y : D) (v w : V) (Q : VK), RS X.K T ρ S H → RD X.K ρ H x v → RD X.K ρ H y w → Post X.K X.mg T E ρ H (RD X.K) Q (o x y S) → r v w H Q
variable (X T) in
def UnS (r : V → Hp → VK → Prop) (o : D → Store → Res D) : Prop := ∀ (E : XK) (ρ : List Addr) (S : Store) (H : Hp) (x : D) (v : V) (Q : VK), RS X.K T ρ S H → RD X.K ρ H x v → Post X.K X.mg T E ρ H (RD X.K) Q (o x S) → r v H Q
variable {a b c : Expr} {fa fb fc : FE}
theorem tef_op {r : R2} {o : Op} (hs : OpS X T r o) : ∀ σ H Q, TEf X T W (eOp o fa fb) σ H Q → tOp r (TEf X T W fa) (TEf X T W fb) σ H Q := by
  rintro σ H Q ⟨ρ, S, s, rs, re, h⟩
  refine ⟨ρ, S, s, rs, re, (Post.bind (R := RD X.K) h).imp ?_⟩
  rintro v H1 ⟨ρ1, S1, x, l1, rs1, rd1, h1⟩
  refine ⟨ρ1, S1, s, rs1, re.le rs l1, (Post.bind (R := RD X.K) h1).imp ?_⟩
  rintro w H2 ⟨ρ2, S2, y, l2, rs2, rd2, h2⟩
  exact hs _ ρ2 S2 H2 x y v w Q rs2 (rd1.le rs1 l2) rd2 h2
theorem tef_un {r : V → Hp → VK → Prop} {o : D → Store → Res D} (hs : UnS X T r o) : ∀ σ H Q, TEf X T W (eUn o fa) σ H Q → tUn r (TEf X T W fa) σ H Q := by
  rintro σ H Q ⟨ρ, S, s, rs, re, h⟩
  refine ⟨ρ, S, s, rs, re, (Post.bind (R := RD X.K) h).imp ?_⟩
  rintro v H1 ⟨ρ1, S1, x, l1, rs1, rd1, h1⟩
  exact hs _ ρ1 S1 H1 x v Q rs1 rd1 h1
theorem ev_op {op : Operator} {r : R2} {o : Op} (hs : OpR X (binaryOp op) r ∧ OpS X T r o) (ha : EV X T W a fa) (hb : EV X T W b fb) : EV X T W (.BinOp a op b pos) (eOp o fa fb) := PE.imp (pe_op hs.1 ha hb) (tef_op hs.2)
theorem ev_un {op : UnaryOp} {r : V → Hp → VK → Prop} {o : D → Store → Res D} (hs : UnR X (unaryOp op) r ∧ UnS X T r o) (ha : EV X T W a fa) : EV X T W (.UnaryOp op a pos) (eUn o fa) := PE.imp (pe_un hs.1 ha) (tef_un hs.2)
theorem ev_cmp {op : CmpOp} {r : R2} {o : Op} (hs : OpR X (compareOp op) r ∧ OpS X T r o) (ha : EV X T W a fa) (hb : EV X T W b fb) (hm : behindInMarks op b = false := by first | exact nomark _ | rfl) : EV X T W (.Compare a [op] [b] pos) (eOp o fa fb) := PE.imp (pe_cmpR hs.1 ha hb hm) (tef_op hs.2)
theorem ev_ix {r : R2} {o : Op} (hs : IxR X r ∧ OpS X T r o) (ha : EV X T W a fa) (hb : EV X T W b fb) (hp : PlainIx b := by exact fun _ _ => rfl) : EV X T W (.Subscript a b pos) (eOp o fa fb) := PE.imp (pe_ix hs.1 ha hb hp) (tef_op hs.2)
theorem ev_chain {op op' : CmpOp} {r r' : R2} {o o' : Op} (hs : OpR X (compareOp op) r ∧ OpS X T r o) (hs' : OpR X (compareOp op') r' ∧ OpS X T r' o') (ha : EV X T W a fa) (hb : EV X T W b fb) (hc : EV X T W c fc) (hm : lastMarks [op, op'] [b, c] = false := by with_unfolding_all rfl) :
    EV X T W (.Compare a [op, op'] [b, c] pos) (eChain o o' fa fb fc) := by
  refine PE.imp (pe_chain hs.1 hs'.1 ha hb hc hm) ?_
  rintro σ H Q ⟨ρ, S, s, rs, re, h⟩
  refine ⟨ρ, S, s, rs, re, (Post.bind (R := RD X.K) h).imp ?_⟩
  rintro v H1 ⟨ρ1, S1, x, l1, rs1, rd1, h1⟩
  refine ⟨ρ1, S1, s, rs1, re.le rs l1, (Post.bind (R := RD X.K) h1).imp ?_⟩
  rintro w H2 ⟨ρ2, S2, y, l2, rs2, rd2, h2⟩
  refine hs.2 _ ρ2 S2 H2 x y v w _ rs2 (rd1.le rs1 l2) rd2 ((Post.bind (R := RD X.K) h2).imp ?_)
  rintro z H3 ⟨ρ3, S3, dz, l3, rs3, rd3, h3⟩
  cases dz with
  | bl k =>
    refine ⟨k, rd3.bl, ?_⟩
    cases k with
    | true =>
      rw [if_pos rfl]
      refine ⟨ρ3, S3, s, rs3, ((re.le rs l1).le rs1 l2).le rs2 l3, (Post.bind (R := RD X.K) h3).imp ?_⟩
      rintro w' H4 ⟨ρ4, S4, d4, l4, rs4, rd4, h4⟩
      exact hs'.2 _ ρ4 S4 H4 y d4 w w' Q rs4 ((rd2.le rs2 l3).le rs3 l4) rd4 h4
    | false =>
      rw [if_neg (by decide)]
      exact h3 ρ3 H3 _ (Le.refl _ _) rs3 rd_bl
  | _ => exact (show False from h3).elim

/-! ### tests -/
theorem ttf_e {f : FE} : ∀ σ H Q, TTf X T W (tE f) σ H Q → tB (TEf X T W f) σ H Q := by
  rintro σ H Q ⟨ρ, S, s, rs, re, h⟩
  refine ⟨ρ, S, s, rs, re, (Post.bind (R := RD X.K) h).imp ?_⟩
  rintro v H1 ⟨ρ1, S1, x, l1, rs1, rd1, h1⟩
  cases x with
  | bl k => exact ⟨k, rd1.bl, h1 ρ1 H1 k (Le.refl _ _) rs1 rfl⟩
  | _ => exact (show False from h1).elim
/-- an expression whose value is a truth -/
theorem et_e {f : FE} (h : EV X T W a f) (he : ∀ whole, isTrue a X.env whole = (do let v ← whole; standAt a.pos; holding [v] (truthy v)) := by intro _; rfl) : ET X T W a (tE f) := PT.imp (pt_val h he) ttf_e
theorem et_cmp {op : CmpOp} {r : R2} {o : Op} (hs : OpR X (compareOp op) r ∧ OpS X T r o) (ha : EV X T W a fa) (hb : EV X T W b fb) (hm : behindInMarks op b = false := by first | exact nomark _ | rfl) : ET X T W (.Compare a [op] [b] pos) (tE (eOp o fa fb)) := by
  refine PT.imp (pt_cmpR hs.1 ha hb hm) ?_
  intro σ H Q h
  obtain ⟨ρ, S, s, rs, re, h⟩ := ttf_e _ _ _ h
  exact tef_op hs.2 _ _ _ ⟨ρ, S, s, rs, re, h⟩
theorem et_chain {op op' : CmpOp} {r r' : R2} {o o' : Op} (hs : OpR X (compareOp op) r ∧ OpS X T r o) (hs' : OpR X (compareOp op') r' ∧ OpS X T r' o') (ha : EV X T W a fa) (hb : EV X T W b fb) (hc : EV X T W c fc) (hm : lastMarks [op, op'] [b, c] = false := by with_unfolding_all rfl) :
    ET X T W (.Compare a [op, op'] [b, c] pos) (tE (eChain o o' fa fb fc)) := by
  refine PT.imp (pt_chain hs.1 hs'.1 ha hb hc hm) ?_
  intro σ H Q h
  obtain ⟨ρ, S, s, rs, re, h⟩ := ttf_e _ _ _ h
  refine ⟨ρ, S, s, rs, re, (Post.bind (R := RD X.K) h).imp ?_⟩
  rintro v H1 ⟨ρ1, S1, x, l1, rs1, rd1, h1⟩
  refine ⟨ρ1, S1, s, rs1, re.le rs l1, (Post.bind (R := RD X.K) h1).imp ?_⟩
  rintro w H2 ⟨ρ2, S2, y, l2, rs2, rd2, h2⟩
  refine hs.2 _ ρ2 S2 H2 x y v w _ rs2 (rd1.le rs1 l2) rd2 ((Post.bind (R := RD X.K) h2).imp ?_)
  rintro z H3 ⟨ρ3, S3, dz, l3, rs3, rd3, h3⟩
  cases dz with
  | bl k =>
    refine ⟨k, rd3.bl, ?_⟩
    cases k with
    | true =>
      rw [if_pos rfl]
      refine ⟨ρ3, S3, s, rs3, ((re.le rs l1).le rs1 l2).le rs2 l3, (Post.bind (R := RD X.K) h3).imp ?_⟩
      rintro w' H4 ⟨ρ4, S4, d4, l4, rs4, rd4, h4⟩
      exact hs'.2 _ ρ4 S4 H4 y d4 w w' _ rs4 ((rd2.le rs2 l3).le rs3 l4) rd4 h4
    | false =>
      rw [if_neg (by decide)]
      exact h3 ρ3 H3 _ (Le.refl _ _) rs3 rd_bl
  | _ => exact (show False from h3).elim
variable {t u : FT} {rest : List Expr}
theorem ew_and1 (ha : ET X T W a t) : EW X T W (.BoolOp .And [a] pos) t := pw_and1 ha
theorem ew_or1 (ha : ET X T W a t) : EW X T W (.BoolOp .Or [a] pos) t := pw_or1 ha
theorem ew_and (ha : ET X T W a t) (hb : EW X T W (.BoolOp .And (b :: rest) pos) u) : EW X T W (.BoolOp .And (a :: b :: rest) pos) (tAnd t u) := by
  refine PW.imp (pw_and ha hb) ?_
  rintro σ H Q ⟨ρ, S, s, rs, re, h⟩
  refine ⟨ρ, S, s, rs, re, (Post.bind (R := RB) h).imp ?_⟩
  rintro k H1 ⟨ρ1, S1, k', l1, rs1, rfl, h1⟩
  cases k' with
  | true =>
    rw [if_pos rfl] at h1 ⊢
    exact ⟨ρ1, S1, s, rs1, re.le rs l1, h1⟩
  | false =>
    rw [if_neg (by decide)] at h1 ⊢
    exact h1 ρ1 H1 false (Le.refl _ _) rs1 rfl
theorem ew_or (ha : ET X T W a t) (hb : EW X T W (.BoolOp .Or (b :: rest) pos) u) : EW X T W (.BoolOp .Or (a :: b :: rest) pos) (tOr t u) := by
  refine PW.imp (pw_or ha hb) ?_
  rintro σ H Q ⟨ρ, S, s, rs, re, h⟩
  refine ⟨ρ, S, s, rs, re, (Post.bind (R := RB) h).imp ?_⟩
  rintro k H1 ⟨ρ1, S1, k', l1, rs1, rfl, h1⟩
  cases k' with
  | true =>
    rw [if_pos rfl] at h1 ⊢
    exact h1 ρ1 H1 true (Le.refl _ _) rs1 rfl
  | false =>
    rw [if_neg (by decide)] at h1 ⊢
    exact ⟨ρ1, S1, s, rs1, re.le rs l1, h1⟩
theorem et_w (h : EW X T W a t) : ET X T W a t := PW.pt h
theorem et_not (ha : ET X T W a t) : ET X T W (.UnaryOp .Not a pos) (Wk.tNot t) := by
  refine PT.imp (pt_not ha) ?_
  rintro σ H Q ⟨ρ, S, s, rs, re, h⟩
  refine ⟨ρ, S, s, rs, re, (Post.bind (R := RB) h).imp ?_⟩
  rintro k H1 ⟨ρ1, S1, k', l1, rs1, rfl, h1⟩
  exact h1 ρ1 H1 _ (Le.refl _ _) rs1 rfl
theorem ev_one {op : BoolOp} {f : FE} (h : EV X T W a f) : EV X T W (.BoolOp op [a] pos) f := pe_one h
theorem ev_and (ha : EV X T W a fa) (hb : EV X T W (.BoolOp .And (b :: rest) pos) fb) : EV X T W (.BoolOp .And (a :: b :: rest) pos) (eAnd fa fb) := by
  refine PE.imp (pe_and ha hb) ?_
  rintro σ H Q ⟨ρ, S, s, rs, re, h⟩
  obtain ⟨ρ, S, s, rs, re, h⟩ := ttf_e σ H (fun k H1 => if k = true then TEf X T W fb σ H1 Q else Q (.bl false) H1) (by
    refine ⟨ρ, S, s, rs, re, (Post.bind (R := RB) h).imp ?_⟩
    rintro k H1 ⟨ρ1, S1, k', l1, rs1, rfl, h1⟩
    cases k' with
    | true => rw [if_pos rfl] at h1 ⊢; exact ⟨ρ1, S1, s, rs1, re.le rs l1, h1⟩
    | false => rw [if_neg (by decide)] at h1 ⊢; exact h1 ρ1 H1 _ (Le.refl _ _) rs1 rd_bl)
  exact ⟨ρ, S, s, rs, re, h⟩
theorem ev_or (ha : EV X T W a fa) (hb : EV X T W (.BoolOp .Or (b :: rest) pos) fb) : EV X T W (.BoolOp .Or (a :: b :: rest) pos) (eOr fa fb) := by
  refine PE.imp (pe_or ha hb) ?_
  rintro σ H Q ⟨ρ, S, s, rs, re, h⟩
  obtain ⟨ρ, S, s, rs, re, h⟩ := ttf_e σ H (fun k H1 => if k = true then Q (.bl true) H1 else TEf X T W fb σ H1 Q) (by
    refine ⟨ρ, S, s, rs, re, (Post.bind (R := RB) h).imp ?_⟩
    rintro k H1 ⟨ρ1, S1, k', l1, rs1, rfl, h1⟩
    cases k' with
    | true => rw [if_pos rfl] at h1 ⊢; exact h1 ρ1 H1 _ (Le.refl _ _) rs1 rd_bl
    | false => rw [if_neg (by decide)] at h1 ⊢; exact ⟨ρ1, S1, s, rs1, re.le rs l1, h1⟩)
  exact ⟨ρ, S, s, rs, re, h⟩
theorem ev_not (ha : EV X T W a fa) : EV X T W (.UnaryOp .Not a pos) (eNot fa) := by
  refine PE.imp (pe_not ha) ?_
  rintro σ H Q ⟨ρ, S, s, rs, re, h⟩
  obtain ⟨ρ, S, s, rs, re, h⟩ := ttf_e σ H (fun k H1 => Q (.bl (!k)) H1) (by
    refine ⟨ρ, S, s, rs, re, (Post.bind (R := RB) h).imp ?_⟩
    rintro k H1 ⟨ρ1, S1, k', l1, rs1, rfl, h1⟩
    exact h1 ρ1 H1 _ (Le.refl _ _) rs1 rd_bl)
  exact ⟨ρ, S, s, rs, re, h⟩
theorem ev_if (hc : ET X T W c t) (ha : EV X T W a fa) (hb : EV X T W b fb) : EV X T W (.IfExp c a b pos) (eIf t fa fb) := by
  refine PE.imp (pe_ifExp hc ha hb) ?_
  rintro σ H Q ⟨ρ, S, s, rs, re, h⟩
  refine ⟨ρ, S, s, rs, re, (Post.bind (R := RB) h).imp ?_⟩
  rintro k H1 ⟨ρ1, S1, k', l1, rs1, rfl, h1⟩
  cases k' with
  | true => rw [if_pos rfl] at h1 ⊢; exact ⟨ρ1, S1, s, rs1, re.le rs l1, h1⟩
  | false => rw [if_neg (by decide)] at h1 ⊢; exact ⟨ρ1, S1, s, rs1, re.le rs l1, h1⟩
end
end Wk


set_option Elab.async false
set_option linter.all false
set_option maxRecDepth 100000
set_option maxHeartbeats 4000000
set_option autoImplicit false
/-! WkOps: the functional reading of operators by values. -/
namespace Wk
open PySem PySem.Spec PyProof.Rows L2
section
variable {X : Cx} {T : Tbs}
theorem noFl {α : Prop} (h : False) : α := h.elim

/-! ### + -/
abbrev rAddA (K : PySem.W.Frag) : R2 := fun x y H Q => (fun x y H Q => (rI0 fun i j => .int (i + j)) x y H Q ∨ (fun x y H Q => ∃ i j, x = .str i ∧ y = .str j ∧ i.length + j.length ≤ sizeLine ∧ Q (.str (i ++ j)) H) x y H Q) x y H Q ∨ (fun x y H Q => rCatA K x y H Q ∨ rCat x y H Q) x y H Q
theorem os_add : OpR X (binaryOp .Add) (rAddA X.K) ∧ OpS X T (rAddA X.K) oAdd := by
  refine ⟨OpR.or (OpR.or op_add op_add_str) (OpR.or op_catA op_cat), ?_⟩
  intro E ρ S H x y v w Q rs rx ry h
  cases x with
  | int i =>
    cases y with
    | int j =>
      rw [rx.int, ry.int]
      exact .inl (.inl ⟨i, j, rfl, rfl, h ρ H _ (Le.refl _ _) rs rd_int⟩)
    | _ => exact (show False from h).elim
  | str i =>
    cases y with
    | str j =>
      rw [rx.str, ry.str]
      by_cases hz : i.length + j.length ≤ LIM
      · rw [show oAdd (.str i) (.str j) S = .ok (.str (i ++ j)) S from if_pos hz] at h
        exact .inl (.inr ⟨i, j, rfl, rfl, by rw [← lim_eq]; exact hz, h ρ H _ (Le.refl _ _) rs rd_str⟩)
      · rw [show oAdd (.str i) (.str j) S = .bad from if_neg hz] at h
        exact (show False from h).elim
    | _ => exact (show False from h).elim
  | tup i =>
    cases y with
    | tup j =>
      obtain ⟨a, vs, rfl, ta, ra⟩ := rx.tup
      obtain ⟨b, ws, rfl, tb, rb⟩ := ry.tup
      by_cases hz : i.length + j.length ≤ LIM
      · rw [show oAdd (.tup i) (.tup j) S = .ok (.tup (i ++ j)) S from if_pos hz] at h
        rw [lim_eq, ra.len, rb.len] at hz
        refine .inr (.inl ⟨a, b, vs, ws, rfl, rfl, ta.sq, tb.sq, hz, fun e => ?_, fun _ e => ?_, fun _ _ p hp => ?_⟩)
        · have e1 : i = [] := List.length_eq_zero_iff.mp (by rw [ra.len, e]; rfl)
          subst e1
          exact h ρ H _ (Le.refl _ _) rs (rd_tup tb rb)
        · have e1 : j = [] := List.length_eq_zero_iff.mp (by rw [rb.len, e]; rfl)
          subst e1
          rw [List.append_nil] at h
          exact h ρ H _ (Le.refl _ _) rs (rd_tup ta ra)
        · obtain ⟨q1, q2, q3⟩ := tup_new rs hp (RDs.of (Paired.app ra.pair rb.pair)) (by rw [List.length_append]; exact hz)
          exact h _ _ _ q1 q2 q3
      · rw [show oAdd (.tup i) (.tup j) S = .bad from if_neg hz] at h
        exact (show False from h).elim
    | _ => exact (show False from h).elim
  | ref l =>
    cases y with
    | ref m =>
      unfold oAdd at h
      dsimp only at h
      split at h
      · rename_i a b e1 e2
        obtain ⟨p, vs, rfl, hp, hv, ra, za⟩ := rs.lstAt rx e1
        obtain ⟨q, ws, rfl, hq, hw, rb, zb⟩ := rs.lstAt ry e2
        by_cases hz : a.length + b.length ≤ LIM
        · rw [if_pos hz] at h
          rw [lim_eq, ra.len, rb.len] at hz
          refine .inr (.inr ⟨p, q, vs, ws, rfl, rfl, hv, hw, hz, fun p hp => ?_⟩)
          obtain ⟨q1, q2, q3⟩ := lst_new rs hp (RDs.of (Paired.app ra.pair rb.pair)) (by rw [List.length_append]; exact hz)
          exact h _ _ _ q1 q2 q3
        · rw [if_neg hz] at h; exact (show False from h).elim
      · exact (show False from h).elim
    | _ => exact (show False from h).elim
  | _ => cases y <;> exact (show False from h).elim

/-! ### ints -/
theorem os_I {f : Value → Value → Sem Value} {C : Int → Int → Prop} {g : Int → Int → V} {o : Op} {gd : Int → Int → D} (ho : OpR X f (rI C g)) (hg : ∀ i j K ρ H, RD K ρ H (gd i j) (g i j))
    (h1 : ∀ i j S, (C i j ∧ o (.int i) (.int j) S = .ok (gd i j) S) ∨ o (.int i) (.int j) S = .bad) (h2 : ∀ x y S, (∃ i j, x = .int i ∧ y = .int j) ∨ o x y S = .bad) : OpR X f (rI C g) ∧ OpS X T (rI C g) o := by
  refine ⟨ho, ?_⟩
  intro E ρ S H x y v w Q rs rx ry h
  rcases h2 x y S with ⟨i, j, rfl, rfl⟩ | e
  · rcases h1 i j S with ⟨hc, e⟩ | e
    · rw [e] at h
      exact ⟨i, j, rx.int, ry.int, hc, h ρ H _ (Le.refl _ _) rs (hg ..)⟩
    · rw [e] at h; exact (show False from h).elim
  · rw [e] at h; exact (show False from h).elim
theorem os_I0 {f : Value → Value → Sem Value} {g : Int → Int → V} {o : Op} {gd : Int → Int → D} (ho : OpR X f (rI0 g)) (hg : ∀ i j K ρ H, RD K ρ H (gd i j) (g i j))
    (h1 : ∀ i j S, o (.int i) (.int j) S = .ok (gd i j) S) (h2 : ∀ x y S, (∃ i j, x = .int i ∧ y = .int j) ∨ o x y S = .bad) : OpR X f (rI0 g) ∧ OpS X T (rI0 g) o := by
  refine ⟨ho, ?_⟩
  intro E ρ S H x y v w Q rs rx ry h
  rcases h2 x y S with ⟨i, j, rfl, rfl⟩ | e
  · rw [h1 i j S] at h
    exact ⟨i, j, rx.int, ry.int, h ρ H _ (Le.refl _ _) rs (hg ..)⟩
  · rw [e] at h; exact (show False from h).elim
theorem os_sub : OpR X (binaryOp .Sub) (rI0 fun i j => .int (i - j)) ∧ OpS X T (rI0 fun i j => .int (i - j)) oSub :=
  os_I0 (gd := fun i j => .int (i - j)) op_sub (fun _ _ _ _ _ => rd_int) (fun _ _ _ => rfl) (fun x y S => by cases x <;> first | exact .inr rfl | (cases y <;> first | exact .inr rfl | exact .inl ⟨_, _, rfl, rfl⟩))
theorem os_fdiv : OpR X (binaryOp .FloorDiv) (rI CDivW fun i j => .int (i / j)) ∧ OpS X T (rI CDivW fun i j => .int (i / j)) oFdiv :=
  os_I (gd := fun i j => .int (i / j)) op_fdivW (fun _ _ _ _ _ => rd_int) (fun i j S => by
    by_cases h : 0 < j ∧ j.natAbs.log2 < 9000
    · exact .inl ⟨h, if_pos h⟩
    · exact .inr (if_neg h)) (fun x y S => by cases x <;> first | exact .inr rfl | (cases y <;> first | exact .inr rfl | exact .inl ⟨_, _, rfl, rfl⟩))
theorem os_mod : OpR X (binaryOp .Mod) (rI (fun _ j => 0 < j) fun i j => .int (i % j)) ∧ OpS X T (rI (fun _ j => 0 < j) fun i j => .int (i % j)) oMod :=
  os_I (gd := fun i j => .int (i % j)) op_mod (fun _ _ _ _ _ => rd_int) (fun i j S => by
    by_cases h : 0 < j
    · exact .inl ⟨h, if_pos h⟩
    · exact .inr (if_neg h)) (fun x y S => by cases x <;> first | exact .inr rfl | (cases y <;> first | exact .inr rfl | exact .inl ⟨_, _, rfl, rfl⟩))
theorem os_pow : OpR X (binaryOp .Pow) (rI CPow fun i j => .int (i ^ j.toNat)) ∧ OpS X T (rI CPow fun i j => .int (i ^ j.toNat)) oPow :=
  os_I (gd := fun i j => .int (i ^ j.toNat)) op_pow (fun _ _ _ _ _ => rd_int) (fun i j S => by
    by_cases h : 0 ≤ j ∧ j ≤ 1000000 ∧ i.natAbs < 2 ^ 64
    · exact .inl ⟨h, if_pos h⟩
    · exact .inr (if_neg h)) (fun x y S => by cases x <;> first | exact .inr rfl | (cases y <;> first | exact .inr rfl | exact .inl ⟨_, _, rfl, rfl⟩))
abbrev rMulB : R2 := fun x y H Q => (rI CMulW fun i j => .int (i * j)) x y H Q ∨ rRep x y H Q
abbrev rMulA (K : PySem.W.Frag) : R2 := fun x y H Q => rMulB x y H Q ∨ rRepT K x y H Q
theorem os_mul : OpR X (binaryOp .Mult) (rMulA X.K) ∧ OpS X T (rMulA X.K) oMul := by
  refine ⟨OpR.or (OpR.or op_mulW op_rep) op_repT, ?_⟩
  intro E ρ S H x y v w Q rs rx ry h
  cases x with
  | int i =>
    cases y with
    | int j =>
      rw [rx.int, ry.int]
      by_cases hc : (bigOk i && bigOk j) = true
      · rw [show oMul (.int i) (.int j) S = .ok (.int (i * j)) S from if_pos hc] at h
        have hc2 := hc
        unfold bigOk at hc2
        simp only [Bool.and_eq_true, decide_eq_true_eq] at hc2
        exact .inl (.inl ⟨i, j, rfl, rfl, (by unfold CMulW; omega), h ρ H _ (Le.refl _ _) rs rd_int⟩)
      · rw [show oMul (.int i) (.int j) S = .bad from if_neg hc] at h
        exact (show False from h).elim
    | _ => exact (show False from h).elim
  | ref l =>
    cases y with
    | int k =>
      rw [ry.int]
      unfold oMul at h
      dsimp only at h
      split at h
      · rename_i a e1
        obtain ⟨p, vs, rfl, hp, hv, ra, za⟩ := rs.lstAt rx e1
        by_cases hc : 0 ≤ k ∧ k ≤ 1000000 ∧ a.length * k.toNat ≤ LIM
        · rw [if_pos hc] at h
          obtain ⟨c1, c2, c3⟩ := hc
          rw [lim_eq, ra.len] at c3
          refine .inl (.inr ⟨p, k, vs, rfl, rfl, hv, by omega, by omega, c3, fun q hq => ?_⟩)
          obtain ⟨q1, q2, q3⟩ := lst_new rs hq (RDs.of (Paired.flat ra.pair k.toNat)) (by
            rw [List.length_flatten, List.map_replicate, List.sum_replicate_nat]
            rw [Nat.mul_comm]; exact c3)
          exact h _ _ _ q1 q2 q3
        · rw [if_neg hc] at h; exact (show False from h).elim
      · exact (show False from h).elim
    | _ => exact (show False from h).elim
  | tup a =>
    cases y with
    | int k =>
      rw [ry.int]
      obtain ⟨p, vs, rfl, ta, ra⟩ := rx.tup
      by_cases hc : a.length ≠ 0 ∧ a.length ≤ 1000 ∧ 2 ≤ k ∧ k ≤ 1000
      · rw [show oMul (.tup a) (.int k) S = .ok (.tup (List.replicate k.toNat a).flatten) S from if_pos hc] at h
        obtain ⟨c1, c2, c3, c4⟩ := hc
        rw [ra.len] at c1 c2
        refine .inr ⟨p, k, vs, rfl, rfl, ta.sq, fun e => c1 (by rw [e]; rfl), c3, c4, c2, fun q hq => ?_⟩
        obtain ⟨q1, q2, q3⟩ := tup_new rs hq (RDs.of (Paired.flat ra.pair k.toNat)) (by
          rw [List.length_flatten, List.map_replicate, List.sum_replicate_nat, sizeLine_eq]
          have a1 : k.toNat * vs.length ≤ 1000 * 1000 := Nat.mul_le_mul (by omega) c2
          omega)
        exact h _ _ _ q1 q2 q3
      · rw [show oMul (.tup a) (.int k) S = .bad from if_neg hc] at h
        exact (show False from h).elim
    | _ => exact (show False from h).elim
  | _ => cases y <;> exact (show False from h).elim
theorem os_cmpI {op : CmpOp} {p : Int → Int → Bool} (ho : OpR X (compareOp op) (rI0 fun i j => .bl (p i j))) : OpR X (compareOp op) (rI0 fun i j => .bl (p i j)) ∧ OpS X T (rI0 fun i j => .bl (p i j)) (oCmp p) :=
  os_I0 (gd := fun i j => .bl (p i j)) ho (fun _ _ _ _ _ => rd_bl) (fun _ _ _ => rfl) (fun x y S => by cases x <;> first | exact .inr rfl | (cases y <;> first | exact .inr rfl | exact .inl ⟨_, _, rfl, rfl⟩))
theorem os_lt : OpR X (compareOp .Lt) (rI0 fun i j => .bl (decide (i < j))) ∧ OpS X T (rI0 fun i j => .bl (decide (i < j))) oLt := os_cmpI op_lt
/-- ints in a row -/
theorem intsD_v {K : PySem.W.Frag} {ρ : List Addr} {H : Hp} : ∀ {ds : List D} {vs : List V} {ns : List Int}, intsD ds = some ns → RDs K ρ H ds vs → vs = ns.map V.int
  | [], vs, ns, h, r => by unfold intsD at h; cases h; unfold RDs at r; subst r; rfl
  | d :: ds, vs, ns, h, r => by
    unfold RDs at r
    obtain ⟨v, w, rfl, r1, r2⟩ := r
    cases d with
    | int i =>
      unfold intsD at h
      split at h
      · rename_i is e
        cases h
        rw [intsD_v e r2, r1.int]; rfl
      · cases h
    | _ => unfold intsD at h; cases h
theorem lexA_eq (e r : Nat → Bool) (z : Bool) : ∀ n i, lexA e r z i n = Ob.lexAt e r z i n := by
  intro n
  induction n with
  | zero => intro i; first | rfl | simp [lexA, Ob.lexAt]
  | succ n ih => intro i; unfold lexA; rw [Ob.lexAt_succ, ih]
abbrev rLeA (K : PySem.W.Frag) : R2 := fun x y H Q => rI0 (fun i j => .bl (decide (i ≤ j))) x y H Q ∨ rLeT K x y H Q
theorem os_le {k : Nat} (hr : Room k X.A) : OpR X (compareOp .LtE) (rLeA X.K) ∧ OpS X T (rLeA X.K) oLe := by
  refine ⟨OpR.or op_le (op_leT hr.units0), ?_⟩
  intro E ρ S H x y v w Q rs rx ry h
  cases x with
  | int i =>
    cases y with
    | int j => exact .inl ⟨i, j, rx.int, ry.int, h ρ H _ (Le.refl _ _) rs rd_bl⟩
    | _ => exact (show False from h).elim
  | tup a =>
    cases y with
    | tup b =>
      unfold oLe at h
      dsimp only at h
      cases e1 : intsD a with
      | none => rw [e1] at h; exact (show False from h).elim
      | some ns =>
        cases e2 : intsD b with
        | none => rw [e1, e2] at h; exact (show False from h).elim
        | some ms =>
          rw [e1, e2] at h
          obtain ⟨p, vs, rfl, ta, ra⟩ := rx.tup
          obtain ⟨q, ws, rfl, tb, rb⟩ := ry.tup
          have ev := intsD_v e1 ra
          have ew := intsD_v e2 rb
          subst ev ew
          refine .inr ⟨p, q, ns, ms, rfl, rfl, ta.sq, tb.sq, ?_⟩
          have h2 := h ρ H _ (Le.refl _ _) rs rd_bl
          unfold lexLe at h2
          rw [lexA_eq] at h2
          exact h2
    | _ => exact (show False from h).elim
  | _ => cases y <;> exact (show False from h).elim
theorem os_gt : OpR X (compareOp .Gt) (rI0 fun i j => .bl (decide (j < i))) ∧ OpS X T (rI0 fun i j => .bl (decide (j < i))) oGt := os_cmpI op_gt
theorem os_ge : OpR X (compareOp .GtE) (rI0 fun i j => .bl (decide (j ≤ i))) ∧ OpS X T (rI0 fun i j => .bl (decide (j ≤ i))) oGe := os_cmpI op_ge
theorem os_neg : UnR X (unaryOp .USub) (rU fun i => .int (-i)) ∧ UnS X T (rU fun i => .int (-i)) uNeg := by
  refine ⟨un_neg, ?_⟩
  intro E ρ S H x v Q rs rx h
  cases x with
  | int i => exact ⟨i, rx.int, h ρ H _ (Le.refl _ _) rs rd_int⟩
  | _ => exact (show False from h).elim
theorem isNon_v {K : PySem.W.Frag} {ρ : List Addr} {H : Hp} {x : D} {v : V} (r : RD K ρ H x v) : decide (v = .non) = isNon x := by
  cases x with
  | non => rw [r.non]; rfl
  | bl b => rw [r.bl]; rfl
  | int b => rw [r.int]; rfl
  | str b => rw [r.str]; rfl
  | tup b => obtain ⟨a, vs, rfl, _⟩ := r.tup; rfl
  | frz b => obtain ⟨a, vs, rfl, _⟩ := r.frz; rfl
  | ref b => obtain ⟨a, rfl, _⟩ := r.ref; rfl
theorem os_isN : OpR X (compareOp .Is) (fun x y H Q => y = .non ∧ Q (.bl (decide (x = .non))) H) ∧ OpS X T (fun x y H Q => y = .non ∧ Q (.bl (decide (x = .non))) H) oIsN := by
  refine ⟨op_isN, ?_⟩
  intro E ρ S H x y v w Q rs rx ry h
  cases y with
  | non => exact ⟨ry.non, by rw [isNon_v rx]; exact h ρ H _ (Le.refl _ _) rs rd_bl⟩
  | _ => exact (show False from h).elim
theorem os_notN : OpR X (compareOp .IsNot) (fun x y H Q => y = .non ∧ Q (.bl (!decide (x = .non))) H) ∧ OpS X T (fun x y H Q => y = .non ∧ Q (.bl (!decide (x = .non))) H) oNotN := by
  refine ⟨op_notN, ?_⟩
  intro E ρ S H x y v w Q rs rx ry h
  cases y with
  | non => exact ⟨ry.non, by rw [isNon_v rx]; exact h ρ H _ (Le.refl _ _) rs rd_bl⟩
  | _ => exact (show False from h).elim
theorem os_isB : OpR X (compareOp .Is) rIsB ∧ OpS X T rIsB oIsB := by
  refine ⟨op_isBl, ?_⟩
  intro E ρ S H x y v w Q rs rx ry h
  cases x with
  | bl a =>
    cases y with
    | bl b => exact ⟨a, b, rx.bl, ry.bl, h ρ H _ (Le.refl _ _) rs rd_bl⟩
    | _ => exact (show False from h).elim
  | _ => cases y <;> exact (show False from h).elim

/-! ### == and != -/
mutual
def pyP : P → PyData
  | .non => .none
  | .bl b => .bool b
  | .int i => .int i
  | .str x => .str x
  | .lst xs => .list (pyPs xs)
  | .tup xs => .tuple (pyPs xs)
def pyPs : List P → List PyData
  | [] => []
  | x :: xs => pyP x :: pyPs xs
end
mutual
theorem eqv_py : ∀ p q : P, PyData.eqv (pyP p) (pyP q) = P.eqv p q
  | .non, q => by cases q <;> simp [pyP, PyData.eqv, P.eqv]
  | .bl b, q => by cases q <;> simp [pyP, PyData.eqv, P.eqv]
  | .int b, q => by cases q <;> simp [pyP, PyData.eqv, P.eqv]
  | .str b, q => by cases q <;> simp [pyP, PyData.eqv, P.eqv]
  | .lst xs, q => by
    cases q with
    | lst ys => simp only [pyP, PyData.eqv, P.eqv]; exact eqvs_py xs ys
    | _ => simp [pyP, PyData.eqv, P.eqv]
  | .tup xs, q => by
    cases q with
    | tup ys => simp only [pyP, PyData.eqv, P.eqv]; exact eqvs_py xs ys
    | _ => simp [pyP, PyData.eqv, P.eqv]
theorem eqvs_py : ∀ p q : List P, PyData.eqvAll (pyPs p) (pyPs q) = P.eqvs p q
  | [], q => by cases q <;> simp [pyPs, PyData.eqvAll, P.eqvs]
  | x :: xs, q => by
    cases q with
    | nil => simp [pyPs, PyData.eqvAll, P.eqvs]
    | cons y ys => simp only [pyPs, PyData.eqvAll, P.eqvs]; rw [eqv_py x y, eqvs_py xs ys]
end
/-- what toP tells: the data that the heap has there, well shaped -/
theorem toP_dp {ρ : List Addr} {S : Store} {H : Hp} (rs : RS X.K T ρ S H) : ∀ (n : Nat) (d : D) (p : P) (v : V), toP S n d = some p → RD X.K ρ H d v → Dp X.K H v (pyP p) ∧ (pyP p).canLay0 = true ∧ (pyP p).depth ≤ n := by
  intro n
  induction n with
  | zero =>
    intro d p v h r
    cases d with
    | non => unfold toP at h; cases h; rw [r.non]; exact ⟨by unfold pyP; exact .non, by simp [pyP, PyData.canLay0], by simp [pyP, PyData.depth]⟩
    | bl b => unfold toP at h; cases h; rw [r.bl]; exact ⟨by unfold pyP; exact .bl b, by simp [pyP, PyData.canLay0], by simp [pyP, PyData.depth]⟩
    | int i => unfold toP at h; cases h; rw [r.int]; exact ⟨by unfold pyP; exact .int i, by simp [pyP, PyData.canLay0], by simp [pyP, PyData.depth]⟩
    | str x =>
      unfold toP at h
      split at h
      · rename_i hx
        cases h; rw [r.str]; exact ⟨by unfold pyP; exact .str x, by simp only [pyP, PyData.canLay0]; exact hx, by simp [pyP, PyData.depth]⟩
      · cases h
    | tup ds => simp [toP] at h
    | frz ds => simp [toP] at h
    | ref l => simp [toP] at h
  | succ n ih =>
    have all : ∀ (ds : List D) (ps : List P) (vs : List V), ds.mapM (toP S n) = some ps → RDs X.K ρ H ds vs → DpAll X.K H vs (pyPs ps) ∧ PyData.canLayAll0 (pyPs ps) = true ∧ PyData.depthAll (pyPs ps) ≤ n := by
      intro ds
      induction ds with
      | nil =>
        intro ps vs h r
        simp at h
        subst h
        have : vs = [] := by unfold RDs at r; exact r
        subst this
        exact ⟨by unfold pyPs; exact .nil, by simp [pyPs, PyData.canLayAll0], by simp [pyPs, PyData.depthAll]⟩
      | cons d ds ih2 =>
        intro ps vs h r
        rw [List.mapM_cons] at h
        unfold RDs at r
        obtain ⟨v, w, rfl, r1, r2⟩ := r
        cases e1 : toP S n d with
        | none => rw [e1] at h; simp at h
        | some p =>
          cases e2 : ds.mapM (toP S n) with
          | none => rw [e1, e2] at h; simp at h
          | some qs =>
            rw [e1, e2] at h
            simp at h
            subst h
            obtain ⟨a1, a2, a3⟩ := ih d p v e1 r1
            obtain ⟨b1, b2, b3⟩ := ih2 qs w e2 r2
            refine ⟨by unfold pyPs; exact .cons a1 b1, by simp only [pyPs, PyData.canLayAll0, a2, b2]; rfl, ?_⟩
            simp only [pyPs, PyData.depthAll]
            omega
    intro d p v h r
    cases d with
    | non => unfold toP at h; cases h; rw [r.non]; exact ⟨by unfold pyP; exact .non, by simp [pyP, PyData.canLay0], by simp [pyP, PyData.depth]⟩
    | bl b => unfold toP at h; cases h; rw [r.bl]; exact ⟨by unfold pyP; exact .bl b, by simp [pyP, PyData.canLay0], by simp [pyP, PyData.depth]⟩
    | int i => unfold toP at h; cases h; rw [r.int]; exact ⟨by unfold pyP; exact .int i, by simp [pyP, PyData.canLay0], by simp [pyP, PyData.depth]⟩
    | str x =>
      unfold toP at h
      split at h
      · rename_i hx
        cases h; rw [r.str]; exact ⟨by unfold pyP; exact .str x, by simp only [pyP, PyData.canLay0]; exact hx, by simp [pyP, PyData.depth]⟩
      · cases h
    | tup ds =>
      unfold toP at h
      split at h
      · rename_i ps e
        cases h
        obtain ⟨a, vs, rfl, ta, ra⟩ := r.tup
        obtain ⟨b1, b2, b3⟩ := all ds ps vs e ra
        exact ⟨by unfold pyP; exact .tup ta.sq b1, by simp only [pyP, PyData.canLay0]; exact b2, by simp only [pyP, PyData.depth]; omega⟩
      · cases h
    | frz ds =>
      unfold toP at h
      split at h
      · rename_i ps e
        cases h
        obtain ⟨a, vs, rfl, ta, ra⟩ := r.frz
        obtain ⟨b1, b2, b3⟩ := all ds ps vs e ra
        exact ⟨by unfold pyP; exact .lst ta.sq b1, by simp only [pyP, PyData.canLay0]; exact b2, by simp only [pyP, PyData.depth]; omega⟩
      · cases h
    | ref l =>
      unfold toP at h
      split at h
      · rename_i ds e0
        split at h
        · rename_i ps e
          cases h
          obtain ⟨a, vs, rfl, ha, hv, ra, _⟩ := rs.lstAt r e0
          obtain ⟨b1, b2, b3⟩ := all ds ps vs e ra
          exact ⟨by unfold pyP; exact .lst (SqL.of hv) b1, by simp only [pyP, PyData.canLay0]; exact b2, by simp only [pyP, PyData.depth]; omega⟩
        · cases h
      · cases h
abbrev rEqA (K : PySem.W.Frag) : R2 := fun x y H Q => rEq x y H Q ∨ rEqD K x y H Q
abbrev rNeA (K : PySem.W.Frag) : R2 := fun x y H Q => rNe x y H Q ∨ rNeD K x y H Q
theorem eqG {ρ : List Addr} {S : Store} {H : Hp} (rs : RS X.K T ρ S H) {x y : D} {v w : V} (rx : RD X.K ρ H x v) (ry : RD X.K ρ H y w) : oEqG x y S = .bad ∨ ∃ p q, oEqG x y S = .ok (.bl (P.eqv p q)) S ∧ Dp X.K H v (pyP p) ∧ Dp X.K H w (pyP q) ∧ SeqAt.shaped (pyP p) = true ∧ SeqAt.shaped (pyP q) = true := by
  unfold oEqG
  cases e1 : toP S 60 x with
  | none => exact .inl rfl
  | some p =>
    cases e2 : toP S 60 y with
    | none => exact .inl rfl
    | some q =>
      obtain ⟨a1, a2, a3⟩ := toP_dp rs 60 x p v e1 rx
      obtain ⟨b1, b2, b3⟩ := toP_dp rs 60 y q w e2 ry
      exact .inr ⟨p, q, rfl, a1, b1, by unfold SeqAt.shaped; rw [a2, decide_eq_true (by omega)]; rfl, by unfold SeqAt.shaped; rw [b2, decide_eq_true (by omega)]; rfl⟩
/-- what oEq tells of two values: scalars side by side, or data -/
theorem eqA {ρ : List Addr} {S : Store} {H : Hp} (rs : RS X.K T ρ S H) {x y : D} {v w : V} (rx : RD X.K ρ H x v) (ry : RD X.K ρ H y w) :
    oEq x y S = .bad ∨ (∃ k, oEq x y S = .ok (.bl k) S ∧ scal v w = true ∧ k = decide (v = w)) ∨ ∃ p q, oEq x y S = .ok (.bl (P.eqv p q)) S ∧ Dp X.K H v (pyP p) ∧ Dp X.K H w (pyP q) ∧ SeqAt.shaped (pyP p) = true ∧ SeqAt.shaped (pyP q) = true := by
  have g := eqG rs rx ry
  have gg : oEq x y S = oEqG x y S → _ := fun e => by
    rw [← e] at g
    exact (g.elim .inl fun z => .inr (.inr z) : oEq x y S = .bad ∨ (∃ k, oEq x y S = .ok (.bl k) S ∧ scal v w = true ∧ k = decide (v = w)) ∨ ∃ p q, oEq x y S = .ok (.bl (P.eqv p q)) S ∧ Dp X.K H v (pyP p) ∧ Dp X.K H w (pyP q) ∧ SeqAt.shaped (pyP p) = true ∧ SeqAt.shaped (pyP q) = true)
  cases x with
  | non =>
    have e1 := rx.non; subst e1
    cases y with
    | non => have e2 := ry.non; subst e2; exact .inr (.inl ⟨_, rfl, rfl, rfl⟩)
    | int j => have e2 := ry.int; subst e2; exact .inr (.inl ⟨_, rfl, rfl, rfl⟩)
    | bl j => have e2 := ry.bl; subst e2; exact .inr (.inl ⟨_, rfl, rfl, rfl⟩)
    | str j => have e2 := ry.str; subst e2; exact .inr (.inl ⟨_, rfl, rfl, rfl⟩)
    | _ => exact gg rfl
  | int i =>
    have e1 := rx.int; subst e1
    cases y with
    | non => have e2 := ry.non; subst e2; exact .inr (.inl ⟨_, rfl, rfl, rfl⟩)
    | int j => have e2 := ry.int; subst e2; exact .inr (.inl ⟨_, rfl, rfl, dec_int.symm⟩)
    | str j => have e2 := ry.str; subst e2; exact .inr (.inl ⟨_, rfl, rfl, rfl⟩)
    | _ => exact gg rfl
  | bl i =>
    have e1 := rx.bl; subst e1
    cases y with
    | non => have e2 := ry.non; subst e2; exact .inr (.inl ⟨_, rfl, rfl, rfl⟩)
    | bl j => have e2 := ry.bl; subst e2; exact .inr (.inl ⟨_, rfl, rfl, dec_bl.symm⟩)
    | str j => have e2 := ry.str; subst e2; exact .inr (.inl ⟨_, rfl, rfl, rfl⟩)
    | _ => exact gg rfl
  | str i =>
    have e1 := rx.str; subst e1
    cases y with
    | non => have e2 := ry.non; subst e2; exact .inr (.inl ⟨_, rfl, rfl, rfl⟩)
    | int j => have e2 := ry.int; subst e2; exact .inr (.inl ⟨_, rfl, rfl, rfl⟩)
    | bl j => have e2 := ry.bl; subst e2; exact .inr (.inl ⟨_, rfl, rfl, rfl⟩)
    | str j => have e2 := ry.str; subst e2; exact .inr (.inl ⟨_, rfl, rfl, dec_str.symm⟩)
    | _ => exact gg rfl
  | _ => cases y <;> exact gg rfl
theorem os_eq {k : Nat} (hr : Room k X.A) : OpR X (compareOp .Eq) (rEqA X.K) ∧ OpS X T (rEqA X.K) oEq := by
  refine ⟨OpR.or op_eq (op_eqD hr.units), ?_⟩
  intro E ρ S H x y v w Q rs rx ry h
  rcases eqA rs rx ry with e | ⟨k, e, hs, hk⟩ | ⟨p, q, e, d1, d2, s1, s2⟩
  · rw [e] at h; exact (show False from h).elim
  · rw [e] at h
    refine .inl ⟨hs, ?_⟩
    rw [← hk]
    exact h ρ H _ (Le.refl _ _) rs rd_bl
  · rw [e] at h
    refine .inr ⟨_, _, d1, d2, s1, s2, ?_⟩
    rw [eqv_py]
    exact h ρ H _ (Le.refl _ _) rs rd_bl
theorem os_ne {k : Nat} (hr : Room k X.A) : OpR X (compareOp .NotEq) (rNeA X.K) ∧ OpS X T (rNeA X.K) oNe := by
  refine ⟨OpR.or op_ne (op_neD hr.units), ?_⟩
  intro E ρ S H x y v w Q rs rx ry h
  unfold oNe notR at h
  rcases eqA rs rx ry with e | ⟨k, e, hs, hk⟩ | ⟨p, q, e, d1, d2, s1, s2⟩
  · rw [e] at h; exact (show False from h).elim
  · rw [e] at h
    refine .inl ⟨hs, ?_⟩
    rw [← hk]
    exact h ρ H _ (Le.refl _ _) rs rd_bl
  · rw [e] at h
    refine .inr ⟨_, _, d1, d2, s1, s2, ?_⟩
    rw [eqv_py]
    exact h ρ H _ (Le.refl _ _) rs rd_bl

/-! ### in -/
theorem flat_v {K : PySem.W.Frag} {ρ : List Addr} {H : Hp} {x : D} {v : V} (r : RD K ρ H x v) (f : flatD x = true) : flatV v = true := by
  cases x with
  | non => rw [r.non]; rfl
  | bl b => rw [r.bl]; rfl
  | int b => rw [r.int]; rfl
  | str b => rw [r.str]; rfl
  | _ => exact Bool.noConfusion (show false = true from f)
theorem eqF_v {K : PySem.W.Frag} {ρ : List Addr} {H : Hp} {x y : D} {v w : V} (r : RD K ρ H x v) (q : RD K ρ H y w) (f : flatD x = true) (g : flatD y = true) : eqV v w = eqF x y := by
  cases x with
  | non =>
    rw [r.non]
    cases y with
    | non => rw [q.non]; rfl
    | bl b => rw [q.bl]; rfl
    | int b => rw [q.int]; rfl
    | str b => rw [q.str]; rfl
    | _ => exact Bool.noConfusion (show false = true from g)
  | bl b =>
    rw [r.bl]
    cases y with
    | non => rw [q.non]; rfl
    | bl b => rw [q.bl]; rfl
    | int b => rw [q.int]; rfl
    | str b => rw [q.str]; rfl
    | _ => exact Bool.noConfusion (show false = true from g)
  | int b =>
    rw [r.int]
    cases y with
    | non => rw [q.non]; rfl
    | bl b => rw [q.bl]; rfl
    | int b => rw [q.int]; rfl
    | str b => rw [q.str]; rfl
    | _ => exact Bool.noConfusion (show false = true from g)
  | str b =>
    rw [r.str]
    cases y with
    | non => rw [q.non]; rfl
    | bl b => rw [q.bl]; rfl
    | int b => rw [q.int]; rfl
    | str b => rw [q.str]; rfl
    | _ => exact Bool.noConfusion (show false = true from g)
  | _ => exact Bool.noConfusion (show false = true from f)
theorem flat_all {K : PySem.W.Frag} {ρ : List Addr} {H : Hp} : ∀ {xs : List D} {vs : List V}, RDs K ρ H xs vs → xs.all flatD = true → vs.all flatV = true
  | [], vs, h, _ => by unfold RDs at h; subst h; rfl
  | d :: ds, vs, h, f => by
    unfold RDs at h
    obtain ⟨v, r, rfl, h1, h2⟩ := h
    rw [List.all_cons, Bool.and_eq_true] at f
    rw [List.all_cons, flat_v h1 f.1, flat_all h2 f.2]; rfl
theorem inF_v {K : PySem.W.Frag} {ρ : List Addr} {H : Hp} {x : D} {v : V} (r : RD K ρ H x v) (f : flatD x = true) : ∀ {xs : List D} {vs : List V}, RDs K ρ H xs vs → xs.all flatD = true → inV v vs = inF x xs
  | [], vs, h, _ => by unfold RDs at h; subst h; rfl
  | d :: ds, vs, h, g => by
    unfold RDs at h
    obtain ⟨w, q, rfl, h1, h2⟩ := h
    rw [List.all_cons, Bool.and_eq_true] at g
    have e := inF_v r f h2 g.2
    unfold inV inF at e ⊢
    rw [List.any_cons, List.any_cons, eqF_v h1 r g.1 f, e]
theorem inL_s {E : XK} {neg : Bool} {ρ : List Addr} {S : Store} {H : Hp} {x : D} {xs : List D} {v : V} {p : Addr} {vs : List V} {Q : VK} {o : Res D} (rs : RS X.K T ρ S H) (rx : RD X.K ρ H x v) (hs : SqL X.K H p vs ∨ SqT X.K H p vs) (ry : RDs X.K ρ H xs vs)
    (he : o = if neg then notR (oInL xs x S) else oInL xs x S) (h : Post X.K X.mg T E ρ H (RD X.K) Q o) : rIn X.K neg v (.ref p) H Q := by
  subst he
  unfold oInL at h
  by_cases c : (flatD x && xs.all flatD) = true
  · rw [if_pos c] at h
    rw [Bool.and_eq_true] at c
    refine ⟨p, vs, rfl, hs, flat_v rx c.1, flat_all ry c.2, ?_⟩
    rw [inF_v rx c.1 ry c.2]
    cases neg with
    | true => exact h ρ H _ (Le.refl _ _) rs rd_bl
    | false => exact h ρ H _ (Le.refl _ _) rs rd_bl
  · rw [if_neg c] at h
    cases neg <;> exact (show False from h).elim
/-- x in a tuple of data -/
def rInT (K : PySem.W.Frag) : R2 := fun x y H Q => ∃ d ds, Dp K H x d ∧ Dp K H y (.tuple ds) ∧ SeqAt.shaped d = true ∧ SeqAt.shaped (.tuple ds) = true ∧ Q (.bl (ds.any fun z => PyData.eqv z d)) H
def rNotInT (K : PySem.W.Frag) : R2 := fun x y H Q => ∃ d ds, Dp K H x d ∧ Dp K H y (.tuple ds) ∧ SeqAt.shaped d = true ∧ SeqAt.shaped (.tuple ds) = true ∧ Q (.bl (!ds.any fun z => PyData.eqv z d)) H
theorem op_inT (hu : X.A.units + 65 < cLine) : OpR X (compareOp .In) (rInT X.K) := by
  intro pins s σ H x y v u Q I rx ry h
  obtain ⟨d, ds, hd, he, sd, se, q⟩ := h
  obtain ⟨as, r1⟩ := Dp.reads I d x v hd rx
  obtain ⟨bs, r2⟩ := Dp.reads I (.tuple ds) y u he ry
  exact SeqAt.in_tuple_reads r2 r1 (SeqAt.canLay_of_shaped se) (SeqAt.canLay_of_shaped sd) (room_in_shaped sd hu) ⟨.bl _, H, I, rfl, q⟩
theorem op_notInT (hu : X.A.units + 65 < cLine) : OpR X (compareOp .NotIn) (rNotInT X.K) := by
  intro pins s σ H x y v u Q I rx ry h
  obtain ⟨d, ds, hd, he, sd, se, q⟩ := h
  obtain ⟨as, r1⟩ := Dp.reads I d x v hd rx
  obtain ⟨bs, r2⟩ := Dp.reads I (.tuple ds) y u he ry
  exact SeqAt.notIn_tuple_reads r2 r1 (SeqAt.canLay_of_shaped se) (SeqAt.canLay_of_shaped sd) (room_in_shaped sd hu) ⟨.bl _, H, I, rfl, q⟩
theorem any_py (p : P) : ∀ qs : List P, (pyPs qs).any (fun z => PyData.eqv z (pyP p)) = qs.any fun q => P.eqv q p
  | [] => by simp [pyPs]
  | q :: qs => by
    unfold pyPs
    rw [List.any_cons, List.any_cons, eqv_py, any_py p qs]
/-- what oInG tells -/
theorem inG {ρ : List Addr} {S : Store} {H : Hp} (rs : RS X.K T ρ S H) {x y : D} {v w : V} (rx : RD X.K ρ H x v) (ry : RD X.K ρ H y w) : oInG x y S = .bad ∨ ∃ (b : Bool) (d : PyData) (ds : List PyData), oInG x y S = .ok (.bl b) S ∧ b = (ds.any fun z => PyData.eqv z d) ∧ Dp X.K H v d ∧ SeqAt.shaped d = true ∧
    ((Dp X.K H w (.list ds) ∧ SeqAt.shaped (.list ds) = true) ∨ (Dp X.K H w (.tuple ds) ∧ SeqAt.shaped (.tuple ds) = true)) := by
  unfold oInG
  cases e1 : toP S 60 x with
  | none => exact .inl rfl
  | some p =>
    cases e2 : toP S 60 y with
    | none => exact .inl rfl
    | some q =>
      obtain ⟨a1, a2, a3⟩ := toP_dp rs 60 x p v e1 rx
      obtain ⟨b1, b2, b3⟩ := toP_dp rs 60 y q w e2 ry
      have s1 : SeqAt.shaped (pyP p) = true := by unfold SeqAt.shaped; rw [a2, decide_eq_true (by omega)]; rfl
      have s2 : SeqAt.shaped (pyP q) = true := by unfold SeqAt.shaped; rw [b2, decide_eq_true (by omega)]; rfl
      cases q with
      | lst qs => exact .inr ⟨_, pyP p, pyPs qs, rfl, (any_py p qs).symm, a1, s1, .inl ⟨by unfold pyP at b1; exact b1, by unfold pyP at s2; exact s2⟩⟩
      | tup qs => exact .inr ⟨_, pyP p, pyPs qs, rfl, (any_py p qs).symm, a1, s1, .inr ⟨by unfold pyP at b1; exact b1, by unfold pyP at s2; exact s2⟩⟩
      | _ => exact .inl rfl
abbrev rInA (K : PySem.W.Frag) : R2 := fun x y H Q => (fun x y H Q => rIn K false x y H Q ∨ rInD K x y H Q) x y H Q ∨ rInT K x y H Q
abbrev rNinA (K : PySem.W.Frag) : R2 := fun x y H Q => (fun x y H Q => rIn K true x y H Q ∨ rNotInD K x y H Q) x y H Q ∨ rNotInT K x y H Q
theorem orG_cases (r q : Res D) : (orG r q = r ∧ r ≠ .bad) ∨ (r = .bad ∧ orG r q = q) := by
  cases r with
  | ok d S => exact .inl ⟨rfl, fun z => nomatch z⟩
  | ex c w S => exact .inl ⟨rfl, fun z => nomatch z⟩
  | bad => exact .inr ⟨rfl, rfl⟩
theorem os_inS {k : Nat} (hr : Room k X.A) : OpR X (compareOp .In) (rInA X.K) ∧ OpS X T (rInA X.K) oInS := by
  refine ⟨OpR.or (OpR.or op_in_seq (op_inD (by have := hr.un; omega))) (op_inT (by have := hr.un; omega)), ?_⟩
  intro E ρ S H x y v w Q rs rx ry h
  have gen : Post X.K X.mg T E ρ H (RD X.K) Q (oInG x y S) → rInA X.K v w H Q := fun h => by
    rcases inG rs rx ry with e | ⟨b, d, ds, e, eb, d1, s1, z⟩
    · rw [e] at h; exact (show False from h).elim
    · rw [e, eb] at h
      have hq := h ρ H _ (Le.refl _ _) rs rd_bl
      rcases z with ⟨d2, s2⟩ | ⟨d2, s2⟩
      · exact .inl (.inr ⟨d, ds, d1, d2, s1, s2, hq⟩)
      · exact .inr ⟨d, ds, d1, d2, s1, s2, hq⟩
  cases y with
  | tup xs =>
    obtain ⟨a, vs, rfl, ta, ra⟩ := ry.tup
    rcases orG_cases (oInL xs x S) (oInG x (.tup xs) S) with ⟨e, _⟩ | ⟨_, e⟩
    · refine .inl (.inl (inL_s (neg := false) rs rx (.inr ta.sq) ra rfl (E := E) ?_))
      have h2 : Post X.K X.mg T E ρ H (RD X.K) Q (orG (oInL xs x S) (oInG x (.tup xs) S)) := h
      rw [e] at h2
      exact h2
    · refine gen ?_
      have h2 : Post X.K X.mg T E ρ H (RD X.K) Q (orG (oInL xs x S) (oInG x (.tup xs) S)) := h
      rw [e] at h2
      exact h2
  | ref l =>
    unfold oInS at h
    dsimp only at h
    split at h
    · rename_i xs e0
      rcases orG_cases (oInL xs x S) (oInG x (.ref l) S) with ⟨e, _⟩ | ⟨_, e⟩
      · rw [e] at h
        obtain ⟨p, vs, rfl, hp, hv, ra, za⟩ := rs.lstAt ry e0
        exact .inl (.inl (inL_s (neg := false) rs rx (.inl (SqL.of hv)) ra rfl h))
      · rw [e] at h
        exact gen h
    · exact (show False from h).elim
  | _ => exact (show False from h).elim
theorem os_ninS {k : Nat} (hr : Room k X.A) : OpR X (compareOp .NotIn) (rNinA X.K) ∧ OpS X T (rNinA X.K) oNinS := by
  refine ⟨OpR.or (OpR.or op_notIn_seq (op_notInD (by have := hr.un; omega))) (op_notInT (by have := hr.un; omega)), ?_⟩
  intro E ρ S H x y v w Q rs rx ry h
  have gen : Post X.K X.mg T E ρ H (RD X.K) Q (notR (oInG x y S)) → rNinA X.K v w H Q := fun h => by
    rcases inG rs rx ry with e | ⟨b, d, ds, e, eb, d1, s1, z⟩
    · rw [e] at h; exact (show False from h).elim
    · rw [e, eb] at h
      have hq := h ρ H _ (Le.refl _ _) rs rd_bl
      rcases z with ⟨d2, s2⟩ | ⟨d2, s2⟩
      · exact .inl (.inr ⟨d, ds, d1, d2, s1, s2, hq⟩)
      · exact .inr ⟨d, ds, d1, d2, s1, s2, hq⟩
  cases y with
  | tup xs =>
    obtain ⟨a, vs, rfl, ta, ra⟩ := ry.tup
    rcases orG_cases (oInL xs x S) (oInG x (.tup xs) S) with ⟨e, _⟩ | ⟨_, e⟩
    · refine .inl (.inl (inL_s (neg := true) rs rx (.inr ta.sq) ra rfl (E := E) ?_))
      have h2 : Post X.K X.mg T E ρ H (RD X.K) Q (notR (orG (oInL xs x S) (oInG x (.tup xs) S))) := h
      rw [e] at h2
      exact h2
    · refine gen ?_
      have h2 : Post X.K X.mg T E ρ H (RD X.K) Q (notR (orG (oInL xs x S) (oInG x (.tup xs) S))) := h
      rw [e] at h2
      exact h2
  | ref l =>
    unfold oNinS oInS at h
    dsimp only at h
    split at h
    · rename_i xs e0
      rcases orG_cases (oInL xs x S) (oInG x (.ref l) S) with ⟨e, _⟩ | ⟨_, e⟩
      · rw [e] at h
        obtain ⟨p, vs, rfl, hp, hv, ra, za⟩ := rs.lstAt ry e0
        exact .inl (.inl (inL_s (neg := true) rs rx (.inl (SqL.of hv)) ra rfl h))
      · rw [e] at h
        exact gen h
    · exact (show False from h).elim
  | _ => exact (show False from h).elim

/-! ### places -/
theorem ixN_eq (n : Nat) (i : Int) : Wk.ixN n i = L2.ixN n i := rfl
theorem atI_d {K : PySem.W.Frag} {ρ : List Addr} {H : Hp} {ds : List D} {vs : List V} {i : Int} {d : D} (r : RDs K ρ H ds vs) (h : Wk.atI ds i = some d) : ∃ v, L2.atI vs i = some v ∧ RD K ρ H d v := by
  unfold Wk.atI at h
  unfold L2.atI
  rw [r.len] at h
  cases e : Wk.ixN vs.length i with
  | none => rw [e] at h; cases h
  | some j =>
    rw [e] at h
    rw [← ixN_eq, e]
    exact Paired.get1 r.pair h
theorem os_ix : IxR X (rIx X.K) ∧ OpS X T (rIx X.K) oIx := by
  refine ⟨ix_seq, ?_⟩
  intro E ρ S H x y v w Q rs rx ry h
  cases y with
  | int i =>
    have e2 := ry.int; subst e2
    cases x with
    | tup ds =>
      obtain ⟨a, vs, rfl, ta, ra⟩ := rx.tup
      unfold oIx at h
      dsimp only at h
      split at h
      · rename_i d e
        obtain ⟨u, hu, ru⟩ := atI_d ra e
        exact .inr (.inl ⟨a, vs, i, u, rfl, rfl, ta.sq, hu, h ρ H _ (Le.refl _ _) rs ru⟩)
      · exact (show False from h).elim
    | frz ds =>
      obtain ⟨a, vs, rfl, ta, ra⟩ := rx.frz
      unfold oIx at h
      dsimp only at h
      split at h
      · rename_i d e
        obtain ⟨u, hu, ru⟩ := atI_d ra e
        exact .inl ⟨a, vs, i, u, rfl, rfl, ta.sq, hu, h ρ H _ (Le.refl _ _) rs ru⟩
      · exact (show False from h).elim
    | ref l =>
      unfold oIx at h
      dsimp only at h
      split at h
      · rename_i ds e0
        obtain ⟨p, vs, rfl, hp, hv, ra, za⟩ := rs.lstAt rx e0
        split at h
        · rename_i d e
          obtain ⟨u, hu, ru⟩ := atI_d ra e
          exact .inl ⟨p, vs, i, u, rfl, rfl, SqL.of hv, hu, h ρ H _ (Le.refl _ _) rs ru⟩
        · exact (show False from h).elim
      · exact (show False from h).elim
    | _ => exact (show False from h).elim
  | _ => exact (show False from h).elim
end
end Wk


set_option Elab.async false
set_option linter.all false
set_option maxRecDepth 100000
set_option maxHeartbeats 4000000
set_option autoImplicit false
/-! WkIter: enumerate over a tuple, a list or a tuple walked; functional readings of what is walked. -/
namespace PySem
open Sem (wp)
theorem wk_meets_enum {v : Value} {o : Obj} {H : Heap → Prop} (B : Begins v o H) :
    Meets (Builtin.«enumerate.__new__» ⟨[.type "enumerate", v], []⟩) (fun _ R s => H s.heap ∧
      R (.ok (.ret (.ref (s.heap.push o).objs.size))) { s with heap := (s.heap.push o).push { cls := .type "enumerate", data := .fields #[.none, .bool false, .ref s.heap.objs.size, rawInt 0, .none, .none] } }) :=
  .of_wp fun prog w A R s h => by
    obtain ⟨hp, g, d, tk, os⟩ := s; obtain ⟨h1, h⟩ := h
    have hsub := sub_enumerate
    have q1 : ∀ {A' : Around} {E : Value → Shared → Prop} {Q : Value → Shared → Prop}, Q (.ref hp.objs.size) ⟨hp.push o, g, d, tk, os⟩ → wpAny (model prog w) A' (pyIter v) Q E ⟨hp, g, d, tk, os⟩ :=
      fun q => B.iter prog w _ _ ⟨hp, g, d, tk, os⟩ _ h1 q
    wp_walk using q1
    refine wpAny_stack_any fun st => wpAny_pure ?_
    split
    · rename_i c _ _ _ _ _
      cases (c == Value.type "enumerate")
      · wp_walk using q1
        exact ⟨_, rfl, h⟩
      · wp_walk using q1
        exact ⟨_, rfl, h⟩
    · wp_walk using q1
      exact ⟨_, rfl, h⟩
section
variable {prog : Program} {w : World} {A : Around} {E : Value → Shared → Prop} {s : Shared}
theorem wk_enum_begins {v : Value} {o : Obj} {H : Heap → Prop} {Q : Value → Shared → Prop} (B : Begins v o H) (h1 : H s.heap)
    (h : ∀ h', IsEnum h' (s.heap.objs.size + 1) s.heap.objs.size 0 .none → h'.get? s.heap.objs.size = some o → h'.objs.size = s.heap.objs.size + 2 →
      (∀ b o, s.heap.get? b = some o → h'.get? b = some o) → Q (.ref (s.heap.objs.size + 1)) { s with heap := h' }) :
    wpAny (model prog w) A (call (.type "enumerate") [v]) Q E s := by
  refine callType_new F.called_enumerate (by decide) (F.typeCall_enumerate_1 _) (F.newCall_enumerate_1 _) (fun obj => F.args_object_init_2 obj _) F.entry_enumerate_new
    (wk_meets_enum B) ⟨h1, ?_⟩
  have hz : (s.heap.push o).objs.size = s.heap.objs.size + 1 := Heap.size_push ..
  show _ ∧ _
  rw [hz]
  have he : IsEnum ((s.heap.push o).push { cls := .type "enumerate", data := .fields #[.none, .bool false, .ref s.heap.objs.size, rawInt 0, .none, .none] }) (s.heap.objs.size + 1) s.heap.objs.size 0 .none := by
    have := Heap.get?_push_size (s.heap.push o) (o := { cls := .type "enumerate", data := .fields #[.none, .bool false, .ref s.heap.objs.size, rawInt 0, .none, .none] }) rfl
    rw [hz] at this; exact this
  refine ⟨⟨_, he, rfl⟩, h _ he (Heap.get?_push_of_some _ (Heap.get?_push_size _ B.free)) (by rw [Heap.size_push, hz]) fun b o x => Heap.get?_push_of_some _ (Heap.get?_push_of_some _ x)⟩
end
end PySem

namespace L2
open PySem PySem.Spec PyProof.Rows
/-- the tuple at a, each item in a new pair -/
def IteT (K : PySem.W.Frag) (a : Addr) : It :=
  ⟨fun i H => ∃ (xs : List V) (x : V), SqT K H a xs ∧ xs[i]? = some x, fun i H v H' => ∃ T x, v = .ref T ∧ H T = none ∧ H' = upd H T (.tup [.int (i : Nat), x]) ∧ ∀ xs, SqT K H a xs → xs[i]? = some x, fun i H => ∃ xs : List V, SqT K H a xs ∧ xs.length ≤ i⟩
theorem turn_enumT {P : Program} {w : World} {K : PySem.W.Frag} {elts : List Expr} {kk : Nat} {tpos : Pos} (a e it : Addr) :
    Turn P w K (.Tuple elts kk tpos) (IteT K a) [e, it] e (fun i h => (∃ old, IsEnum h e it ((i : Nat) : Int) old) ∧ h.IsTupleIter it a i ∧ e ≠ it ∧ a ≠ it ∧ a ≠ e) where
  mem := by simp
  obj := fun i h st b hb => by
    obtain ⟨⟨old, he⟩, ⟨o, ho, hc, hd⟩, _⟩ := st
    have e' : b = e ∨ b = it := by simpa using hb
    rcases e' with z | z
    · rw [z]; exact ⟨_, he, fun v q => nomatch q⟩
    · rw [z]; exact ⟨o, ho, fun v q => by rw [hd] at q; cases q⟩
  keep := fun i h h' st k => let ⟨⟨old, he⟩, hi, hne⟩ := st; ⟨⟨old, k e (by simp) _ he⟩, hi.at fun o q => k it (by simp) o q, hne⟩
  item := by
    intro X hP hw hK hc i pins s σ H E I hf st hg
    subst hP hw hK
    obtain ⟨⟨old, he⟩, hit, hne, hai, hae⟩ := st
    obtain ⟨xs, x, hq, hx⟩ := hg
    obtain ⟨its, rv, p, hz⟩ := I.tuple hq
    obtain ⟨u, hu, ru⟩ := rv.get hx
    have hel : e < s.heap.objs.size := Heap.lt_size he
    have hil : it < s.heap.objs.size := by obtain ⟨_, q, _⟩ := hit; exact Heap.lt_size q
    have hlt : i < its.toArray.size := by
      have := (List.getElem?_eq_some_iff.mp hu).1
      simpa using this
    refine wpAny_pyNext_enum_itemC (Draws.tuple (A := X.A.in1) (I.ok.hd hc) it a hai its.toArray) he ⟨hit, (show s.heap.IsTuple a its.toArray from p)⟩ hlt hne (by simp; exact ⟨hne, Ne.symm hae⟩) fun x' h' tk hPx ho hst' hT hsz hk => ?_
    have ex : x' = u := by
      have h1 : its.toArray[i]? = some x' := hPx
      have h2 : its.toArray[i]? = some u := by simpa using hu
      rw [h1] at h2; exact Option.some.inj h2
    subst ex
    refine ⟨_, rfl, wpAny_letOwnedTupleGo_enum (s := { s with heap := h', toks := tk + 1 }) ho fun h'' he' sb => ?_⟩
    have hT2 : h''.get? s.heap.objs.size = some { cls := .type "tuple", data := .seq #[.int i tk, x'] } := (sb.2 _ (Nat.ne_of_gt hel)).trans hT
    have new : ObjOk X.prog X.w (upd H s.heap.objs.size (.tup [.int (i : Nat), x])) h'' s.heap.objs.size (.tup [.int (i : Nat), x]) :=
      ⟨by show 2 ≤ sizeLine; decide, [.int i tk, x'], .cons ⟨_, rfl⟩ (.cons ru .nil), ⟨_, hT2, rfl, _, rfl⟩⟩
    have I1 : Inv X pins σ (upd H s.heap.objs.size (.tup [.int (i : Nat), x])) { s with heap := h'', toks := tk + 1 } :=
      I.turnedNew (ch := [e, it]) (fun b ob hb q => (sb.2 b (fun z => hb (by simp [z]))).trans (hk b ob (fun z => hb (by simp [z])) (fun z => hb (by simp [z])) q)) hf (Nat.le_refl _) new
    refine ⟨.ref s.heap.objs.size, _, I1, rfl, ⟨_, x, rfl, I.hok.fresh (Nat.le_refl _), rfl, fun ys hy => by rw [I.tuple_inj hy hq]; exact hx⟩, ⟨⟨x', ?_⟩, hst'.1.at fun o q => (sb.2 it (Ne.symm hne)).trans q, hne, hai, hae⟩, fun b hb => ?_⟩
    · have e1 : ((i + 1 : Nat) : Int) = (i : Int) + 1 := by omega
      rw [e1]; exact he'
    · have hb' : b < s.heap.objs.size := by
        have e' : b = e ∨ b = it := by simpa using hb
        rcases e' with z | z
        · rw [z]; exact hel
        · rw [z]; exact hil
      rw [upd_ne (Nat.ne_of_lt hb')]
      exact (hf b hb).1
  done := by
    intro X hP hw hK hc i pins s σ H E I hf st hg
    subst hP hw hK
    obtain ⟨⟨old, he⟩, hit, hne, hai, hae⟩ := st
    obtain ⟨xs, hq, hx⟩ := hg
    obtain ⟨its, rv, p, hz⟩ := I.tuple hq
    obtain ⟨f0, f1, f2, f3, f4, f5⟩ := hf it (by simp)
    have hl := rv.length
    have hT : s.TypeIs (.ref e) "enumerate" := ⟨_, he, rfl⟩
    unfold pyNext
    refine wpAny_bind (wpAny_attempt (wpAny_callSpecial?_slot (name := Str.ofString "__next__") hT F.slot_enumerate_next
      (wpAny_call_entry F.slot_enumerate_next hT F.entry_enumerate_next ?_ (F.args_enumerate_next_1 _))))
    show wpAny _ _ (field (.ref e) 2 >>= _) _ _ _
    refine wpAny_bind (wpAny_field he rfl (x := .ref it) rfl ?_)
    refine wpAny_bind (wpAny_nextOf_tuple_end (I.ok.hd hc) hit (show s.heap.IsTuple a its.toArray from p) (by simp; omega) fun h' x he' hx' => ?_)
    obtain ⟨o, ho, hc'⟩ := hx'
    refine wpAny_bind (wpAny_isInstance (T := "StopIteration") (b := true) ⟨o, ho, hc'⟩ isSubtype_stop ?_)
    exact wpAny_pure ⟨rfl, I.turned (t' := s.toks) (fun b o hb q => he' b o hb q) f0 f1 f3 f4 f5⟩
  self := fun A i s Q E st h => let ⟨⟨_, he⟩, _⟩ := st; wpAny_pyIter_enum he h
/-- enumerate(x), x a list or a tuple -/
def iEnumA (K : PySem.W.Frag) (ta : TA) : TI := fun σ H R => ta σ H fun vs H1 => (∃ a xs, vs = [.ref a] ∧ SqL K H1 a xs ∧ R (Ite K a) H1) ∨ (∃ a xs, vs = [.ref a] ∧ SqT K H1 a xs ∧ R (IteT K a) H1)
theorem pi_enumA {X : Cx} {e : Expr} {ta : TA} {p pos tpos : Pos} {elts : List Expr} {kk : Nat} (hg : Gl X "enumerate") (hm : X.mg "enumerate" = none) (ha : PA X [e] ta) (hs : starEach [e] X.env = [(false, eval e X.env)] := by rfl) :
    PI X (.Tuple elts kk tpos) (.Call (.Name "enumerate" p) [e] [] pos) (iEnumA X.K ta) := by
  refine ⟨fun pins s σ H R I h => ?_⟩
  refine Call_ (ld_blt I hg hm boot_enumerate (PyProof.Rows.callWith_type1 (thn (ha.run pos pins s σ H _ I h) fun us s1 ⟨vs, H1, I1, r1, q1⟩ => ?_) hs rfl))
  rcases q1 with ⟨a, xs, ex, hq, q⟩ | ⟨a, xs, ex, hq, q⟩
  · subst ex
    cases r1 with
    | cons r rr =>
      cases rr
      cases r
      obtain ⟨its, rv, p', hz⟩ := I1.list hq
      refine call_enumerate_list p'.isList fun h' he hit hsz hk => wpAny_pyIter_enum he ?_
      have I2 : Inv X pins σ H1 { s1 with heap := h' } := I1.kept (t' := s1.toks) hk
      refine ⟨s1.heap.objs.size + 1, [s1.heap.objs.size + 1, s1.heap.objs.size], _, _, H1, rfl, I2, turn_enum a (s1.heap.objs.size + 1) s1.heap.objs.size, ⟨⟨.none, he⟩, hit, Nat.succ_ne_self _⟩, fun b hb => ?_, q⟩
      have e' : b = s1.heap.objs.size + 1 ∨ b = s1.heap.objs.size := by simpa using hb
      have hle : s1.heap.objs.size ≤ b := by
        rcases e' with z | z
        · rw [z]; exact Nat.le_add_right _ _
        · rw [z]; exact Nat.le_refl _
      exact I1.fpOk hle (I1.hok.fresh hle)
  · subst ex
    cases r1 with
    | cons r rr =>
      cases rr
      cases r
      obtain ⟨its, rv, p', hz⟩ := I1.tuple hq
      have hal : a < s1.heap.objs.size := p'.lt
      refine wk_enum_begins (begins_tuple a its.toArray) (show s1.heap.IsTuple a its.toArray from p') fun h' he hit hsz hk => wpAny_pyIter_enum he ?_
      have I2 : Inv X pins σ H1 { s1 with heap := h' } := I1.kept (t' := s1.toks) hk
      refine ⟨s1.heap.objs.size + 1, [s1.heap.objs.size + 1, s1.heap.objs.size], _, _, H1, rfl, I2, turn_enumT a (s1.heap.objs.size + 1) s1.heap.objs.size, ⟨⟨.none, he⟩, ⟨_, hit, rfl, rfl⟩, Nat.succ_ne_self _, Nat.ne_of_lt hal, Nat.ne_of_lt (Nat.lt_succ_of_lt hal)⟩, fun b hb => ?_, q⟩
      have e' : b = s1.heap.objs.size + 1 ∨ b = s1.heap.objs.size := by simpa using hb
      have hle : s1.heap.objs.size ≤ b := by
        rcases e' with z | z
        · rw [z]; exact Nat.le_add_right _ _
        · rw [z]; exact Nat.le_refl _
      exact I1.fpOk hle (I1.hok.fresh hle)
/-- a list or a tuple walked -/
def iSeqA (K : PySem.W.Frag) (tl : TE) : TI := fun σ H R => tl σ H fun x H1 => ∃ a, x = .ref a ∧ ((∃ xs, SqL K H1 a xs ∧ R (Itl K a) H1) ∨ (∃ xs, SqT K H1 a xs ∧ R (Itt K a) H1))
theorem pi_seqA {X : Cx} {tg l : Expr} {tl : TE} (hl : PE X l tl) : PI X tg l (iSeqA X.K tl) := by
  refine ⟨fun pins s σ H R I h => ?_⟩
  refine thn (hl.run pins s σ H _ I h) fun v s1 ⟨x, H1, I1, r1, q1⟩ => ?_
  obtain ⟨a, e, q1⟩ := q1
  subst e
  cases r1
  rcases q1 with ⟨xs, hq, q⟩ | ⟨xs, hq, q⟩
  · obtain ⟨its, rv, p, hz⟩ := I1.list hq
    refine wpAny_pyIter_list p.isList ?_
    refine ⟨s1.heap.objs.size, [s1.heap.objs.size], _, _, H1, rfl, I1.kept (t' := s1.toks) fun b o e => Heap.get?_push_of_some _ e, turn_list a _, ⟨_, Heap.get?_push_size _ rfl, rfl, rfl⟩, fun b hb => ?_, q⟩
    have e : b = s1.heap.objs.size := by simpa using hb
    subst e
    exact I1.fpOk (Nat.le_refl _) (I1.hok.fresh (Nat.le_refl _))
  · obtain ⟨its, rv, p, hz⟩ := I1.tuple hq
    refine wpAny_pyIter_tuple (show s1.heap.IsTuple a its.toArray from p) ?_
    refine ⟨s1.heap.objs.size, [s1.heap.objs.size], _, _, H1, rfl, I1.kept (t' := s1.toks) fun b o e => Heap.get?_push_of_some _ e, turn_tuple a _, ⟨_, Heap.get?_push_size _ rfl, rfl, rfl⟩, fun b hb => ?_, q⟩
    have e : b = s1.heap.objs.size := by simpa using hb
    subst e
    exact I1.fpOk (Nat.le_refl _) (I1.hok.fresh (Nat.le_refl _))
end L2

namespace Wk
open PySem PySem.Spec PyProof.Rows L2
/-- how the machine's walk stands to the items -/
def ItOk (K : PySem.W.Frag) (T : Tbs) (ρ : List Addr) (H : Hp) (I : Wk.Its) (J : L2.It) : Prop :=
  I.items.length ≤ sizeLine ∧ ∀ ρ' S' H', Le ρ H ρ' H' → RS K T ρ' S' H' → okC I.chk S' = true →
    (∀ (i : Nat) (d : D), I.items[i]? = some d → J.go i H' ∧ ∀ x H'', J.yld i H' x H'' → Le ρ' H' ρ' H'' ∧ RS K T ρ' S' H'' ∧ RD K ρ' H'' d x) ∧ J.stop I.items.length H'
section
variable (X : Cx) (T : Tbs) (W : WX)
def TIf (f : FI) : TI := fun σ H R => ∃ ρ S s, RS X.K T ρ S H ∧ RE X.K ρ H s σ ∧ Post X.K X.mg T (WE W σ) ρ H (ItOk X.K T) R (f s S)
abbrev EI (tg e : Expr) (f : FI) : Prop := PI X tg e (TIf X T W f)
end
theorem PI.imp {X : Cx} {tg e : Expr} {t t' : TI} (h : PI X tg e t) (i : ∀ σ H Q, t' σ H Q → t σ H Q) : PI X tg e t' := ⟨fun pins s σ H Q I q => h.run pins s σ H Q I (i σ H Q q)⟩
theorem okC_cons {c : Chk} {S : Store} {i : Nat} {o : Ob} (h : okC ((i, o) :: c) S = true) : S[i]? = some o ∧ okC c S = true := by
  unfold okC at h ⊢
  rw [List.all_cons, Bool.and_eq_true] at h
  exact ⟨of_decide_eq_true h.1, h.2⟩
section
variable {X : Cx} {T : Tbs} {W : WX} {pos : Pos} {tg : Expr} {e e2 : Expr} {f g : FE} {ρ : List Addr} {S : Store} {H : Hp}
/-- the list at l, kept, walked -/
theorem itok_list {l : Nat} {a : Addr} {ds : List D} (rs : RS X.K T ρ S H) (ha : ρ[l]? = some a) (hs : S[l]? = some (.lst ds)) : ItOk X.K T ρ H ⟨ds, [(l, .lst ds)]⟩ (Itl X.K a) := by
  refine ⟨?_, fun ρ' S' H' le rs' ok => ?_⟩
  · obtain ⟨_, vs, e, _, hv, ra, za⟩ := rs.lstAt (rd_ref ha) hs
    rw [show ds.length = vs.length from ra.len]; exact za
  obtain ⟨hs', _⟩ := okC_cons ok
  obtain ⟨b, vs, e, hb, hv, ra, za⟩ := rs'.lstAt (rd_ref (le.get ha)) hs'
  cases e
  refine ⟨fun i d hd => ?_, ⟨vs, SqL.of hv, by rw [ra.len]; exact Nat.le_refl _⟩⟩
  obtain ⟨v, hv', rv⟩ := Paired.get1 ra.pair hd
  refine ⟨⟨vs, v, SqL.of hv, hv'⟩, fun x H'' y => ?_⟩
  obtain ⟨e, y⟩ := y
  subst e
  have := y vs (SqL.of hv)
  rw [hv'] at this; cases this
  exact ⟨Le.refl _ _, rs', rv⟩
theorem itok_frz {a : Addr} {ds : List D} {vs : List V} (rs : RS X.K T ρ S H) (ha : FrzAt X.K H a vs) (ra : RDs X.K ρ H ds vs) : ItOk X.K T ρ H ⟨ds, []⟩ (Itl X.K a) := by
  refine ⟨by rw [show ds.length = vs.length from ra.len]; exact ha.1, fun ρ' S' H' le rs' ok => ?_⟩
  have ha' := ha.mono le rs.nofz
  have ra' := ra.le rs le
  refine ⟨fun i d hd => ?_, ⟨vs, ha'.sq, by rw [ra.len]; exact Nat.le_refl _⟩⟩
  obtain ⟨v, hv', rv⟩ := Paired.get1 ra'.pair hd
  refine ⟨⟨vs, v, ha'.sq, hv'⟩, fun x H'' y => ?_⟩
  obtain ⟨e, y⟩ := y
  subst e
  have := y vs ha'.sq
  rw [hv'] at this; cases this
  exact ⟨Le.refl _ _, rs', rv⟩
theorem itok_tup {a : Addr} {ds : List D} {vs : List V} (rs : RS X.K T ρ S H) (ha : TupAt X.K H a vs) (ra : RDs X.K ρ H ds vs) : ItOk X.K T ρ H ⟨ds, []⟩ (Itt X.K a) := by
  refine ⟨by rw [show ds.length = vs.length from ra.len]; exact ha.1, fun ρ' S' H' le rs' ok => ?_⟩
  have ha' := ha.mono le
  have ra' := ra.le rs le
  refine ⟨fun i d hd => ?_, ⟨vs, ha'.sq, by rw [ra.len]; exact Nat.le_refl _⟩⟩
  obtain ⟨v, hv', rv⟩ := Paired.get1 ra'.pair hd
  refine ⟨⟨vs, v, ha'.sq, hv'⟩, fun x H'' y => ?_⟩
  obtain ⟨e, y⟩ := y
  subst e
  have := y vs ha'.sq
  rw [hv'] at this; cases this
  exact ⟨Le.refl _ _, rs', rv⟩
theorem ei_seq (h : EV X T W e f) : EI X T W tg e (iSeq f) := by
  refine PI.imp (pi_seqA h) ?_
  rintro σ H R ⟨ρ, S, s, rs, re, h⟩
  refine ⟨ρ, S, s, rs, re, (Post.bind (R := RD X.K) h).imp ?_⟩
  rintro v H1 ⟨ρ1, S1, x, l1, rs1, rd1, h1⟩
  cases x with
  | tup ds =>
    obtain ⟨a, vs, rfl, ta, ra⟩ := rd1.tup
    exact ⟨a, rfl, .inr ⟨vs, ta.sq, h1 ρ1 H1 _ (Le.refl _ _) rs1 (itok_tup rs1 ta ra)⟩⟩
  | frz ds =>
    obtain ⟨a, vs, rfl, ta, ra⟩ := rd1.frz
    exact ⟨a, rfl, .inl ⟨vs, ta.sq, h1 ρ1 H1 _ (Le.refl _ _) rs1 (itok_frz rs1 ta ra)⟩⟩
  | ref l =>
    dsimp only at h1
    split at h1
    · rename_i ds e0
      obtain ⟨a, vs, rfl, ha, hv, ra, za⟩ := rs1.lstAt rd1 e0
      exact ⟨a, rfl, .inl ⟨vs, SqL.of hv, h1 ρ1 H1 _ (Le.refl _ _) rs1 (itok_list rs1 ha e0)⟩⟩
    · exact (show False from h1).elim
  | _ => exact (show False from h1).elim
/-- enumerate: new pairs -/
theorem itok_pair {a : Addr} {ds : List D} {v : V} {T' : Addr} {ρ' : List Addr} {S' : Store} {H' : Hp} {d : D} {i : Nat} (rs' : RS X.K T ρ' S' H') (hT : H' T' = none) (rv : RD X.K ρ' H' d v) :
    Le ρ' H' ρ' (upd H' T' (.tup [.int (i : Nat), v])) ∧ RS X.K T ρ' S' (upd H' T' (.tup [.int (i : Nat), v])) ∧ RD X.K ρ' (upd H' T' (.tup [.int (i : Nat), v])) (.tup [.int i, d]) (.ref T') :=
  tup_new rs' hT (RDs.of (.cons rd_int (.cons rv .nil))) (by show 2 ≤ sizeLine; decide)
theorem enumD_get {ds : List D} {i : Nat} {x : D} (h : (enumD ds)[i]? = some x) : ∃ d, ds[i]? = some d ∧ x = .tup [.int i, d] := by
  unfold enumD at h
  rw [List.getElem?_mapIdx] at h
  cases e : ds[i]? with
  | none => rw [e] at h; cases h
  | some d => rw [e] at h; cases h; exact ⟨d, rfl, rfl⟩
theorem enumD_len (ds : List D) : (enumD ds).length = ds.length := by unfold enumD; rw [List.length_mapIdx]
theorem ei_enum {elts : List Expr} {kk : Nat} {p tpos : Pos} (hm : X.mg "enumerate" = none) (h : EV X T W e f) (hg : Gl X "enumerate" := by rfl) (hs : starEach [e] X.env = [(false, eval e X.env)] := by rfl) :
    EI X T W (.Tuple elts kk tpos) (.Call (.Name "enumerate" p) [e] [] pos) (iEnum f) := by
  refine PI.imp (pi_enumA hg hm (ea_cons h ea_nil hs) hs) ?_
  rintro σ H R ⟨ρ, S, s, rs, re, h⟩
  refine ⟨ρ, S, s, rs, re, ?_⟩
  unfold aCons aNil
  have h' := Post.bind (R := RD X.K) h
  cases er : f s S with
  | bad => rw [er] at h'; exact h'
  | ex c w S' => rw [er] at h'; exact h'
  | ok x S1 =>
    rw [er] at h'
    rw [Res.bind_ok, Res.bind_ok]
    rintro ρ1 H1 vs l1 rs1 rd1
    unfold RDs RDs at rd1
    obtain ⟨v, r, rfl, rd1, rfl⟩ := rd1
    obtain ⟨ρ2, S2, x2, l2, rs2, rd2, h1⟩ : ∃ ρ2 S2 a, Le ρ H ρ2 H1 ∧ RS X.K T ρ2 S2 H1 ∧ RD X.K ρ2 H1 a v ∧ _ := h' ρ1 H1 v l1 rs1 rd1
    cases x2 with
    | tup ds =>
      obtain ⟨a, vs, rfl, ta, ra⟩ := rd2.tup
      refine .inr ⟨a, vs, rfl, ta.sq, h1 ρ2 H1 _ (Le.refl _ _) rs2 ⟨by rw [show (Wk.Its.mk (enumD ds) []).items.length = ds.length from enumD_len ds, ra.len]; exact ta.1, fun ρ' S' H' le rs' ok => ?_⟩⟩
      have ha' := ta.mono le
      have ra' := ra.le rs2 le
      refine ⟨fun i d hd => ?_, ⟨vs, ha'.sq, by show vs.length ≤ (enumD ds).length; rw [enumD_len, ra.len]; exact Nat.le_refl _⟩⟩
      obtain ⟨d', hd', rfl⟩ := enumD_get hd
      obtain ⟨v, hv', rv⟩ := Paired.get1 ra'.pair hd'
      refine ⟨⟨vs, v, ha'.sq, hv'⟩, fun x H'' y => ?_⟩
      obtain ⟨T', x', rfl, hT, rfl, y⟩ := y
      have := y vs ha'.sq
      rw [hv'] at this; cases this
      exact itok_pair (a := a) (ds := ds) rs' hT rv
    | ref l =>
      dsimp only at h1
      split at h1
      · rename_i ds e0
        obtain ⟨a, vs, rfl, ha, hv, ra, za⟩ := rs2.lstAt rd2 e0
        refine .inl ⟨a, vs, rfl, SqL.of hv, h1 ρ2 H1 _ (Le.refl _ _) rs2 ⟨by rw [show (Wk.Its.mk (enumD ds) [(l, .lst ds)]).items.length = ds.length from enumD_len ds, ra.len]; exact za, fun ρ' S' H' le rs' ok => ?_⟩⟩
        obtain ⟨hs', _⟩ := okC_cons ok
        obtain ⟨b, vs', e, hb, hv', ra', za'⟩ := rs'.lstAt (rd_ref (le.get ha)) hs'
        cases e
        refine ⟨fun i d hd => ?_, ⟨vs', SqL.of hv', by show vs'.length ≤ (enumD ds).length; rw [enumD_len, ra'.len]; exact Nat.le_refl _⟩⟩
        obtain ⟨d', hd', rfl⟩ := enumD_get hd
        obtain ⟨v, hw', rv⟩ := Paired.get1 ra'.pair hd'
        refine ⟨⟨vs', v, SqL.of hv', hw'⟩, fun x H'' y => ?_⟩
        obtain ⟨T', x', rfl, hT, rfl, y⟩ := y
        have := y vs' (SqL.of hv')
        rw [hw'] at this; cases this
        exact itok_pair (a := a) (ds := ds) rs' hT rv
      · exact (show False from h1).elim
    | _ => exact (show False from h1).elim
theorem rngD_get {a b : Int} {i : Nat} {d : D} (h : (rngD a b)[i]? = some d) : i < (b - a).toNat ∧ d = .int (a + i) := by
  unfold rngD at h
  rw [List.getElem?_map] at h
  cases e : (List.range (b - a).toNat)[i]? with
  | none => rw [e] at h; cases h
  | some j =>
    rw [e] at h
    obtain ⟨h1, h2⟩ := List.getElem?_eq_some_iff.mp e
    rw [List.getElem_range] at h2
    rw [List.length_range] at h1
    cases h
    exact ⟨h1, by rw [← h2]⟩
theorem rngD_len (a b : Int) : (rngD a b).length = (b - a).toNat := by unfold rngD; rw [List.length_map, List.length_range]
theorem itok_rng {a b : Int} {n : Nat} (hn : n = (b - a).toNat) (hz : n ≤ sizeLine) : ItOk X.K T ρ H ⟨rngD a b, []⟩ (Itr a n) := by
  subst hn
  refine ⟨by rw [show (Wk.Its.mk (rngD a b) []).items.length = _ from rngD_len a b]; exact hz, fun ρ' S' H' le rs' ok => ⟨fun i d hd => ?_, by show (b - a).toNat ≤ (rngD a b).length; rw [rngD_len]; exact Nat.le_refl _⟩⟩
  obtain ⟨h1, rfl⟩ := rngD_get hd
  refine ⟨h1, fun x H'' y => ?_⟩
  obtain ⟨rfl, rfl⟩ := y
  exact ⟨Le.refl _ _, rs', rd_int⟩
theorem ei_rng {p : Pos} (hm : X.mg "range" = none) (h : EV X T W e f) (hg : Gl X "range" := by rfl) (hs : starEach [e] X.env = [(false, eval e X.env)] := by rfl) : EI X T W tg (.Call (.Name "range" p) [e] [] pos) (iRng f) := by
  refine PI.imp (pi_range1 hg hm (pa_cons h pa_nil hs) hs) ?_
  rintro σ H R ⟨ρ, S, s, rs, re, h⟩
  refine ⟨ρ, S, s, rs, re, (Post.bind (R := RD X.K) h).imp ?_⟩
  rintro v H1 ⟨ρ1, S1, x, l1, rs1, rd1, h1⟩
  show ∃ j : Int, [v] = [V.int j] ∧ _
  cases x with
  | int j =>
    dsimp only at h1
    by_cases hc : -(2 ^ 62) ≤ j ∧ j ≤ 16777216
    · rw [if_pos hc] at h1
      have hs := sizeLine_eq
      refine ⟨j, by rw [rd1.int], hc.1, by omega, h1 ρ1 H1 _ (Le.refl _ _) rs1 (itok_rng (by rw [Int.sub_zero]) (by omega))⟩
    · rw [if_neg hc] at h1; exact (show False from h1).elim
  | _ => exact (show False from h1).elim
theorem ei_rng2 {p : Pos} (hm : X.mg "range" = none) (h : EV X T W e f) (h2 : EV X T W e2 g) (hg : Gl X "range" := by rfl) (hs : starEach [e, e2] X.env = [(false, eval e X.env), (false, eval e2 X.env)] := by rfl) (hs2 : starEach [e2] X.env = [(false, eval e2 X.env)] := by rfl) :
    EI X T W tg (.Call (.Name "range" p) [e, e2] [] pos) (iRng2 f g) := by
  refine PI.imp (pi_range2 hg hm (pa_cons h (pa_cons h2 pa_nil hs2) (by rw [hs, hs2])) hs hs2) ?_
  rintro σ H R ⟨ρ, S, s, rs, re, h⟩
  refine ⟨ρ, S, s, rs, re, (Post.bind (R := RD X.K) h).imp ?_⟩
  rintro v H1 ⟨ρ1, S1, x, l1, rs1, rd1, h1⟩
  refine ⟨ρ1, S1, s, rs1, re.le rs l1, (Post.bind (R := RD X.K) h1).imp ?_⟩
  rintro w H2 ⟨ρ2, S2, y, l2, rs2, rd2, h2⟩
  show ∃ i j : Int, [v, w] = [V.int i, V.int j] ∧ _
  cases x with
  | int i =>
    cases y with
    | int j =>
      dsimp only at h2
      by_cases hc : -1000000 ≤ i ∧ i < 2 ^ 62 ∧ -(2 ^ 62) ≤ j ∧ j ≤ 1000000
      · rw [if_pos hc] at h2
        have hs := sizeLine_eq
        refine ⟨i, j, by rw [rd1.int, rd2.int], ⟨by omega, hc.2.1, hc.2.2.1, by omega⟩, h2 ρ2 H2 _ (Le.refl _ _) rs2 (itok_rng rfl (by omega))⟩
      · rw [if_neg hc] at h2; exact (show False from h2).elim
    | _ => exact (show False from h2).elim
  | _ => cases y <;> exact (show False from h2).elim
end
end Wk


set_option Elab.async false
set_option linter.all false
set_option maxRecDepth 100000
set_option maxHeartbeats 4000000
set_option autoImplicit false
/-! WkStm: the functional reading of targets, comprehensions, statements, loops, defs. -/
namespace Wk
open PySem PySem.Spec PyProof.Rows L2

/-! ### targets -/
theorem wipe_set {σ : L2.St} {i : Nat} {y : Option V} : ∀ {vs : List Nat}, i ∈ vs → L2.wipe (σ.set i y) vs = L2.wipe σ vs
  | [], h => by cases h
  | v :: vs, h => by
    unfold L2.wipe
    by_cases e : i ∈ vs
    · rw [wipe_set e]
    · have ev : i = v := by
        rcases List.mem_cons.mp h with z | z
        · exact z
        · exact absurd z e
      subst ev
      have key : ∀ {us : List Nat}, i ∉ us → L2.wipe (σ.set i y) us = (L2.wipe σ us).set i y := by
        intro us
        induction us with
        | nil => intro _; rfl
        | cons u us ih =>
          intro hn
          unfold L2.wipe
          rw [ih (fun z => hn (List.mem_cons_of_mem _ z)), List.set_comm _ _ (fun z => hn (by rw [z]; exact List.mem_cons_self))]
      rw [key e, List.set_set]
theorem wipe_wipe {σ : L2.St} : ∀ {vs us : List Nat}, (∀ x ∈ us, x ∈ vs) → L2.wipe (L2.wipe σ us) vs = L2.wipe σ vs
  | vs, [], _ => rfl
  | vs, u :: us, h => by
    show L2.wipe ((L2.wipe σ us).set u none) vs = _
    rw [wipe_set (h u List.mem_cons_self), wipe_wipe fun x hx => h x (List.mem_cons_of_mem _ hx)]
section
variable (X : Cx) (T : Tbs) (vs : List Nat)
/-- a target, its slots among vs -/
def TGf (g : Tg) : TG := fun v σ H Q => ∃ ρ S s d, RS X.K T ρ S H ∧ RE X.K ρ H s σ ∧ RD X.K ρ H d v ∧ match gF g d s with
  | some s' => ∀ σ', RE X.K ρ H s' σ' → L2.wipe σ' vs = L2.wipe σ vs → Q σ' H
  | none => False
def TGfs (gs : List Tg) : TGs := fun us σ H Q => ∃ ρ S s ds, RS X.K T ρ S H ∧ RE X.K ρ H s σ ∧ RDs X.K ρ H ds us ∧ match gFs gs ds s with
  | some s' => ∀ σ', RE X.K ρ H s' σ' → L2.wipe σ' vs = L2.wipe σ vs → Q σ' H
  | none => False
abbrev EG (tg : Expr) (g : Tg) : Prop := PG X tg (TGf X T vs g)
abbrev EGs (ts : List Expr) (gs : List Tg) : Prop := PGs X ts (TGfs X T vs gs)
end
theorem PG.imp {X : Cx} {tg : Expr} {t t' : TG} (h : PG X tg t) (i : ∀ v σ H Q, t' v σ H Q → t v σ H Q) : PG X tg t' := ⟨fun pins s σ H v u Q I r q => h.run pins s σ H v u Q I r (i v σ H Q q)⟩
theorem PGs.imp {X : Cx} {tg : List Expr} {t t' : TGs} (h : PGs X tg t) (i : ∀ v σ H Q, t' v σ H Q → t v σ H Q) : PGs X tg t' := ⟨fun pins s σ H v u Q I r q => h.run pins s σ H v u Q I r (i v σ H Q q)⟩
section
variable {X : Cx} {T : Tbs} {W : WX} {pos : Pos} {vs : List Nat}
theorem eg_name (i : Nat) {x : Str} (hN : X.N.Nodup) (hv : i ∈ vs := by decide) (hi : X.N[i]? = some x := by rfl) (hx : Loc X.env.scope x := by first | exact Or.inl rfl | exact Or.inr rfl) (hf : X.fn x = true ∨ X.env.scope.names.lookup x = some .local := by first | exact .inl rfl | exact .inr rfl | assumption) : EG X T vs (.Name x pos) (.nm i) := by
  refine PG.imp (pg_name hN hi hx hf) ?_
  rintro v σ H Q ⟨ρ, S, s, d, rs, re, rd, h⟩
  exact h _ (re.set i rd) (wipe_set hv)
theorem egs_nil : EGs X T vs [] [] := by
  refine PGs.imp pgs_nil ?_
  rintro v σ H Q ⟨ρ, S, s, ds, rs, re, rd, h⟩
  cases ds with
  | nil => unfold RDs at rd; subst rd; exact ⟨rfl, h _ re rfl⟩
  | cons d ds => exact (show False from h).elim
theorem egs_cons {e : Expr} {es : List Expr} {g : Tg} {gs : List Tg} (h1 : EG X T vs e g) (h2 : EGs X T vs es gs) (hs : (assignEach (e :: es) X.env).map (·.2) = assign e X.env :: (assignEach es X.env).map (·.2) := by rfl) : EGs X T vs (e :: es) (g :: gs) := by
  refine PGs.imp (pgs_cons h1 h2 hs) ?_
  rintro v σ H Q ⟨ρ, S, s, ds, rs, re, rd, h⟩
  cases ds with
  | nil => exact (show False from h).elim
  | cons d ds =>
    unfold RDs at rd
    obtain ⟨w, r, rfl, rd1, rd2⟩ := rd
    refine ⟨w, r, rfl, ρ, S, s, d, rs, re, rd1, ?_⟩
    unfold gFs at h
    cases e : gF g d s with
    | none => rw [e] at h; exact (show False from h).elim
    | some s' =>
      rw [e] at h
      intro σ' re' ew
      refine ⟨ρ, S, s', ds, rs, re', rd2, ?_⟩
      dsimp only at h ⊢
      split
      · rename_i s2 e2
        rw [e2] at h
        exact fun σ2 re2 ew2 => h σ2 re2 (ew2.trans ew)
      · rename_i e2
        rw [e2] at h
        exact h
theorem gFs_len : ∀ {gs : List Tg} {ds : List D} {s s' : Env}, gFs gs ds s = some s' → ds.length = gs.length
  | [], [], _, _, _ => rfl
  | [], _ :: _, _, _, h => by unfold gFs at h; cases h
  | _ :: _, [], _, _, h => by unfold gFs at h; cases h
  | g :: gs, d :: ds, s, s', h => by
    unfold gFs at h
    cases e : gF g d s with
    | none => rw [e] at h; cases h
    | some s1 => rw [e] at h; rw [List.length_cons, List.length_cons, gFs_len h]
theorem eg_tup {es : List Expr} {gs : List Tg} {k : Nat} {n : Nat} (hc : X.calm = true) (h : EGs X T vs es gs) (hn : (assignEach es X.env).length = n := by rfl) (hl : gs.length = n := by rfl) (hst : (assignEach es X.env).findIdx? (·.1) = none := by rfl) : EG X T vs (.Tuple es k pos) (.tp gs) := by
  refine PG.imp (pg_tup hc h hn hst) ?_
  rintro v σ H Q ⟨ρ, S, s, d, rs, re, rd, h⟩
  cases d with
  | tup ds =>
    obtain ⟨a, us, rfl, ta, ra⟩ := rd.tup
    cases e : gFs gs ds s with
    | none => rw [show gF (.tp gs) (.tup ds) s = gFs gs ds s from rfl, e] at h; exact (show False from h).elim
    | some s' =>
      refine ⟨a, us, rfl, ta.sq, by rw [← ra.len, gFs_len e, hl], ρ, S, s, ds, rs, re, ra, ?_⟩
      exact h
  | _ => exact (show False from h).elim
end

/-! ### comprehensions -/
section
variable {X : Cx} {T : Tbs} {W : WX} {pos : Pos} {vs : List Nat}
abbrev W0 : WX := fun _ _ _ _ => False
/-- the tests of a comprehension -/
abbrev ETs (X : Cx) (T : Tbs) (W : WX) (es : List Expr) (t : FT) : Prop := PTs X es (TTf X T W t)
theorem PTs.imp {X : Cx} {es : List Expr} {t t' : TT} (h : PTs X es t) (i : ∀ σ H Q, t' σ H Q → t σ H Q) : PTs X es t' := ⟨fun pins s σ H Q I q => h.run pins s σ H Q I (i σ H Q q)⟩
theorem ets_nil : ETs X T W [] tTrue := by
  refine PTs.imp pts_nil ?_
  rintro σ H Q ⟨ρ, S, s, rs, re, h⟩
  exact h ρ H _ (Le.refl _ _) rs rfl
theorem ets_one {c : Expr} {t : FT} (h : ET X T W c t) : ETs X T W [c] t := pts_one h
theorem noEx_post {K : PySem.W.Frag} {mg : Str → Option Value} {E E' : XK} {ρ : List Addr} {H : Hp} {α β : Type} {R : List Addr → Hp → α → β → Prop} {Q : β → Hp → Prop} {r : Res α} (h : Post K mg T E ρ H R Q (noEx r)) : Post K mg T E' ρ H R Q r := by
  cases r with
  | ok a S => exact h
  | ex c w S => exact (show False from h).elim
  | bad => exact h
theorem noEx_bind {α β : Type} {r : Res α} {f : α → Store → Res β} : noEx (r.bind f) = (noEx r).bind fun a S => noEx (f a S) := by cases r <;> rfl
theorem upd_twice {H : Hp} {a : Addr} {o u : HO} : upd (upd H a o) a u = upd H a u := upd_upd
/-- [elt for target in iter if ..] -/
theorem tef_comp {fi : FI} {g : Tg} {t : FT} {e : FE} : ∀ σ H Q, TEf X T W (eComp fi g t e vs) σ H Q → tLc (TIf X T W fi) (TGf X T vs g) (TTf X T W0 t) (TEf X T W0 e) vs σ H Q := by
  rintro σ H Q ⟨ρ, S, s, rs, re, h⟩
  refine ⟨ρ, S, s, rs, re, (Post.bind (R := ItOk X.K T) h).imp ?_⟩
  rintro J H1 ⟨ρ1, S1, I, l1, rs1, it, h1⟩
  intro D hD
  have re1 := re.le rs l1
  have sz := it.1
  -- the turns: i items gone, acc made
  refine ⟨fun i m H' => m = I.items.length - i ∧ i ≤ I.items.length ∧ ∃ ρ' S' acc accV, Le ρ1 H1 ρ' H' ∧ RS X.K T ρ' S' H' ∧ H' D = some (.lst accV) ∧ D ∉ ρ' ∧ RDs X.K ρ' H' acc accV ∧ accV.length ≤ i ∧
      Post X.K X.mg T (WE W σ) ρ1 H1 (RD X.K) Q ((noEx (compL I.chk g t e (wipeE s vs) (I.items.drop i) S')).bind fun ys S2 => .ok (.ref S2.length) (S2 ++ [.lst (acc ++ ys)])), ?_, ?_⟩
  · exact ⟨_, rfl, Nat.zero_le _, ρ1, S1, [], [], Le.fresh rs1 hD, rs1.freshP hD, upd_same, rs1.fresh hD, by unfold RDs; rfl, Nat.zero_le _, by simpa using h1⟩
  · rintro i m H' ⟨rfl, hi, ρ', S', acc, accV, le', rs', hD', nD, ra, hl, hp⟩
    by_cases hlt : i < I.items.length
    · refine .inr ?_
      have hd : I.items[i]? = some I.items[i] := List.getElem?_eq_getElem hlt
      rw [List.drop_eq_getElem_cons hlt] at hp
      generalize hdd : I.items[i] = d at hp hd
      have ok : okC I.chk S' = true := by
        by_cases q : okC I.chk S' = true
        · exact q
        · unfold compL at hp; rw [if_neg q] at hp; exact (show False from hp).elim
      unfold compL at hp
      rw [if_pos ok] at hp
      obtain ⟨hgo, hyld⟩ := (it.2 ρ' S' H' le' rs' ok).1 i d hd
      refine ⟨hgo, fun H5 => I.items.length - (i + 1) = I.items.length - (i + 1) ∧ i + 1 ≤ I.items.length ∧ ∃ ρ' S' acc accV, Le ρ1 H1 ρ' H5 ∧ RS X.K T ρ' S' H5 ∧ H5 D = some (.lst accV) ∧ D ∉ ρ' ∧ RDs X.K ρ' H5 acc accV ∧ accV.length ≤ i + 1 ∧
        Post X.K X.mg T (WE W σ) ρ1 H1 (RD X.K) Q ((noEx (compL I.chk g t e (wipeE s vs) (I.items.drop (i + 1)) S')).bind fun ys S2 => .ok (.ref S2.length) (S2 ++ [.lst (acc ++ ys)])),
        fun H5 q => ⟨_, by omega, q⟩, fun x H2 y => ?_⟩
      obtain ⟨le2, rs2, rd2⟩ := hyld x H2 y
      have hD2 : H2 D = some (.lst accV) := le2.keep D _ hD' nD (fun ps z => nomatch z)
      have re2 : RE X.K ρ' H2 (wipeE s vs) (L2.wipe σ vs) := (re1.le rs1 (le'.trans le2)).wipe vs
      refine ⟨ρ', S', wipeE s vs, d, rs2, re2, rd2, ?_⟩
      cases eg : gF g d (wipeE s vs) with
      | none => rw [eg] at hp; exact (show False from hp).elim
      | some s1 =>
        rw [eg] at hp
        dsimp only at hp ⊢
        intro σ' re' ew
        refine ⟨ew.trans (wipe_wipe fun _ z => z), ρ', S', s1, rs2, re', ?_⟩
        cases et : t s1 S' with
        | bad => rw [et] at hp; exact hp
        | ex c w S2 => rw [et] at hp; exact (show False from hp).elim
        | ok b S2 =>
          rw [et, Res.bind_ok] at hp
          rintro ρ3 H3 b' le3 rs3 hb
          obtain rfl : b = b' := hb
          have nD3 := le3.nin hD2 nD
          have hD3 : H3 D = some (.lst accV) := le3.keep D _ hD2 nD (fun ps z => nomatch z)
          cases b with
          | false =>
            rw [if_neg (by decide)] at hp ⊢
            exact ⟨rfl, hlt, ρ3, S2, acc, accV, (le'.trans le2).trans le3, rs3, hD3, nD3, (ra.le rs' le2).le rs2 le3, Nat.le_succ_of_le hl, hp⟩
          | true =>
            rw [if_pos rfl] at hp ⊢
            refine ⟨ρ3, S2, s1, rs3, re'.le rs2 le3, ?_⟩
            cases ee : e s1 S2 with
            | bad => rw [ee] at hp; exact hp
            | ex c w S2 => rw [ee] at hp; exact (show False from hp).elim
            | ok y3 S3 =>
              rw [ee, Res.bind_ok] at hp
              rintro ρ4 H4 v le4 rs4 rd4
              have nD4 := le4.nin hD3 nD3
              have hD4 : H4 D = some (.lst accV) := le4.keep D _ hD3 nD3 (fun ps z => nomatch z)
              refine ⟨accV, hD4, by omega, rfl, hlt, ρ4, S3, acc ++ [y3], accV ++ [v], ?_⟩
              obtain ⟨lw5, rs5⟩ := rs4.side (o := .lst (accV ++ [v])) hD4 nD4 (fun _ z => nomatch z) (fun _ _ z => nomatch z) (fun _ z => nomatch z) (fun _ z => nomatch z)
              have ra4 := ((ra.le rs' le2).le rs2 le3).le rs3 le4
              refine ⟨(((le'.trans le2).trans le3).trans le4).side hD, rs5, upd_same, nD4, RDs.of (Paired.app (RDs.lw lw5 _ _ ra4).pair (.cons (RD.lw lw5 _ _ rd4) .nil)), by rw [List.length_append, List.length_singleton]; omega, ?_⟩
              cases ec : compL I.chk g t e (wipeE s vs) (I.items.drop (i + 1)) S3 with
              | bad => rw [ec] at hp; exact hp
              | ex c w S2 => rw [ec] at hp; exact (show False from hp).elim
              | ok ys S4 =>
                rw [ec] at hp
                simpa using hp
    · have e : i = I.items.length := by omega
      subst e
      rw [List.drop_length] at hp
      have ok : okC I.chk S' = true := by
        by_cases q : okC I.chk S' = true
        · exact q
        · unfold compL at hp; rw [if_neg q] at hp; exact (show False from hp).elim
      unfold compL at hp
      rw [if_pos ok] at hp
      refine .inl ⟨(it.2 ρ' S' H' le' rs' ok).2, ?_⟩
      have lwA : Lw ρ' H' (ρ' ++ [D]) H' := ⟨⟨_, rfl⟩, fun _ _ h => h, fun _ _ _ h => h⟩
      have rsA := rs'.adopt (p := D) (ob := .lst acc) nD ⟨accV, hD', ra, by omega⟩
      refine hp (ρ' ++ [D]) H' (.ref D) (le'.adopt hD) (by simpa using rsA) (rd_ref rs'.lastAt)
theorem ev_comp {elt tg iter : Expr} {ifs : List Expr} {scope : Scope} {own : List (Str × Nat)} {fi : FI} {g : Tg} {t : FT} {e : FE} (hc : X.calm = true) (hN : X.N.Nodup) (hi : EI X T W tg iter fi) {us : List Nat} (ok : BlkOk X.N X.env.scope scope own) (hus : own.map (·.2) = us)
    (hg : ∀ (s : Shared) (H : Hp) (C : Addr) (cl : List (Str × Addr)) (fp : List Addr), EG (X.blk s H scope (compEnvC scope cl C X.env) fp) T (own.map (·.2)) tg g)
    (ht : ∀ (s : Shared) (H : Hp) (C : Addr) (cl : List (Str × Addr)) (fp : List Addr), ETs (X.blk s H scope (compEnvC scope cl C X.env) fp) T W0 ifs t)
    (he : ∀ (s : Shared) (H : Hp) (C : Addr) (cl : List (Str × Addr)) (fp : List Addr), EV (X.blk s H scope (compEnvC scope cl C X.env) fp) T W0 elt e) (hs : ∀ x, foldedSetIterable iter X.env x = pure x := by intro _; rfl) :
    EV X T W (.ListComp elt [⟨tg, iter, ifs, 0⟩] scope pos) (eComp fi g t e us) := by
  subst hus
  exact PE.imp (pe_lc hc hN hi ok hg ht he hs) tef_comp
/-- name = [..] on one line -/
theorem es_comp {i : Nat} {y : Str} {py : Pos} {elt tg iter : Expr} {ifs : List Expr} {scope : Scope} {own : List (Str × Nat)} {cpos spos : Pos} {fi : FI} {g : Tg} {t : FT} {e : FE} (hc : X.calm = true) (hN : X.N.Nodup) (hy : X.N[i]? = some y) (hyl : X.env.scope.names.lookup y = some .local)
    (hsw : swapsWith (.ListComp elt [⟨tg, iter, ifs, 0⟩] scope cpos) (some (.Name y py)) spos.line X.env = pure true) (hi : EI X T W tg iter fi) {us : List Nat} (ok : BlkOk X.N X.env.scope scope own) (hus : own.map (·.2) = us)
    (hg : ∀ (s : Shared) (H : Hp) (C : Addr) (cl : List (Str × Addr)) (fp : List Addr), EG (X.blk s H scope (compEnvC scope cl C X.env) fp) T (own.map (·.2)) tg g)
    (ht : ∀ (s : Shared) (H : Hp) (C : Addr) (cl : List (Str × Addr)) (fp : List Addr), ETs (X.blk s H scope (compEnvC scope cl C X.env) fp) T W0 ifs t)
    (he : ∀ (s : Shared) (H : Hp) (C : Addr) (cl : List (Str × Addr)) (fp : List Addr), EV (X.blk s H scope (compEnvC scope cl C X.env) fp) T W0 elt e) (hs : ∀ x, foldedSetIterable iter X.env x = pure x := by intro _; rfl) :
    ES X T W (.Assign [.Name y py] (.ListComp elt [⟨tg, iter, ifs, 0⟩] scope cpos) spos) (sSet i (eComp fi g t e us)) := by
  subst hus
  refine PS.imp (ps_setLc (wi := TIf X T W fi) (g := TGf X T (List.map (fun (p : Str × Nat) => p.2) own) g) (tt := TTf X T W0 t) (te := TEf X T W0 e) hc hN hy hyl hsw hi ok hg ht he hs) ?_
  rintro D σ H ⟨ρ, S, s, rs, re, h⟩
  refine tef_comp σ H _ ⟨ρ, S, s, rs, re, (PostS.ofE (R := RD X.K) rs re h).imp ?_⟩
  rintro v H1 ⟨ρ1, S1, d, l1, rs1, re1, rd1, h1⟩
  exact h1 ρ1 H1 _ (Le.refl _ _) rs1 (re1.set i rd1)
end
end Wk


set_option Elab.async false
set_option linter.all false
set_option maxRecDepth 100000
set_option maxHeartbeats 4000000
set_option autoImplicit false
/-! WkDef: the functional reading of statements, loops, dicts' operations, defs and their calls, errors raised. -/
namespace Wk
open PySem PySem.Spec PyProof.Rows L2

section
variable {X : Cx} {T : Tbs} {W : WX} {pos : Pos}
/-! ### blocks -/
theorem ess_nil : ESs X T W [] sSkip := by
  refine PSs.imp pss_nil ?_
  rintro D σ H ⟨ρ, S, s, rs, re, h⟩
  exact h ρ H σ (Le.refl _ _) rs re
theorem ess_one {st : Stmt} {f : FS} (h : ES X T W st f) : ESs X T W [st] f := pss_one h
theorem ess_cons {st : Stmt} {rest : List Stmt} {f g : FS} (h1 : ES X T W st f) (h2 : ESs X T W rest g) : ESs X T W (st :: rest) (sSeq f g) := by
  refine PSs.imp (pss_cons h1 h2) ?_
  rintro D σ H ⟨ρ, S, s, rs, re, h⟩
  refine ⟨ρ, S, s, rs, re, ?_⟩
  unfold sSeq at h
  cases e : f s S with
  | nx s' S' =>
    rw [e] at h
    exact fun ρ' H' σ' le rs' re' => ⟨ρ', S', s', rs', re', PostS.le h le⟩
  | rt d S' => rw [e] at h; exact h
  | bk s' S' => rw [e] at h; exact h
  | ct s' S' => rw [e] at h; exact h
  | ex c w s' S' => rw [e] at h; exact h
  | bad => rw [e] at h; exact h
theorem es_pass : ES X T W (.Pass pos) sSkip := by
  refine PS.imp ps_pass ?_
  rintro D σ H ⟨ρ, S, s, rs, re, h⟩
  exact h ρ H σ (Le.refl _ _) rs re
theorem es_break : ES X T W (.Break pos) Wk.sBreak := by
  refine PS.imp ps_break ?_
  rintro D σ H ⟨ρ, S, s, rs, re, h⟩
  exact h ρ H σ (Le.refl _ _) rs re
theorem es_cont : ES X T W (.Continue pos) Wk.sCont := by
  refine PS.imp ps_continue ?_
  rintro D σ H ⟨ρ, S, s, rs, re, h⟩
  exact h ρ H σ (Le.refl _ _) rs re
variable {e : Expr} {f : FE}
theorem es_expr (he : EV X T W e f) (hs : swapsWith e none pos.line X.env = pure false := by rfl) : ES X T W (.Expr e pos) (sExpr f) := by
  refine PS.imp (ps_expr he hs) ?_
  rintro D σ H ⟨ρ, S, s, rs, re, h⟩
  refine ⟨ρ, S, s, rs, re, (PostS.ofE (R := RD X.K) rs re h).imp ?_⟩
  rintro v H1 ⟨ρ1, S1, d, l1, rs1, re1, rd1, h1⟩
  exact h1 ρ1 H1 σ (Le.refl _ _) rs1 re1
theorem es_ret (he : EV X T W e f) : ES X T W (.Return (some e) pos) (sRet f) := by
  refine PS.imp (ps_ret he) ?_
  rintro D σ H ⟨ρ, S, s, rs, re, h⟩
  refine ⟨ρ, S, s, rs, re, (PostS.ofE (R := RD X.K) rs re h).imp ?_⟩
  rintro v H1 ⟨ρ1, S1, d, l1, rs1, re1, rd1, h1⟩
  exact h1 ρ1 H1 v (Le.refl _ _) rs1 rd1
theorem es_retN : ES X T W (.Return none pos) sRetN := by
  refine PS.imp ps_retN ?_
  rintro D σ H ⟨ρ, S, s, rs, re, h⟩
  exact h ρ H _ (Le.refl _ _) rs rd_non
theorem es_if {c : Expr} {a b : List Stmt} {t : FT} {fa fb : FS} (hc : ET X T W c t) (ha : ESs X T W a fa) (hb : ESs X T W b fb) : ES X T W (.If c a b pos) (sIf t fa fb) := by
  refine PS.imp (ps_if hc ha hb) ?_
  rintro D σ H ⟨ρ, S, s, rs, re, h⟩
  refine ⟨ρ, S, s, rs, re, (PostS.ofE (R := RB) rs re h).imp ?_⟩
  rintro k H1 ⟨ρ1, S1, k', l1, rs1, re1, rfl, h1⟩
  cases k' with
  | true => rw [if_pos rfl] at h1 ⊢; exact ⟨ρ1, S1, s, rs1, re1, h1⟩
  | false => rw [if_neg (by decide)] at h1 ⊢; exact ⟨ρ1, S1, s, rs1, re1, h1⟩
theorem es_set (i : Nat) {x : Str} {pos' : Pos} (hN : X.N.Nodup) (he : EV X T W e f) (hi : X.N[i]? = some x := by rfl) (hx : Loc X.env.scope x := by first | exact Or.inl rfl | exact Or.inr rfl) (hs : swapsWith e (some (.Name x pos')) pos.line X.env = pure false := by rfl)
    (hf : X.fn x = true ∨ X.env.scope.names.lookup x = some .local := by first | exact .inl rfl | exact .inr rfl | assumption) : ES X T W (.Assign [.Name x pos'] e pos) (sSet i f) := by
  refine PS.imp (ps_set hN hi hx he hs hf) ?_
  rintro D σ H ⟨ρ, S, s, rs, re, h⟩
  refine ⟨ρ, S, s, rs, re, (PostS.ofE (R := RD X.K) rs re h).imp ?_⟩
  rintro v H1 ⟨ρ1, S1, d, l1, rs1, re1, rd1, h1⟩
  exact h1 ρ1 H1 _ (Le.refl _ _) rs1 (re1.set i rd1)
theorem es_asg {tg : Expr} {g : Tg} {vs : List Nat} (he : EV X T W e f) (hg : EG X T vs tg g) (hs : swapsWithSole [tg] e pos.line X.env = pure false := by rfl) (hw : swappedStores [tg] e X.env = pure none := by rfl)
    (h1 : (assignEach [tg] X.env).map (·.2) = [assign tg X.env] := by rfl) : ES X T W (.Assign [tg] e pos) (sAsg g f) := by
  refine PS.imp (ps_asg he hg hs hw h1) ?_
  rintro D σ H ⟨ρ, S, s, rs, re, h⟩
  refine ⟨ρ, S, s, rs, re, (PostS.ofE (R := RD X.K) rs re h).imp ?_⟩
  rintro v H1 ⟨ρ1, S1, d, l1, rs1, re1, rd1, h1⟩
  refine ⟨ρ1, S1, s, d, rs1, re1, rd1, ?_⟩
  cases eg : gF g d s with
  | none => rw [eg] at h1; exact (show False from h1).elim
  | some s' => rw [eg] at h1; exact fun σ' re' _ => h1 ρ1 H1 σ' (Le.refl _ _) rs1 re'
/-- a, b = x, y -/
theorem es_par (i j : Nat) {x y : Str} {a b : Expr} {fa fb : FE} {px py pt : Pos} {kt k2 pt2} (hc : X.calm = true) (hN : X.N.Nodup) (ha : EV X T W a fa) (hb : EV X T W b fb) (hi : X.N[i]? = some x := by rfl) (hj : X.N[j]? = some y := by rfl) (hij : i ≠ j := by decide)
    (hx : X.env.scope.names.lookup x = some .local := by rfl) (hy : X.env.scope.names.lookup y = some .local := by rfl) (hsa : starEach (a :: [b]) X.env = (false, eval a X.env) :: starEach [b] X.env := by rfl) (hsb : starEach [b] X.env = (false, eval b X.env) :: starEach [] X.env := by rfl)
    (hw : swappedStores [.Tuple [.Name x px, .Name y py] kt pt] (.Tuple [a, b] k2 pt2) X.env = pure (some [x, y]) := by rfl)
    (hs : swapsWithSole [.Tuple [.Name x px, .Name y py] kt pt] (.Tuple [a, b] k2 pt2) pos.line X.env = pure false := by rfl) :
    ES X T W (.Assign [.Tuple [.Name x px, .Name y py] kt pt] (.Tuple [a, b] k2 pt2) pos) (sPar i j fa fb) := by
  refine PS.imp (ps_par hc hN hi hj hij hx hy (pa_cons ha (pa_cons hb pa_nil hsb) hsa) hw hs) ?_
  rintro D σ H ⟨ρ, S, s, rs, re, h⟩
  refine ⟨ρ, S, s, rs, re, (PostS.ofE (R := RD X.K) rs re h).imp ?_⟩
  rintro v H1 ⟨ρ1, S1, d, l1, rs1, re1, rd1, h1⟩
  refine ⟨ρ1, S1, s, rs1, re1, (PostS.ofE (R := RD X.K) rs1 re1 h1).imp ?_⟩
  rintro w H2 ⟨ρ2, S2, d2, l2, rs2, re2, rd2, h2⟩
  exact ⟨v, w, rfl, h2 ρ2 H2 _ (Le.refl _ _) rs2 ((re2.set i (rd1.le rs1 l2)).set j rd2)⟩
/-- xs[i] = v of a list -/
theorem es_subL {o i v : Expr} {fo fi fv : FE} {pos' : Pos} (hv : EV X T W v fv) (ho : EV X T W o fo) (hi : EV X T W i fi)
    (ha : ∀ v, assign (.Subscript o i pos') X.env v = (do
      let ov ← holding [v] (eval o X.env)
      let iv ← holding [v, ov] (eval i X.env)
      standAt pos'
      holding [v, ov, iv] (setItem ov iv v)
      release [v, ov, iv] []) := by intro _; rfl)
    (hs : swapsWithSole [.Subscript o i pos'] v pos.line X.env = pure false := by rfl) (hw : swappedStores [.Subscript o i pos'] v X.env = pure none := by rfl)
    (h1 : (assignEach [.Subscript o i pos'] X.env).map (·.2) = [assign (.Subscript o i pos') X.env] := by rfl) : ES X T W (.Assign [.Subscript o i pos'] v pos) (sSub uSetL fo fi fv) := by
  refine PS.imp (ps_asg hv (pg_sub ho hi set_list ha) hs hw h1) ?_
  rintro D σ H ⟨ρ, S, s, rs, re, h⟩
  refine ⟨ρ, S, s, rs, re, (PostS.ofE (R := RD X.K) rs re h).imp ?_⟩
  rintro v H1 ⟨ρ1, S1, d, l1, rs1, re1, rd1, h1⟩
  refine ⟨ρ1, S1, s, rs1, re1, (PostS.ofE (R := RD X.K) rs1 re1 h1).imp ?_⟩
  rintro w H2 ⟨ρ2, S2, d2, l2, rs2, re2, rd2, h2⟩
  refine ⟨ρ2, S2, s, rs2, re2, (PostS.ofE (R := RD X.K) rs2 re2 h2).imp ?_⟩
  rintro u H3 ⟨ρ3, S3, d3, l3, rs3, re3, rd3, h3⟩
  have rd1' := (rd1.le rs1 l2).le rs2 l3
  have rd2' := rd2.le rs2 l3
  cases d2 with
  | ref l =>
    cases d3 with
    | int k =>
      unfold uSetL at h3
      dsimp only at h3
      cases e0 : S3[l]? with
      | none => rw [e0] at h3; exact (show False from h3).elim
      | some ob =>
        rw [e0] at h3
        cases ob with
        | lst ds =>
          obtain ⟨a, vs, rfl, hla, hv', ra, za⟩ := rs3.lstAt rd2' e0
          dsimp only at h3
          cases ej : Wk.ixN ds.length k with
          | none => rw [ej] at h3; exact (show False from h3).elim
          | some j =>
            rw [ej] at h3
            obtain ⟨q1, q2⟩ := lst_write rs3 hla e0 (RDs.of (Paired.set1 (R := RD X.K ρ3 H3) rd1' j ra.pair)) (by rw [List.length_set]; exact za)
            refine ⟨a, vs, k, j, rfl, rd3.int, hv', by rw [← ra.len]; exact ej, ?_⟩
            exact h3 ρ3 _ σ q1 q2 (re3.le rs3 q1)
        | _ => exact (show False from h3).elim
    | _ => exact (show False from h3).elim
  | _ => cases d3 <;> exact (show False from h3).elim

/-! ### loops -/
theorem es_while {c : Expr} {body : List Stmt} {t : FT} {b : FS} (hp : PassesOwn (model X.prog X.w) X.A X.env X.xe) (hc : ET X T W c t) (hb : ESs X T W body b) : ES X T W (.While c body [] pos) (Wk.sWhile t b) := by
  refine PS.imp (ps_while hp hc hb) ?_
  rintro D σ H ⟨ρ, S, s, rs, re, h⟩
  refine ⟨fun m σ H => ∃ ρ S s, RS X.K T ρ S H ∧ RE X.K ρ H s σ ∧ PostS X.K X.mg T W D ρ H (whileL t b m s S), ⟨FUEL, ρ, S, s, rs, re, h⟩, ?_⟩
  rintro m σ H ⟨ρ, S, s, rs, re, h⟩
  cases m with
  | zero => exact (show False from h).elim
  | succ m =>
    unfold whileL at h
    refine ⟨ρ, S, s, rs, re, (PostS.ofE (R := RB) rs re h).imp ?_⟩
    rintro k H1 ⟨ρ1, S1, k', l1, rs1, re1, rfl, h1⟩
    cases k' with
    | false =>
      rw [if_neg (by decide)] at h1 ⊢
      exact h1 ρ1 H1 σ (Le.refl _ _) rs1 re1
    | true =>
      rw [if_pos rfl] at h1 ⊢
      refine ⟨fun σ H => ∃ ρ S s, RS X.K T ρ S H ∧ RE X.K ρ H s σ ∧ PostS X.K X.mg T W D ρ H (whileL t b m s S), fun σ' H' q => ⟨m, Nat.lt_succ_self _, q⟩, ρ1, S1, s, rs1, re1, ?_⟩
      cases eb : b s S1 with
      | nx s2 S2 => rw [eb] at h1; exact fun ρ' H' σ' le rs' re' => ⟨ρ', S2, s2, rs', re', PostS.le h1 le⟩
      | ct s2 S2 => rw [eb] at h1; exact fun ρ' H' σ' le rs' re' => ⟨ρ', S2, s2, rs', re', PostS.le h1 le⟩
      | bk s2 S2 => rw [eb] at h1; exact h1
      | rt d S2 => rw [eb] at h1; exact h1
      | ex c w s2 S2 => rw [eb] at h1; exact h1
      | bad => rw [eb] at h1; exact h1
theorem es_for {tg iter : Expr} {body : List Stmt} {fi : FI} {g : Tg} {b : FS} {vs : List Nat} (hp : PassesOwn (model X.prog X.w) X.A X.env X.xe) (hc : X.calm = true) (hi : EI X T W tg iter fi) (hg : EG X T vs tg g) (hb : ESs X T W body b)
    (hs : ∀ x, foldedSetIterable iter X.env x = pure x := by intro _; rfl) : ES X T W (.For tg iter body [] pos) (sFor fi g b) := by
  refine PS.imp (ps_for hp hc hi hg hb hs) ?_
  rintro D σ H ⟨ρ, S, s, rs, re, h⟩
  refine ⟨ρ, S, s, rs, re, (PostS.ofE (R := ItOk X.K T) rs re h).imp ?_⟩
  rintro J H1 ⟨ρ1, S1, I, l1, rs1, re1, it, h1⟩
  refine ⟨fun i m σ' H' => m = I.items.length - i ∧ i ≤ I.items.length ∧ ∃ ρ' S' s', Le ρ1 H1 ρ' H' ∧ RS X.K T ρ' S' H' ∧ RE X.K ρ' H' s' σ' ∧ PostS X.K X.mg T W D ρ' H' (forL I.chk g b (I.items.drop i) s' S'),
    ⟨_, rfl, Nat.zero_le _, ρ1, S1, s, Le.refl _ _, rs1, re1, by simpa using h1⟩, ?_⟩
  rintro i m σ' H' ⟨rfl, hi', ρ', S', s', le', rs', re', hp⟩
  by_cases hlt : i < I.items.length
  · have hd : I.items[i]? = some I.items[i] := List.getElem?_eq_getElem hlt
    rw [List.drop_eq_getElem_cons hlt] at hp
    generalize hdd : I.items[i] = d at hp hd
    have ok : okC I.chk S' = true := by
      by_cases q : okC I.chk S' = true
      · exact q
      · unfold forL at hp; rw [if_neg q] at hp; exact (show False from hp).elim
    unfold forL at hp
    rw [if_pos ok] at hp
    obtain ⟨hgo, hyld⟩ := (it.2 ρ' S' H' le' rs' ok).1 i d hd
    refine .inr ⟨hgo, fun σ2 H2 => i + 1 ≤ I.items.length ∧ ∃ ρ' S' s', Le ρ1 H1 ρ' H2 ∧ RS X.K T ρ' S' H2 ∧ RE X.K ρ' H2 s' σ2 ∧ PostS X.K X.mg T W D ρ' H2 (forL I.chk g b (I.items.drop (i + 1)) s' S'),
      fun σ2 H2 q => ⟨_, by omega, rfl, q⟩, fun x H2 y => ?_⟩
    obtain ⟨le2, rs2, rd2⟩ := hyld x H2 y
    refine ⟨ρ', S', s', d, rs2, re'.le rs' le2, rd2, ?_⟩
    cases eg : gF g d s' with
    | none => rw [eg] at hp; exact (show False from hp).elim
    | some s1 =>
      rw [eg] at hp
      dsimp only at hp ⊢
      intro σ2 re2 _
      refine ⟨ρ', S', s1, rs2, re2, ?_⟩
      have hp2 := PostS.le hp le2
      cases eb : b s1 S' with
      | nx s2 S2 => rw [eb] at hp2; exact fun ρ3 H3 σ3 le3 rs3 re3 => ⟨hlt, ρ3, S2, s2, (le'.trans le2).trans le3, rs3, re3, PostS.le hp2 le3⟩
      | ct s2 S2 => rw [eb] at hp2; exact fun ρ3 H3 σ3 le3 rs3 re3 => ⟨hlt, ρ3, S2, s2, (le'.trans le2).trans le3, rs3, re3, PostS.le hp2 le3⟩
      | bk s2 S2 => rw [eb] at hp2; exact hp2
      | rt d S2 => rw [eb] at hp2; exact hp2
      | ex c w s2 S2 => rw [eb] at hp2; exact hp2
      | bad => rw [eb] at hp2; exact hp2
  · have e : i = I.items.length := by omega
    subst e
    rw [List.drop_length] at hp
    have ok : okC I.chk S' = true := by
      by_cases q : okC I.chk S' = true
      · exact q
      · unfold forL at hp; rw [if_neg q] at hp; exact (show False from hp).elim
    unfold forL at hp
    rw [if_pos ok] at hp
    exact .inl ⟨(it.2 ρ' S' H' le' rs' ok).2, hp ρ' H' σ' (Le.refl _ _) rs' re'⟩
end

/-! ### defs -/
/-- a def's promise: it does what its function tells -/
def spF (K : PySem.W.Frag) (mg : Str → Option Value) (T : Tbs) (n : Nat) (F : Fn) : Sp := fun vs H Q E => vs.length = n ∧ ∃ ρ S ds, RS K T ρ S H ∧ RDs K ρ H ds vs ∧ Post K mg T E ρ H (RD K) Q (F ds S)
/-- a def that may be called by its name -/
structure CallOk (P : Program) (w : World) (K : PySem.W.Frag) (mg : Str → Option Value) (base : Heap) (T : Tbs) (k : Nat) (x : Str) (n : Nat) (F : Fn) : Prop where
  ar : ∀ ds S, ds.length ≠ n → F ds S = .bad
  ex : ∃ (f : Addr) (fd : FuncData) (ps : List Str), ps.length = n ∧ mg x = some (.ref f) ∧ PySem.W.keepIn K (.ref f) = true ∧ Binds K fd ps [] ∧ FnOk P w K mg base (L2.CX P w) k f fd ps (spF K mg T n F)
theorem mkF_ar (n m : Nat) (b : FS) : ∀ ds S, ds.length ≠ n → mkF n m b ds S = .bad := fun ds S h => if_neg h
section
variable {X : Cx} {T : Tbs} {W : WX} {pos : Pos}
theorem ev_call {k n : Nat} {x : Str} {F : Fn} {p : Pos} {e : Expr} {es : List Expr} {fa : FA} (C : CallOk X.prog X.w X.K X.mg X.base T k x n F) (tk : Takes X W) (hr : Room k X.A) (ha : EA X T W (e :: es) fa) (hg : Gl X x := by rfl)
    (hdb : (x == ("__debug__" : Str)) = false := by decide) (he : starEach (e :: es) X.env = (false, eval e X.env) :: starEach es X.env := by rfl) (hpl : (backTo pos (starEach es X.env)).any (·.1) = false := by rfl) :
    EV X T W (.Call (.Name x p) (e :: es) [] pos) (eCall F fa) := by
  obtain ⟨ar, f, fd, ps, hps, hm, hk, hb, G⟩ := C
  refine PE.imp (pe_callS G hr hg hm hk hb (fun σ => passAt tk σ) ha hdb he hpl) ?_
  rintro σ H Q ⟨ρ, S, s, rs, re, h⟩
  refine ⟨ρ, S, s, rs, re, (Post.bind (R := RDs X.K) h).imp ?_⟩
  rintro vs H1 ⟨ρ1, S1, ds, l1, rs1, rd1, h1⟩
  refine ⟨?_, ρ1, S1, ds, rs1, rd1, h1⟩
  by_cases e : ds.length = n
  · rw [← rd1.len]; exact e
  · rw [ar ds S1 e] at h1; exact (show False from h1).elim
end
theorem re_start {K : PySem.W.Frag} {ρ : List Addr} {H : Hp} {N : List Str} {ds : List D} {vs : List V} (r : RDs K ρ H ds vs) : RE K ρ H (startE N.length ds) (L2.start N vs) := by
  unfold startE L2.start
  rw [r.len]
  refine Paired.app ?_ ?_
  · have p := r.pair
    clear r
    induction p with
    | nil => exact .nil
    | cons r t ih => exact .cons (show RO K ρ H (some _) (some _) from r) ih
  · generalize N.length - vs.length = m
    induction m with
    | zero => exact .nil
    | succ m ih => exact .cons trivial ih
section
variable {P : Program} {w : World} {K : PySem.W.Frag} {mg : Str → Option Value} {base : Heap} {T : Tbs}
theorem fn_okF {x qual : Str} {st : Stmt} {f : Addr} {fd : FuncData} {N ps : List Str} {k : Nat} {b : FS} (F : Fun K x qual st f fd) (S : FnScope N ps (defScope st))
    (hbody : ∀ (cdv : Value) (A : Around) (outer : List PySem.Env) (s : Shared) (H : Hp) (E : XK), Room k (A.deeper (envOfC qual (defScope st) s.heap.objs.size f cdv)) →
      ESs (cxOf (L2.CX P w) P w K mg base N qual (defScope st) f cdv A outer s H E) T (fun cls d _ H => E cls d H) (defBody st) b) :
    FnOk P w K mg base (L2.CX P w) (k + 1) f fd ps (spF K mg T ps.length (mkF ps.length N.length b)) := by
  refine F.okX S (fun vs H Q E h => h.1) fun cdv A outer s H vs Q E hr h => ⟨_, hbody cdv A outer s H E hr, ?_⟩
  obtain ⟨hl, ρ, S', ds, rs, rd, h⟩ := h
  refine ⟨ρ, S', startE N.length ds, rs, re_start rd, ?_⟩
  unfold mkF at h
  rw [if_pos (by rw [rd.len, hl])] at h
  show PostS K mg T (fun cls d _ H => E cls d H) { nx := fun _ H' => Q .non H', rt := Q } ρ H (b (startE N.length ds) S')
  cases e : b (startE N.length ds) S' with
  | nx s' S1 => rw [e] at h; exact fun ρ' H' σ' le rs' re' => h ρ' H' .non le rs' rd_non
  | rt d S1 => rw [e] at h; exact h
  | bk s' S1 => rw [e] at h; exact (show False from h).elim
  | ct s' S1 => rw [e] at h; exact (show False from h).elim
  | ex c w s' S1 => rw [e] at h; exact fun ρ' H' σ' v dd C le rs' re' rd' h1 h2 => h ρ' H' v dd C le rs' rd' h1 h2
  | bad => rw [e] at h; exact h
/-- a def of the text -/
structure DefAt (K : PySem.W.Frag) (mg : Str → Option Value) (x : Str) (st : Stmt) (ps : List Str) : Prop where
  ex : ∃ (f : Addr) (fd : FuncData), mg x = some (.ref f) ∧ Fun K x x st f fd ∧ Binds K fd ps []
theorem call_ok {x : Str} {st : Stmt} {N ps : List Str} {k n m : Nat} {b : FS} (D : DefAt K mg x st ps) (S : FnScope N ps (defScope st)) (hn : ps.length = n) (hm : N.length = m)
    (hbody : ∀ (f : Addr) (cdv : Value) (A : Around) (outer : List PySem.Env) (s : Shared) (H : Hp) (E : XK), Room k (A.deeper (envOfC x (defScope st) s.heap.objs.size f cdv)) →
      ESs (cxOf (L2.CX P w) P w K mg base N x (defScope st) f cdv A outer s H E) T (fun cls d _ H => E cls d H) (defBody st) b) : CallOk P w K mg base T (k + 1) x n (mkF n m b) := by
  obtain ⟨f, fd, hf, F, hb⟩ := D.ex
  subst hn hm
  exact ⟨mkF_ar _ _ _, f, fd, ps, rfl, hf, F.kp, hb, fn_okF F S (hbody f)⟩
theorem CallOk.mono {j k : Nat} {x : Str} {n : Nat} {F : Fn} (C : CallOk P w K mg base T j x n F) (h : j ≤ k) : CallOk P w K mg base T k x n F := by
  obtain ⟨ar, f, fd, ps, a, b, c, d, G⟩ := C
  exact ⟨ar, f, fd, ps, a, b, c, d, G.mono h⟩
/-- a def of which nothing is promised -/
theorem call_bad {x : Str} {st : Stmt} {ps : List Str} {n : Nat} (D : DefAt K mg x st ps) (hn : ps.length = n) : CallOk P w K mg base T 0 x n fun _ _ => .bad := by
  obtain ⟨f, fd, hf, F, hb⟩ := D.ex
  exact ⟨fun _ _ _ => rfl, f, fd, ps, hn, hf, F.kp, hb, ⟨fun vs H Q E h => h.1.trans hn.symm, fun A outer s H args us vs Q E _ _ _ _ h => by
    obtain ⟨_, ρ, S, ds, _, _, h⟩ := h
    exact (show False from h).elim⟩⟩
end

/-! ### errors -/
/-- the promise of __init__(self, what) of the errors' base class -/
def spRef (K : PySem.W.Frag) : Sp := fun vs H Q _ => ∃ (a C : Addr) (v : V), vs = [.ref a, v] ∧ OexC K C ∧ PySem.W.findIn K (.ref C) "what" = some none ∧ H a = some (exo a C none) ∧ ∀ dx, H dx = none → dx ≠ a → Q .non (upd (upd H dx (exd dx [(("what" : Str), v)])) a (exo a C (some dx)))
/-- a class of errors -/
structure ExcAt (P : Program) (w : World) (K : PySem.W.Frag) (mg : Str → Option Value) (base : Heap) (c : String) : Prop where
  ex : ∃ (C fI : Addr) (fd : FuncData), mg (Str.ofString c) = some (.ref C) ∧ OexC K C ∧ PySem.W.findIn K (.ref C) "what" = some none ∧ PySem.W.findIn K (.ref C) "__init__" = some (some (.ref fI)) ∧ PySem.W.typeIn K (.ref fI) = some (.type "function") ∧
    Binds K fd ["self", "what"] [] ∧ FnOk P w K mg base CX0 1 fI fd ["self", "what"] (spRef K)
section
variable {X : Cx} {T : Tbs} {W : WX} {pos : Pos}
theorem es_raise {c : String} {x : Str} {p pos2 : Pos} {e : Expr} {f : FE} (C : ExcAt X.prog X.w X.K X.mg X.base c) (hcx : x = Str.ofString c) (hc : X.calm = true) (tk : Takes X W) (hr : Room 2 X.A) (ha : EV X T W e f) (hg : Gl X x := by rfl)
    (hdb : (x == ("__debug__" : Str)) = false := by decide) (he : starEach (e :: []) X.env = (false, eval e X.env) :: starEach [] X.env := by rfl) (hpl : (backTo pos (starEach [] X.env)).any (·.1) = false := by rfl) :
    ES X T W (.Raise (some (.Call (.Name x p) [e] [] pos)) none pos2) (sRaise c f) := by
  subst hcx
  obtain ⟨C, fI, fd, hm, O, hno, hI, hT, hb, G⟩ := C
  refine PS.imp (ps_raise hc tk (pmk_oex O hI hT G hr hb .nil pass0 hg hm (pa_cons ha pa_nil he) hdb he hpl)) ?_
  rintro D σ H ⟨ρ, S, s, rs, re, h⟩
  refine ⟨ρ, S, s, rs, re, (PostS.ofE (R := RD X.K) rs re h).imp ?_⟩
  rintro v H1 ⟨ρ1, S1, d, l1, rs1, re1, rd1, h1⟩
  refine ⟨by show 1 ≤ 1000; decide, fun a ha => ⟨a, C, v, rfl, O, hno, upd_same, fun dx hdx nda => ?_⟩⟩
  have h1d : H1 dx = none := by rw [upd_ne nda] at hdx; exact hdx
  refine ⟨rfl, dx, [(("what" : Str), v)], upd_same, by rw [upd_ne nda, upd_same], h1d, ?_⟩
  have eH : upd (del (upd (upd (upd H1 a (exo a C none)) dx (exd dx [(("what" : Str), v)])) a (exo a C (some dx))) a) dx (.xd [(("what" : Str), v)]) = upd H1 dx (.xd [(("what" : Str), v)]) := by
    funext b
    by_cases hb : b = dx
    · subst hb; rw [upd_same, upd_same]
    · rw [upd_ne hb, upd_ne hb]
      by_cases hba : b = a
      · subst hba; rw [del_same, ha]
      · rw [del_ne hba, upd_ne hba, upd_ne hb, upd_ne hba]
  rw [eH]
  exact h1 ρ1 _ σ v dx C (Le.fresh rs1 h1d) (rs1.freshP h1d) (re1.le rs1 (Le.fresh rs1 h1d)) (rd1.le rs1 (Le.fresh rs1 h1d)) upd_same hm
end
end Wk


set_option Elab.async false
set_option linter.all false
set_option maxRecDepth 100000
set_option maxHeartbeats 4000000
set_option autoImplicit false
/-! WkTup: dicts whose keys are tuples: made from pairs, sorted, told by a comprehension. -/
namespace L2
open PySem PySem.Spec PyProof.Rows
/-- pairs put into a dict, one behind the other -/
def mergeA (kvs more : List (List Key × V)) : List (List Key × V) := more.foldl (fun acc kv => putK acc kv.1 kv.2) kvs
theorem mergeA_len : ∀ (more kvs : List (List Key × V)), (mergeA kvs more).length ≤ kvs.length + more.length
  | [], _ => Nat.le_refl _
  | p :: more, kvs => by
    have h1 := mergeA_len more (putK kvs p.1 p.2)
    have h2 := length_putK kvs p.1 p.2
    show (mergeA (putK kvs p.1 p.2) more).length ≤ _
    rw [List.length_cons]
    omega
theorem kt_merge {H : Hp} {more : List (List Key × V)} {ms : List (List Key × Addr × Value)} (rm : KT H more ms) : ∀ {kvs : List (List Key × V)} {xs : List (List Key × Addr × Value)}, KT H kvs xs → KT H (mergeA kvs more) (storedAllH xs ms) := by
  induction rm with
  | nil => exact fun r => r
  | cons h t ih =>
    rename_i p q l m
    intro kvs xs r
    obtain ⟨e, hb, rv⟩ := h
    have r2 := r.put p.1 hb rv
    have := ih r2
    unfold mergeA storedAllH
    rw [List.foldl_cons, List.foldl_cons, ← e]
    exact this
section
variable {X : Cx} {pins : List (Addr × Obj)} {σ : L2.St} {H : Hp} {s : Shared}
/-- a row of pairs (key tuple, value) in the heap -/
def PairT (K : PySem.W.Frag) (H : Hp) (p : Addr) (kv : List Key × V) : Prop := ∃ b, SqT K H p [.ref b, kv.2] ∧ H b = some (.tup (kv.1.map kV))
theorem pairT_look (I : Inv X pins σ H s) : ∀ {ps : List Addr} {kvs : List (List Key × V)}, Paired (PairT X.K H) ps kvs → ∃ ms : List (List Key × Addr × Value), KT H kvs ms ∧ ms.length = ps.length ∧ ∀ (j : Nat) (q : List Key × Addr × Value), ms[j]? = some q → ∃ p, ps[j]? = some p ∧ IsTup s.heap p #[.ref q.2.1, q.2.2]
  | _, _, .nil => ⟨[], .nil, rfl, fun j q e => by simp at e⟩
  | _, _, .cons (a := p) (b := kv) h t => by
    obtain ⟨ms, r, hl, hm⟩ := pairT_look I t
    obtain ⟨b, hs, hb⟩ := h
    obtain ⟨its, rv, ht, _⟩ := I.tuple hs
    obtain ⟨u, y, rfl, ru, ry⟩ := vals2 rv
    obtain rfl : u = Value.ref b := ru
    refine ⟨(kv.1, b, y) :: ms, .cons ⟨rfl, hb, ry⟩ r, by rw [List.length_cons, List.length_cons, hl], fun j q e => ?_⟩
    cases j with
    | zero =>
      cases (Option.some.inj e : (kv.1, b, y) = q)
      exact ⟨p, rfl, ht⟩
    | succ j =>
      obtain ⟨p', e1, e2⟩ := hm j q (by simpa using e)
      exact ⟨p', by simpa using e1, e2⟩
theorem tkey_keep {P : Program} {w : World} {h h' : Heap} {ks : List Key} {a : Addr} (t : (tupleKind (mixKind P w)).is h ks a) (k : ∀ o, h.get? a = some o → h'.get? a = some o) : (tupleKind (mixKind P w)).is h' ks a := by
  obtain ⟨o, its, n, h1, h2, h3, h4⟩ := t
  exact ⟨o, its, n, k o h1, h2, h3, h4⟩
theorem wk_dictPT (hcalm : X.calm = true) (hu : X.A.units + 8 < cLine) : CallR X (.type "dict") (fun xs H Q => ∃ (a : Addr) (ps : List Addr) (kvs : List (List Key × V)), xs = [.ref a] ∧ SqL X.K H a (ps.map V.ref) ∧ Paired (PairT X.K H) ps kvs ∧ ∀ p, H p = none → Q (.ref p) (upd H p (.dT (mergeA [] kvs)))) := by
  intro pins s σ H xs us Q I r q
  obtain ⟨a, ps, kvs, rfl, hq, hp, q⟩ := q
  obtain ⟨u, rfl, rx⟩ := vals1 r
  obtain rfl : u = Value.ref a := rx
  obtain ⟨its, rv, pl, hz⟩ := I.list hq
  have ei := refs_at rv
  subst ei
  rw [List.length_map] at hz
  obtain ⟨ms, rel, hl, hm⟩ := pairT_look I hp
  obtain ⟨o, n, ho, hc, hd, hdat⟩ := pl
  have pit : PairItems s.heap (ps.map Value.ref).toArray (fun j => ps.getD j 0) (ms.map fun q => (Value.ref q.2.1, q.2.2)) := by
    refine ⟨by simp [hl], fun j k v e => ?_⟩
    rw [List.getElem?_map] at e
    cases e2 : ms[j]? with
    | none => rw [e2] at e; cases e
    | some q =>
      rw [e2] at e
      cases e
      obtain ⟨p, h1, h2⟩ := hm j q e2
      refine ⟨by simp [h1], .inl ?_⟩
      show s.heap.IsTuple (ps.getD j 0) _
      rw [List.getD_eq_getElem?_getD, h1]
      exact h2
  have hm2 : (s.heap.objs.size == sysModules) = false := beq_eq_false_iff_ne.mpr (Nat.ne_of_gt I.big)
  have hkeys : ∀ x ∈ ms, (tupleKind (mixKind X.prog X.w)).is s.heap x.1 x.2.1 := by
    have all : ∀ {l : List (List Key × V)} {m : List (List Key × Addr × Value)}, KT H l m → ∀ x ∈ m, (tupleKind (mixKind X.prog X.w)).is s.heap x.1 x.2.1 := by
      intro l m w
      induction w with
      | nil => intro x hx; cases hx
      | cons h t ih =>
        intro x hx
        rcases List.mem_cons.mp hx with e | hx
        · subst e
          exact key_of I.hok (by rw [← h.1]; exact h.2.1)
        · exact ih x hx
    exact all rel
  refine PySem.call_dict_pairsH (knd := tupleKind (mixKind X.prog X.w)) (ps := ms) (PairArg.list a (ps.map Value.ref).toArray (fun j => ps.getD j 0) (ms.map fun q => (Value.ref q.2.1, q.2.2))) (I.ok.hd hcalm) (show X.A.in1.in1.units < cLine by show X.A.units + 1 + 1 < cLine; omega) ⟨⟨o, n, ho, hc, hd, hdat⟩, pit⟩
    ⟨by simp, fun i key v hrel => ?_⟩ (fun h' hk x hx => tkey_keep (hkeys x hx) fun o e => hk _ o (Nat.ne_of_lt (Heap.lt_size e)) (by simp) e) (by rw [List.length_map, hl]; exact hz) fun h' tk hd' hk => ?_
  · have hrel' : (ms.map fun q => (Value.ref q.2.1, q.2.2))[i]? = some (key, v) := hrel
    rw [List.getElem?_map] at hrel'
    cases e2 : ms[i]? with
    | none => rw [e2] at hrel'; cases hrel'
    | some q =>
      rw [e2] at hrel'
      cases hrel'
      exact ⟨q.1, q.2.1, rfl, rfl⟩
  · have hn : H s.heap.objs.size = none := I.hok.fresh (Nat.le_refl _)
    have hlen : (mergeA [] kvs).length ≤ sizeLine := by
      refine Nat.le_trans (mergeA_len kvs []) ?_
      rw [List.length_nil, Nat.zero_add, Paired.length rel, hl]
      exact hz
    obtain ⟨oo, es, ep, h1, h2, h3, h4, _, h5⟩ := hd'
    refine ⟨.ref s.heap.objs.size, upd H s.heap.objs.size (.dT (mergeA [] kvs)), I.laid (t' := tk) (fun b o e => hk b o (by simp) e) (Nat.le_refl _) (show ObjOk X.prog X.w _ _ _ (.dT (mergeA [] kvs)) from ⟨hlen, hm2, _, (kt_merge rel .nil).keeps fun c ys ec => ?_, oo, es, ep, h1, h2, h3, h4, h5⟩), rfl, q _ hn⟩
    rw [upd_ne (ne_of_none ec hn)]
    exact ec
/-- the keys of a dict as they are collected -/
theorem wk_keysT (hcalm : X.calm = true) {d : Addr} {kvs : List (List Key × V)} {R : List Value → Shared → Prop} {E : Value → Shared → Prop} (I : Inv X pins σ H s) (hd : Rd H d (.dT kvs))
    (h : ∀ (h' : Heap) (tk : Nat) (bs : List Addr), (∀ b o, s.heap.get? b = some o → h'.get? b = some o) → IsKeys H kvs bs → R (bs.map Value.ref) { s with heap := h', toks := tk }) : wpAny (model X.prog X.w) X.A.in1 (collect (.ref d)) R E s := by
  obtain ⟨z, hs, ks, pr, o, es, ep, ho, hx, hdt, he, hn⟩ := (show ObjOk X.prog X.w H s.heap d (.dT kvs) from hd.ok I.hok)
  have l1 : es.size = ks.length := size_of_entries he
  have l2 : kvs.length = ks.length := Paired.length pr
  refine PySem.W.kdu_collect (A := X.A.in1) (kdl_raw hs hx hdt) (I.ok.hd hcalm) ho (by omega) fun h' tk acc kp it => ?_
  have ea : acc.toList = (ks.map fun x => x.2.1).map Value.ref := by
    rw [List.map_map]
    refine List.ext_getElem? fun j => ?_
    rw [List.getElem?_map]
    cases hb : ks[j]? with
    | none =>
      have h1 := List.getElem?_eq_none_iff.mp hb
      rw [List.getElem?_eq_none (by rw [Array.length_toList, it.1]; omega)]
      rfl
    | some b =>
      have hj : j < acc.toList.length := by
        rw [Array.length_toList, it.1, l1]
        exact (List.getElem?_eq_some_iff.mp hb).1
      obtain ⟨en, hen, hv⟩ := it.2 j acc.toList[j] (by rw [← Array.getElem?_toList]; exact List.getElem?_eq_getElem hj)
      have qe := entry_at he j
      rw [hen, hb] at qe
      have e2 : en = entryOfKey (tupleKind (mixKind X.prog X.w)) b := Option.some.inj qe
      rw [List.getElem?_eq_getElem hj, hv, e2]
      rfl
  rw [ea]
  exact h h' tk _ kp (isKeys_of pr)
/-- sorted(d) of a dict whose keys are all pairs of ints -/
theorem wk_sortedDT (hcalm : X.calm = true) : CallR X (.builtin "sorted") (fun xs H Q => ∃ (a : Addr) (kvs : List (List Key × V)) (ps : List (Int × Int)), xs = [.ref a] ∧ Rd H a (.dT kvs) ∧ kvs.map (·.1) = ps.map (fun p => [Sum.inl p.1, Sum.inl p.2]) ∧
    ∀ (ys : List V) (qs : List (Int × Int)) (p : Addr), Paired (fun q y => ∃ t, y = V.ref t ∧ H t = some (.tup [.int q.1, .int q.2])) qs ys → qs.Perm ps → qs.Pairwise (fun u v => SrtO.lexB v u = false) → H p = none → Q (.ref p) (upd H p (.lst ys))) := by
  intro pins s σ H xs us Q I r q
  obtain ⟨a, kvs, ps, rfl, hd, hks, q⟩ := q
  obtain ⟨u, rfl, rx⟩ := vals1 r
  obtain rfl : u = Value.ref a := rx
  refine Calls.call_function_entry PyProof.Rows.kind_sorted PyProof.Rows.plain_sorted PyProof.Rows.entry_sorted (PyProof.Rows.args_sorted1 _) ?_
  unfold Builtin.«sorted»
  refine wpAny_bind (m := checkCount "sorted" 1 1 _) (wpAny_pure ?_)
  have zl : kvs.length ≤ sizeLine := (show ObjOk X.prog X.w H s.heap a (.dT kvs) from hd.ok I.hok).1
  refine wpAny_bind (wk_keysT hcalm I hd fun h' tk bs kp isk => ?_)
  have I1 : Inv X pins σ H { s with heap := h', toks := tk } := I.kept kp
  have lb : bs.length = kvs.length := (Paired.length isk).symm
  have lp : ps.length = kvs.length := by
    have := congrArg List.length hks
    rw [List.length_map, List.length_map] at this
    exact this.symm
  -- the key tuples with their ints
  have pr : Paired (fun p b => H b = some (.tup [.int p.1, .int p.2])) ps bs := by
    have key : ∀ {l : List (List Key × V)} {m : List Addr} {ns : List (Int × Int)}, Paired (fun p b => H b = some (.tup (p.1.map kV))) l m → l.map (·.1) = ns.map (fun p => [Sum.inl p.1, Sum.inl p.2]) → Paired (fun p b => H b = some (.tup [.int p.1, .int p.2])) ns m := by
      intro l m ns w
      induction w generalizing ns with
      | nil =>
        intro e
        cases ns with
        | nil => exact .nil
        | cons _ _ => cases e
      | cons h t ih =>
        intro e
        cases ns with
        | nil => cases e
        | cons n ns =>
          rw [List.map_cons, List.map_cons] at e
          injection e with e1 e2
          rw [e1] at h
          exact .cons h (ih e2)
    exact key isk hks
  have hzz : (bs.map Value.ref).length ≤ sizeLine := by rw [List.length_map, lb]; exact zl
  refine wpAny_bind (wpAny_newList ?_ hzz)
  have hoL : (h'.push (seqObj "list" (bs.map Value.ref).toArray 0)).get? h'.objs.size = some (seqObj "list" (bs.map Value.ref).toArray 0) := Heap.get?_push_size _ rfl
  have kp2 : ∀ b o, h'.get? b = some o → (h'.push (seqObj "list" (bs.map Value.ref).toArray 0)).get? b = some o := fun b o e => Heap.get?_push_of_some _ e
  have I2 : Inv X pins σ H { s with heap := h'.push (seqObj "list" (bs.map Value.ref).toArray 0), toks := tk } := I1.kept (t' := tk) kp2
  -- what a reference stands for
  obtain ⟨kf, hkf⟩ : ∃ kf : Value → Int × Int, ∀ j b, bs[j]? = some b → ∃ p, ps[j]? = some p ∧ kf (.ref b) = p ∧ H b = some (.tup [.int p.1, .int p.2]) := by
    classical
    refine ⟨fun v => if z : ∃ p : Int × Int, ∃ b, v = .ref b ∧ H b = some (.tup [.int p.1, .int p.2]) then z.choose else (0, 0), fun j b e => ?_⟩
    obtain ⟨p, hp, hb⟩ := Wk.Paired.get2 pr e
    have z : ∃ p : Int × Int, ∃ b', (Value.ref b) = .ref b' ∧ H b' = some (.tup [.int p.1, .int p.2]) := ⟨p, b, rfl, hb⟩
    refine ⟨p, hp, ?_, hb⟩
    dsimp only
    rw [dif_pos z]
    obtain ⟨b', e1, e2⟩ := z.choose_spec
    cases e1
    rw [hb] at e2
    injection e2 with e3
    injection e3 with e4
    injection e4 with e5 e6
    injection e5 with e7
    injection e6 with e8
    injection e8 with e9
    exact Prod.ext e7.symm e9.symm
  have hIP : ∀ v ∈ bs.map Value.ref, Srt.IsPair (h'.push (seqObj "list" (bs.map Value.ref).toArray 0)) v (kf v).1 (kf v).2 := by
    intro v hv
    obtain ⟨b, hb, rfl⟩ := List.mem_map.mp hv
    obtain ⟨j, hj, e⟩ := List.getElem_of_mem hb
    obtain ⟨p, _, e1, e2⟩ := hkf j b (by rw [List.getElem?_eq_getElem hj, e])
    obtain ⟨_, its, rv, o, ho, hc, n, hdt⟩ := I2.hok _ _ e2
    obtain ⟨u1, u2, rfl, ri, rj⟩ := vals2 rv
    obtain ⟨t1, rfl⟩ := ri
    obtain ⟨t2, rfl⟩ := rj
    rw [e1]
    exact ⟨b, o, t1, t2, n, rfl, ho, hc, hdt⟩
  show wpAny _ _ _ _ _ { s with heap := h'.push (seqObj "list" (bs.map Value.ref).toArray 0), toks := tk }
  refine wpAny_bind (wpAny_holding (wpAny_call_entry PyProof.Rows.slot_list_sort ⟨_, hoL, rfl⟩ PyProof.Rows.entry_list_sort
    (SrtO.list_sort_ord (SrtO.swo_lex kf) (s := { s with heap := h'.push (seqObj "list" (bs.map Value.ref).toArray 0), toks := tk }) hoL hzz (fun h2 => SrtO.pairs_sortableO (by omega) hIP fun o e => ?_) fun out h1 h2 => ⟨_, rfl, ?_⟩)
    (PyProof.Rows.args_list_sort _)))
  · have e' : some o = some (seqObj "list" (bs.map Value.ref).toArray 0) := e.symm.trans hoL
    cases e'
    intro c
    exact absurd (Value.type.inj c) (by decide)
  · obtain ⟨e', he'⟩ := PyProof.Rows.sortedHeap_at (vs := bs.map Value.ref) (out := out.toArray) hoL
    have mem : ∀ v ∈ out, ∃ b, v = .ref b ∧ H b = some (.tup [.int (kf v).1, .int (kf v).2]) := by
      intro v hv
      obtain ⟨b, hb, rfl⟩ := List.mem_map.mp (h2.perm.mem_iff.mp hv)
      obtain ⟨j, hj, e⟩ := List.getElem_of_mem hb
      obtain ⟨p, _, e1, e2⟩ := hkf j b (by rw [List.getElem?_eq_getElem hj, e])
      exact ⟨b, rfl, by rw [e1]; exact e2⟩
    have hlen : (out.map backV).length ≤ sizeLine := by rw [List.length_map, h2.len]; exact hzz
    have vb : Vals (out.map backV) out := vals_back fun v hv => let ⟨b, e, _⟩ := mem v hv; ⟨b, e⟩
    refine wpAny_pure ⟨_, rfl, .ref h'.objs.size, upd H h'.objs.size (.lst (out.map backV)), I1.laid (t' := tk) (fun b u e => ?_) (Nat.le_refl _)
      (show ObjOk X.prog X.w _ _ _ (.lst (out.map backV)) from ⟨hlen, out, e', vb, he'⟩), rfl, q (out.map backV) (out.map kf) _ ?_ ?_ ?_ (I1.hok.fresh (Nat.le_refl _))⟩
    · have hb : b < h'.objs.size := Heap.lt_size e
      rw [PyProof.Rows.sortedHeap_old (Nat.ne_of_lt hb) (by rw [size_push']; exact Nat.lt_succ_of_lt hb)]
      exact Heap.get?_push_of_some _ e
    · have key : ∀ l : List Value, (∀ v ∈ l, ∃ b, v = .ref b ∧ H b = some (.tup [.int (kf v).1, .int (kf v).2])) → Paired (fun q y => ∃ t, y = V.ref t ∧ H t = some (.tup [.int q.1, .int q.2])) (l.map kf) (l.map backV) := by
        intro l
        induction l with
        | nil => intro _; exact .nil
        | cons v l ih =>
          intro hl
          obtain ⟨b, e, hb⟩ := hl v List.mem_cons_self
          exact .cons ⟨b, by rw [e]; rfl, hb⟩ (ih fun w hw => hl w (List.mem_cons_of_mem _ hw))
      exact key out mem
    · have e1 : (bs.map Value.ref).map kf = ps := by
        refine List.ext_getElem? fun j => ?_
        rw [List.map_map, List.getElem?_map]
        cases e : bs[j]? with
        | none =>
          have := List.getElem?_eq_none_iff.mp e
          rw [List.getElem?_eq_none (by omega)]
          rfl
        | some b =>
          obtain ⟨p, h1, h2, _⟩ := hkf j b e
          rw [h1]
          show some (kf (.ref b)) = some p
          rw [h2]
      rw [← e1]
      exact h2.perm.map _
    · exact List.pairwise_map.mpr h1
/-- an entry with a key tuple put into a dict -/
theorem wk_putT {D b : Addr} {kvs : List (List Key × V)} {ky : List Key} {v : V} {r : Value} {E : Value → Shared → Prop} {Q : Unit → Shared → Prop} (I : Inv X pins σ H s) (hu : X.A.units < cLine) (hD : H D = some (.dT kvs)) (hz : kvs.length < sizeLine) (hb : H b = some (.tup (ky.map kV))) (rv : RelV v r)
    (h : ∀ s', Inv X pins σ (upd H D (.dT (putK kvs ky v))) s' → Q () s') : wpAny (model X.prog X.w) X.A (dictSet D (.ref b) r) Q E s := by
  obtain ⟨zl, hsm, ents, rel, dd⟩ := dt_of I.hok hD
  have zle : ents.length ≤ sizeLine := by rw [← Paired.length rel]; exact zl
  have znew : (putK kvs ky v).length ≤ sizeLine := by have := length_putK kvs ky v; omega
  refine wpAny_dictSet_heap (hsz := zle) hu (key_of I.hok hb) dd fun hp dd2 same => h _ ?_
  obtain ⟨ob, es, ep, g1, g2, g3, g4, _, g5⟩ := dd2
  refine d_write I (by rw [hD]; exact True.intro) same ⟨ob, g1⟩ ⟨znew, hsm, _, (rel.put ky hb rv).keeps fun e ys he => ?_, ob, es, ep, g1, g2, g3, g4, g5⟩
  rw [upd_ne (ne_of he hD (fun z => nomatch z))]
  exact he
end
/-- {key: value for target in iter if ..}, the keys tuples: L the new dict -/
def tTc (wi : TI) (g : TG) (tt : TT) (tk tv : TE) (vs : List Nat) : TE := fun σ H Q => wi σ H fun J H1 => ∀ L, H1 L = none → ∃ W : Nat → Nat → Hp → Prop, (∃ m, W 0 m (upd H1 L (.dT []))) ∧ ∀ i m G, W i m G →
  (J.stop i G ∧ Q (.ref L) G) ∨ (J.go i G ∧ ∃ Nx : Hp → Prop, (∀ G', Nx G' → ∃ m', m' < m ∧ W (i + 1) m' G') ∧ ∀ x G1, J.yld i G x G1 → g x (wipe σ vs) G1 fun τ G2 => wipe τ vs = wipe σ vs ∧ tt τ G2 fun ok G3 =>
    if ok = true then tk τ G3 fun y G4 => tv τ G4 fun z G5 => ∃ kvs ky b, y = .ref b ∧ G5 b = some (.tup (ky.map kV)) ∧ G5 L = some (.dT kvs) ∧ kvs.length < sizeLine ∧ Nx (upd G5 L (.dT (putK kvs ky z))) else Nx G3)
section
variable {X : Cx}
theorem tc_core {pins : List (Addr × Obj)} {s : Shared} {σ : L2.St} {H : Hp} {Q : VK} {kx vx tg iter : Expr} {ifs : List Expr} {scope : Scope} {own : List (Str × Nat)} {pos pos' : Pos} {wi : TI} {g : TG} {tt : TT} {tk tv : TE} {use : Option (Value → Sem Unit)} {Qf : Value → Shared → Prop}
    (hu : X.A.units < cLine) (hc : X.calm = true) (hN : X.N.Nodup) (I0 : Inv X pins σ H s) (hi : PI X tg iter wi) (ok : BlkOk X.N X.env.scope scope own)
    (hg : ∀ (t : Shared) (G : Hp) (C : Addr) (cl : List (Str × Addr)) (fp : List Addr), PG (X.blk t G scope (compEnvC scope cl C X.env) fp) tg g)
    (ht : ∀ (t : Shared) (G : Hp) (C : Addr) (cl : List (Str × Addr)) (fp : List Addr), PTs (X.blk t G scope (compEnvC scope cl C X.env) fp) ifs tt)
    (hk : ∀ (t : Shared) (G : Hp) (C : Addr) (cl : List (Str × Addr)) (fp : List Addr), PE (X.blk t G scope (compEnvC scope cl C X.env) fp) kx tk)
    (hv : ∀ (t : Shared) (G : Hp) (C : Addr) (cl : List (Str × Addr)) (fp : List Addr), PE (X.blk t G scope (compEnvC scope cl C X.env) fp) vx tv)
    (hs : ∀ x, foldedSetIterable iter X.env x = pure x) (h : tTc wi g tt tk tv (own.map (·.2)) σ H Q)
    (back : ∀ L C t m G, Inv X pins σ G t → Q (.ref L) G → t.heap.Ns C m → FpOk X pins G C → compPost (model X.prog X.w) X.A X.xe use Qf (.ref L) C (.ok .next) t) :
    wpAny (model X.prog X.w) X.A (comprehension (.DictComp kx vx [⟨tg, iter, ifs, 0⟩] scope pos) scope X.env pos' newDict false (eval iter X.env) use) Qf X.xe s := by
  have caught : ∀ y ∈ scope.names, y.2 = .free → ∃ c, X.env.cells.lookup y.1 = some c := fun y hy e => (ok.free y hy e).elim (fun w => I0.ok.has _ (.inl w)) fun w => I0.ok.has _ (.inr w)
  have names : ∀ y ∈ scope.names, y.2 = .local → scope.names.lookup y.1 = some .local := fun y hy e => by rw [ok.uniq y hy, e]
  refine wpAny_comprehension_free (use := use) rfl hs (closure_ok caught) ok.kind names (thn (hi.run pins s σ H _ I0 h) fun x0 sa ha => thn ha fun x1 sb hb => ?_)
  obtain ⟨it, fp, tn, J, Hb, rfl, Ib, Tn, stb, fpb, qb⟩ := hb
  refine wpAny_newObj_type (newEnv_comp ?_)
  have hL : Hb sb.heap.objs.size = none := Ib.hok.fresh (Nat.le_refl _)
  obtain ⟨W, ⟨m0, w0⟩, turn⟩ := qb sb.heap.objs.size hL
  generalize eL : sb.heap.objs.size = L at hL w0 turn ⊢
  -- the new dict is there
  generalize es : ({ sb with heap := sb.heap.push { cls := .type "dict", data := .dict #[] } } : Shared) = sc
  have hpc : sc.heap = sb.heap.push { cls := .type "dict", data := .dict #[] } := by rw [← es]
  have Ic : Inv X pins σ (upd Hb L (.dT [])) sc := by
    rw [← es]
    refine Ib.laid (t' := sb.toks) (fun b o e => Heap.get?_push_of_some _ e) (Nat.le_of_eq eL) ?_
    rw [← eL]
    exact dt_empty sb.heap Ib.big
  have below : ∀ b ∈ fp, b < sb.heap.objs.size := fun b hb => let ⟨o, e, _⟩ := Tn.obj _ _ stb b hb; Heap.lt_size e
  have fpc : ∀ b ∈ fp, FpOk X pins (upd Hb L (.dT [])) b ∧ b < sc.heap.objs.size := fun b hb => by
    have hlt := below b hb
    refine ⟨⟨by rw [upd_ne (by rw [← eL]; exact Nat.ne_of_lt hlt)]; exact (fpb b hb).1, (fpb b hb).2⟩, ?_⟩
    rw [hpc, Heap.size_push]
    exact Nat.lt_succ_of_lt hlt
  have stc : tn 0 sc.heap := Tn.keep _ _ _ stb fun b _ o e => by rw [hpc]; exact Heap.get?_push_of_some _ e
  have Id := block_start Ic ok hN fpc
  have none_fp : ∀ b ∈ fp, (upd Hb L (.dT [])) b = none := fun b hb => (fpc b hb).1.1
  show codeAny _ _ (.compStart (.DictComp kx vx [⟨tg, iter, ifs, 0⟩] scope pos) 0 (.ref it) (.ref L) (compEnvC scope (cellsFrom (sc.heap.objs.size + 1) scope.names (cloFrom X.env.cells scope.names [])) sc.heap.objs.size X.env)) (compPost (model X.prog X.w) X.A X.xe use Qf (.ref L) sc.heap.objs.size) { sc with heap := pushCells (sc.heap.push { cls := .type "dict", data := .dict #[] }) scope.names }
  have g1 := hg sc (upd Hb L (.dT [])) sc.heap.objs.size (cellsFrom (sc.heap.objs.size + 1) scope.names (cloFrom X.env.cells scope.names [])) fp
  have g2 := ht sc (upd Hb L (.dT [])) sc.heap.objs.size (cellsFrom (sc.heap.objs.size + 1) scope.names (cloFrom X.env.cells scope.names [])) fp
  have g3 := hk sc (upd Hb L (.dT [])) sc.heap.objs.size (cellsFrom (sc.heap.objs.size + 1) scope.names (cloFrom X.env.cells scope.names [])) fp
  have g4 := hv sc (upd Hb L (.dT [])) sc.heap.objs.size (cellsFrom (sc.heap.objs.size + 1) scope.names (cloFrom X.env.cells scope.names [])) fp
  generalize ee : compEnvC scope (cellsFrom (sc.heap.objs.size + 1) scope.names (cloFrom X.env.cells scope.names [])) sc.heap.objs.size X.env = en at Id g1 g2 g3 g4 ⊢
  have enL : en.locals = sc.heap.objs.size := by rw [← ee]; rfl
  generalize eH : upd Hb L (.dT []) = Hc at Ic Id g1 g2 g3 g4 w0 none_fp fpc
  generalize ed : ({ sc with heap := pushCells (sc.heap.push { cls := .type "dict", data := .dict #[] }) scope.names } : Shared) = sd at Id ⊢
  have std : tn 0 sd.heap := Tn.keep _ _ _ stc fun b _ o e => by rw [← ed]; exact pushCells_keeps _ _ _ _ (Heap.get?_push_of_some _ e)
  have foot : ∀ {τ : L2.St} {G : Hp} {t : Shared}, Inv (X.blk sc Hc scope en fp) [] τ G t → (∀ b ∈ fp, G b = none) → ∀ b ∈ fp, FpOk (X.blk sc Hc scope en fp) [] G b := fun {τ G t} It hn b hb =>
    ⟨hn b hb, (It.ok.exf b hb).1, It.ok.exfs b hb, .inl hb, fun y c e => (It.ok.exf b hb).2 y c e, fun q hq => by cases hq⟩
  have turns : codeAny (model X.prog X.w) X.A (.compLoop (.DictComp kx vx [⟨tg, iter, ifs, 0⟩] scope pos) 0 (.ref it) (.ref L) en) (compPost (model X.prog X.w) X.A X.xe use Qf (.ref L) sc.heap.objs.size) sd := by
    refine compLoop_anyD (fun n t => ∃ i G, Inv (X.blk sc Hc scope en fp) [] (wipe σ (own.map (·.2))) G t ∧ tn i t.heap ∧ (∀ b ∈ fp, G b = none) ∧ W i n G) ?_ m0 ⟨0, Hc, Id, std, none_fp, w0⟩
    rintro n se ⟨i, He, Ie, ste, ne, we⟩
    rcases turn i n He we with ⟨stop, fin⟩ | ⟨go, Nx, next, step⟩
    · refine thnF (Tn.done (X.blk sc Hc scope en fp) rfl rfl rfl hc i [] se _ He (fun _ _ => False) Ie (foot Ie ne) ste stop) fun r sf ⟨er, If⟩ => ?_
      subst er
      have Ig : Inv X pins σ He sf := Ic.call' (ch := fp) If.os If.base If.hok If.bare fun b hb => ⟨(fpc b hb).1.2.2.2.1, (fpc b hb).1.2.1, (fpc b hb).1.2.2.2.2.1, (fpc b hb).1.2.2.2.2.2⟩
      have nC : He sc.heap.objs.size = none := by rw [← enL]; exact If.free
      obtain ⟨m, ns, _⟩ := If.loc
      have ns' : sf.heap.Ns sc.heap.objs.size m := by rw [← enL]; exact ns
      exact back L sc.heap.objs.size sf m He Ig fin ns' (Ic.fpOk (Nat.le_refl _) nC)
    · refine thnF (Tn.item (X.blk sc Hc scope en fp) rfl rfl rfl hc i [] se _ He (fun _ _ => False) Ie (foot Ie ne) ste go) fun r sf ⟨u, er, hf⟩ => ?_
      subst er
      refine thnF hf fun _ sg ⟨x, Hg, Ig, rg, yg, stg, ng⟩ => ?_
      have Ip := Ig.pinned (foot Ig ng) (Tn.obj _ _ stg)
      refine thnF (g1.run _ sg _ Hg x u _ Ip rg (step x Hg yg)) fun _ sh ⟨τ, Hh, Ih, eτ, qh⟩ => ?_
      refine thnF (g2.run _ sh τ Hh _ Ih qh) fun bb si ⟨Hi, Ii, qi⟩ => ?_
      have closing : ∀ {t : Shared} {G : Hp}, Inv (X.blk sc Hc scope en fp) ([] ++ pinsAt fp sg.heap) τ G t → Nx G → ∃ m, m < n ∧ ∃ i G, Inv (X.blk sc Hc scope en fp) [] (wipe σ (own.map (·.2))) G t ∧ tn i t.heap ∧ (∀ b ∈ fp, G b = none) ∧ W i m G := fun {t G} It nx => by
        obtain ⟨m', lt, w'⟩ := next G nx
        have stay : ∀ b ∈ fp, ∀ o, sg.heap.get? b = some o → t.heap.get? b = some o ∧ G b = none := fun b hb o e =>
          let z := It.pin (b, o) (List.mem_append_right _ (List.mem_append_right _ (mem_pinsAt hb e)))
          ⟨z.1, z.2.1⟩
        have len : (wipe σ (own.map (·.2))).length = τ.length := by rw [← eτ, wipe_length]
        have It2 := (It.unpinned (pins := [])).weak len fun j v e => by
          rw [← eτ] at e
          exact (wipe_some e).1
        refine ⟨m', lt, i + 1, G, It2, Tn.keep _ _ _ stg fun b hb o e => (stay b hb o e).1, fun b hb => ?_, w'⟩
        obtain ⟨o, e, _⟩ := Tn.obj _ _ stg b hb
        exact (stay b hb o e).2
      cases bb with
      | false =>
        rw [if_neg (by decide)] at qi ⊢
        exact closing Ii qi
      | true =>
        rw [if_pos rfl] at qi ⊢
        refine thnF (g3.run _ si τ Hi _ Ii qi) fun ka sj ⟨ya, Hj, Ij, ra, qj⟩ => ?_
        refine thnF (g4.run _ sj τ Hj _ Ij qj) fun va sk ⟨za, Hk, Ik, rz, kvs, ky, b, ek, hb, hD, hz, nx⟩ => ?_
        subst ek
        obtain rfl : ka = Value.ref b := ra
        exact wk_putT (X := X.blk sc Hc scope en fp) Ik hu hD hz hb rz fun t It => closing It nx
  exact codeAny_compStart_dict turns (Tn.self X.A 0 _ _ _ std turns)
theorem pe_tc {kx vx tg iter : Expr} {ifs : List Expr} {scope : Scope} {own : List (Str × Nat)} {pos : Pos} {wi : TI} {g : TG} {tt : TT} {tk tv : TE} (hu : X.A.units < cLine) (hc : X.calm = true) (hN : X.N.Nodup) (hi : PI X tg iter wi) (ok : BlkOk X.N X.env.scope scope own)
    (hg : ∀ (t : Shared) (G : Hp) (C : Addr) (cl : List (Str × Addr)) (fp : List Addr), PG (X.blk t G scope (compEnvC scope cl C X.env) fp) tg g)
    (ht : ∀ (t : Shared) (G : Hp) (C : Addr) (cl : List (Str × Addr)) (fp : List Addr), PTs (X.blk t G scope (compEnvC scope cl C X.env) fp) ifs tt)
    (hk : ∀ (t : Shared) (G : Hp) (C : Addr) (cl : List (Str × Addr)) (fp : List Addr), PE (X.blk t G scope (compEnvC scope cl C X.env) fp) kx tk)
    (hv : ∀ (t : Shared) (G : Hp) (C : Addr) (cl : List (Str × Addr)) (fp : List Addr), PE (X.blk t G scope (compEnvC scope cl C X.env) fp) vx tv) (hs : ∀ x, foldedSetIterable iter X.env x = pure x) :
    PE X (.DictComp kx vx [⟨tg, iter, ifs, 0⟩] scope pos) (tTc wi g tt tk tv (own.map (·.2))) := by
  refine ⟨fun pins s σ H Q I h => ?_⟩
  rw [arm_eval_DictComp]
  refine tc_core hu hc hN I hi ok hg ht hk hv hs h fun L C t m G It hq ns f => ⟨m, ns, fun hp same => ?_⟩
  obtain ⟨f0, f1, f2, f3, f4, f5⟩ := f
  exact ⟨.ref L, G, It.turned (t' := t.toks) (fun b o hb e => (same.2 b hb).trans e) f0 f1 f3 f4 f5, rfl, hq⟩
theorem ps_setTc {i : Nat} {y : Str} {py : Pos} {kx vx tg iter : Expr} {ifs : List Expr} {scope : Scope} {own : List (Str × Nat)} {pos spos : Pos} {wi : TI} {g : TG} {tt : TT} {tk tv : TE} (hu : X.A.units < cLine) (hc : X.calm = true) (hN : X.N.Nodup) (hy : X.N[i]? = some y) (hyl : X.env.scope.names.lookup y = some .local)
    (hsw : swapsWith (.DictComp kx vx [⟨tg, iter, ifs, 0⟩] scope pos) (some (.Name y py)) spos.line X.env = pure true) (hi : PI X tg iter wi) (ok : BlkOk X.N X.env.scope scope own)
    (hg : ∀ (t : Shared) (G : Hp) (C : Addr) (cl : List (Str × Addr)) (fp : List Addr), PG (X.blk t G scope (compEnvC scope cl C X.env) fp) tg g)
    (ht : ∀ (t : Shared) (G : Hp) (C : Addr) (cl : List (Str × Addr)) (fp : List Addr), PTs (X.blk t G scope (compEnvC scope cl C X.env) fp) ifs tt)
    (hk : ∀ (t : Shared) (G : Hp) (C : Addr) (cl : List (Str × Addr)) (fp : List Addr), PE (X.blk t G scope (compEnvC scope cl C X.env) fp) kx tk)
    (hv : ∀ (t : Shared) (G : Hp) (C : Addr) (cl : List (Str × Addr)) (fp : List Addr), PE (X.blk t G scope (compEnvC scope cl C X.env) fp) vx tv) (hs : ∀ x, foldedSetIterable iter X.env x = pure x) :
    PS X (.Assign [.Name y py] (.DictComp kx vx [⟨tg, iter, ifs, 0⟩] scope pos) spos) (tAsg (tTc wi g tt tk tv (own.map (·.2))) (gName i)) := by
  refine ⟨fun pins s σ H D I h => ?_⟩
  rw [exec_Assign_Name_used _ _ _ _ hsw]
  refine wpAny_bind (wpAny_standAt (wpAny_bind ?_))
  have h : tTc wi g tt tk tv (own.map (·.2)) σ H (fun x H1 => gName i x σ H1 D.nx) := h
  show wpAny _ X.A (do let _ ← comprehension (.DictComp kx vx [⟨tg, iter, ifs, 0⟩] scope pos) scope X.env (firstIterPos [⟨tg, iter, ifs, 0⟩] pos) newDict false (eval iter X.env) (some (assign (.Name y py) X.env))) _ _ s
  refine wpAny_bind (thn (tc_core (Qf := fun _ t => SP X pins D .next t) hu hc hN I hi ok hg ht hk hv hs h fun L C t m G It hq ns f => ?_) fun _ t hq => wpAny_pure (wpAny_pure hq))
  show wpAny _ _ (assign (.Name y py) X.env (.ref L)) _ _ _
  refine wpAny_assign_Name (store_ok2 (v := V.ref L) It hN hy (.inl hyl) rfl (fun t2 It2 ⟨a, same, ha⟩ => ?_) (.inr hyl))
  obtain ⟨f0, f1, f2, f3, f4, f5⟩ := f
  have aC : C ≠ a := ha.elim (fun z => by rw [z]; exact f1) fun z e => f4 y a z e.symm
  exact ⟨m, ns.sameBut same aC, fun hp same3 => ⟨_, G, It2.turned (t' := t2.toks) (fun b o hb e => (same3.2 b hb).trans e) f0 f1 f3 f4 f5, hq⟩⟩
end
end L2


set_option Elab.async false
set_option linter.all false
set_option maxRecDepth 100000
set_option maxHeartbeats 4000000
set_option autoImplicit false
/-! WkLib: the functional reading of built-ins, methods, dicts, slices. -/
namespace L2
open PySem PySem.Spec PyProof.Rows
theorem ints_at : ∀ {us : List Value} {ks : List Int}, us.length = ks.length → (∀ (j : Nat) (v : Value), us[j]? = some v → ∃ (x : Int) (t : Tok), ks[j]? = some x ∧ v = Value.int x t) → IntsAre us ks
  | [], [], _, _ => .nil
  | u :: us, k :: ks, hl, h => by
    obtain ⟨x, t, e1, e2⟩ := h 0 u rfl
    have e1' : k = x := Option.some.inj e1
    subst e1'
    subst e2
    refine .cons _ _ (ints_at (by simpa using hl) fun j v e => ?_)
    obtain ⟨x, t, a, b⟩ := h (j + 1) v (by simpa using e)
    exact ⟨x, t, by simpa using a, b⟩
  | [], _ :: _, hl, _ => by simp at hl
  | _ :: _, [], hl, _ => by simp at hl
section
variable {X : Cx}
/-- sorted(d) of a dict whose keys are all ints -/
theorem wk_sortedDI (hcalm : X.calm = true) : CallR X (.builtin "sorted") (fun xs H Q => ∃ (a : Addr) (kvs : List (Key × V)) (ks : List Int), xs = [.ref a] ∧ Rd H a (.dK kvs) ∧ kvs.map (·.1) = ks.map Sum.inl ∧
    ∀ (ys : List Int) (p : Addr), ys.Perm ks → ys.Pairwise (· ≤ ·) → H p = none → Q (.ref p) (upd H p (.lst (ys.map V.int)))) := by
  intro pins s σ H xs us Q I r q
  obtain ⟨a, kvs, ks, ex, hd, hks, q⟩ := q
  subst ex
  obtain ⟨u, eu, rx⟩ := vals1 r
  subst eu
  cases rx
  obtain ⟨z, lo, vs, rel, dd⟩ := dk_rd I.hok hd
  obtain ⟨ep, hat⟩ := dd.dictAt
  have hkeys : vs.map (·.1) = ks.map Sum.inl := rel.keys.symm.trans hks
  have hl : vs.length = ks.length := by
    have e := congrArg List.length hkeys
    rw [List.length_map, List.length_map] at e
    exact e
  have h16 : vs.length ≤ sizeLine := by rw [← rel.length]; exact z
  refine Calls.call_function_entry PyProof.Rows.kind_sorted PyProof.Rows.plain_sorted PyProof.Rows.entry_sorted (PyProof.Rows.args_sorted1 _) ?_
  unfold Builtin.«sorted»
  refine wpAny_bind (m := checkCount "sorted" 1 1 _) (wpAny_pure ?_)
  refine wpAny_bind (PySem.W.kdu_collect (A := X.A.in1) (PySem.W.kdl_dict (knd := mixKind X.prog X.w) (kvs := vs) (ep := ep) lo) (I.ok.hd hcalm) hat h16 fun h' tk acc hk hacc => ?_)
  have hal : acc.toList.length = ks.length := by rw [Array.length_toList, hacc.1, hl]
  have hS : IntsAre acc.toList ks := ints_at hal fun j v e => by
    obtain ⟨k, x, e1, e2⟩ := hacc.2 j v (by rw [← Array.getElem?_toList]; exact e)
    have e3 : (vs.map (·.1))[j]? = some k := by rw [List.getElem?_map, e1]; all_goals rfl
    rw [hkeys, List.getElem?_map] at e3
    cases e4 : ks[j]? with
    | none => rw [e4] at e3; cases e3
    | some y =>
      rw [e4] at e3
      have e5 : Sum.inl y = k := Option.some.inj e3
      subst e5
      obtain ⟨t, ev⟩ := Value.isInt_shape (k := y) (v := v) e2
      exact ⟨y, t, rfl, ev⟩
  have I1 : Inv X pins σ H { s with heap := h', toks := tk } := I.kept hk
  have hzz : acc.toList.length ≤ sizeLine := by rw [hal, ← hl]; exact h16
  refine wpAny_bind (wpAny_newList ?_ hzz)
  have hoL : (h'.push (seqObj "list" acc.toList.toArray 0)).get? h'.objs.size = some (seqObj "list" acc.toList.toArray 0) := Heap.get?_push_size _ rfl
  show wpAny _ _ _ _ _ { s with heap := h'.push (seqObj "list" acc.toList.toArray 0), toks := tk }
  refine wpAny_bind (wpAny_holding (wpAny_call_entry PyProof.Rows.slot_list_sort ⟨_, hoL, rfl⟩ PyProof.Rows.entry_list_sort
    (SrtO.list_sort_ord SrtO.swo_int (s := { s with heap := h'.push (seqObj "list" acc.toList.toArray 0), toks := tk }) hoL hzz (fun h2 => SrtO.ints_sortable hS h2) fun out h1 h2 => ⟨_, rfl, ?_⟩)
    (PyProof.Rows.args_list_sort _)))
  obtain ⟨k1, k2, k3⟩ := SrtO.ints_out hS h1 h2
  obtain ⟨e', he'⟩ := PyProof.Rows.sortedHeap_at (vs := acc.toList) (out := out.toArray) hoL
  have hlen : ((out.map SrtO.iv).map V.int).length ≤ sizeLine := by
    rw [List.length_map, k2.length_eq, ← hl]
    exact h16
  refine wpAny_pure ⟨_, rfl, .ref h'.objs.size, upd H h'.objs.size (.lst ((out.map SrtO.iv).map V.int)), I1.laid (t' := tk) (fun b u e => ?_) (Nat.le_refl _)
    (show ObjOk X.prog X.w _ _ _ (.lst ((out.map SrtO.iv).map V.int)) from ⟨hlen, out, e', vals_of_ints k1, he'⟩), rfl, q _ _ k2 k3 (I1.hok.fresh (Nat.le_refl _))⟩
  have hb : b < h'.objs.size := Heap.lt_size e
  rw [PyProof.Rows.sortedHeap_old (Nat.ne_of_lt hb) (by rw [size_push']; exact Nat.lt_succ_of_lt hb)]
  exact Heap.get?_push_of_some _ e
end
section
variable {X : Cx}
/-- sorted(t), t a tuple of ints -/
theorem wk_sortedTI (hcalm : X.calm = true) : CallR X (.builtin "sorted") (fun xs H Q => ∃ (a : Addr) (ks : List Int), xs = [.ref a] ∧ SqT X.K H a (ks.map V.int) ∧
    ∀ (ys : List Int) (p : Addr), ys.Perm ks → ys.Pairwise (· ≤ ·) → H p = none → Q (.ref p) (upd H p (.lst (ys.map V.int)))) := by
  intro pins s σ H xs us Q I r q
  obtain ⟨a, ks, ex, hT, q⟩ := q
  subst ex
  obtain ⟨u, eu, rx⟩ := vals1 r
  subst eu
  cases rx
  obtain ⟨its, rv, ⟨o, ho, hc, n, hd⟩, hs⟩ := I.tuple hT
  have hl : its.length = ks.length := by
    have := rv.length
    rw [List.length_map] at this
    exact this.symm
  have h16 : its.length ≤ sizeLine := by rw [hl]; rw [List.length_map] at hs; exact hs
  have hS : IntsAre its ks := rv.ints
  refine Calls.call_function_entry PyProof.Rows.kind_sorted PyProof.Rows.plain_sorted PyProof.Rows.entry_sorted (PyProof.Rows.args_sorted1 _) ?_
  unfold Builtin.«sorted»
  refine wpAny_bind (m := checkCount "sorted" 1 1 _) (wpAny_pure ?_)
  refine wpAny_bind (wpAny_collect_seq a (.inr rfl) ho hc hd (fun h' hk => ?_) (by rw [List.size_toArray]; exact h16))
  have I1 : Inv X pins σ H { s with heap := h', toks := s.toks } := I.kept hk
  have hzz : its.toArray.toList.length ≤ sizeLine := h16
  refine wpAny_bind (wpAny_newList ?_ hzz)
  have hoL : (h'.push (seqObj "list" its.toArray.toList.toArray 0)).get? h'.objs.size = some (seqObj "list" its.toArray.toList.toArray 0) := Heap.get?_push_size _ rfl
  show wpAny _ _ _ _ _ { s with heap := h'.push (seqObj "list" its.toArray.toList.toArray 0), toks := s.toks }
  refine wpAny_bind (wpAny_holding (wpAny_call_entry PyProof.Rows.slot_list_sort ⟨_, hoL, rfl⟩ PyProof.Rows.entry_list_sort
    (SrtO.list_sort_ord SrtO.swo_int (s := { s with heap := h'.push (seqObj "list" its.toArray.toList.toArray 0), toks := s.toks }) hoL hzz (fun h2 => SrtO.ints_sortable hS h2) fun out h1 h2 => ⟨_, rfl, ?_⟩)
    (PyProof.Rows.args_list_sort _)))
  obtain ⟨k1, k2, k3⟩ := SrtO.ints_out hS h1 h2
  obtain ⟨e', he'⟩ := PyProof.Rows.sortedHeap_at (vs := its.toArray.toList) (out := out.toArray) hoL
  have hlen : ((out.map SrtO.iv).map V.int).length ≤ sizeLine := by
    rw [List.length_map, k2.length_eq, ← hl]
    exact h16
  refine wpAny_pure ⟨_, rfl, .ref h'.objs.size, upd H h'.objs.size (.lst ((out.map SrtO.iv).map V.int)), I1.laid (t' := s.toks) (fun b u e => ?_) (Nat.le_refl _)
    (show ObjOk X.prog X.w _ _ _ (.lst ((out.map SrtO.iv).map V.int)) from ⟨hlen, out, e', vals_of_ints k1, he'⟩), rfl, q _ _ k2 k3 (I1.hok.fresh (Nat.le_refl _))⟩
  have hb : b < h'.objs.size := Heap.lt_size e
  rw [PyProof.Rows.sortedHeap_old (Nat.ne_of_lt hb) (by rw [size_push']; exact Nat.lt_succ_of_lt hb)]
  exact Heap.get?_push_of_some _ e
end
/-- a tuple of two ints -/
def PrAt (K : PySem.W.Frag) (H : Hp) (p : Int × Int) (x : V) : Prop := ∃ t, x = V.ref t ∧ Wk.TupAt K H t [.int p.1, .int p.2]
/-- sorted(xs), xs a list of pairs of ints -/
def rSortedPW (K : PySem.W.Frag) : List V → Hp → VK → Prop := fun vs H Q => ∃ (a : Addr) (xs : List V) (ps : List (Int × Int)), vs = [V.ref a] ∧ SqL K H a xs ∧ Paired (PrAt K H) ps xs ∧
  ∀ (ys : List V) (qs : List (Int × Int)) (p : Addr), Paired (PrAt K H) qs ys → qs.Perm ps → qs.Pairwise (fun u v => SrtO.lexB v u = false) → H p = none → Q (.ref p) (upd H p (.lst ys))
def pairAt (h : Heap) : Value → Int × Int
  | .ref a => match h.get? a with
    | some o => match o.data with
      | .seq xs _ => match xs.toList with
        | [.int i _, .int j _] => (i, j)
        | _ => (0, 0)
      | _ => (0, 0)
    | none => (0, 0)
  | _ => (0, 0)
section
variable {X : Cx}
theorem prAt_look {pins : List (Addr × Obj)} {σ : L2.St} {H : Hp} {s : Shared} (I : Inv X pins σ H s) {p : Int × Int} {x : V} {v : Value} (h : PrAt X.K H p x) (r : RelV x v) : pairAt s.heap v = p ∧ Srt.IsPair s.heap v p.1 p.2 ∧ x = backV v ∧ ∃ a, v = Value.ref a := by
  obtain ⟨t, rfl, hs⟩ := h
  obtain rfl : v = Value.ref t := r
  obtain ⟨its, rv, ⟨o, ho, hc, n, hd⟩, _⟩ := I.tuple hs.sq
  obtain ⟨u1, u2, rfl, ri, rj⟩ := vals2 rv
  obtain ⟨t1, rfl⟩ := ri
  obtain ⟨t2, rfl⟩ := rj
  refine ⟨?_, ⟨t, o, t1, t2, n, rfl, ho, hc, hd⟩, rfl, _, rfl⟩
  unfold pairAt
  simp only [ho, hd]
theorem prAt_all {pins : List (Addr × Obj)} {σ : L2.St} {H : Hp} {s : Shared} (I : Inv X pins σ H s) : ∀ {ps : List (Int × Int)} {xs : List V} {us : List Value}, Paired (PrAt X.K H) ps xs → Vals xs us → us.map (pairAt s.heap) = ps ∧ ∀ v ∈ us, PrAt X.K H (pairAt s.heap v) (backV v) ∧ Srt.IsPair s.heap v (pairAt s.heap v).1 (pairAt s.heap v).2 ∧ ∃ a, v = Value.ref a
  | _, _, _, .nil, .nil => ⟨rfl, fun v hv => absurd hv (by simp)⟩
  | _, _, _, .cons r t, .cons rv tv => by
    obtain ⟨e1, e2, e3, e4⟩ := prAt_look I r rv
    obtain ⟨h1, h2⟩ := prAt_all I t tv
    refine ⟨by rw [List.map_cons, e1, h1], fun v hv => ?_⟩
    rcases List.mem_cons.mp hv with z | z
    · subst z
      rw [e1]
      exact ⟨by rw [← e3]; exact r, e2, e4⟩
    · exact h2 v z
theorem cr_sortedPW : CallR X (.builtin "sorted") (rSortedPW X.K) := by
  intro pins s σ H vs us Q I r h
  obtain ⟨a, xs, ps, rfl, hs, hx, q⟩ := h
  obtain ⟨its, rv, hl, hz⟩ := I.list hs
  obtain ⟨u, rfl, ru⟩ := vals1 r
  obtain rfl : u = Value.ref a := ru
  obtain ⟨e1, e2⟩ := prAt_all I hx rv
  refine SrtO.sorted_pairsO (k := pairAt s.heap) hl.isList (by rw [← rv.length]; exact hz) (fun v hv => (e2 v hv).2.1) fun h' d out h1 h2 kp hd hn => ?_
  have h3 : ∀ u ∈ out, u ∈ its := fun u hu => h2.perm.mem_iff.mp hu
  obtain ⟨n, hn⟩ := hn
  refine ⟨.ref d, upd H d (.lst (out.map backV)), I.laid (t' := s.toks) kp hd ⟨?_, out, n, vals_back fun u hu => (e2 u (h3 u hu)).2.2, hn⟩, rfl, q (out.map backV) (out.map (pairAt s.heap)) d ?_ ?_ ?_ (I.hok.fresh hd)⟩
  · rw [List.length_map, h2.len, ← rv.length]
    exact hz
  · have key : ∀ l : List Value, (∀ u ∈ l, u ∈ its) → Paired (PrAt X.K H) (l.map (pairAt s.heap)) (l.map backV) := by
      intro l
      induction l with
      | nil => intro _; exact .nil
      | cons u l ih => intro hl; exact .cons (e2 u (hl u List.mem_cons_self)).1 (ih fun w hw => hl w (List.mem_cons_of_mem _ hw))
    exact key out h3
  · rw [← e1]; exact h2.perm.map _
  · exact List.pairwise_map.mpr h1
end
end L2

namespace Wk
open PySem PySem.Spec PyProof.Rows L2
section
variable {X : Cx} {T : Tbs} {W : WX} {pos : Pos}
/-! ### calls of built-ins by values -/
variable (X T) in
def C1S (r : List V → Hp → VK → Prop) (F : D → Store → Res D) : Prop := ∀ (E : XK) (ρ : List Addr) (S : Store) (H : Hp) (x : D) (v : V) (Q : VK), RS X.K T ρ S H → RD X.K ρ H x v → Post X.K X.mg T E ρ H (RD X.K) Q (F x S) → r [v] H Q
variable (X T) in
def C2S (r : List V → Hp → VK → Prop) (o : Op) : Prop := ∀ (E : XK) (ρ : List Addr) (S : Store) (H : Hp) (x y : D) (v w : V) (Q : VK), RS X.K T ρ S H → RD X.K ρ H x v → RD X.K ρ H y w → Post X.K X.mg T E ρ H (RD X.K) Q (o x y S) → r [v, w] H Q
variable {a b c : Expr} {fa fb fc : FE}
theorem tef_c1 {r : List V → Hp → VK → Prop} {F : D → Store → Res D} (hs : C1S X T r F) : ∀ σ H Q, TEf X T W (eUn F fa) σ H Q → tCB r (tCons (TEf X T W fa) tNil) σ H Q := by
  rintro σ H Q ⟨ρ, S, s, rs, re, h⟩
  refine ⟨ρ, S, s, rs, re, (Post.bind (R := RD X.K) h).imp ?_⟩
  rintro v H1 ⟨ρ1, S1, x, l1, rs1, rd1, h1⟩
  exact hs _ ρ1 S1 H1 x v Q rs1 rd1 h1
theorem tef_c2 {r : List V → Hp → VK → Prop} {o : Op} (hs : C2S X T r o) : ∀ σ H Q, TEf X T W (eOp o fa fb) σ H Q → tCB r (tCons (TEf X T W fa) (tCons (TEf X T W fb) tNil)) σ H Q := by
  rintro σ H Q ⟨ρ, S, s, rs, re, h⟩
  refine ⟨ρ, S, s, rs, re, (Post.bind (R := RD X.K) h).imp ?_⟩
  rintro v H1 ⟨ρ1, S1, x, l1, rs1, rd1, h1⟩
  refine ⟨ρ1, S1, s, rs1, re.le rs l1, (Post.bind (R := RD X.K) h1).imp ?_⟩
  rintro w H2 ⟨ρ2, S2, y, l2, rs2, rd2, h2⟩
  exact hs _ ρ2 S2 H2 x y v w Q rs2 (rd1.le rs1 l2) rd2 h2
/-- f(e), f a built-in function -/
theorem ev_b1 {id : String} {x : Str} {p : Pos} {r : List V → Hp → VK → Prop} {F : D → Store → Res D} (hs : CallR X (.builtin id) r ∧ C1S X T r F) (hm : X.mg x = none) (hv : bootBuiltins x = some (.builtin id)) (ha : EV X T W a fa) (hg : Gl X x := by rfl) (hn : x ≠ "__name__" := by decide) (hdb : (x == ("__debug__" : Str)) = false := by decide)
    (he : starEach (a :: []) X.env = (false, eval a X.env) :: starEach [] X.env := by rfl) (hpl : (backTo pos (starEach [] X.env)).any (·.1) = false := by rfl) : EV X T W (.Call (.Name x p) [a] [] pos) (eUn F fa) :=
  PE.imp (pe_callB hs.1 hg hm hv (pa_cons ha pa_nil he) hn hdb he hpl) (tef_c1 hs.2)
theorem ev_t1 {id : String} {x : Str} {p : Pos} {r : List V → Hp → VK → Prop} {F : D → Store → Res D} (hs : CallR X (.type id) r ∧ C1S X T r F) (hm : X.mg x = none) (hv : bootBuiltins x = some (.type id)) (ha : EV X T W a fa) (hg : Gl X x := by rfl) (hn : x ≠ "__name__" := by decide) (hdb : (x == ("__debug__" : Str)) = false := by decide)
    (he : starEach (a :: []) X.env = (false, eval a X.env) :: starEach [] X.env := by rfl) (hpl : (backTo pos (starEach [] X.env)).any (·.1) = false := by rfl) : EV X T W (.Call (.Name x p) [a] [] pos) (eUn F fa) :=
  PE.imp (pe_callTy hs.1 hg hm hv (pa_cons ha pa_nil he) hn hdb he hpl) (tef_c1 hs.2)
theorem ev_b2 {id : String} {x : Str} {p : Pos} {r : List V → Hp → VK → Prop} {o : Op} (hs : CallR X (.builtin id) r ∧ C2S X T r o) (hm : X.mg x = none) (hv : bootBuiltins x = some (.builtin id)) (ha : EV X T W a fa) (hb : EV X T W b fb) (hg : Gl X x := by rfl) (hn : x ≠ "__name__" := by decide) (hdb : (x == ("__debug__" : Str)) = false := by decide)
    (he : starEach (a :: [b]) X.env = (false, eval a X.env) :: starEach [b] X.env := by rfl) (he2 : starEach (b :: []) X.env = (false, eval b X.env) :: starEach [] X.env := by rfl) (hpl : (backTo pos (starEach [b] X.env)).any (·.1) = false := by rfl) : EV X T W (.Call (.Name x p) [a, b] [] pos) (eOp o fa fb) :=
  PE.imp (pe_callB hs.1 hg hm hv (pa_cons ha (pa_cons hb pa_nil he2) he) hn hdb he hpl) (tef_c2 hs.2)

/-- what a sequence's data are, in the heap -/
theorem seq_at {ρ : List Addr} {S : Store} {H : Hp} {x : D} {v : V} {ds : List D} (rs : RS X.K T ρ S H) (rx : RD X.K ρ H x v) (h : seqD S x = some ds) : ∃ p vs, v = .ref p ∧ (SqL X.K H p vs ∨ SqT X.K H p vs) ∧ RDs X.K ρ H ds vs ∧ vs.length ≤ sizeLine := by
  cases x with
  | tup d =>
    cases h
    obtain ⟨a, vs, rfl, ta, ra⟩ := rx.tup
    exact ⟨a, vs, rfl, .inr ta.sq, ra, ta.1⟩
  | frz d =>
    cases h
    obtain ⟨a, vs, rfl, ta, ra⟩ := rx.frz
    exact ⟨a, vs, rfl, .inl ta.sq, ra, ta.1⟩
  | ref l =>
    unfold seqD at h
    dsimp only at h
    split at h
    · rename_i d e
      cases h
      obtain ⟨p, vs, rfl, hp, hv, ra, za⟩ := rs.lstAt rx e
      exact ⟨p, vs, rfl, .inl (SqL.of hv), ra, za⟩
    · cases h
  | _ => cases h
abbrev rLenA (K : PySem.W.Frag) : List V → Hp → VK → Prop := fun xs H Q => (fun xs H Q => (fun xs H Q => ∃ x n, xs = [x] ∧ LenV K x H n ∧ Q (.int n) H) xs H Q ∨ (fun xs H Q => ∃ a kvs, xs = [V.ref a] ∧ H a = some (.dK kvs) ∧ Q (.int kvs.length) H) xs H Q) xs H Q ∨ rLenT xs H Q
theorem lenS {E : XK} {ρ : List Addr} {S : Store} {H : Hp} {x : D} {v : V} {Q : VK} (rs : RS X.K T ρ S H) (rx : RD X.K ρ H x v) (h : Post X.K X.mg T E ρ H (RD X.K) Q (match seqD S x with | some ds => Res.ok (.int ds.length) S | none => .bad)) : ∃ y n, [v] = [y] ∧ LenV X.K y H n ∧ Q (.int n) H := by
  cases e : seqD S x with
  | none => rw [e] at h; exact (show False from h).elim
  | some ds =>
    rw [e] at h
    obtain ⟨p, vs, rfl, hq, ra, za⟩ := seq_at rs rx e
    refine ⟨_, vs.length, rfl, ?_, ?_⟩
    · rcases hq with z | z
      · exact .inl ⟨vs, z, rfl⟩
      · exact .inr ⟨vs, z, rfl⟩
    · rw [← ra.len]
      exact h ρ H _ (Le.refl _ _) rs rd_int
theorem os_len : CallR X (.builtin "len") (rLenA X.K) ∧ C1S X T (rLenA X.K) fLen := by
  refine ⟨CallR.or (CallR.or call_len call_lenD) call_len_dT, ?_⟩
  intro E ρ S H x v Q rs rx h
  cases x with
  | str i =>
    unfold fLen at h
    dsimp only at h
    by_cases c : i.length ≤ LIM
    · rw [if_pos c] at h
      exact .inl (.inl ⟨v, i.length, rfl, by rw [rx.str]; exact ⟨by rw [← lim_eq]; exact c, rfl⟩, h ρ H _ (Le.refl _ _) rs rd_int⟩)
    · rw [if_neg c] at h; exact (show False from h).elim
  | ref l =>
    unfold fLen at h
    dsimp only at h
    split at h
    · rename_i kvs e
      obtain ⟨p, vs, rfl, hp, hv, ra, za⟩ := rs.dkAt rx e
      refine .inl (.inr ⟨p, vs, rfl, hv, ?_⟩)
      rw [← Paired.length ra]
      exact h ρ H _ (Le.refl _ _) rs rd_int
    · rename_i kvs e
      obtain ⟨p, vs, rfl, hp, hv, ra, za⟩ := rs.dtAt rx e
      refine .inr ⟨p, vs, rfl, hv, ?_⟩
      rw [← Paired.length ra]
      exact h ρ H _ (Le.refl _ _) rs rd_int
    · exact .inl (.inl (lenS rs rx h))
  | tup ds => exact .inl (.inl (lenS rs rx h))
  | frz ds => exact .inl (.inl (lenS rs rx h))
  | _ => exact (show False from h).elim
theorem os_list : CallR X (.type "list") (fun xs H Q => ∃ p ys, xs = [.ref p] ∧ (SqL X.K H p ys ∨ SqT X.K H p ys) ∧ ∀ l, H l = none → Q (.ref l) (upd H l (.lst ys))) ∧ C1S X T (fun xs H Q => ∃ p ys, xs = [.ref p] ∧ (SqL X.K H p ys ∨ SqT X.K H p ys) ∧ ∀ l, H l = none → Q (.ref l) (upd H l (.lst ys))) fList := by
  refine ⟨call_list_of, ?_⟩
  intro E ρ S H x v Q rs rx h
  unfold fList at h
  cases e : seqD S x with
  | none => rw [e] at h; exact (show False from h).elim
  | some ds =>
    rw [e] at h
    obtain ⟨p, vs, rfl, hq, ra, za⟩ := seq_at rs rx e
    refine ⟨p, vs, rfl, hq, fun l hl => ?_⟩
    obtain ⟨q1, q2, q3⟩ := lst_new rs hl ra za
    exact h _ _ _ q1 q2 q3
abbrev rTupleA (K : PySem.W.Frag) : List V → Hp → VK → Prop := fun xs H Q => ∃ p ys, xs = [.ref p] ∧ ((SqL K H p ys ∧ ∀ l, H l = none → Q (.ref l) (upd H l (.tup ys))) ∨ (SqT K H p ys ∧ Q (.ref p) H))
theorem os_tuple : CallR X (.type "tuple") (rTupleA X.K) ∧ C1S X T (rTupleA X.K) fTuple := by
  refine ⟨call_tuple_of, ?_⟩
  intro E ρ S H x v Q rs rx h
  unfold fTuple at h
  cases e : seqD S x with
  | none => rw [e] at h; exact (show False from h).elim
  | some ds =>
    rw [e] at h
    cases x with
    | tup d =>
      cases e
      obtain ⟨a, vs, rfl, ta, ra⟩ := rx.tup
      exact ⟨a, vs, rfl, .inr ⟨ta.sq, h ρ H _ (Le.refl _ _) rs rx⟩⟩
    | frz d =>
      cases e
      obtain ⟨a, vs, rfl, ta, ra⟩ := rx.frz
      refine ⟨a, vs, rfl, .inl ⟨ta.sq, fun l hl => ?_⟩⟩
      obtain ⟨q1, q2, q3⟩ := tup_new rs hl ra ta.1
      exact h _ _ _ q1 q2 q3
    | ref l =>
      unfold seqD at e
      dsimp only at e
      split at e
      · rename_i d e0
        cases e
        obtain ⟨p, vs, rfl, hp, hv, ra, za⟩ := rs.lstAt rx e0
        refine ⟨p, vs, rfl, .inl ⟨SqL.of hv, fun l hl => ?_⟩⟩
        obtain ⟨q1, q2, q3⟩ := tup_new rs hl ra za
        exact h _ _ _ q1 q2 q3
      · cases e
    | _ => cases e
theorem os_max2 (hc : X.calm = true) : CallR X (.builtin "max") (fun xs H Q => ∃ i j, xs = [.int i, .int j] ∧ Q (.int (if j > i then j else i)) H) ∧ C2S X T (fun xs H Q => ∃ i j, xs = [.int i, .int j] ∧ Q (.int (if j > i then j else i)) H) oMax := by
  refine ⟨call_max2 hc, ?_⟩
  intro E ρ S H x y v w Q rs rx ry h
  cases x with
  | int i =>
    cases y with
    | int j => exact ⟨i, j, by rw [rx.int, ry.int], h ρ H _ (Le.refl _ _) rs rd_int⟩
    | _ => exact (show False from h).elim
  | _ => cases y <;> exact (show False from h).elim
theorem os_min2 (hc : X.calm = true) : CallR X (.builtin "min") (fun xs H Q => ∃ i j, xs = [.int i, .int j] ∧ Q (.int (if j < i then j else i)) H) ∧ C2S X T (fun xs H Q => ∃ i j, xs = [.int i, .int j] ∧ Q (.int (if j < i then j else i)) H) oMin := by
  refine ⟨call_min2 hc, ?_⟩
  intro E ρ S H x y v w Q rs rx ry h
  cases x with
  | int i =>
    cases y with
    | int j => exact ⟨i, j, by rw [rx.int, ry.int], h ρ H _ (Le.refl _ _) rs rd_int⟩
    | _ => exact (show False from h).elim
  | _ => cases y <;> exact (show False from h).elim
theorem os_bool : CallR X (.type "bool") (fun xs H Q => (∃ i, xs = [.int i] ∧ Q (.bl (i != 0)) H) ∨ ∃ k, xs = [.bl k] ∧ Q (.bl k) H) ∧ C1S X T (fun xs H Q => (∃ i, xs = [.int i] ∧ Q (.bl (i != 0)) H) ∨ ∃ k, xs = [.bl k] ∧ Q (.bl k) H) fBool := by
  refine ⟨call_bool1, ?_⟩
  intro E ρ S H x v Q rs rx h
  cases x with
  | int i => exact .inl ⟨i, by rw [rx.int], h ρ H _ (Le.refl _ _) rs rd_bl⟩
  | bl i => exact .inr ⟨i, by rw [rx.bl], h ρ H _ (Le.refl _ _) rs rd_bl⟩
  | _ => exact (show False from h).elim
theorem rds_ints {K : PySem.W.Frag} {ρ : List Addr} {H : Hp} : ∀ ns : List Int, RDs K ρ H (ns.map D.int) (ns.map V.int)
  | [] => by unfold List.map RDs; rfl
  | n :: ns => by
    show RDs K ρ H (.int n :: ns.map D.int) (.int n :: ns.map V.int)
    unfold RDs
    exact ⟨_, _, rfl, rd_int, rds_ints ns⟩
theorem insI_perm (a : Int) : ∀ l, (insI a l).Perm (a :: l)
  | [] => .refl _
  | b :: l => by
    unfold insI
    split
    · exact .refl _
    · exact ((insI_perm a l).cons b).trans (.swap a b l)
theorem sortI_perm : ∀ l, (sortI l).Perm l
  | [] => .refl _
  | a :: l => (insI_perm a _).trans ((sortI_perm l).cons a)
theorem insI_sorted (a : Int) : ∀ l : List Int, l.Pairwise (· ≤ ·) → (insI a l).Pairwise (· ≤ ·)
  | [], _ => .cons (by simp) .nil
  | b :: l, h => by
    unfold insI
    split
    · rename_i c
      refine .cons (fun x hx => ?_) h
      rcases List.mem_cons.mp hx with z | z
      · rw [z]; exact c
      · exact Int.le_trans c ((List.pairwise_cons.mp h).1 x z)
    · rename_i c
      refine .cons (fun x hx => ?_) (insI_sorted a l (List.pairwise_cons.mp h).2)
      rcases List.mem_cons.mp ((insI_perm a l).mem_iff.mp hx) with z | z
      · rw [z]; omega
      · exact (List.pairwise_cons.mp h).1 x z
theorem sortI_sorted : ∀ l, (sortI l).Pairwise (· ≤ ·)
  | [] => .nil
  | a :: l => insI_sorted a _ (sortI_sorted l)
theorem sortI_is {l m : List Int} (h : m.Perm l) (s : m.Pairwise (· ≤ ·)) : m = sortI l :=
  List.Perm.eq_of_pairwise (fun x y _ _ h1 h2 => Int.le_antisymm h1 h2) s (sortI_sorted l) (h.trans (sortI_perm l).symm)
theorem kD_rd {K : PySem.W.Frag} {ρ : List Addr} {H : Hp} {k : Kk} {v : V} (h : RD K ρ H (kD k) v) : v = kV k := by
  cases k with
  | inl i => exact h.int
  | inr i => exact h.str
theorem rd_kD {K : PySem.W.Frag} {ρ : List Addr} {H : Hp} (k : Kk) : RD K ρ H (kD k) (kV k) := by
  cases k with
  | inl i => exact rd_int
  | inr i => exact rd_str
theorem keyD_eq {x : D} {k : Kk} (h : keyD x = some k) : x = kD k := by
  cases x with
  | int i => unfold keyD at h; cases h; rfl
  | str i => unfold keyD at h; cases h; rfl
  | _ => unfold keyD at h; cases h
abbrev rSortA (K : PySem.W.Frag) : List V → Hp → VK → Prop := fun xs H Q => rSortedI K xs H Q ∨ (fun xs H Q => ∃ (a : Addr) (kvs : List (Key × V)) (ks : List Int), xs = [.ref a] ∧ Rd H a (.dK kvs) ∧ kvs.map (·.1) = ks.map Sum.inl ∧
    ∀ (ys : List Int) (p : Addr), ys.Perm ks → ys.Pairwise (· ≤ ·) → H p = none → Q (.ref p) (upd H p (.lst (ys.map V.int)))) xs H Q
theorem keysD_v {K : PySem.W.Frag} {ρ : List Addr} {H : Hp} : ∀ {ds : List D} {vs : List V} {ks : List Kk}, keysD ds = some ks → RDs K ρ H ds vs → vs = ks.map kV
  | [], vs, ks, h, r => by unfold keysD at h; cases h; unfold RDs at r; subst r; rfl
  | d :: ds, vs, ks, h, r => by
    unfold RDs at r
    obtain ⟨v, w, rfl, r1, r2⟩ := r
    unfold keysD at h
    split at h
    · rename_i k' r' e1 e2
      cases h
      have ek := keyD_eq e1
      subst ek
      rw [keysD_v e2 r2, kD_rd r1]; rfl
    · cases h
theorem keyT_v {K : PySem.W.Frag} {ρ : List Addr} {H : Hp} {x : D} {v : V} {ks : List Kk} (h : keyT x = some ks) (r : RD K ρ H x v) : ∃ b, v = .ref b ∧ H b = some (.tup (ks.map kV)) := by
  cases x with
  | tup ds =>
    obtain ⟨a, vs, rfl, ta, ra⟩ := r.tup
    have := keysD_v h ra
    subst this
    exact ⟨a, rfl, ta.2⟩
  | _ => unfold keyT at h; cases h
theorem intsD_keys : ∀ {kvs : List (Kk × D)} {ns : List Int}, intsD (kvs.map fun kv => kD kv.1) = some ns → kvs.map (·.1) = ns.map Sum.inl
  | [], ns, h => by unfold List.map intsD at h; cases h; rfl
  | (k, d) :: r, ns, h => by
    cases k with
    | inl i =>
      have h' : (match intsD (r.map fun kv => kD kv.1) with | some is => some (i :: is) | none => none) = some ns := h
      split at h'
      · rename_i is e
        cases h'
        rw [List.map_cons, intsD_keys e]; rfl
      · cases h'
    | inr i => cases h
theorem ltPr_eq (p q : Int × Int) : ltPr p q = SrtO.lexB p q := rfl
theorem insP_perm (a : Int × Int) : ∀ l, (insP a l).Perm (a :: l)
  | [] => .refl _
  | b :: l => by
    unfold insP
    split
    · exact ((insP_perm a l).cons b).trans (.swap a b l)
    · exact .refl _
theorem sortP_perm : ∀ l, (sortP l).Perm l
  | [] => .refl _
  | a :: l => (insP_perm a _).trans ((sortP_perm l).cons a)
theorem ltPr_iff {p q : Int × Int} : ltPr p q = true ↔ p.1 < q.1 ∨ (p.1 = q.1 ∧ p.2 < q.2) := SrtO.lexB_iff
theorem ltPr_no {p q : Int × Int} : ltPr p q = false ↔ ¬ (p.1 < q.1 ∨ (p.1 = q.1 ∧ p.2 < q.2)) := SrtO.lexB_no
theorem insP_sorted (a : Int × Int) : ∀ l : List (Int × Int), l.Pairwise (fun u v => ltPr v u = false) → (insP a l).Pairwise (fun u v => ltPr v u = false)
  | [], _ => .cons (by simp) .nil
  | b :: l, h => by
    unfold insP
    split
    · rename_i c
      refine .cons (fun x hx => ?_) (insP_sorted a l (List.pairwise_cons.mp h).2)
      rcases List.mem_cons.mp ((insP_perm a l).mem_iff.mp hx) with z | z
      · rw [z]
        have := ltPr_iff.mp c
        exact ltPr_no.mpr (by omega)
      · exact (List.pairwise_cons.mp h).1 x z
    · rename_i c
      have c' : ltPr b a = false := by cases e : ltPr b a with
        | true => exact absurd e c
        | false => rfl
      refine .cons (fun x hx => ?_) h
      rcases List.mem_cons.mp hx with z | z
      · rw [z]; exact c'
      · have h1 := ltPr_no.mp ((List.pairwise_cons.mp h).1 x z)
        have h2 := ltPr_no.mp c'
        exact ltPr_no.mpr (by omega)
theorem sortP_sorted : ∀ l, (sortP l).Pairwise (fun u v => ltPr v u = false)
  | [] => .nil
  | a :: l => insP_sorted a _ (sortP_sorted l)
theorem sortP_is {l m : List (Int × Int)} (h : m.Perm l) (s : m.Pairwise (fun u v => ltPr v u = false)) : m = sortP l :=
  List.Perm.eq_of_pairwise (fun x y _ _ h1 h2 => by
    have a := ltPr_no.mp h1
    have b := ltPr_no.mp h2
    exact Prod.ext (by omega) (by omega)) s (sortP_sorted l) (h.trans (sortP_perm l).symm)
theorem prsD_v {K : PySem.W.Frag} {ρ : List Addr} {H : Hp} : ∀ {ds : List D} {vs : List V} {ps : List (Int × Int)}, prsD ds = some ps → RDs K ρ H ds vs → Paired (PrAt K H) ps vs
  | [], vs, ps, h, r => by unfold prsD at h; cases h; unfold RDs at r; subst r; exact .nil
  | d :: ds, vs, ps, h, r => by
    unfold RDs at r
    obtain ⟨v, w, rfl, r1, r2⟩ := r
    unfold prsD at h
    split at h
    · rename_i e'; cases e'
    · rename_i a b ds' e'
      have he := List.cons.inj e'
      obtain ⟨hd, hds⟩ := he
      subst hd hds
      split at h
      · rename_i ps' e2
        cases h
        obtain ⟨p, us, rfl, ta, ra⟩ := r1.tup
        unfold RDs RDs RDs at ra
        obtain ⟨u1, _, rfl, b1, u2, _, rfl, b2, rfl⟩ := ra
        have e1 := b1.int
        have e3 := b2.int
        subst e1 e3
        exact .cons ⟨p, rfl, ta⟩ (prsD_v e2 r2)
      · cases h
    · cases h
theorem prsD_len : ∀ {ds : List D} {ps : List (Int × Int)}, prsD ds = some ps → ps.length = ds.length
  | [], ps, h => by unfold prsD at h; cases h; rfl
  | d :: ds, ps, h => by
    unfold prsD at h
    split at h
    · rename_i e'; cases e'
    · rename_i a b ds' e'
      have he := List.cons.inj e'
      obtain ⟨hd, hds⟩ := he
      subst hd hds
      split at h
      · rename_i ps' e2
        cases h
        rw [List.length_cons, List.length_cons, prsD_len e2]
      · cases h
    · cases h
theorem rds_prs {K : PySem.W.Frag} {ρ : List Addr} {H : Hp} : ∀ {qs : List (Int × Int)} {ys : List V}, (∀ y ∈ ys, ∀ q, PrAt K H q y → RD K ρ H (prD q) y) → Paired (PrAt K H) qs ys → RDs K ρ H (qs.map prD) ys
  | _, _, _, .nil => by unfold List.map RDs; rfl
  | q :: qs, y :: ys, h, .cons r t => by
    show RDs K ρ H (prD q :: qs.map prD) (y :: ys)
    unfold RDs
    exact ⟨_, _, rfl, h y List.mem_cons_self q r, rds_prs (fun z hz => h z (List.mem_cons_of_mem _ hz)) t⟩
abbrev rSortT : List V → Hp → VK → Prop := fun xs H Q => ∃ (a : Addr) (kvs : List (List Key × V)) (ps : List (Int × Int)), xs = [.ref a] ∧ Rd H a (.dT kvs) ∧ kvs.map (·.1) = ps.map (fun p => [Sum.inl p.1, Sum.inl p.2]) ∧
    ∀ (ys : List V) (qs : List (Int × Int)) (p : Addr), Paired (fun q y => ∃ t, y = V.ref t ∧ H t = some (.tup [.int q.1, .int q.2])) qs ys → qs.Perm ps → qs.Pairwise (fun u v => SrtO.lexB v u = false) → H p = none → Q (.ref p) (upd H p (.lst ys))
theorem kD_int {k : Kk} {a : Int} (e : D.int a = kD k) : k = Sum.inl a := by
  cases k with
  | inl i =>
    have e2 : D.int a = D.int i := e
    injection e2 with e3
    rw [e3]
  | inr x =>
    have e2 : D.int a = D.str x := e
    cases e2
theorem prsD_keys : ∀ {kvs : List (List Kk × D)} {ps : List (Int × Int)}, prsD (kvs.map fun kv => .tup (kv.1.map kD)) = some ps → kvs.map (·.1) = ps.map (fun p => [Sum.inl p.1, Sum.inl p.2])
  | [], ps, h => by unfold List.map prsD at h; cases h; rfl
  | (ks, d) :: r, ps, h => by
    rw [List.map_cons] at h
    unfold prsD at h
    split at h
    · rename_i e'; cases e'
    · rename_i a b ds' e'
      have he := List.cons.inj e'
      obtain ⟨hd, hds⟩ := he
      subst hds
      split at h
      · rename_i ps' e2
        cases h
        have ek : ks = [Sum.inl a, Sum.inl b] := by
          injection hd with hd2
          have hl := congrArg List.length hd2
          match ks, hd2, hl with
          | [], _, hl => simp at hl
          | [_], _, hl => simp at hl
          | _ :: _ :: _ :: _, _, hl => simp at hl
          | [k1, k2], hd2, _ =>
            rw [List.map_cons, List.map_cons] at hd2
            injection hd2 with h1 h2
            injection h2 with h3 _
            first
              | rw [kD_int h1, kD_int h3]
              | rw [kD_int h1.symm, kD_int h3.symm]
        rw [List.map_cons, prsD_keys e2, List.map_cons]
        show ks :: _ = _
        rw [ek]
      · cases h
    · cases h
abbrev rSortC (K : PySem.W.Frag) : List V → Hp → VK → Prop := fun xs H Q => (fun xs H Q => rSortA K xs H Q ∨ rSortedPW K xs H Q) xs H Q ∨ rSortT xs H Q
abbrev rSortU (K : PySem.W.Frag) : List V → Hp → VK → Prop := fun xs H Q => ∃ (a : Addr) (ks : List Int), xs = [.ref a] ∧ SqT K H a (ks.map V.int) ∧
    ∀ (ys : List Int) (p : Addr), ys.Perm ks → ys.Pairwise (· ≤ ·) → H p = none → Q (.ref p) (upd H p (.lst (ys.map V.int)))
abbrev rSortB (K : PySem.W.Frag) : List V → Hp → VK → Prop := fun xs H Q => rSortC K xs H Q ∨ rSortU K xs H Q
theorem os_sorted (hc : X.calm = true) : CallR X (.builtin "sorted") (rSortB X.K) ∧ C1S X T (rSortB X.K) fSorted := by
  refine ⟨CallR.or (CallR.or (CallR.or (CallR.or cr_sortedI (wk_sortedDI hc)) cr_sortedPW) (wk_sortedDT hc)) (wk_sortedTI hc), ?_⟩
  intro E ρ S H x v Q rs rx h
  cases x with
  | tup ds =>
    unfold fSorted at h
    dsimp only at h
    cases e1 : intsD ds with
    | none => rw [e1] at h; exact (show False from h).elim
    | some ns =>
      rw [e1] at h
      obtain ⟨p, vs, rfl, tp, ra⟩ := rx.tup
      have ev := intsD_v e1 ra
      subst ev
      refine .inr ⟨p, ns, rfl, tp.sq, fun ns' q perm srt hq => ?_⟩
      rw [sortI_is perm srt]
      obtain ⟨q1, q2, q3⟩ := lst_new rs hq (rds_ints (sortI ns)) (by
        rw [List.length_map, (sortI_perm ns).length_eq, ← List.length_map (f := V.int)]; exact tp.1)
      exact h _ _ _ q1 q2 q3
  | ref l =>
    unfold fSorted at h
    dsimp only at h
    cases e0 : S[l]? with
    | none => rw [e0] at h; exact (show False from h).elim
    | some ob =>
      rw [e0] at h
      cases ob with
      | lst ds =>
        dsimp only at h
        cases e1 : intsD ds with
        | none =>
          rw [e1] at h
          dsimp only at h
          cases e2 : prsD ds with
          | none => rw [e2] at h; exact (show False from h).elim
          | some ps =>
            rw [e2] at h
            obtain ⟨p, vs, rfl, hp, hv, ra, za⟩ := rs.lstAt rx e0
            refine .inl (.inl (.inr ⟨p, vs, ps, rfl, SqL.of hv, prsD_v e2 ra, fun ys qs q hqs perm srt hq => ?_⟩))
            have eq := sortP_is perm srt
            subst eq
            obtain ⟨q1, q2, q3⟩ := lst_new (ds := (sortP ps).map prD) (vs := ys) rs hq (rds_prs (fun y _ q ⟨t, ey, ht⟩ => by
              subst ey
              exact rd_tup ht (by unfold RDs RDs RDs; exact ⟨_, _, rfl, rd_int, _, _, rfl, rd_int, rfl⟩)) hqs) (by
              rw [← Paired.length hqs, (sortP_perm ps).length_eq, prsD_len e2, ra.len]; exact za)
            exact h _ _ _ q1 q2 q3
        | some ns =>
          rw [e1] at h
          obtain ⟨p, vs, rfl, hp, hv, ra, za⟩ := rs.lstAt rx e0
          have ev := intsD_v e1 ra
          subst ev
          refine .inl (.inl (.inl (.inl ⟨p, ns, rfl, SqL.of hv, fun ns' q perm srt hq => ?_⟩)))
          rw [sortI_is perm srt]
          obtain ⟨q1, q2, q3⟩ := lst_new rs hq (rds_ints (sortI ns)) (by
            rw [List.length_map, (sortI_perm ns).length_eq, ← List.length_map (f := V.int)]; exact za)
          exact h _ _ _ q1 q2 q3
      | dk kvs =>
        dsimp only at h
        cases e1 : intsD (kvs.map fun kv => kD kv.1) with
        | none => rw [e1] at h; exact (show False from h).elim
        | some ns =>
          rw [e1] at h
          obtain ⟨p, vs, rfl, hp, hv, ra, za⟩ := rs.dkAt rx e0
          have hk : vs.map (·.1) = ns.map Sum.inl := by
            rw [← intsD_keys e1]
            clear h e1 e0 hv za
            induction ra with
            | nil => rfl
            | cons r t ih => rw [List.map_cons, List.map_cons, ih, r.1]
          have hlen : ns.length ≤ sizeLine := by
            have := congrArg List.length hk
            rw [List.length_map, List.length_map] at this
            rw [← this]; exact za
          dsimp only at h
          rw [if_pos (by rw [lim_eq]; exact hlen)] at h
          refine .inl (.inl (.inl (.inr ⟨p, vs, ns, rfl, .inl hv, hk, fun ns' q perm srt hq => ?_⟩)))
          rw [sortI_is perm srt]
          obtain ⟨q1, q2, q3⟩ := lst_new rs hq (rds_ints (sortI ns)) (by
            rw [List.length_map, (sortI_perm ns).length_eq]; exact hlen)
          exact h _ _ _ q1 q2 q3
      | dt kvs =>
        dsimp only at h
        cases e1 : prsD (kvs.map fun kv => .tup (kv.1.map kD)) with
        | none => rw [e1] at h; exact (show False from h).elim
        | some ps =>
          rw [e1] at h
          dsimp only at h
          obtain ⟨p, vs, rfl, hp, hv, ra, za⟩ := rs.dtAt rx e0
          have hk : vs.map (·.1) = ps.map (fun p => [Sum.inl p.1, Sum.inl p.2]) := by
            rw [← prsD_keys e1]
            clear h e1 e0 hv za
            induction ra with
            | nil => rfl
            | cons r t ih => rw [List.map_cons, List.map_cons, ih, r.1]
          have hlen : ps.length ≤ sizeLine := by
            have := congrArg List.length hk
            rw [List.length_map, List.length_map] at this
            rw [← this]; exact za
          rw [if_pos (by rw [lim_eq]; exact hlen)] at h
          refine .inl (.inr ⟨p, vs, ps, rfl, .inl hv, hk, fun ys qs q hqs perm srt hq => ?_⟩)
          have eq := sortP_is perm srt
          subst eq
          have hqs' : Paired (PrAt X.K H) (sortP ps) ys := Paired.mapP hqs fun a b z => let ⟨t, e1, e2⟩ := z; ⟨t, e1, ⟨by show 2 ≤ sizeLine; decide, e2⟩⟩
          obtain ⟨q1, q2, q3⟩ := lst_new (ds := (sortP ps).map prD) (vs := ys) rs hq (rds_prs (fun y _ q ⟨t, ey, ht⟩ => by
            subst ey
            exact rd_tup ht (by unfold RDs RDs RDs; exact ⟨_, _, rfl, rd_int, _, _, rfl, rd_int, rfl⟩)) hqs') (by
            rw [← Paired.length hqs, (sortP_perm ps).length_eq]; exact hlen)
          exact h _ _ _ q1 q2 q3
  | _ => exact (show False from h).elim
theorem minI_some : ∀ (a : Int) (l : List Int), minI (a :: l) ≠ none
  | a, [] => by unfold minI; simp
  | a, b :: l => by unfold minI; split <;> simp
theorem minI_spec : ∀ {l : List Int} {m : Int}, minI l = some m → m ∈ l ∧ ∀ y ∈ l, m ≤ y
  | [], m, h => by unfold minI at h; cases h
  | [a], m, h => by unfold minI at h; cases h; simp
  | a :: b :: l, m, h => by
    unfold minI at h
    cases e : minI (b :: l) with
    | none => exact absurd e (minI_some b l)
    | some k =>
      rw [e] at h
      obtain ⟨h1, h2⟩ := minI_spec e
      have hm : (if k < a then k else a) = m := Option.some.inj h
      subst hm
      split
      · rename_i c
        refine ⟨List.mem_cons_of_mem _ h1, fun y hy => ?_⟩
        rcases List.mem_cons.mp hy with z | z
        · omega
        · exact h2 y z
      · rename_i c
        refine ⟨List.mem_cons_self, fun y hy => ?_⟩
        rcases List.mem_cons.mp hy with z | z
        · omega
        · have := h2 y z; omega
theorem os_minL (hc : X.calm = true) : CallR X (.builtin "min") (rMin X.K) ∧ C1S X T (rMin X.K) fMin := by
  refine ⟨cr_min hc, ?_⟩
  intro E ρ S H x v Q rs rx h
  cases x with
  | ref l =>
    unfold fMin at h
    dsimp only at h
    cases e0 : S[l]? with
    | none => rw [e0] at h; exact (show False from h).elim
    | some ob =>
      rw [e0] at h
      cases ob with
      | lst ds =>
        dsimp only at h
        cases e1 : intsD ds with
        | none => rw [e1] at h; exact (show False from h).elim
        | some ns =>
          rw [e1] at h
          dsimp only at h
          cases e2 : minI ns with
          | none => rw [e2] at h; exact (show False from h).elim
          | some m =>
            rw [e2] at h
            obtain ⟨p, vs, rfl, hp, hv, ra, za⟩ := rs.lstAt rx e0
            have ev := intsD_v e1 ra
            subst ev
            obtain ⟨m1, m2⟩ := minI_spec e2
            refine ⟨p, ns, rfl, SqL.of hv, List.length_pos_of_mem m1, fun k hk hle => ?_⟩
            have : k = m := Int.le_antisymm (hle m m1) (m2 k hk)
            subst this
            exact h ρ H _ (Le.refl _ _) rs rd_int
      | _ => exact (show False from h).elim
  | _ => exact (show False from h).elim
/-- pairs in a row: the tuples' addresses, keys and values -/
theorem pairsD_v {ρ : List Addr} {H : Hp} : ∀ {ds : List D} {vs : List V} {kvs : List (Kk × D)}, pairsD ds = some kvs → RDs X.K ρ H ds vs → ∃ (ps : List Addr) (kws : List (Key × V)), vs = ps.map V.ref ∧ Paired (fun p kv => SqT X.K H p [kV kv.1, kv.2]) ps kws ∧ RKs X.K ρ H kvs kws
  | [], vs, kvs, h, r => by unfold pairsD at h; cases h; unfold RDs at r; subst r; exact ⟨[], [], rfl, .nil, .nil⟩
  | d :: ds, vs, kvs, h, r => by
    unfold RDs at r
    obtain ⟨v, w, rfl, r1, r2⟩ := r
    unfold pairsD at h
    split at h
    · rename_i e'; cases e'
    · rename_i k x ds' e'
      have he := List.cons.inj e'
      obtain ⟨hd, hds⟩ := he
      subst hd hds
      split at h
      · rename_i k' r' e1 e2
        cases h
        obtain ⟨ps, kws, a1, a2, a3⟩ := pairsD_v e2 r2
        obtain ⟨p, us, rfl, ta, ra⟩ := r1.tup
        have ek := keyD_eq e1
        subst ek
        unfold RDs RDs RDs at ra
        obtain ⟨u1, _, rfl, b1, u2, _, rfl, b2, rfl⟩ := ra
        have eb := kD_rd b1
        subst eb
        exact ⟨p :: ps, (k', u2) :: kws, by rw [a1]; rfl, .cons ta.sq a2, .cons ⟨rfl, b2⟩ a3⟩
      · cases h
    · cases h
theorem map_ks {K : PySem.W.Frag} {ρ : List Addr} {H : Hp} {κ : Type} [DecidableEq κ] {k : κ} {d : D} {v : V} (rd : RD K ρ H d v) : ∀ {kvs : List (κ × D)} {kws : List (κ × V)}, RKs K ρ H kvs kws → RKs K ρ H (kvs.map fun kv => if kv.1 = k then (kv.1, d) else kv) (kws.map fun kv => if kv.1 = k then (kv.1, v) else kv)
  | _, _, .nil => .nil
  | p :: l1, q :: l2, .cons r t => by
    refine .cons ?_ (map_ks rd t)
    dsimp only
    rw [r.1]
    by_cases c : q.1 = k
    · rw [if_pos c, if_pos c]; exact ⟨rfl, rd⟩
    · rw [if_neg c, if_neg c]; exact ⟨r.1, r.2⟩
theorem any_ks {K : PySem.W.Frag} {ρ : List Addr} {H : Hp} {κ : Type} [DecidableEq κ] {k : κ} : ∀ {kvs : List (κ × D)} {kws : List (κ × V)}, RKs K ρ H kvs kws → (kvs.any fun kv => decide (kv.1 = k)) = kws.any fun kv => decide (kv.1 = k)
  | _, _, .nil => rfl
  | p :: l1, q :: l2, .cons r t => by rw [List.any_cons, List.any_cons, any_ks t, r.1]
theorem putD_ks {K : PySem.W.Frag} {ρ : List Addr} {H : Hp} {κ : Type} [DecidableEq κ] {kvs : List (κ × D)} {kws : List (κ × V)} {k : κ} {d : D} {v : V} (r : RKs K ρ H kvs kws) (rd : RD K ρ H d v) : RKs K ρ H (putD kvs k d) (putK kws k v) := by
  unfold putD putK
  rw [any_ks r]
  split
  · exact map_ks rd r
  · exact Paired.app r (.cons ⟨rfl, rd⟩ .nil)
theorem valD_ks {K : PySem.W.Frag} {ρ : List Addr} {H : Hp} {κ : Type} [DecidableEq κ] {kvs : List (κ × D)} {kws : List (κ × V)} (r : RKs K ρ H kvs kws) (k : κ) : (valD kvs k = none ∧ valV kws k = none) ∨ ∃ d v, valD kvs k = some d ∧ valV kws k = some v ∧ RD K ρ H d v := by
  induction r with
  | nil => exact .inl ⟨rfl, rfl⟩
  | cons r t ih =>
    rename_i p q l1 l2
    by_cases c : p.1 = k
    · exact .inr ⟨p.2, q.2, by simp [valD, List.find?_cons, c], valV_pos (r.1.symm.trans c), r.2⟩
    · have c' : ¬ q.1 = k := fun z => c (r.1.trans z)
      rw [show valD (p :: l1) k = valD l1 k from by simp [valD, List.find?_cons, c], valV_neg c']
      exact ih
theorem mergeD_ks {K : PySem.W.Frag} {ρ : List Addr} {H : Hp} : ∀ {more : List (Kk × D)} {more' : List (Key × V)} {kvs : List (Kk × D)} {kws : List (Key × V)}, RKs K ρ H more more' → RKs K ρ H kvs kws → RKs K ρ H (mergeD kvs more) (mergeK kws more')
  | _, _, _, _, .nil, h => h
  | p :: m, q :: m', kvs, kws, .cons r t, h => by
    unfold mergeD mergeK
    rw [List.foldl_cons, List.foldl_cons, r.1]
    exact mergeD_ks t (putD_ks h r.2)
theorem pairsT_v {ρ : List Addr} {H : Hp} : ∀ {ds : List D} {vs : List V} {kvs : List (List Kk × D)}, pairsT ds = some kvs → RDs X.K ρ H ds vs → ∃ (ps : List Addr) (kws : List (List Key × V)), vs = ps.map V.ref ∧ Paired (PairT X.K H) ps kws ∧ RKs X.K ρ H kvs kws
  | [], vs, kvs, h, r => by unfold pairsT at h; cases h; unfold RDs at r; subst r; exact ⟨[], [], rfl, .nil, .nil⟩
  | d :: ds, vs, kvs, h, r => by
    unfold RDs at r
    obtain ⟨v, w, rfl, r1, r2⟩ := r
    unfold pairsT at h
    split at h
    · rename_i e'; cases e'
    · rename_i k x ds' e'
      have he := List.cons.inj e'
      obtain ⟨hd, hds⟩ := he
      subst hd hds
      split at h
      · rename_i k' r' e1 e2
        cases h
        obtain ⟨ps, kws, a1, a2, a3⟩ := pairsT_v e2 r2
        obtain ⟨p, us, rfl, ta, ra⟩ := r1.tup
        unfold RDs RDs RDs at ra
        obtain ⟨u1, _, rfl, b1, u2, _, rfl, b2, rfl⟩ := ra
        obtain ⟨b, rfl, hb⟩ := keyT_v e1 b1
        exact ⟨p :: ps, (k', u2) :: kws, by rw [a1]; rfl, .cons ⟨b, ta.sq, hb⟩ a2, .cons ⟨rfl, b2⟩ a3⟩
      · cases h
    · cases h
theorem mergeA_ks {K : PySem.W.Frag} {ρ : List Addr} {H : Hp} : ∀ {more : List (List Kk × D)} {more' : List (List Key × V)} {kvs : List (List Kk × D)} {kws : List (List Key × V)}, RKs K ρ H more more' → RKs K ρ H kvs kws → RKs K ρ H (mergeD kvs more) (mergeA kws more')
  | _, _, _, _, .nil, h => h
  | p :: m, q :: m', kvs, kws, .cons r t, h => by
    unfold mergeD mergeA
    rw [List.foldl_cons, List.foldl_cons, r.1]
    exact mergeA_ks t (putD_ks h r.2)
abbrev rDictK (K : PySem.W.Frag) : List V → Hp → VK → Prop := fun xs H Q => ∃ (a : Addr) (ps : List Addr) (kvs : List (Key × V)), xs = [.ref a] ∧ SqL K H a (ps.map V.ref) ∧ Paired (fun p kv => SqT K H p [kV kv.1, kv.2]) ps kvs ∧
    ∀ p, H p = none → Q (.ref p) (upd H p (.dK (mergeK [] kvs)))
abbrev rDictT (K : PySem.W.Frag) : List V → Hp → VK → Prop := fun xs H Q => ∃ (a : Addr) (ps : List Addr) (kvs : List (List Key × V)), xs = [.ref a] ∧ SqL K H a (ps.map V.ref) ∧ Paired (PairT K H) ps kvs ∧ ∀ p, H p = none → Q (.ref p) (upd H p (.dT (mergeA [] kvs)))
abbrev rDictA (K : PySem.W.Frag) : List V → Hp → VK → Prop := fun xs H Q => rDictK K xs H Q ∨ rDictT K xs H Q
theorem os_dict {k : Nat} (hr : Room k X.A) (hc : X.calm = true) : CallR X (.type "dict") (rDictA X.K) ∧ C1S X T (rDictA X.K) fDict := by
  refine ⟨CallR.or (call_dictP hc) (wk_dictPT hc (by have := hr.un; omega)), ?_⟩
  intro E ρ S H x v Q rs rx h
  cases x with
  | ref l =>
    unfold fDict at h
    dsimp only at h
    cases e0 : S[l]? with
    | none => rw [e0] at h; exact (show False from h).elim
    | some ob =>
      rw [e0] at h
      cases ob with
      | lst ds =>
        dsimp only at h
        cases e1 : pairsD ds with
        | none =>
          rw [e1] at h
          dsimp only at h
          cases e2 : pairsT ds with
          | none => rw [e2] at h; exact (show False from h).elim
          | some kvs =>
            rw [e2] at h
            obtain ⟨p, vs, rfl, hp, hv, ra, za⟩ := rs.lstAt rx e0
            obtain ⟨ps, kws, rfl, a2, a3⟩ := pairsT_v e2 ra
            refine .inr ⟨p, ps, kws, rfl, SqL.of hv, a2, fun q hq => ?_⟩
            obtain ⟨q1, q2, q3⟩ := dt_new rs hq (mergeA_ks a3 (.nil : RKs X.K ρ H [] [])) (by
              refine Nat.le_trans (mergeA_len kws []) ?_
              rw [List.length_nil, Nat.zero_add, ← Paired.length a2, ← List.length_map (f := V.ref)]; exact za)
            exact h _ _ _ q1 q2 q3
        | some kvs =>
          rw [e1] at h
          obtain ⟨p, vs, rfl, hp, hv, ra, za⟩ := rs.lstAt rx e0
          obtain ⟨ps, kws, rfl, a2, a3⟩ := pairsD_v e1 ra
          refine .inl ⟨p, ps, kws, rfl, SqL.of hv, a2, fun q hq => ?_⟩
          obtain ⟨q1, q2, q3⟩ := dk_new rs hq (mergeD_ks a3 (.nil : RKs X.K ρ H [] [])) (by
            refine Nat.le_trans (length_mergeK kws []) ?_
            rw [List.length_nil, Nat.zero_add, ← Paired.length a2, ← List.length_map (f := V.ref)]; exact za)
          exact h _ _ _ q1 q2 q3
      | _ => exact (show False from h).elim
  | _ => exact (show False from h).elim

/-! ### isinstance(x, T), T a built-in type -/
theorem ty_of {ρ : List Addr} {S : Store} {H : Hp} {x : D} {v : V} {t : String} (rs : RS X.K T ρ S H) (rx : RD X.K ρ H x v) (h : tyD S x = some t) : TyX X.K H v (.type t) := by
  cases x with
  | non => cases h; rw [rx.non]; exact .base .non
  | bl b => cases h; rw [rx.bl]; exact .base (.bl b)
  | int b => cases h; rw [rx.int]; exact .base (.int b)
  | str b => cases h; rw [rx.str]; exact .base (.str b)
  | tup b =>
    cases h
    obtain ⟨a, vs, rfl, ta, ra⟩ := rx.tup
    exact .base (.tup ta.2)
  | frz b =>
    cases h
    obtain ⟨a, vs, rfl, ta, ra⟩ := rx.frz
    rcases ta.2 with ⟨o, z⟩ | ⟨o, its, n, k1, k2, _⟩
    · exact .base (.frz z)
    · exact .kList k1 k2
  | ref l =>
    unfold tyD at h
    dsimp only at h
    split at h
    · rename_i ds e
      cases h
      obtain ⟨p, vs, rfl, hp, hv, _⟩ := rs.lstAt rx e
      exact .base (.lst hv)
    · rename_i ds e
      cases h
      obtain ⟨p, vs, rfl, hp, hv, _⟩ := rs.dkAt rx e
      exact .base (.dK hv)
    · rename_i ds e
      cases h
      obtain ⟨p, vs, rfl, hp, hv, _⟩ := rs.dtAt rx e
      exact .base (.dT hv)
    · cases h
def tysD : List String := ["NoneType", "bool", "int", "str", "tuple", "list", "dict"]
theorem tyD_in {S : Store} {x : D} {t : String} (h : tyD S x = some t) : t ∈ tysD := by
  cases x <;> unfold tyD at h <;> dsimp only at h
  all_goals first
    | (cases h; decide)
    | (split at h <;> first | (cases h; decide) | cases h)
theorem ev_isinst {n : String} {x : Str} {p p2 : Pos} (hk : ∀ t ∈ tysD, kitB t n = some (isTy t n)) (hm : X.mg "isinstance" = none) (hmT : X.mg x = none) (hvT : bootBuiltins x = some (.type n)) (ha : EV X T W a fa) (hg : Gl X "isinstance" := by rfl) (hgT : Gl X x := by rfl) (hn : x ≠ "__name__" := by decide) (hdb : (x == ("__debug__" : Str)) = false := by decide)
    (hv : bootBuiltins "isinstance" = some (.builtin "isinstance") := by decide +kernel)
    (he : starEach (a :: [.Name x p2]) X.env = (false, eval a X.env) :: starEach [.Name x p2] X.env := by rfl) (he2 : starEach (.Name x p2 :: []) X.env = (false, eval (.Name x p2) X.env) :: starEach [] X.env := by rfl) (hpl : (backTo pos (starEach [.Name x p2] X.env)).any (·.1) = false := by rfl) :
    EV X T W (.Call (.Name "isinstance" p) [a, .Name x p2] [] pos) (eUn (fIsInst n) fa) := by
  refine PE.imp (pe_callB call_isi hg hm hv (pa_cons ha (pa_cons (pe_bltn (v := .ty n) hgT hmT hvT rfl hn hdb) pa_nil he2) he) (by decide) (by decide) he hpl) ?_
  rintro σ H Q ⟨ρ, S, s, rs, re, h⟩
  refine ⟨ρ, S, s, rs, re, (Post.bind (R := RD X.K) h).imp ?_⟩
  rintro v H1 ⟨ρ1, S1, d, l1, rs1, rd1, h1⟩
  unfold fIsInst at h1
  cases e : tyD S1 d with
  | none => rw [e] at h1; exact (show False from h1).elim
  | some t =>
    rw [e] at h1
    exact ⟨v, .ty n, .type t, .type n, isTy t n, rfl, .ty n, ty_of rs1 rd1 e, kit_ty (hk t (tyD_in e)), h1 ρ1 H1 _ (Le.refl _ _) rs1 rd_bl⟩

/-! ### dicts -/
theorem dget_of {ρ : List Addr} {S : Store} {H : Hp} {l : Nat} {v w : V} {y : D} {o : Option D} (rs : RS X.K T ρ S H) (rx : RD X.K ρ H (.ref l) v) (ry : RD X.K ρ H y w) (h : Wk.getD S l y = some o) : ∃ a ov, v = .ref a ∧ DGet H a w ov ∧ ((o = none ∧ ov = none) ∨ ∃ d u, o = some d ∧ ov = some u ∧ RD X.K ρ H d u) := by
  unfold Wk.getD at h
  split at h
  · rename_i kvs e
    split at h
    · rename_i k ek
      cases h
      obtain ⟨p, kws, rfl, hp, hv, ra, za⟩ := rs.dkAt rx e
      have eb := keyD_eq ek
      subst eb
      have ew := kD_rd ry
      subst ew
      refine ⟨p, _, rfl, DGet.k hv, ?_⟩
      exact valD_ks ra k
    · cases h
  · rename_i kvs e
    split at h
    · rename_i k ek
      cases h
      obtain ⟨p, kws, rfl, hp, hv, ra, za⟩ := rs.dtAt rx e
      obtain ⟨b, rfl, hb⟩ := keyT_v ek ry
      exact ⟨p, _, rfl, DGet.t hv hb, valD_ks ra k⟩
    · cases h
  · cases h
theorem NoSl.of (h : ∀ ov iv, subscripted b false ov iv = operate [ov, iv] (getItem ov iv)) : NoSl b := h
theorem ev_ixD {k : Nat} (hr : Room k X.A) (ha : EV X T W a fa) (hb : EV X T W b fb) (hs : NoSl b := by exact fun _ _ => rfl) : EV X T W (.Subscript a b pos) (eOp oIxD fa fb) := by
  refine PE.imp (pe_dget (hu_of hr) ha hb hs) ?_
  rintro σ H Q ⟨ρ, S, s, rs, re, h⟩
  refine ⟨ρ, S, s, rs, re, (Post.bind (R := RD X.K) h).imp ?_⟩
  rintro v H1 ⟨ρ1, S1, x, l1, rs1, rd1, h1⟩
  refine ⟨ρ1, S1, s, rs1, re.le rs l1, (Post.bind (R := RD X.K) h1).imp ?_⟩
  rintro w H2 ⟨ρ2, S2, y, l2, rs2, rd2, h2⟩
  have rd1' := rd1.le rs1 l2
  cases x with
  | ref l =>
    unfold oIxD at h2
    dsimp only at h2
    split at h2
    · rename_i d e
      obtain ⟨p, ov, rfl, g, z | ⟨d', u, e1, rfl, ru⟩⟩ := dget_of rs2 rd1' rd2 e
      · cases z.1
      · cases e1
        exact ⟨p, u, rfl, g, h2 ρ2 H2 _ (Le.refl _ _) rs2 ru⟩
    · exact (show False from h2).elim
  | _ => exact (show False from h2).elim
theorem tef_inD {neg : Bool} : ∀ σ H Q, TEf X T W (eOp (if neg then oNinD else oInD) fa fb) σ H Q → (TEf X T W fa) σ H fun y H1 => (TEf X T W fb) σ H1 fun x H2 => ∃ a o, x = .ref a ∧ DGet H2 a y o ∧ Q (.bl (if neg then !o.isSome else o.isSome)) H2 := by
  rintro σ H Q ⟨ρ, S, s, rs, re, h⟩
  refine ⟨ρ, S, s, rs, re, (Post.bind (R := RD X.K) h).imp ?_⟩
  rintro v H1 ⟨ρ1, S1, x, l1, rs1, rd1, h1⟩
  refine ⟨ρ1, S1, s, rs1, re.le rs l1, (Post.bind (R := RD X.K) h1).imp ?_⟩
  rintro w H2 ⟨ρ2, S2, y, l2, rs2, rd2, h2⟩
  have rd1' := rd1.le rs1 l2
  have e0 : (if neg then oNinD else oInD) x y S2 = if neg then notR (oInD x y S2) else oInD x y S2 := by cases neg <;> rfl
  rw [e0] at h2
  cases y with
  | ref l =>
    unfold oInD at h2
    dsimp only at h2
    cases e : Wk.getD S2 l x with
    | none => rw [e] at h2; cases neg <;> exact (show False from h2).elim
    | some o =>
      rw [e] at h2
      obtain ⟨p, ov, rfl, g, z⟩ := dget_of rs2 rd2 rd1' e
      have es : ov.isSome = o.isSome := by
        rcases z with ⟨rfl, rfl⟩ | ⟨d, u, rfl, rfl, _⟩ <;> rfl
      refine ⟨p, ov, rfl, g, ?_⟩
      rw [es]
      cases neg with
      | true => exact h2 ρ2 H2 _ (Le.refl _ _) rs2 rd_bl
      | false => exact h2 ρ2 H2 _ (Le.refl _ _) rs2 rd_bl
  | _ => cases neg <;> exact (show False from h2).elim
theorem ev_inD {k : Nat} (hr : Room k X.A) (ha : EV X T W a fa) (hb : EV X T W b fb) (hm : behindInMarks .In b = false := by rfl) : EV X T W (.Compare a [.In] [b] pos) (eOp oInD fa fb) :=
  PE.imp (pe_cmp (pc_din (hu_of hr) ha hb) hm) (tef_inD (neg := false))
theorem ev_ninD {k : Nat} (hr : Room k X.A) (ha : EV X T W a fa) (hb : EV X T W b fb) (hm : behindInMarks .NotIn b = false := by rfl) : EV X T W (.Compare a [.NotIn] [b] pos) (eOp oNinD fa fb) :=
  PE.imp (pe_cmp (pc_dnotin (hu_of hr) ha hb) hm) (tef_inD (neg := true))
theorem et_inD {k : Nat} (hr : Room k X.A) (ha : EV X T W a fa) (hb : EV X T W b fb) (hm : behindInMarks .In b = false := by rfl) : ET X T W (.Compare a [.In] [b] pos) (tE (eOp oInD fa fb)) := by
  refine PT.imp (pt_cmp (pc_din (hu_of hr) ha hb) hm) ?_
  intro σ H Q h
  obtain ⟨ρ, S, s, rs, re, h⟩ := ttf_e _ _ _ h
  exact tef_inD (neg := false) _ _ _ ⟨ρ, S, s, rs, re, h⟩
theorem et_ninD {k : Nat} (hr : Room k X.A) (ha : EV X T W a fa) (hb : EV X T W b fb) (hm : behindInMarks .NotIn b = false := by rfl) : ET X T W (.Compare a [.NotIn] [b] pos) (tE (eOp oNinD fa fb)) := by
  refine PT.imp (pt_cmp (pc_dnotin (hu_of hr) ha hb) hm) ?_
  intro σ H Q h
  obtain ⟨ρ, S, s, rs, re, h⟩ := ttf_e _ _ _ h
  exact tef_inD (neg := true) _ _ _ ⟨ρ, S, s, rs, re, h⟩
theorem es_subD {k : Nat} {pos' : Pos} (hr : Room k X.A) (hv : EV X T W c fc) (ho : EV X T W a fa) (hi : EV X T W b fb) (hs : swapsWith c (some (.Subscript a b pos')) pos.line X.env = pure false := by rfl) : ES X T W (.Assign [.Subscript a b pos'] c pos) (sSub uSetD fa fb fc) := by
  refine PS.imp (ps_dput (hu_of hr) ho hi hv hs) ?_
  rintro D σ H ⟨ρ, S, s, rs, re, h⟩
  refine ⟨ρ, S, s, rs, re, (PostS.ofE (R := RD X.K) rs re h).imp ?_⟩
  rintro v H1 ⟨ρ1, S1, d, l1, rs1, re1, rd1, h1⟩
  refine ⟨ρ1, S1, s, rs1, re1, (PostS.ofE (R := RD X.K) rs1 re1 h1).imp ?_⟩
  rintro w H2 ⟨ρ2, S2, d2, l2, rs2, re2, rd2, h2⟩
  refine ⟨ρ2, S2, s, rs2, re2, (PostS.ofE (R := RD X.K) rs2 re2 h2).imp ?_⟩
  rintro u H3 ⟨ρ3, S3, d3, l3, rs3, re3, rd3, h3⟩
  have rd1' := (rd1.le rs1 l2).le rs2 l3
  have rd2' := rd2.le rs2 l3
  cases d2 with
  | ref l =>
    unfold uSetD at h3
    dsimp only at h3
    cases e0 : S3[l]? with
    | none => rw [e0] at h3; exact (show False from h3).elim
    | some ob =>
      rw [e0] at h3
      cases ob with
      | dk kvs =>
        obtain ⟨p, kws, rfl, hp, hv', ra, za⟩ := rs3.dkAt rd2' e0
        dsimp only at h3
        cases ek : keyD d3 with
        | none => rw [ek] at h3; exact (show False from h3).elim
        | some kk =>
          rw [ek] at h3
          have eb := keyD_eq ek
          subst eb
          have ew := kD_rd rd3
          subst ew
          dsimp only at h3
          by_cases c : kvs.length < LIM
          · rw [if_pos c] at h3
            rw [lim_eq, Paired.length ra] at c
            obtain ⟨q1, q2⟩ := dk_write rs3 hp e0 (putD_ks ra rd1' (k := kk)) (by have := length_putK kws kk v; omega)
            exact ⟨p, _, rfl, DPut.k hv' c, h3 ρ3 _ σ q1 q2 (re3.le rs3 q1)⟩
          · rw [if_neg c] at h3; exact (show False from h3).elim
      | dt kvs =>
        obtain ⟨p, kws, rfl, hp, hv', ra, za⟩ := rs3.dtAt rd2' e0
        dsimp only at h3
        cases ek : keyT d3 with
        | none => rw [ek] at h3; exact (show False from h3).elim
        | some kk =>
          rw [ek] at h3
          obtain ⟨b, rfl, hb⟩ := keyT_v ek rd3
          dsimp only at h3
          by_cases c : kvs.length < LIM
          · rw [if_pos c] at h3
            rw [lim_eq, Paired.length ra] at c
            obtain ⟨q1, q2⟩ := dt_write rs3 hp e0 (putD_ks ra rd1' (k := kk)) (by have := length_putK kws kk v; omega)
            exact ⟨p, _, rfl, DPut.t hv' hb c, h3 ρ3 _ σ q1 q2 (re3.le rs3 q1)⟩
          · rw [if_neg c] at h3; exact (show False from h3).elim
      | _ => exact (show False from h3).elim
  | _ => exact (show False from h3).elim
end
end Wk


set_option Elab.async false
set_option linter.all false
set_option maxRecDepth 100000
set_option maxHeartbeats 4000000
set_option autoImplicit false
/-! WkLib2: the functional reading of list methods, dict comprehensions, ranges as lists, turned lists. -/
namespace L2
open PySem PySem.Spec PyProof.Rows
section
variable {X : Cx}
/-- name = {..} on one line, the name a local -/
theorem ps_setDc {i : Nat} {y : Str} {py : Pos} {kx vx tg iter : Expr} {ifs : List Expr} {scope : Scope} {own : List (Str × Nat)} {pos spos : Pos} {wi : TI} {g : TG} {tt : TT} {tk tv : TE} (hc : X.calm = true) (hN : X.N.Nodup) (hy : X.N[i]? = some y) (hyl : X.env.scope.names.lookup y = some .local)
    (hsw : swapsWith (.DictComp kx vx [⟨tg, iter, ifs, 0⟩] scope pos) (some (.Name y py)) spos.line X.env = pure true) (hi : PI X tg iter wi) (ok : BlkOk X.N X.env.scope scope own)
    (hg : ∀ (s : Shared) (H : Hp) (C : Addr) (cl : List (Str × Addr)) (fp : List Addr), PG (X.blk s H scope (compEnvC scope cl C X.env) fp) tg g) (ht : ∀ (s : Shared) (H : Hp) (C : Addr) (cl : List (Str × Addr)) (fp : List Addr), PTs (X.blk s H scope (compEnvC scope cl C X.env) fp) ifs tt)
    (hk : ∀ (s : Shared) (H : Hp) (C : Addr) (cl : List (Str × Addr)) (fp : List Addr), PE (X.blk s H scope (compEnvC scope cl C X.env) fp) kx tk)
    (he : ∀ (s : Shared) (H : Hp) (C : Addr) (cl : List (Str × Addr)) (fp : List Addr), PE (X.blk s H scope (compEnvC scope cl C X.env) fp) vx tv) (hs : ∀ x, foldedSetIterable iter X.env x = pure x := by intro _; rfl) :
    PS X (.Assign [.Name y py] (.DictComp kx vx [⟨tg, iter, ifs, 0⟩] scope pos) spos) (tAsg (tDc wi g tt tk tv (own.map (·.2))) (gName i)) := by
  refine ⟨fun pins s σ H D I h => ?_⟩
  rw [exec_Assign_Name_used _ _ _ _ hsw]
  refine wpAny_bind (wpAny_standAt (wpAny_bind ?_))
  show wpAny _ X.A (do let _ ← comprehension (.DictComp kx vx [⟨tg, iter, ifs, 0⟩] scope pos) scope X.env (firstIterPos [⟨tg, iter, ifs, 0⟩] pos) newDict false (eval iter X.env) (some (assign (.Name y py) X.env))) _ _ s
  have h : tDc wi g tt tk tv (own.map (·.2)) σ H (fun x H1 => gName i x σ H1 D.nx) := h
  refine wpAny_bind (thn (dc_core (Qf := fun _ s' => SP X pins D .next s') hc hN I hi ok hg ht hk he hs h fun L C s' m H' I' q hn f => ?_) fun _ s' hq => wpAny_pure (wpAny_pure hq))
  show wpAny _ _ (assign (.Name y py) X.env (.ref L)) _ _ _
  refine wpAny_assign_Name (store_ok2 (v := V.ref L) I' hN hy (.inl hyl) rfl (fun s2 I2 ⟨a, sb, ha⟩ => ?_) (.inr hyl))
  obtain ⟨f0, f1, f2, f3, f4, f5⟩ := f
  have haC : C ≠ a := by
    rcases ha with z | z
    · rw [z]; exact f1
    · exact fun e => f4 y a z e.symm
  refine ⟨m, hn.sameBut sb haC, fun h3 sb3 => ?_⟩
  exact ⟨_, H', I2.turned (t' := s2.toks) (fun b o hb e => (sb3.2 b hb).trans e) f0 f1 f3 f4 f5, q⟩
theorem sw_trueD {kx vx : Expr} {gs : List Comprehension} {scope : Scope} {pos py : Pos} {y : Str} {l : Nat} {env : PySem.Env} (hk : env.scope.kind = .function) (hy : env.scope.names.lookup y = some .local) (hl : (py.line == pos.line) = true)
    (ha : (scope.names.any fun (n, k) => n == y && (k == .local || k == .cell)) = false) : swapsWith (.DictComp kx vx gs scope pos) (some (.Name y py)) l env = pure true := by
  have ky : env.kindOf y = some .local := hy
  have hb : env.blockKind = .function := by unfold Env.blockKind; rw [hk]; rfl
  unfold swapsWith
  simp only [hb, ky, ha, Expr.pos, hl]
  rfl
end
end L2
namespace Wk
open PySem PySem.Spec PyProof.Rows L2
section
variable {X : Cx} {T : Tbs} {W : WX} {pos : Pos} {a b c : Expr} {fa fb fc : FE} {vs : List Nat}
/-! ### list methods -/
theorem isLst_v {ρ : List Addr} {S : Store} {H : Hp} {x : D} {v : V} (rs : RS X.K T ρ S H) (rx : RD X.K ρ H x v) (h : isLst x S = true) : tyV X.K "list" v H := by
  cases x with
  | frz ds =>
    obtain ⟨a, vs, rfl, ta, ra⟩ := rx.frz
    exact .inl ⟨rfl, vs, ta.sq⟩
  | ref l =>
    unfold isLst at h
    dsimp only at h
    split at h
    · rename_i ds e
      obtain ⟨p, vs, rfl, hp, hv, _⟩ := rs.lstAt rx e
      exact .inl ⟨rfl, vs, SqL.of hv⟩
    · cases h
  | _ => cases h
variable (X T) in
def M1S (r : V → List V → Hp → VK → Prop) (o : Op) : Prop := ∀ (E : XK) (ρ : List Addr) (S : Store) (H : Hp) (x y : D) (v w : V) (Q : VK), RS X.K T ρ S H → RD X.K ρ H x v → RD X.K ρ H y w → Post X.K X.mg T E ρ H (RD X.K) Q (o x y S) → r v [w] H Q
theorem ev_m1 {name : Str} {id : String} {apos : Pos} {r : V → List V → Hp → VK → Prop} {o : Op} (slot : Slot "list" name id) (hty : typeOf (.builtin id) = pure (.type "method_descriptor")) (hs : MtR X id r ∧ M1S X T r o) (ho : EV X T W a fa) (ha : EV X T W b fb)
    (hbase : attributeBase a name X.env (eval a X.env) = eval a X.env := by rfl)
    (hfew : ((backTo pos (starEach (b :: []) X.env)).all (fun x => !x.1) && (backToKw pos (keywordEach [] X.env)).all (fun x => x.1.isSome)
      && decide ((b :: []).length + ([] : List Keyword).length + (if ([] : List Keyword).isEmpty then 0 else 1) < 30)) = true := by rfl)
    (hline : (apos.endLine == pos.line) = true := by rfl) (hst : starEach (b :: []) X.env = (false, eval b X.env) :: starEach [] X.env := by rfl) (hplain : (backTo pos (starEach [] X.env)).any (·.1) = false := by rfl) :
    EV X T W (.Call (.Attribute a name apos) [b] [] pos) (eBM o fa fb) := by
  refine PE.imp (pe_bm PySem.F.plainAttrs_list slot hty hs.1 ho (pa_cons ha pa_nil hst) hbase hfew hline hst hplain) ?_
  rintro σ H Q ⟨ρ, S, s, rs, re, h⟩
  refine ⟨ρ, S, s, rs, re, (Post.bind (R := RD X.K) h).imp ?_⟩
  rintro v H1 ⟨ρ1, S1, x, l1, rs1, rd1, h1⟩
  by_cases c : isLst x S1 = true
  · rw [if_pos c] at h1
    refine ⟨isLst_v rs1 rd1 c, ρ1, S1, s, rs1, re.le rs l1, (Post.bind (R := RD X.K) h1).imp ?_⟩
    rintro w H2 ⟨ρ2, S2, y, l2, rs2, rd2, h2⟩
    exact hs.2 _ ρ2 S2 H2 x y v w Q rs2 (rd1.le rs1 l2) rd2 h2
  · rw [if_neg c] at h1; exact (show False from h1).elim
theorem os_append : MtR X "list.append" rAppend ∧ M1S X T rAppend oAppend := by
  refine ⟨mt_append, ?_⟩
  intro E ρ S H x y v w Q rs rx ry h
  cases x with
  | ref l =>
    unfold oAppend at h
    dsimp only at h
    split at h
    · rename_i ds e
      obtain ⟨p, vs, rfl, hp, hv, ra, za⟩ := rs.lstAt rx e
      by_cases c : ds.length < LIM
      · rw [if_pos c] at h
        rw [lim_eq, ra.len] at c
        obtain ⟨q1, q2⟩ := lst_write rs hp e (RDs.of (Paired.app ra.pair (.cons ry .nil))) (by rw [List.length_append, List.length_singleton]; exact c)
        exact ⟨p, vs, w, rfl, rfl, hv, c, h _ _ _ q1 q2 rd_non⟩
      · rw [if_neg c] at h; exact (show False from h).elim
    · exact (show False from h).elim
  | _ => exact (show False from h).elim
theorem os_extend : MtR X "list.extend" rExtend ∧ M1S X T rExtend oExtend := by
  refine ⟨mt_extend, ?_⟩
  intro E ρ S H x y v w Q rs rx ry h
  cases x with
  | ref l =>
    cases y with
    | ref m =>
      unfold oExtend at h
      dsimp only at h
      split at h
      · rename_i ds es e e2
        obtain ⟨p, vs, rfl, hp, hv, ra, za⟩ := rs.lstAt rx e
        obtain ⟨q, ws, rfl, hq, hw, rb, zb⟩ := rs.lstAt ry e2
        by_cases c : ds.length + es.length ≤ LIM
        · rw [if_pos c] at h
          rw [lim_eq, ra.len, rb.len] at c
          obtain ⟨q1, q2⟩ := lst_write rs hp e (RDs.of (Paired.app ra.pair rb.pair)) (by rw [List.length_append]; exact c)
          exact ⟨p, q, vs, ws, rfl, rfl, hv, hw, c, h _ _ _ q1 q2 rd_non⟩
        · rw [if_neg c] at h; exact (show False from h).elim
      · exact (show False from h).elim
    | _ => exact (show False from h).elim
  | _ => cases y <;> exact (show False from h).elim
theorem ixN_lt {n : Nat} {i : Int} {j : Nat} (h : Wk.ixN n i = some j) : seqIndex? i n = some j ∧ j < n ∧ -(n : Int) ≤ i ∧ i < n := ixN_seq h
theorem os_popAt : MtR X "list.pop" rPopAt ∧ M1S X T rPopAt oPopAt := by
  refine ⟨mt_popAt, ?_⟩
  intro E ρ S H x y v w Q rs rx ry h
  cases x with
  | ref l =>
    cases y with
    | int i =>
      unfold oPopAt at h
      dsimp only at h
      split at h
      · rename_i ds e
        obtain ⟨p, vs, rfl, hp, hv, ra, za⟩ := rs.lstAt rx e
        split at h
        · rename_i j ej
          split at h
          · rename_i d ed
            obtain ⟨u, hu, ru⟩ := Paired.get1 ra.pair ed
            obtain ⟨q1, q2⟩ := lst_write rs hp e (RDs.of (Paired.erase1 j ra.pair)) (Nat.le_trans (len_erase vs j) za)
            obtain ⟨s1, s2, s3, s4⟩ := ixN_lt ej
            rw [ra.len] at s1 s2 s3 s4
            have hsz : sizeLine = 16777216 := sizeLine_eq
            exact ⟨p, vs, i, j, u, rfl, by rw [ry.int], hv, by omega, by omega, s1, hu, h _ _ _ q1 q2 (ru.le rs q1)⟩
          · exact (show False from h).elim
        · exact (show False from h).elim
      · exact (show False from h).elim
    | _ => exact (show False from h).elim
  | _ => cases y <;> exact (show False from h).elim
/-- xs.pop() -/
theorem ev_pop {apos : Pos} (ho : EV X T W a fa) (hbase : attributeBase a "pop" X.env (eval a X.env) = eval a X.env := by rfl) (hline : (apos.endLine == pos.line) = true := by rfl) : EV X T W (.Call (.Attribute a "pop" apos) [] [] pos) (eUn uPop fa) := by
  refine PE.imp (pe_bm0 PySem.F.plainAttrs_list PySem.F.slot_list_pop PySem.F.type_list_pop mt_pop ho hbase hline) ?_
  rintro σ H Q ⟨ρ, S, s, rs, re, h⟩
  refine ⟨ρ, S, s, rs, re, (Post.bind (R := RD X.K) h).imp ?_⟩
  rintro v H1 ⟨ρ1, S1, x, l1, rs1, rd1, h1⟩
  cases x with
  | ref l =>
    unfold uPop at h1
    dsimp only at h1
    split at h1
    · rename_i ds e
      obtain ⟨p, vs, rfl, hp, hv, ra, za⟩ := rs1.lstAt rd1 e
      split at h1
      · rename_i d ed
        obtain ⟨u, hu, ru⟩ := Paired.get1 ra.pair ed
        obtain ⟨q1, q2⟩ := lst_write rs1 hp e (RDs.of (Paired.dropL ra.pair)) (by rw [List.length_dropLast]; omega)
        exact ⟨.inl ⟨rfl, vs, SqL.of hv⟩, p, vs, u, rfl, rfl, hv, by rw [← ra.len]; exact hu, h1 _ _ _ q1 q2 (ru.le rs1 q1)⟩
      · exact (show False from h1).elim
    · exact (show False from h1).elim
  | _ => exact (show False from h1).elim
/-- d.get(k, x) -/
theorem ev_get2 {k : Nat} {apos : Pos} (hr : Room k X.A) (ho : EV X T W a fa) (hb : EV X T W b fb) (hc : EV X T W c fc) (m : M2 X a "get" apos b c pos := by exact ⟨rfl, rfl, rfl, rfl⟩) : EV X T W (.Call (.Attribute a "get" apos) [b, c] [] pos) (eGet2 fa fb fc) := by
  refine PE.imp (pe_dget2 (hu_of hr) ho hb hc m) ?_
  rintro σ H Q ⟨ρ, S, s, rs, re, h⟩
  refine ⟨ρ, S, s, rs, re, (Post.bind (R := RD X.K) h).imp ?_⟩
  rintro v H1 ⟨ρ1, S1, x, l1, rs1, rd1, h1⟩
  by_cases ck : isDk x S1 = true
  · rw [if_pos ck] at h1
    cases x with
    | ref l =>
      unfold isDk at ck
      dsimp only at ck
      split at ck
      · rename_i kvs e
        obtain ⟨p, kws, rfl, hp, hv, ra, za⟩ := rs1.dkAt rd1 e
        refine ⟨p, rfl, .inl ⟨kws, .inl hv⟩, ρ1, S1, s, rs1, re.le rs l1, (Post.bind (R := RD X.K) h1).imp ?_⟩
        rintro w H2 ⟨ρ2, S2, y, l2, rs2, rd2, h2⟩
        refine ⟨ρ2, S2, s, rs2, (re.le rs l1).le rs1 l2, (Post.bind (R := RD X.K) h2).imp ?_⟩
        rintro u H3 ⟨ρ3, S3, z, l3, rs3, rd3, h3⟩
        dsimp only at h3
        cases eg : Wk.getD S3 l y with
        | none => rw [eg] at h3; exact (show False from h3).elim
        | some o =>
          rw [eg] at h3
          obtain ⟨p', ov, ep, g, q⟩ := dget_of rs3 ((rd1.le rs1 l2).le rs2 l3) (rd2.le rs2 l3) eg
          cases ep
          refine ⟨ov, g, h3 ρ3 H3 _ (Le.refl _ _) rs3 ?_⟩
          rcases q with ⟨rfl, rfl⟩ | ⟨d, u', rfl, rfl, ru⟩
          · exact rd3
          · exact ru
      · cases ck
    | _ => cases ck
  · rw [if_neg ck] at h1; exact (show False from h1).elim
/-- list(range(n)) -/
theorem ev_listRg {p p2 pos2 : Pos} (hc : X.calm = true) (hm : X.mg "list" = none) (hm2 : X.mg "range" = none) (ha : EV X T W a fa) (hg : Gl X "list" := by rfl) (hg2 : Gl X "range" := by rfl)
    (na : starEach [a] X.env = (false, eval a X.env) :: starEach [] X.env := by rfl) (nb : starEach [.Call (.Name "range" p2) [a] [] pos2] X.env = (false, eval (.Call (.Name "range" p2) [a] [] pos2) X.env) :: starEach [] X.env := by rfl) :
    EV X T W (.Call (.Name "list" p) [.Call (.Name "range" p2) [a] [] pos2] [] pos) (eUn fListRg fa) := by
  refine PE.imp (pe_listRg hc hg hm (prg_1 hg2 hm2 ha na) nb) ?_
  rintro σ H Q ⟨ρ, S, s, rs, re, h⟩
  refine ⟨ρ, S, s, rs, re, (Post.bind (R := RD X.K) h).imp ?_⟩
  rintro v H1 ⟨ρ1, S1, x, l1, rs1, rd1, h1⟩
  cases x with
  | int i =>
    unfold fListRg at h1
    dsimp only at h1
    by_cases c : -(2 ^ 62) ≤ i ∧ i ≤ 16777216
    · rw [if_pos c] at h1
      refine ⟨i, rd1.int, ⟨by omega, by omega, by omega, by omega, by omega⟩, fun q hq => ?_⟩
      have hz : (rgV 0 i).length ≤ sizeLine := by rw [rgV_length, sizeLine_eq]; omega
      have hv : RDs X.K ρ1 H1 (rngD 0 i) (rgV 0 i) := by
        refine RDs.of (Paired.ofGet (by rw [rngD_len, rgV_length]) fun j x y e1 e2 => ?_)
        obtain ⟨h1, rfl⟩ := rngD_get e1
        unfold rgV at e2
        rw [List.getElem?_map] at e2
        cases e3 : (List.range (i - 0).toNat)[j]? with
        | none => rw [e3] at e2; cases e2
        | some k =>
          rw [e3] at e2
          obtain ⟨h4, h5⟩ := List.getElem?_eq_some_iff.mp e3
          rw [List.getElem_range] at h5
          cases e2
          rw [← h5]; exact rd_int
      obtain ⟨q1, q2, q3⟩ := lst_new rs1 hq hv hz
      exact h1 _ _ _ q1 q2 q3
    · rw [if_neg c] at h1; exact (show False from h1).elim
  | _ => exact (show False from h1).elim
/-- xs[::-1] of a list -/
theorem ev_revL {k : Nat} {p1 p2 p3 : Pos} (ha : EV X T W a fa) : EV X T W (.Subscript a (.Slice none none (some (.UnaryOp .USub (.Constant (.int 1) k p1) p2)) p3) pos) (eUn fRevL fa) := by
  refine PE.imp (pe_revL ha) ?_
  rintro σ H Q ⟨ρ, S, s, rs, re, h⟩
  refine ⟨ρ, S, s, rs, re, (Post.bind (R := RD X.K) h).imp ?_⟩
  rintro v H1 ⟨ρ1, S1, x, l1, rs1, rd1, h1⟩
  cases x with
  | ref l =>
    unfold fRevL at h1
    dsimp only at h1
    split at h1
    · rename_i ds e
      obtain ⟨p, vs, rfl, hp, hv, ra, za⟩ := rs1.lstAt rd1 e
      refine ⟨p, vs, rfl, SqL.of hv, fun q hq => ?_⟩
      obtain ⟨q1, q2, q3⟩ := lst_new rs1 hq (RDs.of (Paired.rev ra.pair)) (by rw [List.length_reverse]; exact za)
      exact h1 _ _ _ q1 q2 q3
    · exact (show False from h1).elim
  | _ => exact (show False from h1).elim

/-! ### dict comprehensions -/
theorem mergeD_snoc {κ : Type} [DecidableEq κ] (kvs : List (κ × D)) (k : κ) (d : D) (acc : List (κ × D)) : mergeD acc (kvs ++ [(k, d)]) = putD (mergeD acc kvs) k d := by
  unfold mergeD
  rw [List.foldl_append]
  rfl
theorem tef_dcomp {fi : FI} {g : Tg} {t : FT} {fk e : FE} : ∀ σ H Q, TEf X T W (eDComp fi g t fk e vs) σ H Q → tDc (TIf X T W fi) (TGf X T vs g) (TTf X T W0 t) (TEf X T W0 fk) (TEf X T W0 e) vs σ H Q := by
  rintro σ H Q ⟨ρ, S, s, rs, re, h⟩
  refine ⟨ρ, S, s, rs, re, (Post.bind (R := ItOk X.K T) h).imp ?_⟩
  rintro J H1 ⟨ρ1, S1, I, l1, rs1, it, h1⟩
  intro D hD
  have re1 := re.le rs l1
  have sz := it.1
  refine ⟨fun i m H' => m = I.items.length - i ∧ i ≤ I.items.length ∧ ∃ ρ' S' acc accV, Le ρ1 H1 ρ' H' ∧ RS X.K T ρ' S' H' ∧ H' D = some (.dK accV) ∧ D ∉ ρ' ∧ RKs X.K ρ' H' (mergeD [] acc) accV ∧ accV.length ≤ i ∧
      Post X.K X.mg T (WE W σ) ρ1 H1 (RD X.K) Q ((noEx (compD I.chk g t fk e (wipeE s vs) (I.items.drop i) S')).bind fun ys S2 => .ok (.ref S2.length) (S2 ++ [.dk (mergeD [] (acc ++ ys))])), ?_, ?_⟩
  · exact ⟨_, rfl, Nat.zero_le _, ρ1, S1, [], [], Le.fresh rs1 hD, rs1.freshP hD, upd_same, rs1.fresh hD, .nil, Nat.zero_le _, by simpa using h1⟩
  · rintro i m H' ⟨rfl, hi, ρ', S', acc, accV, le', rs', hD', nD, ra, hl, hp⟩
    by_cases hlt : i < I.items.length
    · refine .inr ?_
      have hd : I.items[i]? = some I.items[i] := List.getElem?_eq_getElem hlt
      rw [List.drop_eq_getElem_cons hlt] at hp
      generalize hdd : I.items[i] = d at hp hd
      have ok : okC I.chk S' = true := by
        by_cases q : okC I.chk S' = true
        · exact q
        · unfold compD at hp; rw [if_neg q] at hp; exact (show False from hp).elim
      unfold compD at hp
      rw [if_pos ok] at hp
      obtain ⟨hgo, hyld⟩ := (it.2 ρ' S' H' le' rs' ok).1 i d hd
      refine ⟨hgo, fun H5 => I.items.length - (i + 1) = I.items.length - (i + 1) ∧ i + 1 ≤ I.items.length ∧ ∃ ρ' S' acc accV, Le ρ1 H1 ρ' H5 ∧ RS X.K T ρ' S' H5 ∧ H5 D = some (.dK accV) ∧ D ∉ ρ' ∧ RKs X.K ρ' H5 (mergeD [] acc) accV ∧ accV.length ≤ i + 1 ∧
        Post X.K X.mg T (WE W σ) ρ1 H1 (RD X.K) Q ((noEx (compD I.chk g t fk e (wipeE s vs) (I.items.drop (i + 1)) S')).bind fun ys S2 => .ok (.ref S2.length) (S2 ++ [.dk (mergeD [] (acc ++ ys))])),
        fun H5 q => ⟨_, by omega, q⟩, fun x H2 y => ?_⟩
      obtain ⟨le2, rs2, rd2⟩ := hyld x H2 y
      have hD2 : H2 D = some (.dK accV) := le2.keep D _ hD' nD (fun ps z => nomatch z)
      have re2 : RE X.K ρ' H2 (wipeE s vs) (L2.wipe σ vs) := (re1.le rs1 (le'.trans le2)).wipe vs
      refine ⟨ρ', S', wipeE s vs, d, rs2, re2, rd2, ?_⟩
      cases eg : gF g d (wipeE s vs) with
      | none => rw [eg] at hp; exact (show False from hp).elim
      | some s1 =>
        rw [eg] at hp
        dsimp only at hp ⊢
        intro σ' re' ew
        refine ⟨ew.trans (wipe_wipe fun _ z => z), ρ', S', s1, rs2, re', ?_⟩
        cases et : t s1 S' with
        | bad => rw [et] at hp; exact hp
        | ex c w S2 => rw [et] at hp; exact (show False from hp).elim
        | ok b S2 =>
          rw [et, Res.bind_ok] at hp
          rintro ρ3 H3 b' le3 rs3 hb
          obtain rfl : b = b' := hb
          have nD3 := le3.nin hD2 nD
          have hD3 : H3 D = some (.dK accV) := le3.keep D _ hD2 nD (fun ps z => nomatch z)
          cases b with
          | false =>
            rw [if_neg (by decide)] at hp ⊢
            exact ⟨rfl, hlt, ρ3, S2, acc, accV, (le'.trans le2).trans le3, rs3, hD3, nD3, RKs.mono le3 rs2.nofz (RKs.mono le2 rs'.nofz ra), Nat.le_succ_of_le hl, hp⟩
          | true =>
            rw [if_pos rfl] at hp ⊢
            refine ⟨ρ3, S2, s1, rs3, re'.le rs2 le3, ?_⟩
            cases ek : fk s1 S2 with
            | bad => rw [ek] at hp; exact hp
            | ex c w S2 => rw [ek] at hp; exact (show False from hp).elim
            | ok k3 S3 =>
              rw [ek, Res.bind_ok] at hp
              rintro ρ4 H4 vk le4 rs4 rd4
              have nD4 := le4.nin hD3 nD3
              have hD4 : H4 D = some (.dK accV) := le4.keep D _ hD3 nD3 (fun ps z => nomatch z)
              refine ⟨ρ4, S3, s1, rs4, (re'.le rs2 le3).le rs3 le4, ?_⟩
              cases ee : e s1 S3 with
              | bad => rw [ee] at hp; exact hp
              | ex c w S2 => rw [ee] at hp; exact (show False from hp).elim
              | ok y3 S4 =>
                rw [ee, Res.bind_ok] at hp
                rintro ρ5 H5 v le5 rs5 rd5
                have nD5 := le5.nin hD4 nD4
                have hD5 : H5 D = some (.dK accV) := le5.keep D _ hD4 nD4 (fun ps z => nomatch z)
                cases eq : keyD k3 with
                | none => rw [eq] at hp; exact (show False from hp).elim
                | some kk =>
                  rw [eq] at hp
                  have eb := keyD_eq eq
                  subst eb
                  have evk := kD_rd rd4
                  subst evk
                  obtain ⟨lw6, rs6⟩ := rs5.side (o := .dK (putK accV kk v)) hD5 nD5 (fun _ z => nomatch z) (fun _ _ z => nomatch z) (fun _ z => nomatch z) (fun _ z => nomatch z)
                  have ra5 := RKs.mono le5 rs4.nofz (RKs.mono le4 rs3.nofz (RKs.mono le3 rs2.nofz (RKs.mono le2 rs'.nofz ra)))
                  refine ⟨accV, kk, rfl, hD5, by omega, rfl, hlt, ρ5, S4, acc ++ [(kk, y3)], putK accV kk v, ((((le'.trans le2).trans le3).trans le4).trans le5).side hD, rs6, upd_same, nD5, ?_, by have := length_putK accV kk v; omega, ?_⟩
                  · rw [mergeD_snoc]
                    exact putD_ks (RKs.lw lw6 ra5) (RD.lw lw6 _ _ rd5)
                  · dsimp only at hp
                    cases ec : compD I.chk g t fk e (wipeE s vs) (I.items.drop (i + 1)) S4 with
                    | bad => rw [ec] at hp; exact hp
                    | ex c w S2 => rw [ec] at hp; exact (show False from hp).elim
                    | ok ys S5 =>
                      rw [ec] at hp
                      simpa using hp
    · have e : i = I.items.length := by omega
      subst e
      rw [List.drop_length] at hp
      have ok : okC I.chk S' = true := by
        by_cases q : okC I.chk S' = true
        · exact q
        · unfold compD at hp; rw [if_neg q] at hp; exact (show False from hp).elim
      unfold compD at hp
      rw [if_pos ok] at hp
      refine .inl ⟨(it.2 ρ' S' H' le' rs' ok).2, ?_⟩
      have rsA := rs'.adopt (p := D) (ob := .dk (mergeD [] acc)) nD ⟨accV, hD', ra, by omega⟩
      refine hp (ρ' ++ [D]) H' (.ref D) (le'.adopt hD) (by simpa using rsA) (rd_ref rs'.lastAt)
theorem ev_dcomp {kx vx tg iter : Expr} {ifs : List Expr} {scope : Scope} {own : List (Str × Nat)} {fi : FI} {g : Tg} {t : FT} {fk e : FE} (hc : X.calm = true) (hN : X.N.Nodup) (hi : EI X T W tg iter fi) {us : List Nat} (ok : BlkOk X.N X.env.scope scope own) (hus : own.map (·.2) = us)
    (hg : ∀ (s : Shared) (H : Hp) (C : Addr) (cl : List (Str × Addr)) (fp : List Addr), EG (X.blk s H scope (compEnvC scope cl C X.env) fp) T (own.map (·.2)) tg g)
    (ht : ∀ (s : Shared) (H : Hp) (C : Addr) (cl : List (Str × Addr)) (fp : List Addr), ETs (X.blk s H scope (compEnvC scope cl C X.env) fp) T W0 ifs t)
    (hk : ∀ (s : Shared) (H : Hp) (C : Addr) (cl : List (Str × Addr)) (fp : List Addr), EV (X.blk s H scope (compEnvC scope cl C X.env) fp) T W0 kx fk)
    (he : ∀ (s : Shared) (H : Hp) (C : Addr) (cl : List (Str × Addr)) (fp : List Addr), EV (X.blk s H scope (compEnvC scope cl C X.env) fp) T W0 vx e) (hs : ∀ x, foldedSetIterable iter X.env x = pure x := by intro _; rfl) :
    EV X T W (.DictComp kx vx [⟨tg, iter, ifs, 0⟩] scope pos) (eDComp fi g t fk e us) := by
  subst hus
  exact PE.imp (pe_dc hc hN hi ok hg ht hk he hs) tef_dcomp
theorem es_dcomp {i : Nat} {y : Str} {py : Pos} {kx vx tg iter : Expr} {ifs : List Expr} {scope : Scope} {own : List (Str × Nat)} {cpos spos : Pos} {fi : FI} {g : Tg} {t : FT} {fk e : FE} (hc : X.calm = true) (hN : X.N.Nodup) (hy : X.N[i]? = some y) (hyl : X.env.scope.names.lookup y = some .local)
    (hsw : swapsWith (.DictComp kx vx [⟨tg, iter, ifs, 0⟩] scope cpos) (some (.Name y py)) spos.line X.env = pure true) (hi : EI X T W tg iter fi) {us : List Nat} (ok : BlkOk X.N X.env.scope scope own) (hus : own.map (·.2) = us)
    (hg : ∀ (s : Shared) (H : Hp) (C : Addr) (cl : List (Str × Addr)) (fp : List Addr), EG (X.blk s H scope (compEnvC scope cl C X.env) fp) T (own.map (·.2)) tg g)
    (ht : ∀ (s : Shared) (H : Hp) (C : Addr) (cl : List (Str × Addr)) (fp : List Addr), ETs (X.blk s H scope (compEnvC scope cl C X.env) fp) T W0 ifs t)
    (hk : ∀ (s : Shared) (H : Hp) (C : Addr) (cl : List (Str × Addr)) (fp : List Addr), EV (X.blk s H scope (compEnvC scope cl C X.env) fp) T W0 kx fk)
    (he : ∀ (s : Shared) (H : Hp) (C : Addr) (cl : List (Str × Addr)) (fp : List Addr), EV (X.blk s H scope (compEnvC scope cl C X.env) fp) T W0 vx e) (hs : ∀ x, foldedSetIterable iter X.env x = pure x := by intro _; rfl) :
    ES X T W (.Assign [.Name y py] (.DictComp kx vx [⟨tg, iter, ifs, 0⟩] scope cpos) spos) (sSet i (eDComp fi g t fk e us)) := by
  subst hus
  refine PS.imp (ps_setDc (wi := TIf X T W fi) (g := TGf X T (List.map (fun (p : Str × Nat) => p.2) own) g) (tt := TTf X T W0 t) (tk := TEf X T W0 fk) (tv := TEf X T W0 e) hc hN hy hyl hsw hi ok hg ht hk he hs) ?_
  rintro D σ H ⟨ρ, S, s, rs, re, h⟩
  refine tef_dcomp σ H _ ⟨ρ, S, s, rs, re, (PostS.ofE (R := RD X.K) rs re h).imp ?_⟩
  rintro v H1 ⟨ρ1, S1, d, l1, rs1, re1, rd1, h1⟩
  exact h1 ρ1 H1 _ (Le.refl _ _) rs1 (re1.set i rd1)
theorem tef_tcomp {fi : FI} {g : Tg} {t : FT} {fk e : FE} : ∀ σ H Q, TEf X T W (eTComp fi g t fk e vs) σ H Q → tTc (TIf X T W fi) (TGf X T vs g) (TTf X T W0 t) (TEf X T W0 fk) (TEf X T W0 e) vs σ H Q := by
  rintro σ H Q ⟨ρ, S, s, rs, re, h⟩
  refine ⟨ρ, S, s, rs, re, (Post.bind (R := ItOk X.K T) h).imp ?_⟩
  rintro J H1 ⟨ρ1, S1, I, l1, rs1, it, h1⟩
  intro D hD
  have re1 := re.le rs l1
  have sz := it.1
  refine ⟨fun i m H' => m = I.items.length - i ∧ i ≤ I.items.length ∧ ∃ ρ' S' acc accV, Le ρ1 H1 ρ' H' ∧ RS X.K T ρ' S' H' ∧ H' D = some (.dT accV) ∧ D ∉ ρ' ∧ RKs X.K ρ' H' (mergeD [] acc) accV ∧ accV.length ≤ i ∧
      Post X.K X.mg T (WE W σ) ρ1 H1 (RD X.K) Q ((noEx (compT I.chk g t fk e (wipeE s vs) (I.items.drop i) S')).bind fun ys S2 => .ok (.ref S2.length) (S2 ++ [.dt (mergeD [] (acc ++ ys))])), ?_, ?_⟩
  · exact ⟨_, rfl, Nat.zero_le _, ρ1, S1, [], [], Le.fresh rs1 hD, rs1.freshP hD, upd_same, rs1.fresh hD, .nil, Nat.zero_le _, by simpa using h1⟩
  · rintro i m H' ⟨rfl, hi, ρ', S', acc, accV, le', rs', hD', nD, ra, hl, hp⟩
    by_cases hlt : i < I.items.length
    · refine .inr ?_
      have hd : I.items[i]? = some I.items[i] := List.getElem?_eq_getElem hlt
      rw [List.drop_eq_getElem_cons hlt] at hp
      generalize hdd : I.items[i] = d at hp hd
      have ok : okC I.chk S' = true := by
        by_cases q : okC I.chk S' = true
        · exact q
        · unfold compT at hp; rw [if_neg q] at hp; exact (show False from hp).elim
      unfold compT at hp
      rw [if_pos ok] at hp
      obtain ⟨hgo, hyld⟩ := (it.2 ρ' S' H' le' rs' ok).1 i d hd
      refine ⟨hgo, fun H5 => I.items.length - (i + 1) = I.items.length - (i + 1) ∧ i + 1 ≤ I.items.length ∧ ∃ ρ' S' acc accV, Le ρ1 H1 ρ' H5 ∧ RS X.K T ρ' S' H5 ∧ H5 D = some (.dT accV) ∧ D ∉ ρ' ∧ RKs X.K ρ' H5 (mergeD [] acc) accV ∧ accV.length ≤ i + 1 ∧
        Post X.K X.mg T (WE W σ) ρ1 H1 (RD X.K) Q ((noEx (compT I.chk g t fk e (wipeE s vs) (I.items.drop (i + 1)) S')).bind fun ys S2 => .ok (.ref S2.length) (S2 ++ [.dt (mergeD [] (acc ++ ys))])),
        fun H5 q => ⟨_, by omega, q⟩, fun x H2 y => ?_⟩
      obtain ⟨le2, rs2, rd2⟩ := hyld x H2 y
      have hD2 : H2 D = some (.dT accV) := le2.keep D _ hD' nD (fun ps z => nomatch z)
      have re2 : RE X.K ρ' H2 (wipeE s vs) (L2.wipe σ vs) := (re1.le rs1 (le'.trans le2)).wipe vs
      refine ⟨ρ', S', wipeE s vs, d, rs2, re2, rd2, ?_⟩
      cases eg : gF g d (wipeE s vs) with
      | none => rw [eg] at hp; exact (show False from hp).elim
      | some s1 =>
        rw [eg] at hp
        dsimp only at hp ⊢
        intro σ' re' ew
        refine ⟨ew.trans (wipe_wipe fun _ z => z), ρ', S', s1, rs2, re', ?_⟩
        cases et : t s1 S' with
        | bad => rw [et] at hp; exact hp
        | ex c w S2 => rw [et] at hp; exact (show False from hp).elim
        | ok b S2 =>
          rw [et, Res.bind_ok] at hp
          rintro ρ3 H3 b' le3 rs3 hb
          obtain rfl : b = b' := hb
          have nD3 := le3.nin hD2 nD
          have hD3 : H3 D = some (.dT accV) := le3.keep D _ hD2 nD (fun ps z => nomatch z)
          cases b with
          | false =>
            rw [if_neg (by decide)] at hp ⊢
            exact ⟨rfl, hlt, ρ3, S2, acc, accV, (le'.trans le2).trans le3, rs3, hD3, nD3, RKs.mono le3 rs2.nofz (RKs.mono le2 rs'.nofz ra), Nat.le_succ_of_le hl, hp⟩
          | true =>
            rw [if_pos rfl] at hp ⊢
            refine ⟨ρ3, S2, s1, rs3, re'.le rs2 le3, ?_⟩
            cases ek : fk s1 S2 with
            | bad => rw [ek] at hp; exact hp
            | ex c w S2 => rw [ek] at hp; exact (show False from hp).elim
            | ok k3 S3 =>
              rw [ek, Res.bind_ok] at hp
              rintro ρ4 H4 vk le4 rs4 rd4
              have nD4 := le4.nin hD3 nD3
              have hD4 : H4 D = some (.dT accV) := le4.keep D _ hD3 nD3 (fun ps z => nomatch z)
              refine ⟨ρ4, S3, s1, rs4, (re'.le rs2 le3).le rs3 le4, ?_⟩
              cases ee : e s1 S3 with
              | bad => rw [ee] at hp; exact hp
              | ex c w S2 => rw [ee] at hp; exact (show False from hp).elim
              | ok y3 S4 =>
                rw [ee, Res.bind_ok] at hp
                rintro ρ5 H5 v le5 rs5 rd5
                have nD5 := le5.nin hD4 nD4
                have hD5 : H5 D = some (.dT accV) := le5.keep D _ hD4 nD4 (fun ps z => nomatch z)
                cases eq : keyT k3 with
                | none => rw [eq] at hp; exact (show False from hp).elim
                | some kk =>
                  rw [eq] at hp
                  obtain ⟨b0, rfl, hb0⟩ := keyT_v eq (rd4.le rs4 le5)
                  obtain ⟨lw6, rs6⟩ := rs5.side (o := .dT (putK accV kk v)) hD5 nD5 (fun _ z => nomatch z) (fun _ _ z => nomatch z) (fun _ z => nomatch z) (fun _ z => nomatch z)
                  have ra5 := RKs.mono le5 rs4.nofz (RKs.mono le4 rs3.nofz (RKs.mono le3 rs2.nofz (RKs.mono le2 rs'.nofz ra)))
                  refine ⟨accV, kk, b0, rfl, hb0, hD5, by omega, rfl, hlt, ρ5, S4, acc ++ [(kk, y3)], putK accV kk v, ((((le'.trans le2).trans le3).trans le4).trans le5).side hD, rs6, upd_same, nD5, ?_, by have := length_putK accV kk v; omega, ?_⟩
                  · rw [mergeD_snoc]
                    exact putD_ks (RKs.lw lw6 ra5) (RD.lw lw6 _ _ rd5)
                  · dsimp only at hp
                    cases ec : compT I.chk g t fk e (wipeE s vs) (I.items.drop (i + 1)) S4 with
                    | bad => rw [ec] at hp; exact hp
                    | ex c w S2 => rw [ec] at hp; exact (show False from hp).elim
                    | ok ys S5 =>
                      rw [ec] at hp
                      simpa using hp
    · have e : i = I.items.length := by omega
      subst e
      rw [List.drop_length] at hp
      have ok : okC I.chk S' = true := by
        by_cases q : okC I.chk S' = true
        · exact q
        · unfold compT at hp; rw [if_neg q] at hp; exact (show False from hp).elim
      unfold compT at hp
      rw [if_pos ok] at hp
      refine .inl ⟨(it.2 ρ' S' H' le' rs' ok).2, ?_⟩
      have rsA := rs'.adopt (p := D) (ob := .dt (mergeD [] acc)) nD ⟨accV, hD', ra, by omega⟩
      refine hp (ρ' ++ [D]) H' (.ref D) (le'.adopt hD) (by simpa using rsA) (rd_ref rs'.lastAt)
/-- a dict comprehension, its keys ints, texts, or tuples of these -/
theorem tef_dcompA {fi : FI} {g : Tg} {t : FT} {fk e : FE} : ∀ σ H Q, TEf X T W (eDCompA fi g t fk e vs) σ H Q → tDc (TIf X T W fi) (TGf X T vs g) (TTf X T W0 t) (TEf X T W0 fk) (TEf X T W0 e) vs σ H Q ∨ tTc (TIf X T W fi) (TGf X T vs g) (TTf X T W0 t) (TEf X T W0 fk) (TEf X T W0 e) vs σ H Q := by
  rintro σ H Q ⟨ρ, S, s, rs, re, h⟩
  unfold eDCompA at h
  rcases orG_cases (eDComp fi g t fk e vs s S) (eTComp fi g t fk e vs s S) with ⟨er, _⟩ | ⟨_, er⟩
  · rw [er] at h
    exact .inl (tef_dcomp _ _ _ ⟨ρ, S, s, rs, re, h⟩)
  · rw [er] at h
    exact .inr (tef_tcomp _ _ _ ⟨ρ, S, s, rs, re, h⟩)
theorem ev_dcompA {k : Nat} {kx vx tg iter : Expr} {ifs : List Expr} {scope : Scope} {own : List (Str × Nat)} {fi : FI} {g : Tg} {t : FT} {fk e : FE} (hr : Room k X.A) (hc : X.calm = true) (hN : X.N.Nodup) (hi : EI X T W tg iter fi) {us : List Nat} (ok : BlkOk X.N X.env.scope scope own) (hus : own.map (·.2) = us)
    (hg : ∀ (s : Shared) (H : Hp) (C : Addr) (cl : List (Str × Addr)) (fp : List Addr), EG (X.blk s H scope (compEnvC scope cl C X.env) fp) T (own.map (·.2)) tg g)
    (ht : ∀ (s : Shared) (H : Hp) (C : Addr) (cl : List (Str × Addr)) (fp : List Addr), ETs (X.blk s H scope (compEnvC scope cl C X.env) fp) T W0 ifs t)
    (hk : ∀ (s : Shared) (H : Hp) (C : Addr) (cl : List (Str × Addr)) (fp : List Addr), EV (X.blk s H scope (compEnvC scope cl C X.env) fp) T W0 kx fk)
    (he : ∀ (s : Shared) (H : Hp) (C : Addr) (cl : List (Str × Addr)) (fp : List Addr), EV (X.blk s H scope (compEnvC scope cl C X.env) fp) T W0 vx e) (hs : ∀ x, foldedSetIterable iter X.env x = pure x := by intro _; rfl) :
    EV X T W (.DictComp kx vx [⟨tg, iter, ifs, 0⟩] scope pos) (eDCompA fi g t fk e us) := by
  subst hus
  refine ⟨fun pins s σ H Q I h => ?_⟩
  rcases tef_dcompA _ _ _ h with h | h
  · exact (pe_dc hc hN hi ok hg ht hk he hs).run pins s σ H Q I h
  · exact (pe_tc hr.units0 hc hN hi ok hg ht hk he hs).run pins s σ H Q I h
theorem es_dcompA {k : Nat} {i : Nat} {y : Str} {py : Pos} {kx vx tg iter : Expr} {ifs : List Expr} {scope : Scope} {own : List (Str × Nat)} {cpos spos : Pos} {fi : FI} {g : Tg} {t : FT} {fk e : FE} (hr : Room k X.A) (hc : X.calm = true) (hN : X.N.Nodup) (hy : X.N[i]? = some y) (hyl : X.env.scope.names.lookup y = some .local)
    (hsw : swapsWith (.DictComp kx vx [⟨tg, iter, ifs, 0⟩] scope cpos) (some (.Name y py)) spos.line X.env = pure true) (hi : EI X T W tg iter fi) {us : List Nat} (ok : BlkOk X.N X.env.scope scope own) (hus : own.map (·.2) = us)
    (hg : ∀ (s : Shared) (H : Hp) (C : Addr) (cl : List (Str × Addr)) (fp : List Addr), EG (X.blk s H scope (compEnvC scope cl C X.env) fp) T (own.map (·.2)) tg g)
    (ht : ∀ (s : Shared) (H : Hp) (C : Addr) (cl : List (Str × Addr)) (fp : List Addr), ETs (X.blk s H scope (compEnvC scope cl C X.env) fp) T W0 ifs t)
    (hk : ∀ (s : Shared) (H : Hp) (C : Addr) (cl : List (Str × Addr)) (fp : List Addr), EV (X.blk s H scope (compEnvC scope cl C X.env) fp) T W0 kx fk)
    (he : ∀ (s : Shared) (H : Hp) (C : Addr) (cl : List (Str × Addr)) (fp : List Addr), EV (X.blk s H scope (compEnvC scope cl C X.env) fp) T W0 vx e) (hs : ∀ x, foldedSetIterable iter X.env x = pure x := by intro _; rfl) :
    ES X T W (.Assign [.Name y py] (.DictComp kx vx [⟨tg, iter, ifs, 0⟩] scope cpos) spos) (sSet i (eDCompA fi g t fk e us)) := by
  subst hus
  refine ⟨fun pins s0 σ H D I h => ?_⟩
  obtain ⟨ρ, S, s, rs, re, h⟩ := h
  have h2 : TEf X T W (eDCompA fi g t fk e (List.map (fun (p : Str × Nat) => p.2) own)) σ H (fun x H1 => gName i x σ H1 D.nx) := by
    refine ⟨ρ, S, s, rs, re, (PostS.ofE (R := RD X.K) rs re h).imp ?_⟩
    rintro v H1 ⟨ρ1, S1, d, l1, rs1, re1, rd1, h1⟩
    exact h1 ρ1 H1 _ (Le.refl _ _) rs1 (re1.set i rd1)
  rcases tef_dcompA _ _ _ h2 with h | h
  · exact (ps_setDc (wi := TIf X T W fi) (g := TGf X T (List.map (fun (p : Str × Nat) => p.2) own) g) (tt := TTf X T W0 t) (tk := TEf X T W0 fk) (tv := TEf X T W0 e) hc hN hy hyl hsw hi ok hg ht hk he hs).run pins s0 σ H D I h
  · exact (ps_setTc (wi := TIf X T W fi) (g := TGf X T (List.map (fun (p : Str × Nat) => p.2) own) g) (tt := TTf X T W0 t) (tk := TEf X T W0 fk) (tv := TEf X T W0 e) hr.units0 hc hN hy hyl hsw hi ok hg ht hk he hs).run pins s0 σ H D I h
end
end Wk


set_option Elab.async false
set_option linter.all false
set_option maxRecDepth 100000
set_option maxHeartbeats 4000000
set_option autoImplicit false
/-! WkTry: several named except clauses; a lambda heard: try: return ("told", deed()) except X as r: return ("X", r.what) .. -/
namespace L2
open PySem PySem.Spec PyProof.Rows
/-- what the named clauses wish of an exception of the body, one after the other -/
def wManyAs (K : PySem.W.Frag) (i : Nat) (Wout : WX) (D : Ends) : List (Value × (Addr → Value → Option Addr → TS)) → WX
  | [] => Wout
  | (c, ts) :: r => fun cls d σ H => ∃ b, PySem.W.exmOne K cls c = some b ∧ (b = true → ∀ a, H a = none → ts a cls d { nx := fun σ' H' => D.nx (σ'.set i none) H', rt := D.rt, bk := fun σ' H' => D.bk (σ'.set i none) H', ct := fun σ' H' => D.ct (σ'.set i none) H' } (σ.set i (some (.ref a))) H) ∧
      (b = false → wManyAs K i Wout D r cls d σ H)
inductive HdsAs (X : Cx) (n : Str) : List ExceptHandler → List (Value × (Addr → Value → Option Addr → TS)) → Prop
  | nil : HdsAs X n [] []
  | cons {x : Str} {c : Value} {ts : Addr → Value → Option Addr → TS} {b₀ : Stmt} {suite : List Stmt} {np pos' : Pos} {hds : List ExceptHandler} {l : List (Value × (Addr → Value → Option Addr → TS))} (hc : Names X x c)
      (hsu : ∀ (a : Addr) (oe : Obj) (cls : Value) (d : Option Addr) (pn : List (Addr × Obj)), Zc cls d oe → (∃ vs, oe.data = .fields vs) → PSs (X.suite a ((a, oe) :: pn)) (b₀ :: suite) (ts a cls d)) (r : HdsAs X n hds l) :
      HdsAs X n (.ExceptHandler (some (.Name x np)) (some n) (b₀ :: suite) pos' :: hds) ((c, ts) :: l)
section
variable {X : Cx} {n : Str} {i : Nat} {body : List Stmt} {h₀ : ExceptHandler} {hds : List ExceptHandler} {l : List (Value × (Addr → Value → Option Addr → TS))} {pos : Pos} {tb : WX → TS} {Wout : WX}
theorem ps_try_manyAs (hs : X.stack = X.env :: X.outer) (hf : X.env.frame = some X.env.locals) (hN : X.N.Nodup) (hi : X.N[i]? = some n) (hln : X.env.kindOf n = some .local) (tk : Takes X Wout)
    (hb : ∀ (W : WX) (pn : List (Addr × Obj)) (xe : Value → Shared → Prop), Takes (X.tr pn xe) W → PassesOwn (model X.prog X.w) X.A X.env xe → PSs (X.tr pn xe) body (tb W))
    (hh : HdsAs X n (h₀ :: hds) l) : PS X (.Try body (h₀ :: hds) [] [] pos) (fun D σ H => tb (wManyAs X.K i Wout D l) D σ H) := by
  refine ⟨fun pins s σ H D I h => ?_⟩
  have ok := I.ok
  have hfr : X.A.frames = some (X.env :: X.outer) := by rw [ok.frames, hs]
  have hloc : Loc X.env.scope n := .inl hln
  refine wpAny_Try_except ?_
  refine wpAny_mono ((hb (wManyAs X.K i Wout D l) (X.pn ++ pins) (fun e s₁ => wpAny (model X.prog X.w) X.A (noteFrame e X.env) (fun _ s₂ => wpAny (model X.prog X.w) X.A (setFlight e none) (fun _ s₃ =>
    wpAny (model X.prog X.w) X.A (handleBy e X.env (h₀ :: hds)) (SP X pins D) X.xe s₃) X.xe s₂) X.xe s₁) (fun u s' xx => ?_) PassesOwn.looking).run [] s σ H D (I.toTry _) h) (fun f s1 hsp => ?_) (fun e s1 he => he)
  · -- the catch
    obtain ⟨a, B, sI, pins', σ', H', cls, d, rfl, J', nb, up, sky, na, os, ag, w⟩ := xx
    have J : Inv X pins σ' H' sI := J'.ofTry ok
    have sky' : Sky B (X.env :: X.outer) a (Zc cls d) X.env.locals s'.heap := by rw [← hs]; exact sky
    show wpAny (model X.prog X.w) X.A (noteFrame (.ref a) X.env) _ _ _
    refine Sky.land Zc.steady hfr hf sky' fun h3 fl3 up3 => ?_
    have J3 : Inv X pins σ' H' { s' with heap := h3 } := J.landed nb fl3.1 (up.trans up3) os ag
    obtain ⟨oe3, vs3, he3, hz3, hd3⟩ := fl3.there
    have notFr : ∀ {h : Heap} {o : Obj} {vs : Array Value}, h.FunFrames B (X.env :: X.outer) → h.get? a = some o → o.data = .fields vs → a ∉ frs (X.env :: X.outer) := fun {h o vs} ff e dd hm => by
      obtain ⟨_, o', e', hnf⟩ := ff.mem hm
      rw [e] at e'; cases e'
      exact hnf _ dd
    have nfr := notFr fl3.2.2.1 he3 hd3
    have nL : a ≠ X.env.locals := fun z => nfr (List.mem_filterMap.mpr ⟨X.env, List.mem_cons_self, by rw [hf, z]⟩)
    have nF : a ∉ X.fs := fun hm => by
      obtain ⟨e, he, q⟩ := List.mem_filterMap.mp hm
      exact nfr (List.mem_filterMap.mpr ⟨e, List.mem_cons_of_mem _ he, q⟩)
    have S3 := J3.suite he3 hd3 na nL nF
    have go : ∀ {hds' : List ExceptHandler} {l' : List (Value × (Addr → Value → Option Addr → TS))}, HdsAs X n hds' l' → wManyAs X.K i Wout D l' cls d σ' H' →
        wpAny (model X.prog X.w) X.A (handleBy (.ref a) X.env hds') (SP X pins D) X.xe { s' with heap := h3 } := by
      intro hds' l' hk
      induction hk with
      | nil =>
        intro w
        refine wpAny_handleBy_nil ?_
        obtain ⟨k1, k2, k3, oe, vs, T, oT, ts', he, hz, hd, h1, hr⟩ := id fl3
        unfold PySem.passOn
        refine wpAny_bind (wpAny_field he hd h1 ?_)
        rw [if_neg (show ¬ ((Value.ref T == Value.none) = true) from by simp)]
        have fin : wpAny (model X.prog X.w) X.A (setFlight (.ref a) X.env.frame) (fun _ s4 => wpAny (model X.prog X.w) X.A (throw (.ref a) : Sem Flow) (SP X pins D) X.xe s4) X.xe { s' with heap := h3 } := by
          rw [hf]
          refine HandSPX.setFlight_upZ fl3 fun h4 hh4 up4 => wpAny_throw (tk _ _ ?_)
          exact ⟨a, B, sI, pins, σ', H', cls, d, rfl, J, nb, (up.trans up3).trans up4, .inr (.inr (by rw [hs]; exact hh4)), na, os, ag, w⟩
        first
          | exact wpAny_bind (wpAny_pure (wpAny_bind fin))
          | exact wpAny_bind fin
      | @cons x c ts b₀ suite np pos' hds2 l2 hc hsu r ih =>
        intro w
        obtain ⟨b, hb1, hyes, hno⟩ := w
        refine wpAny_handleBy_cons (codeAny_handlers_test ?_) (by intro q; cases q)
        have LT : PySem.W.Looks (model X.prog X.w) h3 (typeOf (.ref a)) cls := fun A Q E s k q => wpAny_typeOf_ref (k _ _ he3) (by rw [hz3.1]; exact q)
        have LM := PySem.W.exm_one (M := model X.prog X.w) (J3.kIn) LT hb1
        have test : ∀ {Q : Value → Shared → Prop} {E : Value → Shared → Prop}, Q c { s' with heap := h3 } → wpAny (model X.prog X.w) (X.A.mark (some (.ref a))) (eval (.Name x np) X.env) Q E { s' with heap := h3 } := fun {Q E} q => by
          obtain ⟨hg, hdbg, hm | ⟨hm, hv, hnn⟩⟩ := hc
          · exact ld_glob (X := X.suite a ((a, oe3) :: (X.pn ++ pins))) S3 hg hm q hdbg
          · exact ld_blt (X := X.suite a ((a, oe3) :: (X.pn ++ pins))) S3 hg hm hv q hnn hdbg
        refine test (LM.here ?_)
        cases b with
        | true =>
          refine codeAny_handlers_suite_as ?_
          refine HandSPX.lands_againZ fl3 fun h4 fl4 up4 => ?_
          have J4 : Inv X pins σ' H' { s' with heap := h4 } := J.landed nb fl4.1 ((up.trans up3).trans up4) os ag
          obtain ⟨oe4, vs4, he4, hz4, hd4⟩ := fl4.there
          have S4 := J4.suite he4 hd4 na nL nF
          refine store_ok (X := X.suite a ((a, oe4) :: (X.pn ++ pins))) (v := .ref a) S4 hN hi hloc rfl (fun s5 S5 => ?_) (.inr hln)
          refine wpAny_mono ((hsu a oe4 cls d (X.pn ++ pins) hz4 ⟨_, hd4⟩).run [] s5 _ H' _ S5 (hyes rfl a na)) (fun f s6 hsp => ?_) (fun _ _ z => False.elim z)
          have end_ : ∀ {σ6 : St} {H6 : Hp} {Q : Shared → Prop}, Inv (X.suite a ((a, oe4) :: (X.pn ++ pins))) [] σ6 H6 s6 → (∀ s7, Inv X pins (σ6.set i none) H6 s7 → Q s7) →
              wpAny (model X.prog X.w) X.A (do bindName X.env n .none; unbindBehindTheSuite X.env n pos') (fun _ s7 => Q s7) X.xe s6 := fun {σ6 H6 Q} S6 hq => gone_ok (S6.unsuite ok) hN hi hln hq
          cases f with
          | next =>
            obtain ⟨σ6, H6, S6, q6⟩ := hsp
            exact end_ S6 fun s7 J7 => ⟨_, _, J7, q6⟩
          | brk =>
            obtain ⟨σ6, H6, S6, q6⟩ := hsp
            exact end_ S6 fun s7 J7 => ⟨_, _, J7, q6⟩
          | cont =>
            obtain ⟨σ6, H6, S6, q6⟩ := hsp
            exact end_ S6 fun s7 J7 => ⟨_, _, J7, q6⟩
          | ret u =>
            obtain ⟨v6, σ6, H6, S6, r6, q6⟩ := hsp
            exact end_ S6 fun s7 J7 => ⟨_, _, _, J7, r6, q6⟩
        | false =>
          show wpAny _ X.A (handleBy (.ref a) X.env hds2) _ _ _
          exact ih (hno rfl)
    exact go hh w
  · cases f with
    | next =>
      obtain ⟨σ', H', J', q⟩ := hsp
      exact wpAny_execs_nil ⟨σ', H', J'.ofTry ok, q⟩
    | brk =>
      obtain ⟨σ', H', J', q⟩ := hsp
      exact ⟨σ', H', J'.ofTry ok, q⟩
    | cont =>
      obtain ⟨σ', H', J', q⟩ := hsp
      exact ⟨σ', H', J'.ofTry ok, q⟩
    | ret u =>
      obtain ⟨v, σ', H', J', r, q⟩ := hsp
      exact ⟨v, σ', H', J'.ofTry ok, r, q⟩
end
end L2

namespace Wk
open PySem PySem.Spec PyProof.Rows L2 LamX
/-! ### a lambda heard -/
/-- the classes named by the clauses -/
structure HeardC (K : PySem.W.Frag) (mg : Str → Option Value) (l : List (Addr × String)) : Prop where
  all : ∀ p ∈ l, mg (Str.ofString p.2) = some (.ref p.1) ∧ XfC K p.1 ∧ PySem.W.findIn K (.ref p.1) "what" = some none ∧ ∀ q ∈ l, PySem.W.exmOne K (.ref p.1) (.ref q.1) = some (decide (p.2 = q.2))
/-- what the clauses wish -/
def heardE (K : PySem.W.Frag) (Q : VK) : List (Addr × String) → XK
  | [] => fun _ _ _ => False
  | p :: r => fun cls d H => ∃ b, PySem.W.exmOne K cls (.ref p.1) = some b ∧
      (b = true → cls = .ref p.1 ∧ ∃ (dd : Addr) (fs : List (Str × V)) (v : V), d = some dd ∧ H dd = some (.xd fs) ∧ fs.lookup ("what" : Str) = some v ∧ [V.str (Str.ofString p.2), v].length ≤ sizeLine ∧ ∀ t, H t = none → Q (.ref t) (upd H t (.tup [.str (Str.ofString p.2), v]))) ∧
      (b = false → heardE K Q r cls d H)
def TTh (K : PySem.W.Frag) (l : List (Addr × String)) : (XK → Hp → VK → Prop) → Hp → VK → Prop := fun tl H Q =>
  tl (heardE K Q l) H fun v H' => [V.str "told", v].length ≤ sizeLine ∧ ∀ t, H' t = none → Q (.ref t) (upd H' t (.tup [.str "told", v]))
/-- the clauses of the text -/
inductive HeardHds (n : Str) : List ExceptHandler → List String → Prop
  | nil : HeardHds n [] []
  | cons {x y : Str} {c : String} {np p1 p2 p3 p4 p5 pos' : Pos} {j k : Nat} {hds : List ExceptHandler} {cs : List String} (hx : x = Str.ofString c) (hy : y = Str.ofString c) (r : HeardHds n hds cs) :
      HeardHds n (.ExceptHandler (some (.Name x np)) (some n) [.Return (some (.Tuple [.Constant (.str y) j p1, .Attribute (.Name n p2) "what" p3] k p4)) p5] pos' :: hds) (c :: cs)
section
variable {X : Cx} {T : Tbs} {W : WX} {pos : Pos}
theorem PSs.withLen {Y : Cx} {st : List Stmt} {t : TS} (h : PSs Y st t) : PSs Y st fun D σ H => σ.length = Y.N.length → t D σ H := ⟨fun pins s σ H D I q => h.run pins s σ H D I (q I.len)⟩
/-- the readings of the clauses' suites -/
def suitesH (m i : Nat) (l : List (Addr × String)) : List (Value × (Addr → Value → Option Addr → TS)) :=
  l.map fun p => (Value.ref p.1, fun a cls d D σ H => σ.length = m → tRet (tTup (tCons (tC (.str (Str.ofString p.2))) (tCons (tXf a cls d p.1 "what" (tVar i)) tNil))) D σ H)
theorem hdsAs_of {Y : Cx} {n : Str} {i : Nat} (hN : Y.N[i]? = some n) (hv : Vis Y.env.scope n) (hdb : (n == ("__debug__" : Str)) = false) (hcd : (n == ("__classdict__" : Str)) = false) : ∀ {hds : List ExceptHandler} {cs : List String} {l : List (Addr × String)}, HeardHds n hds cs → l.map (·.2) = cs →
    (∀ p ∈ l, Names Y (Str.ofString p.2) (.ref p.1) ∧ XfC Y.K p.1 ∧ PySem.W.findIn Y.K (.ref p.1) "what" = some none) → HdsAs Y n hds (suitesH Y.N.length i l)
  | _, _, [], .nil, _, _ => .nil
  | _, _, p :: l, .nil, h, _ => by cases h
  | _, _, [], .cons _ _ _, h, _ => by cases h
  | _, _, p :: l, .cons hx hy r, h, hl => by
    simp only [List.map_cons, List.cons.injEq] at h
    obtain ⟨h1, h2⟩ := h
    subst h1 hx hy
    obtain ⟨nm, xf, no⟩ := hl p List.mem_cons_self
    refine .cons nm (fun a oe cls d pn hz hf => ?_) (hdsAs_of hN hv hdb hcd r h2 fun q hq => hl q (List.mem_cons_of_mem _ hq))
    exact PSs.withLen (pss_one (ps_ret (pe_tup (pa_cons pe_str (pa_cons (pe_xf (X := Y) xf no hz hf (pe_var (X := Y.suite a ((a, oe) :: pn)) hN hv hdb hcd)) pa_nil)))))
theorem heardE_many {K : PySem.W.Frag} {m i : Nat} {D : Ends} {σ : L2.St} (hi : i < m) : ∀ (l : List (Addr × String)) (cls : Value) (d : Option Addr) (H : Hp), heardE K D.rt l cls d H → wManyAs K i (fun _ _ _ _ => False) D (suitesH m i l) cls d σ H
  | [], cls, d, H, h => h
  | p :: l, cls, d, H, h => by
    obtain ⟨b, e1, e2, e3⟩ := h
    refine ⟨b, e1, fun hb a _ hlen => ?_, fun hb => heardE_many hi l cls d H (e3 hb)⟩
    obtain ⟨ec, dd, fs, v, ed, eH, el, hz, q⟩ := e2 hb
    exact ⟨.ref a, List.getElem?_set_self (by rw [List.length_set] at hlen; rw [hlen]; exact hi), rfl, ec, dd, fs, v, ed, eH, el, hz, q⟩
theorem heard_gives {Ng : List Str} {x a n : Str} {sg : Scope} {g : Addr} {cdg : Value} {hds : List ExceptHandler} {cs : List String} {l : List (Addr × String)} {q : Str} {p1 p2 p3 p4 p5 p8 : Pos} {j k : Nat} (hNd : Ng.Nodup) (hN1 : Ng[1]? = some n) (hln : sg.names.lookup n = some .local) (hdb : (n == ("__debug__" : Str)) = false) (hcd : (n == ("__classdict__" : Str)) = false)
    (hh : HeardHds n hds cs) (hne : hds ≠ []) (hl : l.map (·.2) = cs) (C : HeardC X.K X.mg l) (hgl : ∀ c ∈ cs, sg.names.lookup (Str.ofString c) = some .globalImplicit ∧ (Str.ofString c == ("__debug__" : Str)) = false)
    (h0 : ∀ f : Addr, (L2.start Ng [V.ref f])[0]? = some (some (V.ref f))) (h1 : 1 < Ng.length) :
    GivesTo X Ng x sg g cdg [.Try [.Return (some (.Tuple [.Constant (.str "told") j p1, .Call (.Name a p2) [] [] p3] k p4)) p5] hds [] [] p8] a q (TTh X.K l) := by
  intro f c' s H Q tl act hc h
  obtain ⟨h₀, hds', rfl⟩ : ∃ h₀ hds', hds = h₀ :: hds' := by
    cases hds with
    | nil => exact absurd rfl hne
    | cons a b => exact ⟨a, b, rfl⟩
  refine ⟨_, pss_one (ps_try_manyAs (X := (cxOf C8.CX0 X.prog X.w X.K X.mg X.base Ng x sg g cdg X.A X.stack s H C8.E0).nox) (i := 1) (n := n)
      (tb := fun W D σ H => ∃ Ech : XK, (∀ cls d σ' H', Ech cls d H' → W cls d σ' H') ∧ σ[0]? = some (some (.ref f)) ∧ H c' = some (CodeO c' q) ∧ tl Ech H (fun v H' => [V.str "told", v].length ≤ sizeLine ∧ ∀ t, H' t = none → D.rt (.ref t) (upd H' t (.tup [.str "told", v]))))
      rfl rfl hNd hN1 hln L2.takes0 (fun W pn xe tk _ => ?_) (hdsAs_of hN1 (Or.inl hln) hdb hcd hh hl fun p hp => ?_)), ?_⟩
  · refine ⟨fun pins s' σ H' D I h' => ?_⟩
    obtain ⟨Ech, hW, h1, h2, h3⟩ := h'
    have hp := act W pn xe Ech p2 p3 tk hW
    have hq := pss_one (ps_ret (pos := p5) (pe_tup (x1 := k) (pos := p4) (pa_cons (pe_str (x := "told") (j := j) (pos := p1)) (pa_cons hp pa_nil))))
    exact hq.run pins s' σ H' D I ⟨h1, h2, h3⟩
  · obtain ⟨e1, e2, e3, _⟩ := C.all p hp
    obtain ⟨g1, g2⟩ := hgl p.2 (by rw [← hl]; exact List.mem_map_of_mem hp)
    exact ⟨⟨g1, g2, .inl e1⟩, e2, e3⟩
  · exact ⟨heardE X.K Q l, fun cls d σ' H' z => heardE_many h1 l cls d H' z, h0 f, hc, h⟩
theorem contains_cons {c d : String} {l : List String} : (d :: l).contains c = (decide (c = d) || l.contains c) := by
  rw [List.contains_cons]
  by_cases h : c = d
  · subst h; simp
  · simp [h]
theorem Le.ext {ρ : List Addr} {H H1 : Hp} (e : ExtN H H1) : Le ρ H ρ H1 := ⟨⟨[], by simp⟩, fun a _ h => e a _ h (fun _ z => nomatch z), fun a _ _ h _ => e a _ h (fun _ z => nomatch z), fun b o h _ n => e b o h n, fun _ _ _ _ n => n⟩
theorem RS.ext {K : PySem.W.Frag} {ρ : List Addr} {S : Store} {H H1 : Hp} (r : RS K T ρ S H) (e : ExtN H H1) (t : Tabs T H1) : RS K T ρ S H1 :=
  ⟨r.len, r.nd, fun i a o h1 h2 => by
    have q := r.ob i a o h1 h2
    obtain ⟨u, eu, _, _, n⟩ := q.there
    exact q.mono (Le.ext e) r.nofz ((e a u eu n).trans eu.symm), t⟩
theorem tup2_new {K : PySem.W.Frag} {ρ : List Addr} {S : Store} {H : Hp} (r : RS K T ρ S H) {x : Str} {d : D} {v : V} (rd : RD K ρ H d v) : [V.str x, v].length ≤ sizeLine ∧ ∀ t, H t = none → Le ρ H ρ (upd H t (.tup [.str x, v])) ∧ RS K T ρ S (upd H t (.tup [.str x, v])) ∧ RD K ρ (upd H t (.tup [.str x, v])) (.tup [.str x, d]) (.ref t) := by
  have hz : [V.str x, v].length ≤ sizeLine := by show 2 ≤ sizeLine; decide
  exact ⟨hz, fun t ht => tup_new r ht (RDs.of (.cons rd_str (.cons rd .nil))) hz⟩
theorem heardE_of {E : XK} {ρ : List Addr} {H : Hp} {Q : VK} {c : String} {w : D} {S : Store} {C0 : Addr} {v : V} {dd : Addr} {l0 : List (Addr × String)} (hC : HeardC X.K X.mg l0) (hm : X.mg (Str.ofString c) = some (.ref C0)) (rs : RS X.K T ρ S H) (rw0 : RD X.K ρ H w v)
    (hdd : H dd = some (.xd [(("what" : Str), v)])) (h : Post X.K X.mg T E ρ H (RD X.K) Q (.ok (.tup [.str (Str.ofString c), w]) S)) (hc0 : ∃ p ∈ l0, p.2 = c) : ∀ l : List (Addr × String), (∀ p ∈ l, p ∈ l0) → (l.map (·.2)).contains c = true → heardE X.K Q l (.ref C0) (some dd) H
  | [], _, hc => by cases hc
  | p :: l, hs, hc => by
    obtain ⟨p0, hp0, e0⟩ := hc0
    have a0 := hC.all p0 hp0
    have ap := hC.all p (hs p List.mem_cons_self)
    have eC : C0 = p0.1 := by
      have := a0.1
      rw [e0, hm] at this
      exact Value.ref.inj (Option.some.inj this)
    refine ⟨decide (p0.2 = p.2), by rw [eC]; exact a0.2.2.2 p (hs p List.mem_cons_self), fun hb => ?_, fun hb => ?_⟩
    · have e1 : p0.2 = p.2 := of_decide_eq_true hb
      have e2 : C0 = p.1 := by
        have := ap.1
        rw [← e1, e0, hm] at this
        exact Value.ref.inj (Option.some.inj this)
      obtain ⟨z1, z2⟩ := tup2_new (x := Str.ofString p.2) rs rw0
      refine ⟨by rw [e2], dd, _, v, rfl, hdd, by simp [List.lookup], z1, fun t ht => ?_⟩
      obtain ⟨q1, q2, q3⟩ := z2 t ht
      rw [← e1, e0] at q1 q2 q3 ⊢
      exact h _ _ _ q1 q2 q3
    · have e1 : ¬ c = p.2 := by
        rw [← e0]; exact of_decide_eq_false hb
      rw [List.map_cons, contains_cons] at hc
      have hc' : (l.map (·.2)).contains c = true := by simpa [e1] using hc
      exact heardE_of hC hm rs rw0 hdd h ⟨p0, hp0, e0⟩ l (fun q hq => hs q (List.mem_cons_of_mem _ hq)) hc'
/-- the def that hears -/
structure HeardAt (K : PySem.W.Frag) (mg : Str → Option Value) (x a n : Str) (st : Stmt) (hds : List ExceptHandler) (cs : List String) : Prop where
  d : DefAt K mg x st [a]
  bd : ∃ (p1 p2 p3 p4 p5 p8 : Pos) (j k : Nat), defBody st = [.Try [.Return (some (.Tuple [.Constant (.str "told") j p1, .Call (.Name a p2) [] [] p3] k p4)) p5] hds [] [] p8]
  sc : FnScope [a, n] [a] (defScope st)
  hh : HeardHds n hds cs
  ne : hds ≠ []
  va : Vis (defScope st) a
  ln : (defScope st).names.lookup n = some .local
  gl : ∀ c ∈ cs, (defScope st).names.lookup (Str.ofString c) = some .globalImplicit ∧ (Str.ofString c == ("__debug__" : Str)) = false
  nm : (a == ("__debug__" : Str)) = false ∧ (a == ("__classdict__" : Str)) = false ∧ (n == ("__debug__" : Str)) = false ∧ (n == ("__classdict__" : Str)) = false
  cl : ∃ l : List (Addr × String), l.map (·.2) = cs ∧ HeardC K mg l
/-- the maker of a lambda: its code object and the table -/
structure MakerAt (X : Cx) (T : Tbs) (c P : Addr) : Prop where
  tb : TabB X.base X.mg c P
  code : X.env.code = .ref c
  mem : (P, X.env.qual ++ "<lambda>") ∈ T
  uniq : ∀ p ∈ T, p.1 = P → p.2 = X.env.qual ++ "<lambda>"
theorem ev_heard {x a n : Str} {st : Stmt} {hds : List ExceptHandler} {cs : List String} {c P : Addr} {k : Nat} {params : Arguments} {body : Expr} {scope : Scope} {f : FE} {p lpos : Pos} (D : HeardAt X.K X.mg x a n st hds cs) (M : MakerAt X T c P) (hr : Room (k + 2) X.A) (L : LamS X.env.scope scope)
    (hbody : ∀ (A : Around) (outer : List PySem.Env) (s : Shared) (H : Hp) (E : XK) (f' c' : Addr), Room k (A.deeper (lamEnv X scope s.heap.objs.size f' c')) → EV (lamCx X A outer s H E scope f' c') T (fun cls d _ H => E cls d H) body f)
    (hg : Gl X x := by rfl) (hdef : defaultsOf params X.env = ([], []) := by rfl)
    (hbind : ∀ (q : Str) (cl : List (Str × Addr)) (pm cv ctv : Value), bindArgs (PySem.W.kla_fn "<lambda>" q params body scope cl pm cv ctv) ⟨[], []⟩ = pure [] := by intro _ _ _ _ _; rfl) (hdb : (x == ("__debug__" : Str)) = false := by decide) :
    EV X T W (.Call (.Name x p) [.Lambda params body scope lpos] [] pos) (eHeard cs f) := by
  obtain ⟨g, fd, hm, F, hb⟩ := D.d.ex
  obtain ⟨oc, od, kV, doc, pm, an, cdv, ct, osl, rfl, lk, hcd⟩ := F.ex
  obtain ⟨p1, p2, p3, p4, p5, p8, j, k', hbd⟩ := D.bd
  obtain ⟨l, hl, C⟩ := D.cl
  rw [hbd] at lk hb
  have G : GivesTo X [a, n] x (defScope st) g cdv _ a (X.env.qual ++ "<lambda>") (TTh X.K l) := heard_gives (p1 := p1) (p2 := p2) (p3 := p3) (p4 := p4) (p5 := p5) (p8 := p8) (j := j) (k := k') D.sc.nd rfl D.ln D.nm.2.2.1 D.nm.2.2.2 D.hh D.ne hl C D.gl (fun _ => rfl) (by show 1 < 2; decide)
  refine PE.imp (pe_lamcall (t := fun E => TEf X T (fun cls d _ H => E cls d H) f) hg hm F.kp lk hcd hb D.sc rfl D.va G M.tb M.code M.mem M.uniq hr L hdef hbind (fun A outer s H E f' c' hr' => hbody A outer s H E f' c' hr') hdb D.nm.1 D.nm.2.1) ?_
  rintro σ H Q ⟨ρ, S, s, rs, re, h⟩
  refine ⟨rs.tabs, fun H1 eN T1 => ?_⟩
  have le := Le.ext (ρ := ρ) eN
  have rs1 := rs.ext eN T1
  refine ⟨ρ, S, s, rs1, re.le rs le, ?_⟩
  unfold eHeard at h
  cases e : f s S with
  | ok d S1 =>
    rw [e] at h
    intro ρ' H' b le' rs' rd
    obtain ⟨z1, z2⟩ := tup2_new (x := "told") rs' rd
    refine ⟨z1, fun t ht => ?_⟩
    obtain ⟨q1, q2, q3⟩ := z2 t ht
    exact h _ _ _ ((le.trans le').trans q1) q2 q3
  | ex c0 w S1 =>
    rw [e] at h
    unfold heardR at h
    dsimp only at h
    by_cases hc : cs.contains c0 = true
    · rw [if_pos hc] at h
      intro ρ' H' v dd C0 le' rs' rd hdd hmc
      have hc' : (l.map (·.2)).contains c0 = true := by rw [hl]; exact hc
      refine heardE_of C hmc rs' rd hdd (Post.le h (le.trans le')) ?_ l (fun _ h => h) hc'
      obtain ⟨p, hp, ep⟩ := List.mem_map.mp (List.contains_iff_mem.mp hc')
      exact ⟨p, hp, ep⟩
    · rw [if_neg hc] at h; exact (show False from h).elim
  | bad => rw [e] at h; exact (show False from h).elim
end
/-! ### a def that makes lambdas -/
section
variable {P : Program} {w : World} {K : PySem.W.Frag} {mg : Str → Option Value} {base : Heap} {T : Tbs}
/-- a def of the text, its code object known -/
structure DefAtC (K : PySem.W.Frag) (mg : Str → Option Value) (x : Str) (st : Stmt) (ps : List Str) (c : Addr) : Prop where
  ex : ∃ (f : Addr) (fd : FuncData), mg x = some (.ref f) ∧ Fun K x x st f fd ∧ Binds K fd ps [] ∧ fd.code = .ref c
theorem call_okC {x : Str} {st : Stmt} {N ps : List Str} {k n m : Nat} {b : FS} {c : Addr} (D : DefAtC K mg x st ps c) (S : FnScope N ps (defScope st)) (hn : ps.length = n) (hm : N.length = m)
    (hbody : ∀ (f : Addr) (A : Around) (outer : List PySem.Env) (s : Shared) (H : Hp) (E : XK), Room k (A.deeper (envOfC x (defScope st) s.heap.objs.size f (.ref c))) →
      ESs (cxOf (L2.CX P w) P w K mg base N x (defScope st) f (.ref c) A outer s H E) T (fun cls d _ H => E cls d H) (defBody st) b) : CallOk P w K mg base T (k + 1) x n (mkF n m b) := by
  obtain ⟨f, fd, hf, F, hb, hc⟩ := D.ex
  subst hn hm
  refine ⟨mkF_ar _ _ _, f, fd, ps, rfl, hf, F.kp, hb, ?_⟩
  obtain ⟨oc, od, kV, doc, pm, an, cdv, ct, osl, rfl, lk, hcd⟩ := F.ex
  have hc' : cdv = .ref c := hc
  subst hc'
  refine fn_of lk hcd S (fun vs H Q E h => h.1) fun A outer s H vs Q E hr h => ⟨_, hbody f A outer s H E hr, ?_⟩
  obtain ⟨hl, ρ, S', ds, rs, rd, h⟩ := h
  refine ⟨ρ, S', startE N.length ds, rs, re_start rd, ?_⟩
  unfold mkF at h
  rw [if_pos (by rw [rd.len, hl])] at h
  show PostS K mg T (fun cls d _ H => E cls d H) { nx := fun _ H' => Q .non H', rt := Q } ρ H (b (startE N.length ds) S')
  cases e : b (startE N.length ds) S' with
  | nx s' S1 => rw [e] at h; exact fun ρ' H' σ' le rs' re' => h ρ' H' .non le rs' rd_non
  | rt d S1 => rw [e] at h; exact h
  | bk s' S1 => rw [e] at h; exact (show False from h).elim
  | ct s' S1 => rw [e] at h; exact (show False from h).elim
  | ex c w s' S1 => rw [e] at h; exact fun ρ' H' σ' v dd C le rs' re' rd' h1 h2 => h ρ' H' v dd C le rs' rd' h1 h2
  | bad => rw [e] at h; exact h
end
/-! ### what is never reached: nothing is promised of it -/
section
variable {X : Cx} {T : Tbs} {W : WX}
theorem ev_bad {e : Expr} : EV X T W e eBad := ⟨fun _ _ _ _ _ _ ⟨_, _, _, _, _, h⟩ => (show False from h).elim⟩
theorem et_bad {e : Expr} : ET X T W e tBad := ⟨fun _ _ _ _ _ _ ⟨_, _, _, _, _, h⟩ => (show False from h).elim⟩
theorem es_bad {st : Stmt} : ES X T W st sBad := ⟨fun _ _ _ _ _ _ ⟨_, _, _, _, _, h⟩ => (show False from h).elim⟩
end
end Wk


set_option Elab.async false
set_option linter.all false
set_option maxRecDepth 100000
set_option maxHeartbeats 4000000
set_option autoImplicit false
/-! WkEnd: the end of a law: tables of code objects, the script. -/
namespace Wk
open PySem PySem.Spec PyProof.Rows L2 LamX PySem.W
/-- the tables of the head's defs are empty -/
def TopTabs (q : Program) (K : Frag) (h : Heap) : Prop := ∀ (x : Str) (c P : Addr), ((recsOf q).any fun e => e.name == x) = true → tabIn K x = some (c, P) → CodeHd h c P ∧ h.get? P = some (tabObj #[])
theorem walk_ofTop {l : PySem.W.OpenLaw} {n k : Nat} {q : Program} {loose : List Str} {XP : (Str → Option Value) → Heap → Prop} {YP : World → Heap → Prop} {d : DefRec} {K : Params → PySem.W.Frag} {CX : World → CXT} {x : Str}
    (hn : l.most = some n) (hn2 : n ≤ sizeLine) (hdf : d.params.defaults = []) (hr : Room k callerA) (hY : ∀ (w : World) (h : Heap), YP w h → (K w.params).In h)
    (F : ∀ (w : World) (mg : Str → Option Value) (fa : Addr) (h : Heap), (K w.params).In h → h.Ns mainGlobals mg → mg d.name = some (.ref fa) → TopTabs q (K w.params) h → LawAtS l w (K w.params) (CX w) k n x mg fa h)
    (hCX : ∀ (w : World) (H : Hp) (s : Shared) (e : Value) (s' : Shared), CX w [] H s (fun _ _ _ => False) e s' → False) :
    PySem.W.WalkO q loose XP YP l.row.toRowW d [] (fun f vs => PySem.call f vs) := by
  refine Att.attach_callB hn hdf fun w s₀ s₁ mg mb fa o pm cd doc a vs ns G Y ho hd hcd hmg hobj hints hlen hbits hg => ?_
  have KX := hY w _ Y
  have tt : TopTabs q (K w.params) s₁.heap := fun x c P ha ht => by
    cases e : (recsOf q).find? (fun e => e.name == x) with
    | none =>
      obtain ⟨d0, h1, h2⟩ := List.any_eq_true.mp ha
      exact absurd h2 (by simpa using List.find?_eq_none.mp e d0 h1)
    | some d0 => exact tab_of G.T KX e ht
  obtain ⟨fd, cs, sp, hT, nT, C, hb, hsp, hF⟩ := F w mg fa _ KX G.T.g hmg tt
  exact law_callTs KX G.T.g G.T.b G.T.builtins G.T.nolimit hg hT nT C G.T.bmain hobj hints (Nat.le_trans hlen hn2) hr hF hb (fun H hH hS => hsp H a ns hlen hbits hH hS) fun H e s' => hCX w H s₁ e s'
theorem rds_intsV {K : PySem.W.Frag} {ρ : List Addr} {H : Hp} : ∀ ns : List Int, RDs K ρ H (ns.map D.int) (ns.map V.int)
  | [] => by unfold List.map RDs; rfl
  | n :: ns => by
    show RDs K ρ H (D.int n :: ns.map D.int) (V.int n :: ns.map V.int)
    unfold RDs
    exact ⟨_, _, rfl, rd_int, rds_intsV ns⟩
/-- the law's promise from its function: the script comes as a frozen list or as a list of the store -/
theorem law_at {l : PySem.W.OpenLaw} {w : World} {K : PySem.W.Frag} {mg : Str → Option Value} {fa : Addr} {h : Heap} {k n : Nat} {x : Str} {Fl : Fn} {T : Tbs} {cs : List (Addr × Addr)} {fd : FuncData} {CX : CXT} (hnz : n ≤ sizeLine)
    (hcs : ∀ p ∈ cs, CodeHd h p.1 p.2 ∧ h.get? p.2 = some (tabObj #[])) (nT : ∀ p ∈ cs, K.lookup p.2 = none) (hT : ∀ t ∈ T, ∃ p ∈ cs, t.1 = p.2) (hb : ∀ (s : Shared) (u : Value), BindsTo s fd ⟨[u], []⟩ [(x, u)])
    (pure : ∀ (ns : List Int), ns.length ≤ n → (∃ S', Fl [.frz (ns.map D.int)] [] = .ok (.bl true) S') ∧ ∃ S', Fl [.ref 0] [.lst (ns.map D.int)] = .ok (.bl true) S')
    (F : ∀ base : Heap, K.In base → base.Ns mainGlobals mg → (∀ p ∈ cs, TabB base mg p.1 p.2) → FnOk l.prog w K mg base CX k fa fd [x] (spF K mg T 1 Fl)) : LawAtS l w K CX k n x mg fa h := by
  refine ⟨fd, cs, spF K mg T 1 Fl, fun p hp => (hcs p hp).2, nT, fun p hp => (hcs p hp).1, hb, fun H a ns hn _ hH hS => ?_, F⟩
  have tabs : Tabs T H := fun t ht => by
    obtain ⟨p, hp, e⟩ := hT t ht
    exact TabS.nil (by rw [e]; exact hH p hp)
  have hz : (ns.map V.int).length ≤ sizeLine := by rw [List.length_map]; exact Nat.le_trans hn hnz
  refine ⟨rfl, ?_⟩
  obtain ⟨⟨S1, e1⟩, ⟨S2, e2⟩⟩ := pure ns hn
  have frz : FrzAt K H a (ns.map V.int) → ∃ ρ S ds, RS K T ρ S H ∧ RDs K ρ H ds [.ref a] ∧ Post K mg T (fun _ _ _ => False) ρ H (RD K) (fun v _ => v = .bl true) (Fl ds S) := fun fz => by
    refine ⟨[], [], [.frz (ns.map D.int)], ⟨rfl, List.nodup_nil, fun i a o h1 _ => by simp at h1, tabs⟩, RDs.of (.cons (by unfold RD; exact ⟨a, _, rfl, fz, rds_intsV ns⟩) .nil), ?_⟩
    rw [e1]
    exact fun _ _ b _ _ r => r.bl
  rcases hS with (z | ⟨o, z⟩) | z
  · refine ⟨[a], [.lst (ns.map D.int)], [.ref 0], ⟨rfl, (by simp), fun i b o h1 h2 => ?_, tabs⟩, RDs.of (.cons (rd_ref rfl) .nil), ?_⟩
    · cases i with
      | zero =>
        cases h1; cases h2
        exact ⟨_, z, rds_intsV ns, hz⟩
      | succ i => simp at h1
    · rw [e2]
      exact fun _ _ b _ _ r => r.bl
  · exact frz ⟨hz, .inl ⟨o, z⟩⟩
  · exact frz ⟨hz, .inr z⟩
/-! ### what the written part says -/
section
variable {K : Frag} {mg : Str → Option Value} {h : Heap} {P : Program} {w : World} {base : Heap}
structure DefK (K : Frag) (x : Str) (st : Stmt) : Prop where
  ex : ∃ (f : Addr) (oc : Value) (od : Option Addr) (kV dc pm : Value) (an : Option Addr) (cd ct : Value) (sl : Array (Option Value)), nsIn K mainGlobals x = some (some (.ref f)) ∧
    K.lookup f = some ⟨oc, od, .func (fnOf x x (defArgs st) (defBody st) (defScope st) .none kV dc pm an cd ct), sl⟩ ∧ codeIn K cd x = true ∧ keepIn K (.ref f) = true
theorem defK {x : Str} {st : Stmt} {f : Addr} {oc : Value} {od : Option Addr} {kV dc pm : Value} {an : Option Addr} {cd ct : Value} {sl : Array (Option Value)} (a : nsIn K mainGlobals x = some (some (.ref f)))
    (l : K.lookup f = some ⟨oc, od, .func (fnOf x x (defArgs st) (defBody st) (defScope st) .none kV dc pm an cd ct), sl⟩) (c : codeIn K cd x = true) (k : keepIn K (.ref f) = true) : DefK K x st := ⟨⟨f, oc, od, kV, dc, pm, an, cd, ct, sl, a, l, c, k⟩⟩
abbrev BindP (x : Str) (st : Stmt) (ps : List Str) : Prop := ∀ (kV doc pm : Value) (an : Option Addr) (cdv ct : Value) (us : List Value), us.length = ps.length → bindArgs (fnOf x x (defArgs st) (defBody st) (defScope st) .none kV doc pm an cdv ct) ⟨us, []⟩ = pure (ps.zip us)
theorem DefK.at {x : Str} {st : Stmt} {ps : List Str} (D : DefK K x st) (X : K.In h) (G : h.Ns mainGlobals mg) (hb : BindP x st ps) : DefAt K mg x st ps := by
  obtain ⟨f, oc, od, kV, dc, pm, an, cd, ct, sl, a, l, c, k⟩ := D.ex
  have F := fun_mk (st := st) l c k
  exact ⟨f, _, mg_of X G a, F, F.binds hb⟩
structure DefKC (K : Frag) (x : Str) (st : Stmt) (c P : Addr) : Prop where
  ex : ∃ (f : Addr) (oc : Value) (od : Option Addr) (kV dc pm : Value) (an : Option Addr) (ct : Value) (sl : Array (Option Value)), nsIn K mainGlobals x = some (some (.ref f)) ∧
    K.lookup f = some ⟨oc, od, .func (fnOf x x (defArgs st) (defBody st) (defScope st) .none kV dc pm an (.ref c) ct), sl⟩ ∧ codeIn K (.ref c) x = true ∧ keepIn K (.ref f) = true
  tab : tabIn K x = some (c, P)
theorem defKC {x : Str} {st : Stmt} {f c P : Addr} {oc : Value} {od : Option Addr} {kV dc pm : Value} {an : Option Addr} {ct : Value} {sl : Array (Option Value)} {e : Value} {dd : Option Addr} {vs : Array Value} {sl2 : Array (Option Value)} (a : nsIn K mainGlobals x = some (some (.ref f)))
    (l : K.lookup f = some ⟨oc, od, .func (fnOf x x (defArgs st) (defBody st) (defScope st) .none kV dc pm an (.ref c) ct), sl⟩) (c1 : codeIn K (.ref c) x = true) (k : keepIn K (.ref f) = true)
    (t : K.lookup c = some ⟨e, dd, .fields vs, sl2⟩) (v : vs[11]? = some (.ref P)) : DefKC K x st c P := ⟨⟨f, oc, od, kV, dc, pm, an, ct, sl, a, l, c1, k⟩, by
      unfold tabIn
      rw [a]
      dsimp only
      rw [l]
      dsimp only [fnOf]
      rw [t]
      dsimp only
      rw [v]⟩
theorem DefKC.at {x : Str} {st : Stmt} {ps : List Str} {c P : Addr} (D : DefKC K x st c P) (X : K.In h) (G : h.Ns mainGlobals mg) (hb : BindP x st ps) : DefAtC K mg x st ps c := by
  obtain ⟨f, oc, od, kV, dc, pm, an, ct, sl, a, l, c1, k⟩ := D.ex
  have F := fun_mk (st := st) l c1 k
  exact ⟨f, _, mg_of X G a, F, F.binds hb, rfl⟩
/-- a class of errors, by the written part -/
structure ErrK (K : Frag) (c : Str) (C : Addr) : Prop where
  a : nsIn K mainGlobals c = some (some (.ref C))
  xL : ∃ (nm q : Str) (N : Addr) (bs bm : List Value) (sn : List Str) (sub : List Value) (ab : Bool) (col : Option Bool) (dd : Option Addr) (k0 k1 k2 k3 k5 : Option Value), K.lookup C = some (excClassObj nm q C N bs bm true sn sub ab col dd k0 k1 k2 k3 k5 "ValueError.__new__") ∧ PySem.HandSPX.refsVE bm = true
  sa : findIn K (.ref C) "__setattr__" = some (some (.builtin "object.__setattr__"))
  ga : findIn K (.ref C) "__getattribute__" = some (some (.builtin "BaseException.__getattribute__"))
  gg : findIn K (.ref C) "__getattr__" = some none
  nw : findIn K (.ref C) "what" = some none
  eC : subIn K (.ref C) (.type "BaseException") = some true
  tC : typeIn K (.ref C) = some (.type "type")
  kC : keepIn K (.ref C) = true
  hd : hasDictIn K C = true
  ic : isClsIn K C = true
  ini : ∃ (fI : Addr), findIn K (.ref C) "__init__" = some (some (.ref fI)) ∧ typeIn K (.ref fI) = some (.type "function")
theorem errK {c : Str} {C R : Addr} {nm q : Str} {N : Addr} {bs : List Value} {sn : List Str} {sub : List Value} {ab : Bool} {col : Option Bool} {dd : Option Addr} {m0 m1 m2 m3 m5 : Option Value} {fI : Addr} (a : nsIn K mainGlobals c = some (some (.ref C)))
    (xL : K.lookup C = some (excClassObj nm q C N bs [.ref R, .type "ValueError", .type "Exception", .type "BaseException", .type "object"] true sn sub ab col dd m0 m1 m2 m3 m5 "ValueError.__new__"))
    (sa : findIn K (.ref C) "__setattr__" = some (some (.builtin "object.__setattr__"))) (ga : findIn K (.ref C) "__getattribute__" = some (some (.builtin "BaseException.__getattribute__"))) (gg : findIn K (.ref C) "__getattr__" = some none) (nw : findIn K (.ref C) "what" = some none)
    (eC : subIn K (.ref C) (.type "BaseException") = some true) (tC : typeIn K (.ref C) = some (.type "type")) (kC : keepIn K (.ref C) = true) (hd : hasDictIn K C = true) (ic : isClsIn K C = true)
    (i1 : findIn K (.ref C) "__init__" = some (some (.ref fI))) (i2 : typeIn K (.ref fI) = some (.type "function")) : ErrK K c C := ⟨a, ⟨nm, q, N, bs, _, sn, sub, ab, col, dd, m0, m1, m2, m3, m5, xL, by rfl⟩, sa, ga, gg, nw, eC, tC, kC, hd, ic, fI, i1, i2⟩
theorem exm_of {C S : Addr} {b : Bool} (h1 : subIn K (.ref S) (.type "BaseException") = some true) (h2 : isClsIn K S = true) (h3 : typeIn K (.ref S) = some (.type "type")) (h4 : subIn K (.ref C) (.ref S) = some b) : exmOne K (.ref C) (.ref S) = some b := by
  have e1 : (subIn K (.ref S) (.type "BaseException") == some true) = true := by rw [h1] <;> rfl
  have e2 : ((clsIn K S).isSome && typeIn K (.ref S) == some (.type "type")) = true := by
    have h2' : (clsIn K S).isSome = true := h2
    rw [h2', h3] <;> rfl
  show (if (subIn K (.ref S) (.type "BaseException") == some true) = true then (if ((clsIn K S).isSome && typeIn K (.ref S) == some (.type "type")) = true then subIn K (.ref C) (.ref S) else none) else none) = some b
  rw [if_pos e1, if_pos e2]
  exact h4
theorem ErrK.xf {c : Str} {C : Addr} (E : ErrK K c C) : XfC K C := ⟨E.ga, E.gg, E.eC, E.hd⟩
theorem ErrK.exc {c : String} {C : Addr} (E : ErrK K (Str.ofString c) C) (X : K.In h) (G : h.Ns mainGlobals mg) (hI : ∀ fI : Addr, findIn K (.ref C) "__init__" = some (some (.ref fI)) → ∃ fd : FuncData, Binds K fd ["self", "what"] [] ∧ FnOk P w K mg base CX0 1 fI fd ["self", "what"] (spRef K)) : ExcAt P w K mg base c := by
  obtain ⟨fI, i1, i2⟩ := E.ini
  obtain ⟨fd, b1, b2⟩ := hI fI i1
  obtain ⟨nm, q, N, bs, bm, sn, sub, ab, col, dd, k0, k1, k2, k3, k5, xL, hbm⟩ := E.xL
  exact ⟨C, fI, fd, mg_of X G E.a, ⟨⟨nm, q, N, bs, bm, sn, sub, ab, col, dd, k0, k1, k2, k3, k5, xL, hbm⟩, E.sa, E.eC, E.tC, E.kC⟩, E.nw, i1, i2, b1, b2⟩
/-- the clauses' classes -/
theorem heardC {l : List (Addr × String)} (X : K.In h) (G : h.Ns mainGlobals mg) (E : ∀ p ∈ l, ErrK K (Str.ofString p.2) p.1) (S : ∀ p ∈ l, ∀ q ∈ l, subIn K (.ref p.1) (.ref q.1) = some (decide (p.2 = q.2))) : HeardC K mg l :=
  ⟨fun p hp => ⟨mg_of X G (E p hp).a, (E p hp).xf, (E p hp).nw, fun q hq => exm_of (E q hq).eC (E q hq).ic (E q hq).tC (S p hp q hq)⟩⟩
end
end Wk


set_option Elab.async false
set_option linter.all false
set_option maxRecDepth 100000
set_option maxHeartbeats 4000000
set_option autoImplicit false
/-! WkMore: slices, a tuple turned about, texts of numbers. -/
namespace HT
open PySem PySem.Spec PyProof.Rows L2
section
variable {prog : Program} {w : World} {A : Around} {E : Value → Shared → Prop} {s : Shared}
theorem wk_adjust_rev (n : Nat) : Builtin.Slice.sliceAdjust none none (-1) (n : Int) = ((n : Int) - 1, -1) := by
  unfold Builtin.Slice.sliceAdjust
  rfl
theorem wk_places_rev (n : Nat) : Builtin.Slice.slicePlaces ((n : Int) - 1) (-1) (-1) = n := by
  unfold Builtin.Slice.slicePlaces
  have e : ((n : Int) - 1 - -1 - 1) / - -1 = (n : Int) - 1 := by
    rw [Int.neg_neg, Int.ediv_one]; omega
  simp only [e]
  split
  · omega
  · split <;> omega
theorem wk_sliceApplied_rev {sl : Addr} {vl vu vs : Value} {n : Nat} {Q : Int × Int × Nat → Shared → Prop} (hs : s.heap.IsSliceOf sl vl vu vs) (pl : IsPart vl none) (pu : IsPart vu none) (ps : IsPart vs (some (-1)))
    (h : Q ((n : Int) - 1, -1, n) s) : wpAny (model prog w) A (Builtin.Slice.sliceApplied (.ref sl) (pure (n : Int))) Q E s := by
  obtain ⟨os, hos, hcs, hds⟩ := id hs
  unfold Builtin.Slice.sliceApplied Builtin.Slice.sliceFields
  refine wpAny_bind (wpAny_bind (wpAny_field hos hds (x := vl) rfl (wpAny_bind (wpAny_field hos hds (x := vu) rfl (wpAny_bind (wpAny_field hos hds (x := vs) rfl (wpAny_pure ?_)))))))
  refine wpAny_bind (slicePart_ ps ?_)
  show wpAny _ _ (if ((-1 : Int) == 0) = true then _ else _) _ _ s
  rw [if_neg (by decide)]
  refine wpAny_bind (slicePart_ pl (wpAny_bind (slicePart_ pu (wpAny_bind (wpAny_pure ?_)))))
  show wpAny _ _ (match Builtin.Slice.sliceAdjust none none (-1) (n : Int) with | (lo, hi) => pure (lo, (-1 : Int), Builtin.Slice.slicePlaces lo hi (-1))) _ _ s
  rw [wk_adjust_rev]
  show wpAny _ _ (pure ((n : Int) - 1, (-1 : Int), Builtin.Slice.slicePlaces ((n : Int) - 1) (-1) (-1))) _ _ s
  rw [wk_places_rev]
  exact wpAny_pure h
theorem wk_filterMap_some {α β : Type} {f : α → Option β} {g : α → β} : ∀ {l : List α}, (∀ a ∈ l, f a = some (g a)) → l.filterMap f = l.map g
  | [], _ => rfl
  | a :: l, h => by
    rw [List.filterMap_cons, h a List.mem_cons_self]
    dsimp only
    rw [wk_filterMap_some fun b hb => h b (List.mem_cons_of_mem _ hb), List.map_cons]
theorem wk_pick_rev (xs : Array Value) : ((List.range xs.size).filterMap fun (m : Nat) => xs[(((xs.size : Int) - 1) + (m : Int) * (-1)).toNat]?).toArray = xs.toList.reverse.toArray := by
  congr 1
  have e : (List.range xs.size).filterMap (fun (m : Nat) => xs[(((xs.size : Int) - 1) + (m : Int) * (-1)).toNat]?) = (List.range xs.size).map fun (m : Nat) => xs.toList.reverse.getD m .none := by
    refine wk_filterMap_some fun m hm => ?_
    have hm' := List.mem_range.mp hm
    have e1 : (((xs.size : Int) - 1) + (m : Int) * (-1)).toNat = xs.size - 1 - m := by omega
    have hl : m < xs.toList.reverse.length := by simpa using hm'
    rw [e1, List.getD_eq_getElem?_getD, List.getElem?_eq_getElem hl, Option.getD_some, List.getElem_reverse]
    simp
  rw [e]
  refine List.ext_getElem (by simp) fun i h1 h2 => ?_
  simp [List.getD_eq_getElem?_getD]
  simp at h1
  rw [List.getElem?_eq_getElem (by simpa using h1)]
  simp
theorem wk_getItem_tuple_rev {t sl : Addr} {items : Array Value} {vl vu vs : Value} {Q : Value → Shared → Prop} (ht : IsTup s.heap t items) (hs : s.heap.IsSliceOf sl vl vu vs) (pl : IsPart vl none) (pu : IsPart vu none) (ps : IsPart vs (some (-1)))
    (h : Q (.ref s.heap.objs.size) { s with heap := s.heap.push { cls := .type "tuple", data := .seq items.toList.reverse.toArray } })
    (hsz : items.size ≤ sizeLine) : wpAny (model prog w) A (getItem (.ref t) (.ref sl)) Q E s := by
  have htake : sizeOk (.seq items.toList.reverse.toArray) := by
    show items.toList.reverse.toArray.size ≤ sizeLine
    rw [List.size_toArray, List.length_reverse, Array.length_toList]
    exact hsz
  obtain ⟨os, hos, hcs, hds⟩ := id hs
  have hTs : s.TypeIs (.ref sl) "slice" := ⟨os, hos, hcs⟩
  unfold getItem
  try with_reducible refine wpAny_holding ?_
  first | refine wpAny_bind (wpAny_pure ?_) | skip
  refine wpAny_bind (wpAny_sequenceKey ht.typeIs (by decide) ?_)
  refine wpAny_bind (wpAny_callSpecial?_slot (name := Str.ofString "__getitem__") ht.typeIs PyProof.Rows.slot_tuple_getitem
    (wpAny_call_entry PyProof.Rows.slot_tuple_getitem ht.typeIs entry_tuple_getitem ?_ (args_tuple_getitem _ _)))
  show wpAny _ _ (Builtin.Tuple.tupleItemsOf (.ref t) >>= _) _ _ s
  refine wpAny_bind (tupleItemsOf_ ht ?_)
  refine wpAny_bind (wpAny_typeOf hTs ?_)
  rw [if_pos (by decide)]
  refine wpAny_bind (wk_sliceApplied_rev hs pl pu ps ?_)
  have hno : ¬ ((((items.size : Int) - 1) == 0 && (-1 : Int) == 1 && items.size == items.size) = true) := by
    intro q
    rw [Bool.and_eq_true, Bool.and_eq_true] at q
    exact absurd q.1.2 (by decide)
  show wpAny _ _ (if (((items.size : Int) - 1) == 0 && (-1 : Int) == 1 && items.size == items.size) = true then _ else _) _ _ s
  rw [if_neg hno, wk_pick_rev]
  first
    | exact wpAny_bind (m := Builtin.Tuple.tupleExact _) (wpAny_newObj_type (wpAny_pure ⟨_, rfl, wpAny_pure h⟩) htake)
    | exact wpAny_bind (m := Builtin.Tuple.tupleExact _) (wpAny_newObj_type (wpAny_bind (wpAny_pure (wpAny_pure ⟨_, rfl, wpAny_pure h⟩))) htake)
    | exact wpAny_bind (wpAny_bind (m := Builtin.Tuple.tupleExact _) (wpAny_newObj_type (wpAny_pure (wpAny_pure ⟨_, rfl, wpAny_pure h⟩)) htake))
    | exact wpAny_bind (wpAny_bind (m := Builtin.Tuple.tupleExact _) (wpAny_newObj_type (wpAny_pure ⟨_, rfl, wpAny_pure h⟩) htake))
end
end HT
namespace L2
open PySem PySem.Spec PyProof.Rows
def tRevA (K : PySem.W.Frag) (te : TE) : TE := fun σ H Q => te σ H fun x H1 => ∃ a xs, x = .ref a ∧ ((SqL K H1 a xs ∧ ∀ p, H1 p = none → Q (.ref p) (upd H1 p (.lst xs.reverse))) ∨ (SqT K H1 a xs ∧ ∀ p, H1 p = none → Q (.ref p) (upd H1 p (.tup xs.reverse))))
theorem pe_revA {X : Cx} {e : Expr} {te : TE} {k : Nat} {p1 p2 p3 pos : Pos} (he : PE X e te) : PE X (.Subscript e (.Slice none none (some (.UnaryOp .USub (.Constant (.int 1) k p1) p2)) p3) pos) (tRevA X.K te) := by
  refine ⟨fun pins s σ H Q I h => ?_⟩
  refine Subscript_ (thn (he.run pins s σ H _ I h) fun v s1 ⟨x, H1, I1, r1, q1⟩ => ?_)
  obtain ⟨a, xs, ex, q1⟩ := q1
  subst ex
  cases r1
  have hst : PO X (some (.UnaryOp .USub (.Constant (.int 1) k p1) p2)) (tPart (tUn (rU fun i => .int (-i)) (tC (.int 1)))) := po_some (pe_un un_neg pe_int)
  refine wpAny_Slice (thn (po_none.run pins s1 σ H1 (fun o H2 => o = none ∧ H2 = H1) I1 ⟨rfl, rfl⟩) fun vl s2 ⟨l, H2, I2, pl, el, e2⟩ => ?_)
  subst el e2
  refine thn (po_none.run pins s2 σ H2 (fun o H3 => o = none ∧ H3 = H2) I2 ⟨rfl, rfl⟩) fun vu s3 ⟨u, H3, I3, pu, eu, e3⟩ => ?_
  subst eu e3
  refine thn (hst.run pins s3 σ H3 (fun o H4 => o = some (-1) ∧ H4 = H3) I3 ⟨1, rfl, -1, rfl, rfl, rfl⟩) fun vs s4 ⟨o, H4, I4, ps, eo, e4⟩ => ?_
  subst eo e4
  have I5 : Inv X pins σ H4 { s4 with heap := s4.heap.push { cls := .type "slice", data := .fields #[vl, vu, vs] } } := I4.kept (t' := s4.toks) fun b ob q => Heap.get?_push_of_some _ q
  show wpAny (model X.prog X.w) X.A (subscriptTail e (.Slice none none (some (.UnaryOp .USub (.Constant (.int 1) k p1) p2)) p3) (.ref a) (.ref s4.heap.objs.size)) (EP X pins σ Q) X.xe { s4 with heap := s4.heap.push { cls := .type "slice", data := .fields #[vl, vu, vs] } }
  rcases q1 with ⟨hx, q⟩ | ⟨hx, q⟩
  · obtain ⟨its, r, ht, hz⟩ := I5.list hx
    have hlen := r.length
    refine tail_any (ops := [.ref a, .ref s4.heap.objs.size]) ht.isList.typeIs (PySem.slot_list_getitem.lookup) ?_ (by with_unfolding_all rfl)
    refine wpAny_getItem_list_slice ht.isList (Heap.IsSliceOf.new _ vl vu vs) pl pu ps (by decide) ?_ (by rw [List.size_toArray]; omega)
    rw [PySem.W.krv_pick]
    refine ⟨.ref _, _, I5.laid (t' := s4.toks) (o := .lst xs.reverse) (fun b ob q => Heap.get?_push_of_some _ q) (Nat.le_refl _) ?_, rfl, q _ (I5.hok.fresh (Nat.le_refl _))⟩
    exact ⟨by rw [List.length_reverse]; exact hz, _, 0, r.reverse, Heap.get?_push_size _ rfl⟩
  · obtain ⟨its, r, ht, hz⟩ := I5.tuple hx
    have hlen := r.length
    refine tail_any (ops := [.ref a, .ref s4.heap.objs.size]) ht.typeIs (PyProof.Rows.slot_tuple_getitem.lookup) ?_ (by with_unfolding_all rfl)
    refine HT.wk_getItem_tuple_rev ht (Heap.IsSliceOf.new _ vl vu vs) pl pu ps ?_ (by rw [List.size_toArray]; omega)
    refine ⟨.ref _, _, I5.laid (t' := s4.toks) (o := .tup xs.reverse) (fun b ob q => Heap.get?_push_of_some _ q) (Nat.le_refl _) ?_, rfl, q _ (I5.hok.fresh (Nat.le_refl _))⟩
    exact ⟨by rw [List.length_reverse]; exact hz, _, r.reverse, IsTup.new _ _⟩
end L2
namespace Wk
open PySem PySem.Spec PyProof.Rows L2
theorem slIx_eq (n d : Nat) (o : Option Int) : slIx n d o = HT.sIx n d o := by
  cases o with
  | none => rfl
  | some v =>
    show (if 0 ≤ v then min v.toNat n else (v + n).toNat) = (if v < 0 then (v + (n : Int)).toNat else min v.toNat n)
    by_cases h : 0 ≤ v
    · rw [if_pos h, if_neg (by omega)]
    · rw [if_neg h, if_pos (by omega)]
theorem cutD_pair {α : D → V → Prop} {ds : List D} {vs : List V} (r : Paired α ds vs) (lo hi : Option Int) : Paired α (cutD ds lo hi) (cutV vs lo hi) := by
  unfold cutD cutV
  rw [slIx_eq, slIx_eq, r.length]
  exact Paired.takeN _ (Paired.dropN _ r)
section
variable {X : Cx} {T : Tbs} {W : WX} {pos : Pos} {a b c : Expr} {fa fb fc : FE}
/-- a slice's part -/
def TOf (X : Cx) (T : Tbs) (W : WX) (f : FO) : TO := fun σ H Q => ∃ ρ S s, RS X.K T ρ S H ∧ RE X.K ρ H s σ ∧ Post X.K X.mg T (WE W σ) ρ H (fun _ _ x y => x = y) Q (f s S)
abbrev EO (X : Cx) (T : Tbs) (W : WX) (e : Option Expr) (f : FO) : Prop := PO X e (TOf X T W f)
theorem PO.imp {X : Cx} {e : Option Expr} {t t' : TO} (h : PO X e t) (i : ∀ σ H Q, t' σ H Q → t σ H Q) : PO X e t' := ⟨fun pins s σ H Q I q => h.run pins s σ H Q I (i σ H Q q)⟩
theorem eo_none : EO X T W none oNone := by
  refine PO.imp po_none ?_
  rintro σ H Q ⟨ρ, S, s, rs, re, h⟩
  exact h ρ H none (Le.refl _ _) rs rfl
theorem eo_some (he : EV X T W a fa) : EO X T W (some a) (oSome fa) := by
  refine PO.imp (po_some he) ?_
  rintro σ H Q ⟨ρ, S, s, rs, re, h⟩
  refine ⟨ρ, S, s, rs, re, (Post.bind (R := RD X.K) h).imp ?_⟩
  rintro v H1 ⟨ρ1, S1, x, l1, rs1, rd1, h1⟩
  cases x with
  | int i => exact ⟨i, rd1.int, h1 ρ1 H1 (some i) (Le.refl _ _) rs1 rfl⟩
  | _ => exact (show False from h1).elim
theorem ev_slice {lo hi : Option Expr} {fl fh : FO} {p2 : Pos} (he : EV X T W a fa) (hl : EO X T W lo fl) (hh : EO X T W hi fh) : EV X T W (.Subscript a (.Slice lo hi none p2) pos) (eSlice fa fl fh) := by
  refine PE.imp (pe_slice (SlR.or sl_tupA sl_list) he hl hh) ?_
  rintro σ H Q ⟨ρ, S, s, rs, re, h⟩
  refine ⟨ρ, S, s, rs, re, (Post.bind (R := RD X.K) h).imp ?_⟩
  rintro v H1 ⟨ρ1, S1, x, l1, rs1, rd1, h1⟩
  refine ⟨ρ1, S1, s, rs1, re.le rs l1, (Post.bind (R := fun _ _ x y => x = y) h1).imp ?_⟩
  rintro l H2 ⟨ρ2, S2, l', l2, rs2, el, h2⟩
  obtain rfl : l' = l := el
  refine ⟨ρ2, S2, s, rs2, (re.le rs l1).le rs1 l2, (Post.bind (R := fun _ _ x y => x = y) h2).imp ?_⟩
  rintro u H3 ⟨ρ3, S3, u', l3, rs3, eu, h3⟩
  obtain rfl : u' = u := eu
  have rd3 := (rd1.le rs1 l2).le rs2 l3
  cases x with
  | tup ds =>
    obtain ⟨p, vs, rfl, ta, ra⟩ := rd3.tup
    refine .inl ⟨p, vs, rfl, ta.sq, fun hw => ?_, fun _ q hq => ?_⟩
    · have e : cutD ds l' u' = ds := by
        unfold cutD
        rw [slIx_eq, slIx_eq, ra.len, hw.1, hw.2, List.drop_zero, Nat.sub_zero, ← ra.len, List.take_length]
      have h3' : Post X.K X.mg T (WE W σ) ρ3 H3 (RD X.K) Q (.ok (.tup (cutD ds l' u')) S3) := h3
      rw [e] at h3'
      exact h3' ρ3 H3 _ (Le.refl _ _) rs3 rd3
    · obtain ⟨q1, q2, q3⟩ := tup_new rs3 hq (RDs.of (cutD_pair ra.pair l' u')) (Nat.le_trans (cutV_length vs l' u') ta.1)
      exact h3 _ _ _ q1 q2 q3
  | ref r =>
    unfold slD at h3
    dsimp only at h3
    split at h3
    · rename_i ds e
      obtain ⟨p, vs, rfl, hp, hv, ra, za⟩ := rs3.lstAt rd3 e
      refine .inr ⟨p, vs, rfl, SqL.of hv, fun q hq => ?_⟩
      obtain ⟨q1, q2, q3⟩ := lst_new rs3 hq (RDs.of (cutD_pair ra.pair l' u')) (Nat.le_trans (cutV_length vs l' u') za)
      exact h3 _ _ _ q1 q2 q3
    · exact (show False from h3).elim
  | _ => exact (show False from h3).elim
theorem ev_revA {k : Nat} {p1 p2 p3 : Pos} (ha : EV X T W a fa) : EV X T W (.Subscript a (.Slice none none (some (.UnaryOp .USub (.Constant (.int 1) k p1) p2)) p3) pos) (eUn fRevA fa) := by
  refine PE.imp (pe_revA ha) ?_
  rintro σ H Q ⟨ρ, S, s, rs, re, h⟩
  refine ⟨ρ, S, s, rs, re, (Post.bind (R := RD X.K) h).imp ?_⟩
  rintro v H1 ⟨ρ1, S1, x, l1, rs1, rd1, h1⟩
  cases x with
  | tup ds =>
    obtain ⟨p, vs, rfl, ta, ra⟩ := rd1.tup
    refine ⟨p, vs, rfl, .inr ⟨ta.sq, fun q hq => ?_⟩⟩
    obtain ⟨q1, q2, q3⟩ := tup_new rs1 hq (RDs.of (Paired.rev ra.pair)) (by rw [List.length_reverse]; exact ta.1)
    exact h1 _ _ _ q1 q2 q3
  | ref l =>
    unfold fRevA fRevL at h1
    dsimp only at h1
    split at h1
    · rename_i ds e
      obtain ⟨p, vs, rfl, hp, hv, ra, za⟩ := rs1.lstAt rd1 e
      refine ⟨p, vs, rfl, .inl ⟨SqL.of hv, fun q hq => ?_⟩⟩
      obtain ⟨q1, q2, q3⟩ := lst_new rs1 hq (RDs.of (Paired.rev ra.pair)) (by rw [List.length_reverse]; exact za)
      exact h1 _ _ _ q1 q2 q3
    · exact (show False from h1).elim
  | _ => exact (show False from h1).elim
theorem os_notB : OpR X (compareOp .IsNot) (fun x y H Q => ∃ a b, x = .bl a ∧ y = .bl b ∧ Q (.bl (!decide (a = b))) H) ∧ OpS X T (fun x y H Q => ∃ a b, x = .bl a ∧ y = .bl b ∧ Q (.bl (!decide (a = b))) H) oNotB := by
  refine ⟨op_isnot_bl, ?_⟩
  intro E ρ S H x y v w Q rs rx ry h
  cases x with
  | bl i =>
    cases y with
    | bl j => exact ⟨i, j, rx.bl, ry.bl, h ρ H _ (Le.refl _ _) rs rd_bl⟩
    | _ => exact (show False from h).elim
  | _ => cases y <;> exact (show False from h).elim
abbrev rStr : List V → Hp → VK → Prop := fun xs H Q => (fun xs H Q => ∃ i, xs = [.int i] ∧ i.natAbs.log2 < 1920 ∧ Q (.str (toString i)) H) xs H Q ∨ (fun xs H Q => ∃ a, xs = [.str a] ∧ Q (.str a) H) xs H Q
theorem os_str : CallR X (.type "str") rStr ∧ C1S X T rStr fStrI := by
  refine ⟨CallR.or call_str_int SkE.call_str_str, ?_⟩
  intro E ρ S H x v Q rs rx h
  cases x with
  | int i =>
    unfold fStrI at h
    dsimp only at h
    by_cases c : i.natAbs.log2 < 1920
    · rw [if_pos c] at h
      exact .inl ⟨i, by rw [rx.int], c, h ρ H _ (Le.refl _ _) rs rd_str⟩
    · rw [if_neg c] at h; exact (show False from h).elim
  | str z => exact .inr ⟨z, by rw [rx.str], h ρ H _ (Le.refl _ _) rs rd_str⟩
  | _ => exact (show False from h).elim
end
end Wk


set_option Elab.async false
set_option linter.all false
set_option maxRecDepth 100000
set_option maxHeartbeats 4000000
set_option autoImplicit false
/-! WkMore2: all, any of a list of truths; where a thing stands in a list, a thing taken out of a list; starred lists. -/
namespace L2
open PySem PySem.Spec PyProof.Rows
section
variable {X : Cx}
/-- l.remove(x): the first equal one is gone -/
def rRemD (K : PySem.W.Frag) : V → List V → Hp → VK → Prop := fun x xs H Q => ∃ (a : Addr) (y : V) (ys : List V) (d : PyData) (ds : List PyData) (j : Nat) (z : PyData), x = V.ref a ∧ xs = [y] ∧ H a = some (.lst ys) ∧ DpAll K H ys ds ∧ Dp K H y d ∧
  SeqAt.shaped (.list ds) = true ∧ SeqAt.shaped d = true ∧ ds[j]? = some z ∧ PyData.eqv z d = true ∧ (∀ (m : Nat) (z' : PyData), m < j → ds[m]? = some z' → PyData.eqv z' d = false) ∧ Q .non (upd H a (.lst (ys.eraseIdx j)))
theorem mt_remD (hu : X.A.units + 65 < cLine) : MtR X "list.remove" (rRemD X.K) := by
  intro pins s σ H x xs v us Q I rx rxs h
  obtain ⟨a, y, ys, d, ds, j, z, rfl, rfl, hH, hl, hy, sl, sd, hz, hzj, hno, q⟩ := h
  cases rx
  cases rxs with
  | cons ry rt =>
    rename_i uy ut
    cases rt
    obtain ⟨bs, r1⟩ := Dp.reads I d y uy hy ry
    have hxs : PyData.canLayAll0 ds = true := SeqAt.canLay_of_shaped sl
    have hroom : X.A.units + 1 + min (PyData.depthAll ds) d.depth < cLine := room_in_shaped sd hu
    obtain ⟨zl, its, n, rv, hlen, ho⟩ := I.lstM hH
    obtain ⟨as, h4⟩ := Dp.readsAll I ds _ its hl rv
    have hn : its.length = ds.length := SeqAt.ReadsAll.length ds its as h4
    have hmap : its.map (SeqAt.readOf s.heap) = ds := SeqAt.readsAll_map ds its as hxs h4
    obtain ⟨hjd, _⟩ := List.getElem?_eq_some_iff.mp hz
    have hjl : j < its.length := by omega
    have hj : j < its.toArray.size := by simpa using hjl
    have at_ : ∀ (m : Nat) (hm : m < its.toArray.size) (z' : PyData), ds[m]? = some z' → SeqAt.readOf s.heap its.toArray[m] = z' := by
      intro m hm z' hz'
      have hml : m < its.length := by simpa using hm
      rw [← hmap, List.getElem?_map, List.getElem?_eq_getElem hml] at hz'
      have e1 : SeqAt.readOf s.heap its[m] = z' := Option.some.inj (show some (SeqAt.readOf s.heap its[m]) = some z' from hz')
      simpa using e1
    refine call_meets PySem.F.slot_list_remove ⟨_, ho, rfl⟩ PySem.F.entry_list_remove (PySem.F.args_list_remove_2 _ _)
      (SeqAt.list_removeAt a its.toArray n none #[] uy (fun u => PyData.eqv (SeqAt.readOf s.heap u) d) j hj ?_ ?_ (by rw [List.size_toArray]; omega)) ⟨ho, SeqAt.items_eqAt (vs := its.toArray) (show ReadsAll s.heap its.toArray.toList ds as from h4) r1 hxs (SeqAt.canLay_of_shaped sd) hroom, ?_⟩
    · show PyData.eqv (SeqAt.readOf s.heap its.toArray[j]) d = true
      rw [at_ j hj z hz]
      exact hzj
    · intro m hm hmj
      have hmd : m < ds.length := by omega
      have hz' : ds[m]? = some ds[m] := List.getElem?_eq_getElem hmd
      show PyData.eqv (SeqAt.readOf s.heap its.toArray[m]) d = false
      rw [at_ m hm _ hz']
      exact hno m _ hmj hz'
    · refine ⟨.non, _, I.lset (its' := its.eraseIdx j) hH ho ?_ (rv.eraseIdx j) ?_, rfl, q⟩
      · show its.toArray.eraseIdxIfInBounds j = (its.eraseIdx j).toArray
        rw [List.eraseIdxIfInBounds_toArray]
      · have := len_erase ys j
        omega
end
end L2
namespace Wk
open PySem PySem.Spec PyProof.Rows L2
section
variable {X : Cx} {T : Tbs} {W : WX} {pos : Pos} {a b c : Expr} {fa fb fc : FE}
theorem blsD_v {K : PySem.W.Frag} {ρ : List Addr} {H : Hp} : ∀ {ds : List D} {vs : List V} {ns : List Bool}, blsD ds = some ns → RDs K ρ H ds vs → vs = ns.map V.bl
  | [], vs, ns, h, r => by unfold blsD at h; cases h; unfold RDs at r; subst r; rfl
  | d :: ds, vs, ns, h, r => by
    unfold RDs at r
    obtain ⟨v, w, rfl, r1, r2⟩ := r
    cases d with
    | bl i =>
      unfold blsD at h
      split at h
      · rename_i is e
        cases h
        rw [blsD_v e r2, r1.bl]; rfl
      · cases h
    | _ => unfold blsD at h; cases h
theorem allBy_s {f : List Bool → Bool} : C1S X T (fun vs H Q => ∃ (a : Addr) (bs : List Bool), vs = [V.ref a] ∧ SqL X.K H a (bs.map V.bl) ∧ Q (.bl (f bs)) H) (fAllBy f) := by
  intro E ρ S H x v Q rs rx h
  cases x with
  | ref l =>
    unfold fAllBy at h
    dsimp only at h
    cases e0 : S[l]? with
    | none => rw [e0] at h; exact (show False from h).elim
    | some ob =>
      rw [e0] at h
      cases ob with
      | lst ds =>
        dsimp only at h
        cases e1 : blsD ds with
        | none => rw [e1] at h; exact (show False from h).elim
        | some bs =>
          rw [e1] at h
          obtain ⟨p, vs, rfl, hp, hv, ra, za⟩ := rs.lstAt rx e0
          have ev := blsD_v e1 ra
          subst ev
          exact ⟨p, bs, rfl, SqL.of hv, h ρ H _ (Le.refl _ _) rs rd_bl⟩
      | _ => exact (show False from h).elim
  | _ => exact (show False from h).elim
theorem os_all (hc : X.calm = true) : CallR X (.builtin "all") (rAll X.K) ∧ C1S X T (rAll X.K) fAll := ⟨cr_all hc, allBy_s⟩
theorem os_any (hc : X.calm = true) : CallR X (.builtin "any") (rAny X.K) ∧ C1S X T (rAny X.K) fAny := ⟨cr_any hc, allBy_s⟩

/-! ### where a thing stands -/
theorem pyPs_map : ∀ qs : List P, pyPs qs = qs.map pyP
  | [] => by simp [pyPs]
  | q :: qs => by simp [pyPs, pyPs_map qs]
theorem idxD_at {ρ : List Addr} {S : Store} {H : Hp} {y : D} {l j : Nat} {v w : V} (rs : RS X.K T ρ S H) (rx : RD X.K ρ H (.ref l) v) (ry : RD X.K ρ H y w) (h : idxD S y l = some j) :
    ∃ (d : PyData) (ds : List PyData) (z : PyData), Dp X.K H v (.list ds) ∧ Dp X.K H w d ∧ SeqAt.shaped (.list ds) = true ∧ SeqAt.shaped d = true ∧ ds[j]? = some z ∧ PyData.eqv z d = true ∧ ∀ (m : Nat) (z' : PyData), m < j → ds[m]? = some z' → PyData.eqv z' d = false := by
  unfold idxD at h
  cases e1 : toP S 60 y with
  | none => rw [e1] at h; cases h
  | some p =>
    cases e2 : toP S 60 (.ref l) with
    | none => rw [e1, e2] at h; cases h
    | some q =>
      rw [e1, e2] at h
      cases q with
      | lst qs =>
        dsimp only at h
        obtain ⟨a1, a2, a3⟩ := toP_dp rs 60 y p w e1 ry
        obtain ⟨b1, b2, b3⟩ := toP_dp rs 60 (.ref l) (.lst qs) v e2 rx
        have s1 : SeqAt.shaped (pyP p) = true := by unfold SeqAt.shaped; rw [a2, decide_eq_true (by omega)]; rfl
        have s2 : SeqAt.shaped (pyP (.lst qs)) = true := by unfold SeqAt.shaped; rw [b2, decide_eq_true (by omega)]; rfl
        unfold pyP at b1 s2
        rw [pyPs_map] at b1 s2
        obtain ⟨h1, h2, h3⟩ := List.findIdx?_eq_some_iff_getElem.mp h
        refine ⟨pyP p, qs.map pyP, pyP qs[j], b1, a1, s2, s1, by rw [List.getElem?_map, List.getElem?_eq_getElem h1]; rfl, by rw [eqv_py]; exact h2, fun m z' hm hz' => ?_⟩
        have hml : m < qs.length := by omega
        rw [List.getElem?_map, List.getElem?_eq_getElem hml] at hz'
        cases hz'
        rw [eqv_py]
        have := h3 m hm
        simpa using this
      | _ => cases h
theorem toPs_dp {ρ : List Addr} {S : Store} {H : Hp} (rs : RS X.K T ρ S H) (n : Nat) : ∀ (ds : List D) (ps : List P) (vs : List V), ds.mapM (toP S n) = some ps → RDs X.K ρ H ds vs → DpAll X.K H vs (pyPs ps) ∧ PyData.canLayAll0 (pyPs ps) = true ∧ PyData.depthAll (pyPs ps) ≤ n := by
  intro ds
  induction ds with
  | nil =>
    intro ps vs h r
    simp at h
    subst h
    have : vs = [] := by unfold RDs at r; exact r
    subst this
    exact ⟨by unfold pyPs; exact .nil, by simp [pyPs, PyData.canLayAll0], by simp [pyPs, PyData.depthAll]⟩
  | cons d ds ih2 =>
    intro ps vs h r
    rw [List.mapM_cons] at h
    unfold RDs at r
    obtain ⟨v, w, rfl, r1, r2⟩ := r
    cases e1 : toP S n d with
    | none => rw [e1] at h; simp at h
    | some p =>
      cases e2 : ds.mapM (toP S n) with
      | none => rw [e1, e2] at h; simp at h
      | some qs =>
        rw [e1, e2] at h
        simp at h
        subst h
        obtain ⟨a1, a2, a3⟩ := toP_dp rs n d p v e1 r1
        obtain ⟨b1, b2, b3⟩ := ih2 qs w e2 r2
        refine ⟨by unfold pyPs; exact .cons a1 b1, by simp only [pyPs, PyData.canLayAll0, a2, b2]; rfl, ?_⟩
        simp only [pyPs, PyData.depthAll]
        omega
theorem idxD_atL {ρ : List Addr} {S : Store} {H : Hp} {y : D} {l j : Nat} {xs : List D} {w : V} {vs : List V} (rs : RS X.K T ρ S H) (hl : S[l]? = some (.lst xs)) (rx : RDs X.K ρ H xs vs) (ry : RD X.K ρ H y w) (h : idxD S y l = some j) :
    ∃ (d : PyData) (ds : List PyData) (z : PyData), DpAll X.K H vs ds ∧ Dp X.K H w d ∧ SeqAt.shaped (.list ds) = true ∧ SeqAt.shaped d = true ∧ ds[j]? = some z ∧ PyData.eqv z d = true ∧ ∀ (m : Nat) (z' : PyData), m < j → ds[m]? = some z' → PyData.eqv z' d = false := by
  unfold idxD at h
  cases e1 : toP S 60 y with
  | none => rw [e1] at h; cases h
  | some p =>
    cases e3 : xs.mapM (toP S 59) with
    | none =>
      have e2 : toP S 60 (.ref l) = none := by unfold toP; rw [hl]; dsimp only; rw [e3]
      rw [e1, e2] at h; cases h
    | some qs =>
      have e2 : toP S 60 (.ref l) = some (.lst qs) := by unfold toP; rw [hl]; dsimp only; rw [e3]
      rw [e1, e2] at h
      dsimp only at h
      obtain ⟨a1, a2, a3⟩ := toP_dp rs 60 y p w e1 ry
      obtain ⟨b1, b2, b3⟩ := toPs_dp rs 59 xs qs vs e3 rx
      have s1 : SeqAt.shaped (pyP p) = true := by unfold SeqAt.shaped; rw [a2, decide_eq_true (by omega)]; rfl
      have s2 : SeqAt.shaped (.list (pyPs qs)) = true := by
        unfold SeqAt.shaped
        rw [show PyData.canLay0 (.list (pyPs qs)) = true from by simp only [PyData.canLay0]; exact b2, decide_eq_true (by simp only [PyData.depth]; omega)]
        rfl
      rw [pyPs_map] at b1 s2
      obtain ⟨h1, h2, h3⟩ := List.findIdx?_eq_some_iff_getElem.mp h
      refine ⟨pyP p, qs.map pyP, pyP qs[j], b1, a1, s2, s1, by rw [List.getElem?_map, List.getElem?_eq_getElem h1]; rfl, by rw [eqv_py]; exact h2, fun m z' hm hz' => ?_⟩
      have hml : m < qs.length := by omega
      rw [List.getElem?_map, List.getElem?_eq_getElem hml] at hz'
      cases hz'
      rw [eqv_py]
      have := h3 m hm
      simpa using this
theorem os_index {k : Nat} (hr : Room k X.A) : MtR X "list.index" (rIndexD X.K) ∧ M1S X T (rIndexD X.K) oIndex := by
  refine ⟨mt_indexD (by have := hr.un; omega), ?_⟩
  intro E ρ S H x y v w Q rs rx ry h
  cases x with
  | ref l =>
    unfold oIndex at h
    dsimp only at h
    cases e : idxD S y l with
    | none => rw [e] at h; exact (show False from h).elim
    | some j =>
      rw [e] at h
      obtain ⟨d, ds, z, h1, h2, h3, h4, h5, h6, h7⟩ := idxD_at rs rx ry e
      obtain ⟨p, rfl, _⟩ := rx.ref
      exact ⟨p, w, d, ds, j, z, rfl, rfl, h1, h2, h3, h4, h5, h6, h7, h ρ H _ (Le.refl _ _) rs rd_int⟩
  | _ => exact (show False from h).elim
theorem os_remove {k : Nat} (hr : Room k X.A) : MtR X "list.remove" (rRemD X.K) ∧ M1S X T (rRemD X.K) oRemove := by
  refine ⟨mt_remD (by have := hr.un; omega), ?_⟩
  intro E ρ S H x y v w Q rs rx ry h
  cases x with
  | ref l =>
    unfold oRemove at h
    dsimp only at h
    split at h
    · rename_i xs e0
      cases e : idxD S y l with
      | none => rw [e] at h; exact (show False from h).elim
      | some j =>
        rw [e] at h
        obtain ⟨p, vs, rfl, hp, hv, ra, za⟩ := rs.lstAt rx e0
        obtain ⟨d, ds, z, h1, h2, h3, h4, h5, h6, h7⟩ := idxD_atL rs e0 ra ry e
        obtain ⟨q1, q2⟩ := lst_write rs hp e0 (RDs.of (Paired.erase1 j ra.pair)) (by have := len_erase vs j; omega)
        exact ⟨p, w, vs, d, ds, j, z, rfl, rfl, hv, h1, h2, h3, h4, h5, h6, h7, h ρ _ _ q1 q2 rd_non⟩
    · exact (show False from h).elim
  | _ => exact (show False from h).elim

/-! ### starred -/
theorem ea_star {e : Expr} {es : List Expr} {f : FE} {g : FA} {p : Pos} (ha : EV X T W e f) (hr : EA X T W es g) (hs : starEach (.Starred e p :: es) X.env = (true, eval e X.env) :: starEach es X.env := by rfl) : EA X T W (.Starred e p :: es) (aStar f g) := by
  refine PA.imp (StX.pa_star ha hr hs) ?_
  rintro σ H Q ⟨ρ, S, s, rs, re, h⟩
  refine ⟨ρ, S, s, rs, re, (Post.bind (R := RD X.K) h).imp ?_⟩
  rintro x H1 ⟨ρ1, S1, d, l1, rs1, rd1, h1⟩
  cases e : seqD S1 d with
  | none => rw [e] at h1; exact (show False from h1).elim
  | some ds =>
    rw [e] at h1
    obtain ⟨p, vs, rfl, hq, ra, za⟩ := seq_at rs1 rd1 e
    refine ⟨p, vs, rfl, hq.elim .inr .inl, ρ1, S1, s, rs1, re.le rs l1, (Post.bind (R := RDs X.K) h1).imp ?_⟩
    rintro ys H2 ⟨ρ2, S2, es, l2, rs2, rd2, h2⟩
    exact h2 ρ2 H2 (vs ++ ys) (Le.refl _ _) rs2 (RDs.of (Paired.app (ra.le rs1 l2).pair rd2.pair))
/-- a, b, c = x, y, z -/
theorem es_par3 (i j l : Nat) {x y z : Str} {a b c : Expr} {fa fb fc : FE} {px py pz pt : Pos} {kt k2 pt2} (hc : X.calm = true) (hN : X.N.Nodup) (ha : EV X T W a fa) (hb : EV X T W b fb) (hcc : EV X T W c fc) (hi : X.N[i]? = some x := by rfl) (hj : X.N[j]? = some y := by rfl) (hl : X.N[l]? = some z := by rfl) (hij : i ≠ j := by decide) (hil : i ≠ l := by decide) (hjl : j ≠ l := by decide)
    (hx : X.env.scope.names.lookup x = some .local := by rfl) (hy : X.env.scope.names.lookup y = some .local := by rfl) (hz : X.env.scope.names.lookup z = some .local := by rfl)
    (hsa : starEach (a :: [b, c]) X.env = (false, eval a X.env) :: starEach [b, c] X.env := by rfl) (hsb : starEach (b :: [c]) X.env = (false, eval b X.env) :: starEach [c] X.env := by rfl) (hsc : starEach [c] X.env = (false, eval c X.env) :: starEach [] X.env := by rfl)
    (hw : swappedStores [.Tuple [.Name x px, .Name y py, .Name z pz] kt pt] (.Tuple [a, b, c] k2 pt2) X.env = pure (some [x, y, z]) := by rfl)
    (hs : swapsWithSole [.Tuple [.Name x px, .Name y py, .Name z pz] kt pt] (.Tuple [a, b, c] k2 pt2) pos.line X.env = pure false := by rfl) :
    ES X T W (.Assign [.Tuple [.Name x px, .Name y py, .Name z pz] kt pt] (.Tuple [a, b, c] k2 pt2) pos) (sPar3 i j l fa fb fc) := by
  refine PS.imp (ps_par3 hc hN hi hj hl hij hil hjl hx hy hz (pa_cons ha (pa_cons hb (pa_cons hcc pa_nil hsc) hsb) hsa) hw hs) ?_
  rintro D σ H ⟨ρ, S, s, rs, re, h⟩
  refine ⟨ρ, S, s, rs, re, (PostS.ofE (R := RD X.K) rs re h).imp ?_⟩
  rintro v H1 ⟨ρ1, S1, d, l1, rs1, re1, rd1, h1⟩
  refine ⟨ρ1, S1, s, rs1, re1, (PostS.ofE (R := RD X.K) rs1 re1 h1).imp ?_⟩
  rintro w H2 ⟨ρ2, S2, d2, l2, rs2, re2, rd2, h2⟩
  refine ⟨ρ2, S2, s, rs2, re2, (PostS.ofE (R := RD X.K) rs2 re2 h2).imp ?_⟩
  rintro u H3 ⟨ρ3, S3, d3, l3, rs3, re3, rd3, h3⟩
  exact ⟨v, w, u, rfl, h3 ρ3 H3 _ (Le.refl _ _) rs3 (((re3.set i ((rd1.le rs1 l2).le rs2 l3)).set j (rd2.le rs2 l3)).set l rd3)⟩
end
end Wk


set_option Elab.async false
set_option linter.all false
set_option maxRecDepth 100000
set_option maxHeartbeats 4000000
set_option autoImplicit false
/-! WkMore3: zip, sum, ranges as lists and tuples; a lambda heard by a def with further clauses. -/
namespace Wk
open PySem PySem.Spec PyProof.Rows L2
section
variable {X : Cx} {T : Tbs} {W : WX} {pos : Pos} {a b c : Expr} {fa fb fc : FE}
theorem zipD_len : ∀ as bs : List D, (zipD as bs).length = min as.length bs.length
  | [], _ => by simp [zipD]
  | _ :: _, [] => by simp [zipD]
  | a :: as, b :: bs => by
    show (zipD as bs).length + 1 = _
    rw [zipD_len as bs]
    simp only [List.length_cons]
    omega
theorem zipD_get : ∀ {as bs : List D} {i : Nat} {d : D}, (zipD as bs)[i]? = some d → ∃ a b, as[i]? = some a ∧ bs[i]? = some b ∧ d = .tup [a, b]
  | [], _, i, d, h => by simp [zipD] at h
  | _ :: _, [], i, d, h => by simp [zipD] at h
  | a :: as, b :: bs, 0, d, h => by
    simp [zipD] at h
    exact ⟨a, b, rfl, rfl, h.symm⟩
  | a :: as, b :: bs, i + 1, d, h => by
    simp [zipD] at h
    obtain ⟨x, y, h1, h2, h3⟩ := zipD_get h
    exact ⟨x, y, by simpa using h1, by simpa using h2, h3⟩
theorem itok_two {T' : Addr} {ρ' : List Addr} {S' : Store} {H' : Hp} {x y : D} {v w : V} (rs' : RS X.K T ρ' S' H') (hT : H' T' = none) (rv : RD X.K ρ' H' x v) (rw' : RD X.K ρ' H' y w) :
    Le ρ' H' ρ' (upd H' T' (.tup [v, w])) ∧ RS X.K T ρ' S' (upd H' T' (.tup [v, w])) ∧ RD X.K ρ' (upd H' T' (.tup [v, w])) (.tup [x, y]) (.ref T') :=
  tup_new rs' hT (RDs.of (.cons rv (.cons rw' .nil))) (by show 2 ≤ sizeLine; decide)
theorem ei_zip {elts : List Expr} {kk : Nat} {p tpos : Pos} (hm : X.mg "zip" = none) (ha : EV X T W a fa) (hb : EV X T W b fb) (hg : Gl X "zip" := by rfl) (hs : starEach [a, b] X.env = (false, eval a X.env) :: starEach [b] X.env := by rfl) (hsb : starEach [b] X.env = (false, eval b X.env) :: starEach [] X.env := by rfl) (hpl : (backTo pos (starEach [b] X.env)).any (·.1) = false := by rfl) :
    EI X T W (.Tuple elts kk tpos) (.Call (.Name "zip" p) [a, b] [] pos) (iZip fa fb) := by
  refine PI.imp (RZ.pi_zipA hg hm (pa_cons ha (pa_cons hb pa_nil hsb) hs) hs hpl) ?_
  rintro σ H R ⟨ρ, S, s, rs, re, h⟩
  refine ⟨ρ, S, s, rs, re, (Post.bind (R := RD X.K) h).imp ?_⟩
  rintro v H1 ⟨ρ1, S1, x, l1, rs1, rd1, h1⟩
  refine ⟨ρ1, S1, s, rs1, re.le rs l1, (Post.bind (R := RD X.K) h1).imp ?_⟩
  rintro w H2 ⟨ρ2, S2, y, l2, rs2, rd2, h2⟩
  have rdx := rd1.le rs1 l2
  show ∃ a b xs ys, [v, w] = [V.ref a, V.ref b] ∧ _
  cases x with
  | tup as =>
    cases y with
    | tup bs =>
      obtain ⟨p1, vs, rfl, ta, ra⟩ := rdx.tup
      obtain ⟨p2, ws, rfl, tb, rb⟩ := rd2.tup
      refine ⟨p1, p2, vs, ws, rfl, .inr ⟨ta.sq, tb.sq, h2 ρ2 H2 _ (Le.refl _ _) rs2 ⟨?_, fun ρ' S' H' le rs' ok => ?_⟩⟩⟩
      · show (zipD as bs).length ≤ sizeLine
        rw [zipD_len, ra.len]
        exact Nat.le_trans (Nat.min_le_left _ _) ta.1
      · have ta' := ta.mono le
        have tb' := tb.mono le
        have ra' := ra.le rs2 le
        have rb' := rb.le rs2 le
        refine ⟨fun i d hd => ?_, ⟨vs, ws, ta'.sq, tb'.sq, ?_⟩⟩
        · obtain ⟨x, y, hx, hy, rfl⟩ := zipD_get hd
          obtain ⟨v, hv, rv⟩ := Paired.get1 ra'.pair hx
          obtain ⟨w, hw, rw'⟩ := Paired.get1 rb'.pair hy
          refine ⟨⟨vs, ws, v, w, ta'.sq, tb'.sq, hv, hw⟩, fun z H'' q => ?_⟩
          obtain ⟨T', x', y', rfl, hT, rfl, q1, q2⟩ := q
          have e1 := q1 vs ta'.sq
          have e2 := q2 ws tb'.sq
          rw [hv] at e1; cases e1
          rw [hw] at e2; cases e2
          exact itok_two rs' hT rv rw'
        · show vs.length ≤ (zipD as bs).length ∨ ws.length ≤ (zipD as bs).length
          rw [zipD_len, ra.len, rb.len]
          by_cases q : vs.length ≤ ws.length
          · exact .inl (by omega)
          · exact .inr (by omega)
    | _ => exact (show False from h2).elim
  | ref l =>
    cases y with
    | ref m =>
      dsimp only at h2
      split at h2
      · rename_i as bs e1 e2
        obtain ⟨p1, vs, rfl, hp1, hv1, ra, za⟩ := rs2.lstAt rdx e1
        obtain ⟨p2, ws, rfl, hp2, hv2, rb, zb⟩ := rs2.lstAt rd2 e2
        refine ⟨p1, p2, vs, ws, rfl, .inl ⟨SqL.of hv1, SqL.of hv2, h2 ρ2 H2 _ (Le.refl _ _) rs2 ⟨?_, fun ρ' S' H' le rs' ok => ?_⟩⟩⟩
        · show (zipD as bs).length ≤ sizeLine
          rw [zipD_len, ra.len]
          exact Nat.le_trans (Nat.min_le_left _ _) za
        · obtain ⟨k1, ok2⟩ := okC_cons ok
          obtain ⟨k2, _⟩ := okC_cons ok2
          obtain ⟨q1, us, eq1, _, hu, ra', _⟩ := rs'.lstAt (rd_ref (le.get hp1)) k1
          cases eq1
          obtain ⟨q2, zs, eq2, _, hz, rb', _⟩ := rs'.lstAt (rd_ref (le.get hp2)) k2
          cases eq2
          refine ⟨fun i d hd => ?_, ⟨us, zs, SqL.of hu, SqL.of hz, ?_⟩⟩
          · obtain ⟨x, y, hx, hy, rfl⟩ := zipD_get hd
            obtain ⟨v, hv, rv⟩ := Paired.get1 ra'.pair hx
            obtain ⟨w, hw, rw'⟩ := Paired.get1 rb'.pair hy
            refine ⟨⟨us, zs, v, w, SqL.of hu, SqL.of hz, hv, hw⟩, fun z H'' q => ?_⟩
            obtain ⟨T', x', y', rfl, hT, rfl, w1, w2⟩ := q
            have e3 := w1 us (SqL.of hu)
            have e4 := w2 zs (SqL.of hz)
            rw [hv] at e3; cases e3
            rw [hw] at e4; cases e4
            exact itok_two rs' hT rv rw'
          · show us.length ≤ (zipD as bs).length ∨ zs.length ≤ (zipD as bs).length
            rw [zipD_len, ra'.len, rb'.len]
            by_cases q : us.length ≤ zs.length
            · exact .inl (by omega)
            · exact .inr (by omega)
      · exact (show False from h2).elim
    | _ => exact (show False from h2).elim
  | _ => cases y <;> exact (show False from h2).elim
theorem os_sum (hc : X.calm = true) : CallR X (.builtin "sum") (rSum X.K) ∧ C1S X T (rSum X.K) fSum := by
  refine ⟨cr_sum hc, ?_⟩
  intro E ρ S H x v Q rs rx h
  cases x with
  | ref l =>
    unfold fSum at h
    dsimp only at h
    cases e0 : S[l]? with
    | none => rw [e0] at h; exact (show False from h).elim
    | some ob =>
      rw [e0] at h
      cases ob with
      | lst ds =>
        dsimp only at h
        cases e1 : intsD ds with
        | none => rw [e1] at h; exact (show False from h).elim
        | some ns =>
          rw [e1] at h
          obtain ⟨p, vs, rfl, hp, hv, ra, za⟩ := rs.lstAt rx e0
          have ev := intsD_v e1 ra
          subst ev
          exact ⟨p, ns, rfl, SqL.of hv, h ρ H _ (Le.refl _ _) rs rd_int⟩
      | _ => exact (show False from h).elim
  | _ => exact (show False from h).elim
/-! ### ranges -/
theorem rds_rng {ρ : List Addr} {H : Hp} (i j : Int) : RDs X.K ρ H (rngD i j) (rgV i j) := by
  refine RDs.of (Paired.ofGet (by rw [rngD_len, rgV_length]) fun n x y e1 e2 => ?_)
  obtain ⟨h1, rfl⟩ := rngD_get e1
  unfold rgV at e2
  rw [List.getElem?_map] at e2
  cases e3 : (List.range (j - i).toNat)[n]? with
  | none => rw [e3] at e2; cases e2
  | some k =>
    rw [e3] at e2
    obtain ⟨h4, h5⟩ := List.getElem?_eq_some_iff.mp e3
    rw [List.getElem_range] at h5
    cases e2
    rw [← h5]; exact rd_int
/-- list(range(i, j)) -/
theorem ev_listRg2 {p p2 pos2 : Pos} (hc : X.calm = true) (hm : X.mg "list" = none) (hm2 : X.mg "range" = none) (ha : EV X T W a fa) (hb : EV X T W b fb) (hg : Gl X "list" := by rfl) (hg2 : Gl X "range" := by rfl)
    (na : starEach [a, b] X.env = (false, eval a X.env) :: starEach [b] X.env := by rfl) (nb : starEach [b] X.env = (false, eval b X.env) :: starEach [] X.env := by rfl) (np : (backTo pos2 (starEach [b] X.env)).any (·.1) = false := by rfl)
    (nc : starEach [.Call (.Name "range" p2) [a, b] [] pos2] X.env = (false, eval (.Call (.Name "range" p2) [a, b] [] pos2) X.env) :: starEach [] X.env := by rfl) :
    EV X T W (.Call (.Name "list" p) [.Call (.Name "range" p2) [a, b] [] pos2] [] pos) (eOp oListRg fa fb) := by
  refine PE.imp (pe_listRg hc hg hm (prg_2 hg2 hm2 ha hb na nb np) nc) ?_
  rintro σ H Q ⟨ρ, S, s, rs, re, h⟩
  refine ⟨ρ, S, s, rs, re, (Post.bind (R := RD X.K) h).imp ?_⟩
  rintro v H1 ⟨ρ1, S1, x, l1, rs1, rd1, h1⟩
  refine ⟨ρ1, S1, s, rs1, re.le rs l1, (Post.bind (R := RD X.K) h1).imp ?_⟩
  rintro w H2 ⟨ρ2, S2, y, l2, rs2, rd2, h2⟩
  have rdx := rd1.le rs1 l2
  cases x with
  | int i =>
    cases y with
    | int j =>
      unfold oListRg at h2
      dsimp only at h2
      by_cases ck : rgOk i j = true
      · rw [if_pos ck] at h2
        have ck2 := of_decide_eq_true ck
        unfold LIM at ck2
        refine ⟨i, j, rdx.int, rd2.int, ⟨ck2.1, ck2.2.1, ck2.2.2.1, ck2.2.2.2.1, ck2.2.2.2.2⟩, fun q hq => ?_⟩
        obtain ⟨q1, q2, q3⟩ := lst_new rs2 hq (rds_rng i j) (by rw [rgV_length, sizeLine_eq]; omega)
        exact h2 _ _ _ q1 q2 q3
      · rw [if_neg ck] at h2; exact (show False from h2).elim
    | _ => exact (show False from h2).elim
  | _ => cases y <;> exact (show False from h2).elim
/-- tuple(range(n)) -/
theorem ev_tupRg {p p2 pos2 : Pos} (hc : X.calm = true) (hm : X.mg "tuple" = none) (hm2 : X.mg "range" = none) (ha : EV X T W a fa) (hg : Gl X "tuple" := by rfl) (hg2 : Gl X "range" := by rfl)
    (na : starEach [a] X.env = (false, eval a X.env) :: starEach [] X.env := by rfl) (nb : starEach [.Call (.Name "range" p2) [a] [] pos2] X.env = (false, eval (.Call (.Name "range" p2) [a] [] pos2) X.env) :: starEach [] X.env := by rfl) :
    EV X T W (.Call (.Name "tuple" p) [.Call (.Name "range" p2) [a] [] pos2] [] pos) (eUn fTupRg fa) := by
  refine PE.imp (pe_tupRg hc hg hm (prg_1 hg2 hm2 ha na) nb) ?_
  rintro σ H Q ⟨ρ, S, s, rs, re, h⟩
  refine ⟨ρ, S, s, rs, re, (Post.bind (R := RD X.K) h).imp ?_⟩
  rintro v H1 ⟨ρ1, S1, x, l1, rs1, rd1, h1⟩
  cases x with
  | int i =>
    unfold fTupRg at h1
    dsimp only at h1
    by_cases ck : -(2 ^ 62) ≤ i ∧ i ≤ 16777216
    · rw [if_pos ck] at h1
      refine ⟨i, rd1.int, ⟨by omega, by omega, by omega, by omega, by omega⟩, fun q hq => ?_⟩
      obtain ⟨q1, q2, q3⟩ := tup_new rs1 hq (rds_rng 0 i) (by rw [rgV_length, sizeLine_eq]; omega)
      exact h1 _ _ _ q1 q2 q3
    · rw [if_neg ck] at h1; exact (show False from h1).elim
  | _ => exact (show False from h1).elim
end
end Wk


set_option Elab.async false
set_option linter.all false
set_option maxRecDepth 100000
set_option autoImplicit false
/-! printed by gen.py: the functional readings of the defs of wovenkeep_k06_tables_full_joined_beside. -/
namespace WkL
open PySem (Str)
open Wk

def heardCs : List String := ["TooMany"]
/-- is_whole: slots 0 thing, 1 low, 2 high -/
abbrev b_is_whole : FS :=
    (sRet (eAnd (eUn (fIsInst "int") (eV 0)) (eAnd (eNot (eUn (fIsInst "bool") (eV 0))) (eChain oLe oLe (eV 1) (eV 0) (eV 2)))))
def F_is_whole : Fn := mkF 3 3 b_is_whole
/-- rising_in: slots 0 thing, 1 low, 2 high, 3 last, 4 index, 5 number -/
abbrev b_rising_in : FS :=
    (sSeq (sIf (Wk.tNot (tE (eUn (fIsInst "tuple") (eV 0)))) (sRet (eUn uNeg (eC (.int 1)))) sSkip)
    (sSeq (sSet 3 (eOp oSub (eV 1) (eC (.int 1))))
    (sSeq (sFor (iEnum (eV 0)) (.tp [(.nm 4), (.nm 5)]) (sSeq (sIf (Wk.tNot (tE (eCall F_is_whole (aCons (eV 5) (aCons (eOp oAdd (eV 3) (eC (.int 1))) (aCons (eV 2) aNil)))))) (sRet (eV 4)) sSkip)
    (sSet 3 (eV 5))))
    (sRet (eC .non)))))
def F_rising_in : Fn := mkF 3 6 b_rising_in
/-- is_row: slots 0 thing, 1 many -/
abbrev b_is_row : FS :=
    (sRet (eAnd (eUn (fIsInst "tuple") (eV 0)) (eOp oEq (eUn fLen (eV 0)) (eV 1))))
def F_is_row : Fn := mkF 2 2 b_is_row
/-- is_field: slots 0 thing, 1 hands, 2 kinds -/
abbrev b_is_field : FS :=
    (sRet (eAnd (eCall F_is_row (aCons (eV 0) (aCons (eC (.int 2)) aNil))) (eAnd (eCall F_is_whole (aCons (eOp oIx (eV 0) (eC (.int 0))) (aCons (eC (.int 0)) (aCons (eOp oSub (eV 2) (eC (.int 1))) aNil)))) (eCall F_is_whole (aCons (eOp oIx (eV 0) (eC (.int 1))) (aCons (eV 1) (aCons (eOp oSub (eV 2) (eC (.int 1))) aNil)))))))
def F_is_field : Fn := mkF 3 3 b_is_field
/-- made_schema: slots 0 thing, 1 hands, 2 kinds, 3 fields, 4 index, 5 field -/
abbrev b_made_schema : FS :=
    (sSeq (sIf (Wk.tNot (tE (eCall F_is_row (aCons (eV 0) (aCons (eC (.int 3)) aNil))))) (sRaise "BadSchema" (eUn uNeg (eC (.int 1)))) sSkip)
    (sSeq (sAsg (.tp [(.nm 1), (.nm 2), (.nm 3)]) (eV 0))
    (sSeq (sIf (Wk.tNot (tE (eCall F_is_whole (aCons (eV 1) (aCons (eC (.int 1)) (aCons (eC (.int 6)) aNil)))))) (sRaise "BadSchema" (eC (.int 0))) sSkip)
    (sSeq (sIf (Wk.tNot (tE (eCall F_is_whole (aCons (eV 2) (aCons (eV 1) (aCons (eC (.int 24)) aNil)))))) (sRaise "BadSchema" (eC (.int 1))) sSkip)
    (sSeq (sIf (Wk.tNot (tE (eUn (fIsInst "tuple") (eV 3)))) (sRaise "BadSchema" (eC (.int 2))) sSkip)
    (sSeq (sIf (tE (eOp oGt (eUn fLen (eV 3)) (eC (.int 40)))) (sRaise "TooMany" (eUn fLen (eV 3))) sSkip)
    (sSeq (sFor (iEnum (eV 3)) (.tp [(.nm 4), (.nm 5)]) (sIf (Wk.tNot (tE (eCall F_is_field (aCons (eV 5) (aCons (eV 1) (aCons (eV 2) aNil)))))) (sRaise "BadSchema" (eTup (aCons (eC (.int 2)) (aCons (eV 4) aNil)))) sSkip))
    (sRet (eTup (aCons (eV 1) (aCons (eV 2) (aCons (eUn fTuple (eComp (iSeq (eV 3)) (.nm 5) tTrue (eUn fTuple (eV 5)) [5])) aNil))))))))))))
def F_made_schema : Fn := mkF 1 6 b_made_schema
/-- kinds_beside: slots 0 one, 1 two, 2 firsts, 3 seconds, 4 kind -/
abbrev b_kinds_beside : FS :=
    (sSeq (sSet 2 (eComp (iRng (eOp oIx (eV 0) (eC (.int 1)))) (.nm 4) tTrue (eIf (tE (eOp oLt (eV 4) (eOp oIx (eV 0) (eC (.int 0))))) (eV 4) (eOp oAdd (eV 4) (eOp oIx (eV 1) (eC (.int 0))))) [4]))
    (sSeq (sSet 3 (eComp (iRng (eOp oIx (eV 1) (eC (.int 1)))) (.nm 4) tTrue (eIf (tE (eOp oLt (eV 4) (eOp oIx (eV 1) (eC (.int 0))))) (eOp oAdd (eOp oIx (eV 0) (eC (.int 0))) (eV 4)) (eOp oAdd (eOp oIx (eV 0) (eC (.int 1))) (eV 4))) [4]))
    (sRet (eTup (aCons (eV 2) (aCons (eV 3) aNil))))))
def F_kinds_beside : Fn := mkF 2 5 b_kinds_beside
/-- beside: slots 0 one, 1 two, 2 first, 3 second, 4 at, 5 most, 6 many, 7 fields, 8 schema, 9 now, 10 holder, 11 target -/
abbrev b_beside : FS :=
    (sSeq (sPar 2 3 (eCall F_made_schema (aCons (eV 0) aNil)) (eCall F_made_schema (aCons (eV 1) aNil)))
    (sSeq (sFor (iSeq (eTup (aCons (eTup (aCons (eC (.int 0)) (aCons (eC (.int 6)) aNil))) (aCons (eTup (aCons (eC (.int 1)) (aCons (eC (.int 24)) aNil))) aNil)))) (.tp [(.nm 4), (.nm 5)]) (sIf (tE (eOp oGt (eOp oAdd (eOp oIx (eV 2) (eV 4)) (eOp oIx (eV 3) (eV 4))) (eV 5))) (sRaise "TooMany" (eOp oAdd (eOp oIx (eV 2) (eV 4)) (eOp oIx (eV 3) (eV 4)))) sSkip))
    (sSeq (sSet 6 (eOp oAdd (eUn fLen (eOp oIx (eV 2) (eC (.int 2)))) (eUn fLen (eOp oIx (eV 3) (eC (.int 2))))))
    (sSeq (sIf (tE (eOp oGt (eV 6) (eC (.int 40)))) (sRaise "TooMany" (eV 6)) sSkip)
    (sSeq (sSet 7 (eLst aNil))
    (sSeq (sFor (iZip (eTup (aCons (eV 2) (aCons (eV 3) aNil))) (eCall F_kinds_beside (aCons (eV 2) (aCons (eV 3) aNil)))) (.tp [(.nm 8), (.nm 9)]) (sExpr (eBM oExtend (eV 7) (eComp (iSeq (eOp oIx (eV 8) (eC (.int 2)))) (.tp [(.nm 10), (.nm 11)]) tTrue (eTup (aCons (eOp oIx (eV 9) (eV 10)) (aCons (eOp oIx (eV 9) (eV 11)) aNil))) [10, 11]))))
    (sRet (eTup (aCons (eOp oAdd (eOp oIx (eV 2) (eC (.int 0))) (eOp oIx (eV 3) (eC (.int 0)))) (aCons (eOp oAdd (eOp oIx (eV 2) (eC (.int 1))) (eOp oIx (eV 3) (eC (.int 1)))) (aCons (eUn fTuple (eV 7)) aNil)))))))))))
def F_beside : Fn := mkF 2 12 b_beside
/-- is_carry: slots 0 schema, 1 thing, 2 f -/
abbrev b_is_carry : FS :=
    (sSeq (sIf (tOr (Wk.tNot (tE (eCall F_is_row (aCons (eV 1) (aCons (eC (.int 2)) aNil))))) (Wk.tNot (tE (eUn fAll (eComp (iSeq (eV 1)) (.nm 2) tTrue (eCall F_is_whole (aCons (eV 2) (aCons (eC (.int 0)) (aCons (eOp oSub (eUn fLen (eOp oIx (eV 0) (eC (.int 2)))) (eC (.int 1))) aNil)))) [2]))))) (sRet (eC (.bl false))) sSkip)
    (sRet (eOp oEq (eOp oIx (eOp oIx (eOp oIx (eV 0) (eC (.int 2))) (eOp oIx (eV 1) (eC (.int 0)))) (eC (.int 1))) (eOp oIx (eOp oIx (eOp oIx (eV 0) (eC (.int 2))) (eOp oIx (eV 1) (eC (.int 1)))) (eC (.int 1))))))
def F_is_carry : Fn := mkF 2 3 b_is_carry
/-- wrong_carry: slots 0 schema, 1 carries, 2 last, 3 index, 4 pair -/
abbrev b_wrong_carry : FS :=
    (sSeq (sSet 2 (eTup (aCons (eUn uNeg (eC (.int 1))) (aCons (eUn uNeg (eC (.int 1))) aNil))))
    (sSeq (sFor (iEnum (eV 1)) (.tp [(.nm 3), (.nm 4)]) (sSeq (sIf (tOr (Wk.tNot (tE (eCall F_is_carry (aCons (eV 0) (aCons (eV 4) aNil))))) (tE (eOp oLe (eV 4) (eV 2)))) (sRet (eV 3)) sSkip)
    (sSet 2 (eV 4))))
    (sRet (eC .non))))
def F_wrong_carry : Fn := mkF 2 5 b_wrong_carry
/-- ask_carries: slots 0 schema, 1 carries, 2 index -/
abbrev b_ask_carries : FS :=
    (sSeq (sIf (Wk.tNot (tE (eUn (fIsInst "tuple") (eV 1)))) (sRaise "BadTable" (eC (.int 0))) sSkip)
    (sSeq (sIf (tE (eOp oGt (eUn fLen (eV 1)) (eC (.int 400)))) (sRaise "TooMany" (eUn fLen (eV 1))) sSkip)
    (sSeq (sSet 2 (eCall F_wrong_carry (aCons (eV 0) (aCons (eV 1) aNil))))
    (sIf (tE (eOp oNotN (eV 2) (eC .non))) (sRaise "BadTable" (eTup (aCons (eC (.int 0)) (aCons (eV 2) aNil)))) sSkip))))
def F_ask_carries : Fn := mkF 2 3 b_ask_carries
/-- made_table: slots 0 schema, 1 thing, 2 at, 3 index, 4 pair -/
abbrev b_made_table : FS :=
    (sSeq (sExpr (eCall F_made_schema (aCons (eV 0) aNil)))
    (sSeq (sIf (Wk.tNot (tE (eCall F_is_row (aCons (eV 1) (aCons (eC (.int 3)) aNil))))) (sRaise "BadTable" (eUn uNeg (eC (.int 1)))) sSkip)
    (sSeq (sExpr (eCall F_ask_carries (aCons (eV 0) (aCons (eOp oIx (eV 1) (eC (.int 0))) aNil))))
    (sSeq (sFor (iSeq (eTup (aCons (eC (.int 1)) (aCons (eC (.int 2)) aNil)))) (.nm 2) (sSeq (sSet 3 (eCall F_rising_in (aCons (eOp oIx (eV 1) (eV 2)) (aCons (eC (.int 0)) (aCons (eOp oSub (eUn fLen (eOp oIx (eV 0) (eC (.int 2)))) (eC (.int 1))) aNil)))))
    (sIf (tE (eOp oNotN (eV 3) (eC .non))) (sRaise "BadTable" (eIf (tE (eOp oEq (eV 3) (eUn uNeg (eC (.int 1))))) (eV 2) (eTup (aCons (eV 2) (aCons (eV 3) aNil))))) sSkip)))
    (sRet (eTup (aCons (eUn fTuple (eComp (iSeq (eOp oIx (eV 1) (eC (.int 0)))) (.nm 4) tTrue (eUn fTuple (eV 4)) [4])) (aCons (eUn fTuple (eOp oIx (eV 1) (eC (.int 1)))) (aCons (eUn fTuple (eOp oIx (eV 1) (eC (.int 2)))) aNil)))))))))
def F_made_table : Fn := mkF 2 5 b_made_table
/-- full_table: slots 0 schema, 1 fields, 2 carries, 3 g, 4 f -/
abbrev b_full_table : FS :=
    (sSeq (sExpr (eCall F_made_schema (aCons (eV 0) aNil)))
    (sSeq (sSet 1 (eUn fTupRg (eUn fLen (eOp oIx (eV 0) (eC (.int 2))))))
    (sSeq (sSet 2 (eLst aNil))
    (sSeq (sFor (iSeq (eV 1)) (.nm 3) (sExpr (eBM oExtend (eV 2) (eComp (iSeq (eV 1)) (.nm 4) (tE (eOp oEq (eOp oIx (eOp oIx (eOp oIx (eV 0) (eC (.int 2))) (eV 3)) (eC (.int 1))) (eOp oIx (eOp oIx (eOp oIx (eV 0) (eC (.int 2))) (eV 4)) (eC (.int 1))))) (eTup (aCons (eV 3) (aCons (eV 4) aNil))) [4]))))
    (sSeq (sIf (tE (eOp oGt (eUn fLen (eV 2)) (eC (.int 400)))) (sRaise "TooMany" (eUn fLen (eV 2))) sSkip)
    (sRet (eTup (aCons (eUn fTuple (eV 2)) (aCons (eV 1) (aCons (eV 1) aNil))))))))))
def F_full_table : Fn := mkF 1 5 b_full_table
/-- together: slots 0 one, 1 two, 2 found, 3 entry -/
abbrev b_together : FS :=
    (sSeq (sSet 2 (eDCompA (iSeq (eLst (aStar (eV 0) (aStar (eV 1) aNil)))) (.nm 3) tTrue (eV 3) (eC (.bl true)) [3]))
    (sRet (eUn fTuple (eUn fSorted (eV 2)))))
def F_together : Fn := mkF 2 4 b_together
/-- joined_tables: slots 0 schema, 1 one, 2 two, 3 carries -/
abbrev b_joined_tables : FS :=
    (sSeq (sExpr (eCall F_made_table (aCons (eV 0) (aCons (eV 1) aNil))))
    (sSeq (sExpr (eCall F_made_table (aCons (eV 0) (aCons (eV 2) aNil))))
    (sSeq (sSet 3 (eCall F_together (aCons (eOp oIx (eV 1) (eC (.int 0))) (aCons (eOp oIx (eV 2) (eC (.int 0))) aNil))))
    (sSeq (sIf (tE (eOp oGt (eUn fLen (eV 3)) (eC (.int 400)))) (sRaise "TooMany" (eUn fLen (eV 3))) sSkip)
    (sRet (eTup (aCons (eV 3) (aCons (eCall F_together (aCons (eOp oIx (eV 1) (eC (.int 1))) (aCons (eOp oIx (eV 2) (eC (.int 1))) aNil))) (aCons (eCall F_together (aCons (eOp oIx (eV 1) (eC (.int 2))) (aCons (eOp oIx (eV 2) (eC (.int 2))) aNil))) aNil)))))))))
def F_joined_tables : Fn := mkF 3 4 b_joined_tables
/-- lies_within: slots 0 one, 1 two, 2 lot, 3 part, 4 entry -/
abbrev b_lies_within : FS :=
    (sRet (eUn fAll (eComp (iZip (eV 0) (eV 1)) (.tp [(.nm 2), (.nm 3)]) tTrue (eUn fAll (eComp (iSeq (eV 2)) (.nm 4) tTrue (eOp oInS (eV 4) (eV 3)) [4])) [2, 3])))
def F_lies_within : Fn := mkF 2 5 b_lies_within
/-- table_within: slots 0 schema, 1 one, 2 two -/
abbrev b_table_within : FS :=
    (sSeq (sExpr (eCall F_made_table (aCons (eV 0) (aCons (eV 1) aNil))))
    (sSeq (sExpr (eCall F_made_table (aCons (eV 0) (aCons (eV 2) aNil))))
    (sRet (eCall F_lies_within (aCons (eV 1) (aCons (eV 2) aNil))))))
def F_table_within : Fn := mkF 3 3 b_table_within
/-- table_beside: slots 0 schema, 1 table, 2 second, 3 two, 4 many, 5 by, 6 carries, 7 g, 8 f -/
abbrev b_table_beside : FS :=
    (sSeq (sExpr (eCall F_made_table (aCons (eV 0) (aCons (eV 1) aNil))))
    (sSeq (sExpr (eCall F_made_table (aCons (eV 2) (aCons (eV 3) aNil))))
    (sSeq (sExpr (eCall F_beside (aCons (eV 0) (aCons (eV 2) aNil))))
    (sSeq (sSet 4 (eOp oAdd (eUn fLen (eOp oIx (eV 1) (eC (.int 0)))) (eUn fLen (eOp oIx (eV 3) (eC (.int 0))))))
    (sSeq (sIf (tE (eOp oGt (eV 4) (eC (.int 400)))) (sRaise "TooMany" (eV 4)) sSkip)
    (sSeq (sSet 5 (eUn fLen (eOp oIx (eV 0) (eC (.int 2)))))
    (sSeq (sSet 6 (eComp (iSeq (eOp oIx (eV 3) (eC (.int 0)))) (.tp [(.nm 7), (.nm 8)]) tTrue (eTup (aCons (eOp oAdd (eV 7) (eV 5)) (aCons (eOp oAdd (eV 8) (eV 5)) aNil))) [7, 8]))
    (sRet (eTup (aCons (eTup (aStar (eOp oIx (eV 1) (eC (.int 0))) (aStar (eV 6) aNil))) (aCons (eTup (aStar (eOp oIx (eV 1) (eC (.int 1))) (aStar (eComp (iSeq (eOp oIx (eV 3) (eC (.int 1)))) (.nm 8) tTrue (eOp oAdd (eV 8) (eV 5)) [8]) aNil))) (aCons (eTup (aStar (eOp oIx (eV 1) (eC (.int 2))) (aStar (eComp (iSeq (eOp oIx (eV 3) (eC (.int 2)))) (.nm 8) tTrue (eOp oAdd (eV 8) (eV 5)) [8]) aNil))) aNil))))))))))))
def F_table_beside : Fn := mkF 4 9 b_table_beside
/-- _law_wv_pool: slots 0 script, 1 digits, 2 stirred, 3 at, 4 cell -/
abbrev b__law_wv_pool : FS :=
    (sSeq (sAsg (.tp [(.nm 1), (.nm 2)]) (eTup (aCons (eC (.int 0)) (aCons (eC (.int 7)) aNil))))
    (sSeq (sFor (iRng (eUn fLen (eV 0))) (.nm 3) (sSeq (sSet 4 (eOp oMax (eOp oIx (eV 0) (eV 3)) (eOp oSub (eUn uNeg (eC (.int 1))) (eOp oIx (eV 0) (eV 3)))))
    (sSeq (sSet 2 (eOp oMod (eOp oAdd (eOp oAdd (eOp oMul (eV 2) (eC (.int 48271))) (eOp oMod (eV 4) (eC (.int 2147483629)))) (eC (.int 11))) (eC (.int 2147483647))))
    (sSet 1 (eIf (tAnd (tE (eOp oGe (eV 4) (eOp oPow (eC (.int 10)) (eC (.int 12))))) (tE (eOp oLt (eV 1) (eOp oPow (eC (.int 10)) (eC (.int 60)))))) (eOp oAdd (eOp oMul (eV 1) (eOp oPow (eC (.int 10)) (eC (.int 60)))) (eOp oMod (eV 4) (eOp oPow (eC (.int 10)) (eC (.int 60))))) (eV 1))))))
    (sRet (eLst (aCons (eV 1) (aCons (eV 2) aNil))))))
def F__law_wv_pool : Fn := mkF 1 5 b__law_wv_pool
/-- _law_wv_take: slots 0 pool, 1 many, 2 found -/
abbrev b__law_wv_take : FS :=
    (sSeq (sIf (tE (eOp oGt (eOp oIx (eV 0) (eC (.int 0))) (eC (.int 0)))) (sSeq (sSet 2 (eOp oMod (eOp oIx (eV 0) (eC (.int 0))) (eV 1)))
    (sSeq (sSub uSetL (eV 0) (eC (.int 0)) (eOp oFdiv (eOp oIx (eV 0) (eC (.int 0))) (eV 1)))
    (sRet (eV 2)))) sSkip)
    (sSeq (sSub uSetL (eV 0) (eC (.int 1)) (eOp oMod (eOp oAdd (eOp oMul (eOp oIx (eV 0) (eC (.int 1))) (eC (.int 39373))) (eC (.int 7))) (eC (.int 2147483647))))
    (sRet (eOp oMod (eOp oFdiv (eOp oMod (eOp oMul (eOp oIx (eV 0) (eC (.int 1))) (eOp oIx (eV 0) (eC (.int 1)))) (eC (.int 2147483629))) (eC (.int 32))) (eV 1)))))
def F__law_wv_take : Fn := mkF 2 3 b__law_wv_take
/-- _law_wv_one: slots 0 pool, 1 things -/
abbrev b__law_wv_one : FS :=
    (sRet (eOp oIx (eV 1) (eCall F__law_wv_take (aCons (eV 0) (aCons (eUn fLen (eV 1)) aNil)))))
def F__law_wv_one : Fn := mkF 2 2 b__law_wv_one
/-- _law_wv_mixed: slots 0 pool, 1 things, 2 spare, 3 found, 4 go -/
abbrev b__law_wv_mixed : FS :=
    (sSeq (sPar 2 3 (eUn fList (eV 1)) (eLst aNil))
    (sSeq (sFor (iRng (eUn fLen (eV 1))) (.nm 4) (sExpr (eBM oAppend (eV 3) (eBM oPopAt (eV 2) (eCall F__law_wv_take (aCons (eV 0) (aCons (eUn fLen (eV 2)) aNil)))))))
    (sRet (eV 3))))
def F__law_wv_mixed : Fn := mkF 2 5 b__law_wv_mixed
/-- _law_wv_some: slots 0 pool, 1 things, 2 part, 3 thing -/
abbrev b__law_wv_some : FS :=
    (sRet (eUn fTuple (eComp (iSeq (eV 1)) (.nm 3) (tE (eOp oEq (eCall F__law_wv_take (aCons (eV 0) (aCons (eV 2) aNil))) (eC (.int 0)))) (eV 3) [3])))
def F__law_wv_some : Fn := mkF 3 4 b__law_wv_some
/-- _law_wv_schema: slots 0 pool, 1 hands, 2 kinds, 3 met, 4 found, 5 go, 6 holder, 7 goal -/
abbrev b__law_wv_schema : FS :=
    (sSeq (sSet 1 (eOp oAdd (eC (.int 1)) (eOp oFdiv (eCall F__law_wv_take (aCons (eV 0) (aCons (eC (.int 4)) aNil))) (eC (.int 3)))))
    (sSeq (sSet 2 (eOp oAdd (eOp oAdd (eV 1) (eC (.int 1))) (eCall F__law_wv_take (aCons (eV 0) (aCons (eC (.int 4)) aNil)))))
    (sSeq (sPar 3 4 (eUn fListRg (eV 1)) (eLst aNil))
    (sSeq (sFor (iRng (eCall F__law_wv_one (aCons (eV 0) (aCons (eLst (aCons (eC (.int 1)) (aCons (eC (.int 2)) (aCons (eC (.int 2)) (aCons (eC (.int 3)) (aCons (eC (.int 3)) (aCons (eC (.int 4)) (aCons (eC (.int 4)) (aCons (eC (.int 5)) (aCons (eC (.int 5)) (aCons (eC (.int 6)) (aCons (eC (.int 7)) (aCons (eC (.int 0)) aNil))))))))))))) aNil)))) (.nm 5) (sSeq (sSet 6 (eIf (tE (eOp oGt (eCall F__law_wv_take (aCons (eV 0) (aCons (eC (.int 5)) aNil))) (eC (.int 0)))) (eCall F__law_wv_one (aCons (eV 0) (aCons (eV 3) aNil))) (eCall F__law_wv_take (aCons (eV 0) (aCons (eV 2) aNil)))))
    (sSeq (sSet 7 (eOp oAdd (eV 1) (eCall F__law_wv_take (aCons (eV 0) (aCons (eOp oSub (eV 2) (eV 1)) aNil)))))
    (sSeq (sExpr (eBM oAppend (eV 4) (eTup (aCons (eV 6) (aCons (eV 7) aNil)))))
    (sExpr (eBM oExtend (eV 3) (eIf (tE (eOp oInS (eV 6) (eV 3))) (eLst (aCons (eV 7) aNil)) (eLst aNil))))))))
    (sRet (eTup (aCons (eV 1) (aCons (eV 2) (aCons (eUn fTuple (eCall F__law_wv_mixed (aCons (eV 0) (aCons (eV 4) aNil)))) aNil)))))))))
def F__law_wv_schema : Fn := mkF 1 8 b__law_wv_schema
/-- _law_wv_great_schema: slots 0 pool, 1 hands, 2 found, 3 go -/
abbrev b__law_wv_great_schema : FS :=
    (sSeq (sSet 1 (eOp oAdd (eC (.int 1)) (eCall F__law_wv_take (aCons (eV 0) (aCons (eC (.int 6)) aNil)))))
    (sSeq (sSet 2 (eComp (iRng (eC (.int 8))) (.nm 3) tTrue (eTup (aCons (eCall F__law_wv_take (aCons (eV 0) (aCons (eV 1) aNil))) (aCons (eOp oAdd (eV 1) (eCall F__law_wv_take (aCons (eV 0) (aCons (eOp oSub (eC (.int 24)) (eV 1)) aNil)))) aNil))) [3]))
    (sSeq (sExpr (eBM oExtend (eV 2) (eComp (iRng (eC (.int 32))) (.nm 3) tTrue (eTup (aCons (eCall F__law_wv_take (aCons (eV 0) (aCons (eC (.int 24)) aNil))) (aCons (eOp oAdd (eV 1) (eCall F__law_wv_take (aCons (eV 0) (aCons (eOp oSub (eC (.int 24)) (eV 1)) aNil)))) aNil))) [3])))
    (sRet (eTup (aCons (eV 1) (aCons (eC (.int 24)) (aCons (eUn fTuple (eCall F__law_wv_mixed (aCons (eV 0) (aCons (eV 2) aNil)))) aNil))))))))
def F__law_wv_great_schema : Fn := mkF 1 4 b__law_wv_great_schema
/-- _law_wv_hand_field: slots 0 schema, 1 f -/
abbrev b__law_wv_hand_field : FS :=
    (sRet (eOp oLt (eOp oIx (eOp oIx (eOp oIx (eV 0) (eC (.int 2))) (eV 1)) (eC (.int 0))) (eOp oIx (eV 0) (eC (.int 0)))))
def F__law_wv_hand_field : Fn := mkF 2 2 b__law_wv_hand_field
/-- _law_wv_pairs: slots 0 schema, 1 found, 2 g, 3 f -/
abbrev b__law_wv_pairs : FS :=
    (sSeq (sSet 1 (eLst aNil))
    (sSeq (sFor (iRng (eUn fLen (eOp oIx (eV 0) (eC (.int 2))))) (.nm 2) (sExpr (eBM oExtend (eV 1) (eComp (iRng (eUn fLen (eOp oIx (eV 0) (eC (.int 2))))) (.nm 3) (tE (eOp oEq (eOp oIx (eOp oIx (eOp oIx (eV 0) (eC (.int 2))) (eV 3)) (eC (.int 1))) (eOp oIx (eOp oIx (eOp oIx (eV 0) (eC (.int 2))) (eV 2)) (eC (.int 1))))) (eTup (aCons (eV 2) (aCons (eV 3) aNil))) [3]))))
    (sRet (eV 1))))
def F__law_wv_pairs : Fn := mkF 1 4 b__law_wv_pairs
/-- _law_wv_table: slots 0 pool, 1 schema, 2 form, 3 fields, 4 pairs, 5 own, 6 part, 7 carries, 8 g, 9 f -/
abbrev b__law_wv_table : FS :=
    (sSeq (sPar 2 3 (eCall F__law_wv_take (aCons (eV 0) (aCons (eC (.int 8)) aNil))) (eUn fListRg (eUn fLen (eOp oIx (eV 1) (eC (.int 2))))))
    (sSeq (sSet 4 (eSlice (eCall F__law_wv_mixed (aCons (eV 0) (aCons (eCall F__law_wv_pairs (aCons (eV 1) aNil)) aNil))) oNone (oSome (eC (.int 400)))))
    (sSeq (sIf (tE (eOp oLt (eV 2) (eC (.int 2)))) (sRet (eTup (aCons (eUn fTuple (eUn fSorted (eV 4))) (aCons (eUn fTuple (eV 3)) (aCons (eUn fTuple (eV 3)) aNil))))) sSkip)
    (sSeq (sIf (tE (eOp oEq (eV 2) (eC (.int 2)))) (sSeq (sSet 5 (eComp (iSeq (eUn fSorted (eV 4))) (.tp [(.nm 8), (.nm 9)]) (tE (eOp oNe (eCall F__law_wv_hand_field (aCons (eV 1) (aCons (eV 8) aNil))) (eCall F__law_wv_hand_field (aCons (eV 1) (aCons (eV 9) aNil))))) (eTup (aCons (eV 8) (aCons (eV 9) aNil))) [8, 9]))
    (sRet (eTup (aCons (eUn fTuple (eV 5)) (aCons (eUn fTuple (eV 3)) (aCons (eUn fTuple (eV 3)) aNil)))))) sSkip)
    (sSeq (sIf (tE (eOp oEq (eV 2) (eC (.int 3)))) (sSeq (sSet 5 (eComp (iSeq (eV 3)) (.nm 9) (tE (eCall F__law_wv_hand_field (aCons (eV 1) (aCons (eV 9) aNil)))) (eV 9) [9]))
    (sRet (eTup (aCons (eCall F__law_wv_some (aCons (eV 0) (aCons (eUn fSorted (eV 4)) (aCons (eC (.int 2)) aNil)))) (aCons (eUn fTuple (eV 5)) (aCons (eUn fTuple (eV 5)) aNil)))))) sSkip)
    (sSeq (sSet 6 (eCall F__law_wv_one (aCons (eV 0) (aCons (eLst (aCons (eC (.int 2)) (aCons (eC (.int 2)) (aCons (eC (.int 3)) aNil)))) aNil))))
    (sSeq (sIf (tAnd (tE (eOp oEq (eV 2) (eC (.int 4)))) (tE (eOp oEq (eCall F__law_wv_take (aCons (eV 0) (aCons (eC (.int 3)) aNil))) (eC (.int 0))))) (sRet (eTup (aCons (eTup aNil) (aCons (eTup aNil) (aCons (eTup aNil) aNil))))) sSkip)
    (sSeq (sSet 7 (eCall F__law_wv_some (aCons (eV 0) (aCons (eUn fSorted (eV 4)) (aCons (eV 6) aNil)))))
    (sRet (eTup (aCons (eV 7) (aCons (eCall F__law_wv_some (aCons (eV 0) (aCons (eV 3) (aCons (eV 6) aNil)))) (aCons (eCall F__law_wv_some (aCons (eV 0) (aCons (eV 3) (aCons (eV 6) aNil)))) aNil)))))))))))))
def F__law_wv_table : Fn := mkF 2 10 b__law_wv_table
/-- _law_is_whole: slots 0 thing -/
abbrev b__law_is_whole : FS :=
    (sRet (eAnd (eUn (fIsInst "int") (eV 0)) (eNot (eUn (fIsInst "bool") (eV 0)))))
def F__law_is_whole : Fn := mkF 1 1 b__law_is_whole
/-- _law_same: slots 0 heard_one, 1 owed, 2 at, 3 one -/
abbrev b__law_same (self : Fn) : FS :=
    (sSeq (sIf (tE (eOp oIsN (eV 1) (eC .non))) (sRet (eOp oIsN (eV 0) (eC .non))) sSkip)
    (sSeq (sIf (tE (eUn (fIsInst "bool") (eV 1))) (sRet (eIf (tE (eV 1)) (eOp oIsB (eV 0) (eC (.bl true))) (eOp oIsB (eV 0) (eC (.bl false))))) sSkip)
    (sSeq (sIf (tE (eUn (fIsInst "int") (eV 1))) (sRet (eAnd (eCall F__law_is_whole (aCons (eV 0) aNil)) (eOp oEq (eV 0) (eV 1)))) sSkip)
    (sSeq (sIf (tE (eUn (fIsInst "str") (eV 1))) (sRet (eAnd (eUn (fIsInst "str") (eV 0)) (eOp oEq (eV 0) (eV 1)))) sSkip)
    (sSeq (sIf (tE (eUn (fIsInst "dict") (eV 1))) (sSeq (sIf (tOr (Wk.tNot (tE (eUn (fIsInst "dict") (eV 0)))) (tE (eOp oNe (eUn fLen (eV 0)) (eUn fLen (eV 1))))) (sRet (eC (.bl false))) sSkip)
    (sRet (eOp oEq eBad (eLst aNil)))) sSkip)
    (sSeq (sIf (tAnd (Wk.tNot (tE (eUn (fIsInst "tuple") (eV 1)))) (Wk.tNot (tE (eUn (fIsInst "list") (eV 1))))) (sRet (eUn fBool (eOp oEq (eV 0) (eV 1)))) sSkip)
    (sSeq (sIf (tE (eOp oNe (eUn (fIsInst "tuple") (eV 1)) (eUn (fIsInst "tuple") (eV 0)))) (sRet (eC (.bl false))) sSkip)
    (sSeq (sIf (tE (eOp oNe (eUn (fIsInst "list") (eV 1)) (eUn (fIsInst "list") (eV 0)))) (sRet (eC (.bl false))) sSkip)
    (sSeq (sIf (tE (eOp oNe (eUn fLen (eV 0)) (eUn fLen (eV 1)))) (sRet (eC (.bl false))) sSkip)
    (sSeq (sFor (iRng (eUn fLen (eV 1))) (.nm 2) (sIf (Wk.tNot (tE (eCall self (aCons (eOp oIx (eV 0) (eV 2)) (aCons (eOp oIx (eV 1) (eV 2)) aNil))))) (sRet (eC (.bl false))) sSkip))
    (sRet (eC (.bl true)))))))))))))
def R__law_same : Nat → Fn
  | 0 => fun _ _ => .bad
  | n + 1 => mkF 2 4 (b__law_same (R__law_same n))
def F__law_same : Fn := R__law_same 12
/-- _law_beside_by: slots 0 one, 1 two, 2 first, 3 second, 4 fields, 5 kind, 6 a, 7 b -/
abbrev b__law_beside_by : FS :=
    (sSeq (sSet 2 (eComp (iRng (eOp oIx (eV 0) (eC (.int 1)))) (.nm 5) tTrue (eIf (tE (eOp oLt (eV 5) (eOp oIx (eV 0) (eC (.int 0))))) (eV 5) (eOp oAdd (eV 5) (eOp oIx (eV 1) (eC (.int 0))))) [5]))
    (sSeq (sSet 3 (eComp (iRng (eOp oIx (eV 1) (eC (.int 1)))) (.nm 5) tTrue (eIf (tE (eOp oLt (eV 5) (eOp oIx (eV 1) (eC (.int 0))))) (eOp oAdd (eOp oIx (eV 0) (eC (.int 0))) (eV 5)) (eOp oAdd (eOp oIx (eV 0) (eC (.int 1))) (eV 5))) [5]))
    (sSeq (sSet 4 (eOp oAdd (eComp (iSeq (eOp oIx (eV 0) (eC (.int 2)))) (.tp [(.nm 6), (.nm 7)]) tTrue (eTup (aCons (eOp oIx (eV 2) (eV 6)) (aCons (eOp oIx (eV 2) (eV 7)) aNil))) [6, 7]) (eComp (iSeq (eOp oIx (eV 1) (eC (.int 2)))) (.tp [(.nm 6), (.nm 7)]) tTrue (eTup (aCons (eOp oIx (eV 3) (eV 6)) (aCons (eOp oIx (eV 3) (eV 7)) aNil))) [6, 7])))
    (sRet (eTup (aCons (eOp oAdd (eOp oIx (eV 0) (eC (.int 0))) (eOp oIx (eV 1) (eC (.int 0)))) (aCons (eOp oAdd (eOp oIx (eV 0) (eC (.int 1))) (eOp oIx (eV 1) (eC (.int 1)))) (aCons (eUn fTuple (eV 4)) aNil))))))))
def F__law_beside_by : Fn := mkF 2 8 b__law_beside_by
/-- _law_beside_refused: slots 0 one, 1 two, 2 sums, 3 bad, 4 many, 5 top -/
abbrev b__law_beside_refused : FS :=
    (sSeq (sSet 2 (eLst (aCons (eTup (aCons (eOp oAdd (eOp oIx (eV 0) (eC (.int 0))) (eOp oIx (eV 1) (eC (.int 0)))) (aCons (eC (.int 6)) aNil))) (aCons (eTup (aCons (eOp oAdd (eOp oIx (eV 0) (eC (.int 1))) (eOp oIx (eV 1) (eC (.int 1)))) (aCons (eC (.int 24)) aNil))) (aCons (eTup (aCons (eOp oAdd (eUn fLen (eOp oIx (eV 0) (eC (.int 2)))) (eUn fLen (eOp oIx (eV 1) (eC (.int 2))))) (aCons (eC (.int 40)) aNil))) aNil)))))
    (sSeq (sSet 3 (eComp (iSeq (eV 2)) (.tp [(.nm 4), (.nm 5)]) (tE (eOp oGt (eV 4) (eV 5))) (eV 4) [4, 5]))
    (sRet (eIf (tE (eOp oNe (eV 3) (eLst aNil))) (eTup (aCons (eC (.str "TooMany")) (aCons (eOp oIx (eV 3) (eC (.int 0))) aNil))) (eC .non)))))
def F__law_beside_refused : Fn := mkF 2 6 b__law_beside_refused
/-- _law_merged: slots 0 one, 1 two, 2 k, 3 entry -/
abbrev b__law_merged : FS :=
    (sRet (eUn fTuple (eComp (iRng (eC (.int 3))) (.nm 2) tTrue (eUn fTuple (eUn fSorted (eUn fDict (eComp (iSeq (eOp oAdd (eOp oIx (eV 0) (eV 2)) (eOp oIx (eV 1) (eV 2)))) (.nm 3) tTrue (eTup (aCons (eV 3) (aCons (eC (.bl true)) aNil))) [3])))) [2])))
def F__law_merged : Fn := mkF 2 4 b__law_merged
/-- _law_is_within: slots 0 one, 1 two, 2 k, 3 entry -/
abbrev b__law_is_within : FS :=
    (sRet (eOp oEq (eComp (iRng (eC (.int 3))) (.nm 2) (tE (eOp oNe (eComp (iSeq (eOp oIx (eV 0) (eV 2))) (.nm 3) (tE (eOp oNinS (eV 3) (eOp oIx (eV 1) (eV 2)))) (eV 3) [3]) (eLst aNil))) (eV 2) [2]) (eLst aNil)))
def F__law_is_within : Fn := mkF 2 4 b__law_is_within
/-- _law_full_right: slots 0 schema, 1 pairs, 2 fields, 3 owed -/
abbrev b__law_full_right : FS :=
    (sSeq (sPar 1 2 (eCall F__law_wv_pairs (aCons (eV 0) aNil)) (eUn fTupRg (eUn fLen (eOp oIx (eV 0) (eC (.int 2))))))
    (sSeq (sSet 3 (eIf (tE (eOp oLe (eUn fLen (eV 1)) (eC (.int 400)))) (eTup (aCons (eC (.str "told")) (aCons (eTup (aCons (eUn fTuple (eV 1)) (aCons (eV 2) (aCons (eV 2) aNil)))) aNil))) (eTup (aCons (eC (.str "TooMany")) (aCons (eUn fLen (eV 1)) aNil)))))
    (sRet (eCall F__law_same (aCons (eHeard heardCs (eCall F_full_table (aCons (eV 0) aNil))) (aCons (eV 3) aNil))))))
def F__law_full_right : Fn := mkF 1 4 b__law_full_right
/-- _law_joined_right: slots 0 schema, 1 one, 2 two, 3 both, 4 owed, 5 told -/
abbrev b__law_joined_right : FS :=
    (sSeq (sSet 3 (eCall F__law_merged (aCons (eV 1) (aCons (eV 2) aNil))))
    (sSeq (sSet 4 (eIf (tE (eOp oLe (eUn fLen (eOp oIx (eV 3) (eC (.int 0)))) (eC (.int 400)))) (eTup (aCons (eC (.str "told")) (aCons (eV 3) aNil))) (eTup (aCons (eC (.str "TooMany")) (aCons (eUn fLen (eOp oIx (eV 3) (eC (.int 0)))) aNil)))))
    (sSeq (sIf (Wk.tNot (tE (eCall F__law_same (aCons (eHeard heardCs (eCall F_joined_tables (aCons (eV 0) (aCons (eV 1) (aCons (eV 2) aNil))))) (aCons (eV 4) aNil))))) (sRet (eC (.bl false))) sSkip)
    (sSeq (sSet 5 (eLst (aCons (eCall F_table_within (aCons (eV 0) (aCons (eV 1) (aCons (eV 2) aNil)))) (aCons (eCall F_table_within (aCons (eV 0) (aCons (eV 2) (aCons (eV 1) aNil)))) aNil))))
    (sSeq (sIf (Wk.tNot (tE (eCall F__law_same (aCons (eV 5) (aCons (eLst (aCons (eCall F__law_is_within (aCons (eV 1) (aCons (eV 2) aNil))) (aCons (eCall F__law_is_within (aCons (eV 2) (aCons (eV 1) aNil))) aNil))) aNil))))) (sRet (eC (.bl false))) sSkip)
    (sSeq (sIf (tE (eOp oGt (eUn fLen (eOp oIx (eV 3) (eC (.int 0)))) (eC (.int 400)))) (sRet (eC (.bl true))) sSkip)
    (sSeq (sSet 5 (eLst (aCons (eCall F_table_within (aCons (eV 0) (aCons (eV 1) (aCons (eV 3) aNil)))) (aCons (eCall F_table_within (aCons (eV 0) (aCons (eV 2) (aCons (eV 3) aNil)))) (aCons (eCall F_table_within (aCons (eV 0) (aCons (eV 3) (aCons (eV 1) aNil)))) aNil)))))
    (sRet (eCall F__law_same (aCons (eV 5) (aCons (eLst (aCons (eC (.bl true)) (aCons (eC (.bl true)) (aCons (eCall F__law_is_within (aCons (eV 2) (aCons (eV 1) aNil))) aNil)))) aNil)))))))))))
def F__law_joined_right : Fn := mkF 3 6 b__law_joined_right
/-- _law_beside_right: slots 0 one, 1 table, 2 two, 3 other, 4 refusal, 5 owed, 6 many, 7 carries, 8 far, 9 both, 10 g, 11 f, 12 k -/
abbrev b__law_beside_right : FS :=
    (sSeq (sSet 4 (eCall F__law_beside_refused (aCons (eV 0) (aCons (eV 2) aNil))))
    (sSeq (sSet 5 (eIf (tE (eOp oIsN (eV 4) (eC .non))) (eTup (aCons (eC (.str "told")) (aCons (eCall F__law_beside_by (aCons (eV 0) (aCons (eV 2) aNil))) aNil))) (eV 4)))
    (sSeq (sIf (Wk.tNot (tE (eCall F__law_same (aCons (eHeard heardCs (eCall F_beside (aCons (eV 0) (aCons (eV 2) aNil)))) (aCons (eV 5) aNil))))) (sRet (eC (.bl false))) sSkip)
    (sSeq (sSet 6 (eUn fLen (eOp oIx (eV 0) (eC (.int 2)))))
    (sSeq (sSet 7 (eUn fTuple (eComp (iSeq (eOp oIx (eV 3) (eC (.int 0)))) (.tp [(.nm 10), (.nm 11)]) tTrue (eTup (aCons (eOp oAdd (eV 10) (eV 6)) (aCons (eOp oAdd (eV 11) (eV 6)) aNil))) [10, 11])))
    (sSeq (sSet 8 (eComp (iSeq (eLst (aCons (eC (.int 1)) (aCons (eC (.int 2)) aNil)))) (.nm 12) tTrue (eUn fTuple (eComp (iSeq (eOp oIx (eV 3) (eV 12))) (.nm 11) tTrue (eOp oAdd (eV 11) (eV 6)) [11])) [12]))
    (sSeq (sSet 9 (eTup (aCons (eOp oAdd (eOp oIx (eV 1) (eC (.int 0))) (eV 7)) (aCons (eOp oAdd (eOp oIx (eV 1) (eC (.int 1))) (eOp oIx (eV 8) (eC (.int 0)))) (aCons (eOp oAdd (eOp oIx (eV 1) (eC (.int 2))) (eOp oIx (eV 8) (eC (.int 1)))) aNil)))))
    (sSeq (sIf (tAnd (tE (eOp oIsN (eV 4) (eC .non))) (tE (eOp oGt (eUn fLen (eOp oIx (eV 9) (eC (.int 0)))) (eC (.int 400))))) (sSet 4 (eTup (aCons (eC (.str "TooMany")) (aCons (eUn fLen (eOp oIx (eV 9) (eC (.int 0)))) aNil)))) sSkip)
    (sSeq (sSet 5 (eIf (tE (eOp oIsN (eV 4) (eC .non))) (eTup (aCons (eC (.str "told")) (aCons (eV 9) aNil))) (eV 4)))
    (sRet (eCall F__law_same (aCons (eHeard heardCs (eCall F_table_beside (aCons (eV 0) (aCons (eV 1) (aCons (eV 2) (aCons (eV 3) aNil)))))) (aCons (eV 5) aNil)))))))))))))
def F__law_beside_right : Fn := mkF 4 13 b__law_beside_right
/-- _law_wide_schema: slots 0 pool, 1 hands, 2 found, 3 kinds, 4 go -/
abbrev b__law_wide_schema : FS :=
    (sSeq (sPar 1 2 (eOp oAdd (eC (.int 1)) (eCall F__law_wv_take (aCons (eV 0) (aCons (eC (.int 3)) aNil)))) (eLst aNil))
    (sSeq (sSet 3 (eOp oAdd (eOp oAdd (eV 1) (eC (.int 1))) (eCall F__law_wv_take (aCons (eV 0) (aCons (eC (.int 3)) aNil)))))
    (sSeq (sFor (iRng (eOp oAdd (eC (.int 15)) (eCall F__law_wv_take (aCons (eV 0) (aCons (eC (.int 26)) aNil))))) (.nm 4) (sExpr (eBM oAppend (eV 2) (eTup (aCons (eCall F__law_wv_take (aCons (eV 0) (aCons (eV 3) aNil))) (aCons (eOp oAdd (eV 1) (eCall F__law_wv_take (aCons (eV 0) (aCons (eOp oSub (eV 3) (eV 1)) aNil)))) aNil))))))
    (sRet (eTup (aCons (eV 1) (aCons (eV 3) (aCons (eUn fTuple (eV 2)) aNil))))))))
def F__law_wide_schema : Fn := mkF 1 5 b__law_wide_schema
/-- law: slots 0 script, 1 pool, 2 ahead, 3 go, 4 form, 5 schema, 6 one, 7 two, 8 far, 9 other -/
abbrev b_law : FS :=
    (sSeq (sPar 1 2 (eCall F__law_wv_pool (aCons (eV 0) aNil)) (eLst aNil))
    (sSeq (sFor (iRng (eC (.int 8))) (.nm 3) (sSeq (sSet 4 (eIf (tE (eOp oEq (eV 3) (eC (.int 7)))) (eC (.int 7)) (eIf (tE (eOp oEq (eV 3) (eC (.int 6)))) (eCall F__law_wv_take (aCons (eV 1) (aCons (eC (.int 2)) aNil))) (eC (.int 1)))))
    (sSeq (sSet 5 (eIf (tE (eOp oEq (eV 4) (eC (.int 7)))) (eCall F__law_wide_schema (aCons (eV 1) aNil)) (eCall F__law_wv_schema (aCons (eV 1) aNil))))
    (sSeq (sSet 5 (eIf (tE (eOp oEq (eV 4) (eC (.int 0)))) (eCall F__law_wv_great_schema (aCons (eV 1) aNil)) (eV 5)))
    (sSeq (sPar 6 7 (eCall F__law_wv_table (aCons (eV 1) (aCons (eV 5) aNil))) (eCall F__law_wv_table (aCons (eV 1) (aCons (eV 5) aNil))))
    (sSeq (sIf (tOr (Wk.tNot (tE (eCall F__law_full_right (aCons (eV 5) aNil)))) (Wk.tNot (tE (eCall F__law_joined_right (aCons (eV 5) (aCons (eV 6) (aCons (eV 7) aNil))))))) (sRet (eC (.bl false))) sSkip)
    (sSeq (sExpr (eBM oAppend (eV 2) (eTup (aCons (eV 5) (aCons (eV 6) aNil)))))
    (sFor (iSeq (eLst (aCons (eCall F__law_wv_one (aCons (eV 1) (aCons (eV 2) aNil))) (aCons (eCall F__law_wv_one (aCons (eV 1) (aCons (eV 2) aNil))) aNil)))) (.tp [(.nm 8), (.nm 9)]) (sIf (tOr (Wk.tNot (tE (eCall F__law_beside_right (aCons (eV 5) (aCons (eV 6) (aCons (eV 8) (aCons (eV 9) aNil))))))) (Wk.tNot (tE (eCall F__law_beside_right (aCons (eV 8) (aCons (eV 9) (aCons (eV 5) (aCons (eV 7) aNil)))))))) (sRet (eC (.bl false))) sSkip)))))))))
    (sRet (eC (.bl true)))))
def F_law : Fn := mkF 1 10 b_law
end WkL


set_option Elab.async false
set_option linter.all false
set_option maxRecDepth 100000
set_option maxHeartbeats 4000000
set_option autoImplicit false
/-! printed by gen.py: the derivations for the defs of wovenkeep_k06_tables_full_joined_beside. -/
namespace WkL
open PySem PySem.Spec PyProof.Rows L2 LamX Wk

def top (i : Nat) : Stmt := PySem.Challenge.pw_wovenkeep_k06_tables_full_joined_beside.main.body.getD i (.Pass ⟨0, 0, 0, 0⟩)
abbrev st_is_whole : Stmt := top 6
abbrev st_rising_in : Stmt := top 7
abbrev st_is_row : Stmt := top 8
abbrev st_is_field : Stmt := top 13
abbrev st_made_schema : Stmt := top 14
abbrev st_kinds_beside : Stmt := top 16
abbrev st_beside : Stmt := top 17
abbrev st_is_carry : Stmt := top 20
abbrev st_wrong_carry : Stmt := top 21
abbrev st_ask_carries : Stmt := top 22
abbrev st_made_table : Stmt := top 23
abbrev st_full_table : Stmt := top 24
abbrev st_together : Stmt := top 26
abbrev st_joined_tables : Stmt := top 27
abbrev st_lies_within : Stmt := top 28
abbrev st_table_within : Stmt := top 29
abbrev st_table_beside : Stmt := top 30
abbrev st__law_wv_pool : Stmt := top 32
abbrev st__law_wv_take : Stmt := top 33
abbrev st__law_wv_one : Stmt := top 34
abbrev st__law_wv_mixed : Stmt := top 35
abbrev st__law_wv_some : Stmt := top 36
abbrev st__law_wv_schema : Stmt := top 37
abbrev st__law_wv_great_schema : Stmt := top 38
abbrev st__law_wv_hand_field : Stmt := top 39
abbrev st__law_wv_pairs : Stmt := top 40
abbrev st__law_wv_table : Stmt := top 41
abbrev st__law_is_whole : Stmt := top 42
abbrev st__law_same : Stmt := top 43
abbrev st__law_heard : Stmt := top 44
abbrev st__law_beside_by : Stmt := top 45
abbrev st__law_beside_refused : Stmt := top 46
abbrev st__law_merged : Stmt := top 47
abbrev st__law_is_within : Stmt := top 48
abbrev st__law_full_right : Stmt := top 49
abbrev st__law_joined_right : Stmt := top 50
abbrev st__law_beside_right : Stmt := top 51
abbrev st__law_wide_schema : Stmt := top 52
abbrev st_law : Stmt := top 53
abbrev st_init : Stmt := inClass (top 1) 0
theorem kit_int : ∀ t ∈ tysD, kitB t "int" = some (isTy t "int") := by decide +kernel
theorem kit_bool : ∀ t ∈ tysD, kitB t "bool" = some (isTy t "bool") := by decide +kernel
theorem kit_str : ∀ t ∈ tysD, kitB t "str" = some (isTy t "str") := by decide +kernel
theorem kit_tuple : ∀ t ∈ tysD, kitB t "tuple" = some (isTy t "tuple") := by decide +kernel
theorem kit_list : ∀ t ∈ tysD, kitB t "list" = some (isTy t "list") := by decide +kernel
theorem kit_dict : ∀ t ∈ tysD, kitB t "dict" = some (isTy t "dict") := by decide +kernel
abbrev N_is_whole : List Str := ["thing", "low", "high"]
theorem sc_is_whole : FnScope ["thing", "low", "high"] ["thing", "low", "high"] (defScope st_is_whole) := ⟨rfl, rfl, rfl, by decide +kernel, rfl, by decide +kernel, by decide +kernel⟩
abbrev N_rising_in : List Str := ["thing", "low", "high", "last", "index", "number"]
theorem sc_rising_in : FnScope ["thing", "low", "high", "last", "index", "number"] ["thing", "low", "high"] (defScope st_rising_in) := ⟨rfl, rfl, rfl, by decide +kernel, rfl, by decide +kernel, by decide +kernel⟩
abbrev N_is_row : List Str := ["thing", "many"]
theorem sc_is_row : FnScope ["thing", "many"] ["thing", "many"] (defScope st_is_row) := ⟨rfl, rfl, rfl, by decide +kernel, rfl, by decide +kernel, by decide +kernel⟩
abbrev N_is_field : List Str := ["thing", "hands", "kinds"]
theorem sc_is_field : FnScope ["thing", "hands", "kinds"] ["thing", "hands", "kinds"] (defScope st_is_field) := ⟨rfl, rfl, rfl, by decide +kernel, rfl, by decide +kernel, by decide +kernel⟩
abbrev N_made_schema : List Str := ["thing", "hands", "kinds", "fields", "index", "field"]
theorem sc_made_schema : FnScope ["thing", "hands", "kinds", "fields", "index", "field"] ["thing"] (defScope st_made_schema) := ⟨rfl, rfl, rfl, by decide +kernel, rfl, by decide +kernel, by decide +kernel⟩
abbrev N_kinds_beside : List Str := ["one", "two", "firsts", "seconds", "kind"]
theorem sc_kinds_beside : FnScope ["one", "two", "firsts", "seconds", "kind"] ["one", "two"] (defScope st_kinds_beside) := ⟨rfl, rfl, rfl, by decide +kernel, rfl, by decide +kernel, by decide +kernel⟩
abbrev N_beside : List Str := ["one", "two", "first", "second", "at", "most", "many", "fields", "schema", "now", "holder", "target"]
theorem sc_beside : FnScope ["one", "two", "first", "second", "at", "most", "many", "fields", "schema", "now", "holder", "target"] ["one", "two"] (defScope st_beside) := ⟨rfl, rfl, rfl, by decide +kernel, rfl, by decide +kernel, by decide +kernel⟩
abbrev N_is_carry : List Str := ["schema", "thing", "f"]
theorem sc_is_carry : FnScope ["schema", "thing", "f"] ["schema", "thing"] (defScope st_is_carry) := ⟨rfl, rfl, rfl, by decide +kernel, rfl, by decide +kernel, by decide +kernel⟩
abbrev N_wrong_carry : List Str := ["schema", "carries", "last", "index", "pair"]
theorem sc_wrong_carry : FnScope ["schema", "carries", "last", "index", "pair"] ["schema", "carries"] (defScope st_wrong_carry) := ⟨rfl, rfl, rfl, by decide +kernel, rfl, by decide +kernel, by decide +kernel⟩
abbrev N_ask_carries : List Str := ["schema", "carries", "index"]
theorem sc_ask_carries : FnScope ["schema", "carries", "index"] ["schema", "carries"] (defScope st_ask_carries) := ⟨rfl, rfl, rfl, by decide +kernel, rfl, by decide +kernel, by decide +kernel⟩
abbrev N_made_table : List Str := ["schema", "thing", "at", "index", "pair"]
theorem sc_made_table : FnScope ["schema", "thing", "at", "index", "pair"] ["schema", "thing"] (defScope st_made_table) := ⟨rfl, rfl, rfl, by decide +kernel, rfl, by decide +kernel, by decide +kernel⟩
abbrev N_full_table : List Str := ["schema", "fields", "carries", "g", "f"]
theorem sc_full_table : FnScope ["schema", "fields", "carries", "g", "f"] ["schema"] (defScope st_full_table) := ⟨rfl, rfl, rfl, by decide +kernel, rfl, by decide +kernel, by decide +kernel⟩
abbrev N_together : List Str := ["one", "two", "found", "entry"]
theorem sc_together : FnScope ["one", "two", "found", "entry"] ["one", "two"] (defScope st_together) := ⟨rfl, rfl, rfl, by decide +kernel, rfl, by decide +kernel, by decide +kernel⟩
abbrev N_joined_tables : List Str := ["schema", "one", "two", "carries"]
theorem sc_joined_tables : FnScope ["schema", "one", "two", "carries"] ["schema", "one", "two"] (defScope st_joined_tables) := ⟨rfl, rfl, rfl, by decide +kernel, rfl, by decide +kernel, by decide +kernel⟩
abbrev N_lies_within : List Str := ["one", "two", "lot", "part", "entry"]
theorem sc_lies_within : FnScope ["one", "two", "lot", "part", "entry"] ["one", "two"] (defScope st_lies_within) := ⟨rfl, rfl, rfl, by decide +kernel, rfl, by decide +kernel, by decide +kernel⟩
abbrev N_table_within : List Str := ["schema", "one", "two"]
theorem sc_table_within : FnScope ["schema", "one", "two"] ["schema", "one", "two"] (defScope st_table_within) := ⟨rfl, rfl, rfl, by decide +kernel, rfl, by decide +kernel, by decide +kernel⟩
abbrev N_table_beside : List Str := ["schema", "table", "second", "two", "many", "by", "carries", "g", "f"]
theorem sc_table_beside : FnScope ["schema", "table", "second", "two", "many", "by", "carries", "g", "f"] ["schema", "table", "second", "two"] (defScope st_table_beside) := ⟨rfl, rfl, rfl, by decide +kernel, rfl, by decide +kernel, by decide +kernel⟩
abbrev N__law_wv_pool : List Str := ["script", "digits", "stirred", "at", "cell"]
theorem sc__law_wv_pool : FnScope ["script", "digits", "stirred", "at", "cell"] ["script"] (defScope st__law_wv_pool) := ⟨rfl, rfl, rfl, by decide +kernel, rfl, by decide +kernel, by decide +kernel⟩
abbrev N__law_wv_take : List Str := ["pool", "many", "found"]
theorem sc__law_wv_take : FnScope ["pool", "many", "found"] ["pool", "many"] (defScope st__law_wv_take) := ⟨rfl, rfl, rfl, by decide +kernel, rfl, by decide +kernel, by decide +kernel⟩
abbrev N__law_wv_one : List Str := ["pool", "things"]
theorem sc__law_wv_one : FnScope ["pool", "things"] ["pool", "things"] (defScope st__law_wv_one) := ⟨rfl, rfl, rfl, by decide +kernel, rfl, by decide +kernel, by decide +kernel⟩
abbrev N__law_wv_mixed : List Str := ["pool", "things", "spare", "found", "go"]
theorem sc__law_wv_mixed : FnScope ["pool", "things", "spare", "found", "go"] ["pool", "things"] (defScope st__law_wv_mixed) := ⟨rfl, rfl, rfl, by decide +kernel, rfl, by decide +kernel, by decide +kernel⟩
abbrev N__law_wv_some : List Str := ["pool", "things", "part", "thing"]
theorem sc__law_wv_some : FnScope ["pool", "things", "part", "thing"] ["pool", "things", "part"] (defScope st__law_wv_some) := ⟨rfl, rfl, rfl, by decide +kernel, rfl, by decide +kernel, by decide +kernel⟩
abbrev N__law_wv_schema : List Str := ["pool", "hands", "kinds", "met", "found", "go", "holder", "goal"]
theorem sc__law_wv_schema : FnScope ["pool", "hands", "kinds", "met", "found", "go", "holder", "goal"] ["pool"] (defScope st__law_wv_schema) := ⟨rfl, rfl, rfl, by decide +kernel, rfl, by decide +kernel, by decide +kernel⟩
abbrev N__law_wv_great_schema : List Str := ["pool", "hands", "found", "go"]
theorem sc__law_wv_great_schema : FnScope ["pool", "hands", "found", "go"] ["pool"] (defScope st__law_wv_great_schema) := ⟨rfl, rfl, rfl, by decide +kernel, rfl, by decide +kernel, by decide +kernel⟩
abbrev N__law_wv_hand_field : List Str := ["schema", "f"]
theorem sc__law_wv_hand_field : FnScope ["schema", "f"] ["schema", "f"] (defScope st__law_wv_hand_field) := ⟨rfl, rfl, rfl, by decide +kernel, rfl, by decide +kernel, by decide +kernel⟩
abbrev N__law_wv_pairs : List Str := ["schema", "found", "g", "f"]
theorem sc__law_wv_pairs : FnScope ["schema", "found", "g", "f"] ["schema"] (defScope st__law_wv_pairs) := ⟨rfl, rfl, rfl, by decide +kernel, rfl, by decide +kernel, by decide +kernel⟩
abbrev N__law_wv_table : List Str := ["pool", "schema", "form", "fields", "pairs", "own", "part", "carries", "g", "f"]
theorem sc__law_wv_table : FnScope ["pool", "schema", "form", "fields", "pairs", "own", "part", "carries", "g", "f"] ["pool", "schema"] (defScope st__law_wv_table) := ⟨rfl, rfl, rfl, by decide +kernel, rfl, by decide +kernel, by decide +kernel⟩
abbrev N__law_is_whole : List Str := ["thing"]
theorem sc__law_is_whole : FnScope ["thing"] ["thing"] (defScope st__law_is_whole) := ⟨rfl, rfl, rfl, by decide +kernel, rfl, by decide +kernel, by decide +kernel⟩
abbrev N__law_same : List Str := ["heard_one", "owed", "at", "one"]
theorem sc__law_same : FnScope ["heard_one", "owed", "at", "one"] ["heard_one", "owed"] (defScope st__law_same) := ⟨rfl, rfl, rfl, by decide +kernel, rfl, by decide +kernel, by decide +kernel⟩
abbrev N__law_beside_by : List Str := ["one", "two", "first", "second", "fields", "kind", "a", "b"]
theorem sc__law_beside_by : FnScope ["one", "two", "first", "second", "fields", "kind", "a", "b"] ["one", "two"] (defScope st__law_beside_by) := ⟨rfl, rfl, rfl, by decide +kernel, rfl, by decide +kernel, by decide +kernel⟩
abbrev N__law_beside_refused : List Str := ["one", "two", "sums", "bad", "many", "top"]
theorem sc__law_beside_refused : FnScope ["one", "two", "sums", "bad", "many", "top"] ["one", "two"] (defScope st__law_beside_refused) := ⟨rfl, rfl, rfl, by decide +kernel, rfl, by decide +kernel, by decide +kernel⟩
abbrev N__law_merged : List Str := ["one", "two", "k", "entry"]
theorem sc__law_merged : FnScope ["one", "two", "k", "entry"] ["one", "two"] (defScope st__law_merged) := ⟨rfl, rfl, rfl, by decide +kernel, rfl, by decide +kernel, by decide +kernel⟩
abbrev N__law_is_within : List Str := ["one", "two", "k", "entry"]
theorem sc__law_is_within : FnScope ["one", "two", "k", "entry"] ["one", "two"] (defScope st__law_is_within) := ⟨rfl, rfl, rfl, by decide +kernel, rfl, by decide +kernel, by decide +kernel⟩
abbrev N__law_full_right : List Str := ["schema", "pairs", "fields", "owed"]
theorem sc__law_full_right : FnScope ["schema", "pairs", "fields", "owed"] ["schema"] (defScope st__law_full_right) := ⟨rfl, rfl, rfl, by decide +kernel, rfl, by decide +kernel, by decide +kernel⟩
abbrev N__law_joined_right : List Str := ["schema", "one", "two", "both", "owed", "told"]
theorem sc__law_joined_right : FnScope ["schema", "one", "two", "both", "owed", "told"] ["schema", "one", "two"] (defScope st__law_joined_right) := ⟨rfl, rfl, rfl, by decide +kernel, rfl, by decide +kernel, by decide +kernel⟩
abbrev N__law_beside_right : List Str := ["one", "table", "two", "other", "refusal", "owed", "many", "carries", "far", "both", "g", "f", "k"]
theorem sc__law_beside_right : FnScope ["one", "table", "two", "other", "refusal", "owed", "many", "carries", "far", "both", "g", "f", "k"] ["one", "table", "two", "other"] (defScope st__law_beside_right) := ⟨rfl, rfl, rfl, by decide +kernel, rfl, by decide +kernel, by decide +kernel⟩
abbrev N__law_wide_schema : List Str := ["pool", "hands", "found", "kinds", "go"]
theorem sc__law_wide_schema : FnScope ["pool", "hands", "found", "kinds", "go"] ["pool"] (defScope st__law_wide_schema) := ⟨rfl, rfl, rfl, by decide +kernel, rfl, by decide +kernel, by decide +kernel⟩
abbrev N_law : List Str := ["script", "pool", "ahead", "go", "form", "schema", "one", "two", "far", "other"]
theorem sc_law : FnScope ["script", "pool", "ahead", "go", "form", "schema", "one", "two", "far", "other"] ["script"] (defScope st_law) := ⟨rfl, rfl, rfl, by decide +kernel, rfl, by decide +kernel, by decide +kernel⟩
def hds : List ExceptHandler := match defBody st__law_heard with
  | [.Try _ hs _ _ _] => hs
  | _ => []
structure Txt (P : Program) (w : World) (K : PySem.W.Frag) (mg : Str → Option Value) (base : Heap) (c__law_full_right t__law_full_right c__law_joined_right t__law_joined_right c__law_beside_right t__law_beside_right : Addr) : Prop where
  d_is_whole : DefAt K mg "is_whole" st_is_whole ["thing", "low", "high"]
  d_rising_in : DefAt K mg "rising_in" st_rising_in ["thing", "low", "high"]
  d_is_row : DefAt K mg "is_row" st_is_row ["thing", "many"]
  d_is_field : DefAt K mg "is_field" st_is_field ["thing", "hands", "kinds"]
  d_made_schema : DefAt K mg "made_schema" st_made_schema ["thing"]
  d_kinds_beside : DefAt K mg "kinds_beside" st_kinds_beside ["one", "two"]
  d_beside : DefAt K mg "beside" st_beside ["one", "two"]
  d_is_carry : DefAt K mg "is_carry" st_is_carry ["schema", "thing"]
  d_wrong_carry : DefAt K mg "wrong_carry" st_wrong_carry ["schema", "carries"]
  d_ask_carries : DefAt K mg "ask_carries" st_ask_carries ["schema", "carries"]
  d_made_table : DefAt K mg "made_table" st_made_table ["schema", "thing"]
  d_full_table : DefAt K mg "full_table" st_full_table ["schema"]
  d_together : DefAt K mg "together" st_together ["one", "two"]
  d_joined_tables : DefAt K mg "joined_tables" st_joined_tables ["schema", "one", "two"]
  d_lies_within : DefAt K mg "lies_within" st_lies_within ["one", "two"]
  d_table_within : DefAt K mg "table_within" st_table_within ["schema", "one", "two"]
  d_table_beside : DefAt K mg "table_beside" st_table_beside ["schema", "table", "second", "two"]
  d__law_wv_pool : DefAt K mg "_law_wv_pool" st__law_wv_pool ["script"]
  d__law_wv_take : DefAt K mg "_law_wv_take" st__law_wv_take ["pool", "many"]
  d__law_wv_one : DefAt K mg "_law_wv_one" st__law_wv_one ["pool", "things"]
  d__law_wv_mixed : DefAt K mg "_law_wv_mixed" st__law_wv_mixed ["pool", "things"]
  d__law_wv_some : DefAt K mg "_law_wv_some" st__law_wv_some ["pool", "things", "part"]
  d__law_wv_schema : DefAt K mg "_law_wv_schema" st__law_wv_schema ["pool"]
  d__law_wv_great_schema : DefAt K mg "_law_wv_great_schema" st__law_wv_great_schema ["pool"]
  d__law_wv_hand_field : DefAt K mg "_law_wv_hand_field" st__law_wv_hand_field ["schema", "f"]
  d__law_wv_pairs : DefAt K mg "_law_wv_pairs" st__law_wv_pairs ["schema"]
  d__law_wv_table : DefAt K mg "_law_wv_table" st__law_wv_table ["pool", "schema"]
  d__law_is_whole : DefAt K mg "_law_is_whole" st__law_is_whole ["thing"]
  d__law_same : DefAt K mg "_law_same" st__law_same ["heard_one", "owed"]
  d__law_beside_by : DefAt K mg "_law_beside_by" st__law_beside_by ["one", "two"]
  d__law_beside_refused : DefAt K mg "_law_beside_refused" st__law_beside_refused ["one", "two"]
  d__law_merged : DefAt K mg "_law_merged" st__law_merged ["one", "two"]
  d__law_is_within : DefAt K mg "_law_is_within" st__law_is_within ["one", "two"]
  d__law_full_right : DefAtC K mg "_law_full_right" st__law_full_right ["schema"] c__law_full_right
  d__law_joined_right : DefAtC K mg "_law_joined_right" st__law_joined_right ["schema", "one", "two"] c__law_joined_right
  d__law_beside_right : DefAtC K mg "_law_beside_right" st__law_beside_right ["one", "table", "two", "other"] c__law_beside_right
  d__law_wide_schema : DefAt K mg "_law_wide_schema" st__law_wide_schema ["pool"]
  d_law : DefAt K mg "law" st_law ["script"]
  n_all : mg "all" = none
  n_bool : mg "bool" = none
  n_dict : mg "dict" = none
  n_enumerate : mg "enumerate" = none
  n_int : mg "int" = none
  n_isinstance : mg "isinstance" = none
  n_len : mg "len" = none
  n_list : mg "list" = none
  n_max : mg "max" = none
  n_range : mg "range" = none
  n_sorted : mg "sorted" = none
  n_str : mg "str" = none
  n_tuple : mg "tuple" = none
  n_zip : mg "zip" = none
  c_MOST_CARRIES : ∃ t, mg "MOST_CARRIES" = some (.int 400 t)
  c_MOST_FIELDS : ∃ t, mg "MOST_FIELDS" = some (.int 40 t)
  c_MOST_HANDS : ∃ t, mg "MOST_HANDS" = some (.int 6 t)
  c_MOST_KINDS : ∃ t, mg "MOST_KINDS" = some (.int 24 t)
  e_BadSchema : ExcAt P w K mg base "BadSchema"
  e_BadTable : ExcAt P w K mg base "BadTable"
  e_TooMany : ExcAt P w K mg base "TooMany"
  heard : HeardAt K mg "_law_heard" "deed" "refused_one" st__law_heard hds heardCs
  b__law_full_right : TabB base mg c__law_full_right t__law_full_right
  b__law_joined_right : TabB base mg c__law_joined_right t__law_joined_right
  b__law_beside_right : TabB base mg c__law_beside_right t__law_beside_right
  u__law_full_right__law_joined_right : t__law_full_right ≠ t__law_joined_right
  u__law_full_right__law_beside_right : t__law_full_right ≠ t__law_beside_right
  u__law_joined_right__law_beside_right : t__law_joined_right ≠ t__law_beside_right
section
variable {P : Program} {w : World} {K : PySem.W.Frag} {mg : Str → Option Value} {base : Heap} {c__law_full_right t__law_full_right c__law_joined_right t__law_joined_right c__law_beside_right t__law_beside_right : Addr}
abbrev Tabl (t__law_full_right t__law_joined_right t__law_beside_right : Addr) : Tbs := [(t__law_full_right, (envOfC "_law_full_right" (defScope st__law_full_right) 0 0 .none).qual ++ "<lambda>"), (t__law_joined_right, (envOfC "_law_joined_right" (defScope st__law_joined_right) 0 0 .none).qual ++ "<lambda>"), (t__law_beside_right, (envOfC "_law_beside_right" (defScope st__law_beside_right) 0 0 .none).qual ++ "<lambda>")]
theorem mk__law_full_right {X : Cx} (Tx : Txt P w K mg base c__law_full_right t__law_full_right c__law_joined_right t__law_joined_right c__law_beside_right t__law_beside_right) (hb : X.base = base) (hm : X.mg = mg) (hc : X.env.code = .ref c__law_full_right) (hq : X.env.qual ++ "<lambda>" = (envOfC "_law_full_right" (defScope st__law_full_right) 0 0 .none).qual ++ "<lambda>") : MakerAt X (Tabl t__law_full_right t__law_joined_right t__law_beside_right) c__law_full_right t__law_full_right := by
  subst hb hm
  refine ⟨Tx.b__law_full_right, hc, ?_, fun p hp e => ?_⟩
  · rw [hq]; exact (List.Mem.head _)
  · rw [hq]
    simp only [Tabl, List.mem_cons, List.not_mem_nil, or_false] at hp
    rcases hp with rfl | rfl | rfl
    · rfl
    · exact absurd e.symm Tx.u__law_full_right__law_joined_right
    · exact absurd e.symm Tx.u__law_full_right__law_beside_right
theorem mk__law_joined_right {X : Cx} (Tx : Txt P w K mg base c__law_full_right t__law_full_right c__law_joined_right t__law_joined_right c__law_beside_right t__law_beside_right) (hb : X.base = base) (hm : X.mg = mg) (hc : X.env.code = .ref c__law_joined_right) (hq : X.env.qual ++ "<lambda>" = (envOfC "_law_joined_right" (defScope st__law_joined_right) 0 0 .none).qual ++ "<lambda>") : MakerAt X (Tabl t__law_full_right t__law_joined_right t__law_beside_right) c__law_joined_right t__law_joined_right := by
  subst hb hm
  refine ⟨Tx.b__law_joined_right, hc, ?_, fun p hp e => ?_⟩
  · rw [hq]; exact (List.Mem.tail _ (List.Mem.head _))
  · rw [hq]
    simp only [Tabl, List.mem_cons, List.not_mem_nil, or_false] at hp
    rcases hp with rfl | rfl | rfl
    · exact absurd e Tx.u__law_full_right__law_joined_right
    · rfl
    · exact absurd e.symm Tx.u__law_joined_right__law_beside_right
theorem mk__law_beside_right {X : Cx} (Tx : Txt P w K mg base c__law_full_right t__law_full_right c__law_joined_right t__law_joined_right c__law_beside_right t__law_beside_right) (hb : X.base = base) (hm : X.mg = mg) (hc : X.env.code = .ref c__law_beside_right) (hq : X.env.qual ++ "<lambda>" = (envOfC "_law_beside_right" (defScope st__law_beside_right) 0 0 .none).qual ++ "<lambda>") : MakerAt X (Tabl t__law_full_right t__law_joined_right t__law_beside_right) c__law_beside_right t__law_beside_right := by
  subst hb hm
  refine ⟨Tx.b__law_beside_right, hc, ?_, fun p hp e => ?_⟩
  · rw [hq]; exact (List.Mem.tail _ (List.Mem.tail _ (List.Mem.head _)))
  · rw [hq]
    simp only [Tabl, List.mem_cons, List.not_mem_nil, or_false] at hp
    rcases hp with rfl | rfl | rfl
    · exact absurd e Tx.u__law_full_right__law_beside_right
    · exact absurd e Tx.u__law_joined_right__law_beside_right
    · rfl
theorem ok_is_whole (Tx : Txt P w K mg base c__law_full_right t__law_full_right c__law_joined_right t__law_joined_right c__law_beside_right t__law_beside_right) : CallOk P w K mg base (Tabl t__law_full_right t__law_joined_right t__law_beside_right) 1 "is_whole" 3 F_is_whole := call_ok Tx.d_is_whole sc_is_whole rfl rfl fun f cdv A outer s H E hr =>
    (ess_one (es_ret (ev_and (ev_isinst kit_int Tx.n_isinstance Tx.n_int rfl (ev_v 0)) (ev_and (ev_not (ev_isinst kit_bool Tx.n_isinstance Tx.n_bool rfl (ev_v 0))) (ev_one (ev_chain (os_le hr) (os_le hr) (ev_v 1) (ev_v 0) (ev_v 2)))))))
theorem ok_rising_in (Tx : Txt P w K mg base c__law_full_right t__law_full_right c__law_joined_right t__law_joined_right c__law_beside_right t__law_beside_right) : CallOk P w K mg base (Tabl t__law_full_right t__law_joined_right t__law_beside_right) 2 "rising_in" 3 F_rising_in := call_ok Tx.d_rising_in sc_rising_in rfl rfl fun f cdv A outer s H E hr =>
    (ess_cons (es_if (et_not (et_e (ev_isinst kit_tuple Tx.n_isinstance Tx.n_tuple rfl (ev_v 0)))) (ess_one (es_ret (ev_un os_neg ev_int))) ess_nil)
    (ess_cons (es_set 3 sc_rising_in.nd (ev_op os_sub (ev_v 1) ev_int))
    (ess_cons (es_for (vs := [4, 5]) (passes_of rfl) rfl (ei_enum Tx.n_enumerate (ev_v 0)) (eg_tup rfl (egs_cons (eg_name 4 sc_rising_in.nd) (egs_cons (eg_name 5 sc_rising_in.nd) egs_nil))) (ess_cons (es_if (et_not (et_e (ev_call (ok_is_whole Tx) (takes_of rfl rfl rfl rfl) (hr.mono (by decide)) (ea_cons (ev_v 5) (ea_cons (ev_op os_add (ev_v 3) ev_int) (ea_cons (ev_v 2) ea_nil)))))) (ess_one (es_ret (ev_v 4))) ess_nil)
    (ess_one (es_set 3 sc_rising_in.nd (ev_v 5)))))
    (ess_one (es_ret ev_non)))))
theorem ok_is_row (Tx : Txt P w K mg base c__law_full_right t__law_full_right c__law_joined_right t__law_joined_right c__law_beside_right t__law_beside_right) : CallOk P w K mg base (Tabl t__law_full_right t__law_joined_right t__law_beside_right) 1 "is_row" 2 F_is_row := call_ok Tx.d_is_row sc_is_row rfl rfl fun f cdv A outer s H E hr =>
    (ess_one (es_ret (ev_and (ev_isinst kit_tuple Tx.n_isinstance Tx.n_tuple rfl (ev_v 0)) (ev_one (ev_cmp (os_eq hr) (ev_b1 os_len Tx.n_len rfl (ev_v 0)) (ev_v 1))))))
theorem ok_is_field (Tx : Txt P w K mg base c__law_full_right t__law_full_right c__law_joined_right t__law_joined_right c__law_beside_right t__law_beside_right) : CallOk P w K mg base (Tabl t__law_full_right t__law_joined_right t__law_beside_right) 2 "is_field" 3 F_is_field := call_ok Tx.d_is_field sc_is_field rfl rfl fun f cdv A outer s H E hr =>
    (ess_one (es_ret (ev_and (ev_call (ok_is_row Tx) (takes_of rfl rfl rfl rfl) (hr.mono (by decide)) (ea_cons (ev_v 0) (ea_cons ev_int ea_nil))) (ev_and (ev_call (ok_is_whole Tx) (takes_of rfl rfl rfl rfl) (hr.mono (by decide)) (ea_cons (ev_ix os_ix (ev_v 0) ev_int) (ea_cons ev_int (ea_cons (ev_op os_sub (ev_v 2) ev_int) ea_nil)))) (ev_one (ev_call (ok_is_whole Tx) (takes_of rfl rfl rfl rfl) (hr.mono (by decide)) (ea_cons (ev_ix os_ix (ev_v 0) ev_int) (ea_cons (ev_v 1) (ea_cons (ev_op os_sub (ev_v 2) ev_int) ea_nil)))))))))
theorem ok_made_schema (Tx : Txt P w K mg base c__law_full_right t__law_full_right c__law_joined_right t__law_joined_right c__law_beside_right t__law_beside_right) : CallOk P w K mg base (Tabl t__law_full_right t__law_joined_right t__law_beside_right) 3 "made_schema" 1 F_made_schema := call_ok Tx.d_made_schema sc_made_schema rfl rfl fun f cdv A outer s H E hr =>
    (ess_cons (es_if (et_not (et_e (ev_call (ok_is_row Tx) (takes_of rfl rfl rfl rfl) (hr.mono (by decide)) (ea_cons (ev_v 0) (ea_cons ev_int ea_nil))))) (ess_one (es_raise Tx.e_BadSchema rfl rfl (takes_of rfl rfl rfl rfl) (hr.mono (by decide)) (ev_un os_neg ev_int))) ess_nil)
    (ess_cons (es_asg (vs := [1, 2, 3]) (ev_v 0) (eg_tup rfl (egs_cons (eg_name 1 sc_made_schema.nd) (egs_cons (eg_name 2 sc_made_schema.nd) (egs_cons (eg_name 3 sc_made_schema.nd) egs_nil)))))
    (ess_cons (es_if (et_not (et_e (ev_call (ok_is_whole Tx) (takes_of rfl rfl rfl rfl) (hr.mono (by decide)) (ea_cons (ev_v 1) (ea_cons ev_int (ea_cons (ev_globI Tx.c_MOST_HANDS.choose_spec) ea_nil)))))) (ess_one (es_raise Tx.e_BadSchema rfl rfl (takes_of rfl rfl rfl rfl) (hr.mono (by decide)) ev_int)) ess_nil)
    (ess_cons (es_if (et_not (et_e (ev_call (ok_is_whole Tx) (takes_of rfl rfl rfl rfl) (hr.mono (by decide)) (ea_cons (ev_v 2) (ea_cons (ev_v 1) (ea_cons (ev_globI Tx.c_MOST_KINDS.choose_spec) ea_nil)))))) (ess_one (es_raise Tx.e_BadSchema rfl rfl (takes_of rfl rfl rfl rfl) (hr.mono (by decide)) ev_int)) ess_nil)
    (ess_cons (es_if (et_not (et_e (ev_isinst kit_tuple Tx.n_isinstance Tx.n_tuple rfl (ev_v 3)))) (ess_one (es_raise Tx.e_BadSchema rfl rfl (takes_of rfl rfl rfl rfl) (hr.mono (by decide)) ev_int)) ess_nil)
    (ess_cons (es_if (et_cmp os_gt (ev_b1 os_len Tx.n_len rfl (ev_v 3)) (ev_globI Tx.c_MOST_FIELDS.choose_spec)) (ess_one (es_raise Tx.e_TooMany rfl rfl (takes_of rfl rfl rfl rfl) (hr.mono (by decide)) (ev_b1 os_len Tx.n_len rfl (ev_v 3)))) ess_nil)
    (ess_cons (es_for (vs := [4, 5]) (passes_of rfl) rfl (ei_enum Tx.n_enumerate (ev_v 3)) (eg_tup rfl (egs_cons (eg_name 4 sc_made_schema.nd) (egs_cons (eg_name 5 sc_made_schema.nd) egs_nil))) (ess_one (es_if (et_not (et_e (ev_call (ok_is_field Tx) (takes_of rfl rfl rfl rfl) (hr.mono (by decide)) (ea_cons (ev_v 5) (ea_cons (ev_v 1) (ea_cons (ev_v 2) ea_nil)))))) (ess_one (es_raise Tx.e_BadSchema rfl rfl (takes_of rfl rfl rfl rfl) (hr.mono (by decide)) (ev_tup (ea_cons ev_int (ea_cons (ev_v 4) ea_nil))))) ess_nil)))
    (ess_one (es_ret (ev_tup (ea_cons (ev_v 1) (ea_cons (ev_v 2) (ea_cons (ev_t1 os_tuple Tx.n_tuple rfl (ev_comp rfl sc_made_schema.nd (ei_seq (ev_v 3)) (@blkOk_by N_made_schema (defScope st_made_schema) _ [("field", 5)] (by decide +kernel)) rfl (fun _ _ _ _ _ => (eg_name 5 sc_made_schema.nd)) (fun _ _ _ _ _ => ets_nil) (fun _ _ _ _ _ => (ev_t1 os_tuple Tx.n_tuple rfl (ev_v 5))))) ea_nil)))))))))))))
theorem ok_kinds_beside (Tx : Txt P w K mg base c__law_full_right t__law_full_right c__law_joined_right t__law_joined_right c__law_beside_right t__law_beside_right) : CallOk P w K mg base (Tabl t__law_full_right t__law_joined_right t__law_beside_right) 1 "kinds_beside" 2 F_kinds_beside := call_ok Tx.d_kinds_beside sc_kinds_beside rfl rfl fun f cdv A outer s H E hr =>
    (ess_cons (es_comp rfl sc_kinds_beside.nd rfl rfl (sw_true rfl rfl rfl (by decide +kernel)) (ei_rng Tx.n_range (ev_ix os_ix (ev_v 0) ev_int)) (@blkOk_by N_kinds_beside (defScope st_kinds_beside) _ [("kind", 4)] (by decide +kernel)) rfl (fun _ _ _ _ _ => (eg_name 4 sc_kinds_beside.nd)) (fun _ _ _ _ _ => ets_nil) (fun _ _ _ _ _ => (ev_if (et_cmp os_lt (ev_v 4) (ev_ix os_ix (ev_v 0) ev_int)) (ev_v 4) (ev_op os_add (ev_v 4) (ev_ix os_ix (ev_v 1) ev_int)))))
    (ess_cons (es_comp rfl sc_kinds_beside.nd rfl rfl (sw_true rfl rfl rfl (by decide +kernel)) (ei_rng Tx.n_range (ev_ix os_ix (ev_v 1) ev_int)) (@blkOk_by N_kinds_beside (defScope st_kinds_beside) _ [("kind", 4)] (by decide +kernel)) rfl (fun _ _ _ _ _ => (eg_name 4 sc_kinds_beside.nd)) (fun _ _ _ _ _ => ets_nil) (fun _ _ _ _ _ => (ev_if (et_cmp os_lt (ev_v 4) (ev_ix os_ix (ev_v 1) ev_int)) (ev_op os_add (ev_ix os_ix (ev_v 0) ev_int) (ev_v 4)) (ev_op os_add (ev_ix os_ix (ev_v 0) ev_int) (ev_v 4)))))
    (ess_one (es_ret (ev_tup (ea_cons (ev_v 2) (ea_cons (ev_v 3) ea_nil)))))))
theorem ok_beside (Tx : Txt P w K mg base c__law_full_right t__law_full_right c__law_joined_right t__law_joined_right c__law_beside_right t__law_beside_right) : CallOk P w K mg base (Tabl t__law_full_right t__law_joined_right t__law_beside_right) 4 "beside" 2 F_beside := call_ok Tx.d_beside sc_beside rfl rfl fun f cdv A outer s H E hr =>
    (ess_cons (es_par 2 3 rfl sc_beside.nd (ev_call (ok_made_schema Tx) (takes_of rfl rfl rfl rfl) (hr.mono (by decide)) (ea_cons (ev_v 0) ea_nil)) (ev_call (ok_made_schema Tx) (takes_of rfl rfl rfl rfl) (hr.mono (by decide)) (ea_cons (ev_v 1) ea_nil)))
    (ess_cons (es_for (vs := [4, 5]) (passes_of rfl) rfl (ei_seq (ev_tup (ea_cons (ev_tup (ea_cons ev_int (ea_cons (ev_globI Tx.c_MOST_HANDS.choose_spec) ea_nil))) (ea_cons (ev_tup (ea_cons ev_int (ea_cons (ev_globI Tx.c_MOST_KINDS.choose_spec) ea_nil))) ea_nil)))) (eg_tup rfl (egs_cons (eg_name 4 sc_beside.nd) (egs_cons (eg_name 5 sc_beside.nd) egs_nil))) (ess_one (es_if (et_cmp os_gt (ev_op os_add (ev_ix os_ix (ev_v 2) (ev_v 4)) (ev_ix os_ix (ev_v 3) (ev_v 4))) (ev_v 5)) (ess_one (es_raise Tx.e_TooMany rfl rfl (takes_of rfl rfl rfl rfl) (hr.mono (by decide)) (ev_op os_add (ev_ix os_ix (ev_v 2) (ev_v 4)) (ev_ix os_ix (ev_v 3) (ev_v 4))))) ess_nil)))
    (ess_cons (es_set 6 sc_beside.nd (ev_op os_add (ev_b1 os_len Tx.n_len rfl (ev_ix os_ix (ev_v 2) ev_int)) (ev_b1 os_len Tx.n_len rfl (ev_ix os_ix (ev_v 3) ev_int))))
    (ess_cons (es_if (et_cmp os_gt (ev_v 6) (ev_globI Tx.c_MOST_FIELDS.choose_spec)) (ess_one (es_raise Tx.e_TooMany rfl rfl (takes_of rfl rfl rfl rfl) (hr.mono (by decide)) (ev_v 6))) ess_nil)
    (ess_cons (es_set 7 sc_beside.nd (ev_lst ea_nil))
    (ess_cons (es_for (vs := [8, 9]) (passes_of rfl) rfl (ei_zip Tx.n_zip (ev_tup (ea_cons (ev_v 2) (ea_cons (ev_v 3) ea_nil))) (ev_call (ok_kinds_beside Tx) (takes_of rfl rfl rfl rfl) (hr.mono (by decide)) (ea_cons (ev_v 2) (ea_cons (ev_v 3) ea_nil)))) (eg_tup rfl (egs_cons (eg_name 8 sc_beside.nd) (egs_cons (eg_name 9 sc_beside.nd) egs_nil))) (ess_one (es_expr (ev_m1 PySem.F.slot_list_extend PySem.F.type_list_extend os_extend (ev_v 7) (ev_comp rfl sc_beside.nd (ei_seq (ev_ix os_ix (ev_v 8) ev_int)) (@blkOk_by N_beside (defScope st_beside) _ [("holder", 10), ("target", 11)] (by decide +kernel)) rfl (fun _ _ _ _ _ => (eg_tup rfl (egs_cons (eg_name 10 sc_beside.nd) (egs_cons (eg_name 11 sc_beside.nd) egs_nil)))) (fun _ _ _ _ _ => ets_nil) (fun _ _ _ _ _ => (ev_tup (ea_cons (ev_ix os_ix (ev_v 9) (ev_v 10)) (ea_cons (ev_ix os_ix (ev_v 9) (ev_v 11)) ea_nil)))))))))
    (ess_one (es_ret (ev_tup (ea_cons (ev_op os_add (ev_ix os_ix (ev_v 2) ev_int) (ev_ix os_ix (ev_v 3) ev_int)) (ea_cons (ev_op os_add (ev_ix os_ix (ev_v 2) ev_int) (ev_ix os_ix (ev_v 3) ev_int)) (ea_cons (ev_t1 os_tuple Tx.n_tuple rfl (ev_v 7)) ea_nil))))))))))))
theorem ok_is_carry (Tx : Txt P w K mg base c__law_full_right t__law_full_right c__law_joined_right t__law_joined_right c__law_beside_right t__law_beside_right) : CallOk P w K mg base (Tabl t__law_full_right t__law_joined_right t__law_beside_right) 2 "is_carry" 2 F_is_carry := call_ok Tx.d_is_carry sc_is_carry rfl rfl fun f cdv A outer s H E hr =>
    (ess_cons (es_if (et_w (ew_or (et_not (et_e (ev_call (ok_is_row Tx) (takes_of rfl rfl rfl rfl) (hr.mono (by decide)) (ea_cons (ev_v 1) (ea_cons ev_int ea_nil))))) (ew_or1 (et_not (et_e (ev_b1 (os_all rfl) Tx.n_all rfl (ev_comp rfl sc_is_carry.nd (ei_seq (ev_v 1)) (@blkOk_by N_is_carry (defScope st_is_carry) _ [("f", 2)] (by decide +kernel)) rfl (fun _ _ _ _ _ => (eg_name 2 sc_is_carry.nd)) (fun _ _ _ _ _ => ets_nil) (fun _ _ _ _ _ => (ev_call (ok_is_whole Tx) L2.takes0 (hr.mono (by decide)) (ea_cons (ev_v 2) (ea_cons ev_int (ea_cons (ev_op os_sub (ev_b1 os_len Tx.n_len rfl (ev_ix os_ix (ev_v 0) ev_int)) ev_int) ea_nil)))))))))))) (ess_one (es_ret ev_bl)) ess_nil)
    (ess_one (es_ret (ev_cmp (os_eq hr) (ev_ix os_ix (ev_ix os_ix (ev_ix os_ix (ev_v 0) ev_int) (ev_ix os_ix (ev_v 1) ev_int)) ev_int) (ev_ix os_ix (ev_ix os_ix (ev_ix os_ix (ev_v 0) ev_int) (ev_ix os_ix (ev_v 1) ev_int)) ev_int)))))
theorem ok_wrong_carry (Tx : Txt P w K mg base c__law_full_right t__law_full_right c__law_joined_right t__law_joined_right c__law_beside_right t__law_beside_right) : CallOk P w K mg base (Tabl t__law_full_right t__law_joined_right t__law_beside_right) 3 "wrong_carry" 2 F_wrong_carry := call_ok Tx.d_wrong_carry sc_wrong_carry rfl rfl fun f cdv A outer s H E hr =>
    (ess_cons (es_set 2 sc_wrong_carry.nd (ev_tup (ea_cons (ev_un os_neg ev_int) (ea_cons (ev_un os_neg ev_int) ea_nil))))
    (ess_cons (es_for (vs := [3, 4]) (passes_of rfl) rfl (ei_enum Tx.n_enumerate (ev_v 1)) (eg_tup rfl (egs_cons (eg_name 3 sc_wrong_carry.nd) (egs_cons (eg_name 4 sc_wrong_carry.nd) egs_nil))) (ess_cons (es_if (et_w (ew_or (et_not (et_e (ev_call (ok_is_carry Tx) (takes_of rfl rfl rfl rfl) (hr.mono (by decide)) (ea_cons (ev_v 0) (ea_cons (ev_v 4) ea_nil))))) (ew_or1 (et_cmp (os_le hr) (ev_v 4) (ev_v 2))))) (ess_one (es_ret (ev_v 3))) ess_nil)
    (ess_one (es_set 2 sc_wrong_carry.nd (ev_v 4)))))
    (ess_one (es_ret ev_non))))
theorem ok_ask_carries (Tx : Txt P w K mg base c__law_full_right t__law_full_right c__law_joined_right t__law_joined_right c__law_beside_right t__law_beside_right) : CallOk P w K mg base (Tabl t__law_full_right t__law_joined_right t__law_beside_right) 4 "ask_carries" 2 F_ask_carries := call_ok Tx.d_ask_carries sc_ask_carries rfl rfl fun f cdv A outer s H E hr =>
    (ess_cons (es_if (et_not (et_e (ev_isinst kit_tuple Tx.n_isinstance Tx.n_tuple rfl (ev_v 1)))) (ess_one (es_raise Tx.e_BadTable rfl rfl (takes_of rfl rfl rfl rfl) (hr.mono (by decide)) ev_int)) ess_nil)
    (ess_cons (es_if (et_cmp os_gt (ev_b1 os_len Tx.n_len rfl (ev_v 1)) (ev_globI Tx.c_MOST_CARRIES.choose_spec)) (ess_one (es_raise Tx.e_TooMany rfl rfl (takes_of rfl rfl rfl rfl) (hr.mono (by decide)) (ev_b1 os_len Tx.n_len rfl (ev_v 1)))) ess_nil)
    (ess_cons (es_set 2 sc_ask_carries.nd (ev_call (ok_wrong_carry Tx) (takes_of rfl rfl rfl rfl) (hr.mono (by decide)) (ea_cons (ev_v 0) (ea_cons (ev_v 1) ea_nil))))
    (ess_one (es_if (et_cmp os_notN (ev_v 2) ev_non) (ess_one (es_raise Tx.e_BadTable rfl rfl (takes_of rfl rfl rfl rfl) (hr.mono (by decide)) (ev_tup (ea_cons ev_int (ea_cons (ev_v 2) ea_nil))))) ess_nil)))))
theorem ok_made_table (Tx : Txt P w K mg base c__law_full_right t__law_full_right c__law_joined_right t__law_joined_right c__law_beside_right t__law_beside_right) : CallOk P w K mg base (Tabl t__law_full_right t__law_joined_right t__law_beside_right) 5 "made_table" 2 F_made_table := call_ok Tx.d_made_table sc_made_table rfl rfl fun f cdv A outer s H E hr =>
    (ess_cons (es_expr (ev_call (ok_made_schema Tx) (takes_of rfl rfl rfl rfl) (hr.mono (by decide)) (ea_cons (ev_v 0) ea_nil)))
    (ess_cons (es_if (et_not (et_e (ev_call (ok_is_row Tx) (takes_of rfl rfl rfl rfl) (hr.mono (by decide)) (ea_cons (ev_v 1) (ea_cons ev_int ea_nil))))) (ess_one (es_raise Tx.e_BadTable rfl rfl (takes_of rfl rfl rfl rfl) (hr.mono (by decide)) (ev_un os_neg ev_int))) ess_nil)
    (ess_cons (es_expr (ev_call (ok_ask_carries Tx) (takes_of rfl rfl rfl rfl) (hr.mono (by decide)) (ea_cons (ev_v 0) (ea_cons (ev_ix os_ix (ev_v 1) ev_int) ea_nil))))
    (ess_cons (es_for (vs := [2]) (passes_of rfl) rfl (ei_seq (ev_tup (ea_cons ev_int (ea_cons ev_int ea_nil)))) (eg_name 2 sc_made_table.nd) (ess_cons (es_set 3 sc_made_table.nd (ev_call (ok_rising_in Tx) (takes_of rfl rfl rfl rfl) (hr.mono (by decide)) (ea_cons (ev_ix os_ix (ev_v 1) (ev_v 2)) (ea_cons ev_int (ea_cons (ev_op os_sub (ev_b1 os_len Tx.n_len rfl (ev_ix os_ix (ev_v 0) ev_int)) ev_int) ea_nil)))))
    (ess_one (es_if (et_cmp os_notN (ev_v 3) ev_non) (ess_one (es_raise Tx.e_BadTable rfl rfl (takes_of rfl rfl rfl rfl) (hr.mono (by decide)) (ev_if (et_cmp (os_eq hr) (ev_v 3) (ev_un os_neg ev_int)) (ev_v 2) (ev_tup (ea_cons (ev_v 2) (ea_cons (ev_v 3) ea_nil)))))) ess_nil))))
    (ess_one (es_ret (ev_tup (ea_cons (ev_t1 os_tuple Tx.n_tuple rfl (ev_comp rfl sc_made_table.nd (ei_seq (ev_ix os_ix (ev_v 1) ev_int)) (@blkOk_by N_made_table (defScope st_made_table) _ [("pair", 4)] (by decide +kernel)) rfl (fun _ _ _ _ _ => (eg_name 4 sc_made_table.nd)) (fun _ _ _ _ _ => ets_nil) (fun _ _ _ _ _ => (ev_t1 os_tuple Tx.n_tuple rfl (ev_v 4))))) (ea_cons (ev_t1 os_tuple Tx.n_tuple rfl (ev_ix os_ix (ev_v 1) ev_int)) (ea_cons (ev_t1 os_tuple Tx.n_tuple rfl (ev_ix os_ix (ev_v 1) ev_int)) ea_nil))))))))))
theorem ok_full_table (Tx : Txt P w K mg base c__law_full_right t__law_full_right c__law_joined_right t__law_joined_right c__law_beside_right t__law_beside_right) : CallOk P w K mg base (Tabl t__law_full_right t__law_joined_right t__law_beside_right) 4 "full_table" 1 F_full_table := call_ok Tx.d_full_table sc_full_table rfl rfl fun f cdv A outer s H E hr =>
    (ess_cons (es_expr (ev_call (ok_made_schema Tx) (takes_of rfl rfl rfl rfl) (hr.mono (by decide)) (ea_cons (ev_v 0) ea_nil)))
    (ess_cons (es_set 1 sc_full_table.nd (ev_tupRg rfl Tx.n_tuple Tx.n_range (ev_b1 os_len Tx.n_len rfl (ev_ix os_ix (ev_v 0) ev_int))))
    (ess_cons (es_set 2 sc_full_table.nd (ev_lst ea_nil))
    (ess_cons (es_for (vs := [3]) (passes_of rfl) rfl (ei_seq (ev_v 1)) (eg_name 3 sc_full_table.nd) (ess_one (es_expr (ev_m1 PySem.F.slot_list_extend PySem.F.type_list_extend os_extend (ev_v 2) (ev_comp rfl sc_full_table.nd (ei_seq (ev_v 1)) (@blkOk_by N_full_table (defScope st_full_table) _ [("f", 4)] (by decide +kernel)) rfl (fun _ _ _ _ _ => (eg_name 4 sc_full_table.nd)) (fun _ _ _ _ _ => (ets_one (et_cmp (os_eq hr) (ev_ix os_ix (ev_ix os_ix (ev_ix os_ix (ev_v 0) ev_int) (ev_v 3)) ev_int) (ev_ix os_ix (ev_ix os_ix (ev_ix os_ix (ev_v 0) ev_int) (ev_v 4)) ev_int)))) (fun _ _ _ _ _ => (ev_tup (ea_cons (ev_v 3) (ea_cons (ev_v 4) ea_nil)))))))))
    (ess_cons (es_if (et_cmp os_gt (ev_b1 os_len Tx.n_len rfl (ev_v 2)) (ev_globI Tx.c_MOST_CARRIES.choose_spec)) (ess_one (es_raise Tx.e_TooMany rfl rfl (takes_of rfl rfl rfl rfl) (hr.mono (by decide)) (ev_b1 os_len Tx.n_len rfl (ev_v 2)))) ess_nil)
    (ess_one (es_ret (ev_tup (ea_cons (ev_t1 os_tuple Tx.n_tuple rfl (ev_v 2)) (ea_cons (ev_v 1) (ea_cons (ev_v 1) ea_nil)))))))))))
theorem ok_together (Tx : Txt P w K mg base c__law_full_right t__law_full_right c__law_joined_right t__law_joined_right c__law_beside_right t__law_beside_right) : CallOk P w K mg base (Tabl t__law_full_right t__law_joined_right t__law_beside_right) 1 "together" 2 F_together := call_ok Tx.d_together sc_together rfl rfl fun f cdv A outer s H E hr =>
    (ess_cons (es_dcompA hr rfl sc_together.nd rfl rfl (sw_trueD rfl rfl rfl (by decide +kernel)) (ei_seq (ev_lst (ea_star (ev_v 0) (ea_star (ev_v 1) ea_nil)))) (@blkOk_by N_together (defScope st_together) _ [("entry", 3)] (by decide +kernel)) rfl (fun _ _ _ _ _ => (eg_name 3 sc_together.nd)) (fun _ _ _ _ _ => ets_nil) (fun _ _ _ _ _ => (ev_v 3)) (fun _ _ _ _ _ => ev_bl))
    (ess_one (es_ret (ev_t1 os_tuple Tx.n_tuple rfl (ev_b1 (os_sorted rfl) Tx.n_sorted rfl (ev_v 2))))))
theorem ok_joined_tables (Tx : Txt P w K mg base c__law_full_right t__law_full_right c__law_joined_right t__law_joined_right c__law_beside_right t__law_beside_right) : CallOk P w K mg base (Tabl t__law_full_right t__law_joined_right t__law_beside_right) 6 "joined_tables" 3 F_joined_tables := call_ok Tx.d_joined_tables sc_joined_tables rfl rfl fun f cdv A outer s H E hr =>
    (ess_cons (es_expr (ev_call (ok_made_table Tx) (takes_of rfl rfl rfl rfl) (hr.mono (by decide)) (ea_cons (ev_v 0) (ea_cons (ev_v 1) ea_nil))))
    (ess_cons (es_expr (ev_call (ok_made_table Tx) (takes_of rfl rfl rfl rfl) (hr.mono (by decide)) (ea_cons (ev_v 0) (ea_cons (ev_v 2) ea_nil))))
    (ess_cons (es_set 3 sc_joined_tables.nd (ev_call (ok_together Tx) (takes_of rfl rfl rfl rfl) (hr.mono (by decide)) (ea_cons (ev_ix os_ix (ev_v 1) ev_int) (ea_cons (ev_ix os_ix (ev_v 2) ev_int) ea_nil))))
    (ess_cons (es_if (et_cmp os_gt (ev_b1 os_len Tx.n_len rfl (ev_v 3)) (ev_globI Tx.c_MOST_CARRIES.choose_spec)) (ess_one (es_raise Tx.e_TooMany rfl rfl (takes_of rfl rfl rfl rfl) (hr.mono (by decide)) (ev_b1 os_len Tx.n_len rfl (ev_v 3)))) ess_nil)
    (ess_one (es_ret (ev_tup (ea_cons (ev_v 3) (ea_cons (ev_call (ok_together Tx) (takes_of rfl rfl rfl rfl) (hr.mono (by decide)) (ea_cons (ev_ix os_ix (ev_v 1) ev_int) (ea_cons (ev_ix os_ix (ev_v 2) ev_int) ea_nil))) (ea_cons (ev_call (ok_together Tx) (takes_of rfl rfl rfl rfl) (hr.mono (by decide)) (ea_cons (ev_ix os_ix (ev_v 1) ev_int) (ea_cons (ev_ix os_ix (ev_v 2) ev_int) ea_nil))) ea_nil))))))))))
theorem ok_lies_within (Tx : Txt P w K mg base c__law_full_right t__law_full_right c__law_joined_right t__law_joined_right c__law_beside_right t__law_beside_right) : CallOk P w K mg base (Tabl t__law_full_right t__law_joined_right t__law_beside_right) 1 "lies_within" 2 F_lies_within := call_ok Tx.d_lies_within sc_lies_within rfl rfl fun f cdv A outer s H E hr =>
    (ess_one (es_ret (ev_b1 (os_all rfl) Tx.n_all rfl (ev_comp rfl sc_lies_within.nd (ei_zip Tx.n_zip (ev_v 0) (ev_v 1)) (@blkOk_by N_lies_within (defScope st_lies_within) _ [("lot", 2), ("part", 3)] (by decide +kernel)) rfl (fun _ _ _ _ _ => (eg_tup rfl (egs_cons (eg_name 2 sc_lies_within.nd) (egs_cons (eg_name 3 sc_lies_within.nd) egs_nil)))) (fun _ _ _ _ _ => ets_nil) (fun _ _ _ _ _ => (ev_b1 (os_all rfl) Tx.n_all rfl (ev_comp rfl sc_lies_within.nd (ei_seq (ev_v 2)) (@blkOk_by N_lies_within ({ kind := .function, names := [(".0", .local), ("lot", .local), ("part", .cell), ("all", .globalImplicit)], isGenerator := false, isCoroutine := false, more := [] } : Scope) _ [("entry", 4)] (by decide +kernel)) rfl (fun _ _ _ _ _ => (eg_name 4 sc_lies_within.nd)) (fun _ _ _ _ _ => ets_nil) (fun _ _ _ _ _ => (ev_cmp (os_inS hr) (ev_v 4) (ev_v 3))))))))))
theorem ok_table_within (Tx : Txt P w K mg base c__law_full_right t__law_full_right c__law_joined_right t__law_joined_right c__law_beside_right t__law_beside_right) : CallOk P w K mg base (Tabl t__law_full_right t__law_joined_right t__law_beside_right) 6 "table_within" 3 F_table_within := call_ok Tx.d_table_within sc_table_within rfl rfl fun f cdv A outer s H E hr =>
    (ess_cons (es_expr (ev_call (ok_made_table Tx) (takes_of rfl rfl rfl rfl) (hr.mono (by decide)) (ea_cons (ev_v 0) (ea_cons (ev_v 1) ea_nil))))
    (ess_cons (es_expr (ev_call (ok_made_table Tx) (takes_of rfl rfl rfl rfl) (hr.mono (by decide)) (ea_cons (ev_v 0) (ea_cons (ev_v 2) ea_nil))))
    (ess_one (es_ret (ev_call (ok_lies_within Tx) (takes_of rfl rfl rfl rfl) (hr.mono (by decide)) (ea_cons (ev_v 1) (ea_cons (ev_v 2) ea_nil)))))))
theorem ok_table_beside (Tx : Txt P w K mg base c__law_full_right t__law_full_right c__law_joined_right t__law_joined_right c__law_beside_right t__law_beside_right) : CallOk P w K mg base (Tabl t__law_full_right t__law_joined_right t__law_beside_right) 6 "table_beside" 4 F_table_beside := call_ok Tx.d_table_beside sc_table_beside rfl rfl fun f cdv A outer s H E hr =>
    (ess_cons (es_expr (ev_call (ok_made_table Tx) (takes_of rfl rfl rfl rfl) (hr.mono (by decide)) (ea_cons (ev_v 0) (ea_cons (ev_v 1) ea_nil))))
    (ess_cons (es_expr (ev_call (ok_made_table Tx) (takes_of rfl rfl rfl rfl) (hr.mono (by decide)) (ea_cons (ev_v 2) (ea_cons (ev_v 3) ea_nil))))
    (ess_cons (es_expr (ev_call (ok_beside Tx) (takes_of rfl rfl rfl rfl) (hr.mono (by decide)) (ea_cons (ev_v 0) (ea_cons (ev_v 2) ea_nil))))
    (ess_cons (es_set 4 sc_table_beside.nd (ev_op os_add (ev_b1 os_len Tx.n_len rfl (ev_ix os_ix (ev_v 1) ev_int)) (ev_b1 os_len Tx.n_len rfl (ev_ix os_ix (ev_v 3) ev_int))))
    (ess_cons (es_if (et_cmp os_gt (ev_v 4) (ev_globI Tx.c_MOST_CARRIES.choose_spec)) (ess_one (es_raise Tx.e_TooMany rfl rfl (takes_of rfl rfl rfl rfl) (hr.mono (by decide)) (ev_v 4))) ess_nil)
    (ess_cons (es_set 5 sc_table_beside.nd (ev_b1 os_len Tx.n_len rfl (ev_ix os_ix (ev_v 0) ev_int)))
    (ess_cons (es_comp rfl sc_table_beside.nd rfl rfl (sw_true rfl rfl rfl (by decide +kernel)) (ei_seq (ev_ix os_ix (ev_v 3) ev_int)) (@blkOk_by N_table_beside (defScope st_table_beside) _ [("g", 7), ("f", 8)] (by decide +kernel)) rfl (fun _ _ _ _ _ => (eg_tup rfl (egs_cons (eg_name 7 sc_table_beside.nd) (egs_cons (eg_name 8 sc_table_beside.nd) egs_nil)))) (fun _ _ _ _ _ => ets_nil) (fun _ _ _ _ _ => (ev_tup (ea_cons (ev_op os_add (ev_v 7) (ev_v 5)) (ea_cons (ev_op os_add (ev_v 8) (ev_v 5)) ea_nil)))))
    (ess_one (es_ret (ev_tup (ea_cons (ev_tup (ea_star (ev_ix os_ix (ev_v 1) ev_int) (ea_star (ev_v 6) ea_nil))) (ea_cons (ev_tup (ea_star (ev_ix os_ix (ev_v 1) ev_int) (ea_star (ev_comp rfl sc_table_beside.nd (ei_seq (ev_ix os_ix (ev_v 3) ev_int)) (@blkOk_by N_table_beside (defScope st_table_beside) _ [("f", 8)] (by decide +kernel)) rfl (fun _ _ _ _ _ => (eg_name 8 sc_table_beside.nd)) (fun _ _ _ _ _ => ets_nil) (fun _ _ _ _ _ => (ev_op os_add (ev_v 8) (ev_v 5)))) ea_nil))) (ea_cons (ev_tup (ea_star (ev_ix os_ix (ev_v 1) ev_int) (ea_star (ev_comp rfl sc_table_beside.nd (ei_seq (ev_ix os_ix (ev_v 3) ev_int)) (@blkOk_by N_table_beside (defScope st_table_beside) _ [("f", 8)] (by decide +kernel)) rfl (fun _ _ _ _ _ => (eg_name 8 sc_table_beside.nd)) (fun _ _ _ _ _ => ets_nil) (fun _ _ _ _ _ => (ev_op os_add (ev_v 8) (ev_v 5)))) ea_nil))) ea_nil)))))))))))))
theorem ok__law_wv_pool (Tx : Txt P w K mg base c__law_full_right t__law_full_right c__law_joined_right t__law_joined_right c__law_beside_right t__law_beside_right) : CallOk P w K mg base (Tabl t__law_full_right t__law_joined_right t__law_beside_right) 1 "_law_wv_pool" 1 F__law_wv_pool := call_ok Tx.d__law_wv_pool sc__law_wv_pool rfl rfl fun f cdv A outer s H E hr =>
    (ess_cons (es_asg (vs := [1, 2]) (ev_tup (ea_cons ev_int (ea_cons ev_int ea_nil))) (eg_tup rfl (egs_cons (eg_name 1 sc__law_wv_pool.nd) (egs_cons (eg_name 2 sc__law_wv_pool.nd) egs_nil))))
    (ess_cons (es_for (vs := [3]) (passes_of rfl) rfl (ei_rng Tx.n_range (ev_b1 os_len Tx.n_len rfl (ev_v 0))) (eg_name 3 sc__law_wv_pool.nd) (ess_cons (es_set 4 sc__law_wv_pool.nd (ev_b2 (os_max2 rfl) Tx.n_max rfl (ev_ix os_ix (ev_v 0) (ev_v 3)) (ev_op os_sub (ev_un os_neg ev_int) (ev_ix os_ix (ev_v 0) (ev_v 3)))))
    (ess_cons (es_set 2 sc__law_wv_pool.nd (ev_op os_mod (ev_op os_add (ev_op os_add (ev_op os_mul (ev_v 2) ev_int) (ev_op os_mod (ev_v 4) ev_int)) ev_int) ev_int))
    (ess_one (es_set 1 sc__law_wv_pool.nd (ev_if (et_w (ew_and (et_cmp os_ge (ev_v 4) (ev_op os_pow ev_int ev_int)) (ew_and1 (et_cmp os_lt (ev_v 1) (ev_op os_pow ev_int ev_int))))) (ev_op os_add (ev_op os_mul (ev_v 1) (ev_op os_pow ev_int ev_int)) (ev_op os_mod (ev_v 4) (ev_op os_pow ev_int ev_int))) (ev_v 1)))))))
    (ess_one (es_ret (ev_lst (ea_cons (ev_v 1) (ea_cons (ev_v 2) ea_nil)))))))
theorem ok__law_wv_take (Tx : Txt P w K mg base c__law_full_right t__law_full_right c__law_joined_right t__law_joined_right c__law_beside_right t__law_beside_right) : CallOk P w K mg base (Tabl t__law_full_right t__law_joined_right t__law_beside_right) 1 "_law_wv_take" 2 F__law_wv_take := call_ok Tx.d__law_wv_take sc__law_wv_take rfl rfl fun f cdv A outer s H E hr =>
    (ess_cons (es_if (et_cmp os_gt (ev_ix os_ix (ev_v 0) ev_int) ev_int) (ess_cons (es_set 2 sc__law_wv_take.nd (ev_op os_mod (ev_ix os_ix (ev_v 0) ev_int) (ev_v 1)))
    (ess_cons (es_subL (ev_op os_fdiv (ev_ix os_ix (ev_v 0) ev_int) (ev_v 1)) (ev_v 0) ev_int)
    (ess_one (es_ret (ev_v 2))))) ess_nil)
    (ess_cons (es_subL (ev_op os_mod (ev_op os_add (ev_op os_mul (ev_ix os_ix (ev_v 0) ev_int) ev_int) ev_int) ev_int) (ev_v 0) ev_int)
    (ess_one (es_ret (ev_op os_mod (ev_op os_fdiv (ev_op os_mod (ev_op os_mul (ev_ix os_ix (ev_v 0) ev_int) (ev_ix os_ix (ev_v 0) ev_int)) ev_int) ev_int) (ev_v 1))))))
theorem ok__law_wv_one (Tx : Txt P w K mg base c__law_full_right t__law_full_right c__law_joined_right t__law_joined_right c__law_beside_right t__law_beside_right) : CallOk P w K mg base (Tabl t__law_full_right t__law_joined_right t__law_beside_right) 2 "_law_wv_one" 2 F__law_wv_one := call_ok Tx.d__law_wv_one sc__law_wv_one rfl rfl fun f cdv A outer s H E hr =>
    (ess_one (es_ret (ev_ix os_ix (ev_v 1) (ev_call (ok__law_wv_take Tx) (takes_of rfl rfl rfl rfl) (hr.mono (by decide)) (ea_cons (ev_v 0) (ea_cons (ev_b1 os_len Tx.n_len rfl (ev_v 1)) ea_nil))))))
theorem ok__law_wv_mixed (Tx : Txt P w K mg base c__law_full_right t__law_full_right c__law_joined_right t__law_joined_right c__law_beside_right t__law_beside_right) : CallOk P w K mg base (Tabl t__law_full_right t__law_joined_right t__law_beside_right) 2 "_law_wv_mixed" 2 F__law_wv_mixed := call_ok Tx.d__law_wv_mixed sc__law_wv_mixed rfl rfl fun f cdv A outer s H E hr =>
    (ess_cons (es_par 2 3 rfl sc__law_wv_mixed.nd (ev_t1 os_list Tx.n_list rfl (ev_v 1)) (ev_lst ea_nil))
    (ess_cons (es_for (vs := [4]) (passes_of rfl) rfl (ei_rng Tx.n_range (ev_b1 os_len Tx.n_len rfl (ev_v 1))) (eg_name 4 sc__law_wv_mixed.nd) (ess_one (es_expr (ev_m1 PySem.F.slot_list_append PySem.F.type_list_append os_append (ev_v 3) (ev_m1 PySem.F.slot_list_pop PySem.F.type_list_pop os_popAt (ev_v 2) (ev_call (ok__law_wv_take Tx) (takes_of rfl rfl rfl rfl) (hr.mono (by decide)) (ea_cons (ev_v 0) (ea_cons (ev_b1 os_len Tx.n_len rfl (ev_v 2)) ea_nil))))))))
    (ess_one (es_ret (ev_v 3)))))
theorem ok__law_wv_some (Tx : Txt P w K mg base c__law_full_right t__law_full_right c__law_joined_right t__law_joined_right c__law_beside_right t__law_beside_right) : CallOk P w K mg base (Tabl t__law_full_right t__law_joined_right t__law_beside_right) 2 "_law_wv_some" 3 F__law_wv_some := call_ok Tx.d__law_wv_some sc__law_wv_some rfl rfl fun f cdv A outer s H E hr =>
    (ess_one (es_ret (ev_t1 os_tuple Tx.n_tuple rfl (ev_comp rfl sc__law_wv_some.nd (ei_seq (ev_v 1)) (@blkOk_by N__law_wv_some (defScope st__law_wv_some) _ [("thing", 3)] (by decide +kernel)) rfl (fun _ _ _ _ _ => (eg_name 3 sc__law_wv_some.nd)) (fun _ _ _ _ _ => (ets_one (et_cmp (os_eq hr) (ev_call (ok__law_wv_take Tx) L2.takes0 (hr.mono (by decide)) (ea_cons (ev_v 0) (ea_cons (ev_v 2) ea_nil))) ev_int))) (fun _ _ _ _ _ => (ev_v 3))))))
theorem ok__law_wv_schema (Tx : Txt P w K mg base c__law_full_right t__law_full_right c__law_joined_right t__law_joined_right c__law_beside_right t__law_beside_right) : CallOk P w K mg base (Tabl t__law_full_right t__law_joined_right t__law_beside_right) 3 "_law_wv_schema" 1 F__law_wv_schema := call_ok Tx.d__law_wv_schema sc__law_wv_schema rfl rfl fun f cdv A outer s H E hr =>
    (ess_cons (es_set 1 sc__law_wv_schema.nd (ev_op os_add ev_int (ev_op os_fdiv (ev_call (ok__law_wv_take Tx) (takes_of rfl rfl rfl rfl) (hr.mono (by decide)) (ea_cons (ev_v 0) (ea_cons ev_int ea_nil))) ev_int)))
    (ess_cons (es_set 2 sc__law_wv_schema.nd (ev_op os_add (ev_op os_add (ev_v 1) ev_int) (ev_call (ok__law_wv_take Tx) (takes_of rfl rfl rfl rfl) (hr.mono (by decide)) (ea_cons (ev_v 0) (ea_cons ev_int ea_nil)))))
    (ess_cons (es_par 3 4 rfl sc__law_wv_schema.nd (ev_listRg rfl Tx.n_list Tx.n_range (ev_v 1)) (ev_lst ea_nil))
    (ess_cons (es_for (vs := [5]) (passes_of rfl) rfl (ei_rng Tx.n_range (ev_call (ok__law_wv_one Tx) (takes_of rfl rfl rfl rfl) (hr.mono (by decide)) (ea_cons (ev_v 0) (ea_cons (ev_lst (ea_cons ev_int (ea_cons ev_int (ea_cons ev_int (ea_cons ev_int (ea_cons ev_int (ea_cons ev_int (ea_cons ev_int (ea_cons ev_int (ea_cons ev_int (ea_cons ev_int (ea_cons ev_int (ea_cons ev_int ea_nil))))))))))))) ea_nil)))) (eg_name 5 sc__law_wv_schema.nd) (ess_cons (es_set 6 sc__law_wv_schema.nd (ev_if (et_cmp os_gt (ev_call (ok__law_wv_take Tx) (takes_of rfl rfl rfl rfl) (hr.mono (by decide)) (ea_cons (ev_v 0) (ea_cons ev_int ea_nil))) ev_int) (ev_call (ok__law_wv_one Tx) (takes_of rfl rfl rfl rfl) (hr.mono (by decide)) (ea_cons (ev_v 0) (ea_cons (ev_v 3) ea_nil))) (ev_call (ok__law_wv_take Tx) (takes_of rfl rfl rfl rfl) (hr.mono (by decide)) (ea_cons (ev_v 0) (ea_cons (ev_v 2) ea_nil)))))
    (ess_cons (es_set 7 sc__law_wv_schema.nd (ev_op os_add (ev_v 1) (ev_call (ok__law_wv_take Tx) (takes_of rfl rfl rfl rfl) (hr.mono (by decide)) (ea_cons (ev_v 0) (ea_cons (ev_op os_sub (ev_v 2) (ev_v 1)) ea_nil)))))
    (ess_cons (es_expr (ev_m1 PySem.F.slot_list_append PySem.F.type_list_append os_append (ev_v 4) (ev_tup (ea_cons (ev_v 6) (ea_cons (ev_v 7) ea_nil)))))
    (ess_one (es_expr (ev_m1 PySem.F.slot_list_extend PySem.F.type_list_extend os_extend (ev_v 3) (ev_if (et_cmp (os_inS hr) (ev_v 6) (ev_v 3)) (ev_lst (ea_cons (ev_v 7) ea_nil)) (ev_lst ea_nil)))))))))
    (ess_one (es_ret (ev_tup (ea_cons (ev_v 1) (ea_cons (ev_v 2) (ea_cons (ev_t1 os_tuple Tx.n_tuple rfl (ev_call (ok__law_wv_mixed Tx) (takes_of rfl rfl rfl rfl) (hr.mono (by decide)) (ea_cons (ev_v 0) (ea_cons (ev_v 4) ea_nil)))) ea_nil))))))))))
theorem ok__law_wv_great_schema (Tx : Txt P w K mg base c__law_full_right t__law_full_right c__law_joined_right t__law_joined_right c__law_beside_right t__law_beside_right) : CallOk P w K mg base (Tabl t__law_full_right t__law_joined_right t__law_beside_right) 3 "_law_wv_great_schema" 1 F__law_wv_great_schema := call_ok Tx.d__law_wv_great_schema sc__law_wv_great_schema rfl rfl fun f cdv A outer s H E hr =>
    (ess_cons (es_set 1 sc__law_wv_great_schema.nd (ev_op os_add ev_int (ev_call (ok__law_wv_take Tx) (takes_of rfl rfl rfl rfl) (hr.mono (by decide)) (ea_cons (ev_v 0) (ea_cons ev_int ea_nil)))))
    (ess_cons (es_comp rfl sc__law_wv_great_schema.nd rfl rfl (sw_true rfl rfl rfl (by decide +kernel)) (ei_rng Tx.n_range ev_int) (@blkOk_by N__law_wv_great_schema (defScope st__law_wv_great_schema) _ [("go", 3)] (by decide +kernel)) rfl (fun _ _ _ _ _ => (eg_name 3 sc__law_wv_great_schema.nd)) (fun _ _ _ _ _ => ets_nil) (fun _ _ _ _ _ => (ev_tup (ea_cons (ev_call (ok__law_wv_take Tx) L2.takes0 (hr.mono (by decide)) (ea_cons (ev_v 0) (ea_cons (ev_v 1) ea_nil))) (ea_cons (ev_op os_add (ev_v 1) (ev_call (ok__law_wv_take Tx) L2.takes0 (hr.mono (by decide)) (ea_cons (ev_v 0) (ea_cons (ev_op os_sub ev_int (ev_v 1)) ea_nil)))) ea_nil)))))
    (ess_cons (es_expr (ev_m1 PySem.F.slot_list_extend PySem.F.type_list_extend os_extend (ev_v 2) (ev_comp rfl sc__law_wv_great_schema.nd (ei_rng Tx.n_range ev_int) (@blkOk_by N__law_wv_great_schema (defScope st__law_wv_great_schema) _ [("go", 3)] (by decide +kernel)) rfl (fun _ _ _ _ _ => (eg_name 3 sc__law_wv_great_schema.nd)) (fun _ _ _ _ _ => ets_nil) (fun _ _ _ _ _ => (ev_tup (ea_cons (ev_call (ok__law_wv_take Tx) L2.takes0 (hr.mono (by decide)) (ea_cons (ev_v 0) (ea_cons ev_int ea_nil))) (ea_cons (ev_op os_add (ev_v 1) (ev_call (ok__law_wv_take Tx) L2.takes0 (hr.mono (by decide)) (ea_cons (ev_v 0) (ea_cons (ev_op os_sub ev_int (ev_v 1)) ea_nil)))) ea_nil)))))))
    (ess_one (es_ret (ev_tup (ea_cons (ev_v 1) (ea_cons ev_int (ea_cons (ev_t1 os_tuple Tx.n_tuple rfl (ev_call (ok__law_wv_mixed Tx) (takes_of rfl rfl rfl rfl) (hr.mono (by decide)) (ea_cons (ev_v 0) (ea_cons (ev_v 2) ea_nil)))) ea_nil)))))))))
theorem ok__law_wv_hand_field (Tx : Txt P w K mg base c__law_full_right t__law_full_right c__law_joined_right t__law_joined_right c__law_beside_right t__law_beside_right) : CallOk P w K mg base (Tabl t__law_full_right t__law_joined_right t__law_beside_right) 1 "_law_wv_hand_field" 2 F__law_wv_hand_field := call_ok Tx.d__law_wv_hand_field sc__law_wv_hand_field rfl rfl fun f cdv A outer s H E hr =>
    (ess_one (es_ret (ev_cmp os_lt (ev_ix os_ix (ev_ix os_ix (ev_ix os_ix (ev_v 0) ev_int) (ev_v 1)) ev_int) (ev_ix os_ix (ev_v 0) ev_int))))
theorem ok__law_wv_pairs (Tx : Txt P w K mg base c__law_full_right t__law_full_right c__law_joined_right t__law_joined_right c__law_beside_right t__law_beside_right) : CallOk P w K mg base (Tabl t__law_full_right t__law_joined_right t__law_beside_right) 1 "_law_wv_pairs" 1 F__law_wv_pairs := call_ok Tx.d__law_wv_pairs sc__law_wv_pairs rfl rfl fun f cdv A outer s H E hr =>
    (ess_cons (es_set 1 sc__law_wv_pairs.nd (ev_lst ea_nil))
    (ess_cons (es_for (vs := [2]) (passes_of rfl) rfl (ei_rng Tx.n_range (ev_b1 os_len Tx.n_len rfl (ev_ix os_ix (ev_v 0) ev_int))) (eg_name 2 sc__law_wv_pairs.nd) (ess_one (es_expr (ev_m1 PySem.F.slot_list_extend PySem.F.type_list_extend os_extend (ev_v 1) (ev_comp rfl sc__law_wv_pairs.nd (ei_rng Tx.n_range (ev_b1 os_len Tx.n_len rfl (ev_ix os_ix (ev_v 0) ev_int))) (@blkOk_by N__law_wv_pairs (defScope st__law_wv_pairs) _ [("f", 3)] (by decide +kernel)) rfl (fun _ _ _ _ _ => (eg_name 3 sc__law_wv_pairs.nd)) (fun _ _ _ _ _ => (ets_one (et_cmp (os_eq hr) (ev_ix os_ix (ev_ix os_ix (ev_ix os_ix (ev_v 0) ev_int) (ev_v 3)) ev_int) (ev_ix os_ix (ev_ix os_ix (ev_ix os_ix (ev_v 0) ev_int) (ev_v 2)) ev_int)))) (fun _ _ _ _ _ => (ev_tup (ea_cons (ev_v 2) (ea_cons (ev_v 3) ea_nil)))))))))
    (ess_one (es_ret (ev_v 1)))))
theorem ok__law_wv_table (Tx : Txt P w K mg base c__law_full_right t__law_full_right c__law_joined_right t__law_joined_right c__law_beside_right t__law_beside_right) : CallOk P w K mg base (Tabl t__law_full_right t__law_joined_right t__law_beside_right) 3 "_law_wv_table" 2 F__law_wv_table := call_ok Tx.d__law_wv_table sc__law_wv_table rfl rfl fun f cdv A outer s H E hr =>
    (ess_cons (es_par 2 3 rfl sc__law_wv_table.nd (ev_call (ok__law_wv_take Tx) (takes_of rfl rfl rfl rfl) (hr.mono (by decide)) (ea_cons (ev_v 0) (ea_cons ev_int ea_nil))) (ev_listRg rfl Tx.n_list Tx.n_range (ev_b1 os_len Tx.n_len rfl (ev_ix os_ix (ev_v 1) ev_int))))
    (ess_cons (es_set 4 sc__law_wv_table.nd (ev_slice (ev_call (ok__law_wv_mixed Tx) (takes_of rfl rfl rfl rfl) (hr.mono (by decide)) (ea_cons (ev_v 0) (ea_cons (ev_call (ok__law_wv_pairs Tx) (takes_of rfl rfl rfl rfl) (hr.mono (by decide)) (ea_cons (ev_v 1) ea_nil)) ea_nil))) eo_none (eo_some ev_int)))
    (ess_cons (es_if (et_cmp os_lt (ev_v 2) ev_int) (ess_one (es_ret (ev_tup (ea_cons (ev_t1 os_tuple Tx.n_tuple rfl (ev_b1 (os_sorted rfl) Tx.n_sorted rfl (ev_v 4))) (ea_cons (ev_t1 os_tuple Tx.n_tuple rfl (ev_v 3)) (ea_cons (ev_t1 os_tuple Tx.n_tuple rfl (ev_v 3)) ea_nil)))))) ess_nil)
    (ess_cons (es_if (et_cmp (os_eq hr) (ev_v 2) ev_int) (ess_cons (es_comp rfl sc__law_wv_table.nd rfl rfl (sw_true rfl rfl rfl (by decide +kernel)) (ei_seq (ev_b1 (os_sorted rfl) Tx.n_sorted rfl (ev_v 4))) (@blkOk_by N__law_wv_table (defScope st__law_wv_table) _ [("g", 8), ("f", 9)] (by decide +kernel)) rfl (fun _ _ _ _ _ => (eg_tup rfl (egs_cons (eg_name 8 sc__law_wv_table.nd) (egs_cons (eg_name 9 sc__law_wv_table.nd) egs_nil)))) (fun _ _ _ _ _ => (ets_one (et_cmp (os_ne hr) (ev_call (ok__law_wv_hand_field Tx) L2.takes0 (hr.mono (by decide)) (ea_cons (ev_v 1) (ea_cons (ev_v 8) ea_nil))) (ev_call (ok__law_wv_hand_field Tx) L2.takes0 (hr.mono (by decide)) (ea_cons (ev_v 1) (ea_cons (ev_v 9) ea_nil)))))) (fun _ _ _ _ _ => (ev_tup (ea_cons (ev_v 8) (ea_cons (ev_v 9) ea_nil)))))
    (ess_one (es_ret (ev_tup (ea_cons (ev_t1 os_tuple Tx.n_tuple rfl (ev_v 5)) (ea_cons (ev_t1 os_tuple Tx.n_tuple rfl (ev_v 3)) (ea_cons (ev_t1 os_tuple Tx.n_tuple rfl (ev_v 3)) ea_nil))))))) ess_nil)
    (ess_cons (es_if (et_cmp (os_eq hr) (ev_v 2) ev_int) (ess_cons (es_comp rfl sc__law_wv_table.nd rfl rfl (sw_true rfl rfl rfl (by decide +kernel)) (ei_seq (ev_v 3)) (@blkOk_by N__law_wv_table (defScope st__law_wv_table) _ [("f", 9)] (by decide +kernel)) rfl (fun _ _ _ _ _ => (eg_name 9 sc__law_wv_table.nd)) (fun _ _ _ _ _ => (ets_one (et_e (ev_call (ok__law_wv_hand_field Tx) L2.takes0 (hr.mono (by decide)) (ea_cons (ev_v 1) (ea_cons (ev_v 9) ea_nil)))))) (fun _ _ _ _ _ => (ev_v 9)))
    (ess_one (es_ret (ev_tup (ea_cons (ev_call (ok__law_wv_some Tx) (takes_of rfl rfl rfl rfl) (hr.mono (by decide)) (ea_cons (ev_v 0) (ea_cons (ev_b1 (os_sorted rfl) Tx.n_sorted rfl (ev_v 4)) (ea_cons ev_int ea_nil)))) (ea_cons (ev_t1 os_tuple Tx.n_tuple rfl (ev_v 5)) (ea_cons (ev_t1 os_tuple Tx.n_tuple rfl (ev_v 5)) ea_nil))))))) ess_nil)
    (ess_cons (es_set 6 sc__law_wv_table.nd (ev_call (ok__law_wv_one Tx) (takes_of rfl rfl rfl rfl) (hr.mono (by decide)) (ea_cons (ev_v 0) (ea_cons (ev_lst (ea_cons ev_int (ea_cons ev_int (ea_cons ev_int ea_nil)))) ea_nil))))
    (ess_cons (es_if (et_w (ew_and (et_cmp (os_eq hr) (ev_v 2) ev_int) (ew_and1 (et_cmp (os_eq hr) (ev_call (ok__law_wv_take Tx) (takes_of rfl rfl rfl rfl) (hr.mono (by decide)) (ea_cons (ev_v 0) (ea_cons ev_int ea_nil))) ev_int)))) (ess_one (es_ret (ev_tup (ea_cons (ev_tup ea_nil) (ea_cons (ev_tup ea_nil) (ea_cons (ev_tup ea_nil) ea_nil)))))) ess_nil)
    (ess_cons (es_set 7 sc__law_wv_table.nd (ev_call (ok__law_wv_some Tx) (takes_of rfl rfl rfl rfl) (hr.mono (by decide)) (ea_cons (ev_v 0) (ea_cons (ev_b1 (os_sorted rfl) Tx.n_sorted rfl (ev_v 4)) (ea_cons (ev_v 6) ea_nil)))))
    (ess_one (es_ret (ev_tup (ea_cons (ev_v 7) (ea_cons (ev_call (ok__law_wv_some Tx) (takes_of rfl rfl rfl rfl) (hr.mono (by decide)) (ea_cons (ev_v 0) (ea_cons (ev_v 3) (ea_cons (ev_v 6) ea_nil)))) (ea_cons (ev_call (ok__law_wv_some Tx) (takes_of rfl rfl rfl rfl) (hr.mono (by decide)) (ea_cons (ev_v 0) (ea_cons (ev_v 3) (ea_cons (ev_v 6) ea_nil)))) ea_nil))))))))))))))
theorem ok__law_is_whole (Tx : Txt P w K mg base c__law_full_right t__law_full_right c__law_joined_right t__law_joined_right c__law_beside_right t__law_beside_right) : CallOk P w K mg base (Tabl t__law_full_right t__law_joined_right t__law_beside_right) 1 "_law_is_whole" 1 F__law_is_whole := call_ok Tx.d__law_is_whole sc__law_is_whole rfl rfl fun f cdv A outer s H E hr =>
    (ess_one (es_ret (ev_and (ev_isinst kit_int Tx.n_isinstance Tx.n_int rfl (ev_v 0)) (ev_one (ev_not (ev_isinst kit_bool Tx.n_isinstance Tx.n_bool rfl (ev_v 0)))))))
theorem okR__law_same (Tx : Txt P w K mg base c__law_full_right t__law_full_right c__law_joined_right t__law_joined_right c__law_beside_right t__law_beside_right) : ∀ n : Nat, CallOk P w K mg base (Tabl t__law_full_right t__law_joined_right t__law_beside_right) (n + 1) "_law_same" 2 (R__law_same n)
  | 0 => (call_bad Tx.d__law_same rfl).mono (Nat.zero_le _)
  | n + 1 => by
    have ih := okR__law_same Tx n
    exact (call_ok (k := n + 1) Tx.d__law_same sc__law_same rfl rfl fun f cdv A outer s H E hr =>
      (ess_cons (es_if (et_cmp os_isN (ev_v 1) ev_non) (ess_one (es_ret (ev_cmp os_isN (ev_v 0) ev_non))) ess_nil)
    (ess_cons (es_if (et_e (ev_isinst kit_bool Tx.n_isinstance Tx.n_bool rfl (ev_v 1))) (ess_one (es_ret (ev_if (et_e (ev_v 1)) (ev_cmp os_isB (ev_v 0) ev_bl) (ev_cmp os_isB (ev_v 0) ev_bl)))) ess_nil)
    (ess_cons (es_if (et_e (ev_isinst kit_int Tx.n_isinstance Tx.n_int rfl (ev_v 1))) (ess_one (es_ret (ev_and (ev_call (ok__law_is_whole Tx) (takes_of rfl rfl rfl rfl) (hr.mono (by omega)) (ea_cons (ev_v 0) ea_nil)) (ev_one (ev_cmp (os_eq hr) (ev_v 0) (ev_v 1)))))) ess_nil)
    (ess_cons (es_if (et_e (ev_isinst kit_str Tx.n_isinstance Tx.n_str rfl (ev_v 1))) (ess_one (es_ret (ev_and (ev_isinst kit_str Tx.n_isinstance Tx.n_str rfl (ev_v 0)) (ev_one (ev_cmp (os_eq hr) (ev_v 0) (ev_v 1)))))) ess_nil)
    (ess_cons (es_if (et_e (ev_isinst kit_dict Tx.n_isinstance Tx.n_dict rfl (ev_v 1))) (ess_cons (es_if (et_w (ew_or (et_not (et_e (ev_isinst kit_dict Tx.n_isinstance Tx.n_dict rfl (ev_v 0)))) (ew_or1 (et_cmp (os_ne hr) (ev_b1 os_len Tx.n_len rfl (ev_v 0)) (ev_b1 os_len Tx.n_len rfl (ev_v 1)))))) (ess_one (es_ret ev_bl)) ess_nil)
    (ess_one (es_ret (ev_cmp (os_eq hr) ev_bad (ev_lst ea_nil))))) ess_nil)
    (ess_cons (es_if (et_w (ew_and (et_not (et_e (ev_isinst kit_tuple Tx.n_isinstance Tx.n_tuple rfl (ev_v 1)))) (ew_and1 (et_not (et_e (ev_isinst kit_list Tx.n_isinstance Tx.n_list rfl (ev_v 1))))))) (ess_one (es_ret (ev_t1 os_bool Tx.n_bool rfl (ev_cmp (os_eq hr) (ev_v 0) (ev_v 1))))) ess_nil)
    (ess_cons (es_if (et_cmp (os_ne hr) (ev_isinst kit_tuple Tx.n_isinstance Tx.n_tuple rfl (ev_v 1)) (ev_isinst kit_tuple Tx.n_isinstance Tx.n_tuple rfl (ev_v 0))) (ess_one (es_ret ev_bl)) ess_nil)
    (ess_cons (es_if (et_cmp (os_ne hr) (ev_isinst kit_list Tx.n_isinstance Tx.n_list rfl (ev_v 1)) (ev_isinst kit_list Tx.n_isinstance Tx.n_list rfl (ev_v 0))) (ess_one (es_ret ev_bl)) ess_nil)
    (ess_cons (es_if (et_cmp (os_ne hr) (ev_b1 os_len Tx.n_len rfl (ev_v 0)) (ev_b1 os_len Tx.n_len rfl (ev_v 1))) (ess_one (es_ret ev_bl)) ess_nil)
    (ess_cons (es_for (vs := [2]) (passes_of rfl) rfl (ei_rng Tx.n_range (ev_b1 os_len Tx.n_len rfl (ev_v 1))) (eg_name 2 sc__law_same.nd) (ess_one (es_if (et_not (et_e (ev_call ih (takes_of rfl rfl rfl rfl) (hr.mono (by omega)) (ea_cons (ev_ix os_ix (ev_v 0) (ev_v 2)) (ea_cons (ev_ix os_ix (ev_v 1) (ev_v 2)) ea_nil))))) (ess_one (es_ret ev_bl)) ess_nil)))
    (ess_one (es_ret ev_bl))))))))))))).mono (by omega)
theorem ok__law_same (Tx : Txt P w K mg base c__law_full_right t__law_full_right c__law_joined_right t__law_joined_right c__law_beside_right t__law_beside_right) : CallOk P w K mg base (Tabl t__law_full_right t__law_joined_right t__law_beside_right) 14 "_law_same" 2 F__law_same := (okR__law_same Tx 12).mono (by decide)
theorem ok__law_beside_by (Tx : Txt P w K mg base c__law_full_right t__law_full_right c__law_joined_right t__law_joined_right c__law_beside_right t__law_beside_right) : CallOk P w K mg base (Tabl t__law_full_right t__law_joined_right t__law_beside_right) 1 "_law_beside_by" 2 F__law_beside_by := call_ok Tx.d__law_beside_by sc__law_beside_by rfl rfl fun f cdv A outer s H E hr =>
    (ess_cons (es_set 2 sc__law_beside_by.nd (ev_comp rfl sc__law_beside_by.nd (ei_rng Tx.n_range (ev_ix os_ix (ev_v 0) ev_int)) (@blkOk_by N__law_beside_by (defScope st__law_beside_by) _ [("kind", 5)] (by decide +kernel)) rfl (fun _ _ _ _ _ => (eg_name 5 sc__law_beside_by.nd)) (fun _ _ _ _ _ => ets_nil) (fun _ _ _ _ _ => (ev_if (et_cmp os_lt (ev_v 5) (ev_ix os_ix (ev_v 0) ev_int)) (ev_v 5) (ev_op os_add (ev_v 5) (ev_ix os_ix (ev_v 1) ev_int))))))
    (ess_cons (es_set 3 sc__law_beside_by.nd (ev_comp rfl sc__law_beside_by.nd (ei_rng Tx.n_range (ev_ix os_ix (ev_v 1) ev_int)) (@blkOk_by N__law_beside_by (defScope st__law_beside_by) _ [("kind", 5)] (by decide +kernel)) rfl (fun _ _ _ _ _ => (eg_name 5 sc__law_beside_by.nd)) (fun _ _ _ _ _ => ets_nil) (fun _ _ _ _ _ => (ev_if (et_cmp os_lt (ev_v 5) (ev_ix os_ix (ev_v 1) ev_int)) (ev_op os_add (ev_ix os_ix (ev_v 0) ev_int) (ev_v 5)) (ev_op os_add (ev_ix os_ix (ev_v 0) ev_int) (ev_v 5))))))
    (ess_cons (es_set 4 sc__law_beside_by.nd (ev_op os_add (ev_comp rfl sc__law_beside_by.nd (ei_seq (ev_ix os_ix (ev_v 0) ev_int)) (@blkOk_by N__law_beside_by (defScope st__law_beside_by) _ [("a", 6), ("b", 7)] (by decide +kernel)) rfl (fun _ _ _ _ _ => (eg_tup rfl (egs_cons (eg_name 6 sc__law_beside_by.nd) (egs_cons (eg_name 7 sc__law_beside_by.nd) egs_nil)))) (fun _ _ _ _ _ => ets_nil) (fun _ _ _ _ _ => (ev_tup (ea_cons (ev_ix os_ix (ev_v 2) (ev_v 6)) (ea_cons (ev_ix os_ix (ev_v 2) (ev_v 7)) ea_nil))))) (ev_comp rfl sc__law_beside_by.nd (ei_seq (ev_ix os_ix (ev_v 1) ev_int)) (@blkOk_by N__law_beside_by (defScope st__law_beside_by) _ [("a", 6), ("b", 7)] (by decide +kernel)) rfl (fun _ _ _ _ _ => (eg_tup rfl (egs_cons (eg_name 6 sc__law_beside_by.nd) (egs_cons (eg_name 7 sc__law_beside_by.nd) egs_nil)))) (fun _ _ _ _ _ => ets_nil) (fun _ _ _ _ _ => (ev_tup (ea_cons (ev_ix os_ix (ev_v 3) (ev_v 6)) (ea_cons (ev_ix os_ix (ev_v 3) (ev_v 7)) ea_nil)))))))
    (ess_one (es_ret (ev_tup (ea_cons (ev_op os_add (ev_ix os_ix (ev_v 0) ev_int) (ev_ix os_ix (ev_v 1) ev_int)) (ea_cons (ev_op os_add (ev_ix os_ix (ev_v 0) ev_int) (ev_ix os_ix (ev_v 1) ev_int)) (ea_cons (ev_t1 os_tuple Tx.n_tuple rfl (ev_v 4)) ea_nil)))))))))
theorem ok__law_beside_refused (Tx : Txt P w K mg base c__law_full_right t__law_full_right c__law_joined_right t__law_joined_right c__law_beside_right t__law_beside_right) : CallOk P w K mg base (Tabl t__law_full_right t__law_joined_right t__law_beside_right) 1 "_law_beside_refused" 2 F__law_beside_refused := call_ok Tx.d__law_beside_refused sc__law_beside_refused rfl rfl fun f cdv A outer s H E hr =>
    (ess_cons (es_set 2 sc__law_beside_refused.nd (ev_lst (ea_cons (ev_tup (ea_cons (ev_op os_add (ev_ix os_ix (ev_v 0) ev_int) (ev_ix os_ix (ev_v 1) ev_int)) (ea_cons ev_int ea_nil))) (ea_cons (ev_tup (ea_cons (ev_op os_add (ev_ix os_ix (ev_v 0) ev_int) (ev_ix os_ix (ev_v 1) ev_int)) (ea_cons ev_int ea_nil))) (ea_cons (ev_tup (ea_cons (ev_op os_add (ev_b1 os_len Tx.n_len rfl (ev_ix os_ix (ev_v 0) ev_int)) (ev_b1 os_len Tx.n_len rfl (ev_ix os_ix (ev_v 1) ev_int))) (ea_cons ev_int ea_nil))) ea_nil)))))
    (ess_cons (es_comp rfl sc__law_beside_refused.nd rfl rfl (sw_true rfl rfl rfl (by decide +kernel)) (ei_seq (ev_v 2)) (@blkOk_by N__law_beside_refused (defScope st__law_beside_refused) _ [("many", 4), ("top", 5)] (by decide +kernel)) rfl (fun _ _ _ _ _ => (eg_tup rfl (egs_cons (eg_name 4 sc__law_beside_refused.nd) (egs_cons (eg_name 5 sc__law_beside_refused.nd) egs_nil)))) (fun _ _ _ _ _ => (ets_one (et_cmp os_gt (ev_v 4) (ev_v 5)))) (fun _ _ _ _ _ => (ev_v 4)))
    (ess_one (es_ret (ev_if (et_cmp (os_ne hr) (ev_v 3) (ev_lst ea_nil)) (ev_tup (ea_cons ev_str (ea_cons (ev_ix os_ix (ev_v 3) ev_int) ea_nil))) ev_non)))))
theorem ok__law_merged (Tx : Txt P w K mg base c__law_full_right t__law_full_right c__law_joined_right t__law_joined_right c__law_beside_right t__law_beside_right) : CallOk P w K mg base (Tabl t__law_full_right t__law_joined_right t__law_beside_right) 1 "_law_merged" 2 F__law_merged := call_ok Tx.d__law_merged sc__law_merged rfl rfl fun f cdv A outer s H E hr =>
    (ess_one (es_ret (ev_t1 os_tuple Tx.n_tuple rfl (ev_comp rfl sc__law_merged.nd (ei_rng Tx.n_range ev_int) (@blkOk_by N__law_merged (defScope st__law_merged) _ [("k", 2)] (by decide +kernel)) rfl (fun _ _ _ _ _ => (eg_name 2 sc__law_merged.nd)) (fun _ _ _ _ _ => ets_nil) (fun _ _ _ _ _ => (ev_t1 os_tuple Tx.n_tuple rfl (ev_b1 (os_sorted rfl) Tx.n_sorted rfl (ev_t1 (os_dict hr rfl) Tx.n_dict rfl (ev_comp rfl sc__law_merged.nd (ei_seq (ev_op os_add (ev_ix os_ix (ev_v 0) (ev_v 2)) (ev_ix os_ix (ev_v 1) (ev_v 2)))) (@blkOk_by N__law_merged ({ kind := .function, names := [(".0", .local), ("k", .local), ("tuple", .globalImplicit), ("sorted", .globalImplicit), ("dict", .globalImplicit), ("one", .cell), ("two", .cell)], isGenerator := false, isCoroutine := false, more := [] } : Scope) _ [("entry", 3)] (by decide +kernel)) rfl (fun _ _ _ _ _ => (eg_name 3 sc__law_merged.nd)) (fun _ _ _ _ _ => ets_nil) (fun _ _ _ _ _ => (ev_tup (ea_cons (ev_v 3) (ea_cons ev_bl ea_nil)))))))))))))
theorem ok__law_is_within (Tx : Txt P w K mg base c__law_full_right t__law_full_right c__law_joined_right t__law_joined_right c__law_beside_right t__law_beside_right) : CallOk P w K mg base (Tabl t__law_full_right t__law_joined_right t__law_beside_right) 1 "_law_is_within" 2 F__law_is_within := call_ok Tx.d__law_is_within sc__law_is_within rfl rfl fun f cdv A outer s H E hr =>
    (ess_one (es_ret (ev_cmp (os_eq hr) (ev_comp rfl sc__law_is_within.nd (ei_rng Tx.n_range ev_int) (@blkOk_by N__law_is_within (defScope st__law_is_within) _ [("k", 2)] (by decide +kernel)) rfl (fun _ _ _ _ _ => (eg_name 2 sc__law_is_within.nd)) (fun _ _ _ _ _ => (ets_one (et_cmp (os_ne hr) (ev_comp rfl sc__law_is_within.nd (ei_seq (ev_ix os_ix (ev_v 0) (ev_v 2))) (@blkOk_by N__law_is_within ({ kind := .function, names := [(".0", .local), ("k", .cell), ("one", .cell), ("two", .cell)], isGenerator := false, isCoroutine := false, more := [] } : Scope) _ [("entry", 3)] (by decide +kernel)) rfl (fun _ _ _ _ _ => (eg_name 3 sc__law_is_within.nd)) (fun _ _ _ _ _ => (ets_one (et_cmp (os_ninS hr) (ev_v 3) (ev_ix os_ix (ev_v 1) (ev_v 2))))) (fun _ _ _ _ _ => (ev_v 3))) (ev_lst ea_nil)))) (fun _ _ _ _ _ => (ev_v 2))) (ev_lst ea_nil))))
theorem ok__law_full_right (Tx : Txt P w K mg base c__law_full_right t__law_full_right c__law_joined_right t__law_joined_right c__law_beside_right t__law_beside_right) : CallOk P w K mg base (Tabl t__law_full_right t__law_joined_right t__law_beside_right) 15 "_law_full_right" 1 F__law_full_right := call_okC Tx.d__law_full_right sc__law_full_right rfl rfl fun f A outer s H E hr =>
    (ess_cons (es_par 1 2 rfl sc__law_full_right.nd (ev_call (ok__law_wv_pairs Tx) (takes_of rfl rfl rfl rfl) (hr.mono (by decide)) (ea_cons (ev_v 0) ea_nil)) (ev_tupRg rfl Tx.n_tuple Tx.n_range (ev_b1 os_len Tx.n_len rfl (ev_ix os_ix (ev_v 0) ev_int))))
    (ess_cons (es_set 3 sc__law_full_right.nd (ev_if (et_cmp (os_le hr) (ev_b1 os_len Tx.n_len rfl (ev_v 1)) ev_int) (ev_tup (ea_cons ev_str (ea_cons (ev_tup (ea_cons (ev_t1 os_tuple Tx.n_tuple rfl (ev_v 1)) (ea_cons (ev_v 2) (ea_cons (ev_v 2) ea_nil)))) ea_nil))) (ev_tup (ea_cons ev_str (ea_cons (ev_b1 os_len Tx.n_len rfl (ev_v 1)) ea_nil)))))
    (ess_one (es_ret (ev_call (ok__law_same Tx) (takes_of rfl rfl rfl rfl) (hr.mono (by decide)) (ea_cons (ev_heard (k := 12) Tx.heard (mk__law_full_right Tx rfl rfl rfl rfl) (hr.mono (by decide)) (@lamS_by (defScope st__law_full_right) _ (by decide +kernel)) fun A outer s H E f c hr => (ev_call (ok_full_table Tx) (takes_of rfl rfl rfl rfl) (hr.mono (by decide)) (ea_cons (ev_v 0) ea_nil))) (ea_cons (ev_v 3) ea_nil)))))))
theorem ok__law_joined_right (Tx : Txt P w K mg base c__law_full_right t__law_full_right c__law_joined_right t__law_joined_right c__law_beside_right t__law_beside_right) : CallOk P w K mg base (Tabl t__law_full_right t__law_joined_right t__law_beside_right) 15 "_law_joined_right" 3 F__law_joined_right := call_okC Tx.d__law_joined_right sc__law_joined_right rfl rfl fun f A outer s H E hr =>
    (ess_cons (es_set 3 sc__law_joined_right.nd (ev_call (ok__law_merged Tx) (takes_of rfl rfl rfl rfl) (hr.mono (by decide)) (ea_cons (ev_v 1) (ea_cons (ev_v 2) ea_nil))))
    (ess_cons (es_set 4 sc__law_joined_right.nd (ev_if (et_cmp (os_le hr) (ev_b1 os_len Tx.n_len rfl (ev_ix os_ix (ev_v 3) ev_int)) ev_int) (ev_tup (ea_cons ev_str (ea_cons (ev_v 3) ea_nil))) (ev_tup (ea_cons ev_str (ea_cons (ev_b1 os_len Tx.n_len rfl (ev_ix os_ix (ev_v 3) ev_int)) ea_nil)))))
    (ess_cons (es_if (et_not (et_e (ev_call (ok__law_same Tx) (takes_of rfl rfl rfl rfl) (hr.mono (by decide)) (ea_cons (ev_heard (k := 12) Tx.heard (mk__law_joined_right Tx rfl rfl rfl rfl) (hr.mono (by decide)) (@lamS_by (defScope st__law_joined_right) _ (by decide +kernel)) fun A outer s H E f c hr => (ev_call (ok_joined_tables Tx) (takes_of rfl rfl rfl rfl) (hr.mono (by decide)) (ea_cons (ev_v 0) (ea_cons (ev_v 1) (ea_cons (ev_v 2) ea_nil))))) (ea_cons (ev_v 4) ea_nil))))) (ess_one (es_ret ev_bl)) ess_nil)
    (ess_cons (es_set 5 sc__law_joined_right.nd (ev_lst (ea_cons (ev_call (ok_table_within Tx) (takes_of rfl rfl rfl rfl) (hr.mono (by decide)) (ea_cons (ev_v 0) (ea_cons (ev_v 1) (ea_cons (ev_v 2) ea_nil)))) (ea_cons (ev_call (ok_table_within Tx) (takes_of rfl rfl rfl rfl) (hr.mono (by decide)) (ea_cons (ev_v 0) (ea_cons (ev_v 2) (ea_cons (ev_v 1) ea_nil)))) ea_nil))))
    (ess_cons (es_if (et_not (et_e (ev_call (ok__law_same Tx) (takes_of rfl rfl rfl rfl) (hr.mono (by decide)) (ea_cons (ev_v 5) (ea_cons (ev_lst (ea_cons (ev_call (ok__law_is_within Tx) (takes_of rfl rfl rfl rfl) (hr.mono (by decide)) (ea_cons (ev_v 1) (ea_cons (ev_v 2) ea_nil))) (ea_cons (ev_call (ok__law_is_within Tx) (takes_of rfl rfl rfl rfl) (hr.mono (by decide)) (ea_cons (ev_v 2) (ea_cons (ev_v 1) ea_nil))) ea_nil))) ea_nil))))) (ess_one (es_ret ev_bl)) ess_nil)
    (ess_cons (es_if (et_cmp os_gt (ev_b1 os_len Tx.n_len rfl (ev_ix os_ix (ev_v 3) ev_int)) ev_int) (ess_one (es_ret ev_bl)) ess_nil)
    (ess_cons (es_set 5 sc__law_joined_right.nd (ev_lst (ea_cons (ev_call (ok_table_within Tx) (takes_of rfl rfl rfl rfl) (hr.mono (by decide)) (ea_cons (ev_v 0) (ea_cons (ev_v 1) (ea_cons (ev_v 3) ea_nil)))) (ea_cons (ev_call (ok_table_within Tx) (takes_of rfl rfl rfl rfl) (hr.mono (by decide)) (ea_cons (ev_v 0) (ea_cons (ev_v 2) (ea_cons (ev_v 3) ea_nil)))) (ea_cons (ev_call (ok_table_within Tx) (takes_of rfl rfl rfl rfl) (hr.mono (by decide)) (ea_cons (ev_v 0) (ea_cons (ev_v 3) (ea_cons (ev_v 1) ea_nil)))) ea_nil)))))
    (ess_one (es_ret (ev_call (ok__law_same Tx) (takes_of rfl rfl rfl rfl) (hr.mono (by decide)) (ea_cons (ev_v 5) (ea_cons (ev_lst (ea_cons ev_bl (ea_cons ev_bl (ea_cons (ev_call (ok__law_is_within Tx) (takes_of rfl rfl rfl rfl) (hr.mono (by decide)) (ea_cons (ev_v 2) (ea_cons (ev_v 1) ea_nil))) ea_nil)))) ea_nil))))))))))))
theorem ok__law_beside_right (Tx : Txt P w K mg base c__law_full_right t__law_full_right c__law_joined_right t__law_joined_right c__law_beside_right t__law_beside_right) : CallOk P w K mg base (Tabl t__law_full_right t__law_joined_right t__law_beside_right) 15 "_law_beside_right" 4 F__law_beside_right := call_okC Tx.d__law_beside_right sc__law_beside_right rfl rfl fun f A outer s H E hr =>
    (ess_cons (es_set 4 sc__law_beside_right.nd (ev_call (ok__law_beside_refused Tx) (takes_of rfl rfl rfl rfl) (hr.mono (by decide)) (ea_cons (ev_v 0) (ea_cons (ev_v 2) ea_nil))))
    (ess_cons (es_set 5 sc__law_beside_right.nd (ev_if (et_cmp os_isN (ev_v 4) ev_non) (ev_tup (ea_cons ev_str (ea_cons (ev_call (ok__law_beside_by Tx) (takes_of rfl rfl rfl rfl) (hr.mono (by decide)) (ea_cons (ev_v 0) (ea_cons (ev_v 2) ea_nil))) ea_nil))) (ev_v 4)))
    (ess_cons (es_if (et_not (et_e (ev_call (ok__law_same Tx) (takes_of rfl rfl rfl rfl) (hr.mono (by decide)) (ea_cons (ev_heard (k := 12) Tx.heard (mk__law_beside_right Tx rfl rfl rfl rfl) (hr.mono (by decide)) (@lamS_by (defScope st__law_beside_right) _ (by decide +kernel)) fun A outer s H E f c hr => (ev_call (ok_beside Tx) (takes_of rfl rfl rfl rfl) (hr.mono (by decide)) (ea_cons (ev_v 0) (ea_cons (ev_v 2) ea_nil)))) (ea_cons (ev_v 5) ea_nil))))) (ess_one (es_ret ev_bl)) ess_nil)
    (ess_cons (es_set 6 sc__law_beside_right.nd (ev_b1 os_len Tx.n_len rfl (ev_ix os_ix (ev_v 0) ev_int)))
    (ess_cons (es_set 7 sc__law_beside_right.nd (ev_t1 os_tuple Tx.n_tuple rfl (ev_comp rfl sc__law_beside_right.nd (ei_seq (ev_ix os_ix (ev_v 3) ev_int)) (@blkOk_by N__law_beside_right (defScope st__law_beside_right) _ [("g", 10), ("f", 11)] (by decide +kernel)) rfl (fun _ _ _ _ _ => (eg_tup rfl (egs_cons (eg_name 10 sc__law_beside_right.nd) (egs_cons (eg_name 11 sc__law_beside_right.nd) egs_nil)))) (fun _ _ _ _ _ => ets_nil) (fun _ _ _ _ _ => (ev_tup (ea_cons (ev_op os_add (ev_v 10) (ev_v 6)) (ea_cons (ev_op os_add (ev_v 11) (ev_v 6)) ea_nil)))))))
    (ess_cons (es_comp rfl sc__law_beside_right.nd rfl rfl (sw_true rfl rfl rfl (by decide +kernel)) (ei_seq (ev_lst (ea_cons ev_int (ea_cons ev_int ea_nil)))) (@blkOk_by N__law_beside_right (defScope st__law_beside_right) _ [("k", 12)] (by decide +kernel)) rfl (fun _ _ _ _ _ => (eg_name 12 sc__law_beside_right.nd)) (fun _ _ _ _ _ => ets_nil) (fun _ _ _ _ _ => (ev_t1 os_tuple Tx.n_tuple rfl (ev_comp rfl sc__law_beside_right.nd (ei_seq (ev_ix os_ix (ev_v 3) (ev_v 12))) (@blkOk_by N__law_beside_right ({ kind := .function, names := [(".0", .local), ("k", .local), ("tuple", .globalImplicit), ("many", .cell), ("other", .cell)], isGenerator := false, isCoroutine := false, more := [] } : Scope) _ [("f", 11)] (by decide +kernel)) rfl (fun _ _ _ _ _ => (eg_name 11 sc__law_beside_right.nd)) (fun _ _ _ _ _ => ets_nil) (fun _ _ _ _ _ => (ev_op os_add (ev_v 11) (ev_v 6)))))))
    (ess_cons (es_set 9 sc__law_beside_right.nd (ev_tup (ea_cons (ev_op os_add (ev_ix os_ix (ev_v 1) ev_int) (ev_v 7)) (ea_cons (ev_op os_add (ev_ix os_ix (ev_v 1) ev_int) (ev_ix os_ix (ev_v 8) ev_int)) (ea_cons (ev_op os_add (ev_ix os_ix (ev_v 1) ev_int) (ev_ix os_ix (ev_v 8) ev_int)) ea_nil)))))
    (ess_cons (es_if (et_w (ew_and (et_cmp os_isN (ev_v 4) ev_non) (ew_and1 (et_cmp os_gt (ev_b1 os_len Tx.n_len rfl (ev_ix os_ix (ev_v 9) ev_int)) ev_int)))) (ess_one (es_set 4 sc__law_beside_right.nd (ev_tup (ea_cons ev_str (ea_cons (ev_b1 os_len Tx.n_len rfl (ev_ix os_ix (ev_v 9) ev_int)) ea_nil))))) ess_nil)
    (ess_cons (es_set 5 sc__law_beside_right.nd (ev_if (et_cmp os_isN (ev_v 4) ev_non) (ev_tup (ea_cons ev_str (ea_cons (ev_v 9) ea_nil))) (ev_v 4)))
    (ess_one (es_ret (ev_call (ok__law_same Tx) (takes_of rfl rfl rfl rfl) (hr.mono (by decide)) (ea_cons (ev_heard (k := 12) Tx.heard (mk__law_beside_right Tx rfl rfl rfl rfl) (hr.mono (by decide)) (@lamS_by (defScope st__law_beside_right) _ (by decide +kernel)) fun A outer s H E f c hr => (ev_call (ok_table_beside Tx) (takes_of rfl rfl rfl rfl) (hr.mono (by decide)) (ea_cons (ev_v 0) (ea_cons (ev_v 1) (ea_cons (ev_v 2) (ea_cons (ev_v 3) ea_nil)))))) (ea_cons (ev_v 5) ea_nil))))))))))))))
theorem ok__law_wide_schema (Tx : Txt P w K mg base c__law_full_right t__law_full_right c__law_joined_right t__law_joined_right c__law_beside_right t__law_beside_right) : CallOk P w K mg base (Tabl t__law_full_right t__law_joined_right t__law_beside_right) 2 "_law_wide_schema" 1 F__law_wide_schema := call_ok Tx.d__law_wide_schema sc__law_wide_schema rfl rfl fun f cdv A outer s H E hr =>
    (ess_cons (es_par 1 2 rfl sc__law_wide_schema.nd (ev_op os_add ev_int (ev_call (ok__law_wv_take Tx) (takes_of rfl rfl rfl rfl) (hr.mono (by decide)) (ea_cons (ev_v 0) (ea_cons ev_int ea_nil)))) (ev_lst ea_nil))
    (ess_cons (es_set 3 sc__law_wide_schema.nd (ev_op os_add (ev_op os_add (ev_v 1) ev_int) (ev_call (ok__law_wv_take Tx) (takes_of rfl rfl rfl rfl) (hr.mono (by decide)) (ea_cons (ev_v 0) (ea_cons ev_int ea_nil)))))
    (ess_cons (es_for (vs := [4]) (passes_of rfl) rfl (ei_rng Tx.n_range (ev_op os_add ev_int (ev_call (ok__law_wv_take Tx) (takes_of rfl rfl rfl rfl) (hr.mono (by decide)) (ea_cons (ev_v 0) (ea_cons ev_int ea_nil))))) (eg_name 4 sc__law_wide_schema.nd) (ess_one (es_expr (ev_m1 PySem.F.slot_list_append PySem.F.type_list_append os_append (ev_v 2) (ev_tup (ea_cons (ev_call (ok__law_wv_take Tx) (takes_of rfl rfl rfl rfl) (hr.mono (by decide)) (ea_cons (ev_v 0) (ea_cons (ev_v 3) ea_nil))) (ea_cons (ev_op os_add (ev_v 1) (ev_call (ok__law_wv_take Tx) (takes_of rfl rfl rfl rfl) (hr.mono (by decide)) (ea_cons (ev_v 0) (ea_cons (ev_op os_sub (ev_v 3) (ev_v 1)) ea_nil)))) ea_nil)))))))
    (ess_one (es_ret (ev_tup (ea_cons (ev_v 1) (ea_cons (ev_v 3) (ea_cons (ev_t1 os_tuple Tx.n_tuple rfl (ev_v 2)) ea_nil)))))))))
theorem fn_law (Tx : Txt P w K mg base c__law_full_right t__law_full_right c__law_joined_right t__law_joined_right c__law_beside_right t__law_beside_right) {f : Addr} {fd : FuncData} (F : Fun K "law" "law" st_law f fd) : FnOk P w K mg base (L2.CX P w) 16 f fd ["script"] (spF K mg (Tabl t__law_full_right t__law_joined_right t__law_beside_right) 1 F_law) := fn_okF F sc_law fun cdv A outer s H E hr =>
    (ess_cons (es_par 1 2 rfl sc_law.nd (ev_call (ok__law_wv_pool Tx) (takes_of rfl rfl rfl rfl) (hr.mono (by decide)) (ea_cons (ev_v 0) ea_nil)) (ev_lst ea_nil))
    (ess_cons (es_for (vs := [3]) (passes_of rfl) rfl (ei_rng Tx.n_range ev_int) (eg_name 3 sc_law.nd) (ess_cons (es_set 4 sc_law.nd (ev_if (et_cmp (os_eq hr) (ev_v 3) ev_int) ev_int (ev_if (et_cmp (os_eq hr) (ev_v 3) ev_int) (ev_call (ok__law_wv_take Tx) (takes_of rfl rfl rfl rfl) (hr.mono (by decide)) (ea_cons (ev_v 1) (ea_cons ev_int ea_nil))) ev_int)))
    (ess_cons (es_set 5 sc_law.nd (ev_if (et_cmp (os_eq hr) (ev_v 4) ev_int) (ev_call (ok__law_wide_schema Tx) (takes_of rfl rfl rfl rfl) (hr.mono (by decide)) (ea_cons (ev_v 1) ea_nil)) (ev_call (ok__law_wv_schema Tx) (takes_of rfl rfl rfl rfl) (hr.mono (by decide)) (ea_cons (ev_v 1) ea_nil))))
    (ess_cons (es_set 5 sc_law.nd (ev_if (et_cmp (os_eq hr) (ev_v 4) ev_int) (ev_call (ok__law_wv_great_schema Tx) (takes_of rfl rfl rfl rfl) (hr.mono (by decide)) (ea_cons (ev_v 1) ea_nil)) (ev_v 5)))
    (ess_cons (es_par 6 7 rfl sc_law.nd (ev_call (ok__law_wv_table Tx) (takes_of rfl rfl rfl rfl) (hr.mono (by decide)) (ea_cons (ev_v 1) (ea_cons (ev_v 5) ea_nil))) (ev_call (ok__law_wv_table Tx) (takes_of rfl rfl rfl rfl) (hr.mono (by decide)) (ea_cons (ev_v 1) (ea_cons (ev_v 5) ea_nil))))
    (ess_cons (es_if (et_w (ew_or (et_not (et_e (ev_call (ok__law_full_right Tx) (takes_of rfl rfl rfl rfl) (hr.mono (by decide)) (ea_cons (ev_v 5) ea_nil)))) (ew_or1 (et_not (et_e (ev_call (ok__law_joined_right Tx) (takes_of rfl rfl rfl rfl) (hr.mono (by decide)) (ea_cons (ev_v 5) (ea_cons (ev_v 6) (ea_cons (ev_v 7) ea_nil))))))))) (ess_one (es_ret ev_bl)) ess_nil)
    (ess_cons (es_expr (ev_m1 PySem.F.slot_list_append PySem.F.type_list_append os_append (ev_v 2) (ev_tup (ea_cons (ev_v 5) (ea_cons (ev_v 6) ea_nil)))))
    (ess_one (es_for (vs := [8, 9]) (passes_of rfl) rfl (ei_seq (ev_lst (ea_cons (ev_call (ok__law_wv_one Tx) (takes_of rfl rfl rfl rfl) (hr.mono (by decide)) (ea_cons (ev_v 1) (ea_cons (ev_v 2) ea_nil))) (ea_cons (ev_call (ok__law_wv_one Tx) (takes_of rfl rfl rfl rfl) (hr.mono (by decide)) (ea_cons (ev_v 1) (ea_cons (ev_v 2) ea_nil))) ea_nil)))) (eg_tup rfl (egs_cons (eg_name 8 sc_law.nd) (egs_cons (eg_name 9 sc_law.nd) egs_nil))) (ess_one (es_if (et_w (ew_or (et_not (et_e (ev_call (ok__law_beside_right Tx) (takes_of rfl rfl rfl rfl) (hr.mono (by decide)) (ea_cons (ev_v 5) (ea_cons (ev_v 6) (ea_cons (ev_v 8) (ea_cons (ev_v 9) ea_nil))))))) (ew_or1 (et_not (et_e (ev_call (ok__law_beside_right Tx) (takes_of rfl rfl rfl rfl) (hr.mono (by decide)) (ea_cons (ev_v 8) (ea_cons (ev_v 9) (ea_cons (ev_v 5) (ea_cons (ev_v 7) ea_nil)))))))))) (ess_one (es_ret ev_bl)) ess_nil)))))))))))
    (ess_one (es_ret ev_bl))))
end
end WkL


set_option Elab.async false
set_option linter.all false
set_option maxRecDepth 100000
set_option autoImplicit false
/-! WkP: plain lemmas over the functional reading: how combinators compute, loops by invariants, what is kept of a store. -/
namespace Wk
open PySem (Str)

/-! ### combinators compute -/
section
variable (s : Env) (S : Store)
@[simp] theorem eV_eq (i : Nat) : eV i s S = match s[i]? with
  | some (some d) => .ok d S
  | _ => .bad := rfl
@[simp] theorem eC_eq (d : D) : eC d s S = .ok d S := rfl
@[simp] theorem eOp_eq (o : Op) (a b : FE) : eOp o a b s S = (a s S).bind fun x S1 => (b s S1).bind fun y S2 => o x y S2 := rfl
@[simp] theorem eUn_eq (o : D → Store → Res D) (a : FE) : eUn o a s S = (a s S).bind o := rfl
@[simp] theorem aNil_eq : aNil s S = .ok [] S := rfl
@[simp] theorem aCons_eq (a : FE) (r : FA) : aCons a r s S = (a s S).bind fun x S1 => (r s S1).bind fun xs S2 => .ok (x :: xs) S2 := rfl
@[simp] theorem eTup_eq (a : FA) : eTup a s S = (a s S).bind fun xs S1 => if xs.length ≤ LIM then .ok (.tup xs) S1 else .bad := rfl
@[simp] theorem eLst_eq (a : FA) : eLst a s S = (a s S).bind fun xs S1 => if xs.length ≤ LIM then .ok (.ref S1.length) (S1 ++ [.lst xs]) else .bad := rfl
@[simp] theorem eDictK_eq : eDictK s S = .ok (.ref S.length) (S ++ [.dk []]) := rfl
@[simp] theorem eCall_eq (F : Fn) (a : FA) : eCall F a s S = (a s S).bind F := rfl
@[simp] theorem tE_eq (a : FE) : tE a s S = (a s S).bind fun x S1 => match x with
  | .bl b => .ok b S1
  | _ => .bad := rfl
@[simp] theorem tAnd_eq (t u : FT) : tAnd t u s S = (t s S).bind fun b S1 => if b = true then u s S1 else .ok false S1 := rfl
@[simp] theorem tOr_eq (t u : FT) : tOr t u s S = (t s S).bind fun b S1 => if b = true then .ok true S1 else u s S1 := rfl
@[simp] theorem tNot_eq (t : FT) : Wk.tNot t s S = (t s S).bind fun b S1 => .ok (!b) S1 := rfl
@[simp] theorem eNot_eq (a : FE) : eNot a s S = (tE a s S).bind fun b S1 => .ok (.bl (!b)) S1 := rfl
@[simp] theorem eAnd_eq (a b : FE) : eAnd a b s S = (tE a s S).bind fun c S1 => if c = true then b s S1 else .ok (.bl false) S1 := rfl
@[simp] theorem eOr_eq (a b : FE) : eOr a b s S = (tE a s S).bind fun c S1 => if c = true then .ok (.bl true) S1 else b s S1 := rfl
@[simp] theorem eIf_eq (t : FT) (a b : FE) : eIf t a b s S = (t s S).bind fun c S1 => if c = true then a s S1 else b s S1 := rfl
@[simp] theorem eChain_eq (o o' : Op) (a b c : FE) : eChain o o' a b c s S = (a s S).bind fun x S1 => (b s S1).bind fun y S2 => (o x y S2).bind fun z S3 => match z with
  | .bl true => (c s S3).bind fun w S4 => o' y w S4
  | .bl false => .ok (.bl false) S3
  | _ => .bad := rfl
@[simp] theorem eBM_eq (o : Op) (a b : FE) : eBM o a b s S = (a s S).bind fun x S1 => if isLst x S1 then (b s S1).bind fun y S2 => o x y S2 else .bad := rfl
@[simp] theorem eHeard_eq (cs : List String) (f : FE) : eHeard cs f s S = heardR cs (f s S) := rfl
@[simp] theorem heardR_ok (cs : List String) (d : D) : heardR cs (.ok d S) = .ok (.tup [.str "told", d]) S := rfl
@[simp] theorem heardR_ex (cs : List String) (c : String) (w : D) : heardR cs (.ex c w S) = if cs.contains c then .ok (.tup [.str (Str.ofString c), w]) S else .bad := rfl
@[simp] theorem tTrue_eq : tTrue s S = .ok true S := rfl
@[simp] theorem gF_nm (i : Nat) (d : D) : gF (.nm i) d s = some (s.set i (some d)) := rfl
@[simp] theorem gF_tp (ts : List Tg) (ds : List D) : gF (.tp ts) (.tup ds) s = gFs ts ds s := rfl
@[simp] theorem gFs_nil : gFs [] [] s = some s := rfl
@[simp] theorem gFs_cons (t : Tg) (ts : List Tg) (d : D) (ds : List D) : gFs (t :: ts) (d :: ds) s = match gF t d s with
  | some s' => gFs ts ds s'
  | none => none := rfl
@[simp] theorem sSkip_eq : sSkip s S = .nx s S := rfl
@[simp] theorem sSeq_eq (f g : FS) : sSeq f g s S = match f s S with
  | .nx s' S' => g s' S'
  | r => r := rfl
@[simp] theorem sSet_eq (i : Nat) (e : FE) : sSet i e s S = ofE (e s S) s fun d S1 => .nx (s.set i (some d)) S1 := rfl
@[simp] theorem sAsg_eq (g : Tg) (e : FE) : sAsg g e s S = ofE (e s S) s fun d S1 => match gF g d s with
  | some s' => .nx s' S1
  | none => .bad := rfl
@[simp] theorem sPar_eq (i j : Nat) (a b : FE) : sPar i j a b s S = ofE (a s S) s fun x S1 => ofE (b s S1) s fun y S2 => .nx ((s.set i (some x)).set j (some y)) S2 := rfl
@[simp] theorem sExpr_eq (e : FE) : sExpr e s S = ofE (e s S) s fun _ S1 => .nx s S1 := rfl
@[simp] theorem sRet_eq (e : FE) : sRet e s S = ofE (e s S) s fun d S1 => .rt d S1 := rfl
@[simp] theorem sRetN_eq : sRetN s S = .rt .non S := rfl
@[simp] theorem sIf_eq (t : FT) (f g : FS) : sIf t f g s S = ofE (t s S) s fun b S1 => if b = true then f s S1 else g s S1 := rfl
@[simp] theorem sBreak_eq : Wk.sBreak s S = .bk s S := rfl
@[simp] theorem sCont_eq : Wk.sCont s S = .ct s S := rfl
@[simp] theorem sRaise_eq (c : String) (e : FE) : sRaise c e s S = ofE (e s S) s fun d S1 => .ex c d s S1 := rfl
@[simp] theorem sSub_eq (u : Up) (o i v : FE) : sSub u o i v s S = ofE (v s S) s fun x S1 => ofE (o s S1) s fun y S2 => ofE (i s S2) s fun z S3 => match u y z x S3 with
  | some S4 => .nx s S4
  | none => .bad := rfl
@[simp] theorem sFor_eq (it : FI) (g : Tg) (b : FS) : sFor it g b s S = ofE (it s S) s fun I S1 => forL I.chk g b I.items s S1 := rfl
@[simp] theorem sWhile_eq (t : FT) (b : FS) : Wk.sWhile t b s S = whileL t b FUEL s S := rfl
@[simp] theorem iSeq_eq (e : FE) : iSeq e s S = (e s S).bind fun x S1 => match x with
  | .tup ds => .ok ⟨ds, []⟩ S1
  | .frz ds => .ok ⟨ds, []⟩ S1
  | .ref l => match S1[l]? with
    | some (.lst ds) => .ok ⟨ds, [(l, .lst ds)]⟩ S1
    | _ => .bad
  | _ => .bad := rfl
@[simp] theorem iRng_eq (e : FE) : iRng e s S = (e s S).bind fun x S1 => match x with
  | .int j => if -(2 ^ 62) ≤ j ∧ j ≤ 16777216 then .ok ⟨rngD 0 j, []⟩ S1 else .bad
  | _ => .bad := rfl
@[simp] theorem iEnum_eq (e : FE) : iEnum e s S = (e s S).bind fun x S1 => match x with
  | .tup ds => .ok ⟨enumD ds, []⟩ S1
  | .ref l => match S1[l]? with
    | some (.lst ds) => .ok ⟨enumD ds, [(l, .lst ds)]⟩ S1
    | _ => .bad
  | _ => .bad := rfl
@[simp] theorem eComp_eq (it : FI) (g : Tg) (t : FT) (e : FE) (vs : List Nat) : eComp it g t e vs s S = (it s S).bind fun I S1 =>
  (noEx (compL I.chk g t e (wipeE s vs) I.items S1)).bind fun ys S2 => .ok (.ref S2.length) (S2 ++ [.lst ys]) := rfl
@[simp] theorem eDComp_eq (it : FI) (g : Tg) (t : FT) (k e : FE) (vs : List Nat) : eDComp it g t k e vs s S = (it s S).bind fun I S1 =>
  (noEx (compD I.chk g t k e (wipeE s vs) I.items S1)).bind fun ys S2 => .ok (.ref S2.length) (S2 ++ [.dk (mergeD [] ys)]) := rfl
@[simp] theorem wipeE_nil : wipeE s [] = s := rfl
@[simp] theorem wipeE_cons (v : Nat) (vs : List Nat) : wipeE s (v :: vs) = (wipeE s vs).set v none := rfl
end
theorem mkF_eq (k n : Nat) (b : FS) (ds : List D) (S : Store) (h : ds.length = k) : mkF k n b ds S = match b (startE n ds) S with
  | .nx _ S' => .ok .non S'
  | .rt d S' => .ok d S'
  | .ex c w _ S' => .ex c w S'
  | _ => .bad := if_pos h
/-! ### operations compute -/
section
variable (S : Store)
@[simp] theorem oAdd_int (i j : Int) : oAdd (.int i) (.int j) S = .ok (.int (i + j)) S := rfl
@[simp] theorem oSub_int (i j : Int) : oSub (.int i) (.int j) S = .ok (.int (i - j)) S := rfl
@[simp] theorem oMul_int (i j : Int) : oMul (.int i) (.int j) S = if bigOk i && bigOk j then .ok (.int (i * j)) S else .bad := rfl
@[simp] theorem oMod_int (i j : Int) : oMod (.int i) (.int j) S = if 0 < j then .ok (.int (i % j)) S else .bad := rfl
@[simp] theorem oFdiv_int (i j : Int) : oFdiv (.int i) (.int j) S = if 0 < j ∧ j.natAbs.log2 < 9000 then .ok (.int (i / j)) S else .bad := rfl
@[simp] theorem oPow_int (i j : Int) : oPow (.int i) (.int j) S = if 0 ≤ j ∧ j ≤ 1000000 ∧ i.natAbs < 2 ^ 64 then .ok (.int (i ^ j.toNat)) S else .bad := rfl
@[simp] theorem oLt_int (i j : Int) : oLt (.int i) (.int j) S = .ok (.bl (decide (i < j))) S := rfl
@[simp] theorem oLe_int (i j : Int) : oLe (.int i) (.int j) S = .ok (.bl (decide (i ≤ j))) S := rfl
@[simp] theorem oGt_int (i j : Int) : oGt (.int i) (.int j) S = .ok (.bl (decide (j < i))) S := rfl
@[simp] theorem oGe_int (i j : Int) : oGe (.int i) (.int j) S = .ok (.bl (decide (j ≤ i))) S := rfl
@[simp] theorem oMax_int (i j : Int) : oMax (.int i) (.int j) S = .ok (.int (if j > i then j else i)) S := rfl
@[simp] theorem uNeg_int (i : Int) : uNeg (.int i) S = .ok (.int (-i)) S := rfl
@[simp] theorem oEq_int (i j : Int) : oEq (.int i) (.int j) S = .ok (.bl (i == j)) S := rfl
@[simp] theorem notR_ok (b : Bool) : notR (.ok (.bl b) S) = .ok (.bl (!b)) S := rfl
@[simp] theorem oNe_eq (x y : D) : oNe x y S = notR (oEq x y S) := rfl
@[simp] theorem oNinS_eq (x y : D) : oNinS x y S = notR (oInS x y S) := rfl
@[simp] theorem oNinD_eq (x y : D) : oNinD x y S = notR (oInD x y S) := rfl
@[simp] theorem oIsN_eq (x : D) : oIsN x .non S = .ok (.bl (isNon x)) S := rfl
@[simp] theorem oNotN_eq (x : D) : oNotN x .non S = .ok (.bl (!isNon x)) S := rfl
@[simp] theorem isNon_non : isNon .non = true := rfl
@[simp] theorem isNon_int (i : Int) : isNon (.int i) = false := rfl
@[simp] theorem isNon_bl (i : Bool) : isNon (.bl i) = false := rfl
@[simp] theorem isNon_str (i : Str) : isNon (.str i) = false := rfl
@[simp] theorem isNon_tup (i : List D) : isNon (.tup i) = false := rfl
@[simp] theorem isNon_ref (i : Nat) : isNon (.ref i) = false := rfl
@[simp] theorem oIx_tup (ds : List D) (i : Int) : oIx (.tup ds) (.int i) S = match atI ds i with
  | some d => .ok d S
  | none => .bad := rfl
@[simp] theorem oIx_frz (ds : List D) (i : Int) : oIx (.frz ds) (.int i) S = match atI ds i with
  | some d => .ok d S
  | none => .bad := rfl
@[simp] theorem oIx_ref (l : Nat) (i : Int) : oIx (.ref l) (.int i) S = match S[l]? with
  | some (.lst ds) => match atI ds i with
    | some d => .ok d S
    | none => .bad
  | _ => .bad := rfl
@[simp] theorem fLen_tup (ds : List D) : fLen (.tup ds) S = .ok (.int ds.length) S := rfl
@[simp] theorem fLen_frz (ds : List D) : fLen (.frz ds) S = .ok (.int ds.length) S := rfl
theorem fLen_lst {S : Store} {l : Nat} {ds : List D} (h : S[l]? = some (.lst ds)) : fLen (.ref l) S = .ok (.int ds.length) S := by
  unfold fLen seqD; dsimp only; rw [h]
theorem fLen_dk {S : Store} {l : Nat} {ds : List (Kk × D)} (h : S[l]? = some (.dk ds)) : fLen (.ref l) S = .ok (.int ds.length) S := by
  unfold fLen; dsimp only; rw [h]
@[simp] theorem fTuple_tup (ds : List D) : fTuple (.tup ds) S = .ok (.tup ds) S := rfl
theorem fTuple_lst {S : Store} {l : Nat} {ds : List D} (h : S[l]? = some (.lst ds)) : fTuple (.ref l) S = .ok (.tup ds) S := by
  unfold fTuple seqD; dsimp only; rw [h]
@[simp] theorem fList_tup (ds : List D) : fList (.tup ds) S = .ok (.ref S.length) (S ++ [.lst ds]) := rfl
theorem fList_lst {S : Store} {l : Nat} {ds : List D} (h : S[l]? = some (.lst ds)) : fList (.ref l) S = .ok (.ref S.length) (S ++ [.lst ds]) := by
  unfold fList seqD; dsimp only; rw [h]
theorem isLst_lst {S : Store} {l : Nat} {ds : List D} (h : S[l]? = some (.lst ds)) : isLst (.ref l) S = true := by
  unfold isLst; dsimp only; rw [h]
theorem isDk_dk {S : Store} {l : Nat} {ds : List (Kk × D)} (h : S[l]? = some (.dk ds)) : isDk (.ref l) S = true := by
  unfold isDk; dsimp only; rw [h]
theorem oAppend_lst {S : Store} {l : Nat} {ds : List D} {y : D} (h : S[l]? = some (.lst ds)) (hz : ds.length < LIM) : oAppend (.ref l) y S = .ok .non (S.set l (.lst (ds ++ [y]))) := by
  unfold oAppend; dsimp only; rw [h]; dsimp only; rw [if_pos hz]
theorem oExtend_lst {S : Store} {l m : Nat} {ds es : List D} (h : S[l]? = some (.lst ds)) (h2 : S[m]? = some (.lst es)) (hz : ds.length + es.length ≤ LIM) : oExtend (.ref l) (.ref m) S = .ok .non (S.set l (.lst (ds ++ es))) := by
  unfold oExtend; dsimp only; rw [h, h2]; dsimp only; rw [if_pos hz]
@[simp] theorem fListRg_int (b : Int) : fListRg (.int b) S = if -(2 ^ 62) ≤ b ∧ b ≤ 16777216 then .ok (.ref S.length) (S ++ [.lst (rngD 0 b)]) else .bad := rfl
@[simp] theorem tyD_non : tyD S .non = some "NoneType" := rfl
@[simp] theorem tyD_bl (b : Bool) : tyD S (.bl b) = some "bool" := rfl
@[simp] theorem tyD_int (b : Int) : tyD S (.int b) = some "int" := rfl
@[simp] theorem tyD_str (b : Str) : tyD S (.str b) = some "str" := rfl
@[simp] theorem tyD_tup (b : List D) : tyD S (.tup b) = some "tuple" := rfl
theorem tyD_lst {S : Store} {l : Nat} {ds : List D} (h : S[l]? = some (.lst ds)) : tyD S (.ref l) = some "list" := by
  unfold tyD; dsimp only; rw [h]
theorem tyD_dk {S : Store} {l : Nat} {ds : List (Kk × D)} (h : S[l]? = some (.dk ds)) : tyD S (.ref l) = some "dict" := by
  unfold tyD; dsimp only; rw [h]
@[simp] theorem fIsInst_eq (n : String) (x : D) : fIsInst n x S = match tyD S x with
  | some t => .ok (.bl (isTy t n)) S
  | none => .bad := rfl
end
theorem LIM_val : LIM = 16777216 := rfl
/-! ### places -/
@[simp] theorem atI_nat {α : Type} (xs : List α) (i : Nat) : atI xs (i : Int) = xs[i]? := by
  unfold atI ixN
  rw [if_pos (Int.natCast_nonneg i)]
  by_cases h : i < xs.length
  · rw [if_pos (by omega)]; simp
  · rw [if_neg (by omega)]; simp [List.getElem?_eq_none (Nat.le_of_not_lt h)]
@[simp] theorem atI_zero {α : Type} (xs : List α) : atI xs 0 = xs[0]? := atI_nat xs 0
@[simp] theorem atI_one {α : Type} (xs : List α) : atI xs 1 = xs[1]? := atI_nat xs 1
@[simp] theorem atI_two {α : Type} (xs : List α) : atI xs 2 = xs[2]? := atI_nat xs 2
theorem ixN_nat (n i : Nat) (h : i < n) : ixN n (i : Int) = some i := by
  unfold ixN
  rw [if_pos (Int.natCast_nonneg i), if_pos (by omega)]
  simp
/-- ints from 0 -/
theorem rngD_nat (n : Nat) : rngD 0 (n : Int) = (List.range n).map fun (i : Nat) => D.int (i : Int) := by
  unfold rngD
  simp

/-! ### what is kept of a store -/
/-- all but the things numbered in X is as it was -/
def Keep (X : List Nat) (S S' : Store) : Prop := S.length ≤ S'.length ∧ ∀ i, i < S.length → i ∉ X → S'[i]? = S[i]?
theorem Keep.refl (X : List Nat) (S : Store) : Keep X S S := ⟨Nat.le_refl _, fun _ _ _ => rfl⟩
theorem Keep.trans {X : List Nat} {S S' S'' : Store} (h : Keep X S S') (k : Keep X S' S'') : Keep X S S'' := ⟨Nat.le_trans h.1 k.1, fun i hi hx => (k.2 i (Nat.lt_of_lt_of_le hi h.1) hx).trans (h.2 i hi hx)⟩
theorem Keep.mono {X Y : List Nat} {S S' : Store} (h : Keep X S S') (xy : ∀ i ∈ X, i ∈ Y) : Keep Y S S' := ⟨h.1, fun i hi hy => h.2 i hi fun z => hy (xy i z)⟩
theorem Keep.get {X : List Nat} {S S' : Store} (h : Keep X S S') {i : Nat} {o : Ob} (e : S[i]? = some o) (hx : i ∉ X) : S'[i]? = some o := by
  rw [h.2 i (List.getElem?_eq_some_iff.mp e).1 hx]; exact e
theorem Keep.push (S T : Store) (X : List Nat) : Keep X S (S ++ T) := ⟨by simp, fun i hi _ => List.getElem?_append_left hi⟩
theorem Keep.set {X : List Nat} (S : Store) {p : Nat} {o : Ob} (hp : p ∈ X ∨ S.length ≤ p) : Keep X S (S.set p o) := ⟨by simp, fun i hi hx => by
  rw [List.getElem?_set_ne]
  rintro rfl
  rcases hp with h | h
  · exact hx h
  · omega⟩
/-- things that are new may change -/
theorem Keep.new {X Y : List Nat} {S S' S'' : Store} (h : Keep X S S') (k : Keep Y S' S'') (hy : ∀ i ∈ Y, i ∈ X ∨ S.length ≤ i) : Keep X S S'' := ⟨Nat.le_trans h.1 k.1, fun i hi hx => (k.2 i (Nat.lt_of_lt_of_le hi h.1) fun z => (hy i z).elim hx fun q => by omega).trans (h.2 i hi hx)⟩
theorem lt_of_get {S : Store} {i : Nat} {o : Ob} (e : S[i]? = some o) : i < S.length := (List.getElem?_eq_some_iff.mp e).1
theorem get_last (S : Store) (o : Ob) : (S ++ [o])[S.length]? = some o := by simp
theorem get_set_self {S : Store} {i : Nat} {o u : Ob} (e : S[i]? = some o) : (S.set i u)[i]? = some u := List.getElem?_set_self (lt_of_get e)

/-! ### loops -/
section
variable {c : Chk} {g : Tg} {b : FS}
/-- a for that goes through: I, of what is left -/
theorem forL_run (I : List D → Env → Store → Prop) (hc : ∀ ds s S, I ds s S → okC c S = true)
    (hs : ∀ d ds s S, I (d :: ds) s S → ∃ s1 s2 S2, gF g d s = some s1 ∧ (b s1 S = .nx s2 S2 ∨ b s1 S = .ct s2 S2) ∧ I ds s2 S2) :
    ∀ ds s S, I ds s S → ∃ s' S', forL c g b ds s S = .nx s' S' ∧ I [] s' S'
  | [], s, S, h => ⟨s, S, by unfold forL; rw [if_pos (hc _ _ _ h)], h⟩
  | d :: ds, s, S, h => by
    obtain ⟨s1, s2, S2, e1, e2, h2⟩ := hs d ds s S h
    obtain ⟨s', S', e3, h3⟩ := forL_run I hc hs ds s2 S2 h2
    refine ⟨s', S', ?_, h3⟩
    unfold forL
    rw [if_pos (hc _ _ _ h), e1]
    dsimp only
    rcases e2 with e2 | e2 <;> rw [e2] <;> exact e3
/-- a while that goes through -/
theorem whileL_run {t : FT} (I : Env → Store → Prop) (Q : Env → Store → Prop) (μ : Env → Store → Nat)
    (hs : ∀ s S, I s S → (∃ S1, t s S = .ok false S1 ∧ Q s S1) ∨ ∃ S1 s2 S2, t s S = .ok true S1 ∧ (b s S1 = .nx s2 S2 ∨ b s S1 = .ct s2 S2) ∧ I s2 S2 ∧ μ s2 S2 < μ s S) :
    ∀ n s S, I s S → μ s S < n → ∃ s' S', whileL t b n s S = .nx s' S' ∧ Q s' S'
  | 0, _, _, _, h => absurd h (Nat.not_lt_zero _)
  | n + 1, s, S, h, hm => by
    unfold whileL
    rcases hs s S h with ⟨S1, e, q⟩ | ⟨S1, s2, S2, e, e2, h2, h3⟩
    · exact ⟨s, S1, by rw [e]; rfl, q⟩
    · obtain ⟨s', S', e3, q⟩ := whileL_run I Q μ hs n s2 S2 h2 (by omega)
      refine ⟨s', S', ?_, q⟩
      rw [e, ofE_ok, if_pos rfl]
      rcases e2 with e2 | e2 <;> rw [e2] <;> exact e3
end
section
variable {c : Chk} {g : Tg} {t : FT} {e : FE} {sw : Env}
/-- a comprehension whose test and element keep the store -/
theorem compL_pure {S : Store} {p : D → Bool} {f : D → D} (hc : okC c S = true) : ∀ ds : List D, (∀ d ∈ ds, ∃ s1, gF g d sw = some s1 ∧ t s1 S = .ok (p d) S ∧ (p d = true → e s1 S = .ok (f d) S)) →
    compL c g t e sw ds S = .ok ((ds.filter p).map f) S
  | [], _ => by unfold compL; rw [if_pos hc]; rfl
  | d :: ds, h => by
    obtain ⟨s1, e1, e2, e3⟩ := h d List.mem_cons_self
    have ih := compL_pure hc ds fun x hx => h x (List.mem_cons_of_mem _ hx)
    unfold compL
    rw [if_pos hc, e1]
    dsimp only
    rw [e2, Res.bind_ok]
    cases hp : p d with
    | true => rw [if_pos rfl, e3 hp, Res.bind_ok, ih, Res.bind_ok, List.filter_cons, hp]; rfl
    | false => rw [if_neg (by decide), ih, List.filter_cons, hp]; rfl
/-- a comprehension by an invariant: of what is left, what has been told, the store -/
theorem compL_run (I : List D → List D → Store → Prop) (hc : ∀ ds acc S, I ds acc S → okC c S = true)
    (hs : ∀ d ds acc S, I (d :: ds) acc S → ∃ s1 S1, gF g d sw = some s1 ∧ ((t s1 S = .ok false S1 ∧ I ds acc S1) ∨ ∃ y S2, t s1 S = .ok true S1 ∧ e s1 S1 = .ok y S2 ∧ I ds (acc ++ [y]) S2)) :
    ∀ ds acc S, I ds acc S → ∃ ys S', compL c g t e sw ds S = .ok ys S' ∧ I [] (acc ++ ys) S'
  | [], acc, S, h => ⟨[], S, by unfold compL; rw [if_pos (hc _ _ _ h)], by simpa using h⟩
  | d :: ds, acc, S, h => by
    obtain ⟨s1, S1, e1, h1⟩ := hs d ds acc S h
    unfold compL
    rw [if_pos (hc _ _ _ h), e1]
    dsimp only
    rcases h1 with ⟨e2, h2⟩ | ⟨y, S2, e2, e3, h2⟩
    · obtain ⟨ys, S', e4, h4⟩ := compL_run I hc hs ds acc S1 h2
      exact ⟨ys, S', by rw [e2, Res.bind_ok, if_neg (by decide)]; exact e4, h4⟩
    · obtain ⟨ys, S', e4, h4⟩ := compL_run I hc hs ds (acc ++ [y]) S2 h2
      exact ⟨y :: ys, S', by rw [e2, Res.bind_ok, if_pos rfl, e3, Res.bind_ok, e4]; rfl, by simpa using h4⟩
theorem compL_map {S : Store} {f : D → D} (hc : okC c S = true) (ds : List D) (h : ∀ d ∈ ds, ∃ s1, gF g d sw = some s1 ∧ e s1 S = .ok (f d) S) : compL c g tTrue e sw ds S = .ok (ds.map f) S := by
  rw [compL_pure (t := tTrue) (p := fun _ => true) (f := f) hc ds fun d hd => let ⟨s1, a, b⟩ := h d hd; ⟨s1, a, rfl, fun _ => b⟩]
  rw [List.filter_eq_self.mpr (fun _ _ => rfl)]
end
theorem forL_nil {c : Chk} {g : Tg} {b : FS} {s : Env} {S : Store} (h : okC c S = true) : forL c g b [] s S = .nx s S := by
  unfold forL; rw [if_pos h]
theorem forL_cons {c : Chk} {g : Tg} {b : FS} {s s1 s2 : Env} {S S2 : Store} {d : D} {ds : List D} (h : okC c S = true) (hg : gF g d s = some s1) (hb : b s1 S = .nx s2 S2) : forL c g b (d :: ds) s S = forL c g b ds s2 S2 := by
  rw [show forL c g b (d :: ds) s S = if okC c S then (match gF g d s with
    | none => .bad
    | some s1 => match b s1 S with
      | .nx s2 S2 => forL c g b ds s2 S2
      | .ct s2 S2 => forL c g b ds s2 S2
      | .bk s2 S2 => .nx s2 S2
      | r => r) else .bad from rfl, if_pos h, hg]
  dsimp only
  rw [hb]
/-- a while that goes through, its measure in the invariant -/
theorem whileL_runN {t : FT} {b : FS} (I : Nat → Env → Store → Prop) (Q : Env → Store → Prop)
    (hs : ∀ m s S, I m s S → (∃ S1, t s S = .ok false S1 ∧ Q s S1) ∨ ∃ S1 s2 S2 m2, t s S = .ok true S1 ∧ (b s S1 = .nx s2 S2 ∨ b s S1 = .ct s2 S2) ∧ I m2 s2 S2 ∧ m2 < m) :
    ∀ n m s S, I m s S → m < n → ∃ s' S', whileL t b n s S = .nx s' S' ∧ Q s' S'
  | 0, _, _, _, _, h => absurd h (Nat.not_lt_zero _)
  | n + 1, m, s, S, h, hm => by
    unfold whileL
    rcases hs m s S h with ⟨S1, e, q⟩ | ⟨S1, s2, S2, m2, e, e2, h2, h3⟩
    · exact ⟨s, S1, by rw [e]; rfl, q⟩
    · obtain ⟨s', S', e3, q⟩ := whileL_runN I Q hs n m2 s2 S2 h2 (by omega)
      refine ⟨s', S', ?_, q⟩
      rw [e, ofE_ok, if_pos rfl]
      rcases e2 with e2 | e2 <;> rw [e2] <;> exact e3
theorem compD_map {c : Chk} {g : Tg} {fk fe : FE} {sw : Env} {S : Store} {kf : D → Kk} {vf : D → D} (hc : okC c S = true) : ∀ ds : List D, (∀ d ∈ ds, ∃ s1 x, gF g d sw = some s1 ∧ fk s1 S = .ok x S ∧ fe s1 S = .ok (vf d) S ∧ keyD x = some (kf d)) →
    compD c g tTrue fk fe sw ds S = .ok (ds.map fun d => (kf d, vf d)) S
  | [], _ => by unfold compD; rw [if_pos hc]; rfl
  | d :: ds, h => by
    obtain ⟨s1, x, e1, e2, e3, e4⟩ := h d List.mem_cons_self
    have ih := compD_map hc ds fun y hy => h y (List.mem_cons_of_mem _ hy)
    unfold compD
    rw [if_pos hc, e1]
    dsimp only
    rw [tTrue_eq, Res.bind_ok, if_pos rfl, e2, Res.bind_ok, e3, Res.bind_ok, e4]
    dsimp only
    rw [ih]; rfl
theorem nx_seq {f g : FS} {s s1 : Env} {S S1 : Store} {r : Rs} (h : f s S = .nx s1 S1) (k : g s1 S1 = r) : sSeq f g s S = r := by rw [sSeq_eq, h]; exact k
end Wk


set_option Elab.async false
set_option linter.all false
set_option maxRecDepth 100000
set_option autoImplicit false
/-! PvPool: what pool, take, one, mixed of the law's drawing do. -/
namespace WkL
open PySem (Str)
open Wk
/-- a pool of numbers -/
structure PoolI (dg st : Int) : Prop where
  d0 : 0 ≤ dg
  s0 : 0 ≤ st
  s1 : st < 2147483647
/-- the pool stands at p -/
def Pool (p : Nat) (S : Store) : Prop := ∃ dg st, S[p]? = some (.lst [.int dg, .int st]) ∧ PoolI dg st
theorem Pool.keep {p : Nat} {X : List Nat} {S S' : Store} (h : Pool p S) (k : Keep X S S') (hp : p ∉ X) : Pool p S' := by
  obtain ⟨dg, st, e, i⟩ := h
  exact ⟨dg, st, k.get e hp, i⟩
theorem log2_lt {n k : Nat} (hk : 0 < k) (h : n < 2 ^ k) : n.log2 < k := by
  by_cases h0 : n = 0
  · rw [h0]; simpa using hk
  · exact (Nat.log2_lt h0).mpr h
theorem bigOk_small {i : Int} (k : Nat) (hk : 0 < k) (hk2 : k ≤ 400000) (h : i.natAbs < 2 ^ k) : bigOk i = true := decide_eq_true (Nat.lt_of_lt_of_le (log2_lt hk h) hk2)
theorem log_ok {i : Int} (h0 : 0 < i) (h : i ≤ 1000000) : i.natAbs.log2 < 9000 := Nat.lt_trans (log2_lt (k := 64) (by decide) (by show i.natAbs < 18446744073709551616; omega)) (by decide)
@[simp] theorem big_48271 : bigOk 48271 = true := bigOk_small 64 (by decide) (by decide) (by decide)
@[simp] theorem big_39373 : bigOk 39373 = true := bigOk_small 64 (by decide) (by decide) (by decide)
@[simp] theorem log2_32 : Nat.log2 32 = 5 := by decide
theorem big31 {i : Int} (h0 : 0 ≤ i) (h1 : i < 2147483647) : bigOk i = true := bigOk_small 64 (by decide) (by decide) (by show i.natAbs < 18446744073709551616; omega)
theorem set_two {S : Store} {p : Nat} {x y : D} (h : S[p]? = some (.lst [x, y])) (i : Nat) (z : D) (hi : i < 2) : uSetL (.ref p) (.int (i : Int)) z S = some (S.set p (.lst ([x, y].set i z))) := by
  unfold uSetL; dsimp only; rw [h]; dsimp only; rw [ixN_nat _ _ (by exact hi)]
theorem take_ok {p : Nat} {S : Store} {many : Int} (h : Pool p S) (hm : 0 < many) (hm2 : many ≤ 1000000) :
    ∃ (k : Int) (S' : Store), F__law_wv_take [.ref p, .int many] S = .ok (.int k) S' ∧ 0 ≤ k ∧ k < many ∧ Keep [p] S S' ∧ Pool p S' ∧ S'.length = S.length := by
  obtain ⟨dg, st, e, i⟩ := h
  have hl := lt_of_get e
  have i0 := i.d0; have i1 := i.s0; have i2 := i.s1
  have u0 : ∀ z, uSetL (.ref p) (.int 0) z S = _ := fun z => set_two e 0 z (by decide)
  have u1 : ∀ z, uSetL (.ref p) (.int 1) z S = _ := fun z => set_two e 1 z (by decide)
  have lg := log_ok hm hm2
  by_cases hd : 0 < dg
  · refine ⟨dg % many, S.set p (.lst [.int (dg / many), .int st]), ?_, Int.emod_nonneg _ (by omega), Int.emod_lt_of_pos _ hm, Keep.set _ (.inl (by simp)), ⟨dg / many, st, get_set_self e, ⟨Int.ediv_nonneg i0 (by omega), i1, i2⟩⟩, by simp⟩
    simp [F__law_wv_take, mkF, startE, e, hd, hm, lg, u0]
  · have b1 := big31 i1 i2
    have m1 : 0 ≤ (st * 39373 + 7) % 2147483647 := Int.emod_nonneg _ (by decide)
    have m2 : (st * 39373 + 7) % 2147483647 < 2147483647 := Int.emod_lt_of_pos _ (by decide)
    have b2 := big31 m1 m2
    refine ⟨((st * 39373 + 7) % 2147483647) * ((st * 39373 + 7) % 2147483647) % 2147483629 / 32 % many, S.set p (.lst [.int dg, .int ((st * 39373 + 7) % 2147483647)]), ?_, Int.emod_nonneg _ (by omega), Int.emod_lt_of_pos _ hm, Keep.set _ (.inl (by simp)), ⟨dg, _, get_set_self e, ⟨i0, m1, m2⟩⟩, by simp⟩
    have g1 : (S.set p (.lst [.int dg, .int ((st * 39373 + 7) % 2147483647)]))[p]? = _ := get_set_self e
    simp [F__law_wv_take, mkF, startE, e, hd, hm, u1, b1, b2, g1]
theorem one_ok {p l : Nat} {S : Store} {ds : List D} (h : Pool p S) (hl : S[l]? = some (.lst ds)) (hlp : l ≠ p) (hne : 0 < ds.length) (hz : ds.length ≤ 1000000) :
    ∃ (d : D) (S' : Store), F__law_wv_one [.ref p, .ref l] S = .ok d S' ∧ d ∈ ds ∧ Keep [p] S S' ∧ Pool p S' ∧ S'.length = S.length := by
  obtain ⟨k, S', e, k0, k1, hk, hp, hL⟩ := take_ok (many := (ds.length : Int)) h (by omega) (by omega)
  obtain ⟨j, rfl⟩ := Int.eq_ofNat_of_zero_le k0
  have hj : j < ds.length := by omega
  have g := hk.get hl (by simpa using hlp)
  refine ⟨ds[j], S', ?_, List.getElem_mem hj, hk, hp, hL⟩
  simp [F__law_wv_one, mkF, startE, fLen_lst hl, e, g, hj]
theorem eraseIdx_perm {α : Type} : ∀ {xs : List α} {j : Nat} {x : α}, xs[j]? = some x → (x :: xs.eraseIdx j).Perm xs
  | [], j, x, h => by simp at h
  | a :: xs, 0, x, h => by simp at h; subst h; exact List.Perm.refl _
  | a :: xs, j + 1, x, h => by
    have ih := eraseIdx_perm (xs := xs) (j := j) (x := x) (by simpa using h)
    exact (List.Perm.swap a x _).trans (ih.cons a)
theorem mixed_ok {p l : Nat} {S : Store} {ds : List D} (h : Pool p S) (hl : S[l]? = some (.lst ds)) (hlp : l ≠ p) (hz : ds.length ≤ 1000000) :
    ∃ (n : Nat) (es : List D) (S' : Store), F__law_wv_mixed [.ref p, .ref l] S = .ok (.ref n) S' ∧ S'[n]? = some (.lst es) ∧ es.Perm ds ∧ Keep [p] S S' ∧ Pool p S' ∧ S.length ≤ n := by
  have hl' := lt_of_get hl
  have hp' : p < S.length := by obtain ⟨_, _, e, _⟩ := h; exact lt_of_get e
  -- the store with spare, found
  have e1 : (S ++ [Ob.lst ds] ++ [Ob.lst []])[S.length]? = some (.lst ds) := by simp
  have e2 : (S ++ [Ob.lst ds] ++ [Ob.lst []])[S.length + 1]? = some (.lst []) := by simp
  have k0 : Keep [p] S (S ++ [Ob.lst ds] ++ [Ob.lst []]) := by rw [List.append_assoc]; exact Keep.push S _ _
  obtain ⟨s', S', hr, h'⟩ := forL_run (c := []) (g := .nm 4) (b := sExpr (eBM oAppend (eV 3) (eBM oPopAt (eV 2) (eCall F__law_wv_take (aCons (eV 0) (aCons (eUn fLen (eV 2)) aNil))))))
    (fun rest s T => ∃ (sp fd : List D) (x : Option D), s = [some (.ref p), some (.ref l), some (.ref S.length), some (.ref (S.length + 1)), x] ∧ T[S.length]? = some (.lst sp) ∧ T[S.length + 1]? = some (.lst fd) ∧ sp.length = rest.length ∧ (fd ++ sp).Perm ds ∧ Keep [p] S T ∧ Pool p T)
    (fun _ _ _ _ => rfl) (by
    rintro d rest s T ⟨sp, fd, x, rfl, h1, h2, h3, h4, h5, h6⟩
    have hn : 0 < sp.length := by rw [h3]; simp
    have hle : (fd ++ sp).length = ds.length := h4.length_eq
    rw [List.length_append] at hle
    obtain ⟨k, T1, e, k0', k1, hk, hp, hL⟩ := take_ok (many := (sp.length : Int)) h6 (by omega) (by omega)
    obtain ⟨j, rfl⟩ := Int.eq_ofNat_of_zero_le k0'
    have hj : j < sp.length := by omega
    have n1 : S.length ≠ p := by omega
    have n2 : S.length + 1 ≠ p := by omega
    have g1 := hk.get h1 (by simpa using n1)
    have g2 := hk.get h2 (by simpa using n2)
    have il := isLst_lst h1
    have il2 := isLst_lst h2
    have hjj : sp[j]? = some sp[j] := List.getElem?_eq_getElem hj
    have p1 : oPopAt (.ref S.length) (.int (j : Int)) T1 = .ok sp[j] (T1.set S.length (.lst (sp.eraseIdx j))) := by
      unfold oPopAt; dsimp only; rw [g1]; dsimp only; rw [ixN_nat _ _ hj]; dsimp only; rw [hjj]
    have g3 : (T1.set S.length (.lst (sp.eraseIdx j)))[S.length + 1]? = some (.lst fd) := by rw [List.getElem?_set_ne (by omega)]; exact g2
    have p2 := oAppend_lst (y := sp[j]) g3 (by rw [LIM_val]; omega)
    have kk : Keep [p] S ((T1.set S.length (.lst (sp.eraseIdx j))).set (S.length + 1) (.lst (fd ++ [sp[j]]))) := ((h5.trans hk).new (Y := [S.length, S.length + 1]) ((Keep.set _ (.inl (by simp))).trans (Keep.set _ (.inl (by simp)))) (by intro i hi; simp at hi; omega))
    refine ⟨_, _, _, rfl, .inl (by simp [il, il2, fLen_lst h1, e, p1, p2]; rfl), sp.eraseIdx j, fd ++ [sp[j]], some d, by simp, ?_, ?_, ?_, ?_, kk, ?_⟩
    · rw [List.getElem?_set_ne (by omega)]; exact get_set_self g1
    · exact get_set_self g3
    · rw [List.length_eraseIdx_of_lt hj]; simp at h3; omega
    · rw [List.append_assoc]
      exact ((eraseIdx_perm hjj).append_left fd).trans h4
    · exact hp.keep (X := [S.length, S.length + 1]) ((Keep.set _ (.inl (by simp))).trans (Keep.set _ (.inl (by simp)))) (by simp; omega)) ((List.range ds.length).map fun (i : Nat) => D.int (i : Int)) [some (.ref p), some (.ref l), some (.ref S.length), some (.ref (S.length + 1)), none] (S ++ [Ob.lst ds] ++ [Ob.lst []])
    ⟨ds, [], none, rfl, e1, e2, by simp, by simp, k0, h.keep (Keep.push S _ []) (by simp) |> fun z => by rw [List.append_assoc]; exact z⟩
  · obtain ⟨sp, fd, x, rfl, h1, h2, h3, h4, h5, h6⟩ := h'
    have sp0 : sp = [] := List.eq_nil_of_length_eq_zero (by simpa using h3)
    subst sp0
    refine ⟨S.length + 1, fd, S', ?_, h2, by simpa using h4, h5, h6, by omega⟩
    have r1 : -(4611686018427387904 : Int) ≤ (ds.length : Int) := by omega
    have r2 : (ds.length : Int) ≤ 16777216 := by omega
    have g1 : (S ++ [Ob.lst ds] ++ [Ob.lst []])[l]? = some (.lst ds) := k0.get hl (by simpa using hlp)
    have g2 : (S ++ [Ob.lst ds, Ob.lst []])[l]? = some (.lst ds) := by simpa using g1
    have hr' := hr
    simp only [List.append_assoc, List.cons_append, List.nil_append] at hr'
    simp [F__law_wv_mixed, mkF, startE, fList_lst hl, fLen_lst g2, LIM_val, rngD_nat, r1, r2, hr']
@[simp] theorem big_e60 : bigOk 1000000000000000000000000000000000000000000000000000000000000 = true := bigOk_small 256 (by decide) (by decide) (by decide)
@[simp] theorem pow60 : (10 : Int) ^ 60 = 1000000000000000000000000000000000000000000000000000000000000 := by decide
@[simp] theorem pow12 : (10 : Int) ^ 12 = 1000000000000 := by decide
theorem pool_ok {x : D} {S : Store} {ns : List Int} (hz : ns.length ≤ 1000000) (hl : fLen x S = .ok (.int ns.length) S) (hx : ∀ (i : Nat) (z : Int), ns[i]? = some z → oIx x (.int (i : Int)) S = .ok (.int z) S) :
    ∃ (p : Nat) (S' : Store), F__law_wv_pool [x] S = .ok (.ref p) S' ∧ Pool p S' ∧ Keep [] S S' ∧ S.length ≤ p := by
  obtain ⟨s', S', hr, h'⟩ := forL_run (c := []) (g := .nm 3) (b := (sSeq (sSet 4 (eOp oMax (eOp oIx (eV 0) (eV 3)) (eOp oSub (eUn uNeg (eC (.int 1))) (eOp oIx (eV 0) (eV 3)))))
    (sSeq (sSet 2 (eOp oMod (eOp oAdd (eOp oAdd (eOp oMul (eV 2) (eC (.int 48271))) (eOp oMod (eV 4) (eC (.int 2147483629)))) (eC (.int 11))) (eC (.int 2147483647))))
    (sSet 1 (eIf (tAnd (tE (eOp oGe (eV 4) (eOp oPow (eC (.int 10)) (eC (.int 12))))) (tE (eOp oLt (eV 1) (eOp oPow (eC (.int 10)) (eC (.int 60)))))) (eOp oAdd (eOp oMul (eV 1) (eOp oPow (eC (.int 10)) (eC (.int 60)))) (eOp oMod (eV 4) (eOp oPow (eC (.int 10)) (eC (.int 60))))) (eV 1))))))
    (fun rest s T => ∃ (i : Nat) (dg st : Int) (y z : Option D), rest = ((List.range ns.length).drop i).map (fun (j : Nat) => D.int (j : Int)) ∧ s = [some x, some (.int dg), some (.int st), y, z] ∧ T = S ∧ PoolI dg st)
    (fun _ _ _ _ => rfl) (by
      rintro d rest s T ⟨i, dg, st, y, z, hd, rfl, rfl, I⟩
      have hi : i < ns.length := by
        refine Decidable.byContradiction fun q => ?_
        rw [List.drop_of_length_le (by simp; omega)] at hd
        simp at hd
      have hdr : (List.range ns.length).drop i = i :: (List.range ns.length).drop (i + 1) := by
        rw [List.drop_eq_getElem_cons (by simpa using hi)]; simp
      rw [hdr, List.map_cons, List.cons.injEq] at hd
      obtain ⟨rfl, rfl⟩ := hd
      have hxi := hx i ns[i] (List.getElem?_eq_getElem hi)
      have i0 := I.d0; have i1 := I.s0; have i2 := I.s1
      have b1 := big31 i1 i2
      have m1 : ∀ a : Int, 0 ≤ a % 2147483647 := fun a => Int.emod_nonneg _ (by decide)
      have m2 : ∀ a : Int, a % 2147483647 < 2147483647 := fun a => Int.emod_lt_of_pos _ (by decide)
      generalize hc : (if -1 - ns[i] > ns[i] then -1 - ns[i] else ns[i]) = c
      have hc' : (if ns[i] < -1 - ns[i] then -1 - ns[i] else ns[i]) = c := hc
      by_cases hb : 1000000000000 ≤ c ∧ dg < 1000000000000000000000000000000000000000000000000000000000000
      · have bd : bigOk dg = true := bigOk_small 256 (by decide) (by decide) (by
          have h1 : dg.natAbs < 1000000000000000000000000000000000000000000000000000000000000 := by have := hb.2; omega
          exact Nat.lt_trans h1 (by decide))
        have m3 : 0 ≤ c % 1000000000000000000000000000000000000000000000000000000000000 := Int.emod_nonneg _ (by decide)
        refine ⟨_, _, _, rfl, .inl (?_ : _ = Rs.nx [some x, some (.int (dg * 1000000000000000000000000000000000000000000000000000000000000 + c % 1000000000000000000000000000000000000000000000000000000000000)), some (.int ((st * 48271 + c % 2147483629 + 11) % 2147483647)), some (.int (i : Int)), some (.int c)] T), i + 1, _, _, _, _, rfl, rfl, rfl, ⟨by omega, m1 _, m2 _⟩⟩
        simp [hxi, hc', b1, hb.1, hb.2, bd]
      · refine ⟨_, _, _, rfl, .inl (?_ : _ = Rs.nx [some x, some (.int dg), some (.int ((st * 48271 + c % 2147483629 + 11) % 2147483647)), some (.int (i : Int)), some (.int c)] T), i + 1, dg, _, _, _, rfl, rfl, rfl, ⟨i0, m1 _, m2 _⟩⟩
        by_cases h1 : 1000000000000 ≤ c
        · have h2 : ¬ dg < 1000000000000000000000000000000000000000000000000000000000000 := fun q => hb ⟨h1, q⟩
          simp [hxi, hc', b1, h1, h2]
        · simp [hxi, hc', b1, h1]) ((List.range ns.length).map fun (i : Nat) => D.int (i : Int)) [some x, some (.int 0), some (.int 7), none, none] S
    ⟨0, 0, 7, none, none, by simp, rfl, rfl, ⟨by decide, by decide, by decide⟩⟩
  obtain ⟨i, dg, st, y, z, _, rfl, rfl, I⟩ := h'
  refine ⟨S'.length, S' ++ [.lst [.int dg, .int st]], ?_, ⟨dg, st, get_last _ _, I⟩, Keep.push _ _ _, Nat.le_refl _⟩
  have r1 : -(4611686018427387904 : Int) ≤ (ns.length : Int) := by omega
  have r2 : (ns.length : Int) ≤ 16777216 := by omega
  simp [F__law_wv_pool, mkF, startE, LIM_val, hl, rngD_nat, r1, r2, hr]
end WkL

set_option Elab.async false
set_option linter.all false
set_option maxRecDepth 100000
set_option autoImplicit false
/-! PvSchema: the drawn schemas. -/
namespace WkL
open PySem (Str)
open Wk
structure Sch where
  h : Nat
  k : Nat
  fs : List (Nat × Nat)
def fD (f : Nat × Nat) : D := .tup [.int (f.1 : Int), .int (f.2 : Int)]
def Sch.d (c : Sch) : D := .tup [.int (c.h : Int), .int (c.k : Int), .tup (c.fs.map fD)]
structure Sch.Ok (c : Sch) : Prop where
  h1 : 1 ≤ c.h
  h6 : c.h ≤ 6
  hk : c.h ≤ c.k
  k24 : c.k ≤ 24
  f40 : c.fs.length ≤ 40
  fs : ∀ f ∈ c.fs, f.1 < c.k ∧ c.h ≤ f.2 ∧ f.2 < c.k
theorem fD_list {P : Nat × Nat → Prop} : ∀ {es : List D}, (∀ e ∈ es, ∃ f, P f ∧ e = fD f) → ∃ fs : List (Nat × Nat), es = fs.map fD ∧ ∀ f ∈ fs, P f
  | [], _ => ⟨[], rfl, by simp⟩
  | e :: es, h => by
    obtain ⟨f, hf, rfl⟩ := h e List.mem_cons_self
    obtain ⟨fs, rfl, h2⟩ := fD_list (es := es) fun x hx => h x (List.mem_cons_of_mem _ hx)
    exact ⟨f :: fs, rfl, fun g hg => (List.mem_cons.mp hg).elim (fun q => q ▸ hf) (h2 g)⟩
theorem keep2 {p a b : Nat} {S T : Store} (h : Keep [p] S T) (ha : S.length ≤ a) (hb : S.length ≤ b) (o u : Ob) : Keep [p] S ((T.set a o).set b u) :=
  h.new (Y := [a, b]) ((Keep.set _ (.inl (by simp))).trans (Keep.set _ (.inl (by simp)))) (by intro i hi; simp at hi; omega)
theorem keep1 {p a : Nat} {S T : Store} (h : Keep [p] S T) (ha : S.length ≤ a) (o : Ob) : Keep [p] S (T.set a o) :=
  h.new (Y := [a]) (Keep.set _ (.inl (by simp))) (by intro i hi; simp at hi; omega)
theorem Pool.set {p a : Nat} {T : Store} {o : Ob} (h : Pool p T) (n : a ≠ p) : Pool p (T.set a o) := h.keep (X := [a]) (Keep.set _ (.inl (by simp))) (by simp; omega)
theorem Pool.push {p : Nat} {T X : Store} (h : Pool p T) : Pool p (T ++ X) := h.keep (Keep.push T X []) (by simp)
theorem Pool.lt {p : Nat} {T : Store} (h : Pool p T) : p < T.length := by obtain ⟨_, _, e, _⟩ := h; exact lt_of_get e
def isNat (n : Nat) (d : D) : Prop := ∃ a : Nat, a < n ∧ d = .int (a : Int)
theorem isNat_flat {n : Nat} {ds : List D} (h : ∀ d ∈ ds, isNat n d) : ds.all flatD = true := by
  rw [List.all_eq_true]
  intro d hd
  obtain ⟨a, _, rfl⟩ := h d hd
  rfl
/-- the loop that draws the fields -/
theorem fields_loop {p m f hh kk : Nat} {S : Store} (h1 : 1 ≤ hh) (hk : hh < kk) (k24 : kk ≤ 24) (hm : S.length ≤ m) (hf : S.length ≤ f) (hmf : m ≠ f) (hp : p < S.length) :
    ∀ (ds : List D) (s : Env) (T : Store), ds.length ≤ 100 →
      (∃ (met fd : List D) (x y z : Option D), s = [some (.ref p), some (.int (hh : Int)), some (.int (kk : Int)), some (.ref m), some (.ref f), x, y, z] ∧ T[m]? = some (.lst met) ∧ T[f]? = some (.lst fd) ∧ 0 < met.length ∧ met.length + ds.length ≤ 200 ∧ (∀ d ∈ met, isNat kk d) ∧
        (∀ d ∈ fd, ∃ q : Nat × Nat, (q.1 < kk ∧ hh ≤ q.2 ∧ q.2 < kk) ∧ d = fD q) ∧ fd.length + ds.length ≤ 40 ∧ Keep [p] S T ∧ Pool p T) →
      ∃ s' T', forL [] (.nm 5) (sSeq (sSet 6 (eIf (tE (eOp oGt (eCall F__law_wv_take (aCons (eV 0) (aCons (eC (.int 5)) aNil))) (eC (.int 0)))) (eCall F__law_wv_one (aCons (eV 0) (aCons (eV 3) aNil))) (eCall F__law_wv_take (aCons (eV 0) (aCons (eV 2) aNil)))))
    (sSeq (sSet 7 (eOp oAdd (eV 1) (eCall F__law_wv_take (aCons (eV 0) (aCons (eOp oSub (eV 2) (eV 1)) aNil)))))
    (sSeq (sExpr (eBM oAppend (eV 4) (eTup (aCons (eV 6) (aCons (eV 7) aNil)))))
    (sExpr (eBM oExtend (eV 3) (eIf (tE (eOp oInS (eV 6) (eV 3))) (eLst (aCons (eV 7) aNil)) (eLst aNil))))))) ds s T = .nx s' T' ∧
      ∃ (fd : List D) (x y z : Option D), s' = [some (.ref p), some (.int (hh : Int)), some (.int (kk : Int)), some (.ref m), some (.ref f), x, y, z] ∧ T'[f]? = some (.lst fd) ∧ (∀ d ∈ fd, ∃ q : Nat × Nat, (q.1 < kk ∧ hh ≤ q.2 ∧ q.2 < kk) ∧ d = fD q) ∧ fd.length ≤ 40 ∧ Keep [p] S T' ∧ Pool p T' := by
  intro ds s T hz h
  obtain ⟨s', T', e, h'⟩ := forL_run (c := []) (g := .nm 5) (b := (sSeq (sSet 6 (eIf (tE (eOp oGt (eCall F__law_wv_take (aCons (eV 0) (aCons (eC (.int 5)) aNil))) (eC (.int 0)))) (eCall F__law_wv_one (aCons (eV 0) (aCons (eV 3) aNil))) (eCall F__law_wv_take (aCons (eV 0) (aCons (eV 2) aNil)))))
    (sSeq (sSet 7 (eOp oAdd (eV 1) (eCall F__law_wv_take (aCons (eV 0) (aCons (eOp oSub (eV 2) (eV 1)) aNil)))))
    (sSeq (sExpr (eBM oAppend (eV 4) (eTup (aCons (eV 6) (aCons (eV 7) aNil)))))
    (sExpr (eBM oExtend (eV 3) (eIf (tE (eOp oInS (eV 6) (eV 3))) (eLst (aCons (eV 7) aNil)) (eLst aNil))))))))
    (fun ds s T => ∃ (met fd : List D) (x y z : Option D), s = [some (.ref p), some (.int (hh : Int)), some (.int (kk : Int)), some (.ref m), some (.ref f), x, y, z] ∧ T[m]? = some (.lst met) ∧ T[f]? = some (.lst fd) ∧ 0 < met.length ∧ met.length + ds.length ≤ 200 ∧ (∀ d ∈ met, isNat kk d) ∧
        (∀ d ∈ fd, ∃ q : Nat × Nat, (q.1 < kk ∧ hh ≤ q.2 ∧ q.2 < kk) ∧ d = fD q) ∧ fd.length + ds.length ≤ 40 ∧ Keep [p] S T ∧ Pool p T) (fun _ _ _ _ => rfl) (by
      rintro d rest s T ⟨met, fd, x, y, z, rfl, em, ef, hm0, hml, hmet, hfd, hfl, kST, hP⟩
      simp only [List.length_cons] at hml hfl
      have nm : m ≠ p := by omega
      have nf : f ≠ p := by omega
      obtain ⟨k5, T1, e1, k50, k51, K1, P1, L1⟩ := take_ok (many := 5) hP (by decide) (by decide)
      have em1 := K1.get em (by simpa using nm)
      have ef1 := K1.get ef (by simpa using nf)
      -- the holder
      have hold : ∃ (a : Nat) (T2 : Store), a < kk ∧ (if 0 < k5 then F__law_wv_one [.ref p, .ref m] T1 else F__law_wv_take [.ref p, .int (kk : Int)] T1) = .ok (.int (a : Int)) T2 ∧ Keep [p] T1 T2 ∧ Pool p T2 := by
        by_cases hk5 : 0 < k5
        · rw [if_pos hk5]
          obtain ⟨d, T2, e2, hd, K2, P2, _⟩ := one_ok P1 em1 nm hm0 (by omega)
          obtain ⟨a, ha, rfl⟩ := hmet d hd
          exact ⟨a, T2, ha, e2, K2, P2⟩
        · rw [if_neg hk5]
          obtain ⟨a, T2, e2, a0, a1, K2, P2, _⟩ := take_ok (many := (kk : Int)) P1 (by omega) (by omega)
          obtain ⟨a, rfl⟩ := Int.eq_ofNat_of_zero_le a0
          exact ⟨a, T2, by omega, e2, K2, P2⟩
      obtain ⟨a, T2, ha, e2, K2, P2⟩ := hold
      have em2 := K2.get em1 (by simpa using nm)
      have ef2 := K2.get ef1 (by simpa using nf)
      obtain ⟨b, T3, e3, b0, b1, K3, P3, L3⟩ := take_ok (many := (kk : Int) - (hh : Int)) P2 (by omega) (by omega)
      obtain ⟨b, rfl⟩ := Int.eq_ofNat_of_zero_le b0
      have em3 := K3.get em2 (by simpa using nm)
      have ef3 := K3.get ef2 (by simpa using nf)
      have K := ((kST.trans K1).trans K2).trans K3
      have il := isLst_lst ef3
      have ap := oAppend_lst (y := .tup [.int (a : Int), .int ((hh : Int) + (b : Int))]) ef3 (by rw [LIM_val]; omega)
      generalize hT4 : T3.set f (.lst (fd ++ [.tup [.int (a : Int), .int ((hh : Int) + (b : Int))]])) = T4 at ap
      have em4 : T4[m]? = some (.lst met) := by rw [← hT4, List.getElem?_set_ne (Ne.symm hmf)]; exact em3
      have ef4 : T4[f]? = some (.lst (fd ++ [.tup [.int (a : Int), .int ((hh : Int) + (b : Int))]])) := by rw [← hT4]; exact get_set_self ef3
      have K4 : Keep [p] S T4 := by rw [← hT4]; exact keep1 K hf _
      have P4 : Pool p T4 := by rw [← hT4]; exact P3.set nf
      have il4 := isLst_lst em4
      have inS : oInS (.int (a : Int)) (.ref m) T4 = .ok (.bl (inF (.int (a : Int)) met)) T4 := by
        unfold oInS oInL; dsimp only; rw [em4]; dsimp only; rw [isNat_flat hmet]; rfl
      have hfd' : ∀ d ∈ fd ++ [D.tup [.int (a : Int), .int ((hh : Int) + (b : Int))]], ∃ q : Nat × Nat, (q.1 < kk ∧ hh ≤ q.2 ∧ q.2 < kk) ∧ d = fD q := by
        intro d hd
        rcases List.mem_append.mp hd with q | q
        · exact hfd d q
        · have : d = .tup [.int (a : Int), .int ((hh : Int) + (b : Int))] := by simpa using q
          subst this
          exact ⟨(a, hh + b), ⟨ha, by show hh ≤ hh + b; omega, by show hh + b < kk; omega⟩, by simp [fD]⟩
      have l4 := lt_of_get em4
      have lf4 := lt_of_get ef4
      cases hin : inF (.int (a : Int)) met with
      | true =>
        have g4 : (T4 ++ [Ob.lst [.int ((hh : Int) + (b : Int))]])[m]? = some (.lst met) := by rw [List.getElem?_append_left l4]; exact em4
        have ex := oExtend_lst g4 (get_last T4 _) (by simp [LIM_val]; omega)
        refine ⟨_, _, _, rfl, .inl (?_ : _ = Rs.nx [some (.ref p), some (.int (hh : Int)), some (.int (kk : Int)), some (.ref m), some (.ref f), some d, some (.int (a : Int)), some (.int ((hh : Int) + (b : Int)))] ((T4 ++ [Ob.lst [.int ((hh : Int) + (b : Int))]]).set m (.lst (met ++ [.int ((hh : Int) + (b : Int))])))),
          met ++ [.int ((hh : Int) + (b : Int))], _, _, _, _, rfl, get_set_self g4, ?_, ?_, ?_, ?_, hfd', ?_, ?_, ?_⟩
        · simp [e1, e2, e3, il, ap, LIM_val, il4, inS, hin, ex]
        · rw [List.getElem?_set_ne hmf, List.getElem?_append_left lf4]; exact ef4
        · simp
        · simp; omega
        · intro d hd
          rcases List.mem_append.mp hd with q | q
          · exact hmet d q
          · have : d = .int ((hh : Int) + (b : Int)) := by simpa using q
            subst this
            exact ⟨hh + b, by omega, by simp⟩
        · simp; omega
        · exact keep1 (K4.trans (Keep.push T4 _ _)) hm _
        · exact (P4.push).set nm
      | false =>
        have g4 : (T4 ++ [Ob.lst []])[m]? = some (.lst met) := by rw [List.getElem?_append_left l4]; exact em4
        have ex := oExtend_lst g4 (get_last T4 (.lst [])) (by simp [LIM_val]; omega)
        refine ⟨_, _, _, rfl, .inl (?_ : _ = Rs.nx [some (.ref p), some (.int (hh : Int)), some (.int (kk : Int)), some (.ref m), some (.ref f), some d, some (.int (a : Int)), some (.int ((hh : Int) + (b : Int)))] ((T4 ++ [Ob.lst []]).set m (.lst (met ++ [])))),
          met ++ [], _, _, _, _, rfl, get_set_self g4, ?_, ?_, ?_, ?_, hfd', ?_, ?_, ?_⟩
        · simp [e1, e2, e3, il, ap, LIM_val, il4, inS, hin] at ex ⊢
          rw [ex]; rfl
        · rw [List.getElem?_set_ne hmf, List.getElem?_append_left lf4]; exact ef4
        · simpa using hm0
        · simp; omega
        · simpa using hmet
        · simp; omega
        · exact keep1 (K4.trans (Keep.push T4 _ _)) hm _
        · exact (P4.push).set nm) ds s T h
  obtain ⟨met, fd, x, y, z, rfl, _, ef, _, _, _, hfd, hl, hK, hP⟩ := h'
  exact ⟨_, T', e, fd, x, y, z, rfl, ef, hfd, by simpa using hl, hK, hP⟩
@[simp] theorem log2_3 : Nat.log2 3 = 1 := by decide
theorem rng_isNat {n m : Nat} (h : n ≤ m) : ∀ d ∈ rngD 0 (n : Int), isNat m d := by
  intro d hd
  rw [rngD_nat] at hd
  obtain ⟨i, hi, rfl⟩ := List.mem_map.mp hd
  exact ⟨i, by have := List.mem_range.mp hi; omega, rfl⟩
theorem rngD_len (n : Nat) : (rngD 0 (n : Int)).length = n := by rw [rngD_nat]; simp
theorem perm_fD {P : Nat × Nat → Prop} {es fd : List D} (h : es.Perm fd) (hf : ∀ d ∈ fd, ∃ q, P q ∧ d = fD q) : ∃ fs : List (Nat × Nat), es = fs.map fD ∧ (∀ f ∈ fs, P f) ∧ fs.length = fd.length := by
  obtain ⟨fs, e, h2⟩ := fD_list (P := P) (es := es) fun e he => hf e (h.mem_iff.mp he)
  exact ⟨fs, e, h2, by rw [← h.length_eq, e, List.length_map]⟩
theorem schema_ok {p : Nat} {S : Store} (h : Pool p S) : ∃ (c : Sch) (S' : Store), F__law_wv_schema [.ref p] S = .ok c.d S' ∧ c.Ok ∧ Keep [p] S S' ∧ Pool p S' := by
  have hp := h.lt
  obtain ⟨k1, T1, e1, a0, a1, K1, P1, L1⟩ := take_ok (many := 4) h (by decide) (by decide)
  obtain ⟨k2, T2, e2, b0, b1, K2, P2, L2⟩ := take_ok (many := 4) P1 (by decide) (by decide)
  obtain ⟨hh, hhe⟩ := Int.eq_ofNat_of_zero_le (show 0 ≤ 1 + k1 / 3 by omega)
  obtain ⟨kk, kke⟩ := Int.eq_ofNat_of_zero_le (show 0 ≤ 1 + k1 / 3 + 1 + k2 by omega)
  have h1 : 1 ≤ hh := by omega
  have h2 : hh ≤ 2 := by omega
  have hk : hh < kk := by omega
  have k6 : kk ≤ 6 := by omega
  -- met, found, the list of how many
  generalize hl : ([.int 1, .int 2, .int 2, .int 3, .int 3, .int 4, .int 4, .int 5, .int 5, .int 6, .int 7, .int 0] : List D) = L
  have hLl : L.length = 12 := by rw [← hl]; rfl
  have hL : ∀ d ∈ L, isNat 8 d := by
    rw [← hl]
    intro d hd
    simp only [List.mem_cons, List.not_mem_nil, or_false] at hd
    rcases hd with rfl | rfl | rfl | rfl | rfl | rfl | rfl | rfl | rfl | rfl | rfl | rfl
    · exact ⟨1, by decide, rfl⟩
    · exact ⟨2, by decide, rfl⟩
    · exact ⟨2, by decide, rfl⟩
    · exact ⟨3, by decide, rfl⟩
    · exact ⟨3, by decide, rfl⟩
    · exact ⟨4, by decide, rfl⟩
    · exact ⟨4, by decide, rfl⟩
    · exact ⟨5, by decide, rfl⟩
    · exact ⟨5, by decide, rfl⟩
    · exact ⟨6, by decide, rfl⟩
    · exact ⟨7, by decide, rfl⟩
    · exact ⟨0, by decide, rfl⟩
  generalize hT3 : T2 ++ [Ob.lst (rngD 0 (hh : Int)), Ob.lst [], Ob.lst L] = T3
  have K3 : Keep [p] S T3 := by rw [← hT3]; exact (K1.trans K2).trans (Keep.push _ _ _)
  have P3 : Pool p T3 := by rw [← hT3]; exact P2.push
  have g0 : T3[T2.length]? = some (.lst (rngD 0 (hh : Int))) := by rw [← hT3]; simp
  have g1 : T3[T2.length + 1]? = some (.lst []) := by rw [← hT3]; simp
  have g2 : T3[T2.length + 2]? = some (.lst L) := by rw [← hT3]; simp
  have z1 : S.length ≤ T2.length := (K1.trans K2).1
  obtain ⟨d, T4, e4, hd, K4, P4, L4⟩ := one_ok P3 g2 (by omega) (by omega) (by omega)
  obtain ⟨n, hn, rfl⟩ := hL d hd
  have g0' := K4.get g0 (by simp; omega)
  have g1' := K4.get g1 (by simp; omega)
  obtain ⟨s', T5, e5, fd, x, y, z, rfl, ef, hfd, hfl, K5, P5⟩ := fields_loop (S := S) h1 hk (by omega) z1 (by omega) (by omega) hp ((List.range n).map fun (i : Nat) => D.int (i : Int)) [some (.ref p), some (.int (hh : Int)), some (.int (kk : Int)), some (.ref T2.length), some (.ref (T2.length + 1)), none, none, none] T4 (by simp; omega)
    ⟨rngD 0 (hh : Int), [], none, none, none, rfl, g0', g1', by rw [rngD_len]; omega, by rw [rngD_len]; simp; omega, rng_isNat (by omega), by simp, by simp; omega, K3.trans K4, P4⟩
  rw [← rngD_nat] at e5
  have kke' : (hh : Int) + 1 + k2 = (kk : Int) := by omega
  obtain ⟨m, es, T6, e6, em, hpm, K6, P6, _⟩ := mixed_ok P5 ef (by omega) (by omega)
  obtain ⟨fs, rfl, hfs, hfsl⟩ := perm_fD hpm hfd
  refine ⟨⟨hh, kk, fs⟩, T6, ?_, ⟨h1, by show hh ≤ 6; omega, by show hh ≤ kk; omega, by show kk ≤ 24; omega, by show fs.length ≤ 40; omega, hfs⟩, K5.trans K6, P6⟩
  have hT3' : T2 ++ [Ob.lst (rngD 0 (hh : Int))] ++ [Ob.lst []] ++ [Ob.lst L] = T3 := by rw [← hT3]; simp
  have r1 : -(4611686018427387904 : Int) ≤ (hh : Int) := by omega
  have r2 : (hh : Int) ≤ 16777216 := by omega
  have r3 : -(4611686018427387904 : Int) ≤ (n : Int) := by omega
  have r4 : (n : Int) ≤ 16777216 := by omega
  simp [F__law_wv_schema, mkF, startE, e1, e2, hhe, kke', LIM_val, r1, r2, hl, hLl, hT3, e4, r3, r4, e5, e6, fTuple_lst em, Sch.d]
/-- pairs drawn in a comprehension -/
theorem drawn_pairs {p hh : Nat} {many : FE} {m : Int} {S : Store} {x y : Option D} (h1 : 1 ≤ hh) (h6 : hh ≤ 6) (m0 : 0 < m) (m24 : m ≤ 24) (hmany : ∀ (z : Option D) (T : Store), many [some (.ref p), some (.int (hh : Int)), x, z] T = .ok (.int m) T) (n : Nat) (T : Store) (hk : Keep [p] S T) (hP : Pool p T) :
    ∃ ys T', compL [] (.nm 3) tTrue (eTup (aCons (eCall F__law_wv_take (aCons (eV 0) (aCons many aNil))) (aCons (eOp oAdd (eV 1) (eCall F__law_wv_take (aCons (eV 0) (aCons (eOp oSub (eC (.int 24)) (eV 1)) aNil)))) aNil))) [some (.ref p), some (.int (hh : Int)), x, y] (rngD 0 (n : Int)) T = .ok ys T' ∧
      (∀ d ∈ ys, ∃ q : Nat × Nat, (q.1 < 24 ∧ hh ≤ q.2 ∧ q.2 < 24) ∧ d = fD q) ∧ ys.length = n ∧ Keep [p] S T' ∧ Pool p T' := by
  obtain ⟨ys, T', e, h⟩ := compL_run (c := []) (g := .nm 3) (t := tTrue) (e := eTup (aCons (eCall F__law_wv_take (aCons (eV 0) (aCons many aNil))) (aCons (eOp oAdd (eV 1) (eCall F__law_wv_take (aCons (eV 0) (aCons (eOp oSub (eC (.int 24)) (eV 1)) aNil)))) aNil))) (sw := [some (.ref p), some (.int (hh : Int)), x, y])
    (fun ds acc T => (∀ d ∈ acc, ∃ q : Nat × Nat, (q.1 < 24 ∧ hh ≤ q.2 ∧ q.2 < 24) ∧ d = fD q) ∧ acc.length + ds.length = n ∧ Keep [p] S T ∧ Pool p T) (fun _ _ _ _ => rfl) (by
      rintro d ds acc T ⟨i1, i2, i3, i4⟩
      obtain ⟨a, T1, e1, a0, a1, K1, P1, L1⟩ := take_ok (many := m) i4 m0 (by omega)
      obtain ⟨b, T2, e2, b0, b1, K2, P2, L2⟩ := take_ok (many := 24 - (hh : Int)) P1 (by omega) (by omega)
      obtain ⟨a, rfl⟩ := Int.eq_ofNat_of_zero_le a0
      obtain ⟨b, rfl⟩ := Int.eq_ofNat_of_zero_le b0
      refine ⟨_, T, rfl, .inr ⟨.tup [.int (a : Int), .int ((hh : Int) + (b : Int))], T2, rfl, by simp [hmany, e1, e2, LIM_val], ?_, ?_, (i3.trans K1).trans K2, P2⟩⟩
      · intro z hz
        rcases List.mem_append.mp hz with q | q
        · exact i1 z q
        · have : z = .tup [.int (a : Int), .int ((hh : Int) + (b : Int))] := by simpa using q
          subst this
          exact ⟨(a, hh + b), ⟨by show a < 24; omega, by show hh ≤ hh + b; omega, by show hh + b < 24; omega⟩, by simp [fD]⟩
      · simp at i2 ⊢; omega) (rngD 0 (n : Int)) [] T ⟨by simp, by rw [rngD_len]; simp, hk, hP⟩
  obtain ⟨i1, i2, i3, i4⟩ := h
  exact ⟨ys, T', e, by simpa using i1, by simpa using i2, i3, i4⟩
theorem great_ok {p : Nat} {S : Store} (h : Pool p S) : ∃ (c : Sch) (S' : Store), F__law_wv_great_schema [.ref p] S = .ok c.d S' ∧ c.Ok ∧ Keep [p] S S' ∧ Pool p S' := by
  have hp := h.lt
  obtain ⟨k1, T1, e1, a0, a1, K1, P1, L1⟩ := take_ok (many := 6) h (by decide) (by decide)
  obtain ⟨hh, hhe⟩ := Int.eq_ofNat_of_zero_le (show 0 ≤ 1 + k1 by omega)
  have h1 : 1 ≤ hh := by omega
  have h6 : hh ≤ 6 := by omega
  obtain ⟨ys, T2, e2, y1, y2, K2, P2⟩ := drawn_pairs (p := p) (hh := hh) (many := eV 1) (m := (hh : Int)) (x := none) (y := none) h1 h6 (by omega) (by omega) (fun _ _ => rfl) 8 T1 K1 P1
  have z2 := K2.1
  have K3 : Keep [p] S (T2 ++ [.lst ys]) := K2.trans (Keep.push _ _ _)
  obtain ⟨zs, T4, e4, w1, w2, K4, P4⟩ := drawn_pairs (p := p) (hh := hh) (many := eC (.int 24)) (m := 24) (x := some (.ref T2.length)) (y := none) h1 h6 (by decide) (by decide) (fun _ _ => rfl) 32 (T2 ++ [.lst ys]) K3 P2.push
  have e4' := e4
  have k4 : Keep [p] (T2 ++ [.lst ys]) T4 := by
    obtain ⟨zs', T4', e4'', _, _, K4', _⟩ := drawn_pairs (S := T2 ++ [.lst ys]) (p := p) (hh := hh) (many := eC (.int 24)) (m := 24) (x := some (.ref T2.length)) (y := none) h1 h6 (by decide) (by decide) (fun _ _ => rfl) 32 (T2 ++ [.lst ys]) (Keep.refl _ _) P2.push
    rw [e4] at e4''
    cases e4''
    exact K4'
  have np : T2.length ≠ p := by omega
  have g0 : (T2 ++ [.lst ys])[T2.length]? = some (.lst ys) := get_last _ _
  have g4 := k4.get g0 (by simpa using np)
  have l4 := lt_of_get g4
  have g5 : (T4 ++ [.lst zs])[T2.length]? = some (.lst ys) := by rw [List.getElem?_append_left l4]; exact g4
  have ex := oExtend_lst g5 (get_last T4 (.lst zs)) (by rw [LIM_val]; omega)
  generalize hT5 : (T4 ++ [Ob.lst zs]).set T2.length (Ob.lst (ys ++ zs)) = T5 at ex
  have g6 : T5[T2.length]? = some (.lst (ys ++ zs)) := by rw [← hT5]; exact get_set_self g5
  have K5 : Keep [p] S T5 := by rw [← hT5]; exact keep1 (K4.trans (Keep.push _ _ _)) z2 _
  have P5 : Pool p T5 := by rw [← hT5]; exact P4.push.set np
  obtain ⟨m, es, T6, e6, em, hpm, K6, P6, _⟩ := mixed_ok P5 g6 np (by simp; omega)
  obtain ⟨fs, rfl, hfs, hfsl⟩ := perm_fD (P := fun q => q.1 < 24 ∧ hh ≤ q.2 ∧ q.2 < 24) hpm (by
    intro d hd
    rcases List.mem_append.mp hd with q | q
    · exact y1 d q
    · exact w1 d q)
  rw [List.length_append] at hfsl
  refine ⟨⟨hh, 24, fs⟩, T6, ?_, ⟨h1, h6, by show hh ≤ 24; omega, Nat.le_refl _, by show fs.length ≤ 40; omega, hfs⟩, K5.trans K6, P6⟩
  have i0 := isLst_lst g0
  have e2' : compL [] (.nm 3) tTrue (eTup (aCons (eCall F__law_wv_take (aCons (eV 0) (aCons (eV 1) aNil))) (aCons (eOp oAdd (eV 1) (eCall F__law_wv_take (aCons (eV 0) (aCons (eOp oSub (eC (.int 24)) (eV 1)) aNil)))) aNil))) [some (.ref p), some (.int (hh : Int)), none, none] (rngD 0 8) T1 = .ok ys T2 := e2
  have e4'' : compL [] (.nm 3) tTrue (eTup (aCons (eCall F__law_wv_take (aCons (eV 0) (aCons (eC (.int 24)) aNil))) (aCons (eOp oAdd (eV 1) (eCall F__law_wv_take (aCons (eV 0) (aCons (eOp oSub (eC (.int 24)) (eV 1)) aNil)))) aNil))) [some (.ref p), some (.int (hh : Int)), some (.ref T2.length), none] (rngD 0 32) (T2 ++ [.lst ys]) = .ok zs T4 := e4
  simp [F__law_wv_great_schema, mkF, startE, e1, hhe, LIM_val, e2', e4'', i0, ex, e6, fTuple_lst em, Sch.d]
end WkL


set_option Elab.async false
set_option linter.all false
set_option maxRecDepth 100000
set_option maxHeartbeats 1000000
set_option autoImplicit false
/-! PvSame: _law_same tells True of equal data. -/
namespace WkL
open PySem (Str)
open Wk
/-- equal data, lists by the store, to a depth -/
def SameN (S : Store) : Nat → D → D → Prop
  | _, .non, .non => True
  | _, .bl a, .bl b => a = b
  | _, .int a, .int b => a = b
  | _, .str a, .str b => a = b
  | n + 1, .tup xs, .tup ys => xs.length = ys.length ∧ xs.length ≤ 1000000 ∧ ∀ (i : Nat) (a b : D), xs[i]? = some a → ys[i]? = some b → SameN S n a b
  | n + 1, .ref l, .ref m => ∃ xs ys, S[l]? = some (.lst xs) ∧ S[m]? = some (.lst ys) ∧ xs.length = ys.length ∧ xs.length ≤ 1000000 ∧ ∀ (i : Nat) (a b : D), xs[i]? = some a → ys[i]? = some b → SameN S n a b
  | _, _, _ => False
@[simp] theorem oIsB_bl (a b : Bool) (S : Store) : oIsB (.bl a) (.bl b) S = .ok (.bl (decide (a = b))) S := rfl
@[simp] theorem oEq_bl (a b : Bool) (S : Store) : oEq (.bl a) (.bl b) S = .ok (.bl (a == b)) S := rfl
@[simp] theorem oEq_str (a b : Str) (S : Store) : oEq (.str a) (.str b) S = .ok (.bl (a == b)) S := rfl
@[simp] theorem is_whole_int (i : Int) (S : Store) : F__law_is_whole [.int i] S = .ok (.bl true) S := by simp [F__law_is_whole, mkF, startE, isTy]
/-- the loop over the items -/
theorem same_loop {F : Fn} {x y : D} {xs ys : List D} {S : Store} {z : Option D} (hx : ∀ (i : Nat) (a : D), xs[i]? = some a → oIx x (.int (i : Int)) S = .ok a S) (hy : ∀ (i : Nat) (a : D), ys[i]? = some a → oIx y (.int (i : Int)) S = .ok a S) (hl : xs.length = ys.length)
    (h : ∀ (i : Nat) (a b : D), xs[i]? = some a → ys[i]? = some b → F [a, b] S = .ok (.bl true) S) :
    ∃ s' , forL [] (.nm 2) (sIf (Wk.tNot (tE (eCall F (aCons (eOp oIx (eV 0) (eV 2)) (aCons (eOp oIx (eV 1) (eV 2)) aNil))))) (sRet (eC (.bl false))) sSkip) (rngD 0 (ys.length : Int)) [some x, some y, z, none] S = .nx s' S := by
  obtain ⟨s', S', e, w, _, rfl⟩ := forL_run (c := []) (g := .nm 2) (b := sIf (Wk.tNot (tE (eCall F (aCons (eOp oIx (eV 0) (eV 2)) (aCons (eOp oIx (eV 1) (eV 2)) aNil))))) (sRet (eC (.bl false))) sSkip)
    (fun rest s T => (∃ (i : Nat) (w : Option D), rest = ((List.range ys.length).drop i).map (fun (j : Nat) => D.int (j : Int)) ∧ s = [some x, some y, w, none]) ∧ T = S) (fun _ _ _ _ => rfl) (by
      rintro d rest s T ⟨⟨i, w, hd, rfl⟩, rfl⟩
      have hi : i < ys.length := by
        refine Decidable.byContradiction fun q => ?_
        rw [List.drop_of_length_le (by simp; omega)] at hd
        simp at hd
      have hdr : (List.range ys.length).drop i = i :: (List.range ys.length).drop (i + 1) := by
        rw [List.drop_eq_getElem_cons (by simpa using hi)]; simp
      rw [hdr, List.map_cons, List.cons.injEq] at hd
      obtain ⟨rfl, rfl⟩ := hd
      have gx : xs[i]? = some xs[i] := List.getElem?_eq_getElem (by omega)
      have gy : ys[i]? = some ys[i] := List.getElem?_eq_getElem hi
      refine ⟨_, _, T, rfl, .inl (?_ : _ = Rs.nx [some x, some y, some (.int (i : Int)), none] T), ⟨i + 1, _, rfl, rfl⟩, rfl⟩
      simp [hx i _ gx, hy i _ gy, h i _ _ gx gy]) (rngD 0 (ys.length : Int)) [some x, some y, z, none] S ⟨⟨0, z, by rw [rngD_nat]; simp, rfl⟩, rfl⟩
  exact ⟨s', e⟩
theorem same_ok {S : Store} : ∀ (n m : Nat) (x y : D), n < m → SameN S n x y → R__law_same m [x, y] S = .ok (.bl true) S
  | n, 0, _, _, h, _ => absurd h (Nat.not_lt_zero _)
  | n, m + 1, x, y, hm, h => by
    cases x with
    | non => cases y <;> first | (cases n <;> exact (show False from h).elim) | skip
             simp [R__law_same, mkF, startE]
    | bl a => cases y <;> first | (cases n <;> exact (show False from h).elim) | skip
              rename_i b
              obtain rfl : a = b := by cases n <;> exact h
              cases a <;> simp [R__law_same, mkF, startE, isTy]
    | int a => cases y <;> first | (cases n <;> exact (show False from h).elim) | skip
               rename_i b
               obtain rfl : a = b := by cases n <;> exact h
               simp [R__law_same, mkF, startE, isTy]
    | str a => cases y <;> first | (cases n <;> exact (show False from h).elim) | skip
               rename_i b
               obtain rfl : a = b := by cases n <;> exact h
               simp [R__law_same, mkF, startE, isTy]
    | tup xs =>
      cases y <;> first | (cases n <;> exact (show False from h).elim) | skip
      rename_i ys
      cases n with
      | zero => exact (show False from h).elim
      | succ n =>
        obtain ⟨hl, hz, hs⟩ := h
        obtain ⟨s', e⟩ := same_loop (F := R__law_same m) (x := .tup xs) (y := .tup ys) (xs := xs) (ys := ys) (S := S) (z := none) (fun i a ha => by simp [ha]) (fun i a ha => by simp [ha]) hl fun i a b ha hb => same_ok n m a b (by omega) (hs i a b ha hb)
        have r1 : -(4611686018427387904 : Int) ≤ (ys.length : Int) := by omega
        have r2 : (ys.length : Int) ≤ 16777216 := by omega
        simp [R__law_same, mkF, startE, isTy, hl, r1, r2, e]
    | frz xs => cases y <;> cases n <;> exact (show False from h).elim
    | ref l =>
      cases y <;> first | (cases n <;> exact (show False from h).elim) | skip
      rename_i l2
      cases n with
      | zero => exact (show False from h).elim
      | succ n =>
        obtain ⟨xs, ys, g1, g2, hl, hz, hs⟩ := h
        obtain ⟨s', e⟩ := same_loop (F := R__law_same m) (x := .ref l) (y := .ref l2) (xs := xs) (ys := ys) (S := S) (z := none) (fun i a ha => by simp [ha, g1]) (fun i a ha => by simp [ha, g2]) hl fun i a b ha hb => same_ok n m a b (by omega) (hs i a b ha hb)
        have r1 : -(4611686018427387904 : Int) ≤ (ys.length : Int) := by omega
        have r2 : (ys.length : Int) ≤ 16777216 := by omega
        simp [R__law_same, mkF, startE, isTy, tyD_lst g1, tyD_lst g2, fLen_lst g1, fLen_lst g2, hl, r1, r2, e]
theorem same_true {S : Store} {x y : D} (n : Nat) (hn : n < 12) (h : SameN S n x y) : F__law_same [x, y] S = .ok (.bl true) S := same_ok n 12 x y hn h
/-- a thing is the same as itself, where its lists stand -/
def Plain : Nat → D → Prop
  | _, .non => True
  | _, .bl _ => True
  | _, .int _ => True
  | _, .str _ => True
  | n + 1, .tup xs => xs.length ≤ 1000000 ∧ ∀ x ∈ xs, Plain n x
  | _, _ => False
theorem same_refl {S : Store} : ∀ (n : Nat) (x : D), Plain n x → SameN S n x x
  | n, .non, _ => by cases n <;> exact True.intro
  | n, .bl _, _ => by cases n <;> exact rfl
  | n, .int _, _ => by cases n <;> exact rfl
  | n, .str _, _ => by cases n <;> exact rfl
  | 0, .tup xs, h => (show False from h).elim
  | n + 1, .tup xs, h => ⟨rfl, h.1, fun i a b ha hb => by
      rw [ha] at hb; cases hb
      exact same_refl n a (h.2 a (List.mem_of_getElem? ha))⟩
  | n, .frz xs, h => by cases n <;> exact (show False from h).elim
  | n, .ref l, h => by cases n <;> exact (show False from h).elim
end WkL


set_option Elab.async false
set_option linter.all false
set_option maxRecDepth 100000
set_option maxHeartbeats 1000000
set_option autoImplicit false
/-! PvForms: forms, made_schema, asked_kind, held_by. -/
namespace WkL
open PySem (Str)
open Wk
@[simp] theorem is_row_tup (xs : List D) (n : Int) (S : Store) : F_is_row [.tup xs, .int n] S = .ok (.bl ((xs.length : Int) == n)) S := by simp [F_is_row, mkF, startE, isTy]
@[simp] theorem is_whole_in (i lo hi : Int) (S : Store) : F_is_whole [.int i, .int lo, .int hi] S = .ok (.bl (decide (lo ≤ i) && decide (i ≤ hi))) S := by
  by_cases h : lo ≤ i <;> simp [F_is_whole, mkF, startE, isTy, h]
/-- no whole number -/
def NoWhole : D → Prop
  | .int _ => False
  | .frz _ => False
  | .ref _ => False
  | _ => True
theorem is_whole_no {x : D} (h : NoWhole x) (lo hi : D) (S : Store) : F_is_whole [x, lo, hi] S = .ok (.bl false) S := by
  cases x with
  | non => simp [F_is_whole, mkF, startE, isTy]
  | bl b => simp [F_is_whole, mkF, startE, isTy]
  | str b => simp [F_is_whole, mkF, startE, isTy]
  | tup b => simp [F_is_whole, mkF, startE, isTy]
  | int i => exact h.elim
  | frz i => exact h.elim
  | ref i => exact h.elim
theorem is_field_ok {a b h k : Nat} (h1 : a < k) (h2 : h ≤ b) (h3 : b < k) (S : Store) : F_is_field [fD (a, b), .int (h : Int), .int (k : Int)] S = .ok (.bl true) S := by
  have q1 : (a : Int) ≤ (k : Int) - 1 := by omega
  have q2 : (b : Int) ≤ (k : Int) - 1 := by omega
  simp [F_is_field, fD, mkF, startE, q1, q2, h2]
theorem enum_get {ds : List D} {i : Nat} : (enumD ds)[i]? = (ds[i]?).map fun d => D.tup [.int (i : Int), d] := by
  unfold enumD; rw [List.getElem?_mapIdx]
theorem enum_len {ds : List D} : (enumD ds).length = ds.length := by unfold enumD; simp
theorem drop_cons {α : Type} {xs : List α} {i : Nat} {d : α} {rest : List α} (h : d :: rest = xs.drop i) : i < xs.length ∧ xs[i]? = some d ∧ rest = xs.drop (i + 1) := by
  have hi : i < xs.length := by
    refine Decidable.byContradiction fun q => ?_
    rw [List.drop_of_length_le (by omega)] at h
    cases h
  rw [List.drop_eq_getElem_cons hi] at h
  injection h with h1 h2
  exact ⟨hi, by rw [List.getElem?_eq_getElem hi, h1], h2⟩
theorem map_fD_get {fs : List (Nat × Nat)} {i : Nat} {d : D} (h : (fs.map fD)[i]? = some d) : ∃ f, fs[i]? = some f ∧ d = fD f := by
  rw [List.getElem?_map] at h
  cases e : fs[i]? with
  | none => rw [e] at h; cases h
  | some f => rw [e] at h; exact ⟨f, rfl, (Option.some.inj h).symm⟩
theorem made_ok {c : Sch} (hc : c.Ok) (S : Store) : F_made_schema [c.d] S = .ok c.d (S ++ [.lst (c.fs.map fD)]) := by
  have h1 := hc.h1; have h6 := hc.h6; have hk := hc.hk; have k24 := hc.k24; have f40 := hc.f40
  obtain ⟨s', S', e, x, y, rfl, _, rfl⟩ := forL_run (c := []) (g := .tp [(.nm 4), (.nm 5)]) (b := sIf (Wk.tNot (tE (eCall F_is_field (aCons (eV 5) (aCons (eV 1) (aCons (eV 2) aNil)))))) (sRaise "BadSchema" (eTup (aCons (eC (.int 2)) (aCons (eV 4) aNil)))) sSkip)
    (fun rest s T => ∃ x y, s = [some c.d, some (.int (c.h : Int)), some (.int (c.k : Int)), some (.tup (c.fs.map fD)), x, y] ∧ (∃ i, rest = (enumD (c.fs.map fD)).drop i) ∧ T = S) (fun _ _ _ _ => rfl) (by
      rintro d rest s T ⟨x, y, rfl, ⟨i, hd⟩, rfl⟩
      obtain ⟨hi, hg, rfl⟩ := drop_cons hd
      rw [enum_get] at hg
      cases e : (c.fs.map fD)[i]? with
      | none => rw [e] at hg; cases hg
      | some d' =>
        rw [e] at hg
        obtain rfl : D.tup [.int (i : Int), d'] = d := Option.some.inj hg
        obtain ⟨f, hf, rfl⟩ := map_fD_get e
        obtain ⟨q1, q2, q3⟩ := hc.fs f (List.mem_of_getElem? hf)
        have := is_field_ok q1 q2 q3 T
        exact ⟨_, _, _, rfl, .inl ((by simp [this]) : _ = Rs.nx [some c.d, some (.int (c.h : Int)), some (.int (c.k : Int)), some (.tup (c.fs.map fD)), some (.int (i : Int)), some (fD f)] T), _, _, rfl, ⟨i + 1, rfl⟩, rfl⟩) (enumD (c.fs.map fD)) [some c.d, some (.int (c.h : Int)), some (.int (c.k : Int)), some (.tup (c.fs.map fD)), none, none] S ⟨none, none, rfl, ⟨0, by simp⟩, rfl⟩
  have cp : ∀ (sw : Env) (hs : sw = [some c.d, some (.int (c.h : Int)), some (.int (c.k : Int)), some (.tup (c.fs.map fD)), x, none]), compL [] (.nm 5) tTrue (eUn fTuple (eV 5)) sw (c.fs.map fD) S' = .ok (c.fs.map fD) S' := by
    intro sw hs
    subst hs
    have := compL_map (c := []) (g := .nm 5) (e := eUn fTuple (eV 5)) (sw := [some c.d, some (.int (c.h : Int)), some (.int (c.k : Int)), some (.tup (c.fs.map fD)), x, none]) (S := S') (f := id) rfl (c.fs.map fD) (by
      intro d hd
      obtain ⟨f, _, rfl⟩ := List.mem_map.mp hd
      exact ⟨_, rfl, by simp [fD]⟩)
    simpa using this
  have hk' : (c.h : Int) ≤ (c.k : Int) := by omega
  have k24' : (c.k : Int) ≤ 24 := by omega
  have h1' : (1 : Int) ≤ (c.h : Int) := by omega
  have h6' : (c.h : Int) ≤ 6 := by omega
  have f40' : ¬ (40 : Int) < (c.fs.length : Int) := by omega
  have e' := e
  unfold Sch.d at e' cp ⊢
  simp [F_made_schema, mkF, startE, isTy, h1', h6', hk', k24', f40', LIM_val, e', cp, fTuple_lst]
end WkL


set_option Elab.async false
set_option linter.all false
set_option maxRecDepth 100000
set_option autoImplicit false
/-! PvReach: what is led to, by how many fields; plain lists. -/
namespace WkL
open PySem (Str)
open Wk
section
variable (fs : List (Nat × Nat)) (src : Nat → Prop)
/-- led to by at most n fields -/
def Rch : Nat → Nat → Prop
  | 0, v => src v
  | n + 1, v => Rch n v ∨ ∃ a, Rch n a ∧ (a, v) ∈ fs
def Reach (v : Nat) : Prop := ∃ n, Rch fs src n v
/-- n is the least such number -/
def IsDist (n v : Nat) : Prop := Rch fs src n v ∧ ∀ m, Rch fs src m v → n ≤ m
end
section
variable {fs : List (Nat × Nat)} {src : Nat → Prop}
theorem Rch.up {n v : Nat} (h : Rch fs src n v) : Rch fs src (n + 1) v := .inl h
theorem Rch.mono {n v : Nat} (h : Rch fs src n v) : ∀ m, n ≤ m → Rch fs src m v
  | 0, q => by
    have : n = 0 := by omega
    subst this; exact h
  | m + 1, q => by
    by_cases e : n = m + 1
    · subst e; exact h
    · exact (Rch.mono h m (by omega)).up
theorem Reach.of_src {v : Nat} (h : src v) : Reach fs src v := ⟨0, h⟩
theorem Reach.step {a v : Nat} (h : Reach fs src a) (e : (a, v) ∈ fs) : Reach fs src v := by
  obtain ⟨n, h⟩ := h
  exact ⟨n + 1, .inr ⟨a, h, e⟩⟩
theorem Rch.ind {P : Nat → Prop} (h0 : ∀ v, src v → P v) (hs : ∀ a v, P a → (a, v) ∈ fs → P v) : ∀ (n v : Nat), Rch fs src n v → P v
  | 0, v, h => h0 v h
  | n + 1, v, h => h.elim (Rch.ind h0 hs n v) fun ⟨a, ha, e⟩ => hs a v (Rch.ind h0 hs n a ha) e
theorem Reach.ind {P : Nat → Prop} (h0 : ∀ v, src v → P v) (hs : ∀ a v, P a → (a, v) ∈ fs → P v) {v : Nat} (h : Reach fs src v) : P v := by
  obtain ⟨n, h⟩ := h
  exact Rch.ind h0 hs n v h
theorem IsDist.uniq {n m v : Nat} (h : IsDist fs src n v) (k : IsDist fs src m v) : n = m := Nat.le_antisymm (h.2 m k.1) (k.2 n h.1)
/-- numbers that are right from below and closed upwards are the distances -/
theorem dist_of {val : Nat → Nat → Prop} (sound : ∀ v n, val v n → Rch fs src n v) (h0 : ∀ v, src v → ∃ n, val v n ∧ n ≤ 0) (hs : ∀ a v n, val a n → (a, v) ∈ fs → ∃ m, val v m ∧ m ≤ n + 1) (u : ∀ v n m, val v n → val v m → n = m) :
    (∀ v n, val v n → IsDist fs src n v) ∧ ∀ v, Reach fs src v → ∃ n, val v n := by
  have key : ∀ (n v : Nat), Rch fs src n v → ∃ m, val v m ∧ m ≤ n := by
    intro n
    induction n with
    | zero => intro v h; exact h0 v h
    | succ n ih =>
      intro v h
      rcases h with h | ⟨a, ha, e⟩
      · obtain ⟨m, h1, h2⟩ := ih v h
        exact ⟨m, h1, by omega⟩
      · obtain ⟨m, h1, h2⟩ := ih a ha
        obtain ⟨q, h3, h4⟩ := hs a v m h1 e
        exact ⟨q, h3, by omega⟩
  refine ⟨fun v n h => ⟨sound v n h, fun m hm => ?_⟩, fun v ⟨n, h⟩ => ?_⟩
  · obtain ⟨q, h1, h2⟩ := key m v hm
    rw [u v n q h h1]
    exact h2
  · obtain ⟨q, h1, _⟩ := key n v h
    exact ⟨q, h1⟩
end
open Classical in
/-- the kinds below k that are led to, in order -/
noncomputable def reachL (fs : List (Nat × Nat)) (k : Nat) (src : Nat → Prop) : List Nat := (List.range k).filter fun v => decide (Reach fs src v)
theorem mem_reachL {fs : List (Nat × Nat)} {k : Nat} {src : Nat → Prop} {v : Nat} : v ∈ reachL fs k src ↔ v < k ∧ Reach fs src v := by
  unfold reachL
  rw [List.mem_filter, List.mem_range]
  simp
theorem filter_reachL {fs : List (Nat × Nat)} {k : Nat} {src : Nat → Prop} {p : Nat → Bool} (h : ∀ v, v < k → (p v = true ↔ Reach fs src v)) : (List.range k).filter p = reachL fs k src := by
  unfold reachL
  apply List.filter_congr
  intro v hv
  have := h v (List.mem_range.mp hv)
  by_cases q : p v = true
  · rw [q]; simp [this.mp q]
  · have n : ¬ Reach fs src v := fun z => q (this.mpr z)
    simp [n]
    simpa using q
/-- truths set -/
theorem count_set : ∀ {F : List Bool} {b : Nat}, F[b]? = some false → (F.set b true).count false + 1 = F.count false
  | [], _, h => by simp at h
  | x :: F, 0, h => by simp at h; subst h; simp
  | x :: F, b + 1, h => by
    have ih := count_set (F := F) (b := b) (by simpa using h)
    simp only [List.set_cons_succ, List.count_cons]
    omega

/-! ### lists of numbers compared -/
theorem mapM_ints (S : Store) (n : Nat) : ∀ xs : List Int, (xs.map D.int).mapM (toP S n) = some (xs.map P.int)
  | [] => rfl
  | x :: xs => by
    rw [List.map_cons, List.mapM_cons, mapM_ints S n xs]
    cases n <;> rfl
theorem eqvs_ints : ∀ xs ys : List Int, P.eqvs (xs.map P.int) (ys.map P.int) = decide (xs = ys)
  | [], [] => by rfl
  | [], _ :: _ => by rfl
  | _ :: _, [] => by rfl
  | x :: xs, y :: ys => by
    simp only [List.map_cons, P.eqvs, P.eqv, eqvs_ints xs ys, List.cons.injEq, Bool.decide_and]
    rfl
theorem toP_ints {S : Store} {l : Nat} {xs : List Int} (h : S[l]? = some (.lst (xs.map D.int))) (n : Nat) : toP S (n + 1) (.ref l) = some (.lst (xs.map P.int)) := by
  unfold toP
  rw [h]
  dsimp only
  rw [mapM_ints]
theorem oEq_lists {S : Store} {l m : Nat} {xs ys : List Int} (h : S[l]? = some (.lst (xs.map D.int))) (k : S[m]? = some (.lst (ys.map D.int))) : oEq (.ref l) (.ref m) S = .ok (.bl (decide (xs = ys))) S := by
  show oEqG _ _ _ = _
  unfold oEqG
  rw [toP_ints h 59, toP_ints k 59]
  dsimp only
  rw [show P.eqv (.lst (xs.map P.int)) (.lst (ys.map P.int)) = P.eqvs (xs.map P.int) (ys.map P.int) from by simp only [P.eqv], eqvs_ints]
theorem oEq_non_list {S : Store} {m : Nat} {ys : List Int} (k : S[m]? = some (.lst (ys.map D.int))) : oEq .non (.ref m) S = .ok (.bl false) S := by
  show oEqG _ _ _ = _
  unfold oEqG
  rw [toP_ints k 59]
  rfl
theorem intsN_int (l : List Nat) : (l.map fun (f : Nat) => D.int (f : Int)) = (l.map fun (f : Nat) => (f : Int)).map D.int := by simp
theorem castL_inj {l m : List Nat} : (l.map fun (f : Nat) => (f : Int)) = (m.map fun (f : Nat) => (f : Int)) ↔ l = m := by
  constructor
  · intro h
    have := congrArg (List.map Int.toNat) h
    simpa [Function.comp_def] using this
  · rintro rfl; rfl
theorem oEq_nats {S : Store} {l m : Nat} {xs ys : List Nat} (h : S[l]? = some (.lst (xs.map fun (f : Nat) => D.int (f : Int)))) (k : S[m]? = some (.lst (ys.map fun (f : Nat) => D.int (f : Int)))) : oEq (.ref l) (.ref m) S = .ok (.bl (decide (xs = ys))) S := by
  rw [intsN_int] at h k
  rw [oEq_lists h k, decide_eq_decide.mpr castL_inj]
end WkL


set_option Elab.async false
set_option linter.all false
set_option maxRecDepth 100000
set_option maxHeartbeats 1000000
set_option autoImplicit false
/-! PvNats: rows of numbers in the store. -/
namespace WkL
open PySem (Str)
open Wk
abbrev intsN (l : List Nat) : List D := l.map fun (f : Nat) => D.int (f : Int)
abbrev blsN (F : List Bool) : List D := F.map D.bl
theorem oIx_lst {S : Store} {l i : Nat} {ds : List D} {d : D} (h : S[l]? = some (.lst ds)) (g : ds[i]? = some d) : oIx (.ref l) (.int (i : Int)) S = .ok d S := by
  rw [oIx_ref, h]; dsimp only; rw [atI_nat, g]
theorem uSetL_nat {S : Store} {l i : Nat} {ds : List D} (h : S[l]? = some (.lst ds)) (hi : i < ds.length) (v : D) : uSetL (.ref l) (.int (i : Int)) v S = some (S.set l (.lst (ds.set i v))) := by
  unfold uSetL; dsimp only; rw [h]; dsimp only; rw [ixN_nat _ _ hi]
theorem insI_le {a : Int} : ∀ {l : List Int}, (∀ b ∈ l, a ≤ b) → insI a l = a :: l
  | [], _ => rfl
  | b :: l, h => by unfold insI; rw [if_pos (h b List.mem_cons_self)]
theorem sortI_sorted : ∀ {l : List Int}, l.Pairwise (· ≤ ·) → sortI l = l
  | [], _ => rfl
  | a :: l, h => by
    unfold sortI
    rw [List.pairwise_cons] at h
    rw [sortI_sorted h.2, insI_le h.1]
theorem intsD_map : ∀ l : List Int, intsD (l.map D.int) = some l
  | [] => rfl
  | a :: l => by rw [List.map_cons]; unfold intsD; rw [intsD_map l]
theorem range_sorted (n : Nat) : ((List.range n).map fun (i : Nat) => (i : Int)).Pairwise (· ≤ ·) := by
  rw [List.pairwise_map]
  exact (List.pairwise_lt_range (n := n)).imp fun h => by omega
theorem inF_nats (a : Nat) (l : List Nat) : inF (.int (a : Int)) (intsN l) = decide (a ∈ l) := by
  unfold inF
  rw [List.any_map]
  induction l with
  | nil => rfl
  | cons b l ih =>
    rw [List.any_cons, ih]
    simp only [Function.comp_apply, eqF, List.mem_cons, Bool.decide_or]
    congr 1
    by_cases h : a = b
    · subst h; simp
    · have : ¬ b = a := fun z => h z.symm
      simp [h]; omega
theorem nats_flat (l : List Nat) : (intsN l).all flatD = true := by
  rw [List.all_map]; simp [flatD, Function.comp_def]
theorem oInS_nats {S : Store} {l : Nat} {L : List Nat} (h : S[l]? = some (.lst (intsN L))) (a : Nat) : oInS (.int (a : Int)) (.ref l) S = .ok (.bl (decide (a ∈ L))) S := by
  unfold oInS oInL; dsimp only; rw [h]; dsimp only; rw [nats_flat, inF_nats]; rfl
end WkL


set_option Elab.async false
set_option linter.all false
set_option maxRecDepth 100000
set_option maxHeartbeats 1000000
set_option autoImplicit false
/-! PvSort: sorting of numbers and of pairs. -/
namespace WkL
open PySem (Str)
open Wk
/-! ### sorting -/
theorem mem_insI {a x : Int} : ∀ {l : List Int}, x ∈ insI a l ↔ x = a ∨ x ∈ l
  | [] => by simp [insI]
  | b :: l => by
    unfold insI
    split
    · simp
    · rw [List.mem_cons, mem_insI, List.mem_cons]
      constructor
      · rintro (h | h | h) <;> simp [h]
      · rintro (h | h | h) <;> simp [h]
theorem mem_sortI {x : Int} : ∀ {l : List Int}, x ∈ sortI l ↔ x ∈ l
  | [] => by simp [sortI]
  | a :: l => by unfold sortI; rw [mem_insI, mem_sortI, List.mem_cons]
theorem insI_lt {a : Int} : ∀ {l : List Int}, l.Pairwise (· < ·) → a ∉ l → (insI a l).Pairwise (· < ·)
  | [], _, _ => by simp [insI]
  | b :: l, h, n => by
    rw [List.pairwise_cons] at h
    rw [List.mem_cons, not_or] at n
    unfold insI
    split
    · rename_i q
      have ab : a < b := by omega
      rw [List.pairwise_cons]
      refine ⟨fun x hx => ?_, List.pairwise_cons.mpr h⟩
      rcases List.mem_cons.mp hx with e | e
      · omega
      · have := h.1 x e; omega
    · rename_i q
      rw [List.pairwise_cons]
      refine ⟨fun x hx => ?_, insI_lt h.2 n.2⟩
      rcases mem_insI.mp hx with e | e
      · omega
      · exact h.1 x e
theorem sortI_lt : ∀ {l : List Int}, l.Nodup → (sortI l).Pairwise (· < ·)
  | [], _ => by simp [sortI]
  | a :: l, h => by
    rw [List.nodup_cons] at h
    unfold sortI
    exact insI_lt (sortI_lt h.2) fun z => h.1 (mem_sortI.mp z)
theorem lt_ext : ∀ {l m : List Int}, l.Pairwise (· < ·) → m.Pairwise (· < ·) → (∀ x, x ∈ l ↔ x ∈ m) → l = m
  | [], [], _, _, _ => rfl
  | [], b :: m, _, _, h => absurd ((h b).mpr List.mem_cons_self) (by simp)
  | a :: l, [], _, _, h => absurd ((h a).mp List.mem_cons_self) (by simp)
  | a :: l, b :: m, h1, h2, h => by
    rw [List.pairwise_cons] at h1 h2
    have e : a = b := by
      rcases List.mem_cons.mp ((h a).mp List.mem_cons_self) with e | e
      · exact e
      · rcases List.mem_cons.mp ((h b).mpr List.mem_cons_self) with e2 | e2
        · exact e2.symm
        · have := h1.1 b e2; have := h2.1 a e; omega
    subst e
    rw [lt_ext h1.2 h2.2 fun x => ?_]
    constructor
    · intro hx
      rcases List.mem_cons.mp ((h x).mp (List.mem_cons_of_mem _ hx)) with e | e
      · have := h1.1 x hx; omega
      · exact e
    · intro hx
      rcases List.mem_cons.mp ((h x).mpr (List.mem_cons_of_mem _ hx)) with e | e
      · have := h2.1 x hx; omega
      · exact e
end WkL


set_option Elab.async false
set_option linter.all false
set_option maxRecDepth 100000
set_option maxHeartbeats 1000000
set_option autoImplicit false
/-! PvPairs: numbers and pairs in lists: in, remove, index, sorted. -/
namespace WkL
open PySem (Str)
open Wk
/-- things of a kind laid as data -/
structure Enc {α : Type} (g : α → D) (gp : α → P) : Prop where
  lo : ∀ S n a, toP S (n + 1) (g a) = some (gp a)
  eq : ∀ a b, P.eqv (gp a) (gp b) = true ↔ a = b
def pP (q : Nat × Nat) : P := .tup [.int (q.1 : Int), .int (q.2 : Int)]
theorem enc_nat : Enc (fun (n : Nat) => D.int (n : Int)) (fun (n : Nat) => P.int (n : Int)) := ⟨fun S n a => by unfold toP; rfl, fun a b => by simp [P.eqv]; omega⟩
theorem enc_pair : Enc fD pP := ⟨fun S n a => by
    cases n <;> rfl, fun a b => by
    unfold pP
    simp only [P.eqv, P.eqvs, Bool.and_true, Bool.and_eq_true, beq_iff_eq]
    constructor
    · rintro ⟨h1, h2⟩; exact Prod.ext (by omega) (by omega)
    · rintro rfl; exact ⟨rfl, rfl⟩⟩
theorem erase_map {α β : Type} (g : α → β) : ∀ (xs : List α) (j : Nat), (xs.map g).eraseIdx j = (xs.eraseIdx j).map g
  | [], _ => rfl
  | _ :: _, 0 => rfl
  | x :: xs, j + 1 => by
    show g x :: (xs.map g).eraseIdx j = g x :: (xs.eraseIdx j).map g
    rw [erase_map g xs j]
section
variable {α : Type} {g : α → D} {gp : α → P} (E : Enc g gp)
include E
theorem Enc.all (S : Store) (n : Nat) : ∀ xs : List α, (xs.map g).mapM (toP S (n + 1)) = some (xs.map gp)
  | [] => rfl
  | x :: xs => by rw [List.map_cons, List.mapM_cons, Enc.all S n xs, E.lo]; rfl
theorem Enc.list {S : Store} {l : Nat} {xs : List α} (h : S[l]? = some (.lst (xs.map g))) (n : Nat) : toP S (n + 2) (.ref l) = some (.lst (xs.map gp)) := by
  unfold toP; rw [h]; dsimp only; rw [E.all]
theorem Enc.tuple (S : Store) (xs : List α) (n : Nat) : toP S (n + 2) (.tup (xs.map g)) = some (.tup (xs.map gp)) := by
  unfold toP; rw [E.all]
variable [DecidableEq α]
theorem Enc.any (a : α) : ∀ xs : List α, ((xs.map gp).any fun q => P.eqv q (gp a)) = decide (a ∈ xs)
  | [] => by simp
  | x :: xs => by
    rw [List.map_cons, List.any_cons, Enc.any a xs]
    by_cases e : x = a
    · subst e; simp [(E.eq x x).mpr rfl]
    · have : P.eqv (gp x) (gp a) = false := by
        cases q : P.eqv (gp x) (gp a) with
        | true => exact absurd ((E.eq x a).mp q) e
        | false => rfl
      rw [this]
      have : ¬ a = x := fun z => e z.symm
      simp [this]
theorem Enc.inG {S : Store} {l : Nat} {xs : List α} (h : S[l]? = some (.lst (xs.map g))) (a : α) : oInG (g a) (.ref l) S = .ok (.bl (decide (a ∈ xs))) S := by
  unfold oInG; rw [E.lo S 59 a, E.list h 58]; dsimp only; rw [E.any]
theorem Enc.inGT (S : Store) (xs : List α) (a : α) : oInG (g a) (.tup (xs.map g)) S = .ok (.bl (decide (a ∈ xs))) S := by
  unfold oInG; rw [E.lo S 59 a, E.tuple S xs 58]; dsimp only; rw [E.any]
theorem Enc.idx {a : α} : ∀ {xs : List α}, a ∈ xs → ∃ j, (xs.map gp).findIdx? (fun q => P.eqv q (gp a)) = some j ∧ xs[j]? = some a
  | [], h => by simp at h
  | x :: xs, h => by
    rw [List.map_cons, List.findIdx?_cons]
    by_cases e : x = a
    · subst e
      rw [(E.eq x x).mpr rfl]
      exact ⟨0, rfl, rfl⟩
    · have n : P.eqv (gp x) (gp a) = false := by
        cases q : P.eqv (gp x) (gp a) with
        | true => exact absurd ((E.eq x a).mp q) e
        | false => rfl
      rw [n]
      obtain ⟨j, h1, h2⟩ := Enc.idx (xs := xs) ((List.mem_cons.mp h).resolve_left fun z => e z.symm)
      exact ⟨j + 1, by rw [h1]; rfl, by simpa using h2⟩
theorem Enc.remove {S : Store} {l : Nat} {xs : List α} {a : α} (h : S[l]? = some (.lst (xs.map g))) (ha : a ∈ xs) (nd : xs.Nodup) :
    ∃ ys : List α, oRemove (.ref l) (g a) S = .ok .non (S.set l (.lst (ys.map g))) ∧ ys.Nodup ∧ (∀ x, x ∈ ys ↔ x ∈ xs ∧ x ≠ a) ∧ ys.length ≤ xs.length := by
  obtain ⟨j, h1, h2⟩ := E.idx ha
  have p := eraseIdx_perm h2
  have nd2 := p.nodup_iff.mpr nd
  rw [List.nodup_cons] at nd2
  refine ⟨xs.eraseIdx j, ?_, nd2.2, fun x => ?_, by rw [List.length_eraseIdx]; split <;> omega⟩
  · unfold oRemove idxD
    dsimp only
    rw [h, E.lo S 59 a, E.list h 58]
    dsimp only
    rw [h1]
    dsimp only
    rw [erase_map]
  · have m := p.mem_iff (a := x)
    rw [List.mem_cons] at m
    constructor
    · intro hx
      exact ⟨m.mp (.inr hx), fun z => nd2.1 (z ▸ hx)⟩
    · rintro ⟨hx, hn⟩
      exact (m.mpr hx).resolve_left hn
end
theorem oInS_pairs {S : Store} {l : Nat} {ps : List (Nat × Nat)} (h : S[l]? = some (.lst (ps.map fD))) (q : Nat × Nat) : oInS (fD q) (.ref l) S = .ok (.bl (decide (q ∈ ps))) S := by
  have e : oInG (fD q) (.ref l) S = .ok (.bl (decide (q ∈ ps))) S := (enc_pair.inG h q).trans (by congr)
  have b : oInL (ps.map fD) (fD q) S = .bad := rfl
  unfold oInS
  dsimp only
  rw [h]
  dsimp only
  rw [e, b]
  rfl
theorem oInS_natsT (S : Store) (L : List Nat) (a : Nat) : oInS (.int (a : Int)) (.tup (intsN L)) S = .ok (.bl (decide (a ∈ L))) S := by
  unfold oInS oInL; dsimp only; rw [nats_flat, inF_nats]; rfl
/-! ### sorted -/
def ltN (p q : Nat × Nat) : Prop := p.1 < q.1 ∨ (p.1 = q.1 ∧ p.2 < q.2)
theorem ltPr_yes {p q : Int × Int} : ltPr p q = true ↔ p.1 < q.1 ∨ (p.1 = q.1 ∧ p.2 < q.2) := by
  unfold ltPr
  by_cases e : p.1 = q.1
  · rw [if_pos e, decide_eq_true_eq]; omega
  · rw [if_neg e, decide_eq_true_eq]; omega
theorem mem_insP {a x : Int × Int} : ∀ {l : List (Int × Int)}, x ∈ insP a l ↔ x = a ∨ x ∈ l
  | [] => by simp [insP]
  | b :: l => by
    unfold insP
    split
    · rw [List.mem_cons, mem_insP, List.mem_cons]
      constructor
      · rintro (h | h | h) <;> simp [h]
      · rintro (h | h | h) <;> simp [h]
    · simp
theorem insP_perm (a : Int × Int) : ∀ l, (insP a l).Perm (a :: l)
  | [] => .refl _
  | b :: l => by
    unfold insP
    split
    · exact ((insP_perm a l).cons b).trans (.swap a b l)
    · exact .refl _
theorem sortP_perm : ∀ l, (sortP l).Perm l
  | [] => .refl _
  | a :: l => (insP_perm a _).trans ((sortP_perm l).cons a)
theorem insI_perm (a : Int) : ∀ l, (insI a l).Perm (a :: l)
  | [] => .refl _
  | b :: l => by
    unfold insI
    split
    · exact .refl _
    · exact ((insI_perm a l).cons b).trans (.swap a b l)
theorem sortI_perm : ∀ l, (sortI l).Perm l
  | [] => .refl _
  | a :: l => (insI_perm a _).trans ((sortI_perm l).cons a)
theorem insP_lt {a : Int × Int} : ∀ {l : List (Int × Int)}, l.Pairwise (fun p q => ltPr p q = true) → a ∉ l → (insP a l).Pairwise (fun p q => ltPr p q = true)
  | [], _, _ => by simp [insP]
  | b :: l, h, n => by
    rw [List.pairwise_cons] at h
    rw [List.mem_cons, not_or] at n
    unfold insP
    split
    · rename_i c
      rw [List.pairwise_cons]
      refine ⟨fun x hx => ?_, insP_lt h.2 n.2⟩
      rcases mem_insP.mp hx with e | e
      · rw [e]; exact c
      · exact h.1 x e
    · rename_i c
      have ab : ltPr a b = true := by
        refine ltPr_yes.mpr ?_
        have h1 : ¬ (b.1 < a.1 ∨ (b.1 = a.1 ∧ b.2 < a.2)) := fun z => c (ltPr_yes.mpr z)
        have h2 : ¬ (a.1 = b.1 ∧ a.2 = b.2) := fun z => n.1 (Prod.ext z.1 z.2)
        omega
      rw [List.pairwise_cons]
      refine ⟨fun x hx => ?_, List.pairwise_cons.mpr h⟩
      rcases List.mem_cons.mp hx with e | e
      · rw [e]; exact ab
      · have q1 := ltPr_yes.mp ab
        have q2 := ltPr_yes.mp (h.1 x e)
        exact ltPr_yes.mpr (by omega)
theorem sortP_lt : ∀ {l : List (Int × Int)}, l.Nodup → (sortP l).Pairwise (fun p q => ltPr p q = true)
  | [], _ => by simp [sortP]
  | a :: l, h => by
    rw [List.nodup_cons] at h
    unfold sortP
    exact insP_lt (sortP_lt h.2) fun z => h.1 ((sortP_perm l).mem_iff.mp z)
abbrev prI (q : Nat × Nat) : Int × Int := ((q.1 : Int), (q.2 : Int))
theorem prsD_fD : ∀ ps : List (Nat × Nat), prsD (ps.map fD) = some (ps.map prI)
  | [] => rfl
  | p :: ps => by
    show (match prsD (ps.map fD) with | some qs => some (((p.1 : Int), (p.2 : Int)) :: qs) | none => none) = _
    rw [prsD_fD ps]; rfl
theorem prI_back : ∀ {l : List (Int × Int)}, (∀ x ∈ l, ∃ q, x = prI q) → ∃ qs : List (Nat × Nat), l = qs.map prI
  | [], _ => ⟨[], rfl⟩
  | x :: l, h => by
    obtain ⟨q, rfl⟩ := h x List.mem_cons_self
    obtain ⟨qs, rfl⟩ := prI_back (l := l) fun y hy => h y (List.mem_cons_of_mem _ hy)
    exact ⟨q :: qs, rfl⟩
theorem prI_inj {p q : Nat × Nat} (h : prI p = prI q) : p = q := by
  have h1 := congrArg Prod.fst h
  have h2 := congrArg Prod.snd h
  exact Prod.ext (by have : (p.1 : Int) = q.1 := h1; omega) (by have : (p.2 : Int) = q.2 := h2; omega)
theorem perm_unmap {α β : Type} {f : α → β} (hf : ∀ a b, f a = f b → a = b) : ∀ {l m : List α}, (l.map f).Perm (m.map f) → l.Perm m := by
  classical
  intro l m h
  refine List.perm_iff_count.mpr fun a => ?_
  have h1 := h.count_eq (f a)
  have key : ∀ k : List α, (k.map f).count (f a) = k.count a := by
    intro k
    induction k with
    | nil => rfl
    | cons x k ih =>
      rw [List.map_cons, List.count_cons, List.count_cons, ih]
      by_cases q : x = a
      · rw [q]; simp
      · have : ¬ f x = f a := fun z => q (hf _ _ z)
        simp [q, this]
  rw [key, key] at h1
  exact h1
theorem sorted_pairs {S : Store} {l : Nat} {ps : List (Nat × Nat)} (h : S[l]? = some (.lst (ps.map fD))) (nd : ps.Nodup) : ∃ qs : List (Nat × Nat), fSorted (.ref l) S = .ok (.ref S.length) (S ++ [.lst (qs.map fD)]) ∧ qs.Perm ps ∧ qs.Pairwise ltN := by
  cases ps with
  | nil => exact ⟨[], by unfold fSorted; dsimp only; rw [h]; rfl, .refl _, .nil⟩
  | cons p ps =>
    have pm := sortP_perm ((p :: ps).map prI)
    obtain ⟨qs, hq⟩ := prI_back (l := sortP ((p :: ps).map prI)) fun x hx => by
      obtain ⟨q, _, e⟩ := List.mem_map.mp (pm.mem_iff.mp hx)
      exact ⟨q, e.symm⟩
    rw [hq] at pm
    have nd2 : ((p :: ps).map prI).Nodup := List.Pairwise.map _ (fun a b (h : a ≠ b) z => h (prI_inj z)) nd
    have lt := sortP_lt nd2
    rw [hq, List.pairwise_map] at lt
    refine ⟨qs, ?_, perm_unmap (fun _ _ => prI_inj) pm, lt.imp fun {a b} z => ?_⟩
    · unfold fSorted
      dsimp only
      rw [h]
      have e1 : intsD ((p :: ps).map fD) = none := rfl
      dsimp only
      rw [e1]
      dsimp only
      rw [prsD_fD]
      dsimp only
      rw [hq, List.map_map]
      rfl
    · have := ltPr_yes.mp z
      unfold ltN
      simp only at this
      omega
theorem sorted_nats {S : Store} {l : Nat} {L : List Nat} (h : S[l]? = some (.lst (intsN L))) (nd : L.Nodup) : ∃ M : List Nat, fSorted (.ref l) S = .ok (.ref S.length) (S ++ [.lst (intsN M)]) ∧ M.Perm L ∧ M.Pairwise (· < ·) := by
  have pm := sortI_perm (L.map fun (i : Nat) => (i : Int))
  have bk : ∃ M : List Nat, sortI (L.map fun (i : Nat) => (i : Int)) = M.map fun (i : Nat) => (i : Int) := by
    have key : ∀ l : List Int, (∀ x ∈ l, 0 ≤ x) → ∃ M : List Nat, l = M.map fun (i : Nat) => (i : Int) := by
      intro l
      induction l with
      | nil => intro _; exact ⟨[], rfl⟩
      | cons a l ih =>
        intro ha
        obtain ⟨M, rfl⟩ := ih fun x hx => ha x (List.mem_cons_of_mem _ hx)
        obtain ⟨n, rfl⟩ := Int.eq_ofNat_of_zero_le (ha a List.mem_cons_self)
        exact ⟨n :: M, rfl⟩
    refine key _ fun x hx => ?_
    obtain ⟨q, _, e⟩ := List.mem_map.mp (pm.mem_iff.mp hx)
    omega
  obtain ⟨M, hM⟩ := bk
  have nd2 : (L.map fun (i : Nat) => (i : Int)).Nodup := List.Pairwise.map _ (fun a b (h : a ≠ b) => by omega) nd
  have lt := sortI_lt nd2
  rw [hM] at pm lt
  rw [List.pairwise_map] at lt
  refine ⟨M, ?_, perm_unmap (fun a b h => by omega) pm, lt.imp fun {a b} z => by omega⟩
  unfold fSorted
  dsimp only
  rw [h]
  dsimp only
  rw [intsN, intsN_int, intsD_map]
  dsimp only
  rw [hM, ← intsN_int]
/-! ### rising rows are told by what is in them -/
theorem ltN_ext : ∀ {l m : List (Nat × Nat)}, l.Pairwise ltN → m.Pairwise ltN → (∀ x, x ∈ l ↔ x ∈ m) → l = m
  | [], [], _, _, _ => rfl
  | [], b :: m, _, _, h => absurd ((h b).mpr List.mem_cons_self) (by simp)
  | a :: l, [], _, _, h => absurd ((h a).mp List.mem_cons_self) (by simp)
  | a :: l, b :: m, h1, h2, h => by
    rw [List.pairwise_cons] at h1 h2
    have irr : ∀ x y : Nat × Nat, ltN x y → ltN y x → False := fun x y p q => by unfold ltN at p q; omega
    have e : a = b := by
      rcases List.mem_cons.mp ((h a).mp List.mem_cons_self) with e | e
      · exact e
      · rcases List.mem_cons.mp ((h b).mpr List.mem_cons_self) with e2 | e2
        · exact e2.symm
        · exact (irr _ _ (h1.1 b e2) (h2.1 a e)).elim
    subst e
    have self : ∀ x, ltN x x → False := fun x p => irr x x p p
    rw [ltN_ext h1.2 h2.2 fun x => ?_]
    constructor
    · intro hx
      rcases List.mem_cons.mp ((h x).mp (List.mem_cons_of_mem _ hx)) with e | e
      · exact (self a (e ▸ h1.1 x hx)).elim
      · exact e
    · intro hx
      rcases List.mem_cons.mp ((h x).mpr (List.mem_cons_of_mem _ hx)) with e | e
      · exact (self a (e ▸ h2.1 x hx)).elim
      · exact e
theorem nat_ext : ∀ {l m : List Nat}, l.Pairwise (· < ·) → m.Pairwise (· < ·) → (∀ x, x ∈ l ↔ x ∈ m) → l = m
  | [], [], _, _, _ => rfl
  | [], b :: m, _, _, h => absurd ((h b).mpr List.mem_cons_self) (by simp)
  | a :: l, [], _, _, h => absurd ((h a).mp List.mem_cons_self) (by simp)
  | a :: l, b :: m, h1, h2, h => by
    rw [List.pairwise_cons] at h1 h2
    have e : a = b := by
      rcases List.mem_cons.mp ((h a).mp List.mem_cons_self) with e | e
      · exact e
      · rcases List.mem_cons.mp ((h b).mpr List.mem_cons_self) with e2 | e2
        · exact e2.symm
        · have := h1.1 b e2; have := h2.1 a e; omega
    subst e
    rw [nat_ext h1.2 h2.2 fun x => ?_]
    constructor
    · intro hx
      rcases List.mem_cons.mp ((h x).mp (List.mem_cons_of_mem _ hx)) with e | e
      · have := h1.1 x hx; omega
      · exact e
    · intro hx
      rcases List.mem_cons.mp ((h x).mpr (List.mem_cons_of_mem _ hx)) with e | e
      · have := h2.1 x hx; omega
      · exact e
theorem ltN_nodup {l : List (Nat × Nat)} (h : l.Pairwise ltN) : l.Nodup := h.imp fun {a b} z e => by subst e; unfold ltN at z; omega
theorem lt_nodup {l : List Nat} (h : l.Pairwise (· < ·)) : l.Nodup := h.imp fun {a b} z e => by omega
end WkL


set_option Elab.async false
set_option linter.all false
set_option maxRecDepth 100000
set_option maxHeartbeats 1000000
set_option autoImplicit false
/-! PvTable: tables; made_table tells a right one anew. -/
namespace WkL
open PySem (Str)
open Wk
structure Tab where
  cs : List (Nat × Nat)
  ds : List Nat
  bs : List Nat
def Tab.d (t : Tab) : D := .tup [.tup (t.cs.map fD), .tup (intsN t.ds), .tup (intsN t.bs)]
/-- a pair of fields with one target -/
def IsCarry (fs : List (Nat × Nat)) (q : Nat × Nat) : Prop := ∃ a b z, fs[q.1]? = some (a, z) ∧ fs[q.2]? = some (b, z)
structure TabOk (c : Sch) (t : Tab) : Prop where
  c400 : t.cs.length ≤ 400
  lt : t.cs.Pairwise ltN
  cs : ∀ q ∈ t.cs, IsCarry c.fs q
  dlt : t.ds.Pairwise (· < ·)
  ds : ∀ f ∈ t.ds, f < c.fs.length
  blt : t.bs.Pairwise (· < ·)
  bs : ∀ f ∈ t.bs, f < c.fs.length
theorem IsCarry.lt {fs : List (Nat × Nat)} {q : Nat × Nat} (h : IsCarry fs q) : q.1 < fs.length ∧ q.2 < fs.length := by
  obtain ⟨a, b, z, h1, h2⟩ := h
  exact ⟨(List.getElem?_eq_some_iff.mp h1).1, (List.getElem?_eq_some_iff.mp h2).1⟩
/-- rows of fields are short -/
theorem rise_len : ∀ {l : List Nat} {n m : Nat}, l.Pairwise (· < ·) → (∀ x ∈ l, m ≤ x ∧ x < n) → l.length + m ≤ n ∨ l = []
  | [], _, _, _, _ => .inr rfl
  | a :: l, n, m, h, b => by
    rw [List.pairwise_cons] at h
    have ha := b a List.mem_cons_self
    rcases rise_len (n := n) (m := a + 1) h.2 (fun x hx => ⟨h.1 x hx, (b x (List.mem_cons_of_mem _ hx)).2⟩) with z | z
    · left; simp; omega
    · subst z; left; simp; omega
theorem rise_le {l : List Nat} {n : Nat} (h : l.Pairwise (· < ·)) (b : ∀ x ∈ l, x < n) : l.length ≤ n := by
  rcases rise_len (m := 0) h (fun x hx => ⟨Nat.zero_le _, b x hx⟩) with z | z
  · omega
  · subst z; simp
theorem is_row_no (x : D) (h : ∀ xs, x ≠ .tup xs) (n : D) (S : Store) (hx : ∃ t, tyD S x = some t ∧ t ≠ "tuple") : F_is_row [x, n] S = .ok (.bl false) S := by
  obtain ⟨t, ht, hn⟩ := hx
  have : isTy t "tuple" = false := by
    unfold isTy
    simp [hn]
  simp [F_is_row, mkF, startE, ht, this]
theorem is_carry_ok {c : Sch} {q : Nat × Nat} (h : IsCarry c.fs q) (S : Store) : F_is_carry [c.d, fD q] S = .ok (.bl true) (S ++ [Ob.lst [D.bl true, D.bl true]]) := by
  have hl := h.lt
  obtain ⟨a, b, z, h1, h2⟩ := h
  have q1 : (q.1 : Int) ≤ (c.fs.length : Int) - 1 := by omega
  have q2 : (q.2 : Int) ≤ (c.fs.length : Int) - 1 := by omega
  have cp : compL [] (.nm 2) tTrue (eCall F_is_whole (aCons (eV 2) (aCons (eC (.int 0)) (aCons (eOp oSub (eUn fLen (eOp oIx (eV 0) (eC (.int 2)))) (eC (.int 1))) aNil)))) [some c.d, some (fD q), none] [.int (q.1 : Int), .int (q.2 : Int)] S = .ok [D.bl true, D.bl true] S := by
    refine Eq.trans (compL_map (f := fun _ => .bl true) rfl _ ?_) rfl
    intro d hd
    simp only [List.mem_cons, List.not_mem_nil, or_false] at hd
    rcases hd with rfl | rfl
    · exact ⟨_, rfl, by simp [Sch.d, q1]⟩
    · exact ⟨_, rfl, by simp [Sch.d, q2]⟩
  have al : fAll (.ref S.length) (S ++ [Ob.lst [D.bl true, D.bl true]]) = .ok (.bl true) (S ++ [Ob.lst [D.bl true, D.bl true]]) := by
    unfold fAll fAllBy
    dsimp only
    rw [get_last]
    rfl
  have e1 : ((c.fs.map fD)[q.1]?) = some (fD (a, z)) := by rw [List.getElem?_map, h1]; rfl
  have e2 : ((c.fs.map fD)[q.2]?) = some (fD (b, z)) := by rw [List.getElem?_map, h2]; rfl
  unfold fD Sch.d at cp
  unfold fD at e1 e2
  simp [F_is_carry, mkF, startE, fD, Sch.d, cp, al, e1, e2, h1, h2]
theorem oLe_pairs (p q : Int × Int) (S : Store) : oLe (.tup [.int p.1, .int p.2]) (.tup [.int q.1, .int q.2]) S = .ok (.bl (!ltPr q p)) S := by
  have : lexLe [p.1, p.2] [q.1, q.2] = !ltPr q p := by
    unfold lexLe ltPr
    by_cases h1 : p.1 = q.1
    · by_cases h2 : p.2 = q.2
      · simp [lexA, h1, h2]
      · simp [lexA, h1, h2]
        rw [Bool.eq_iff_iff]; simp
    · have : ¬ q.1 = p.1 := fun z => h1 z.symm
      simp [lexA, h1, this]
      rw [Bool.eq_iff_iff]; simp
  show Res.ok (D.bl (lexLe [p.1, p.2] [q.1, q.2])) S = _
  rw [this]
theorem wrong_carry_ok {c : Sch} {ps : List (Nat × Nat)} (h : ∀ q ∈ ps, IsCarry c.fs q) (lt : ps.Pairwise ltN) (S : Store) : ∃ T, F_wrong_carry [c.d, .tup (ps.map fD)] S = .ok .non T ∧ Keep [] S T := by
  obtain ⟨s', T, e, lst, x, y, i, rfl, _, _, K⟩ := forL_run (c := []) (g := .tp [(.nm 3), (.nm 4)]) (b := (sSeq (sIf (tOr (Wk.tNot (tE (eCall F_is_carry (aCons (eV 0) (aCons (eV 4) aNil))))) (tE (eOp oLe (eV 4) (eV 2)))) (sRet (eV 3)) sSkip)
    (sSet 2 (eV 4))))
    (fun rest s T => ∃ (lst : Int × Int) (x y : Option D) (i : Nat), s = [some c.d, some (.tup (ps.map fD)), some (.tup [.int lst.1, .int lst.2]), x, y] ∧ rest = (enumD (ps.map fD)).drop i ∧ (∀ q ∈ ps.drop i, ltPr lst (prI q) = true) ∧ Keep [] S T) (fun _ _ _ _ => rfl) (by
      rintro d rest s T ⟨lst, x, y, i, rfl, hd, hl, K⟩
      obtain ⟨hi, hg, rfl⟩ := drop_cons hd
      rw [enum_get] at hg
      cases e : (ps.map fD)[i]? with
      | none => rw [e] at hg; cases hg
      | some d' =>
        rw [e] at hg
        obtain rfl : D.tup [.int (i : Int), d'] = d := Option.some.inj hg
        obtain ⟨f, hf, rfl⟩ := map_fD_get e
        have hi2 : i < ps.length := (List.getElem?_eq_some_iff.mp hf).1
        have hdr : ps.drop i = f :: ps.drop (i + 1) := by
          rw [List.drop_eq_getElem_cons hi2]
          congr 1
          rw [List.getElem?_eq_getElem hi2] at hf
          exact Option.some.inj hf
        have e1 := is_carry_ok (h f (List.mem_of_getElem? hf)) T
        have lf := hl f (by rw [hdr]; exact List.mem_cons_self)
        have e2 := oLe_pairs (prI f) lst (T ++ [Ob.lst [D.bl true, D.bl true]])
        rw [lf] at e2
        refine ⟨_, _, T ++ [Ob.lst [D.bl true, D.bl true]], rfl, .inl (?_ : _ = Rs.nx [some c.d, some (.tup (ps.map fD)), some (fD f), some (.int (i : Int)), some (fD f)] _), prI f, _, _, i + 1, rfl, rfl, ?_, K.trans (Keep.push _ _ _)⟩
        · unfold fD at e1 ⊢
          simp [e1, e2]
        · intro q hq
          have pw := lt.sublist (List.drop_sublist i ps)
          rw [hdr, List.pairwise_cons] at pw
          have := pw.1 q hq
          unfold ltN at this
          exact ltPr_yes.mpr (by simp only; omega)) (enumD (ps.map fD)) [some c.d, some (.tup (ps.map fD)), some (.tup [.int (-1), .int (-1)]), none, none] S
      ⟨(-1, -1), none, none, 0, rfl, rfl, fun q _ => ltPr_yes.mpr (by simp only; omega), Keep.refl _ _⟩
  refine ⟨T, ?_, K⟩
  simp [F_wrong_carry, mkF, startE, LIM_val, e]
theorem ask_carries_ok {c : Sch} {ps : List (Nat × Nat)} (h : ∀ q ∈ ps, IsCarry c.fs q) (lt : ps.Pairwise ltN) (h4 : ps.length ≤ 400) (S : Store) : ∃ T, F_ask_carries [c.d, .tup (ps.map fD)] S = .ok .non T ∧ Keep [] S T := by
  obtain ⟨T, e, K⟩ := wrong_carry_ok h lt S
  refine ⟨T, ?_, K⟩
  have q : ¬ (400 : Int) < (ps.length : Int) := by omega
  simp [F_ask_carries, mkF, startE, isTy, q, e]
theorem rising_ok {L : List Nat} {n : Nat} (lt : L.Pairwise (· < ·)) (hb : ∀ f ∈ L, f < n) (S : Store) : F_rising_in [.tup (intsN L), .int 0, .int ((n : Int) - 1)] S = .ok .non S := by
  obtain ⟨s', T, e, lst, x, y, i, rfl, _, _, rfl⟩ := forL_run (c := []) (g := .tp [(.nm 4), (.nm 5)]) (b := (sSeq (sIf (Wk.tNot (tE (eCall F_is_whole (aCons (eV 5) (aCons (eOp oAdd (eV 3) (eC (.int 1))) (aCons (eV 2) aNil)))))) (sRet (eV 4)) sSkip)
    (sSet 3 (eV 5))))
    (fun rest s T => ∃ (lst : Int) (x y : Option D) (i : Nat), s = [some (.tup (intsN L)), some (.int 0), some (.int ((n : Int) - 1)), some (.int lst), x, y] ∧ rest = (enumD (intsN L)).drop i ∧ (∀ q ∈ L.drop i, lst < (q : Int)) ∧ T = S) (fun _ _ _ _ => rfl) (by
      rintro d rest s T ⟨lst, x, y, i, rfl, hd, hl, rfl⟩
      obtain ⟨hi, hg, rfl⟩ := drop_cons hd
      rw [enum_get] at hg
      cases e : (intsN L)[i]? with
      | none => rw [e] at hg; cases hg
      | some d' =>
        rw [e] at hg
        obtain rfl : D.tup [.int (i : Int), d'] = d := Option.some.inj hg
        rw [List.getElem?_map] at e
        cases hf : L[i]? with
        | none => rw [hf] at e; cases e
        | some f =>
          rw [hf] at e
          obtain rfl : D.int (f : Int) = d' := Option.some.inj e
          have hi2 : i < L.length := (List.getElem?_eq_some_iff.mp hf).1
          have hdr : L.drop i = f :: L.drop (i + 1) := by
            rw [List.drop_eq_getElem_cons hi2]
            congr 1
            rw [List.getElem?_eq_getElem hi2] at hf
            exact Option.some.inj hf
          have lf := hl f (by rw [hdr]; exact List.mem_cons_self)
          have bf := hb f (List.mem_of_getElem? hf)
          have c1 : lst + 1 ≤ (f : Int) := by omega
          have c2 : (f : Int) ≤ (n : Int) - 1 := by omega
          refine ⟨_, _, T, rfl, .inl (?_ : _ = Rs.nx [some (.tup (intsN L)), some (.int 0), some (.int ((n : Int) - 1)), some (.int (f : Int)), some (.int (i : Int)), some (.int (f : Int))] T), (f : Int), _, _, i + 1, rfl, rfl, ?_, rfl⟩
          · simp [c1, c2]
          · intro q hq
            have pw := lt.sublist (List.drop_sublist i L)
            rw [hdr, List.pairwise_cons] at pw
            have := pw.1 q hq
            omega) (enumD (intsN L)) [some (.tup (intsN L)), some (.int 0), some (.int ((n : Int) - 1)), some (.int (-1)), none, none] S
      ⟨-1, none, none, 0, rfl, rfl, fun q _ => by omega, rfl⟩
  simp [F_rising_in, mkF, startE, isTy, e]
theorem made_table_ok {c : Sch} (hc : c.Ok) {t : Tab} (ht : TabOk c t) (S : Store) : ∃ T, F_made_table [c.d, t.d] S = .ok t.d T ∧ Keep [] S T := by
  obtain ⟨T, e, K⟩ := ask_carries_ok ht.cs ht.lt ht.c400 (S ++ [.lst (c.fs.map fD)])
  have e0 := made_ok hc S
  have r1 := rising_ok ht.dlt ht.ds T
  have r2 := rising_ok ht.blt ht.bs T
  have cp : ∀ x : Option D, compL [] (.nm 4) tTrue (eUn fTuple (eV 4)) [some c.d, some t.d, some (.int 2), x, none] (t.cs.map fD) T = .ok (t.cs.map fD) T := by
    intro x
    have := compL_map (c := []) (g := .nm 4) (e := eUn fTuple (eV 4)) (sw := [some c.d, some t.d, some (.int 2), x, none]) (S := T) (f := id) rfl (t.cs.map fD) (by
      intro d hd
      obtain ⟨f, _, rfl⟩ := List.mem_map.mp hd
      exact ⟨_, rfl, by simp [fD]⟩)
    simpa using this
  have cp' := cp (some .non)
  refine ⟨T ++ [.lst (t.cs.map fD)], ?_, ((Keep.push _ _ _).trans K).trans (Keep.push _ _ _)⟩
  have ft := fTuple_lst (get_last T (.lst (t.cs.map fD)))
  have st1 : sExpr (eCall F_made_schema (aCons (eV 0) aNil)) [some c.d, some t.d, none, none, none] S = .nx [some c.d, some t.d, none, none, none] (S ++ [.lst (c.fs.map fD)]) := by
    simp [e0]
  have st2 : sIf (Wk.tNot (tE (eCall F_is_row (aCons (eV 1) (aCons (eC (.int 3)) aNil))))) (sRaise "BadTable" (eUn uNeg (eC (.int 1)))) sSkip [some c.d, some t.d, none, none, none] (S ++ [.lst (c.fs.map fD)]) = .nx [some c.d, some t.d, none, none, none] (S ++ [.lst (c.fs.map fD)]) := by
    simp [Tab.d]
  have st3 : sExpr (eCall F_ask_carries (aCons (eV 0) (aCons (eOp oIx (eV 1) (eC (.int 0))) aNil))) [some c.d, some t.d, none, none, none] (S ++ [.lst (c.fs.map fD)]) = .nx [some c.d, some t.d, none, none, none] T := by
    simp [Tab.d, e]
  have turn : ∀ (at_ : Nat) (L : List Nat) (x y : Option D), oIx t.d (.int (at_ : Int)) T = .ok (.tup (intsN L)) T → F_rising_in [.tup (intsN L), .int 0, .int ((c.fs.length : Int) - 1)] T = .ok .non T → (sSeq (sSet 3 (eCall F_rising_in (aCons (eOp oIx (eV 1) (eV 2)) (aCons (eC (.int 0)) (aCons (eOp oSub (eUn fLen (eOp oIx (eV 0) (eC (.int 2)))) (eC (.int 1))) aNil)))))
    (sIf (tE (eOp oNotN (eV 3) (eC .non))) (sRaise "BadTable" (eIf (tE (eOp oEq (eV 3) (eUn uNeg (eC (.int 1))))) (eV 2) (eTup (aCons (eV 2) (aCons (eV 3) aNil))))) sSkip)) [some c.d, some t.d, some (.int (at_ : Int)), y, none] T = .nx [some c.d, some t.d, some (.int (at_ : Int)), some .non, none] T := by
    intro at_ L x y h1 h2
    simp [Sch.d, h1, h2]
  have t1 := turn 1 t.ds none none (by simp [Tab.d]) r1
  have t2 := turn 2 t.bs none (some .non) (by simp [Tab.d]) r2
  have st4 : sFor (iSeq (eTup (aCons (eC (.int 1)) (aCons (eC (.int 2)) aNil)))) (.nm 2) (sSeq (sSet 3 (eCall F_rising_in (aCons (eOp oIx (eV 1) (eV 2)) (aCons (eC (.int 0)) (aCons (eOp oSub (eUn fLen (eOp oIx (eV 0) (eC (.int 2)))) (eC (.int 1))) aNil)))))
    (sIf (tE (eOp oNotN (eV 3) (eC .non))) (sRaise "BadTable" (eIf (tE (eOp oEq (eV 3) (eUn uNeg (eC (.int 1))))) (eV 2) (eTup (aCons (eV 2) (aCons (eV 3) aNil))))) sSkip)) [some c.d, some t.d, none, none, none] T = .nx [some c.d, some t.d, some (.int 2), some .non, none] T := by
    have e4 : ∀ b : FS, b [some c.d, some t.d, some (.int 1), none, none] T = .nx [some c.d, some t.d, some (.int 1), some .non, none] T → b [some c.d, some t.d, some (.int 2), some .non, none] T = .nx [some c.d, some t.d, some (.int 2), some .non, none] T →
        forL [] (.nm 2) b [.int 1, .int 2] [some c.d, some t.d, none, none, none] T = .nx [some c.d, some t.d, some (.int 2), some .non, none] T := by
      intro b h1 h2
      rw [forL_cons rfl rfl h1, forL_cons rfl rfl h2, forL_nil rfl]
    have := e4 _ t1 t2
    simp only [sFor_eq, iSeq_eq, eTup_eq, aCons_eq, eC_eq, aNil_eq, Res.bind_ok, List.length_cons, List.length_nil]
    rw [if_pos (by decide), Res.bind_ok]
    exact this
  have st5 : sRet (eTup (aCons (eUn fTuple (eComp (iSeq (eOp oIx (eV 1) (eC (.int 0)))) (.nm 4) tTrue (eUn fTuple (eV 4)) [4])) (aCons (eUn fTuple (eOp oIx (eV 1) (eC (.int 1)))) (aCons (eUn fTuple (eOp oIx (eV 1) (eC (.int 2)))) aNil)))) [some c.d, some t.d, some (.int 2), some .non, none] T = .rt t.d (T ++ [.lst (t.cs.map fD)]) := by
    unfold Tab.d at cp' ⊢
    simp [cp', ft, LIM_val]
  exact (mkF_eq 2 5 _ [c.d, t.d] S rfl).trans (by
    rw [show startE 5 [c.d, t.d] = [some c.d, some t.d, none, none, none] from rfl]
    rw [show b_made_table [some c.d, some t.d, none, none, none] S = .rt t.d (T ++ [.lst (t.cs.map fD)]) from nx_seq st1 (nx_seq st2 (nx_seq st3 (nx_seq st4 st5)))])
end WkL


set_option Elab.async false
set_option linter.all false
set_option maxRecDepth 100000
set_option maxHeartbeats 1000000
set_option autoImplicit false
/-! PvComp: comprehensions over rows of things. -/
namespace WkL
open PySem (Str)
open Wk
section
variable {c : Chk} {g : Tg} {t : FT} {e : FE} {sw : Env} {α : Type}
/-- a comprehension over things laid by dg whose test and element keep the store -/
theorem compL_on {S : Store} {dg : α → D} {p : α → Bool} {f : α → D} (hc : okC c S = true) : ∀ L : List α, (∀ a ∈ L, ∃ s1, gF g (dg a) sw = some s1 ∧ t s1 S = .ok (p a) S ∧ (p a = true → e s1 S = .ok (f a) S)) →
    compL c g t e sw (L.map dg) S = .ok ((L.filter p).map f) S
  | [], _ => by unfold List.map compL; rw [if_pos hc]; rfl
  | a :: L, h => by
    obtain ⟨s1, e1, e2, e3⟩ := h a List.mem_cons_self
    have ih := compL_on hc L fun x hx => h x (List.mem_cons_of_mem _ hx)
    rw [List.map_cons]
    unfold compL
    rw [if_pos hc, e1]
    dsimp only
    rw [e2, Res.bind_ok]
    cases hp : p a with
    | true => rw [if_pos rfl, e3 hp, Res.bind_ok, ih, Res.bind_ok, List.filter_cons, hp]; rfl
    | false => rw [if_neg (by decide), ih, List.filter_cons, hp]; rfl
/-- .. that keep a statement of the store -/
theorem compL_onI {dg : α → D} {p : α → Bool} {f : α → D} (I : Store → Prop) (hc : ∀ T, I T → okC c T = true) : ∀ L : List α, (∀ a ∈ L, ∀ T, I T → ∃ s1 T1, gF g (dg a) sw = some s1 ∧ t s1 T = .ok (p a) T1 ∧ I T1 ∧ (p a = true → ∃ T2, e s1 T1 = .ok (f a) T2 ∧ I T2)) →
    ∀ T, I T → ∃ T', compL c g t e sw (L.map dg) T = .ok ((L.filter p).map f) T' ∧ I T'
  | [], _, T, i => ⟨T, by unfold List.map compL; rw [if_pos (hc T i)]; rfl, i⟩
  | a :: L, h, T, i => by
    obtain ⟨s1, T1, e1, e2, i1, e3⟩ := h a List.mem_cons_self T i
    rw [List.map_cons]
    unfold compL
    rw [if_pos (hc T i), e1]
    dsimp only
    rw [e2, Res.bind_ok]
    cases hp : p a with
    | true =>
      obtain ⟨T2, e4, i2⟩ := e3 hp
      obtain ⟨T3, e5, i3⟩ := compL_onI I hc L (fun x hx => h x (List.mem_cons_of_mem _ hx)) T2 i2
      exact ⟨T3, by rw [if_pos rfl, e4, Res.bind_ok, e5, Res.bind_ok, List.filter_cons, hp]; rfl, i3⟩
    | false =>
      obtain ⟨T3, e5, i3⟩ := compL_onI I hc L (fun x hx => h x (List.mem_cons_of_mem _ hx)) T1 i1
      exact ⟨T3, by rw [if_neg (by decide), e5, List.filter_cons, hp]; rfl, i3⟩
end
theorem rngD_on (n : Nat) : rngD 0 (n : Int) = (List.range n).map fun (i : Nat) => D.int (i : Int) := rngD_nat n
theorem fD_ix {c : Sch} {f : Nat} {q : Nat × Nat} (h : c.fs[f]? = some q) (S : Store) : oIx (.tup (c.fs.map fD)) (.int (f : Int)) S = .ok (fD q) S := by
  rw [oIx_tup, atI_nat, List.getElem?_map, h]; rfl
end WkL


set_option Elab.async false
set_option linter.all false
set_option maxRecDepth 100000
set_option maxHeartbeats 1000000
set_option autoImplicit false
/-! PvDraw: all carries, some drawn things, a drawn table. -/
namespace WkL
open PySem (Str)
open Wk
theorem fD_inj {p q : Nat × Nat} (h : fD p = fD q) : p = q := by
  unfold fD at h
  injection h with h1
  injection h1 with h2 h3
  injection h2 with h4
  injection h3 with h5 _
  injection h5 with h6
  exact Prod.ext (by omega) (by omega)
theorem int_inj {a b : Nat} (h : D.int (a : Int) = D.int (b : Int)) : a = b := by
  injection h with h1; omega
/-- the target of field f is that of field g -/
def sameT (c : Sch) (g f : Nat) : Bool := (c.fs[f]?.map (·.2)) == (c.fs[g]?.map (·.2))
def rowP (c : Sch) (g : Nat) : List (Nat × Nat) := ((List.range c.fs.length).filter (sameT c g)).map fun f => (g, f)
/-- all carries up to those from field n on, rising -/
def allP (c : Sch) (n : Nat) : List (Nat × Nat) := ((List.range n).map (rowP c)).flatten
theorem allP_succ (c : Sch) (n : Nat) : allP c (n + 1) = allP c n ++ rowP c n := by
  unfold allP; rw [List.range_succ, List.map_append, List.flatten_append]; simp
theorem mem_rowP {c : Sch} {g : Nat} {q : Nat × Nat} : q ∈ rowP c g ↔ q.1 = g ∧ q.2 < c.fs.length ∧ sameT c g q.2 = true := by
  unfold rowP
  rw [List.mem_map]
  constructor
  · rintro ⟨f, hf, rfl⟩
    rw [List.mem_filter, List.mem_range] at hf
    exact ⟨rfl, hf.1, hf.2⟩
  · rintro ⟨rfl, h1, h2⟩
    exact ⟨q.2, List.mem_filter.mpr ⟨List.mem_range.mpr h1, h2⟩, rfl⟩
theorem mem_allP {c : Sch} {n : Nat} {q : Nat × Nat} : q ∈ allP c n ↔ q.1 < n ∧ q.2 < c.fs.length ∧ sameT c q.1 q.2 = true := by
  induction n with
  | zero => simp [allP]
  | succ n ih =>
    rw [allP_succ, List.mem_append, ih, mem_rowP]
    constructor
    · rintro (⟨h1, h2⟩ | ⟨rfl, h2⟩)
      · exact ⟨by omega, h2⟩
      · exact ⟨by omega, h2⟩
    · rintro ⟨h1, h2⟩
      by_cases e : q.1 = n
      · subst e; exact .inr ⟨rfl, h2⟩
      · exact .inl ⟨by omega, h2⟩
theorem isCarry_iff {c : Sch} {q : Nat × Nat} : IsCarry c.fs q ↔ q.1 < c.fs.length ∧ q.2 < c.fs.length ∧ sameT c q.1 q.2 = true := by
  constructor
  · rintro ⟨a, b, z, h1, h2⟩
    exact ⟨(List.getElem?_eq_some_iff.mp h1).1, (List.getElem?_eq_some_iff.mp h2).1, by unfold sameT; rw [h1, h2]; simp⟩
  · rintro ⟨h1, h2, h3⟩
    unfold sameT at h3
    rw [List.getElem?_eq_getElem h1, List.getElem?_eq_getElem h2] at h3
    have h4 : c.fs[q.2].2 = c.fs[q.1].2 := by simpa using h3
    exact ⟨c.fs[q.1].1, c.fs[q.2].1, c.fs[q.1].2, by rw [List.getElem?_eq_getElem h1], by rw [List.getElem?_eq_getElem h2, ← h4]⟩
theorem allP_carry {c : Sch} {q : Nat × Nat} : q ∈ allP c c.fs.length ↔ IsCarry c.fs q := by rw [mem_allP, isCarry_iff]
theorem rowP_lt (c : Sch) (g : Nat) : (rowP c g).Pairwise ltN := by
  unfold rowP
  rw [List.pairwise_map]
  exact ((List.pairwise_lt_range (n := c.fs.length)).filter _).imp fun h => .inr ⟨rfl, h⟩
theorem allP_lt (c : Sch) : ∀ n, (allP c n).Pairwise ltN
  | 0 => .nil
  | n + 1 => by
    rw [allP_succ, List.pairwise_append]
    refine ⟨allP_lt c n, rowP_lt c n, fun a ha b hb => .inl ?_⟩
    have h1 := (mem_allP.mp ha).1
    have h2 := (mem_rowP.mp hb).1
    omega
theorem rowP_len (c : Sch) (g : Nat) : (rowP c g).length ≤ c.fs.length := by
  unfold rowP; rw [List.length_map]; exact Nat.le_trans (List.length_filter_le _ _) (by simp)
theorem allP_len (c : Sch) : ∀ n, (allP c n).length ≤ n * c.fs.length
  | 0 => by simp [allP]
  | n + 1 => by
    have h1 := allP_len c n
    have h2 := rowP_len c n
    rw [allP_succ, List.length_append, Nat.add_mul, Nat.one_mul]; omega
theorem allP_le {c : Sch} (hc : c.Ok) {n : Nat} (h : n ≤ c.fs.length) : (allP c n).length ≤ 1600 := by
  have h1 := allP_len c n
  have f40 := hc.f40
  have : n * c.fs.length ≤ 40 * 40 := Nat.mul_le_mul (by omega) f40
  omega
theorem law_pairs_ok {c : Sch} (hc : c.Ok) (S : Store) : ∃ l T, F__law_wv_pairs [c.d] S = .ok (.ref l) T ∧ T[l]? = some (.lst ((allP c c.fs.length).map fD)) ∧ Keep [] S T ∧ S.length ≤ l := by
  have f40 := hc.f40
  have r1 : -(4611686018427387904 : Int) ≤ (c.fs.length : Int) := by omega
  have r2 : (c.fs.length : Int) ≤ 16777216 := by omega
  obtain ⟨s', T, e, i, x, y, rfl, hi, g, K, hi2⟩ := forL_run (c := []) (g := .nm 2) (b := sExpr (eBM oExtend (eV 1) (eComp (iRng (eUn fLen (eOp oIx (eV 0) (eC (.int 2))))) (.nm 3) (tE (eOp oEq (eOp oIx (eOp oIx (eOp oIx (eV 0) (eC (.int 2))) (eV 3)) (eC (.int 1))) (eOp oIx (eOp oIx (eOp oIx (eV 0) (eC (.int 2))) (eV 2)) (eC (.int 1))))) (eTup (aCons (eV 2) (aCons (eV 3) aNil))) [3])))
    (fun rest s T => ∃ i x y, s = [some c.d, some (.ref S.length), x, y] ∧ rest = ((List.range c.fs.length).drop i).map (fun (j : Nat) => D.int (j : Int)) ∧ T[S.length]? = some (.lst ((allP c i).map fD)) ∧ Keep [] S T ∧ i ≤ c.fs.length) (fun _ _ _ _ => rfl) (by
      rintro d rest s T ⟨i, x, y, rfl, hd, g, K, _⟩
      have hi : i < c.fs.length := by
        refine Decidable.byContradiction fun q => ?_
        rw [List.drop_of_length_le (by simp; omega)] at hd
        simp at hd
      have hdr : (List.range c.fs.length).drop i = i :: (List.range c.fs.length).drop (i + 1) := by
        rw [List.drop_eq_getElem_cons (by simpa using hi)]; simp
      rw [hdr, List.map_cons, List.cons.injEq] at hd
      obtain ⟨rfl, rfl⟩ := hd
      have hq : c.fs[i]? = some c.fs[i] := List.getElem?_eq_getElem hi
      generalize c.fs[i] = q at hq
      have cp : compL [] (.nm 3) (tE (eOp oEq (eOp oIx (eOp oIx (eOp oIx (eV 0) (eC (.int 2))) (eV 3)) (eC (.int 1))) (eOp oIx (eOp oIx (eOp oIx (eV 0) (eC (.int 2))) (eV 2)) (eC (.int 1))))) (eTup (aCons (eV 2) (aCons (eV 3) aNil))) [some c.d, some (.ref S.length), some (.int (i : Int)), none] (rngD 0 (c.fs.length : Int)) T = .ok ((rowP c i).map fD) T := by
        rw [rngD_on]
        unfold rowP
        rw [List.map_map]
        refine compL_on (c := []) (S := T) (dg := fun (f : Nat) => D.int (f : Int)) rfl _ ?_
        intro f hf
        have hr : c.fs[f]? = some c.fs[f]! := by rw [List.getElem?_eq_getElem (List.mem_range.mp hf), getElem!_pos]
        generalize c.fs[f]! = r at hr
        have : ((r.2 : Int) == (q.2 : Int)) = sameT c i f := by
          unfold sameT
          rw [hq, hr, Bool.eq_iff_iff]
          simp; omega
        refine ⟨[some c.d, some (.ref S.length), some (.int (i : Int)), some (.int (f : Int))], rfl, ?_, fun _ => by simp [fD, LIM_val]⟩
        unfold Sch.d
        simp [hq, hr, fD, this]
      have g2 : (T ++ [Ob.lst ((rowP c i).map fD)])[S.length]? = some (.lst ((allP c i).map fD)) := by rw [List.getElem?_append_left (lt_of_get g)]; exact g
      have h1 := allP_le hc (n := i) (by omega)
      have h2 := rowP_len c i
      have ex := oExtend_lst g2 (get_last T (.lst ((rowP c i).map fD))) (by simp [LIM_val]; omega)
      rw [← List.map_append, ← allP_succ] at ex
      have il := isLst_lst g
      refine ⟨_, _, _, rfl, .inl (?_ : _ = Rs.nx [some c.d, some (.ref S.length), some (.int (i : Int)), y] ((T ++ [Ob.lst ((rowP c i).map fD)]).set S.length (.lst ((allP c (i + 1)).map fD)))), i + 1, _, _, rfl, rfl, get_set_self g2, ?_, hi⟩
      · have cp' : compL [] (.nm 3) (tE (eOp oEq (eOp oIx (eOp oIx (eOp oIx (eV 0) (eC (.int 2))) (eV 3)) (eC (.int 1))) (eOp oIx (eOp oIx (eOp oIx (eV 0) (eC (.int 2))) (eV 2)) (eC (.int 1))))) (eTup (aCons (eV 2) (aCons (eV 3) aNil))) (wipeE [some c.d, some (.ref S.length), some (.int (i : Int)), y] [3]) (rngD 0 (c.fs.length : Int)) T = .ok ((rowP c i).map fD) T := cp
        have it : iRng (eUn fLen (eOp oIx (eV 0) (eC (.int 2)))) [some c.d, some (.ref S.length), some (.int (i : Int)), y] T = .ok ⟨rngD 0 (c.fs.length : Int), []⟩ T := by
          unfold Sch.d; simp [r1, r2]
        simp only [sExpr_eq, eBM_eq, eV_eq, List.set_cons_succ, List.set_cons_zero, List.getElem?_cons_succ, List.getElem?_cons_zero, Res.bind_ok, il, if_true, eComp_eq, it, cp', noEx_ok, ex, ofE_ok]
      · exact (K.trans (Keep.push _ _ _)).new (Y := [S.length]) (Keep.set _ (.inl (by simp))) (by intro j hj; simp at hj; omega)) ((List.range c.fs.length).map fun (j : Nat) => D.int (j : Int)) [some c.d, some (.ref S.length), none, none] (S ++ [.lst []])
      ⟨0, none, none, rfl, rfl, by simp [allP], Keep.push _ _ _, by omega⟩
  have hi' : i = c.fs.length := by
    refine Decidable.byContradiction fun q => ?_
    rw [List.drop_eq_getElem_cons (by simp; omega)] at hi
    cases hi
  subst hi'
  refine ⟨S.length, T, ?_, g, K, Nat.le_refl _⟩
  rw [← rngD_on] at e
  have s1 : sSet 1 (eLst aNil) [some c.d, none, none, none] S = .nx [some c.d, some (.ref S.length), none, none] (S ++ [.lst []]) := by simp
  have s2 : sFor (iRng (eUn fLen (eOp oIx (eV 0) (eC (.int 2))))) (.nm 2) (sExpr (eBM oExtend (eV 1) (eComp (iRng (eUn fLen (eOp oIx (eV 0) (eC (.int 2))))) (.nm 3) (tE (eOp oEq (eOp oIx (eOp oIx (eOp oIx (eV 0) (eC (.int 2))) (eV 3)) (eC (.int 1))) (eOp oIx (eOp oIx (eOp oIx (eV 0) (eC (.int 2))) (eV 2)) (eC (.int 1))))) (eTup (aCons (eV 2) (aCons (eV 3) aNil))) [3]))) [some c.d, some (.ref S.length), none, none] (S ++ [.lst []]) = .nx [some c.d, some (.ref S.length), x, y] T := by
    have it : iRng (eUn fLen (eOp oIx (eV 0) (eC (.int 2)))) [some c.d, some (.ref S.length), none, none] (S ++ [.lst []]) = .ok ⟨rngD 0 (c.fs.length : Int), []⟩ (S ++ [.lst []]) := by
      unfold Sch.d; simp [r1, r2]
    rw [sFor_eq, it, ofE_ok]
    exact e
  have s3 : sRet (eV 1) [some c.d, some (.ref S.length), x, y] T = .rt (.ref S.length) T := by simp
  exact (mkF_eq 1 4 _ [c.d] S rfl).trans (by
    rw [show startE 4 [c.d] = [some c.d, none, none, none] from rfl]
    rw [show b__law_wv_pairs [some c.d, none, none, none] S = _ from nx_seq s1 (nx_seq s2 s3)])
/-- those of a list that are drawn -/
theorem some_ok {p l : Nat} {S : Store} {ds : List D} {m : Int} (hP : Pool p S) (hl : S[l]? = some (.lst ds)) (hlp : l ≠ p) (m0 : 0 < m) (m1 : m ≤ 1000) : ∃ ys T, F__law_wv_some [.ref p, .ref l, .int m] S = .ok (.tup ys) T ∧ ys.Sublist ds ∧ Keep [p] S T ∧ Pool p T := by
  obtain ⟨ys, T, e, pre, hpre, hsub, K, P1⟩ := compL_run (c := [(l, .lst ds)]) (g := .nm 3) (t := tE (eOp oEq (eCall F__law_wv_take (aCons (eV 0) (aCons (eV 2) aNil))) (eC (.int 0)))) (e := eV 3) (sw := [some (.ref p), some (.ref l), some (.int m), none])
    (fun rest acc T => ∃ pre, pre ++ rest = ds ∧ acc.Sublist pre ∧ Keep [p] S T ∧ Pool p T) (fun rest acc T ⟨_, _, _, K, _⟩ => by
      have := K.get hl (by simpa using hlp)
      simp [okC, this]) (by
      rintro d rest acc T ⟨pre, h1, h2, K, P1⟩
      obtain ⟨k, T1, e1, k0, k1, K1, P2, L1⟩ := take_ok (many := m) P1 m0 (by omega)
      refine ⟨[some (.ref p), some (.ref l), some (.int m), some d], T1, rfl, ?_⟩
      by_cases hk : k = 0
      · right
        exact ⟨d, T1, by simp [e1, hk], rfl, pre ++ [d], by simpa using h1, h2.append (List.Sublist.refl _), K.trans K1, P2⟩
      · left
        exact ⟨by simp [e1, hk], pre ++ [d], by simpa using h1, h2.trans (List.sublist_append_left _ _), K.trans K1, P2⟩) ds [] S ⟨[], rfl, List.Sublist.refl _, Keep.refl _ _, hP⟩
  rw [List.append_nil] at hpre
  subst hpre
  rw [List.nil_append] at hsub
  refine ⟨ys, T ++ [.lst ys], ?_, hsub, K.trans (Keep.push _ _ _), P1.push⟩
  have ft := fTuple_lst (get_last T (.lst ys))
  simp [F__law_wv_some, mkF, startE, hl, e, ft]
theorem sub_map {α : Type} {f : α → D} {L : List α} {ys : List D} (h : ys.Sublist (L.map f)) : ∃ M : List α, ys = M.map f ∧ M.Sublist L := by
  obtain ⟨M, h1, h2⟩ := List.sublist_map_iff.mp h
  exact ⟨M, h2, h1⟩
end WkL


set_option Elab.async false
set_option linter.all false
set_option maxRecDepth 100000
set_option maxHeartbeats 1000000
set_option autoImplicit false
/-! PvTabDraw: a drawn table. -/
namespace WkL
open PySem (Str)
open Wk
theorem cut_to (xs : List D) (m : Nat) : cutD xs none (some (m : Int)) = xs.take m := by
  unfold cutD slIx
  dsimp only
  rw [if_pos (Int.natCast_nonneg m)]
  simp
theorem hand_field_ok {c : Sch} {f : Nat} (hf : f < c.fs.length) (S : Store) : ∃ b, F__law_wv_hand_field [c.d, .int (f : Int)] S = .ok (.bl b) S := by
  have hq : c.fs[f]? = some c.fs[f] := List.getElem?_eq_getElem hf
  generalize c.fs[f] = q at hq
  refine ⟨decide ((q.1 : Int) < (c.h : Int)), ?_⟩
  unfold Sch.d
  simp [F__law_wv_hand_field, mkF, startE, hq, fD]
abbrev hnd (c : Sch) (f : Nat) : Bool := match c.fs[f]? with
  | some q => decide ((q.1 : Int) < (c.h : Int))
  | none => false
theorem hnd_ok {c : Sch} {f : Nat} (hf : f < c.fs.length) (S : Store) : F__law_wv_hand_field [c.d, .int (f : Int)] S = .ok (.bl (hnd c f)) S := by
  have hq : c.fs[f]? = some c.fs[f] := List.getElem?_eq_getElem hf
  generalize c.fs[f] = q at hq
  unfold hnd
  rw [hq]
  unfold Sch.d
  simp [F__law_wv_hand_field, mkF, startE, hq, fD]
theorem fields_lt (n : Nat) : (List.range n).Pairwise (· < ·) := List.pairwise_lt_range
theorem sorted_get {S : Store} (o : Ob) : (S ++ [o])[S.length]? = some o := get_last _ _
/-- the carries drawn, in a list; the fields in another one -/
structure DrawI (c : Sch) (P : List (Nat × Nat)) : Prop where
  nd : P.Nodup
  c400 : P.length ≤ 400
  cs : ∀ q ∈ P, IsCarry c.fs q
theorem sorted_tab {c : Sch} {P Q R : List (Nat × Nat)} (h : DrawI c P) (pm : Q.Perm P) (lt : Q.Pairwise ltN) (sub : R.Sublist Q) : R.length ≤ 400 ∧ R.Pairwise ltN ∧ ∀ q ∈ R, IsCarry c.fs q :=
  ⟨Nat.le_trans sub.length_le (by rw [pm.length_eq]; exact h.c400), lt.sublist sub, fun q hq => h.cs q (pm.mem_iff.mp (sub.subset hq))⟩
theorem table_drawn_ok {p : Nat} {c : Sch} (hc : c.Ok) {S : Store} (hP : Pool p S) : ∃ t T, F__law_wv_table [.ref p, c.d] S = .ok (Tab.d t) T ∧ TabOk c t ∧ Keep [p] S T ∧ Pool p T := by
  have f40 := hc.f40
  have hp := hP.lt
  have r1 : -(4611686018427387904 : Int) ≤ (c.fs.length : Int) := by omega
  have r2 : (c.fs.length : Int) ≤ 16777216 := by omega
  obtain ⟨k8, T1, e1, k80, k81, K1, P1, L1⟩ := take_ok (many := 8) hP (by decide) (by decide)
  generalize hT2 : T1 ++ [Ob.lst (rngD 0 (c.fs.length : Int))] = T2
  have P2 : Pool p T2 := by rw [← hT2]; exact P1.push
  have gf2 : T2[T1.length]? = some (.lst (intsN (List.range c.fs.length))) := by rw [← hT2, rngD_on]; exact get_last _ _
  have K2 : Keep [p] S T2 := by rw [← hT2]; exact K1.trans (Keep.push _ _ _)
  have nf : T1.length ≠ p := by have := K1.1; omega
  obtain ⟨l3, T3, e3, g3, K3, l3l⟩ := law_pairs_ok hc T2
  have P3 := P2.keep K3 (by simp)
  have gf3 := K3.get gf2 (by simp)
  have nl3 : l3 ≠ p := by have := K2.1; omega
  have ap := allP_le hc (Nat.le_refl _)
  obtain ⟨m4, es, T4, e4, g4, pm4, K4, P4, m4l⟩ := mixed_ok P3 g3 nl3 (by simp; omega)
  have gf4 := K4.get gf3 (by simpa using nf)
  obtain ⟨fs4, rfl, _, _⟩ := perm_fD (P := fun _ => True) pm4 (by
    intro d hd
    obtain ⟨q, _, rfl⟩ := List.mem_map.mp hd
    exact ⟨q, True.intro, rfl⟩)
  have pm5 := perm_unmap (fun _ _ => fD_inj) pm4
  have nd5 : fs4.Nodup := pm5.nodup_iff.mpr (ltN_nodup (allP_lt c _))
  generalize hPP : fs4.take 400 = PP
  have DI : DrawI c PP := ⟨by rw [← hPP]; exact nd5.sublist (List.take_sublist _ _), by rw [← hPP]; simp; omega, fun q hq => allP_carry.mp (pm5.mem_iff.mp ((List.take_sublist 400 fs4).subset (by rw [hPP]; exact hq)))⟩
  generalize hT5 : T4 ++ [Ob.lst (PP.map fD)] = T5
  have g5 : T5[T4.length]? = some (.lst (PP.map fD)) := by rw [← hT5]; exact get_last _ _
  have P5 : Pool p T5 := by rw [← hT5]; exact P4.push
  have gf5 : T5[T1.length]? = some (.lst (intsN (List.range c.fs.length))) := by rw [← hT5, List.getElem?_append_left (lt_of_get gf4)]; exact gf4
  have K5 : Keep [p] S T5 := by rw [← hT5]; exact ((K2.trans (K3.mono (by simp))).trans K4).trans (Keep.push _ _ _)
  have n5 : T4.length ≠ p := by have := K4.1; have := K3.1; have := K2.1; omega
  obtain ⟨QQ, e6, pm6, lt6⟩ := sorted_pairs g5 DI.nd
  have flt := fields_lt c.fs.length
  have fb : ∀ f ∈ List.range c.fs.length, f < c.fs.length := fun f hf => List.mem_range.mp hf
  have s1 : sPar 2 3 (eCall F__law_wv_take (aCons (eV 0) (aCons (eC (.int 8)) aNil))) (eUn fListRg (eUn fLen (eOp oIx (eV 1) (eC (.int 2))))) [some (.ref p), some c.d, none, none, none, none, none, none, none, none] S = .nx [some (.ref p), some c.d, some (.int k8), some (.ref T1.length), none, none, none, none, none, none] T2 := by
    unfold Sch.d
    simp [e1, r1, r2, hT2]
  have s2 : sSet 4 (eSlice (eCall F__law_wv_mixed (aCons (eV 0) (aCons (eCall F__law_wv_pairs (aCons (eV 1) aNil)) aNil))) oNone (oSome (eC (.int 400)))) [some (.ref p), some c.d, some (.int k8), some (.ref T1.length), none, none, none, none, none, none] T2 = .nx [some (.ref p), some c.d, some (.int k8), some (.ref T1.length), some (.ref T4.length), none, none, none, none, none] T5 := by
    have ct : cutD (fs4.map fD) none (some 400) = PP.map fD := by
      rw [show (400 : Int) = ((400 : Nat) : Int) from rfl, cut_to, ← hPP, List.map_take]
    have sl : slD (.ref m4) none (some 400) T4 = .ok (.ref T4.length) T5 := by
      unfold slD; dsimp only; rw [g4]; dsimp only; rw [ct, hT5]
    simp [eSlice, oNone, oSome, e3, e4, sl]
  -- the ways out
  have out : ∀ {t : Tab} {T : Store}, (sSeq (sIf (tE (eOp oLt (eV 2) (eC (.int 2)))) (sRet (eTup (aCons (eUn fTuple (eUn fSorted (eV 4))) (aCons (eUn fTuple (eV 3)) (aCons (eUn fTuple (eV 3)) aNil))))) sSkip)
    (sSeq (sIf (tE (eOp oEq (eV 2) (eC (.int 2)))) (sSeq (sSet 5 (eComp (iSeq (eUn fSorted (eV 4))) (.tp [(.nm 8), (.nm 9)]) (tE (eOp oNe (eCall F__law_wv_hand_field (aCons (eV 1) (aCons (eV 8) aNil))) (eCall F__law_wv_hand_field (aCons (eV 1) (aCons (eV 9) aNil))))) (eTup (aCons (eV 8) (aCons (eV 9) aNil))) [8, 9]))
    (sRet (eTup (aCons (eUn fTuple (eV 5)) (aCons (eUn fTuple (eV 3)) (aCons (eUn fTuple (eV 3)) aNil)))))) sSkip)
    (sSeq (sIf (tE (eOp oEq (eV 2) (eC (.int 3)))) (sSeq (sSet 5 (eComp (iSeq (eV 3)) (.nm 9) (tE (eCall F__law_wv_hand_field (aCons (eV 1) (aCons (eV 9) aNil)))) (eV 9) [9]))
    (sRet (eTup (aCons (eCall F__law_wv_some (aCons (eV 0) (aCons (eUn fSorted (eV 4)) (aCons (eC (.int 2)) aNil)))) (aCons (eUn fTuple (eV 5)) (aCons (eUn fTuple (eV 5)) aNil)))))) sSkip)
    (sSeq (sSet 6 (eCall F__law_wv_one (aCons (eV 0) (aCons (eLst (aCons (eC (.int 2)) (aCons (eC (.int 2)) (aCons (eC (.int 3)) aNil)))) aNil))))
    (sSeq (sIf (tAnd (tE (eOp oEq (eV 2) (eC (.int 4)))) (tE (eOp oEq (eCall F__law_wv_take (aCons (eV 0) (aCons (eC (.int 3)) aNil))) (eC (.int 0))))) (sRet (eTup (aCons (eTup aNil) (aCons (eTup aNil) (aCons (eTup aNil) aNil))))) sSkip)
    (sSeq (sSet 7 (eCall F__law_wv_some (aCons (eV 0) (aCons (eUn fSorted (eV 4)) (aCons (eV 6) aNil)))))
    (sRet (eTup (aCons (eV 7) (aCons (eCall F__law_wv_some (aCons (eV 0) (aCons (eV 3) (aCons (eV 6) aNil)))) (aCons (eCall F__law_wv_some (aCons (eV 0) (aCons (eV 3) (aCons (eV 6) aNil)))) aNil)))))))))))
      [some (.ref p), some c.d, some (.int k8), some (.ref T1.length), some (.ref T4.length), none, none, none, none, none] T5 = .rt t.d T → TabOk c t → Keep [p] S T → Pool p T → ∃ t T, F__law_wv_table [.ref p, c.d] S = .ok (Tab.d t) T ∧ TabOk c t ∧ Keep [p] S T ∧ Pool p T := by
    intro t T h h1 h2 h3
    refine ⟨t, T, ?_, h1, h2, h3⟩
    exact (mkF_eq 2 10 _ [.ref p, c.d] S rfl).trans (by
      rw [show startE 10 [D.ref p, c.d] = [some (.ref p), some c.d, none, none, none, none, none, none, none, none] from rfl]
      rw [show b__law_wv_table [some (.ref p), some c.d, none, none, none, none, none, none, none, none] S = _ from nx_seq s1 (nx_seq s2 h)])
  have ftf := fTuple_lst gf5
  generalize hT6 : T5 ++ [Ob.lst (QQ.map fD)] = T6 at e6
  have P6 : Pool p T6 := by rw [← hT6]; exact P5.push
  have g6 : T6[T5.length]? = some (.lst (QQ.map fD)) := by rw [← hT6]; exact get_last _ _
  have gf6 : T6[T1.length]? = some (.lst (intsN (List.range c.fs.length))) := by rw [← hT6, List.getElem?_append_left (lt_of_get gf5)]; exact gf5
  have K6 : Keep [p] S T6 := by rw [← hT6]; exact K5.trans (Keep.push _ _ _)
  have n6 : T5.length ≠ p := by have := K5.1; omega
  have ft6 := fTuple_lst g6
  have ftf6 := fTuple_lst gf6
  by_cases h2 : k8 < 2
  · obtain ⟨a1, a2, a3⟩ := sorted_tab DI pm6 lt6 (List.Sublist.refl _)
    refine out (t := ⟨QQ, List.range c.fs.length, List.range c.fs.length⟩) (T := T6) ?_ ⟨a1, a2, a3, flt, fb, flt, fb⟩ K6 P6
    unfold Tab.d
    simp [h2, e6, ft6, ftf6, LIM_val]
  by_cases h3 : k8 = 2
  · generalize hOO : QQ.filter (fun q => !(hnd c q.1 == hnd c q.2)) = OO
    obtain ⟨a1, a2, a3⟩ := sorted_tab DI pm6 lt6 (R := OO) (by rw [← hOO]; exact List.filter_sublist)
    have cp : compL [(T5.length, .lst (QQ.map fD))] (.tp [(.nm 8), (.nm 9)]) (tE (eOp oNe (eCall F__law_wv_hand_field (aCons (eV 1) (aCons (eV 8) aNil))) (eCall F__law_wv_hand_field (aCons (eV 1) (aCons (eV 9) aNil))))) (eTup (aCons (eV 8) (aCons (eV 9) aNil))) [some (.ref p), some c.d, some (.int 2), some (.ref T1.length), some (.ref T4.length), none, none, none, none, none] (QQ.map fD) T6 = .ok (OO.map fD) T6 := by
      rw [← hOO]
      refine compL_on (c := [(T5.length, .lst (QQ.map fD))]) (S := T6) (dg := fD) (p := fun q => !(hnd c q.1 == hnd c q.2)) (f := fD) (by simp [okC, g6]) QQ ?_
      intro q hq
      have hl := (DI.cs q (pm6.mem_iff.mp hq)).lt
      have h1 := hnd_ok hl.1 T6
      have h2 := hnd_ok hl.2 T6
      refine ⟨[some (.ref p), some c.d, some (.int 2), some (.ref T1.length), some (.ref T4.length), none, none, none, some (.int (q.1 : Int)), some (.int (q.2 : Int))], rfl, ?_, fun _ => by simp [fD, LIM_val]⟩
      generalize hnd c q.1 = x at h1 ⊢
      generalize hnd c q.2 = y at h2 ⊢
      have eb : oEq (.bl x) (.bl y) T6 = .ok (.bl (x == y)) T6 := rfl
      simp [h1, h2, eb]
    have g7 : (T6 ++ [Ob.lst (OO.map fD)])[T6.length]? = some (.lst (OO.map fD)) := get_last _ _
    have gf7 : (T6 ++ [Ob.lst (OO.map fD)])[T1.length]? = some (.lst (intsN (List.range c.fs.length))) := by rw [List.getElem?_append_left (lt_of_get gf6)]; exact gf6
    refine out (t := ⟨OO, List.range c.fs.length, List.range c.fs.length⟩) (T := T6 ++ [Ob.lst (OO.map fD)]) ?_ ⟨a1, a2, a3, flt, fb, flt, fb⟩ (K6.trans (Keep.push _ _ _)) P6.push
    unfold Tab.d
    subst h3
    simp [e6, g6, cp, fTuple_lst g7, fTuple_lst gf7, LIM_val]
  by_cases h4 : k8 = 3
  · generalize hOO : (List.range c.fs.length).filter (hnd c) = OO
    have cp : compL [(T1.length, .lst (intsN (List.range c.fs.length)))] (.nm 9) (tE (eCall F__law_wv_hand_field (aCons (eV 1) (aCons (eV 9) aNil)))) (eV 9) [some (.ref p), some c.d, some (.int 3), some (.ref T1.length), some (.ref T4.length), none, none, none, none, none] (intsN (List.range c.fs.length)) T5 = .ok (intsN OO) T5 := by
      rw [← hOO]
      refine compL_on (c := [(T1.length, .lst (intsN (List.range c.fs.length)))]) (S := T5) (dg := fun (f : Nat) => D.int (f : Int)) (p := hnd c) (f := fun (f : Nat) => D.int (f : Int)) (by simp [okC, gf5]) _ ?_
      intro f hf
      have h1 := hnd_ok (fb f hf) T5
      refine ⟨[some (.ref p), some c.d, some (.int 3), some (.ref T1.length), some (.ref T4.length), none, none, none, none, some (.int (f : Int))], rfl, ?_, fun _ => rfl⟩
      generalize hnd c f = x at h1 ⊢
      simp [h1]
    have olt : OO.Pairwise (· < ·) := by rw [← hOO]; exact flt.filter _
    have ob : ∀ f ∈ OO, f < c.fs.length := fun f hf => fb f (by rw [← hOO] at hf; exact (List.mem_filter.mp hf).1)
    generalize hT7 : T5 ++ [Ob.lst (intsN OO)] = T7
    have g7 : T7[T5.length]? = some (.lst (intsN OO)) := by rw [← hT7]; exact get_last _ _
    have g57 : T7[T4.length]? = some (.lst (PP.map fD)) := by rw [← hT7, List.getElem?_append_left (lt_of_get g5)]; exact g5
    have P7 : Pool p T7 := by rw [← hT7]; exact P5.push
    have K7 : Keep [p] S T7 := by rw [← hT7]; exact K5.trans (Keep.push _ _ _)
    obtain ⟨Q2, e7, pm7, lt7⟩ := sorted_pairs g57 DI.nd
    have n7 : T7.length ≠ p := by have := K7.1; omega
    obtain ⟨ys, T8, e8, sub8, K8, P8⟩ := some_ok (m := 2) (P7.push (X := [Ob.lst (Q2.map fD)])) (get_last T7 (.lst (Q2.map fD))) n7 (by decide) (by decide)
    obtain ⟨R, rfl, subR⟩ := sub_map sub8
    obtain ⟨a1, a2, a3⟩ := sorted_tab DI pm7 lt7 subR
    have g8 := ((Keep.push T7 [Ob.lst (Q2.map fD)] [p]).trans K8).get g7 (by simpa using n6)
    have ft8 := fTuple_lst g8
    refine out (t := ⟨R, OO, OO⟩) (T := T8) ?_ ⟨a1, a2, a3, olt, ob, olt, ob⟩ (K7.trans ((Keep.push _ _ _).trans K8)) P8
    unfold Tab.d
    subst h4
    simp [gf5, cp, hT7, e7, e8, ft8, LIM_val]
  -- the other forms
  generalize hl2 : ([.int 2, .int 2, .int 3] : List D) = LL
  have hlen : LL.length = 3 := by rw [← hl2]; rfl
  have n5' : T5.length ≠ p := n6
  obtain ⟨d9, T9, e9, hd9, K9, P9, L9⟩ := one_ok (P5.push (X := [Ob.lst LL])) (get_last T5 (.lst LL)) n5' (by omega) (by omega)
  obtain ⟨m, rfl, m0, m1⟩ : ∃ m : Int, d9 = .int m ∧ 0 < m ∧ m ≤ 1000 := by
    rw [← hl2] at hd9
    simp only [List.mem_cons, List.not_mem_nil, or_false] at hd9
    rcases hd9 with rfl | rfl | rfl
    · exact ⟨2, rfl, by decide, by decide⟩
    · exact ⟨2, rfl, by decide, by decide⟩
    · exact ⟨3, rfl, by decide, by decide⟩
  have K59 := (Keep.push T5 [Ob.lst LL] [p]).trans K9
  have g9 := K59.get g5 (by simpa using n5)
  have gf9 := K59.get gf5 (by simpa using nf)
  have K09 := K5.trans K59
  have s6 : sSet 6 (eCall F__law_wv_one (aCons (eV 0) (aCons (eLst (aCons (eC (.int 2)) (aCons (eC (.int 2)) (aCons (eC (.int 3)) aNil)))) aNil))) [some (.ref p), some c.d, some (.int k8), some (.ref T1.length), some (.ref T4.length), none, none, none, none, none] T5 = .nx [some (.ref p), some c.d, some (.int k8), some (.ref T1.length), some (.ref T4.length), none, some (.int m), none, none, none] T9 := by
    simp [LIM_val, hl2, hlen, e9]
  -- behind the test of form 4
  have rest : ∀ {T10 : Store}, Keep [p] S T10 → Pool p T10 → T10[T4.length]? = some (.lst (PP.map fD)) → T10[T1.length]? = some (.lst (intsN (List.range c.fs.length))) → ∃ t T, (sSeq (sSet 7 (eCall F__law_wv_some (aCons (eV 0) (aCons (eUn fSorted (eV 4)) (aCons (eV 6) aNil)))))
    (sRet (eTup (aCons (eV 7) (aCons (eCall F__law_wv_some (aCons (eV 0) (aCons (eV 3) (aCons (eV 6) aNil)))) (aCons (eCall F__law_wv_some (aCons (eV 0) (aCons (eV 3) (aCons (eV 6) aNil)))) aNil)))))) [some (.ref p), some c.d, some (.int k8), some (.ref T1.length), some (.ref T4.length), none, some (.int m), none, none, none] T10 = .rt (Tab.d t) T ∧ TabOk c t ∧ Keep [p] S T ∧ Pool p T := by
    intro T10 K10 P10 g10 gf10
    obtain ⟨Q2, e11, pm11, lt11⟩ := sorted_pairs g10 DI.nd
    have n10 : T10.length ≠ p := by have := K10.1; omega
    obtain ⟨ys, T12, e12, sub12, K12, P12⟩ := some_ok (m := m) (P10.push (X := [Ob.lst (Q2.map fD)])) (get_last T10 (.lst (Q2.map fD))) n10 m0 m1
    obtain ⟨R, rfl, subR⟩ := sub_map sub12
    obtain ⟨a1, a2, a3⟩ := sorted_tab DI pm11 lt11 subR
    have gf12 := ((Keep.push T10 [Ob.lst (Q2.map fD)] [p]).trans K12).get gf10 (by simpa using nf)
    obtain ⟨zs, T13, e13, sub13, K13, P13⟩ := some_ok (m := m) P12 gf12 nf m0 m1
    have gf13 := K13.get gf12 (by simpa using nf)
    obtain ⟨ws, T14, e14, sub14, K14, P14⟩ := some_ok (m := m) P13 gf13 nf m0 m1
    obtain ⟨Z, rfl, subZ⟩ := sub_map sub13
    obtain ⟨W, rfl, subW⟩ := sub_map sub14
    refine ⟨⟨R, Z, W⟩, T14, ?_, ⟨a1, a2, a3, flt.sublist subZ, fun f hf => fb f (subZ.subset hf), flt.sublist subW, fun f hf => fb f (subW.subset hf)⟩, (((K10.trans (Keep.push _ _ _)).trans K12).trans K13).trans K14, P14⟩
    unfold Tab.d
    simp [e11, e12, e13, e14, LIM_val]
  have q1 : ¬ k8 = 2 := h3
  by_cases h5 : k8 = 4
  · obtain ⟨k3, T10, e10, _, _, K10, P10, _⟩ := take_ok (many := 3) P9 (by decide) (by decide)
    by_cases hk : k3 = 0
    · refine out (t := ⟨[], [], []⟩) (T := T10) ?_ ⟨by simp, .nil, by simp, .nil, by simp, .nil, by simp⟩ (K09.trans K10) P10
      subst h5
      have s5 : sIf (tAnd (tE (eOp oEq (eV 2) (eC (.int 4)))) (tE (eOp oEq (eCall F__law_wv_take (aCons (eV 0) (aCons (eC (.int 3)) aNil))) (eC (.int 0))))) (sRet (eTup (aCons (eTup aNil) (aCons (eTup aNil) (aCons (eTup aNil) aNil))))) sSkip [some (.ref p), some c.d, some (.int 4), some (.ref T1.length), some (.ref T4.length), none, some (.int m), none, none, none] T9 = .rt (.tup [.tup [], .tup [], .tup []]) T10 := by
        simp [e10, hk, LIM_val]
      rw [nx_seq (s1 := [some (.ref p), some c.d, some (.int 4), some (.ref T1.length), some (.ref T4.length), none, none, none, none, none]) (S1 := T5) (by simp) rfl, nx_seq (s1 := [some (.ref p), some c.d, some (.int 4), some (.ref T1.length), some (.ref T4.length), none, none, none, none, none]) (S1 := T5) (by simp) rfl, nx_seq (s1 := [some (.ref p), some c.d, some (.int 4), some (.ref T1.length), some (.ref T4.length), none, none, none, none, none]) (S1 := T5) (by simp) rfl, nx_seq s6 rfl, sSeq_eq, s5]
      rfl
    · obtain ⟨t, T, e, ok, K, PT⟩ := rest (K09.trans K10) P10 (K10.get g9 (by simpa using n5)) (K10.get gf9 (by simpa using nf))
      refine out (t := t) (T := T) ?_ ok K PT
      subst h5
      have s5 : sIf (tAnd (tE (eOp oEq (eV 2) (eC (.int 4)))) (tE (eOp oEq (eCall F__law_wv_take (aCons (eV 0) (aCons (eC (.int 3)) aNil))) (eC (.int 0))))) (sRet (eTup (aCons (eTup aNil) (aCons (eTup aNil) (aCons (eTup aNil) aNil))))) sSkip [some (.ref p), some c.d, some (.int 4), some (.ref T1.length), some (.ref T4.length), none, some (.int m), none, none, none] T9 = .nx [some (.ref p), some c.d, some (.int 4), some (.ref T1.length), some (.ref T4.length), none, some (.int m), none, none, none] T10 := by
        simp [e10, hk, LIM_val]
      exact nx_seq (s1 := [some (.ref p), some c.d, some (.int 4), some (.ref T1.length), some (.ref T4.length), none, none, none, none, none]) (S1 := T5) (by simp) (nx_seq (s1 := [some (.ref p), some c.d, some (.int 4), some (.ref T1.length), some (.ref T4.length), none, none, none, none, none]) (S1 := T5) (by simp) (nx_seq (s1 := [some (.ref p), some c.d, some (.int 4), some (.ref T1.length), some (.ref T4.length), none, none, none, none, none]) (S1 := T5) (by simp) (nx_seq s6 (nx_seq s5 e))))
  · obtain ⟨t, T, e, ok, K, PT⟩ := rest K09 P9 g9 gf9
    refine out (t := t) (T := T) ?_ ok K PT
    have s5 : sIf (tAnd (tE (eOp oEq (eV 2) (eC (.int 4)))) (tE (eOp oEq (eCall F__law_wv_take (aCons (eV 0) (aCons (eC (.int 3)) aNil))) (eC (.int 0))))) (sRet (eTup (aCons (eTup aNil) (aCons (eTup aNil) (aCons (eTup aNil) aNil))))) sSkip [some (.ref p), some c.d, some (.int k8), some (.ref T1.length), some (.ref T4.length), none, some (.int m), none, none, none] T9 = .nx [some (.ref p), some c.d, some (.int k8), some (.ref T1.length), some (.ref T4.length), none, some (.int m), none, none, none] T9 := by
      simp [h5]
    exact nx_seq (s1 := [some (.ref p), some c.d, some (.int k8), some (.ref T1.length), some (.ref T4.length), none, none, none, none, none]) (S1 := T5) (by simp [h2]) (nx_seq (s1 := [some (.ref p), some c.d, some (.int k8), some (.ref T1.length), some (.ref T4.length), none, none, none, none, none]) (S1 := T5) (by simp [h3]) (nx_seq (s1 := [some (.ref p), some c.d, some (.int k8), some (.ref T1.length), some (.ref T4.length), none, none, none, none, none]) (S1 := T5) (by simp [h4]) (nx_seq s6 (nx_seq s5 e))))
end WkL


set_option Elab.async false
set_option linter.all false
set_option maxRecDepth 100000
set_option maxHeartbeats 1000000
set_option autoImplicit false
/-! PvUnion: dicts of things, each with True; rows of things put together, rising. -/
namespace WkL
open PySem (Str)
open Wk
@[simp] theorem aStar_eqU (a : FE) (r : FA) (s : Env) (S : Store) : aStar a r s S = (a s S).bind fun x S1 => match seqD S1 x with
  | some xs => (r s S1).bind fun ys S2 => .ok (xs ++ ys) S2
  | none => .bad := rfl
@[simp] theorem seqD_tup (S : Store) (ds : List D) : seqD S (.tup ds) = some ds := rfl
theorem seqD_lstU {S : Store} {l : Nat} {ds : List D} (h : S[l]? = some (.lst ds)) : seqD S (.ref l) = some ds := by
  unfold seqD; dsimp only; rw [h]
section
variable {α κ : Type} [DecidableEq α] [DecidableEq κ]
/-- things as keys, each with True -/
def kvG (k : α → κ) (L : List α) : List (κ × D) := L.map fun v => (k v, D.bl true)
def addG (L : List α) (v : α) : List α := if v ∈ L then L else L ++ [v]
theorem putG {k : α → κ} (hk : ∀ a b, k a = k b → a = b) (L : List α) (v : α) : putD (kvG k L) (k v) (.bl true) = kvG k (addG L v) := by
  have any : ((kvG k L).any fun kv => decide (kv.1 = k v)) = decide (v ∈ L) := by
    rw [Bool.eq_iff_iff, List.any_eq_true, decide_eq_true_iff]
    constructor
    · rintro ⟨x, hx, e⟩
      obtain ⟨w, hw, rfl⟩ := List.mem_map.mp hx
      exact hk _ _ (of_decide_eq_true e) ▸ hw
    · intro h
      exact ⟨_, List.mem_map.mpr ⟨v, h, rfl⟩, decide_eq_true rfl⟩
  unfold putD addG
  rw [any]
  by_cases h : v ∈ L
  · rw [if_pos (decide_eq_true h), if_pos h]
    unfold kvG
    rw [List.map_map]
    apply List.map_congr_left
    intro w _
    simp only [Function.comp_apply]
    split <;> rfl
  · rw [if_neg (by simpa using h), if_neg h]
    unfold kvG
    rw [List.map_append]; rfl
theorem mergeG {k : α → κ} (hk : ∀ a b, k a = k b → a = b) : ∀ (L M : List α), mergeD (kvG k M) (kvG k L) = kvG k (L.foldl addG M)
  | [], M => rfl
  | v :: L, M => by
    show mergeD (putD (kvG k M) (k v) (.bl true)) (kvG k L) = _
    rw [putG hk, mergeG hk L]; rfl
theorem mem_addG {L : List α} {v x : α} : x ∈ addG L v ↔ x ∈ L ∨ x = v := by
  unfold addG
  by_cases h : v ∈ L
  · rw [if_pos h]
    exact ⟨.inl, fun z => z.elim id fun e => e ▸ h⟩
  · rw [if_neg h]; simp
theorem addG_nodup {L : List α} {v : α} (h : L.Nodup) : (addG L v).Nodup := by
  unfold addG
  by_cases q : v ∈ L
  · rw [if_pos q]; exact h
  · rw [if_neg q, List.nodup_append]
    exact ⟨h, by simp, fun a ha b hb e => by simp at hb; subst hb; exact q (e ▸ ha)⟩
theorem addG_len (L : List α) (v : α) : (addG L v).length ≤ L.length + 1 := by
  unfold addG; split <;> simp
theorem fold_addG : ∀ (L M : List α), M.Nodup → (L.foldl addG M).Nodup ∧ (∀ x, x ∈ L.foldl addG M ↔ x ∈ M ∨ x ∈ L) ∧ (L.foldl addG M).length ≤ M.length + L.length
  | [], M, h => ⟨h, fun x => by simp, by simp⟩
  | v :: L, M, h => by
    obtain ⟨h1, h2, h3⟩ := fold_addG L (addG M v) (addG_nodup h)
    refine ⟨h1, fun x => ?_, ?_⟩
    · rw [List.foldl_cons, h2 x, mem_addG, List.mem_cons]
      constructor
      · rintro ((z | z) | z) <;> simp [z]
      · rintro (z | z | z) <;> simp [z]
    · have := addG_len M v
      rw [List.foldl_cons, List.length_cons]; omega
end
abbrev nk (v : Nat) : Kk := .inl (v : Int)
abbrev pk (q : Nat × Nat) : List Kk := [.inl (q.1 : Int), .inl (q.2 : Int)]
theorem nk_inj (a b : Nat) (h : nk a = nk b) : a = b := by have := Sum.inl.inj h; omega
theorem pk_inj (a b : Nat × Nat) (h : pk a = pk b) : a = b := by
  injection h with h1 h2
  injection h2 with h3 _
  have e1 := Sum.inl.inj h1
  have e2 := Sum.inl.inj h3
  exact Prod.ext (by omega) (by omega)
theorem sorted_nk {S : Store} {l : Nat} {L : List Nat} (h : S[l]? = some (.dk (kvG nk L))) (nd : L.Nodup) (hz : L.length ≤ 1000000) : ∃ M : List Nat, fSorted (.ref l) S = .ok (.ref S.length) (S ++ [.lst (intsN M)]) ∧ M.Perm L ∧ M.Pairwise (· < ·) := by
  obtain ⟨M, e, pm, lt⟩ := sorted_nats (S := [.lst (intsN L)]) (l := 0) (L := L) rfl nd
  refine ⟨M, ?_, pm, lt⟩
  have ks : (kvG nk L).map (fun kv => kD kv.1) = (L.map fun (f : Nat) => (f : Int)).map D.int := by
    unfold kvG; rw [List.map_map, List.map_map]; rfl
  have e2 : sortI (L.map fun (f : Nat) => (f : Int)) = M.map fun (f : Nat) => (f : Int) := by
    unfold fSorted at e
    dsimp only at e
    rw [show ([Ob.lst (intsN L)] : Store)[0]? = some (.lst (intsN L)) from rfl] at e
    dsimp only at e
    rw [intsN, intsN_int, intsD_map] at e
    dsimp only at e
    injection e with _ e3
    have e4 := List.append_cancel_left e3
    injection e4 with e5 _
    injection e5 with e6
    rw [intsN, intsN_int] at e6
    have inj : ∀ {a b : List Int}, a.map D.int = b.map D.int → a = b := by
      intro a
      induction a with
      | nil => intro b h; cases b with
        | nil => rfl
        | cons _ _ => cases h
      | cons x a ih => intro b h; cases b with
        | nil => cases h
        | cons y b =>
          rw [List.map_cons, List.map_cons] at h
          injection h with h1 h2
          injection h1 with h3
          rw [h3, ih h2]
    exact inj e6
  unfold fSorted
  dsimp only
  rw [h]
  dsimp only
  rw [ks, intsD_map]
  dsimp only
  rw [if_pos (by simp [LIM_val]; omega), e2, ← intsN_int]
theorem sorted_pk {S : Store} {l : Nat} {L : List (Nat × Nat)} (h : S[l]? = some (.dt (kvG pk L))) (nd : L.Nodup) (hz : L.length ≤ 1000000) : ∃ M : List (Nat × Nat), fSorted (.ref l) S = .ok (.ref S.length) (S ++ [.lst (M.map fD)]) ∧ M.Perm L ∧ M.Pairwise ltN := by
  have ks : (kvG pk L).map (fun kv => D.tup (kv.1.map kD)) = L.map fD := by
    unfold kvG; rw [List.map_map]; rfl
  have pm := sortP_perm (L.map prI)
  obtain ⟨qs, hq⟩ := prI_back (l := sortP (L.map prI)) fun x hx => by
    obtain ⟨q, _, e⟩ := List.mem_map.mp (pm.mem_iff.mp hx)
    exact ⟨q, e.symm⟩
  rw [hq] at pm
  have nd2 : (L.map prI).Nodup := List.Pairwise.map _ (fun a b (h : a ≠ b) z => h (prI_inj z)) nd
  have lt := sortP_lt nd2
  rw [hq, List.pairwise_map] at lt
  refine ⟨qs, ?_, perm_unmap (fun _ _ => prI_inj) pm, lt.imp fun {a b} z => ?_⟩
  · unfold fSorted
    dsimp only
    rw [h]
    dsimp only
    rw [ks, prsD_fD]
    dsimp only
    rw [if_pos (by simp [LIM_val]; omega), hq, List.map_map]
    rfl
  · have := ltPr_yes.mp z
    unfold ltN
    simp only at this
    omega
/-! ### dict comprehensions over rows -/
section
variable {c : Chk} {g : Tg} {fk fe : FE} {sw : Env} {α : Type}
theorem compD_on {S : Store} {dg : α → D} {k : α → Kk} {f : α → D} (hc : okC c S = true) : ∀ L : List α, (∀ a ∈ L, ∃ s1, gF g (dg a) sw = some s1 ∧ (∃ x, fk s1 S = .ok x S ∧ keyD x = some (k a)) ∧ fe s1 S = .ok (f a) S) →
    compD c g tTrue fk fe sw (L.map dg) S = .ok (L.map fun a => (k a, f a)) S
  | [], _ => by unfold List.map compD; rw [if_pos hc]
  | a :: L, h => by
    obtain ⟨s1, e1, ⟨x, e2, e3⟩, e4⟩ := h a List.mem_cons_self
    have ih := compD_on hc L fun x hx => h x (List.mem_cons_of_mem _ hx)
    rw [List.map_cons]
    unfold compD
    rw [if_pos hc, e1]
    dsimp only
    rw [tTrue_eq, Res.bind_ok, if_pos rfl, e2, Res.bind_ok, e4, Res.bind_ok, e3]
    dsimp only
    rw [ih]; rfl
theorem compT_on {S : Store} {dg : α → D} {k : α → List Kk} {f : α → D} (hc : okC c S = true) : ∀ L : List α, (∀ a ∈ L, ∃ s1, gF g (dg a) sw = some s1 ∧ (∃ x, fk s1 S = .ok x S ∧ keyT x = some (k a)) ∧ fe s1 S = .ok (f a) S) →
    compT c g tTrue fk fe sw (L.map dg) S = .ok (L.map fun a => (k a, f a)) S
  | [], _ => by unfold List.map compT; rw [if_pos hc]
  | a :: L, h => by
    obtain ⟨s1, e1, ⟨x, e2, e3⟩, e4⟩ := h a List.mem_cons_self
    have ih := compT_on hc L fun x hx => h x (List.mem_cons_of_mem _ hx)
    rw [List.map_cons]
    unfold compT
    rw [if_pos hc, e1]
    dsimp only
    rw [tTrue_eq, Res.bind_ok, if_pos rfl, e2, Res.bind_ok, e4, Res.bind_ok, e3]
    dsimp only
    rw [ih]; rfl
end
theorem compD_noT {c : Chk} {g : Tg} {fk fe : FE} {sw : Env} {S : Store} {d : D} {ds : List D} {s1 : Env} {x v : D} (hc : okC c S = true) (h1 : gF g d sw = some s1) (h2 : fk s1 S = .ok x S) (h3 : fe s1 S = .ok v S) (h4 : keyD x = none) : compD c g tTrue fk fe sw (d :: ds) S = .bad := by
  unfold compD
  rw [if_pos hc, h1]
  dsimp only
  rw [tTrue_eq, Res.bind_ok, if_pos rfl, h2, Res.bind_ok, h3, Res.bind_ok, h4]
@[simp] theorem orG_ok (d : D) (S : Store) (q : Res D) : orG (.ok d S) q = .ok d S := rfl
@[simp] theorem orG_bad (q : Res D) : orG .bad q = q := rfl
/-! ### together -/
theorem together_nats (L M : List Nat) (hl : L.length + M.length ≤ 10000) (S : Store) : ∃ (U : List Nat) (T : Store), F_together [.tup (intsN L), .tup (intsN M)] S = .ok (.tup (intsN U)) T ∧ U.Pairwise (· < ·) ∧ (∀ x, x ∈ U ↔ x ∈ L ∨ x ∈ M) ∧ Keep [] S T := by
  obtain ⟨nd, mem, len⟩ := fold_addG (L ++ M) [] .nil
  have mg := mergeG (k := nk) nk_inj (L ++ M) []
  have hlen : (L ++ M).length ≤ 10000 := by simp; exact hl
  have happ : intsN L ++ intsN M = intsN (L ++ M) := by simp
  have hmem : ∀ x, x ∈ L ++ M ↔ x ∈ L ∨ x ∈ M := fun x => List.mem_append
  generalize L ++ M = LL at *
  generalize LL.foldl addG [] = L0 at *
  have gl : (S ++ [Ob.lst (intsN LL)])[S.length]? = some (.lst (intsN LL)) := get_last _ _
  have cp : compD [(S.length, Ob.lst (intsN LL))] (.nm 3) tTrue (eV 3) (eC (.bl true)) [some (.tup (intsN L)), some (.tup (intsN M)), none, none] (intsN LL) (S ++ [Ob.lst (intsN LL)]) = .ok (kvG nk LL) (S ++ [Ob.lst (intsN LL)]) :=
    compD_on (c := [(S.length, Ob.lst (intsN LL))]) (dg := fun (v : Nat) => D.int (v : Int)) (k := nk) (f := fun _ => .bl true) (by simp [okC]) LL fun v _ => ⟨_, rfl, ⟨_, rfl, rfl⟩, rfl⟩
  have gd : (S ++ [Ob.lst (intsN LL)] ++ [Ob.dk (kvG nk L0)])[S.length + 1]? = some (.dk (kvG nk L0)) := by simp
  obtain ⟨U, e3, pm, lt⟩ := sorted_nk gd nd (by rw [List.length_nil] at len; omega)
  refine ⟨U, S ++ [Ob.lst (intsN LL)] ++ [Ob.dk (kvG nk L0)] ++ [.lst (intsN U)], ?_, lt, fun x => ?_, (Keep.push _ _ _).trans ((Keep.push _ _ _).trans (Keep.push _ _ _))⟩
  · have mg' : mergeD [] (kvG nk LL) = kvG nk L0 := mg
    have ft := fTuple_lst (get_last (S ++ [Ob.lst (intsN LL)] ++ [Ob.dk (kvG nk L0)]) (.lst (intsN U)))
    have st1 : sSet 2 (eDCompA (iSeq (eLst (aStar (eV 0) (aStar (eV 1) aNil)))) (.nm 3) tTrue (eV 3) (eC (.bl true)) [3]) [some (.tup (intsN L)), some (.tup (intsN M)), none, none] S = .nx [some (.tup (intsN L)), some (.tup (intsN M)), some (.ref (S.length + 1)), none] (S ++ [Ob.lst (intsN LL)] ++ [Ob.dk (kvG nk L0)]) := by
      have lst : eLst (aStar (eV 0) (aStar (eV 1) aNil)) [some (.tup (intsN L)), some (.tup (intsN M)), none, none] S = .ok (.ref S.length) (S ++ [Ob.lst (intsN LL)]) := by
        simp only [eLst_eq, aStar_eqU, eV_eq, List.getElem?_cons_succ, List.getElem?_cons_zero, Res.bind_ok, seqD_tup, aNil_eq, List.append_nil, happ]
        rw [if_pos (by rw [List.length_map, LIM_val]; omega)]
      have cp' : compD [(S.length, Ob.lst (intsN LL))] (.nm 3) tTrue (eV 3) (eC (.bl true)) (wipeE [some (.tup (intsN L)), some (.tup (intsN M)), none, none] [3]) (intsN LL) (S ++ [Ob.lst (intsN LL)]) = .ok (kvG nk LL) (S ++ [Ob.lst (intsN LL)]) := cp
      have dc : eDComp (iSeq (eLst (aStar (eV 0) (aStar (eV 1) aNil)))) (.nm 3) tTrue (eV 3) (eC (.bl true)) [3] [some (.tup (intsN L)), some (.tup (intsN M)), none, none] S = .ok (.ref (S ++ [Ob.lst (intsN LL)]).length) (S ++ [Ob.lst (intsN LL)] ++ [Ob.dk (kvG nk L0)]) := by
        simp only [eDComp_eq, iSeq_eq, lst, Res.bind_ok, gl, cp', noEx_ok, mg']
      have ln : (S ++ [Ob.lst (intsN LL)]).length = S.length + 1 := by simp
      show ofE (orG (eDComp _ _ _ _ _ _ _ S) _) _ _ = _
      rw [dc, orG_ok, ofE_ok, ln]
      rfl
    exact (mkF_eq 2 4 _ [.tup (intsN L), .tup (intsN M)] S rfl).trans (by
      rw [show startE 4 [D.tup (intsN L), .tup (intsN M)] = [some (.tup (intsN L)), some (.tup (intsN M)), none, none] from rfl]
      rw [show b_together [some (.tup (intsN L)), some (.tup (intsN M)), none, none] S = .rt (.tup (intsN U)) (S ++ [Ob.lst (intsN LL)] ++ [Ob.dk (kvG nk L0)] ++ [.lst (intsN U)]) from nx_seq st1 (by
        simp only [sRet_eq, eUn_eq, eV_eq, List.getElem?_cons_succ, List.getElem?_cons_zero, Res.bind_ok, e3, ft, ofE_ok])])
  · rw [pm.mem_iff, mem x, hmem]; simp
theorem together_pairs (L M : List (Nat × Nat)) (hl : L.length + M.length ≤ 10000) (S : Store) : ∃ (U : List (Nat × Nat)) (T : Store), F_together [.tup (L.map fD), .tup (M.map fD)] S = .ok (.tup (U.map fD)) T ∧ U.Pairwise ltN ∧ (∀ x, x ∈ U ↔ x ∈ L ∨ x ∈ M) ∧ Keep [] S T := by
  obtain ⟨nd, mem, len⟩ := fold_addG (L ++ M) [] .nil
  have mg := mergeG (k := pk) pk_inj (L ++ M) []
  have hlen : (L ++ M).length ≤ 10000 := by simp; exact hl
  have happ : L.map fD ++ M.map fD = (L ++ M).map fD := by simp
  have hmem : ∀ x, x ∈ L ++ M ↔ x ∈ L ∨ x ∈ M := fun x => List.mem_append
  generalize L ++ M = LL at *
  generalize LL.foldl addG [] = L0 at *
  have gl : (S ++ [Ob.lst (LL.map fD)])[S.length]? = some (.lst (LL.map fD)) := get_last _ _
  have lst : eLst (aStar (eV 0) (aStar (eV 1) aNil)) [some (.tup (L.map fD)), some (.tup (M.map fD)), none, none] S = .ok (.ref S.length) (S ++ [Ob.lst (LL.map fD)]) := by
    simp only [eLst_eq, aStar_eqU, eV_eq, List.getElem?_cons_succ, List.getElem?_cons_zero, Res.bind_ok, seqD_tup, aNil_eq, List.append_nil, happ]
    rw [if_pos (by rw [List.length_map, LIM_val]; omega)]
  have ln : (S ++ [Ob.lst (LL.map fD)]).length = S.length + 1 := by simp
  have main : ∀ (o : Ob), eDCompA (iSeq (eLst (aStar (eV 0) (aStar (eV 1) aNil)))) (.nm 3) tTrue (eV 3) (eC (.bl true)) [3] [some (.tup (L.map fD)), some (.tup (M.map fD)), none, none] S = .ok (.ref (S.length + 1)) (S ++ [Ob.lst (LL.map fD)] ++ [o]) →
      (∃ U : List (Nat × Nat), fSorted (.ref (S.length + 1)) (S ++ [Ob.lst (LL.map fD)] ++ [o]) = .ok (.ref (S ++ [Ob.lst (LL.map fD)] ++ [o]).length) (S ++ [Ob.lst (LL.map fD)] ++ [o] ++ [.lst (U.map fD)]) ∧ U.Pairwise ltN ∧ ∀ x, x ∈ U ↔ x ∈ LL) →
      ∃ (U : List (Nat × Nat)) (T : Store), F_together [.tup (L.map fD), .tup (M.map fD)] S = .ok (.tup (U.map fD)) T ∧ U.Pairwise ltN ∧ (∀ x, x ∈ U ↔ x ∈ L ∨ x ∈ M) ∧ Keep [] S T := by
    rintro o h1 ⟨U, e3, lt, mu⟩
    have ft := fTuple_lst (get_last (S ++ [Ob.lst (LL.map fD)] ++ [o]) (.lst (U.map fD)))
    refine ⟨U, S ++ [Ob.lst (LL.map fD)] ++ [o] ++ [.lst (U.map fD)], ?_, lt, fun x => by rw [mu, hmem], (Keep.push _ _ _).trans ((Keep.push _ _ _).trans (Keep.push _ _ _))⟩
    exact (mkF_eq 2 4 _ [.tup (L.map fD), .tup (M.map fD)] S rfl).trans (by
      rw [show startE 4 [D.tup (L.map fD), .tup (M.map fD)] = [some (.tup (L.map fD)), some (.tup (M.map fD)), none, none] from rfl]
      rw [show b_together [some (.tup (L.map fD)), some (.tup (M.map fD)), none, none] S = .rt (.tup (U.map fD)) (S ++ [Ob.lst (LL.map fD)] ++ [o] ++ [.lst (U.map fD)]) from nx_seq (s1 := [some (.tup (L.map fD)), some (.tup (M.map fD)), some (.ref (S.length + 1)), none]) (S1 := S ++ [Ob.lst (LL.map fD)] ++ [o]) (by rw [sSet_eq, h1]; rfl) (by
        simp only [sRet_eq, eUn_eq, eV_eq, List.getElem?_cons_succ, List.getElem?_cons_zero, Res.bind_ok, e3, ft, ofE_ok])])
  cases LL with
  | nil =>
    refine main (.dk []) ?_ ⟨[], ?_, .nil, fun x => Iff.rfl⟩
    · have dc : eDComp (iSeq (eLst (aStar (eV 0) (aStar (eV 1) aNil)))) (.nm 3) tTrue (eV 3) (eC (.bl true)) [3] [some (.tup (L.map fD)), some (.tup (M.map fD)), none, none] S = .ok (.ref (S.length + 1)) (S ++ [Ob.lst []] ++ [Ob.dk []]) := by
        simp only [eDComp_eq, iSeq_eq, lst, Res.bind_ok, gl]
        rw [List.map_nil] at gl ⊢
        unfold compD
        rw [if_pos (by simp [okC]), noEx_ok, Res.bind_ok]
        simp
        rfl
      show orG _ _ = _
      rw [dc, orG_ok]; rfl
    · unfold fSorted
      dsimp only
      rw [show (S ++ [Ob.lst (([] : List (Nat × Nat)).map fD)] ++ [Ob.dk []])[S.length + 1]? = some (.dk []) from by simp]
      simp [intsD, sortI]
  | cons q LL =>
    have hc : okC [(S.length, Ob.lst ((q :: LL).map fD))] (S ++ [Ob.lst ((q :: LL).map fD)]) = true := by simp [okC]
    have bad : eDComp (iSeq (eLst (aStar (eV 0) (aStar (eV 1) aNil)))) (.nm 3) tTrue (eV 3) (eC (.bl true)) [3] [some (.tup (L.map fD)), some (.tup (M.map fD)), none, none] S = .bad := by
      simp only [eDComp_eq, iSeq_eq, lst, Res.bind_ok, gl]
      rw [List.map_cons] at hc ⊢
      rw [compD_noT (s1 := [some (.tup (L.map fD)), some (.tup (M.map fD)), none, some (fD q)]) (x := fD q) (v := .bl true) hc rfl rfl rfl rfl]
      rfl
    have cp : compT [(S.length, Ob.lst ((q :: LL).map fD))] (.nm 3) tTrue (eV 3) (eC (.bl true)) (wipeE [some (.tup (L.map fD)), some (.tup (M.map fD)), none, none] [3]) ((q :: LL).map fD) (S ++ [Ob.lst ((q :: LL).map fD)]) = .ok (kvG pk (q :: LL)) (S ++ [Ob.lst ((q :: LL).map fD)]) :=
      compT_on (dg := fD) (k := pk) (f := fun _ => .bl true) hc (q :: LL) fun v _ => ⟨_, rfl, ⟨_, rfl, rfl⟩, rfl⟩
    have mg' : mergeD [] (kvG pk (q :: LL)) = kvG pk L0 := mg
    have gd : (S ++ [Ob.lst ((q :: LL).map fD)] ++ [Ob.dt (kvG pk L0)])[S.length + 1]? = some (.dt (kvG pk L0)) := by simp
    obtain ⟨U, e3, pm, lt⟩ := sorted_pk gd nd (by rw [List.length_nil] at len; omega)
    refine main (.dt (kvG pk L0)) ?_ ⟨U, e3, lt, fun x => by rw [pm.mem_iff, mem x]; simp⟩
    show orG _ _ = _
    rw [bad, orG_bad]
    show (iSeq _ _ S).bind _ = _
    simp only [iSeq_eq, lst, Res.bind_ok, gl, cp, noEx_ok, mg', ln]
end WkL


set_option Elab.async false
set_option linter.all false
set_option maxRecDepth 100000
set_option autoImplicit false
/-! PvBfs: a queue of kinds with their lengths, plain lists. -/
namespace WkL
open PySem (Str)
open Wk
theorem nodup_lt_len : ∀ {k : Nat} {l : List Nat}, l.Nodup → (∀ v ∈ l, v < k) → l.length ≤ k
  | 0, [], _, _ => Nat.le_refl _
  | 0, v :: l, _, h => absurd (h v List.mem_cons_self) (Nat.not_lt_zero _)
  | k + 1, l, nd, h => by
    have e := List.length_erase (a := k) (l := l)
    have ih := nodup_lt_len (k := k) (l := l.erase k) (nd.erase k) (fun v hv => by
      have hm := (List.Nodup.mem_erase_iff nd).mp hv
      have := h v hm.2
      have := hm.1
      omega)
    split at e <;> omega
abbrev As := List (Nat × Nat)
abbrev keysA (A : As) : List Nat := A.map (·.1)
theorem as_uniq {A : As} (nd : (keysA A).Nodup) {v n m : Nat} (h : (v, n) ∈ A) (k : (v, m) ∈ A) : n = m := by
  induction A with
  | nil => cases h
  | cons p A ih =>
    rw [keysA, List.map_cons, List.nodup_cons] at nd
    rcases List.mem_cons.mp h with e | h1
    · rcases List.mem_cons.mp k with e2 | k1
      · rw [← e] at e2; cases e2; rfl
      · exact absurd (List.mem_map.mpr ⟨_, k1, by rw [← e]⟩) nd.1
    · rcases List.mem_cons.mp k with e2 | k1
      · exact absurd (List.mem_map.mpr ⟨_, h1, by rw [← e2]⟩) nd.1
      · exact ih nd.2 h1 k1
theorem mem_keys {A : As} {v : Nat} : v ∈ keysA A ↔ ∃ n, (v, n) ∈ A := by
  constructor
  · intro h
    obtain ⟨⟨a, n⟩, h1, rfl⟩ := List.mem_map.mp h
    exact ⟨n, h1⟩
  · rintro ⟨n, h⟩
    exact List.mem_map.mpr ⟨_, h, rfl⟩
structure BfsI (fs : List (Nat × Nat)) (src : Nat → Prop) (k : Nat) (A : As) (W : List Nat) (pend : Nat → Nat → Prop) : Prop where
  nd : (keysA A).Nodup
  lt : ∀ v n, (v, n) ∈ A → v < k
  sound : ∀ v n, (v, n) ∈ A → Rch fs src n v
  src0 : ∀ v, src v → (v, 0) ∈ A
  inW : ∀ w ∈ W, w ∈ keysA A
  clo : ∀ v n x, (v, n) ∈ A → v ∉ W → (v, x) ∈ fs → (∃ m, (x, m) ∈ A ∧ m ≤ n + 1) ∨ pend v x
  up : ∀ v n w m, (v, n) ∈ A → w ∈ W → (w, m) ∈ A → n ≤ m + 1
  srt : W.Pairwise fun w w' => ∀ m m', (w, m) ∈ A → (w', m') ∈ A → m ≤ m'
structure BfsU (A : As) (W : List Nat) (u nu : Nat) : Prop where
  hu : (u, nu) ∈ A
  all : ∀ v n, (v, n) ∈ A → n ≤ nu + 1
  low : ∀ w m, w ∈ W → (w, m) ∈ A → nu ≤ m
section
variable {fs : List (Nat × Nat)} {src : Nat → Prop} {k : Nat} {A : As} {W : List Nat} {pend pend' : Nat → Nat → Prop} {u nu : Nat}
theorem BfsI.len (I : BfsI fs src k A W pend) : A.length ≤ k := by
  have := nodup_lt_len I.nd (fun v hv => let ⟨n, h⟩ := mem_keys.mp hv; I.lt v n h)
  simpa using this
theorem BfsI.start {ks : List Nat} (nd : ks.Nodup) (hk : ∀ v ∈ ks, v < k) : BfsI fs (fun v => v ∈ ks) k (ks.map fun v => (v, 0)) ks fun _ _ => False where
  nd := by simpa [Function.comp_def] using nd
  lt := fun v n h => by
    obtain ⟨a, h1, e⟩ := List.mem_map.mp h
    cases e; exact hk _ h1
  sound := fun v n h => by
    obtain ⟨a, h1, e⟩ := List.mem_map.mp h
    cases e; exact h1
  src0 := fun v h => List.mem_map.mpr ⟨v, h, rfl⟩
  inW := fun w h => mem_keys.mpr ⟨0, List.mem_map.mpr ⟨w, h, rfl⟩⟩
  clo := fun v n x h nW _ => by
    obtain ⟨a, h1, e⟩ := List.mem_map.mp h
    cases e; exact absurd h1 nW
  up := fun v n w m h _ _ => by
    obtain ⟨a, h1, e⟩ := List.mem_map.mp h
    cases e; omega
  srt := by
    refine List.Pairwise.imp (R := fun _ _ => True) ?_ (by simp [List.pairwise_iff_getElem])
    intro a b _ m m' h _
    obtain ⟨_, _, e⟩ := List.mem_map.mp h
    cases e; omega
theorem BfsI.pop (I : BfsI fs src k A (u :: W) fun _ _ => False) : ∃ nu, BfsI fs src k A W (fun v x => v = u ∧ (v, x) ∈ fs) ∧ BfsU A W u nu := by
  obtain ⟨nu, hu⟩ := mem_keys.mp (I.inW u List.mem_cons_self)
  have sr := List.pairwise_cons.mp I.srt
  refine ⟨nu, ⟨I.nd, I.lt, I.sound, I.src0, fun w hw => I.inW w (List.mem_cons_of_mem _ hw), fun v n x h nW e => ?_, fun v n w m h hw hm => I.up v n w m h (List.mem_cons_of_mem _ hw) hm, sr.2⟩, ⟨hu, fun v n h => I.up v n u nu h List.mem_cons_self hu, fun w m hw hm => sr.1 w hw nu m hu hm⟩⟩
  by_cases q : v = u
  · exact .inr ⟨q, e⟩
  · rcases I.clo v n x h (fun z => (List.mem_cons.mp z).elim q nW) e with z | z
    · exact .inl z
    · exact z.elim
theorem BfsI.skip (I : BfsI fs src k A W pend) (h : ∀ v n x, (v, n) ∈ A → pend v x → (∃ m, (x, m) ∈ A ∧ m ≤ n + 1) ∨ pend' v x) : BfsI fs src k A W pend' :=
  ⟨I.nd, I.lt, I.sound, I.src0, I.inW, fun v n x hv nW e => (I.clo v n x hv nW e).elim .inl (h v n x hv), I.up, I.srt⟩
theorem BfsI.add (I : BfsI fs src k A W pend) (U : BfsU A W u nu) {t : Nat} (e : (u, t) ∈ fs) (nt : t ∉ keysA A) (ht : t < k) : BfsI fs src k (A ++ [(t, nu + 1)]) (W ++ [t]) pend ∧ BfsU (A ++ [(t, nu + 1)]) (W ++ [t]) u nu := by
  have old : ∀ {v n : Nat}, (v, n) ∈ A ++ [(t, nu + 1)] → (v, n) ∈ A ∨ (v = t ∧ n = nu + 1) := by
    intro v n h
    rcases List.mem_append.mp h with h | h
    · exact .inl h
    · have := List.mem_singleton.mp h
      cases this; exact .inr ⟨rfl, rfl⟩
  have oldK : ∀ {v n : Nat}, v ∈ keysA A → (v, n) ∈ A ++ [(t, nu + 1)] → (v, n) ∈ A := by
    intro v n hk h
    rcases old h with h | ⟨rfl, _⟩
    · exact h
    · exact absurd hk nt
  have all' : ∀ v n, (v, n) ∈ A ++ [(t, nu + 1)] → n ≤ nu + 1 := fun v n h => (old h).elim (U.all v n) fun ⟨_, q⟩ => by omega
  have low' : ∀ w m, w ∈ W ++ [t] → (w, m) ∈ A ++ [(t, nu + 1)] → nu ≤ m := by
    intro w m hw hm
    rcases old hm with h | ⟨_, q⟩
    · rcases List.mem_append.mp hw with z | z
      · exact U.low w m z h
      · have : w = t := by simpa using z
        subst this
        exact absurd (mem_keys.mpr ⟨m, h⟩) nt
    · omega
  refine ⟨⟨?_, ?_, ?_, ?_, ?_, ?_, ?_, ?_⟩, ⟨List.mem_append_left _ U.hu, all', low'⟩⟩
  · rw [keysA, List.map_append, List.nodup_append]
    exact ⟨I.nd, by simp, fun a ha b hb z => by
      have : b = t := by simpa using hb
      subst this; subst z; exact nt ha⟩
  · intro v n h
    rcases old h with h | ⟨rfl, _⟩
    · exact I.lt v n h
    · exact ht
  · intro v n h
    rcases old h with h | ⟨rfl, rfl⟩
    · exact I.sound v n h
    · exact .inr ⟨u, I.sound u nu U.hu, e⟩
  · exact fun v h => List.mem_append_left _ (I.src0 v h)
  · intro w hw
    rw [keysA, List.map_append]
    rcases List.mem_append.mp hw with z | z
    · exact List.mem_append_left _ (I.inW w z)
    · exact List.mem_append_right _ (by simpa using z)
  · intro v n x h nW ex
    rcases old h with h | ⟨rfl, _⟩
    · rcases I.clo v n x h (fun z => nW (List.mem_append_left _ z)) ex with ⟨m, a, b⟩ | z
      · exact .inl ⟨m, List.mem_append_left _ a, b⟩
      · exact .inr z
    · exact absurd (List.mem_append_right _ (by simp)) nW
  · intro v n w m h hw hm
    have := all' v n h
    have := low' w m hw hm
    omega
  · rw [List.pairwise_append]
    refine ⟨?_, by simp, fun a ha b hb m m' hm hm' => ?_⟩
    · refine List.Pairwise.imp_of_mem ?_ I.srt
      intro a b ha hb h m m' hm hm'
      exact h m m' (oldK (I.inW a ha) hm) (oldK (I.inW b hb) hm')
    · have : b = t := by simpa using hb
      subst this
      have q : m' = nu + 1 := by
        rcases old hm' with z | ⟨_, z⟩
        · exact absurd (mem_keys.mpr ⟨m', z⟩) nt
        · exact z
      have := all' a m hm
      omega
/-- with an empty queue the lengths are the distances -/
theorem BfsI.dist (I : BfsI fs src k A [] fun _ _ => False) : (∀ v n, (v, n) ∈ A → IsDist fs src n v) ∧ ∀ v, Reach fs src v → ∃ n, (v, n) ∈ A :=
  dist_of (val := fun v n => (v, n) ∈ A) I.sound (fun v h => ⟨0, I.src0 v h, Nat.le_refl _⟩) (fun a v n h e => (I.clo a n v h (by simp) e).resolve_right id) fun v n m h h' => as_uniq I.nd h h'
end
/-! ### the dict of it -/
def kvA (A : As) : List (Kk × D) := A.map fun p => ((Sum.inl (p.1 : Int) : Kk), D.int (p.2 : Int))
theorem kk_inj {a b : Nat} : (Sum.inl (a : Int) : Kk) = Sum.inl (b : Int) ↔ a = b := by
  constructor
  · intro h
    have := Sum.inl.inj h
    omega
  · rintro rfl; rfl
theorem valD_some {A : As} (nd : (keysA A).Nodup) {v n : Nat} (h : (v, n) ∈ A) : valD (kvA A) (Sum.inl (v : Int)) = some (.int (n : Int)) := by
  induction A with
  | nil => cases h
  | cons p A ih =>
    unfold valD kvA
    rw [List.map_cons, List.find?_cons]
    by_cases q : p.1 = v
    · have : decide ((Sum.inl (p.1 : Int) : Kk) = Sum.inl (v : Int)) = true := decide_eq_true (kk_inj.mpr q)
      rw [this]
      have e := as_uniq nd h (show (v, p.2) ∈ p :: A by rw [← q]; exact List.mem_cons_self)
      rw [e]; rfl
    · have : decide ((Sum.inl (p.1 : Int) : Kk) = Sum.inl (v : Int)) = false := decide_eq_false fun z => q (kk_inj.mp z)
      rw [this]
      rw [keysA, List.map_cons, List.nodup_cons] at nd
      have h' : (v, n) ∈ A := by
        rcases List.mem_cons.mp h with e | e
        · rw [← e] at q; exact absurd rfl q
        · exact e
      exact ih nd.2 h'
theorem valD_none {A : As} {v : Nat} (h : v ∉ keysA A) : valD (kvA A) (Sum.inl (v : Int)) = none := by
  induction A with
  | nil => rfl
  | cons p A ih =>
    unfold valD kvA
    rw [List.map_cons, List.find?_cons]
    rw [keysA, List.map_cons, List.mem_cons, not_or] at h
    have : decide ((Sum.inl (p.1 : Int) : Kk) = Sum.inl (v : Int)) = false := decide_eq_false fun z => h.1 (kk_inj.mp z).symm
    rw [this]
    exact ih h.2
theorem putD_new {A : As} {v n : Nat} (h : v ∉ keysA A) : putD (kvA A) (Sum.inl (v : Int)) (.int (n : Int)) = kvA (A ++ [(v, n)]) := by
  unfold putD
  rw [if_neg]
  · simp [kvA]
  · intro z
    obtain ⟨p, hp, e⟩ := List.any_eq_true.mp z
    obtain ⟨q, hq, rfl⟩ := List.mem_map.mp hp
    have := kk_inj.mp (of_decide_eq_true e)
    exact h (by rw [← this]; exact List.mem_map.mpr ⟨q, hq, rfl⟩)
theorem mergeD_nd : ∀ {B A : As}, (keysA (A ++ B)).Nodup → mergeD (kvA A) (kvA B) = kvA (A ++ B)
  | [], A, _ => by simp [mergeD, kvA]
  | p :: B, A, h => by
    have np : p.1 ∉ keysA A := by
      intro z
      rw [keysA, List.map_append, List.nodup_append] at h
      exact h.2.2 _ z _ (by simp) rfl
    have := mergeD_nd (B := B) (A := A ++ [p]) (by simpa using h)
    unfold mergeD at this ⊢
    unfold kvA at this ⊢
    rw [List.map_cons, List.foldl_cons]
    have e := putD_new (n := p.2) np
    unfold kvA at e
    rw [e]
    simpa using this
section
variable {fs : List (Nat × Nat)} {src : Nat → Prop} {k : Nat} {A : As} {W : List Nat} {pend pend' : Nat → Nat → Prop} {u nu : Nat}
theorem BfsI.edge_in (I : BfsI fs src k A W pend) (U : BfsU A W u nu) {t : Nat} (ht : t ∈ keysA A) (h : ∀ v x, pend v x → pend' v x ∨ (v = u ∧ x = t)) : BfsI fs src k A W pend' :=
  I.skip fun v n x hv hp => by
    rcases h v x hp with z | ⟨rfl, rfl⟩
    · exact .inr z
    · obtain ⟨m, hm⟩ := mem_keys.mp ht
      have := U.all _ m hm
      have e := as_uniq I.nd hv U.hu
      exact .inl ⟨m, hm, by omega⟩
end
/-! ### dicts of the store -/
theorem oInD_some {S : Store} {l : Nat} {kvs : List (Kk × D)} {v : Nat} {d : D} (h : S[l]? = some (.dk kvs)) (e : valD kvs (Sum.inl (v : Int)) = some d) : oInD (.int (v : Int)) (.ref l) S = .ok (.bl true) S := by
  unfold oInD getD; dsimp only; rw [h]; dsimp only [keyD]; rw [e]; rfl
theorem oInD_none {S : Store} {l : Nat} {kvs : List (Kk × D)} {v : Nat} (h : S[l]? = some (.dk kvs)) (e : valD kvs (Sum.inl (v : Int)) = none) : oInD (.int (v : Int)) (.ref l) S = .ok (.bl false) S := by
  unfold oInD getD; dsimp only; rw [h]; dsimp only [keyD]; rw [e]; rfl
theorem oIxD_some {S : Store} {l : Nat} {kvs : List (Kk × D)} {v : Nat} {d : D} (h : S[l]? = some (.dk kvs)) (e : valD kvs (Sum.inl (v : Int)) = some d) : oIxD (.ref l) (.int (v : Int)) S = .ok d S := by
  unfold oIxD getD; dsimp only; rw [h]; dsimp only [keyD]; rw [e]
theorem uSetD_nat {S : Store} {l : Nat} {kvs : List (Kk × D)} {v : Nat} {d : D} (h : S[l]? = some (.dk kvs)) (hz : kvs.length < LIM) : uSetD (.ref l) (.int (v : Int)) d S = some (S.set l (.dk (putD kvs (Sum.inl (v : Int)) d))) := by
  unfold uSetD; dsimp only; rw [h]; dsimp only [keyD]; rw [if_pos hz]
theorem inD_A {S : Store} {l : Nat} {A : As} (nd : (keysA A).Nodup) (h : S[l]? = some (.dk (kvA A))) (v : Nat) : oInD (.int (v : Int)) (.ref l) S = .ok (.bl (decide (v ∈ keysA A))) S := by
  by_cases q : v ∈ keysA A
  · obtain ⟨n, hn⟩ := mem_keys.mp q
    rw [oInD_some h (valD_some nd hn), decide_eq_true q]
  · rw [oInD_none h (valD_none q), decide_eq_false q]
end WkL


set_option Elab.async false
set_option linter.all false
set_option maxRecDepth 100000
set_option maxHeartbeats 1000000
set_option autoImplicit false
/-! Pk06a: the full table; tables joined; a table within another. -/
namespace WkL
open PySem (Str)
open Wk
def fullT (c : Sch) : Tab := ⟨allP c c.fs.length, List.range c.fs.length, List.range c.fs.length⟩
def fullR (c : Sch) (T : Store) : Res D := if (allP c c.fs.length).length ≤ 400 then .ok (fullT c).d T else .ex "TooMany" (.int ((allP c c.fs.length).length : Int)) T
theorem range_drop {n i : Nat} {d : D} {rest : List D} (hd : d :: rest = ((List.range n).drop i).map fun (j : Nat) => D.int (j : Int)) : i < n ∧ d = .int (i : Int) ∧ rest = ((List.range n).drop (i + 1)).map fun (j : Nat) => D.int (j : Int) := by
  have hi : i < n := by
    refine Decidable.byContradiction fun q => ?_
    rw [List.drop_of_length_le (by simp; omega)] at hd
    simp at hd
  have hdr : (List.range n).drop i = i :: (List.range n).drop (i + 1) := by
    rw [List.drop_eq_getElem_cons (by simpa using hi)]; simp
  rw [hdr, List.map_cons, List.cons.injEq] at hd
  exact ⟨hi, hd.1, hd.2⟩
theorem range_done {n i : Nat} (hd : ([] : List D) = ((List.range n).drop i).map fun (j : Nat) => D.int (j : Int)) (h : i ≤ n) : i = n := by
  refine Decidable.byContradiction fun q => ?_
  rw [List.drop_eq_getElem_cons (by simp; omega)] at hd
  cases hd
theorem sameT_comm (c : Sch) (g f : Nat) : sameT c g f = sameT c f g := by
  unfold sameT
  rw [Bool.eq_iff_iff, beq_iff_eq, beq_iff_eq]
  exact ⟨Eq.symm, Eq.symm⟩
theorem full_table_ok {c : Sch} (hc : c.Ok) (S : Store) : ∃ T, F_full_table [c.d] S = fullR c T ∧ Keep [] S T := by
  have f40 := hc.f40
  have r1 : -(4611686018427387904 : Int) ≤ (c.fs.length : Int) := by omega
  have r2 : (c.fs.length : Int) ≤ 16777216 := by omega
  have e0 := made_ok hc S
  generalize hS1 : S ++ [Ob.lst (c.fs.map fD)] = S1 at e0
  have K1 : Keep [] S S1 := by rw [← hS1]; exact Keep.push _ _ _
  obtain ⟨s', T, e, i, x, y, rfl, hi, g, K, hi2⟩ := forL_run (c := []) (g := .nm 3) (b := (sExpr (eBM oExtend (eV 2) (eComp (iSeq (eV 1)) (.nm 4) (tE (eOp oEq (eOp oIx (eOp oIx (eOp oIx (eV 0) (eC (.int 2))) (eV 3)) (eC (.int 1))) (eOp oIx (eOp oIx (eOp oIx (eV 0) (eC (.int 2))) (eV 4)) (eC (.int 1))))) (eTup (aCons (eV 3) (aCons (eV 4) aNil))) [4]))))
    (fun rest s T => ∃ i x y, s = [some c.d, some (.tup (intsN (List.range c.fs.length))), some (.ref S1.length), x, y] ∧ rest = ((List.range c.fs.length).drop i).map (fun (j : Nat) => D.int (j : Int)) ∧ T[S1.length]? = some (.lst ((allP c i).map fD)) ∧ Keep [] S1 T ∧ i ≤ c.fs.length) (fun _ _ _ _ => rfl) (by
      rintro d rest s T ⟨i, x, y, rfl, hd, g, K, _⟩
      obtain ⟨hi, rfl, rfl⟩ := range_drop hd
      have hq : c.fs[i]? = some c.fs[i] := List.getElem?_eq_getElem hi
      generalize c.fs[i] = q at hq
      have cp : compL [] (.nm 4) (tE (eOp oEq (eOp oIx (eOp oIx (eOp oIx (eV 0) (eC (.int 2))) (eV 3)) (eC (.int 1))) (eOp oIx (eOp oIx (eOp oIx (eV 0) (eC (.int 2))) (eV 4)) (eC (.int 1))))) (eTup (aCons (eV 3) (aCons (eV 4) aNil))) [some c.d, some (.tup (intsN (List.range c.fs.length))), some (.ref S1.length), some (.int (i : Int)), none] (intsN (List.range c.fs.length)) T = .ok ((rowP c i).map fD) T := by
        unfold rowP
        rw [List.map_map]
        refine compL_on (c := []) (S := T) (dg := fun (f : Nat) => D.int (f : Int)) rfl _ ?_
        intro f hf
        have hr : c.fs[f]? = some c.fs[f]! := by rw [List.getElem?_eq_getElem (List.mem_range.mp hf), getElem!_pos]
        generalize c.fs[f]! = r at hr
        have : ((q.2 : Int) == (r.2 : Int)) = sameT c i f := by
          unfold sameT
          rw [hq, hr, Bool.eq_iff_iff]
          simp; omega
        refine ⟨[some c.d, some (.tup (intsN (List.range c.fs.length))), some (.ref S1.length), some (.int (i : Int)), some (.int (f : Int))], rfl, ?_, fun _ => by simp [fD, LIM_val]⟩
        unfold Sch.d
        simp [hq, hr, fD, this]
      have g2 : (T ++ [Ob.lst ((rowP c i).map fD)])[S1.length]? = some (.lst ((allP c i).map fD)) := by rw [List.getElem?_append_left (lt_of_get g)]; exact g
      have h1 := allP_le hc (n := i) (by omega)
      have h2 := rowP_len c i
      have ex := oExtend_lst g2 (get_last T (.lst ((rowP c i).map fD))) (by simp [LIM_val]; omega)
      rw [← List.map_append, ← allP_succ] at ex
      have il := isLst_lst g
      refine ⟨_, _, _, rfl, .inl (?_ : _ = Rs.nx [some c.d, some (.tup (intsN (List.range c.fs.length))), some (.ref S1.length), some (.int (i : Int)), y] ((T ++ [Ob.lst ((rowP c i).map fD)]).set S1.length (.lst ((allP c (i + 1)).map fD)))), i + 1, _, _, rfl, rfl, get_set_self g2, ?_, hi⟩
      · have cp' : compL [] (.nm 4) (tE (eOp oEq (eOp oIx (eOp oIx (eOp oIx (eV 0) (eC (.int 2))) (eV 3)) (eC (.int 1))) (eOp oIx (eOp oIx (eOp oIx (eV 0) (eC (.int 2))) (eV 4)) (eC (.int 1))))) (eTup (aCons (eV 3) (aCons (eV 4) aNil))) (wipeE [some c.d, some (.tup (intsN (List.range c.fs.length))), some (.ref S1.length), some (.int (i : Int)), y] [4]) (intsN (List.range c.fs.length)) T = .ok ((rowP c i).map fD) T := cp
        simp only [sExpr_eq, eBM_eq, eV_eq, List.set_cons_succ, List.set_cons_zero, List.getElem?_cons_succ, List.getElem?_cons_zero, Res.bind_ok, il, if_true, eComp_eq, iSeq_eq, cp', noEx_ok, ex, ofE_ok]
      · exact (K.trans (Keep.push _ _ _)).new (Y := [S1.length]) (Keep.set _ (.inl (by simp))) (by intro j hj; simp at hj; omega)) ((List.range c.fs.length).map fun (j : Nat) => D.int (j : Int)) [some c.d, some (.tup (intsN (List.range c.fs.length))), some (.ref S1.length), none, none] (S1 ++ [.lst []])
      ⟨0, none, none, rfl, rfl, by simp [allP], Keep.push _ _ _, by omega⟩
  obtain rfl := range_done hi hi2
  refine ⟨T, ?_, K1.trans K⟩
  have s1 : (sExpr (eCall F_made_schema (aCons (eV 0) aNil))) [some c.d, none, none, none, none] S = .nx [some c.d, none, none, none, none] S1 := by simp [e0]
  have s2 : (sSet 1 (eUn fTupRg (eUn fLen (eOp oIx (eV 0) (eC (.int 2)))))) [some c.d, none, none, none, none] S1 = .nx [some c.d, some (.tup (intsN (List.range c.fs.length))), none, none, none] S1 := by
    have : fTupRg (.int (c.fs.length : Int)) S1 = .ok (.tup (intsN (List.range c.fs.length))) S1 := by
      unfold fTupRg; dsimp only; rw [if_pos ⟨by omega, by omega⟩, rngD_on]
    unfold Sch.d; simp [this]
  have s3 : (sSet 2 (eLst aNil)) [some c.d, some (.tup (intsN (List.range c.fs.length))), none, none, none] S1 = .nx [some c.d, some (.tup (intsN (List.range c.fs.length))), some (.ref S1.length), none, none] (S1 ++ [.lst []]) := by simp [LIM_val]
  have s4 : (sFor (iSeq (eV 1)) (.nm 3) (sExpr (eBM oExtend (eV 2) (eComp (iSeq (eV 1)) (.nm 4) (tE (eOp oEq (eOp oIx (eOp oIx (eOp oIx (eV 0) (eC (.int 2))) (eV 3)) (eC (.int 1))) (eOp oIx (eOp oIx (eOp oIx (eV 0) (eC (.int 2))) (eV 4)) (eC (.int 1))))) (eTup (aCons (eV 3) (aCons (eV 4) aNil))) [4])))) [some c.d, some (.tup (intsN (List.range c.fs.length))), some (.ref S1.length), none, none] (S1 ++ [.lst []]) = .nx [some c.d, some (.tup (intsN (List.range c.fs.length))), some (.ref S1.length), x, y] T := by
    have it : iSeq (eV 1) [some c.d, some (.tup (intsN (List.range c.fs.length))), some (.ref S1.length), none, none] (S1 ++ [.lst []]) = .ok ⟨intsN (List.range c.fs.length), []⟩ (S1 ++ [.lst []]) := rfl
    rw [sFor_eq, it, ofE_ok]
    exact e
  have fl := fLen_lst g
  have ft := fTuple_lst g
  unfold fullR
  by_cases h4 : (allP c c.fs.length).length ≤ 400
  · rw [if_pos h4]
    have h4' : ¬ (400 : Int) < ((allP c c.fs.length).length : Int) := by omega
    exact (mkF_eq 1 5 _ [c.d] S rfl).trans (by
      rw [show startE 5 [c.d] = [some c.d, none, none, none, none] from rfl]
      rw [show b_full_table [some c.d, none, none, none, none] S = .rt (fullT c).d T from nx_seq s1 (nx_seq s2 (nx_seq s3 (nx_seq s4 (by unfold Tab.d fullT; simp [fl, ft, h4', LIM_val]))))])
  · rw [if_neg h4]
    have h4' : (400 : Int) < ((allP c c.fs.length).length : Int) := by omega
    exact (mkF_eq 1 5 _ [c.d] S rfl).trans (by
      rw [show startE 5 [c.d] = [some c.d, none, none, none, none] from rfl]
      rw [show b_full_table [some c.d, none, none, none, none] S = .ex "TooMany" (.int ((allP c c.fs.length).length : Int)) [some c.d, some (.tup (intsN (List.range c.fs.length))), some (.ref S1.length), x, y] T from nx_seq s1 (nx_seq s2 (nx_seq s3 (nx_seq s4 (by simp [fl, h4']))))])
/-! ### what is heard -/
/-- what is told of a thing that is told, or refused with how many there are -/
def heardD (o : Option Nat) (d : D) : D := match o with
  | some n => .tup [.str "TooMany", .int (n : Int)]
  | none => .tup [.str "told", d]
def resD (o : Option Nat) (d : D) (T : Store) : Res D := match o with
  | some n => .ex "TooMany" (.int (n : Int)) T
  | none => .ok d T
theorem heard_res (o : Option Nat) (d : D) (T : Store) : heardR heardCs (resD o d T) = .ok (heardD o d) T := by
  cases o <;> rfl
theorem plain_pairs {n : Nat} {ps : List (Nat × Nat)} (h : ps.length ≤ 1000000) : Plain (n + 2) (.tup (ps.map fD)) :=
  ⟨by simpa using h, fun x hx => by
    obtain ⟨q, _, rfl⟩ := List.mem_map.mp hx
    exact ⟨by simp, fun z hz => by
      simp only [List.mem_cons, List.not_mem_nil, or_false] at hz
      rcases hz with rfl | rfl <;> (cases n <;> exact True.intro)⟩⟩
theorem plain_nats {n : Nat} {L : List Nat} (h : L.length ≤ 1000000) : Plain (n + 1) (.tup (intsN L)) :=
  ⟨by simpa using h, fun x hx => by
    obtain ⟨q, _, rfl⟩ := List.mem_map.mp hx
    cases n <;> exact True.intro⟩
theorem plain_tab3 {t : Tab} (h1 : t.cs.length ≤ 1000000) (h2 : t.ds.length ≤ 1000000) (h3 : t.bs.length ≤ 1000000) : Plain 3 t.d :=
  ⟨by simp, fun x hx => by
    simp only [List.mem_cons, List.not_mem_nil, or_false] at hx
    rcases hx with rfl | rfl | rfl
    · exact plain_pairs h1
    · exact plain_nats h2
    · exact plain_nats h3⟩
theorem plain_heard {o : Option Nat} {d : D} (h : o = none → Plain 3 d) : Plain 4 (heardD o d) := by
  cases o with
  | some n => exact ⟨by simp, fun x hx => by
      simp only [List.mem_cons, List.not_mem_nil, or_false] at hx
      rcases hx with rfl | rfl <;> exact True.intro⟩
  | none => exact ⟨by simp, fun x hx => by
      simp only [List.mem_cons, List.not_mem_nil, or_false] at hx
      rcases hx with rfl | rfl
      · exact True.intro
      · exact h rfl⟩
def over (n : Nat) : Option Nat := if n ≤ 400 then none else some n
theorem law_full_ok {c : Sch} (hc : c.Ok) (S : Store) : ∃ T, F__law_full_right [c.d] S = .ok (.bl true) T ∧ Keep [] S T := by
  have f40 := hc.f40
  have r1 : -(4611686018427387904 : Int) ≤ (c.fs.length : Int) := by omega
  have r2 : (c.fs.length : Int) ≤ 16777216 := by omega
  obtain ⟨l, T1, e1, g1, K1, _⟩ := law_pairs_ok hc S
  have tr : fTupRg (.int (c.fs.length : Int)) T1 = .ok (.tup (intsN (List.range c.fs.length))) T1 := by
    unfold fTupRg; dsimp only; rw [if_pos ⟨by omega, by omega⟩, rngD_on]
  obtain ⟨T2, e2, K2⟩ := full_table_ok hc T1
  have hl := allP_le hc (Nat.le_refl _)
  have fr : fullR c T2 = resD (over (allP c c.fs.length).length) (fullT c).d T2 := by
    unfold fullR over resD
    split <;> rfl
  rw [fr] at e2
  have hd := heard_res (over (allP c c.fs.length).length) (fullT c).d T2
  rw [← e2] at hd
  have pl : Plain 4 (heardD (over (allP c c.fs.length).length) (fullT c).d) := plain_heard fun _ => plain_tab3 (by show (allP c c.fs.length).length ≤ _; omega) (by show (List.range c.fs.length).length ≤ _; simp; omega) (by show (List.range c.fs.length).length ≤ _; simp; omega)
  have sm : F__law_same [heardD (over (allP c c.fs.length).length) (fullT c).d, heardD (over (allP c c.fs.length).length) (fullT c).d] T2 = .ok (.bl true) T2 := same_true 4 (by decide) (same_refl 4 _ pl)
  refine ⟨T2, ?_, K1.trans K2⟩
  have fl := fLen_lst g1
  have ft := fTuple_lst g1
  have s1 : (sPar 1 2 (eCall F__law_wv_pairs (aCons (eV 0) aNil)) (eUn fTupRg (eUn fLen (eOp oIx (eV 0) (eC (.int 2)))))) [some c.d, none, none, none] S = .nx [some c.d, some (.ref l), some (.tup (intsN (List.range c.fs.length))), none] T1 := by
    have e1' := e1
    unfold Sch.d at e1' ⊢
    simp [e1', tr]
  have s2 : (sSet 3 (eIf (tE (eOp oLe (eUn fLen (eV 1)) (eC (.int 400)))) (eTup (aCons (eC (.str "told")) (aCons (eTup (aCons (eUn fTuple (eV 1)) (aCons (eV 2) (aCons (eV 2) aNil)))) aNil))) (eTup (aCons (eC (.str "TooMany")) (aCons (eUn fLen (eV 1)) aNil))))) [some c.d, some (.ref l), some (.tup (intsN (List.range c.fs.length))), none] T1 = .nx [some c.d, some (.ref l), some (.tup (intsN (List.range c.fs.length))), some (heardD (over (allP c c.fs.length).length) (fullT c).d)] T1 := by
    unfold heardD over fullT Tab.d
    by_cases h4 : (allP c c.fs.length).length ≤ 400
    · have h4' : ((allP c c.fs.length).length : Int) ≤ 400 := by omega
      simp [fl, ft, h4, h4', LIM_val]
    · have h4' : ¬ ((allP c c.fs.length).length : Int) ≤ 400 := by omega
      simp [fl, ft, h4, h4', LIM_val]
  exact (mkF_eq 1 4 _ [c.d] S rfl).trans (by
    rw [show startE 4 [c.d] = [some c.d, none, none, none] from rfl]
    rw [show b__law_full_right [some c.d, none, none, none] S = .rt (.bl true) T2 from nx_seq s1 (nx_seq s2 (by simp [hd, sm]))])
end WkL


set_option Elab.async false
set_option linter.all false
set_option maxRecDepth 100000
set_option maxHeartbeats 1000000
set_option autoImplicit false
/-! Pk06b: tables joined; a table within another. -/
namespace WkL
open PySem (Str)
open Wk
theorem compL_nil {c : Chk} {g : Tg} {t : FT} {e : FE} {sw : Env} {S : Store} (h : okC c S = true) : compL c g t e sw [] S = .ok [] S := by
  unfold compL; rw [if_pos h]
theorem compL_cons {c : Chk} {g : Tg} {t : FT} {e : FE} {sw s1 : Env} {S S1 S2 : Store} {d y : D} {ds : List D} (h : okC c S = true) (hg : gF g d sw = some s1) (ht : t s1 S = .ok true S1) (he : e s1 S1 = .ok y S2) :
    compL c g t e sw (d :: ds) S = (compL c g t e sw ds S2).bind fun ys S3 => .ok (y :: ys) S3 := by
  conv => lhs; unfold compL
  rw [if_pos h, hg]
  dsimp only
  rw [ht, Res.bind_ok, if_pos rfl, he, Res.bind_ok]
/-- w has the entries of both, rising -/
structure JoinOf (t u w : Tab) : Prop where
  clt : w.cs.Pairwise ltN
  cm : ∀ x, x ∈ w.cs ↔ x ∈ t.cs ∨ x ∈ u.cs
  dlt : w.ds.Pairwise (· < ·)
  dm : ∀ x, x ∈ w.ds ↔ x ∈ t.ds ∨ x ∈ u.ds
  blt : w.bs.Pairwise (· < ·)
  bm : ∀ x, x ∈ w.bs ↔ x ∈ t.bs ∨ x ∈ u.bs
theorem JoinOf.ok {c : Sch} {t u w : Tab} (h : JoinOf t u w) (ht : TabOk c t) (hu : TabOk c u) (hz : w.cs.length ≤ 400) : TabOk c w where
  c400 := hz
  lt := h.clt
  cs := fun q hq => ((h.cm q).mp hq).elim (ht.cs q) (hu.cs q)
  dlt := h.dlt
  ds := fun q hq => ((h.dm q).mp hq).elim (ht.ds q) (hu.ds q)
  blt := h.blt
  bs := fun q hq => ((h.bm q).mp hq).elim (ht.bs q) (hu.bs q)
/-! ### dict(pairs), sorted -/
theorem pairsT_true : ∀ L : List (Nat × Nat), pairsT (L.map fun q => D.tup [fD q, .bl true]) = some (kvG pk L)
  | [] => rfl
  | q :: L => by
    rw [List.map_cons]
    unfold pairsT
    rw [pairsT_true L]
    rfl
theorem pairsD_true : ∀ L : List Nat, pairsD (L.map fun (q : Nat) => D.tup [.int (q : Int), .bl true]) = some (kvG nk L)
  | [] => rfl
  | q :: L => by
    rw [List.map_cons]
    unfold pairsD
    rw [pairsD_true L]
    rfl
theorem pairsD_no (q : Nat × Nat) (ds : List D) : pairsD (D.tup [fD q, .bl true] :: ds) = none := by
  unfold pairsD; rfl
theorem dict_nats {S : Store} {l : Nat} {LL : List Nat} (h : S[l]? = some (.lst (LL.map fun (q : Nat) => D.tup [.int (q : Int), .bl true]))) (hz : LL.length ≤ 10000) :
    ∃ (U : List Nat) (o : Ob), fDict (.ref l) S = .ok (.ref S.length) (S ++ [o]) ∧ fSorted (.ref S.length) (S ++ [o]) = .ok (.ref (S ++ [o]).length) (S ++ [o] ++ [.lst (intsN U)]) ∧ U.Pairwise (· < ·) ∧ ∀ x, x ∈ U ↔ x ∈ LL := by
  obtain ⟨nd, mem, len⟩ := fold_addG LL [] .nil
  have mg : mergeD [] (kvG nk LL) = kvG nk (LL.foldl addG []) := mergeG (k := nk) nk_inj LL []
  obtain ⟨U, e3, pm, lt⟩ := sorted_nk (S := S ++ [.dk (kvG nk (LL.foldl addG []))]) (get_last _ _) nd (by rw [List.length_nil] at len; omega)
  refine ⟨U, _, ?_, e3, lt, fun x => by rw [pm.mem_iff, mem x]; simp⟩
  unfold fDict
  dsimp only
  rw [h]
  dsimp only
  rw [pairsD_true]
  dsimp only
  rw [mg]
theorem dict_pairs {S : Store} {l : Nat} {LL : List (Nat × Nat)} (h : S[l]? = some (.lst (LL.map fun q => D.tup [fD q, .bl true]))) (hz : LL.length ≤ 10000) :
    ∃ (U : List (Nat × Nat)) (o : Ob), fDict (.ref l) S = .ok (.ref S.length) (S ++ [o]) ∧ fSorted (.ref S.length) (S ++ [o]) = .ok (.ref (S ++ [o]).length) (S ++ [o] ++ [.lst (U.map fD)]) ∧ U.Pairwise ltN ∧ ∀ x, x ∈ U ↔ x ∈ LL := by
  cases LL with
  | nil =>
    refine ⟨[], .dk [], ?_, ?_, .nil, fun x => Iff.rfl⟩
    · unfold fDict; dsimp only; rw [h]; rfl
    · unfold fSorted; dsimp only; rw [get_last]; simp [intsD, sortI]
  | cons q LL =>
    obtain ⟨nd, mem, len⟩ := fold_addG (q :: LL) [] .nil
    have mg : mergeD [] (kvG pk (q :: LL)) = kvG pk ((q :: LL).foldl addG []) := mergeG (k := pk) pk_inj (q :: LL) []
    have pt := pairsT_true (q :: LL)
    have pn := pairsD_no q (LL.map fun q => D.tup [fD q, .bl true])
    generalize (q :: LL).foldl addG [] = L0 at *
    obtain ⟨U, e3, pm, lt⟩ := sorted_pk (S := S ++ [.dt (kvG pk L0)]) (get_last _ _) nd (by rw [List.length_nil] at len; omega)
    refine ⟨U, _, ?_, e3, lt, fun x => by rw [pm.mem_iff, mem x]; simp⟩
    unfold fDict
    dsimp only
    rw [h]
    rw [List.map_cons] at pt ⊢
    dsimp only
    rw [pn]
    dsimp only
    rw [pt]
    dsimp only
    rw [mg]
def mergedE : FE := (eUn fTuple (eUn fSorted (eUn fDict (eComp (iSeq (eOp oAdd (eOp oIx (eV 0) (eV 2)) (eOp oIx (eV 1) (eV 2)))) (.nm 3) tTrue (eTup (aCons (eV 3) (aCons (eC (.bl true)) aNil))) [3]))))
theorem merged_pairs {x y : D} {k : Int} {L M : List (Nat × Nat)} (h1 : ∀ S, oIx x (.int k) S = .ok (.tup (L.map fD)) S) (h2 : ∀ S, oIx y (.int k) S = .ok (.tup (M.map fD)) S) (hz : L.length + M.length ≤ 10000) (S : Store) :
    ∃ (U : List (Nat × Nat)) (T : Store), mergedE [some x, some y, some (.int k), none] S = .ok (.tup (U.map fD)) T ∧ U.Pairwise ltN ∧ (∀ z, z ∈ U ↔ z ∈ L ∨ z ∈ M) ∧ Keep [] S T := by
  have happ : L.map fD ++ M.map fD = (L ++ M).map fD := by simp
  have hlen : (L ++ M).length ≤ 10000 := by simp; exact hz
  have hmem : ∀ x, x ∈ L ++ M ↔ x ∈ L ∨ x ∈ M := fun x => List.mem_append
  have hlim : (L.map fD).length + (M.map fD).length ≤ LIM := by simp [LIM_val]; omega
  generalize L ++ M = LL at *
  have cp : compL [] (.nm 3) tTrue (eTup (aCons (eV 3) (aCons (eC (.bl true)) aNil))) [some x, some y, some (.int k), none] (LL.map fD) S = .ok (LL.map fun q => D.tup [fD q, .bl true]) S := by
    refine (compL_on (c := []) (S := S) (dg := fD) (p := fun _ => true) (f := fun q => D.tup [fD q, .bl true]) rfl LL ?_).trans (by rw [List.filter_eq_self.mpr (fun _ _ => rfl)])
    intro q _
    exact ⟨_, rfl, rfl, fun _ => by simp [LIM_val]⟩
  obtain ⟨U, o, e1, e2, lt, mu⟩ := dict_pairs (get_last S (.lst (LL.map fun q => D.tup [fD q, .bl true]))) hlen
  generalize hS1 : S ++ [Ob.lst (LL.map fun q => D.tup [fD q, .bl true])] = S1 at *
  have ft := fTuple_lst (get_last (S1 ++ [o]) (.lst (U.map fD)))
  refine ⟨U, S1 ++ [o] ++ [.lst (U.map fD)], ?_, lt, fun z => by rw [mu, hmem], ?_⟩
  · have ad : oAdd (.tup (L.map fD)) (.tup (M.map fD)) S = .ok (.tup (LL.map fD)) S := by
      show (if _ then _ else _) = _
      rw [if_pos hlim, happ]
    unfold mergedE
    simp only [eUn_eq, eComp_eq, iSeq_eq, eOp_eq, eV_eq, List.getElem?_cons_succ, List.getElem?_cons_zero, Res.bind_ok, h1, h2, ad, wipeE_cons, wipeE_nil, List.set_cons_succ, List.set_cons_zero, cp, noEx_ok, hS1, e1, e2, ft]
  · rw [← hS1]; exact ((Keep.push _ _ _).trans (Keep.push _ _ _)).trans (Keep.push _ _ _)
theorem merged_nats {x y : D} {k : Int} {L M : List Nat} (h1 : ∀ S, oIx x (.int k) S = .ok (.tup (intsN L)) S) (h2 : ∀ S, oIx y (.int k) S = .ok (.tup (intsN M)) S) (hz : L.length + M.length ≤ 10000) (S : Store) :
    ∃ (U : List Nat) (T : Store), mergedE [some x, some y, some (.int k), none] S = .ok (.tup (intsN U)) T ∧ U.Pairwise (· < ·) ∧ (∀ z, z ∈ U ↔ z ∈ L ∨ z ∈ M) ∧ Keep [] S T := by
  have happ : intsN L ++ intsN M = intsN (L ++ M) := by simp
  have hlen : (L ++ M).length ≤ 10000 := by simp; exact hz
  have hmem : ∀ x, x ∈ L ++ M ↔ x ∈ L ∨ x ∈ M := fun x => List.mem_append
  have hlim : (intsN L).length + (intsN M).length ≤ LIM := by simp [LIM_val]; omega
  generalize L ++ M = LL at *
  have cp : compL [] (.nm 3) tTrue (eTup (aCons (eV 3) (aCons (eC (.bl true)) aNil))) [some x, some y, some (.int k), none] (intsN LL) S = .ok (LL.map fun (q : Nat) => D.tup [.int (q : Int), .bl true]) S := by
    refine (compL_on (c := []) (S := S) (dg := fun (q : Nat) => D.int (q : Int)) (p := fun _ => true) (f := fun (q : Nat) => D.tup [.int (q : Int), .bl true]) rfl LL ?_).trans (by rw [List.filter_eq_self.mpr (fun _ _ => rfl)])
    intro q _
    exact ⟨_, rfl, rfl, fun _ => by simp [LIM_val]⟩
  obtain ⟨U, o, e1, e2, lt, mu⟩ := dict_nats (get_last S (.lst (LL.map fun (q : Nat) => D.tup [.int (q : Int), .bl true]))) hlen
  generalize hS1 : S ++ [Ob.lst (LL.map fun (q : Nat) => D.tup [.int (q : Int), .bl true])] = S1 at *
  have ft := fTuple_lst (get_last (S1 ++ [o]) (.lst (intsN U)))
  refine ⟨U, S1 ++ [o] ++ [.lst (intsN U)], ?_, lt, fun z => by rw [mu, hmem], ?_⟩
  · have ad : oAdd (.tup (intsN L)) (.tup (intsN M)) S = .ok (.tup (intsN LL)) S := by
      show (if _ then _ else _) = _
      rw [if_pos hlim, happ]
    unfold mergedE
    simp only [eUn_eq, eComp_eq, iSeq_eq, eOp_eq, eV_eq, List.getElem?_cons_succ, List.getElem?_cons_zero, Res.bind_ok, h1, h2, ad, wipeE_cons, wipeE_nil, List.set_cons_succ, List.set_cons_zero, cp, noEx_ok, hS1, e1, e2, ft]
  · rw [← hS1]; exact ((Keep.push _ _ _).trans (Keep.push _ _ _)).trans (Keep.push _ _ _)
theorem tab_ix0 (t : Tab) (S : Store) : oIx t.d (.int 0) S = .ok (.tup (t.cs.map fD)) S := by unfold Tab.d; simp
theorem tab_ix1 (t : Tab) (S : Store) : oIx t.d (.int 1) S = .ok (.tup (intsN t.ds)) S := by unfold Tab.d; simp
theorem tab_ix2 (t : Tab) (S : Store) : oIx t.d (.int 2) S = .ok (.tup (intsN t.bs)) S := by unfold Tab.d; simp
theorem rng3 : rngD 0 3 = [.int 0, .int 1, .int 2] := by decide
theorem TabOk.dlen {c : Sch} (hc : c.Ok) {t : Tab} (ht : TabOk c t) : t.ds.length ≤ 40 := Nat.le_trans (rise_le ht.dlt ht.ds) hc.f40
theorem TabOk.blen {c : Sch} (hc : c.Ok) {t : Tab} (ht : TabOk c t) : t.bs.length ≤ 40 := Nat.le_trans (rise_le ht.blt ht.bs) hc.f40
theorem law_merged_ok {c : Sch} (hc : c.Ok) {t u : Tab} (ht : TabOk c t) (hu : TabOk c u) (S : Store) : ∃ w T, F__law_merged [t.d, u.d] S = .ok (Tab.d w) T ∧ JoinOf t u w ∧ Keep [] S T := by
  have t4 := ht.c400; have u4 := hu.c400
  have td := ht.dlen hc; have ud := hu.dlen hc; have tb := ht.blen hc; have ub := hu.blen hc
  obtain ⟨U, T1, e1, lt1, m1, K1⟩ := merged_pairs (tab_ix0 t) (tab_ix0 u) (by omega) S
  obtain ⟨V, T2, e2, lt2, m2, K2⟩ := merged_nats (tab_ix1 t) (tab_ix1 u) (by omega) T1
  obtain ⟨W, T3, e3, lt3, m3, K3⟩ := merged_nats (tab_ix2 t) (tab_ix2 u) (by omega) T2
  refine ⟨⟨U, V, W⟩, T3 ++ [.lst [.tup (U.map fD), .tup (intsN V), .tup (intsN W)]], ?_, ⟨lt1, m1, lt2, m2, lt3, m3⟩, ((K1.trans K2).trans K3).trans (Keep.push _ _ _)⟩
  have cp : compL [] (.nm 2) tTrue mergedE [some t.d, some u.d, none, none] [.int 0, .int 1, .int 2] S = .ok [.tup (U.map fD), .tup (intsN V), .tup (intsN W)] T3 := by
    rw [compL_cons rfl rfl rfl e1, compL_cons rfl rfl rfl e2, compL_cons rfl rfl rfl e3, compL_nil rfl]
    rfl
  unfold mergedE at cp
  have ft := fTuple_lst (get_last T3 (.lst [.tup (U.map fD), .tup (intsN V), .tup (intsN W)]))
  have it : iRng (eC (.int 3)) [some t.d, some u.d, none, none] S = .ok ⟨[.int 0, .int 1, .int 2], []⟩ S := by
    rw [← rng3]; simp
  exact (mkF_eq 2 4 _ [t.d, u.d] S rfl).trans (by
    rw [show startE 4 [t.d, u.d] = [some t.d, some u.d, none, none] from rfl]
    rw [show b__law_merged [some t.d, some u.d, none, none] S = .rt (Tab.d ⟨U, V, W⟩) (T3 ++ [.lst [.tup (U.map fD), .tup (intsN V), .tup (intsN W)]]) from by
      simp only [sRet_eq, eUn_eq, eComp_eq, it, Res.bind_ok, wipeE_cons, wipeE_nil, List.set_cons_succ, List.set_cons_zero, cp, noEx_ok, ft, ofE_ok]
      rfl])
theorem joined_ok {c : Sch} (hc : c.Ok) {t u w : Tab} (ht : TabOk c t) (hu : TabOk c u) (hw : JoinOf t u w) (S : Store) : ∃ T, F_joined_tables [c.d, t.d, u.d] S = resD (over w.cs.length) w.d T ∧ Keep [] S T := by
  have t4 := ht.c400; have u4 := hu.c400
  have td := ht.dlen hc; have ud := hu.dlen hc; have tb := ht.blen hc; have ub := hu.blen hc
  obtain ⟨T1, e1, K1⟩ := made_table_ok hc ht S
  obtain ⟨T2, e2, K2⟩ := made_table_ok hc hu T1
  obtain ⟨U, T3, e3, lt3, m3, K3⟩ := together_pairs t.cs u.cs (by omega) T2
  obtain rfl : U = w.cs := ltN_ext lt3 hw.clt fun x => by rw [m3, hw.cm]
  have i0t := tab_ix0 t
  have i0u := tab_ix0 u
  have s1 : (sExpr (eCall F_made_table (aCons (eV 0) (aCons (eV 1) aNil)))) [some c.d, some t.d, some u.d, none] S = .nx [some c.d, some t.d, some u.d, none] T1 := by simp [e1]
  have s2 : (sExpr (eCall F_made_table (aCons (eV 0) (aCons (eV 2) aNil)))) [some c.d, some t.d, some u.d, none] T1 = .nx [some c.d, some t.d, some u.d, none] T2 := by simp [e2]
  have s3 : (sSet 3 (eCall F_together (aCons (eOp oIx (eV 1) (eC (.int 0))) (aCons (eOp oIx (eV 2) (eC (.int 0))) aNil)))) [some c.d, some t.d, some u.d, none] T2 = .nx [some c.d, some t.d, some u.d, some (.tup (w.cs.map fD))] T3 := by
    simp only [sSet_eq, eCall_eq, aCons_eq, aNil_eq, eOp_eq, eV_eq, eC_eq, List.getElem?_cons_succ, List.getElem?_cons_zero, Res.bind_ok, i0t, i0u, e3, ofE_ok, List.set_cons_succ, List.set_cons_zero]
  by_cases h4 : w.cs.length ≤ 400
  · obtain ⟨V, T4, e4, lt4, m4, K4⟩ := together_nats t.ds u.ds (by omega) T3
    obtain rfl : V = w.ds := nat_ext lt4 hw.dlt fun x => by rw [m4, hw.dm]
    obtain ⟨V2, T5, e5, lt5, m5, K5⟩ := together_nats t.bs u.bs (by omega) T4
    obtain rfl : V2 = w.bs := nat_ext lt5 hw.blt fun x => by rw [m5, hw.bm]
    have h4' : ¬ (400 : Int) < (w.cs.length : Int) := by omega
    refine ⟨T5, ?_, (((K1.trans K2).trans K3).trans K4).trans K5⟩
    have s5 : (sRet (eTup (aCons (eV 3) (aCons (eCall F_together (aCons (eOp oIx (eV 1) (eC (.int 1))) (aCons (eOp oIx (eV 2) (eC (.int 1))) aNil))) (aCons (eCall F_together (aCons (eOp oIx (eV 1) (eC (.int 2))) (aCons (eOp oIx (eV 2) (eC (.int 2))) aNil))) aNil))))) [some c.d, some t.d, some u.d, some (.tup (w.cs.map fD))] T3 = .rt w.d T5 := by
      have i1t := tab_ix1 t
      have i1u := tab_ix1 u
      have i2t := tab_ix2 t
      have i2u := tab_ix2 u
      simp only [sRet_eq, eTup_eq, eCall_eq, aCons_eq, aNil_eq, eOp_eq, eV_eq, eC_eq, List.getElem?_cons_succ, List.getElem?_cons_zero, Res.bind_ok, i1t, i1u, i2t, i2u, e4, e5]
      rw [if_pos (by simp [LIM_val])]
      rfl
    unfold resD over
    rw [if_pos h4]
    exact (mkF_eq 3 4 _ [c.d, t.d, u.d] S rfl).trans (by
      rw [show startE 4 [c.d, t.d, u.d] = [some c.d, some t.d, some u.d, none] from rfl]
      rw [show b_joined_tables [some c.d, some t.d, some u.d, none] S = .rt w.d T5 from nx_seq s1 (nx_seq s2 (nx_seq s3 (nx_seq (s1 := [some c.d, some t.d, some u.d, some (.tup (w.cs.map fD))]) (S1 := T3) (by simp [h4']) s5)))])
  · have h4' : (400 : Int) < (w.cs.length : Int) := by omega
    refine ⟨T3, ?_, (K1.trans K2).trans K3⟩
    unfold resD over
    rw [if_neg h4]
    exact (mkF_eq 3 4 _ [c.d, t.d, u.d] S rfl).trans (by
      rw [show startE 4 [c.d, t.d, u.d] = [some c.d, some t.d, some u.d, none] from rfl]
      rw [show b_joined_tables [some c.d, some t.d, some u.d, none] S = .ex "TooMany" (.int (w.cs.length : Int)) [some c.d, some t.d, some u.d, some (.tup (w.cs.map fD))] T3 from nx_seq s1 (nx_seq s2 (nx_seq s3 (by simp [h4'])))])
/-! ### within -/
def subT (t u : Tab) : Bool := t.cs.all (fun q => decide (q ∈ u.cs)) && (t.ds.all (fun q => decide (q ∈ u.ds)) && t.bs.all (fun q => decide (q ∈ u.bs)))
theorem blsD_map : ∀ bs : List Bool, blsD (bs.map D.bl) = some bs
  | [] => rfl
  | b :: bs => by rw [List.map_cons]; unfold blsD; rw [blsD_map bs]
theorem fAll_bls {S : Store} {l : Nat} {bs : List Bool} (h : S[l]? = some (.lst (bs.map D.bl))) : fAll (.ref l) S = .ok (.bl (bs.all id)) S := by
  unfold fAll fAllBy; dsimp only; rw [h]; dsimp only; rw [blsD_map]
theorem oInS_pairsT (S : Store) (ps : List (Nat × Nat)) (q : Nat × Nat) : oInS (fD q) (.tup (ps.map fD)) S = .ok (.bl (decide (q ∈ ps))) S := by
  have e : oInG (fD q) (.tup (ps.map fD)) S = .ok (.bl (decide (q ∈ ps))) S := (enc_pair.inGT S ps q).trans (by congr)
  have b : oInL (ps.map fD) (fD q) S = .bad := rfl
  unfold oInS
  dsimp only
  rw [e, b]
  rfl
def rowE : FE := (eUn fAll (eComp (iSeq (eV 2)) (.nm 4) tTrue (eOp oInS (eV 4) (eV 3)) [4]))
theorem row_within {α : Type} {g : α → D} {x y : D} {m : α → Bool} (L M : List α) (hin : ∀ a S, oInS (g a) (.tup (M.map g)) S = .ok (.bl (m a)) S) (S : Store) :
    rowE [some x, some y, some (.tup (L.map g)), some (.tup (M.map g)), none] S = .ok (.bl (L.all fun a => m a)) (S ++ [.lst (L.map fun a => D.bl (m a))]) := by
  have cp : compL [] (.nm 4) tTrue (eOp oInS (eV 4) (eV 3)) [some x, some y, some (.tup (L.map g)), some (.tup (M.map g)), none] (L.map g) S = .ok (L.map fun a => D.bl (m a)) S := by
    refine (compL_on (c := []) (S := S) (dg := g) (p := fun _ => true) (f := fun a => D.bl (m a)) rfl L ?_).trans (by rw [List.filter_eq_self.mpr (fun _ _ => rfl)])
    intro q _
    exact ⟨_, rfl, rfl, fun _ => by simp [hin]⟩
  have al : fAll (.ref S.length) (S ++ [.lst (L.map fun a => D.bl (m a))]) = .ok (.bl (L.all fun a => m a)) (S ++ [.lst (L.map fun a => D.bl (m a))]) := by
    have := fAll_bls (S := S ++ [.lst (L.map fun a => D.bl (m a))]) (l := S.length) (bs := L.map fun a => m a) (by rw [get_last, List.map_map]; rfl)
    rw [this, List.all_map]; rfl
  unfold rowE
  simp only [eUn_eq, eComp_eq, iSeq_eq, eV_eq, List.getElem?_cons_succ, List.getElem?_cons_zero, Res.bind_ok, wipeE_cons, wipeE_nil, List.set_cons_succ, List.set_cons_zero, cp, noEx_ok, al]
theorem lies_ok (t u : Tab) (S : Store) : ∃ T, F_lies_within [t.d, u.d] S = .ok (.bl (subT t u)) T ∧ Keep [] S T := by
  have e1 := row_within (g := fD) (m := fun q => decide (q ∈ u.cs)) (x := t.d) (y := u.d) t.cs u.cs (fun a S => oInS_pairsT S u.cs a) S
  generalize hS1 : S ++ [Ob.lst (t.cs.map fun a => D.bl (decide (a ∈ u.cs)))] = S1 at e1
  have e2 := row_within (g := fun (q : Nat) => D.int (q : Int)) (m := fun q => decide (q ∈ u.ds)) (x := t.d) (y := u.d) t.ds u.ds (fun a S => oInS_natsT S u.ds a) S1
  generalize hS2 : S1 ++ [Ob.lst (t.ds.map fun a => D.bl (decide (a ∈ u.ds)))] = S2 at e2
  have e3 := row_within (g := fun (q : Nat) => D.int (q : Int)) (m := fun q => decide (q ∈ u.bs)) (x := t.d) (y := u.d) t.bs u.bs (fun a S => oInS_natsT S u.bs a) S2
  generalize hS3 : S2 ++ [Ob.lst (t.bs.map fun a => D.bl (decide (a ∈ u.bs)))] = S3 at e3
  have K : Keep [] S S3 := by rw [← hS3, ← hS2, ← hS1]; exact ((Keep.push _ _ _).trans (Keep.push _ _ _)).trans (Keep.push _ _ _)
  have cp : compL [] (.tp [(.nm 2), (.nm 3)]) tTrue rowE [some t.d, some u.d, none, none, none] (zipD [.tup (t.cs.map fD), .tup (intsN t.ds), .tup (intsN t.bs)] [.tup (u.cs.map fD), .tup (intsN u.ds), .tup (intsN u.bs)]) S = .ok ([t.cs.all (fun q => decide (q ∈ u.cs)), t.ds.all (fun q => decide (q ∈ u.ds)), t.bs.all (fun q => decide (q ∈ u.bs))].map D.bl) S3 := by
    unfold zipD zipD zipD zipD
    rw [compL_cons rfl rfl rfl e1, compL_cons rfl rfl rfl e2, compL_cons rfl rfl rfl e3, compL_nil rfl]
    rfl
  unfold rowE at cp
  have al := fAll_bls (get_last S3 (.lst ([t.cs.all (fun q => decide (q ∈ u.cs)), t.ds.all (fun q => decide (q ∈ u.ds)), t.bs.all (fun q => decide (q ∈ u.bs))].map D.bl)))
  refine ⟨S3 ++ [.lst ([t.cs.all (fun q => decide (q ∈ u.cs)), t.ds.all (fun q => decide (q ∈ u.ds)), t.bs.all (fun q => decide (q ∈ u.bs))].map D.bl)], ?_, K.trans (Keep.push _ _ _)⟩
  have it : iZip (eV 0) (eV 1) [some t.d, some u.d, none, none, none] S = .ok ⟨zipD [.tup (t.cs.map fD), .tup (intsN t.ds), .tup (intsN t.bs)] [.tup (u.cs.map fD), .tup (intsN u.ds), .tup (intsN u.bs)], []⟩ S := rfl
  exact (mkF_eq 2 5 _ [t.d, u.d] S rfl).trans (by
    rw [show startE 5 [t.d, u.d] = [some t.d, some u.d, none, none, none] from rfl]
    rw [show b_lies_within [some t.d, some u.d, none, none, none] S = .rt (.bl (subT t u)) (S3 ++ [.lst ([t.cs.all (fun q => decide (q ∈ u.cs)), t.ds.all (fun q => decide (q ∈ u.ds)), t.bs.all (fun q => decide (q ∈ u.bs))].map D.bl)]) from by
      simp only [sRet_eq, eUn_eq, eComp_eq, it, Res.bind_ok, wipeE_cons, wipeE_nil, List.set_cons_succ, List.set_cons_zero, cp, noEx_ok, al, ofE_ok]
      simp [subT]])
theorem within_ok {c : Sch} (hc : c.Ok) {t u : Tab} (ht : TabOk c t) (hu : TabOk c u) (S : Store) : ∃ T, F_table_within [c.d, t.d, u.d] S = .ok (.bl (subT t u)) T ∧ Keep [] S T := by
  obtain ⟨T1, e1, K1⟩ := made_table_ok hc ht S
  obtain ⟨T2, e2, K2⟩ := made_table_ok hc hu T1
  obtain ⟨T3, e3, K3⟩ := lies_ok t u T2
  exact ⟨T3, by simp [F_table_within, mkF, startE, e1, e2, e3], (K1.trans K2).trans K3⟩
theorem oEq_empty {α : Type} {g : α → D} {gp : α → P} (E : Enc g gp) {S : Store} {l m : Nat} {L : List α} (h : S[l]? = some (.lst (L.map g))) (k : S[m]? = some (.lst [])) : oEq (.ref l) (.ref m) S = .ok (.bl L.isEmpty) S := by
  show oEqG _ _ _ = _
  unfold oEqG
  rw [E.list h 58, E.list (xs := ([] : List α)) k 58]
  cases L <;> rfl
end WkL


set_option Elab.async false
set_option linter.all false
set_option maxRecDepth 100000
set_option maxHeartbeats 1000000
set_option autoImplicit false
/-! Pk06c: the law's own reading of tables within one another; joined tables are right. -/
namespace WkL
open PySem (Str)
open Wk
/-- the row's part of what is within -/
def subK (t u : Tab) (k : Nat) : Bool := match k with
  | 0 => t.cs.all (fun q => decide (q ∈ u.cs))
  | 1 => t.ds.all (fun q => decide (q ∈ u.ds))
  | _ => t.bs.all (fun q => decide (q ∈ u.bs))
def isinT : FT := (tE (eOp oNe (eComp (iSeq (eOp oIx (eV 0) (eV 2))) (.nm 3) (tE (eOp oNinS (eV 3) (eOp oIx (eV 1) (eV 2)))) (eV 3) [3]) (eLst aNil)))
theorem isin_row {α : Type} {g : α → D} {gp : α → P} (E : Enc g gp) {x y : D} {k : Int} {L M : List α} {m : α → Bool} (h1 : ∀ S, oIx x (.int k) S = .ok (.tup (L.map g)) S) (h2 : ∀ S, oIx y (.int k) S = .ok (.tup (M.map g)) S)
    (hin : ∀ a S, oInS (g a) (.tup (M.map g)) S = .ok (.bl (m a)) S) (S : Store) : isinT [some x, some y, some (.int k), none] S = .ok (!(L.all m)) (S ++ [.lst ((L.filter fun a => !m a).map g)] ++ [.lst []]) := by
  have cp : compL [] (.nm 3) (tE (eOp oNinS (eV 3) (eOp oIx (eV 1) (eV 2)))) (eV 3) [some x, some y, some (.int k), none] (L.map g) S = .ok ((L.filter fun a => !m a).map g) S := by
    refine compL_on (c := []) (S := S) (dg := g) (p := fun a => !m a) (f := g) rfl L ?_
    intro q _
    exact ⟨[some x, some y, some (.int k), some (g q)], rfl, by simp [h2, hin], fun _ => rfl⟩
  generalize hW : (L.filter fun a => !m a) = W at *
  have eq := oEq_empty E (S := S ++ [.lst (W.map g)] ++ [.lst []]) (l := S.length) (m := (S ++ [Ob.lst (W.map g)]).length) (L := W) (by rw [List.append_assoc]; simp) (get_last _ _)
  have hb : W.isEmpty = L.all m := by
    rw [← hW, Bool.eq_iff_iff, List.isEmpty_iff, List.filter_eq_nil_iff, List.all_eq_true]
    simp
  rw [hb] at eq
  unfold isinT
  simp only [tE_eq, eUn_eq, eComp_eq, iSeq_eq, eOp_eq, eV_eq, eLst_eq, aNil_eq, List.getElem?_cons_succ, List.getElem?_cons_zero, Res.bind_ok, h1, wipeE_cons, wipeE_nil, List.set_cons_succ, List.set_cons_zero, cp, noEx_ok, oNe_eq, List.length_nil]
  rw [if_pos (by simp [LIM_val]), Res.bind_ok, eq, notR_ok]
  rfl
theorem law_within_ok (t u : Tab) (S : Store) : ∃ T, F__law_is_within [t.d, u.d] S = .ok (.bl (subT t u)) T ∧ Keep [] S T := by
  have cp := compL_onI (c := []) (g := .nm 2) (t := isinT) (e := eV 2) (sw := [some t.d, some u.d, none, none]) (dg := fun (k : Nat) => D.int (k : Int)) (p := fun k => !subK t u k) (f := fun (k : Nat) => D.int (k : Int)) (fun T => Keep [] S T) (fun _ _ => rfl) [0, 1, 2] (by
    intro k hk T KT
    simp only [List.mem_cons, List.not_mem_nil, or_false] at hk
    rcases hk with rfl | rfl | rfl
    · exact ⟨[some t.d, some u.d, some (.int 0), none], _, rfl, isin_row enc_pair (k := 0) (m := fun q => decide (q ∈ u.cs)) (tab_ix0 t) (tab_ix0 u) (fun a S => oInS_pairsT S u.cs a) T, (KT.trans (Keep.push _ _ _)).trans (Keep.push _ _ _), fun _ => ⟨_, rfl, (KT.trans (Keep.push _ _ _)).trans (Keep.push _ _ _)⟩⟩
    · exact ⟨[some t.d, some u.d, some (.int 1), none], _, rfl, isin_row enc_nat (k := 1) (m := fun q => decide (q ∈ u.ds)) (tab_ix1 t) (tab_ix1 u) (fun a S => oInS_natsT S u.ds a) T, (KT.trans (Keep.push _ _ _)).trans (Keep.push _ _ _), fun _ => ⟨_, rfl, (KT.trans (Keep.push _ _ _)).trans (Keep.push _ _ _)⟩⟩
    · exact ⟨[some t.d, some u.d, some (.int 2), none], _, rfl, isin_row enc_nat (k := 2) (m := fun q => decide (q ∈ u.bs)) (tab_ix2 t) (tab_ix2 u) (fun a S => oInS_natsT S u.bs a) T, (KT.trans (Keep.push _ _ _)).trans (Keep.push _ _ _), fun _ => ⟨_, rfl, (KT.trans (Keep.push _ _ _)).trans (Keep.push _ _ _)⟩⟩) S (Keep.refl _ _)
  obtain ⟨T1, e1, K1⟩ := cp
  have e1' : compL [] (.nm 2) isinT (eV 2) [some t.d, some u.d, none, none] (rngD 0 3) S = .ok (intsN ([0, 1, 2].filter fun k => !subK t u k)) T1 := e1
  generalize hW : ([0, 1, 2].filter fun k => !subK t u k) = W at *
  have eq := oEq_empty enc_nat (S := T1 ++ [.lst (intsN W)] ++ [.lst []]) (l := T1.length) (m := (T1 ++ [Ob.lst (intsN W)]).length) (L := W) (by rw [List.append_assoc]; simp) (get_last _ _)
  have hb : W.isEmpty = subT t u := by
    rw [← hW, Bool.eq_iff_iff, List.isEmpty_iff, List.filter_eq_nil_iff]
    unfold subT
    rw [Bool.and_eq_true, Bool.and_eq_true]
    constructor
    · intro h
      have h0 := h 0 (by simp); have h1 := h 1 (by simp); have h2 := h 2 (by simp)
      exact ⟨by simpa [subK] using h0, by simpa [subK] using h1, by simpa [subK] using h2⟩
    · rintro ⟨h0, h1, h2⟩ k hk
      simp only [List.mem_cons, List.not_mem_nil, or_false] at hk
      rcases hk with rfl | rfl | rfl
      · show ¬ (!(t.cs.all fun q => decide (q ∈ u.cs))) = true
        rw [h0]; decide
      · show ¬ (!(t.ds.all fun q => decide (q ∈ u.ds))) = true
        rw [h1]; decide
      · show ¬ (!(t.bs.all fun q => decide (q ∈ u.bs))) = true
        rw [h2]; decide
  rw [hb] at eq
  refine ⟨T1 ++ [.lst (intsN W)] ++ [.lst []], ?_, (K1.trans (Keep.push _ _ _)).trans (Keep.push _ _ _)⟩
  have it : iRng (eC (.int 3)) [some t.d, some u.d, none, none] S = .ok ⟨rngD 0 3, []⟩ S := by simp
  unfold isinT at e1'
  exact (mkF_eq 2 4 _ [t.d, u.d] S rfl).trans (by
    rw [show startE 4 [t.d, u.d] = [some t.d, some u.d, none, none] from rfl]
    rw [show b__law_is_within [some t.d, some u.d, none, none] S = .rt (.bl (subT t u)) (T1 ++ [.lst (intsN W)] ++ [.lst []]) from by
      simp only [sRet_eq, eOp_eq, eComp_eq, it, Res.bind_ok, wipeE_cons, wipeE_nil, List.set_cons_succ, List.set_cons_zero, e1', noEx_ok, eLst_eq, aNil_eq, List.length_nil]
      rw [if_pos (by simp [LIM_val]), Res.bind_ok, eq, ofE_ok]])
/-! ### joined tables are right -/
theorem same_bls {S : Store} {l m : Nat} {bs : List Bool} (h : S[l]? = some (.lst (bs.map D.bl))) (k : S[m]? = some (.lst (bs.map D.bl))) (hz : bs.length ≤ 1000000) : F__law_same [.ref l, .ref m] S = .ok (.bl true) S := by
  refine same_true 2 (by decide) ⟨_, _, h, k, rfl, by simpa using hz, fun i a b ha hb => ?_⟩
  rw [ha] at hb; cases hb
  rw [List.getElem?_map] at ha
  cases e : bs[i]? with
  | none => rw [e] at ha; cases ha
  | some v => rw [e] at ha; cases ha; exact rfl
theorem subT_join_l {t u w : Tab} (h : JoinOf t u w) : subT t w = true := by
  unfold subT
  simp only [Bool.and_eq_true, List.all_eq_true, decide_eq_true_eq]
  exact ⟨fun q hq => (h.cm q).mpr (.inl hq), fun q hq => (h.dm q).mpr (.inl hq), fun q hq => (h.bm q).mpr (.inl hq)⟩
theorem subT_join_r {t u w : Tab} (h : JoinOf t u w) : subT u w = true := by
  unfold subT
  simp only [Bool.and_eq_true, List.all_eq_true, decide_eq_true_eq]
  exact ⟨fun q hq => (h.cm q).mpr (.inr hq), fun q hq => (h.dm q).mpr (.inr hq), fun q hq => (h.bm q).mpr (.inr hq)⟩
theorem subT_join {t u w : Tab} (h : JoinOf t u w) : subT w t = subT u t := by
  unfold subT
  rw [Bool.eq_iff_iff]
  simp only [Bool.and_eq_true, List.all_eq_true, decide_eq_true_eq]
  exact ⟨fun z => ⟨fun q hq => z.1 q ((h.cm q).mpr (.inr hq)), fun q hq => z.2.1 q ((h.dm q).mpr (.inr hq)), fun q hq => z.2.2 q ((h.bm q).mpr (.inr hq))⟩,
    fun z => ⟨fun q hq => ((h.cm q).mp hq).elim id (z.1 q), fun q hq => ((h.dm q).mp hq).elim id (z.2.1 q), fun q hq => ((h.bm q).mp hq).elim id (z.2.2 q)⟩⟩
theorem law_joined_ok {c : Sch} (hc : c.Ok) {t u : Tab} (ht : TabOk c t) (hu : TabOk c u) (S : Store) : ∃ T, F__law_joined_right [c.d, t.d, u.d] S = .ok (.bl true) T ∧ Keep [] S T := by
  have t4 := ht.c400; have u4 := hu.c400
  have td := ht.dlen hc; have ud := hu.dlen hc; have tb := ht.blen hc; have ub := hu.blen hc
  obtain ⟨w, T1, e1, hw, K1⟩ := law_merged_ok hc ht hu S
  have s1 : (sSet 3 (eCall F__law_merged (aCons (eV 1) (aCons (eV 2) aNil)))) [some c.d, some t.d, some u.d, none, none, none] S = .nx [some c.d, some t.d, some u.d, some w.d, none, none] T1 := by simp [e1]
  have wi := tab_ix0 w
  -- lengths of what is joined
  have sub_len : ∀ {L A B : List Nat}, L.Pairwise (· < ·) → (∀ x, x ∈ L ↔ x ∈ A ∨ x ∈ B) → (∀ x ∈ A, x < c.fs.length) → (∀ x ∈ B, x < c.fs.length) → L.length ≤ 40 := fun h1 h2 h3 h4 => Nat.le_trans (rise_le h1 fun x hx => ((h2 x).mp hx).elim (h3 x) (h4 x)) hc.f40
  have wd := sub_len hw.dlt hw.dm ht.ds hu.ds
  have wb := sub_len hw.blt hw.bm ht.bs hu.bs
  have s2 : (sSet 4 (eIf (tE (eOp oLe (eUn fLen (eOp oIx (eV 3) (eC (.int 0)))) (eC (.int 400)))) (eTup (aCons (eC (.str "told")) (aCons (eV 3) aNil))) (eTup (aCons (eC (.str "TooMany")) (aCons (eUn fLen (eOp oIx (eV 3) (eC (.int 0)))) aNil))))) [some c.d, some t.d, some u.d, some w.d, none, none] T1 = .nx [some c.d, some t.d, some u.d, some w.d, some (heardD (over w.cs.length) w.d), none] T1 := by
    unfold heardD over
    by_cases h4 : w.cs.length ≤ 400
    · have h4' : (w.cs.length : Int) ≤ 400 := by omega
      simp [wi, h4, h4', LIM_val]
    · have h4' : ¬ (w.cs.length : Int) ≤ 400 := by omega
      simp [wi, h4, h4', LIM_val]
  obtain ⟨T2, e2, K2⟩ := joined_ok hc ht hu hw T1
  have hd := heard_res (over w.cs.length) w.d T2
  rw [← e2] at hd
  have pl : Plain 4 (heardD (over w.cs.length) w.d) := plain_heard fun h => plain_tab3 (by unfold over at h; split at h; omega; cases h) (by omega) (by omega)
  have sm : F__law_same [heardD (over w.cs.length) w.d, heardD (over w.cs.length) w.d] T2 = .ok (.bl true) T2 := same_true 4 (by decide) (same_refl 4 _ pl)
  have s3 : (sIf (Wk.tNot (tE (eCall F__law_same (aCons (eHeard heardCs (eCall F_joined_tables (aCons (eV 0) (aCons (eV 1) (aCons (eV 2) aNil))))) (aCons (eV 4) aNil))))) (sRet (eC (.bl false))) sSkip) [some c.d, some t.d, some u.d, some w.d, some (heardD (over w.cs.length) w.d), none] T1 = .nx [some c.d, some t.d, some u.d, some w.d, some (heardD (over w.cs.length) w.d), none] T2 := by
    simp [hd, sm]
  obtain ⟨T3, e3, K3⟩ := within_ok hc ht hu T2
  obtain ⟨T4, e4, K4⟩ := within_ok hc hu ht T3
  generalize hT5 : T4 ++ [Ob.lst ([subT t u, subT u t].map D.bl)] = T5
  have g5 : T5[T4.length]? = some (.lst ([subT t u, subT u t].map D.bl)) := by rw [← hT5]; exact get_last _ _
  have K5 : Keep [] T4 T5 := by rw [← hT5]; exact Keep.push _ _ _
  generalize hH : heardD (over w.cs.length) w.d = H at *
  have s4 : (sSet 5 (eLst (aCons (eCall F_table_within (aCons (eV 0) (aCons (eV 1) (aCons (eV 2) aNil)))) (aCons (eCall F_table_within (aCons (eV 0) (aCons (eV 2) (aCons (eV 1) aNil)))) aNil)))) [some c.d, some t.d, some u.d, some w.d, some H, none] T2 = .nx [some c.d, some t.d, some u.d, some w.d, some H, some (.ref T4.length)] T5 := by
    simp [e3, e4, LIM_val, ← hT5]
  obtain ⟨T6, e6, K6⟩ := law_within_ok t u T5
  obtain ⟨T7, e7, K7⟩ := law_within_ok u t T6
  have g7 := (K6.trans K7).get g5 (by simp)
  generalize hT8 : T7 ++ [Ob.lst ([subT t u, subT u t].map D.bl)] = T8
  have K8 : Keep [] T7 T8 := by rw [← hT8]; exact Keep.push _ _ _
  have sm8 := same_bls (K8.get g7 (by simp)) (show T8[T7.length]? = some (.lst ([subT t u, subT u t].map D.bl)) by rw [← hT8]; exact get_last _ _) (by simp)
  have s5 : (sIf (Wk.tNot (tE (eCall F__law_same (aCons (eV 5) (aCons (eLst (aCons (eCall F__law_is_within (aCons (eV 1) (aCons (eV 2) aNil))) (aCons (eCall F__law_is_within (aCons (eV 2) (aCons (eV 1) aNil))) aNil))) aNil))))) (sRet (eC (.bl false))) sSkip) [some c.d, some t.d, some u.d, some w.d, some H, some (.ref T4.length)] T5 = .nx [some c.d, some t.d, some u.d, some w.d, some H, some (.ref T4.length)] T8 := by
    have hT8' : T7 ++ [Ob.lst [.bl (subT t u), .bl (subT u t)]] = T8 := hT8
    simp [e6, e7, LIM_val, hT8', sm8]
  have K08 := ((((((K1.trans K2).trans K3).trans K4).trans K5).trans K6).trans K7).trans K8
  by_cases h4 : w.cs.length ≤ 400
  · have h4' : ¬ (400 : Int) < (w.cs.length : Int) := by omega
    have ok := hw.ok ht hu h4
    obtain ⟨T9, e9, K9⟩ := within_ok hc ht ok T8
    obtain ⟨T10, e10, K10⟩ := within_ok hc hu ok T9
    obtain ⟨T11, e11, K11⟩ := within_ok hc ok ht T10
    rw [subT_join_l hw] at e9
    rw [subT_join_r hw] at e10
    rw [subT_join hw] at e11
    generalize hT12 : T11 ++ [Ob.lst ([true, true, subT u t].map D.bl)] = T12
    have g12 : T12[T11.length]? = some (.lst ([true, true, subT u t].map D.bl)) := by rw [← hT12]; exact get_last _ _
    have K12 : Keep [] T11 T12 := by rw [← hT12]; exact Keep.push _ _ _
    obtain ⟨T13, e13, K13⟩ := law_within_ok u t T12
    generalize hT14 : T13 ++ [Ob.lst ([true, true, subT u t].map D.bl)] = T14
    have K14 : Keep [] T13 T14 := by rw [← hT14]; exact Keep.push _ _ _
    have sm14 := same_bls ((K13.trans K14).get g12 (by simp)) (show T14[T13.length]? = some (.lst ([true, true, subT u t].map D.bl)) by rw [← hT14]; exact get_last _ _) (by simp)
    refine ⟨T14, ?_, ((((((K08.trans K9).trans K10).trans K11).trans K12).trans K13).trans K14)⟩
    have s6 : (sIf (tE (eOp oGt (eUn fLen (eOp oIx (eV 3) (eC (.int 0)))) (eC (.int 400)))) (sRet (eC (.bl true))) sSkip) [some c.d, some t.d, some u.d, some w.d, some H, some (.ref T4.length)] T8 = .nx [some c.d, some t.d, some u.d, some w.d, some H, some (.ref T4.length)] T8 := by simp [wi, h4']
    have s7 : (sSet 5 (eLst (aCons (eCall F_table_within (aCons (eV 0) (aCons (eV 1) (aCons (eV 3) aNil)))) (aCons (eCall F_table_within (aCons (eV 0) (aCons (eV 2) (aCons (eV 3) aNil)))) (aCons (eCall F_table_within (aCons (eV 0) (aCons (eV 3) (aCons (eV 1) aNil)))) aNil))))) [some c.d, some t.d, some u.d, some w.d, some H, some (.ref T4.length)] T8 = .nx [some c.d, some t.d, some u.d, some w.d, some H, some (.ref T11.length)] T12 := by
      simp [e9, e10, e11, LIM_val, ← hT12]
    have s8 : (sRet (eCall F__law_same (aCons (eV 5) (aCons (eLst (aCons (eC (.bl true)) (aCons (eC (.bl true)) (aCons (eCall F__law_is_within (aCons (eV 2) (aCons (eV 1) aNil))) aNil)))) aNil)))) [some c.d, some t.d, some u.d, some w.d, some H, some (.ref T11.length)] T12 = .rt (.bl true) T14 := by
      have hT14' : T13 ++ [Ob.lst [.bl true, .bl true, .bl (subT u t)]] = T14 := hT14
      simp [e13, LIM_val, hT14', sm14]
    exact (mkF_eq 3 6 _ [c.d, t.d, u.d] S rfl).trans (by
      rw [show startE 6 [c.d, t.d, u.d] = [some c.d, some t.d, some u.d, none, none, none] from rfl]
      rw [show b__law_joined_right [some c.d, some t.d, some u.d, none, none, none] S = .rt (.bl true) T14 from nx_seq s1 (nx_seq s2 (nx_seq s3 (nx_seq s4 (nx_seq s5 (nx_seq s6 (nx_seq s7 s8))))))])
  · have h4' : (400 : Int) < (w.cs.length : Int) := by omega
    refine ⟨T8, ?_, K08⟩
    exact (mkF_eq 3 6 _ [c.d, t.d, u.d] S rfl).trans (by
      rw [show startE 6 [c.d, t.d, u.d] = [some c.d, some t.d, some u.d, none, none, none] from rfl]
      rw [show b__law_joined_right [some c.d, some t.d, some u.d, none, none, none] S = .rt (.bl true) T8 from nx_seq s1 (nx_seq s2 (nx_seq s3 (nx_seq s4 (nx_seq s5 (by
        rw [sSeq_eq, show (sIf (tE (eOp oGt (eUn fLen (eOp oIx (eV 3) (eC (.int 0)))) (eC (.int 400)))) (sRet (eC (.bl true))) sSkip) [some c.d, some t.d, some u.d, some w.d, some H, some (.ref T4.length)] T8 = .rt (.bl true) T8 from by simp [wi, h4']])))))])
end WkL


set_option Elab.async false
set_option linter.all false
set_option maxRecDepth 100000
set_option maxHeartbeats 1000000
set_option autoImplicit false
/-! Pk06d: schemas put beside one another. -/
namespace WkL
open PySem (Str)
open Wk
def mv1 (c e : Sch) (a : Nat) : Nat := if a < c.h then a else a + e.h
def mv2 (c e : Sch) (a : Nat) : Nat := if a < e.h then c.h + a else c.k + a
def mvF (m : Nat → Nat) (q : Nat × Nat) : Nat × Nat := (m q.1, m q.2)
def bes (c e : Sch) : Sch := ⟨c.h + e.h, c.k + e.k, c.fs.map (mvF (mv1 c e)) ++ e.fs.map (mvF (mv2 c e))⟩
def besX (c e : Sch) : Option Nat := if 6 < c.h + e.h then some (c.h + e.h) else if 24 < c.k + e.k then some (c.k + e.k) else if 40 < c.fs.length + e.fs.length then some (c.fs.length + e.fs.length) else none
theorem sch_ix0 (c : Sch) (S : Store) : oIx c.d (.int 0) S = .ok (.int (c.h : Int)) S := by unfold Sch.d; simp
theorem sch_ix1 (c : Sch) (S : Store) : oIx c.d (.int 1) S = .ok (.int (c.k : Int)) S := by unfold Sch.d; simp
theorem sch_ix2 (c : Sch) (S : Store) : oIx c.d (.int 2) S = .ok (.tup (c.fs.map fD)) S := by unfold Sch.d; simp
theorem forL_ex {c : Chk} {g : Tg} {b : FS} {s s1 s2 : Env} {S S2 : Store} {d w : D} {k : String} {ds : List D} (h : okC c S = true) (hg : gF g d s = some s1) (hb : b s1 S = .ex k w s2 S2) : forL c g b (d :: ds) s S = .ex k w s2 S2 := by
  conv => lhs; unfold forL
  rw [if_pos h, hg]
  dsimp only
  rw [hb]
/-- the kinds of the first, of the second, by a test with their number -/
theorem kinds1 {g : Tg} {e : FE} {sw : Env} {c f : Sch} (m : Nat → Nat) (n : Nat) (S : Store) (h : ∀ i : Nat, i < n → ∃ s1, gF g (.int (i : Int)) sw = some s1 ∧ e s1 S = .ok (.int (m i : Int)) S) :
    compL [] g tTrue e sw (rngD 0 (n : Int)) S = .ok (intsN ((List.range n).map m)) S := by
  rw [rngD_on]
  refine (compL_on (c := []) (S := S) (dg := fun (i : Nat) => D.int (i : Int)) (p := fun _ => true) (f := fun (i : Nat) => D.int (m i : Int)) rfl (List.range n) ?_).trans (by rw [List.filter_eq_self.mpr (fun _ _ => rfl), intsN, List.map_map]; rfl)
  intro i hi
  obtain ⟨s1, h1, h2⟩ := h i (List.mem_range.mp hi)
  exact ⟨s1, h1, rfl, fun _ => h2⟩
theorem kinds_beside_ok {c e : Sch} (hc : c.Ok) (he : e.Ok) (S : Store) : F_kinds_beside [c.d, e.d] S = .ok (.tup [.ref S.length, .ref (S.length + 1)]) (S ++ [.lst (intsN ((List.range c.k).map (mv1 c e)))] ++ [.lst (intsN ((List.range e.k).map (mv2 c e)))]) := by
  have k1 := hc.k24; have k2 := he.k24
  have r1 : -(4611686018427387904 : Int) ≤ (c.k : Int) := by omega
  have r2 : (c.k : Int) ≤ 16777216 := by omega
  have q1 : -(4611686018427387904 : Int) ≤ (e.k : Int) := by omega
  have q2 : (e.k : Int) ≤ 16777216 := by omega
  have c0 := sch_ix0 c; have c1 := sch_ix1 c; have e0 := sch_ix0 e; have e1 := sch_ix1 e
  have cp1 : ∀ T, compL [] (.nm 4) tTrue (eIf (tE (eOp oLt (eV 4) (eOp oIx (eV 0) (eC (.int 0))))) (eV 4) (eOp oAdd (eV 4) (eOp oIx (eV 1) (eC (.int 0))))) [some c.d, some e.d, none, none, none] (rngD 0 (c.k : Int)) T = .ok (intsN ((List.range c.k).map (mv1 c e))) T := fun T => by
    refine kinds1 (c := c) (f := e) (mv1 c e) c.k T fun i _ => ⟨_, rfl, ?_⟩
    unfold mv1
    by_cases h : i < c.h
    · have h' : (i : Int) < (c.h : Int) := by omega
      simp [c0, e0, h, h']
    · have h' : ¬ (i : Int) < (c.h : Int) := by omega
      simp [c0, e0, h, h']
  have cp2 : ∀ (a : Nat) T, compL [] (.nm 4) tTrue (eIf (tE (eOp oLt (eV 4) (eOp oIx (eV 1) (eC (.int 0))))) (eOp oAdd (eOp oIx (eV 0) (eC (.int 0))) (eV 4)) (eOp oAdd (eOp oIx (eV 0) (eC (.int 1))) (eV 4))) [some c.d, some e.d, some (.ref a), none, none] (rngD 0 (e.k : Int)) T = .ok (intsN ((List.range e.k).map (mv2 c e))) T := fun a T => by
    refine kinds1 (c := c) (f := e) (mv2 c e) e.k T fun i _ => ⟨_, rfl, ?_⟩
    unfold mv2
    by_cases h : i < e.h
    · have h' : (i : Int) < (e.h : Int) := by omega
      simp [c0, c1, e0, h, h']
    · have h' : ¬ (i : Int) < (e.h : Int) := by omega
      simp [c0, c1, e0, h, h']
  have s1 : (sSet 2 (eComp (iRng (eOp oIx (eV 0) (eC (.int 1)))) (.nm 4) tTrue (eIf (tE (eOp oLt (eV 4) (eOp oIx (eV 0) (eC (.int 0))))) (eV 4) (eOp oAdd (eV 4) (eOp oIx (eV 1) (eC (.int 0))))) [4])) [some c.d, some e.d, none, none, none] S = .nx [some c.d, some e.d, some (.ref S.length), none, none] (S ++ [.lst (intsN ((List.range c.k).map (mv1 c e)))]) := by
    simp [c1, r1, r2, cp1]
  have s2 : (sSet 3 (eComp (iRng (eOp oIx (eV 1) (eC (.int 1)))) (.nm 4) tTrue (eIf (tE (eOp oLt (eV 4) (eOp oIx (eV 1) (eC (.int 0))))) (eOp oAdd (eOp oIx (eV 0) (eC (.int 0))) (eV 4)) (eOp oAdd (eOp oIx (eV 0) (eC (.int 1))) (eV 4))) [4])) [some c.d, some e.d, some (.ref S.length), none, none] (S ++ [.lst (intsN ((List.range c.k).map (mv1 c e)))]) = .nx [some c.d, some e.d, some (.ref S.length), some (.ref (S.length + 1)), none] (S ++ [.lst (intsN ((List.range c.k).map (mv1 c e)))] ++ [.lst (intsN ((List.range e.k).map (mv2 c e)))]) := by
    simp [e1, q1, q2, cp2]
  exact (mkF_eq 2 5 _ [c.d, e.d] S rfl).trans (by
    rw [show startE 5 [c.d, e.d] = [some c.d, some e.d, none, none, none] from rfl]
    rw [show b_kinds_beside [some c.d, some e.d, none, none, none] S = .rt (.tup [.ref S.length, .ref (S.length + 1)]) (S ++ [.lst (intsN ((List.range c.k).map (mv1 c e)))] ++ [.lst (intsN ((List.range e.k).map (mv2 c e)))]) from nx_seq s1 (nx_seq s2 (by simp [LIM_val]))])
theorem mvs_get {T : Store} {l k : Nat} {m : Nat → Nat} (h : T[l]? = some (.lst (intsN ((List.range k).map m)))) {a : Nat} (ha : a < k) : oIx (.ref l) (.int (a : Int)) T = .ok (.int (m a : Int)) T := by
  refine oIx_lst h ?_
  rw [intsN, List.map_map, List.getElem?_map, List.getElem?_range ha]
  rfl
/-- the fields moved -/
theorem move_comp {t1 t2 t0 : Nat} {T : Store} {l k : Nat} {m : Nat → Nat} {sw : Env} {fs : List (Nat × Nat)} {g : Tg} {e : FE} (hl : T[l]? = some (.lst (intsN ((List.range k).map m)))) (hf : ∀ q ∈ fs, q.1 < k ∧ q.2 < k)
    (h : ∀ q ∈ fs, ∃ s1, gF g (fD q) sw = some s1 ∧ e s1 T = ((oIx (.ref l) (.int (q.1 : Int)) T).bind fun x S1 => (oIx (.ref l) (.int (q.2 : Int)) S1).bind fun y S2 => .ok (.tup [x, y]) S2)) :
    compL [] g tTrue e sw (fs.map fD) T = .ok ((fs.map (mvF m)).map fD) T := by
  refine (compL_on (c := []) (S := T) (dg := fD) (p := fun _ => true) (f := fun q => fD (mvF m q)) rfl fs ?_).trans (by rw [List.filter_eq_self.mpr (fun _ _ => rfl), List.map_map]; rfl)
  intro q hq
  obtain ⟨s1, h1, h2⟩ := h q hq
  obtain ⟨q1, q2⟩ := hf q hq
  refine ⟨s1, h1, rfl, fun _ => ?_⟩
  rw [h2, mvs_get hl q1, Res.bind_ok, mvs_get hl q2, Res.bind_ok]
  rfl
def extB : FS := (sExpr (eBM oExtend (eV 7) (eComp (iSeq (eOp oIx (eV 8) (eC (.int 2)))) (.tp [(.nm 10), (.nm 11)]) tTrue (eTup (aCons (eOp oIx (eV 9) (eV 10)) (aCons (eOp oIx (eV 9) (eV 11)) aNil))) [10, 11])))
theorem ext_ok {c e x : Sch} (m : Nat → Nat) {o0 o1 o4 o5 o6 : Option D} {a l k : Nat} {T : Store} {acc : List (Nat × Nat)} (ga : T[a]? = some (.lst (acc.map fD))) (hl : T[l]? = some (.lst (intsN ((List.range k).map m)))) (hf : ∀ q ∈ x.fs, q.1 < k ∧ q.2 < k) (hz : acc.length + x.fs.length ≤ 1000) :
    extB [o0, o1, some c.d, some e.d, o4, o5, o6, some (.ref a), some x.d, some (.ref l), none, none] T = .nx [o0, o1, some c.d, some e.d, o4, o5, o6, some (.ref a), some x.d, some (.ref l), none, none] ((T ++ [Ob.lst ((x.fs.map (mvF m)).map fD)]).set a (Ob.lst ((acc ++ x.fs.map (mvF m)).map fD))) := by
  have cp : compL [] (.tp [(.nm 10), (.nm 11)]) tTrue (eTup (aCons (eOp oIx (eV 9) (eV 10)) (aCons (eOp oIx (eV 9) (eV 11)) aNil))) [o0, o1, some c.d, some e.d, o4, o5, o6, some (.ref a), some x.d, some (.ref l), none, none] (x.fs.map fD) T = .ok ((x.fs.map (mvF m)).map fD) T := by
    refine move_comp (t1 := 0) (t2 := 0) (t0 := 0) hl hf fun q hq => ⟨[o0, o1, some c.d, some e.d, o4, o5, o6, some (.ref a), some x.d, some (.ref l), some (.int (q.1 : Int)), some (.int (q.2 : Int))], rfl, ?_⟩
    obtain ⟨q1, q2⟩ := hf q hq
    have h1 := mvs_get hl q1
    have h2 := mvs_get hl q2
    simp [-oIx_ref, h1, h2, LIM_val]
  have x2 := sch_ix2 x
  have g2 : (T ++ [Ob.lst ((x.fs.map (mvF m)).map fD)])[a]? = some (.lst (acc.map fD)) := by rw [List.getElem?_append_left (lt_of_get ga)]; exact ga
  have ex := oExtend_lst g2 (get_last T (.lst ((x.fs.map (mvF m)).map fD))) (by simp [LIM_val]; omega)
  rw [← List.map_append] at ex
  have il := isLst_lst ga
  unfold extB
  simp only [sExpr_eq, eBM_eq, eV_eq, eOp_eq, eC_eq, List.getElem?_cons_succ, List.getElem?_cons_zero, Res.bind_ok, il, if_true, eComp_eq, iSeq_eq, x2, wipeE_cons, wipeE_nil, List.set_cons_succ, List.set_cons_zero, cp, noEx_ok, ex, ofE_ok]
theorem beside_ok {c e : Sch} (hc : c.Ok) (he : e.Ok) (S : Store) : ∃ T, F_beside [c.d, e.d] S = resD (besX c e) (bes c e).d T ∧ Keep [] S T := by
  have k1 := hc.k24; have k2 := he.k24; have f1 := hc.f40; have f2 := he.f40
  have c0 := sch_ix0 c; have c1 := sch_ix1 c; have c2 := sch_ix2 c; have e0 := sch_ix0 e; have e1 := sch_ix1 e; have e2 := sch_ix2 e
  have m1 := made_ok hc S
  have m2 := made_ok he (S ++ [.lst (c.fs.map fD)])
  generalize hS1 : S ++ [Ob.lst (c.fs.map fD)] ++ [Ob.lst (e.fs.map fD)] = S1 at m2
  have K1 : Keep [] S S1 := by rw [← hS1]; exact (Keep.push _ _ _).trans (Keep.push _ _ _)
  have s1 : (sPar 2 3 (eCall F_made_schema (aCons (eV 0) aNil)) (eCall F_made_schema (aCons (eV 1) aNil))) [some c.d, some e.d, none, none, none, none, none, none, none, none, none, none] S = .nx [some c.d, some e.d, some c.d, some e.d, none, none, none, none, none, none, none, none] S1 := by
    simp [m1, m2]
  have out : ∀ {r : Rs}, (sSeq (sFor (iSeq (eTup (aCons (eTup (aCons (eC (.int 0)) (aCons (eC (.int 6)) aNil))) (aCons (eTup (aCons (eC (.int 1)) (aCons (eC (.int 24)) aNil))) aNil)))) (.tp [(.nm 4), (.nm 5)]) (sIf (tE (eOp oGt (eOp oAdd (eOp oIx (eV 2) (eV 4)) (eOp oIx (eV 3) (eV 4))) (eV 5))) (sRaise "TooMany" (eOp oAdd (eOp oIx (eV 2) (eV 4)) (eOp oIx (eV 3) (eV 4)))) sSkip)) (sSeq (sSet 6 (eOp oAdd (eUn fLen (eOp oIx (eV 2) (eC (.int 2)))) (eUn fLen (eOp oIx (eV 3) (eC (.int 2))))))
    (sSeq (sIf (tE (eOp oGt (eV 6) (eC (.int 40)))) (sRaise "TooMany" (eV 6)) sSkip)
    (sSeq (sSet 7 (eLst aNil))
    (sSeq (sFor (iZip (eTup (aCons (eV 2) (aCons (eV 3) aNil))) (eCall F_kinds_beside (aCons (eV 2) (aCons (eV 3) aNil)))) (.tp [(.nm 8), (.nm 9)]) (sExpr (eBM oExtend (eV 7) (eComp (iSeq (eOp oIx (eV 8) (eC (.int 2)))) (.tp [(.nm 10), (.nm 11)]) tTrue (eTup (aCons (eOp oIx (eV 9) (eV 10)) (aCons (eOp oIx (eV 9) (eV 11)) aNil))) [10, 11]))))
    (sRet (eTup (aCons (eOp oAdd (eOp oIx (eV 2) (eC (.int 0))) (eOp oIx (eV 3) (eC (.int 0)))) (aCons (eOp oAdd (eOp oIx (eV 2) (eC (.int 1))) (eOp oIx (eV 3) (eC (.int 1)))) (aCons (eUn fTuple (eV 7)) aNil)))))))))) [some c.d, some e.d, some c.d, some e.d, none, none, none, none, none, none, none, none] S1 = r → F_beside [c.d, e.d] S = (match r with
    | .nx _ S' => .ok .non S'
    | .rt d S' => .ok d S'
    | .ex c w _ S' => .ex c w S'
    | _ => .bad) := by
    intro r h
    refine (mkF_eq 2 12 _ [c.d, e.d] S rfl).trans ?_
    rw [show startE 12 [c.d, e.d] = [some c.d, some e.d, none, none, none, none, none, none, none, none, none, none] from rfl]
    rw [show b_beside [some c.d, some e.d, none, none, none, none, none, none, none, none, none, none] S = r from nx_seq s1 h]
    all_goals rfl
  have it : iSeq (eTup (aCons (eTup (aCons (eC (.int 0)) (aCons (eC (.int 6)) aNil))) (aCons (eTup (aCons (eC (.int 1)) (aCons (eC (.int 24)) aNil))) aNil))) [some c.d, some e.d, some c.d, some e.d, none, none, none, none, none, none, none, none] S1 = .ok ⟨[.tup [.int 0, .int 6], .tup [.int 1, .int 24]], []⟩ S1 := by simp [LIM_val]
  unfold besX
  by_cases h6 : 6 < c.h + e.h
  · have h6' : (6 : Int) < (c.h : Int) + (e.h : Int) := by omega
    rw [if_pos h6]
    refine ⟨S1, out (r := .ex "TooMany" (.int ((c.h + e.h : Nat) : Int)) [some c.d, some e.d, some c.d, some e.d, some (.int 0), some (.int 6), none, none, none, none, none, none] S1) ?_, K1⟩
    rw [sSeq_eq, sFor_eq, it, ofE_ok, forL_ex rfl rfl (show (sIf (tE (eOp oGt (eOp oAdd (eOp oIx (eV 2) (eV 4)) (eOp oIx (eV 3) (eV 4))) (eV 5))) (sRaise "TooMany" (eOp oAdd (eOp oIx (eV 2) (eV 4)) (eOp oIx (eV 3) (eV 4)))) sSkip) [some c.d, some e.d, some c.d, some e.d, some (.int 0), some (.int 6), none, none, none, none, none, none] S1 = .ex "TooMany" (.int ((c.h + e.h : Nat) : Int)) [some c.d, some e.d, some c.d, some e.d, some (.int 0), some (.int 6), none, none, none, none, none, none] S1 from by
      simp [c0, e0, h6'])]
  rw [if_neg h6]
  have h6' : ¬ (6 : Int) < (c.h : Int) + (e.h : Int) := by omega
  have t1 : (sIf (tE (eOp oGt (eOp oAdd (eOp oIx (eV 2) (eV 4)) (eOp oIx (eV 3) (eV 4))) (eV 5))) (sRaise "TooMany" (eOp oAdd (eOp oIx (eV 2) (eV 4)) (eOp oIx (eV 3) (eV 4)))) sSkip) [some c.d, some e.d, some c.d, some e.d, some (.int 0), some (.int 6), none, none, none, none, none, none] S1 = .nx [some c.d, some e.d, some c.d, some e.d, some (.int 0), some (.int 6), none, none, none, none, none, none] S1 := by
    simp [c0, e0, h6']
  by_cases h24 : 24 < c.k + e.k
  · have h24' : (24 : Int) < (c.k : Int) + (e.k : Int) := by omega
    rw [if_pos h24]
    refine ⟨S1, out (r := .ex "TooMany" (.int ((c.k + e.k : Nat) : Int)) [some c.d, some e.d, some c.d, some e.d, some (.int 1), some (.int 24), none, none, none, none, none, none] S1) ?_, K1⟩
    rw [sSeq_eq, sFor_eq, it, ofE_ok, forL_cons rfl rfl t1, forL_ex rfl rfl (show (sIf (tE (eOp oGt (eOp oAdd (eOp oIx (eV 2) (eV 4)) (eOp oIx (eV 3) (eV 4))) (eV 5))) (sRaise "TooMany" (eOp oAdd (eOp oIx (eV 2) (eV 4)) (eOp oIx (eV 3) (eV 4)))) sSkip) [some c.d, some e.d, some c.d, some e.d, some (.int 1), some (.int 24), none, none, none, none, none, none] S1 = .ex "TooMany" (.int ((c.k + e.k : Nat) : Int)) [some c.d, some e.d, some c.d, some e.d, some (.int 1), some (.int 24), none, none, none, none, none, none] S1 from by
      simp [c1, e1, h24'])]
  rw [if_neg h24]
  have h24' : ¬ (24 : Int) < (c.k : Int) + (e.k : Int) := by omega
  have t2 : (sIf (tE (eOp oGt (eOp oAdd (eOp oIx (eV 2) (eV 4)) (eOp oIx (eV 3) (eV 4))) (eV 5))) (sRaise "TooMany" (eOp oAdd (eOp oIx (eV 2) (eV 4)) (eOp oIx (eV 3) (eV 4)))) sSkip) [some c.d, some e.d, some c.d, some e.d, some (.int 1), some (.int 24), none, none, none, none, none, none] S1 = .nx [some c.d, some e.d, some c.d, some e.d, some (.int 1), some (.int 24), none, none, none, none, none, none] S1 := by
    simp [c1, e1, h24']
  have s2 : (sFor (iSeq (eTup (aCons (eTup (aCons (eC (.int 0)) (aCons (eC (.int 6)) aNil))) (aCons (eTup (aCons (eC (.int 1)) (aCons (eC (.int 24)) aNil))) aNil)))) (.tp [(.nm 4), (.nm 5)]) (sIf (tE (eOp oGt (eOp oAdd (eOp oIx (eV 2) (eV 4)) (eOp oIx (eV 3) (eV 4))) (eV 5))) (sRaise "TooMany" (eOp oAdd (eOp oIx (eV 2) (eV 4)) (eOp oIx (eV 3) (eV 4)))) sSkip)) [some c.d, some e.d, some c.d, some e.d, none, none, none, none, none, none, none, none] S1 = .nx [some c.d, some e.d, some c.d, some e.d, some (.int 1), some (.int 24), none, none, none, none, none, none] S1 := by
    rw [sFor_eq, it, ofE_ok, forL_cons rfl rfl t1, forL_cons rfl rfl t2, forL_nil rfl]
  have s3 : (sSet 6 (eOp oAdd (eUn fLen (eOp oIx (eV 2) (eC (.int 2)))) (eUn fLen (eOp oIx (eV 3) (eC (.int 2)))))) [some c.d, some e.d, some c.d, some e.d, some (.int 1), some (.int 24), none, none, none, none, none, none] S1 = .nx [some c.d, some e.d, some c.d, some e.d, some (.int 1), some (.int 24), some (.int ((c.fs.length + e.fs.length : Nat) : Int)), none, none, none, none, none] S1 := by
    simp [c2, e2]
  by_cases h40 : 40 < c.fs.length + e.fs.length
  · have h40' : (40 : Int) < ((c.fs.length + e.fs.length : Nat) : Int) := by omega
    rw [if_pos h40]
    refine ⟨S1, out (r := .ex "TooMany" (.int ((c.fs.length + e.fs.length : Nat) : Int)) [some c.d, some e.d, some c.d, some e.d, some (.int 1), some (.int 24), some (.int ((c.fs.length + e.fs.length : Nat) : Int)), none, none, none, none, none] S1) (nx_seq s2 (nx_seq s3 ?_)), K1⟩
    simp only [sSeq_eq, sIf_eq, tE_eq, eOp_eq, eV_eq, eC_eq, List.getElem?_cons_succ, List.getElem?_cons_zero, Res.bind_ok, oGt_int, ofE_ok, decide_eq_true h40', if_true, sRaise_eq]
  rw [if_neg h40]
  have h40' : ¬ (40 : Int) < ((c.fs.length + e.fs.length : Nat) : Int) := by omega
  have s4 : (sIf (tE (eOp oGt (eV 6) (eC (.int 40)))) (sRaise "TooMany" (eV 6)) sSkip) [some c.d, some e.d, some c.d, some e.d, some (.int 1), some (.int 24), some (.int ((c.fs.length + e.fs.length : Nat) : Int)), none, none, none, none, none] S1 = .nx [some c.d, some e.d, some c.d, some e.d, some (.int 1), some (.int 24), some (.int ((c.fs.length + e.fs.length : Nat) : Int)), none, none, none, none, none] S1 := by
    simp only [sSkip_eq, sIf_eq, tE_eq, eOp_eq, eV_eq, eC_eq, List.getElem?_cons_succ, List.getElem?_cons_zero, Res.bind_ok, oGt_int, ofE_ok, decide_eq_false h40']
    rfl
  generalize hN : D.int ((c.fs.length + e.fs.length : Nat) : Int) = N at *
  have s5 : (sSet 7 (eLst aNil)) [some c.d, some e.d, some c.d, some e.d, some (.int 1), some (.int 24), some N, none, none, none, none, none] S1 = .nx [some c.d, some e.d, some c.d, some e.d, some (.int 1), some (.int 24), some N, some (.ref S1.length), none, none, none, none] (S1 ++ [.lst []]) := by simp [LIM_val]
  have kb := kinds_beside_ok hc he (S1 ++ [.lst []])
  have hln : (S1 ++ [Ob.lst []]).length = S1.length + 1 := by simp
  rw [hln] at kb
  generalize hS2 : S1 ++ [Ob.lst []] ++ [Ob.lst (intsN ((List.range c.k).map (mv1 c e)))] ++ [Ob.lst (intsN ((List.range e.k).map (mv2 c e)))] = S2 at kb
  have ga : S2[S1.length]? = some (.lst (([] : List (Nat × Nat)).map fD)) := by rw [← hS2]; simp
  have gl1 : S2[S1.length + 1]? = some (.lst (intsN ((List.range c.k).map (mv1 c e)))) := by rw [← hS2]; simp
  have gl2 : S2[S1.length + 1 + 1]? = some (.lst (intsN ((List.range e.k).map (mv2 c e)))) := by
    rw [← hS2, show S1.length + 1 + 1 = (S1 ++ [Ob.lst []] ++ [Ob.lst (intsN ((List.range c.k).map (mv1 c e)))]).length from by simp]
    exact get_last _ _
  have x1 := ext_ok (c := c) (e := e) (x := c) (mv1 c e) (o0 := some c.d) (o1 := some e.d) (o4 := some (.int 1)) (o5 := some (.int 24)) (o6 := some N) (acc := []) ga gl1 (fun q hq => ⟨(hc.fs q hq).1, (hc.fs q hq).2.2⟩) (by simp; omega)
  generalize hS3 : (S2 ++ [Ob.lst ((c.fs.map (mvF (mv1 c e))).map fD)]).set S1.length (.lst (([] ++ c.fs.map (mvF (mv1 c e))).map fD)) = S3 at x1
  have zz : S1.length < S2.length := lt_of_get ga
  have ga3 : S3[S1.length]? = some (.lst ((c.fs.map (mvF (mv1 c e))).map fD)) := by
    rw [← hS3, List.nil_append]
    exact get_set_self (o := .lst (([] : List (Nat × Nat)).map fD)) (by rw [List.getElem?_append_left zz]; exact ga)
  have gl3 : S3[S1.length + 1 + 1]? = some (.lst (intsN ((List.range e.k).map (mv2 c e)))) := by
    rw [← hS3, List.getElem?_set_ne (by omega), List.getElem?_append_left (lt_of_get gl2)]; exact gl2
  have x2 := ext_ok (c := c) (e := e) (x := e) (mv2 c e) (o0 := some c.d) (o1 := some e.d) (o4 := some (.int 1)) (o5 := some (.int 24)) (o6 := some N) ga3 gl3 (fun q hq => ⟨(he.fs q hq).1, (he.fs q hq).2.2⟩) (by simp; omega)
  generalize hS4 : (S3 ++ [Ob.lst ((e.fs.map (mvF (mv2 c e))).map fD)]).set S1.length (.lst ((c.fs.map (mvF (mv1 c e)) ++ e.fs.map (mvF (mv2 c e))).map fD)) = S4 at x2
  have zz3 : S1.length < S3.length := lt_of_get ga3
  have ga4 : S4[S1.length]? = some (.lst ((c.fs.map (mvF (mv1 c e)) ++ e.fs.map (mvF (mv2 c e))).map fD)) := by
    rw [← hS4]
    exact get_set_self (o := .lst ((c.fs.map (mvF (mv1 c e))).map fD)) (by rw [List.getElem?_append_left zz3]; exact ga3)
  have K4 : Keep [] S1 S4 := by
    have a1 : Keep [] S1 S2 := by rw [← hS2, List.append_assoc, List.append_assoc]; exact Keep.push _ _ _
    have a2 : Keep [] S1 S3 := by rw [← hS3]; exact (a1.trans (Keep.push _ _ _)).new (Y := [S1.length]) (Keep.set _ (.inl (by simp))) (by intro j hj; simp at hj; omega)
    rw [← hS4]; exact (a2.trans (Keep.push _ _ _)).new (Y := [S1.length]) (Keep.set _ (.inl (by simp))) (by intro j hj; simp at hj; omega)
  have s6 : (sFor (iZip (eTup (aCons (eV 2) (aCons (eV 3) aNil))) (eCall F_kinds_beside (aCons (eV 2) (aCons (eV 3) aNil)))) (.tp [(.nm 8), (.nm 9)]) (sExpr (eBM oExtend (eV 7) (eComp (iSeq (eOp oIx (eV 8) (eC (.int 2)))) (.tp [(.nm 10), (.nm 11)]) tTrue (eTup (aCons (eOp oIx (eV 9) (eV 10)) (aCons (eOp oIx (eV 9) (eV 11)) aNil))) [10, 11])))) [some c.d, some e.d, some c.d, some e.d, some (.int 1), some (.int 24), some N, some (.ref S1.length), none, none, none, none] (S1 ++ [.lst []]) = .nx [some c.d, some e.d, some c.d, some e.d, some (.int 1), some (.int 24), some N, some (.ref S1.length), some e.d, some (.ref (S1.length + 1 + 1)), none, none] S4 := by
    have iz : iZip (eTup (aCons (eV 2) (aCons (eV 3) aNil))) (eCall F_kinds_beside (aCons (eV 2) (aCons (eV 3) aNil))) [some c.d, some e.d, some c.d, some e.d, some (.int 1), some (.int 24), some N, some (.ref S1.length), none, none, none, none] (S1 ++ [.lst []]) = .ok ⟨[.tup [c.d, .ref (S1.length + 1)], .tup [e.d, .ref (S1.length + 1 + 1)]], []⟩ S2 := by
      unfold iZip
      simp [kb, LIM_val, zipD]
    rw [sFor_eq, iz, ofE_ok]
    unfold extB at x1 x2
    rw [forL_cons rfl rfl x1, forL_cons rfl rfl x2, forL_nil rfl]
  have ft := fTuple_lst ga4
  refine ⟨S4, out (r := .rt (bes c e).d S4) (nx_seq s2 (nx_seq s3 (nx_seq s4 (nx_seq s5 (nx_seq s6 ?_))))), K1.trans K4⟩
  have pa : ∀ a b : Nat, (a : Int) + (b : Int) = ((a + b : Nat) : Int) := fun a b => by omega
  unfold bes
  simp only [sRet_eq, eTup_eq, aCons_eq, aNil_eq, eOp_eq, eUn_eq, eV_eq, eC_eq, List.getElem?_cons_succ, List.getElem?_cons_zero, Res.bind_ok, c0, c1, e0, e1, oAdd_int, ft, pa]
  rw [if_pos (by simp [LIM_val]), ofE_ok]
  rfl
end WkL


set_option Elab.async false
set_option linter.all false
set_option maxRecDepth 100000
set_option maxHeartbeats 1000000
set_option autoImplicit false
/-! Pk06e: what the law says of schemas and tables put beside one another. -/
namespace WkL
open PySem (Str)
open Wk
theorem oAdd_lsts {S : Store} {l m : Nat} {a b : List D} (h : S[l]? = some (.lst a)) (k : S[m]? = some (.lst b)) (hz : a.length + b.length ≤ LIM) : oAdd (.ref l) (.ref m) S = .ok (.ref S.length) (S ++ [.lst (a ++ b)]) := by
  unfold oAdd; dsimp only; rw [h, k]; dsimp only; rw [if_pos hz]
theorem oAdd_tups (a b : List D) (S : Store) (hz : a.length + b.length ≤ LIM) : oAdd (.tup a) (.tup b) S = .ok (.tup (a ++ b)) S := if_pos hz
theorem law_by_ok {c e : Sch} (hc : c.Ok) (he : e.Ok) (S : Store) : ∃ T, F__law_beside_by [c.d, e.d] S = .ok (bes c e).d T ∧ Keep [] S T := by
  have k1 := hc.k24; have k2 := he.k24; have f1 := hc.f40; have f2 := he.f40
  have r1 : -(4611686018427387904 : Int) ≤ (c.k : Int) := by omega
  have r2 : (c.k : Int) ≤ 16777216 := by omega
  have q1 : -(4611686018427387904 : Int) ≤ (e.k : Int) := by omega
  have q2 : (e.k : Int) ≤ 16777216 := by omega
  have c0 := sch_ix0 c; have c1 := sch_ix1 c; have c2 := sch_ix2 c; have e0 := sch_ix0 e; have e1 := sch_ix1 e; have e2 := sch_ix2 e
  have cp1 : ∀ T, compL [] (.nm 5) tTrue (eIf (tE (eOp oLt (eV 5) (eOp oIx (eV 0) (eC (.int 0))))) (eV 5) (eOp oAdd (eV 5) (eOp oIx (eV 1) (eC (.int 0))))) [some c.d, some e.d, none, none, none, none, none, none] (rngD 0 (c.k : Int)) T = .ok (intsN ((List.range c.k).map (mv1 c e))) T := fun T => by
    refine kinds1 (c := c) (f := e) (mv1 c e) c.k T fun i _ => ⟨_, rfl, ?_⟩
    unfold mv1
    by_cases h : i < c.h
    · have h' : (i : Int) < (c.h : Int) := by omega
      simp [c0, e0, h, h']
    · have h' : ¬ (i : Int) < (c.h : Int) := by omega
      simp [c0, e0, h, h']
  have cp2 : ∀ (a : Nat) T, compL [] (.nm 5) tTrue (eIf (tE (eOp oLt (eV 5) (eOp oIx (eV 1) (eC (.int 0))))) (eOp oAdd (eOp oIx (eV 0) (eC (.int 0))) (eV 5)) (eOp oAdd (eOp oIx (eV 0) (eC (.int 1))) (eV 5))) [some c.d, some e.d, some (.ref a), none, none, none, none, none] (rngD 0 (e.k : Int)) T = .ok (intsN ((List.range e.k).map (mv2 c e))) T := fun a T => by
    refine kinds1 (c := c) (f := e) (mv2 c e) e.k T fun i _ => ⟨_, rfl, ?_⟩
    unfold mv2
    by_cases h : i < e.h
    · have h' : (i : Int) < (e.h : Int) := by omega
      simp [c0, c1, e0, h, h']
    · have h' : ¬ (i : Int) < (e.h : Int) := by omega
      simp [c0, c1, e0, h, h']
  generalize hS2 : S ++ [Ob.lst (intsN ((List.range c.k).map (mv1 c e)))] ++ [Ob.lst (intsN ((List.range e.k).map (mv2 c e)))] = S2
  have gl1 : S2[S.length]? = some (.lst (intsN ((List.range c.k).map (mv1 c e)))) := by rw [← hS2]; simp
  have gl2 : S2[S.length + 1]? = some (.lst (intsN ((List.range e.k).map (mv2 c e)))) := by rw [← hS2]; simp
  have s1 : (sSet 2 (eComp (iRng (eOp oIx (eV 0) (eC (.int 1)))) (.nm 5) tTrue (eIf (tE (eOp oLt (eV 5) (eOp oIx (eV 0) (eC (.int 0))))) (eV 5) (eOp oAdd (eV 5) (eOp oIx (eV 1) (eC (.int 0))))) [5])) [some c.d, some e.d, none, none, none, none, none, none] S = .nx [some c.d, some e.d, some (.ref S.length), none, none, none, none, none] (S ++ [.lst (intsN ((List.range c.k).map (mv1 c e)))]) := by
    simp [c1, r1, r2, cp1]
  have s2 : (sSet 3 (eComp (iRng (eOp oIx (eV 1) (eC (.int 1)))) (.nm 5) tTrue (eIf (tE (eOp oLt (eV 5) (eOp oIx (eV 1) (eC (.int 0))))) (eOp oAdd (eOp oIx (eV 0) (eC (.int 0))) (eV 5)) (eOp oAdd (eOp oIx (eV 0) (eC (.int 1))) (eV 5))) [5])) [some c.d, some e.d, some (.ref S.length), none, none, none, none, none] (S ++ [.lst (intsN ((List.range c.k).map (mv1 c e)))]) = .nx [some c.d, some e.d, some (.ref S.length), some (.ref (S.length + 1)), none, none, none, none] S2 := by
    rw [← hS2]
    simp [e1, q1, q2, cp2]
  have cp3 : compL [] (.tp [(.nm 6), (.nm 7)]) tTrue (eTup (aCons (eOp oIx (eV 2) (eV 6)) (aCons (eOp oIx (eV 2) (eV 7)) aNil))) [some c.d, some e.d, some (.ref S.length), some (.ref (S.length + 1)), none, none, none, none] (c.fs.map fD) S2 = .ok ((c.fs.map (mvF (mv1 c e))).map fD) S2 := by
    refine move_comp (t1 := 0) (t2 := 0) (t0 := 0) gl1 (fun q hq => ⟨(hc.fs q hq).1, (hc.fs q hq).2.2⟩) fun q hq => ⟨[some c.d, some e.d, some (.ref S.length), some (.ref (S.length + 1)), none, none, some (.int (q.1 : Int)), some (.int (q.2 : Int))], rfl, ?_⟩
    have h1 := mvs_get gl1 (hc.fs q hq).1
    have h2 := mvs_get gl1 (hc.fs q hq).2.2
    simp [-oIx_ref, h1, h2, LIM_val]
  generalize hA : c.fs.map (mvF (mv1 c e)) = A at *
  have hAl : A.length ≤ 40 := by rw [← hA]; simpa using f1
  generalize hS3 : S2 ++ [Ob.lst (A.map fD)] = S3
  have gl3 : S3[S.length + 1]? = some (.lst (intsN ((List.range e.k).map (mv2 c e)))) := by rw [← hS3, List.getElem?_append_left (lt_of_get gl2)]; exact gl2
  have ga3 : S3[S2.length]? = some (.lst (A.map fD)) := by rw [← hS3]; exact get_last _ _
  have cp4 : compL [] (.tp [(.nm 6), (.nm 7)]) tTrue (eTup (aCons (eOp oIx (eV 3) (eV 6)) (aCons (eOp oIx (eV 3) (eV 7)) aNil))) [some c.d, some e.d, some (.ref S.length), some (.ref (S.length + 1)), none, none, none, none] (e.fs.map fD) S3 = .ok ((e.fs.map (mvF (mv2 c e))).map fD) S3 := by
    refine move_comp (t1 := 0) (t2 := 0) (t0 := 0) gl3 (fun q hq => ⟨(he.fs q hq).1, (he.fs q hq).2.2⟩) fun q hq => ⟨[some c.d, some e.d, some (.ref S.length), some (.ref (S.length + 1)), none, none, some (.int (q.1 : Int)), some (.int (q.2 : Int))], rfl, ?_⟩
    have h1 := mvs_get gl3 (he.fs q hq).1
    have h2 := mvs_get gl3 (he.fs q hq).2.2
    simp [-oIx_ref, h1, h2, LIM_val]
  generalize hB : e.fs.map (mvF (mv2 c e)) = B at *
  have hBl : B.length ≤ 40 := by rw [← hB]; simpa using f2
  generalize hS4 : S3 ++ [Ob.lst (B.map fD)] = S4
  have ga4 : S4[S2.length]? = some (.lst (A.map fD)) := by rw [← hS4, List.getElem?_append_left (lt_of_get ga3)]; exact ga3
  have gb4 : S4[S3.length]? = some (.lst (B.map fD)) := by rw [← hS4]; exact get_last _ _
  have ad := oAdd_lsts ga4 gb4 (by simp [LIM_val]; omega)
  rw [← List.map_append] at ad
  generalize hS5 : S4 ++ [Ob.lst ((A ++ B).map fD)] = S5 at ad
  have s3 : (sSet 4 (eOp oAdd (eComp (iSeq (eOp oIx (eV 0) (eC (.int 2)))) (.tp [(.nm 6), (.nm 7)]) tTrue (eTup (aCons (eOp oIx (eV 2) (eV 6)) (aCons (eOp oIx (eV 2) (eV 7)) aNil))) [6, 7]) (eComp (iSeq (eOp oIx (eV 1) (eC (.int 2)))) (.tp [(.nm 6), (.nm 7)]) tTrue (eTup (aCons (eOp oIx (eV 3) (eV 6)) (aCons (eOp oIx (eV 3) (eV 7)) aNil))) [6, 7]))) [some c.d, some e.d, some (.ref S.length), some (.ref (S.length + 1)), none, none, none, none] S2 = .nx [some c.d, some e.d, some (.ref S.length), some (.ref (S.length + 1)), some (.ref S4.length), none, none, none] S5 := by
    simp only [sSet_eq, eOp_eq, eComp_eq, iSeq_eq, eV_eq, eC_eq, List.getElem?_cons_succ, List.getElem?_cons_zero, Res.bind_ok, c2, e2, wipeE_cons, wipeE_nil, List.set_cons_succ, List.set_cons_zero, cp3, cp4, noEx_ok, hS3, hS4, ad, ofE_ok]
  have ft : fTuple (.ref S4.length) S5 = .ok (.tup ((A ++ B).map fD)) S5 := fTuple_lst (by rw [← hS5]; exact get_last _ _)
  refine ⟨S5, ?_, ?_⟩
  · have pa : ∀ a b : Nat, (a : Int) + (b : Int) = ((a + b : Nat) : Int) := fun a b => by omega
    exact (mkF_eq 2 8 _ [c.d, e.d] S rfl).trans (by
      rw [show startE 8 [c.d, e.d] = [some c.d, some e.d, none, none, none, none, none, none] from rfl]
      rw [show b__law_beside_by [some c.d, some e.d, none, none, none, none, none, none] S = .rt (bes c e).d S5 from nx_seq s1 (nx_seq s2 (nx_seq s3 (by
        unfold bes
        rw [hA, hB]
        simp only [sRet_eq, eTup_eq, aCons_eq, aNil_eq, eOp_eq, eUn_eq, eV_eq, eC_eq, List.getElem?_cons_succ, List.getElem?_cons_zero, Res.bind_ok, c0, c1, e0, e1, oAdd_int, ft, pa]
        rw [if_pos (by simp [LIM_val]), ofE_ok]
        rfl)))])
  · rw [← hS5, ← hS4, ← hS3, ← hS2]
    exact ((((Keep.push _ _ _).trans (Keep.push _ _ _)).trans (Keep.push _ _ _)).trans (Keep.push _ _ _)).trans (Keep.push _ _ _)
/-- None, or the refusal -/
def refD (o : Option Nat) : D := match o with
  | some n => .tup [.str "TooMany", .int (n : Int)]
  | none => .non
theorem law_refused_ok {c e : Sch} (hc : c.Ok) (he : e.Ok) (S : Store) : ∃ T, F__law_beside_refused [c.d, e.d] S = .ok (refD (besX c e)) T ∧ Keep [] S T := by
  have c0 := sch_ix0 c; have c1 := sch_ix1 c; have c2 := sch_ix2 c; have e0 := sch_ix0 e; have e1 := sch_ix1 e; have e2 := sch_ix2 e
  have pa : ∀ a b : Nat, (a : Int) + (b : Int) = ((a + b : Nat) : Int) := fun a b => by omega
  generalize hL : ([(c.h + e.h, 6), (c.k + e.k, 24), (c.fs.length + e.fs.length, 40)] : List (Nat × Nat)) = L
  have hLm : L.map fD = [.tup [.int ((c.h + e.h : Nat) : Int), .int 6], .tup [.int ((c.k + e.k : Nat) : Int), .int 24], .tup [.int ((c.fs.length + e.fs.length : Nat) : Int), .int 40]] := by rw [← hL]; rfl
  generalize hW : (L.filter fun q => decide (q.2 < q.1)).map (·.1) = W
  have hX : besX c e = W.head? := by
    rw [← hW, ← hL]
    unfold besX
    by_cases h6 : 6 < c.h + e.h <;> by_cases h24 : 24 < c.k + e.k <;> by_cases h40 : 40 < c.fs.length + e.fs.length <;> simp [List.filter_cons, h6, h24, h40]
  generalize hS1 : S ++ [Ob.lst (L.map fD)] = S1
  have gl : S1[S.length]? = some (.lst (L.map fD)) := by rw [← hS1]; exact get_last _ _
  have s1 : (sSet 2 (eLst (aCons (eTup (aCons (eOp oAdd (eOp oIx (eV 0) (eC (.int 0))) (eOp oIx (eV 1) (eC (.int 0)))) (aCons (eC (.int 6)) aNil))) (aCons (eTup (aCons (eOp oAdd (eOp oIx (eV 0) (eC (.int 1))) (eOp oIx (eV 1) (eC (.int 1)))) (aCons (eC (.int 24)) aNil))) (aCons (eTup (aCons (eOp oAdd (eUn fLen (eOp oIx (eV 0) (eC (.int 2)))) (eUn fLen (eOp oIx (eV 1) (eC (.int 2))))) (aCons (eC (.int 40)) aNil))) aNil))))) [some c.d, some e.d, none, none, none, none] S = .nx [some c.d, some e.d, some (.ref S.length), none, none, none] S1 := by
    rw [← hS1, hLm]
    simp [c0, c1, c2, e0, e1, e2, LIM_val]
  have cp : compL [(S.length, Ob.lst (L.map fD))] (.tp [(.nm 4), (.nm 5)]) (tE (eOp oGt (eV 4) (eV 5))) (eV 4) [some c.d, some e.d, some (.ref S.length), none, none, none] (L.map fD) S1 = .ok (intsN W) S1 := by
    refine (compL_on (c := [(S.length, Ob.lst (L.map fD))]) (S := S1) (dg := fD) (p := fun q => decide (q.2 < q.1)) (f := fun q => D.int (q.1 : Int)) (by simp [okC, gl]) L ?_).trans (by rw [← hW, intsN, List.map_map]; rfl)
    intro q _
    refine ⟨[some c.d, some e.d, some (.ref S.length), none, some (.int (q.1 : Int)), some (.int (q.2 : Int))], rfl, ?_, fun _ => rfl⟩
    simp
  generalize hS2 : S1 ++ [Ob.lst (intsN W)] = S2
  have g2 : S2[S1.length]? = some (.lst (intsN W)) := by rw [← hS2]; exact get_last _ _
  have s2 : (sSet 3 (eComp (iSeq (eV 2)) (.tp [(.nm 4), (.nm 5)]) (tE (eOp oGt (eV 4) (eV 5))) (eV 4) [4, 5])) [some c.d, some e.d, some (.ref S.length), none, none, none] S1 = .nx [some c.d, some e.d, some (.ref S.length), some (.ref S1.length), none, none] S2 := by
    simp only [sSet_eq, eComp_eq, iSeq_eq, eV_eq, List.getElem?_cons_succ, List.getElem?_cons_zero, Res.bind_ok, gl, wipeE_cons, wipeE_nil, List.set_cons_succ, List.set_cons_zero, cp, noEx_ok, hS2, ofE_ok]
  have g3 : (S2 ++ [Ob.lst []])[S1.length]? = some (.lst (intsN W)) := by rw [List.getElem?_append_left (lt_of_get g2)]; exact g2
  have eq := oEq_empty enc_nat g3 (get_last S2 (.lst []))
  refine ⟨S2 ++ [.lst []], ?_, ?_⟩
  · have s3 : (sRet (eIf (tE (eOp oNe (eV 3) (eLst aNil))) (eTup (aCons (eC (.str "TooMany")) (aCons (eOp oIx (eV 3) (eC (.int 0))) aNil))) (eC .non))) [some c.d, some e.d, some (.ref S.length), some (.ref S1.length), none, none] S2 = .rt (refD (besX c e)) (S2 ++ [.lst []]) := by
      rw [hX]
      cases W with
      | nil =>
        have eq' : oEq (.ref S1.length) (.ref S2.length) (S2 ++ [Ob.lst []]) = .ok (.bl true) (S2 ++ [Ob.lst []]) := eq
        simp [eq', refD, LIM_val]
      | cons w W =>
        have eq' : oEq (.ref S1.length) (.ref S2.length) (S2 ++ [Ob.lst []]) = .ok (.bl false) (S2 ++ [Ob.lst []]) := eq
        have ix : oIx (.ref S1.length) (.int 0) (S2 ++ [Ob.lst []]) = .ok (.int (w : Int)) (S2 ++ [Ob.lst []]) := oIx_lst (i := 0) g3 rfl
        simp [-oIx_ref, eq', ix, refD, LIM_val]
    exact (mkF_eq 2 6 _ [c.d, e.d] S rfl).trans (by
      rw [show startE 6 [c.d, e.d] = [some c.d, some e.d, none, none, none, none] from rfl]
      rw [show b__law_beside_refused [some c.d, some e.d, none, none, none, none] S = .rt (refD (besX c e)) (S2 ++ [.lst []]) from nx_seq s1 (nx_seq s2 s3)])
  · rw [← hS2, ← hS1]
    exact ((Keep.push _ _ _).trans (Keep.push _ _ _)).trans (Keep.push _ _ _)
/-! ### tables beside one another -/
def shP (n : Nat) (q : Nat × Nat) : Nat × Nat := (q.1 + n, q.2 + n)
def besT (c : Sch) (t u : Tab) : Tab := ⟨t.cs ++ u.cs.map (shP c.fs.length), t.ds ++ u.ds.map (· + c.fs.length), t.bs ++ u.bs.map (· + c.fs.length)⟩
def besTX (c e : Sch) (t u : Tab) : Option Nat := match besX c e with
  | some n => some n
  | none => over (t.cs.length + u.cs.length)
theorem shift_pairs {c : Chk} {S : Store} {g : Tg} {e : FE} {sw : Env} {n : Nat} (hc : okC c S = true) (L : List (Nat × Nat)) (h : ∀ q : Nat × Nat, ∃ s1, gF g (fD q) sw = some s1 ∧ e s1 S = .ok (.tup [.int ((q.1 : Int) + (n : Int)), .int ((q.2 : Int) + (n : Int))]) S) :
    compL c g tTrue e sw (L.map fD) S = .ok ((L.map (shP n)).map fD) S := by
  refine (compL_on (c := c) (S := S) (dg := fD) (p := fun _ => true) (f := fun q => fD (shP n q)) hc L ?_).trans (by rw [List.filter_eq_self.mpr (fun _ _ => rfl), List.map_map]; rfl)
  intro q _
  obtain ⟨s1, h1, h2⟩ := h q
  exact ⟨s1, h1, rfl, fun _ => by rw [h2]; rfl⟩
theorem shift_nats {c : Chk} {S : Store} {g : Tg} {e : FE} {sw : Env} {n : Nat} (hc : okC c S = true) (L : List Nat) (h : ∀ q : Nat, ∃ s1, gF g (.int (q : Int)) sw = some s1 ∧ e s1 S = .ok (.int ((q : Int) + (n : Int))) S) :
    compL c g tTrue e sw (intsN L) S = .ok (intsN (L.map (· + n))) S := by
  refine (compL_on (c := c) (S := S) (dg := fun (q : Nat) => D.int (q : Int)) (p := fun _ => true) (f := fun (q : Nat) => D.int ((q : Int) + (n : Int))) hc L ?_).trans (by rw [List.filter_eq_self.mpr (fun _ _ => rfl), intsN, List.map_map]; rfl)
  intro q _
  obtain ⟨s1, h1, h2⟩ := h q
  exact ⟨s1, h1, rfl, fun _ => h2⟩
theorem table_beside_ok {c e : Sch} (hc : c.Ok) (he : e.Ok) {t u : Tab} (ht : TabOk c t) (hu : TabOk e u) (S : Store) : ∃ T, F_table_beside [c.d, t.d, e.d, u.d] S = resD (besTX c e t u) (besT c t u).d T ∧ Keep [] S T := by
  have t4 := ht.c400; have u4 := hu.c400
  have td := ht.dlen hc; have ud := hu.dlen he; have tb := ht.blen hc; have ub := hu.blen he
  obtain ⟨T1, e1, K1⟩ := made_table_ok hc ht S
  obtain ⟨T2, e2, K2⟩ := made_table_ok he hu T1
  obtain ⟨T3, e3, K3⟩ := beside_ok hc he T2
  have c2 := sch_ix2 c
  have ti0 := tab_ix0 t; have ti1 := tab_ix1 t; have ti2 := tab_ix2 t; have ui0 := tab_ix0 u; have ui1 := tab_ix1 u; have ui2 := tab_ix2 u
  have s1 : (sExpr (eCall F_made_table (aCons (eV 0) (aCons (eV 1) aNil)))) [some c.d, some t.d, some e.d, some u.d, none, none, none, none, none] S = .nx [some c.d, some t.d, some e.d, some u.d, none, none, none, none, none] T1 := by simp [e1]
  have s2 : (sExpr (eCall F_made_table (aCons (eV 2) (aCons (eV 3) aNil)))) [some c.d, some t.d, some e.d, some u.d, none, none, none, none, none] T1 = .nx [some c.d, some t.d, some e.d, some u.d, none, none, none, none, none] T2 := by simp [e2]
  have out : ∀ {r : Rs}, (sSeq (sExpr (eCall F_beside (aCons (eV 0) (aCons (eV 2) aNil)))) (sSeq (sSet 4 (eOp oAdd (eUn fLen (eOp oIx (eV 1) (eC (.int 0)))) (eUn fLen (eOp oIx (eV 3) (eC (.int 0))))))
    (sSeq (sIf (tE (eOp oGt (eV 4) (eC (.int 400)))) (sRaise "TooMany" (eV 4)) sSkip)
    (sSeq (sSet 5 (eUn fLen (eOp oIx (eV 0) (eC (.int 2)))))
    (sSeq (sSet 6 (eComp (iSeq (eOp oIx (eV 3) (eC (.int 0)))) (.tp [(.nm 7), (.nm 8)]) tTrue (eTup (aCons (eOp oAdd (eV 7) (eV 5)) (aCons (eOp oAdd (eV 8) (eV 5)) aNil))) [7, 8]))
    (sRet (eTup (aCons (eTup (aStar (eOp oIx (eV 1) (eC (.int 0))) (aStar (eV 6) aNil))) (aCons (eTup (aStar (eOp oIx (eV 1) (eC (.int 1))) (aStar (eComp (iSeq (eOp oIx (eV 3) (eC (.int 1)))) (.nm 8) tTrue (eOp oAdd (eV 8) (eV 5)) [8]) aNil))) (aCons (eTup (aStar (eOp oIx (eV 1) (eC (.int 2))) (aStar (eComp (iSeq (eOp oIx (eV 3) (eC (.int 2)))) (.nm 8) tTrue (eOp oAdd (eV 8) (eV 5)) [8]) aNil))) aNil)))))))))) [some c.d, some t.d, some e.d, some u.d, none, none, none, none, none] T2 = r → F_table_beside [c.d, t.d, e.d, u.d] S = (match r with
    | .nx _ S' => .ok .non S'
    | .rt d S' => .ok d S'
    | .ex c w _ S' => .ex c w S'
    | _ => .bad) := by
    intro r h
    refine (mkF_eq 4 9 _ [c.d, t.d, e.d, u.d] S rfl).trans ?_
    rw [show startE 9 [c.d, t.d, e.d, u.d] = [some c.d, some t.d, some e.d, some u.d, none, none, none, none, none] from rfl]
    rw [show b_table_beside [some c.d, some t.d, some e.d, some u.d, none, none, none, none, none] S = r from nx_seq s1 (nx_seq s2 h)]
    all_goals rfl
  unfold besTX
  cases hX : besX c e with
  | some n =>
    rw [hX] at e3
    refine ⟨T3, out (r := .ex "TooMany" (.int (n : Int)) [some c.d, some t.d, some e.d, some u.d, none, none, none, none, none] T3) ?_, (K1.trans K2).trans K3⟩
    rw [sSeq_eq]
    simp only [sExpr_eq, eCall_eq, aCons_eq, aNil_eq, eV_eq, List.getElem?_cons_succ, List.getElem?_cons_zero, Res.bind_ok, e3, resD, ofE_ex]
  | none =>
    rw [hX] at e3
    have e3' : F_beside [c.d, e.d] T2 = .ok (bes c e).d T3 := e3
    generalize hN : t.cs.length + u.cs.length = N at *
    have pa : (t.cs.length : Int) + (u.cs.length : Int) = (N : Int) := by omega
    have s3 : (sExpr (eCall F_beside (aCons (eV 0) (aCons (eV 2) aNil)))) [some c.d, some t.d, some e.d, some u.d, none, none, none, none, none] T2 = .nx [some c.d, some t.d, some e.d, some u.d, none, none, none, none, none] T3 := by simp [e3']
    have s4 : (sSet 4 (eOp oAdd (eUn fLen (eOp oIx (eV 1) (eC (.int 0)))) (eUn fLen (eOp oIx (eV 3) (eC (.int 0)))))) [some c.d, some t.d, some e.d, some u.d, none, none, none, none, none] T3 = .nx [some c.d, some t.d, some e.d, some u.d, some (.int (N : Int)), none, none, none, none] T3 := by simp [ti0, ui0, pa]
    by_cases h4 : N ≤ 400
    · have h4' : ¬ (400 : Int) < (N : Int) := by omega
      generalize hn : c.fs.length = n at *
      have s6 : (sSet 5 (eUn fLen (eOp oIx (eV 0) (eC (.int 2))))) [some c.d, some t.d, some e.d, some u.d, some (.int (N : Int)), none, none, none, none] T3 = .nx [some c.d, some t.d, some e.d, some u.d, some (.int (N : Int)), some (.int (n : Int)), none, none, none] T3 := by simp [c2, hn]
      have cp1 : compL [] (.tp [(.nm 7), (.nm 8)]) tTrue (eTup (aCons (eOp oAdd (eV 7) (eV 5)) (aCons (eOp oAdd (eV 8) (eV 5)) aNil))) [some c.d, some t.d, some e.d, some u.d, some (.int (N : Int)), some (.int (n : Int)), none, none, none] (u.cs.map fD) T3 = .ok ((u.cs.map (shP n)).map fD) T3 := shift_pairs rfl u.cs fun q => ⟨_, rfl, by simp [LIM_val]⟩
      generalize hA : u.cs.map (shP n) = A at *
      have hAl : A.length = u.cs.length := by rw [← hA]; simp
      generalize hT4 : T3 ++ [Ob.lst (A.map fD)] = T4
      have g4 : T4[T3.length]? = some (.lst (A.map fD)) := by rw [← hT4]; exact get_last _ _
      have s7 : (sSet 6 (eComp (iSeq (eOp oIx (eV 3) (eC (.int 0)))) (.tp [(.nm 7), (.nm 8)]) tTrue (eTup (aCons (eOp oAdd (eV 7) (eV 5)) (aCons (eOp oAdd (eV 8) (eV 5)) aNil))) [7, 8])) [some c.d, some t.d, some e.d, some u.d, some (.int (N : Int)), some (.int (n : Int)), none, none, none] T3 = .nx [some c.d, some t.d, some e.d, some u.d, some (.int (N : Int)), some (.int (n : Int)), some (.ref T3.length), none, none] T4 := by
        simp only [sSet_eq, eOp_eq, eComp_eq, iSeq_eq, eV_eq, eC_eq, List.getElem?_cons_succ, List.getElem?_cons_zero, Res.bind_ok, ui0, wipeE_cons, wipeE_nil, List.set_cons_succ, List.set_cons_zero, cp1, noEx_ok, hT4, ofE_ok]
      have cp2 : ∀ (T : Store) (L : List Nat), compL [] (.nm 8) tTrue (eOp oAdd (eV 8) (eV 5)) [some c.d, some t.d, some e.d, some u.d, some (.int (N : Int)), some (.int (n : Int)), some (.ref T3.length), none, none] (intsN L) T = .ok (intsN (L.map (· + n))) T := fun T L => shift_nats rfl L fun q => ⟨_, rfl, by simp⟩
      have cpD := cp2 T4 u.ds
      generalize hB : u.ds.map (· + n) = B at *
      have hBl : B.length = u.ds.length := by rw [← hB]; simp
      generalize hT5 : T4 ++ [Ob.lst (intsN B)] = T5
      have cpB := cp2 T5 u.bs
      generalize hC : u.bs.map (· + n) = C at *
      have hCl : C.length = u.bs.length := by rw [← hC]; simp
      generalize hT6 : T5 ++ [Ob.lst (intsN C)] = T6
      have sq4 := seqD_lstU g4
      have sq5 : seqD T5 (.ref T4.length) = some (intsN B) := seqD_lstU (by rw [← hT5]; exact get_last _ _)
      have sq6 : seqD T6 (.ref T5.length) = some (intsN C) := seqD_lstU (by rw [← hT6]; exact get_last _ _)
      have m1 : t.cs.map fD ++ A.map fD = (t.cs ++ A).map fD := by simp
      have m2 : intsN t.ds ++ intsN B = intsN (t.ds ++ B) := by simp
      have m3 : intsN t.bs ++ intsN C = intsN (t.bs ++ C) := by simp
      have z1 : ((t.cs ++ A).map fD).length ≤ LIM := by simp [LIM_val]; omega
      have z2 : (intsN (t.ds ++ B)).length ≤ LIM := by simp [LIM_val]; omega
      have z3 : (intsN (t.bs ++ C)).length ≤ LIM := by simp [LIM_val]; omega
      have s8 : (sRet (eTup (aCons (eTup (aStar (eOp oIx (eV 1) (eC (.int 0))) (aStar (eV 6) aNil))) (aCons (eTup (aStar (eOp oIx (eV 1) (eC (.int 1))) (aStar (eComp (iSeq (eOp oIx (eV 3) (eC (.int 1)))) (.nm 8) tTrue (eOp oAdd (eV 8) (eV 5)) [8]) aNil))) (aCons (eTup (aStar (eOp oIx (eV 1) (eC (.int 2))) (aStar (eComp (iSeq (eOp oIx (eV 3) (eC (.int 2)))) (.nm 8) tTrue (eOp oAdd (eV 8) (eV 5)) [8]) aNil))) aNil))))) [some c.d, some t.d, some e.d, some u.d, some (.int (N : Int)), some (.int (n : Int)), some (.ref T3.length), none, none] T4 = .rt (Tab.d ⟨t.cs ++ A, t.ds ++ B, t.bs ++ C⟩) T6 := by
        simp only [sRet_eq, eTup_eq, aCons_eq, aNil_eq, aStar_eqU, eOp_eq, eComp_eq, iSeq_eq, eV_eq, eC_eq, List.getElem?_cons_succ, List.getElem?_cons_zero, Res.bind_ok, ti0, ti1, ti2, ui1, ui2, seqD_tup, sq4, wipeE_cons, wipeE_nil, List.set_cons_succ, List.set_cons_zero, cpD, cpB, noEx_ok, hT5, hT6, sq5, sq6, List.append_nil, m1, m2, m3]
        rw [if_pos z1]
        simp only [Res.bind_ok, ti1, ui1, cpD, noEx_ok, hT5, sq5, m2, seqD_tup, List.append_nil]
        rw [if_pos z2]
        simp only [Res.bind_ok, ti2, ui2, cpB, noEx_ok, hT6, sq6, m3, seqD_tup, List.append_nil]
        rw [if_pos z3]
        simp only [Res.bind_ok]
        rw [if_pos (by simp [LIM_val]), ofE_ok]
        rfl
      have hbt : besT c t u = ⟨t.cs ++ A, t.ds ++ B, t.bs ++ C⟩ := by unfold besT; rw [hn, hA, hB, hC]
      rw [hbt]
      refine ⟨T6, ?_, ((K1.trans K2).trans K3).trans (by rw [← hT6, ← hT5, ← hT4]; exact ((Keep.push _ _ _).trans (Keep.push _ _ _)).trans (Keep.push _ _ _))⟩
      rw [show over N = none from if_pos h4]
      exact out (r := .rt (Tab.d ⟨t.cs ++ A, t.ds ++ B, t.bs ++ C⟩) T6) (nx_seq s3 (nx_seq s4 (nx_seq (s1 := [some c.d, some t.d, some e.d, some u.d, some (.int (N : Int)), none, none, none, none]) (S1 := T3) (by simp [h4']) (nx_seq s6 (nx_seq s7 s8)))))
    · have h4' : (400 : Int) < (N : Int) := by omega
      refine ⟨T3, ?_, (K1.trans K2).trans K3⟩
      rw [show over N = some N from if_neg h4]
      exact out (r := .ex "TooMany" (.int (N : Int)) [some c.d, some t.d, some e.d, some u.d, some (.int (N : Int)), none, none, none, none] T3) (nx_seq s3 (nx_seq s4 (by
        rw [sSeq_eq, show (sIf (tE (eOp oGt (eV 4) (eC (.int 400)))) (sRaise "TooMany" (eV 4)) sSkip) [some c.d, some t.d, some e.d, some u.d, some (.int (N : Int)), none, none, none, none] T3 = .ex "TooMany" (.int (N : Int)) [some c.d, some t.d, some e.d, some u.d, some (.int (N : Int)), none, none, none, none] T3 from by simp [h4']])))
end WkL


set_option Elab.async false
set_option linter.all false
set_option maxRecDepth 100000
set_option maxHeartbeats 1000000
set_option autoImplicit false
/-! Pk06f: beside is right; a wide schema; the law. -/
namespace WkL
open PySem (Str)
open Wk
theorem plain_sch3 {c : Sch} (h : c.fs.length ≤ 1000000) : Plain 3 c.d :=
  ⟨by simp, fun x hx => by
    simp only [List.mem_cons, List.not_mem_nil, or_false] at hx
    rcases hx with rfl | rfl | rfl
    · exact True.intro
    · exact True.intro
    · exact plain_pairs h⟩
theorem ref_heard (o : Option Nat) (d : D) : heardD o d = match o with
    | none => .tup [.str "told", d]
    | some _ => refD o := by cases o <;> rfl
abbrev envB (c : Sch) (t : Tab) (e : Sch) (u : Tab) (r o m k f b : Option D) : Env := [some c.d, some t.d, some e.d, some u.d, r, o, m, k, f, b, none, none, none]
theorem law_beside_ok {c e : Sch} (hc : c.Ok) (he : e.Ok) {t u : Tab} (ht : TabOk c t) (hu : TabOk e u) (S : Store) : ∃ T, F__law_beside_right [c.d, t.d, e.d, u.d] S = .ok (.bl true) T ∧ Keep [] S T := by
  have t4 := ht.c400; have u4 := hu.c400
  have f1 := hc.f40; have f2 := he.f40
  have td := ht.dlen hc; have ud := hu.dlen he; have tb := ht.blen hc; have ub := hu.blen he
  have c2 := sch_ix2 c
  have ti0 := tab_ix0 t; have ti1 := tab_ix1 t; have ti2 := tab_ix2 t; have ui0 := tab_ix0 u; have ui1 := tab_ix1 u; have ui2 := tab_ix2 u
  obtain ⟨T1, e1, K1⟩ := law_refused_ok hc he S
  have s1 : (sSet 4 (eCall F__law_beside_refused (aCons (eV 0) (aCons (eV 2) aNil)))) (envB c t e u none none none none none none) S = .nx (envB c t e u (some (refD (besX c e))) none none none none none) T1 := by
    simp [envB, e1]
  -- what is owed of beside
  obtain ⟨T2, s2, K2⟩ : ∃ T2, (sSet 5 (eIf (tE (eOp oIsN (eV 4) (eC .non))) (eTup (aCons (eC (.str "told")) (aCons (eCall F__law_beside_by (aCons (eV 0) (aCons (eV 2) aNil))) aNil))) (eV 4))) (envB c t e u (some (refD (besX c e))) none none none none none) T1 = .nx (envB c t e u (some (refD (besX c e))) (some (heardD (besX c e) (bes c e).d)) none none none none) T2 ∧ Keep [] T1 T2 := by
    cases hX : besX c e with
    | some n => exact ⟨T1, by simp [envB, refD, heardD], Keep.refl _ _⟩
    | none =>
      obtain ⟨T2, e2, K2⟩ := law_by_ok hc he T1
      exact ⟨T2, by simp [envB, refD, heardD, e2, LIM_val], K2⟩
  obtain ⟨T3, e3, K3⟩ := beside_ok hc he T2
  have hd := heard_res (besX c e) (bes c e).d T3
  rw [← e3] at hd
  have sm3 : F__law_same [heardD (besX c e) (bes c e).d, heardD (besX c e) (bes c e).d] T3 = .ok (.bl true) T3 := same_true 4 (by decide) (same_refl 4 _ (plain_heard fun _ => plain_sch3 (by unfold bes; simp; omega)))
  generalize hH : heardD (besX c e) (bes c e).d = H at *
  have s3 : (sIf (Wk.tNot (tE (eCall F__law_same (aCons (eHeard heardCs (eCall F_beside (aCons (eV 0) (aCons (eV 2) aNil)))) (aCons (eV 5) aNil))))) (sRet (eC (.bl false))) sSkip) (envB c t e u (some (refD (besX c e))) (some H) none none none none) T2 = .nx (envB c t e u (some (refD (besX c e))) (some H) none none none none) T3 := by
    simp [envB, hd, sm3]
  generalize hR : refD (besX c e) = R at *
  generalize hn : c.fs.length = n at *
  have s4 : (sSet 6 (eUn fLen (eOp oIx (eV 0) (eC (.int 2))))) (envB c t e u (some R) (some H) none none none none) T3 = .nx (envB c t e u (some R) (some H) (some (.int (n : Int))) none none none) T3 := by
    simp [envB, c2, hn]
  have cp5 : compL [] (.tp [(.nm 10), (.nm 11)]) tTrue (eTup (aCons (eOp oAdd (eV 10) (eV 6)) (aCons (eOp oAdd (eV 11) (eV 6)) aNil))) (envB c t e u (some R) (some H) (some (.int (n : Int))) none none none) (u.cs.map fD) T3 = .ok ((u.cs.map (shP n)).map fD) T3 := shift_pairs rfl u.cs fun q => ⟨_, rfl, by simp [envB, LIM_val]⟩
  generalize hA : u.cs.map (shP n) = A at *
  have hAl : A.length = u.cs.length := by rw [← hA]; simp
  generalize hT4 : T3 ++ [Ob.lst (A.map fD)] = T4
  have ft4 : fTuple (.ref T3.length) T4 = .ok (.tup (A.map fD)) T4 := fTuple_lst (by rw [← hT4]; exact get_last _ _)
  have K4 : Keep [] T3 T4 := by rw [← hT4]; exact Keep.push _ _ _
  have s5 : (sSet 7 (eUn fTuple (eComp (iSeq (eOp oIx (eV 3) (eC (.int 0)))) (.tp [(.nm 10), (.nm 11)]) tTrue (eTup (aCons (eOp oAdd (eV 10) (eV 6)) (aCons (eOp oAdd (eV 11) (eV 6)) aNil))) [10, 11]))) (envB c t e u (some R) (some H) (some (.int (n : Int))) none none none) T3 = .nx (envB c t e u (some R) (some H) (some (.int (n : Int))) (some (.tup (A.map fD))) none none) T4 := by
    unfold envB at cp5 ⊢
    simp only [sSet_eq, eUn_eq, eOp_eq, eComp_eq, iSeq_eq, eV_eq, eC_eq, List.getElem?_cons_succ, List.getElem?_cons_zero, Res.bind_ok, ui0, wipeE_cons, wipeE_nil, List.set_cons_succ, List.set_cons_zero, cp5, noEx_ok, hT4, ft4, ofE_ok]
  -- the rows of fields, far
  generalize hT5 : T4 ++ [Ob.lst [.int 1, .int 2]] = T5
  have g5 : T5[T4.length]? = some (.lst [.int 1, .int 2]) := by rw [← hT5]; exact get_last _ _
  have cpr : ∀ (k : Int) (T : Store) (L : List Nat), compL [] (.nm 11) tTrue (eOp oAdd (eV 11) (eV 6)) [some c.d, some t.d, some e.d, some u.d, some R, some H, some (.int (n : Int)), some (.tup (A.map fD)), none, none, none, none, some (.int k)] (intsN L) T = .ok (intsN (L.map (· + n))) T := fun k T L => shift_nats rfl L fun q => ⟨_, rfl, by simp⟩
  have cpD := cpr 1 T5 u.ds
  generalize hB : u.ds.map (· + n) = B at *
  have hBl : B.length = u.ds.length := by rw [← hB]; simp
  generalize hT6 : T5 ++ [Ob.lst (intsN B)] = T6
  have g6 : T6[T4.length]? = some (.lst [.int 1, .int 2]) := by rw [← hT6, List.getElem?_append_left (lt_of_get g5)]; exact g5
  have ft6 : fTuple (.ref T5.length) T6 = .ok (.tup (intsN B)) T6 := fTuple_lst (by rw [← hT6]; exact get_last _ _)
  have cpB := cpr 2 T6 u.bs
  generalize hC : u.bs.map (· + n) = C at *
  have hCl : C.length = u.bs.length := by rw [← hC]; simp
  generalize hT7 : T6 ++ [Ob.lst (intsN C)] = T7
  have g7 : T7[T4.length]? = some (.lst [.int 1, .int 2]) := by rw [← hT7, List.getElem?_append_left (lt_of_get g6)]; exact g6
  have ft7 : fTuple (.ref T6.length) T7 = .ok (.tup (intsN C)) T7 := fTuple_lst (by rw [← hT7]; exact get_last _ _)
  generalize hT8 : T7 ++ [Ob.lst [.tup (intsN B), .tup (intsN C)]] = T8
  have g8 : T8[T7.length]? = some (.lst [.tup (intsN B), .tup (intsN C)]) := by rw [← hT8]; exact get_last _ _
  have K8 : Keep [] T4 T8 := by rw [← hT8, ← hT7, ← hT6, ← hT5]; exact (((Keep.push _ _ _).trans (Keep.push _ _ _)).trans (Keep.push _ _ _)).trans (Keep.push _ _ _)
  have s6 : (sSet 8 (eComp (iSeq (eLst (aCons (eC (.int 1)) (aCons (eC (.int 2)) aNil)))) (.nm 12) tTrue (eUn fTuple (eComp (iSeq (eOp oIx (eV 3) (eV 12))) (.nm 11) tTrue (eOp oAdd (eV 11) (eV 6)) [11])) [12])) (envB c t e u (some R) (some H) (some (.int (n : Int))) (some (.tup (A.map fD))) none none) T4 = .nx (envB c t e u (some R) (some H) (some (.int (n : Int))) (some (.tup (A.map fD))) (some (.ref T7.length)) none) T8 := by
    have r1 : (eUn fTuple (eComp (iSeq (eOp oIx (eV 3) (eV 12))) (.nm 11) tTrue (eOp oAdd (eV 11) (eV 6)) [11])) [some c.d, some t.d, some e.d, some u.d, some R, some H, some (.int (n : Int)), some (.tup (A.map fD)), none, none, none, none, some (.int 1)] T5 = .ok (.tup (intsN B)) T6 := by
      simp only [eUn_eq, eOp_eq, eComp_eq, iSeq_eq, eV_eq, eC_eq, List.getElem?_cons_succ, List.getElem?_cons_zero, Res.bind_ok, ui1, wipeE_cons, wipeE_nil, List.set_cons_succ, List.set_cons_zero, cpD, noEx_ok, hT6, ft6]
    have r2 : (eUn fTuple (eComp (iSeq (eOp oIx (eV 3) (eV 12))) (.nm 11) tTrue (eOp oAdd (eV 11) (eV 6)) [11])) [some c.d, some t.d, some e.d, some u.d, some R, some H, some (.int (n : Int)), some (.tup (A.map fD)), none, none, none, none, some (.int 2)] T6 = .ok (.tup (intsN C)) T7 := by
      simp only [eUn_eq, eOp_eq, eComp_eq, iSeq_eq, eV_eq, eC_eq, List.getElem?_cons_succ, List.getElem?_cons_zero, Res.bind_ok, ui2, wipeE_cons, wipeE_nil, List.set_cons_succ, List.set_cons_zero, cpB, noEx_ok, hT7, ft7]
    have cp : compL [(T4.length, Ob.lst [.int 1, .int 2])] (.nm 12) tTrue (eUn fTuple (eComp (iSeq (eOp oIx (eV 3) (eV 12))) (.nm 11) tTrue (eOp oAdd (eV 11) (eV 6)) [11])) [some c.d, some t.d, some e.d, some u.d, some R, some H, some (.int (n : Int)), some (.tup (A.map fD)), none, none, none, none, none] [.int 1, .int 2] T5 = .ok [.tup (intsN B), .tup (intsN C)] T7 := by
      rw [compL_cons (by simp [okC, g5]) rfl rfl r1, compL_cons (by simp [okC, g6]) rfl rfl r2, compL_nil (by simp [okC, g7])]
      rfl
    have it : iSeq (eLst (aCons (eC (.int 1)) (aCons (eC (.int 2)) aNil))) (envB c t e u (some R) (some H) (some (.int (n : Int))) (some (.tup (A.map fD))) none none) T4 = .ok ⟨[.int 1, .int 2], [(T4.length, .lst [.int 1, .int 2])]⟩ T5 := by
      simp [LIM_val, hT5, g5]
    unfold envB at it ⊢
    simp only [sSet_eq, eComp_eq, it, Res.bind_ok, wipeE_cons, wipeE_nil, List.set_cons_succ, List.set_cons_zero, cp, noEx_ok, hT8, ofE_ok]
  have bt : besT c t u = ⟨t.cs ++ A, t.ds ++ B, t.bs ++ C⟩ := by unfold besT; rw [hn, hA, hB, hC]
  have fx0 : oIx (.ref T7.length) (.int 0) T8 = .ok (.tup (intsN B)) T8 := oIx_lst (i := 0) g8 rfl
  have fx1 : oIx (.ref T7.length) (.int 1) T8 = .ok (.tup (intsN C)) T8 := oIx_lst (i := 1) g8 rfl
  have ad1 := oAdd_tups (t.cs.map fD) (A.map fD) T8 (by simp [LIM_val]; omega)
  have ad2 := oAdd_tups (intsN t.ds) (intsN B) T8 (by simp [LIM_val]; omega)
  have ad3 := oAdd_tups (intsN t.bs) (intsN C) T8 (by simp [LIM_val]; omega)
  rw [← List.map_append] at ad1 ad2 ad3
  have s7 : (sSet 9 (eTup (aCons (eOp oAdd (eOp oIx (eV 1) (eC (.int 0))) (eV 7)) (aCons (eOp oAdd (eOp oIx (eV 1) (eC (.int 1))) (eOp oIx (eV 8) (eC (.int 0)))) (aCons (eOp oAdd (eOp oIx (eV 1) (eC (.int 2))) (eOp oIx (eV 8) (eC (.int 1)))) aNil))))) (envB c t e u (some R) (some H) (some (.int (n : Int))) (some (.tup (A.map fD))) (some (.ref T7.length)) none) T8 = .nx (envB c t e u (some R) (some H) (some (.int (n : Int))) (some (.tup (A.map fD))) (some (.ref T7.length)) (some (besT c t u).d)) T8 := by
    rw [bt]
    unfold envB
    simp only [sSet_eq, eTup_eq, aCons_eq, aNil_eq, eOp_eq, eV_eq, eC_eq, List.getElem?_cons_succ, List.getElem?_cons_zero, Res.bind_ok, ti0, ti1, ti2, fx0, fx1, ad1, ad2, ad3, List.set_cons_succ, List.set_cons_zero]
    rw [if_pos (by simp [LIM_val]), ofE_ok]
    rfl
  have bi0 := tab_ix0 (besT c t u)
  have blen : ((besT c t u).cs.map fD).length = t.cs.length + u.cs.length := by rw [bt]; simp; omega
  generalize hbd : (besT c t u).d = Bd at *
  -- the refusal of the table
  have s8 : (sIf (tAnd (tE (eOp oIsN (eV 4) (eC .non))) (tE (eOp oGt (eUn fLen (eOp oIx (eV 9) (eC (.int 0)))) (eC (.int 400))))) (sSet 4 (eTup (aCons (eC (.str "TooMany")) (aCons (eUn fLen (eOp oIx (eV 9) (eC (.int 0)))) aNil)))) sSkip) (envB c t e u (some R) (some H) (some (.int (n : Int))) (some (.tup (A.map fD))) (some (.ref T7.length)) (some Bd)) T8 = .nx (envB c t e u (some (refD (besTX c e t u))) (some H) (some (.int (n : Int))) (some (.tup (A.map fD))) (some (.ref T7.length)) (some Bd)) T8 := by
    unfold besTX envB
    rw [← hR]
    cases hX : besX c e with
    | some m => simp [refD]
    | none =>
      unfold over
      by_cases h4 : t.cs.length + u.cs.length ≤ 400
      · have h4' : ¬ (400 : Int) < (((besT c t u).cs.map fD).length : Int) := by omega
        rw [if_pos h4]
        simp only [sIf_eq, tAnd_eq, tE_eq, eOp_eq, eUn_eq, eV_eq, eC_eq, List.getElem?_cons_succ, List.getElem?_cons_zero, Res.bind_ok, refD, oIsN_eq, isNon_non, if_true, bi0, fLen_tup, oGt_int, decide_eq_false h4', ofE_ok, sSkip_eq]
        rfl
      · have h4' : (400 : Int) < ((t.cs.length + u.cs.length : Nat) : Int) := by omega
        rw [if_neg h4]
        simp only [sIf_eq, tAnd_eq, tE_eq, eOp_eq, eUn_eq, eV_eq, eC_eq, List.getElem?_cons_succ, List.getElem?_cons_zero, Res.bind_ok, refD, oIsN_eq, isNon_non, if_true, bi0, fLen_tup, oGt_int, decide_eq_true h4', ofE_ok, sSet_eq, eTup_eq, aCons_eq, aNil_eq, List.set_cons_succ, List.set_cons_zero, blen]
        rw [if_pos (by simp [LIM_val]), ofE_ok]
  have s9 : (sSet 5 (eIf (tE (eOp oIsN (eV 4) (eC .non))) (eTup (aCons (eC (.str "told")) (aCons (eV 9) aNil))) (eV 4))) (envB c t e u (some (refD (besTX c e t u))) (some H) (some (.int (n : Int))) (some (.tup (A.map fD))) (some (.ref T7.length)) (some Bd)) T8 = .nx (envB c t e u (some (refD (besTX c e t u))) (some (heardD (besTX c e t u) Bd)) (some (.int (n : Int))) (some (.tup (A.map fD))) (some (.ref T7.length)) (some Bd)) T8 := by
    unfold envB
    cases besTX c e t u with
    | some m => simp [refD, heardD]
    | none => simp [refD, heardD, LIM_val]
  obtain ⟨T9, e9, K9⟩ := table_beside_ok hc he ht hu T8
  rw [hbd] at e9
  have hd9 := heard_res (besTX c e t u) Bd T9
  rw [← e9] at hd9
  have sm9 : F__law_same [heardD (besTX c e t u) Bd, heardD (besTX c e t u) Bd] T9 = .ok (.bl true) T9 := same_true 4 (by decide) (same_refl 4 _ (plain_heard fun _ => by
    rw [← hbd, bt]
    exact plain_tab3 (by simp; omega) (by simp; omega) (by simp; omega)))
  generalize heardD (besTX c e t u) Bd = H2 at *
  refine ⟨T9, ?_, ((((K1.trans K2).trans K3).trans K4).trans K8).trans K9⟩
  have s10 : (sRet (eCall F__law_same (aCons (eHeard heardCs (eCall F_table_beside (aCons (eV 0) (aCons (eV 1) (aCons (eV 2) (aCons (eV 3) aNil)))))) (aCons (eV 5) aNil)))) (envB c t e u (some (refD (besTX c e t u))) (some H2) (some (.int (n : Int))) (some (.tup (A.map fD))) (some (.ref T7.length)) (some Bd)) T8 = .rt (.bl true) T9 := by
    simp [envB, hd9, sm9]
  exact (mkF_eq 4 13 _ [c.d, t.d, e.d, u.d] S rfl).trans (by
    rw [show startE 13 [c.d, t.d, e.d, u.d] = envB c t e u none none none none none none from rfl]
    rw [show b__law_beside_right (envB c t e u none none none none none none) S = .rt (.bl true) T9 from nx_seq s1 (nx_seq s2 (nx_seq s3 (nx_seq s4 (nx_seq s5 (nx_seq s6 (nx_seq s7 (nx_seq s8 (nx_seq s9 s10))))))))])
end WkL


set_option Elab.async false
set_option linter.all false
set_option maxRecDepth 100000
set_option maxHeartbeats 1000000
set_option autoImplicit false
/-! Pk06g: a wide schema; the law. -/
namespace WkL
open PySem (Str)
open Wk
theorem wide_ok {p : Nat} {S : Store} (hP : Pool p S) : ∃ (c : Sch) (T : Store), F__law_wide_schema [.ref p] S = .ok c.d T ∧ c.Ok ∧ Keep [p] S T ∧ Pool p T := by
  have hp := hP.lt
  obtain ⟨k1, T1, e1, a0, a1, K1, P1, L1⟩ := take_ok (many := 3) hP (by decide) (by decide)
  obtain ⟨hh, hhe⟩ := Int.eq_ofNat_of_zero_le (show 0 ≤ 1 + k1 by omega)
  generalize hT2 : T1 ++ [Ob.lst []] = T2
  have g2 : T2[T1.length]? = some (.lst []) := by rw [← hT2]; exact get_last _ _
  have K2 : Keep [p] S T2 := by rw [← hT2]; exact K1.trans (Keep.push _ _ _)
  have P2 : Pool p T2 := by rw [← hT2]; exact P1.push
  have nl : T1.length ≠ p := by have := K1.1; omega
  obtain ⟨k2, T3, e3, b0, b1, K3, P3, L3⟩ := take_ok (many := 3) P2 (by decide) (by decide)
  obtain ⟨kk, kke⟩ := Int.eq_ofNat_of_zero_le (show 0 ≤ 1 + k1 + 1 + k2 by omega)
  have g3 := K3.get g2 (by simpa using nl)
  obtain ⟨k3, T4, e4, d0, d1, K4, P4, L4⟩ := take_ok (many := 26) P3 (by decide) (by decide)
  have g4 := K4.get g3 (by simpa using nl)
  obtain ⟨n, hne⟩ := Int.eq_ofNat_of_zero_le (show 0 ≤ 15 + k3 by omega)
  have hK4 : Keep [p] S T4 := (K2.trans K3).trans K4
  have h1 : 1 ≤ hh := by omega
  have hk : hh < kk := by omega
  have k24 : kk ≤ 6 := by omega
  have n40 : n ≤ 40 := by omega
  obtain ⟨s', T5, e5, i, x, fs, rfl, hi, hi2, g5, hfs, hl, K5, P5⟩ := forL_run (c := []) (g := .nm 4) (b := (sExpr (eBM oAppend (eV 2) (eTup (aCons (eCall F__law_wv_take (aCons (eV 0) (aCons (eV 3) aNil))) (aCons (eOp oAdd (eV 1) (eCall F__law_wv_take (aCons (eV 0) (aCons (eOp oSub (eV 3) (eV 1)) aNil)))) aNil))))))
    (fun rest s T => ∃ (i : Nat) (x : Option D) (fs : List (Nat × Nat)), s = [some (.ref p), some (.int (hh : Int)), some (.ref T1.length), some (.int (kk : Int)), x] ∧ rest = ((List.range n).drop i).map (fun (j : Nat) => D.int (j : Int)) ∧ i ≤ n ∧ T[T1.length]? = some (.lst (fs.map fD)) ∧ (∀ q ∈ fs, q.1 < kk ∧ hh ≤ q.2 ∧ q.2 < kk) ∧ fs.length = i ∧ Keep [p] S T ∧ Pool p T) (fun _ _ _ _ => rfl) (by
      rintro d rest s T ⟨i, x, fs, rfl, hd, _, g, hf, hl, K, hPT⟩
      obtain ⟨hi, rfl, rfl⟩ := range_drop hd
      obtain ⟨a, T6, e6, a60, a61, K6, P6, L6⟩ := take_ok (many := (kk : Int)) hPT (by omega) (by omega)
      obtain ⟨b, T7, e7, b70, b71, K7, P7, L7⟩ := take_ok (many := (kk : Int) - (hh : Int)) P6 (by omega) (by omega)
      obtain ⟨a, rfl⟩ := Int.eq_ofNat_of_zero_le a60
      obtain ⟨b, rfl⟩ := Int.eq_ofNat_of_zero_le b70
      have g7 := (K6.trans K7).get g (by simpa using nl)
      have il := isLst_lst g
      have ap := oAppend_lst (y := fD (a, hh + b)) g7 (by rw [LIM_val]; simp; omega)
      rw [show fs.map fD ++ [fD (a, hh + b)] = (fs ++ [(a, hh + b)]).map fD from by simp] at ap
      have hfd : D.tup [.int (a : Int), .int ((hh : Int) + (b : Int))] = fD (a, hh + b) := by simp [fD]
      refine ⟨[some (.ref p), some (.int (hh : Int)), some (.ref T1.length), some (.int (kk : Int)), some (.int (i : Int))], [some (.ref p), some (.int (hh : Int)), some (.ref T1.length), some (.int (kk : Int)), some (.int (i : Int))], T7.set T1.length (.lst ((fs ++ [(a, hh + b)]).map fD)), rfl, .inl ?_, i + 1, _, fs ++ [(a, hh + b)], rfl, rfl, hi, get_set_self g7, ?_, by simp [hl], ?_, P7.set nl⟩
      · simp only [sExpr_eq, eBM_eq, eTup_eq, aCons_eq, aNil_eq, eCall_eq, eOp_eq, eV_eq, List.getElem?_cons_succ, List.getElem?_cons_zero, Res.bind_ok, il, if_true, e6, oSub_int, oAdd_int, e7, hfd]
        rw [if_pos (by simp [LIM_val]), Res.bind_ok, ap, ofE_ok]
      · intro q hq
        rcases List.mem_append.mp hq with z | z
        · exact hf q z
        · simp at z; subst z
          exact ⟨by show a < kk; omega, by show hh ≤ hh + b; omega, by show hh + b < kk; omega⟩
      · exact ((K.trans K6).trans K7).new (Y := [T1.length]) (Keep.set _ (.inl (by simp))) (by intro j hj; simp at hj; have := K1.1; omega)) ((List.range n).map fun (j : Nat) => D.int (j : Int)) [some (.ref p), some (.int (hh : Int)), some (.ref T1.length), some (.int (kk : Int)), none] T4
    ⟨0, none, [], rfl, rfl, by omega, g4, by simp, rfl, hK4, P4⟩
  obtain rfl := range_done hi hi2
  rw [← rngD_on] at e5
  have ft := fTuple_lst g5
  refine ⟨⟨hh, kk, fs⟩, T5, ?_, ⟨h1, by show hh ≤ 6; omega, by show hh ≤ kk; omega, by show kk ≤ 24; omega, by show fs.length ≤ 40; omega, hfs⟩, K5, P5⟩
  have kke' : (hh : Int) + 1 + k2 = (kk : Int) := by omega
  have r1 : -(4611686018427387904 : Int) ≤ (i : Int) := by omega
  have r2 : (i : Int) ≤ 16777216 := by omega
  have s1 : (sPar 1 2 (eOp oAdd (eC (.int 1)) (eCall F__law_wv_take (aCons (eV 0) (aCons (eC (.int 3)) aNil)))) (eLst aNil)) [some (.ref p), none, none, none, none] S = .nx [some (.ref p), some (.int (hh : Int)), some (.ref T1.length), none, none] T2 := by
    simp [e1, hhe, LIM_val, ← hT2]
  have s2 : (sSet 3 (eOp oAdd (eOp oAdd (eV 1) (eC (.int 1))) (eCall F__law_wv_take (aCons (eV 0) (aCons (eC (.int 3)) aNil))))) [some (.ref p), some (.int (hh : Int)), some (.ref T1.length), none, none] T2 = .nx [some (.ref p), some (.int (hh : Int)), some (.ref T1.length), some (.int (kk : Int)), none] T3 := by
    simp [e3, kke']
  have s3 : (sFor (iRng (eOp oAdd (eC (.int 15)) (eCall F__law_wv_take (aCons (eV 0) (aCons (eC (.int 26)) aNil))))) (.nm 4) (sExpr (eBM oAppend (eV 2) (eTup (aCons (eCall F__law_wv_take (aCons (eV 0) (aCons (eV 3) aNil))) (aCons (eOp oAdd (eV 1) (eCall F__law_wv_take (aCons (eV 0) (aCons (eOp oSub (eV 3) (eV 1)) aNil)))) aNil)))))) [some (.ref p), some (.int (hh : Int)), some (.ref T1.length), some (.int (kk : Int)), none] T3 = .nx [some (.ref p), some (.int (hh : Int)), some (.ref T1.length), some (.int (kk : Int)), x] T5 := by
    have it : iRng (eOp oAdd (eC (.int 15)) (eCall F__law_wv_take (aCons (eV 0) (aCons (eC (.int 26)) aNil)))) [some (.ref p), some (.int (hh : Int)), some (.ref T1.length), some (.int (kk : Int)), none] T3 = .ok ⟨rngD 0 (i : Int), []⟩ T4 := by
      simp [e4, hne, r1, r2]
    rw [sFor_eq, it, ofE_ok]
    exact e5
  exact (mkF_eq 1 5 _ [.ref p] S rfl).trans (by
    rw [show startE 5 [D.ref p] = [some (.ref p), none, none, none, none] from rfl]
    rw [show b__law_wide_schema [some (.ref p), none, none, none, none] S = .rt (Sch.d ⟨hh, kk, fs⟩) T5 from nx_seq s1 (nx_seq s2 (nx_seq s3 (by unfold Sch.d; simp [ft, LIM_val])))])
/-! ### the law -/
/-- schemas with tables -/
structure ST where
  c : Sch
  t : Tab
def ST.d (x : ST) : D := .tup [x.c.d, x.t.d]
def ST.Ok (x : ST) : Prop := x.c.Ok ∧ TabOk x.c x.t
def turnB : FS := (sSeq (sSet 4 (eIf (tE (eOp oEq (eV 3) (eC (.int 7)))) (eC (.int 7)) (eIf (tE (eOp oEq (eV 3) (eC (.int 6)))) (eCall F__law_wv_take (aCons (eV 1) (aCons (eC (.int 2)) aNil))) (eC (.int 1)))))
    (sSeq (sSet 5 (eIf (tE (eOp oEq (eV 4) (eC (.int 7)))) (eCall F__law_wide_schema (aCons (eV 1) aNil)) (eCall F__law_wv_schema (aCons (eV 1) aNil))))
    (sSeq (sSet 5 (eIf (tE (eOp oEq (eV 4) (eC (.int 0)))) (eCall F__law_wv_great_schema (aCons (eV 1) aNil)) (eV 5)))
    (sSeq (sPar 6 7 (eCall F__law_wv_table (aCons (eV 1) (aCons (eV 5) aNil))) (eCall F__law_wv_table (aCons (eV 1) (aCons (eV 5) aNil))))
    (sSeq (sIf (tOr (Wk.tNot (tE (eCall F__law_full_right (aCons (eV 5) aNil)))) (Wk.tNot (tE (eCall F__law_joined_right (aCons (eV 5) (aCons (eV 6) (aCons (eV 7) aNil))))))) (sRet (eC (.bl false))) sSkip)
    (sSeq (sExpr (eBM oAppend (eV 2) (eTup (aCons (eV 5) (aCons (eV 6) aNil)))))
    (sFor (iSeq (eLst (aCons (eCall F__law_wv_one (aCons (eV 1) (aCons (eV 2) aNil))) (aCons (eCall F__law_wv_one (aCons (eV 1) (aCons (eV 2) aNil))) aNil)))) (.tp [(.nm 8), (.nm 9)]) (sIf (tOr (Wk.tNot (tE (eCall F__law_beside_right (aCons (eV 5) (aCons (eV 6) (aCons (eV 8) (aCons (eV 9) aNil))))))) (Wk.tNot (tE (eCall F__law_beside_right (aCons (eV 8) (aCons (eV 9) (aCons (eV 5) (aCons (eV 7) aNil)))))))) (sRet (eC (.bl false))) sSkip))))))))
abbrev envL (x : D) (p l : Nat) (y3 y4 y5 y6 y7 y8 y9 : Option D) : Env := [some x, some (.ref p), some (.ref l), y3, y4, y5, y6, y7, y8, y9]
theorem turn_ok {p l : Nat} {x : D} {T : Store} (i : Int) (y4 y5 y6 y7 y8 y9 : Option D) (hP : Pool p T) {A : List ST} (gl : T[l]? = some (.lst (A.map ST.d))) (hA : ∀ a ∈ A, a.Ok) (nl : l ≠ p) (hz : A.length ≤ 1000) :
    ∃ (z4 z5 z6 z7 z8 z9 : Option D) (T' : Store) (B : List ST), turnB (envL x p l (some (.int i)) y4 y5 y6 y7 y8 y9) T = .nx (envL x p l (some (.int i)) z4 z5 z6 z7 z8 z9) T' ∧ Pool p T' ∧ T'[l]? = some (.lst (B.map ST.d)) ∧ (∀ b ∈ B, ST.Ok b) ∧ B.length = A.length + 1 := by
  -- the form
  obtain ⟨f, T1, s1, K1, P1⟩ : ∃ (f : Int) (T1 : Store), (sSet 4 (eIf (tE (eOp oEq (eV 3) (eC (.int 7)))) (eC (.int 7)) (eIf (tE (eOp oEq (eV 3) (eC (.int 6)))) (eCall F__law_wv_take (aCons (eV 1) (aCons (eC (.int 2)) aNil))) (eC (.int 1))))) (envL x p l (some (.int i)) y4 y5 y6 y7 y8 y9) T = .nx (envL x p l (some (.int i)) (some (.int f)) y5 y6 y7 y8 y9) T1 ∧ Keep [p] T T1 ∧ Pool p T1 := by
    by_cases h7 : i = 7
    · exact ⟨7, T, by simp [envL, h7], Keep.refl _ _, hP⟩
    · by_cases h6 : i = 6
      · obtain ⟨k, T1, e1, _, _, K1, P1, _⟩ := take_ok (many := 2) hP (by decide) (by decide)
        exact ⟨k, T1, by simp [envL, h6, e1], K1, P1⟩
      · exact ⟨1, T, by simp [envL, h7, h6], Keep.refl _ _, hP⟩
  -- the schema
  obtain ⟨c0, T2, s2, hc0, K2, P2⟩ : ∃ (c : Sch) (T2 : Store), (sSet 5 (eIf (tE (eOp oEq (eV 4) (eC (.int 7)))) (eCall F__law_wide_schema (aCons (eV 1) aNil)) (eCall F__law_wv_schema (aCons (eV 1) aNil)))) (envL x p l (some (.int i)) (some (.int f)) y5 y6 y7 y8 y9) T1 = .nx (envL x p l (some (.int i)) (some (.int f)) (some c.d) y6 y7 y8 y9) T2 ∧ c.Ok ∧ Keep [p] T1 T2 ∧ Pool p T2 := by
    by_cases h7 : f = 7
    · obtain ⟨c, T2, e2, hc, K2, P2⟩ := wide_ok P1
      exact ⟨c, T2, by simp [envL, h7, e2], hc, K2, P2⟩
    · obtain ⟨c, T2, e2, hc, K2, P2⟩ := schema_ok P1
      exact ⟨c, T2, by simp [envL, h7, e2], hc, K2, P2⟩
  obtain ⟨c, T3, s3, hc, K3, P3⟩ : ∃ (c : Sch) (T3 : Store), (sSet 5 (eIf (tE (eOp oEq (eV 4) (eC (.int 0)))) (eCall F__law_wv_great_schema (aCons (eV 1) aNil)) (eV 5))) (envL x p l (some (.int i)) (some (.int f)) (some c0.d) y6 y7 y8 y9) T2 = .nx (envL x p l (some (.int i)) (some (.int f)) (some c.d) y6 y7 y8 y9) T3 ∧ c.Ok ∧ Keep [p] T2 T3 ∧ Pool p T3 := by
    by_cases h0 : f = 0
    · obtain ⟨c, T3, e3, hc, K3, P3⟩ := great_ok P2
      exact ⟨c, T3, by simp [envL, h0, e3], hc, K3, P3⟩
    · exact ⟨c0, T2, by simp [envL, h0], hc0, Keep.refl _ _, P2⟩
  obtain ⟨t, T4, e4, ht, K4, P4⟩ := table_drawn_ok hc P3
  obtain ⟨u, T5, e5, hu, K5, P5⟩ := table_drawn_ok hc P4
  have s4 : (sPar 6 7 (eCall F__law_wv_table (aCons (eV 1) (aCons (eV 5) aNil))) (eCall F__law_wv_table (aCons (eV 1) (aCons (eV 5) aNil)))) (envL x p l (some (.int i)) (some (.int f)) (some c.d) y6 y7 y8 y9) T3 = .nx (envL x p l (some (.int i)) (some (.int f)) (some c.d) (some t.d) (some u.d) y8 y9) T5 := by simp [envL, e4, e5]
  obtain ⟨T6, e6, K6⟩ := law_full_ok hc T5
  obtain ⟨T7, e7, K7⟩ := law_joined_ok hc ht hu T6
  have s5 : (sIf (tOr (Wk.tNot (tE (eCall F__law_full_right (aCons (eV 5) aNil)))) (Wk.tNot (tE (eCall F__law_joined_right (aCons (eV 5) (aCons (eV 6) (aCons (eV 7) aNil))))))) (sRet (eC (.bl false))) sSkip) (envL x p l (some (.int i)) (some (.int f)) (some c.d) (some t.d) (some u.d) y8 y9) T5 = .nx (envL x p l (some (.int i)) (some (.int f)) (some c.d) (some t.d) (some u.d) y8 y9) T7 := by simp [envL, e6, e7]
  have P7 := P5.keep (K6.trans K7) (by simp)
  have K07 : Keep [p] T T7 := ((((K1.trans K2).trans K3).trans K4).trans K5).trans ((K6.trans K7).mono (by simp))
  have g7 := K07.get gl (by simpa using nl)
  have il := isLst_lst g7
  have ap := oAppend_lst (y := ST.d ⟨c, t⟩) g7 (by rw [LIM_val]; simp; omega)
  rw [show A.map ST.d ++ [ST.d ⟨c, t⟩] = (A ++ [(⟨c, t⟩ : ST)]).map ST.d from by simp] at ap
  have hB : ∀ b ∈ A ++ [(⟨c, t⟩ : ST)], ST.Ok b := by
    intro b hb
    rcases List.mem_append.mp hb with z | z
    · exact hA b z
    · simp at z; subst z; exact ⟨hc, ht⟩
  have hBl : (A ++ [(⟨c, t⟩ : ST)]).length = A.length + 1 := by simp
  generalize A ++ [(⟨c, t⟩ : ST)] = B at *
  generalize hT8 : T7.set l (.lst (B.map ST.d)) = T8 at *
  have g8 : T8[l]? = some (.lst (B.map ST.d)) := by rw [← hT8]; exact get_set_self g7
  have P8 : Pool p T8 := by rw [← hT8]; exact P7.set nl
  have s6 : (sExpr (eBM oAppend (eV 2) (eTup (aCons (eV 5) (aCons (eV 6) aNil))))) (envL x p l (some (.int i)) (some (.int f)) (some c.d) (some t.d) (some u.d) y8 y9) T7 = .nx (envL x p l (some (.int i)) (some (.int f)) (some c.d) (some t.d) (some u.d) y8 y9) T8 := by
    have ap' : oAppend (.ref l) (.tup [c.d, t.d]) T7 = .ok .non T8 := ap
    simp [envL, il, LIM_val, ap']
  obtain ⟨d1, T9, e9, hd1, K9, P9, _⟩ := one_ok P8 g8 nl (by simp; omega) (by simp; omega)
  have g9 := K9.get g8 (by simpa using nl)
  obtain ⟨d2, T10, e10, hd2, K10, P10, _⟩ := one_ok P9 g9 nl (by simp; omega) (by simp; omega)
  have g10 := K10.get g9 (by simpa using nl)
  obtain ⟨b1, hb1, rfl⟩ := List.mem_map.mp hd1
  obtain ⟨b2, hb2, rfl⟩ := List.mem_map.mp hd2
  have ok1 := hB b1 hb1
  have ok2 := hB b2 hb2
  generalize hT11 : T10 ++ [Ob.lst [b1.d, b2.d]] = T11
  have gw : T11[T10.length]? = some (.lst [b1.d, b2.d]) := by rw [← hT11]; exact get_last _ _
  have g11 : T11[l]? = some (.lst (B.map ST.d)) := by rw [← hT11, List.getElem?_append_left (lt_of_get g10)]; exact g10
  have P11 : Pool p T11 := by rw [← hT11]; exact P10.push
  have one : ∀ (b : ST), b.Ok → ∀ (o8 o9 : Option D) (U : Store), ∃ U', (sIf (tOr (Wk.tNot (tE (eCall F__law_beside_right (aCons (eV 5) (aCons (eV 6) (aCons (eV 8) (aCons (eV 9) aNil))))))) (Wk.tNot (tE (eCall F__law_beside_right (aCons (eV 8) (aCons (eV 9) (aCons (eV 5) (aCons (eV 7) aNil)))))))) (sRet (eC (.bl false))) sSkip) (envL x p l (some (.int i)) (some (.int f)) (some c.d) (some t.d) (some u.d) (some b.c.d) (some b.t.d)) U = .nx (envL x p l (some (.int i)) (some (.int f)) (some c.d) (some t.d) (some u.d) (some b.c.d) (some b.t.d)) U' ∧ Keep [] U U' := by
    intro b ok _ _ U
    obtain ⟨U1, w1, k1⟩ := law_beside_ok hc ok.1 ht ok.2 U
    obtain ⟨U2, w2, k2⟩ := law_beside_ok ok.1 hc ok.2 hu U1
    exact ⟨U2, by simp [envL, w1, w2], k1.trans k2⟩
  obtain ⟨T12, w12, K12⟩ := one b1 ok1 none none T11
  obtain ⟨T13, w13, K13⟩ := one b2 ok2 none none T12
  have gw12 := K12.get gw (by simp)
  have gw13 := K13.get gw12 (by simp)
  have s7 : (sFor (iSeq (eLst (aCons (eCall F__law_wv_one (aCons (eV 1) (aCons (eV 2) aNil))) (aCons (eCall F__law_wv_one (aCons (eV 1) (aCons (eV 2) aNil))) aNil)))) (.tp [(.nm 8), (.nm 9)]) (sIf (tOr (Wk.tNot (tE (eCall F__law_beside_right (aCons (eV 5) (aCons (eV 6) (aCons (eV 8) (aCons (eV 9) aNil))))))) (Wk.tNot (tE (eCall F__law_beside_right (aCons (eV 8) (aCons (eV 9) (aCons (eV 5) (aCons (eV 7) aNil)))))))) (sRet (eC (.bl false))) sSkip)) (envL x p l (some (.int i)) (some (.int f)) (some c.d) (some t.d) (some u.d) y8 y9) T8 = .nx (envL x p l (some (.int i)) (some (.int f)) (some c.d) (some t.d) (some u.d) (some b2.c.d) (some b2.t.d)) T13 := by
    have it : iSeq (eLst (aCons (eCall F__law_wv_one (aCons (eV 1) (aCons (eV 2) aNil))) (aCons (eCall F__law_wv_one (aCons (eV 1) (aCons (eV 2) aNil))) aNil))) (envL x p l (some (.int i)) (some (.int f)) (some c.d) (some t.d) (some u.d) y8 y9) T8 = .ok ⟨[b1.d, b2.d], [(T10.length, .lst [b1.d, b2.d])]⟩ T11 := by
      simp [envL, e9, e10, LIM_val, hT11, gw]
    rw [sFor_eq, it, ofE_ok]
    rw [forL_cons (by simp [okC, gw]) rfl w12, forL_cons (by simp [okC, gw12]) rfl w13, forL_nil (by simp [okC, gw13])]
  exact ⟨_, _, _, _, _, _, T13, B, nx_seq s1 (nx_seq s2 (nx_seq s3 (nx_seq s4 (nx_seq s5 (nx_seq s6 s7))))), P11.keep (K12.trans K13) (by simp), (K12.trans K13).get g11 (by simp), hB, hBl⟩
theorem law_ok {x : D} {S : Store} {ns : List Int} (hz : ns.length ≤ 1000000) (hl : fLen x S = .ok (.int ns.length) S) (hx : ∀ (i : Nat) (z : Int), ns[i]? = some z → oIx x (.int (i : Int)) S = .ok (.int z) S) : ∃ T, F_law [x] S = .ok (.bl true) T := by
  obtain ⟨p, S1, e1, P1, _, _⟩ := pool_ok hz hl hx
  have hp := P1.lt
  have s1 : (sPar 1 2 (eCall F__law_wv_pool (aCons (eV 0) aNil)) (eLst aNil)) [some x, none, none, none, none, none, none, none, none, none] S = .nx (envL x p S1.length none none none none none none none) (S1 ++ [.lst []]) := by simp [envL, e1, LIM_val]
  obtain ⟨s', T, e2, _⟩ := forL_run (c := []) (g := .nm 3) (b := turnB)
    (fun rest s T => ∃ y3 y4 y5 y6 y7 y8 y9 i A, s = envL x p S1.length y3 y4 y5 y6 y7 y8 y9 ∧ rest = ((List.range 8).drop i).map (fun (j : Nat) => D.int (j : Int)) ∧ i ≤ 8 ∧ Pool p T ∧ T[S1.length]? = some (.lst (A.map ST.d)) ∧ (∀ a ∈ A, ST.Ok a) ∧ A.length = i) (fun _ _ _ _ => rfl) (by
      rintro d rest s T ⟨y3, y4, y5, y6, y7, y8, y9, i, A, rfl, hd, _, hP, g, hA, hAl⟩
      obtain ⟨hi, rfl, rfl⟩ := range_drop hd
      obtain ⟨z4, z5, z6, z7, z8, z9, T', B, e, hP', g', hB, hBl⟩ := turn_ok (x := x) (i : Int) y4 y5 y6 y7 y8 y9 hP g hA (by omega) (by omega)
      exact ⟨_, _, T', rfl, .inl e, _, _, _, _, _, _, _, i + 1, B, rfl, rfl, hi, hP', g', hB, by omega⟩) ((List.range 8).map fun (j : Nat) => D.int (j : Int)) (envL x p S1.length none none none none none none none) (S1 ++ [.lst []])
    ⟨none, none, none, none, none, none, none, 0, [], rfl, rfl, by omega, P1.push, get_last _ _, by simp, rfl⟩
  unfold turnB at e2
  have s2 : (sFor (iRng (eC (.int 8))) (.nm 3) (sSeq (sSet 4 (eIf (tE (eOp oEq (eV 3) (eC (.int 7)))) (eC (.int 7)) (eIf (tE (eOp oEq (eV 3) (eC (.int 6)))) (eCall F__law_wv_take (aCons (eV 1) (aCons (eC (.int 2)) aNil))) (eC (.int 1)))))
    (sSeq (sSet 5 (eIf (tE (eOp oEq (eV 4) (eC (.int 7)))) (eCall F__law_wide_schema (aCons (eV 1) aNil)) (eCall F__law_wv_schema (aCons (eV 1) aNil))))
    (sSeq (sSet 5 (eIf (tE (eOp oEq (eV 4) (eC (.int 0)))) (eCall F__law_wv_great_schema (aCons (eV 1) aNil)) (eV 5)))
    (sSeq (sPar 6 7 (eCall F__law_wv_table (aCons (eV 1) (aCons (eV 5) aNil))) (eCall F__law_wv_table (aCons (eV 1) (aCons (eV 5) aNil))))
    (sSeq (sIf (tOr (Wk.tNot (tE (eCall F__law_full_right (aCons (eV 5) aNil)))) (Wk.tNot (tE (eCall F__law_joined_right (aCons (eV 5) (aCons (eV 6) (aCons (eV 7) aNil))))))) (sRet (eC (.bl false))) sSkip)
    (sSeq (sExpr (eBM oAppend (eV 2) (eTup (aCons (eV 5) (aCons (eV 6) aNil)))))
    (sFor (iSeq (eLst (aCons (eCall F__law_wv_one (aCons (eV 1) (aCons (eV 2) aNil))) (aCons (eCall F__law_wv_one (aCons (eV 1) (aCons (eV 2) aNil))) aNil)))) (.tp [(.nm 8), (.nm 9)]) (sIf (tOr (Wk.tNot (tE (eCall F__law_beside_right (aCons (eV 5) (aCons (eV 6) (aCons (eV 8) (aCons (eV 9) aNil))))))) (Wk.tNot (tE (eCall F__law_beside_right (aCons (eV 8) (aCons (eV 9) (aCons (eV 5) (aCons (eV 7) aNil)))))))) (sRet (eC (.bl false))) sSkip))))))))) (envL x p S1.length none none none none none none none) (S1 ++ [.lst []]) = .nx s' T := by
    have it : iRng (eC (.int 8)) (envL x p S1.length none none none none none none none) (S1 ++ [.lst []]) = .ok ⟨(List.range 8).map fun (j : Nat) => D.int (j : Int), []⟩ (S1 ++ [.lst []]) := by
      rw [← rngD_on]; simp
    rw [sFor_eq, it, ofE_ok]
    exact e2
  refine ⟨T, (mkF_eq 1 10 _ [x] S rfl).trans ?_⟩
  rw [show startE 10 [x] = [some x, none, none, none, none, none, none, none, none, none] from rfl]
  rw [show b_law [some x, none, none, none, none, none, none, none, none, none] S = .rt (.bl true) T from nx_seq s1 (nx_seq s2 rfl)]
theorem pure_law (ns : List Int) (hn : ns.length ≤ 63) : (∃ S', F_law [.frz (ns.map D.int)] [] = .ok (.bl true) S') ∧ ∃ S', F_law [.ref 0] [.lst (ns.map D.int)] = .ok (.bl true) S' := by
  refine ⟨law_ok (ns := ns) (by omega) (by simp) fun i z h => ?_, law_ok (ns := ns) (by omega) (by rw [fLen_lst (ds := ns.map D.int) rfl]; simp) fun i z h => ?_⟩
  · simp [h]
  · simp [h]
end WkL


set_option Elab.async false
set_option linter.all false
set_option maxRecDepth 100000
set_option maxHeartbeats 4000000
set_option autoImplicit false
/-! printed by gen.py: the end of wovenkeep_k06_tables_full_joined_beside. -/
namespace WkL
open PySem PySem.Spec PyProof.Rows L2 LamX Wk

section
variable {P : Program} {w : World} {K : PySem.W.Frag} {mg : Str → Option Value} {base : Heap}
theorem sc_init : FnScope ["self", "what"] ["self", "what"] (defScope st_init) := ⟨rfl, rfl, rfl, by decide +kernel, rfl, by decide +kernel, by decide +kernel⟩
theorem ok_init {f : Addr} {fd : FuncData} (F : Fun K "__init__" "Refused.__init__" st_init f fd) (hm : mg "ValueError" = none) (vV : PySem.W.findCls K (.type "ValueError") (.type "type") "__init__" = some (.val (.builtin "ValueError.__init__"))) : FnOk P w K mg base CX0 1 f fd ["self", "what"] (spRef K) := by
  refine F.ok sc_init (fun vs H Q E h => ?_) (fun cdv A outer s H vs Q E hr h => ?_)
  · obtain ⟨a, C, v, rfl, _⟩ := h
    rfl
  · obtain ⟨a, C, v, rfl, O, hno, ha, k⟩ := h
    refine ⟨_, pss_cons (ps_expr (pe_veinit rfl hm vV (pa_cons (pv 0) (pa_cons (pv 1) pa_nil)))) (pss_one (ps_ost (pv 0) (pv 1))), ?_⟩
    exact ⟨_, rfl, _, rfl, a, C, [v], rfl, (by show 1 ≤ 1000; decide), O, ha, _, rfl, _, rfl, a, C, rfl, O, hno, .inl ⟨ha, fun dx h1 h2 => k dx h1 h2⟩⟩
theorem init_all {fI : Addr} {oc : Value} {od : Option Addr} {kV dc pm : Value} {an : Option Addr} {cd ct : Value} {sl : Array (Option Value)} (l : K.lookup fI = some ⟨oc, od, .func (PySem.W.fnOf "__init__" "Refused.__init__" (defArgs st_init) (defBody st_init) (defScope st_init) .none kV dc pm an cd ct), sl⟩)
    (c : PySem.W.codeIn K cd "Refused.__init__" = true) (k : PySem.W.keepIn K (.ref fI) = true) (hm : mg "ValueError" = none) (vV : PySem.W.findCls K (.type "ValueError") (.type "type") "__init__" = some (.val (.builtin "ValueError.__init__"))) :
    ∃ fd : FuncData, L2.Binds K fd ["self", "what"] [] ∧ FnOk P w K mg base CX0 1 fI fd ["self", "what"] (spRef K) := by
  have F := fun_mk (st := st_init) l c k
  exact ⟨_, F.binds (ps := ["self", "what"]) fun _ _ _ _ _ _ us hl => match us, hl with | [_, _], _ => rfl, ok_init F hm vV⟩
end
theorem bi_is_whole : BindP "is_whole" st_is_whole ["thing", "low", "high"] := fun _ _ _ _ _ _ us hl => match us, hl with | [_, _, _], _ => rfl
theorem bi_rising_in : BindP "rising_in" st_rising_in ["thing", "low", "high"] := fun _ _ _ _ _ _ us hl => match us, hl with | [_, _, _], _ => rfl
theorem bi_is_row : BindP "is_row" st_is_row ["thing", "many"] := fun _ _ _ _ _ _ us hl => match us, hl with | [_, _], _ => rfl
theorem bi_is_field : BindP "is_field" st_is_field ["thing", "hands", "kinds"] := fun _ _ _ _ _ _ us hl => match us, hl with | [_, _, _], _ => rfl
theorem bi_made_schema : BindP "made_schema" st_made_schema ["thing"] := fun _ _ _ _ _ _ us hl => match us, hl with | [_], _ => rfl
theorem bi_kinds_beside : BindP "kinds_beside" st_kinds_beside ["one", "two"] := fun _ _ _ _ _ _ us hl => match us, hl with | [_, _], _ => rfl
theorem bi_beside : BindP "beside" st_beside ["one", "two"] := fun _ _ _ _ _ _ us hl => match us, hl with | [_, _], _ => rfl
theorem bi_is_carry : BindP "is_carry" st_is_carry ["schema", "thing"] := fun _ _ _ _ _ _ us hl => match us, hl with | [_, _], _ => rfl
theorem bi_wrong_carry : BindP "wrong_carry" st_wrong_carry ["schema", "carries"] := fun _ _ _ _ _ _ us hl => match us, hl with | [_, _], _ => rfl
theorem bi_ask_carries : BindP "ask_carries" st_ask_carries ["schema", "carries"] := fun _ _ _ _ _ _ us hl => match us, hl with | [_, _], _ => rfl
theorem bi_made_table : BindP "made_table" st_made_table ["schema", "thing"] := fun _ _ _ _ _ _ us hl => match us, hl with | [_, _], _ => rfl
theorem bi_full_table : BindP "full_table" st_full_table ["schema"] := fun _ _ _ _ _ _ us hl => match us, hl with | [_], _ => rfl
theorem bi_together : BindP "together" st_together ["one", "two"] := fun _ _ _ _ _ _ us hl => match us, hl with | [_, _], _ => rfl
theorem bi_joined_tables : BindP "joined_tables" st_joined_tables ["schema", "one", "two"] := fun _ _ _ _ _ _ us hl => match us, hl with | [_, _, _], _ => rfl
theorem bi_lies_within : BindP "lies_within" st_lies_within ["one", "two"] := fun _ _ _ _ _ _ us hl => match us, hl with | [_, _], _ => rfl
theorem bi_table_within : BindP "table_within" st_table_within ["schema", "one", "two"] := fun _ _ _ _ _ _ us hl => match us, hl with | [_, _, _], _ => rfl
theorem bi_table_beside : BindP "table_beside" st_table_beside ["schema", "table", "second", "two"] := fun _ _ _ _ _ _ us hl => match us, hl with | [_, _, _, _], _ => rfl
theorem bi__law_wv_pool : BindP "_law_wv_pool" st__law_wv_pool ["script"] := fun _ _ _ _ _ _ us hl => match us, hl with | [_], _ => rfl
theorem bi__law_wv_take : BindP "_law_wv_take" st__law_wv_take ["pool", "many"] := fun _ _ _ _ _ _ us hl => match us, hl with | [_, _], _ => rfl
theorem bi__law_wv_one : BindP "_law_wv_one" st__law_wv_one ["pool", "things"] := fun _ _ _ _ _ _ us hl => match us, hl with | [_, _], _ => rfl
theorem bi__law_wv_mixed : BindP "_law_wv_mixed" st__law_wv_mixed ["pool", "things"] := fun _ _ _ _ _ _ us hl => match us, hl with | [_, _], _ => rfl
theorem bi__law_wv_some : BindP "_law_wv_some" st__law_wv_some ["pool", "things", "part"] := fun _ _ _ _ _ _ us hl => match us, hl with | [_, _, _], _ => rfl
theorem bi__law_wv_schema : BindP "_law_wv_schema" st__law_wv_schema ["pool"] := fun _ _ _ _ _ _ us hl => match us, hl with | [_], _ => rfl
theorem bi__law_wv_great_schema : BindP "_law_wv_great_schema" st__law_wv_great_schema ["pool"] := fun _ _ _ _ _ _ us hl => match us, hl with | [_], _ => rfl
theorem bi__law_wv_hand_field : BindP "_law_wv_hand_field" st__law_wv_hand_field ["schema", "f"] := fun _ _ _ _ _ _ us hl => match us, hl with | [_, _], _ => rfl
theorem bi__law_wv_pairs : BindP "_law_wv_pairs" st__law_wv_pairs ["schema"] := fun _ _ _ _ _ _ us hl => match us, hl with | [_], _ => rfl
theorem bi__law_wv_table : BindP "_law_wv_table" st__law_wv_table ["pool", "schema"] := fun _ _ _ _ _ _ us hl => match us, hl with | [_, _], _ => rfl
theorem bi__law_is_whole : BindP "_law_is_whole" st__law_is_whole ["thing"] := fun _ _ _ _ _ _ us hl => match us, hl with | [_], _ => rfl
theorem bi__law_same : BindP "_law_same" st__law_same ["heard_one", "owed"] := fun _ _ _ _ _ _ us hl => match us, hl with | [_, _], _ => rfl
theorem bi__law_heard : BindP "_law_heard" st__law_heard ["deed"] := fun _ _ _ _ _ _ us hl => match us, hl with | [_], _ => rfl
theorem bi__law_beside_by : BindP "_law_beside_by" st__law_beside_by ["one", "two"] := fun _ _ _ _ _ _ us hl => match us, hl with | [_, _], _ => rfl
theorem bi__law_beside_refused : BindP "_law_beside_refused" st__law_beside_refused ["one", "two"] := fun _ _ _ _ _ _ us hl => match us, hl with | [_, _], _ => rfl
theorem bi__law_merged : BindP "_law_merged" st__law_merged ["one", "two"] := fun _ _ _ _ _ _ us hl => match us, hl with | [_, _], _ => rfl
theorem bi__law_is_within : BindP "_law_is_within" st__law_is_within ["one", "two"] := fun _ _ _ _ _ _ us hl => match us, hl with | [_, _], _ => rfl
theorem bi__law_full_right : BindP "_law_full_right" st__law_full_right ["schema"] := fun _ _ _ _ _ _ us hl => match us, hl with | [_], _ => rfl
theorem bi__law_joined_right : BindP "_law_joined_right" st__law_joined_right ["schema", "one", "two"] := fun _ _ _ _ _ _ us hl => match us, hl with | [_, _, _], _ => rfl
theorem bi__law_beside_right : BindP "_law_beside_right" st__law_beside_right ["one", "table", "two", "other"] := fun _ _ _ _ _ _ us hl => match us, hl with | [_, _, _, _], _ => rfl
theorem bi__law_wide_schema : BindP "_law_wide_schema" st__law_wide_schema ["pool"] := fun _ _ _ _ _ _ us hl => match us, hl with | [_], _ => rfl
theorem bi_law : BindP "law" st_law ["script"] := fun _ _ _ _ _ _ us hl => match us, hl with | [_], _ => rfl
theorem heard_mk {K : PySem.W.Frag} {mg : Str → Option Value} (D : DefAt K mg "_law_heard" st__law_heard ["deed"]) {l : List (Addr × String)} (hl : l.map (·.2) = heardCs) (C : HeardC K mg l) : HeardAt K mg "_law_heard" "deed" "refused_one" st__law_heard hds heardCs :=
  ⟨D, ⟨_, _, _, _, _, _, _, _, rfl⟩, ⟨rfl, rfl, rfl, by decide +kernel, rfl, by decide +kernel, by decide +kernel⟩, by
    show HeardHds "refused_one" [_] heardCs
    exact (.cons rfl rfl .nil), (by show hds ≠ []; intro z; exact absurd (show (0 : Nat) = hds.length by rw [z]; rfl) (by decide +kernel)), Or.inl rfl, rfl, by decide +kernel, by decide +kernel, l, hl, C⟩
theorem bi_law1 {kV doc pm : Value} {an : Option Addr} {cdv ct : Value} (s : Shared) (u : Value) : BindsTo s (PySem.W.fnOf "law" "law" (defArgs st_law) (defBody st_law) (defScope st_law) .none kV doc pm an cdv ct) ⟨[u], []⟩ [("script", u)] := .of_eq rfl
open PySem.W in
theorem all_mk {l : OpenLaw} {q : Program} {w : World} {K : Params → Frag} {h : Heap} {mg : Str → Option Value} {fa fI : Addr} (KX : (K w.params).In h) (G : h.Ns mainGlobals mg) (hfa : mg "law" = some (.ref fa)) (tt : TopTabs q (K w.params) h)
    (D_is_whole : DefK (K w.params) "is_whole" st_is_whole)
    (D_rising_in : DefK (K w.params) "rising_in" st_rising_in)
    (D_is_row : DefK (K w.params) "is_row" st_is_row)
    (D_is_field : DefK (K w.params) "is_field" st_is_field)
    (D_made_schema : DefK (K w.params) "made_schema" st_made_schema)
    (D_kinds_beside : DefK (K w.params) "kinds_beside" st_kinds_beside)
    (D_beside : DefK (K w.params) "beside" st_beside)
    (D_is_carry : DefK (K w.params) "is_carry" st_is_carry)
    (D_wrong_carry : DefK (K w.params) "wrong_carry" st_wrong_carry)
    (D_ask_carries : DefK (K w.params) "ask_carries" st_ask_carries)
    (D_made_table : DefK (K w.params) "made_table" st_made_table)
    (D_full_table : DefK (K w.params) "full_table" st_full_table)
    (D_together : DefK (K w.params) "together" st_together)
    (D_joined_tables : DefK (K w.params) "joined_tables" st_joined_tables)
    (D_lies_within : DefK (K w.params) "lies_within" st_lies_within)
    (D_table_within : DefK (K w.params) "table_within" st_table_within)
    (D_table_beside : DefK (K w.params) "table_beside" st_table_beside)
    (D__law_wv_pool : DefK (K w.params) "_law_wv_pool" st__law_wv_pool)
    (D__law_wv_take : DefK (K w.params) "_law_wv_take" st__law_wv_take)
    (D__law_wv_one : DefK (K w.params) "_law_wv_one" st__law_wv_one)
    (D__law_wv_mixed : DefK (K w.params) "_law_wv_mixed" st__law_wv_mixed)
    (D__law_wv_some : DefK (K w.params) "_law_wv_some" st__law_wv_some)
    (D__law_wv_schema : DefK (K w.params) "_law_wv_schema" st__law_wv_schema)
    (D__law_wv_great_schema : DefK (K w.params) "_law_wv_great_schema" st__law_wv_great_schema)
    (D__law_wv_hand_field : DefK (K w.params) "_law_wv_hand_field" st__law_wv_hand_field)
    (D__law_wv_pairs : DefK (K w.params) "_law_wv_pairs" st__law_wv_pairs)
    (D__law_wv_table : DefK (K w.params) "_law_wv_table" st__law_wv_table)
    (D__law_is_whole : DefK (K w.params) "_law_is_whole" st__law_is_whole)
    (D__law_same : DefK (K w.params) "_law_same" st__law_same)
    (D__law_beside_by : DefK (K w.params) "_law_beside_by" st__law_beside_by)
    (D__law_beside_refused : DefK (K w.params) "_law_beside_refused" st__law_beside_refused)
    (D__law_merged : DefK (K w.params) "_law_merged" st__law_merged)
    (D__law_is_within : DefK (K w.params) "_law_is_within" st__law_is_within)
    (D__law_wide_schema : DefK (K w.params) "_law_wide_schema" st__law_wide_schema)
    (D_law : DefK (K w.params) "law" st_law)
    (D__law_heard : DefK (K w.params) "_law_heard" st__law_heard)
    {c__law_full_right t__law_full_right : Addr} (D__law_full_right : DefKC (K w.params) "_law_full_right" st__law_full_right c__law_full_right t__law_full_right)
    {c__law_joined_right t__law_joined_right : Addr} (D__law_joined_right : DefKC (K w.params) "_law_joined_right" st__law_joined_right c__law_joined_right t__law_joined_right)
    {c__law_beside_right t__law_beside_right : Addr} (D__law_beside_right : DefKC (K w.params) "_law_beside_right" st__law_beside_right c__law_beside_right t__law_beside_right)
    (L__law_full_right : List.lookup t__law_full_right (K w.params) = none) (R__law_full_right : ((recsOf q).any fun e => e.name == ("_law_full_right" : Str)) = true)
    (L__law_joined_right : List.lookup t__law_joined_right (K w.params) = none) (R__law_joined_right : ((recsOf q).any fun e => e.name == ("_law_joined_right" : Str)) = true)
    (L__law_beside_right : List.lookup t__law_beside_right (K w.params) = none) (R__law_beside_right : ((recsOf q).any fun e => e.name == ("_law_beside_right" : Str)) = true)
    (U__law_full_right__law_joined_right : t__law_full_right ≠ t__law_joined_right)
    (U__law_full_right__law_beside_right : t__law_full_right ≠ t__law_beside_right)
    (U__law_joined_right__law_beside_right : t__law_joined_right ≠ t__law_beside_right)
    (Z_ValueError : nsIn (K w.params) mainGlobals "ValueError" = some none)
    (Z_all : nsIn (K w.params) mainGlobals "all" = some none)
    (Z_bool : nsIn (K w.params) mainGlobals "bool" = some none)
    (Z_dict : nsIn (K w.params) mainGlobals "dict" = some none)
    (Z_enumerate : nsIn (K w.params) mainGlobals "enumerate" = some none)
    (Z_int : nsIn (K w.params) mainGlobals "int" = some none)
    (Z_isinstance : nsIn (K w.params) mainGlobals "isinstance" = some none)
    (Z_len : nsIn (K w.params) mainGlobals "len" = some none)
    (Z_list : nsIn (K w.params) mainGlobals "list" = some none)
    (Z_max : nsIn (K w.params) mainGlobals "max" = some none)
    (Z_range : nsIn (K w.params) mainGlobals "range" = some none)
    (Z_sorted : nsIn (K w.params) mainGlobals "sorted" = some none)
    (Z_str : nsIn (K w.params) mainGlobals "str" = some none)
    (Z_tuple : nsIn (K w.params) mainGlobals "tuple" = some none)
    (Z_zip : nsIn (K w.params) mainGlobals "zip" = some none)
    {i_MOST_CARRIES : Tok} (G_MOST_CARRIES : nsIn (K w.params) mainGlobals "MOST_CARRIES" = some (some (.int 400 i_MOST_CARRIES)))
    {i_MOST_FIELDS : Tok} (G_MOST_FIELDS : nsIn (K w.params) mainGlobals "MOST_FIELDS" = some (some (.int 40 i_MOST_FIELDS)))
    {i_MOST_HANDS : Tok} (G_MOST_HANDS : nsIn (K w.params) mainGlobals "MOST_HANDS" = some (some (.int 6 i_MOST_HANDS)))
    {i_MOST_KINDS : Tok} (G_MOST_KINDS : nsIn (K w.params) mainGlobals "MOST_KINDS" = some (some (.int 24 i_MOST_KINDS)))
    {C_BadSchema : Addr} (E_BadSchema : ErrK (K w.params) "BadSchema" C_BadSchema) (I_BadSchema : findIn (K w.params) (.ref C_BadSchema) "__init__" = some (some (.ref fI)))
    {C_BadTable : Addr} (E_BadTable : ErrK (K w.params) "BadTable" C_BadTable) (I_BadTable : findIn (K w.params) (.ref C_BadTable) "__init__" = some (some (.ref fI)))
    {C_TooMany : Addr} (E_TooMany : ErrK (K w.params) "TooMany" C_TooMany) (I_TooMany : findIn (K w.params) (.ref C_TooMany) "__init__" = some (some (.ref fI)))
    (S_TooMany_TooMany : subIn (K w.params) (.ref C_TooMany) (.ref C_TooMany) = some true)
    {oc : Value} {od : Option Addr} {kV dc pm : Value} {an : Option Addr} {cd ct : Value} {sl : Array (Option Value)} (l0 : List.lookup fI (K w.params) = some ⟨oc, od, .func (fnOf "__init__" "Refused.__init__" (defArgs st_init) (defBody st_init) (defScope st_init) .none kV dc pm an cd ct), sl⟩) (c0 : codeIn (K w.params) cd "Refused.__init__" = true) (k0 : keepIn (K w.params) (.ref fI) = true) (vV : findCls (K w.params) (.type "ValueError") (.type "type") "__init__" = some (.val (.builtin "ValueError.__init__"))) : LawAtS l w (K w.params) (L2.CX l.prog w) 16 63 "script" mg fa h := by
  obtain ⟨f, oc1, od1, kV1, dc1, pm1, an1, cd1, ct1, sl1, a1, l1, c1, k1⟩ := D_law.ex
  have e := hfa.symm.trans (mg_of KX G a1)
  cases e
  have FL := fun_mk (st := st_law) l1 c1 k1
  have H__law_full_right := tt "_law_full_right" c__law_full_right t__law_full_right R__law_full_right D__law_full_right.tab
  have H__law_joined_right := tt "_law_joined_right" c__law_joined_right t__law_joined_right R__law_joined_right D__law_joined_right.tab
  have H__law_beside_right := tt "_law_beside_right" c__law_beside_right t__law_beside_right R__law_beside_right D__law_beside_right.tab
  refine law_at (n := 63) (cs := [(c__law_full_right, t__law_full_right), (c__law_joined_right, t__law_joined_right), (c__law_beside_right, t__law_beside_right)]) (T := (Tabl t__law_full_right t__law_joined_right t__law_beside_right)) (Fl := F_law) (fd := fnOf "law" "law" (defArgs st_law) (defBody st_law) (defScope st_law) .none kV1 dc1 pm1 an1 cd1 ct1) (by decide) ?_ ?_ ?_ bi_law1 pure_law fun base KB GB TB => ?_
  · intro p hp
    simp only [List.mem_cons, List.not_mem_nil, or_false] at hp
    rcases hp with rfl | rfl | rfl
    · exact H__law_full_right
    · exact H__law_joined_right
    · exact H__law_beside_right
  · intro p hp
    simp only [List.mem_cons, List.not_mem_nil, or_false] at hp
    rcases hp with rfl | rfl | rfl
    · exact L__law_full_right
    · exact L__law_joined_right
    · exact L__law_beside_right
  · intro t ht
    simp only [Tabl, List.mem_cons, List.not_mem_nil, or_false] at ht
    rcases ht with rfl | rfl | rfl
    · exact ⟨(c__law_full_right, t__law_full_right), by simp, rfl⟩
    · exact ⟨(c__law_joined_right, t__law_joined_right), by simp, rfl⟩
    · exact ⟨(c__law_beside_right, t__law_beside_right), by simp, rfl⟩
  have hv : mg "ValueError" = none := mg_none_of KX G Z_ValueError
  have II : ∃ fd : FuncData, L2.Binds (K w.params) fd ["self", "what"] [] ∧ FnOk l.prog w (K w.params) mg base CX0 1 fI fd ["self", "what"] (spRef (K w.params)) := init_all l0 c0 k0 hv vV
  have X_BadSchema : ExcAt l.prog w (K w.params) mg base "BadSchema" := E_BadSchema.exc KX G fun f i => by
    have z := I_BadSchema.symm.trans i
    cases z
    exact II
  have X_BadTable : ExcAt l.prog w (K w.params) mg base "BadTable" := E_BadTable.exc KX G fun f i => by
    have z := I_BadTable.symm.trans i
    cases z
    exact II
  have X_TooMany : ExcAt l.prog w (K w.params) mg base "TooMany" := E_TooMany.exc KX G fun f i => by
    have z := I_TooMany.symm.trans i
    cases z
    exact II
  have HC : HeardC (K w.params) mg [(C_TooMany, "TooMany")] := heardC KX G (by
    intro p hp
    simp only [List.mem_cons, List.not_mem_nil, or_false] at hp
    rcases hp with rfl
    · exact E_TooMany) (by
    intro p hp r hr
    simp only [List.mem_cons, List.not_mem_nil, or_false] at hp hr
    rcases hp with rfl
    · rcases hr with rfl
      · exact S_TooMany_TooMany)
  have Tx : Txt l.prog w (K w.params) mg base c__law_full_right t__law_full_right c__law_joined_right t__law_joined_right c__law_beside_right t__law_beside_right := {
    d_is_whole := D_is_whole.at KX G bi_is_whole
    d_rising_in := D_rising_in.at KX G bi_rising_in
    d_is_row := D_is_row.at KX G bi_is_row
    d_is_field := D_is_field.at KX G bi_is_field
    d_made_schema := D_made_schema.at KX G bi_made_schema
    d_kinds_beside := D_kinds_beside.at KX G bi_kinds_beside
    d_beside := D_beside.at KX G bi_beside
    d_is_carry := D_is_carry.at KX G bi_is_carry
    d_wrong_carry := D_wrong_carry.at KX G bi_wrong_carry
    d_ask_carries := D_ask_carries.at KX G bi_ask_carries
    d_made_table := D_made_table.at KX G bi_made_table
    d_full_table := D_full_table.at KX G bi_full_table
    d_together := D_together.at KX G bi_together
    d_joined_tables := D_joined_tables.at KX G bi_joined_tables
    d_lies_within := D_lies_within.at KX G bi_lies_within
    d_table_within := D_table_within.at KX G bi_table_within
    d_table_beside := D_table_beside.at KX G bi_table_beside
    d__law_wv_pool := D__law_wv_pool.at KX G bi__law_wv_pool
    d__law_wv_take := D__law_wv_take.at KX G bi__law_wv_take
    d__law_wv_one := D__law_wv_one.at KX G bi__law_wv_one
    d__law_wv_mixed := D__law_wv_mixed.at KX G bi__law_wv_mixed
    d__law_wv_some := D__law_wv_some.at KX G bi__law_wv_some
    d__law_wv_schema := D__law_wv_schema.at KX G bi__law_wv_schema
    d__law_wv_great_schema := D__law_wv_great_schema.at KX G bi__law_wv_great_schema
    d__law_wv_hand_field := D__law_wv_hand_field.at KX G bi__law_wv_hand_field
    d__law_wv_pairs := D__law_wv_pairs.at KX G bi__law_wv_pairs
    d__law_wv_table := D__law_wv_table.at KX G bi__law_wv_table
    d__law_is_whole := D__law_is_whole.at KX G bi__law_is_whole
    d__law_same := D__law_same.at KX G bi__law_same
    d__law_beside_by := D__law_beside_by.at KX G bi__law_beside_by
    d__law_beside_refused := D__law_beside_refused.at KX G bi__law_beside_refused
    d__law_merged := D__law_merged.at KX G bi__law_merged
    d__law_is_within := D__law_is_within.at KX G bi__law_is_within
    d__law_full_right := D__law_full_right.at KX G bi__law_full_right
    d__law_joined_right := D__law_joined_right.at KX G bi__law_joined_right
    d__law_beside_right := D__law_beside_right.at KX G bi__law_beside_right
    d__law_wide_schema := D__law_wide_schema.at KX G bi__law_wide_schema
    d_law := D_law.at KX G bi_law
    n_all := mg_none_of KX G Z_all
    n_bool := mg_none_of KX G Z_bool
    n_dict := mg_none_of KX G Z_dict
    n_enumerate := mg_none_of KX G Z_enumerate
    n_int := mg_none_of KX G Z_int
    n_isinstance := mg_none_of KX G Z_isinstance
    n_len := mg_none_of KX G Z_len
    n_list := mg_none_of KX G Z_list
    n_max := mg_none_of KX G Z_max
    n_range := mg_none_of KX G Z_range
    n_sorted := mg_none_of KX G Z_sorted
    n_str := mg_none_of KX G Z_str
    n_tuple := mg_none_of KX G Z_tuple
    n_zip := mg_none_of KX G Z_zip
    c_MOST_CARRIES := ⟨_, mg_of KX G G_MOST_CARRIES⟩
    c_MOST_FIELDS := ⟨_, mg_of KX G G_MOST_FIELDS⟩
    c_MOST_HANDS := ⟨_, mg_of KX G G_MOST_HANDS⟩
    c_MOST_KINDS := ⟨_, mg_of KX G G_MOST_KINDS⟩
    e_BadSchema := X_BadSchema
    e_BadTable := X_BadTable
    e_TooMany := X_TooMany
    heard := heard_mk (D__law_heard.at KX G bi__law_heard) (l := [(C_TooMany, "TooMany")]) rfl HC
    b__law_full_right := TB (c__law_full_right, t__law_full_right) (by simp)
    b__law_joined_right := TB (c__law_joined_right, t__law_joined_right) (by simp)
    b__law_beside_right := TB (c__law_beside_right, t__law_beside_right) (by simp)
    u__law_full_right__law_joined_right := U__law_full_right__law_joined_right
    u__law_full_right__law_beside_right := U__law_full_right__law_beside_right
    u__law_joined_right__law_beside_right := U__law_joined_right__law_beside_right }
  exact fn_law Tx FL
end WkL


open PySem PySem.W PyProof.Rows in
set_option maxRecDepth 100000 in
set_option maxHeartbeats 0 in
theorem PySem.Challenge.cw_wovenkeep_k06_tables_full_joined_beside_holds : PySem.Challenge.rw_wovenkeep_k06_tables_full_joined_beside.Holds := by
  w_on; o_law; k_head; (case hw => w_witness2)
  k_fill
  refine Wk.walk_ofTop (l := PySem.Challenge.rw_wovenkeep_k06_tables_full_joined_beside) (n := 63) (k := 16) (x := "script") (CX := fun w => L2.CX (PySem.Challenge.rw_wovenkeep_k06_tables_full_joined_beside).prog w) rfl (by decide) rfl ⟨rfl, by decide, by decide⟩ (fun w h Y => by first | exact PySem.W.km_in_of Y | exact PySem.W.kIn_of Y) ?F ?C
  case C =>
    intro w H s e s1 z
    obtain ⟨_, _, _, _, _, _, _, _, _, _, _, _, z⟩ := z
    exact z
  case F =>
    intro w mg fa h KX G hmg tt
    refine' WkL.all_mk KX G hmg tt ?D_is_whole ?D_rising_in ?D_is_row ?D_is_field ?D_made_schema ?D_kinds_beside ?D_beside ?D_is_carry ?D_wrong_carry ?D_ask_carries ?D_made_table ?D_full_table ?D_together ?D_joined_tables ?D_lies_within ?D_table_within ?D_table_beside ?D__law_wv_pool ?D__law_wv_take ?D__law_wv_one ?D__law_wv_mixed ?D__law_wv_some ?D__law_wv_schema ?D__law_wv_great_schema ?D__law_wv_hand_field ?D__law_wv_pairs ?D__law_wv_table ?D__law_is_whole ?D__law_same ?D__law_beside_by ?D__law_beside_refused ?D__law_merged ?D__law_is_within ?D__law_wide_schema ?D_law ?D__law_heard ?D__law_full_right ?D__law_joined_right ?D__law_beside_right ?L__law_full_right ?R__law_full_right ?L__law_joined_right ?R__law_joined_right ?L__law_beside_right ?R__law_beside_right ?U__law_full_right__law_joined_right ?U__law_full_right__law_beside_right ?U__law_joined_right__law_beside_right ?Z_ValueError ?Z_all ?Z_bool ?Z_dict ?Z_enumerate ?Z_int ?Z_isinstance ?Z_len ?Z_list ?Z_max ?Z_range ?Z_sorted ?Z_str ?Z_tuple ?Z_zip ?G_MOST_CARRIES ?G_MOST_FIELDS ?G_MOST_HANDS ?G_MOST_KINDS ?E_BadSchema ?I_BadSchema ?E_BadTable ?I_BadTable ?E_TooMany ?I_TooMany ?S_TooMany_TooMany ?l0 ?c0 ?k0 ?vV
    (case D_is_whole => refine' Wk.defK ?a ?l ?c ?k; (case a => k_is); (case l => k_is); (case c => k_is); (case k => k_is))
    (case D_rising_in => refine' Wk.defK ?a ?l ?c ?k; (case a => k_is); (case l => k_is); (case c => k_is); (case k => k_is))
    (case D_is_row => refine' Wk.defK ?a ?l ?c ?k; (case a => k_is); (case l => k_is); (case c => k_is); (case k => k_is))
    (case D_is_field => refine' Wk.defK ?a ?l ?c ?k; (case a => k_is); (case l => k_is); (case c => k_is); (case k => k_is))
    (case D_made_schema => refine' Wk.defK ?a ?l ?c ?k; (case a => k_is); (case l => k_is); (case c => k_is); (case k => k_is))
    (case D_kinds_beside => refine' Wk.defK ?a ?l ?c ?k; (case a => k_is); (case l => k_is); (case c => k_is); (case k => k_is))
    (case D_beside => refine' Wk.defK ?a ?l ?c ?k; (case a => k_is); (case l => k_is); (case c => k_is); (case k => k_is))
    (case D_is_carry => refine' Wk.defK ?a ?l ?c ?k; (case a => k_is); (case l => k_is); (case c => k_is); (case k => k_is))
    (case D_wrong_carry => refine' Wk.defK ?a ?l ?c ?k; (case a => k_is); (case l => k_is); (case c => k_is); (case k => k_is))
    (case D_ask_carries => refine' Wk.defK ?a ?l ?c ?k; (case a => k_is); (case l => k_is); (case c => k_is); (case k => k_is))
    (case D_made_table => refine' Wk.defK ?a ?l ?c ?k; (case a => k_is); (case l => k_is); (case c => k_is); (case k => k_is))
    (case D_full_table => refine' Wk.defK ?a ?l ?c ?k; (case a => k_is); (case l => k_is); (case c => k_is); (case k => k_is))
    (case D_together => refine' Wk.defK ?a ?l ?c ?k; (case a => k_is); (case l => k_is); (case c => k_is); (case k => k_is))
    (case D_joined_tables => refine' Wk.defK ?a ?l ?c ?k; (case a => k_is); (case l => k_is); (case c => k_is); (case k => k_is))
    (case D_lies_within => refine' Wk.defK ?a ?l ?c ?k; (case a => k_is); (case l => k_is); (case c => k_is); (case k => k_is))
    (case D_table_within => refine' Wk.defK ?a ?l ?c ?k; (case a => k_is); (case l => k_is); (case c => k_is); (case k => k_is))
    (case D_table_beside => refine' Wk.defK ?a ?l ?c ?k; (case a => k_is); (case l => k_is); (case c => k_is); (case k => k_is))
    (case D__law_wv_pool => refine' Wk.defK ?a ?l ?c ?k; (case a => k_is); (case l => k_is); (case c => k_is); (case k => k_is))
    (case D__law_wv_take => refine' Wk.defK ?a ?l ?c ?k; (case a => k_is); (case l => k_is); (case c => k_is); (case k => k_is))
    (case D__law_wv_one => refine' Wk.defK ?a ?l ?c ?k; (case a => k_is); (case l => k_is); (case c => k_is); (case k => k_is))
    (case D__law_wv_mixed => refine' Wk.defK ?a ?l ?c ?k; (case a => k_is); (case l => k_is); (case c => k_is); (case k => k_is))
    (case D__law_wv_some => refine' Wk.defK ?a ?l ?c ?k; (case a => k_is); (case l => k_is); (case c => k_is); (case k => k_is))
    (case D__law_wv_schema => refine' Wk.defK ?a ?l ?c ?k; (case a => k_is); (case l => k_is); (case c => k_is); (case k => k_is))
    (case D__law_wv_great_schema => refine' Wk.defK ?a ?l ?c ?k; (case a => k_is); (case l => k_is); (case c => k_is); (case k => k_is))
    (case D__law_wv_hand_field => refine' Wk.defK ?a ?l ?c ?k; (case a => k_is); (case l => k_is); (case c => k_is); (case k => k_is))
    (case D__law_wv_pairs => refine' Wk.defK ?a ?l ?c ?k; (case a => k_is); (case l => k_is); (case c => k_is); (case k => k_is))
    (case D__law_wv_table => refine' Wk.defK ?a ?l ?c ?k; (case a => k_is); (case l => k_is); (case c => k_is); (case k => k_is))
    (case D__law_is_whole => refine' Wk.defK ?a ?l ?c ?k; (case a => k_is); (case l => k_is); (case c => k_is); (case k => k_is))
    (case D__law_same => refine' Wk.defK ?a ?l ?c ?k; (case a => k_is); (case l => k_is); (case c => k_is); (case k => k_is))
    (case D__law_beside_by => refine' Wk.defK ?a ?l ?c ?k; (case a => k_is); (case l => k_is); (case c => k_is); (case k => k_is))
    (case D__law_beside_refused => refine' Wk.defK ?a ?l ?c ?k; (case a => k_is); (case l => k_is); (case c => k_is); (case k => k_is))
    (case D__law_merged => refine' Wk.defK ?a ?l ?c ?k; (case a => k_is); (case l => k_is); (case c => k_is); (case k => k_is))
    (case D__law_is_within => refine' Wk.defK ?a ?l ?c ?k; (case a => k_is); (case l => k_is); (case c => k_is); (case k => k_is))
    (case D__law_wide_schema => refine' Wk.defK ?a ?l ?c ?k; (case a => k_is); (case l => k_is); (case c => k_is); (case k => k_is))
    (case D_law => refine' Wk.defK ?a ?l ?c ?k; (case a => k_is); (case l => k_is); (case c => k_is); (case k => k_is))
    (case D__law_heard => refine' Wk.defK ?a ?l ?c ?k; (case a => k_is); (case l => k_is); (case c => k_is); (case k => k_is))
    (case D__law_full_right => refine' Wk.defKC ?a ?l ?c ?k ?t ?v; (case a => k_is); (case l => k_is); (case c => k_is); (case k => k_is); (case t => k_is); (case v => rfl))
    (case D__law_joined_right => refine' Wk.defKC ?a ?l ?c ?k ?t ?v; (case a => k_is); (case l => k_is); (case c => k_is); (case k => k_is); (case t => k_is); (case v => rfl))
    (case D__law_beside_right => refine' Wk.defKC ?a ?l ?c ?k ?t ?v; (case a => k_is); (case l => k_is); (case c => k_is); (case k => k_is); (case t => k_is); (case v => rfl))
    (case L__law_full_right => rfl)
    (case R__law_full_right => first | rfl | decide +kernel)
    (case L__law_joined_right => rfl)
    (case R__law_joined_right => first | rfl | decide +kernel)
    (case L__law_beside_right => rfl)
    (case R__law_beside_right => first | rfl | decide +kernel)
    (case U__law_full_right__law_joined_right => decide)
    (case U__law_full_right__law_beside_right => decide)
    (case U__law_joined_right__law_beside_right => decide)
    (case Z_ValueError => k_is)
    (case Z_all => k_is)
    (case Z_bool => k_is)
    (case Z_dict => k_is)
    (case Z_enumerate => k_is)
    (case Z_int => k_is)
    (case Z_isinstance => k_is)
    (case Z_len => k_is)
    (case Z_list => k_is)
    (case Z_max => k_is)
    (case Z_range => k_is)
    (case Z_sorted => k_is)
    (case Z_str => k_is)
    (case Z_tuple => k_is)
    (case Z_zip => k_is)
    (case G_MOST_CARRIES => k_is)
    (case G_MOST_FIELDS => k_is)
    (case G_MOST_HANDS => k_is)
    (case G_MOST_KINDS => k_is)
    (case E_BadSchema => refine' Wk.errK ?a ?xL ?sa ?ga ?gg ?nw ?eC ?tC ?kC ?hd ?ic ?i1 ?i2; (case a => k_is); (case xL => k_is); (case sa => k_is); (case ga => k_is); (case gg => k_is); (case nw => k_is); (case eC => k_is); (case tC => k_is); (case kC => k_is); (case hd => k_is); (case ic => k_is); (case i1 => k_is); (case i2 => k_is))
    (case I_BadSchema => k_is)
    (case E_BadTable => refine' Wk.errK ?a ?xL ?sa ?ga ?gg ?nw ?eC ?tC ?kC ?hd ?ic ?i1 ?i2; (case a => k_is); (case xL => k_is); (case sa => k_is); (case ga => k_is); (case gg => k_is); (case nw => k_is); (case eC => k_is); (case tC => k_is); (case kC => k_is); (case hd => k_is); (case ic => k_is); (case i1 => k_is); (case i2 => k_is))
    (case I_BadTable => k_is)
    (case E_TooMany => refine' Wk.errK ?a ?xL ?sa ?ga ?gg ?nw ?eC ?tC ?kC ?hd ?ic ?i1 ?i2; (case a => k_is); (case xL => k_is); (case sa => k_is); (case ga => k_is); (case gg => k_is); (case nw => k_is); (case eC => k_is); (case tC => k_is); (case kC => k_is); (case hd => k_is); (case ic => k_is); (case i1 => k_is); (case i2 => k_is))
    (case I_TooMany => k_is)
    (case S_TooMany_TooMany => k_is)
    (case l0 => k_is)
    (case c0 => k_is)
    (case k0 => k_is)
    (case vV => k_is)


