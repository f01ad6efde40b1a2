import PyProof.Rows.All
import Wide.All
import OpenK.AllK
import Wide.FinOn
import PySem.Str
import PyProof.EqAt
import PyProof.EqKinds
import PyProof.TupleCall
import HandS.ForMost
import HandS.Exc
import HandS.ExcOwn
import HandS.TryOnly
import HandS.WordsExc
import HandS.ExcInit
import HandS.Walk
import HandS.Conv
import HandS.Deep
import HandS.Style
import HandS.Wide
import HandS.IsInst
import HandS.DictComp
import HandS.Lambda
import HandS.TupAny
import HandS.SortInts
import HandS.TryMany
import HandS.TupLe
import HandS.TupMul
import KE.GoesEnum
import HandS.Zip
import KE.KDictPairs
import HandS.WordsDict
import HandS.More
import HandS.SortRule
import HandS.TupLen
import HandS.ExcField
import HandS.EndTab
import KE.KNest
import HandS.RaiseMore
import KE.DataFind
import HandS.Star
import PySem.Challenge.RW_wovenkeep_k04_schemas_edited_and_put_bes

set_option linter.all false
set_option autoImplicit false
/-! WkD: the functional reading of the given program's Python: data, stores, results, one combinator a construct. Plain Lean, no machine in sight. -/
namespace Wk
open PySem (Str)

/-- a value: scalars, tuples as data, everything that can change by its number in the store -/
inductive D where
  | non | bl (b : Bool) | int (i : Int) | str (x : Str) | tup (xs : List D) | frz (xs : List D) | ref (n : Nat)

mutual
def D.eqb : D → D → Bool
  | .non, .non => true
  | .bl a, .bl b => a == b
  | .int a, .int b => a == b
  | .str a, .str b => a == b
  | .tup a, .tup b => D.eqbs a b
  | .frz a, .frz b => D.eqbs a b
  | .ref a, .ref b => a == b
  | _, _ => false
def D.eqbs : List D → List D → Bool
  | [], [] => true
  | a :: as, b :: bs => D.eqb a b && D.eqbs as bs
  | _, _ => false
end
mutual
theorem D.eqb_iff : ∀ a b : D, D.eqb a b = true ↔ a = b
  | .non, b => by cases b <;> simp [D.eqb]
  | .bl a, b => by cases b <;> simp [D.eqb]
  | .int a, b => by cases b <;> simp [D.eqb]
  | .str a, b => by cases b <;> simp [D.eqb]
  | .ref a, b => by cases b <;> simp [D.eqb]
  | .tup a, b => by
    cases b with
    | tup b => simp only [D.eqb, D.tup.injEq]; exact D.eqbs_iff a b
    | _ => simp [D.eqb]
  | .frz a, b => by
    cases b with
    | frz b => simp only [D.eqb, D.frz.injEq]; exact D.eqbs_iff a b
    | _ => simp [D.eqb]
theorem D.eqbs_iff : ∀ a b : List D, D.eqbs a b = true ↔ a = b
  | [], b => by cases b <;> simp [D.eqbs]
  | a :: as, b => by
    cases b with
    | nil => simp [D.eqbs]
    | cons b bs => simp only [D.eqbs, Bool.and_eq_true, List.cons.injEq]; rw [D.eqb_iff a b, D.eqbs_iff as bs]
end
instance : DecidableEq D := fun a b => decidable_of_iff _ (D.eqb_iff a b)

/-- a dict's key: an int or a text -/
abbrev Kk := Sum Int Str
def kD : Kk → D
  | .inl i => .int i
  | .inr x => .str x
def keyD : D → Option Kk
  | .int i => some (.inl i)
  | .str x => some (.inr x)
  | _ => none
def keysD : List D → Option (List Kk)
  | [] => some []
  | d :: ds => match keyD d, keysD ds with
    | some k, some ks => some (k :: ks)
    | _, _ => none

/-- a tuple of ints and texts as a key -/
def keyT : D → Option (List Kk)
  | .tup ds => keysD ds
  | _ => none
/-- what stands in the store -/
inductive Ob where
  | lst (xs : List D)
  | dk (kvs : List (Kk × D))
  | dt (kvs : List (List Kk × D))
  deriving DecidableEq
abbrev Store := List Ob
abbrev Env := List (Option D)

inductive Res (α : Type) where
  | ok (a : α) (S : Store)
  | ex (c : String) (w : D) (S : Store)
  | bad
def Res.bind {α β : Type} (r : Res α) (f : α → Store → Res β) : Res β := match r with
  | .ok a S => f a S
  | .ex c w S => .ex c w S
  | .bad => .bad
@[simp] theorem Res.bind_ok {α β : Type} (a : α) (S : Store) (f : α → Store → Res β) : (Res.ok a S).bind f = f a S := rfl
@[simp] theorem Res.bind_ex {α β : Type} (c : String) (w : D) (S : Store) (f : α → Store → Res β) : (Res.ex c w S).bind f = .ex c w S := rfl
@[simp] theorem Res.bind_bad {α β : Type} (f : α → Store → Res β) : (Res.bad : Res α).bind f = .bad := rfl

inductive Rs where
  | nx (s : Env) (S : Store)
  | rt (d : D) (S : Store)
  | bk (s : Env) (S : Store)
  | ct (s : Env) (S : Store)
  | ex (c : String) (w : D) (s : Env) (S : Store)
  | bad
def ofE {α : Type} (r : Res α) (s : Env) (f : α → Store → Rs) : Rs := match r with
  | .ok a S => f a S
  | .ex c w S => .ex c w s S
  | .bad => .bad
@[simp] theorem ofE_ok {α : Type} (a : α) (S : Store) (s : Env) (f : α → Store → Rs) : ofE (.ok a S) s f = f a S := rfl
@[simp] theorem ofE_ex {α : Type} (c : String) (w : D) (S : Store) (s : Env) (f : α → Store → Rs) : ofE (.ex c w S) s f = .ex c w s S := rfl
@[simp] theorem ofE_bad {α : Type} (s : Env) (f : α → Store → Rs) : ofE .bad s f = .bad := rfl

abbrev FE := Env → Store → Res D
abbrev FT := Env → Store → Res Bool
abbrev FA := Env → Store → Res (List D)
abbrev FS := Env → Store → Rs
/-- a def: arguments, store -/
abbrev Fn := List D → Store → Res D
/-- what two values come to -/
abbrev Op := D → D → Store → Res D

/-! ### expressions -/
def eV (i : Nat) : FE := fun s S => match s[i]? with
  | some (some d) => .ok d S
  | _ => .bad
def eC (d : D) : FE := fun _ S => .ok d S
def eOp (o : Op) (a b : FE) : FE := fun s S => (a s S).bind fun x S1 => (b s S1).bind fun y S2 => o x y S2
def eUn (o : D → Store → Res D) (a : FE) : FE := fun s S => (a s S).bind o
def aNil : FA := fun _ S => .ok [] S
def aCons (a : FE) (r : FA) : FA := fun s S => (a s S).bind fun x S1 => (r s S1).bind fun xs S2 => .ok (x :: xs) S2
/-- the longest list -/
def LIM : Nat := 16777216
def eTup (a : FA) : FE := fun s S => (a s S).bind fun xs S1 => if xs.length ≤ LIM then .ok (.tup xs) S1 else .bad
def eLst (a : FA) : FE := fun s S => (a s S).bind fun xs S1 => if xs.length ≤ LIM then .ok (.ref S1.length) (S1 ++ [.lst xs]) else .bad
def eDictK : FE := fun _ S => .ok (.ref S.length) (S ++ [.dk []])
def eDictT : FE := fun _ S => .ok (.ref S.length) (S ++ [.dt []])
def eCall (F : Fn) (a : FA) : FE := fun s S => (a s S).bind F
/-- a test that is an expression whose value is a truth -/
def tE (a : FE) : FT := fun s S => (a s S).bind fun x S1 => match x with
  | .bl b => .ok b S1
  | _ => .bad
def tAnd (t u : FT) : FT := fun s S => (t s S).bind fun b S1 => if b = true then u s S1 else .ok false S1
def tOr (t u : FT) : FT := fun s S => (t s S).bind fun b S1 => if b = true then .ok true S1 else u s S1
def tNot (t : FT) : FT := fun s S => (t s S).bind fun b S1 => .ok (!b) S1
def eNot (a : FE) : FE := fun s S => (tE a s S).bind fun b S1 => .ok (.bl (!b)) S1
def eAnd (a b : FE) : FE := fun s S => (tE a s S).bind fun c S1 => if c = true then b s S1 else .ok (.bl false) S1
def eOr (a b : FE) : FE := fun s S => (tE a s S).bind fun c S1 => if c = true then .ok (.bl true) S1 else b s S1
def eIf (t : FT) (a b : FE) : FE := fun s S => (t s S).bind fun c S1 => if c = true then a s S1 else b s S1
/-- a op b op' c -/
def eChain (o o' : Op) (a b c : FE) : FE := fun s S => (a s S).bind fun x S1 => (b s S1).bind fun y S2 => (o x y S2).bind fun z S3 => match z with
  | .bl true => (c s S3).bind fun w S4 => o' y w S4
  | .bl false => .ok (.bl false) S3
  | _ => .bad

/-! ### targets -/
inductive Tg where
  | nm (i : Nat) | tp (ts : List Tg)
mutual
def gF : Tg → D → Env → Option Env
  | .nm i, d, s => some (s.set i (some d))
  | .tp ts, .tup ds, s => gFs ts ds s
  | .tp _, _, _ => none
def gFs : List Tg → List D → Env → Option Env
  | [], [], s => some s
  | t :: ts, d :: ds, s => match gF t d s with
    | some s' => gFs ts ds s'
    | none => none
  | _, _, _ => none
end

/-! ### what is walked: the items, and what has to stay as it is meanwhile -/
abbrev Chk := List (Nat × Ob)
def okC (c : Chk) (S : Store) : Bool := c.all fun p => decide (S[p.1]? = some p.2)
structure Its where
  items : List D
  chk : Chk
abbrev FI := Env → Store → Res Its
@[simp] theorem okC_nil (S : Store) : okC [] S = true := rfl

/-! ### comprehensions -/
def wipeE (s : Env) : List Nat → Env
  | [] => s
  | v :: vs => (wipeE s vs).set v none
/-- the elements, one behind the other; sw: the slots with the block's own forgotten -/
def compL (c : Chk) (g : Tg) (t : FT) (e : FE) (sw : Env) : List D → Store → Res (List D)
  | [], S => if okC c S then .ok [] S else .bad
  | d :: ds, S => if okC c S then (match gF g d sw with
    | none => .bad
    | some s1 => (t s1 S).bind fun b S1 => if b = true then (e s1 S1).bind fun y S2 => (compL c g t e sw ds S2).bind fun ys S3 => .ok (y :: ys) S3 else compL c g t e sw ds S1) else .bad
def noEx {α : Type} : Res α → Res α
  | .ok a S => .ok a S
  | _ => .bad
@[simp] theorem noEx_ok {α : Type} (a : α) (S : Store) : noEx (.ok a S) = .ok a S := rfl
def eComp (it : FI) (g : Tg) (t : FT) (e : FE) (vs : List Nat) : FE := fun s S => (it s S).bind fun I S1 =>
  (noEx (compL I.chk g t e (wipeE s vs) I.items S1)).bind fun ys S2 => .ok (.ref S2.length) (S2 ++ [.lst ys])
def tTrue : FT := fun _ S => .ok true S
/-- the entries of a dict comprehension, one behind the other -/
def compD (c : Chk) (g : Tg) (t : FT) (k e : FE) (sw : Env) : List D → Store → Res (List (Kk × D))
  | [], S => if okC c S then .ok [] S else .bad
  | d :: ds, S => if okC c S then (match gF g d sw with
    | none => .bad
    | some s1 => (t s1 S).bind fun b S1 => if b = true then (k s1 S1).bind fun x S2 => (e s1 S2).bind fun y S3 => match keyD x with
      | some kk => (compD c g t k e sw ds S3).bind fun ys S4 => .ok ((kk, y) :: ys) S4
      | none => .bad else compD c g t k e sw ds S1) else .bad

/-! ### dicts -/
def valD {κ : Type} [DecidableEq κ] (kvs : List (κ × D)) (k : κ) : Option D := (kvs.find? fun kv => decide (kv.1 = k)).map (·.2)
def putD {κ : Type} [DecidableEq κ] (kvs : List (κ × D)) (k : κ) (v : D) : List (κ × D) :=
  if (kvs.any fun kv => decide (kv.1 = k)) = true then kvs.map fun kv => if kv.1 = k then (kv.1, v) else kv else kvs ++ [(k, v)]
def mergeD {κ : Type} [DecidableEq κ] (kvs more : List (κ × D)) : List (κ × D) := more.foldl (fun acc kv => putD acc kv.1 kv.2) kvs
def eDComp (it : FI) (g : Tg) (t : FT) (k e : FE) (vs : List Nat) : FE := fun s S => (it s S).bind fun I S1 =>
  (noEx (compD I.chk g t k e (wipeE s vs) I.items S1)).bind fun ys S2 => .ok (.ref S2.length) (S2 ++ [.dk (mergeD [] ys)])

/-- the entries of a dict comprehension whose keys are tuples -/
def compT (c : Chk) (g : Tg) (t : FT) (k e : FE) (sw : Env) : List D → Store → Res (List (List Kk × D))
  | [], S => if okC c S then .ok [] S else .bad
  | d :: ds, S => if okC c S then (match gF g d sw with
    | none => .bad
    | some s1 => (t s1 S).bind fun b S1 => if b = true then (k s1 S1).bind fun x S2 => (e s1 S2).bind fun y S3 => match keyT x with
      | some kk => (compT c g t k e sw ds S3).bind fun ys S4 => .ok ((kk, y) :: ys) S4
      | none => .bad else compT c g t k e sw ds S1) else .bad
def eTComp (it : FI) (g : Tg) (t : FT) (k e : FE) (vs : List Nat) : FE := fun s S => (it s S).bind fun I S1 =>
  (noEx (compT I.chk g t k e (wipeE s vs) I.items S1)).bind fun ys S2 => .ok (.ref S2.length) (S2 ++ [.dt (mergeD [] ys)])
def orG (r q : Res D) : Res D := match r with
  | .bad => q
  | .ok d S => .ok d S
  | .ex c w S => .ex c w S
/-- keys ints, texts; else tuples of these -/
def eDCompA (it : FI) (g : Tg) (t : FT) (k e : FE) (vs : List Nat) : FE := fun s S => orG (eDComp it g t k e vs s S) (eTComp it g t k e vs s S)

/-! ### statements -/
def sSkip : FS := fun s S => .nx s S
def sSeq (f g : FS) : FS := fun s S => match f s S with
  | .nx s' S' => g s' S'
  | r => r
def sSet (i : Nat) (e : FE) : FS := fun s S => ofE (e s S) s fun d S1 => .nx (s.set i (some d)) S1
def sAsg (g : Tg) (e : FE) : FS := fun s S => ofE (e s S) s fun d S1 => match gF g d s with
  | some s' => .nx s' S1
  | none => .bad
def sPar (i j : Nat) (a b : FE) : FS := fun s S => ofE (a s S) s fun x S1 => ofE (b s S1) s fun y S2 => .nx ((s.set i (some x)).set j (some y)) S2
def sPar3 (i j k : Nat) (a b c : FE) : FS := fun s S => ofE (a s S) s fun x S1 => ofE (b s S1) s fun y S2 => ofE (c s S2) s fun z S3 => .nx (((s.set i (some x)).set j (some y)).set k (some z)) S3
def sExpr (e : FE) : FS := fun s S => ofE (e s S) s fun _ S1 => .nx s S1
def sRet (e : FE) : FS := fun s S => ofE (e s S) s fun d S1 => .rt d S1
def sRetN : FS := fun _ S => .rt .non S
def sIf (t : FT) (f g : FS) : FS := fun s S => ofE (t s S) s fun b S1 => if b = true then f s S1 else g s S1
def sBreak : FS := fun s S => .bk s S
def sCont : FS := fun s S => .ct s S
def sRaise (c : String) (e : FE) : FS := fun s S => ofE (e s S) s fun d S1 => .ex c d s S1
/-- o[i] = v -/
abbrev Up := D → D → D → Store → Option Store
def sSub (u : Up) (o i v : FE) : FS := fun s S => ofE (v s S) s fun x S1 => ofE (o s S1) s fun y S2 => ofE (i s S2) s fun z S3 => match u y z x S3 with
  | some S4 => .nx s S4
  | none => .bad
def whileL (t : FT) (b : FS) : Nat → FS
  | 0, _, _ => .bad
  | n + 1, s, S => ofE (t s S) s fun c S1 => if c = true then (match b s S1 with
    | .nx s2 S2 => whileL t b n s2 S2
    | .ct s2 S2 => whileL t b n s2 S2
    | .bk s2 S2 => .nx s2 S2
    | r => r) else .nx s S1
/-- the fuel of a while -/
def FUEL : Nat := 1000000000
def sWhile (t : FT) (b : FS) : FS := whileL t b FUEL
def forL (c : Chk) (g : Tg) (b : FS) : List D → FS
  | [], s, S => if okC c S then .nx s S else .bad
  | d :: ds, s, S => if okC c S then (match gF g d s with
    | none => .bad
    | some s1 => match b s1 S with
      | .nx s2 S2 => forL c g b ds s2 S2
      | .ct s2 S2 => forL c g b ds s2 S2
      | .bk s2 S2 => .nx s2 S2
      | r => r) else .bad
def sFor (it : FI) (g : Tg) (b : FS) : FS := fun s S => ofE (it s S) s fun I S1 => forL I.chk g b I.items s S1

/-! ### defs -/
def startE (n : Nat) (ds : List D) : Env := ds.map some ++ List.replicate (n - ds.length) none
/-- a def of k parameters and n names -/
def mkF (k n : Nat) (b : FS) : Fn := fun ds S => if ds.length = k then (match b (startE n ds) S with
  | .nx _ S' => .ok .non S'
  | .rt d S' => .ok d S'
  | .ex c w _ S' => .ex c w S'
  | _ => .bad) else .bad

/-! ### operations -/
def oAdd : Op := fun x y S => match x, y with
  | .int i, .int j => .ok (.int (i + j)) S
  | .str a, .str b => if a.length + b.length ≤ LIM then .ok (.str (a ++ b)) S else .bad
  | .tup a, .tup b => if a.length + b.length ≤ LIM then .ok (.tup (a ++ b)) S else .bad
  | .ref l, .ref m => match S[l]?, S[m]? with
    | some (.lst a), some (.lst b) => if a.length + b.length ≤ LIM then .ok (.ref S.length) (S ++ [.lst (a ++ b)]) else .bad
    | _, _ => .bad
  | _, _ => .bad
def oSub : Op := fun x y S => match x, y with
  | .int i, .int j => .ok (.int (i - j)) S
  | _, _ => .bad
/-- factors below 2 ^ 400000 -/
def bigOk (i : Int) : Bool := decide (i.natAbs.log2 < 400000)
def oMul : Op := fun x y S => match x, y with
  | .int i, .int j => if bigOk i && bigOk j then .ok (.int (i * j)) S else .bad
  | .ref l, .int k => match S[l]? with
    | some (.lst a) => if 0 ≤ k ∧ k ≤ 1000000 ∧ a.length * k.toNat ≤ LIM then .ok (.ref S.length) (S ++ [.lst (List.replicate k.toNat a).flatten]) else .bad
    | _ => .bad
  | .tup a, .int k => if a.length ≠ 0 ∧ a.length ≤ 1000 ∧ 2 ≤ k ∧ k ≤ 1000 then .ok (.tup (List.replicate k.toNat a).flatten) S else .bad
  | _, _ => .bad
def oFdiv : Op := fun x y S => match x, y with
  | .int i, .int j => if 0 < j ∧ j.natAbs.log2 < 9000 then .ok (.int (i / j)) S else .bad
  | _, _ => .bad
def oMod : Op := fun x y S => match x, y with
  | .int i, .int j => if 0 < j then .ok (.int (i % j)) S else .bad
  | _, _ => .bad
def oPow : Op := fun x y S => match x, y with
  | .int i, .int j => if 0 ≤ j ∧ j ≤ 1000000 ∧ i.natAbs < 2 ^ 64 then .ok (.int (i ^ j.toNat)) S else .bad
  | _, _ => .bad
def oCmp (p : Int → Int → Bool) : Op := fun x y S => match x, y with
  | .int i, .int j => .ok (.bl (p i j)) S
  | _, _ => .bad
def oLt : Op := oCmp fun i j => decide (i < j)
def intsD : List D → Option (List Int)
  | [] => some []
  | .int i :: ds => match intsD ds with
    | some is => some (i :: is)
    | none => none
  | _ => none
/-- two rows side by side: e where they are alike, r at the first place where they aren't, z where one is the other's head -/
def lexA (e r : Nat → Bool) (z : Bool) : Nat → Nat → Bool
  | _, 0 => z
  | i, n + 1 => if e i = true then lexA e r z (i + 1) n else r i
def lexLe (ns ms : List Int) : Bool := lexA (fun j => decide (ns.getD j 0 = ms.getD j 0)) (fun j => decide (ns.getD j 0 ≤ ms.getD j 0)) (decide (ns.length ≤ ms.length)) 0 (min ns.length ms.length)
def oLe : Op := fun x y S => match x, y with
  | .int i, .int j => .ok (.bl (decide (i ≤ j))) S
  | .tup a, .tup b => match intsD a, intsD b with
    | some ns, some ms => .ok (.bl (lexLe ns ms)) S
    | _, _ => .bad
  | _, _ => .bad
def oGt : Op := oCmp fun i j => decide (j < i)
def oGe : Op := oCmp fun i j => decide (j ≤ i)
def uNeg : D → Store → Res D := fun x S => match x with
  | .int i => .ok (.int (-i)) S
  | _ => .bad
def isNon : D → Bool
  | .non => true
  | _ => false
def oIsN : Op := fun x y S => match y with
  | .non => .ok (.bl (isNon x)) S
  | _ => .bad
def oNotN : Op := fun x y S => match y with
  | .non => .ok (.bl (!isNon x)) S
  | _ => .bad
def oIsB : Op := fun x y S => match x, y with
  | .bl a, .bl b => .ok (.bl (decide (a = b))) S
  | _, _ => .bad
/-- data as == sees it -/
inductive P where
  | non | bl (b : Bool) | int (i : Int) | str (x : Str) | lst (xs : List P) | tup (xs : List P)
mutual
def P.eqv : P → P → Bool
  | .non, .non => true
  | .bl a, .bl b => a == b
  | .bl a, .int j => (if a then 1 else 0) == j
  | .int i, .bl b => i == (if b then 1 else 0)
  | .int i, .int j => i == j
  | .str x, .str y => x == y
  | .lst xs, .lst ys => P.eqvs xs ys
  | .tup xs, .tup ys => P.eqvs xs ys
  | _, _ => false
def P.eqvs : List P → List P → Bool
  | [], [] => true
  | x :: xs, y :: ys => P.eqv x y && P.eqvs xs ys
  | _, _ => false
end
/-- the data of a value, lists by the store, to a depth -/
def toP (S : Store) : Nat → D → Option P
  | _, .non => some .non
  | _, .bl b => some (.bl b)
  | _, .int i => some (.int i)
  | _, .str x => if x.cps.all (· < 0x110000) then some (.str x) else none
  | 0, _ => none
  | n + 1, .tup ds => match ds.mapM (toP S n) with
    | some ps => some (.tup ps)
    | none => none
  | n + 1, .frz ds => match ds.mapM (toP S n) with
    | some ps => some (.lst ps)
    | none => none
  | n + 1, .ref l => match S[l]? with
    | some (.lst ds) => match ds.mapM (toP S n) with
      | some ps => some (.lst ps)
      | none => none
    | _ => none
def oEqG : Op := fun x y S => match toP S 60 x, toP S 60 y with
  | some p, some q => .ok (.bl (P.eqv p q)) S
  | _, _ => .bad
def oEq : Op := fun x y S => match x, y with
  | .int i, .int j => .ok (.bl (i == j)) S
  | .str a, .str b => .ok (.bl (a == b)) S
  | .bl a, .bl b => .ok (.bl (a == b)) S
  | .non, .non => .ok (.bl true) S
  | .int _, .str _ => .ok (.bl false) S
  | .str _, .int _ => .ok (.bl false) S
  | .non, .int _ => .ok (.bl false) S
  | .int _, .non => .ok (.bl false) S
  | .non, .str _ => .ok (.bl false) S
  | .str _, .non => .ok (.bl false) S
  | .non, .bl _ => .ok (.bl false) S
  | .bl _, .non => .ok (.bl false) S
  | .bl _, .str _ => .ok (.bl false) S
  | .str _, .bl _ => .ok (.bl false) S
  | x, y => oEqG x y S
def notR (r : Res D) : Res D := r.bind fun x S => match x with
  | .bl b => .ok (.bl (!b)) S
  | _ => .bad
def oNe : Op := fun x y S => notR (oEq x y S)
/-- flat values and their == -/
def flatD : D → Bool
  | .non => true
  | .bl _ => true
  | .int _ => true
  | .str _ => true
  | _ => false
def eqF : D → D → Bool
  | .non, .non => true
  | .bl a, .bl b => a == b
  | .bl a, .int b => (if a then 1 else 0) == b
  | .int a, .bl b => a == (if b then 1 else 0)
  | .int a, .int b => a == b
  | .str a, .str b => a == b
  | _, _ => false
def inF (x : D) (xs : List D) : Bool := xs.any fun y => eqF y x
/-- what a dict has for a key -/
def getD (S : Store) (l : Nat) (x : D) : Option (Option D) := match S[l]? with
  | some (.dk kvs) => match keyD x with
    | some k => some (valD kvs k)
    | none => none
  | some (.dt kvs) => match keyT x with
    | some k => some (valD kvs k)
    | none => none
  | _ => none
def oInL (xs : List D) (x : D) (S : Store) : Res D := if flatD x && xs.all flatD then .ok (.bl (inF x xs)) S else .bad
/-- x in a list or a tuple of data -/
def oInG : Op := fun x y S => match toP S 60 x, toP S 60 y with
  | some p, some (.lst qs) => .ok (.bl (qs.any fun q => P.eqv q p)) S
  | some p, some (.tup qs) => .ok (.bl (qs.any fun q => P.eqv q p)) S
  | _, _ => .bad
/-- x in a list or a tuple -/
def oInS : Op := fun x y S => match y with
  | .tup xs => orG (oInL xs x S) (oInG x y S)
  | .ref l => match S[l]? with
    | some (.lst xs) => orG (oInL xs x S) (oInG x y S)
    | _ => .bad
  | _ => .bad
/-- x in a dict -/
def oInD : Op := fun x y S => match y with
  | .ref l => match getD S l x with
    | some o => .ok (.bl o.isSome) S
    | none => .bad
  | _ => .bad
def oNinS : Op := fun x y S => notR (oInS x y S)
def oNinD : Op := fun x y S => notR (oInD x y S)
def ixN (n : Nat) (i : Int) : Option Nat := if 0 ≤ i then (if i < n then some i.toNat else none) else if -(n : Int) ≤ i then some (i + n).toNat else none
def atI {α : Type} (xs : List α) (i : Int) : Option α := (ixN xs.length i).bind fun j => xs[j]?
/-- xs[i] of a tuple or a list -/
def oIx : Op := fun x y S => match y with
  | .int i => match x with
    | .tup ds => match atI ds i with
      | some d => .ok d S
      | none => .bad
    | .frz ds => match atI ds i with
      | some d => .ok d S
      | none => .bad
    | .ref l => match S[l]? with
      | some (.lst ds) => match atI ds i with
        | some d => .ok d S
        | none => .bad
      | _ => .bad
    | _ => .bad
  | _ => .bad
/-- d[k] of a dict -/
def oIxD : Op := fun x y S => match x with
  | .ref l => match getD S l y with
    | some (some d) => .ok d S
    | _ => .bad
  | _ => .bad
def uSetL : Up := fun o i v S => match o, i with
  | .ref l, .int k => match S[l]? with
    | some (.lst ds) => match ixN ds.length k with
      | some j => some (S.set l (.lst (ds.set j v)))
      | none => none
    | _ => none
  | _, _ => none
def uSetD : Up := fun o i v S => match o with
  | .ref l => match S[l]? with
    | some (.dk kvs) => match keyD i with
      | some k => if kvs.length < LIM then some (S.set l (.dk (putD kvs k v))) else none
      | none => none
    | some (.dt kvs) => match keyT i with
      | some k => if kvs.length < LIM then some (S.set l (.dt (putD kvs k v))) else none
      | none => none
    | _ => none
  | _ => none

/-! ### built-ins -/
/-- the type's name of a value -/
def tyD (S : Store) : D → Option String
  | .non => some "NoneType"
  | .bl _ => some "bool"
  | .int _ => some "int"
  | .str _ => some "str"
  | .tup _ => some "tuple"
  | .frz _ => some "list"
  | .ref l => match S[l]? with
    | some (.lst _) => some "list"
    | some (.dk _) => some "dict"
    | some (.dt _) => some "dict"
    | none => none
/-- a type's name and what isinstance says of int, bool, tuple, list, str, dict -/
def isTy (t n : String) : Bool := t == n || (t == "bool" && n == "int")
def fIsInst (n : String) : D → Store → Res D := fun x S => match tyD S x with
  | some t => .ok (.bl (isTy t n)) S
  | none => .bad
def seqD (S : Store) : D → Option (List D)
  | .tup ds => some ds
  | .frz ds => some ds
  | .ref l => match S[l]? with
    | some (.lst ds) => some ds
    | _ => none
  | _ => none
def fLen : D → Store → Res D := fun x S => match x with
  | .str a => if a.length ≤ LIM then .ok (.int a.length) S else .bad
  | .ref l => match S[l]? with
    | some (.dk kvs) => .ok (.int kvs.length) S
    | some (.dt kvs) => .ok (.int kvs.length) S
    | _ => match seqD S x with
      | some ds => .ok (.int ds.length) S
      | none => .bad
  | _ => match seqD S x with
    | some ds => .ok (.int ds.length) S
    | none => .bad
def fList : D → Store → Res D := fun x S => match seqD S x with
  | some ds => .ok (.ref S.length) (S ++ [.lst ds])
  | none => .bad
def fTuple : D → Store → Res D := fun x S => match seqD S x with
  | some ds => .ok (.tup ds) S
  | none => .bad
def rngD (a b : Int) : List D := (List.range (b - a).toNat).map fun i => .int (a + (i : Nat))
def rgOk (a b : Int) : Bool := decide (-(2 ^ 62) ≤ a ∧ a < 2 ^ 62 ∧ -(2 ^ 62) ≤ b ∧ b < 2 ^ 62 ∧ (b - a).toNat ≤ LIM)
def oListRg : Op := fun x y S => match x, y with
  | .int a, .int b => if rgOk a b then .ok (.ref S.length) (S ++ [.lst (rngD a b)]) else .bad
  | _, _ => .bad
def oMax : Op := fun x y S => match x, y with
  | .int i, .int j => .ok (.int (if j > i then j else i)) S
  | _, _ => .bad
def oMin : Op := fun x y S => match x, y with
  | .int i, .int j => .ok (.int (if j < i then j else i)) S
  | _, _ => .bad
def insI (a : Int) : List Int → List Int
  | [] => [a]
  | b :: bs => if a ≤ b then a :: b :: bs else b :: insI a bs
def sortI : List Int → List Int
  | [] => []
  | a :: as => insI a (sortI as)
/-- pairs of ints -/
def prD (p : Int × Int) : D := .tup [.int p.1, .int p.2]
def prsD : List D → Option (List (Int × Int))
  | [] => some []
  | .tup [.int a, .int b] :: ds => match prsD ds with
    | some ps => some ((a, b) :: ps)
    | none => none
  | _ => none
def ltPr (p q : Int × Int) : Bool := if p.1 = q.1 then decide (p.2 < q.2) else decide (p.1 < q.1)
def insP (a : Int × Int) : List (Int × Int) → List (Int × Int)
  | [] => [a]
  | b :: bs => if ltPr b a = true then b :: insP a bs else a :: b :: bs
def sortP : List (Int × Int) → List (Int × Int)
  | [] => []
  | a :: as => insP a (sortP as)
def fSorted : D → Store → Res D := fun x S => match x with
  | .tup ds => match intsD ds with
    | some is => .ok (.ref S.length) (S ++ [.lst ((sortI is).map D.int)])
    | none => .bad
  | .ref l => match S[l]? with
    | some (.lst ds) => match intsD ds with
      | some is => .ok (.ref S.length) (S ++ [.lst ((sortI is).map D.int)])
      | none => match prsD ds with
        | some ps => .ok (.ref S.length) (S ++ [.lst ((sortP ps).map prD)])
        | none => .bad
    | some (.dk kvs) => match intsD (kvs.map fun kv => kD kv.1) with
      | some is => if is.length ≤ LIM then .ok (.ref S.length) (S ++ [.lst ((sortI is).map D.int)]) else .bad
      | none => .bad
    | some (.dt kvs) => match prsD (kvs.map fun kv => .tup (kv.1.map kD)) with
      | some ps => if ps.length ≤ LIM then .ok (.ref S.length) (S ++ [.lst ((sortP ps).map prD)]) else .bad
      | none => .bad
    | _ => .bad
  | _ => .bad
def minI : List Int → Option Int
  | [] => none
  | [a] => some a
  | a :: as => match minI as with
    | some m => some (if m < a then m else a)
    | none => some a
def fMin : D → Store → Res D := fun x S => match x with
  | .ref l => match S[l]? with
    | some (.lst ds) => match intsD ds with
      | some is => match minI is with
        | some m => .ok (.int m) S
        | none => .bad
      | none => .bad
    | _ => .bad
  | _ => .bad
/-- dict(a list of pairs) -/
def pairsD : List D → Option (List (Kk × D))
  | [] => some []
  | .tup [k, v] :: ds => match keyD k, pairsD ds with
    | some k', some r => some ((k', v) :: r)
    | _, _ => none
  | _ => none
def pairsT : List D → Option (List (List Kk × D))
  | [] => some []
  | .tup [k, v] :: ds => match keyT k, pairsT ds with
    | some k', some r => some ((k', v) :: r)
    | _, _ => none
  | _ => none
def fDict : D → Store → Res D := fun x S => match x with
  | .ref l => match S[l]? with
    | some (.lst ds) => match pairsD ds with
      | some r => .ok (.ref S.length) (S ++ [.dk (mergeD [] r)])
      | none => match pairsT ds with
        | some r => .ok (.ref S.length) (S ++ [.dt (mergeD [] r)])
        | none => .bad
    | _ => .bad
  | _ => .bad
def fBool : D → Store → Res D := fun x S => match x with
  | .int i => .ok (.bl (i != 0)) S
  | .bl b => .ok (.bl b) S
  | _ => .bad
def fRev : D → Store → Res D := fun x S => match x with
  | .ref l => match S[l]? with
    | some (.lst ds) => .ok (.ref S.length) (S ++ [.lst ds.reverse])
    | _ => .bad
  | .tup ds => .ok (.tup ds.reverse) S
  | _ => .bad

def fListRg : D → Store → Res D := fun x S => match x with
  | .int b => if -(2 ^ 62) ≤ b ∧ b ≤ 16777216 then .ok (.ref S.length) (S ++ [.lst (rngD 0 b)]) else .bad
  | _ => .bad
/-- a list is there -/
def isLst (x : D) (S : Store) : Bool := match x with
  | .frz _ => true
  | .ref l => match S[l]? with
    | some (.lst _) => true
    | _ => false
  | _ => false
def isDk (x : D) (S : Store) : Bool := match x with
  | .ref l => match S[l]? with
    | some (.dk _) => true
    | _ => false
  | _ => false
/-- xs.m(e) of a list -/
def eBM (o : Op) (a b : FE) : FE := fun s S => (a s S).bind fun x S1 => if isLst x S1 then (b s S1).bind fun y S2 => o x y S2 else .bad

/-! ### methods of lists and dicts -/
def oAppend : Op := fun x y S => match x with
  | .ref l => match S[l]? with
    | some (.lst ds) => if ds.length < LIM then .ok .non (S.set l (.lst (ds ++ [y]))) else .bad
    | _ => .bad
  | _ => .bad
def oExtend : Op := fun x y S => match x, y with
  | .ref l, .ref m => match S[l]?, S[m]? with
    | some (.lst ds), some (.lst es) => if ds.length + es.length ≤ LIM then .ok .non (S.set l (.lst (ds ++ es))) else .bad
    | _, _ => .bad
  | _, _ => .bad
def uPop : D → Store → Res D := fun x S => match x with
  | .ref l => match S[l]? with
    | some (.lst ds) => match ds[ds.length - 1]? with
      | some d => .ok d (S.set l (.lst ds.dropLast))
      | none => .bad
    | _ => .bad
  | _ => .bad
def oPopAt : Op := fun x y S => match x, y with
  | .ref l, .int i => match S[l]? with
    | some (.lst ds) => match ixN ds.length i with
      | some j => match ds[j]? with
        | some d => .ok d (S.set l (.lst (ds.eraseIdx j)))
        | none => .bad
      | none => .bad
    | _ => .bad
  | _, _ => .bad
/-- d.get(k, x) -/
def eGet2 (d k x : FE) : FE := fun s S => (d s S).bind fun l S1 => if isDk l S1 then (k s S1).bind fun y S2 => (x s S2).bind fun z S3 => match l with
  | .ref n => match getD S3 n y with
    | some o => .ok (o.getD z) S3
    | none => .bad
  | _ => .bad else .bad

/-- where x stands in a list of data -/
def idxD (S : Store) (x : D) (l : Nat) : Option Nat := match toP S 60 x, toP S 60 (.ref l) with
  | some p, some (.lst qs) => qs.findIdx? fun q => P.eqv q p
  | _, _ => none
def oIndex : Op := fun x y S => match x with
  | .ref l => match idxD S y l with
    | some j => .ok (.int (j : Nat)) S
    | none => .bad
  | _ => .bad
def oRemove : Op := fun x y S => match x with
  | .ref l => match S[l]? with
    | some (.lst ds) => match idxD S y l with
      | some j => .ok .non (S.set l (.lst (ds.eraseIdx j)))
      | none => .bad
    | _ => .bad
  | _ => .bad
/-- truths in a row -/
def blsD : List D → Option (List Bool)
  | [] => some []
  | .bl b :: ds => match blsD ds with
    | some bs => some (b :: bs)
    | none => none
  | _ => none
def fAllBy (f : List Bool → Bool) : D → Store → Res D := fun x S => match x with
  | .ref l => match S[l]? with
    | some (.lst ds) => match blsD ds with
      | some bs => .ok (.bl (f bs)) S
      | none => .bad
    | _ => .bad
  | _ => .bad
def fAll : D → Store → Res D := fAllBy fun bs => bs.all id
def fAny : D → Store → Res D := fAllBy fun bs => bs.any id
/-- *e, .. -/
def aStar (a : FE) (r : FA) : FA := fun s S => (a s S).bind fun x S1 => match seqD S1 x with
  | some xs => (r s S1).bind fun ys S2 => .ok (xs ++ ys) S2
  | none => .bad

/-! ### what is walked -/
def iSeq (e : FE) : FI := fun s S => (e s S).bind fun x S1 => match x with
  | .tup ds => .ok ⟨ds, []⟩ S1
  | .frz ds => .ok ⟨ds, []⟩ S1
  | .ref l => match S1[l]? with
    | some (.lst ds) => .ok ⟨ds, [(l, .lst ds)]⟩ S1
    | _ => .bad
  | _ => .bad
def iRng (e : FE) : FI := fun s S => (e s S).bind fun x S1 => match x with
  | .int j => if -(2 ^ 62) ≤ j ∧ j ≤ 16777216 then .ok ⟨rngD 0 j, []⟩ S1 else .bad
  | _ => .bad
def iRng2 (e f : FE) : FI := fun s S => (e s S).bind fun x S1 => (f s S1).bind fun y S2 => match x, y with
  | .int i, .int j => if -1000000 ≤ i ∧ i < 2 ^ 62 ∧ -(2 ^ 62) ≤ j ∧ j ≤ 1000000 then .ok ⟨rngD i j, []⟩ S2 else .bad
  | _, _ => .bad
def enumD (ds : List D) : List D := ds.mapIdx fun i d => .tup [.int i, d]
def iEnum (e : FE) : FI := fun s S => (e s S).bind fun x S1 => match x with
  | .tup ds => .ok ⟨enumD ds, []⟩ S1
  | .ref l => match S1[l]? with
    | some (.lst ds) => .ok ⟨enumD ds, [(l, .lst ds)]⟩ S1
    | _ => .bad
  | _ => .bad

/-- zip of two lists or of two tuples -/
def zipD : List D → List D → List D
  | a :: as, b :: bs => .tup [a, b] :: zipD as bs
  | _, _ => []
def iZip (e f : FE) : FI := fun s S => (e s S).bind fun x S1 => (f s S1).bind fun y S2 => match x, y with
  | .tup as, .tup bs => .ok ⟨zipD as bs, []⟩ S2
  | .ref l, .ref m => match S2[l]?, S2[m]? with
    | some (.lst as), some (.lst bs) => .ok ⟨zipD as bs, [(l, .lst as), (m, .lst bs)]⟩ S2
    | _, _ => .bad
  | _, _ => .bad
/-- sum of a list of ints -/
def fSum : D → Store → Res D := fun x S => match x with
  | .ref l => match S[l]? with
    | some (.lst ds) => match intsD ds with
      | some is => .ok (.int is.sum) S
      | none => .bad
    | _ => .bad
  | _ => .bad
/-- tuple(range(n)) -/
def fTupRg : D → Store → Res D := fun x S => match x with
  | .int b => if -(2 ^ 62) ≤ b ∧ b ≤ 16777216 then .ok (.tup (rngD 0 b)) S else .bad
  | _ => .bad

/-! ### a thing heard: try: return ("told", deed()) except X as r: return ("X", r.what) .. -/
def heardR (cs : List String) (r : Res D) : Res D := match r with
  | .ok d S => .ok (.tup [.str "told", d]) S
  | .ex c w S => if cs.contains c then .ok (.tup [.str (Str.ofString c), w]) S else .bad
  | .bad => .bad
def eHeard (cs : List String) (f : FE) : FE := fun s S => heardR cs (f s S)
def eBad : FE := fun _ _ => .bad
def tBad : FT := fun _ _ => .bad
def sBad : FS := fun _ _ => .bad
def fRevL : D → Store → Res D := fun x S => match x with
  | .ref l => match S[l]? with
    | some (.lst ds) => .ok (.ref S.length) (S ++ [.lst ds.reverse])
    | _ => .bad
  | _ => .bad
/-! ### slices -/
/-- a slice's part, of a sequence of n: d where it is left out -/
def slIx (n d : Nat) : Option Int → Nat
  | none => d
  | some v => if 0 ≤ v then min v.toNat n else (v + n).toNat
def cutD (xs : List D) (lo hi : Option Int) : List D := (xs.drop (slIx xs.length 0 lo)).take (slIx xs.length xs.length hi - slIx xs.length 0 lo)
abbrev FO := Env → Store → Res (Option Int)
def oNone : FO := fun _ S => .ok none S
def oSome (f : FE) : FO := fun s S => (f s S).bind fun x S1 => match x with
  | .int i => .ok (some i) S1
  | _ => .bad
def slD (x : D) (lo hi : Option Int) (S : Store) : Res D := match x with
  | .tup ds => .ok (.tup (cutD ds lo hi)) S
  | .ref l => match S[l]? with
    | some (.lst ds) => .ok (.ref S.length) (S ++ [.lst (cutD ds lo hi)])
    | _ => .bad
  | _ => .bad
def eSlice (a : FE) (lo hi : FO) : FE := fun s S => (a s S).bind fun x S1 => (lo s S1).bind fun l S2 => (hi s S2).bind fun u S3 => slD x l u S3
/-- xs[::-1] of a list or a tuple -/
def fRevA : D → Store → Res D := fun x S => match x with
  | .tup ds => .ok (.tup ds.reverse) S
  | _ => fRevL x S
def oNotB : Op := fun x y S => match x, y with
  | .bl a, .bl b => .ok (.bl (!decide (a = b))) S
  | _, _ => .bad
/-- str(i) -/
def fStrI : D → Store → Res D := fun x S => match x with
  | .int i => if i.natAbs.log2 < 1920 then .ok (.str (Str.ofString (toString i))) S else .bad
  | .str a => .ok (.str a) S
  | _ => .bad
end Wk


set_option Elab.async false
set_option linter.all false
set_option maxRecDepth 100000
set_option maxHeartbeats 4000000
set_option autoImplicit false
/-! WkRel: how the functional reading stands to the machine's abstract heap, and what it is for a piece of syntax to have a functional reading. -/
namespace Wk
open PySem PySem.Spec PyProof.Rows L2

theorem lim_eq : LIM = sizeLine := by rw [sizeLine_eq]; rfl

/-! ### lists in pairs -/
section
variable {α β : Type} {R : α → β → Prop}
theorem Paired.get1 : ∀ {xs : List α} {ys : List β} {i : Nat} {x : α}, Paired R xs ys → xs[i]? = some x → ∃ y, ys[i]? = some y ∧ R x y
  | _, _, _, _, .nil, e => by simp at e
  | _, _, 0, _, .cons r _, e => by simp at e; subst e; exact ⟨_, rfl, r⟩
  | _, _, i + 1, x, .cons _ t, e => by
    obtain ⟨u, h1, h2⟩ := Paired.get1 (i := i) (x := x) t (by simpa using e)
    exact ⟨u, by simpa using h1, h2⟩
theorem Paired.get2 : ∀ {xs : List α} {ys : List β} {i : Nat} {y : β}, Paired R xs ys → ys[i]? = some y → ∃ x, xs[i]? = some x ∧ R x y
  | _, _, _, _, .nil, e => by simp at e
  | _, _, 0, _, .cons r _, e => by simp at e; subst e; exact ⟨_, rfl, r⟩
  | _, _, i + 1, x, .cons _ t, e => by
    obtain ⟨u, h1, h2⟩ := Paired.get2 (i := i) (y := x) t (by simpa using e)
    exact ⟨u, by simpa using h1, h2⟩
theorem Paired.set1 {x : α} {y : β} (r : R x y) : ∀ {xs : List α} {ys : List β} (i : Nat), Paired R xs ys → Paired R (xs.set i x) (ys.set i y)
  | _, _, _, .nil => .nil
  | _, _, 0, .cons _ t => .cons r t
  | _, _, i + 1, .cons q t => .cons q (Paired.set1 r i t)
theorem Paired.app : ∀ {xs xs' : List α} {ys ys' : List β}, Paired R xs ys → Paired R xs' ys' → Paired R (xs ++ xs') (ys ++ ys')
  | _, _, _, _, .nil, s => s
  | _, _, _, _, .cons r t, s => .cons r (Paired.app t s)
theorem Paired.erase1 : ∀ {xs : List α} {ys : List β} (i : Nat), Paired R xs ys → Paired R (xs.eraseIdx i) (ys.eraseIdx i)
  | _, _, _, .nil => .nil
  | _, _, 0, .cons _ t => t
  | _, _, i + 1, .cons q t => .cons q (Paired.erase1 i t)
theorem Paired.dropL : ∀ {xs : List α} {ys : List β}, Paired R xs ys → Paired R xs.dropLast ys.dropLast
  | _, _, .nil => .nil
  | _, _, .cons _ .nil => .nil
  | _, _, .cons q (.cons r t) => .cons q (Paired.dropL (.cons r t))
theorem Paired.rev {xs : List α} {ys : List β} (h : Paired R xs ys) : Paired R xs.reverse ys.reverse := by
  induction h with
  | nil => exact .nil
  | cons r t ih => rw [List.reverse_cons, List.reverse_cons]; exact Paired.app ih (.cons r .nil)
theorem Paired.takeN : ∀ {xs : List α} {ys : List β} (i : Nat), Paired R xs ys → Paired R (xs.take i) (ys.take i)
  | _, _, 0, _ => .nil
  | _, _, _ + 1, .nil => .nil
  | _, _, i + 1, .cons q t => .cons q (Paired.takeN i t)
theorem Paired.dropN : ∀ {xs : List α} {ys : List β} (i : Nat), Paired R xs ys → Paired R (xs.drop i) (ys.drop i)
  | _, _, 0, r => r
  | _, _, _ + 1, .nil => .nil
  | _, _, i + 1, .cons _ t => Paired.dropN i t
theorem Paired.flat {xs : List α} {ys : List β} (h : Paired R xs ys) : ∀ k : Nat, Paired R (List.replicate k xs).flatten (List.replicate k ys).flatten
  | 0 => .nil
  | k + 1 => by
    rw [List.replicate_succ, List.replicate_succ, List.flatten_cons, List.flatten_cons]
    exact Paired.app h (Paired.flat h k)
theorem Paired.ofGet : ∀ {xs : List α} {ys : List β}, xs.length = ys.length → (∀ (i : Nat) (x : α) (y : β), xs[i]? = some x → ys[i]? = some y → R x y) → Paired R xs ys
  | [], [], _, _ => .nil
  | [], _ :: _, e, _ => by simp at e
  | _ :: _, [], e, _ => by simp at e
  | x :: xs, y :: ys, e, h => .cons (h 0 x y rfl rfl) (Paired.ofGet (by simpa using e) fun i a b p q => h (i + 1) a b (by simpa using p) (by simpa using q))
end

/-! ### values -/
def KTup (K : PySem.W.Frag) (a : Addr) (vs : List V) : Prop := ∃ (o : Obj) (its : Array Value) (n : Nat), K.lookup a = some o ∧ o.cls = .type "tuple" ∧ o.data = .seq its n ∧ its.size ≤ sizeLine ∧ Vals vs its.toList
def KLst (K : PySem.W.Frag) (a : Addr) (vs : List V) : Prop := ∃ (o : Obj) (its : Array Value) (n : Nat), K.lookup a = some o ∧ o.cls = .type "list" ∧ o.dict = none ∧ o.data = .seq its n ∧ its.size ≤ sizeLine ∧ Vals vs its.toList
def TupAt (_K : PySem.W.Frag) (H : Hp) (a : Addr) (vs : List V) : Prop := vs.length ≤ sizeLine ∧ H a = some (.tup vs)
def FrzAt (K : PySem.W.Frag) (H : Hp) (a : Addr) (vs : List V) : Prop := vs.length ≤ sizeLine ∧ ((∃ o, H a = some (.frz o (.lst vs))) ∨ KLst K a vs)
theorem TupAt.sq {K : PySem.W.Frag} {H : Hp} {a : Addr} {vs : List V} (h : TupAt K H a vs) : SqT K H a vs := .inl (.inl h.2)
theorem FrzAt.sq {K : PySem.W.Frag} {H : Hp} {a : Addr} {vs : List V} (h : FrzAt K H a vs) : SqL K H a vs := h.2.elim (fun z => .inl (.inr z)) .inr

mutual
def RD (K : PySem.W.Frag) (ρ : List Addr) (H : Hp) : D → V → Prop
  | .non, v => v = .non
  | .bl b, v => v = .bl b
  | .int i, v => v = .int i
  | .str x, v => v = .str x
  | .tup ds, v => ∃ a vs, v = .ref a ∧ TupAt K H a vs ∧ RDs K ρ H ds vs
  | .frz ds, v => ∃ a vs, v = .ref a ∧ FrzAt K H a vs ∧ RDs K ρ H ds vs
  | .ref n, v => ∃ a, v = .ref a ∧ ρ[n]? = some a
def RDs (K : PySem.W.Frag) (ρ : List Addr) (H : Hp) : List D → List V → Prop
  | [], vs => vs = []
  | d :: ds, vs => ∃ v r, vs = v :: r ∧ RD K ρ H d v ∧ RDs K ρ H ds r
end
section
variable {K : PySem.W.Frag} {ρ : List Addr} {H : Hp}
theorem RDs.pair : ∀ {ds : List D} {vs : List V}, RDs K ρ H ds vs → Paired (RD K ρ H) ds vs
  | [], vs, h => by unfold RDs at h; subst h; exact .nil
  | d :: ds, vs, h => by
    unfold RDs at h
    obtain ⟨v, r, rfl, h1, h2⟩ := h
    exact .cons h1 (RDs.pair h2)
theorem RDs.of : ∀ {ds : List D} {vs : List V}, Paired (RD K ρ H) ds vs → RDs K ρ H ds vs
  | _, _, .nil => by unfold RDs; rfl
  | _, _, .cons r t => by unfold RDs; exact ⟨_, _, rfl, r, RDs.of t⟩
theorem RDs.len {ds : List D} {vs : List V} (h : RDs K ρ H ds vs) : ds.length = vs.length := h.pair.length
theorem rd_non : RD K ρ H .non .non := by unfold RD; rfl
theorem rd_bl {b : Bool} : RD K ρ H (.bl b) (.bl b) := by unfold RD; rfl
theorem rd_int {i : Int} : RD K ρ H (.int i) (.int i) := by unfold RD; rfl
theorem rd_str {x : Str} : RD K ρ H (.str x) (.str x) := by unfold RD; rfl
theorem rd_ref {n : Nat} {a : Addr} (h : ρ[n]? = some a) : RD K ρ H (.ref n) (.ref a) := by unfold RD; exact ⟨a, rfl, h⟩
theorem rd_tup {ds : List D} {vs : List V} {a : Addr} (h : TupAt K H a vs) (r : RDs K ρ H ds vs) : RD K ρ H (.tup ds) (.ref a) := by unfold RD; exact ⟨a, vs, rfl, h, r⟩
theorem RD.non {v : V} (h : RD K ρ H .non v) : v = .non := by unfold RD at h; exact h
theorem RD.bl {b : Bool} {v : V} (h : RD K ρ H (.bl b) v) : v = .bl b := by unfold RD at h; exact h
theorem RD.int {i : Int} {v : V} (h : RD K ρ H (.int i) v) : v = .int i := by unfold RD at h; exact h
theorem RD.str {x : Str} {v : V} (h : RD K ρ H (.str x) v) : v = .str x := by unfold RD at h; exact h
theorem RD.ref {n : Nat} {v : V} (h : RD K ρ H (.ref n) v) : ∃ a, v = .ref a ∧ ρ[n]? = some a := by unfold RD at h; exact h
theorem RD.tup {ds : List D} {v : V} (h : RD K ρ H (.tup ds) v) : ∃ a vs, v = .ref a ∧ TupAt K H a vs ∧ RDs K ρ H ds vs := by unfold RD at h; exact h
theorem RD.frz {ds : List D} {v : V} (h : RD K ρ H (.frz ds) v) : ∃ a vs, v = .ref a ∧ FrzAt K H a vs ∧ RDs K ρ H ds vs := by unfold RD at h; exact h
end
/-- later worlds -/
structure Le (ρ : List Addr) (H : Hp) (ρ' : List Addr) (H' : Hp) : Prop where
  pre : ∃ e, ρ' = ρ ++ e
  tup : ∀ a vs, H a = some (.tup vs) → H' a = some (.tup vs)
  frz : ∀ a o u, H a = some (.frz o u) → a ∉ ρ → H' a = some (.frz o u)
  keep : ∀ b o, H b = some o → b ∉ ρ → (∀ ps, o ≠ .tbl ps) → H' b = some o
  new : ∀ b o, H b = some o → (∀ ps, o ≠ .tbl ps) → b ∉ ρ → b ∉ ρ'
theorem Le.refl (ρ : List Addr) (H : Hp) : Le ρ H ρ H := ⟨⟨[], by simp⟩, fun _ _ h => h, fun _ _ _ h _ => h, fun _ _ h _ _ => h, fun _ _ _ _ n => n⟩
theorem Le.nin {ρ ρ1 : List Addr} {H H1 : Hp} (a : Le ρ H ρ1 H1) {b : Addr} {o : HO} (h : H b = some o) (n : b ∉ ρ) (t : ∀ ps, o ≠ .tbl ps := by intro ps z; cases z) : b ∉ ρ1 := a.new b o h t n
theorem Le.trans {ρ ρ1 ρ2 : List Addr} {H H1 H2 : Hp} (a : Le ρ H ρ1 H1) (b : Le ρ1 H1 ρ2 H2) : Le ρ H ρ2 H2 where
  pre := by
    obtain ⟨e, rfl⟩ := a.pre
    obtain ⟨f, rfl⟩ := b.pre
    exact ⟨e ++ f, by simp⟩
  tup := fun x vs h => b.tup x vs (a.tup x vs h)
  frz := fun x o u h n => b.frz x o u (a.frz x o u h n) (a.nin h n (fun _ z => nomatch z))
  keep := fun x o h n t => b.keep x o (a.keep x o h n t) (a.nin h n t) t
  new := fun x o h t n => b.new x o (a.keep x o h n t) t (a.new x o h t n)
section
variable {K : PySem.W.Frag} {ρ ρ' : List Addr} {H H' : Hp}
theorem Le.get (l : Le ρ H ρ' H') {n : Nat} {a : Addr} (h : ρ[n]? = some a) : ρ'[n]? = some a := by
  obtain ⟨e, rfl⟩ := l.pre
  have hn := (List.getElem?_eq_some_iff.mp h).1
  rw [List.getElem?_append_left hn]; exact h
theorem TupAt.mono (l : Le ρ H ρ' H') {a : Addr} {vs : List V} (h : TupAt K H a vs) : TupAt K H' a vs := ⟨h.1, l.tup _ _ h.2⟩
end
/-- frozen things are not in the store -/
def NoFz (ρ : List Addr) (H : Hp) : Prop := ∀ a o u, H a = some (.frz o u) → a ∉ ρ
/-- what a value's reading leans on -/
structure Lw (ρ : List Addr) (H : Hp) (ρ' : List Addr) (H' : Hp) : Prop where
  pre : ∃ e, ρ' = ρ ++ e
  tup : ∀ a vs, H a = some (.tup vs) → H' a = some (.tup vs)
  frz : ∀ a o u, H a = some (.frz o u) → H' a = some (.frz o u)
theorem Le.lw {ρ ρ' : List Addr} {H H' : Hp} (l : Le ρ H ρ' H') (nf : NoFz ρ H) : Lw ρ H ρ' H' := ⟨l.pre, l.tup, fun a o u h => l.frz a o u h (nf a o u h)⟩
theorem Lw.get {ρ ρ' : List Addr} {H H' : Hp} (l : Lw ρ H ρ' H') {n : Nat} {a : Addr} (h : ρ[n]? = some a) : ρ'[n]? = some a := by
  obtain ⟨e, rfl⟩ := l.pre
  have hn := (List.getElem?_eq_some_iff.mp h).1
  rw [List.getElem?_append_left hn]; exact h
theorem TupAt.lw {K : PySem.W.Frag} {ρ ρ' : List Addr} {H H' : Hp} (l : Lw ρ H ρ' H') {a : Addr} {vs : List V} (h : TupAt K H a vs) : TupAt K H' a vs := ⟨h.1, l.tup _ _ h.2⟩
theorem FrzAt.lw {K : PySem.W.Frag} {ρ ρ' : List Addr} {H H' : Hp} (l : Lw ρ H ρ' H') {a : Addr} {vs : List V} (h : FrzAt K H a vs) : FrzAt K H' a vs :=
  ⟨h.1, h.2.elim (fun ⟨o, z⟩ => .inl ⟨o, l.frz _ _ _ z⟩) .inr⟩
theorem FrzAt.mono {K : PySem.W.Frag} {ρ ρ' : List Addr} {H H' : Hp} (l : Le ρ H ρ' H') (nf : NoFz ρ H) {a : Addr} {vs : List V} (h : FrzAt K H a vs) : FrzAt K H' a vs := h.lw (l.lw nf)
mutual
theorem RD.lw {K : PySem.W.Frag} {ρ ρ' : List Addr} {H H' : Hp} (l : Lw ρ H ρ' H') : ∀ (d : D) (v : V), RD K ρ H d v → RD K ρ' H' d v
  | .non, v, h => by unfold RD at h ⊢; exact h
  | .bl b, v, h => by unfold RD at h ⊢; exact h
  | .int i, v, h => by unfold RD at h ⊢; exact h
  | .str x, v, h => by unfold RD at h ⊢; exact h
  | .tup ds, v, h => by
    unfold RD at h ⊢
    obtain ⟨a, vs, e, t, r⟩ := h
    exact ⟨a, vs, e, t.lw l, RDs.lw l ds vs r⟩
  | .frz ds, v, h => by
    unfold RD at h ⊢
    obtain ⟨a, vs, e, t, r⟩ := h
    exact ⟨a, vs, e, t.lw l, RDs.lw l ds vs r⟩
  | .ref n, v, h => by
    unfold RD at h ⊢
    obtain ⟨a, e, q⟩ := h
    exact ⟨a, e, l.get q⟩
theorem RDs.lw {K : PySem.W.Frag} {ρ ρ' : List Addr} {H H' : Hp} (l : Lw ρ H ρ' H') : ∀ (ds : List D) (vs : List V), RDs K ρ H ds vs → RDs K ρ' H' ds vs
  | [], vs, h => by unfold RDs at h ⊢; exact h
  | d :: ds, vs, h => by
    unfold RDs at h ⊢
    obtain ⟨v, r, e, h1, h2⟩ := h
    exact ⟨v, r, e, RD.lw l d v h1, RDs.lw l ds r h2⟩
end
theorem RD.mono {K : PySem.W.Frag} {ρ ρ' : List Addr} {H H' : Hp} (l : Le ρ H ρ' H') (nf : NoFz ρ H) (d : D) (v : V) (h : RD K ρ H d v) : RD K ρ' H' d v := RD.lw (l.lw nf) d v h
theorem RDs.mono {K : PySem.W.Frag} {ρ ρ' : List Addr} {H H' : Hp} (l : Le ρ H ρ' H') (nf : NoFz ρ H) (d : List D) (v : List V) (h : RDs K ρ H d v) : RDs K ρ' H' d v := RDs.lw (l.lw nf) d v h

/-! ### the store -/
abbrev RKs (K : PySem.W.Frag) (ρ : List Addr) (H : Hp) {κ : Type} (kvs : List (κ × D)) (kws : List (κ × V)) : Prop := Paired (fun p q => p.1 = q.1 ∧ RD K ρ H p.2 q.2) kvs kws
def ROb (K : PySem.W.Frag) (ρ : List Addr) (H : Hp) (a : Addr) : Ob → Prop
  | .lst ds => ∃ vs, H a = some (.lst vs) ∧ RDs K ρ H ds vs ∧ vs.length ≤ sizeLine
  | .dk kvs => ∃ kws, H a = some (.dK kws) ∧ RKs K ρ H kvs kws ∧ kws.length ≤ sizeLine
  | .dt kvs => ∃ kws, H a = some (.dT kws) ∧ RKs K ρ H kvs kws ∧ kws.length ≤ sizeLine
theorem ROb.there {K : PySem.W.Frag} {ρ : List Addr} {H : Hp} {a : Addr} {o : Ob} (h : ROb K ρ H a o) : ∃ u, H a = some u ∧ (∀ xs, u ≠ .tup xs) ∧ (∀ o' w, u ≠ .frz o' w) ∧ ∀ ps, u ≠ .tbl ps := by
  cases o with
  | lst ds => obtain ⟨vs, h, _⟩ := h; exact ⟨_, h, (fun _ z => nomatch z), (fun _ _ z => nomatch z), (fun _ z => nomatch z)⟩
  | dk ds => obtain ⟨vs, h, _⟩ := h; exact ⟨_, h, (fun _ z => nomatch z), (fun _ _ z => nomatch z), (fun _ z => nomatch z)⟩
  | dt ds => obtain ⟨vs, h, _⟩ := h; exact ⟨_, h, (fun _ z => nomatch z), (fun _ _ z => nomatch z), (fun _ z => nomatch z)⟩
theorem RKs.mono {K : PySem.W.Frag} {ρ ρ' : List Addr} {H H' : Hp} {κ : Type} {kvs : List (κ × D)} {kws : List (κ × V)} (l : Le ρ H ρ' H') (nf : NoFz ρ H) (h : RKs K ρ H kvs kws) : RKs K ρ' H' kvs kws :=
  Paired.mapP h fun _ _ z => ⟨z.1, RD.mono l nf _ _ z.2⟩
/-- an object that stands as it did, in a later world -/
theorem ROb.mono {K : PySem.W.Frag} {ρ ρ' : List Addr} {H H' : Hp} {a : Addr} {o : Ob} (l : Le ρ H ρ' H') (nf : NoFz ρ H) (e : H' a = H a) (h : ROb K ρ H a o) : ROb K ρ' H' a o := by
  cases o with
  | lst ds => obtain ⟨vs, h1, h2, h3⟩ := h; exact ⟨vs, e.trans h1, RDs.mono l nf _ _ h2, h3⟩
  | dk ds => obtain ⟨vs, h1, h2, h3⟩ := h; exact ⟨vs, e.trans h1, RKs.mono l nf h2, h3⟩
  | dt ds => obtain ⟨vs, h1, h2, h3⟩ := h; exact ⟨vs, e.trans h1, RKs.mono l nf h2, h3⟩
abbrev Tbs := List (Addr × Str)
structure RS (K : PySem.W.Frag) (T : Tbs) (ρ : List Addr) (S : Store) (H : Hp) : Prop where
  len : ρ.length = S.length
  nd : ρ.Nodup
  ob : ∀ (i : Nat) (a : Addr) (o : Ob), ρ[i]? = some a → S[i]? = some o → ROb K ρ H a o
  tabs : LamX.Tabs T H
section
variable {K : PySem.W.Frag} {T : Tbs} {ρ ρ' : List Addr} {S S' : Store} {H H' : Hp}
theorem RS.at (r : RS K T ρ S H) {a : Addr} (h : a ∈ ρ) : ∃ (i : Nat) (o : Ob), ρ[i]? = some a ∧ S[i]? = some o ∧ ROb K ρ H a o := by
  obtain ⟨i, hi, e⟩ := List.getElem_of_mem h
  have h1 : ρ[i]? = some a := by rw [List.getElem?_eq_getElem hi, e]
  have h2 : S[i]? = some (S[i]'(by rw [← r.len]; exact hi)) := List.getElem?_eq_getElem _
  exact ⟨i, _, h1, h2, r.ob i a _ h1 h2⟩
theorem RS.nofz (r : RS K T ρ S H) : NoFz ρ H := fun a o u h z => by
  obtain ⟨i, ob, _, _, q⟩ := r.at z
  obtain ⟨w, e, _, n, _⟩ := q.there
  rw [h] at e; cases e
  exact n _ _ rfl
theorem RS.addr (r : RS K T ρ S H) {i : Nat} {o : Ob} (h : S[i]? = some o) : ∃ a, ρ[i]? = some a ∧ ROb K ρ H a o := by
  have hi : i < ρ.length := by rw [r.len]; exact (List.getElem?_eq_some_iff.mp h).1
  exact ⟨ρ[i], List.getElem?_eq_getElem hi, r.ob i _ o (List.getElem?_eq_getElem hi) h⟩
theorem RS.fresh (r : RS K T ρ S H) {p : Addr} (h : H p = none) : p ∉ ρ := fun z => by
  obtain ⟨i, o, _, _, q⟩ := r.at z
  obtain ⟨u, e, _⟩ := q.there
  rw [h] at e; cases e
theorem RD.le {d : D} {v : V} (h : RD K ρ H d v) (r : RS K T ρ S H) (l : Le ρ H ρ' H') : RD K ρ' H' d v := RD.mono l r.nofz d v h
theorem RDs.le {ds : List D} {vs : List V} (h : RDs K ρ H ds vs) (r : RS K T ρ S H) (l : Le ρ H ρ' H') : RDs K ρ' H' ds vs := RDs.mono l r.nofz ds vs h
/-- a new thing that is not of the store -/
theorem Le.fresh (r : RS K T ρ S H) {p : Addr} {o : HO} (h : H p = none) : Le ρ H ρ (upd H p o) where
  pre := ⟨[], by simp⟩
  tup := fun a vs e => by rw [upd_ne (ne_of_none e h)]; exact e
  frz := fun a _ _ e _ => by rw [upd_ne (ne_of_none e h)]; exact e
  keep := fun a _ e _ _ => by rw [upd_ne (ne_of_none e h)]; exact e
  new := fun _ _ _ _ n => n
theorem Tabs.fresh {p : Addr} {o : HO} (t : LamX.Tabs T H) (h : H p = none) : LamX.Tabs T (upd H p o) := t.ext fun b u e => by rw [upd_ne (ne_of_none e h)]; exact e
theorem RS.freshP (r : RS K T ρ S H) {p : Addr} {o : HO} (h : H p = none) : RS K T ρ S (upd H p o) where
  len := r.len
  nd := r.nd
  ob := fun i a ob h1 h2 => by
    have q := r.ob i a ob h1 h2
    obtain ⟨u, e, _⟩ := q.there
    exact q.mono (Le.fresh r h) r.nofz (upd_ne (ne_of_none e h))
  tabs := Tabs.fresh r.tabs h
/-- a new tuple -/
theorem tup_new (r : RS K T ρ S H) {p : Addr} {ds : List D} {vs : List V} (h : H p = none) (hv : RDs K ρ H ds vs) (hz : vs.length ≤ sizeLine) : Le ρ H ρ (upd H p (.tup vs)) ∧ RS K T ρ S (upd H p (.tup vs)) ∧ RD K ρ (upd H p (.tup vs)) (.tup ds) (.ref p) :=
  ⟨Le.fresh r h, r.freshP h, rd_tup ⟨hz, upd_same⟩ (hv.le r (Le.fresh r h))⟩
/-- a new thing of the store -/
theorem Le.laid (r : RS K T ρ S H) {p : Addr} {o : HO} (h : H p = none) : Le ρ H (ρ ++ [p]) (upd H p o) := by
  have l := Le.fresh (o := o) r h
  exact ⟨⟨[p], rfl⟩, l.tup, l.frz, l.keep, fun b o e _ n z => by
    rcases List.mem_append.mp z with z | z
    · exact n z
    · have : b = p := by simpa using z
      subst this; rw [h] at e; cases e⟩
theorem RS.laid (r : RS K T ρ S H) {p : Addr} {o : HO} {ob : Ob} (h : H p = none) (hob : ROb K (ρ ++ [p]) (upd H p o) p ob) : RS K T (ρ ++ [p]) (S ++ [ob]) (upd H p o) where
  len := by simp [r.len]
  nd := by
    rw [List.nodup_append]
    exact ⟨r.nd, by simp, fun a ha b hb e => by
      have : b = p := by simpa using hb
      subst this; subst e; exact r.fresh h ha⟩
  ob := fun i a o' h1 h2 => by
    by_cases hi : i < ρ.length
    · rw [List.getElem?_append_left hi] at h1
      rw [List.getElem?_append_left (by rw [← r.len]; exact hi)] at h2
      have q := r.ob i a o' h1 h2
      obtain ⟨u, e, _⟩ := q.there
      exact q.mono (Le.laid r h) r.nofz (upd_ne (ne_of_none e h))
    · have e1 : i = ρ.length := by
        have := (List.getElem?_eq_some_iff.mp h1).1
        rw [List.length_append, List.length_singleton] at this
        omega
      subst e1
      rw [List.getElem?_append_right (Nat.le_refl _), Nat.sub_self] at h1
      rw [List.getElem?_append_right (by rw [r.len]; exact Nat.le_refl _), r.len, Nat.sub_self] at h2
      simp at h1 h2
      subst h1 h2
      exact hob
  tabs := Tabs.fresh r.tabs h
theorem RS.lastAt (r : RS K T ρ S H) {p : Addr} : (ρ ++ [p])[S.length]? = some p := by rw [← r.len, List.getElem?_append_right (Nat.le_refl _), Nat.sub_self]; rfl
theorem lst_new (r : RS K T ρ S H) {p : Addr} {ds : List D} {vs : List V} (h : H p = none) (hv : RDs K ρ H ds vs) (hz : vs.length ≤ sizeLine) :
    Le ρ H (ρ ++ [p]) (upd H p (.lst vs)) ∧ RS K T (ρ ++ [p]) (S ++ [.lst ds]) (upd H p (.lst vs)) ∧ RD K (ρ ++ [p]) (upd H p (.lst vs)) (.ref S.length) (.ref p) :=
  ⟨Le.laid r h, r.laid h ⟨vs, upd_same, hv.le r (Le.laid r h), hz⟩, rd_ref r.lastAt⟩
theorem dk_new (r : RS K T ρ S H) {p : Addr} {ds : List (Kk × D)} {vs : List (Kk × V)} (h : H p = none) (hv : RKs K ρ H ds vs) (hz : vs.length ≤ sizeLine) :
    Le ρ H (ρ ++ [p]) (upd H p (.dK vs)) ∧ RS K T (ρ ++ [p]) (S ++ [.dk ds]) (upd H p (.dK vs)) ∧ RD K (ρ ++ [p]) (upd H p (.dK vs)) (.ref S.length) (.ref p) :=
  ⟨Le.laid r h, r.laid h ⟨vs, upd_same, RKs.mono (Le.laid r h) r.nofz hv, hz⟩, rd_ref r.lastAt⟩
theorem dt_new (r : RS K T ρ S H) {p : Addr} {ds : List (List Kk × D)} {vs : List (List Kk × V)} (h : H p = none) (hv : RKs K ρ H ds vs) (hz : vs.length ≤ sizeLine) :
    Le ρ H (ρ ++ [p]) (upd H p (.dT vs)) ∧ RS K T (ρ ++ [p]) (S ++ [.dt ds]) (upd H p (.dT vs)) ∧ RD K (ρ ++ [p]) (upd H p (.dT vs)) (.ref S.length) (.ref p) :=
  ⟨Le.laid r h, r.laid h ⟨vs, upd_same, RKs.mono (Le.laid r h) r.nofz hv, hz⟩, rd_ref r.lastAt⟩
/-- a thing of the store is changed -/
theorem Le.write (r : RS K T ρ S H) {i : Nat} {a : Addr} {ob : Ob} {o : HO} (ha : ρ[i]? = some a) (hs : S[i]? = some ob) : Le ρ H ρ (upd H a o) := by
  obtain ⟨u, e, n1, n2, n3⟩ := (r.ob i a ob ha hs).there
  have hm : a ∈ ρ := List.mem_of_getElem? ha
  have ne : ∀ {b : Addr} {w : HO}, H b = some w → (w ≠ u) → b ≠ a := fun {b w} h q z => by
    subst z; rw [e] at h; exact q (Option.some.inj h).symm
  exact ⟨⟨[], by simp⟩, fun b vs h => by rw [upd_ne (ne h (fun z => n1 _ z.symm))]; exact h, fun b _ _ h _ => by rw [upd_ne (ne h (fun z => n2 _ _ z.symm))]; exact h,
    fun b w h nb _ => by rw [upd_ne (fun z => nb (by rw [z]; exact hm))]; exact h, fun _ _ _ _ n => n⟩
theorem RS.write (r : RS K T ρ S H) {i : Nat} {a : Addr} {ob ob' : Ob} {o : HO} (ha : ρ[i]? = some a) (hs : S[i]? = some ob) (hob : ROb K ρ (upd H a o) a ob') : RS K T ρ (S.set i ob') (upd H a o) where
  len := by rw [List.length_set]; exact r.len
  nd := r.nd
  ob := fun j b o' h1 h2 => by
    by_cases hj : j = i
    · subst hj
      rw [ha] at h1; cases h1
      rw [List.getElem?_set_self (by rw [← r.len]; exact (List.getElem?_eq_some_iff.mp ha).1)] at h2
      cases h2
      exact hob
    · rw [List.getElem?_set_ne (Ne.symm hj)] at h2
      have q := r.ob j b o' h1 h2
      have nb : b ≠ a := fun z => by
        subst z
        exact hj ((List.getElem?_inj (List.getElem?_eq_some_iff.mp h1).1 r.nd).mp (h1.trans ha.symm))
      exact q.mono (Le.write r ha hs) r.nofz (upd_ne nb)
  tabs := by
    obtain ⟨u, e, n1, n2, n3⟩ := (r.ob i a ob ha hs).there
    intro p hp
    obtain ⟨ps, h1, h2, h3⟩ := r.tabs p hp
    have nP : p.1 ≠ a := fun z => by rw [z, e] at h1; exact n3 _ (Option.some.inj h1)
    refine ⟨ps, by rw [upd_ne nP]; exact h1, h2, fun pos cv hc => ?_⟩
    obtain ⟨c, e1, e2⟩ := h3 pos cv hc
    refine ⟨c, e1, ?_⟩
    have nc : c ≠ a := fun z => by
      rw [z] at e2
      cases ob with
      | lst ds => obtain ⟨vs, q, _⟩ := r.ob i a _ ha hs; rw [q] at e2; cases e2
      | dk ds => obtain ⟨vs, q, _⟩ := r.ob i a _ ha hs; rw [q] at e2; cases e2
      | dt ds => obtain ⟨vs, q, _⟩ := r.ob i a _ ha hs; rw [q] at e2; cases e2
    rw [upd_ne nc]; exact e2
theorem lst_write (r : RS K T ρ S H) {i : Nat} {a : Addr} {ob : Ob} {ds : List D} {vs : List V} (ha : ρ[i]? = some a) (hs : S[i]? = some ob) (hv : RDs K ρ H ds vs) (hz : vs.length ≤ sizeLine) :
    Le ρ H ρ (upd H a (.lst vs)) ∧ RS K T ρ (S.set i (.lst ds)) (upd H a (.lst vs)) :=
  ⟨Le.write r ha hs, r.write ha hs ⟨vs, upd_same, hv.le r (Le.write r ha hs), hz⟩⟩
theorem dk_write (r : RS K T ρ S H) {i : Nat} {a : Addr} {ob : Ob} {ds : List (Kk × D)} {vs : List (Kk × V)} (ha : ρ[i]? = some a) (hs : S[i]? = some ob) (hv : RKs K ρ H ds vs) (hz : vs.length ≤ sizeLine) :
    Le ρ H ρ (upd H a (.dK vs)) ∧ RS K T ρ (S.set i (.dk ds)) (upd H a (.dK vs)) :=
  ⟨Le.write r ha hs, r.write ha hs ⟨vs, upd_same, RKs.mono (Le.write r ha hs) r.nofz hv, hz⟩⟩
theorem dt_write (r : RS K T ρ S H) {i : Nat} {a : Addr} {ob : Ob} {ds : List (List Kk × D)} {vs : List (List Kk × V)} (ha : ρ[i]? = some a) (hs : S[i]? = some ob) (hv : RKs K ρ H ds vs) (hz : vs.length ≤ sizeLine) :
    Le ρ H ρ (upd H a (.dT vs)) ∧ RS K T ρ (S.set i (.dt ds)) (upd H a (.dT vs)) :=
  ⟨Le.write r ha hs, r.write ha hs ⟨vs, upd_same, RKs.mono (Le.write r ha hs) r.nofz hv, hz⟩⟩
end

theorem RKs.lw {K : PySem.W.Frag} {ρ ρ' : List Addr} {H H' : Hp} {κ : Type} {kvs : List (κ × D)} {kws : List (κ × V)} (l : Lw ρ H ρ' H') (h : RKs K ρ H kvs kws) : RKs K ρ' H' kvs kws :=
  Paired.mapP h fun _ _ z => ⟨z.1, RD.lw l _ _ z.2⟩
theorem ROb.lw {K : PySem.W.Frag} {ρ ρ' : List Addr} {H H' : Hp} {a : Addr} {o : Ob} (l : Lw ρ H ρ' H') (e : H' a = H a) (h : ROb K ρ H a o) : ROb K ρ' H' a o := by
  cases o with
  | lst ds => obtain ⟨vs, h1, h2, h3⟩ := h; exact ⟨vs, e.trans h1, RDs.lw l _ _ h2, h3⟩
  | dk ds => obtain ⟨vs, h1, h2, h3⟩ := h; exact ⟨vs, e.trans h1, RKs.lw l h2, h3⟩
  | dt ds => obtain ⟨vs, h1, h2, h3⟩ := h; exact ⟨vs, e.trans h1, RKs.lw l h2, h3⟩
section
variable {K : PySem.W.Frag} {T : Tbs} {ρ ρ' : List Addr} {S S' : Store} {H H' : Hp}
/-- a thing that stands beside the store comes into it -/
theorem RS.adopt (r : RS K T ρ S H) {p : Addr} {ob : Ob} (n : p ∉ ρ) (hob : ROb K ρ H p ob) : RS K T (ρ ++ [p]) (S ++ [ob]) H where
  len := by simp [r.len]
  nd := by
    rw [List.nodup_append]
    exact ⟨r.nd, by simp, fun a ha b hb e => by
      have : b = p := by simpa using hb
      subst this; subst e; exact n ha⟩
  ob := fun i a o' h1 h2 => by
    have lw : Lw ρ H (ρ ++ [p]) H := ⟨⟨_, rfl⟩, fun _ _ h => h, fun _ _ _ h => h⟩
    by_cases hi : i < ρ.length
    · rw [List.getElem?_append_left hi] at h1
      rw [List.getElem?_append_left (by rw [← r.len]; exact hi)] at h2
      exact (r.ob i a o' h1 h2).lw lw rfl
    · have e1 : i = ρ.length := by
        have := (List.getElem?_eq_some_iff.mp h1).1
        rw [List.length_append, List.length_singleton] at this
        omega
      subst e1
      rw [List.getElem?_append_right (Nat.le_refl _), Nat.sub_self] at h1
      rw [List.getElem?_append_right (by rw [r.len]; exact Nat.le_refl _), r.len, Nat.sub_self] at h2
      simp at h1 h2
      subst h1 h2
      exact hob.lw lw rfl
  tabs := r.tabs
/-- a list (a dict) beside the store is changed -/
theorem RS.side (r : RS K T ρ S H) {p : Addr} {u o : HO} (h : H p = some u) (n : p ∉ ρ) (n1 : ∀ vs, u ≠ .tup vs) (n2 : ∀ o w, u ≠ .frz o w) (n3 : ∀ ps, u ≠ .tbl ps) (n4 : ∀ φ, u ≠ .ext φ) :
    Lw ρ H ρ (upd H p o) ∧ RS K T ρ S (upd H p o) := by
  have ne : ∀ {b : Addr} {w : HO}, H b = some w → w ≠ u → b ≠ p := fun {b w} e q z => by
    subst z; rw [h] at e; exact q (Option.some.inj e).symm
  have lw : Lw ρ H ρ (upd H p o) := ⟨⟨[], by simp⟩, fun a vs e => by rw [upd_ne (ne e fun z => n1 _ z.symm)]; exact e, fun a _ _ e => by rw [upd_ne (ne e fun z => n2 _ _ z.symm)]; exact e⟩
  refine ⟨lw, ⟨r.len, r.nd, fun i a ob h1 h2 => ?_, fun q hq => ?_⟩⟩
  · exact (r.ob i a ob h1 h2).lw lw (upd_ne fun z => n (by rw [← z]; exact List.mem_of_getElem? h1))
  · obtain ⟨ps, h1, h2, h3⟩ := r.tabs q hq
    refine ⟨ps, by rw [upd_ne (ne h1 fun z => n3 _ z.symm)]; exact h1, h2, fun pos cv hc => ?_⟩
    obtain ⟨c, e1, e2⟩ := h3 pos cv hc
    exact ⟨c, e1, by rw [upd_ne (ne e2 fun z => n4 _ z.symm)]; exact e2⟩
/-- .. that was not there at first -/
theorem Le.side {p : Addr} {o : HO} (l : Le ρ H ρ' H') (h : H p = none) : Le ρ H ρ' (upd H' p o) where
  pre := l.pre
  tup := fun a vs e => by rw [upd_ne (ne_of_none e h)]; exact l.tup a vs e
  frz := fun a _ _ e n => by rw [upd_ne (ne_of_none e h)]; exact l.frz a _ _ e n
  keep := fun a _ e n t => by rw [upd_ne (ne_of_none e h)]; exact l.keep a _ e n t
  new := l.new
theorem Le.adopt {p : Addr} (l : Le ρ H ρ' H') (h : H p = none) : Le ρ H (ρ' ++ [p]) H' where
  pre := by obtain ⟨e, rfl⟩ := l.pre; exact ⟨e ++ [p], by simp⟩
  tup := l.tup
  frz := l.frz
  keep := l.keep
  new := fun b o e t n z => by
    rcases List.mem_append.mp z with z | z
    · exact l.new b o e t n z
    · have : b = p := by simpa using z
      subst this; rw [h] at e; cases e
end

/-! ### slots -/
def RO (K : PySem.W.Frag) (ρ : List Addr) (H : Hp) : Option D → Option V → Prop
  | none, _ => True
  | some d, some v => RD K ρ H d v
  | some _, none => False
abbrev RE (K : PySem.W.Frag) (ρ : List Addr) (H : Hp) (s : Env) (σ : L2.St) : Prop := Paired (RO K ρ H) s σ
theorem RO.le {K : PySem.W.Frag} {T : Tbs} {ρ ρ' : List Addr} {S : Store} {H H' : Hp} {x : Option D} {y : Option V} (h : RO K ρ H x y) (r : RS K T ρ S H) (l : Le ρ H ρ' H') : RO K ρ' H' x y := by
  cases x with
  | none => trivial
  | some d =>
    cases y with
    | none => exact h
    | some v => exact RD.le (show RD K ρ H d v from h) r l
theorem RE.le {K : PySem.W.Frag} {T : Tbs} {ρ ρ' : List Addr} {S : Store} {H H' : Hp} {s : Env} {σ : L2.St} (h : RE K ρ H s σ) (r : RS K T ρ S H) (l : Le ρ H ρ' H') : RE K ρ' H' s σ := Paired.mapP h fun _ _ z => RO.le z r l
theorem RE.set {K : PySem.W.Frag} {ρ : List Addr} {H : Hp} {s : Env} {σ : L2.St} {d : D} {v : V} (h : RE K ρ H s σ) (i : Nat) (r : RD K ρ H d v) : RE K ρ H (s.set i (some d)) (σ.set i (some v)) :=
  Paired.set1 (R := RO K ρ H) (x := some d) (y := some v) r i h
theorem RE.setN {K : PySem.W.Frag} {ρ : List Addr} {H : Hp} {s : Env} {σ : L2.St} {y : Option V} (h : RE K ρ H s σ) (i : Nat) : RE K ρ H (s.set i none) (σ.set i y) :=
  Paired.set1 (R := RO K ρ H) (x := none) (y := y) trivial i h
theorem RE.wipe {K : PySem.W.Frag} {ρ : List Addr} {H : Hp} {s : Env} {σ : L2.St} (h : RE K ρ H s σ) : ∀ vs : List Nat, RE K ρ H (wipeE s vs) (L2.wipe σ vs)
  | [] => h
  | v :: vs => RE.setN (RE.wipe h vs) v

/-! ### what a result is to bring -/
section
variable (K : PySem.W.Frag) (mg : Str → Option Value) (T : Tbs)
def Post (E : XK) (ρ : List Addr) (H : Hp) {α β : Type} (R : List Addr → Hp → α → β → Prop) (Q : β → Hp → Prop) : Res α → Prop
  | .ok a S' => ∀ ρ' H' b, Le ρ H ρ' H' → RS K T ρ' S' H' → R ρ' H' a b → Q b H'
  | .ex c w S' => ∀ ρ' H' v dd C, Le ρ H ρ' H' → RS K T ρ' S' H' → RD K ρ' H' w v → H' dd = some (.xd [(("what" : Str), v)]) → mg (Str.ofString c) = some (.ref C) → E (.ref C) (some dd) H'
  | .bad => False
def PostS (W : WX) (D : Ends) (ρ : List Addr) (H : Hp) : Rs → Prop
  | .nx s' S' => ∀ ρ' H' σ', Le ρ H ρ' H' → RS K T ρ' S' H' → RE K ρ' H' s' σ' → D.nx σ' H'
  | .rt d S' => ∀ ρ' H' v, Le ρ H ρ' H' → RS K T ρ' S' H' → RD K ρ' H' d v → D.rt v H'
  | .bk s' S' => ∀ ρ' H' σ', Le ρ H ρ' H' → RS K T ρ' S' H' → RE K ρ' H' s' σ' → D.bk σ' H'
  | .ct s' S' => ∀ ρ' H' σ', Le ρ H ρ' H' → RS K T ρ' S' H' → RE K ρ' H' s' σ' → D.ct σ' H'
  | .ex c w s' S' => ∀ ρ' H' σ' v dd C, Le ρ H ρ' H' → RS K T ρ' S' H' → RE K ρ' H' s' σ' → RD K ρ' H' w v → H' dd = some (.xd [(("what" : Str), v)]) → mg (Str.ofString c) = some (.ref C) → W (.ref C) (some dd) σ' H'
  | .bad => False
end
abbrev RB : List Addr → Hp → Bool → Bool → Prop := fun _ _ a b => a = b
section
variable {K : PySem.W.Frag} {mg : Str → Option Value} {T : Tbs} {E : XK} {W : WX} {Dd : Ends} {ρ ρ' : List Addr} {H H' : Hp} {α β α' β' : Type} {R : List Addr → Hp → α → β → Prop} {R' : List Addr → Hp → α' → β' → Prop} {Q Q' : β → Hp → Prop} {Q2 : β' → Hp → Prop}
theorem Post.le {r : Res α} (h : Post K mg T E ρ H R Q r) (l : Le ρ H ρ' H') : Post K mg T E ρ' H' R Q r := by
  cases r with
  | ok a S => exact fun ρ2 H2 b l2 => h ρ2 H2 b (l.trans l2)
  | ex c w S => exact fun ρ2 H2 v dd C l2 => h ρ2 H2 v dd C (l.trans l2)
  | bad => exact h
theorem Post.imp {r : Res α} (h : Post K mg T E ρ H R Q r) (q : ∀ b H', Q b H' → Q' b H') : Post K mg T E ρ H R Q' r := by
  cases r with
  | ok a S => exact fun ρ2 H2 b l2 h1 h2 => q _ _ (h ρ2 H2 b l2 h1 h2)
  | ex c w S => exact h
  | bad => exact h
theorem Post.bind {r : Res α} {f : α → Store → Res α'} (h : Post K mg T E ρ H R' Q2 (r.bind f)) :
    Post K mg T E ρ H R (fun b H1 => ∃ ρ1 S1 a, Le ρ H ρ1 H1 ∧ RS K T ρ1 S1 H1 ∧ R ρ1 H1 a b ∧ Post K mg T E ρ1 H1 R' Q2 (f a S1)) r := by
  cases r with
  | ok a S => exact fun ρ1 H1 b l h1 h2 => ⟨ρ1, S, a, l, h1, h2, Post.le (show Post K mg T E ρ H R' Q2 (f a S) from h) l⟩
  | ex c w S => exact h
  | bad => exact h
theorem PostS.le {r : Rs} (h : PostS K mg T W Dd ρ H r) (l : Le ρ H ρ' H') : PostS K mg T W Dd ρ' H' r := by
  cases r with
  | nx s S => exact fun ρ2 H2 b l2 => h ρ2 H2 b (l.trans l2)
  | rt s S => exact fun ρ2 H2 b l2 => h ρ2 H2 b (l.trans l2)
  | bk s S => exact fun ρ2 H2 b l2 => h ρ2 H2 b (l.trans l2)
  | ct s S => exact fun ρ2 H2 b l2 => h ρ2 H2 b (l.trans l2)
  | ex c w s S => exact fun ρ2 H2 σ v dd C l2 => h ρ2 H2 σ v dd C (l.trans l2)
  | bad => exact h
theorem PostS.ofE {S : Store} {s : Env} {σ : L2.St} {r : Res α} {k : α → Store → Rs} (rs : RS K T ρ S H) (re : RE K ρ H s σ) (h : PostS K mg T W Dd ρ H (ofE r s k)) :
    Post K mg T (WE W σ) ρ H R (fun b H1 => ∃ ρ1 S1 a, Le ρ H ρ1 H1 ∧ RS K T ρ1 S1 H1 ∧ RE K ρ1 H1 s σ ∧ R ρ1 H1 a b ∧ PostS K mg T W Dd ρ1 H1 (k a S1)) r := by
  cases r with
  | ok a S => exact fun ρ1 H1 b l h1 h2 => ⟨ρ1, S, a, l, h1, re.le rs l, h2, PostS.le (show PostS K mg T W Dd ρ H (k a S) from h) l⟩
  | ex c w S => exact fun ρ1 H1 v dd C l h1 h2 h3 h4 => h ρ1 H1 σ v dd C l h1 (re.le rs l) h2 h3 h4
  | bad => exact h
end

/-! ### functional readings of syntax -/
section
variable (X : Cx) (T : Tbs) (W : WX)
def TEf (f : FE) : TE := fun σ H Q => ∃ ρ S s, RS X.K T ρ S H ∧ RE X.K ρ H s σ ∧ Post X.K X.mg T (WE W σ) ρ H (RD X.K) Q (f s S)
def TTf (f : FT) : TT := fun σ H Q => ∃ ρ S s, RS X.K T ρ S H ∧ RE X.K ρ H s σ ∧ Post X.K X.mg T (WE W σ) ρ H RB Q (f s S)
def TAf (f : FA) : TA := fun σ H Q => ∃ ρ S s, RS X.K T ρ S H ∧ RE X.K ρ H s σ ∧ Post X.K X.mg T (WE W σ) ρ H (RDs X.K) Q (f s S)
def TSf (f : FS) : TS := fun D σ H => ∃ ρ S s, RS X.K T ρ S H ∧ RE X.K ρ H s σ ∧ PostS X.K X.mg T W D ρ H (f s S)
abbrev EV (e : Expr) (f : FE) : Prop := PE X e (TEf X T W f)
abbrev ET (e : Expr) (f : FT) : Prop := PT X e (TTf X T W f)
abbrev EW (e : Expr) (f : FT) : Prop := PW X e (TTf X T W f)
abbrev EA (es : List Expr) (f : FA) : Prop := PA X es (TAf X T W f)
abbrev ES (st : Stmt) (f : FS) : Prop := PS X st (TSf X T W f)
abbrev ESs (st : List Stmt) (f : FS) : Prop := PSs X st (TSf X T W f)
end
theorem PE.imp {X : Cx} {e : Expr} {t t' : TE} (h : PE X e t) (i : ∀ σ H Q, t' σ H Q → t σ H Q) : PE X e t' := ⟨fun pins s σ H Q I q => h.run pins s σ H Q I (i σ H Q q)⟩
theorem PT.imp {X : Cx} {e : Expr} {t t' : TT} (h : PT X e t) (i : ∀ σ H Q, t' σ H Q → t σ H Q) : PT X e t' := ⟨fun pins s σ H Q I q => h.run pins s σ H Q I (i σ H Q q)⟩
theorem PW.imp {X : Cx} {e : Expr} {t t' : TT} (h : PW X e t) (i : ∀ σ H Q, t' σ H Q → t σ H Q) : PW X e t' := ⟨fun wh pins s σ H Q I q => h.run wh pins s σ H Q I (i σ H Q q)⟩
theorem PA.imp {X : Cx} {e : List Expr} {t t' : TA} (h : PA X e t) (i : ∀ σ H Q, t' σ H Q → t σ H Q) : PA X e t' := ⟨fun pos pins s σ H Q I q => h.run pos pins s σ H Q I (i σ H Q q)⟩
theorem PS.imp {X : Cx} {e : Stmt} {t t' : TS} (h : PS X e t) (i : ∀ D σ H, t' D σ H → t D σ H) : PS X e t' := ⟨fun pins s σ H D I q => h.run pins s σ H D I (i D σ H q)⟩
theorem PSs.imp {X : Cx} {e : List Stmt} {t t' : TS} (h : PSs X e t) (i : ∀ D σ H, t' D σ H → t D σ H) : PSs X e t' := ⟨fun pins s σ H D I q => h.run pins s σ H D I (i D σ H q)⟩
end Wk


set_option Elab.async false
set_option linter.all false
set_option maxRecDepth 100000
set_option maxHeartbeats 4000000
set_option autoImplicit false
/-! WkRules: the functional reading of each construct. -/
namespace Wk
open PySem PySem.Spec PyProof.Rows L2

section
variable {K : PySem.W.Frag} {T : Tbs} {ρ : List Addr} {S : Store} {H : Hp}
theorem RS.lstAt (r : RS K T ρ S H) {l : Nat} {v : V} {ds : List D} (h : RD K ρ H (.ref l) v) (hs : S[l]? = some (.lst ds)) : ∃ a vs, v = .ref a ∧ ρ[l]? = some a ∧ H a = some (.lst vs) ∧ RDs K ρ H ds vs ∧ vs.length ≤ sizeLine := by
  obtain ⟨a, rfl, ha⟩ := h.ref
  obtain ⟨vs, h1, h2, h3⟩ := r.ob l a _ ha hs
  exact ⟨a, vs, rfl, ha, h1, h2, h3⟩
theorem RS.dkAt (r : RS K T ρ S H) {l : Nat} {v : V} {ds : List (Kk × D)} (h : RD K ρ H (.ref l) v) (hs : S[l]? = some (.dk ds)) : ∃ a vs, v = .ref a ∧ ρ[l]? = some a ∧ H a = some (.dK vs) ∧ RKs K ρ H ds vs ∧ vs.length ≤ sizeLine := by
  obtain ⟨a, rfl, ha⟩ := h.ref
  obtain ⟨vs, h1, h2, h3⟩ := r.ob l a _ ha hs
  exact ⟨a, vs, rfl, ha, h1, h2, h3⟩
theorem RS.dtAt (r : RS K T ρ S H) {l : Nat} {v : V} {ds : List (List Kk × D)} (h : RD K ρ H (.ref l) v) (hs : S[l]? = some (.dt ds)) : ∃ a vs, v = .ref a ∧ ρ[l]? = some a ∧ H a = some (.dT vs) ∧ RKs K ρ H ds vs ∧ vs.length ≤ sizeLine := by
  obtain ⟨a, rfl, ha⟩ := h.ref
  obtain ⟨vs, h1, h2, h3⟩ := r.ob l a _ ha hs
  exact ⟨a, vs, rfl, ha, h1, h2, h3⟩
end

section
variable {X : Cx} {T : Tbs} {W : WX} {pos : Pos}
/-! ### names, constants -/
theorem ev_v (i : Nat) {x : Str} (hN : X.N[i]? = some x := by rfl) (hv : Vis X.env.scope x := by first | exact Or.inl rfl | exact Or.inr (Or.inl rfl) | exact Or.inr (Or.inr rfl)) (hd : (x == ("__debug__" : Str)) = false := by decide) (hcd : (x == ("__classdict__" : Str)) = false := by decide) :
    EV X T W (.Name x pos) (eV i) := by
  refine PE.imp (pe_var hN hv hd hcd) ?_
  rintro σ H Q ⟨ρ, S, s, rs, re, h⟩
  unfold eV at h
  cases e : s[i]? with
  | none => rw [e] at h; exact h.elim
  | some o =>
    rw [e] at h
    cases o with
    | none => exact h.elim
    | some d =>
      obtain ⟨y, hy, r⟩ := Paired.get1 re e
      cases y with
      | none => exact (show False from r).elim
      | some v => exact ⟨v, hy, h ρ H v (Le.refl _ _) rs r⟩
theorem ev_int {i : Int} {j : Nat} : EV X T W (.Constant (.int i) j pos) (eC (.int i)) := by
  refine PE.imp pe_int ?_
  rintro σ H Q ⟨ρ, S, s, rs, re, h⟩
  exact h ρ H _ (Le.refl _ _) rs rd_int
theorem ev_bl {b : Bool} {j : Nat} : EV X T W (.Constant (.bool b) j pos) (eC (.bl b)) := by
  refine PE.imp pe_bl ?_
  rintro σ H Q ⟨ρ, S, s, rs, re, h⟩
  exact h ρ H _ (Le.refl _ _) rs rd_bl
theorem ev_non {j : Nat} : EV X T W (.Constant .none j pos) (eC .non) := by
  refine PE.imp pe_non ?_
  rintro σ H Q ⟨ρ, S, s, rs, re, h⟩
  exact h ρ H _ (Le.refl _ _) rs rd_non
theorem ev_str {x : Str} {j : Nat} : EV X T W (.Constant (.str x) j pos) (eC (.str x)) := by
  refine PE.imp pe_str ?_
  rintro σ H Q ⟨ρ, S, s, rs, re, h⟩
  exact h ρ H _ (Le.refl _ _) rs rd_str
/-- a module's constant -/
theorem ev_globI {x : Str} {i : Int} {t : Tok} (hm : X.mg x = some (.int i t)) (hg : Gl X x := by rfl) (hd : (x == ("__debug__" : Str)) = false := by decide) : EV X T W (.Name x pos) (eC (.int i)) := by
  refine PE.imp (pe_glob (v := .int i) hg hm ⟨_, rfl⟩ hd) ?_
  rintro σ H Q ⟨ρ, S, s, rs, re, h⟩
  exact h ρ H _ (Le.refl _ _) rs rd_int

/-! ### arguments, displays -/
theorem ea_nil : EA X T W [] aNil := by
  refine PA.imp pa_nil ?_
  rintro σ H Q ⟨ρ, S, s, rs, re, h⟩
  exact h ρ H _ (Le.refl _ _) rs (by unfold RDs; rfl)
theorem ea_cons {e : Expr} {es : List Expr} {f : FE} {g : FA} (ha : EV X T W e f) (hr : EA X T W es g) (hs : starEach (e :: es) X.env = (false, eval e X.env) :: starEach es X.env := by rfl) : EA X T W (e :: es) (aCons f g) := by
  refine PA.imp (pa_cons ha hr hs) ?_
  rintro σ H Q ⟨ρ, S, s, rs, re, h⟩
  refine ⟨ρ, S, s, rs, re, (Post.bind (R := RD X.K) h).imp ?_⟩
  rintro x H1 ⟨ρ1, S1, d, l1, rs1, rd1, h1⟩
  refine ⟨ρ1, S1, s, rs1, re.le rs l1, (Post.bind (R := RDs X.K) h1).imp ?_⟩
  rintro xs H2 ⟨ρ2, S2, ds, l2, rs2, rd2, h2⟩
  exact h2 ρ2 H2 (x :: xs) (Le.refl _ _) rs2 (by unfold RDs; exact ⟨x, xs, rfl, rd1.le rs1 l2, rd2⟩)
theorem ev_tup {es : List Expr} {f : FA} {x1} (h : EA X T W es f) : EV X T W (.Tuple es x1 pos) (eTup f) := by
  refine PE.imp (pe_tup h) ?_
  rintro σ H Q ⟨ρ, S, s, rs, re, h⟩
  refine ⟨ρ, S, s, rs, re, (Post.bind (R := RDs X.K) h).imp ?_⟩
  rintro xs H1 ⟨ρ1, S1, ds, l1, rs1, rd1, h1⟩
  have hl := rd1.len
  by_cases hz : ds.length ≤ LIM
  · rw [if_pos hz] at h1
    rw [lim_eq, hl] at hz
    refine ⟨hz, fun p hp => ?_⟩
    obtain ⟨a, b, c⟩ := tup_new rs1 hp rd1 hz
    exact h1 _ _ _ a b c
  · rw [if_neg hz] at h1; exact h1.elim
theorem ev_lst {es : List Expr} {f : FA} (h : EA X T W es f) : EV X T W (.List es pos) (eLst f) := by
  refine PE.imp (pe_lst h) ?_
  rintro σ H Q ⟨ρ, S, s, rs, re, h⟩
  refine ⟨ρ, S, s, rs, re, (Post.bind (R := RDs X.K) h).imp ?_⟩
  rintro xs H1 ⟨ρ1, S1, ds, l1, rs1, rd1, h1⟩
  have hl := rd1.len
  by_cases hz : ds.length ≤ LIM
  · rw [if_pos hz] at h1
    rw [lim_eq, hl] at hz
    refine ⟨hz, fun p hp => ?_⟩
    obtain ⟨a, b, c⟩ := lst_new rs1 hp rd1 hz
    exact h1 _ _ _ a b c
  · rw [if_neg hz] at h1; exact h1.elim
theorem ev_dictK : EV X T W (.Dict [] [] pos) eDictK := by
  refine PE.imp pe_dnewK ?_
  rintro σ H Q ⟨ρ, S, s, rs, re, h⟩
  intro p hp
  obtain ⟨a, b, c⟩ := dk_new (ds := []) (vs := []) rs hp .nil (Nat.zero_le _)
  exact h _ _ _ a b c
theorem ev_dictT : EV X T W (.Dict [] [] pos) eDictT := by
  refine PE.imp pe_dnewT ?_
  rintro σ H Q ⟨ρ, S, s, rs, re, h⟩
  intro p hp
  obtain ⟨a, b, c⟩ := dt_new (ds := []) (vs := []) rs hp .nil (Nat.zero_le _)
  exact h _ _ _ a b c

/-! ### operators by values -/
variable (X T) in
/-- a two-place rule and its function -/
def OpS (r : R2) (o : Op) : Prop := ∀ (E : XK) (ρ : List Addr) (S : Store) (H : Hp) (x y : D) (v w : V) (Q : VK), RS X.K T ρ S H → RD X.K ρ H x v → RD X.K ρ H y w → Post X.K X.mg T E ρ H (RD X.K) Q (o x y S) → r v w H Q
variable (X T) in
def UnS (r : V → Hp → VK → Prop) (o : D → Store → Res D) : Prop := ∀ (E : XK) (ρ : List Addr) (S : Store) (H : Hp) (x : D) (v : V) (Q : VK), RS X.K T ρ S H → RD X.K ρ H x v → Post X.K X.mg T E ρ H (RD X.K) Q (o x S) → r v H Q
variable {a b c : Expr} {fa fb fc : FE}
theorem tef_op {r : R2} {o : Op} (hs : OpS X T r o) : ∀ σ H Q, TEf X T W (eOp o fa fb) σ H Q → tOp r (TEf X T W fa) (TEf X T W fb) σ H Q := by
  rintro σ H Q ⟨ρ, S, s, rs, re, h⟩
  refine ⟨ρ, S, s, rs, re, (Post.bind (R := RD X.K) h).imp ?_⟩
  rintro v H1 ⟨ρ1, S1, x, l1, rs1, rd1, h1⟩
  refine ⟨ρ1, S1, s, rs1, re.le rs l1, (Post.bind (R := RD X.K) h1).imp ?_⟩
  rintro w H2 ⟨ρ2, S2, y, l2, rs2, rd2, h2⟩
  exact hs _ ρ2 S2 H2 x y v w Q rs2 (rd1.le rs1 l2) rd2 h2
theorem tef_un {r : V → Hp → VK → Prop} {o : D → Store → Res D} (hs : UnS X T r o) : ∀ σ H Q, TEf X T W (eUn o fa) σ H Q → tUn r (TEf X T W fa) σ H Q := by
  rintro σ H Q ⟨ρ, S, s, rs, re, h⟩
  refine ⟨ρ, S, s, rs, re, (Post.bind (R := RD X.K) h).imp ?_⟩
  rintro v H1 ⟨ρ1, S1, x, l1, rs1, rd1, h1⟩
  exact hs _ ρ1 S1 H1 x v Q rs1 rd1 h1
theorem ev_op {op : Operator} {r : R2} {o : Op} (hs : OpR X (binaryOp op) r ∧ OpS X T r o) (ha : EV X T W a fa) (hb : EV X T W b fb) : EV X T W (.BinOp a op b pos) (eOp o fa fb) := PE.imp (pe_op hs.1 ha hb) (tef_op hs.2)
theorem ev_un {op : UnaryOp} {r : V → Hp → VK → Prop} {o : D → Store → Res D} (hs : UnR X (unaryOp op) r ∧ UnS X T r o) (ha : EV X T W a fa) : EV X T W (.UnaryOp op a pos) (eUn o fa) := PE.imp (pe_un hs.1 ha) (tef_un hs.2)
theorem ev_cmp {op : CmpOp} {r : R2} {o : Op} (hs : OpR X (compareOp op) r ∧ OpS X T r o) (ha : EV X T W a fa) (hb : EV X T W b fb) (hm : behindInMarks op b = false := by first | exact nomark _ | rfl) : EV X T W (.Compare a [op] [b] pos) (eOp o fa fb) := PE.imp (pe_cmpR hs.1 ha hb hm) (tef_op hs.2)
theorem ev_ix {r : R2} {o : Op} (hs : IxR X r ∧ OpS X T r o) (ha : EV X T W a fa) (hb : EV X T W b fb) (hp : PlainIx b := by exact fun _ _ => rfl) : EV X T W (.Subscript a b pos) (eOp o fa fb) := PE.imp (pe_ix hs.1 ha hb hp) (tef_op hs.2)
theorem ev_chain {op op' : CmpOp} {r r' : R2} {o o' : Op} (hs : OpR X (compareOp op) r ∧ OpS X T r o) (hs' : OpR X (compareOp op') r' ∧ OpS X T r' o') (ha : EV X T W a fa) (hb : EV X T W b fb) (hc : EV X T W c fc) (hm : lastMarks [op, op'] [b, c] = false := by with_unfolding_all rfl) :
    EV X T W (.Compare a [op, op'] [b, c] pos) (eChain o o' fa fb fc) := by
  refine PE.imp (pe_chain hs.1 hs'.1 ha hb hc hm) ?_
  rintro σ H Q ⟨ρ, S, s, rs, re, h⟩
  refine ⟨ρ, S, s, rs, re, (Post.bind (R := RD X.K) h).imp ?_⟩
  rintro v H1 ⟨ρ1, S1, x, l1, rs1, rd1, h1⟩
  refine ⟨ρ1, S1, s, rs1, re.le rs l1, (Post.bind (R := RD X.K) h1).imp ?_⟩
  rintro w H2 ⟨ρ2, S2, y, l2, rs2, rd2, h2⟩
  refine hs.2 _ ρ2 S2 H2 x y v w _ rs2 (rd1.le rs1 l2) rd2 ((Post.bind (R := RD X.K) h2).imp ?_)
  rintro z H3 ⟨ρ3, S3, dz, l3, rs3, rd3, h3⟩
  cases dz with
  | bl k =>
    refine ⟨k, rd3.bl, ?_⟩
    cases k with
    | true =>
      rw [if_pos rfl]
      refine ⟨ρ3, S3, s, rs3, ((re.le rs l1).le rs1 l2).le rs2 l3, (Post.bind (R := RD X.K) h3).imp ?_⟩
      rintro w' H4 ⟨ρ4, S4, d4, l4, rs4, rd4, h4⟩
      exact hs'.2 _ ρ4 S4 H4 y d4 w w' Q rs4 ((rd2.le rs2 l3).le rs3 l4) rd4 h4
    | false =>
      rw [if_neg (by decide)]
      exact h3 ρ3 H3 _ (Le.refl _ _) rs3 rd_bl
  | _ => exact (show False from h3).elim

/-! ### tests -/
theorem ttf_e {f : FE} : ∀ σ H Q, TTf X T W (tE f) σ H Q → tB (TEf X T W f) σ H Q := by
  rintro σ H Q ⟨ρ, S, s, rs, re, h⟩
  refine ⟨ρ, S, s, rs, re, (Post.bind (R := RD X.K) h).imp ?_⟩
  rintro v H1 ⟨ρ1, S1, x, l1, rs1, rd1, h1⟩
  cases x with
  | bl k => exact ⟨k, rd1.bl, h1 ρ1 H1 k (Le.refl _ _) rs1 rfl⟩
  | _ => exact (show False from h1).elim
/-- an expression whose value is a truth -/
theorem et_e {f : FE} (h : EV X T W a f) (he : ∀ whole, isTrue a X.env whole = (do let v ← whole; standAt a.pos; holding [v] (truthy v)) := by intro _; rfl) : ET X T W a (tE f) := PT.imp (pt_val h he) ttf_e
theorem et_cmp {op : CmpOp} {r : R2} {o : Op} (hs : OpR X (compareOp op) r ∧ OpS X T r o) (ha : EV X T W a fa) (hb : EV X T W b fb) (hm : behindInMarks op b = false := by first | exact nomark _ | rfl) : ET X T W (.Compare a [op] [b] pos) (tE (eOp o fa fb)) := by
  refine PT.imp (pt_cmpR hs.1 ha hb hm) ?_
  intro σ H Q h
  obtain ⟨ρ, S, s, rs, re, h⟩ := ttf_e _ _ _ h
  exact tef_op hs.2 _ _ _ ⟨ρ, S, s, rs, re, h⟩
theorem et_chain {op op' : CmpOp} {r r' : R2} {o o' : Op} (hs : OpR X (compareOp op) r ∧ OpS X T r o) (hs' : OpR X (compareOp op') r' ∧ OpS X T r' o') (ha : EV X T W a fa) (hb : EV X T W b fb) (hc : EV X T W c fc) (hm : lastMarks [op, op'] [b, c] = false := by with_unfolding_all rfl) :
    ET X T W (.Compare a [op, op'] [b, c] pos) (tE (eChain o o' fa fb fc)) := by
  refine PT.imp (pt_chain hs.1 hs'.1 ha hb hc hm) ?_
  intro σ H Q h
  obtain ⟨ρ, S, s, rs, re, h⟩ := ttf_e _ _ _ h
  refine ⟨ρ, S, s, rs, re, (Post.bind (R := RD X.K) h).imp ?_⟩
  rintro v H1 ⟨ρ1, S1, x, l1, rs1, rd1, h1⟩
  refine ⟨ρ1, S1, s, rs1, re.le rs l1, (Post.bind (R := RD X.K) h1).imp ?_⟩
  rintro w H2 ⟨ρ2, S2, y, l2, rs2, rd2, h2⟩
  refine hs.2 _ ρ2 S2 H2 x y v w _ rs2 (rd1.le rs1 l2) rd2 ((Post.bind (R := RD X.K) h2).imp ?_)
  rintro z H3 ⟨ρ3, S3, dz, l3, rs3, rd3, h3⟩
  cases dz with
  | bl k =>
    refine ⟨k, rd3.bl, ?_⟩
    cases k with
    | true =>
      rw [if_pos rfl]
      refine ⟨ρ3, S3, s, rs3, ((re.le rs l1).le rs1 l2).le rs2 l3, (Post.bind (R := RD X.K) h3).imp ?_⟩
      rintro w' H4 ⟨ρ4, S4, d4, l4, rs4, rd4, h4⟩
      exact hs'.2 _ ρ4 S4 H4 y d4 w w' _ rs4 ((rd2.le rs2 l3).le rs3 l4) rd4 h4
    | false =>
      rw [if_neg (by decide)]
      exact h3 ρ3 H3 _ (Le.refl _ _) rs3 rd_bl
  | _ => exact (show False from h3).elim
variable {t u : FT} {rest : List Expr}
theorem ew_and1 (ha : ET X T W a t) : EW X T W (.BoolOp .And [a] pos) t := pw_and1 ha
theorem ew_or1 (ha : ET X T W a t) : EW X T W (.BoolOp .Or [a] pos) t := pw_or1 ha
theorem ew_and (ha : ET X T W a t) (hb : EW X T W (.BoolOp .And (b :: rest) pos) u) : EW X T W (.BoolOp .And (a :: b :: rest) pos) (tAnd t u) := by
  refine PW.imp (pw_and ha hb) ?_
  rintro σ H Q ⟨ρ, S, s, rs, re, h⟩
  refine ⟨ρ, S, s, rs, re, (Post.bind (R := RB) h).imp ?_⟩
  rintro k H1 ⟨ρ1, S1, k', l1, rs1, rfl, h1⟩
  cases k' with
  | true =>
    rw [if_pos rfl] at h1 ⊢
    exact ⟨ρ1, S1, s, rs1, re.le rs l1, h1⟩
  | false =>
    rw [if_neg (by decide)] at h1 ⊢
    exact h1 ρ1 H1 false (Le.refl _ _) rs1 rfl
theorem ew_or (ha : ET X T W a t) (hb : EW X T W (.BoolOp .Or (b :: rest) pos) u) : EW X T W (.BoolOp .Or (a :: b :: rest) pos) (tOr t u) := by
  refine PW.imp (pw_or ha hb) ?_
  rintro σ H Q ⟨ρ, S, s, rs, re, h⟩
  refine ⟨ρ, S, s, rs, re, (Post.bind (R := RB) h).imp ?_⟩
  rintro k H1 ⟨ρ1, S1, k', l1, rs1, rfl, h1⟩
  cases k' with
  | true =>
    rw [if_pos rfl] at h1 ⊢
    exact h1 ρ1 H1 true (Le.refl _ _) rs1 rfl
  | false =>
    rw [if_neg (by decide)] at h1 ⊢
    exact ⟨ρ1, S1, s, rs1, re.le rs l1, h1⟩
theorem et_w (h : EW X T W a t) : ET X T W a t := PW.pt h
theorem et_not (ha : ET X T W a t) : ET X T W (.UnaryOp .Not a pos) (Wk.tNot t) := by
  refine PT.imp (pt_not ha) ?_
  rintro σ H Q ⟨ρ, S, s, rs, re, h⟩
  refine ⟨ρ, S, s, rs, re, (Post.bind (R := RB) h).imp ?_⟩
  rintro k H1 ⟨ρ1, S1, k', l1, rs1, rfl, h1⟩
  exact h1 ρ1 H1 _ (Le.refl _ _) rs1 rfl
theorem ev_one {op : BoolOp} {f : FE} (h : EV X T W a f) : EV X T W (.BoolOp op [a] pos) f := pe_one h
theorem ev_and (ha : EV X T W a fa) (hb : EV X T W (.BoolOp .And (b :: rest) pos) fb) : EV X T W (.BoolOp .And (a :: b :: rest) pos) (eAnd fa fb) := by
  refine PE.imp (pe_and ha hb) ?_
  rintro σ H Q ⟨ρ, S, s, rs, re, h⟩
  obtain ⟨ρ, S, s, rs, re, h⟩ := ttf_e σ H (fun k H1 => if k = true then TEf X T W fb σ H1 Q else Q (.bl false) H1) (by
    refine ⟨ρ, S, s, rs, re, (Post.bind (R := RB) h).imp ?_⟩
    rintro k H1 ⟨ρ1, S1, k', l1, rs1, rfl, h1⟩
    cases k' with
    | true => rw [if_pos rfl] at h1 ⊢; exact ⟨ρ1, S1, s, rs1, re.le rs l1, h1⟩
    | false => rw [if_neg (by decide)] at h1 ⊢; exact h1 ρ1 H1 _ (Le.refl _ _) rs1 rd_bl)
  exact ⟨ρ, S, s, rs, re, h⟩
theorem ev_or (ha : EV X T W a fa) (hb : EV X T W (.BoolOp .Or (b :: rest) pos) fb) : EV X T W (.BoolOp .Or (a :: b :: rest) pos) (eOr fa fb) := by
  refine PE.imp (pe_or ha hb) ?_
  rintro σ H Q ⟨ρ, S, s, rs, re, h⟩
  obtain ⟨ρ, S, s, rs, re, h⟩ := ttf_e σ H (fun k H1 => if k = true then Q (.bl true) H1 else TEf X T W fb σ H1 Q) (by
    refine ⟨ρ, S, s, rs, re, (Post.bind (R := RB) h).imp ?_⟩
    rintro k H1 ⟨ρ1, S1, k', l1, rs1, rfl, h1⟩
    cases k' with
    | true => rw [if_pos rfl] at h1 ⊢; exact h1 ρ1 H1 _ (Le.refl _ _) rs1 rd_bl
    | false => rw [if_neg (by decide)] at h1 ⊢; exact ⟨ρ1, S1, s, rs1, re.le rs l1, h1⟩)
  exact ⟨ρ, S, s, rs, re, h⟩
theorem ev_not (ha : EV X T W a fa) : EV X T W (.UnaryOp .Not a pos) (eNot fa) := by
  refine PE.imp (pe_not ha) ?_
  rintro σ H Q ⟨ρ, S, s, rs, re, h⟩
  obtain ⟨ρ, S, s, rs, re, h⟩ := ttf_e σ H (fun k H1 => Q (.bl (!k)) H1) (by
    refine ⟨ρ, S, s, rs, re, (Post.bind (R := RB) h).imp ?_⟩
    rintro k H1 ⟨ρ1, S1, k', l1, rs1, rfl, h1⟩
    exact h1 ρ1 H1 _ (Le.refl _ _) rs1 rd_bl)
  exact ⟨ρ, S, s, rs, re, h⟩
theorem ev_if (hc : ET X T W c t) (ha : EV X T W a fa) (hb : EV X T W b fb) : EV X T W (.IfExp c a b pos) (eIf t fa fb) := by
  refine PE.imp (pe_ifExp hc ha hb) ?_
  rintro σ H Q ⟨ρ, S, s, rs, re, h⟩
  refine ⟨ρ, S, s, rs, re, (Post.bind (R := RB) h).imp ?_⟩
  rintro k H1 ⟨ρ1, S1, k', l1, rs1, rfl, h1⟩
  cases k' with
  | true => rw [if_pos rfl] at h1 ⊢; exact ⟨ρ1, S1, s, rs1, re.le rs l1, h1⟩
  | false => rw [if_neg (by decide)] at h1 ⊢; exact ⟨ρ1, S1, s, rs1, re.le rs l1, h1⟩
end
end Wk


set_option Elab.async false
set_option linter.all false
set_option maxRecDepth 100000
set_option maxHeartbeats 4000000
set_option autoImplicit false
/-! WkOps: the functional reading of operators by values. -/
namespace Wk
open PySem PySem.Spec PyProof.Rows L2
section
variable {X : Cx} {T : Tbs}
theorem noFl {α : Prop} (h : False) : α := h.elim

/-! ### + -/
abbrev rAddA (K : PySem.W.Frag) : R2 := fun x y H Q => (fun x y H Q => (rI0 fun i j => .int (i + j)) x y H Q ∨ (fun x y H Q => ∃ i j, x = .str i ∧ y = .str j ∧ i.length + j.length ≤ sizeLine ∧ Q (.str (i ++ j)) H) x y H Q) x y H Q ∨ (fun x y H Q => rCatA K x y H Q ∨ rCat x y H Q) x y H Q
theorem os_add : OpR X (binaryOp .Add) (rAddA X.K) ∧ OpS X T (rAddA X.K) oAdd := by
  refine ⟨OpR.or (OpR.or op_add op_add_str) (OpR.or op_catA op_cat), ?_⟩
  intro E ρ S H x y v w Q rs rx ry h
  cases x with
  | int i =>
    cases y with
    | int j =>
      rw [rx.int, ry.int]
      exact .inl (.inl ⟨i, j, rfl, rfl, h ρ H _ (Le.refl _ _) rs rd_int⟩)
    | _ => exact (show False from h).elim
  | str i =>
    cases y with
    | str j =>
      rw [rx.str, ry.str]
      by_cases hz : i.length + j.length ≤ LIM
      · rw [show oAdd (.str i) (.str j) S = .ok (.str (i ++ j)) S from if_pos hz] at h
        exact .inl (.inr ⟨i, j, rfl, rfl, by rw [← lim_eq]; exact hz, h ρ H _ (Le.refl _ _) rs rd_str⟩)
      · rw [show oAdd (.str i) (.str j) S = .bad from if_neg hz] at h
        exact (show False from h).elim
    | _ => exact (show False from h).elim
  | tup i =>
    cases y with
    | tup j =>
      obtain ⟨a, vs, rfl, ta, ra⟩ := rx.tup
      obtain ⟨b, ws, rfl, tb, rb⟩ := ry.tup
      by_cases hz : i.length + j.length ≤ LIM
      · rw [show oAdd (.tup i) (.tup j) S = .ok (.tup (i ++ j)) S from if_pos hz] at h
        rw [lim_eq, ra.len, rb.len] at hz
        refine .inr (.inl ⟨a, b, vs, ws, rfl, rfl, ta.sq, tb.sq, hz, fun e => ?_, fun _ e => ?_, fun _ _ p hp => ?_⟩)
        · have e1 : i = [] := List.length_eq_zero_iff.mp (by rw [ra.len, e]; rfl)
          subst e1
          exact h ρ H _ (Le.refl _ _) rs (rd_tup tb rb)
        · have e1 : j = [] := List.length_eq_zero_iff.mp (by rw [rb.len, e]; rfl)
          subst e1
          rw [List.append_nil] at h
          exact h ρ H _ (Le.refl _ _) rs (rd_tup ta ra)
        · obtain ⟨q1, q2, q3⟩ := tup_new rs hp (RDs.of (Paired.app ra.pair rb.pair)) (by rw [List.length_append]; exact hz)
          exact h _ _ _ q1 q2 q3
      · rw [show oAdd (.tup i) (.tup j) S = .bad from if_neg hz] at h
        exact (show False from h).elim
    | _ => exact (show False from h).elim
  | ref l =>
    cases y with
    | ref m =>
      unfold oAdd at h
      dsimp only at h
      split at h
      · rename_i a b e1 e2
        obtain ⟨p, vs, rfl, hp, hv, ra, za⟩ := rs.lstAt rx e1
        obtain ⟨q, ws, rfl, hq, hw, rb, zb⟩ := rs.lstAt ry e2
        by_cases hz : a.length + b.length ≤ LIM
        · rw [if_pos hz] at h
          rw [lim_eq, ra.len, rb.len] at hz
          refine .inr (.inr ⟨p, q, vs, ws, rfl, rfl, hv, hw, hz, fun p hp => ?_⟩)
          obtain ⟨q1, q2, q3⟩ := lst_new rs hp (RDs.of (Paired.app ra.pair rb.pair)) (by rw [List.length_append]; exact hz)
          exact h _ _ _ q1 q2 q3
        · rw [if_neg hz] at h; exact (show False from h).elim
      · exact (show False from h).elim
    | _ => exact (show False from h).elim
  | _ => cases y <;> exact (show False from h).elim

/-! ### ints -/
theorem os_I {f : Value → Value → Sem Value} {C : Int → Int → Prop} {g : Int → Int → V} {o : Op} {gd : Int → Int → D} (ho : OpR X f (rI C g)) (hg : ∀ i j K ρ H, RD K ρ H (gd i j) (g i j))
    (h1 : ∀ i j S, (C i j ∧ o (.int i) (.int j) S = .ok (gd i j) S) ∨ o (.int i) (.int j) S = .bad) (h2 : ∀ x y S, (∃ i j, x = .int i ∧ y = .int j) ∨ o x y S = .bad) : OpR X f (rI C g) ∧ OpS X T (rI C g) o := by
  refine ⟨ho, ?_⟩
  intro E ρ S H x y v w Q rs rx ry h
  rcases h2 x y S with ⟨i, j, rfl, rfl⟩ | e
  · rcases h1 i j S with ⟨hc, e⟩ | e
    · rw [e] at h
      exact ⟨i, j, rx.int, ry.int, hc, h ρ H _ (Le.refl _ _) rs (hg ..)⟩
    · rw [e] at h; exact (show False from h).elim
  · rw [e] at h; exact (show False from h).elim
theorem os_I0 {f : Value → Value → Sem Value} {g : Int → Int → V} {o : Op} {gd : Int → Int → D} (ho : OpR X f (rI0 g)) (hg : ∀ i j K ρ H, RD K ρ H (gd i j) (g i j))
    (h1 : ∀ i j S, o (.int i) (.int j) S = .ok (gd i j) S) (h2 : ∀ x y S, (∃ i j, x = .int i ∧ y = .int j) ∨ o x y S = .bad) : OpR X f (rI0 g) ∧ OpS X T (rI0 g) o := by
  refine ⟨ho, ?_⟩
  intro E ρ S H x y v w Q rs rx ry h
  rcases h2 x y S with ⟨i, j, rfl, rfl⟩ | e
  · rw [h1 i j S] at h
    exact ⟨i, j, rx.int, ry.int, h ρ H _ (Le.refl _ _) rs (hg ..)⟩
  · rw [e] at h; exact (show False from h).elim
theorem os_sub : OpR X (binaryOp .Sub) (rI0 fun i j => .int (i - j)) ∧ OpS X T (rI0 fun i j => .int (i - j)) oSub :=
  os_I0 (gd := fun i j => .int (i - j)) op_sub (fun _ _ _ _ _ => rd_int) (fun _ _ _ => rfl) (fun x y S => by cases x <;> first | exact .inr rfl | (cases y <;> first | exact .inr rfl | exact .inl ⟨_, _, rfl, rfl⟩))
theorem os_fdiv : OpR X (binaryOp .FloorDiv) (rI CDivW fun i j => .int (i / j)) ∧ OpS X T (rI CDivW fun i j => .int (i / j)) oFdiv :=
  os_I (gd := fun i j => .int (i / j)) op_fdivW (fun _ _ _ _ _ => rd_int) (fun i j S => by
    by_cases h : 0 < j ∧ j.natAbs.log2 < 9000
    · exact .inl ⟨h, if_pos h⟩
    · exact .inr (if_neg h)) (fun x y S => by cases x <;> first | exact .inr rfl | (cases y <;> first | exact .inr rfl | exact .inl ⟨_, _, rfl, rfl⟩))
theorem os_mod : OpR X (binaryOp .Mod) (rI (fun _ j => 0 < j) fun i j => .int (i % j)) ∧ OpS X T (rI (fun _ j => 0 < j) fun i j => .int (i % j)) oMod :=
  os_I (gd := fun i j => .int (i % j)) op_mod (fun _ _ _ _ _ => rd_int) (fun i j S => by
    by_cases h : 0 < j
    · exact .inl ⟨h, if_pos h⟩
    · exact .inr (if_neg h)) (fun x y S => by cases x <;> first | exact .inr rfl | (cases y <;> first | exact .inr rfl | exact .inl ⟨_, _, rfl, rfl⟩))
theorem os_pow : OpR X (binaryOp .Pow) (rI CPow fun i j => .int (i ^ j.toNat)) ∧ OpS X T (rI CPow fun i j => .int (i ^ j.toNat)) oPow :=
  os_I (gd := fun i j => .int (i ^ j.toNat)) op_pow (fun _ _ _ _ _ => rd_int) (fun i j S => by
    by_cases h : 0 ≤ j ∧ j ≤ 1000000 ∧ i.natAbs < 2 ^ 64
    · exact .inl ⟨h, if_pos h⟩
    · exact .inr (if_neg h)) (fun x y S => by cases x <;> first | exact .inr rfl | (cases y <;> first | exact .inr rfl | exact .inl ⟨_, _, rfl, rfl⟩))
abbrev rMulB : R2 := fun x y H Q => (rI CMulW fun i j => .int (i * j)) x y H Q ∨ rRep x y H Q
abbrev rMulA (K : PySem.W.Frag) : R2 := fun x y H Q => rMulB x y H Q ∨ rRepT K x y H Q
theorem os_mul : OpR X (binaryOp .Mult) (rMulA X.K) ∧ OpS X T (rMulA X.K) oMul := by
  refine ⟨OpR.or (OpR.or op_mulW op_rep) op_repT, ?_⟩
  intro E ρ S H x y v w Q rs rx ry h
  cases x with
  | int i =>
    cases y with
    | int j =>
      rw [rx.int, ry.int]
      by_cases hc : (bigOk i && bigOk j) = true
      · rw [show oMul (.int i) (.int j) S = .ok (.int (i * j)) S from if_pos hc] at h
        have hc2 := hc
        unfold bigOk at hc2
        simp only [Bool.and_eq_true, decide_eq_true_eq] at hc2
        exact .inl (.inl ⟨i, j, rfl, rfl, (by unfold CMulW; omega), h ρ H _ (Le.refl _ _) rs rd_int⟩)
      · rw [show oMul (.int i) (.int j) S = .bad from if_neg hc] at h
        exact (show False from h).elim
    | _ => exact (show False from h).elim
  | ref l =>
    cases y with
    | int k =>
      rw [ry.int]
      unfold oMul at h
      dsimp only at h
      split at h
      · rename_i a e1
        obtain ⟨p, vs, rfl, hp, hv, ra, za⟩ := rs.lstAt rx e1
        by_cases hc : 0 ≤ k ∧ k ≤ 1000000 ∧ a.length * k.toNat ≤ LIM
        · rw [if_pos hc] at h
          obtain ⟨c1, c2, c3⟩ := hc
          rw [lim_eq, ra.len] at c3
          refine .inl (.inr ⟨p, k, vs, rfl, rfl, hv, by omega, by omega, c3, fun q hq => ?_⟩)
          obtain ⟨q1, q2, q3⟩ := lst_new rs hq (RDs.of (Paired.flat ra.pair k.toNat)) (by
            rw [List.length_flatten, List.map_replicate, List.sum_replicate_nat]
            rw [Nat.mul_comm]; exact c3)
          exact h _ _ _ q1 q2 q3
        · rw [if_neg hc] at h; exact (show False from h).elim
      · exact (show False from h).elim
    | _ => exact (show False from h).elim
  | tup a =>
    cases y with
    | int k =>
      rw [ry.int]
      obtain ⟨p, vs, rfl, ta, ra⟩ := rx.tup
      by_cases hc : a.length ≠ 0 ∧ a.length ≤ 1000 ∧ 2 ≤ k ∧ k ≤ 1000
      · rw [show oMul (.tup a) (.int k) S = .ok (.tup (List.replicate k.toNat a).flatten) S from if_pos hc] at h
        obtain ⟨c1, c2, c3, c4⟩ := hc
        rw [ra.len] at c1 c2
        refine .inr ⟨p, k, vs, rfl, rfl, ta.sq, fun e => c1 (by rw [e]; rfl), c3, c4, c2, fun q hq => ?_⟩
        obtain ⟨q1, q2, q3⟩ := tup_new rs hq (RDs.of (Paired.flat ra.pair k.toNat)) (by
          rw [List.length_flatten, List.map_replicate, List.sum_replicate_nat, sizeLine_eq]
          have a1 : k.toNat * vs.length ≤ 1000 * 1000 := Nat.mul_le_mul (by omega) c2
          omega)
        exact h _ _ _ q1 q2 q3
      · rw [show oMul (.tup a) (.int k) S = .bad from if_neg hc] at h
        exact (show False from h).elim
    | _ => exact (show False from h).elim
  | _ => cases y <;> exact (show False from h).elim
theorem os_cmpI {op : CmpOp} {p : Int → Int → Bool} (ho : OpR X (compareOp op) (rI0 fun i j => .bl (p i j))) : OpR X (compareOp op) (rI0 fun i j => .bl (p i j)) ∧ OpS X T (rI0 fun i j => .bl (p i j)) (oCmp p) :=
  os_I0 (gd := fun i j => .bl (p i j)) ho (fun _ _ _ _ _ => rd_bl) (fun _ _ _ => rfl) (fun x y S => by cases x <;> first | exact .inr rfl | (cases y <;> first | exact .inr rfl | exact .inl ⟨_, _, rfl, rfl⟩))
theorem os_lt : OpR X (compareOp .Lt) (rI0 fun i j => .bl (decide (i < j))) ∧ OpS X T (rI0 fun i j => .bl (decide (i < j))) oLt := os_cmpI op_lt
/-- ints in a row -/
theorem intsD_v {K : PySem.W.Frag} {ρ : List Addr} {H : Hp} : ∀ {ds : List D} {vs : List V} {ns : List Int}, intsD ds = some ns → RDs K ρ H ds vs → vs = ns.map V.int
  | [], vs, ns, h, r => by unfold intsD at h; cases h; unfold RDs at r; subst r; rfl
  | d :: ds, vs, ns, h, r => by
    unfold RDs at r
    obtain ⟨v, w, rfl, r1, r2⟩ := r
    cases d with
    | int i =>
      unfold intsD at h
      split at h
      · rename_i is e
        cases h
        rw [intsD_v e r2, r1.int]; rfl
      · cases h
    | _ => unfold intsD at h; cases h
theorem lexA_eq (e r : Nat → Bool) (z : Bool) : ∀ n i, lexA e r z i n = Ob.lexAt e r z i n := by
  intro n
  induction n with
  | zero => intro i; first | rfl | simp [lexA, Ob.lexAt]
  | succ n ih => intro i; unfold lexA; rw [Ob.lexAt_succ, ih]
abbrev rLeA (K : PySem.W.Frag) : R2 := fun x y H Q => rI0 (fun i j => .bl (decide (i ≤ j))) x y H Q ∨ rLeT K x y H Q
theorem os_le {k : Nat} (hr : Room k X.A) : OpR X (compareOp .LtE) (rLeA X.K) ∧ OpS X T (rLeA X.K) oLe := by
  refine ⟨OpR.or op_le (op_leT hr.units0), ?_⟩
  intro E ρ S H x y v w Q rs rx ry h
  cases x with
  | int i =>
    cases y with
    | int j => exact .inl ⟨i, j, rx.int, ry.int, h ρ H _ (Le.refl _ _) rs rd_bl⟩
    | _ => exact (show False from h).elim
  | tup a =>
    cases y with
    | tup b =>
      unfold oLe at h
      dsimp only at h
      cases e1 : intsD a with
      | none => rw [e1] at h; exact (show False from h).elim
      | some ns =>
        cases e2 : intsD b with
        | none => rw [e1, e2] at h; exact (show False from h).elim
        | some ms =>
          rw [e1, e2] at h
          obtain ⟨p, vs, rfl, ta, ra⟩ := rx.tup
          obtain ⟨q, ws, rfl, tb, rb⟩ := ry.tup
          have ev := intsD_v e1 ra
          have ew := intsD_v e2 rb
          subst ev ew
          refine .inr ⟨p, q, ns, ms, rfl, rfl, ta.sq, tb.sq, ?_⟩
          have h2 := h ρ H _ (Le.refl _ _) rs rd_bl
          unfold lexLe at h2
          rw [lexA_eq] at h2
          exact h2
    | _ => exact (show False from h).elim
  | _ => cases y <;> exact (show False from h).elim
theorem os_gt : OpR X (compareOp .Gt) (rI0 fun i j => .bl (decide (j < i))) ∧ OpS X T (rI0 fun i j => .bl (decide (j < i))) oGt := os_cmpI op_gt
theorem os_ge : OpR X (compareOp .GtE) (rI0 fun i j => .bl (decide (j ≤ i))) ∧ OpS X T (rI0 fun i j => .bl (decide (j ≤ i))) oGe := os_cmpI op_ge
theorem os_neg : UnR X (unaryOp .USub) (rU fun i => .int (-i)) ∧ UnS X T (rU fun i => .int (-i)) uNeg := by
  refine ⟨un_neg, ?_⟩
  intro E ρ S H x v Q rs rx h
  cases x with
  | int i => exact ⟨i, rx.int, h ρ H _ (Le.refl _ _) rs rd_int⟩
  | _ => exact (show False from h).elim
theorem isNon_v {K : PySem.W.Frag} {ρ : List Addr} {H : Hp} {x : D} {v : V} (r : RD K ρ H x v) : decide (v = .non) = isNon x := by
  cases x with
  | non => rw [r.non]; rfl
  | bl b => rw [r.bl]; rfl
  | int b => rw [r.int]; rfl
  | str b => rw [r.str]; rfl
  | tup b => obtain ⟨a, vs, rfl, _⟩ := r.tup; rfl
  | frz b => obtain ⟨a, vs, rfl, _⟩ := r.frz; rfl
  | ref b => obtain ⟨a, rfl, _⟩ := r.ref; rfl
theorem os_isN : OpR X (compareOp .Is) (fun x y H Q => y = .non ∧ Q (.bl (decide (x = .non))) H) ∧ OpS X T (fun x y H Q => y = .non ∧ Q (.bl (decide (x = .non))) H) oIsN := by
  refine ⟨op_isN, ?_⟩
  intro E ρ S H x y v w Q rs rx ry h
  cases y with
  | non => exact ⟨ry.non, by rw [isNon_v rx]; exact h ρ H _ (Le.refl _ _) rs rd_bl⟩
  | _ => exact (show False from h).elim
theorem os_notN : OpR X (compareOp .IsNot) (fun x y H Q => y = .non ∧ Q (.bl (!decide (x = .non))) H) ∧ OpS X T (fun x y H Q => y = .non ∧ Q (.bl (!decide (x = .non))) H) oNotN := by
  refine ⟨op_notN, ?_⟩
  intro E ρ S H x y v w Q rs rx ry h
  cases y with
  | non => exact ⟨ry.non, by rw [isNon_v rx]; exact h ρ H _ (Le.refl _ _) rs rd_bl⟩
  | _ => exact (show False from h).elim
theorem os_isB : OpR X (compareOp .Is) rIsB ∧ OpS X T rIsB oIsB := by
  refine ⟨op_isBl, ?_⟩
  intro E ρ S H x y v w Q rs rx ry h
  cases x with
  | bl a =>
    cases y with
    | bl b => exact ⟨a, b, rx.bl, ry.bl, h ρ H _ (Le.refl _ _) rs rd_bl⟩
    | _ => exact (show False from h).elim
  | _ => cases y <;> exact (show False from h).elim

/-! ### == and != -/
mutual
def pyP : P → PyData
  | .non => .none
  | .bl b => .bool b
  | .int i => .int i
  | .str x => .str x
  | .lst xs => .list (pyPs xs)
  | .tup xs => .tuple (pyPs xs)
def pyPs : List P → List PyData
  | [] => []
  | x :: xs => pyP x :: pyPs xs
end
mutual
theorem eqv_py : ∀ p q : P, PyData.eqv (pyP p) (pyP q) = P.eqv p q
  | .non, q => by cases q <;> simp [pyP, PyData.eqv, P.eqv]
  | .bl b, q => by cases q <;> simp [pyP, PyData.eqv, P.eqv]
  | .int b, q => by cases q <;> simp [pyP, PyData.eqv, P.eqv]
  | .str b, q => by cases q <;> simp [pyP, PyData.eqv, P.eqv]
  | .lst xs, q => by
    cases q with
    | lst ys => simp only [pyP, PyData.eqv, P.eqv]; exact eqvs_py xs ys
    | _ => simp [pyP, PyData.eqv, P.eqv]
  | .tup xs, q => by
    cases q with
    | tup ys => simp only [pyP, PyData.eqv, P.eqv]; exact eqvs_py xs ys
    | _ => simp [pyP, PyData.eqv, P.eqv]
theorem eqvs_py : ∀ p q : List P, PyData.eqvAll (pyPs p) (pyPs q) = P.eqvs p q
  | [], q => by cases q <;> simp [pyPs, PyData.eqvAll, P.eqvs]
  | x :: xs, q => by
    cases q with
    | nil => simp [pyPs, PyData.eqvAll, P.eqvs]
    | cons y ys => simp only [pyPs, PyData.eqvAll, P.eqvs]; rw [eqv_py x y, eqvs_py xs ys]
end
/-- what toP tells: the data that the heap has there, well shaped -/
theorem toP_dp {ρ : List Addr} {S : Store} {H : Hp} (rs : RS X.K T ρ S H) : ∀ (n : Nat) (d : D) (p : P) (v : V), toP S n d = some p → RD X.K ρ H d v → Dp X.K H v (pyP p) ∧ (pyP p).canLay0 = true ∧ (pyP p).depth ≤ n := by
  intro n
  induction n with
  | zero =>
    intro d p v h r
    cases d with
    | non => unfold toP at h; cases h; rw [r.non]; exact ⟨by unfold pyP; exact .non, by simp [pyP, PyData.canLay0], by simp [pyP, PyData.depth]⟩
    | bl b => unfold toP at h; cases h; rw [r.bl]; exact ⟨by unfold pyP; exact .bl b, by simp [pyP, PyData.canLay0], by simp [pyP, PyData.depth]⟩
    | int i => unfold toP at h; cases h; rw [r.int]; exact ⟨by unfold pyP; exact .int i, by simp [pyP, PyData.canLay0], by simp [pyP, PyData.depth]⟩
    | str x =>
      unfold toP at h
      split at h
      · rename_i hx
        cases h; rw [r.str]; exact ⟨by unfold pyP; exact .str x, by simp only [pyP, PyData.canLay0]; exact hx, by simp [pyP, PyData.depth]⟩
      · cases h
    | tup ds => simp [toP] at h
    | frz ds => simp [toP] at h
    | ref l => simp [toP] at h
  | succ n ih =>
    have all : ∀ (ds : List D) (ps : List P) (vs : List V), ds.mapM (toP S n) = some ps → RDs X.K ρ H ds vs → DpAll X.K H vs (pyPs ps) ∧ PyData.canLayAll0 (pyPs ps) = true ∧ PyData.depthAll (pyPs ps) ≤ n := by
      intro ds
      induction ds with
      | nil =>
        intro ps vs h r
        simp at h
        subst h
        have : vs = [] := by unfold RDs at r; exact r
        subst this
        exact ⟨by unfold pyPs; exact .nil, by simp [pyPs, PyData.canLayAll0], by simp [pyPs, PyData.depthAll]⟩
      | cons d ds ih2 =>
        intro ps vs h r
        rw [List.mapM_cons] at h
        unfold RDs at r
        obtain ⟨v, w, rfl, r1, r2⟩ := r
        cases e1 : toP S n d with
        | none => rw [e1] at h; simp at h
        | some p =>
          cases e2 : ds.mapM (toP S n) with
          | none => rw [e1, e2] at h; simp at h
          | some qs =>
            rw [e1, e2] at h
            simp at h
            subst h
            obtain ⟨a1, a2, a3⟩ := ih d p v e1 r1
            obtain ⟨b1, b2, b3⟩ := ih2 qs w e2 r2
            refine ⟨by unfold pyPs; exact .cons a1 b1, by simp only [pyPs, PyData.canLayAll0, a2, b2]; rfl, ?_⟩
            simp only [pyPs, PyData.depthAll]
            omega
    intro d p v h r
    cases d with
    | non => unfold toP at h; cases h; rw [r.non]; exact ⟨by unfold pyP; exact .non, by simp [pyP, PyData.canLay0], by simp [pyP, PyData.depth]⟩
    | bl b => unfold toP at h; cases h; rw [r.bl]; exact ⟨by unfold pyP; exact .bl b, by simp [pyP, PyData.canLay0], by simp [pyP, PyData.depth]⟩
    | int i => unfold toP at h; cases h; rw [r.int]; exact ⟨by unfold pyP; exact .int i, by simp [pyP, PyData.canLay0], by simp [pyP, PyData.depth]⟩
    | str x =>
      unfold toP at h
      split at h
      · rename_i hx
        cases h; rw [r.str]; exact ⟨by unfold pyP; exact .str x, by simp only [pyP, PyData.canLay0]; exact hx, by simp [pyP, PyData.depth]⟩
      · cases h
    | tup ds =>
      unfold toP at h
      split at h
      · rename_i ps e
        cases h
        obtain ⟨a, vs, rfl, ta, ra⟩ := r.tup
        obtain ⟨b1, b2, b3⟩ := all ds ps vs e ra
        exact ⟨by unfold pyP; exact .tup ta.sq b1, by simp only [pyP, PyData.canLay0]; exact b2, by simp only [pyP, PyData.depth]; omega⟩
      · cases h
    | frz ds =>
      unfold toP at h
      split at h
      · rename_i ps e
        cases h
        obtain ⟨a, vs, rfl, ta, ra⟩ := r.frz
        obtain ⟨b1, b2, b3⟩ := all ds ps vs e ra
        exact ⟨by unfold pyP; exact .lst ta.sq b1, by simp only [pyP, PyData.canLay0]; exact b2, by simp only [pyP, PyData.depth]; omega⟩
      · cases h
    | ref l =>
      unfold toP at h
      split at h
      · rename_i ds e0
        split at h
        · rename_i ps e
          cases h
          obtain ⟨a, vs, rfl, ha, hv, ra, _⟩ := rs.lstAt r e0
          obtain ⟨b1, b2, b3⟩ := all ds ps vs e ra
          exact ⟨by unfold pyP; exact .lst (SqL.of hv) b1, by simp only [pyP, PyData.canLay0]; exact b2, by simp only [pyP, PyData.depth]; omega⟩
        · cases h
      · cases h
abbrev rEqA (K : PySem.W.Frag) : R2 := fun x y H Q => rEq x y H Q ∨ rEqD K x y H Q
abbrev rNeA (K : PySem.W.Frag) : R2 := fun x y H Q => rNe x y H Q ∨ rNeD K x y H Q
theorem eqG {ρ : List Addr} {S : Store} {H : Hp} (rs : RS X.K T ρ S H) {x y : D} {v w : V} (rx : RD X.K ρ H x v) (ry : RD X.K ρ H y w) : oEqG x y S = .bad ∨ ∃ p q, oEqG x y S = .ok (.bl (P.eqv p q)) S ∧ Dp X.K H v (pyP p) ∧ Dp X.K H w (pyP q) ∧ SeqAt.shaped (pyP p) = true ∧ SeqAt.shaped (pyP q) = true := by
  unfold oEqG
  cases e1 : toP S 60 x with
  | none => exact .inl rfl
  | some p =>
    cases e2 : toP S 60 y with
    | none => exact .inl rfl
    | some q =>
      obtain ⟨a1, a2, a3⟩ := toP_dp rs 60 x p v e1 rx
      obtain ⟨b1, b2, b3⟩ := toP_dp rs 60 y q w e2 ry
      exact .inr ⟨p, q, rfl, a1, b1, by unfold SeqAt.shaped; rw [a2, decide_eq_true (by omega)]; rfl, by unfold SeqAt.shaped; rw [b2, decide_eq_true (by omega)]; rfl⟩
/-- what oEq tells of two values: scalars side by side, or data -/
theorem eqA {ρ : List Addr} {S : Store} {H : Hp} (rs : RS X.K T ρ S H) {x y : D} {v w : V} (rx : RD X.K ρ H x v) (ry : RD X.K ρ H y w) :
    oEq x y S = .bad ∨ (∃ k, oEq x y S = .ok (.bl k) S ∧ scal v w = true ∧ k = decide (v = w)) ∨ ∃ p q, oEq x y S = .ok (.bl (P.eqv p q)) S ∧ Dp X.K H v (pyP p) ∧ Dp X.K H w (pyP q) ∧ SeqAt.shaped (pyP p) = true ∧ SeqAt.shaped (pyP q) = true := by
  have g := eqG rs rx ry
  have gg : oEq x y S = oEqG x y S → _ := fun e => by
    rw [← e] at g
    exact (g.elim .inl fun z => .inr (.inr z) : oEq x y S = .bad ∨ (∃ k, oEq x y S = .ok (.bl k) S ∧ scal v w = true ∧ k = decide (v = w)) ∨ ∃ p q, oEq x y S = .ok (.bl (P.eqv p q)) S ∧ Dp X.K H v (pyP p) ∧ Dp X.K H w (pyP q) ∧ SeqAt.shaped (pyP p) = true ∧ SeqAt.shaped (pyP q) = true)
  cases x with
  | non =>
    have e1 := rx.non; subst e1
    cases y with
    | non => have e2 := ry.non; subst e2; exact .inr (.inl ⟨_, rfl, rfl, rfl⟩)
    | int j => have e2 := ry.int; subst e2; exact .inr (.inl ⟨_, rfl, rfl, rfl⟩)
    | bl j => have e2 := ry.bl; subst e2; exact .inr (.inl ⟨_, rfl, rfl, rfl⟩)
    | str j => have e2 := ry.str; subst e2; exact .inr (.inl ⟨_, rfl, rfl, rfl⟩)
    | _ => exact gg rfl
  | int i =>
    have e1 := rx.int; subst e1
    cases y with
    | non => have e2 := ry.non; subst e2; exact .inr (.inl ⟨_, rfl, rfl, rfl⟩)
    | int j => have e2 := ry.int; subst e2; exact .inr (.inl ⟨_, rfl, rfl, dec_int.symm⟩)
    | str j => have e2 := ry.str; subst e2; exact .inr (.inl ⟨_, rfl, rfl, rfl⟩)
    | _ => exact gg rfl
  | bl i =>
    have e1 := rx.bl; subst e1
    cases y with
    | non => have e2 := ry.non; subst e2; exact .inr (.inl ⟨_, rfl, rfl, rfl⟩)
    | bl j => have e2 := ry.bl; subst e2; exact .inr (.inl ⟨_, rfl, rfl, dec_bl.symm⟩)
    | str j => have e2 := ry.str; subst e2; exact .inr (.inl ⟨_, rfl, rfl, rfl⟩)
    | _ => exact gg rfl
  | str i =>
    have e1 := rx.str; subst e1
    cases y with
    | non => have e2 := ry.non; subst e2; exact .inr (.inl ⟨_, rfl, rfl, rfl⟩)
    | int j => have e2 := ry.int; subst e2; exact .inr (.inl ⟨_, rfl, rfl, rfl⟩)
    | bl j => have e2 := ry.bl; subst e2; exact .inr (.inl ⟨_, rfl, rfl, rfl⟩)
    | str j => have e2 := ry.str; subst e2; exact .inr (.inl ⟨_, rfl, rfl, dec_str.symm⟩)
    | _ => exact gg rfl
  | _ => cases y <;> exact gg rfl
theorem os_eq {k : Nat} (hr : Room k X.A) : OpR X (compareOp .Eq) (rEqA X.K) ∧ OpS X T (rEqA X.K) oEq := by
  refine ⟨OpR.or op_eq (op_eqD hr.units), ?_⟩
  intro E ρ S H x y v w Q rs rx ry h
  rcases eqA rs rx ry with e | ⟨k, e, hs, hk⟩ | ⟨p, q, e, d1, d2, s1, s2⟩
  · rw [e] at h; exact (show False from h).elim
  · rw [e] at h
    refine .inl ⟨hs, ?_⟩
    rw [← hk]
    exact h ρ H _ (Le.refl _ _) rs rd_bl
  · rw [e] at h
    refine .inr ⟨_, _, d1, d2, s1, s2, ?_⟩
    rw [eqv_py]
    exact h ρ H _ (Le.refl _ _) rs rd_bl
theorem os_ne {k : Nat} (hr : Room k X.A) : OpR X (compareOp .NotEq) (rNeA X.K) ∧ OpS X T (rNeA X.K) oNe := by
  refine ⟨OpR.or op_ne (op_neD hr.units), ?_⟩
  intro E ρ S H x y v w Q rs rx ry h
  unfold oNe notR at h
  rcases eqA rs rx ry with e | ⟨k, e, hs, hk⟩ | ⟨p, q, e, d1, d2, s1, s2⟩
  · rw [e] at h; exact (show False from h).elim
  · rw [e] at h
    refine .inl ⟨hs, ?_⟩
    rw [← hk]
    exact h ρ H _ (Le.refl _ _) rs rd_bl
  · rw [e] at h
    refine .inr ⟨_, _, d1, d2, s1, s2, ?_⟩
    rw [eqv_py]
    exact h ρ H _ (Le.refl _ _) rs rd_bl

/-! ### in -/
theorem flat_v {K : PySem.W.Frag} {ρ : List Addr} {H : Hp} {x : D} {v : V} (r : RD K ρ H x v) (f : flatD x = true) : flatV v = true := by
  cases x with
  | non => rw [r.non]; rfl
  | bl b => rw [r.bl]; rfl
  | int b => rw [r.int]; rfl
  | str b => rw [r.str]; rfl
  | _ => exact Bool.noConfusion (show false = true from f)
theorem eqF_v {K : PySem.W.Frag} {ρ : List Addr} {H : Hp} {x y : D} {v w : V} (r : RD K ρ H x v) (q : RD K ρ H y w) (f : flatD x = true) (g : flatD y = true) : eqV v w = eqF x y := by
  cases x with
  | non =>
    rw [r.non]
    cases y with
    | non => rw [q.non]; rfl
    | bl b => rw [q.bl]; rfl
    | int b => rw [q.int]; rfl
    | str b => rw [q.str]; rfl
    | _ => exact Bool.noConfusion (show false = true from g)
  | bl b =>
    rw [r.bl]
    cases y with
    | non => rw [q.non]; rfl
    | bl b => rw [q.bl]; rfl
    | int b => rw [q.int]; rfl
    | str b => rw [q.str]; rfl
    | _ => exact Bool.noConfusion (show false = true from g)
  | int b =>
    rw [r.int]
    cases y with
    | non => rw [q.non]; rfl
    | bl b => rw [q.bl]; rfl
    | int b => rw [q.int]; rfl
    | str b => rw [q.str]; rfl
    | _ => exact Bool.noConfusion (show false = true from g)
  | str b =>
    rw [r.str]
    cases y with
    | non => rw [q.non]; rfl
    | bl b => rw [q.bl]; rfl
    | int b => rw [q.int]; rfl
    | str b => rw [q.str]; rfl
    | _ => exact Bool.noConfusion (show false = true from g)
  | _ => exact Bool.noConfusion (show false = true from f)
theorem flat_all {K : PySem.W.Frag} {ρ : List Addr} {H : Hp} : ∀ {xs : List D} {vs : List V}, RDs K ρ H xs vs → xs.all flatD = true → vs.all flatV = true
  | [], vs, h, _ => by unfold RDs at h; subst h; rfl
  | d :: ds, vs, h, f => by
    unfold RDs at h
    obtain ⟨v, r, rfl, h1, h2⟩ := h
    rw [List.all_cons, Bool.and_eq_true] at f
    rw [List.all_cons, flat_v h1 f.1, flat_all h2 f.2]; rfl
theorem inF_v {K : PySem.W.Frag} {ρ : List Addr} {H : Hp} {x : D} {v : V} (r : RD K ρ H x v) (f : flatD x = true) : ∀ {xs : List D} {vs : List V}, RDs K ρ H xs vs → xs.all flatD = true → inV v vs = inF x xs
  | [], vs, h, _ => by unfold RDs at h; subst h; rfl
  | d :: ds, vs, h, g => by
    unfold RDs at h
    obtain ⟨w, q, rfl, h1, h2⟩ := h
    rw [List.all_cons, Bool.and_eq_true] at g
    have e := inF_v r f h2 g.2
    unfold inV inF at e ⊢
    rw [List.any_cons, List.any_cons, eqF_v h1 r g.1 f, e]
theorem inL_s {E : XK} {neg : Bool} {ρ : List Addr} {S : Store} {H : Hp} {x : D} {xs : List D} {v : V} {p : Addr} {vs : List V} {Q : VK} {o : Res D} (rs : RS X.K T ρ S H) (rx : RD X.K ρ H x v) (hs : SqL X.K H p vs ∨ SqT X.K H p vs) (ry : RDs X.K ρ H xs vs)
    (he : o = if neg then notR (oInL xs x S) else oInL xs x S) (h : Post X.K X.mg T E ρ H (RD X.K) Q o) : rIn X.K neg v (.ref p) H Q := by
  subst he
  unfold oInL at h
  by_cases c : (flatD x && xs.all flatD) = true
  · rw [if_pos c] at h
    rw [Bool.and_eq_true] at c
    refine ⟨p, vs, rfl, hs, flat_v rx c.1, flat_all ry c.2, ?_⟩
    rw [inF_v rx c.1 ry c.2]
    cases neg with
    | true => exact h ρ H _ (Le.refl _ _) rs rd_bl
    | false => exact h ρ H _ (Le.refl _ _) rs rd_bl
  · rw [if_neg c] at h
    cases neg <;> exact (show False from h).elim
/-- x in a tuple of data -/
def rInT (K : PySem.W.Frag) : R2 := fun x y H Q => ∃ d ds, Dp K H x d ∧ Dp K H y (.tuple ds) ∧ SeqAt.shaped d = true ∧ SeqAt.shaped (.tuple ds) = true ∧ Q (.bl (ds.any fun z => PyData.eqv z d)) H
def rNotInT (K : PySem.W.Frag) : R2 := fun x y H Q => ∃ d ds, Dp K H x d ∧ Dp K H y (.tuple ds) ∧ SeqAt.shaped d = true ∧ SeqAt.shaped (.tuple ds) = true ∧ Q (.bl (!ds.any fun z => PyData.eqv z d)) H
theorem op_inT (hu : X.A.units + 65 < cLine) : OpR X (compareOp .In) (rInT X.K) := by
  intro pins s σ H x y v u Q I rx ry h
  obtain ⟨d, ds, hd, he, sd, se, q⟩ := h
  obtain ⟨as, r1⟩ := Dp.reads I d x v hd rx
  obtain ⟨bs, r2⟩ := Dp.reads I (.tuple ds) y u he ry
  exact SeqAt.in_tuple_reads r2 r1 (SeqAt.canLay_of_shaped se) (SeqAt.canLay_of_shaped sd) (room_in_shaped sd hu) ⟨.bl _, H, I, rfl, q⟩
theorem op_notInT (hu : X.A.units + 65 < cLine) : OpR X (compareOp .NotIn) (rNotInT X.K) := by
  intro pins s σ H x y v u Q I rx ry h
  obtain ⟨d, ds, hd, he, sd, se, q⟩ := h
  obtain ⟨as, r1⟩ := Dp.reads I d x v hd rx
  obtain ⟨bs, r2⟩ := Dp.reads I (.tuple ds) y u he ry
  exact SeqAt.notIn_tuple_reads r2 r1 (SeqAt.canLay_of_shaped se) (SeqAt.canLay_of_shaped sd) (room_in_shaped sd hu) ⟨.bl _, H, I, rfl, q⟩
theorem any_py (p : P) : ∀ qs : List P, (pyPs qs).any (fun z => PyData.eqv z (pyP p)) = qs.any fun q => P.eqv q p
  | [] => by simp [pyPs]
  | q :: qs => by
    unfold pyPs
    rw [List.any_cons, List.any_cons, eqv_py, any_py p qs]
/-- what oInG tells -/
theorem inG {ρ : List Addr} {S : Store} {H : Hp} (rs : RS X.K T ρ S H) {x y : D} {v w : V} (rx : RD X.K ρ H x v) (ry : RD X.K ρ H y w) : oInG x y S = .bad ∨ ∃ (b : Bool) (d : PyData) (ds : List PyData), oInG x y S = .ok (.bl b) S ∧ b = (ds.any fun z => PyData.eqv z d) ∧ Dp X.K H v d ∧ SeqAt.shaped d = true ∧
    ((Dp X.K H w (.list ds) ∧ SeqAt.shaped (.list ds) = true) ∨ (Dp X.K H w (.tuple ds) ∧ SeqAt.shaped (.tuple ds) = true)) := by
  unfold oInG
  cases e1 : toP S 60 x with
  | none => exact .inl rfl
  | some p =>
    cases e2 : toP S 60 y with
    | none => exact .inl rfl
    | some q =>
      obtain ⟨a1, a2, a3⟩ := toP_dp rs 60 x p v e1 rx
      obtain ⟨b1, b2, b3⟩ := toP_dp rs 60 y q w e2 ry
      have s1 : SeqAt.shaped (pyP p) = true := by unfold SeqAt.shaped; rw [a2, decide_eq_true (by omega)]; rfl
      have s2 : SeqAt.shaped (pyP q) = true := by unfold SeqAt.shaped; rw [b2, decide_eq_true (by omega)]; rfl
      cases q with
      | lst qs => exact .inr ⟨_, pyP p, pyPs qs, rfl, (any_py p qs).symm, a1, s1, .inl ⟨by unfold pyP at b1; exact b1, by unfold pyP at s2; exact s2⟩⟩
      | tup qs => exact .inr ⟨_, pyP p, pyPs qs, rfl, (any_py p qs).symm, a1, s1, .inr ⟨by unfold pyP at b1; exact b1, by unfold pyP at s2; exact s2⟩⟩
      | _ => exact .inl rfl
abbrev rInA (K : PySem.W.Frag) : R2 := fun x y H Q => (fun x y H Q => rIn K false x y H Q ∨ rInD K x y H Q) x y H Q ∨ rInT K x y H Q
abbrev rNinA (K : PySem.W.Frag) : R2 := fun x y H Q => (fun x y H Q => rIn K true x y H Q ∨ rNotInD K x y H Q) x y H Q ∨ rNotInT K x y H Q
theorem orG_cases (r q : Res D) : (orG r q = r ∧ r ≠ .bad) ∨ (r = .bad ∧ orG r q = q) := by
  cases r with
  | ok d S => exact .inl ⟨rfl, fun z => nomatch z⟩
  | ex c w S => exact .inl ⟨rfl, fun z => nomatch z⟩
  | bad => exact .inr ⟨rfl, rfl⟩
theorem os_inS {k : Nat} (hr : Room k X.A) : OpR X (compareOp .In) (rInA X.K) ∧ OpS X T (rInA X.K) oInS := by
  refine ⟨OpR.or (OpR.or op_in_seq (op_inD (by have := hr.un; omega))) (op_inT (by have := hr.un; omega)), ?_⟩
  intro E ρ S H x y v w Q rs rx ry h
  have gen : Post X.K X.mg T E ρ H (RD X.K) Q (oInG x y S) → rInA X.K v w H Q := fun h => by
    rcases inG rs rx ry with e | ⟨b, d, ds, e, eb, d1, s1, z⟩
    · rw [e] at h; exact (show False from h).elim
    · rw [e, eb] at h
      have hq := h ρ H _ (Le.refl _ _) rs rd_bl
      rcases z with ⟨d2, s2⟩ | ⟨d2, s2⟩
      · exact .inl (.inr ⟨d, ds, d1, d2, s1, s2, hq⟩)
      · exact .inr ⟨d, ds, d1, d2, s1, s2, hq⟩
  cases y with
  | tup xs =>
    obtain ⟨a, vs, rfl, ta, ra⟩ := ry.tup
    rcases orG_cases (oInL xs x S) (oInG x (.tup xs) S) with ⟨e, _⟩ | ⟨_, e⟩
    · refine .inl (.inl (inL_s (neg := false) rs rx (.inr ta.sq) ra rfl (E := E) ?_))
      have h2 : Post X.K X.mg T E ρ H (RD X.K) Q (orG (oInL xs x S) (oInG x (.tup xs) S)) := h
      rw [e] at h2
      exact h2
    · refine gen ?_
      have h2 : Post X.K X.mg T E ρ H (RD X.K) Q (orG (oInL xs x S) (oInG x (.tup xs) S)) := h
      rw [e] at h2
      exact h2
  | ref l =>
    unfold oInS at h
    dsimp only at h
    split at h
    · rename_i xs e0
      rcases orG_cases (oInL xs x S) (oInG x (.ref l) S) with ⟨e, _⟩ | ⟨_, e⟩
      · rw [e] at h
        obtain ⟨p, vs, rfl, hp, hv, ra, za⟩ := rs.lstAt ry e0
        exact .inl (.inl (inL_s (neg := false) rs rx (.inl (SqL.of hv)) ra rfl h))
      · rw [e] at h
        exact gen h
    · exact (show False from h).elim
  | _ => exact (show False from h).elim
theorem os_ninS {k : Nat} (hr : Room k X.A) : OpR X (compareOp .NotIn) (rNinA X.K) ∧ OpS X T (rNinA X.K) oNinS := by
  refine ⟨OpR.or (OpR.or op_notIn_seq (op_notInD (by have := hr.un; omega))) (op_notInT (by have := hr.un; omega)), ?_⟩
  intro E ρ S H x y v w Q rs rx ry h
  have gen : Post X.K X.mg T E ρ H (RD X.K) Q (notR (oInG x y S)) → rNinA X.K v w H Q := fun h => by
    rcases inG rs rx ry with e | ⟨b, d, ds, e, eb, d1, s1, z⟩
    · rw [e] at h; exact (show False from h).elim
    · rw [e, eb] at h
      have hq := h ρ H _ (Le.refl _ _) rs rd_bl
      rcases z with ⟨d2, s2⟩ | ⟨d2, s2⟩
      · exact .inl (.inr ⟨d, ds, d1, d2, s1, s2, hq⟩)
      · exact .inr ⟨d, ds, d1, d2, s1, s2, hq⟩
  cases y with
  | tup xs =>
    obtain ⟨a, vs, rfl, ta, ra⟩ := ry.tup
    rcases orG_cases (oInL xs x S) (oInG x (.tup xs) S) with ⟨e, _⟩ | ⟨_, e⟩
    · refine .inl (.inl (inL_s (neg := true) rs rx (.inr ta.sq) ra rfl (E := E) ?_))
      have h2 : Post X.K X.mg T E ρ H (RD X.K) Q (notR (orG (oInL xs x S) (oInG x (.tup xs) S))) := h
      rw [e] at h2
      exact h2
    · refine gen ?_
      have h2 : Post X.K X.mg T E ρ H (RD X.K) Q (notR (orG (oInL xs x S) (oInG x (.tup xs) S))) := h
      rw [e] at h2
      exact h2
  | ref l =>
    unfold oNinS oInS at h
    dsimp only at h
    split at h
    · rename_i xs e0
      rcases orG_cases (oInL xs x S) (oInG x (.ref l) S) with ⟨e, _⟩ | ⟨_, e⟩
      · rw [e] at h
        obtain ⟨p, vs, rfl, hp, hv, ra, za⟩ := rs.lstAt ry e0
        exact .inl (.inl (inL_s (neg := true) rs rx (.inl (SqL.of hv)) ra rfl h))
      · rw [e] at h
        exact gen h
    · exact (show False from h).elim
  | _ => exact (show False from h).elim

/-! ### places -/
theorem ixN_eq (n : Nat) (i : Int) : Wk.ixN n i = L2.ixN n i := rfl
theorem atI_d {K : PySem.W.Frag} {ρ : List Addr} {H : Hp} {ds : List D} {vs : List V} {i : Int} {d : D} (r : RDs K ρ H ds vs) (h : Wk.atI ds i = some d) : ∃ v, L2.atI vs i = some v ∧ RD K ρ H d v := by
  unfold Wk.atI at h
  unfold L2.atI
  rw [r.len] at h
  cases e : Wk.ixN vs.length i with
  | none => rw [e] at h; cases h
  | some j =>
    rw [e] at h
    rw [← ixN_eq, e]
    exact Paired.get1 r.pair h
theorem os_ix : IxR X (rIx X.K) ∧ OpS X T (rIx X.K) oIx := by
  refine ⟨ix_seq, ?_⟩
  intro E ρ S H x y v w Q rs rx ry h
  cases y with
  | int i =>
    have e2 := ry.int; subst e2
    cases x with
    | tup ds =>
      obtain ⟨a, vs, rfl, ta, ra⟩ := rx.tup
      unfold oIx at h
      dsimp only at h
      split at h
      · rename_i d e
        obtain ⟨u, hu, ru⟩ := atI_d ra e
        exact .inr (.inl ⟨a, vs, i, u, rfl, rfl, ta.sq, hu, h ρ H _ (Le.refl _ _) rs ru⟩)
      · exact (show False from h).elim
    | frz ds =>
      obtain ⟨a, vs, rfl, ta, ra⟩ := rx.frz
      unfold oIx at h
      dsimp only at h
      split at h
      · rename_i d e
        obtain ⟨u, hu, ru⟩ := atI_d ra e
        exact .inl ⟨a, vs, i, u, rfl, rfl, ta.sq, hu, h ρ H _ (Le.refl _ _) rs ru⟩
      · exact (show False from h).elim
    | ref l =>
      unfold oIx at h
      dsimp only at h
      split at h
      · rename_i ds e0
        obtain ⟨p, vs, rfl, hp, hv, ra, za⟩ := rs.lstAt rx e0
        split at h
        · rename_i d e
          obtain ⟨u, hu, ru⟩ := atI_d ra e
          exact .inl ⟨p, vs, i, u, rfl, rfl, SqL.of hv, hu, h ρ H _ (Le.refl _ _) rs ru⟩
        · exact (show False from h).elim
      · exact (show False from h).elim
    | _ => exact (show False from h).elim
  | _ => exact (show False from h).elim
end
end Wk


set_option Elab.async false
set_option linter.all false
set_option maxRecDepth 100000
set_option maxHeartbeats 4000000
set_option autoImplicit false
/-! WkIter: enumerate over a tuple, a list or a tuple walked; functional readings of what is walked. -/
namespace PySem
open Sem (wp)
theorem wk_meets_enum {v : Value} {o : Obj} {H : Heap → Prop} (B : Begins v o H) :
    Meets (Builtin.«enumerate.__new__» ⟨[.type "enumerate", v], []⟩) (fun _ R s => H s.heap ∧
      R (.ok (.ret (.ref (s.heap.push o).objs.size))) { s with heap := (s.heap.push o).push { cls := .type "enumerate", data := .fields #[.none, .bool false, .ref s.heap.objs.size, rawInt 0, .none, .none] } }) :=
  .of_wp fun prog w A R s h => by
    obtain ⟨hp, g, d, tk, os⟩ := s; obtain ⟨h1, h⟩ := h
    have hsub := sub_enumerate
    have q1 : ∀ {A' : Around} {E : Value → Shared → Prop} {Q : Value → Shared → Prop}, Q (.ref hp.objs.size) ⟨hp.push o, g, d, tk, os⟩ → wpAny (model prog w) A' (pyIter v) Q E ⟨hp, g, d, tk, os⟩ :=
      fun q => B.iter prog w _ _ ⟨hp, g, d, tk, os⟩ _ h1 q
    wp_walk using q1
    refine wpAny_stack_any fun st => wpAny_pure ?_
    split
    · rename_i c _ _ _ _ _
      cases (c == Value.type "enumerate")
      · wp_walk using q1
        exact ⟨_, rfl, h⟩
      · wp_walk using q1
        exact ⟨_, rfl, h⟩
    · wp_walk using q1
      exact ⟨_, rfl, h⟩
section
variable {prog : Program} {w : World} {A : Around} {E : Value → Shared → Prop} {s : Shared}
theorem wk_enum_begins {v : Value} {o : Obj} {H : Heap → Prop} {Q : Value → Shared → Prop} (B : Begins v o H) (h1 : H s.heap)
    (h : ∀ h', IsEnum h' (s.heap.objs.size + 1) s.heap.objs.size 0 .none → h'.get? s.heap.objs.size = some o → h'.objs.size = s.heap.objs.size + 2 →
      (∀ b o, s.heap.get? b = some o → h'.get? b = some o) → Q (.ref (s.heap.objs.size + 1)) { s with heap := h' }) :
    wpAny (model prog w) A (call (.type "enumerate") [v]) Q E s := by
  refine callType_new F.called_enumerate (by decide) (F.typeCall_enumerate_1 _) (F.newCall_enumerate_1 _) (fun obj => F.args_object_init_2 obj _) F.entry_enumerate_new
    (wk_meets_enum B) ⟨h1, ?_⟩
  have hz : (s.heap.push o).objs.size = s.heap.objs.size + 1 := Heap.size_push ..
  show _ ∧ _
  rw [hz]
  have he : IsEnum ((s.heap.push o).push { cls := .type "enumerate", data := .fields #[.none, .bool false, .ref s.heap.objs.size, rawInt 0, .none, .none] }) (s.heap.objs.size + 1) s.heap.objs.size 0 .none := by
    have := Heap.get?_push_size (s.heap.push o) (o := { cls := .type "enumerate", data := .fields #[.none, .bool false, .ref s.heap.objs.size, rawInt 0, .none, .none] }) rfl
    rw [hz] at this; exact this
  refine ⟨⟨_, he, rfl⟩, h _ he (Heap.get?_push_of_some _ (Heap.get?_push_size _ B.free)) (by rw [Heap.size_push, hz]) fun b o x => Heap.get?_push_of_some _ (Heap.get?_push_of_some _ x)⟩
end
end PySem

namespace L2
open PySem PySem.Spec PyProof.Rows
/-- the tuple at a, each item in a new pair -/
def IteT (K : PySem.W.Frag) (a : Addr) : It :=
  ⟨fun i H => ∃ (xs : List V) (x : V), SqT K H a xs ∧ xs[i]? = some x, fun i H v H' => ∃ T x, v = .ref T ∧ H T = none ∧ H' = upd H T (.tup [.int (i : Nat), x]) ∧ ∀ xs, SqT K H a xs → xs[i]? = some x, fun i H => ∃ xs : List V, SqT K H a xs ∧ xs.length ≤ i⟩
theorem turn_enumT {P : Program} {w : World} {K : PySem.W.Frag} {elts : List Expr} {kk : Nat} {tpos : Pos} (a e it : Addr) :
    Turn P w K (.Tuple elts kk tpos) (IteT K a) [e, it] e (fun i h => (∃ old, IsEnum h e it ((i : Nat) : Int) old) ∧ h.IsTupleIter it a i ∧ e ≠ it ∧ a ≠ it ∧ a ≠ e) where
  mem := by simp
  obj := fun i h st b hb => by
    obtain ⟨⟨old, he⟩, ⟨o, ho, hc, hd⟩, _⟩ := st
    have e' : b = e ∨ b = it := by simpa using hb
    rcases e' with z | z
    · rw [z]; exact ⟨_, he, fun v q => nomatch q⟩
    · rw [z]; exact ⟨o, ho, fun v q => by rw [hd] at q; cases q⟩
  keep := fun i h h' st k => let ⟨⟨old, he⟩, hi, hne⟩ := st; ⟨⟨old, k e (by simp) _ he⟩, hi.at fun o q => k it (by simp) o q, hne⟩
  item := by
    intro X hP hw hK hc i pins s σ H E I hf st hg
    subst hP hw hK
    obtain ⟨⟨old, he⟩, hit, hne, hai, hae⟩ := st
    obtain ⟨xs, x, hq, hx⟩ := hg
    obtain ⟨its, rv, p, hz⟩ := I.tuple hq
    obtain ⟨u, hu, ru⟩ := rv.get hx
    have hel : e < s.heap.objs.size := Heap.lt_size he
    have hil : it < s.heap.objs.size := by obtain ⟨_, q, _⟩ := hit; exact Heap.lt_size q
    have hlt : i < its.toArray.size := by
      have := (List.getElem?_eq_some_iff.mp hu).1
      simpa using this
    refine wpAny_pyNext_enum_itemC (Draws.tuple (A := X.A.in1) (I.ok.hd hc) it a hai its.toArray) he ⟨hit, (show s.heap.IsTuple a its.toArray from p)⟩ hlt hne (by simp; exact ⟨hne, Ne.symm hae⟩) fun x' h' tk hPx ho hst' hT hsz hk => ?_
    have ex : x' = u := by
      have h1 : its.toArray[i]? = some x' := hPx
      have h2 : its.toArray[i]? = some u := by simpa using hu
      rw [h1] at h2; exact Option.some.inj h2
    subst ex
    refine ⟨_, rfl, wpAny_letOwnedTupleGo_enum (s := { s with heap := h', toks := tk + 1 }) ho fun h'' he' sb => ?_⟩
    have hT2 : h''.get? s.heap.objs.size = some { cls := .type "tuple", data := .seq #[.int i tk, x'] } := (sb.2 _ (Nat.ne_of_gt hel)).trans hT
    have new : ObjOk X.prog X.w (upd H s.heap.objs.size (.tup [.int (i : Nat), x])) h'' s.heap.objs.size (.tup [.int (i : Nat), x]) :=
      ⟨by show 2 ≤ sizeLine; decide, [.int i tk, x'], .cons ⟨_, rfl⟩ (.cons ru .nil), ⟨_, hT2, rfl, _, rfl⟩⟩
    have I1 : Inv X pins σ (upd H s.heap.objs.size (.tup [.int (i : Nat), x])) { s with heap := h'', toks := tk + 1 } :=
      I.turnedNew (ch := [e, it]) (fun b ob hb q => (sb.2 b (fun z => hb (by simp [z]))).trans (hk b ob (fun z => hb (by simp [z])) (fun z => hb (by simp [z])) q)) hf (Nat.le_refl _) new
    refine ⟨.ref s.heap.objs.size, _, I1, rfl, ⟨_, x, rfl, I.hok.fresh (Nat.le_refl _), rfl, fun ys hy => by rw [I.tuple_inj hy hq]; exact hx⟩, ⟨⟨x', ?_⟩, hst'.1.at fun o q => (sb.2 it (Ne.symm hne)).trans q, hne, hai, hae⟩, fun b hb => ?_⟩
    · have e1 : ((i + 1 : Nat) : Int) = (i : Int) + 1 := by omega
      rw [e1]; exact he'
    · have hb' : b < s.heap.objs.size := by
        have e' : b = e ∨ b = it := by simpa using hb
        rcases e' with z | z
        · rw [z]; exact hel
        · rw [z]; exact hil
      rw [upd_ne (Nat.ne_of_lt hb')]
      exact (hf b hb).1
  done := by
    intro X hP hw hK hc i pins s σ H E I hf st hg
    subst hP hw hK
    obtain ⟨⟨old, he⟩, hit, hne, hai, hae⟩ := st
    obtain ⟨xs, hq, hx⟩ := hg
    obtain ⟨its, rv, p, hz⟩ := I.tuple hq
    obtain ⟨f0, f1, f2, f3, f4, f5⟩ := hf it (by simp)
    have hl := rv.length
    have hT : s.TypeIs (.ref e) "enumerate" := ⟨_, he, rfl⟩
    unfold pyNext
    refine wpAny_bind (wpAny_attempt (wpAny_callSpecial?_slot (name := Str.ofString "__next__") hT F.slot_enumerate_next
      (wpAny_call_entry F.slot_enumerate_next hT F.entry_enumerate_next ?_ (F.args_enumerate_next_1 _))))
    show wpAny _ _ (field (.ref e) 2 >>= _) _ _ _
    refine wpAny_bind (wpAny_field he rfl (x := .ref it) rfl ?_)
    refine wpAny_bind (wpAny_nextOf_tuple_end (I.ok.hd hc) hit (show s.heap.IsTuple a its.toArray from p) (by simp; omega) fun h' x he' hx' => ?_)
    obtain ⟨o, ho, hc'⟩ := hx'
    refine wpAny_bind (wpAny_isInstance (T := "StopIteration") (b := true) ⟨o, ho, hc'⟩ isSubtype_stop ?_)
    exact wpAny_pure ⟨rfl, I.turned (t' := s.toks) (fun b o hb q => he' b o hb q) f0 f1 f3 f4 f5⟩
  self := fun A i s Q E st h => let ⟨⟨_, he⟩, _⟩ := st; wpAny_pyIter_enum he h
/-- enumerate(x), x a list or a tuple -/
def iEnumA (K : PySem.W.Frag) (ta : TA) : TI := fun σ H R => ta σ H fun vs H1 => (∃ a xs, vs = [.ref a] ∧ SqL K H1 a xs ∧ R (Ite K a) H1) ∨ (∃ a xs, vs = [.ref a] ∧ SqT K H1 a xs ∧ R (IteT K a) H1)
theorem pi_enumA {X : Cx} {e : Expr} {ta : TA} {p pos tpos : Pos} {elts : List Expr} {kk : Nat} (hg : Gl X "enumerate") (hm : X.mg "enumerate" = none) (ha : PA X [e] ta) (hs : starEach [e] X.env = [(false, eval e X.env)] := by rfl) :
    PI X (.Tuple elts kk tpos) (.Call (.Name "enumerate" p) [e] [] pos) (iEnumA X.K ta) := by
  refine ⟨fun pins s σ H R I h => ?_⟩
  refine Call_ (ld_blt I hg hm boot_enumerate (PyProof.Rows.callWith_type1 (thn (ha.run pos pins s σ H _ I h) fun us s1 ⟨vs, H1, I1, r1, q1⟩ => ?_) hs rfl))
  rcases q1 with ⟨a, xs, ex, hq, q⟩ | ⟨a, xs, ex, hq, q⟩
  · subst ex
    cases r1 with
    | cons r rr =>
      cases rr
      cases r
      obtain ⟨its, rv, p', hz⟩ := I1.list hq
      refine call_enumerate_list p'.isList fun h' he hit hsz hk => wpAny_pyIter_enum he ?_
      have I2 : Inv X pins σ H1 { s1 with heap := h' } := I1.kept (t' := s1.toks) hk
      refine ⟨s1.heap.objs.size + 1, [s1.heap.objs.size + 1, s1.heap.objs.size], _, _, H1, rfl, I2, turn_enum a (s1.heap.objs.size + 1) s1.heap.objs.size, ⟨⟨.none, he⟩, hit, Nat.succ_ne_self _⟩, fun b hb => ?_, q⟩
      have e' : b = s1.heap.objs.size + 1 ∨ b = s1.heap.objs.size := by simpa using hb
      have hle : s1.heap.objs.size ≤ b := by
        rcases e' with z | z
        · rw [z]; exact Nat.le_add_right _ _
        · rw [z]; exact Nat.le_refl _
      exact I1.fpOk hle (I1.hok.fresh hle)
  · subst ex
    cases r1 with
    | cons r rr =>
      cases rr
      cases r
      obtain ⟨its, rv, p', hz⟩ := I1.tuple hq
      have hal : a < s1.heap.objs.size := p'.lt
      refine wk_enum_begins (begins_tuple a its.toArray) (show s1.heap.IsTuple a its.toArray from p') fun h' he hit hsz hk => wpAny_pyIter_enum he ?_
      have I2 : Inv X pins σ H1 { s1 with heap := h' } := I1.kept (t' := s1.toks) hk
      refine ⟨s1.heap.objs.size + 1, [s1.heap.objs.size + 1, s1.heap.objs.size], _, _, H1, rfl, I2, turn_enumT a (s1.heap.objs.size + 1) s1.heap.objs.size, ⟨⟨.none, he⟩, ⟨_, hit, rfl, rfl⟩, Nat.succ_ne_self _, Nat.ne_of_lt hal, Nat.ne_of_lt (Nat.lt_succ_of_lt hal)⟩, fun b hb => ?_, q⟩
      have e' : b = s1.heap.objs.size + 1 ∨ b = s1.heap.objs.size := by simpa using hb
      have hle : s1.heap.objs.size ≤ b := by
        rcases e' with z | z
        · rw [z]; exact Nat.le_add_right _ _
        · rw [z]; exact Nat.le_refl _
      exact I1.fpOk hle (I1.hok.fresh hle)
/-- a list or a tuple walked -/
def iSeqA (K : PySem.W.Frag) (tl : TE) : TI := fun σ H R => tl σ H fun x H1 => ∃ a, x = .ref a ∧ ((∃ xs, SqL K H1 a xs ∧ R (Itl K a) H1) ∨ (∃ xs, SqT K H1 a xs ∧ R (Itt K a) H1))
theorem pi_seqA {X : Cx} {tg l : Expr} {tl : TE} (hl : PE X l tl) : PI X tg l (iSeqA X.K tl) := by
  refine ⟨fun pins s σ H R I h => ?_⟩
  refine thn (hl.run pins s σ H _ I h) fun v s1 ⟨x, H1, I1, r1, q1⟩ => ?_
  obtain ⟨a, e, q1⟩ := q1
  subst e
  cases r1
  rcases q1 with ⟨xs, hq, q⟩ | ⟨xs, hq, q⟩
  · obtain ⟨its, rv, p, hz⟩ := I1.list hq
    refine wpAny_pyIter_list p.isList ?_
    refine ⟨s1.heap.objs.size, [s1.heap.objs.size], _, _, H1, rfl, I1.kept (t' := s1.toks) fun b o e => Heap.get?_push_of_some _ e, turn_list a _, ⟨_, Heap.get?_push_size _ rfl, rfl, rfl⟩, fun b hb => ?_, q⟩
    have e : b = s1.heap.objs.size := by simpa using hb
    subst e
    exact I1.fpOk (Nat.le_refl _) (I1.hok.fresh (Nat.le_refl _))
  · obtain ⟨its, rv, p, hz⟩ := I1.tuple hq
    refine wpAny_pyIter_tuple (show s1.heap.IsTuple a its.toArray from p) ?_
    refine ⟨s1.heap.objs.size, [s1.heap.objs.size], _, _, H1, rfl, I1.kept (t' := s1.toks) fun b o e => Heap.get?_push_of_some _ e, turn_tuple a _, ⟨_, Heap.get?_push_size _ rfl, rfl, rfl⟩, fun b hb => ?_, q⟩
    have e : b = s1.heap.objs.size := by simpa using hb
    subst e
    exact I1.fpOk (Nat.le_refl _) (I1.hok.fresh (Nat.le_refl _))
end L2

namespace Wk
open PySem PySem.Spec PyProof.Rows L2
/-- how the machine's walk stands to the items -/
def ItOk (K : PySem.W.Frag) (T : Tbs) (ρ : List Addr) (H : Hp) (I : Wk.Its) (J : L2.It) : Prop :=
  I.items.length ≤ sizeLine ∧ ∀ ρ' S' H', Le ρ H ρ' H' → RS K T ρ' S' H' → okC I.chk S' = true →
    (∀ (i : Nat) (d : D), I.items[i]? = some d → J.go i H' ∧ ∀ x H'', J.yld i H' x H'' → Le ρ' H' ρ' H'' ∧ RS K T ρ' S' H'' ∧ RD K ρ' H'' d x) ∧ J.stop I.items.length H'
section
variable (X : Cx) (T : Tbs) (W : WX)
def TIf (f : FI) : TI := fun σ H R => ∃ ρ S s, RS X.K T ρ S H ∧ RE X.K ρ H s σ ∧ Post X.K X.mg T (WE W σ) ρ H (ItOk X.K T) R (f s S)
abbrev EI (tg e : Expr) (f : FI) : Prop := PI X tg e (TIf X T W f)
end
theorem PI.imp {X : Cx} {tg e : Expr} {t t' : TI} (h : PI X tg e t) (i : ∀ σ H Q, t' σ H Q → t σ H Q) : PI X tg e t' := ⟨fun pins s σ H Q I q => h.run pins s σ H Q I (i σ H Q q)⟩
theorem okC_cons {c : Chk} {S : Store} {i : Nat} {o : Ob} (h : okC ((i, o) :: c) S = true) : S[i]? = some o ∧ okC c S = true := by
  unfold okC at h ⊢
  rw [List.all_cons, Bool.and_eq_true] at h
  exact ⟨of_decide_eq_true h.1, h.2⟩
section
variable {X : Cx} {T : Tbs} {W : WX} {pos : Pos} {tg : Expr} {e e2 : Expr} {f g : FE} {ρ : List Addr} {S : Store} {H : Hp}
/-- the list at l, kept, walked -/
theorem itok_list {l : Nat} {a : Addr} {ds : List D} (rs : RS X.K T ρ S H) (ha : ρ[l]? = some a) (hs : S[l]? = some (.lst ds)) : ItOk X.K T ρ H ⟨ds, [(l, .lst ds)]⟩ (Itl X.K a) := by
  refine ⟨?_, fun ρ' S' H' le rs' ok => ?_⟩
  · obtain ⟨_, vs, e, _, hv, ra, za⟩ := rs.lstAt (rd_ref ha) hs
    rw [show ds.length = vs.length from ra.len]; exact za
  obtain ⟨hs', _⟩ := okC_cons ok
  obtain ⟨b, vs, e, hb, hv, ra, za⟩ := rs'.lstAt (rd_ref (le.get ha)) hs'
  cases e
  refine ⟨fun i d hd => ?_, ⟨vs, SqL.of hv, by rw [ra.len]; exact Nat.le_refl _⟩⟩
  obtain ⟨v, hv', rv⟩ := Paired.get1 ra.pair hd
  refine ⟨⟨vs, v, SqL.of hv, hv'⟩, fun x H'' y => ?_⟩
  obtain ⟨e, y⟩ := y
  subst e
  have := y vs (SqL.of hv)
  rw [hv'] at this; cases this
  exact ⟨Le.refl _ _, rs', rv⟩
theorem itok_frz {a : Addr} {ds : List D} {vs : List V} (rs : RS X.K T ρ S H) (ha : FrzAt X.K H a vs) (ra : RDs X.K ρ H ds vs) : ItOk X.K T ρ H ⟨ds, []⟩ (Itl X.K a) := by
  refine ⟨by rw [show ds.length = vs.length from ra.len]; exact ha.1, fun ρ' S' H' le rs' ok => ?_⟩
  have ha' := ha.mono le rs.nofz
  have ra' := ra.le rs le
  refine ⟨fun i d hd => ?_, ⟨vs, ha'.sq, by rw [ra.len]; exact Nat.le_refl _⟩⟩
  obtain ⟨v, hv', rv⟩ := Paired.get1 ra'.pair hd
  refine ⟨⟨vs, v, ha'.sq, hv'⟩, fun x H'' y => ?_⟩
  obtain ⟨e, y⟩ := y
  subst e
  have := y vs ha'.sq
  rw [hv'] at this; cases this
  exact ⟨Le.refl _ _, rs', rv⟩
theorem itok_tup {a : Addr} {ds : List D} {vs : List V} (rs : RS X.K T ρ S H) (ha : TupAt X.K H a vs) (ra : RDs X.K ρ H ds vs) : ItOk X.K T ρ H ⟨ds, []⟩ (Itt X.K a) := by
  refine ⟨by rw [show ds.length = vs.length from ra.len]; exact ha.1, fun ρ' S' H' le rs' ok => ?_⟩
  have ha' := ha.mono le
  have ra' := ra.le rs le
  refine ⟨fun i d hd => ?_, ⟨vs, ha'.sq, by rw [ra.len]; exact Nat.le_refl _⟩⟩
  obtain ⟨v, hv', rv⟩ := Paired.get1 ra'.pair hd
  refine ⟨⟨vs, v, ha'.sq, hv'⟩, fun x H'' y => ?_⟩
  obtain ⟨e, y⟩ := y
  subst e
  have := y vs ha'.sq
  rw [hv'] at this; cases this
  exact ⟨Le.refl _ _, rs', rv⟩
theorem ei_seq (h : EV X T W e f) : EI X T W tg e (iSeq f) := by
  refine PI.imp (pi_seqA h) ?_
  rintro σ H R ⟨ρ, S, s, rs, re, h⟩
  refine ⟨ρ, S, s, rs, re, (Post.bind (R := RD X.K) h).imp ?_⟩
  rintro v H1 ⟨ρ1, S1, x, l1, rs1, rd1, h1⟩
  cases x with
  | tup ds =>
    obtain ⟨a, vs, rfl, ta, ra⟩ := rd1.tup
    exact ⟨a, rfl, .inr ⟨vs, ta.sq, h1 ρ1 H1 _ (Le.refl _ _) rs1 (itok_tup rs1 ta ra)⟩⟩
  | frz ds =>
    obtain ⟨a, vs, rfl, ta, ra⟩ := rd1.frz
    exact ⟨a, rfl, .inl ⟨vs, ta.sq, h1 ρ1 H1 _ (Le.refl _ _) rs1 (itok_frz rs1 ta ra)⟩⟩
  | ref l =>
    dsimp only at h1
    split at h1
    · rename_i ds e0
      obtain ⟨a, vs, rfl, ha, hv, ra, za⟩ := rs1.lstAt rd1 e0
      exact ⟨a, rfl, .inl ⟨vs, SqL.of hv, h1 ρ1 H1 _ (Le.refl _ _) rs1 (itok_list rs1 ha e0)⟩⟩
    · exact (show False from h1).elim
  | _ => exact (show False from h1).elim
/-- enumerate: new pairs -/
theorem itok_pair {a : Addr} {ds : List D} {v : V} {T' : Addr} {ρ' : List Addr} {S' : Store} {H' : Hp} {d : D} {i : Nat} (rs' : RS X.K T ρ' S' H') (hT : H' T' = none) (rv : RD X.K ρ' H' d v) :
    Le ρ' H' ρ' (upd H' T' (.tup [.int (i : Nat), v])) ∧ RS X.K T ρ' S' (upd H' T' (.tup [.int (i : Nat), v])) ∧ RD X.K ρ' (upd H' T' (.tup [.int (i : Nat), v])) (.tup [.int i, d]) (.ref T') :=
  tup_new rs' hT (RDs.of (.cons rd_int (.cons rv .nil))) (by show 2 ≤ sizeLine; decide)
theorem enumD_get {ds : List D} {i : Nat} {x : D} (h : (enumD ds)[i]? = some x) : ∃ d, ds[i]? = some d ∧ x = .tup [.int i, d] := by
  unfold enumD at h
  rw [List.getElem?_mapIdx] at h
  cases e : ds[i]? with
  | none => rw [e] at h; cases h
  | some d => rw [e] at h; cases h; exact ⟨d, rfl, rfl⟩
theorem enumD_len (ds : List D) : (enumD ds).length = ds.length := by unfold enumD; rw [List.length_mapIdx]
theorem ei_enum {elts : List Expr} {kk : Nat} {p tpos : Pos} (hm : X.mg "enumerate" = none) (h : EV X T W e f) (hg : Gl X "enumerate" := by rfl) (hs : starEach [e] X.env = [(false, eval e X.env)] := by rfl) :
    EI X T W (.Tuple elts kk tpos) (.Call (.Name "enumerate" p) [e] [] pos) (iEnum f) := by
  refine PI.imp (pi_enumA hg hm (ea_cons h ea_nil hs) hs) ?_
  rintro σ H R ⟨ρ, S, s, rs, re, h⟩
  refine ⟨ρ, S, s, rs, re, ?_⟩
  unfold aCons aNil
  have h' := Post.bind (R := RD X.K) h
  cases er : f s S with
  | bad => rw [er] at h'; exact h'
  | ex c w S' => rw [er] at h'; exact h'
  | ok x S1 =>
    rw [er] at h'
    rw [Res.bind_ok, Res.bind_ok]
    rintro ρ1 H1 vs l1 rs1 rd1
    unfold RDs RDs at rd1
    obtain ⟨v, r, rfl, rd1, rfl⟩ := rd1
    obtain ⟨ρ2, S2, x2, l2, rs2, rd2, h1⟩ : ∃ ρ2 S2 a, Le ρ H ρ2 H1 ∧ RS X.K T ρ2 S2 H1 ∧ RD X.K ρ2 H1 a v ∧ _ := h' ρ1 H1 v l1 rs1 rd1
    cases x2 with
    | tup ds =>
      obtain ⟨a, vs, rfl, ta, ra⟩ := rd2.tup
      refine .inr ⟨a, vs, rfl, ta.sq, h1 ρ2 H1 _ (Le.refl _ _) rs2 ⟨by rw [show (Wk.Its.mk (enumD ds) []).items.length = ds.length from enumD_len ds, ra.len]; exact ta.1, fun ρ' S' H' le rs' ok => ?_⟩⟩
      have ha' := ta.mono le
      have ra' := ra.le rs2 le
      refine ⟨fun i d hd => ?_, ⟨vs, ha'.sq, by show vs.length ≤ (enumD ds).length; rw [enumD_len, ra.len]; exact Nat.le_refl _⟩⟩
      obtain ⟨d', hd', rfl⟩ := enumD_get hd
      obtain ⟨v, hv', rv⟩ := Paired.get1 ra'.pair hd'
      refine ⟨⟨vs, v, ha'.sq, hv'⟩, fun x H'' y => ?_⟩
      obtain ⟨T', x', rfl, hT, rfl, y⟩ := y
      have := y vs ha'.sq
      rw [hv'] at this; cases this
      exact itok_pair (a := a) (ds := ds) rs' hT rv
    | ref l =>
      dsimp only at h1
      split at h1
      · rename_i ds e0
        obtain ⟨a, vs, rfl, ha, hv, ra, za⟩ := rs2.lstAt rd2 e0
        refine .inl ⟨a, vs, rfl, SqL.of hv, h1 ρ2 H1 _ (Le.refl _ _) rs2 ⟨by rw [show (Wk.Its.mk (enumD ds) [(l, .lst ds)]).items.length = ds.length from enumD_len ds, ra.len]; exact za, fun ρ' S' H' le rs' ok => ?_⟩⟩
        obtain ⟨hs', _⟩ := okC_cons ok
        obtain ⟨b, vs', e, hb, hv', ra', za'⟩ := rs'.lstAt (rd_ref (le.get ha)) hs'
        cases e
        refine ⟨fun i d hd => ?_, ⟨vs', SqL.of hv', by show vs'.length ≤ (enumD ds).length; rw [enumD_len, ra'.len]; exact Nat.le_refl _⟩⟩
        obtain ⟨d', hd', rfl⟩ := enumD_get hd
        obtain ⟨v, hw', rv⟩ := Paired.get1 ra'.pair hd'
        refine ⟨⟨vs', v, SqL.of hv', hw'⟩, fun x H'' y => ?_⟩
        obtain ⟨T', x', rfl, hT, rfl, y⟩ := y
        have := y vs' (SqL.of hv')
        rw [hw'] at this; cases this
        exact itok_pair (a := a) (ds := ds) rs' hT rv
      · exact (show False from h1).elim
    | _ => exact (show False from h1).elim
theorem rngD_get {a b : Int} {i : Nat} {d : D} (h : (rngD a b)[i]? = some d) : i < (b - a).toNat ∧ d = .int (a + i) := by
  unfold rngD at h
  rw [List.getElem?_map] at h
  cases e : (List.range (b - a).toNat)[i]? with
  | none => rw [e] at h; cases h
  | some j =>
    rw [e] at h
    obtain ⟨h1, h2⟩ := List.getElem?_eq_some_iff.mp e
    rw [List.getElem_range] at h2
    rw [List.length_range] at h1
    cases h
    exact ⟨h1, by rw [← h2]⟩
theorem rngD_len (a b : Int) : (rngD a b).length = (b - a).toNat := by unfold rngD; rw [List.length_map, List.length_range]
theorem itok_rng {a b : Int} {n : Nat} (hn : n = (b - a).toNat) (hz : n ≤ sizeLine) : ItOk X.K T ρ H ⟨rngD a b, []⟩ (Itr a n) := by
  subst hn
  refine ⟨by rw [show (Wk.Its.mk (rngD a b) []).items.length = _ from rngD_len a b]; exact hz, fun ρ' S' H' le rs' ok => ⟨fun i d hd => ?_, by show (b - a).toNat ≤ (rngD a b).length; rw [rngD_len]; exact Nat.le_refl _⟩⟩
  obtain ⟨h1, rfl⟩ := rngD_get hd
  refine ⟨h1, fun x H'' y => ?_⟩
  obtain ⟨rfl, rfl⟩ := y
  exact ⟨Le.refl _ _, rs', rd_int⟩
theorem ei_rng {p : Pos} (hm : X.mg "range" = none) (h : EV X T W e f) (hg : Gl X "range" := by rfl) (hs : starEach [e] X.env = [(false, eval e X.env)] := by rfl) : EI X T W tg (.Call (.Name "range" p) [e] [] pos) (iRng f) := by
  refine PI.imp (pi_range1 hg hm (pa_cons h pa_nil hs) hs) ?_
  rintro σ H R ⟨ρ, S, s, rs, re, h⟩
  refine ⟨ρ, S, s, rs, re, (Post.bind (R := RD X.K) h).imp ?_⟩
  rintro v H1 ⟨ρ1, S1, x, l1, rs1, rd1, h1⟩
  show ∃ j : Int, [v] = [V.int j] ∧ _
  cases x with
  | int j =>
    dsimp only at h1
    by_cases hc : -(2 ^ 62) ≤ j ∧ j ≤ 16777216
    · rw [if_pos hc] at h1
      have hs := sizeLine_eq
      refine ⟨j, by rw [rd1.int], hc.1, by omega, h1 ρ1 H1 _ (Le.refl _ _) rs1 (itok_rng (by rw [Int.sub_zero]) (by omega))⟩
    · rw [if_neg hc] at h1; exact (show False from h1).elim
  | _ => exact (show False from h1).elim
theorem ei_rng2 {p : Pos} (hm : X.mg "range" = none) (h : EV X T W e f) (h2 : EV X T W e2 g) (hg : Gl X "range" := by rfl) (hs : starEach [e, e2] X.env = [(false, eval e X.env), (false, eval e2 X.env)] := by rfl) (hs2 : starEach [e2] X.env = [(false, eval e2 X.env)] := by rfl) :
    EI X T W tg (.Call (.Name "range" p) [e, e2] [] pos) (iRng2 f g) := by
  refine PI.imp (pi_range2 hg hm (pa_cons h (pa_cons h2 pa_nil hs2) (by rw [hs, hs2])) hs hs2) ?_
  rintro σ H R ⟨ρ, S, s, rs, re, h⟩
  refine ⟨ρ, S, s, rs, re, (Post.bind (R := RD X.K) h).imp ?_⟩
  rintro v H1 ⟨ρ1, S1, x, l1, rs1, rd1, h1⟩
  refine ⟨ρ1, S1, s, rs1, re.le rs l1, (Post.bind (R := RD X.K) h1).imp ?_⟩
  rintro w H2 ⟨ρ2, S2, y, l2, rs2, rd2, h2⟩
  show ∃ i j : Int, [v, w] = [V.int i, V.int j] ∧ _
  cases x with
  | int i =>
    cases y with
    | int j =>
      dsimp only at h2
      by_cases hc : -1000000 ≤ i ∧ i < 2 ^ 62 ∧ -(2 ^ 62) ≤ j ∧ j ≤ 1000000
      · rw [if_pos hc] at h2
        have hs := sizeLine_eq
        refine ⟨i, j, by rw [rd1.int, rd2.int], ⟨by omega, hc.2.1, hc.2.2.1, by omega⟩, h2 ρ2 H2 _ (Le.refl _ _) rs2 (itok_rng rfl (by omega))⟩
      · rw [if_neg hc] at h2; exact (show False from h2).elim
    | _ => exact (show False from h2).elim
  | _ => cases y <;> exact (show False from h2).elim
end
end Wk


set_option Elab.async false
set_option linter.all false
set_option maxRecDepth 100000
set_option maxHeartbeats 4000000
set_option autoImplicit false
/-! WkStm: the functional reading of targets, comprehensions, statements, loops, defs. -/
namespace Wk
open PySem PySem.Spec PyProof.Rows L2

/-! ### targets -/
theorem wipe_set {σ : L2.St} {i : Nat} {y : Option V} : ∀ {vs : List Nat}, i ∈ vs → L2.wipe (σ.set i y) vs = L2.wipe σ vs
  | [], h => by cases h
  | v :: vs, h => by
    unfold L2.wipe
    by_cases e : i ∈ vs
    · rw [wipe_set e]
    · have ev : i = v := by
        rcases List.mem_cons.mp h with z | z
        · exact z
        · exact absurd z e
      subst ev
      have key : ∀ {us : List Nat}, i ∉ us → L2.wipe (σ.set i y) us = (L2.wipe σ us).set i y := by
        intro us
        induction us with
        | nil => intro _; rfl
        | cons u us ih =>
          intro hn
          unfold L2.wipe
          rw [ih (fun z => hn (List.mem_cons_of_mem _ z)), List.set_comm _ _ (fun z => hn (by rw [z]; exact List.mem_cons_self))]
      rw [key e, List.set_set]
theorem wipe_wipe {σ : L2.St} : ∀ {vs us : List Nat}, (∀ x ∈ us, x ∈ vs) → L2.wipe (L2.wipe σ us) vs = L2.wipe σ vs
  | vs, [], _ => rfl
  | vs, u :: us, h => by
    show L2.wipe ((L2.wipe σ us).set u none) vs = _
    rw [wipe_set (h u List.mem_cons_self), wipe_wipe fun x hx => h x (List.mem_cons_of_mem _ hx)]
section
variable (X : Cx) (T : Tbs) (vs : List Nat)
/-- a target, its slots among vs -/
def TGf (g : Tg) : TG := fun v σ H Q => ∃ ρ S s d, RS X.K T ρ S H ∧ RE X.K ρ H s σ ∧ RD X.K ρ H d v ∧ match gF g d s with
  | some s' => ∀ σ', RE X.K ρ H s' σ' → L2.wipe σ' vs = L2.wipe σ vs → Q σ' H
  | none => False
def TGfs (gs : List Tg) : TGs := fun us σ H Q => ∃ ρ S s ds, RS X.K T ρ S H ∧ RE X.K ρ H s σ ∧ RDs X.K ρ H ds us ∧ match gFs gs ds s with
  | some s' => ∀ σ', RE X.K ρ H s' σ' → L2.wipe σ' vs = L2.wipe σ vs → Q σ' H
  | none => False
abbrev EG (tg : Expr) (g : Tg) : Prop := PG X tg (TGf X T vs g)
abbrev EGs (ts : List Expr) (gs : List Tg) : Prop := PGs X ts (TGfs X T vs gs)
end
theorem PG.imp {X : Cx} {tg : Expr} {t t' : TG} (h : PG X tg t) (i : ∀ v σ H Q, t' v σ H Q → t v σ H Q) : PG X tg t' := ⟨fun pins s σ H v u Q I r q => h.run pins s σ H v u Q I r (i v σ H Q q)⟩
theorem PGs.imp {X : Cx} {tg : List Expr} {t t' : TGs} (h : PGs X tg t) (i : ∀ v σ H Q, t' v σ H Q → t v σ H Q) : PGs X tg t' := ⟨fun pins s σ H v u Q I r q => h.run pins s σ H v u Q I r (i v σ H Q q)⟩
section
variable {X : Cx} {T : Tbs} {W : WX} {pos : Pos} {vs : List Nat}
theorem eg_name (i : Nat) {x : Str} (hN : X.N.Nodup) (hv : i ∈ vs := by decide) (hi : X.N[i]? = some x := by rfl) (hx : Loc X.env.scope x := by first | exact Or.inl rfl | exact Or.inr rfl) (hf : X.fn x = true ∨ X.env.scope.names.lookup x = some .local := by first | exact .inl rfl | exact .inr rfl | assumption) : EG X T vs (.Name x pos) (.nm i) := by
  refine PG.imp (pg_name hN hi hx hf) ?_
  rintro v σ H Q ⟨ρ, S, s, d, rs, re, rd, h⟩
  exact h _ (re.set i rd) (wipe_set hv)
theorem egs_nil : EGs X T vs [] [] := by
  refine PGs.imp pgs_nil ?_
  rintro v σ H Q ⟨ρ, S, s, ds, rs, re, rd, h⟩
  cases ds with
  | nil => unfold RDs at rd; subst rd; exact ⟨rfl, h _ re rfl⟩
  | cons d ds => exact (show False from h).elim
theorem egs_cons {e : Expr} {es : List Expr} {g : Tg} {gs : List Tg} (h1 : EG X T vs e g) (h2 : EGs X T vs es gs) (hs : (assignEach (e :: es) X.env).map (·.2) = assign e X.env :: (assignEach es X.env).map (·.2) := by rfl) : EGs X T vs (e :: es) (g :: gs) := by
  refine PGs.imp (pgs_cons h1 h2 hs) ?_
  rintro v σ H Q ⟨ρ, S, s, ds, rs, re, rd, h⟩
  cases ds with
  | nil => exact (show False from h).elim
  | cons d ds =>
    unfold RDs at rd
    obtain ⟨w, r, rfl, rd1, rd2⟩ := rd
    refine ⟨w, r, rfl, ρ, S, s, d, rs, re, rd1, ?_⟩
    unfold gFs at h
    cases e : gF g d s with
    | none => rw [e] at h; exact (show False from h).elim
    | some s' =>
      rw [e] at h
      intro σ' re' ew
      refine ⟨ρ, S, s', ds, rs, re', rd2, ?_⟩
      dsimp only at h ⊢
      split
      · rename_i s2 e2
        rw [e2] at h
        exact fun σ2 re2 ew2 => h σ2 re2 (ew2.trans ew)
      · rename_i e2
        rw [e2] at h
        exact h
theorem gFs_len : ∀ {gs : List Tg} {ds : List D} {s s' : Env}, gFs gs ds s = some s' → ds.length = gs.length
  | [], [], _, _, _ => rfl
  | [], _ :: _, _, _, h => by unfold gFs at h; cases h
  | _ :: _, [], _, _, h => by unfold gFs at h; cases h
  | g :: gs, d :: ds, s, s', h => by
    unfold gFs at h
    cases e : gF g d s with
    | none => rw [e] at h; cases h
    | some s1 => rw [e] at h; rw [List.length_cons, List.length_cons, gFs_len h]
theorem eg_tup {es : List Expr} {gs : List Tg} {k : Nat} {n : Nat} (hc : X.calm = true) (h : EGs X T vs es gs) (hn : (assignEach es X.env).length = n := by rfl) (hl : gs.length = n := by rfl) (hst : (assignEach es X.env).findIdx? (·.1) = none := by rfl) : EG X T vs (.Tuple es k pos) (.tp gs) := by
  refine PG.imp (pg_tup hc h hn hst) ?_
  rintro v σ H Q ⟨ρ, S, s, d, rs, re, rd, h⟩
  cases d with
  | tup ds =>
    obtain ⟨a, us, rfl, ta, ra⟩ := rd.tup
    cases e : gFs gs ds s with
    | none => rw [show gF (.tp gs) (.tup ds) s = gFs gs ds s from rfl, e] at h; exact (show False from h).elim
    | some s' =>
      refine ⟨a, us, rfl, ta.sq, by rw [← ra.len, gFs_len e, hl], ρ, S, s, ds, rs, re, ra, ?_⟩
      exact h
  | _ => exact (show False from h).elim
end

/-! ### comprehensions -/
section
variable {X : Cx} {T : Tbs} {W : WX} {pos : Pos} {vs : List Nat}
abbrev W0 : WX := fun _ _ _ _ => False
/-- the tests of a comprehension -/
abbrev ETs (X : Cx) (T : Tbs) (W : WX) (es : List Expr) (t : FT) : Prop := PTs X es (TTf X T W t)
theorem PTs.imp {X : Cx} {es : List Expr} {t t' : TT} (h : PTs X es t) (i : ∀ σ H Q, t' σ H Q → t σ H Q) : PTs X es t' := ⟨fun pins s σ H Q I q => h.run pins s σ H Q I (i σ H Q q)⟩
theorem ets_nil : ETs X T W [] tTrue := by
  refine PTs.imp pts_nil ?_
  rintro σ H Q ⟨ρ, S, s, rs, re, h⟩
  exact h ρ H _ (Le.refl _ _) rs rfl
theorem ets_one {c : Expr} {t : FT} (h : ET X T W c t) : ETs X T W [c] t := pts_one h
theorem noEx_post {K : PySem.W.Frag} {mg : Str → Option Value} {E E' : XK} {ρ : List Addr} {H : Hp} {α β : Type} {R : List Addr → Hp → α → β → Prop} {Q : β → Hp → Prop} {r : Res α} (h : Post K mg T E ρ H R Q (noEx r)) : Post K mg T E' ρ H R Q r := by
  cases r with
  | ok a S => exact h
  | ex c w S => exact (show False from h).elim
  | bad => exact h
theorem noEx_bind {α β : Type} {r : Res α} {f : α → Store → Res β} : noEx (r.bind f) = (noEx r).bind fun a S => noEx (f a S) := by cases r <;> rfl
theorem upd_twice {H : Hp} {a : Addr} {o u : HO} : upd (upd H a o) a u = upd H a u := upd_upd
/-- [elt for target in iter if ..] -/
theorem tef_comp {fi : FI} {g : Tg} {t : FT} {e : FE} : ∀ σ H Q, TEf X T W (eComp fi g t e vs) σ H Q → tLc (TIf X T W fi) (TGf X T vs g) (TTf X T W0 t) (TEf X T W0 e) vs σ H Q := by
  rintro σ H Q ⟨ρ, S, s, rs, re, h⟩
  refine ⟨ρ, S, s, rs, re, (Post.bind (R := ItOk X.K T) h).imp ?_⟩
  rintro J H1 ⟨ρ1, S1, I, l1, rs1, it, h1⟩
  intro D hD
  have re1 := re.le rs l1
  have sz := it.1
  -- the turns: i items gone, acc made
  refine ⟨fun i m H' => m = I.items.length - i ∧ i ≤ I.items.length ∧ ∃ ρ' S' acc accV, Le ρ1 H1 ρ' H' ∧ RS X.K T ρ' S' H' ∧ H' D = some (.lst accV) ∧ D ∉ ρ' ∧ RDs X.K ρ' H' acc accV ∧ accV.length ≤ i ∧
      Post X.K X.mg T (WE W σ) ρ1 H1 (RD X.K) Q ((noEx (compL I.chk g t e (wipeE s vs) (I.items.drop i) S')).bind fun ys S2 => .ok (.ref S2.length) (S2 ++ [.lst (acc ++ ys)])), ?_, ?_⟩
  · exact ⟨_, rfl, Nat.zero_le _, ρ1, S1, [], [], Le.fresh rs1 hD, rs1.freshP hD, upd_same, rs1.fresh hD, by unfold RDs; rfl, Nat.zero_le _, by simpa using h1⟩
  · rintro i m H' ⟨rfl, hi, ρ', S', acc, accV, le', rs', hD', nD, ra, hl, hp⟩
    by_cases hlt : i < I.items.length
    · refine .inr ?_
      have hd : I.items[i]? = some I.items[i] := List.getElem?_eq_getElem hlt
      rw [List.drop_eq_getElem_cons hlt] at hp
      generalize hdd : I.items[i] = d at hp hd
      have ok : okC I.chk S' = true := by
        by_cases q : okC I.chk S' = true
        · exact q
        · unfold compL at hp; rw [if_neg q] at hp; exact (show False from hp).elim
      unfold compL at hp
      rw [if_pos ok] at hp
      obtain ⟨hgo, hyld⟩ := (it.2 ρ' S' H' le' rs' ok).1 i d hd
      refine ⟨hgo, fun H5 => I.items.length - (i + 1) = I.items.length - (i + 1) ∧ i + 1 ≤ I.items.length ∧ ∃ ρ' S' acc accV, Le ρ1 H1 ρ' H5 ∧ RS X.K T ρ' S' H5 ∧ H5 D = some (.lst accV) ∧ D ∉ ρ' ∧ RDs X.K ρ' H5 acc accV ∧ accV.length ≤ i + 1 ∧
        Post X.K X.mg T (WE W σ) ρ1 H1 (RD X.K) Q ((noEx (compL I.chk g t e (wipeE s vs) (I.items.drop (i + 1)) S')).bind fun ys S2 => .ok (.ref S2.length) (S2 ++ [.lst (acc ++ ys)])),
        fun H5 q => ⟨_, by omega, q⟩, fun x H2 y => ?_⟩
      obtain ⟨le2, rs2, rd2⟩ := hyld x H2 y
      have hD2 : H2 D = some (.lst accV) := le2.keep D _ hD' nD (fun ps z => nomatch z)
      have re2 : RE X.K ρ' H2 (wipeE s vs) (L2.wipe σ vs) := (re1.le rs1 (le'.trans le2)).wipe vs
      refine ⟨ρ', S', wipeE s vs, d, rs2, re2, rd2, ?_⟩
      cases eg : gF g d (wipeE s vs) with
      | none => rw [eg] at hp; exact (show False from hp).elim
      | some s1 =>
        rw [eg] at hp
        dsimp only at hp ⊢
        intro σ' re' ew
        refine ⟨ew.trans (wipe_wipe fun _ z => z), ρ', S', s1, rs2, re', ?_⟩
        cases et : t s1 S' with
        | bad => rw [et] at hp; exact hp
        | ex c w S2 => rw [et] at hp; exact (show False from hp).elim
        | ok b S2 =>
          rw [et, Res.bind_ok] at hp
          rintro ρ3 H3 b' le3 rs3 hb
          obtain rfl : b = b' := hb
          have nD3 := le3.nin hD2 nD
          have hD3 : H3 D = some (.lst accV) := le3.keep D _ hD2 nD (fun ps z => nomatch z)
          cases b with
          | false =>
            rw [if_neg (by decide)] at hp ⊢
            exact ⟨rfl, hlt, ρ3, S2, acc, accV, (le'.trans le2).trans le3, rs3, hD3, nD3, (ra.le rs' le2).le rs2 le3, Nat.le_succ_of_le hl, hp⟩
          | true =>
            rw [if_pos rfl] at hp ⊢
            refine ⟨ρ3, S2, s1, rs3, re'.le rs2 le3, ?_⟩
            cases ee : e s1 S2 with
            | bad => rw [ee] at hp; exact hp
            | ex c w S2 => rw [ee] at hp; exact (show False from hp).elim
            | ok y3 S3 =>
              rw [ee, Res.bind_ok] at hp
              rintro ρ4 H4 v le4 rs4 rd4
              have nD4 := le4.nin hD3 nD3
              have hD4 : H4 D = some (.lst accV) := le4.keep D _ hD3 nD3 (fun ps z => nomatch z)
              refine ⟨accV, hD4, by omega, rfl, hlt, ρ4, S3, acc ++ [y3], accV ++ [v], ?_⟩
              obtain ⟨lw5, rs5⟩ := rs4.side (o := .lst (accV ++ [v])) hD4 nD4 (fun _ z => nomatch z) (fun _ _ z => nomatch z) (fun _ z => nomatch z) (fun _ z => nomatch z)
              have ra4 := ((ra.le rs' le2).le rs2 le3).le rs3 le4
              refine ⟨(((le'.trans le2).trans le3).trans le4).side hD, rs5, upd_same, nD4, RDs.of (Paired.app (RDs.lw lw5 _ _ ra4).pair (.cons (RD.lw lw5 _ _ rd4) .nil)), by rw [List.length_append, List.length_singleton]; omega, ?_⟩
              cases ec : compL I.chk g t e (wipeE s vs) (I.items.drop (i + 1)) S3 with
              | bad => rw [ec] at hp; exact hp
              | ex c w S2 => rw [ec] at hp; exact (show False from hp).elim
              | ok ys S4 =>
                rw [ec] at hp
                simpa using hp
    · have e : i = I.items.length := by omega
      subst e
      rw [List.drop_length] at hp
      have ok : okC I.chk S' = true := by
        by_cases q : okC I.chk S' = true
        · exact q
        · unfold compL at hp; rw [if_neg q] at hp; exact (show False from hp).elim
      unfold compL at hp
      rw [if_pos ok] at hp
      refine .inl ⟨(it.2 ρ' S' H' le' rs' ok).2, ?_⟩
      have lwA : Lw ρ' H' (ρ' ++ [D]) H' := ⟨⟨_, rfl⟩, fun _ _ h => h, fun _ _ _ h => h⟩
      have rsA := rs'.adopt (p := D) (ob := .lst acc) nD ⟨accV, hD', ra, by omega⟩
      refine hp (ρ' ++ [D]) H' (.ref D) (le'.adopt hD) (by simpa using rsA) (rd_ref rs'.lastAt)
theorem ev_comp {elt tg iter : Expr} {ifs : List Expr} {scope : Scope} {own : List (Str × Nat)} {fi : FI} {g : Tg} {t : FT} {e : FE} (hc : X.calm = true) (hN : X.N.Nodup) (hi : EI X T W tg iter fi) {us : List Nat} (ok : BlkOk X.N X.env.scope scope own) (hus : own.map (·.2) = us)
    (hg : ∀ (s : Shared) (H : Hp) (C : Addr) (cl : List (Str × Addr)) (fp : List Addr), EG (X.blk s H scope (compEnvC scope cl C X.env) fp) T (own.map (·.2)) tg g)
    (ht : ∀ (s : Shared) (H : Hp) (C : Addr) (cl : List (Str × Addr)) (fp : List Addr), ETs (X.blk s H scope (compEnvC scope cl C X.env) fp) T W0 ifs t)
    (he : ∀ (s : Shared) (H : Hp) (C : Addr) (cl : List (Str × Addr)) (fp : List Addr), EV (X.blk s H scope (compEnvC scope cl C X.env) fp) T W0 elt e) (hs : ∀ x, foldedSetIterable iter X.env x = pure x := by intro _; rfl) :
    EV X T W (.ListComp elt [⟨tg, iter, ifs, 0⟩] scope pos) (eComp fi g t e us) := by
  subst hus
  exact PE.imp (pe_lc hc hN hi ok hg ht he hs) tef_comp
/-- name = [..] on one line -/
theorem es_comp {i : Nat} {y : Str} {py : Pos} {elt tg iter : Expr} {ifs : List Expr} {scope : Scope} {own : List (Str × Nat)} {cpos spos : Pos} {fi : FI} {g : Tg} {t : FT} {e : FE} (hc : X.calm = true) (hN : X.N.Nodup) (hy : X.N[i]? = some y) (hyl : X.env.scope.names.lookup y = some .local)
    (hsw : swapsWith (.ListComp elt [⟨tg, iter, ifs, 0⟩] scope cpos) (some (.Name y py)) spos.line X.env = pure true) (hi : EI X T W tg iter fi) {us : List Nat} (ok : BlkOk X.N X.env.scope scope own) (hus : own.map (·.2) = us)
    (hg : ∀ (s : Shared) (H : Hp) (C : Addr) (cl : List (Str × Addr)) (fp : List Addr), EG (X.blk s H scope (compEnvC scope cl C X.env) fp) T (own.map (·.2)) tg g)
    (ht : ∀ (s : Shared) (H : Hp) (C : Addr) (cl : List (Str × Addr)) (fp : List Addr), ETs (X.blk s H scope (compEnvC scope cl C X.env) fp) T W0 ifs t)
    (he : ∀ (s : Shared) (H : Hp) (C : Addr) (cl : List (Str × Addr)) (fp : List Addr), EV (X.blk s H scope (compEnvC scope cl C X.env) fp) T W0 elt e) (hs : ∀ x, foldedSetIterable iter X.env x = pure x := by intro _; rfl) :
    ES X T W (.Assign [.Name y py] (.ListComp elt [⟨tg, iter, ifs, 0⟩] scope cpos) spos) (sSet i (eComp fi g t e us)) := by
  subst hus
  refine PS.imp (ps_setLc (wi := TIf X T W fi) (g := TGf X T (List.map (fun (p : Str × Nat) => p.2) own) g) (tt := TTf X T W0 t) (te := TEf X T W0 e) hc hN hy hyl hsw hi ok hg ht he hs) ?_
  rintro D σ H ⟨ρ, S, s, rs, re, h⟩
  refine tef_comp σ H _ ⟨ρ, S, s, rs, re, (PostS.ofE (R := RD X.K) rs re h).imp ?_⟩
  rintro v H1 ⟨ρ1, S1, d, l1, rs1, re1, rd1, h1⟩
  exact h1 ρ1 H1 _ (Le.refl _ _) rs1 (re1.set i rd1)
end
end Wk


set_option Elab.async false
set_option linter.all false
set_option maxRecDepth 100000
set_option maxHeartbeats 4000000
set_option autoImplicit false
/-! WkDef: the functional reading of statements, loops, dicts' operations, defs and their calls, errors raised. -/
namespace Wk
open PySem PySem.Spec PyProof.Rows L2

section
variable {X : Cx} {T : Tbs} {W : WX} {pos : Pos}
/-! ### blocks -/
theorem ess_nil : ESs X T W [] sSkip := by
  refine PSs.imp pss_nil ?_
  rintro D σ H ⟨ρ, S, s, rs, re, h⟩
  exact h ρ H σ (Le.refl _ _) rs re
theorem ess_one {st : Stmt} {f : FS} (h : ES X T W st f) : ESs X T W [st] f := pss_one h
theorem ess_cons {st : Stmt} {rest : List Stmt} {f g : FS} (h1 : ES X T W st f) (h2 : ESs X T W rest g) : ESs X T W (st :: rest) (sSeq f g) := by
  refine PSs.imp (pss_cons h1 h2) ?_
  rintro D σ H ⟨ρ, S, s, rs, re, h⟩
  refine ⟨ρ, S, s, rs, re, ?_⟩
  unfold sSeq at h
  cases e : f s S with
  | nx s' S' =>
    rw [e] at h
    exact fun ρ' H' σ' le rs' re' => ⟨ρ', S', s', rs', re', PostS.le h le⟩
  | rt d S' => rw [e] at h; exact h
  | bk s' S' => rw [e] at h; exact h
  | ct s' S' => rw [e] at h; exact h
  | ex c w s' S' => rw [e] at h; exact h
  | bad => rw [e] at h; exact h
theorem es_pass : ES X T W (.Pass pos) sSkip := by
  refine PS.imp ps_pass ?_
  rintro D σ H ⟨ρ, S, s, rs, re, h⟩
  exact h ρ H σ (Le.refl _ _) rs re
theorem es_break : ES X T W (.Break pos) Wk.sBreak := by
  refine PS.imp ps_break ?_
  rintro D σ H ⟨ρ, S, s, rs, re, h⟩
  exact h ρ H σ (Le.refl _ _) rs re
theorem es_cont : ES X T W (.Continue pos) Wk.sCont := by
  refine PS.imp ps_continue ?_
  rintro D σ H ⟨ρ, S, s, rs, re, h⟩
  exact h ρ H σ (Le.refl _ _) rs re
variable {e : Expr} {f : FE}
theorem es_expr (he : EV X T W e f) (hs : swapsWith e none pos.line X.env = pure false := by rfl) : ES X T W (.Expr e pos) (sExpr f) := by
  refine PS.imp (ps_expr he hs) ?_
  rintro D σ H ⟨ρ, S, s, rs, re, h⟩
  refine ⟨ρ, S, s, rs, re, (PostS.ofE (R := RD X.K) rs re h).imp ?_⟩
  rintro v H1 ⟨ρ1, S1, d, l1, rs1, re1, rd1, h1⟩
  exact h1 ρ1 H1 σ (Le.refl _ _) rs1 re1
theorem es_ret (he : EV X T W e f) : ES X T W (.Return (some e) pos) (sRet f) := by
  refine PS.imp (ps_ret he) ?_
  rintro D σ H ⟨ρ, S, s, rs, re, h⟩
  refine ⟨ρ, S, s, rs, re, (PostS.ofE (R := RD X.K) rs re h).imp ?_⟩
  rintro v H1 ⟨ρ1, S1, d, l1, rs1, re1, rd1, h1⟩
  exact h1 ρ1 H1 v (Le.refl _ _) rs1 rd1
theorem es_retN : ES X T W (.Return none pos) sRetN := by
  refine PS.imp ps_retN ?_
  rintro D σ H ⟨ρ, S, s, rs, re, h⟩
  exact h ρ H _ (Le.refl _ _) rs rd_non
theorem es_if {c : Expr} {a b : List Stmt} {t : FT} {fa fb : FS} (hc : ET X T W c t) (ha : ESs X T W a fa) (hb : ESs X T W b fb) : ES X T W (.If c a b pos) (sIf t fa fb) := by
  refine PS.imp (ps_if hc ha hb) ?_
  rintro D σ H ⟨ρ, S, s, rs, re, h⟩
  refine ⟨ρ, S, s, rs, re, (PostS.ofE (R := RB) rs re h).imp ?_⟩
  rintro k H1 ⟨ρ1, S1, k', l1, rs1, re1, rfl, h1⟩
  cases k' with
  | true => rw [if_pos rfl] at h1 ⊢; exact ⟨ρ1, S1, s, rs1, re1, h1⟩
  | false => rw [if_neg (by decide)] at h1 ⊢; exact ⟨ρ1, S1, s, rs1, re1, h1⟩
theorem es_set (i : Nat) {x : Str} {pos' : Pos} (hN : X.N.Nodup) (he : EV X T W e f) (hi : X.N[i]? = some x := by rfl) (hx : Loc X.env.scope x := by first | exact Or.inl rfl | exact Or.inr rfl) (hs : swapsWith e (some (.Name x pos')) pos.line X.env = pure false := by rfl)
    (hf : X.fn x = true ∨ X.env.scope.names.lookup x = some .local := by first | exact .inl rfl | exact .inr rfl | assumption) : ES X T W (.Assign [.Name x pos'] e pos) (sSet i f) := by
  refine PS.imp (ps_set hN hi hx he hs hf) ?_
  rintro D σ H ⟨ρ, S, s, rs, re, h⟩
  refine ⟨ρ, S, s, rs, re, (PostS.ofE (R := RD X.K) rs re h).imp ?_⟩
  rintro v H1 ⟨ρ1, S1, d, l1, rs1, re1, rd1, h1⟩
  exact h1 ρ1 H1 _ (Le.refl _ _) rs1 (re1.set i rd1)
theorem es_asg {tg : Expr} {g : Tg} {vs : List Nat} (he : EV X T W e f) (hg : EG X T vs tg g) (hs : swapsWithSole [tg] e pos.line X.env = pure false := by rfl) (hw : swappedStores [tg] e X.env = pure none := by rfl)
    (h1 : (assignEach [tg] X.env).map (·.2) = [assign tg X.env] := by rfl) : ES X T W (.Assign [tg] e pos) (sAsg g f) := by
  refine PS.imp (ps_asg he hg hs hw h1) ?_
  rintro D σ H ⟨ρ, S, s, rs, re, h⟩
  refine ⟨ρ, S, s, rs, re, (PostS.ofE (R := RD X.K) rs re h).imp ?_⟩
  rintro v H1 ⟨ρ1, S1, d, l1, rs1, re1, rd1, h1⟩
  refine ⟨ρ1, S1, s, d, rs1, re1, rd1, ?_⟩
  cases eg : gF g d s with
  | none => rw [eg] at h1; exact (show False from h1).elim
  | some s' => rw [eg] at h1; exact fun σ' re' _ => h1 ρ1 H1 σ' (Le.refl _ _) rs1 re'
/-- a, b = x, y -/
theorem es_par (i j : Nat) {x y : Str} {a b : Expr} {fa fb : FE} {px py pt : Pos} {kt k2 pt2} (hc : X.calm = true) (hN : X.N.Nodup) (ha : EV X T W a fa) (hb : EV X T W b fb) (hi : X.N[i]? = some x := by rfl) (hj : X.N[j]? = some y := by rfl) (hij : i ≠ j := by decide)
    (hx : X.env.scope.names.lookup x = some .local := by rfl) (hy : X.env.scope.names.lookup y = some .local := by rfl) (hsa : starEach (a :: [b]) X.env = (false, eval a X.env) :: starEach [b] X.env := by rfl) (hsb : starEach [b] X.env = (false, eval b X.env) :: starEach [] X.env := by rfl)
    (hw : swappedStores [.Tuple [.Name x px, .Name y py] kt pt] (.Tuple [a, b] k2 pt2) X.env = pure (some [x, y]) := by rfl)
    (hs : swapsWithSole [.Tuple [.Name x px, .Name y py] kt pt] (.Tuple [a, b] k2 pt2) pos.line X.env = pure false := by rfl) :
    ES X T W (.Assign [.Tuple [.Name x px, .Name y py] kt pt] (.Tuple [a, b] k2 pt2) pos) (sPar i j fa fb) := by
  refine PS.imp (ps_par hc hN hi hj hij hx hy (pa_cons ha (pa_cons hb pa_nil hsb) hsa) hw hs) ?_
  rintro D σ H ⟨ρ, S, s, rs, re, h⟩
  refine ⟨ρ, S, s, rs, re, (PostS.ofE (R := RD X.K) rs re h).imp ?_⟩
  rintro v H1 ⟨ρ1, S1, d, l1, rs1, re1, rd1, h1⟩
  refine ⟨ρ1, S1, s, rs1, re1, (PostS.ofE (R := RD X.K) rs1 re1 h1).imp ?_⟩
  rintro w H2 ⟨ρ2, S2, d2, l2, rs2, re2, rd2, h2⟩
  exact ⟨v, w, rfl, h2 ρ2 H2 _ (Le.refl _ _) rs2 ((re2.set i (rd1.le rs1 l2)).set j rd2)⟩
/-- xs[i] = v of a list -/
theorem es_subL {o i v : Expr} {fo fi fv : FE} {pos' : Pos} (hv : EV X T W v fv) (ho : EV X T W o fo) (hi : EV X T W i fi)
    (ha : ∀ v, assign (.Subscript o i pos') X.env v = (do
      let ov ← holding [v] (eval o X.env)
      let iv ← holding [v, ov] (eval i X.env)
      standAt pos'
      holding [v, ov, iv] (setItem ov iv v)
      release [v, ov, iv] []) := by intro _; rfl)
    (hs : swapsWithSole [.Subscript o i pos'] v pos.line X.env = pure false := by rfl) (hw : swappedStores [.Subscript o i pos'] v X.env = pure none := by rfl)
    (h1 : (assignEach [.Subscript o i pos'] X.env).map (·.2) = [assign (.Subscript o i pos') X.env] := by rfl) : ES X T W (.Assign [.Subscript o i pos'] v pos) (sSub uSetL fo fi fv) := by
  refine PS.imp (ps_asg hv (pg_sub ho hi set_list ha) hs hw h1) ?_
  rintro D σ H ⟨ρ, S, s, rs, re, h⟩
  refine ⟨ρ, S, s, rs, re, (PostS.ofE (R := RD X.K) rs re h).imp ?_⟩
  rintro v H1 ⟨ρ1, S1, d, l1, rs1, re1, rd1, h1⟩
  refine ⟨ρ1, S1, s, rs1, re1, (PostS.ofE (R := RD X.K) rs1 re1 h1).imp ?_⟩
  rintro w H2 ⟨ρ2, S2, d2, l2, rs2, re2, rd2, h2⟩
  refine ⟨ρ2, S2, s, rs2, re2, (PostS.ofE (R := RD X.K) rs2 re2 h2).imp ?_⟩
  rintro u H3 ⟨ρ3, S3, d3, l3, rs3, re3, rd3, h3⟩
  have rd1' := (rd1.le rs1 l2).le rs2 l3
  have rd2' := rd2.le rs2 l3
  cases d2 with
  | ref l =>
    cases d3 with
    | int k =>
      unfold uSetL at h3
      dsimp only at h3
      cases e0 : S3[l]? with
      | none => rw [e0] at h3; exact (show False from h3).elim
      | some ob =>
        rw [e0] at h3
        cases ob with
        | lst ds =>
          obtain ⟨a, vs, rfl, hla, hv', ra, za⟩ := rs3.lstAt rd2' e0
          dsimp only at h3
          cases ej : Wk.ixN ds.length k with
          | none => rw [ej] at h3; exact (show False from h3).elim
          | some j =>
            rw [ej] at h3
            obtain ⟨q1, q2⟩ := lst_write rs3 hla e0 (RDs.of (Paired.set1 (R := RD X.K ρ3 H3) rd1' j ra.pair)) (by rw [List.length_set]; exact za)
            refine ⟨a, vs, k, j, rfl, rd3.int, hv', by rw [← ra.len]; exact ej, ?_⟩
            exact h3 ρ3 _ σ q1 q2 (re3.le rs3 q1)
        | _ => exact (show False from h3).elim
    | _ => exact (show False from h3).elim
  | _ => cases d3 <;> exact (show False from h3).elim

/-! ### loops -/
theorem es_while {c : Expr} {body : List Stmt} {t : FT} {b : FS} (hp : PassesOwn (model X.prog X.w) X.A X.env X.xe) (hc : ET X T W c t) (hb : ESs X T W body b) : ES X T W (.While c body [] pos) (Wk.sWhile t b) := by
  refine PS.imp (ps_while hp hc hb) ?_
  rintro D σ H ⟨ρ, S, s, rs, re, h⟩
  refine ⟨fun m σ H => ∃ ρ S s, RS X.K T ρ S H ∧ RE X.K ρ H s σ ∧ PostS X.K X.mg T W D ρ H (whileL t b m s S), ⟨FUEL, ρ, S, s, rs, re, h⟩, ?_⟩
  rintro m σ H ⟨ρ, S, s, rs, re, h⟩
  cases m with
  | zero => exact (show False from h).elim
  | succ m =>
    unfold whileL at h
    refine ⟨ρ, S, s, rs, re, (PostS.ofE (R := RB) rs re h).imp ?_⟩
    rintro k H1 ⟨ρ1, S1, k', l1, rs1, re1, rfl, h1⟩
    cases k' with
    | false =>
      rw [if_neg (by decide)] at h1 ⊢
      exact h1 ρ1 H1 σ (Le.refl _ _) rs1 re1
    | true =>
      rw [if_pos rfl] at h1 ⊢
      refine ⟨fun σ H => ∃ ρ S s, RS X.K T ρ S H ∧ RE X.K ρ H s σ ∧ PostS X.K X.mg T W D ρ H (whileL t b m s S), fun σ' H' q => ⟨m, Nat.lt_succ_self _, q⟩, ρ1, S1, s, rs1, re1, ?_⟩
      cases eb : b s S1 with
      | nx s2 S2 => rw [eb] at h1; exact fun ρ' H' σ' le rs' re' => ⟨ρ', S2, s2, rs', re', PostS.le h1 le⟩
      | ct s2 S2 => rw [eb] at h1; exact fun ρ' H' σ' le rs' re' => ⟨ρ', S2, s2, rs', re', PostS.le h1 le⟩
      | bk s2 S2 => rw [eb] at h1; exact h1
      | rt d S2 => rw [eb] at h1; exact h1
      | ex c w s2 S2 => rw [eb] at h1; exact h1
      | bad => rw [eb] at h1; exact h1
theorem es_for {tg iter : Expr} {body : List Stmt} {fi : FI} {g : Tg} {b : FS} {vs : List Nat} (hp : PassesOwn (model X.prog X.w) X.A X.env X.xe) (hc : X.calm = true) (hi : EI X T W tg iter fi) (hg : EG X T vs tg g) (hb : ESs X T W body b)
    (hs : ∀ x, foldedSetIterable iter X.env x = pure x := by intro _; rfl) : ES X T W (.For tg iter body [] pos) (sFor fi g b) := by
  refine PS.imp (ps_for hp hc hi hg hb hs) ?_
  rintro D σ H ⟨ρ, S, s, rs, re, h⟩
  refine ⟨ρ, S, s, rs, re, (PostS.ofE (R := ItOk X.K T) rs re h).imp ?_⟩
  rintro J H1 ⟨ρ1, S1, I, l1, rs1, re1, it, h1⟩
  refine ⟨fun i m σ' H' => m = I.items.length - i ∧ i ≤ I.items.length ∧ ∃ ρ' S' s', Le ρ1 H1 ρ' H' ∧ RS X.K T ρ' S' H' ∧ RE X.K ρ' H' s' σ' ∧ PostS X.K X.mg T W D ρ' H' (forL I.chk g b (I.items.drop i) s' S'),
    ⟨_, rfl, Nat.zero_le _, ρ1, S1, s, Le.refl _ _, rs1, re1, by simpa using h1⟩, ?_⟩
  rintro i m σ' H' ⟨rfl, hi', ρ', S', s', le', rs', re', hp⟩
  by_cases hlt : i < I.items.length
  · have hd : I.items[i]? = some I.items[i] := List.getElem?_eq_getElem hlt
    rw [List.drop_eq_getElem_cons hlt] at hp
    generalize hdd : I.items[i] = d at hp hd
    have ok : okC I.chk S' = true := by
      by_cases q : okC I.chk S' = true
      · exact q
      · unfold forL at hp; rw [if_neg q] at hp; exact (show False from hp).elim
    unfold forL at hp
    rw [if_pos ok] at hp
    obtain ⟨hgo, hyld⟩ := (it.2 ρ' S' H' le' rs' ok).1 i d hd
    refine .inr ⟨hgo, fun σ2 H2 => i + 1 ≤ I.items.length ∧ ∃ ρ' S' s', Le ρ1 H1 ρ' H2 ∧ RS X.K T ρ' S' H2 ∧ RE X.K ρ' H2 s' σ2 ∧ PostS X.K X.mg T W D ρ' H2 (forL I.chk g b (I.items.drop (i + 1)) s' S'),
      fun σ2 H2 q => ⟨_, by omega, rfl, q⟩, fun x H2 y => ?_⟩
    obtain ⟨le2, rs2, rd2⟩ := hyld x H2 y
    refine ⟨ρ', S', s', d, rs2, re'.le rs' le2, rd2, ?_⟩
    cases eg : gF g d s' with
    | none => rw [eg] at hp; exact (show False from hp).elim
    | some s1 =>
      rw [eg] at hp
      dsimp only at hp ⊢
      intro σ2 re2 _
      refine ⟨ρ', S', s1, rs2, re2, ?_⟩
      have hp2 := PostS.le hp le2
      cases eb : b s1 S' with
      | nx s2 S2 => rw [eb] at hp2; exact fun ρ3 H3 σ3 le3 rs3 re3 => ⟨hlt, ρ3, S2, s2, (le'.trans le2).trans le3, rs3, re3, PostS.le hp2 le3⟩
      | ct s2 S2 => rw [eb] at hp2; exact fun ρ3 H3 σ3 le3 rs3 re3 => ⟨hlt, ρ3, S2, s2, (le'.trans le2).trans le3, rs3, re3, PostS.le hp2 le3⟩
      | bk s2 S2 => rw [eb] at hp2; exact hp2
      | rt d S2 => rw [eb] at hp2; exact hp2
      | ex c w s2 S2 => rw [eb] at hp2; exact hp2
      | bad => rw [eb] at hp2; exact hp2
  · have e : i = I.items.length := by omega
    subst e
    rw [List.drop_length] at hp
    have ok : okC I.chk S' = true := by
      by_cases q : okC I.chk S' = true
      · exact q
      · unfold forL at hp; rw [if_neg q] at hp; exact (show False from hp).elim
    unfold forL at hp
    rw [if_pos ok] at hp
    exact .inl ⟨(it.2 ρ' S' H' le' rs' ok).2, hp ρ' H' σ' (Le.refl _ _) rs' re'⟩
end

/-! ### defs -/
/-- a def's promise: it does what its function tells -/
def spF (K : PySem.W.Frag) (mg : Str → Option Value) (T : Tbs) (n : Nat) (F : Fn) : Sp := fun vs H Q E => vs.length = n ∧ ∃ ρ S ds, RS K T ρ S H ∧ RDs K ρ H ds vs ∧ Post K mg T E ρ H (RD K) Q (F ds S)
/-- a def that may be called by its name -/
structure CallOk (P : Program) (w : World) (K : PySem.W.Frag) (mg : Str → Option Value) (base : Heap) (T : Tbs) (k : Nat) (x : Str) (n : Nat) (F : Fn) : Prop where
  ar : ∀ ds S, ds.length ≠ n → F ds S = .bad
  ex : ∃ (f : Addr) (fd : FuncData) (ps : List Str), ps.length = n ∧ mg x = some (.ref f) ∧ PySem.W.keepIn K (.ref f) = true ∧ Binds K fd ps [] ∧ FnOk P w K mg base (L2.CX P w) k f fd ps (spF K mg T n F)
theorem mkF_ar (n m : Nat) (b : FS) : ∀ ds S, ds.length ≠ n → mkF n m b ds S = .bad := fun ds S h => if_neg h
section
variable {X : Cx} {T : Tbs} {W : WX} {pos : Pos}
theorem ev_call {k n : Nat} {x : Str} {F : Fn} {p : Pos} {e : Expr} {es : List Expr} {fa : FA} (C : CallOk X.prog X.w X.K X.mg X.base T k x n F) (tk : Takes X W) (hr : Room k X.A) (ha : EA X T W (e :: es) fa) (hg : Gl X x := by rfl)
    (hdb : (x == ("__debug__" : Str)) = false := by decide) (he : starEach (e :: es) X.env = (false, eval e X.env) :: starEach es X.env := by rfl) (hpl : (backTo pos (starEach es X.env)).any (·.1) = false := by rfl) :
    EV X T W (.Call (.Name x p) (e :: es) [] pos) (eCall F fa) := by
  obtain ⟨ar, f, fd, ps, hps, hm, hk, hb, G⟩ := C
  refine PE.imp (pe_callS G hr hg hm hk hb (fun σ => passAt tk σ) ha hdb he hpl) ?_
  rintro σ H Q ⟨ρ, S, s, rs, re, h⟩
  refine ⟨ρ, S, s, rs, re, (Post.bind (R := RDs X.K) h).imp ?_⟩
  rintro vs H1 ⟨ρ1, S1, ds, l1, rs1, rd1, h1⟩
  refine ⟨?_, ρ1, S1, ds, rs1, rd1, h1⟩
  by_cases e : ds.length = n
  · rw [← rd1.len]; exact e
  · rw [ar ds S1 e] at h1; exact (show False from h1).elim
end
theorem re_start {K : PySem.W.Frag} {ρ : List Addr} {H : Hp} {N : List Str} {ds : List D} {vs : List V} (r : RDs K ρ H ds vs) : RE K ρ H (startE N.length ds) (L2.start N vs) := by
  unfold startE L2.start
  rw [r.len]
  refine Paired.app ?_ ?_
  · have p := r.pair
    clear r
    induction p with
    | nil => exact .nil
    | cons r t ih => exact .cons (show RO K ρ H (some _) (some _) from r) ih
  · generalize N.length - vs.length = m
    induction m with
    | zero => exact .nil
    | succ m ih => exact .cons trivial ih
section
variable {P : Program} {w : World} {K : PySem.W.Frag} {mg : Str → Option Value} {base : Heap} {T : Tbs}
theorem fn_okF {x qual : Str} {st : Stmt} {f : Addr} {fd : FuncData} {N ps : List Str} {k : Nat} {b : FS} (F : Fun K x qual st f fd) (S : FnScope N ps (defScope st))
    (hbody : ∀ (cdv : Value) (A : Around) (outer : List PySem.Env) (s : Shared) (H : Hp) (E : XK), Room k (A.deeper (envOfC qual (defScope st) s.heap.objs.size f cdv)) →
      ESs (cxOf (L2.CX P w) P w K mg base N qual (defScope st) f cdv A outer s H E) T (fun cls d _ H => E cls d H) (defBody st) b) :
    FnOk P w K mg base (L2.CX P w) (k + 1) f fd ps (spF K mg T ps.length (mkF ps.length N.length b)) := by
  refine F.okX S (fun vs H Q E h => h.1) fun cdv A outer s H vs Q E hr h => ⟨_, hbody cdv A outer s H E hr, ?_⟩
  obtain ⟨hl, ρ, S', ds, rs, rd, h⟩ := h
  refine ⟨ρ, S', startE N.length ds, rs, re_start rd, ?_⟩
  unfold mkF at h
  rw [if_pos (by rw [rd.len, hl])] at h
  show PostS K mg T (fun cls d _ H => E cls d H) { nx := fun _ H' => Q .non H', rt := Q } ρ H (b (startE N.length ds) S')
  cases e : b (startE N.length ds) S' with
  | nx s' S1 => rw [e] at h; exact fun ρ' H' σ' le rs' re' => h ρ' H' .non le rs' rd_non
  | rt d S1 => rw [e] at h; exact h
  | bk s' S1 => rw [e] at h; exact (show False from h).elim
  | ct s' S1 => rw [e] at h; exact (show False from h).elim
  | ex c w s' S1 => rw [e] at h; exact fun ρ' H' σ' v dd C le rs' re' rd' h1 h2 => h ρ' H' v dd C le rs' rd' h1 h2
  | bad => rw [e] at h; exact h
/-- a def of the text -/
structure DefAt (K : PySem.W.Frag) (mg : Str → Option Value) (x : Str) (st : Stmt) (ps : List Str) : Prop where
  ex : ∃ (f : Addr) (fd : FuncData), mg x = some (.ref f) ∧ Fun K x x st f fd ∧ Binds K fd ps []
theorem call_ok {x : Str} {st : Stmt} {N ps : List Str} {k n m : Nat} {b : FS} (D : DefAt K mg x st ps) (S : FnScope N ps (defScope st)) (hn : ps.length = n) (hm : N.length = m)
    (hbody : ∀ (f : Addr) (cdv : Value) (A : Around) (outer : List PySem.Env) (s : Shared) (H : Hp) (E : XK), Room k (A.deeper (envOfC x (defScope st) s.heap.objs.size f cdv)) →
      ESs (cxOf (L2.CX P w) P w K mg base N x (defScope st) f cdv A outer s H E) T (fun cls d _ H => E cls d H) (defBody st) b) : CallOk P w K mg base T (k + 1) x n (mkF n m b) := by
  obtain ⟨f, fd, hf, F, hb⟩ := D.ex
  subst hn hm
  exact ⟨mkF_ar _ _ _, f, fd, ps, rfl, hf, F.kp, hb, fn_okF F S (hbody f)⟩
theorem CallOk.mono {j k : Nat} {x : Str} {n : Nat} {F : Fn} (C : CallOk P w K mg base T j x n F) (h : j ≤ k) : CallOk P w K mg base T k x n F := by
  obtain ⟨ar, f, fd, ps, a, b, c, d, G⟩ := C
  exact ⟨ar, f, fd, ps, a, b, c, d, G.mono h⟩
/-- a def of which nothing is promised -/
theorem call_bad {x : Str} {st : Stmt} {ps : List Str} {n : Nat} (D : DefAt K mg x st ps) (hn : ps.length = n) : CallOk P w K mg base T 0 x n fun _ _ => .bad := by
  obtain ⟨f, fd, hf, F, hb⟩ := D.ex
  exact ⟨fun _ _ _ => rfl, f, fd, ps, hn, hf, F.kp, hb, ⟨fun vs H Q E h => h.1.trans hn.symm, fun A outer s H args us vs Q E _ _ _ _ h => by
    obtain ⟨_, ρ, S, ds, _, _, h⟩ := h
    exact (show False from h).elim⟩⟩
end

/-! ### errors -/
/-- the promise of __init__(self, what) of the errors' base class -/
def spRef (K : PySem.W.Frag) : Sp := fun vs H Q _ => ∃ (a C : Addr) (v : V), vs = [.ref a, v] ∧ OexC K C ∧ PySem.W.findIn K (.ref C) "what" = some none ∧ H a = some (exo a C none) ∧ ∀ dx, H dx = none → dx ≠ a → Q .non (upd (upd H dx (exd dx [(("what" : Str), v)])) a (exo a C (some dx)))
/-- a class of errors -/
structure ExcAt (P : Program) (w : World) (K : PySem.W.Frag) (mg : Str → Option Value) (base : Heap) (c : String) : Prop where
  ex : ∃ (C fI : Addr) (fd : FuncData), mg (Str.ofString c) = some (.ref C) ∧ OexC K C ∧ PySem.W.findIn K (.ref C) "what" = some none ∧ PySem.W.findIn K (.ref C) "__init__" = some (some (.ref fI)) ∧ PySem.W.typeIn K (.ref fI) = some (.type "function") ∧
    Binds K fd ["self", "what"] [] ∧ FnOk P w K mg base CX0 1 fI fd ["self", "what"] (spRef K)
section
variable {X : Cx} {T : Tbs} {W : WX} {pos : Pos}
theorem es_raise {c : String} {x : Str} {p pos2 : Pos} {e : Expr} {f : FE} (C : ExcAt X.prog X.w X.K X.mg X.base c) (hcx : x = Str.ofString c) (hc : X.calm = true) (tk : Takes X W) (hr : Room 2 X.A) (ha : EV X T W e f) (hg : Gl X x := by rfl)
    (hdb : (x == ("__debug__" : Str)) = false := by decide) (he : starEach (e :: []) X.env = (false, eval e X.env) :: starEach [] X.env := by rfl) (hpl : (backTo pos (starEach [] X.env)).any (·.1) = false := by rfl) :
    ES X T W (.Raise (some (.Call (.Name x p) [e] [] pos)) none pos2) (sRaise c f) := by
  subst hcx
  obtain ⟨C, fI, fd, hm, O, hno, hI, hT, hb, G⟩ := C
  refine PS.imp (ps_raise hc tk (pmk_oex O hI hT G hr hb .nil pass0 hg hm (pa_cons ha pa_nil he) hdb he hpl)) ?_
  rintro D σ H ⟨ρ, S, s, rs, re, h⟩
  refine ⟨ρ, S, s, rs, re, (PostS.ofE (R := RD X.K) rs re h).imp ?_⟩
  rintro v H1 ⟨ρ1, S1, d, l1, rs1, re1, rd1, h1⟩
  refine ⟨by show 1 ≤ 1000; decide, fun a ha => ⟨a, C, v, rfl, O, hno, upd_same, fun dx hdx nda => ?_⟩⟩
  have h1d : H1 dx = none := by rw [upd_ne nda] at hdx; exact hdx
  refine ⟨rfl, dx, [(("what" : Str), v)], upd_same, by rw [upd_ne nda, upd_same], h1d, ?_⟩
  have eH : upd (del (upd (upd (upd H1 a (exo a C none)) dx (exd dx [(("what" : Str), v)])) a (exo a C (some dx))) a) dx (.xd [(("what" : Str), v)]) = upd H1 dx (.xd [(("what" : Str), v)]) := by
    funext b
    by_cases hb : b = dx
    · subst hb; rw [upd_same, upd_same]
    · rw [upd_ne hb, upd_ne hb]
      by_cases hba : b = a
      · subst hba; rw [del_same, ha]
      · rw [del_ne hba, upd_ne hba, upd_ne hb, upd_ne hba]
  rw [eH]
  exact h1 ρ1 _ σ v dx C (Le.fresh rs1 h1d) (rs1.freshP h1d) (re1.le rs1 (Le.fresh rs1 h1d)) (rd1.le rs1 (Le.fresh rs1 h1d)) upd_same hm
end
end Wk


set_option Elab.async false
set_option linter.all false
set_option maxRecDepth 100000
set_option maxHeartbeats 4000000
set_option autoImplicit false
/-! WkTup: dicts whose keys are tuples: made from pairs, sorted, told by a comprehension. -/
namespace L2
open PySem PySem.Spec PyProof.Rows
/-- pairs put into a dict, one behind the other -/
def mergeA (kvs more : List (List Key × V)) : List (List Key × V) := more.foldl (fun acc kv => putK acc kv.1 kv.2) kvs
theorem mergeA_len : ∀ (more kvs : List (List Key × V)), (mergeA kvs more).length ≤ kvs.length + more.length
  | [], _ => Nat.le_refl _
  | p :: more, kvs => by
    have h1 := mergeA_len more (putK kvs p.1 p.2)
    have h2 := length_putK kvs p.1 p.2
    show (mergeA (putK kvs p.1 p.2) more).length ≤ _
    rw [List.length_cons]
    omega
theorem kt_merge {H : Hp} {more : List (List Key × V)} {ms : List (List Key × Addr × Value)} (rm : KT H more ms) : ∀ {kvs : List (List Key × V)} {xs : List (List Key × Addr × Value)}, KT H kvs xs → KT H (mergeA kvs more) (storedAllH xs ms) := by
  induction rm with
  | nil => exact fun r => r
  | cons h t ih =>
    rename_i p q l m
    intro kvs xs r
    obtain ⟨e, hb, rv⟩ := h
    have r2 := r.put p.1 hb rv
    have := ih r2
    unfold mergeA storedAllH
    rw [List.foldl_cons, List.foldl_cons, ← e]
    exact this
section
variable {X : Cx} {pins : List (Addr × Obj)} {σ : L2.St} {H : Hp} {s : Shared}
/-- a row of pairs (key tuple, value) in the heap -/
def PairT (K : PySem.W.Frag) (H : Hp) (p : Addr) (kv : List Key × V) : Prop := ∃ b, SqT K H p [.ref b, kv.2] ∧ H b = some (.tup (kv.1.map kV))
theorem pairT_look (I : Inv X pins σ H s) : ∀ {ps : List Addr} {kvs : List (List Key × V)}, Paired (PairT X.K H) ps kvs → ∃ ms : List (List Key × Addr × Value), KT H kvs ms ∧ ms.length = ps.length ∧ ∀ (j : Nat) (q : List Key × Addr × Value), ms[j]? = some q → ∃ p, ps[j]? = some p ∧ IsTup s.heap p #[.ref q.2.1, q.2.2]
  | _, _, .nil => ⟨[], .nil, rfl, fun j q e => by simp at e⟩
  | _, _, .cons (a := p) (b := kv) h t => by
    obtain ⟨ms, r, hl, hm⟩ := pairT_look I t
    obtain ⟨b, hs, hb⟩ := h
    obtain ⟨its, rv, ht, _⟩ := I.tuple hs
    obtain ⟨u, y, rfl, ru, ry⟩ := vals2 rv
    obtain rfl : u = Value.ref b := ru
    refine ⟨(kv.1, b, y) :: ms, .cons ⟨rfl, hb, ry⟩ r, by rw [List.length_cons, List.length_cons, hl], fun j q e => ?_⟩
    cases j with
    | zero =>
      cases (Option.some.inj e : (kv.1, b, y) = q)
      exact ⟨p, rfl, ht⟩
    | succ j =>
      obtain ⟨p', e1, e2⟩ := hm j q (by simpa using e)
      exact ⟨p', by simpa using e1, e2⟩
theorem tkey_keep {P : Program} {w : World} {h h' : Heap} {ks : List Key} {a : Addr} (t : (tupleKind (mixKind P w)).is h ks a) (k : ∀ o, h.get? a = some o → h'.get? a = some o) : (tupleKind (mixKind P w)).is h' ks a := by
  obtain ⟨o, its, n, h1, h2, h3, h4⟩ := t
  exact ⟨o, its, n, k o h1, h2, h3, h4⟩
theorem wk_dictPT (hcalm : X.calm = true) (hu : X.A.units + 8 < cLine) : CallR X (.type "dict") (fun xs H Q => ∃ (a : Addr) (ps : List Addr) (kvs : List (List Key × V)), xs = [.ref a] ∧ SqL X.K H a (ps.map V.ref) ∧ Paired (PairT X.K H) ps kvs ∧ ∀ p, H p = none → Q (.ref p) (upd H p (.dT (mergeA [] kvs)))) := by
  intro pins s σ H xs us Q I r q
  obtain ⟨a, ps, kvs, rfl, hq, hp, q⟩ := q
  obtain ⟨u, rfl, rx⟩ := vals1 r
  obtain rfl : u = Value.ref a := rx
  obtain ⟨its, rv, pl, hz⟩ := I.list hq
  have ei := refs_at rv
  subst ei
  rw [List.length_map] at hz
  obtain ⟨ms, rel, hl, hm⟩ := pairT_look I hp
  obtain ⟨o, n, ho, hc, hd, hdat⟩ := pl
  have pit : PairItems s.heap (ps.map Value.ref).toArray (fun j => ps.getD j 0) (ms.map fun q => (Value.ref q.2.1, q.2.2)) := by
    refine ⟨by simp [hl], fun j k v e => ?_⟩
    rw [List.getElem?_map] at e
    cases e2 : ms[j]? with
    | none => rw [e2] at e; cases e
    | some q =>
      rw [e2] at e
      cases e
      obtain ⟨p, h1, h2⟩ := hm j q e2
      refine ⟨by simp [h1], .inl ?_⟩
      show s.heap.IsTuple (ps.getD j 0) _
      rw [List.getD_eq_getElem?_getD, h1]
      exact h2
  have hm2 : (s.heap.objs.size == sysModules) = false := beq_eq_false_iff_ne.mpr (Nat.ne_of_gt I.big)
  have hkeys : ∀ x ∈ ms, (tupleKind (mixKind X.prog X.w)).is s.heap x.1 x.2.1 := by
    have all : ∀ {l : List (List Key × V)} {m : List (List Key × Addr × Value)}, KT H l m → ∀ x ∈ m, (tupleKind (mixKind X.prog X.w)).is s.heap x.1 x.2.1 := by
      intro l m w
      induction w with
      | nil => intro x hx; cases hx
      | cons h t ih =>
        intro x hx
        rcases List.mem_cons.mp hx with e | hx
        · subst e
          exact key_of I.hok (by rw [← h.1]; exact h.2.1)
        · exact ih x hx
    exact all rel
  refine PySem.call_dict_pairsH (knd := tupleKind (mixKind X.prog X.w)) (ps := ms) (PairArg.list a (ps.map Value.ref).toArray (fun j => ps.getD j 0) (ms.map fun q => (Value.ref q.2.1, q.2.2))) (I.ok.hd hcalm) (show X.A.in1.in1.units < cLine by show X.A.units + 1 + 1 < cLine; omega) ⟨⟨o, n, ho, hc, hd, hdat⟩, pit⟩
    ⟨by simp, fun i key v hrel => ?_⟩ (fun h' hk x hx => tkey_keep (hkeys x hx) fun o e => hk _ o (Nat.ne_of_lt (Heap.lt_size e)) (by simp) e) (by rw [List.length_map, hl]; exact hz) fun h' tk hd' hk => ?_
  · have hrel' : (ms.map fun q => (Value.ref q.2.1, q.2.2))[i]? = some (key, v) := hrel
    rw [List.getElem?_map] at hrel'
    cases e2 : ms[i]? with
    | none => rw [e2] at hrel'; cases hrel'
    | some q =>
      rw [e2] at hrel'
      cases hrel'
      exact ⟨q.1, q.2.1, rfl, rfl⟩
  · have hn : H s.heap.objs.size = none := I.hok.fresh (Nat.le_refl _)
    have hlen : (mergeA [] kvs).length ≤ sizeLine := by
      refine Nat.le_trans (mergeA_len kvs []) ?_
      rw [List.length_nil, Nat.zero_add, Paired.length rel, hl]
      exact hz
    obtain ⟨oo, es, ep, h1, h2, h3, h4, _, h5⟩ := hd'
    refine ⟨.ref s.heap.objs.size, upd H s.heap.objs.size (.dT (mergeA [] kvs)), I.laid (t' := tk) (fun b o e => hk b o (by simp) e) (Nat.le_refl _) (show ObjOk X.prog X.w _ _ _ (.dT (mergeA [] kvs)) from ⟨hlen, hm2, _, (kt_merge rel .nil).keeps fun c ys ec => ?_, oo, es, ep, h1, h2, h3, h4, h5⟩), rfl, q _ hn⟩
    rw [upd_ne (ne_of_none ec hn)]
    exact ec
/-- the keys of a dict as they are collected -/
theorem wk_keysT (hcalm : X.calm = true) {d : Addr} {kvs : List (List Key × V)} {R : List Value → Shared → Prop} {E : Value → Shared → Prop} (I : Inv X pins σ H s) (hd : Rd H d (.dT kvs))
    (h : ∀ (h' : Heap) (tk : Nat) (bs : List Addr), (∀ b o, s.heap.get? b = some o → h'.get? b = some o) → IsKeys H kvs bs → R (bs.map Value.ref) { s with heap := h', toks := tk }) : wpAny (model X.prog X.w) X.A.in1 (collect (.ref d)) R E s := by
  obtain ⟨z, hs, ks, pr, o, es, ep, ho, hx, hdt, he, hn⟩ := (show ObjOk X.prog X.w H s.heap d (.dT kvs) from hd.ok I.hok)
  have l1 : es.size = ks.length := size_of_entries he
  have l2 : kvs.length = ks.length := Paired.length pr
  refine PySem.W.kdu_collect (A := X.A.in1) (kdl_raw hs hx hdt) (I.ok.hd hcalm) ho (by omega) fun h' tk acc kp it => ?_
  have ea : acc.toList = (ks.map fun x => x.2.1).map Value.ref := by
    rw [List.map_map]
    refine List.ext_getElem? fun j => ?_
    rw [List.getElem?_map]
    cases hb : ks[j]? with
    | none =>
      have h1 := List.getElem?_eq_none_iff.mp hb
      rw [List.getElem?_eq_none (by rw [Array.length_toList, it.1]; omega)]
      rfl
    | some b =>
      have hj : j < acc.toList.length := by
        rw [Array.length_toList, it.1, l1]
        exact (List.getElem?_eq_some_iff.mp hb).1
      obtain ⟨en, hen, hv⟩ := it.2 j acc.toList[j] (by rw [← Array.getElem?_toList]; exact List.getElem?_eq_getElem hj)
      have qe := entry_at he j
      rw [hen, hb] at qe
      have e2 : en = entryOfKey (tupleKind (mixKind X.prog X.w)) b := Option.some.inj qe
      rw [List.getElem?_eq_getElem hj, hv, e2]
      rfl
  rw [ea]
  exact h h' tk _ kp (isKeys_of pr)
/-- sorted(d) of a dict whose keys are all pairs of ints -/
theorem wk_sortedDT (hcalm : X.calm = true) : CallR X (.builtin "sorted") (fun xs H Q => ∃ (a : Addr) (kvs : List (List Key × V)) (ps : List (Int × Int)), xs = [.ref a] ∧ Rd H a (.dT kvs) ∧ kvs.map (·.1) = ps.map (fun p => [Sum.inl p.1, Sum.inl p.2]) ∧
    ∀ (ys : List V) (qs : List (Int × Int)) (p : Addr), Paired (fun q y => ∃ t, y = V.ref t ∧ H t = some (.tup [.int q.1, .int q.2])) qs ys → qs.Perm ps → qs.Pairwise (fun u v => SrtO.lexB v u = false) → H p = none → Q (.ref p) (upd H p (.lst ys))) := by
  intro pins s σ H xs us Q I r q
  obtain ⟨a, kvs, ps, rfl, hd, hks, q⟩ := q
  obtain ⟨u, rfl, rx⟩ := vals1 r
  obtain rfl : u = Value.ref a := rx
  refine Calls.call_function_entry PyProof.Rows.kind_sorted PyProof.Rows.plain_sorted PyProof.Rows.entry_sorted (PyProof.Rows.args_sorted1 _) ?_
  unfold Builtin.«sorted»
  refine wpAny_bind (m := checkCount "sorted" 1 1 _) (wpAny_pure ?_)
  have zl : kvs.length ≤ sizeLine := (show ObjOk X.prog X.w H s.heap a (.dT kvs) from hd.ok I.hok).1
  refine wpAny_bind (wk_keysT hcalm I hd fun h' tk bs kp isk => ?_)
  have I1 : Inv X pins σ H { s with heap := h', toks := tk } := I.kept kp
  have lb : bs.length = kvs.length := (Paired.length isk).symm
  have lp : ps.length = kvs.length := by
    have := congrArg List.length hks
    rw [List.length_map, List.length_map] at this
    exact this.symm
  -- the key tuples with their ints
  have pr : Paired (fun p b => H b = some (.tup [.int p.1, .int p.2])) ps bs := by
    have key : ∀ {l : List (List Key × V)} {m : List Addr} {ns : List (Int × Int)}, Paired (fun p b => H b = some (.tup (p.1.map kV))) l m → l.map (·.1) = ns.map (fun p => [Sum.inl p.1, Sum.inl p.2]) → Paired (fun p b => H b = some (.tup [.int p.1, .int p.2])) ns m := by
      intro l m ns w
      induction w generalizing ns with
      | nil =>
        intro e
        cases ns with
        | nil => exact .nil
        | cons _ _ => cases e
      | cons h t ih =>
        intro e
        cases ns with
        | nil => cases e
        | cons n ns =>
          rw [List.map_cons, List.map_cons] at e
          injection e with e1 e2
          rw [e1] at h
          exact .cons h (ih e2)
    exact key isk hks
  have hzz : (bs.map Value.ref).length ≤ sizeLine := by rw [List.length_map, lb]; exact zl
  refine wpAny_bind (wpAny_newList ?_ hzz)
  have hoL : (h'.push (seqObj "list" (bs.map Value.ref).toArray 0)).get? h'.objs.size = some (seqObj "list" (bs.map Value.ref).toArray 0) := Heap.get?_push_size _ rfl
  have kp2 : ∀ b o, h'.get? b = some o → (h'.push (seqObj "list" (bs.map Value.ref).toArray 0)).get? b = some o := fun b o e => Heap.get?_push_of_some _ e
  have I2 : Inv X pins σ H { s with heap := h'.push (seqObj "list" (bs.map Value.ref).toArray 0), toks := tk } := I1.kept (t' := tk) kp2
  -- what a reference stands for
  obtain ⟨kf, hkf⟩ : ∃ kf : Value → Int × Int, ∀ j b, bs[j]? = some b → ∃ p, ps[j]? = some p ∧ kf (.ref b) = p ∧ H b = some (.tup [.int p.1, .int p.2]) := by
    classical
    refine ⟨fun v => if z : ∃ p : Int × Int, ∃ b, v = .ref b ∧ H b = some (.tup [.int p.1, .int p.2]) then z.choose else (0, 0), fun j b e => ?_⟩
    obtain ⟨p, hp, hb⟩ := Wk.Paired.get2 pr e
    have z : ∃ p : Int × Int, ∃ b', (Value.ref b) = .ref b' ∧ H b' = some (.tup [.int p.1, .int p.2]) := ⟨p, b, rfl, hb⟩
    refine ⟨p, hp, ?_, hb⟩
    dsimp only
    rw [dif_pos z]
    obtain ⟨b', e1, e2⟩ := z.choose_spec
    cases e1
    rw [hb] at e2
    injection e2 with e3
    injection e3 with e4
    injection e4 with e5 e6
    injection e5 with e7
    injection e6 with e8
    injection e8 with e9
    exact Prod.ext e7.symm e9.symm
  have hIP : ∀ v ∈ bs.map Value.ref, Srt.IsPair (h'.push (seqObj "list" (bs.map Value.ref).toArray 0)) v (kf v).1 (kf v).2 := by
    intro v hv
    obtain ⟨b, hb, rfl⟩ := List.mem_map.mp hv
    obtain ⟨j, hj, e⟩ := List.getElem_of_mem hb
    obtain ⟨p, _, e1, e2⟩ := hkf j b (by rw [List.getElem?_eq_getElem hj, e])
    obtain ⟨_, its, rv, o, ho, hc, n, hdt⟩ := I2.hok _ _ e2
    obtain ⟨u1, u2, rfl, ri, rj⟩ := vals2 rv
    obtain ⟨t1, rfl⟩ := ri
    obtain ⟨t2, rfl⟩ := rj
    rw [e1]
    exact ⟨b, o, t1, t2, n, rfl, ho, hc, hdt⟩
  show wpAny _ _ _ _ _ { s with heap := h'.push (seqObj "list" (bs.map Value.ref).toArray 0), toks := tk }
  refine wpAny_bind (wpAny_holding (wpAny_call_entry PyProof.Rows.slot_list_sort ⟨_, hoL, rfl⟩ PyProof.Rows.entry_list_sort
    (SrtO.list_sort_ord (SrtO.swo_lex kf) (s := { s with heap := h'.push (seqObj "list" (bs.map Value.ref).toArray 0), toks := tk }) hoL hzz (fun h2 => SrtO.pairs_sortableO (by omega) hIP fun o e => ?_) fun out h1 h2 => ⟨_, rfl, ?_⟩)
    (PyProof.Rows.args_list_sort _)))
  · have e' : some o = some (seqObj "list" (bs.map Value.ref).toArray 0) := e.symm.trans hoL
    cases e'
    intro c
    exact absurd (Value.type.inj c) (by decide)
  · obtain ⟨e', he'⟩ := PyProof.Rows.sortedHeap_at (vs := bs.map Value.ref) (out := out.toArray) hoL
    have mem : ∀ v ∈ out, ∃ b, v = .ref b ∧ H b = some (.tup [.int (kf v).1, .int (kf v).2]) := by
      intro v hv
      obtain ⟨b, hb, rfl⟩ := List.mem_map.mp (h2.perm.mem_iff.mp hv)
      obtain ⟨j, hj, e⟩ := List.getElem_of_mem hb
      obtain ⟨p, _, e1, e2⟩ := hkf j b (by rw [List.getElem?_eq_getElem hj, e])
      exact ⟨b, rfl, by rw [e1]; exact e2⟩
    have hlen : (out.map backV).length ≤ sizeLine := by rw [List.length_map, h2.len]; exact hzz
    have vb : Vals (out.map backV) out := vals_back fun v hv => let ⟨b, e, _⟩ := mem v hv; ⟨b, e⟩
    refine wpAny_pure ⟨_, rfl, .ref h'.objs.size, upd H h'.objs.size (.lst (out.map backV)), I1.laid (t' := tk) (fun b u e => ?_) (Nat.le_refl _)
      (show ObjOk X.prog X.w _ _ _ (.lst (out.map backV)) from ⟨hlen, out, e', vb, he'⟩), rfl, q (out.map backV) (out.map kf) _ ?_ ?_ ?_ (I1.hok.fresh (Nat.le_refl _))⟩
    · have hb : b < h'.objs.size := Heap.lt_size e
      rw [PyProof.Rows.sortedHeap_old (Nat.ne_of_lt hb) (by rw [size_push']; exact Nat.lt_succ_of_lt hb)]
      exact Heap.get?_push_of_some _ e
    · have key : ∀ l : List Value, (∀ v ∈ l, ∃ b, v = .ref b ∧ H b = some (.tup [.int (kf v).1, .int (kf v).2])) → Paired (fun q y => ∃ t, y = V.ref t ∧ H t = some (.tup [.int q.1, .int q.2])) (l.map kf) (l.map backV) := by
        intro l
        induction l with
        | nil => intro _; exact .nil
        | cons v l ih =>
          intro hl
          obtain ⟨b, e, hb⟩ := hl v List.mem_cons_self
          exact .cons ⟨b, by rw [e]; rfl, hb⟩ (ih fun w hw => hl w (List.mem_cons_of_mem _ hw))
      exact key out mem
    · have e1 : (bs.map Value.ref).map kf = ps := by
        refine List.ext_getElem? fun j => ?_
        rw [List.map_map, List.getElem?_map]
        cases e : bs[j]? with
        | none =>
          have := List.getElem?_eq_none_iff.mp e
          rw [List.getElem?_eq_none (by omega)]
          rfl
        | some b =>
          obtain ⟨p, h1, h2, _⟩ := hkf j b e
          rw [h1]
          show some (kf (.ref b)) = some p
          rw [h2]
      rw [← e1]
      exact h2.perm.map _
    · exact List.pairwise_map.mpr h1
/-- an entry with a key tuple put into a dict -/
theorem wk_putT {D b : Addr} {kvs : List (List Key × V)} {ky : List Key} {v : V} {r : Value} {E : Value → Shared → Prop} {Q : Unit → Shared → Prop} (I : Inv X pins σ H s) (hu : X.A.units < cLine) (hD : H D = some (.dT kvs)) (hz : kvs.length < sizeLine) (hb : H b = some (.tup (ky.map kV))) (rv : RelV v r)
    (h : ∀ s', Inv X pins σ (upd H D (.dT (putK kvs ky v))) s' → Q () s') : wpAny (model X.prog X.w) X.A (dictSet D (.ref b) r) Q E s := by
  obtain ⟨zl, hsm, ents, rel, dd⟩ := dt_of I.hok hD
  have zle : ents.length ≤ sizeLine := by rw [← Paired.length rel]; exact zl
  have znew : (putK kvs ky v).length ≤ sizeLine := by have := length_putK kvs ky v; omega
  refine wpAny_dictSet_heap (hsz := zle) hu (key_of I.hok hb) dd fun hp dd2 same => h _ ?_
  obtain ⟨ob, es, ep, g1, g2, g3, g4, _, g5⟩ := dd2
  refine d_write I (by rw [hD]; exact True.intro) same ⟨ob, g1⟩ ⟨znew, hsm, _, (rel.put ky hb rv).keeps fun e ys he => ?_, ob, es, ep, g1, g2, g3, g4, g5⟩
  rw [upd_ne (ne_of he hD (fun z => nomatch z))]
  exact he
end
/-- {key: value for target in iter if ..}, the keys tuples: L the new dict -/
def tTc (wi : TI) (g : TG) (tt : TT) (tk tv : TE) (vs : List Nat) : TE := fun σ H Q => wi σ H fun J H1 => ∀ L, H1 L = none → ∃ W : Nat → Nat → Hp → Prop, (∃ m, W 0 m (upd H1 L (.dT []))) ∧ ∀ i m G, W i m G →
  (J.stop i G ∧ Q (.ref L) G) ∨ (J.go i G ∧ ∃ Nx : Hp → Prop, (∀ G', Nx G' → ∃ m', m' < m ∧ W (i + 1) m' G') ∧ ∀ x G1, J.yld i G x G1 → g x (wipe σ vs) G1 fun τ G2 => wipe τ vs = wipe σ vs ∧ tt τ G2 fun ok G3 =>
    if ok = true then tk τ G3 fun y G4 => tv τ G4 fun z G5 => ∃ kvs ky b, y = .ref b ∧ G5 b = some (.tup (ky.map kV)) ∧ G5 L = some (.dT kvs) ∧ kvs.length < sizeLine ∧ Nx (upd G5 L (.dT (putK kvs ky z))) else Nx G3)
section
variable {X : Cx}
theorem tc_core {pins : List (Addr × Obj)} {s : Shared} {σ : L2.St} {H : Hp} {Q : VK} {kx vx tg iter : Expr} {ifs : List Expr} {scope : Scope} {own : List (Str × Nat)} {pos pos' : Pos} {wi : TI} {g : TG} {tt : TT} {tk tv : TE} {use : Option (Value → Sem Unit)} {Qf : Value → Shared → Prop}
    (hu : X.A.units < cLine) (hc : X.calm = true) (hN : X.N.Nodup) (I0 : Inv X pins σ H s) (hi : PI X tg iter wi) (ok : BlkOk X.N X.env.scope scope own)
    (hg : ∀ (t : Shared) (G : Hp) (C : Addr) (cl : List (Str × Addr)) (fp : List Addr), PG (X.blk t G scope (compEnvC scope cl C X.env) fp) tg g)
    (ht : ∀ (t : Shared) (G : Hp) (C : Addr) (cl : List (Str × Addr)) (fp : List Addr), PTs (X.blk t G scope (compEnvC scope cl C X.env) fp) ifs tt)
    (hk : ∀ (t : Shared) (G : Hp) (C : Addr) (cl : List (Str × Addr)) (fp : List Addr), PE (X.blk t G scope (compEnvC scope cl C X.env) fp) kx tk)
    (hv : ∀ (t : Shared) (G : Hp) (C : Addr) (cl : List (Str × Addr)) (fp : List Addr), PE (X.blk t G scope (compEnvC scope cl C X.env) fp) vx tv)
    (hs : ∀ x, foldedSetIterable iter X.env x = pure x) (h : tTc wi g tt tk tv (own.map (·.2)) σ H Q)
    (back : ∀ L C t m G, Inv X pins σ G t → Q (.ref L) G → t.heap.Ns C m → FpOk X pins G C → compPost (model X.prog X.w) X.A X.xe use Qf (.ref L) C (.ok .next) t) :
    wpAny (model X.prog X.w) X.A (comprehension (.DictComp kx vx [⟨tg, iter, ifs, 0⟩] scope pos) scope X.env pos' newDict false (eval iter X.env) use) Qf X.xe s := by
  have caught : ∀ y ∈ scope.names, y.2 = .free → ∃ c, X.env.cells.lookup y.1 = some c := fun y hy e => (ok.free y hy e).elim (fun w => I0.ok.has _ (.inl w)) fun w => I0.ok.has _ (.inr w)
  have names : ∀ y ∈ scope.names, y.2 = .local → scope.names.lookup y.1 = some .local := fun y hy e => by rw [ok.uniq y hy, e]
  refine wpAny_comprehension_free (use := use) rfl hs (closure_ok caught) ok.kind names (thn (hi.run pins s σ H _ I0 h) fun x0 sa ha => thn ha fun x1 sb hb => ?_)
  obtain ⟨it, fp, tn, J, Hb, rfl, Ib, Tn, stb, fpb, qb⟩ := hb
  refine wpAny_newObj_type (newEnv_comp ?_)
  have hL : Hb sb.heap.objs.size = none := Ib.hok.fresh (Nat.le_refl _)
  obtain ⟨W, ⟨m0, w0⟩, turn⟩ := qb sb.heap.objs.size hL
  generalize eL : sb.heap.objs.size = L at hL w0 turn ⊢
  -- the new dict is there
  generalize es : ({ sb with heap := sb.heap.push { cls := .type "dict", data := .dict #[] } } : Shared) = sc
  have hpc : sc.heap = sb.heap.push { cls := .type "dict", data := .dict #[] } := by rw [← es]
  have Ic : Inv X pins σ (upd Hb L (.dT [])) sc := by
    rw [← es]
    refine Ib.laid (t' := sb.toks) (fun b o e => Heap.get?_push_of_some _ e) (Nat.le_of_eq eL) ?_
    rw [← eL]
    exact dt_empty sb.heap Ib.big
  have below : ∀ b ∈ fp, b < sb.heap.objs.size := fun b hb => let ⟨o, e, _⟩ := Tn.obj _ _ stb b hb; Heap.lt_size e
  have fpc : ∀ b ∈ fp, FpOk X pins (upd Hb L (.dT [])) b ∧ b < sc.heap.objs.size := fun b hb => by
    have hlt := below b hb
    refine ⟨⟨by rw [upd_ne (by rw [← eL]; exact Nat.ne_of_lt hlt)]; exact (fpb b hb).1, (fpb b hb).2⟩, ?_⟩
    rw [hpc, Heap.size_push]
    exact Nat.lt_succ_of_lt hlt
  have stc : tn 0 sc.heap := Tn.keep _ _ _ stb fun b _ o e => by rw [hpc]; exact Heap.get?_push_of_some _ e
  have Id := block_start Ic ok hN fpc
  have none_fp : ∀ b ∈ fp, (upd Hb L (.dT [])) b = none := fun b hb => (fpc b hb).1.1
  show codeAny _ _ (.compStart (.DictComp kx vx [⟨tg, iter, ifs, 0⟩] scope pos) 0 (.ref it) (.ref L) (compEnvC scope (cellsFrom (sc.heap.objs.size + 1) scope.names (cloFrom X.env.cells scope.names [])) sc.heap.objs.size X.env)) (compPost (model X.prog X.w) X.A X.xe use Qf (.ref L) sc.heap.objs.size) { sc with heap := pushCells (sc.heap.push { cls := .type "dict", data := .dict #[] }) scope.names }
  have g1 := hg sc (upd Hb L (.dT [])) sc.heap.objs.size (cellsFrom (sc.heap.objs.size + 1) scope.names (cloFrom X.env.cells scope.names [])) fp
  have g2 := ht sc (upd Hb L (.dT [])) sc.heap.objs.size (cellsFrom (sc.heap.objs.size + 1) scope.names (cloFrom X.env.cells scope.names [])) fp
  have g3 := hk sc (upd Hb L (.dT [])) sc.heap.objs.size (cellsFrom (sc.heap.objs.size + 1) scope.names (cloFrom X.env.cells scope.names [])) fp
  have g4 := hv sc (upd Hb L (.dT [])) sc.heap.objs.size (cellsFrom (sc.heap.objs.size + 1) scope.names (cloFrom X.env.cells scope.names [])) fp
  generalize ee : compEnvC scope (cellsFrom (sc.heap.objs.size + 1) scope.names (cloFrom X.env.cells scope.names [])) sc.heap.objs.size X.env = en at Id g1 g2 g3 g4 ⊢
  have enL : en.locals = sc.heap.objs.size := by rw [← ee]; rfl
  generalize eH : upd Hb L (.dT []) = Hc at Ic Id g1 g2 g3 g4 w0 none_fp fpc
  generalize ed : ({ sc with heap := pushCells (sc.heap.push { cls := .type "dict", data := .dict #[] }) scope.names } : Shared) = sd at Id ⊢
  have std : tn 0 sd.heap := Tn.keep _ _ _ stc fun b _ o e => by rw [← ed]; exact pushCells_keeps _ _ _ _ (Heap.get?_push_of_some _ e)
  have foot : ∀ {τ : L2.St} {G : Hp} {t : Shared}, Inv (X.blk sc Hc scope en fp) [] τ G t → (∀ b ∈ fp, G b = none) → ∀ b ∈ fp, FpOk (X.blk sc Hc scope en fp) [] G b := fun {τ G t} It hn b hb =>
    ⟨hn b hb, (It.ok.exf b hb).1, It.ok.exfs b hb, .inl hb, fun y c e => (It.ok.exf b hb).2 y c e, fun q hq => by cases hq⟩
  have turns : codeAny (model X.prog X.w) X.A (.compLoop (.DictComp kx vx [⟨tg, iter, ifs, 0⟩] scope pos) 0 (.ref it) (.ref L) en) (compPost (model X.prog X.w) X.A X.xe use Qf (.ref L) sc.heap.objs.size) sd := by
    refine compLoop_anyD (fun n t => ∃ i G, Inv (X.blk sc Hc scope en fp) [] (wipe σ (own.map (·.2))) G t ∧ tn i t.heap ∧ (∀ b ∈ fp, G b = none) ∧ W i n G) ?_ m0 ⟨0, Hc, Id, std, none_fp, w0⟩
    rintro n se ⟨i, He, Ie, ste, ne, we⟩
    rcases turn i n He we with ⟨stop, fin⟩ | ⟨go, Nx, next, step⟩
    · refine thnF (Tn.done (X.blk sc Hc scope en fp) rfl rfl rfl hc i [] se _ He (fun _ _ => False) Ie (foot Ie ne) ste stop) fun r sf ⟨er, If⟩ => ?_
      subst er
      have Ig : Inv X pins σ He sf := Ic.call' (ch := fp) If.os If.base If.hok If.bare fun b hb => ⟨(fpc b hb).1.2.2.2.1, (fpc b hb).1.2.1, (fpc b hb).1.2.2.2.2.1, (fpc b hb).1.2.2.2.2.2⟩
      have nC : He sc.heap.objs.size = none := by rw [← enL]; exact If.free
      obtain ⟨m, ns, _⟩ := If.loc
      have ns' : sf.heap.Ns sc.heap.objs.size m := by rw [← enL]; exact ns
      exact back L sc.heap.objs.size sf m He Ig fin ns' (Ic.fpOk (Nat.le_refl _) nC)
    · refine thnF (Tn.item (X.blk sc Hc scope en fp) rfl rfl rfl hc i [] se _ He (fun _ _ => False) Ie (foot Ie ne) ste go) fun r sf ⟨u, er, hf⟩ => ?_
      subst er
      refine thnF hf fun _ sg ⟨x, Hg, Ig, rg, yg, stg, ng⟩ => ?_
      have Ip := Ig.pinned (foot Ig ng) (Tn.obj _ _ stg)
      refine thnF (g1.run _ sg _ Hg x u _ Ip rg (step x Hg yg)) fun _ sh ⟨τ, Hh, Ih, eτ, qh⟩ => ?_
      refine thnF (g2.run _ sh τ Hh _ Ih qh) fun bb si ⟨Hi, Ii, qi⟩ => ?_
      have closing : ∀ {t : Shared} {G : Hp}, Inv (X.blk sc Hc scope en fp) ([] ++ pinsAt fp sg.heap) τ G t → Nx G → ∃ m, m < n ∧ ∃ i G, Inv (X.blk sc Hc scope en fp) [] (wipe σ (own.map (·.2))) G t ∧ tn i t.heap ∧ (∀ b ∈ fp, G b = none) ∧ W i m G := fun {t G} It nx => by
        obtain ⟨m', lt, w'⟩ := next G nx
        have stay : ∀ b ∈ fp, ∀ o, sg.heap.get? b = some o → t.heap.get? b = some o ∧ G b = none := fun b hb o e =>
          let z := It.pin (b, o) (List.mem_append_right _ (List.mem_append_right _ (mem_pinsAt hb e)))
          ⟨z.1, z.2.1⟩
        have len : (wipe σ (own.map (·.2))).length = τ.length := by rw [← eτ, wipe_length]
        have It2 := (It.unpinned (pins := [])).weak len fun j v e => by
          rw [← eτ] at e
          exact (wipe_some e).1
        refine ⟨m', lt, i + 1, G, It2, Tn.keep _ _ _ stg fun b hb o e => (stay b hb o e).1, fun b hb => ?_, w'⟩
        obtain ⟨o, e, _⟩ := Tn.obj _ _ stg b hb
        exact (stay b hb o e).2
      cases bb with
      | false =>
        rw [if_neg (by decide)] at qi ⊢
        exact closing Ii qi
      | true =>
        rw [if_pos rfl] at qi ⊢
        refine thnF (g3.run _ si τ Hi _ Ii qi) fun ka sj ⟨ya, Hj, Ij, ra, qj⟩ => ?_
        refine thnF (g4.run _ sj τ Hj _ Ij qj) fun va sk ⟨za, Hk, Ik, rz, kvs, ky, b, ek, hb, hD, hz, nx⟩ => ?_
        subst ek
        obtain rfl : ka = Value.ref b := ra
        exact wk_putT (X := X.blk sc Hc scope en fp) Ik hu hD hz hb rz fun t It => closing It nx
  exact codeAny_compStart_dict turns (Tn.self X.A 0 _ _ _ std turns)
theorem pe_tc {kx vx tg iter : Expr} {ifs : List Expr} {scope : Scope} {own : List (Str × Nat)} {pos : Pos} {wi : TI} {g : TG} {tt : TT} {tk tv : TE} (hu : X.A.units < cLine) (hc : X.calm = true) (hN : X.N.Nodup) (hi : PI X tg iter wi) (ok : BlkOk X.N X.env.scope scope own)
    (hg : ∀ (t : Shared) (G : Hp) (C : Addr) (cl : List (Str × Addr)) (fp : List Addr), PG (X.blk t G scope (compEnvC scope cl C X.env) fp) tg g)
    (ht : ∀ (t : Shared) (G : Hp) (C : Addr) (cl : List (Str × Addr)) (fp : List Addr), PTs (X.blk t G scope (compEnvC scope cl C X.env) fp) ifs tt)
    (hk : ∀ (t : Shared) (G : Hp) (C : Addr) (cl : List (Str × Addr)) (fp : List Addr), PE (X.blk t G scope (compEnvC scope cl C X.env) fp) kx tk)
    (hv : ∀ (t : Shared) (G : Hp) (C : Addr) (cl : List (Str × Addr)) (fp : List Addr), PE (X.blk t G scope (compEnvC scope cl C X.env) fp) vx tv) (hs : ∀ x, foldedSetIterable iter X.env x = pure x) :
    PE X (.DictComp kx vx [⟨tg, iter, ifs, 0⟩] scope pos) (tTc wi g tt tk tv (own.map (·.2))) := by
  refine ⟨fun pins s σ H Q I h => ?_⟩
  rw [arm_eval_DictComp]
  refine tc_core hu hc hN I hi ok hg ht hk hv hs h fun L C t m G It hq ns f => ⟨m, ns, fun hp same => ?_⟩
  obtain ⟨f0, f1, f2, f3, f4, f5⟩ := f
  exact ⟨.ref L, G, It.turned (t' := t.toks) (fun b o hb e => (same.2 b hb).trans e) f0 f1 f3 f4 f5, rfl, hq⟩
theorem ps_setTc {i : Nat} {y : Str} {py : Pos} {kx vx tg iter : Expr} {ifs : List Expr} {scope : Scope} {own : List (Str × Nat)} {pos spos : Pos} {wi : TI} {g : TG} {tt : TT} {tk tv : TE} (hu : X.A.units < cLine) (hc : X.calm = true) (hN : X.N.Nodup) (hy : X.N[i]? = some y) (hyl : X.env.scope.names.lookup y = some .local)
    (hsw : swapsWith (.DictComp kx vx [⟨tg, iter, ifs, 0⟩] scope pos) (some (.Name y py)) spos.line X.env = pure true) (hi : PI X tg iter wi) (ok : BlkOk X.N X.env.scope scope own)
    (hg : ∀ (t : Shared) (G : Hp) (C : Addr) (cl : List (Str × Addr)) (fp : List Addr), PG (X.blk t G scope (compEnvC scope cl C X.env) fp) tg g)
    (ht : ∀ (t : Shared) (G : Hp) (C : Addr) (cl : List (Str × Addr)) (fp : List Addr), PTs (X.blk t G scope (compEnvC scope cl C X.env) fp) ifs tt)
    (hk : ∀ (t : Shared) (G : Hp) (C : Addr) (cl : List (Str × Addr)) (fp : List Addr), PE (X.blk t G scope (compEnvC scope cl C X.env) fp) kx tk)
    (hv : ∀ (t : Shared) (G : Hp) (C : Addr) (cl : List (Str × Addr)) (fp : List Addr), PE (X.blk t G scope (compEnvC scope cl C X.env) fp) vx tv) (hs : ∀ x, foldedSetIterable iter X.env x = pure x) :
    PS X (.Assign [.Name y py] (.DictComp kx vx [⟨tg, iter, ifs, 0⟩] scope pos) spos) (tAsg (tTc wi g tt tk tv (own.map (·.2))) (gName i)) := by
  refine ⟨fun pins s σ H D I h => ?_⟩
  rw [exec_Assign_Name_used _ _ _ _ hsw]
  refine wpAny_bind (wpAny_standAt (wpAny_bind ?_))
  have h : tTc wi g tt tk tv (own.map (·.2)) σ H (fun x H1 => gName i x σ H1 D.nx) := h
  show wpAny _ X.A (do let _ ← comprehension (.DictComp kx vx [⟨tg, iter, ifs, 0⟩] scope pos) scope X.env (firstIterPos [⟨tg, iter, ifs, 0⟩] pos) newDict false (eval iter X.env) (some (assign (.Name y py) X.env))) _ _ s
  refine wpAny_bind (thn (tc_core (Qf := fun _ t => SP X pins D .next t) hu hc hN I hi ok hg ht hk hv hs h fun L C t m G It hq ns f => ?_) fun _ t hq => wpAny_pure (wpAny_pure hq))
  show wpAny _ _ (assign (.Name y py) X.env (.ref L)) _ _ _
  refine wpAny_assign_Name (store_ok2 (v := V.ref L) It hN hy (.inl hyl) rfl (fun t2 It2 ⟨a, same, ha⟩ => ?_) (.inr hyl))
  obtain ⟨f0, f1, f2, f3, f4, f5⟩ := f
  have aC : C ≠ a := ha.elim (fun z => by rw [z]; exact f1) fun z e => f4 y a z e.symm
  exact ⟨m, ns.sameBut same aC, fun hp same3 => ⟨_, G, It2.turned (t' := t2.toks) (fun b o hb e => (same3.2 b hb).trans e) f0 f1 f3 f4 f5, hq⟩⟩
end
end L2


set_option Elab.async false
set_option linter.all false
set_option maxRecDepth 100000
set_option maxHeartbeats 4000000
set_option autoImplicit false
/-! WkLib: the functional reading of built-ins, methods, dicts, slices. -/
namespace L2
open PySem PySem.Spec PyProof.Rows
theorem ints_at : ∀ {us : List Value} {ks : List Int}, us.length = ks.length → (∀ (j : Nat) (v : Value), us[j]? = some v → ∃ (x : Int) (t : Tok), ks[j]? = some x ∧ v = Value.int x t) → IntsAre us ks
  | [], [], _, _ => .nil
  | u :: us, k :: ks, hl, h => by
    obtain ⟨x, t, e1, e2⟩ := h 0 u rfl
    have e1' : k = x := Option.some.inj e1
    subst e1'
    subst e2
    refine .cons _ _ (ints_at (by simpa using hl) fun j v e => ?_)
    obtain ⟨x, t, a, b⟩ := h (j + 1) v (by simpa using e)
    exact ⟨x, t, by simpa using a, b⟩
  | [], _ :: _, hl, _ => by simp at hl
  | _ :: _, [], hl, _ => by simp at hl
section
variable {X : Cx}
/-- sorted(d) of a dict whose keys are all ints -/
theorem wk_sortedDI (hcalm : X.calm = true) : CallR X (.builtin "sorted") (fun xs H Q => ∃ (a : Addr) (kvs : List (Key × V)) (ks : List Int), xs = [.ref a] ∧ Rd H a (.dK kvs) ∧ kvs.map (·.1) = ks.map Sum.inl ∧
    ∀ (ys : List Int) (p : Addr), ys.Perm ks → ys.Pairwise (· ≤ ·) → H p = none → Q (.ref p) (upd H p (.lst (ys.map V.int)))) := by
  intro pins s σ H xs us Q I r q
  obtain ⟨a, kvs, ks, ex, hd, hks, q⟩ := q
  subst ex
  obtain ⟨u, eu, rx⟩ := vals1 r
  subst eu
  cases rx
  obtain ⟨z, lo, vs, rel, dd⟩ := dk_rd I.hok hd
  obtain ⟨ep, hat⟩ := dd.dictAt
  have hkeys : vs.map (·.1) = ks.map Sum.inl := rel.keys.symm.trans hks
  have hl : vs.length = ks.length := by
    have e := congrArg List.length hkeys
    rw [List.length_map, List.length_map] at e
    exact e
  have h16 : vs.length ≤ sizeLine := by rw [← rel.length]; exact z
  refine Calls.call_function_entry PyProof.Rows.kind_sorted PyProof.Rows.plain_sorted PyProof.Rows.entry_sorted (PyProof.Rows.args_sorted1 _) ?_
  unfold Builtin.«sorted»
  refine wpAny_bind (m := checkCount "sorted" 1 1 _) (wpAny_pure ?_)
  refine wpAny_bind (PySem.W.kdu_collect (A := X.A.in1) (PySem.W.kdl_dict (knd := mixKind X.prog X.w) (kvs := vs) (ep := ep) lo) (I.ok.hd hcalm) hat h16 fun h' tk acc hk hacc => ?_)
  have hal : acc.toList.length = ks.length := by rw [Array.length_toList, hacc.1, hl]
  have hS : IntsAre acc.toList ks := ints_at hal fun j v e => by
    obtain ⟨k, x, e1, e2⟩ := hacc.2 j v (by rw [← Array.getElem?_toList]; exact e)
    have e3 : (vs.map (·.1))[j]? = some k := by rw [List.getElem?_map, e1]; all_goals rfl
    rw [hkeys, List.getElem?_map] at e3
    cases e4 : ks[j]? with
    | none => rw [e4] at e3; cases e3
    | some y =>
      rw [e4] at e3
      have e5 : Sum.inl y = k := Option.some.inj e3
      subst e5
      obtain ⟨t, ev⟩ := Value.isInt_shape (k := y) (v := v) e2
      exact ⟨y, t, rfl, ev⟩
  have I1 : Inv X pins σ H { s with heap := h', toks := tk } := I.kept hk
  have hzz : acc.toList.length ≤ sizeLine := by rw [hal, ← hl]; exact h16
  refine wpAny_bind (wpAny_newList ?_ hzz)
  have hoL : (h'.push (seqObj "list" acc.toList.toArray 0)).get? h'.objs.size = some (seqObj "list" acc.toList.toArray 0) := Heap.get?_push_size _ rfl
  show wpAny _ _ _ _ _ { s with heap := h'.push (seqObj "list" acc.toList.toArray 0), toks := tk }
  refine wpAny_bind (wpAny_holding (wpAny_call_entry PyProof.Rows.slot_list_sort ⟨_, hoL, rfl⟩ PyProof.Rows.entry_list_sort
    (SrtO.list_sort_ord SrtO.swo_int (s := { s with heap := h'.push (seqObj "list" acc.toList.toArray 0), toks := tk }) hoL hzz (fun h2 => SrtO.ints_sortable hS h2) fun out h1 h2 => ⟨_, rfl, ?_⟩)
    (PyProof.Rows.args_list_sort _)))
  obtain ⟨k1, k2, k3⟩ := SrtO.ints_out hS h1 h2
  obtain ⟨e', he'⟩ := PyProof.Rows.sortedHeap_at (vs := acc.toList) (out := out.toArray) hoL
  have hlen : ((out.map SrtO.iv).map V.int).length ≤ sizeLine := by
    rw [List.length_map, k2.length_eq, ← hl]
    exact h16
  refine wpAny_pure ⟨_, rfl, .ref h'.objs.size, upd H h'.objs.size (.lst ((out.map SrtO.iv).map V.int)), I1.laid (t' := tk) (fun b u e => ?_) (Nat.le_refl _)
    (show ObjOk X.prog X.w _ _ _ (.lst ((out.map SrtO.iv).map V.int)) from ⟨hlen, out, e', vals_of_ints k1, he'⟩), rfl, q _ _ k2 k3 (I1.hok.fresh (Nat.le_refl _))⟩
  have hb : b < h'.objs.size := Heap.lt_size e
  rw [PyProof.Rows.sortedHeap_old (Nat.ne_of_lt hb) (by rw [size_push']; exact Nat.lt_succ_of_lt hb)]
  exact Heap.get?_push_of_some _ e
end
section
variable {X : Cx}
/-- sorted(t), t a tuple of ints -/
theorem wk_sortedTI (hcalm : X.calm = true) : CallR X (.builtin "sorted") (fun xs H Q => ∃ (a : Addr) (ks : List Int), xs = [.ref a] ∧ SqT X.K H a (ks.map V.int) ∧
    ∀ (ys : List Int) (p : Addr), ys.Perm ks → ys.Pairwise (· ≤ ·) → H p = none → Q (.ref p) (upd H p (.lst (ys.map V.int)))) := by
  intro pins s σ H xs us Q I r q
  obtain ⟨a, ks, ex, hT, q⟩ := q
  subst ex
  obtain ⟨u, eu, rx⟩ := vals1 r
  subst eu
  cases rx
  obtain ⟨its, rv, ⟨o, ho, hc, n, hd⟩, hs⟩ := I.tuple hT
  have hl : its.length = ks.length := by
    have := rv.length
    rw [List.length_map] at this
    exact this.symm
  have h16 : its.length ≤ sizeLine := by rw [hl]; rw [List.length_map] at hs; exact hs
  have hS : IntsAre its ks := rv.ints
  refine Calls.call_function_entry PyProof.Rows.kind_sorted PyProof.Rows.plain_sorted PyProof.Rows.entry_sorted (PyProof.Rows.args_sorted1 _) ?_
  unfold Builtin.«sorted»
  refine wpAny_bind (m := checkCount "sorted" 1 1 _) (wpAny_pure ?_)
  refine wpAny_bind (wpAny_collect_seq a (.inr rfl) ho hc hd (fun h' hk => ?_) (by rw [List.size_toArray]; exact h16))
  have I1 : Inv X pins σ H { s with heap := h', toks := s.toks } := I.kept hk
  have hzz : its.toArray.toList.length ≤ sizeLine := h16
  refine wpAny_bind (wpAny_newList ?_ hzz)
  have hoL : (h'.push (seqObj "list" its.toArray.toList.toArray 0)).get? h'.objs.size = some (seqObj "list" its.toArray.toList.toArray 0) := Heap.get?_push_size _ rfl
  show wpAny _ _ _ _ _ { s with heap := h'.push (seqObj "list" its.toArray.toList.toArray 0), toks := s.toks }
  refine wpAny_bind (wpAny_holding (wpAny_call_entry PyProof.Rows.slot_list_sort ⟨_, hoL, rfl⟩ PyProof.Rows.entry_list_sort
    (SrtO.list_sort_ord SrtO.swo_int (s := { s with heap := h'.push (seqObj "list" its.toArray.toList.toArray 0), toks := s.toks }) hoL hzz (fun h2 => SrtO.ints_sortable hS h2) fun out h1 h2 => ⟨_, rfl, ?_⟩)
    (PyProof.Rows.args_list_sort _)))
  obtain ⟨k1, k2, k3⟩ := SrtO.ints_out hS h1 h2
  obtain ⟨e', he'⟩ := PyProof.Rows.sortedHeap_at (vs := its.toArray.toList) (out := out.toArray) hoL
  have hlen : ((out.map SrtO.iv).map V.int).length ≤ sizeLine := by
    rw [List.length_map, k2.length_eq, ← hl]
    exact h16
  refine wpAny_pure ⟨_, rfl, .ref h'.objs.size, upd H h'.objs.size (.lst ((out.map SrtO.iv).map V.int)), I1.laid (t' := s.toks) (fun b u e => ?_) (Nat.le_refl _)
    (show ObjOk X.prog X.w _ _ _ (.lst ((out.map SrtO.iv).map V.int)) from ⟨hlen, out, e', vals_of_ints k1, he'⟩), rfl, q _ _ k2 k3 (I1.hok.fresh (Nat.le_refl _))⟩
  have hb : b < h'.objs.size := Heap.lt_size e
  rw [PyProof.Rows.sortedHeap_old (Nat.ne_of_lt hb) (by rw [size_push']; exact Nat.lt_succ_of_lt hb)]
  exact Heap.get?_push_of_some _ e
end
/-- a tuple of two ints -/
def PrAt (K : PySem.W.Frag) (H : Hp) (p : Int × Int) (x : V) : Prop := ∃ t, x = V.ref t ∧ Wk.TupAt K H t [.int p.1, .int p.2]
/-- sorted(xs), xs a list of pairs of ints -/
def rSortedPW (K : PySem.W.Frag) : List V → Hp → VK → Prop := fun vs H Q => ∃ (a : Addr) (xs : List V) (ps : List (Int × Int)), vs = [V.ref a] ∧ SqL K H a xs ∧ Paired (PrAt K H) ps xs ∧
  ∀ (ys : List V) (qs : List (Int × Int)) (p : Addr), Paired (PrAt K H) qs ys → qs.Perm ps → qs.Pairwise (fun u v => SrtO.lexB v u = false) → H p = none → Q (.ref p) (upd H p (.lst ys))
def pairAt (h : Heap) : Value → Int × Int
  | .ref a => match h.get? a with
    | some o => match o.data with
      | .seq xs _ => match xs.toList with
        | [.int i _, .int j _] => (i, j)
        | _ => (0, 0)
      | _ => (0, 0)
    | none => (0, 0)
  | _ => (0, 0)
section
variable {X : Cx}
theorem prAt_look {pins : List (Addr × Obj)} {σ : L2.St} {H : Hp} {s : Shared} (I : Inv X pins σ H s) {p : Int × Int} {x : V} {v : Value} (h : PrAt X.K H p x) (r : RelV x v) : pairAt s.heap v = p ∧ Srt.IsPair s.heap v p.1 p.2 ∧ x = backV v ∧ ∃ a, v = Value.ref a := by
  obtain ⟨t, rfl, hs⟩ := h
  obtain rfl : v = Value.ref t := r
  obtain ⟨its, rv, ⟨o, ho, hc, n, hd⟩, _⟩ := I.tuple hs.sq
  obtain ⟨u1, u2, rfl, ri, rj⟩ := vals2 rv
  obtain ⟨t1, rfl⟩ := ri
  obtain ⟨t2, rfl⟩ := rj
  refine ⟨?_, ⟨t, o, t1, t2, n, rfl, ho, hc, hd⟩, rfl, _, rfl⟩
  unfold pairAt
  simp only [ho, hd]
theorem prAt_all {pins : List (Addr × Obj)} {σ : L2.St} {H : Hp} {s : Shared} (I : Inv X pins σ H s) : ∀ {ps : List (Int × Int)} {xs : List V} {us : List Value}, Paired (PrAt X.K H) ps xs → Vals xs us → us.map (pairAt s.heap) = ps ∧ ∀ v ∈ us, PrAt X.K H (pairAt s.heap v) (backV v) ∧ Srt.IsPair s.heap v (pairAt s.heap v).1 (pairAt s.heap v).2 ∧ ∃ a, v = Value.ref a
  | _, _, _, .nil, .nil => ⟨rfl, fun v hv => absurd hv (by simp)⟩
  | _, _, _, .cons r t, .cons rv tv => by
    obtain ⟨e1, e2, e3, e4⟩ := prAt_look I r rv
    obtain ⟨h1, h2⟩ := prAt_all I t tv
    refine ⟨by rw [List.map_cons, e1, h1], fun v hv => ?_⟩
    rcases List.mem_cons.mp hv with z | z
    · subst z
      rw [e1]
      exact ⟨by rw [← e3]; exact r, e2, e4⟩
    · exact h2 v z
theorem cr_sortedPW : CallR X (.builtin "sorted") (rSortedPW X.K) := by
  intro pins s σ H vs us Q I r h
  obtain ⟨a, xs, ps, rfl, hs, hx, q⟩ := h
  obtain ⟨its, rv, hl, hz⟩ := I.list hs
  obtain ⟨u, rfl, ru⟩ := vals1 r
  obtain rfl : u = Value.ref a := ru
  obtain ⟨e1, e2⟩ := prAt_all I hx rv
  refine SrtO.sorted_pairsO (k := pairAt s.heap) hl.isList (by rw [← rv.length]; exact hz) (fun v hv => (e2 v hv).2.1) fun h' d out h1 h2 kp hd hn => ?_
  have h3 : ∀ u ∈ out, u ∈ its := fun u hu => h2.perm.mem_iff.mp hu
  obtain ⟨n, hn⟩ := hn
  refine ⟨.ref d, upd H d (.lst (out.map backV)), I.laid (t' := s.toks) kp hd ⟨?_, out, n, vals_back fun u hu => (e2 u (h3 u hu)).2.2, hn⟩, rfl, q (out.map backV) (out.map (pairAt s.heap)) d ?_ ?_ ?_ (I.hok.fresh hd)⟩
  · rw [List.length_map, h2.len, ← rv.length]
    exact hz
  · have key : ∀ l : List Value, (∀ u ∈ l, u ∈ its) → Paired (PrAt X.K H) (l.map (pairAt s.heap)) (l.map backV) := by
      intro l
      induction l with
      | nil => intro _; exact .nil
      | cons u l ih => intro hl; exact .cons (e2 u (hl u List.mem_cons_self)).1 (ih fun w hw => hl w (List.mem_cons_of_mem _ hw))
    exact key out h3
  · rw [← e1]; exact h2.perm.map _
  · exact List.pairwise_map.mpr h1
end
end L2

namespace Wk
open PySem PySem.Spec PyProof.Rows L2
section
variable {X : Cx} {T : Tbs} {W : WX} {pos : Pos}
/-! ### calls of built-ins by values -/
variable (X T) in
def C1S (r : List V → Hp → VK → Prop) (F : D → Store → Res D) : Prop := ∀ (E : XK) (ρ : List Addr) (S : Store) (H : Hp) (x : D) (v : V) (Q : VK), RS X.K T ρ S H → RD X.K ρ H x v → Post X.K X.mg T E ρ H (RD X.K) Q (F x S) → r [v] H Q
variable (X T) in
def C2S (r : List V → Hp → VK → Prop) (o : Op) : Prop := ∀ (E : XK) (ρ : List Addr) (S : Store) (H : Hp) (x y : D) (v w : V) (Q : VK), RS X.K T ρ S H → RD X.K ρ H x v → RD X.K ρ H y w → Post X.K X.mg T E ρ H (RD X.K) Q (o x y S) → r [v, w] H Q
variable {a b c : Expr} {fa fb fc : FE}
theorem tef_c1 {r : List V → Hp → VK → Prop} {F : D → Store → Res D} (hs : C1S X T r F) : ∀ σ H Q, TEf X T W (eUn F fa) σ H Q → tCB r (tCons (TEf X T W fa) tNil) σ H Q := by
  rintro σ H Q ⟨ρ, S, s, rs, re, h⟩
  refine ⟨ρ, S, s, rs, re, (Post.bind (R := RD X.K) h).imp ?_⟩
  rintro v H1 ⟨ρ1, S1, x, l1, rs1, rd1, h1⟩
  exact hs _ ρ1 S1 H1 x v Q rs1 rd1 h1
theorem tef_c2 {r : List V → Hp → VK → Prop} {o : Op} (hs : C2S X T r o) : ∀ σ H Q, TEf X T W (eOp o fa fb) σ H Q → tCB r (tCons (TEf X T W fa) (tCons (TEf X T W fb) tNil)) σ H Q := by
  rintro σ H Q ⟨ρ, S, s, rs, re, h⟩
  refine ⟨ρ, S, s, rs, re, (Post.bind (R := RD X.K) h).imp ?_⟩
  rintro v H1 ⟨ρ1, S1, x, l1, rs1, rd1, h1⟩
  refine ⟨ρ1, S1, s, rs1, re.le rs l1, (Post.bind (R := RD X.K) h1).imp ?_⟩
  rintro w H2 ⟨ρ2, S2, y, l2, rs2, rd2, h2⟩
  exact hs _ ρ2 S2 H2 x y v w Q rs2 (rd1.le rs1 l2) rd2 h2
/-- f(e), f a built-in function -/
theorem ev_b1 {id : String} {x : Str} {p : Pos} {r : List V → Hp → VK → Prop} {F : D → Store → Res D} (hs : CallR X (.builtin id) r ∧ C1S X T r F) (hm : X.mg x = none) (hv : bootBuiltins x = some (.builtin id)) (ha : EV X T W a fa) (hg : Gl X x := by rfl) (hn : x ≠ "__name__" := by decide) (hdb : (x == ("__debug__" : Str)) = false := by decide)
    (he : starEach (a :: []) X.env = (false, eval a X.env) :: starEach [] X.env := by rfl) (hpl : (backTo pos (starEach [] X.env)).any (·.1) = false := by rfl) : EV X T W (.Call (.Name x p) [a] [] pos) (eUn F fa) :=
  PE.imp (pe_callB hs.1 hg hm hv (pa_cons ha pa_nil he) hn hdb he hpl) (tef_c1 hs.2)
theorem ev_t1 {id : String} {x : Str} {p : Pos} {r : List V → Hp → VK → Prop} {F : D → Store → Res D} (hs : CallR X (.type id) r ∧ C1S X T r F) (hm : X.mg x = none) (hv : bootBuiltins x = some (.type id)) (ha : EV X T W a fa) (hg : Gl X x := by rfl) (hn : x ≠ "__name__" := by decide) (hdb : (x == ("__debug__" : Str)) = false := by decide)
    (he : starEach (a :: []) X.env = (false, eval a X.env) :: starEach [] X.env := by rfl) (hpl : (backTo pos (starEach [] X.env)).any (·.1) = false := by rfl) : EV X T W (.Call (.Name x p) [a] [] pos) (eUn F fa) :=
  PE.imp (pe_callTy hs.1 hg hm hv (pa_cons ha pa_nil he) hn hdb he hpl) (tef_c1 hs.2)
theorem ev_b2 {id : String} {x : Str} {p : Pos} {r : List V → Hp → VK → Prop} {o : Op} (hs : CallR X (.builtin id) r ∧ C2S X T r o) (hm : X.mg x = none) (hv : bootBuiltins x = some (.builtin id)) (ha : EV X T W a fa) (hb : EV X T W b fb) (hg : Gl X x := by rfl) (hn : x ≠ "__name__" := by decide) (hdb : (x == ("__debug__" : Str)) = false := by decide)
    (he : starEach (a :: [b]) X.env = (false, eval a X.env) :: starEach [b] X.env := by rfl) (he2 : starEach (b :: []) X.env = (false, eval b X.env) :: starEach [] X.env := by rfl) (hpl : (backTo pos (starEach [b] X.env)).any (·.1) = false := by rfl) : EV X T W (.Call (.Name x p) [a, b] [] pos) (eOp o fa fb) :=
  PE.imp (pe_callB hs.1 hg hm hv (pa_cons ha (pa_cons hb pa_nil he2) he) hn hdb he hpl) (tef_c2 hs.2)

/-- what a sequence's data are, in the heap -/
theorem seq_at {ρ : List Addr} {S : Store} {H : Hp} {x : D} {v : V} {ds : List D} (rs : RS X.K T ρ S H) (rx : RD X.K ρ H x v) (h : seqD S x = some ds) : ∃ p vs, v = .ref p ∧ (SqL X.K H p vs ∨ SqT X.K H p vs) ∧ RDs X.K ρ H ds vs ∧ vs.length ≤ sizeLine := by
  cases x with
  | tup d =>
    cases h
    obtain ⟨a, vs, rfl, ta, ra⟩ := rx.tup
    exact ⟨a, vs, rfl, .inr ta.sq, ra, ta.1⟩
  | frz d =>
    cases h
    obtain ⟨a, vs, rfl, ta, ra⟩ := rx.frz
    exact ⟨a, vs, rfl, .inl ta.sq, ra, ta.1⟩
  | ref l =>
    unfold seqD at h
    dsimp only at h
    split at h
    · rename_i d e
      cases h
      obtain ⟨p, vs, rfl, hp, hv, ra, za⟩ := rs.lstAt rx e
      exact ⟨p, vs, rfl, .inl (SqL.of hv), ra, za⟩
    · cases h
  | _ => cases h
abbrev rLenA (K : PySem.W.Frag) : List V → Hp → VK → Prop := fun xs H Q => (fun xs H Q => (fun xs H Q => ∃ x n, xs = [x] ∧ LenV K x H n ∧ Q (.int n) H) xs H Q ∨ (fun xs H Q => ∃ a kvs, xs = [V.ref a] ∧ H a = some (.dK kvs) ∧ Q (.int kvs.length) H) xs H Q) xs H Q ∨ rLenT xs H Q
theorem lenS {E : XK} {ρ : List Addr} {S : Store} {H : Hp} {x : D} {v : V} {Q : VK} (rs : RS X.K T ρ S H) (rx : RD X.K ρ H x v) (h : Post X.K X.mg T E ρ H (RD X.K) Q (match seqD S x with | some ds => Res.ok (.int ds.length) S | none => .bad)) : ∃ y n, [v] = [y] ∧ LenV X.K y H n ∧ Q (.int n) H := by
  cases e : seqD S x with
  | none => rw [e] at h; exact (show False from h).elim
  | some ds =>
    rw [e] at h
    obtain ⟨p, vs, rfl, hq, ra, za⟩ := seq_at rs rx e
    refine ⟨_, vs.length, rfl, ?_, ?_⟩
    · rcases hq with z | z
      · exact .inl ⟨vs, z, rfl⟩
      · exact .inr ⟨vs, z, rfl⟩
    · rw [← ra.len]
      exact h ρ H _ (Le.refl _ _) rs rd_int
theorem os_len : CallR X (.builtin "len") (rLenA X.K) ∧ C1S X T (rLenA X.K) fLen := by
  refine ⟨CallR.or (CallR.or call_len call_lenD) call_len_dT, ?_⟩
  intro E ρ S H x v Q rs rx h
  cases x with
  | str i =>
    unfold fLen at h
    dsimp only at h
    by_cases c : i.length ≤ LIM
    · rw [if_pos c] at h
      exact .inl (.inl ⟨v, i.length, rfl, by rw [rx.str]; exact ⟨by rw [← lim_eq]; exact c, rfl⟩, h ρ H _ (Le.refl _ _) rs rd_int⟩)
    · rw [if_neg c] at h; exact (show False from h).elim
  | ref l =>
    unfold fLen at h
    dsimp only at h
    split at h
    · rename_i kvs e
      obtain ⟨p, vs, rfl, hp, hv, ra, za⟩ := rs.dkAt rx e
      refine .inl (.inr ⟨p, vs, rfl, hv, ?_⟩)
      rw [← Paired.length ra]
      exact h ρ H _ (Le.refl _ _) rs rd_int
    · rename_i kvs e
      obtain ⟨p, vs, rfl, hp, hv, ra, za⟩ := rs.dtAt rx e
      refine .inr ⟨p, vs, rfl, hv, ?_⟩
      rw [← Paired.length ra]
      exact h ρ H _ (Le.refl _ _) rs rd_int
    · exact .inl (.inl (lenS rs rx h))
  | tup ds => exact .inl (.inl (lenS rs rx h))
  | frz ds => exact .inl (.inl (lenS rs rx h))
  | _ => exact (show False from h).elim
theorem os_list : CallR X (.type "list") (fun xs H Q => ∃ p ys, xs = [.ref p] ∧ (SqL X.K H p ys ∨ SqT X.K H p ys) ∧ ∀ l, H l = none → Q (.ref l) (upd H l (.lst ys))) ∧ C1S X T (fun xs H Q => ∃ p ys, xs = [.ref p] ∧ (SqL X.K H p ys ∨ SqT X.K H p ys) ∧ ∀ l, H l = none → Q (.ref l) (upd H l (.lst ys))) fList := by
  refine ⟨call_list_of, ?_⟩
  intro E ρ S H x v Q rs rx h
  unfold fList at h
  cases e : seqD S x with
  | none => rw [e] at h; exact (show False from h).elim
  | some ds =>
    rw [e] at h
    obtain ⟨p, vs, rfl, hq, ra, za⟩ := seq_at rs rx e
    refine ⟨p, vs, rfl, hq, fun l hl => ?_⟩
    obtain ⟨q1, q2, q3⟩ := lst_new rs hl ra za
    exact h _ _ _ q1 q2 q3
abbrev rTupleA (K : PySem.W.Frag) : List V → Hp → VK → Prop := fun xs H Q => ∃ p ys, xs = [.ref p] ∧ ((SqL K H p ys ∧ ∀ l, H l = none → Q (.ref l) (upd H l (.tup ys))) ∨ (SqT K H p ys ∧ Q (.ref p) H))
theorem os_tuple : CallR X (.type "tuple") (rTupleA X.K) ∧ C1S X T (rTupleA X.K) fTuple := by
  refine ⟨call_tuple_of, ?_⟩
  intro E ρ S H x v Q rs rx h
  unfold fTuple at h
  cases e : seqD S x with
  | none => rw [e] at h; exact (show False from h).elim
  | some ds =>
    rw [e] at h
    cases x with
    | tup d =>
      cases e
      obtain ⟨a, vs, rfl, ta, ra⟩ := rx.tup
      exact ⟨a, vs, rfl, .inr ⟨ta.sq, h ρ H _ (Le.refl _ _) rs rx⟩⟩
    | frz d =>
      cases e
      obtain ⟨a, vs, rfl, ta, ra⟩ := rx.frz
      refine ⟨a, vs, rfl, .inl ⟨ta.sq, fun l hl => ?_⟩⟩
      obtain ⟨q1, q2, q3⟩ := tup_new rs hl ra ta.1
      exact h _ _ _ q1 q2 q3
    | ref l =>
      unfold seqD at e
      dsimp only at e
      split at e
      · rename_i d e0
        cases e
        obtain ⟨p, vs, rfl, hp, hv, ra, za⟩ := rs.lstAt rx e0
        refine ⟨p, vs, rfl, .inl ⟨SqL.of hv, fun l hl => ?_⟩⟩
        obtain ⟨q1, q2, q3⟩ := tup_new rs hl ra za
        exact h _ _ _ q1 q2 q3
      · cases e
    | _ => cases e
theorem os_max2 (hc : X.calm = true) : CallR X (.builtin "max") (fun xs H Q => ∃ i j, xs = [.int i, .int j] ∧ Q (.int (if j > i then j else i)) H) ∧ C2S X T (fun xs H Q => ∃ i j, xs = [.int i, .int j] ∧ Q (.int (if j > i then j else i)) H) oMax := by
  refine ⟨call_max2 hc, ?_⟩
  intro E ρ S H x y v w Q rs rx ry h
  cases x with
  | int i =>
    cases y with
    | int j => exact ⟨i, j, by rw [rx.int, ry.int], h ρ H _ (Le.refl _ _) rs rd_int⟩
    | _ => exact (show False from h).elim
  | _ => cases y <;> exact (show False from h).elim
theorem os_min2 (hc : X.calm = true) : CallR X (.builtin "min") (fun xs H Q => ∃ i j, xs = [.int i, .int j] ∧ Q (.int (if j < i then j else i)) H) ∧ C2S X T (fun xs H Q => ∃ i j, xs = [.int i, .int j] ∧ Q (.int (if j < i then j else i)) H) oMin := by
  refine ⟨call_min2 hc, ?_⟩
  intro E ρ S H x y v w Q rs rx ry h
  cases x with
  | int i =>
    cases y with
    | int j => exact ⟨i, j, by rw [rx.int, ry.int], h ρ H _ (Le.refl _ _) rs rd_int⟩
    | _ => exact (show False from h).elim
  | _ => cases y <;> exact (show False from h).elim
theorem os_bool : CallR X (.type "bool") (fun xs H Q => (∃ i, xs = [.int i] ∧ Q (.bl (i != 0)) H) ∨ ∃ k, xs = [.bl k] ∧ Q (.bl k) H) ∧ C1S X T (fun xs H Q => (∃ i, xs = [.int i] ∧ Q (.bl (i != 0)) H) ∨ ∃ k, xs = [.bl k] ∧ Q (.bl k) H) fBool := by
  refine ⟨call_bool1, ?_⟩
  intro E ρ S H x v Q rs rx h
  cases x with
  | int i => exact .inl ⟨i, by rw [rx.int], h ρ H _ (Le.refl _ _) rs rd_bl⟩
  | bl i => exact .inr ⟨i, by rw [rx.bl], h ρ H _ (Le.refl _ _) rs rd_bl⟩
  | _ => exact (show False from h).elim
theorem rds_ints {K : PySem.W.Frag} {ρ : List Addr} {H : Hp} : ∀ ns : List Int, RDs K ρ H (ns.map D.int) (ns.map V.int)
  | [] => by unfold List.map RDs; rfl
  | n :: ns => by
    show RDs K ρ H (.int n :: ns.map D.int) (.int n :: ns.map V.int)
    unfold RDs
    exact ⟨_, _, rfl, rd_int, rds_ints ns⟩
theorem insI_perm (a : Int) : ∀ l, (insI a l).Perm (a :: l)
  | [] => .refl _
  | b :: l => by
    unfold insI
    split
    · exact .refl _
    · exact ((insI_perm a l).cons b).trans (.swap a b l)
theorem sortI_perm : ∀ l, (sortI l).Perm l
  | [] => .refl _
  | a :: l => (insI_perm a _).trans ((sortI_perm l).cons a)
theorem insI_sorted (a : Int) : ∀ l : List Int, l.Pairwise (· ≤ ·) → (insI a l).Pairwise (· ≤ ·)
  | [], _ => .cons (by simp) .nil
  | b :: l, h => by
    unfold insI
    split
    · rename_i c
      refine .cons (fun x hx => ?_) h
      rcases List.mem_cons.mp hx with z | z
      · rw [z]; exact c
      · exact Int.le_trans c ((List.pairwise_cons.mp h).1 x z)
    · rename_i c
      refine .cons (fun x hx => ?_) (insI_sorted a l (List.pairwise_cons.mp h).2)
      rcases List.mem_cons.mp ((insI_perm a l).mem_iff.mp hx) with z | z
      · rw [z]; omega
      · exact (List.pairwise_cons.mp h).1 x z
theorem sortI_sorted : ∀ l, (sortI l).Pairwise (· ≤ ·)
  | [] => .nil
  | a :: l => insI_sorted a _ (sortI_sorted l)
theorem sortI_is {l m : List Int} (h : m.Perm l) (s : m.Pairwise (· ≤ ·)) : m = sortI l :=
  List.Perm.eq_of_pairwise (fun x y _ _ h1 h2 => Int.le_antisymm h1 h2) s (sortI_sorted l) (h.trans (sortI_perm l).symm)
theorem kD_rd {K : PySem.W.Frag} {ρ : List Addr} {H : Hp} {k : Kk} {v : V} (h : RD K ρ H (kD k) v) : v = kV k := by
  cases k with
  | inl i => exact h.int
  | inr i => exact h.str
theorem rd_kD {K : PySem.W.Frag} {ρ : List Addr} {H : Hp} (k : Kk) : RD K ρ H (kD k) (kV k) := by
  cases k with
  | inl i => exact rd_int
  | inr i => exact rd_str
theorem keyD_eq {x : D} {k : Kk} (h : keyD x = some k) : x = kD k := by
  cases x with
  | int i => unfold keyD at h; cases h; rfl
  | str i => unfold keyD at h; cases h; rfl
  | _ => unfold keyD at h; cases h
abbrev rSortA (K : PySem.W.Frag) : List V → Hp → VK → Prop := fun xs H Q => rSortedI K xs H Q ∨ (fun xs H Q => ∃ (a : Addr) (kvs : List (Key × V)) (ks : List Int), xs = [.ref a] ∧ Rd H a (.dK kvs) ∧ kvs.map (·.1) = ks.map Sum.inl ∧
    ∀ (ys : List Int) (p : Addr), ys.Perm ks → ys.Pairwise (· ≤ ·) → H p = none → Q (.ref p) (upd H p (.lst (ys.map V.int)))) xs H Q
theorem keysD_v {K : PySem.W.Frag} {ρ : List Addr} {H : Hp} : ∀ {ds : List D} {vs : List V} {ks : List Kk}, keysD ds = some ks → RDs K ρ H ds vs → vs = ks.map kV
  | [], vs, ks, h, r => by unfold keysD at h; cases h; unfold RDs at r; subst r; rfl
  | d :: ds, vs, ks, h, r => by
    unfold RDs at r
    obtain ⟨v, w, rfl, r1, r2⟩ := r
    unfold keysD at h
    split at h
    · rename_i k' r' e1 e2
      cases h
      have ek := keyD_eq e1
      subst ek
      rw [keysD_v e2 r2, kD_rd r1]; rfl
    · cases h
theorem keyT_v {K : PySem.W.Frag} {ρ : List Addr} {H : Hp} {x : D} {v : V} {ks : List Kk} (h : keyT x = some ks) (r : RD K ρ H x v) : ∃ b, v = .ref b ∧ H b = some (.tup (ks.map kV)) := by
  cases x with
  | tup ds =>
    obtain ⟨a, vs, rfl, ta, ra⟩ := r.tup
    have := keysD_v h ra
    subst this
    exact ⟨a, rfl, ta.2⟩
  | _ => unfold keyT at h; cases h
theorem intsD_keys : ∀ {kvs : List (Kk × D)} {ns : List Int}, intsD (kvs.map fun kv => kD kv.1) = some ns → kvs.map (·.1) = ns.map Sum.inl
  | [], ns, h => by unfold List.map intsD at h; cases h; rfl
  | (k, d) :: r, ns, h => by
    cases k with
    | inl i =>
      have h' : (match intsD (r.map fun kv => kD kv.1) with | some is => some (i :: is) | none => none) = some ns := h
      split at h'
      · rename_i is e
        cases h'
        rw [List.map_cons, intsD_keys e]; rfl
      · cases h'
    | inr i => cases h
theorem ltPr_eq (p q : Int × Int) : ltPr p q = SrtO.lexB p q := rfl
theorem insP_perm (a : Int × Int) : ∀ l, (insP a l).Perm (a :: l)
  | [] => .refl _
  | b :: l => by
    unfold insP
    split
    · exact ((insP_perm a l).cons b).trans (.swap a b l)
    · exact .refl _
theorem sortP_perm : ∀ l, (sortP l).Perm l
  | [] => .refl _
  | a :: l => (insP_perm a _).trans ((sortP_perm l).cons a)
theorem ltPr_iff {p q : Int × Int} : ltPr p q = true ↔ p.1 < q.1 ∨ (p.1 = q.1 ∧ p.2 < q.2) := SrtO.lexB_iff
theorem ltPr_no {p q : Int × Int} : ltPr p q = false ↔ ¬ (p.1 < q.1 ∨ (p.1 = q.1 ∧ p.2 < q.2)) := SrtO.lexB_no
theorem insP_sorted (a : Int × Int) : ∀ l : List (Int × Int), l.Pairwise (fun u v => ltPr v u = false) → (insP a l).Pairwise (fun u v => ltPr v u = false)
  | [], _ => .cons (by simp) .nil
  | b :: l, h => by
    unfold insP
    split
    · rename_i c
      refine .cons (fun x hx => ?_) (insP_sorted a l (List.pairwise_cons.mp h).2)
      rcases List.mem_cons.mp ((insP_perm a l).mem_iff.mp hx) with z | z
      · rw [z]
        have := ltPr_iff.mp c
        exact ltPr_no.mpr (by omega)
      · exact (List.pairwise_cons.mp h).1 x z
    · rename_i c
      have c' : ltPr b a = false := by cases e : ltPr b a with
        | true => exact absurd e c
        | false => rfl
      refine .cons (fun x hx => ?_) h
      rcases List.mem_cons.mp hx with z | z
      · rw [z]; exact c'
      · have h1 := ltPr_no.mp ((List.pairwise_cons.mp h).1 x z)
        have h2 := ltPr_no.mp c'
        exact ltPr_no.mpr (by omega)
theorem sortP_sorted : ∀ l, (sortP l).Pairwise (fun u v => ltPr v u = false)
  | [] => .nil
  | a :: l => insP_sorted a _ (sortP_sorted l)
theorem sortP_is {l m : List (Int × Int)} (h : m.Perm l) (s : m.Pairwise (fun u v => ltPr v u = false)) : m = sortP l :=
  List.Perm.eq_of_pairwise (fun x y _ _ h1 h2 => by
    have a := ltPr_no.mp h1
    have b := ltPr_no.mp h2
    exact Prod.ext (by omega) (by omega)) s (sortP_sorted l) (h.trans (sortP_perm l).symm)
theorem prsD_v {K : PySem.W.Frag} {ρ : List Addr} {H : Hp} : ∀ {ds : List D} {vs : List V} {ps : List (Int × Int)}, prsD ds = some ps → RDs K ρ H ds vs → Paired (PrAt K H) ps vs
  | [], vs, ps, h, r => by unfold prsD at h; cases h; unfold RDs at r; subst r; exact .nil
  | d :: ds, vs, ps, h, r => by
    unfold RDs at r
    obtain ⟨v, w, rfl, r1, r2⟩ := r
    unfold prsD at h
    split at h
    · rename_i e'; cases e'
    · rename_i a b ds' e'
      have he := List.cons.inj e'
      obtain ⟨hd, hds⟩ := he
      subst hd hds
      split at h
      · rename_i ps' e2
        cases h
        obtain ⟨p, us, rfl, ta, ra⟩ := r1.tup
        unfold RDs RDs RDs at ra
        obtain ⟨u1, _, rfl, b1, u2, _, rfl, b2, rfl⟩ := ra
        have e1 := b1.int
        have e3 := b2.int
        subst e1 e3
        exact .cons ⟨p, rfl, ta⟩ (prsD_v e2 r2)
      · cases h
    · cases h
theorem prsD_len : ∀ {ds : List D} {ps : List (Int × Int)}, prsD ds = some ps → ps.length = ds.length
  | [], ps, h => by unfold prsD at h; cases h; rfl
  | d :: ds, ps, h => by
    unfold prsD at h
    split at h
    · rename_i e'; cases e'
    · rename_i a b ds' e'
      have he := List.cons.inj e'
      obtain ⟨hd, hds⟩ := he
      subst hd hds
      split at h
      · rename_i ps' e2
        cases h
        rw [List.length_cons, List.length_cons, prsD_len e2]
      · cases h
    · cases h
theorem rds_prs {K : PySem.W.Frag} {ρ : List Addr} {H : Hp} : ∀ {qs : List (Int × Int)} {ys : List V}, (∀ y ∈ ys, ∀ q, PrAt K H q y → RD K ρ H (prD q) y) → Paired (PrAt K H) qs ys → RDs K ρ H (qs.map prD) ys
  | _, _, _, .nil => by unfold List.map RDs; rfl
  | q :: qs, y :: ys, h, .cons r t => by
    show RDs K ρ H (prD q :: qs.map prD) (y :: ys)
    unfold RDs
    exact ⟨_, _, rfl, h y List.mem_cons_self q r, rds_prs (fun z hz => h z (List.mem_cons_of_mem _ hz)) t⟩
abbrev rSortT : List V → Hp → VK → Prop := fun xs H Q => ∃ (a : Addr) (kvs : List (List Key × V)) (ps : List (Int × Int)), xs = [.ref a] ∧ Rd H a (.dT kvs) ∧ kvs.map (·.1) = ps.map (fun p => [Sum.inl p.1, Sum.inl p.2]) ∧
    ∀ (ys : List V) (qs : List (Int × Int)) (p : Addr), Paired (fun q y => ∃ t, y = V.ref t ∧ H t = some (.tup [.int q.1, .int q.2])) qs ys → qs.Perm ps → qs.Pairwise (fun u v => SrtO.lexB v u = false) → H p = none → Q (.ref p) (upd H p (.lst ys))
theorem kD_int {k : Kk} {a : Int} (e : D.int a = kD k) : k = Sum.inl a := by
  cases k with
  | inl i =>
    have e2 : D.int a = D.int i := e
    injection e2 with e3
    rw [e3]
  | inr x =>
    have e2 : D.int a = D.str x := e
    cases e2
theorem prsD_keys : ∀ {kvs : List (List Kk × D)} {ps : List (Int × Int)}, prsD (kvs.map fun kv => .tup (kv.1.map kD)) = some ps → kvs.map (·.1) = ps.map (fun p => [Sum.inl p.1, Sum.inl p.2])
  | [], ps, h => by unfold List.map prsD at h; cases h; rfl
  | (ks, d) :: r, ps, h => by
    rw [List.map_cons] at h
    unfold prsD at h
    split at h
    · rename_i e'; cases e'
    · rename_i a b ds' e'
      have he := List.cons.inj e'
      obtain ⟨hd, hds⟩ := he
      subst hds
      split at h
      · rename_i ps' e2
        cases h
        have ek : ks = [Sum.inl a, Sum.inl b] := by
          injection hd with hd2
          have hl := congrArg List.length hd2
          match ks, hd2, hl with
          | [], _, hl => simp at hl
          | [_], _, hl => simp at hl
          | _ :: _ :: _ :: _, _, hl => simp at hl
          | [k1, k2], hd2, _ =>
            rw [List.map_cons, List.map_cons] at hd2
            injection hd2 with h1 h2
            injection h2 with h3 _
            first
              | rw [kD_int h1, kD_int h3]
              | rw [kD_int h1.symm, kD_int h3.symm]
        rw [List.map_cons, prsD_keys e2, List.map_cons]
        show ks :: _ = _
        rw [ek]
      · cases h
    · cases h
abbrev rSortC (K : PySem.W.Frag) : List V → Hp → VK → Prop := fun xs H Q => (fun xs H Q => rSortA K xs H Q ∨ rSortedPW K xs H Q) xs H Q ∨ rSortT xs H Q
abbrev rSortU (K : PySem.W.Frag) : List V → Hp → VK → Prop := fun xs H Q => ∃ (a : Addr) (ks : List Int), xs = [.ref a] ∧ SqT K H a (ks.map V.int) ∧
    ∀ (ys : List Int) (p : Addr), ys.Perm ks → ys.Pairwise (· ≤ ·) → H p = none → Q (.ref p) (upd H p (.lst (ys.map V.int)))
abbrev rSortB (K : PySem.W.Frag) : List V → Hp → VK → Prop := fun xs H Q => rSortC K xs H Q ∨ rSortU K xs H Q
theorem os_sorted (hc : X.calm = true) : CallR X (.builtin "sorted") (rSortB X.K) ∧ C1S X T (rSortB X.K) fSorted := by
  refine ⟨CallR.or (CallR.or (CallR.or (CallR.or cr_sortedI (wk_sortedDI hc)) cr_sortedPW) (wk_sortedDT hc)) (wk_sortedTI hc), ?_⟩
  intro E ρ S H x v Q rs rx h
  cases x with
  | tup ds =>
    unfold fSorted at h
    dsimp only at h
    cases e1 : intsD ds with
    | none => rw [e1] at h; exact (show False from h).elim
    | some ns =>
      rw [e1] at h
      obtain ⟨p, vs, rfl, tp, ra⟩ := rx.tup
      have ev := intsD_v e1 ra
      subst ev
      refine .inr ⟨p, ns, rfl, tp.sq, fun ns' q perm srt hq => ?_⟩
      rw [sortI_is perm srt]
      obtain ⟨q1, q2, q3⟩ := lst_new rs hq (rds_ints (sortI ns)) (by
        rw [List.length_map, (sortI_perm ns).length_eq, ← List.length_map (f := V.int)]; exact tp.1)
      exact h _ _ _ q1 q2 q3
  | ref l =>
    unfold fSorted at h
    dsimp only at h
    cases e0 : S[l]? with
    | none => rw [e0] at h; exact (show False from h).elim
    | some ob =>
      rw [e0] at h
      cases ob with
      | lst ds =>
        dsimp only at h
        cases e1 : intsD ds with
        | none =>
          rw [e1] at h
          dsimp only at h
          cases e2 : prsD ds with
          | none => rw [e2] at h; exact (show False from h).elim
          | some ps =>
            rw [e2] at h
            obtain ⟨p, vs, rfl, hp, hv, ra, za⟩ := rs.lstAt rx e0
            refine .inl (.inl (.inr ⟨p, vs, ps, rfl, SqL.of hv, prsD_v e2 ra, fun ys qs q hqs perm srt hq => ?_⟩))
            have eq := sortP_is perm srt
            subst eq
            obtain ⟨q1, q2, q3⟩ := lst_new (ds := (sortP ps).map prD) (vs := ys) rs hq (rds_prs (fun y _ q ⟨t, ey, ht⟩ => by
              subst ey
              exact rd_tup ht (by unfold RDs RDs RDs; exact ⟨_, _, rfl, rd_int, _, _, rfl, rd_int, rfl⟩)) hqs) (by
              rw [← Paired.length hqs, (sortP_perm ps).length_eq, prsD_len e2, ra.len]; exact za)
            exact h _ _ _ q1 q2 q3
        | some ns =>
          rw [e1] at h
          obtain ⟨p, vs, rfl, hp, hv, ra, za⟩ := rs.lstAt rx e0
          have ev := intsD_v e1 ra
          subst ev
          refine .inl (.inl (.inl (.inl ⟨p, ns, rfl, SqL.of hv, fun ns' q perm srt hq => ?_⟩)))
          rw [sortI_is perm srt]
          obtain ⟨q1, q2, q3⟩ := lst_new rs hq (rds_ints (sortI ns)) (by
            rw [List.length_map, (sortI_perm ns).length_eq, ← List.length_map (f := V.int)]; exact za)
          exact h _ _ _ q1 q2 q3
      | dk kvs =>
        dsimp only at h
        cases e1 : intsD (kvs.map fun kv => kD kv.1) with
        | none => rw [e1] at h; exact (show False from h).elim
        | some ns =>
          rw [e1] at h
          obtain ⟨p, vs, rfl, hp, hv, ra, za⟩ := rs.dkAt rx e0
          have hk : vs.map (·.1) = ns.map Sum.inl := by
            rw [← intsD_keys e1]
            clear h e1 e0 hv za
            induction ra with
            | nil => rfl
            | cons r t ih => rw [List.map_cons, List.map_cons, ih, r.1]
          have hlen : ns.length ≤ sizeLine := by
            have := congrArg List.length hk
            rw [List.length_map, List.length_map] at this
            rw [← this]; exact za
          dsimp only at h
          rw [if_pos (by rw [lim_eq]; exact hlen)] at h
          refine .inl (.inl (.inl (.inr ⟨p, vs, ns, rfl, .inl hv, hk, fun ns' q perm srt hq => ?_⟩)))
          rw [sortI_is perm srt]
          obtain ⟨q1, q2, q3⟩ := lst_new rs hq (rds_ints (sortI ns)) (by
            rw [List.length_map, (sortI_perm ns).length_eq]; exact hlen)
          exact h _ _ _ q1 q2 q3
      | dt kvs =>
        dsimp only at h
        cases e1 : prsD (kvs.map fun kv => .tup (kv.1.map kD)) with
        | none => rw [e1] at h; exact (show False from h).elim
        | some ps =>
          rw [e1] at h
          dsimp only at h
          obtain ⟨p, vs, rfl, hp, hv, ra, za⟩ := rs.dtAt rx e0
          have hk : vs.map (·.1) = ps.map (fun p => [Sum.inl p.1, Sum.inl p.2]) := by
            rw [← prsD_keys e1]
            clear h e1 e0 hv za
            induction ra with
            | nil => rfl
            | cons r t ih => rw [List.map_cons, List.map_cons, ih, r.1]
          have hlen : ps.length ≤ sizeLine := by
            have := congrArg List.length hk
            rw [List.length_map, List.length_map] at this
            rw [← this]; exact za
          rw [if_pos (by rw [lim_eq]; exact hlen)] at h
          refine .inl (.inr ⟨p, vs, ps, rfl, .inl hv, hk, fun ys qs q hqs perm srt hq => ?_⟩)
          have eq := sortP_is perm srt
          subst eq
          have hqs' : Paired (PrAt X.K H) (sortP ps) ys := Paired.mapP hqs fun a b z => let ⟨t, e1, e2⟩ := z; ⟨t, e1, ⟨by show 2 ≤ sizeLine; decide, e2⟩⟩
          obtain ⟨q1, q2, q3⟩ := lst_new (ds := (sortP ps).map prD) (vs := ys) rs hq (rds_prs (fun y _ q ⟨t, ey, ht⟩ => by
            subst ey
            exact rd_tup ht (by unfold RDs RDs RDs; exact ⟨_, _, rfl, rd_int, _, _, rfl, rd_int, rfl⟩)) hqs') (by
            rw [← Paired.length hqs, (sortP_perm ps).length_eq]; exact hlen)
          exact h _ _ _ q1 q2 q3
  | _ => exact (show False from h).elim
theorem minI_some : ∀ (a : Int) (l : List Int), minI (a :: l) ≠ none
  | a, [] => by unfold minI; simp
  | a, b :: l => by unfold minI; split <;> simp
theorem minI_spec : ∀ {l : List Int} {m : Int}, minI l = some m → m ∈ l ∧ ∀ y ∈ l, m ≤ y
  | [], m, h => by unfold minI at h; cases h
  | [a], m, h => by unfold minI at h; cases h; simp
  | a :: b :: l, m, h => by
    unfold minI at h
    cases e : minI (b :: l) with
    | none => exact absurd e (minI_some b l)
    | some k =>
      rw [e] at h
      obtain ⟨h1, h2⟩ := minI_spec e
      have hm : (if k < a then k else a) = m := Option.some.inj h
      subst hm
      split
      · rename_i c
        refine ⟨List.mem_cons_of_mem _ h1, fun y hy => ?_⟩
        rcases List.mem_cons.mp hy with z | z
        · omega
        · exact h2 y z
      · rename_i c
        refine ⟨List.mem_cons_self, fun y hy => ?_⟩
        rcases List.mem_cons.mp hy with z | z
        · omega
        · have := h2 y z; omega
theorem os_minL (hc : X.calm = true) : CallR X (.builtin "min") (rMin X.K) ∧ C1S X T (rMin X.K) fMin := by
  refine ⟨cr_min hc, ?_⟩
  intro E ρ S H x v Q rs rx h
  cases x with
  | ref l =>
    unfold fMin at h
    dsimp only at h
    cases e0 : S[l]? with
    | none => rw [e0] at h; exact (show False from h).elim
    | some ob =>
      rw [e0] at h
      cases ob with
      | lst ds =>
        dsimp only at h
        cases e1 : intsD ds with
        | none => rw [e1] at h; exact (show False from h).elim
        | some ns =>
          rw [e1] at h
          dsimp only at h
          cases e2 : minI ns with
          | none => rw [e2] at h; exact (show False from h).elim
          | some m =>
            rw [e2] at h
            obtain ⟨p, vs, rfl, hp, hv, ra, za⟩ := rs.lstAt rx e0
            have ev := intsD_v e1 ra
            subst ev
            obtain ⟨m1, m2⟩ := minI_spec e2
            refine ⟨p, ns, rfl, SqL.of hv, List.length_pos_of_mem m1, fun k hk hle => ?_⟩
            have : k = m := Int.le_antisymm (hle m m1) (m2 k hk)
            subst this
            exact h ρ H _ (Le.refl _ _) rs rd_int
      | _ => exact (show False from h).elim
  | _ => exact (show False from h).elim
/-- pairs in a row: the tuples' addresses, keys and values -/
theorem pairsD_v {ρ : List Addr} {H : Hp} : ∀ {ds : List D} {vs : List V} {kvs : List (Kk × D)}, pairsD ds = some kvs → RDs X.K ρ H ds vs → ∃ (ps : List Addr) (kws : List (Key × V)), vs = ps.map V.ref ∧ Paired (fun p kv => SqT X.K H p [kV kv.1, kv.2]) ps kws ∧ RKs X.K ρ H kvs kws
  | [], vs, kvs, h, r => by unfold pairsD at h; cases h; unfold RDs at r; subst r; exact ⟨[], [], rfl, .nil, .nil⟩
  | d :: ds, vs, kvs, h, r => by
    unfold RDs at r
    obtain ⟨v, w, rfl, r1, r2⟩ := r
    unfold pairsD at h
    split at h
    · rename_i e'; cases e'
    · rename_i k x ds' e'
      have he := List.cons.inj e'
      obtain ⟨hd, hds⟩ := he
      subst hd hds
      split at h
      · rename_i k' r' e1 e2
        cases h
        obtain ⟨ps, kws, a1, a2, a3⟩ := pairsD_v e2 r2
        obtain ⟨p, us, rfl, ta, ra⟩ := r1.tup
        have ek := keyD_eq e1
        subst ek
        unfold RDs RDs RDs at ra
        obtain ⟨u1, _, rfl, b1, u2, _, rfl, b2, rfl⟩ := ra
        have eb := kD_rd b1
        subst eb
        exact ⟨p :: ps, (k', u2) :: kws, by rw [a1]; rfl, .cons ta.sq a2, .cons ⟨rfl, b2⟩ a3⟩
      · cases h
    · cases h
theorem map_ks {K : PySem.W.Frag} {ρ : List Addr} {H : Hp} {κ : Type} [DecidableEq κ] {k : κ} {d : D} {v : V} (rd : RD K ρ H d v) : ∀ {kvs : List (κ × D)} {kws : List (κ × V)}, RKs K ρ H kvs kws → RKs K ρ H (kvs.map fun kv => if kv.1 = k then (kv.1, d) else kv) (kws.map fun kv => if kv.1 = k then (kv.1, v) else kv)
  | _, _, .nil => .nil
  | p :: l1, q :: l2, .cons r t => by
    refine .cons ?_ (map_ks rd t)
    dsimp only
    rw [r.1]
    by_cases c : q.1 = k
    · rw [if_pos c, if_pos c]; exact ⟨rfl, rd⟩
    · rw [if_neg c, if_neg c]; exact ⟨r.1, r.2⟩
theorem any_ks {K : PySem.W.Frag} {ρ : List Addr} {H : Hp} {κ : Type} [DecidableEq κ] {k : κ} : ∀ {kvs : List (κ × D)} {kws : List (κ × V)}, RKs K ρ H kvs kws → (kvs.any fun kv => decide (kv.1 = k)) = kws.any fun kv => decide (kv.1 = k)
  | _, _, .nil => rfl
  | p :: l1, q :: l2, .cons r t => by rw [List.any_cons, List.any_cons, any_ks t, r.1]
theorem putD_ks {K : PySem.W.Frag} {ρ : List Addr} {H : Hp} {κ : Type} [DecidableEq κ] {kvs : List (κ × D)} {kws : List (κ × V)} {k : κ} {d : D} {v : V} (r : RKs K ρ H kvs kws) (rd : RD K ρ H d v) : RKs K ρ H (putD kvs k d) (putK kws k v) := by
  unfold putD putK
  rw [any_ks r]
  split
  · exact map_ks rd r
  · exact Paired.app r (.cons ⟨rfl, rd⟩ .nil)
theorem valD_ks {K : PySem.W.Frag} {ρ : List Addr} {H : Hp} {κ : Type} [DecidableEq κ] {kvs : List (κ × D)} {kws : List (κ × V)} (r : RKs K ρ H kvs kws) (k : κ) : (valD kvs k = none ∧ valV kws k = none) ∨ ∃ d v, valD kvs k = some d ∧ valV kws k = some v ∧ RD K ρ H d v := by
  induction r with
  | nil => exact .inl ⟨rfl, rfl⟩
  | cons r t ih =>
    rename_i p q l1 l2
    by_cases c : p.1 = k
    · exact .inr ⟨p.2, q.2, by simp [valD, List.find?_cons, c], valV_pos (r.1.symm.trans c), r.2⟩
    · have c' : ¬ q.1 = k := fun z => c (r.1.trans z)
      rw [show valD (p :: l1) k = valD l1 k from by simp [valD, List.find?_cons, c], valV_neg c']
      exact ih
theorem mergeD_ks {K : PySem.W.Frag} {ρ : List Addr} {H : Hp} : ∀ {more : List (Kk × D)} {more' : List (Key × V)} {kvs : List (Kk × D)} {kws : List (Key × V)}, RKs K ρ H more more' → RKs K ρ H kvs kws → RKs K ρ H (mergeD kvs more) (mergeK kws more')
  | _, _, _, _, .nil, h => h
  | p :: m, q :: m', kvs, kws, .cons r t, h => by
    unfold mergeD mergeK
    rw [List.foldl_cons, List.foldl_cons, r.1]
    exact mergeD_ks t (putD_ks h r.2)
theorem pairsT_v {ρ : List Addr} {H : Hp} : ∀ {ds : List D} {vs : List V} {kvs : List (List Kk × D)}, pairsT ds = some kvs → RDs X.K ρ H ds vs → ∃ (ps : List Addr) (kws : List (List Key × V)), vs = ps.map V.ref ∧ Paired (PairT X.K H) ps kws ∧ RKs X.K ρ H kvs kws
  | [], vs, kvs, h, r => by unfold pairsT at h; cases h; unfold RDs at r; subst r; exact ⟨[], [], rfl, .nil, .nil⟩
  | d :: ds, vs, kvs, h, r => by
    unfold RDs at r
    obtain ⟨v, w, rfl, r1, r2⟩ := r
    unfold pairsT at h
    split at h
    · rename_i e'; cases e'
    · rename_i k x ds' e'
      have he := List.cons.inj e'
      obtain ⟨hd, hds⟩ := he
      subst hd hds
      split at h
      · rename_i k' r' e1 e2
        cases h
        obtain ⟨ps, kws, a1, a2, a3⟩ := pairsT_v e2 r2
        obtain ⟨p, us, rfl, ta, ra⟩ := r1.tup
        unfold RDs RDs RDs at ra
        obtain ⟨u1, _, rfl, b1, u2, _, rfl, b2, rfl⟩ := ra
        obtain ⟨b, rfl, hb⟩ := keyT_v e1 b1
        exact ⟨p :: ps, (k', u2) :: kws, by rw [a1]; rfl, .cons ⟨b, ta.sq, hb⟩ a2, .cons ⟨rfl, b2⟩ a3⟩
      · cases h
    · cases h
theorem mergeA_ks {K : PySem.W.Frag} {ρ : List Addr} {H : Hp} : ∀ {more : List (List Kk × D)} {more' : List (List Key × V)} {kvs : List (List Kk × D)} {kws : List (List Key × V)}, RKs K ρ H more more' → RKs K ρ H kvs kws → RKs K ρ H (mergeD kvs more) (mergeA kws more')
  | _, _, _, _, .nil, h => h
  | p :: m, q :: m', kvs, kws, .cons r t, h => by
    unfold mergeD mergeA
    rw [List.foldl_cons, List.foldl_cons, r.1]
    exact mergeA_ks t (putD_ks h r.2)
abbrev rDictK (K : PySem.W.Frag) : List V → Hp → VK → Prop := fun xs H Q => ∃ (a : Addr) (ps : List Addr) (kvs : List (Key × V)), xs = [.ref a] ∧ SqL K H a (ps.map V.ref) ∧ Paired (fun p kv => SqT K H p [kV kv.1, kv.2]) ps kvs ∧
    ∀ p, H p = none → Q (.ref p) (upd H p (.dK (mergeK [] kvs)))
abbrev rDictT (K : PySem.W.Frag) : List V → Hp → VK → Prop := fun xs H Q => ∃ (a : Addr) (ps : List Addr) (kvs : List (List Key × V)), xs = [.ref a] ∧ SqL K H a (ps.map V.ref) ∧ Paired (PairT K H) ps kvs ∧ ∀ p, H p = none → Q (.ref p) (upd H p (.dT (mergeA [] kvs)))
abbrev rDictA (K : PySem.W.Frag) : List V → Hp → VK → Prop := fun xs H Q => rDictK K xs H Q ∨ rDictT K xs H Q
theorem os_dict {k : Nat} (hr : Room k X.A) (hc : X.calm = true) : CallR X (.type "dict") (rDictA X.K) ∧ C1S X T (rDictA X.K) fDict := by
  refine ⟨CallR.or (call_dictP hc) (wk_dictPT hc (by have := hr.un; omega)), ?_⟩
  intro E ρ S H x v Q rs rx h
  cases x with
  | ref l =>
    unfold fDict at h
    dsimp only at h
    cases e0 : S[l]? with
    | none => rw [e0] at h; exact (show False from h).elim
    | some ob =>
      rw [e0] at h
      cases ob with
      | lst ds =>
        dsimp only at h
        cases e1 : pairsD ds with
        | none =>
          rw [e1] at h
          dsimp only at h
          cases e2 : pairsT ds with
          | none => rw [e2] at h; exact (show False from h).elim
          | some kvs =>
            rw [e2] at h
            obtain ⟨p, vs, rfl, hp, hv, ra, za⟩ := rs.lstAt rx e0
            obtain ⟨ps, kws, rfl, a2, a3⟩ := pairsT_v e2 ra
            refine .inr ⟨p, ps, kws, rfl, SqL.of hv, a2, fun q hq => ?_⟩
            obtain ⟨q1, q2, q3⟩ := dt_new rs hq (mergeA_ks a3 (.nil : RKs X.K ρ H [] [])) (by
              refine Nat.le_trans (mergeA_len kws []) ?_
              rw [List.length_nil, Nat.zero_add, ← Paired.length a2, ← List.length_map (f := V.ref)]; exact za)
            exact h _ _ _ q1 q2 q3
        | some kvs =>
          rw [e1] at h
          obtain ⟨p, vs, rfl, hp, hv, ra, za⟩ := rs.lstAt rx e0
          obtain ⟨ps, kws, rfl, a2, a3⟩ := pairsD_v e1 ra
          refine .inl ⟨p, ps, kws, rfl, SqL.of hv, a2, fun q hq => ?_⟩
          obtain ⟨q1, q2, q3⟩ := dk_new rs hq (mergeD_ks a3 (.nil : RKs X.K ρ H [] [])) (by
            refine Nat.le_trans (length_mergeK kws []) ?_
            rw [List.length_nil, Nat.zero_add, ← Paired.length a2, ← List.length_map (f := V.ref)]; exact za)
          exact h _ _ _ q1 q2 q3
      | _ => exact (show False from h).elim
  | _ => exact (show False from h).elim

/-! ### isinstance(x, T), T a built-in type -/
theorem ty_of {ρ : List Addr} {S : Store} {H : Hp} {x : D} {v : V} {t : String} (rs : RS X.K T ρ S H) (rx : RD X.K ρ H x v) (h : tyD S x = some t) : TyX X.K H v (.type t) := by
  cases x with
  | non => cases h; rw [rx.non]; exact .base .non
  | bl b => cases h; rw [rx.bl]; exact .base (.bl b)
  | int b => cases h; rw [rx.int]; exact .base (.int b)
  | str b => cases h; rw [rx.str]; exact .base (.str b)
  | tup b =>
    cases h
    obtain ⟨a, vs, rfl, ta, ra⟩ := rx.tup
    exact .base (.tup ta.2)
  | frz b =>
    cases h
    obtain ⟨a, vs, rfl, ta, ra⟩ := rx.frz
    rcases ta.2 with ⟨o, z⟩ | ⟨o, its, n, k1, k2, _⟩
    · exact .base (.frz z)
    · exact .kList k1 k2
  | ref l =>
    unfold tyD at h
    dsimp only at h
    split at h
    · rename_i ds e
      cases h
      obtain ⟨p, vs, rfl, hp, hv, _⟩ := rs.lstAt rx e
      exact .base (.lst hv)
    · rename_i ds e
      cases h
      obtain ⟨p, vs, rfl, hp, hv, _⟩ := rs.dkAt rx e
      exact .base (.dK hv)
    · rename_i ds e
      cases h
      obtain ⟨p, vs, rfl, hp, hv, _⟩ := rs.dtAt rx e
      exact .base (.dT hv)
    · cases h
def tysD : List String := ["NoneType", "bool", "int", "str", "tuple", "list", "dict"]
theorem tyD_in {S : Store} {x : D} {t : String} (h : tyD S x = some t) : t ∈ tysD := by
  cases x <;> unfold tyD at h <;> dsimp only at h
  all_goals first
    | (cases h; decide)
    | (split at h <;> first | (cases h; decide) | cases h)
theorem ev_isinst {n : String} {x : Str} {p p2 : Pos} (hk : ∀ t ∈ tysD, kitB t n = some (isTy t n)) (hm : X.mg "isinstance" = none) (hmT : X.mg x = none) (hvT : bootBuiltins x = some (.type n)) (ha : EV X T W a fa) (hg : Gl X "isinstance" := by rfl) (hgT : Gl X x := by rfl) (hn : x ≠ "__name__" := by decide) (hdb : (x == ("__debug__" : Str)) = false := by decide)
    (hv : bootBuiltins "isinstance" = some (.builtin "isinstance") := by decide +kernel)
    (he : starEach (a :: [.Name x p2]) X.env = (false, eval a X.env) :: starEach [.Name x p2] X.env := by rfl) (he2 : starEach (.Name x p2 :: []) X.env = (false, eval (.Name x p2) X.env) :: starEach [] X.env := by rfl) (hpl : (backTo pos (starEach [.Name x p2] X.env)).any (·.1) = false := by rfl) :
    EV X T W (.Call (.Name "isinstance" p) [a, .Name x p2] [] pos) (eUn (fIsInst n) fa) := by
  refine PE.imp (pe_callB call_isi hg hm hv (pa_cons ha (pa_cons (pe_bltn (v := .ty n) hgT hmT hvT rfl hn hdb) pa_nil he2) he) (by decide) (by decide) he hpl) ?_
  rintro σ H Q ⟨ρ, S, s, rs, re, h⟩
  refine ⟨ρ, S, s, rs, re, (Post.bind (R := RD X.K) h).imp ?_⟩
  rintro v H1 ⟨ρ1, S1, d, l1, rs1, rd1, h1⟩
  unfold fIsInst at h1
  cases e : tyD S1 d with
  | none => rw [e] at h1; exact (show False from h1).elim
  | some t =>
    rw [e] at h1
    exact ⟨v, .ty n, .type t, .type n, isTy t n, rfl, .ty n, ty_of rs1 rd1 e, kit_ty (hk t (tyD_in e)), h1 ρ1 H1 _ (Le.refl _ _) rs1 rd_bl⟩

/-! ### dicts -/
theorem dget_of {ρ : List Addr} {S : Store} {H : Hp} {l : Nat} {v w : V} {y : D} {o : Option D} (rs : RS X.K T ρ S H) (rx : RD X.K ρ H (.ref l) v) (ry : RD X.K ρ H y w) (h : Wk.getD S l y = some o) : ∃ a ov, v = .ref a ∧ DGet H a w ov ∧ ((o = none ∧ ov = none) ∨ ∃ d u, o = some d ∧ ov = some u ∧ RD X.K ρ H d u) := by
  unfold Wk.getD at h
  split at h
  · rename_i kvs e
    split at h
    · rename_i k ek
      cases h
      obtain ⟨p, kws, rfl, hp, hv, ra, za⟩ := rs.dkAt rx e
      have eb := keyD_eq ek
      subst eb
      have ew := kD_rd ry
      subst ew
      refine ⟨p, _, rfl, DGet.k hv, ?_⟩
      exact valD_ks ra k
    · cases h
  · rename_i kvs e
    split at h
    · rename_i k ek
      cases h
      obtain ⟨p, kws, rfl, hp, hv, ra, za⟩ := rs.dtAt rx e
      obtain ⟨b, rfl, hb⟩ := keyT_v ek ry
      exact ⟨p, _, rfl, DGet.t hv hb, valD_ks ra k⟩
    · cases h
  · cases h
theorem NoSl.of (h : ∀ ov iv, subscripted b false ov iv = operate [ov, iv] (getItem ov iv)) : NoSl b := h
theorem ev_ixD {k : Nat} (hr : Room k X.A) (ha : EV X T W a fa) (hb : EV X T W b fb) (hs : NoSl b := by exact fun _ _ => rfl) : EV X T W (.Subscript a b pos) (eOp oIxD fa fb) := by
  refine PE.imp (pe_dget (hu_of hr) ha hb hs) ?_
  rintro σ H Q ⟨ρ, S, s, rs, re, h⟩
  refine ⟨ρ, S, s, rs, re, (Post.bind (R := RD X.K) h).imp ?_⟩
  rintro v H1 ⟨ρ1, S1, x, l1, rs1, rd1, h1⟩
  refine ⟨ρ1, S1, s, rs1, re.le rs l1, (Post.bind (R := RD X.K) h1).imp ?_⟩
  rintro w H2 ⟨ρ2, S2, y, l2, rs2, rd2, h2⟩
  have rd1' := rd1.le rs1 l2
  cases x with
  | ref l =>
    unfold oIxD at h2
    dsimp only at h2
    split at h2
    · rename_i d e
      obtain ⟨p, ov, rfl, g, z | ⟨d', u, e1, rfl, ru⟩⟩ := dget_of rs2 rd1' rd2 e
      · cases z.1
      · cases e1
        exact ⟨p, u, rfl, g, h2 ρ2 H2 _ (Le.refl _ _) rs2 ru⟩
    · exact (show False from h2).elim
  | _ => exact (show False from h2).elim
theorem tef_inD {neg : Bool} : ∀ σ H Q, TEf X T W (eOp (if neg then oNinD else oInD) fa fb) σ H Q → (TEf X T W fa) σ H fun y H1 => (TEf X T W fb) σ H1 fun x H2 => ∃ a o, x = .ref a ∧ DGet H2 a y o ∧ Q (.bl (if neg then !o.isSome else o.isSome)) H2 := by
  rintro σ H Q ⟨ρ, S, s, rs, re, h⟩
  refine ⟨ρ, S, s, rs, re, (Post.bind (R := RD X.K) h).imp ?_⟩
  rintro v H1 ⟨ρ1, S1, x, l1, rs1, rd1, h1⟩
  refine ⟨ρ1, S1, s, rs1, re.le rs l1, (Post.bind (R := RD X.K) h1).imp ?_⟩
  rintro w H2 ⟨ρ2, S2, y, l2, rs2, rd2, h2⟩
  have rd1' := rd1.le rs1 l2
  have e0 : (if neg then oNinD else oInD) x y S2 = if neg then notR (oInD x y S2) else oInD x y S2 := by cases neg <;> rfl
  rw [e0] at h2
  cases y with
  | ref l =>
    unfold oInD at h2
    dsimp only at h2
    cases e : Wk.getD S2 l x with
    | none => rw [e] at h2; cases neg <;> exact (show False from h2).elim
    | some o =>
      rw [e] at h2
      obtain ⟨p, ov, rfl, g, z⟩ := dget_of rs2 rd2 rd1' e
      have es : ov.isSome = o.isSome := by
        rcases z with ⟨rfl, rfl⟩ | ⟨d, u, rfl, rfl, _⟩ <;> rfl
      refine ⟨p, ov, rfl, g, ?_⟩
      rw [es]
      cases neg with
      | true => exact h2 ρ2 H2 _ (Le.refl _ _) rs2 rd_bl
      | false => exact h2 ρ2 H2 _ (Le.refl _ _) rs2 rd_bl
  | _ => cases neg <;> exact (show False from h2).elim
theorem ev_inD {k : Nat} (hr : Room k X.A) (ha : EV X T W a fa) (hb : EV X T W b fb) (hm : behindInMarks .In b = false := by rfl) : EV X T W (.Compare a [.In] [b] pos) (eOp oInD fa fb) :=
  PE.imp (pe_cmp (pc_din (hu_of hr) ha hb) hm) (tef_inD (neg := false))
theorem ev_ninD {k : Nat} (hr : Room k X.A) (ha : EV X T W a fa) (hb : EV X T W b fb) (hm : behindInMarks .NotIn b = false := by rfl) : EV X T W (.Compare a [.NotIn] [b] pos) (eOp oNinD fa fb) :=
  PE.imp (pe_cmp (pc_dnotin (hu_of hr) ha hb) hm) (tef_inD (neg := true))
theorem et_inD {k : Nat} (hr : Room k X.A) (ha : EV X T W a fa) (hb : EV X T W b fb) (hm : behindInMarks .In b = false := by rfl) : ET X T W (.Compare a [.In] [b] pos) (tE (eOp oInD fa fb)) := by
  refine PT.imp (pt_cmp (pc_din (hu_of hr) ha hb) hm) ?_
  intro σ H Q h
  obtain ⟨ρ, S, s, rs, re, h⟩ := ttf_e _ _ _ h
  exact tef_inD (neg := false) _ _ _ ⟨ρ, S, s, rs, re, h⟩
theorem et_ninD {k : Nat} (hr : Room k X.A) (ha : EV X T W a fa) (hb : EV X T W b fb) (hm : behindInMarks .NotIn b = false := by rfl) : ET X T W (.Compare a [.NotIn] [b] pos) (tE (eOp oNinD fa fb)) := by
  refine PT.imp (pt_cmp (pc_dnotin (hu_of hr) ha hb) hm) ?_
  intro σ H Q h
  obtain ⟨ρ, S, s, rs, re, h⟩ := ttf_e _ _ _ h
  exact tef_inD (neg := true) _ _ _ ⟨ρ, S, s, rs, re, h⟩
theorem es_subD {k : Nat} {pos' : Pos} (hr : Room k X.A) (hv : EV X T W c fc) (ho : EV X T W a fa) (hi : EV X T W b fb) (hs : swapsWith c (some (.Subscript a b pos')) pos.line X.env = pure false := by rfl) : ES X T W (.Assign [.Subscript a b pos'] c pos) (sSub uSetD fa fb fc) := by
  refine PS.imp (ps_dput (hu_of hr) ho hi hv hs) ?_
  rintro D σ H ⟨ρ, S, s, rs, re, h⟩
  refine ⟨ρ, S, s, rs, re, (PostS.ofE (R := RD X.K) rs re h).imp ?_⟩
  rintro v H1 ⟨ρ1, S1, d, l1, rs1, re1, rd1, h1⟩
  refine ⟨ρ1, S1, s, rs1, re1, (PostS.ofE (R := RD X.K) rs1 re1 h1).imp ?_⟩
  rintro w H2 ⟨ρ2, S2, d2, l2, rs2, re2, rd2, h2⟩
  refine ⟨ρ2, S2, s, rs2, re2, (PostS.ofE (R := RD X.K) rs2 re2 h2).imp ?_⟩
  rintro u H3 ⟨ρ3, S3, d3, l3, rs3, re3, rd3, h3⟩
  have rd1' := (rd1.le rs1 l2).le rs2 l3
  have rd2' := rd2.le rs2 l3
  cases d2 with
  | ref l =>
    unfold uSetD at h3
    dsimp only at h3
    cases e0 : S3[l]? with
    | none => rw [e0] at h3; exact (show False from h3).elim
    | some ob =>
      rw [e0] at h3
      cases ob with
      | dk kvs =>
        obtain ⟨p, kws, rfl, hp, hv', ra, za⟩ := rs3.dkAt rd2' e0
        dsimp only at h3
        cases ek : keyD d3 with
        | none => rw [ek] at h3; exact (show False from h3).elim
        | some kk =>
          rw [ek] at h3
          have eb := keyD_eq ek
          subst eb
          have ew := kD_rd rd3
          subst ew
          dsimp only at h3
          by_cases c : kvs.length < LIM
          · rw [if_pos c] at h3
            rw [lim_eq, Paired.length ra] at c
            obtain ⟨q1, q2⟩ := dk_write rs3 hp e0 (putD_ks ra rd1' (k := kk)) (by have := length_putK kws kk v; omega)
            exact ⟨p, _, rfl, DPut.k hv' c, h3 ρ3 _ σ q1 q2 (re3.le rs3 q1)⟩
          · rw [if_neg c] at h3; exact (show False from h3).elim
      | dt kvs =>
        obtain ⟨p, kws, rfl, hp, hv', ra, za⟩ := rs3.dtAt rd2' e0
        dsimp only at h3
        cases ek : keyT d3 with
        | none => rw [ek] at h3; exact (show False from h3).elim
        | some kk =>
          rw [ek] at h3
          obtain ⟨b, rfl, hb⟩ := keyT_v ek rd3
          dsimp only at h3
          by_cases c : kvs.length < LIM
          · rw [if_pos c] at h3
            rw [lim_eq, Paired.length ra] at c
            obtain ⟨q1, q2⟩ := dt_write rs3 hp e0 (putD_ks ra rd1' (k := kk)) (by have := length_putK kws kk v; omega)
            exact ⟨p, _, rfl, DPut.t hv' hb c, h3 ρ3 _ σ q1 q2 (re3.le rs3 q1)⟩
          · rw [if_neg c] at h3; exact (show False from h3).elim
      | _ => exact (show False from h3).elim
  | _ => exact (show False from h3).elim
end
end Wk


set_option Elab.async false
set_option linter.all false
set_option maxRecDepth 100000
set_option maxHeartbeats 4000000
set_option autoImplicit false
/-! WkLib2: the functional reading of list methods, dict comprehensions, ranges as lists, turned lists. -/
namespace L2
open PySem PySem.Spec PyProof.Rows
section
variable {X : Cx}
/-- name = {..} on one line, the name a local -/
theorem ps_setDc {i : Nat} {y : Str} {py : Pos} {kx vx tg iter : Expr} {ifs : List Expr} {scope : Scope} {own : List (Str × Nat)} {pos spos : Pos} {wi : TI} {g : TG} {tt : TT} {tk tv : TE} (hc : X.calm = true) (hN : X.N.Nodup) (hy : X.N[i]? = some y) (hyl : X.env.scope.names.lookup y = some .local)
    (hsw : swapsWith (.DictComp kx vx [⟨tg, iter, ifs, 0⟩] scope pos) (some (.Name y py)) spos.line X.env = pure true) (hi : PI X tg iter wi) (ok : BlkOk X.N X.env.scope scope own)
    (hg : ∀ (s : Shared) (H : Hp) (C : Addr) (cl : List (Str × Addr)) (fp : List Addr), PG (X.blk s H scope (compEnvC scope cl C X.env) fp) tg g) (ht : ∀ (s : Shared) (H : Hp) (C : Addr) (cl : List (Str × Addr)) (fp : List Addr), PTs (X.blk s H scope (compEnvC scope cl C X.env) fp) ifs tt)
    (hk : ∀ (s : Shared) (H : Hp) (C : Addr) (cl : List (Str × Addr)) (fp : List Addr), PE (X.blk s H scope (compEnvC scope cl C X.env) fp) kx tk)
    (he : ∀ (s : Shared) (H : Hp) (C : Addr) (cl : List (Str × Addr)) (fp : List Addr), PE (X.blk s H scope (compEnvC scope cl C X.env) fp) vx tv) (hs : ∀ x, foldedSetIterable iter X.env x = pure x := by intro _; rfl) :
    PS X (.Assign [.Name y py] (.DictComp kx vx [⟨tg, iter, ifs, 0⟩] scope pos) spos) (tAsg (tDc wi g tt tk tv (own.map (·.2))) (gName i)) := by
  refine ⟨fun pins s σ H D I h => ?_⟩
  rw [exec_Assign_Name_used _ _ _ _ hsw]
  refine wpAny_bind (wpAny_standAt (wpAny_bind ?_))
  show wpAny _ X.A (do let _ ← comprehension (.DictComp kx vx [⟨tg, iter, ifs, 0⟩] scope pos) scope X.env (firstIterPos [⟨tg, iter, ifs, 0⟩] pos) newDict false (eval iter X.env) (some (assign (.Name y py) X.env))) _ _ s
  have h : tDc wi g tt tk tv (own.map (·.2)) σ H (fun x H1 => gName i x σ H1 D.nx) := h
  refine wpAny_bind (thn (dc_core (Qf := fun _ s' => SP X pins D .next s') hc hN I hi ok hg ht hk he hs h fun L C s' m H' I' q hn f => ?_) fun _ s' hq => wpAny_pure (wpAny_pure hq))
  show wpAny _ _ (assign (.Name y py) X.env (.ref L)) _ _ _
  refine wpAny_assign_Name (store_ok2 (v := V.ref L) I' hN hy (.inl hyl) rfl (fun s2 I2 ⟨a, sb, ha⟩ => ?_) (.inr hyl))
  obtain ⟨f0, f1, f2, f3, f4, f5⟩ := f
  have haC : C ≠ a := by
    rcases ha with z | z
    · rw [z]; exact f1
    · exact fun e => f4 y a z e.symm
  refine ⟨m, hn.sameBut sb haC, fun h3 sb3 => ?_⟩
  exact ⟨_, H', I2.turned (t' := s2.toks) (fun b o hb e => (sb3.2 b hb).trans e) f0 f1 f3 f4 f5, q⟩
theorem sw_trueD {kx vx : Expr} {gs : List Comprehension} {scope : Scope} {pos py : Pos} {y : Str} {l : Nat} {env : PySem.Env} (hk : env.scope.kind = .function) (hy : env.scope.names.lookup y = some .local) (hl : (py.line == pos.line) = true)
    (ha : (scope.names.any fun (n, k) => n == y && (k == .local || k == .cell)) = false) : swapsWith (.DictComp kx vx gs scope pos) (some (.Name y py)) l env = pure true := by
  have ky : env.kindOf y = some .local := hy
  have hb : env.blockKind = .function := by unfold Env.blockKind; rw [hk]; rfl
  unfold swapsWith
  simp only [hb, ky, ha, Expr.pos, hl]
  rfl
end
end L2
namespace Wk
open PySem PySem.Spec PyProof.Rows L2
section
variable {X : Cx} {T : Tbs} {W : WX} {pos : Pos} {a b c : Expr} {fa fb fc : FE} {vs : List Nat}
/-! ### list methods -/
theorem isLst_v {ρ : List Addr} {S : Store} {H : Hp} {x : D} {v : V} (rs : RS X.K T ρ S H) (rx : RD X.K ρ H x v) (h : isLst x S = true) : tyV X.K "list" v H := by
  cases x with
  | frz ds =>
    obtain ⟨a, vs, rfl, ta, ra⟩ := rx.frz
    exact .inl ⟨rfl, vs, ta.sq⟩
  | ref l =>
    unfold isLst at h
    dsimp only at h
    split at h
    · rename_i ds e
      obtain ⟨p, vs, rfl, hp, hv, _⟩ := rs.lstAt rx e
      exact .inl ⟨rfl, vs, SqL.of hv⟩
    · cases h
  | _ => cases h
variable (X T) in
def M1S (r : V → List V → Hp → VK → Prop) (o : Op) : Prop := ∀ (E : XK) (ρ : List Addr) (S : Store) (H : Hp) (x y : D) (v w : V) (Q : VK), RS X.K T ρ S H → RD X.K ρ H x v → RD X.K ρ H y w → Post X.K X.mg T E ρ H (RD X.K) Q (o x y S) → r v [w] H Q
theorem ev_m1 {name : Str} {id : String} {apos : Pos} {r : V → List V → Hp → VK → Prop} {o : Op} (slot : Slot "list" name id) (hty : typeOf (.builtin id) = pure (.type "method_descriptor")) (hs : MtR X id r ∧ M1S X T r o) (ho : EV X T W a fa) (ha : EV X T W b fb)
    (hbase : attributeBase a name X.env (eval a X.env) = eval a X.env := by rfl)
    (hfew : ((backTo pos (starEach (b :: []) X.env)).all (fun x => !x.1) && (backToKw pos (keywordEach [] X.env)).all (fun x => x.1.isSome)
      && decide ((b :: []).length + ([] : List Keyword).length + (if ([] : List Keyword).isEmpty then 0 else 1) < 30)) = true := by rfl)
    (hline : (apos.endLine == pos.line) = true := by rfl) (hst : starEach (b :: []) X.env = (false, eval b X.env) :: starEach [] X.env := by rfl) (hplain : (backTo pos (starEach [] X.env)).any (·.1) = false := by rfl) :
    EV X T W (.Call (.Attribute a name apos) [b] [] pos) (eBM o fa fb) := by
  refine PE.imp (pe_bm PySem.F.plainAttrs_list slot hty hs.1 ho (pa_cons ha pa_nil hst) hbase hfew hline hst hplain) ?_
  rintro σ H Q ⟨ρ, S, s, rs, re, h⟩
  refine ⟨ρ, S, s, rs, re, (Post.bind (R := RD X.K) h).imp ?_⟩
  rintro v H1 ⟨ρ1, S1, x, l1, rs1, rd1, h1⟩
  by_cases c : isLst x S1 = true
  · rw [if_pos c] at h1
    refine ⟨isLst_v rs1 rd1 c, ρ1, S1, s, rs1, re.le rs l1, (Post.bind (R := RD X.K) h1).imp ?_⟩
    rintro w H2 ⟨ρ2, S2, y, l2, rs2, rd2, h2⟩
    exact hs.2 _ ρ2 S2 H2 x y v w Q rs2 (rd1.le rs1 l2) rd2 h2
  · rw [if_neg c] at h1; exact (show False from h1).elim
theorem os_append : MtR X "list.append" rAppend ∧ M1S X T rAppend oAppend := by
  refine ⟨mt_append, ?_⟩
  intro E ρ S H x y v w Q rs rx ry h
  cases x with
  | ref l =>
    unfold oAppend at h
    dsimp only at h
    split at h
    · rename_i ds e
      obtain ⟨p, vs, rfl, hp, hv, ra, za⟩ := rs.lstAt rx e
      by_cases c : ds.length < LIM
      · rw [if_pos c] at h
        rw [lim_eq, ra.len] at c
        obtain ⟨q1, q2⟩ := lst_write rs hp e (RDs.of (Paired.app ra.pair (.cons ry .nil))) (by rw [List.length_append, List.length_singleton]; exact c)
        exact ⟨p, vs, w, rfl, rfl, hv, c, h _ _ _ q1 q2 rd_non⟩
      · rw [if_neg c] at h; exact (show False from h).elim
    · exact (show False from h).elim
  | _ => exact (show False from h).elim
theorem os_extend : MtR X "list.extend" rExtend ∧ M1S X T rExtend oExtend := by
  refine ⟨mt_extend, ?_⟩
  intro E ρ S H x y v w Q rs rx ry h
  cases x with
  | ref l =>
    cases y with
    | ref m =>
      unfold oExtend at h
      dsimp only at h
      split at h
      · rename_i ds es e e2
        obtain ⟨p, vs, rfl, hp, hv, ra, za⟩ := rs.lstAt rx e
        obtain ⟨q, ws, rfl, hq, hw, rb, zb⟩ := rs.lstAt ry e2
        by_cases c : ds.length + es.length ≤ LIM
        · rw [if_pos c] at h
          rw [lim_eq, ra.len, rb.len] at c
          obtain ⟨q1, q2⟩ := lst_write rs hp e (RDs.of (Paired.app ra.pair rb.pair)) (by rw [List.length_append]; exact c)
          exact ⟨p, q, vs, ws, rfl, rfl, hv, hw, c, h _ _ _ q1 q2 rd_non⟩
        · rw [if_neg c] at h; exact (show False from h).elim
      · exact (show False from h).elim
    | _ => exact (show False from h).elim
  | _ => cases y <;> exact (show False from h).elim
theorem ixN_lt {n : Nat} {i : Int} {j : Nat} (h : Wk.ixN n i = some j) : seqIndex? i n = some j ∧ j < n ∧ -(n : Int) ≤ i ∧ i < n := ixN_seq h
theorem os_popAt : MtR X "list.pop" rPopAt ∧ M1S X T rPopAt oPopAt := by
  refine ⟨mt_popAt, ?_⟩
  intro E ρ S H x y v w Q rs rx ry h
  cases x with
  | ref l =>
    cases y with
    | int i =>
      unfold oPopAt at h
      dsimp only at h
      split at h
      · rename_i ds e
        obtain ⟨p, vs, rfl, hp, hv, ra, za⟩ := rs.lstAt rx e
        split at h
        · rename_i j ej
          split at h
          · rename_i d ed
            obtain ⟨u, hu, ru⟩ := Paired.get1 ra.pair ed
            obtain ⟨q1, q2⟩ := lst_write rs hp e (RDs.of (Paired.erase1 j ra.pair)) (Nat.le_trans (len_erase vs j) za)
            obtain ⟨s1, s2, s3, s4⟩ := ixN_lt ej
            rw [ra.len] at s1 s2 s3 s4
            have hsz : sizeLine = 16777216 := sizeLine_eq
            exact ⟨p, vs, i, j, u, rfl, by rw [ry.int], hv, by omega, by omega, s1, hu, h _ _ _ q1 q2 (ru.le rs q1)⟩
          · exact (show False from h).elim
        · exact (show False from h).elim
      · exact (show False from h).elim
    | _ => exact (show False from h).elim
  | _ => cases y <;> exact (show False from h).elim
/-- xs.pop() -/
theorem ev_pop {apos : Pos} (ho : EV X T W a fa) (hbase : attributeBase a "pop" X.env (eval a X.env) = eval a X.env := by rfl) (hline : (apos.endLine == pos.line) = true := by rfl) : EV X T W (.Call (.Attribute a "pop" apos) [] [] pos) (eUn uPop fa) := by
  refine PE.imp (pe_bm0 PySem.F.plainAttrs_list PySem.F.slot_list_pop PySem.F.type_list_pop mt_pop ho hbase hline) ?_
  rintro σ H Q ⟨ρ, S, s, rs, re, h⟩
  refine ⟨ρ, S, s, rs, re, (Post.bind (R := RD X.K) h).imp ?_⟩
  rintro v H1 ⟨ρ1, S1, x, l1, rs1, rd1, h1⟩
  cases x with
  | ref l =>
    unfold uPop at h1
    dsimp only at h1
    split at h1
    · rename_i ds e
      obtain ⟨p, vs, rfl, hp, hv, ra, za⟩ := rs1.lstAt rd1 e
      split at h1
      · rename_i d ed
        obtain ⟨u, hu, ru⟩ := Paired.get1 ra.pair ed
        obtain ⟨q1, q2⟩ := lst_write rs1 hp e (RDs.of (Paired.dropL ra.pair)) (by rw [List.length_dropLast]; omega)
        exact ⟨.inl ⟨rfl, vs, SqL.of hv⟩, p, vs, u, rfl, rfl, hv, by rw [← ra.len]; exact hu, h1 _ _ _ q1 q2 (ru.le rs1 q1)⟩
      · exact (show False from h1).elim
    · exact (show False from h1).elim
  | _ => exact (show False from h1).elim
/-- d.get(k, x) -/
theorem ev_get2 {k : Nat} {apos : Pos} (hr : Room k X.A) (ho : EV X T W a fa) (hb : EV X T W b fb) (hc : EV X T W c fc) (m : M2 X a "get" apos b c pos := by exact ⟨rfl, rfl, rfl, rfl⟩) : EV X T W (.Call (.Attribute a "get" apos) [b, c] [] pos) (eGet2 fa fb fc) := by
  refine PE.imp (pe_dget2 (hu_of hr) ho hb hc m) ?_
  rintro σ H Q ⟨ρ, S, s, rs, re, h⟩
  refine ⟨ρ, S, s, rs, re, (Post.bind (R := RD X.K) h).imp ?_⟩
  rintro v H1 ⟨ρ1, S1, x, l1, rs1, rd1, h1⟩
  by_cases ck : isDk x S1 = true
  · rw [if_pos ck] at h1
    cases x with
    | ref l =>
      unfold isDk at ck
      dsimp only at ck
      split at ck
      · rename_i kvs e
        obtain ⟨p, kws, rfl, hp, hv, ra, za⟩ := rs1.dkAt rd1 e
        refine ⟨p, rfl, .inl ⟨kws, .inl hv⟩, ρ1, S1, s, rs1, re.le rs l1, (Post.bind (R := RD X.K) h1).imp ?_⟩
        rintro w H2 ⟨ρ2, S2, y, l2, rs2, rd2, h2⟩
        refine ⟨ρ2, S2, s, rs2, (re.le rs l1).le rs1 l2, (Post.bind (R := RD X.K) h2).imp ?_⟩
        rintro u H3 ⟨ρ3, S3, z, l3, rs3, rd3, h3⟩
        dsimp only at h3
        cases eg : Wk.getD S3 l y with
        | none => rw [eg] at h3; exact (show False from h3).elim
        | some o =>
          rw [eg] at h3
          obtain ⟨p', ov, ep, g, q⟩ := dget_of rs3 ((rd1.le rs1 l2).le rs2 l3) (rd2.le rs2 l3) eg
          cases ep
          refine ⟨ov, g, h3 ρ3 H3 _ (Le.refl _ _) rs3 ?_⟩
          rcases q with ⟨rfl, rfl⟩ | ⟨d, u', rfl, rfl, ru⟩
          · exact rd3
          · exact ru
      · cases ck
    | _ => cases ck
  · rw [if_neg ck] at h1; exact (show False from h1).elim
/-- list(range(n)) -/
theorem ev_listRg {p p2 pos2 : Pos} (hc : X.calm = true) (hm : X.mg "list" = none) (hm2 : X.mg "range" = none) (ha : EV X T W a fa) (hg : Gl X "list" := by rfl) (hg2 : Gl X "range" := by rfl)
    (na : starEach [a] X.env = (false, eval a X.env) :: starEach [] X.env := by rfl) (nb : starEach [.Call (.Name "range" p2) [a] [] pos2] X.env = (false, eval (.Call (.Name "range" p2) [a] [] pos2) X.env) :: starEach [] X.env := by rfl) :
    EV X T W (.Call (.Name "list" p) [.Call (.Name "range" p2) [a] [] pos2] [] pos) (eUn fListRg fa) := by
  refine PE.imp (pe_listRg hc hg hm (prg_1 hg2 hm2 ha na) nb) ?_
  rintro σ H Q ⟨ρ, S, s, rs, re, h⟩
  refine ⟨ρ, S, s, rs, re, (Post.bind (R := RD X.K) h).imp ?_⟩
  rintro v H1 ⟨ρ1, S1, x, l1, rs1, rd1, h1⟩
  cases x with
  | int i =>
    unfold fListRg at h1
    dsimp only at h1
    by_cases c : -(2 ^ 62) ≤ i ∧ i ≤ 16777216
    · rw [if_pos c] at h1
      refine ⟨i, rd1.int, ⟨by omega, by omega, by omega, by omega, by omega⟩, fun q hq => ?_⟩
      have hz : (rgV 0 i).length ≤ sizeLine := by rw [rgV_length, sizeLine_eq]; omega
      have hv : RDs X.K ρ1 H1 (rngD 0 i) (rgV 0 i) := by
        refine RDs.of (Paired.ofGet (by rw [rngD_len, rgV_length]) fun j x y e1 e2 => ?_)
        obtain ⟨h1, rfl⟩ := rngD_get e1
        unfold rgV at e2
        rw [List.getElem?_map] at e2
        cases e3 : (List.range (i - 0).toNat)[j]? with
        | none => rw [e3] at e2; cases e2
        | some k =>
          rw [e3] at e2
          obtain ⟨h4, h5⟩ := List.getElem?_eq_some_iff.mp e3
          rw [List.getElem_range] at h5
          cases e2
          rw [← h5]; exact rd_int
      obtain ⟨q1, q2, q3⟩ := lst_new rs1 hq hv hz
      exact h1 _ _ _ q1 q2 q3
    · rw [if_neg c] at h1; exact (show False from h1).elim
  | _ => exact (show False from h1).elim
/-- xs[::-1] of a list -/
theorem ev_revL {k : Nat} {p1 p2 p3 : Pos} (ha : EV X T W a fa) : EV X T W (.Subscript a (.Slice none none (some (.UnaryOp .USub (.Constant (.int 1) k p1) p2)) p3) pos) (eUn fRevL fa) := by
  refine PE.imp (pe_revL ha) ?_
  rintro σ H Q ⟨ρ, S, s, rs, re, h⟩
  refine ⟨ρ, S, s, rs, re, (Post.bind (R := RD X.K) h).imp ?_⟩
  rintro v H1 ⟨ρ1, S1, x, l1, rs1, rd1, h1⟩
  cases x with
  | ref l =>
    unfold fRevL at h1
    dsimp only at h1
    split at h1
    · rename_i ds e
      obtain ⟨p, vs, rfl, hp, hv, ra, za⟩ := rs1.lstAt rd1 e
      refine ⟨p, vs, rfl, SqL.of hv, fun q hq => ?_⟩
      obtain ⟨q1, q2, q3⟩ := lst_new rs1 hq (RDs.of (Paired.rev ra.pair)) (by rw [List.length_reverse]; exact za)
      exact h1 _ _ _ q1 q2 q3
    · exact (show False from h1).elim
  | _ => exact (show False from h1).elim

/-! ### dict comprehensions -/
theorem mergeD_snoc {κ : Type} [DecidableEq κ] (kvs : List (κ × D)) (k : κ) (d : D) (acc : List (κ × D)) : mergeD acc (kvs ++ [(k, d)]) = putD (mergeD acc kvs) k d := by
  unfold mergeD
  rw [List.foldl_append]
  rfl
theorem tef_dcomp {fi : FI} {g : Tg} {t : FT} {fk e : FE} : ∀ σ H Q, TEf X T W (eDComp fi g t fk e vs) σ H Q → tDc (TIf X T W fi) (TGf X T vs g) (TTf X T W0 t) (TEf X T W0 fk) (TEf X T W0 e) vs σ H Q := by
  rintro σ H Q ⟨ρ, S, s, rs, re, h⟩
  refine ⟨ρ, S, s, rs, re, (Post.bind (R := ItOk X.K T) h).imp ?_⟩
  rintro J H1 ⟨ρ1, S1, I, l1, rs1, it, h1⟩
  intro D hD
  have re1 := re.le rs l1
  have sz := it.1
  refine ⟨fun i m H' => m = I.items.length - i ∧ i ≤ I.items.length ∧ ∃ ρ' S' acc accV, Le ρ1 H1 ρ' H' ∧ RS X.K T ρ' S' H' ∧ H' D = some (.dK accV) ∧ D ∉ ρ' ∧ RKs X.K ρ' H' (mergeD [] acc) accV ∧ accV.length ≤ i ∧
      Post X.K X.mg T (WE W σ) ρ1 H1 (RD X.K) Q ((noEx (compD I.chk g t fk e (wipeE s vs) (I.items.drop i) S')).bind fun ys S2 => .ok (.ref S2.length) (S2 ++ [.dk (mergeD [] (acc ++ ys))])), ?_, ?_⟩
  · exact ⟨_, rfl, Nat.zero_le _, ρ1, S1, [], [], Le.fresh rs1 hD, rs1.freshP hD, upd_same, rs1.fresh hD, .nil, Nat.zero_le _, by simpa using h1⟩
  · rintro i m H' ⟨rfl, hi, ρ', S', acc, accV, le', rs', hD', nD, ra, hl, hp⟩
    by_cases hlt : i < I.items.length
    · refine .inr ?_
      have hd : I.items[i]? = some I.items[i] := List.getElem?_eq_getElem hlt
      rw [List.drop_eq_getElem_cons hlt] at hp
      generalize hdd : I.items[i] = d at hp hd
      have ok : okC I.chk S' = true := by
        by_cases q : okC I.chk S' = true
        · exact q
        · unfold compD at hp; rw [if_neg q] at hp; exact (show False from hp).elim
      unfold compD at hp
      rw [if_pos ok] at hp
      obtain ⟨hgo, hyld⟩ := (it.2 ρ' S' H' le' rs' ok).1 i d hd
      refine ⟨hgo, fun H5 => I.items.length - (i + 1) = I.items.length - (i + 1) ∧ i + 1 ≤ I.items.length ∧ ∃ ρ' S' acc accV, Le ρ1 H1 ρ' H5 ∧ RS X.K T ρ' S' H5 ∧ H5 D = some (.dK accV) ∧ D ∉ ρ' ∧ RKs X.K ρ' H5 (mergeD [] acc) accV ∧ accV.length ≤ i + 1 ∧
        Post X.K X.mg T (WE W σ) ρ1 H1 (RD X.K) Q ((noEx (compD I.chk g t fk e (wipeE s vs) (I.items.drop (i + 1)) S')).bind fun ys S2 => .ok (.ref S2.length) (S2 ++ [.dk (mergeD [] (acc ++ ys))])),
        fun H5 q => ⟨_, by omega, q⟩, fun x H2 y => ?_⟩
      obtain ⟨le2, rs2, rd2⟩ := hyld x H2 y
      have hD2 : H2 D = some (.dK accV) := le2.keep D _ hD' nD (fun ps z => nomatch z)
      have re2 : RE X.K ρ' H2 (wipeE s vs) (L2.wipe σ vs) := (re1.le rs1 (le'.trans le2)).wipe vs
      refine ⟨ρ', S', wipeE s vs, d, rs2, re2, rd2, ?_⟩
      cases eg : gF g d (wipeE s vs) with
      | none => rw [eg] at hp; exact (show False from hp).elim
      | some s1 =>
        rw [eg] at hp
        dsimp only at hp ⊢
        intro σ' re' ew
        refine ⟨ew.trans (wipe_wipe fun _ z => z), ρ', S', s1, rs2, re', ?_⟩
        cases et : t s1 S' with
        | bad => rw [et] at hp; exact hp
        | ex c w S2 => rw [et] at hp; exact (show False from hp).elim
        | ok b S2 =>
          rw [et, Res.bind_ok] at hp
          rintro ρ3 H3 b' le3 rs3 hb
          obtain rfl : b = b' := hb
          have nD3 := le3.nin hD2 nD
          have hD3 : H3 D = some (.dK accV) := le3.keep D _ hD2 nD (fun ps z => nomatch z)
          cases b with
          | false =>
            rw [if_neg (by decide)] at hp ⊢
            exact ⟨rfl, hlt, ρ3, S2, acc, accV, (le'.trans le2).trans le3, rs3, hD3, nD3, RKs.mono le3 rs2.nofz (RKs.mono le2 rs'.nofz ra), Nat.le_succ_of_le hl, hp⟩
          | true =>
            rw [if_pos rfl] at hp ⊢
            refine ⟨ρ3, S2, s1, rs3, re'.le rs2 le3, ?_⟩
            cases ek : fk s1 S2 with
            | bad => rw [ek] at hp; exact hp
            | ex c w S2 => rw [ek] at hp; exact (show False from hp).elim
            | ok k3 S3 =>
              rw [ek, Res.bind_ok] at hp
              rintro ρ4 H4 vk le4 rs4 rd4
              have nD4 := le4.nin hD3 nD3
              have hD4 : H4 D = some (.dK accV) := le4.keep D _ hD3 nD3 (fun ps z => nomatch z)
              refine ⟨ρ4, S3, s1, rs4, (re'.le rs2 le3).le rs3 le4, ?_⟩
              cases ee : e s1 S3 with
              | bad => rw [ee] at hp; exact hp
              | ex c w S2 => rw [ee] at hp; exact (show False from hp).elim
              | ok y3 S4 =>
                rw [ee, Res.bind_ok] at hp
                rintro ρ5 H5 v le5 rs5 rd5
                have nD5 := le5.nin hD4 nD4
                have hD5 : H5 D = some (.dK accV) := le5.keep D _ hD4 nD4 (fun ps z => nomatch z)
                cases eq : keyD k3 with
                | none => rw [eq] at hp; exact (show False from hp).elim
                | some kk =>
                  rw [eq] at hp
                  have eb := keyD_eq eq
                  subst eb
                  have evk := kD_rd rd4
                  subst evk
                  obtain ⟨lw6, rs6⟩ := rs5.side (o := .dK (putK accV kk v)) hD5 nD5 (fun _ z => nomatch z) (fun _ _ z => nomatch z) (fun _ z => nomatch z) (fun _ z => nomatch z)
                  have ra5 := RKs.mono le5 rs4.nofz (RKs.mono le4 rs3.nofz (RKs.mono le3 rs2.nofz (RKs.mono le2 rs'.nofz ra)))
                  refine ⟨accV, kk, rfl, hD5, by omega, rfl, hlt, ρ5, S4, acc ++ [(kk, y3)], putK accV kk v, ((((le'.trans le2).trans le3).trans le4).trans le5).side hD, rs6, upd_same, nD5, ?_, by have := length_putK accV kk v; omega, ?_⟩
                  · rw [mergeD_snoc]
                    exact putD_ks (RKs.lw lw6 ra5) (RD.lw lw6 _ _ rd5)
                  · dsimp only at hp
                    cases ec : compD I.chk g t fk e (wipeE s vs) (I.items.drop (i + 1)) S4 with
                    | bad => rw [ec] at hp; exact hp
                    | ex c w S2 => rw [ec] at hp; exact (show False from hp).elim
                    | ok ys S5 =>
                      rw [ec] at hp
                      simpa using hp
    · have e : i = I.items.length := by omega
      subst e
      rw [List.drop_length] at hp
      have ok : okC I.chk S' = true := by
        by_cases q : okC I.chk S' = true
        · exact q
        · unfold compD at hp; rw [if_neg q] at hp; exact (show False from hp).elim
      unfold compD at hp
      rw [if_pos ok] at hp
      refine .inl ⟨(it.2 ρ' S' H' le' rs' ok).2, ?_⟩
      have rsA := rs'.adopt (p := D) (ob := .dk (mergeD [] acc)) nD ⟨accV, hD', ra, by omega⟩
      refine hp (ρ' ++ [D]) H' (.ref D) (le'.adopt hD) (by simpa using rsA) (rd_ref rs'.lastAt)
theorem ev_dcomp {kx vx tg iter : Expr} {ifs : List Expr} {scope : Scope} {own : List (Str × Nat)} {fi : FI} {g : Tg} {t : FT} {fk e : FE} (hc : X.calm = true) (hN : X.N.Nodup) (hi : EI X T W tg iter fi) {us : List Nat} (ok : BlkOk X.N X.env.scope scope own) (hus : own.map (·.2) = us)
    (hg : ∀ (s : Shared) (H : Hp) (C : Addr) (cl : List (Str × Addr)) (fp : List Addr), EG (X.blk s H scope (compEnvC scope cl C X.env) fp) T (own.map (·.2)) tg g)
    (ht : ∀ (s : Shared) (H : Hp) (C : Addr) (cl : List (Str × Addr)) (fp : List Addr), ETs (X.blk s H scope (compEnvC scope cl C X.env) fp) T W0 ifs t)
    (hk : ∀ (s : Shared) (H : Hp) (C : Addr) (cl : List (Str × Addr)) (fp : List Addr), EV (X.blk s H scope (compEnvC scope cl C X.env) fp) T W0 kx fk)
    (he : ∀ (s : Shared) (H : Hp) (C : Addr) (cl : List (Str × Addr)) (fp : List Addr), EV (X.blk s H scope (compEnvC scope cl C X.env) fp) T W0 vx e) (hs : ∀ x, foldedSetIterable iter X.env x = pure x := by intro _; rfl) :
    EV X T W (.DictComp kx vx [⟨tg, iter, ifs, 0⟩] scope pos) (eDComp fi g t fk e us) := by
  subst hus
  exact PE.imp (pe_dc hc hN hi ok hg ht hk he hs) tef_dcomp
theorem es_dcomp {i : Nat} {y : Str} {py : Pos} {kx vx tg iter : Expr} {ifs : List Expr} {scope : Scope} {own : List (Str × Nat)} {cpos spos : Pos} {fi : FI} {g : Tg} {t : FT} {fk e : FE} (hc : X.calm = true) (hN : X.N.Nodup) (hy : X.N[i]? = some y) (hyl : X.env.scope.names.lookup y = some .local)
    (hsw : swapsWith (.DictComp kx vx [⟨tg, iter, ifs, 0⟩] scope cpos) (some (.Name y py)) spos.line X.env = pure true) (hi : EI X T W tg iter fi) {us : List Nat} (ok : BlkOk X.N X.env.scope scope own) (hus : own.map (·.2) = us)
    (hg : ∀ (s : Shared) (H : Hp) (C : Addr) (cl : List (Str × Addr)) (fp : List Addr), EG (X.blk s H scope (compEnvC scope cl C X.env) fp) T (own.map (·.2)) tg g)
    (ht : ∀ (s : Shared) (H : Hp) (C : Addr) (cl : List (Str × Addr)) (fp : List Addr), ETs (X.blk s H scope (compEnvC scope cl C X.env) fp) T W0 ifs t)
    (hk : ∀ (s : Shared) (H : Hp) (C : Addr) (cl : List (Str × Addr)) (fp : List Addr), EV (X.blk s H scope (compEnvC scope cl C X.env) fp) T W0 kx fk)
    (he : ∀ (s : Shared) (H : Hp) (C : Addr) (cl : List (Str × Addr)) (fp : List Addr), EV (X.blk s H scope (compEnvC scope cl C X.env) fp) T W0 vx e) (hs : ∀ x, foldedSetIterable iter X.env x = pure x := by intro _; rfl) :
    ES X T W (.Assign [.Name y py] (.DictComp kx vx [⟨tg, iter, ifs, 0⟩] scope cpos) spos) (sSet i (eDComp fi g t fk e us)) := by
  subst hus
  refine PS.imp (ps_setDc (wi := TIf X T W fi) (g := TGf X T (List.map (fun (p : Str × Nat) => p.2) own) g) (tt := TTf X T W0 t) (tk := TEf X T W0 fk) (tv := TEf X T W0 e) hc hN hy hyl hsw hi ok hg ht hk he hs) ?_
  rintro D σ H ⟨ρ, S, s, rs, re, h⟩
  refine tef_dcomp σ H _ ⟨ρ, S, s, rs, re, (PostS.ofE (R := RD X.K) rs re h).imp ?_⟩
  rintro v H1 ⟨ρ1, S1, d, l1, rs1, re1, rd1, h1⟩
  exact h1 ρ1 H1 _ (Le.refl _ _) rs1 (re1.set i rd1)
theorem tef_tcomp {fi : FI} {g : Tg} {t : FT} {fk e : FE} : ∀ σ H Q, TEf X T W (eTComp fi g t fk e vs) σ H Q → tTc (TIf X T W fi) (TGf X T vs g) (TTf X T W0 t) (TEf X T W0 fk) (TEf X T W0 e) vs σ H Q := by
  rintro σ H Q ⟨ρ, S, s, rs, re, h⟩
  refine ⟨ρ, S, s, rs, re, (Post.bind (R := ItOk X.K T) h).imp ?_⟩
  rintro J H1 ⟨ρ1, S1, I, l1, rs1, it, h1⟩
  intro D hD
  have re1 := re.le rs l1
  have sz := it.1
  refine ⟨fun i m H' => m = I.items.length - i ∧ i ≤ I.items.length ∧ ∃ ρ' S' acc accV, Le ρ1 H1 ρ' H' ∧ RS X.K T ρ' S' H' ∧ H' D = some (.dT accV) ∧ D ∉ ρ' ∧ RKs X.K ρ' H' (mergeD [] acc) accV ∧ accV.length ≤ i ∧
      Post X.K X.mg T (WE W σ) ρ1 H1 (RD X.K) Q ((noEx (compT I.chk g t fk e (wipeE s vs) (I.items.drop i) S')).bind fun ys S2 => .ok (.ref S2.length) (S2 ++ [.dt (mergeD [] (acc ++ ys))])), ?_, ?_⟩
  · exact ⟨_, rfl, Nat.zero_le _, ρ1, S1, [], [], Le.fresh rs1 hD, rs1.freshP hD, upd_same, rs1.fresh hD, .nil, Nat.zero_le _, by simpa using h1⟩
  · rintro i m H' ⟨rfl, hi, ρ', S', acc, accV, le', rs', hD', nD, ra, hl, hp⟩
    by_cases hlt : i < I.items.length
    · refine .inr ?_
      have hd : I.items[i]? = some I.items[i] := List.getElem?_eq_getElem hlt
      rw [List.drop_eq_getElem_cons hlt] at hp
      generalize hdd : I.items[i] = d at hp hd
      have ok : okC I.chk S' = true := by
        by_cases q : okC I.chk S' = true
        · exact q
        · unfold compT at hp; rw [if_neg q] at hp; exact (show False from hp).elim
      unfold compT at hp
      rw [if_pos ok] at hp
      obtain ⟨hgo, hyld⟩ := (it.2 ρ' S' H' le' rs' ok).1 i d hd
      refine ⟨hgo, fun H5 => I.items.length - (i + 1) = I.items.length - (i + 1) ∧ i + 1 ≤ I.items.length ∧ ∃ ρ' S' acc accV, Le ρ1 H1 ρ' H5 ∧ RS X.K T ρ' S' H5 ∧ H5 D = some (.dT accV) ∧ D ∉ ρ' ∧ RKs X.K ρ' H5 (mergeD [] acc) accV ∧ accV.length ≤ i + 1 ∧
        Post X.K X.mg T (WE W σ) ρ1 H1 (RD X.K) Q ((noEx (compT I.chk g t fk e (wipeE s vs) (I.items.drop (i + 1)) S')).bind fun ys S2 => .ok (.ref S2.length) (S2 ++ [.dt (mergeD [] (acc ++ ys))])),
        fun H5 q => ⟨_, by omega, q⟩, fun x H2 y => ?_⟩
      obtain ⟨le2, rs2, rd2⟩ := hyld x H2 y
      have hD2 : H2 D = some (.dT accV) := le2.keep D _ hD' nD (fun ps z => nomatch z)
      have re2 : RE X.K ρ' H2 (wipeE s vs) (L2.wipe σ vs) := (re1.le rs1 (le'.trans le2)).wipe vs
      refine ⟨ρ', S', wipeE s vs, d, rs2, re2, rd2, ?_⟩
      cases eg : gF g d (wipeE s vs) with
      | none => rw [eg] at hp; exact (show False from hp).elim
      | some s1 =>
        rw [eg] at hp
        dsimp only at hp ⊢
        intro σ' re' ew
        refine ⟨ew.trans (wipe_wipe fun _ z => z), ρ', S', s1, rs2, re', ?_⟩
        cases et : t s1 S' with
        | bad => rw [et] at hp; exact hp
        | ex c w S2 => rw [et] at hp; exact (show False from hp).elim
        | ok b S2 =>
          rw [et, Res.bind_ok] at hp
          rintro ρ3 H3 b' le3 rs3 hb
          obtain rfl : b = b' := hb
          have nD3 := le3.nin hD2 nD
          have hD3 : H3 D = some (.dT accV) := le3.keep D _ hD2 nD (fun ps z => nomatch z)
          cases b with
          | false =>
            rw [if_neg (by decide)] at hp ⊢
            exact ⟨rfl, hlt, ρ3, S2, acc, accV, (le'.trans le2).trans le3, rs3, hD3, nD3, RKs.mono le3 rs2.nofz (RKs.mono le2 rs'.nofz ra), Nat.le_succ_of_le hl, hp⟩
          | true =>
            rw [if_pos rfl] at hp ⊢
            refine ⟨ρ3, S2, s1, rs3, re'.le rs2 le3, ?_⟩
            cases ek : fk s1 S2 with
            | bad => rw [ek] at hp; exact hp
            | ex c w S2 => rw [ek] at hp; exact (show False from hp).elim
            | ok k3 S3 =>
              rw [ek, Res.bind_ok] at hp
              rintro ρ4 H4 vk le4 rs4 rd4
              have nD4 := le4.nin hD3 nD3
              have hD4 : H4 D = some (.dT accV) := le4.keep D _ hD3 nD3 (fun ps z => nomatch z)
              refine ⟨ρ4, S3, s1, rs4, (re'.le rs2 le3).le rs3 le4, ?_⟩
              cases ee : e s1 S3 with
              | bad => rw [ee] at hp; exact hp
              | ex c w S2 => rw [ee] at hp; exact (show False from hp).elim
              | ok y3 S4 =>
                rw [ee, Res.bind_ok] at hp
                rintro ρ5 H5 v le5 rs5 rd5
                have nD5 := le5.nin hD4 nD4
                have hD5 : H5 D = some (.dT accV) := le5.keep D _ hD4 nD4 (fun ps z => nomatch z)
                cases eq : keyT k3 with
                | none => rw [eq] at hp; exact (show False from hp).elim
                | some kk =>
                  rw [eq] at hp
                  obtain ⟨b0, rfl, hb0⟩ := keyT_v eq (rd4.le rs4 le5)
                  obtain ⟨lw6, rs6⟩ := rs5.side (o := .dT (putK accV kk v)) hD5 nD5 (fun _ z => nomatch z) (fun _ _ z => nomatch z) (fun _ z => nomatch z) (fun _ z => nomatch z)
                  have ra5 := RKs.mono le5 rs4.nofz (RKs.mono le4 rs3.nofz (RKs.mono le3 rs2.nofz (RKs.mono le2 rs'.nofz ra)))
                  refine ⟨accV, kk, b0, rfl, hb0, hD5, by omega, rfl, hlt, ρ5, S4, acc ++ [(kk, y3)], putK accV kk v, ((((le'.trans le2).trans le3).trans le4).trans le5).side hD, rs6, upd_same, nD5, ?_, by have := length_putK accV kk v; omega, ?_⟩
                  · rw [mergeD_snoc]
                    exact putD_ks (RKs.lw lw6 ra5) (RD.lw lw6 _ _ rd5)
                  · dsimp only at hp
                    cases ec : compT I.chk g t fk e (wipeE s vs) (I.items.drop (i + 1)) S4 with
                    | bad => rw [ec] at hp; exact hp
                    | ex c w S2 => rw [ec] at hp; exact (show False from hp).elim
                    | ok ys S5 =>
                      rw [ec] at hp
                      simpa using hp
    · have e : i = I.items.length := by omega
      subst e
      rw [List.drop_length] at hp
      have ok : okC I.chk S' = true := by
        by_cases q : okC I.chk S' = true
        · exact q
        · unfold compT at hp; rw [if_neg q] at hp; exact (show False from hp).elim
      unfold compT at hp
      rw [if_pos ok] at hp
      refine .inl ⟨(it.2 ρ' S' H' le' rs' ok).2, ?_⟩
      have rsA := rs'.adopt (p := D) (ob := .dt (mergeD [] acc)) nD ⟨accV, hD', ra, by omega⟩
      refine hp (ρ' ++ [D]) H' (.ref D) (le'.adopt hD) (by simpa using rsA) (rd_ref rs'.lastAt)
/-- a dict comprehension, its keys ints, texts, or tuples of these -/
theorem tef_dcompA {fi : FI} {g : Tg} {t : FT} {fk e : FE} : ∀ σ H Q, TEf X T W (eDCompA fi g t fk e vs) σ H Q → tDc (TIf X T W fi) (TGf X T vs g) (TTf X T W0 t) (TEf X T W0 fk) (TEf X T W0 e) vs σ H Q ∨ tTc (TIf X T W fi) (TGf X T vs g) (TTf X T W0 t) (TEf X T W0 fk) (TEf X T W0 e) vs σ H Q := by
  rintro σ H Q ⟨ρ, S, s, rs, re, h⟩
  unfold eDCompA at h
  rcases orG_cases (eDComp fi g t fk e vs s S) (eTComp fi g t fk e vs s S) with ⟨er, _⟩ | ⟨_, er⟩
  · rw [er] at h
    exact .inl (tef_dcomp _ _ _ ⟨ρ, S, s, rs, re, h⟩)
  · rw [er] at h
    exact .inr (tef_tcomp _ _ _ ⟨ρ, S, s, rs, re, h⟩)
theorem ev_dcompA {k : Nat} {kx vx tg iter : Expr} {ifs : List Expr} {scope : Scope} {own : List (Str × Nat)} {fi : FI} {g : Tg} {t : FT} {fk e : FE} (hr : Room k X.A) (hc : X.calm = true) (hN : X.N.Nodup) (hi : EI X T W tg iter fi) {us : List Nat} (ok : BlkOk X.N X.env.scope scope own) (hus : own.map (·.2) = us)
    (hg : ∀ (s : Shared) (H : Hp) (C : Addr) (cl : List (Str × Addr)) (fp : List Addr), EG (X.blk s H scope (compEnvC scope cl C X.env) fp) T (own.map (·.2)) tg g)
    (ht : ∀ (s : Shared) (H : Hp) (C : Addr) (cl : List (Str × Addr)) (fp : List Addr), ETs (X.blk s H scope (compEnvC scope cl C X.env) fp) T W0 ifs t)
    (hk : ∀ (s : Shared) (H : Hp) (C : Addr) (cl : List (Str × Addr)) (fp : List Addr), EV (X.blk s H scope (compEnvC scope cl C X.env) fp) T W0 kx fk)
    (he : ∀ (s : Shared) (H : Hp) (C : Addr) (cl : List (Str × Addr)) (fp : List Addr), EV (X.blk s H scope (compEnvC scope cl C X.env) fp) T W0 vx e) (hs : ∀ x, foldedSetIterable iter X.env x = pure x := by intro _; rfl) :
    EV X T W (.DictComp kx vx [⟨tg, iter, ifs, 0⟩] scope pos) (eDCompA fi g t fk e us) := by
  subst hus
  refine ⟨fun pins s σ H Q I h => ?_⟩
  rcases tef_dcompA _ _ _ h with h | h
  · exact (pe_dc hc hN hi ok hg ht hk he hs).run pins s σ H Q I h
  · exact (pe_tc hr.units0 hc hN hi ok hg ht hk he hs).run pins s σ H Q I h
theorem es_dcompA {k : Nat} {i : Nat} {y : Str} {py : Pos} {kx vx tg iter : Expr} {ifs : List Expr} {scope : Scope} {own : List (Str × Nat)} {cpos spos : Pos} {fi : FI} {g : Tg} {t : FT} {fk e : FE} (hr : Room k X.A) (hc : X.calm = true) (hN : X.N.Nodup) (hy : X.N[i]? = some y) (hyl : X.env.scope.names.lookup y = some .local)
    (hsw : swapsWith (.DictComp kx vx [⟨tg, iter, ifs, 0⟩] scope cpos) (some (.Name y py)) spos.line X.env = pure true) (hi : EI X T W tg iter fi) {us : List Nat} (ok : BlkOk X.N X.env.scope scope own) (hus : own.map (·.2) = us)
    (hg : ∀ (s : Shared) (H : Hp) (C : Addr) (cl : List (Str × Addr)) (fp : List Addr), EG (X.blk s H scope (compEnvC scope cl C X.env) fp) T (own.map (·.2)) tg g)
    (ht : ∀ (s : Shared) (H : Hp) (C : Addr) (cl : List (Str × Addr)) (fp : List Addr), ETs (X.blk s H scope (compEnvC scope cl C X.env) fp) T W0 ifs t)
    (hk : ∀ (s : Shared) (H : Hp) (C : Addr) (cl : List (Str × Addr)) (fp : List Addr), EV (X.blk s H scope (compEnvC scope cl C X.env) fp) T W0 kx fk)
    (he : ∀ (s : Shared) (H : Hp) (C : Addr) (cl : List (Str × Addr)) (fp : List Addr), EV (X.blk s H scope (compEnvC scope cl C X.env) fp) T W0 vx e) (hs : ∀ x, foldedSetIterable iter X.env x = pure x := by intro _; rfl) :
    ES X T W (.Assign [.Name y py] (.DictComp kx vx [⟨tg, iter, ifs, 0⟩] scope cpos) spos) (sSet i (eDCompA fi g t fk e us)) := by
  subst hus
  refine ⟨fun pins s0 σ H D I h => ?_⟩
  obtain ⟨ρ, S, s, rs, re, h⟩ := h
  have h2 : TEf X T W (eDCompA fi g t fk e (List.map (fun (p : Str × Nat) => p.2) own)) σ H (fun x H1 => gName i x σ H1 D.nx) := by
    refine ⟨ρ, S, s, rs, re, (PostS.ofE (R := RD X.K) rs re h).imp ?_⟩
    rintro v H1 ⟨ρ1, S1, d, l1, rs1, re1, rd1, h1⟩
    exact h1 ρ1 H1 _ (Le.refl _ _) rs1 (re1.set i rd1)
  rcases tef_dcompA _ _ _ h2 with h | h
  · exact (ps_setDc (wi := TIf X T W fi) (g := TGf X T (List.map (fun (p : Str × Nat) => p.2) own) g) (tt := TTf X T W0 t) (tk := TEf X T W0 fk) (tv := TEf X T W0 e) hc hN hy hyl hsw hi ok hg ht hk he hs).run pins s0 σ H D I h
  · exact (ps_setTc (wi := TIf X T W fi) (g := TGf X T (List.map (fun (p : Str × Nat) => p.2) own) g) (tt := TTf X T W0 t) (tk := TEf X T W0 fk) (tv := TEf X T W0 e) hr.units0 hc hN hy hyl hsw hi ok hg ht hk he hs).run pins s0 σ H D I h
end
end Wk


set_option Elab.async false
set_option linter.all false
set_option maxRecDepth 100000
set_option maxHeartbeats 4000000
set_option autoImplicit false
/-! WkTry: several named except clauses; a lambda heard: try: return ("told", deed()) except X as r: return ("X", r.what) .. -/
namespace L2
open PySem PySem.Spec PyProof.Rows
/-- what the named clauses wish of an exception of the body, one after the other -/
def wManyAs (K : PySem.W.Frag) (i : Nat) (Wout : WX) (D : Ends) : List (Value × (Addr → Value → Option Addr → TS)) → WX
  | [] => Wout
  | (c, ts) :: r => fun cls d σ H => ∃ b, PySem.W.exmOne K cls c = some b ∧ (b = true → ∀ a, H a = none → ts a cls d { nx := fun σ' H' => D.nx (σ'.set i none) H', rt := D.rt, bk := fun σ' H' => D.bk (σ'.set i none) H', ct := fun σ' H' => D.ct (σ'.set i none) H' } (σ.set i (some (.ref a))) H) ∧
      (b = false → wManyAs K i Wout D r cls d σ H)
inductive HdsAs (X : Cx) (n : Str) : List ExceptHandler → List (Value × (Addr → Value → Option Addr → TS)) → Prop
  | nil : HdsAs X n [] []
  | cons {x : Str} {c : Value} {ts : Addr → Value → Option Addr → TS} {b₀ : Stmt} {suite : List Stmt} {np pos' : Pos} {hds : List ExceptHandler} {l : List (Value × (Addr → Value → Option Addr → TS))} (hc : Names X x c)
      (hsu : ∀ (a : Addr) (oe : Obj) (cls : Value) (d : Option Addr) (pn : List (Addr × Obj)), Zc cls d oe → (∃ vs, oe.data = .fields vs) → PSs (X.suite a ((a, oe) :: pn)) (b₀ :: suite) (ts a cls d)) (r : HdsAs X n hds l) :
      HdsAs X n (.ExceptHandler (some (.Name x np)) (some n) (b₀ :: suite) pos' :: hds) ((c, ts) :: l)
section
variable {X : Cx} {n : Str} {i : Nat} {body : List Stmt} {h₀ : ExceptHandler} {hds : List ExceptHandler} {l : List (Value × (Addr → Value → Option Addr → TS))} {pos : Pos} {tb : WX → TS} {Wout : WX}
theorem ps_try_manyAs (hs : X.stack = X.env :: X.outer) (hf : X.env.frame = some X.env.locals) (hN : X.N.Nodup) (hi : X.N[i]? = some n) (hln : X.env.kindOf n = some .local) (tk : Takes X Wout)
    (hb : ∀ (W : WX) (pn : List (Addr × Obj)) (xe : Value → Shared → Prop), Takes (X.tr pn xe) W → PassesOwn (model X.prog X.w) X.A X.env xe → PSs (X.tr pn xe) body (tb W))
    (hh : HdsAs X n (h₀ :: hds) l) : PS X (.Try body (h₀ :: hds) [] [] pos) (fun D σ H => tb (wManyAs X.K i Wout D l) D σ H) := by
  refine ⟨fun pins s σ H D I h => ?_⟩
  have ok := I.ok
  have hfr : X.A.frames = some (X.env :: X.outer) := by rw [ok.frames, hs]
  have hloc : Loc X.env.scope n := .inl hln
  refine wpAny_Try_except ?_
  refine wpAny_mono ((hb (wManyAs X.K i Wout D l) (X.pn ++ pins) (fun e s₁ => wpAny (model X.prog X.w) X.A (noteFrame e X.env) (fun _ s₂ => wpAny (model X.prog X.w) X.A (setFlight e none) (fun _ s₃ =>
    wpAny (model X.prog X.w) X.A (handleBy e X.env (h₀ :: hds)) (SP X pins D) X.xe s₃) X.xe s₂) X.xe s₁) (fun u s' xx => ?_) PassesOwn.looking).run [] s σ H D (I.toTry _) h) (fun f s1 hsp => ?_) (fun e s1 he => he)
  · -- the catch
    obtain ⟨a, B, sI, pins', σ', H', cls, d, rfl, J', nb, up, sky, na, os, ag, w⟩ := xx
    have J : Inv X pins σ' H' sI := J'.ofTry ok
    have sky' : Sky B (X.env :: X.outer) a (Zc cls d) X.env.locals s'.heap := by rw [← hs]; exact sky
    show wpAny (model X.prog X.w) X.A (noteFrame (.ref a) X.env) _ _ _
    refine Sky.land Zc.steady hfr hf sky' fun h3 fl3 up3 => ?_
    have J3 : Inv X pins σ' H' { s' with heap := h3 } := J.landed nb fl3.1 (up.trans up3) os ag
    obtain ⟨oe3, vs3, he3, hz3, hd3⟩ := fl3.there
    have notFr : ∀ {h : Heap} {o : Obj} {vs : Array Value}, h.FunFrames B (X.env :: X.outer) → h.get? a = some o → o.data = .fields vs → a ∉ frs (X.env :: X.outer) := fun {h o vs} ff e dd hm => by
      obtain ⟨_, o', e', hnf⟩ := ff.mem hm
      rw [e] at e'; cases e'
      exact hnf _ dd
    have nfr := notFr fl3.2.2.1 he3 hd3
    have nL : a ≠ X.env.locals := fun z => nfr (List.mem_filterMap.mpr ⟨X.env, List.mem_cons_self, by rw [hf, z]⟩)
    have nF : a ∉ X.fs := fun hm => by
      obtain ⟨e, he, q⟩ := List.mem_filterMap.mp hm
      exact nfr (List.mem_filterMap.mpr ⟨e, List.mem_cons_of_mem _ he, q⟩)
    have S3 := J3.suite he3 hd3 na nL nF
    have go : ∀ {hds' : List ExceptHandler} {l' : List (Value × (Addr → Value → Option Addr → TS))}, HdsAs X n hds' l' → wManyAs X.K i Wout D l' cls d σ' H' →
        wpAny (model X.prog X.w) X.A (handleBy (.ref a) X.env hds') (SP X pins D) X.xe { s' with heap := h3 } := by
      intro hds' l' hk
      induction hk with
      | nil =>
        intro w
        refine wpAny_handleBy_nil ?_
        obtain ⟨k1, k2, k3, oe, vs, T, oT, ts', he, hz, hd, h1, hr⟩ := id fl3
        unfold PySem.passOn
        refine wpAny_bind (wpAny_field he hd h1 ?_)
        rw [if_neg (show ¬ ((Value.ref T == Value.none) = true) from by simp)]
        have fin : wpAny (model X.prog X.w) X.A (setFlight (.ref a) X.env.frame) (fun _ s4 => wpAny (model X.prog X.w) X.A (throw (.ref a) : Sem Flow) (SP X pins D) X.xe s4) X.xe { s' with heap := h3 } := by
          rw [hf]
          refine HandSPX.setFlight_upZ fl3 fun h4 hh4 up4 => wpAny_throw (tk _ _ ?_)
          exact ⟨a, B, sI, pins, σ', H', cls, d, rfl, J, nb, (up.trans up3).trans up4, .inr (.inr (by rw [hs]; exact hh4)), na, os, ag, w⟩
        first
          | exact wpAny_bind (wpAny_pure (wpAny_bind fin))
          | exact wpAny_bind fin
      | @cons x c ts b₀ suite np pos' hds2 l2 hc hsu r ih =>
        intro w
        obtain ⟨b, hb1, hyes, hno⟩ := w
        refine wpAny_handleBy_cons (codeAny_handlers_test ?_) (by intro q; cases q)
        have LT : PySem.W.Looks (model X.prog X.w) h3 (typeOf (.ref a)) cls := fun A Q E s k q => wpAny_typeOf_ref (k _ _ he3) (by rw [hz3.1]; exact q)
        have LM := PySem.W.exm_one (M := model X.prog X.w) (J3.kIn) LT hb1
        have test : ∀ {Q : Value → Shared → Prop} {E : Value → Shared → Prop}, Q c { s' with heap := h3 } → wpAny (model X.prog X.w) (X.A.mark (some (.ref a))) (eval (.Name x np) X.env) Q E { s' with heap := h3 } := fun {Q E} q => by
          obtain ⟨hg, hdbg, hm | ⟨hm, hv, hnn⟩⟩ := hc
          · exact ld_glob (X := X.suite a ((a, oe3) :: (X.pn ++ pins))) S3 hg hm q hdbg
          · exact ld_blt (X := X.suite a ((a, oe3) :: (X.pn ++ pins))) S3 hg hm hv q hnn hdbg
        refine test (LM.here ?_)
        cases b with
        | true =>
          refine codeAny_handlers_suite_as ?_
          refine HandSPX.lands_againZ fl3 fun h4 fl4 up4 => ?_
          have J4 : Inv X pins σ' H' { s' with heap := h4 } := J.landed nb fl4.1 ((up.trans up3).trans up4) os ag
          obtain ⟨oe4, vs4, he4, hz4, hd4⟩ := fl4.there
          have S4 := J4.suite he4 hd4 na nL nF
          refine store_ok (X := X.suite a ((a, oe4) :: (X.pn ++ pins))) (v := .ref a) S4 hN hi hloc rfl (fun s5 S5 => ?_) (.inr hln)
          refine wpAny_mono ((hsu a oe4 cls d (X.pn ++ pins) hz4 ⟨_, hd4⟩).run [] s5 _ H' _ S5 (hyes rfl a na)) (fun f s6 hsp => ?_) (fun _ _ z => False.elim z)
          have end_ : ∀ {σ6 : St} {H6 : Hp} {Q : Shared → Prop}, Inv (X.suite a ((a, oe4) :: (X.pn ++ pins))) [] σ6 H6 s6 → (∀ s7, Inv X pins (σ6.set i none) H6 s7 → Q s7) →
              wpAny (model X.prog X.w) X.A (do bindName X.env n .none; unbindBehindTheSuite X.env n pos') (fun _ s7 => Q s7) X.xe s6 := fun {σ6 H6 Q} S6 hq => gone_ok (S6.unsuite ok) hN hi hln hq
          cases f with
          | next =>
            obtain ⟨σ6, H6, S6, q6⟩ := hsp
            exact end_ S6 fun s7 J7 => ⟨_, _, J7, q6⟩
          | brk =>
            obtain ⟨σ6, H6, S6, q6⟩ := hsp
            exact end_ S6 fun s7 J7 => ⟨_, _, J7, q6⟩
          | cont =>
            obtain ⟨σ6, H6, S6, q6⟩ := hsp
            exact end_ S6 fun s7 J7 => ⟨_, _, J7, q6⟩
          | ret u =>
            obtain ⟨v6, σ6, H6, S6, r6, q6⟩ := hsp
            exact end_ S6 fun s7 J7 => ⟨_, _, _, J7, r6, q6⟩
        | false =>
          show wpAny _ X.A (handleBy (.ref a) X.env hds2) _ _ _
          exact ih (hno rfl)
    exact go hh w
  · cases f with
    | next =>
      obtain ⟨σ', H', J', q⟩ := hsp
      exact wpAny_execs_nil ⟨σ', H', J'.ofTry ok, q⟩
    | brk =>
      obtain ⟨σ', H', J', q⟩ := hsp
      exact ⟨σ', H', J'.ofTry ok, q⟩
    | cont =>
      obtain ⟨σ', H', J', q⟩ := hsp
      exact ⟨σ', H', J'.ofTry ok, q⟩
    | ret u =>
      obtain ⟨v, σ', H', J', r, q⟩ := hsp
      exact ⟨v, σ', H', J'.ofTry ok, r, q⟩
end
end L2

namespace Wk
open PySem PySem.Spec PyProof.Rows L2 LamX
/-! ### a lambda heard -/
/-- the classes named by the clauses -/
structure HeardC (K : PySem.W.Frag) (mg : Str → Option Value) (l : List (Addr × String)) : Prop where
  all : ∀ p ∈ l, mg (Str.ofString p.2) = some (.ref p.1) ∧ XfC K p.1 ∧ PySem.W.findIn K (.ref p.1) "what" = some none ∧ ∀ q ∈ l, PySem.W.exmOne K (.ref p.1) (.ref q.1) = some (decide (p.2 = q.2))
/-- what the clauses wish -/
def heardE (K : PySem.W.Frag) (Q : VK) : List (Addr × String) → XK
  | [] => fun _ _ _ => False
  | p :: r => fun cls d H => ∃ b, PySem.W.exmOne K cls (.ref p.1) = some b ∧
      (b = true → cls = .ref p.1 ∧ ∃ (dd : Addr) (fs : List (Str × V)) (v : V), d = some dd ∧ H dd = some (.xd fs) ∧ fs.lookup ("what" : Str) = some v ∧ [V.str (Str.ofString p.2), v].length ≤ sizeLine ∧ ∀ t, H t = none → Q (.ref t) (upd H t (.tup [.str (Str.ofString p.2), v]))) ∧
      (b = false → heardE K Q r cls d H)
def TTh (K : PySem.W.Frag) (l : List (Addr × String)) : (XK → Hp → VK → Prop) → Hp → VK → Prop := fun tl H Q =>
  tl (heardE K Q l) H fun v H' => [V.str "told", v].length ≤ sizeLine ∧ ∀ t, H' t = none → Q (.ref t) (upd H' t (.tup [.str "told", v]))
/-- the clauses of the text -/
inductive HeardHds (n : Str) : List ExceptHandler → List String → Prop
  | nil : HeardHds n [] []
  | cons {x y : Str} {c : String} {np p1 p2 p3 p4 p5 pos' : Pos} {j k : Nat} {hds : List ExceptHandler} {cs : List String} (hx : x = Str.ofString c) (hy : y = Str.ofString c) (r : HeardHds n hds cs) :
      HeardHds n (.ExceptHandler (some (.Name x np)) (some n) [.Return (some (.Tuple [.Constant (.str y) j p1, .Attribute (.Name n p2) "what" p3] k p4)) p5] pos' :: hds) (c :: cs)
section
variable {X : Cx} {T : Tbs} {W : WX} {pos : Pos}
theorem PSs.withLen {Y : Cx} {st : List Stmt} {t : TS} (h : PSs Y st t) : PSs Y st fun D σ H => σ.length = Y.N.length → t D σ H := ⟨fun pins s σ H D I q => h.run pins s σ H D I (q I.len)⟩
/-- the readings of the clauses' suites -/
def suitesH (m i : Nat) (l : List (Addr × String)) : List (Value × (Addr → Value → Option Addr → TS)) :=
  l.map fun p => (Value.ref p.1, fun a cls d D σ H => σ.length = m → tRet (tTup (tCons (tC (.str (Str.ofString p.2))) (tCons (tXf a cls d p.1 "what" (tVar i)) tNil))) D σ H)
theorem hdsAs_of {Y : Cx} {n : Str} {i : Nat} (hN : Y.N[i]? = some n) (hv : Vis Y.env.scope n) (hdb : (n == ("__debug__" : Str)) = false) (hcd : (n == ("__classdict__" : Str)) = false) : ∀ {hds : List ExceptHandler} {cs : List String} {l : List (Addr × String)}, HeardHds n hds cs → l.map (·.2) = cs →
    (∀ p ∈ l, Names Y (Str.ofString p.2) (.ref p.1) ∧ XfC Y.K p.1 ∧ PySem.W.findIn Y.K (.ref p.1) "what" = some none) → HdsAs Y n hds (suitesH Y.N.length i l)
  | _, _, [], .nil, _, _ => .nil
  | _, _, p :: l, .nil, h, _ => by cases h
  | _, _, [], .cons _ _ _, h, _ => by cases h
  | _, _, p :: l, .cons hx hy r, h, hl => by
    simp only [List.map_cons, List.cons.injEq] at h
    obtain ⟨h1, h2⟩ := h
    subst h1 hx hy
    obtain ⟨nm, xf, no⟩ := hl p List.mem_cons_self
    refine .cons nm (fun a oe cls d pn hz hf => ?_) (hdsAs_of hN hv hdb hcd r h2 fun q hq => hl q (List.mem_cons_of_mem _ hq))
    exact PSs.withLen (pss_one (ps_ret (pe_tup (pa_cons pe_str (pa_cons (pe_xf (X := Y) xf no hz hf (pe_var (X := Y.suite a ((a, oe) :: pn)) hN hv hdb hcd)) pa_nil)))))
theorem heardE_many {K : PySem.W.Frag} {m i : Nat} {D : Ends} {σ : L2.St} (hi : i < m) : ∀ (l : List (Addr × String)) (cls : Value) (d : Option Addr) (H : Hp), heardE K D.rt l cls d H → wManyAs K i (fun _ _ _ _ => False) D (suitesH m i l) cls d σ H
  | [], cls, d, H, h => h
  | p :: l, cls, d, H, h => by
    obtain ⟨b, e1, e2, e3⟩ := h
    refine ⟨b, e1, fun hb a _ hlen => ?_, fun hb => heardE_many hi l cls d H (e3 hb)⟩
    obtain ⟨ec, dd, fs, v, ed, eH, el, hz, q⟩ := e2 hb
    exact ⟨.ref a, List.getElem?_set_self (by rw [List.length_set] at hlen; rw [hlen]; exact hi), rfl, ec, dd, fs, v, ed, eH, el, hz, q⟩
theorem heard_gives {Ng : List Str} {x a n : Str} {sg : Scope} {g : Addr} {cdg : Value} {hds : List ExceptHandler} {cs : List String} {l : List (Addr × String)} {q : Str} {p1 p2 p3 p4 p5 p8 : Pos} {j k : Nat} (hNd : Ng.Nodup) (hN1 : Ng[1]? = some n) (hln : sg.names.lookup n = some .local) (hdb : (n == ("__debug__" : Str)) = false) (hcd : (n == ("__classdict__" : Str)) = false)
    (hh : HeardHds n hds cs) (hne : hds ≠ []) (hl : l.map (·.2) = cs) (C : HeardC X.K X.mg l) (hgl : ∀ c ∈ cs, sg.names.lookup (Str.ofString c) = some .globalImplicit ∧ (Str.ofString c == ("__debug__" : Str)) = false)
    (h0 : ∀ f : Addr, (L2.start Ng [V.ref f])[0]? = some (some (V.ref f))) (h1 : 1 < Ng.length) :
    GivesTo X Ng x sg g cdg [.Try [.Return (some (.Tuple [.Constant (.str "told") j p1, .Call (.Name a p2) [] [] p3] k p4)) p5] hds [] [] p8] a q (TTh X.K l) := by
  intro f c' s H Q tl act hc h
  obtain ⟨h₀, hds', rfl⟩ : ∃ h₀ hds', hds = h₀ :: hds' := by
    cases hds with
    | nil => exact absurd rfl hne
    | cons a b => exact ⟨a, b, rfl⟩
  refine ⟨_, pss_one (ps_try_manyAs (X := (cxOf C8.CX0 X.prog X.w X.K X.mg X.base Ng x sg g cdg X.A X.stack s H C8.E0).nox) (i := 1) (n := n)
      (tb := fun W D σ H => ∃ Ech : XK, (∀ cls d σ' H', Ech cls d H' → W cls d σ' H') ∧ σ[0]? = some (some (.ref f)) ∧ H c' = some (CodeO c' q) ∧ tl Ech H (fun v H' => [V.str "told", v].length ≤ sizeLine ∧ ∀ t, H' t = none → D.rt (.ref t) (upd H' t (.tup [.str "told", v]))))
      rfl rfl hNd hN1 hln L2.takes0 (fun W pn xe tk _ => ?_) (hdsAs_of hN1 (Or.inl hln) hdb hcd hh hl fun p hp => ?_)), ?_⟩
  · refine ⟨fun pins s' σ H' D I h' => ?_⟩
    obtain ⟨Ech, hW, h1, h2, h3⟩ := h'
    have hp := act W pn xe Ech p2 p3 tk hW
    have hq := pss_one (ps_ret (pos := p5) (pe_tup (x1 := k) (pos := p4) (pa_cons (pe_str (x := "told") (j := j) (pos := p1)) (pa_cons hp pa_nil))))
    exact hq.run pins s' σ H' D I ⟨h1, h2, h3⟩
  · obtain ⟨e1, e2, e3, _⟩ := C.all p hp
    obtain ⟨g1, g2⟩ := hgl p.2 (by rw [← hl]; exact List.mem_map_of_mem hp)
    exact ⟨⟨g1, g2, .inl e1⟩, e2, e3⟩
  · exact ⟨heardE X.K Q l, fun cls d σ' H' z => heardE_many h1 l cls d H' z, h0 f, hc, h⟩
theorem contains_cons {c d : String} {l : List String} : (d :: l).contains c = (decide (c = d) || l.contains c) := by
  rw [List.contains_cons]
  by_cases h : c = d
  · subst h; simp
  · simp [h]
theorem Le.ext {ρ : List Addr} {H H1 : Hp} (e : ExtN H H1) : Le ρ H ρ H1 := ⟨⟨[], by simp⟩, fun a _ h => e a _ h (fun _ z => nomatch z), fun a _ _ h _ => e a _ h (fun _ z => nomatch z), fun b o h _ n => e b o h n, fun _ _ _ _ n => n⟩
theorem RS.ext {K : PySem.W.Frag} {ρ : List Addr} {S : Store} {H H1 : Hp} (r : RS K T ρ S H) (e : ExtN H H1) (t : Tabs T H1) : RS K T ρ S H1 :=
  ⟨r.len, r.nd, fun i a o h1 h2 => by
    have q := r.ob i a o h1 h2
    obtain ⟨u, eu, _, _, n⟩ := q.there
    exact q.mono (Le.ext e) r.nofz ((e a u eu n).trans eu.symm), t⟩
theorem tup2_new {K : PySem.W.Frag} {ρ : List Addr} {S : Store} {H : Hp} (r : RS K T ρ S H) {x : Str} {d : D} {v : V} (rd : RD K ρ H d v) : [V.str x, v].length ≤ sizeLine ∧ ∀ t, H t = none → Le ρ H ρ (upd H t (.tup [.str x, v])) ∧ RS K T ρ S (upd H t (.tup [.str x, v])) ∧ RD K ρ (upd H t (.tup [.str x, v])) (.tup [.str x, d]) (.ref t) := by
  have hz : [V.str x, v].length ≤ sizeLine := by show 2 ≤ sizeLine; decide
  exact ⟨hz, fun t ht => tup_new r ht (RDs.of (.cons rd_str (.cons rd .nil))) hz⟩
theorem heardE_of {E : XK} {ρ : List Addr} {H : Hp} {Q : VK} {c : String} {w : D} {S : Store} {C0 : Addr} {v : V} {dd : Addr} {l0 : List (Addr × String)} (hC : HeardC X.K X.mg l0) (hm : X.mg (Str.ofString c) = some (.ref C0)) (rs : RS X.K T ρ S H) (rw0 : RD X.K ρ H w v)
    (hdd : H dd = some (.xd [(("what" : Str), v)])) (h : Post X.K X.mg T E ρ H (RD X.K) Q (.ok (.tup [.str (Str.ofString c), w]) S)) (hc0 : ∃ p ∈ l0, p.2 = c) : ∀ l : List (Addr × String), (∀ p ∈ l, p ∈ l0) → (l.map (·.2)).contains c = true → heardE X.K Q l (.ref C0) (some dd) H
  | [], _, hc => by cases hc
  | p :: l, hs, hc => by
    obtain ⟨p0, hp0, e0⟩ := hc0
    have a0 := hC.all p0 hp0
    have ap := hC.all p (hs p List.mem_cons_self)
    have eC : C0 = p0.1 := by
      have := a0.1
      rw [e0, hm] at this
      exact Value.ref.inj (Option.some.inj this)
    refine ⟨decide (p0.2 = p.2), by rw [eC]; exact a0.2.2.2 p (hs p List.mem_cons_self), fun hb => ?_, fun hb => ?_⟩
    · have e1 : p0.2 = p.2 := of_decide_eq_true hb
      have e2 : C0 = p.1 := by
        have := ap.1
        rw [← e1, e0, hm] at this
        exact Value.ref.inj (Option.some.inj this)
      obtain ⟨z1, z2⟩ := tup2_new (x := Str.ofString p.2) rs rw0
      refine ⟨by rw [e2], dd, _, v, rfl, hdd, by simp [List.lookup], z1, fun t ht => ?_⟩
      obtain ⟨q1, q2, q3⟩ := z2 t ht
      rw [← e1, e0] at q1 q2 q3 ⊢
      exact h _ _ _ q1 q2 q3
    · have e1 : ¬ c = p.2 := by
        rw [← e0]; exact of_decide_eq_false hb
      rw [List.map_cons, contains_cons] at hc
      have hc' : (l.map (·.2)).contains c = true := by simpa [e1] using hc
      exact heardE_of hC hm rs rw0 hdd h ⟨p0, hp0, e0⟩ l (fun q hq => hs q (List.mem_cons_of_mem _ hq)) hc'
/-- the def that hears -/
structure HeardAt (K : PySem.W.Frag) (mg : Str → Option Value) (x a n : Str) (st : Stmt) (hds : List ExceptHandler) (cs : List String) : Prop where
  d : DefAt K mg x st [a]
  bd : ∃ (p1 p2 p3 p4 p5 p8 : Pos) (j k : Nat), defBody st = [.Try [.Return (some (.Tuple [.Constant (.str "told") j p1, .Call (.Name a p2) [] [] p3] k p4)) p5] hds [] [] p8]
  sc : FnScope [a, n] [a] (defScope st)
  hh : HeardHds n hds cs
  ne : hds ≠ []
  va : Vis (defScope st) a
  ln : (defScope st).names.lookup n = some .local
  gl : ∀ c ∈ cs, (defScope st).names.lookup (Str.ofString c) = some .globalImplicit ∧ (Str.ofString c == ("__debug__" : Str)) = false
  nm : (a == ("__debug__" : Str)) = false ∧ (a == ("__classdict__" : Str)) = false ∧ (n == ("__debug__" : Str)) = false ∧ (n == ("__classdict__" : Str)) = false
  cl : ∃ l : List (Addr × String), l.map (·.2) = cs ∧ HeardC K mg l
/-- the maker of a lambda: its code object and the table -/
structure MakerAt (X : Cx) (T : Tbs) (c P : Addr) : Prop where
  tb : TabB X.base X.mg c P
  code : X.env.code = .ref c
  mem : (P, X.env.qual ++ "<lambda>") ∈ T
  uniq : ∀ p ∈ T, p.1 = P → p.2 = X.env.qual ++ "<lambda>"
theorem ev_heard {x a n : Str} {st : Stmt} {hds : List ExceptHandler} {cs : List String} {c P : Addr} {k : Nat} {params : Arguments} {body : Expr} {scope : Scope} {f : FE} {p lpos : Pos} (D : HeardAt X.K X.mg x a n st hds cs) (M : MakerAt X T c P) (hr : Room (k + 2) X.A) (L : LamS X.env.scope scope)
    (hbody : ∀ (A : Around) (outer : List PySem.Env) (s : Shared) (H : Hp) (E : XK) (f' c' : Addr), Room k (A.deeper (lamEnv X scope s.heap.objs.size f' c')) → EV (lamCx X A outer s H E scope f' c') T (fun cls d _ H => E cls d H) body f)
    (hg : Gl X x := by rfl) (hdef : defaultsOf params X.env = ([], []) := by rfl)
    (hbind : ∀ (q : Str) (cl : List (Str × Addr)) (pm cv ctv : Value), bindArgs (PySem.W.kla_fn "<lambda>" q params body scope cl pm cv ctv) ⟨[], []⟩ = pure [] := by intro _ _ _ _ _; rfl) (hdb : (x == ("__debug__" : Str)) = false := by decide) :
    EV X T W (.Call (.Name x p) [.Lambda params body scope lpos] [] pos) (eHeard cs f) := by
  obtain ⟨g, fd, hm, F, hb⟩ := D.d.ex
  obtain ⟨oc, od, kV, doc, pm, an, cdv, ct, osl, rfl, lk, hcd⟩ := F.ex
  obtain ⟨p1, p2, p3, p4, p5, p8, j, k', hbd⟩ := D.bd
  obtain ⟨l, hl, C⟩ := D.cl
  rw [hbd] at lk hb
  have G : GivesTo X [a, n] x (defScope st) g cdv _ a (X.env.qual ++ "<lambda>") (TTh X.K l) := heard_gives (p1 := p1) (p2 := p2) (p3 := p3) (p4 := p4) (p5 := p5) (p8 := p8) (j := j) (k := k') D.sc.nd rfl D.ln D.nm.2.2.1 D.nm.2.2.2 D.hh D.ne hl C D.gl (fun _ => rfl) (by show 1 < 2; decide)
  refine PE.imp (pe_lamcall (t := fun E => TEf X T (fun cls d _ H => E cls d H) f) hg hm F.kp lk hcd hb D.sc rfl D.va G M.tb M.code M.mem M.uniq hr L hdef hbind (fun A outer s H E f' c' hr' => hbody A outer s H E f' c' hr') hdb D.nm.1 D.nm.2.1) ?_
  rintro σ H Q ⟨ρ, S, s, rs, re, h⟩
  refine ⟨rs.tabs, fun H1 eN T1 => ?_⟩
  have le := Le.ext (ρ := ρ) eN
  have rs1 := rs.ext eN T1
  refine ⟨ρ, S, s, rs1, re.le rs le, ?_⟩
  unfold eHeard at h
  cases e : f s S with
  | ok d S1 =>
    rw [e] at h
    intro ρ' H' b le' rs' rd
    obtain ⟨z1, z2⟩ := tup2_new (x := "told") rs' rd
    refine ⟨z1, fun t ht => ?_⟩
    obtain ⟨q1, q2, q3⟩ := z2 t ht
    exact h _ _ _ ((le.trans le').trans q1) q2 q3
  | ex c0 w S1 =>
    rw [e] at h
    unfold heardR at h
    dsimp only at h
    by_cases hc : cs.contains c0 = true
    · rw [if_pos hc] at h
      intro ρ' H' v dd C0 le' rs' rd hdd hmc
      have hc' : (l.map (·.2)).contains c0 = true := by rw [hl]; exact hc
      refine heardE_of C hmc rs' rd hdd (Post.le h (le.trans le')) ?_ l (fun _ h => h) hc'
      obtain ⟨p, hp, ep⟩ := List.mem_map.mp (List.contains_iff_mem.mp hc')
      exact ⟨p, hp, ep⟩
    · rw [if_neg hc] at h; exact (show False from h).elim
  | bad => rw [e] at h; exact (show False from h).elim
end
/-! ### a def that makes lambdas -/
section
variable {P : Program} {w : World} {K : PySem.W.Frag} {mg : Str → Option Value} {base : Heap} {T : Tbs}
/-- a def of the text, its code object known -/
structure DefAtC (K : PySem.W.Frag) (mg : Str → Option Value) (x : Str) (st : Stmt) (ps : List Str) (c : Addr) : Prop where
  ex : ∃ (f : Addr) (fd : FuncData), mg x = some (.ref f) ∧ Fun K x x st f fd ∧ Binds K fd ps [] ∧ fd.code = .ref c
theorem call_okC {x : Str} {st : Stmt} {N ps : List Str} {k n m : Nat} {b : FS} {c : Addr} (D : DefAtC K mg x st ps c) (S : FnScope N ps (defScope st)) (hn : ps.length = n) (hm : N.length = m)
    (hbody : ∀ (f : Addr) (A : Around) (outer : List PySem.Env) (s : Shared) (H : Hp) (E : XK), Room k (A.deeper (envOfC x (defScope st) s.heap.objs.size f (.ref c))) →
      ESs (cxOf (L2.CX P w) P w K mg base N x (defScope st) f (.ref c) A outer s H E) T (fun cls d _ H => E cls d H) (defBody st) b) : CallOk P w K mg base T (k + 1) x n (mkF n m b) := by
  obtain ⟨f, fd, hf, F, hb, hc⟩ := D.ex
  subst hn hm
  refine ⟨mkF_ar _ _ _, f, fd, ps, rfl, hf, F.kp, hb, ?_⟩
  obtain ⟨oc, od, kV, doc, pm, an, cdv, ct, osl, rfl, lk, hcd⟩ := F.ex
  have hc' : cdv = .ref c := hc
  subst hc'
  refine fn_of lk hcd S (fun vs H Q E h => h.1) fun A outer s H vs Q E hr h => ⟨_, hbody f A outer s H E hr, ?_⟩
  obtain ⟨hl, ρ, S', ds, rs, rd, h⟩ := h
  refine ⟨ρ, S', startE N.length ds, rs, re_start rd, ?_⟩
  unfold mkF at h
  rw [if_pos (by rw [rd.len, hl])] at h
  show PostS K mg T (fun cls d _ H => E cls d H) { nx := fun _ H' => Q .non H', rt := Q } ρ H (b (startE N.length ds) S')
  cases e : b (startE N.length ds) S' with
  | nx s' S1 => rw [e] at h; exact fun ρ' H' σ' le rs' re' => h ρ' H' .non le rs' rd_non
  | rt d S1 => rw [e] at h; exact h
  | bk s' S1 => rw [e] at h; exact (show False from h).elim
  | ct s' S1 => rw [e] at h; exact (show False from h).elim
  | ex c w s' S1 => rw [e] at h; exact fun ρ' H' σ' v dd C le rs' re' rd' h1 h2 => h ρ' H' v dd C le rs' rd' h1 h2
  | bad => rw [e] at h; exact h
end
/-! ### what is never reached: nothing is promised of it -/
section
variable {X : Cx} {T : Tbs} {W : WX}
theorem ev_bad {e : Expr} : EV X T W e eBad := ⟨fun _ _ _ _ _ _ ⟨_, _, _, _, _, h⟩ => (show False from h).elim⟩
theorem et_bad {e : Expr} : ET X T W e tBad := ⟨fun _ _ _ _ _ _ ⟨_, _, _, _, _, h⟩ => (show False from h).elim⟩
theorem es_bad {st : Stmt} : ES X T W st sBad := ⟨fun _ _ _ _ _ _ ⟨_, _, _, _, _, h⟩ => (show False from h).elim⟩
end
end Wk


set_option Elab.async false
set_option linter.all false
set_option maxRecDepth 100000
set_option maxHeartbeats 4000000
set_option autoImplicit false
/-! WkEnd: the end of a law: tables of code objects, the script. -/
namespace Wk
open PySem PySem.Spec PyProof.Rows L2 LamX PySem.W
/-- the tables of the head's defs are empty -/
def TopTabs (q : Program) (K : Frag) (h : Heap) : Prop := ∀ (x : Str) (c P : Addr), ((recsOf q).any fun e => e.name == x) = true → tabIn K x = some (c, P) → CodeHd h c P ∧ h.get? P = some (tabObj #[])
theorem walk_ofTop {l : PySem.W.OpenLaw} {n k : Nat} {q : Program} {loose : List Str} {XP : (Str → Option Value) → Heap → Prop} {YP : World → Heap → Prop} {d : DefRec} {K : Params → PySem.W.Frag} {CX : World → CXT} {x : Str}
    (hn : l.most = some n) (hn2 : n ≤ sizeLine) (hdf : d.params.defaults = []) (hr : Room k callerA) (hY : ∀ (w : World) (h : Heap), YP w h → (K w.params).In h)
    (F : ∀ (w : World) (mg : Str → Option Value) (fa : Addr) (h : Heap), (K w.params).In h → h.Ns mainGlobals mg → mg d.name = some (.ref fa) → TopTabs q (K w.params) h → LawAtS l w (K w.params) (CX w) k n x mg fa h)
    (hCX : ∀ (w : World) (H : Hp) (s : Shared) (e : Value) (s' : Shared), CX w [] H s (fun _ _ _ => False) e s' → False) :
    PySem.W.WalkO q loose XP YP l.row.toRowW d [] (fun f vs => PySem.call f vs) := by
  refine Att.attach_callB hn hdf fun w s₀ s₁ mg mb fa o pm cd doc a vs ns G Y ho hd hcd hmg hobj hints hlen hbits hg => ?_
  have KX := hY w _ Y
  have tt : TopTabs q (K w.params) s₁.heap := fun x c P ha ht => by
    cases e : (recsOf q).find? (fun e => e.name == x) with
    | none =>
      obtain ⟨d0, h1, h2⟩ := List.any_eq_true.mp ha
      exact absurd h2 (by simpa using List.find?_eq_none.mp e d0 h1)
    | some d0 => exact tab_of G.T KX e ht
  obtain ⟨fd, cs, sp, hT, nT, C, hb, hsp, hF⟩ := F w mg fa _ KX G.T.g hmg tt
  exact law_callTs KX G.T.g G.T.b G.T.builtins G.T.nolimit hg hT nT C G.T.bmain hobj hints (Nat.le_trans hlen hn2) hr hF hb (fun H hH hS => hsp H a ns hlen hbits hH hS) fun H e s' => hCX w H s₁ e s'
theorem rds_intsV {K : PySem.W.Frag} {ρ : List Addr} {H : Hp} : ∀ ns : List Int, RDs K ρ H (ns.map D.int) (ns.map V.int)
  | [] => by unfold List.map RDs; rfl
  | n :: ns => by
    show RDs K ρ H (D.int n :: ns.map D.int) (V.int n :: ns.map V.int)
    unfold RDs
    exact ⟨_, _, rfl, rd_int, rds_intsV ns⟩
/-- the law's promise from its function: the script comes as a frozen list or as a list of the store -/
theorem law_at {l : PySem.W.OpenLaw} {w : World} {K : PySem.W.Frag} {mg : Str → Option Value} {fa : Addr} {h : Heap} {k n : Nat} {x : Str} {Fl : Fn} {T : Tbs} {cs : List (Addr × Addr)} {fd : FuncData} {CX : CXT} (hnz : n ≤ sizeLine)
    (hcs : ∀ p ∈ cs, CodeHd h p.1 p.2 ∧ h.get? p.2 = some (tabObj #[])) (nT : ∀ p ∈ cs, K.lookup p.2 = none) (hT : ∀ t ∈ T, ∃ p ∈ cs, t.1 = p.2) (hb : ∀ (s : Shared) (u : Value), BindsTo s fd ⟨[u], []⟩ [(x, u)])
    (pure : ∀ (ns : List Int), ns.length ≤ n → (∃ S', Fl [.frz (ns.map D.int)] [] = .ok (.bl true) S') ∧ ∃ S', Fl [.ref 0] [.lst (ns.map D.int)] = .ok (.bl true) S')
    (F : ∀ base : Heap, K.In base → base.Ns mainGlobals mg → (∀ p ∈ cs, TabB base mg p.1 p.2) → FnOk l.prog w K mg base CX k fa fd [x] (spF K mg T 1 Fl)) : LawAtS l w K CX k n x mg fa h := by
  refine ⟨fd, cs, spF K mg T 1 Fl, fun p hp => (hcs p hp).2, nT, fun p hp => (hcs p hp).1, hb, fun H a ns hn _ hH hS => ?_, F⟩
  have tabs : Tabs T H := fun t ht => by
    obtain ⟨p, hp, e⟩ := hT t ht
    exact TabS.nil (by rw [e]; exact hH p hp)
  have hz : (ns.map V.int).length ≤ sizeLine := by rw [List.length_map]; exact Nat.le_trans hn hnz
  refine ⟨rfl, ?_⟩
  obtain ⟨⟨S1, e1⟩, ⟨S2, e2⟩⟩ := pure ns hn
  have frz : FrzAt K H a (ns.map V.int) → ∃ ρ S ds, RS K T ρ S H ∧ RDs K ρ H ds [.ref a] ∧ Post K mg T (fun _ _ _ => False) ρ H (RD K) (fun v _ => v = .bl true) (Fl ds S) := fun fz => by
    refine ⟨[], [], [.frz (ns.map D.int)], ⟨rfl, List.nodup_nil, fun i a o h1 _ => by simp at h1, tabs⟩, RDs.of (.cons (by unfold RD; exact ⟨a, _, rfl, fz, rds_intsV ns⟩) .nil), ?_⟩
    rw [e1]
    exact fun _ _ b _ _ r => r.bl
  rcases hS with (z | ⟨o, z⟩) | z
  · refine ⟨[a], [.lst (ns.map D.int)], [.ref 0], ⟨rfl, (by simp), fun i b o h1 h2 => ?_, tabs⟩, RDs.of (.cons (rd_ref rfl) .nil), ?_⟩
    · cases i with
      | zero =>
        cases h1; cases h2
        exact ⟨_, z, rds_intsV ns, hz⟩
      | succ i => simp at h1
    · rw [e2]
      exact fun _ _ b _ _ r => r.bl
  · exact frz ⟨hz, .inl ⟨o, z⟩⟩
  · exact frz ⟨hz, .inr z⟩
/-! ### what the written part says -/
section
variable {K : Frag} {mg : Str → Option Value} {h : Heap} {P : Program} {w : World} {base : Heap}
structure DefK (K : Frag) (x : Str) (st : Stmt) : Prop where
  ex : ∃ (f : Addr) (oc : Value) (od : Option Addr) (kV dc pm : Value) (an : Option Addr) (cd ct : Value) (sl : Array (Option Value)), nsIn K mainGlobals x = some (some (.ref f)) ∧
    K.lookup f = some ⟨oc, od, .func (fnOf x x (defArgs st) (defBody st) (defScope st) .none kV dc pm an cd ct), sl⟩ ∧ codeIn K cd x = true ∧ keepIn K (.ref f) = true
theorem defK {x : Str} {st : Stmt} {f : Addr} {oc : Value} {od : Option Addr} {kV dc pm : Value} {an : Option Addr} {cd ct : Value} {sl : Array (Option Value)} (a : nsIn K mainGlobals x = some (some (.ref f)))
    (l : K.lookup f = some ⟨oc, od, .func (fnOf x x (defArgs st) (defBody st) (defScope st) .none kV dc pm an cd ct), sl⟩) (c : codeIn K cd x = true) (k : keepIn K (.ref f) = true) : DefK K x st := ⟨⟨f, oc, od, kV, dc, pm, an, cd, ct, sl, a, l, c, k⟩⟩
abbrev BindP (x : Str) (st : Stmt) (ps : List Str) : Prop := ∀ (kV doc pm : Value) (an : Option Addr) (cdv ct : Value) (us : List Value), us.length = ps.length → bindArgs (fnOf x x (defArgs st) (defBody st) (defScope st) .none kV doc pm an cdv ct) ⟨us, []⟩ = pure (ps.zip us)
theorem DefK.at {x : Str} {st : Stmt} {ps : List Str} (D : DefK K x st) (X : K.In h) (G : h.Ns mainGlobals mg) (hb : BindP x st ps) : DefAt K mg x st ps := by
  obtain ⟨f, oc, od, kV, dc, pm, an, cd, ct, sl, a, l, c, k⟩ := D.ex
  have F := fun_mk (st := st) l c k
  exact ⟨f, _, mg_of X G a, F, F.binds hb⟩
structure DefKC (K : Frag) (x : Str) (st : Stmt) (c P : Addr) : Prop where
  ex : ∃ (f : Addr) (oc : Value) (od : Option Addr) (kV dc pm : Value) (an : Option Addr) (ct : Value) (sl : Array (Option Value)), nsIn K mainGlobals x = some (some (.ref f)) ∧
    K.lookup f = some ⟨oc, od, .func (fnOf x x (defArgs st) (defBody st) (defScope st) .none kV dc pm an (.ref c) ct), sl⟩ ∧ codeIn K (.ref c) x = true ∧ keepIn K (.ref f) = true
  tab : tabIn K x = some (c, P)
theorem defKC {x : Str} {st : Stmt} {f c P : Addr} {oc : Value} {od : Option Addr} {kV dc pm : Value} {an : Option Addr} {ct : Value} {sl : Array (Option Value)} {e : Value} {dd : Option Addr} {vs : Array Value} {sl2 : Array (Option Value)} (a : nsIn K mainGlobals x = some (some (.ref f)))
    (l : K.lookup f = some ⟨oc, od, .func (fnOf x x (defArgs st) (defBody st) (defScope st) .none kV dc pm an (.ref c) ct), sl⟩) (c1 : codeIn K (.ref c) x = true) (k : keepIn K (.ref f) = true)
    (t : K.lookup c = some ⟨e, dd, .fields vs, sl2⟩) (v : vs[11]? = some (.ref P)) : DefKC K x st c P := ⟨⟨f, oc, od, kV, dc, pm, an, ct, sl, a, l, c1, k⟩, by
      unfold tabIn
      rw [a]
      dsimp only
      rw [l]
      dsimp only [fnOf]
      rw [t]
      dsimp only
      rw [v]⟩
theorem DefKC.at {x : Str} {st : Stmt} {ps : List Str} {c P : Addr} (D : DefKC K x st c P) (X : K.In h) (G : h.Ns mainGlobals mg) (hb : BindP x st ps) : DefAtC K mg x st ps c := by
  obtain ⟨f, oc, od, kV, dc, pm, an, ct, sl, a, l, c1, k⟩ := D.ex
  have F := fun_mk (st := st) l c1 k
  exact ⟨f, _, mg_of X G a, F, F.binds hb, rfl⟩
/-- a class of errors, by the written part -/
structure ErrK (K : Frag) (c : Str) (C : Addr) : Prop where
  a : nsIn K mainGlobals c = some (some (.ref C))
  xL : ∃ (nm q : Str) (N : Addr) (bs bm : List Value) (sn : List Str) (sub : List Value) (ab : Bool) (col : Option Bool) (dd : Option Addr) (k0 k1 k2 k3 k5 : Option Value), K.lookup C = some (excClassObj nm q C N bs bm true sn sub ab col dd k0 k1 k2 k3 k5 "ValueError.__new__") ∧ PySem.HandSPX.refsVE bm = true
  sa : findIn K (.ref C) "__setattr__" = some (some (.builtin "object.__setattr__"))
  ga : findIn K (.ref C) "__getattribute__" = some (some (.builtin "BaseException.__getattribute__"))
  gg : findIn K (.ref C) "__getattr__" = some none
  nw : findIn K (.ref C) "what" = some none
  eC : subIn K (.ref C) (.type "BaseException") = some true
  tC : typeIn K (.ref C) = some (.type "type")
  kC : keepIn K (.ref C) = true
  hd : hasDictIn K C = true
  ic : isClsIn K C = true
  ini : ∃ (fI : Addr), findIn K (.ref C) "__init__" = some (some (.ref fI)) ∧ typeIn K (.ref fI) = some (.type "function")
theorem errK {c : Str} {C R : Addr} {nm q : Str} {N : Addr} {bs : List Value} {sn : List Str} {sub : List Value} {ab : Bool} {col : Option Bool} {dd : Option Addr} {m0 m1 m2 m3 m5 : Option Value} {fI : Addr} (a : nsIn K mainGlobals c = some (some (.ref C)))
    (xL : K.lookup C = some (excClassObj nm q C N bs [.ref R, .type "ValueError", .type "Exception", .type "BaseException", .type "object"] true sn sub ab col dd m0 m1 m2 m3 m5 "ValueError.__new__"))
    (sa : findIn K (.ref C) "__setattr__" = some (some (.builtin "object.__setattr__"))) (ga : findIn K (.ref C) "__getattribute__" = some (some (.builtin "BaseException.__getattribute__"))) (gg : findIn K (.ref C) "__getattr__" = some none) (nw : findIn K (.ref C) "what" = some none)
    (eC : subIn K (.ref C) (.type "BaseException") = some true) (tC : typeIn K (.ref C) = some (.type "type")) (kC : keepIn K (.ref C) = true) (hd : hasDictIn K C = true) (ic : isClsIn K C = true)
    (i1 : findIn K (.ref C) "__init__" = some (some (.ref fI))) (i2 : typeIn K (.ref fI) = some (.type "function")) : ErrK K c C := ⟨a, ⟨nm, q, N, bs, _, sn, sub, ab, col, dd, m0, m1, m2, m3, m5, xL, by rfl⟩, sa, ga, gg, nw, eC, tC, kC, hd, ic, fI, i1, i2⟩
theorem exm_of {C S : Addr} {b : Bool} (h1 : subIn K (.ref S) (.type "BaseException") = some true) (h2 : isClsIn K S = true) (h3 : typeIn K (.ref S) = some (.type "type")) (h4 : subIn K (.ref C) (.ref S) = some b) : exmOne K (.ref C) (.ref S) = some b := by
  have e1 : (subIn K (.ref S) (.type "BaseException") == some true) = true := by rw [h1] <;> rfl
  have e2 : ((clsIn K S).isSome && typeIn K (.ref S) == some (.type "type")) = true := by
    have h2' : (clsIn K S).isSome = true := h2
    rw [h2', h3] <;> rfl
  show (if (subIn K (.ref S) (.type "BaseException") == some true) = true then (if ((clsIn K S).isSome && typeIn K (.ref S) == some (.type "type")) = true then subIn K (.ref C) (.ref S) else none) else none) = some b
  rw [if_pos e1, if_pos e2]
  exact h4
theorem ErrK.xf {c : Str} {C : Addr} (E : ErrK K c C) : XfC K C := ⟨E.ga, E.gg, E.eC, E.hd⟩
theorem ErrK.exc {c : String} {C : Addr} (E : ErrK K (Str.ofString c) C) (X : K.In h) (G : h.Ns mainGlobals mg) (hI : ∀ fI : Addr, findIn K (.ref C) "__init__" = some (some (.ref fI)) → ∃ fd : FuncData, Binds K fd ["self", "what"] [] ∧ FnOk P w K mg base CX0 1 fI fd ["self", "what"] (spRef K)) : ExcAt P w K mg base c := by
  obtain ⟨fI, i1, i2⟩ := E.ini
  obtain ⟨fd, b1, b2⟩ := hI fI i1
  obtain ⟨nm, q, N, bs, bm, sn, sub, ab, col, dd, k0, k1, k2, k3, k5, xL, hbm⟩ := E.xL
  exact ⟨C, fI, fd, mg_of X G E.a, ⟨⟨nm, q, N, bs, bm, sn, sub, ab, col, dd, k0, k1, k2, k3, k5, xL, hbm⟩, E.sa, E.eC, E.tC, E.kC⟩, E.nw, i1, i2, b1, b2⟩
/-- the clauses' classes -/
theorem heardC {l : List (Addr × String)} (X : K.In h) (G : h.Ns mainGlobals mg) (E : ∀ p ∈ l, ErrK K (Str.ofString p.2) p.1) (S : ∀ p ∈ l, ∀ q ∈ l, subIn K (.ref p.1) (.ref q.1) = some (decide (p.2 = q.2))) : HeardC K mg l :=
  ⟨fun p hp => ⟨mg_of X G (E p hp).a, (E p hp).xf, (E p hp).nw, fun q hq => exm_of (E q hq).eC (E q hq).ic (E q hq).tC (S p hp q hq)⟩⟩
end
end Wk


set_option Elab.async false
set_option linter.all false
set_option maxRecDepth 100000
set_option maxHeartbeats 4000000
set_option autoImplicit false
/-! WkMore: slices, a tuple turned about, texts of numbers. -/
namespace HT
open PySem PySem.Spec PyProof.Rows L2
section
variable {prog : Program} {w : World} {A : Around} {E : Value → Shared → Prop} {s : Shared}
theorem wk_adjust_rev (n : Nat) : Builtin.Slice.sliceAdjust none none (-1) (n : Int) = ((n : Int) - 1, -1) := by
  unfold Builtin.Slice.sliceAdjust
  rfl
theorem wk_places_rev (n : Nat) : Builtin.Slice.slicePlaces ((n : Int) - 1) (-1) (-1) = n := by
  unfold Builtin.Slice.slicePlaces
  have e : ((n : Int) - 1 - -1 - 1) / - -1 = (n : Int) - 1 := by
    rw [Int.neg_neg, Int.ediv_one]; omega
  simp only [e]
  split
  · omega
  · split <;> omega
theorem wk_sliceApplied_rev {sl : Addr} {vl vu vs : Value} {n : Nat} {Q : Int × Int × Nat → Shared → Prop} (hs : s.heap.IsSliceOf sl vl vu vs) (pl : IsPart vl none) (pu : IsPart vu none) (ps : IsPart vs (some (-1)))
    (h : Q ((n : Int) - 1, -1, n) s) : wpAny (model prog w) A (Builtin.Slice.sliceApplied (.ref sl) (pure (n : Int))) Q E s := by
  obtain ⟨os, hos, hcs, hds⟩ := id hs
  unfold Builtin.Slice.sliceApplied Builtin.Slice.sliceFields
  refine wpAny_bind (wpAny_bind (wpAny_field hos hds (x := vl) rfl (wpAny_bind (wpAny_field hos hds (x := vu) rfl (wpAny_bind (wpAny_field hos hds (x := vs) rfl (wpAny_pure ?_)))))))
  refine wpAny_bind (slicePart_ ps ?_)
  show wpAny _ _ (if ((-1 : Int) == 0) = true then _ else _) _ _ s
  rw [if_neg (by decide)]
  refine wpAny_bind (slicePart_ pl (wpAny_bind (slicePart_ pu (wpAny_bind (wpAny_pure ?_)))))
  show wpAny _ _ (match Builtin.Slice.sliceAdjust none none (-1) (n : Int) with | (lo, hi) => pure (lo, (-1 : Int), Builtin.Slice.slicePlaces lo hi (-1))) _ _ s
  rw [wk_adjust_rev]
  show wpAny _ _ (pure ((n : Int) - 1, (-1 : Int), Builtin.Slice.slicePlaces ((n : Int) - 1) (-1) (-1))) _ _ s
  rw [wk_places_rev]
  exact wpAny_pure h
theorem wk_filterMap_some {α β : Type} {f : α → Option β} {g : α → β} : ∀ {l : List α}, (∀ a ∈ l, f a = some (g a)) → l.filterMap f = l.map g
  | [], _ => rfl
  | a :: l, h => by
    rw [List.filterMap_cons, h a List.mem_cons_self]
    dsimp only
    rw [wk_filterMap_some fun b hb => h b (List.mem_cons_of_mem _ hb), List.map_cons]
theorem wk_pick_rev (xs : Array Value) : ((List.range xs.size).filterMap fun (m : Nat) => xs[(((xs.size : Int) - 1) + (m : Int) * (-1)).toNat]?).toArray = xs.toList.reverse.toArray := by
  congr 1
  have e : (List.range xs.size).filterMap (fun (m : Nat) => xs[(((xs.size : Int) - 1) + (m : Int) * (-1)).toNat]?) = (List.range xs.size).map fun (m : Nat) => xs.toList.reverse.getD m .none := by
    refine wk_filterMap_some fun m hm => ?_
    have hm' := List.mem_range.mp hm
    have e1 : (((xs.size : Int) - 1) + (m : Int) * (-1)).toNat = xs.size - 1 - m := by omega
    have hl : m < xs.toList.reverse.length := by simpa using hm'
    rw [e1, List.getD_eq_getElem?_getD, List.getElem?_eq_getElem hl, Option.getD_some, List.getElem_reverse]
    simp
  rw [e]
  refine List.ext_getElem (by simp) fun i h1 h2 => ?_
  simp [List.getD_eq_getElem?_getD]
  simp at h1
  rw [List.getElem?_eq_getElem (by simpa using h1)]
  simp
theorem wk_getItem_tuple_rev {t sl : Addr} {items : Array Value} {vl vu vs : Value} {Q : Value → Shared → Prop} (ht : IsTup s.heap t items) (hs : s.heap.IsSliceOf sl vl vu vs) (pl : IsPart vl none) (pu : IsPart vu none) (ps : IsPart vs (some (-1)))
    (h : Q (.ref s.heap.objs.size) { s with heap := s.heap.push { cls := .type "tuple", data := .seq items.toList.reverse.toArray } })
    (hsz : items.size ≤ sizeLine) : wpAny (model prog w) A (getItem (.ref t) (.ref sl)) Q E s := by
  have htake : sizeOk (.seq items.toList.reverse.toArray) := by
    show items.toList.reverse.toArray.size ≤ sizeLine
    rw [List.size_toArray, List.length_reverse, Array.length_toList]
    exact hsz
  obtain ⟨os, hos, hcs, hds⟩ := id hs
  have hTs : s.TypeIs (.ref sl) "slice" := ⟨os, hos, hcs⟩
  unfold getItem
  try with_reducible refine wpAny_holding ?_
  first | refine wpAny_bind (wpAny_pure ?_) | skip
  refine wpAny_bind (wpAny_sequenceKey ht.typeIs (by decide) ?_)
  refine wpAny_bind (wpAny_callSpecial?_slot (name := Str.ofString "__getitem__") ht.typeIs PyProof.Rows.slot_tuple_getitem
    (wpAny_call_entry PyProof.Rows.slot_tuple_getitem ht.typeIs entry_tuple_getitem ?_ (args_tuple_getitem _ _)))
  show wpAny _ _ (Builtin.Tuple.tupleItemsOf (.ref t) >>= _) _ _ s
  refine wpAny_bind (tupleItemsOf_ ht ?_)
  refine wpAny_bind (wpAny_typeOf hTs ?_)
  rw [if_pos (by decide)]
  refine wpAny_bind (wk_sliceApplied_rev hs pl pu ps ?_)
  have hno : ¬ ((((items.size : Int) - 1) == 0 && (-1 : Int) == 1 && items.size == items.size) = true) := by
    intro q
    rw [Bool.and_eq_true, Bool.and_eq_true] at q
    exact absurd q.1.2 (by decide)
  show wpAny _ _ (if (((items.size : Int) - 1) == 0 && (-1 : Int) == 1 && items.size == items.size) = true then _ else _) _ _ s
  rw [if_neg hno, wk_pick_rev]
  first
    | exact wpAny_bind (m := Builtin.Tuple.tupleExact _) (wpAny_newObj_type (wpAny_pure ⟨_, rfl, wpAny_pure h⟩) htake)
    | exact wpAny_bind (m := Builtin.Tuple.tupleExact _) (wpAny_newObj_type (wpAny_bind (wpAny_pure (wpAny_pure ⟨_, rfl, wpAny_pure h⟩))) htake)
    | exact wpAny_bind (wpAny_bind (m := Builtin.Tuple.tupleExact _) (wpAny_newObj_type (wpAny_pure (wpAny_pure ⟨_, rfl, wpAny_pure h⟩)) htake))
    | exact wpAny_bind (wpAny_bind (m := Builtin.Tuple.tupleExact _) (wpAny_newObj_type (wpAny_pure ⟨_, rfl, wpAny_pure h⟩) htake))
end
end HT
namespace L2
open PySem PySem.Spec PyProof.Rows
def tRevA (K : PySem.W.Frag) (te : TE) : TE := fun σ H Q => te σ H fun x H1 => ∃ a xs, x = .ref a ∧ ((SqL K H1 a xs ∧ ∀ p, H1 p = none → Q (.ref p) (upd H1 p (.lst xs.reverse))) ∨ (SqT K H1 a xs ∧ ∀ p, H1 p = none → Q (.ref p) (upd H1 p (.tup xs.reverse))))
theorem pe_revA {X : Cx} {e : Expr} {te : TE} {k : Nat} {p1 p2 p3 pos : Pos} (he : PE X e te) : PE X (.Subscript e (.Slice none none (some (.UnaryOp .USub (.Constant (.int 1) k p1) p2)) p3) pos) (tRevA X.K te) := by
  refine ⟨fun pins s σ H Q I h => ?_⟩
  refine Subscript_ (thn (he.run pins s σ H _ I h) fun v s1 ⟨x, H1, I1, r1, q1⟩ => ?_)
  obtain ⟨a, xs, ex, q1⟩ := q1
  subst ex
  cases r1
  have hst : PO X (some (.UnaryOp .USub (.Constant (.int 1) k p1) p2)) (tPart (tUn (rU fun i => .int (-i)) (tC (.int 1)))) := po_some (pe_un un_neg pe_int)
  refine wpAny_Slice (thn (po_none.run pins s1 σ H1 (fun o H2 => o = none ∧ H2 = H1) I1 ⟨rfl, rfl⟩) fun vl s2 ⟨l, H2, I2, pl, el, e2⟩ => ?_)
  subst el e2
  refine thn (po_none.run pins s2 σ H2 (fun o H3 => o = none ∧ H3 = H2) I2 ⟨rfl, rfl⟩) fun vu s3 ⟨u, H3, I3, pu, eu, e3⟩ => ?_
  subst eu e3
  refine thn (hst.run pins s3 σ H3 (fun o H4 => o = some (-1) ∧ H4 = H3) I3 ⟨1, rfl, -1, rfl, rfl, rfl⟩) fun vs s4 ⟨o, H4, I4, ps, eo, e4⟩ => ?_
  subst eo e4
  have I5 : Inv X pins σ H4 { s4 with heap := s4.heap.push { cls := .type "slice", data := .fields #[vl, vu, vs] } } := I4.kept (t' := s4.toks) fun b ob q => Heap.get?_push_of_some _ q
  show wpAny (model X.prog X.w) X.A (subscriptTail e (.Slice none none (some (.UnaryOp .USub (.Constant (.int 1) k p1) p2)) p3) (.ref a) (.ref s4.heap.objs.size)) (EP X pins σ Q) X.xe { s4 with heap := s4.heap.push { cls := .type "slice", data := .fields #[vl, vu, vs] } }
  rcases q1 with ⟨hx, q⟩ | ⟨hx, q⟩
  · obtain ⟨its, r, ht, hz⟩ := I5.list hx
    have hlen := r.length
    refine tail_any (ops := [.ref a, .ref s4.heap.objs.size]) ht.isList.typeIs (PySem.slot_list_getitem.lookup) ?_ (by with_unfolding_all rfl)
    refine wpAny_getItem_list_slice ht.isList (Heap.IsSliceOf.new _ vl vu vs) pl pu ps (by decide) ?_ (by rw [List.size_toArray]; omega)
    rw [PySem.W.krv_pick]
    refine ⟨.ref _, _, I5.laid (t' := s4.toks) (o := .lst xs.reverse) (fun b ob q => Heap.get?_push_of_some _ q) (Nat.le_refl _) ?_, rfl, q _ (I5.hok.fresh (Nat.le_refl _))⟩
    exact ⟨by rw [List.length_reverse]; exact hz, _, 0, r.reverse, Heap.get?_push_size _ rfl⟩
  · obtain ⟨its, r, ht, hz⟩ := I5.tuple hx
    have hlen := r.length
    refine tail_any (ops := [.ref a, .ref s4.heap.objs.size]) ht.typeIs (PyProof.Rows.slot_tuple_getitem.lookup) ?_ (by with_unfolding_all rfl)
    refine HT.wk_getItem_tuple_rev ht (Heap.IsSliceOf.new _ vl vu vs) pl pu ps ?_ (by rw [List.size_toArray]; omega)
    refine ⟨.ref _, _, I5.laid (t' := s4.toks) (o := .tup xs.reverse) (fun b ob q => Heap.get?_push_of_some _ q) (Nat.le_refl _) ?_, rfl, q _ (I5.hok.fresh (Nat.le_refl _))⟩
    exact ⟨by rw [List.length_reverse]; exact hz, _, r.reverse, IsTup.new _ _⟩
end L2
namespace Wk
open PySem PySem.Spec PyProof.Rows L2
theorem slIx_eq (n d : Nat) (o : Option Int) : slIx n d o = HT.sIx n d o := by
  cases o with
  | none => rfl
  | some v =>
    show (if 0 ≤ v then min v.toNat n else (v + n).toNat) = (if v < 0 then (v + (n : Int)).toNat else min v.toNat n)
    by_cases h : 0 ≤ v
    · rw [if_pos h, if_neg (by omega)]
    · rw [if_neg h, if_pos (by omega)]
theorem cutD_pair {α : D → V → Prop} {ds : List D} {vs : List V} (r : Paired α ds vs) (lo hi : Option Int) : Paired α (cutD ds lo hi) (cutV vs lo hi) := by
  unfold cutD cutV
  rw [slIx_eq, slIx_eq, r.length]
  exact Paired.takeN _ (Paired.dropN _ r)
section
variable {X : Cx} {T : Tbs} {W : WX} {pos : Pos} {a b c : Expr} {fa fb fc : FE}
/-- a slice's part -/
def TOf (X : Cx) (T : Tbs) (W : WX) (f : FO) : TO := fun σ H Q => ∃ ρ S s, RS X.K T ρ S H ∧ RE X.K ρ H s σ ∧ Post X.K X.mg T (WE W σ) ρ H (fun _ _ x y => x = y) Q (f s S)
abbrev EO (X : Cx) (T : Tbs) (W : WX) (e : Option Expr) (f : FO) : Prop := PO X e (TOf X T W f)
theorem PO.imp {X : Cx} {e : Option Expr} {t t' : TO} (h : PO X e t) (i : ∀ σ H Q, t' σ H Q → t σ H Q) : PO X e t' := ⟨fun pins s σ H Q I q => h.run pins s σ H Q I (i σ H Q q)⟩
theorem eo_none : EO X T W none oNone := by
  refine PO.imp po_none ?_
  rintro σ H Q ⟨ρ, S, s, rs, re, h⟩
  exact h ρ H none (Le.refl _ _) rs rfl
theorem eo_some (he : EV X T W a fa) : EO X T W (some a) (oSome fa) := by
  refine PO.imp (po_some he) ?_
  rintro σ H Q ⟨ρ, S, s, rs, re, h⟩
  refine ⟨ρ, S, s, rs, re, (Post.bind (R := RD X.K) h).imp ?_⟩
  rintro v H1 ⟨ρ1, S1, x, l1, rs1, rd1, h1⟩
  cases x with
  | int i => exact ⟨i, rd1.int, h1 ρ1 H1 (some i) (Le.refl _ _) rs1 rfl⟩
  | _ => exact (show False from h1).elim
theorem ev_slice {lo hi : Option Expr} {fl fh : FO} {p2 : Pos} (he : EV X T W a fa) (hl : EO X T W lo fl) (hh : EO X T W hi fh) : EV X T W (.Subscript a (.Slice lo hi none p2) pos) (eSlice fa fl fh) := by
  refine PE.imp (pe_slice (SlR.or sl_tupA sl_list) he hl hh) ?_
  rintro σ H Q ⟨ρ, S, s, rs, re, h⟩
  refine ⟨ρ, S, s, rs, re, (Post.bind (R := RD X.K) h).imp ?_⟩
  rintro v H1 ⟨ρ1, S1, x, l1, rs1, rd1, h1⟩
  refine ⟨ρ1, S1, s, rs1, re.le rs l1, (Post.bind (R := fun _ _ x y => x = y) h1).imp ?_⟩
  rintro l H2 ⟨ρ2, S2, l', l2, rs2, el, h2⟩
  obtain rfl : l' = l := el
  refine ⟨ρ2, S2, s, rs2, (re.le rs l1).le rs1 l2, (Post.bind (R := fun _ _ x y => x = y) h2).imp ?_⟩
  rintro u H3 ⟨ρ3, S3, u', l3, rs3, eu, h3⟩
  obtain rfl : u' = u := eu
  have rd3 := (rd1.le rs1 l2).le rs2 l3
  cases x with
  | tup ds =>
    obtain ⟨p, vs, rfl, ta, ra⟩ := rd3.tup
    refine .inl ⟨p, vs, rfl, ta.sq, fun hw => ?_, fun _ q hq => ?_⟩
    · have e : cutD ds l' u' = ds := by
        unfold cutD
        rw [slIx_eq, slIx_eq, ra.len, hw.1, hw.2, List.drop_zero, Nat.sub_zero, ← ra.len, List.take_length]
      have h3' : Post X.K X.mg T (WE W σ) ρ3 H3 (RD X.K) Q (.ok (.tup (cutD ds l' u')) S3) := h3
      rw [e] at h3'
      exact h3' ρ3 H3 _ (Le.refl _ _) rs3 rd3
    · obtain ⟨q1, q2, q3⟩ := tup_new rs3 hq (RDs.of (cutD_pair ra.pair l' u')) (Nat.le_trans (cutV_length vs l' u') ta.1)
      exact h3 _ _ _ q1 q2 q3
  | ref r =>
    unfold slD at h3
    dsimp only at h3
    split at h3
    · rename_i ds e
      obtain ⟨p, vs, rfl, hp, hv, ra, za⟩ := rs3.lstAt rd3 e
      refine .inr ⟨p, vs, rfl, SqL.of hv, fun q hq => ?_⟩
      obtain ⟨q1, q2, q3⟩ := lst_new rs3 hq (RDs.of (cutD_pair ra.pair l' u')) (Nat.le_trans (cutV_length vs l' u') za)
      exact h3 _ _ _ q1 q2 q3
    · exact (show False from h3).elim
  | _ => exact (show False from h3).elim
theorem ev_revA {k : Nat} {p1 p2 p3 : Pos} (ha : EV X T W a fa) : EV X T W (.Subscript a (.Slice none none (some (.UnaryOp .USub (.Constant (.int 1) k p1) p2)) p3) pos) (eUn fRevA fa) := by
  refine PE.imp (pe_revA ha) ?_
  rintro σ H Q ⟨ρ, S, s, rs, re, h⟩
  refine ⟨ρ, S, s, rs, re, (Post.bind (R := RD X.K) h).imp ?_⟩
  rintro v H1 ⟨ρ1, S1, x, l1, rs1, rd1, h1⟩
  cases x with
  | tup ds =>
    obtain ⟨p, vs, rfl, ta, ra⟩ := rd1.tup
    refine ⟨p, vs, rfl, .inr ⟨ta.sq, fun q hq => ?_⟩⟩
    obtain ⟨q1, q2, q3⟩ := tup_new rs1 hq (RDs.of (Paired.rev ra.pair)) (by rw [List.length_reverse]; exact ta.1)
    exact h1 _ _ _ q1 q2 q3
  | ref l =>
    unfold fRevA fRevL at h1
    dsimp only at h1
    split at h1
    · rename_i ds e
      obtain ⟨p, vs, rfl, hp, hv, ra, za⟩ := rs1.lstAt rd1 e
      refine ⟨p, vs, rfl, .inl ⟨SqL.of hv, fun q hq => ?_⟩⟩
      obtain ⟨q1, q2, q3⟩ := lst_new rs1 hq (RDs.of (Paired.rev ra.pair)) (by rw [List.length_reverse]; exact za)
      exact h1 _ _ _ q1 q2 q3
    · exact (show False from h1).elim
  | _ => exact (show False from h1).elim
theorem os_notB : OpR X (compareOp .IsNot) (fun x y H Q => ∃ a b, x = .bl a ∧ y = .bl b ∧ Q (.bl (!decide (a = b))) H) ∧ OpS X T (fun x y H Q => ∃ a b, x = .bl a ∧ y = .bl b ∧ Q (.bl (!decide (a = b))) H) oNotB := by
  refine ⟨op_isnot_bl, ?_⟩
  intro E ρ S H x y v w Q rs rx ry h
  cases x with
  | bl i =>
    cases y with
    | bl j => exact ⟨i, j, rx.bl, ry.bl, h ρ H _ (Le.refl _ _) rs rd_bl⟩
    | _ => exact (show False from h).elim
  | _ => cases y <;> exact (show False from h).elim
abbrev rStr : List V → Hp → VK → Prop := fun xs H Q => (fun xs H Q => ∃ i, xs = [.int i] ∧ i.natAbs.log2 < 1920 ∧ Q (.str (toString i)) H) xs H Q ∨ (fun xs H Q => ∃ a, xs = [.str a] ∧ Q (.str a) H) xs H Q
theorem os_str : CallR X (.type "str") rStr ∧ C1S X T rStr fStrI := by
  refine ⟨CallR.or call_str_int SkE.call_str_str, ?_⟩
  intro E ρ S H x v Q rs rx h
  cases x with
  | int i =>
    unfold fStrI at h
    dsimp only at h
    by_cases c : i.natAbs.log2 < 1920
    · rw [if_pos c] at h
      exact .inl ⟨i, by rw [rx.int], c, h ρ H _ (Le.refl _ _) rs rd_str⟩
    · rw [if_neg c] at h; exact (show False from h).elim
  | str z => exact .inr ⟨z, by rw [rx.str], h ρ H _ (Le.refl _ _) rs rd_str⟩
  | _ => exact (show False from h).elim
end
end Wk


set_option Elab.async false
set_option linter.all false
set_option maxRecDepth 100000
set_option maxHeartbeats 4000000
set_option autoImplicit false
/-! WkMore2: all, any of a list of truths; where a thing stands in a list, a thing taken out of a list; starred lists. -/
namespace L2
open PySem PySem.Spec PyProof.Rows
section
variable {X : Cx}
/-- l.remove(x): the first equal one is gone -/
def rRemD (K : PySem.W.Frag) : V → List V → Hp → VK → Prop := fun x xs H Q => ∃ (a : Addr) (y : V) (ys : List V) (d : PyData) (ds : List PyData) (j : Nat) (z : PyData), x = V.ref a ∧ xs = [y] ∧ H a = some (.lst ys) ∧ DpAll K H ys ds ∧ Dp K H y d ∧
  SeqAt.shaped (.list ds) = true ∧ SeqAt.shaped d = true ∧ ds[j]? = some z ∧ PyData.eqv z d = true ∧ (∀ (m : Nat) (z' : PyData), m < j → ds[m]? = some z' → PyData.eqv z' d = false) ∧ Q .non (upd H a (.lst (ys.eraseIdx j)))
theorem mt_remD (hu : X.A.units + 65 < cLine) : MtR X "list.remove" (rRemD X.K) := by
  intro pins s σ H x xs v us Q I rx rxs h
  obtain ⟨a, y, ys, d, ds, j, z, rfl, rfl, hH, hl, hy, sl, sd, hz, hzj, hno, q⟩ := h
  cases rx
  cases rxs with
  | cons ry rt =>
    rename_i uy ut
    cases rt
    obtain ⟨bs, r1⟩ := Dp.reads I d y uy hy ry
    have hxs : PyData.canLayAll0 ds = true := SeqAt.canLay_of_shaped sl
    have hroom : X.A.units + 1 + min (PyData.depthAll ds) d.depth < cLine := room_in_shaped sd hu
    obtain ⟨zl, its, n, rv, hlen, ho⟩ := I.lstM hH
    obtain ⟨as, h4⟩ := Dp.readsAll I ds _ its hl rv
    have hn : its.length = ds.length := SeqAt.ReadsAll.length ds its as h4
    have hmap : its.map (SeqAt.readOf s.heap) = ds := SeqAt.readsAll_map ds its as hxs h4
    obtain ⟨hjd, _⟩ := List.getElem?_eq_some_iff.mp hz
    have hjl : j < its.length := by omega
    have hj : j < its.toArray.size := by simpa using hjl
    have at_ : ∀ (m : Nat) (hm : m < its.toArray.size) (z' : PyData), ds[m]? = some z' → SeqAt.readOf s.heap its.toArray[m] = z' := by
      intro m hm z' hz'
      have hml : m < its.length := by simpa using hm
      rw [← hmap, List.getElem?_map, List.getElem?_eq_getElem hml] at hz'
      have e1 : SeqAt.readOf s.heap its[m] = z' := Option.some.inj (show some (SeqAt.readOf s.heap its[m]) = some z' from hz')
      simpa using e1
    refine call_meets PySem.F.slot_list_remove ⟨_, ho, rfl⟩ PySem.F.entry_list_remove (PySem.F.args_list_remove_2 _ _)
      (SeqAt.list_removeAt a its.toArray n none #[] uy (fun u => PyData.eqv (SeqAt.readOf s.heap u) d) j hj ?_ ?_ (by rw [List.size_toArray]; omega)) ⟨ho, SeqAt.items_eqAt (vs := its.toArray) (show ReadsAll s.heap its.toArray.toList ds as from h4) r1 hxs (SeqAt.canLay_of_shaped sd) hroom, ?_⟩
    · show PyData.eqv (SeqAt.readOf s.heap its.toArray[j]) d = true
      rw [at_ j hj z hz]
      exact hzj
    · intro m hm hmj
      have hmd : m < ds.length := by omega
      have hz' : ds[m]? = some ds[m] := List.getElem?_eq_getElem hmd
      show PyData.eqv (SeqAt.readOf s.heap its.toArray[m]) d = false
      rw [at_ m hm _ hz']
      exact hno m _ hmj hz'
    · refine ⟨.non, _, I.lset (its' := its.eraseIdx j) hH ho ?_ (rv.eraseIdx j) ?_, rfl, q⟩
      · show its.toArray.eraseIdxIfInBounds j = (its.eraseIdx j).toArray
        rw [List.eraseIdxIfInBounds_toArray]
      · have := len_erase ys j
        omega
end
end L2
namespace Wk
open PySem PySem.Spec PyProof.Rows L2
section
variable {X : Cx} {T : Tbs} {W : WX} {pos : Pos} {a b c : Expr} {fa fb fc : FE}
theorem blsD_v {K : PySem.W.Frag} {ρ : List Addr} {H : Hp} : ∀ {ds : List D} {vs : List V} {ns : List Bool}, blsD ds = some ns → RDs K ρ H ds vs → vs = ns.map V.bl
  | [], vs, ns, h, r => by unfold blsD at h; cases h; unfold RDs at r; subst r; rfl
  | d :: ds, vs, ns, h, r => by
    unfold RDs at r
    obtain ⟨v, w, rfl, r1, r2⟩ := r
    cases d with
    | bl i =>
      unfold blsD at h
      split at h
      · rename_i is e
        cases h
        rw [blsD_v e r2, r1.bl]; rfl
      · cases h
    | _ => unfold blsD at h; cases h
theorem allBy_s {f : List Bool → Bool} : C1S X T (fun vs H Q => ∃ (a : Addr) (bs : List Bool), vs = [V.ref a] ∧ SqL X.K H a (bs.map V.bl) ∧ Q (.bl (f bs)) H) (fAllBy f) := by
  intro E ρ S H x v Q rs rx h
  cases x with
  | ref l =>
    unfold fAllBy at h
    dsimp only at h
    cases e0 : S[l]? with
    | none => rw [e0] at h; exact (show False from h).elim
    | some ob =>
      rw [e0] at h
      cases ob with
      | lst ds =>
        dsimp only at h
        cases e1 : blsD ds with
        | none => rw [e1] at h; exact (show False from h).elim
        | some bs =>
          rw [e1] at h
          obtain ⟨p, vs, rfl, hp, hv, ra, za⟩ := rs.lstAt rx e0
          have ev := blsD_v e1 ra
          subst ev
          exact ⟨p, bs, rfl, SqL.of hv, h ρ H _ (Le.refl _ _) rs rd_bl⟩
      | _ => exact (show False from h).elim
  | _ => exact (show False from h).elim
theorem os_all (hc : X.calm = true) : CallR X (.builtin "all") (rAll X.K) ∧ C1S X T (rAll X.K) fAll := ⟨cr_all hc, allBy_s⟩
theorem os_any (hc : X.calm = true) : CallR X (.builtin "any") (rAny X.K) ∧ C1S X T (rAny X.K) fAny := ⟨cr_any hc, allBy_s⟩

/-! ### where a thing stands -/
theorem pyPs_map : ∀ qs : List P, pyPs qs = qs.map pyP
  | [] => by simp [pyPs]
  | q :: qs => by simp [pyPs, pyPs_map qs]
theorem idxD_at {ρ : List Addr} {S : Store} {H : Hp} {y : D} {l j : Nat} {v w : V} (rs : RS X.K T ρ S H) (rx : RD X.K ρ H (.ref l) v) (ry : RD X.K ρ H y w) (h : idxD S y l = some j) :
    ∃ (d : PyData) (ds : List PyData) (z : PyData), Dp X.K H v (.list ds) ∧ Dp X.K H w d ∧ SeqAt.shaped (.list ds) = true ∧ SeqAt.shaped d = true ∧ ds[j]? = some z ∧ PyData.eqv z d = true ∧ ∀ (m : Nat) (z' : PyData), m < j → ds[m]? = some z' → PyData.eqv z' d = false := by
  unfold idxD at h
  cases e1 : toP S 60 y with
  | none => rw [e1] at h; cases h
  | some p =>
    cases e2 : toP S 60 (.ref l) with
    | none => rw [e1, e2] at h; cases h
    | some q =>
      rw [e1, e2] at h
      cases q with
      | lst qs =>
        dsimp only at h
        obtain ⟨a1, a2, a3⟩ := toP_dp rs 60 y p w e1 ry
        obtain ⟨b1, b2, b3⟩ := toP_dp rs 60 (.ref l) (.lst qs) v e2 rx
        have s1 : SeqAt.shaped (pyP p) = true := by unfold SeqAt.shaped; rw [a2, decide_eq_true (by omega)]; rfl
        have s2 : SeqAt.shaped (pyP (.lst qs)) = true := by unfold SeqAt.shaped; rw [b2, decide_eq_true (by omega)]; rfl
        unfold pyP at b1 s2
        rw [pyPs_map] at b1 s2
        obtain ⟨h1, h2, h3⟩ := List.findIdx?_eq_some_iff_getElem.mp h
        refine ⟨pyP p, qs.map pyP, pyP qs[j], b1, a1, s2, s1, by rw [List.getElem?_map, List.getElem?_eq_getElem h1]; rfl, by rw [eqv_py]; exact h2, fun m z' hm hz' => ?_⟩
        have hml : m < qs.length := by omega
        rw [List.getElem?_map, List.getElem?_eq_getElem hml] at hz'
        cases hz'
        rw [eqv_py]
        have := h3 m hm
        simpa using this
      | _ => cases h
theorem toPs_dp {ρ : List Addr} {S : Store} {H : Hp} (rs : RS X.K T ρ S H) (n : Nat) : ∀ (ds : List D) (ps : List P) (vs : List V), ds.mapM (toP S n) = some ps → RDs X.K ρ H ds vs → DpAll X.K H vs (pyPs ps) ∧ PyData.canLayAll0 (pyPs ps) = true ∧ PyData.depthAll (pyPs ps) ≤ n := by
  intro ds
  induction ds with
  | nil =>
    intro ps vs h r
    simp at h
    subst h
    have : vs = [] := by unfold RDs at r; exact r
    subst this
    exact ⟨by unfold pyPs; exact .nil, by simp [pyPs, PyData.canLayAll0], by simp [pyPs, PyData.depthAll]⟩
  | cons d ds ih2 =>
    intro ps vs h r
    rw [List.mapM_cons] at h
    unfold RDs at r
    obtain ⟨v, w, rfl, r1, r2⟩ := r
    cases e1 : toP S n d with
    | none => rw [e1] at h; simp at h
    | some p =>
      cases e2 : ds.mapM (toP S n) with
      | none => rw [e1, e2] at h; simp at h
      | some qs =>
        rw [e1, e2] at h
        simp at h
        subst h
        obtain ⟨a1, a2, a3⟩ := toP_dp rs n d p v e1 r1
        obtain ⟨b1, b2, b3⟩ := ih2 qs w e2 r2
        refine ⟨by unfold pyPs; exact .cons a1 b1, by simp only [pyPs, PyData.canLayAll0, a2, b2]; rfl, ?_⟩
        simp only [pyPs, PyData.depthAll]
        omega
theorem idxD_atL {ρ : List Addr} {S : Store} {H : Hp} {y : D} {l j : Nat} {xs : List D} {w : V} {vs : List V} (rs : RS X.K T ρ S H) (hl : S[l]? = some (.lst xs)) (rx : RDs X.K ρ H xs vs) (ry : RD X.K ρ H y w) (h : idxD S y l = some j) :
    ∃ (d : PyData) (ds : List PyData) (z : PyData), DpAll X.K H vs ds ∧ Dp X.K H w d ∧ SeqAt.shaped (.list ds) = true ∧ SeqAt.shaped d = true ∧ ds[j]? = some z ∧ PyData.eqv z d = true ∧ ∀ (m : Nat) (z' : PyData), m < j → ds[m]? = some z' → PyData.eqv z' d = false := by
  unfold idxD at h
  cases e1 : toP S 60 y with
  | none => rw [e1] at h; cases h
  | some p =>
    cases e3 : xs.mapM (toP S 59) with
    | none =>
      have e2 : toP S 60 (.ref l) = none := by unfold toP; rw [hl]; dsimp only; rw [e3]
      rw [e1, e2] at h; cases h
    | some qs =>
      have e2 : toP S 60 (.ref l) = some (.lst qs) := by unfold toP; rw [hl]; dsimp only; rw [e3]
      rw [e1, e2] at h
      dsimp only at h
      obtain ⟨a1, a2, a3⟩ := toP_dp rs 60 y p w e1 ry
      obtain ⟨b1, b2, b3⟩ := toPs_dp rs 59 xs qs vs e3 rx
      have s1 : SeqAt.shaped (pyP p) = true := by unfold SeqAt.shaped; rw [a2, decide_eq_true (by omega)]; rfl
      have s2 : SeqAt.shaped (.list (pyPs qs)) = true := by
        unfold SeqAt.shaped
        rw [show PyData.canLay0 (.list (pyPs qs)) = true from by simp only [PyData.canLay0]; exact b2, decide_eq_true (by simp only [PyData.depth]; omega)]
        rfl
      rw [pyPs_map] at b1 s2
      obtain ⟨h1, h2, h3⟩ := List.findIdx?_eq_some_iff_getElem.mp h
      refine ⟨pyP p, qs.map pyP, pyP qs[j], b1, a1, s2, s1, by rw [List.getElem?_map, List.getElem?_eq_getElem h1]; rfl, by rw [eqv_py]; exact h2, fun m z' hm hz' => ?_⟩
      have hml : m < qs.length := by omega
      rw [List.getElem?_map, List.getElem?_eq_getElem hml] at hz'
      cases hz'
      rw [eqv_py]
      have := h3 m hm
      simpa using this
theorem os_index {k : Nat} (hr : Room k X.A) : MtR X "list.index" (rIndexD X.K) ∧ M1S X T (rIndexD X.K) oIndex := by
  refine ⟨mt_indexD (by have := hr.un; omega), ?_⟩
  intro E ρ S H x y v w Q rs rx ry h
  cases x with
  | ref l =>
    unfold oIndex at h
    dsimp only at h
    cases e : idxD S y l with
    | none => rw [e] at h; exact (show False from h).elim
    | some j =>
      rw [e] at h
      obtain ⟨d, ds, z, h1, h2, h3, h4, h5, h6, h7⟩ := idxD_at rs rx ry e
      obtain ⟨p, rfl, _⟩ := rx.ref
      exact ⟨p, w, d, ds, j, z, rfl, rfl, h1, h2, h3, h4, h5, h6, h7, h ρ H _ (Le.refl _ _) rs rd_int⟩
  | _ => exact (show False from h).elim
theorem os_remove {k : Nat} (hr : Room k X.A) : MtR X "list.remove" (rRemD X.K) ∧ M1S X T (rRemD X.K) oRemove := by
  refine ⟨mt_remD (by have := hr.un; omega), ?_⟩
  intro E ρ S H x y v w Q rs rx ry h
  cases x with
  | ref l =>
    unfold oRemove at h
    dsimp only at h
    split at h
    · rename_i xs e0
      cases e : idxD S y l with
      | none => rw [e] at h; exact (show False from h).elim
      | some j =>
        rw [e] at h
        obtain ⟨p, vs, rfl, hp, hv, ra, za⟩ := rs.lstAt rx e0
        obtain ⟨d, ds, z, h1, h2, h3, h4, h5, h6, h7⟩ := idxD_atL rs e0 ra ry e
        obtain ⟨q1, q2⟩ := lst_write rs hp e0 (RDs.of (Paired.erase1 j ra.pair)) (by have := len_erase vs j; omega)
        exact ⟨p, w, vs, d, ds, j, z, rfl, rfl, hv, h1, h2, h3, h4, h5, h6, h7, h ρ _ _ q1 q2 rd_non⟩
    · exact (show False from h).elim
  | _ => exact (show False from h).elim

/-! ### starred -/
theorem ea_star {e : Expr} {es : List Expr} {f : FE} {g : FA} {p : Pos} (ha : EV X T W e f) (hr : EA X T W es g) (hs : starEach (.Starred e p :: es) X.env = (true, eval e X.env) :: starEach es X.env := by rfl) : EA X T W (.Starred e p :: es) (aStar f g) := by
  refine PA.imp (StX.pa_star ha hr hs) ?_
  rintro σ H Q ⟨ρ, S, s, rs, re, h⟩
  refine ⟨ρ, S, s, rs, re, (Post.bind (R := RD X.K) h).imp ?_⟩
  rintro x H1 ⟨ρ1, S1, d, l1, rs1, rd1, h1⟩
  cases e : seqD S1 d with
  | none => rw [e] at h1; exact (show False from h1).elim
  | some ds =>
    rw [e] at h1
    obtain ⟨p, vs, rfl, hq, ra, za⟩ := seq_at rs1 rd1 e
    refine ⟨p, vs, rfl, hq.elim .inr .inl, ρ1, S1, s, rs1, re.le rs l1, (Post.bind (R := RDs X.K) h1).imp ?_⟩
    rintro ys H2 ⟨ρ2, S2, es, l2, rs2, rd2, h2⟩
    exact h2 ρ2 H2 (vs ++ ys) (Le.refl _ _) rs2 (RDs.of (Paired.app (ra.le rs1 l2).pair rd2.pair))
/-- a, b, c = x, y, z -/
theorem es_par3 (i j l : Nat) {x y z : Str} {a b c : Expr} {fa fb fc : FE} {px py pz pt : Pos} {kt k2 pt2} (hc : X.calm = true) (hN : X.N.Nodup) (ha : EV X T W a fa) (hb : EV X T W b fb) (hcc : EV X T W c fc) (hi : X.N[i]? = some x := by rfl) (hj : X.N[j]? = some y := by rfl) (hl : X.N[l]? = some z := by rfl) (hij : i ≠ j := by decide) (hil : i ≠ l := by decide) (hjl : j ≠ l := by decide)
    (hx : X.env.scope.names.lookup x = some .local := by rfl) (hy : X.env.scope.names.lookup y = some .local := by rfl) (hz : X.env.scope.names.lookup z = some .local := by rfl)
    (hsa : starEach (a :: [b, c]) X.env = (false, eval a X.env) :: starEach [b, c] X.env := by rfl) (hsb : starEach (b :: [c]) X.env = (false, eval b X.env) :: starEach [c] X.env := by rfl) (hsc : starEach [c] X.env = (false, eval c X.env) :: starEach [] X.env := by rfl)
    (hw : swappedStores [.Tuple [.Name x px, .Name y py, .Name z pz] kt pt] (.Tuple [a, b, c] k2 pt2) X.env = pure (some [x, y, z]) := by rfl)
    (hs : swapsWithSole [.Tuple [.Name x px, .Name y py, .Name z pz] kt pt] (.Tuple [a, b, c] k2 pt2) pos.line X.env = pure false := by rfl) :
    ES X T W (.Assign [.Tuple [.Name x px, .Name y py, .Name z pz] kt pt] (.Tuple [a, b, c] k2 pt2) pos) (sPar3 i j l fa fb fc) := by
  refine PS.imp (ps_par3 hc hN hi hj hl hij hil hjl hx hy hz (pa_cons ha (pa_cons hb (pa_cons hcc pa_nil hsc) hsb) hsa) hw hs) ?_
  rintro D σ H ⟨ρ, S, s, rs, re, h⟩
  refine ⟨ρ, S, s, rs, re, (PostS.ofE (R := RD X.K) rs re h).imp ?_⟩
  rintro v H1 ⟨ρ1, S1, d, l1, rs1, re1, rd1, h1⟩
  refine ⟨ρ1, S1, s, rs1, re1, (PostS.ofE (R := RD X.K) rs1 re1 h1).imp ?_⟩
  rintro w H2 ⟨ρ2, S2, d2, l2, rs2, re2, rd2, h2⟩
  refine ⟨ρ2, S2, s, rs2, re2, (PostS.ofE (R := RD X.K) rs2 re2 h2).imp ?_⟩
  rintro u H3 ⟨ρ3, S3, d3, l3, rs3, re3, rd3, h3⟩
  exact ⟨v, w, u, rfl, h3 ρ3 H3 _ (Le.refl _ _) rs3 (((re3.set i ((rd1.le rs1 l2).le rs2 l3)).set j (rd2.le rs2 l3)).set l rd3)⟩
end
end Wk


set_option Elab.async false
set_option linter.all false
set_option maxRecDepth 100000
set_option maxHeartbeats 4000000
set_option autoImplicit false
/-! WkMore3: zip, sum, ranges as lists and tuples; a lambda heard by a def with further clauses. -/
namespace Wk
open PySem PySem.Spec PyProof.Rows L2
section
variable {X : Cx} {T : Tbs} {W : WX} {pos : Pos} {a b c : Expr} {fa fb fc : FE}
theorem zipD_len : ∀ as bs : List D, (zipD as bs).length = min as.length bs.length
  | [], _ => by simp [zipD]
  | _ :: _, [] => by simp [zipD]
  | a :: as, b :: bs => by
    show (zipD as bs).length + 1 = _
    rw [zipD_len as bs]
    simp only [List.length_cons]
    omega
theorem zipD_get : ∀ {as bs : List D} {i : Nat} {d : D}, (zipD as bs)[i]? = some d → ∃ a b, as[i]? = some a ∧ bs[i]? = some b ∧ d = .tup [a, b]
  | [], _, i, d, h => by simp [zipD] at h
  | _ :: _, [], i, d, h => by simp [zipD] at h
  | a :: as, b :: bs, 0, d, h => by
    simp [zipD] at h
    exact ⟨a, b, rfl, rfl, h.symm⟩
  | a :: as, b :: bs, i + 1, d, h => by
    simp [zipD] at h
    obtain ⟨x, y, h1, h2, h3⟩ := zipD_get h
    exact ⟨x, y, by simpa using h1, by simpa using h2, h3⟩
theorem itok_two {T' : Addr} {ρ' : List Addr} {S' : Store} {H' : Hp} {x y : D} {v w : V} (rs' : RS X.K T ρ' S' H') (hT : H' T' = none) (rv : RD X.K ρ' H' x v) (rw' : RD X.K ρ' H' y w) :
    Le ρ' H' ρ' (upd H' T' (.tup [v, w])) ∧ RS X.K T ρ' S' (upd H' T' (.tup [v, w])) ∧ RD X.K ρ' (upd H' T' (.tup [v, w])) (.tup [x, y]) (.ref T') :=
  tup_new rs' hT (RDs.of (.cons rv (.cons rw' .nil))) (by show 2 ≤ sizeLine; decide)
theorem ei_zip {elts : List Expr} {kk : Nat} {p tpos : Pos} (hm : X.mg "zip" = none) (ha : EV X T W a fa) (hb : EV X T W b fb) (hg : Gl X "zip" := by rfl) (hs : starEach [a, b] X.env = (false, eval a X.env) :: starEach [b] X.env := by rfl) (hsb : starEach [b] X.env = (false, eval b X.env) :: starEach [] X.env := by rfl) (hpl : (backTo pos (starEach [b] X.env)).any (·.1) = false := by rfl) :
    EI X T W (.Tuple elts kk tpos) (.Call (.Name "zip" p) [a, b] [] pos) (iZip fa fb) := by
  refine PI.imp (RZ.pi_zipA hg hm (pa_cons ha (pa_cons hb pa_nil hsb) hs) hs hpl) ?_
  rintro σ H R ⟨ρ, S, s, rs, re, h⟩
  refine ⟨ρ, S, s, rs, re, (Post.bind (R := RD X.K) h).imp ?_⟩
  rintro v H1 ⟨ρ1, S1, x, l1, rs1, rd1, h1⟩
  refine ⟨ρ1, S1, s, rs1, re.le rs l1, (Post.bind (R := RD X.K) h1).imp ?_⟩
  rintro w H2 ⟨ρ2, S2, y, l2, rs2, rd2, h2⟩
  have rdx := rd1.le rs1 l2
  show ∃ a b xs ys, [v, w] = [V.ref a, V.ref b] ∧ _
  cases x with
  | tup as =>
    cases y with
    | tup bs =>
      obtain ⟨p1, vs, rfl, ta, ra⟩ := rdx.tup
      obtain ⟨p2, ws, rfl, tb, rb⟩ := rd2.tup
      refine ⟨p1, p2, vs, ws, rfl, .inr ⟨ta.sq, tb.sq, h2 ρ2 H2 _ (Le.refl _ _) rs2 ⟨?_, fun ρ' S' H' le rs' ok => ?_⟩⟩⟩
      · show (zipD as bs).length ≤ sizeLine
        rw [zipD_len, ra.len]
        exact Nat.le_trans (Nat.min_le_left _ _) ta.1
      · have ta' := ta.mono le
        have tb' := tb.mono le
        have ra' := ra.le rs2 le
        have rb' := rb.le rs2 le
        refine ⟨fun i d hd => ?_, ⟨vs, ws, ta'.sq, tb'.sq, ?_⟩⟩
        · obtain ⟨x, y, hx, hy, rfl⟩ := zipD_get hd
          obtain ⟨v, hv, rv⟩ := Paired.get1 ra'.pair hx
          obtain ⟨w, hw, rw'⟩ := Paired.get1 rb'.pair hy
          refine ⟨⟨vs, ws, v, w, ta'.sq, tb'.sq, hv, hw⟩, fun z H'' q => ?_⟩
          obtain ⟨T', x', y', rfl, hT, rfl, q1, q2⟩ := q
          have e1 := q1 vs ta'.sq
          have e2 := q2 ws tb'.sq
          rw [hv] at e1; cases e1
          rw [hw] at e2; cases e2
          exact itok_two rs' hT rv rw'
        · show vs.length ≤ (zipD as bs).length ∨ ws.length ≤ (zipD as bs).length
          rw [zipD_len, ra.len, rb.len]
          by_cases q : vs.length ≤ ws.length
          · exact .inl (by omega)
          · exact .inr (by omega)
    | _ => exact (show False from h2).elim
  | ref l =>
    cases y with
    | ref m =>
      dsimp only at h2
      split at h2
      · rename_i as bs e1 e2
        obtain ⟨p1, vs, rfl, hp1, hv1, ra, za⟩ := rs2.lstAt rdx e1
        obtain ⟨p2, ws, rfl, hp2, hv2, rb, zb⟩ := rs2.lstAt rd2 e2
        refine ⟨p1, p2, vs, ws, rfl, .inl ⟨SqL.of hv1, SqL.of hv2, h2 ρ2 H2 _ (Le.refl _ _) rs2 ⟨?_, fun ρ' S' H' le rs' ok => ?_⟩⟩⟩
        · show (zipD as bs).length ≤ sizeLine
          rw [zipD_len, ra.len]
          exact Nat.le_trans (Nat.min_le_left _ _) za
        · obtain ⟨k1, ok2⟩ := okC_cons ok
          obtain ⟨k2, _⟩ := okC_cons ok2
          obtain ⟨q1, us, eq1, _, hu, ra', _⟩ := rs'.lstAt (rd_ref (le.get hp1)) k1
          cases eq1
          obtain ⟨q2, zs, eq2, _, hz, rb', _⟩ := rs'.lstAt (rd_ref (le.get hp2)) k2
          cases eq2
          refine ⟨fun i d hd => ?_, ⟨us, zs, SqL.of hu, SqL.of hz, ?_⟩⟩
          · obtain ⟨x, y, hx, hy, rfl⟩ := zipD_get hd
            obtain ⟨v, hv, rv⟩ := Paired.get1 ra'.pair hx
            obtain ⟨w, hw, rw'⟩ := Paired.get1 rb'.pair hy
            refine ⟨⟨us, zs, v, w, SqL.of hu, SqL.of hz, hv, hw⟩, fun z H'' q => ?_⟩
            obtain ⟨T', x', y', rfl, hT, rfl, w1, w2⟩ := q
            have e3 := w1 us (SqL.of hu)
            have e4 := w2 zs (SqL.of hz)
            rw [hv] at e3; cases e3
            rw [hw] at e4; cases e4
            exact itok_two rs' hT rv rw'
          · show us.length ≤ (zipD as bs).length ∨ zs.length ≤ (zipD as bs).length
            rw [zipD_len, ra'.len, rb'.len]
            by_cases q : us.length ≤ zs.length
            · exact .inl (by omega)
            · exact .inr (by omega)
      · exact (show False from h2).elim
    | _ => exact (show False from h2).elim
  | _ => cases y <;> exact (show False from h2).elim
theorem os_sum (hc : X.calm = true) : CallR X (.builtin "sum") (rSum X.K) ∧ C1S X T (rSum X.K) fSum := by
  refine ⟨cr_sum hc, ?_⟩
  intro E ρ S H x v Q rs rx h
  cases x with
  | ref l =>
    unfold fSum at h
    dsimp only at h
    cases e0 : S[l]? with
    | none => rw [e0] at h; exact (show False from h).elim
    | some ob =>
      rw [e0] at h
      cases ob with
      | lst ds =>
        dsimp only at h
        cases e1 : intsD ds with
        | none => rw [e1] at h; exact (show False from h).elim
        | some ns =>
          rw [e1] at h
          obtain ⟨p, vs, rfl, hp, hv, ra, za⟩ := rs.lstAt rx e0
          have ev := intsD_v e1 ra
          subst ev
          exact ⟨p, ns, rfl, SqL.of hv, h ρ H _ (Le.refl _ _) rs rd_int⟩
      | _ => exact (show False from h).elim
  | _ => exact (show False from h).elim
/-! ### ranges -/
theorem rds_rng {ρ : List Addr} {H : Hp} (i j : Int) : RDs X.K ρ H (rngD i j) (rgV i j) := by
  refine RDs.of (Paired.ofGet (by rw [rngD_len, rgV_length]) fun n x y e1 e2 => ?_)
  obtain ⟨h1, rfl⟩ := rngD_get e1
  unfold rgV at e2
  rw [List.getElem?_map] at e2
  cases e3 : (List.range (j - i).toNat)[n]? with
  | none => rw [e3] at e2; cases e2
  | some k =>
    rw [e3] at e2
    obtain ⟨h4, h5⟩ := List.getElem?_eq_some_iff.mp e3
    rw [List.getElem_range] at h5
    cases e2
    rw [← h5]; exact rd_int
/-- list(range(i, j)) -/
theorem ev_listRg2 {p p2 pos2 : Pos} (hc : X.calm = true) (hm : X.mg "list" = none) (hm2 : X.mg "range" = none) (ha : EV X T W a fa) (hb : EV X T W b fb) (hg : Gl X "list" := by rfl) (hg2 : Gl X "range" := by rfl)
    (na : starEach [a, b] X.env = (false, eval a X.env) :: starEach [b] X.env := by rfl) (nb : starEach [b] X.env = (false, eval b X.env) :: starEach [] X.env := by rfl) (np : (backTo pos2 (starEach [b] X.env)).any (·.1) = false := by rfl)
    (nc : starEach [.Call (.Name "range" p2) [a, b] [] pos2] X.env = (false, eval (.Call (.Name "range" p2) [a, b] [] pos2) X.env) :: starEach [] X.env := by rfl) :
    EV X T W (.Call (.Name "list" p) [.Call (.Name "range" p2) [a, b] [] pos2] [] pos) (eOp oListRg fa fb) := by
  refine PE.imp (pe_listRg hc hg hm (prg_2 hg2 hm2 ha hb na nb np) nc) ?_
  rintro σ H Q ⟨ρ, S, s, rs, re, h⟩
  refine ⟨ρ, S, s, rs, re, (Post.bind (R := RD X.K) h).imp ?_⟩
  rintro v H1 ⟨ρ1, S1, x, l1, rs1, rd1, h1⟩
  refine ⟨ρ1, S1, s, rs1, re.le rs l1, (Post.bind (R := RD X.K) h1).imp ?_⟩
  rintro w H2 ⟨ρ2, S2, y, l2, rs2, rd2, h2⟩
  have rdx := rd1.le rs1 l2
  cases x with
  | int i =>
    cases y with
    | int j =>
      unfold oListRg at h2
      dsimp only at h2
      by_cases ck : rgOk i j = true
      · rw [if_pos ck] at h2
        have ck2 := of_decide_eq_true ck
        unfold LIM at ck2
        refine ⟨i, j, rdx.int, rd2.int, ⟨ck2.1, ck2.2.1, ck2.2.2.1, ck2.2.2.2.1, ck2.2.2.2.2⟩, fun q hq => ?_⟩
        obtain ⟨q1, q2, q3⟩ := lst_new rs2 hq (rds_rng i j) (by rw [rgV_length, sizeLine_eq]; omega)
        exact h2 _ _ _ q1 q2 q3
      · rw [if_neg ck] at h2; exact (show False from h2).elim
    | _ => exact (show False from h2).elim
  | _ => cases y <;> exact (show False from h2).elim
/-- tuple(range(n)) -/
theorem ev_tupRg {p p2 pos2 : Pos} (hc : X.calm = true) (hm : X.mg "tuple" = none) (hm2 : X.mg "range" = none) (ha : EV X T W a fa) (hg : Gl X "tuple" := by rfl) (hg2 : Gl X "range" := by rfl)
    (na : starEach [a] X.env = (false, eval a X.env) :: starEach [] X.env := by rfl) (nb : starEach [.Call (.Name "range" p2) [a] [] pos2] X.env = (false, eval (.Call (.Name "range" p2) [a] [] pos2) X.env) :: starEach [] X.env := by rfl) :
    EV X T W (.Call (.Name "tuple" p) [.Call (.Name "range" p2) [a] [] pos2] [] pos) (eUn fTupRg fa) := by
  refine PE.imp (pe_tupRg hc hg hm (prg_1 hg2 hm2 ha na) nb) ?_
  rintro σ H Q ⟨ρ, S, s, rs, re, h⟩
  refine ⟨ρ, S, s, rs, re, (Post.bind (R := RD X.K) h).imp ?_⟩
  rintro v H1 ⟨ρ1, S1, x, l1, rs1, rd1, h1⟩
  cases x with
  | int i =>
    unfold fTupRg at h1
    dsimp only at h1
    by_cases ck : -(2 ^ 62) ≤ i ∧ i ≤ 16777216
    · rw [if_pos ck] at h1
      refine ⟨i, rd1.int, ⟨by omega, by omega, by omega, by omega, by omega⟩, fun q hq => ?_⟩
      obtain ⟨q1, q2, q3⟩ := tup_new rs1 hq (rds_rng 0 i) (by rw [rgV_length, sizeLine_eq]; omega)
      exact h1 _ _ _ q1 q2 q3
    · rw [if_neg ck] at h1; exact (show False from h1).elim
  | _ => exact (show False from h1).elim
end
end Wk


set_option Elab.async false
set_option linter.all false
set_option maxRecDepth 100000
set_option autoImplicit false
/-! printed by gen.py: the functional readings of the defs of wovenkeep_k04_schemas_edited_and_put_bes. -/
namespace WkL
open PySem (Str)
open Wk

def heardCs : List String := ["BadSchema", "BadKind", "BadOrder", "NotThing", "TooMany"]
/-- is_whole: slots 0 thing, 1 low, 2 high -/
abbrev b_is_whole : FS :=
    (sRet (eAnd (eUn (fIsInst "int") (eV 0)) (eAnd (eNot (eUn (fIsInst "bool") (eV 0))) (eChain oLe oLe (eV 1) (eV 0) (eV 2)))))
def F_is_whole : Fn := mkF 3 3 b_is_whole
/-- is_row: slots 0 thing, 1 many -/
abbrev b_is_row : FS :=
    (sRet (eAnd (eUn (fIsInst "tuple") (eV 0)) (eOp oEq (eUn fLen (eV 0)) (eV 1))))
def F_is_row : Fn := mkF 2 2 b_is_row
/-- is_field: slots 0 thing, 1 hands, 2 kinds -/
abbrev b_is_field : FS :=
    (sRet (eAnd (eCall F_is_row (aCons (eV 0) (aCons (eC (.int 2)) aNil))) (eAnd (eCall F_is_whole (aCons (eOp oIx (eV 0) (eC (.int 0))) (aCons (eC (.int 0)) (aCons (eOp oSub (eV 2) (eC (.int 1))) aNil)))) (eCall F_is_whole (aCons (eOp oIx (eV 0) (eC (.int 1))) (aCons (eV 1) (aCons (eOp oSub (eV 2) (eC (.int 1))) aNil)))))))
def F_is_field : Fn := mkF 3 3 b_is_field
/-- made_schema: slots 0 thing, 1 hands, 2 kinds, 3 fields, 4 index, 5 field -/
abbrev b_made_schema : FS :=
    (sSeq (sIf (Wk.tNot (tE (eCall F_is_row (aCons (eV 0) (aCons (eC (.int 3)) aNil))))) (sRaise "BadSchema" (eUn uNeg (eC (.int 1)))) sSkip)
    (sSeq (sAsg (.tp [(.nm 1), (.nm 2), (.nm 3)]) (eV 0))
    (sSeq (sIf (Wk.tNot (tE (eCall F_is_whole (aCons (eV 1) (aCons (eC (.int 1)) (aCons (eC (.int 6)) aNil)))))) (sRaise "BadSchema" (eC (.int 0))) sSkip)
    (sSeq (sIf (Wk.tNot (tE (eCall F_is_whole (aCons (eV 2) (aCons (eV 1) (aCons (eC (.int 24)) aNil)))))) (sRaise "BadSchema" (eC (.int 1))) sSkip)
    (sSeq (sIf (Wk.tNot (tE (eUn (fIsInst "tuple") (eV 3)))) (sRaise "BadSchema" (eC (.int 2))) sSkip)
    (sSeq (sIf (tE (eOp oGt (eUn fLen (eV 3)) (eC (.int 40)))) (sRaise "TooMany" (eUn fLen (eV 3))) sSkip)
    (sSeq (sFor (iEnum (eV 3)) (.tp [(.nm 4), (.nm 5)]) (sIf (Wk.tNot (tE (eCall F_is_field (aCons (eV 5) (aCons (eV 1) (aCons (eV 2) aNil)))))) (sRaise "BadSchema" (eTup (aCons (eC (.int 2)) (aCons (eV 4) aNil)))) sSkip))
    (sRet (eTup (aCons (eV 1) (aCons (eV 2) (aCons (eUn fTuple (eComp (iSeq (eV 3)) (.nm 5) tTrue (eUn fTuple (eV 5)) [5])) aNil))))))))))))
def F_made_schema : Fn := mkF 1 6 b_made_schema
/-- asked_kind: slots 0 schema, 1 kind -/
abbrev b_asked_kind : FS :=
    (sIf (Wk.tNot (tE (eCall F_is_whole (aCons (eV 1) (aCons (eC (.int 0)) (aCons (eOp oSub (eOp oIx (eV 0) (eC (.int 1))) (eC (.int 1))) aNil)))))) (sRaise "BadKind" (eV 1)) sSkip)
def F_asked_kind : Fn := mkF 2 2 b_asked_kind
/-- held_by: slots 0 schema, 1 found, 2 f, 3 holder, 4 target, 5 kind -/
abbrev b_held_by : FS :=
    (sSeq (sSet 1 (eComp (iRng (eOp oIx (eV 0) (eC (.int 1)))) (.nm 5) tTrue (eLst aNil) [5]))
    (sSeq (sFor (iEnum (eOp oIx (eV 0) (eC (.int 2)))) (.tp [(.nm 2), (.tp [(.nm 3), (.nm 4)])]) (sExpr (eBM oAppend (eOp oIx (eV 1) (eV 3)) (eV 2))))
    (sRet (eV 1))))
def F_held_by : Fn := mkF 1 6 b_held_by
/-- fields_of: slots 0 schema, 1 kind -/
abbrev b_fields_of : FS :=
    (sSeq (sExpr (eCall F_made_schema (aCons (eV 0) aNil)))
    (sSeq (sExpr (eCall F_asked_kind (aCons (eV 0) (aCons (eV 1) aNil))))
    (sRet (eUn fTuple (eOp oIx (eCall F_held_by (aCons (eV 0) aNil)) (eV 1))))))
def F_fields_of : Fn := mkF 2 2 b_fields_of
/-- had_list: slots 0 schema, 1 held, 2 found, 3 waiting, 4 f, 5 target, 6 kind -/
abbrev b_had_list : FS :=
    (sSeq (sSet 1 (eCall F_held_by (aCons (eV 0) aNil)))
    (sSeq (sSet 2 (eComp (iRng (eOp oIx (eV 0) (eC (.int 1)))) (.nm 6) tTrue (eOp oLt (eV 6) (eOp oIx (eV 0) (eC (.int 0)))) [6]))
    (sSeq (sSet 3 (eUn fListRg (eOp oIx (eV 0) (eC (.int 0)))))
    (sSeq (Wk.sWhile (tE (eOp oNe (eV 3) (eLst aNil))) (sFor (iSeq (eOp oIx (eV 1) (eUn uPop (eV 3)))) (.nm 4) (sSeq (sSet 5 (eOp oIx (eOp oIx (eOp oIx (eV 0) (eC (.int 2))) (eV 4)) (eC (.int 1))))
    (sIf (Wk.tNot (tE (eOp oIx (eV 2) (eV 5)))) (sSeq (sSub uSetL (eV 2) (eV 5) (eC (.bl true)))
    (sExpr (eBM oAppend (eV 3) (eV 5)))) sSkip))))
    (sRet (eV 2))))))
def F_had_list : Fn := mkF 1 7 b_had_list
/-- had: slots 0 schema, 1 kind, 2 is_had -/
abbrev b_had : FS :=
    (sSeq (sExpr (eCall F_made_schema (aCons (eV 0) aNil)))
    (sRet (eUn fTuple (eComp (iEnum (eCall F_had_list (aCons (eV 0) aNil))) (.tp [(.nm 1), (.nm 2)]) (tE (eV 2)) (eV 1) [1, 2]))))
def F_had : Fn := mkF 1 3 b_had
/-- with_kind: slots 0 schema, 1 hands, 2 kinds, 3 fields -/
abbrev b_with_kind : FS :=
    (sSeq (sAsg (.tp [(.nm 1), (.nm 2), (.nm 3)]) (eCall F_made_schema (aCons (eV 0) aNil)))
    (sSeq (sIf (tE (eOp oEq (eV 2) (eC (.int 24)))) (sRaise "TooMany" (eOp oAdd (eV 2) (eC (.int 1)))) sSkip)
    (sRet (eTup (aCons (eV 1) (aCons (eOp oAdd (eV 2) (eC (.int 1))) (aCons (eV 3) aNil)))))))
def F_with_kind : Fn := mkF 1 4 b_with_kind
/-- with_field: slots 0 schema, 1 a, 2 b, 3 hands, 4 kinds, 5 fields -/
abbrev b_with_field : FS :=
    (sSeq (sAsg (.tp [(.nm 3), (.nm 4), (.nm 5)]) (eCall F_made_schema (aCons (eV 0) aNil)))
    (sSeq (sExpr (eCall F_asked_kind (aCons (eV 0) (aCons (eV 1) aNil))))
    (sSeq (sExpr (eCall F_asked_kind (aCons (eV 0) (aCons (eV 2) aNil))))
    (sSeq (sIf (tE (eOp oLt (eV 2) (eV 3))) (sRaise "NotThing" (eV 2)) sSkip)
    (sSeq (sIf (tE (eOp oEq (eUn fLen (eV 5)) (eC (.int 40)))) (sRaise "TooMany" (eOp oAdd (eUn fLen (eV 5)) (eC (.int 1)))) sSkip)
    (sRet (eTup (aCons (eV 3) (aCons (eV 4) (aCons (eTup (aStar (eV 5) (aCons (eTup (aCons (eV 1) (aCons (eV 2) aNil))) aNil))) aNil))))))))))
def F_with_field : Fn := mkF 3 6 b_with_field
/-- is_order: slots 0 schema, 1 thing, 2 hands, 3 kinds, 4 kind -/
abbrev b_is_order : FS :=
    (sSeq (sAsg (.tp [(.nm 2), (.nm 3)]) (eTup (aCons (eOp oIx (eV 0) (eC (.int 0))) (aCons (eOp oIx (eV 0) (eC (.int 1))) aNil))))
    (sSeq (sIf (tOr (Wk.tNot (tE (eCall F_is_row (aCons (eV 1) (aCons (eV 3) aNil))))) (Wk.tNot (tE (eUn fAll (eComp (iSeq (eV 1)) (.nm 4) tTrue (eCall F_is_whole (aCons (eV 4) (aCons (eC (.int 0)) (aCons (eOp oSub (eV 3) (eC (.int 1))) aNil)))) [4]))))) (sRet (eC (.bl false))) sSkip)
    (sRet (eAnd (eOp oEq (eUn fSorted (eV 1)) (eUn fListRg (eV 3))) (eUn fAll (eComp (iSeq (eSlice (eV 1) oNone (oSome (eV 2)))) (.nm 4) tTrue (eOp oLt (eV 4) (eV 2)) [4]))))))
def F_is_order : Fn := mkF 2 5 b_is_order
/-- renamed: slots 0 schema, 1 order, 2 hands, 3 kinds, 4 fields, 5 now, 6 index, 7 kind, 8 holder, 9 target -/
abbrev b_renamed : FS :=
    (sSeq (sAsg (.tp [(.nm 2), (.nm 3), (.nm 4)]) (eCall F_made_schema (aCons (eV 0) aNil)))
    (sSeq (sIf (Wk.tNot (tE (eCall F_is_order (aCons (eV 0) (aCons (eV 1) aNil))))) (sRaise "BadOrder" (eUn uNeg (eC (.int 1)))) sSkip)
    (sSeq (sSet 5 (eDComp (iEnum (eV 1)) (.tp [(.nm 6), (.nm 7)]) tTrue (eV 7) (eV 6) [6, 7]))
    (sRet (eTup (aCons (eV 2) (aCons (eV 3) (aCons (eUn fTuple (eComp (iSeq (eV 4)) (.tp [(.nm 8), (.nm 9)]) tTrue (eTup (aCons (eOp oIxD (eV 5) (eV 8)) (aCons (eOp oIxD (eV 5) (eV 9)) aNil))) [8, 9])) aNil))))))))
def F_renamed : Fn := mkF 2 10 b_renamed
/-- kinds_beside: slots 0 one, 1 two, 2 firsts, 3 seconds, 4 kind -/
abbrev b_kinds_beside : FS :=
    (sSeq (sSet 2 (eComp (iRng (eOp oIx (eV 0) (eC (.int 1)))) (.nm 4) tTrue (eIf (tE (eOp oLt (eV 4) (eOp oIx (eV 0) (eC (.int 0))))) (eV 4) (eOp oAdd (eV 4) (eOp oIx (eV 1) (eC (.int 0))))) [4]))
    (sSeq (sSet 3 (eComp (iRng (eOp oIx (eV 1) (eC (.int 1)))) (.nm 4) tTrue (eIf (tE (eOp oLt (eV 4) (eOp oIx (eV 1) (eC (.int 0))))) (eOp oAdd (eOp oIx (eV 0) (eC (.int 0))) (eV 4)) (eOp oAdd (eOp oIx (eV 0) (eC (.int 1))) (eV 4))) [4]))
    (sRet (eTup (aCons (eV 2) (aCons (eV 3) aNil))))))
def F_kinds_beside : Fn := mkF 2 5 b_kinds_beside
/-- beside: slots 0 one, 1 two, 2 first, 3 second, 4 at, 5 most, 6 many, 7 fields, 8 schema, 9 now, 10 holder, 11 target -/
abbrev b_beside : FS :=
    (sSeq (sPar 2 3 (eCall F_made_schema (aCons (eV 0) aNil)) (eCall F_made_schema (aCons (eV 1) aNil)))
    (sSeq (sFor (iSeq (eTup (aCons (eTup (aCons (eC (.int 0)) (aCons (eC (.int 6)) aNil))) (aCons (eTup (aCons (eC (.int 1)) (aCons (eC (.int 24)) aNil))) aNil)))) (.tp [(.nm 4), (.nm 5)]) (sIf (tE (eOp oGt (eOp oAdd (eOp oIx (eV 2) (eV 4)) (eOp oIx (eV 3) (eV 4))) (eV 5))) (sRaise "TooMany" (eOp oAdd (eOp oIx (eV 2) (eV 4)) (eOp oIx (eV 3) (eV 4)))) sSkip))
    (sSeq (sSet 6 (eOp oAdd (eUn fLen (eOp oIx (eV 2) (eC (.int 2)))) (eUn fLen (eOp oIx (eV 3) (eC (.int 2))))))
    (sSeq (sIf (tE (eOp oGt (eV 6) (eC (.int 40)))) (sRaise "TooMany" (eV 6)) sSkip)
    (sSeq (sSet 7 (eLst aNil))
    (sSeq (sFor (iZip (eTup (aCons (eV 2) (aCons (eV 3) aNil))) (eCall F_kinds_beside (aCons (eV 2) (aCons (eV 3) aNil)))) (.tp [(.nm 8), (.nm 9)]) (sExpr (eBM oExtend (eV 7) (eComp (iSeq (eOp oIx (eV 8) (eC (.int 2)))) (.tp [(.nm 10), (.nm 11)]) tTrue (eTup (aCons (eOp oIx (eV 9) (eV 10)) (aCons (eOp oIx (eV 9) (eV 11)) aNil))) [10, 11]))))
    (sRet (eTup (aCons (eOp oAdd (eOp oIx (eV 2) (eC (.int 0))) (eOp oIx (eV 3) (eC (.int 0)))) (aCons (eOp oAdd (eOp oIx (eV 2) (eC (.int 1))) (eOp oIx (eV 3) (eC (.int 1)))) (aCons (eUn fTuple (eV 7)) aNil)))))))))))
def F_beside : Fn := mkF 2 12 b_beside
/-- _law_is_whole: slots 0 thing -/
abbrev b__law_is_whole : FS :=
    (sRet (eAnd (eUn (fIsInst "int") (eV 0)) (eNot (eUn (fIsInst "bool") (eV 0)))))
def F__law_is_whole : Fn := mkF 1 1 b__law_is_whole
/-- _law_same: slots 0 heard_one, 1 owed, 2 at, 3 one -/
abbrev b__law_same (self : Fn) : FS :=
    (sSeq (sIf (tE (eOp oIsN (eV 1) (eC .non))) (sRet (eOp oIsN (eV 0) (eC .non))) sSkip)
    (sSeq (sIf (tE (eUn (fIsInst "bool") (eV 1))) (sRet (eIf (tE (eV 1)) (eOp oIsB (eV 0) (eC (.bl true))) (eOp oIsB (eV 0) (eC (.bl false))))) sSkip)
    (sSeq (sIf (tE (eUn (fIsInst "int") (eV 1))) (sRet (eAnd (eCall F__law_is_whole (aCons (eV 0) aNil)) (eOp oEq (eV 0) (eV 1)))) sSkip)
    (sSeq (sIf (tE (eUn (fIsInst "str") (eV 1))) (sRet (eAnd (eUn (fIsInst "str") (eV 0)) (eOp oEq (eV 0) (eV 1)))) sSkip)
    (sSeq (sIf (tE (eUn (fIsInst "dict") (eV 1))) (sSeq (sIf (tOr (Wk.tNot (tE (eUn (fIsInst "dict") (eV 0)))) (tE (eOp oNe (eUn fLen (eV 0)) (eUn fLen (eV 1))))) (sRet (eC (.bl false))) sSkip)
    (sRet (eOp oEq eBad (eLst aNil)))) sSkip)
    (sSeq (sIf (tAnd (Wk.tNot (tE (eUn (fIsInst "tuple") (eV 1)))) (Wk.tNot (tE (eUn (fIsInst "list") (eV 1))))) (sRet (eUn fBool (eOp oEq (eV 0) (eV 1)))) sSkip)
    (sSeq (sIf (tE (eOp oNe (eUn (fIsInst "tuple") (eV 1)) (eUn (fIsInst "tuple") (eV 0)))) (sRet (eC (.bl false))) sSkip)
    (sSeq (sIf (tE (eOp oNe (eUn (fIsInst "list") (eV 1)) (eUn (fIsInst "list") (eV 0)))) (sRet (eC (.bl false))) sSkip)
    (sSeq (sIf (tE (eOp oNe (eUn fLen (eV 0)) (eUn fLen (eV 1)))) (sRet (eC (.bl false))) sSkip)
    (sSeq (sFor (iRng (eUn fLen (eV 1))) (.nm 2) (sIf (Wk.tNot (tE (eCall self (aCons (eOp oIx (eV 0) (eV 2)) (aCons (eOp oIx (eV 1) (eV 2)) aNil))))) (sRet (eC (.bl false))) sSkip))
    (sRet (eC (.bl true)))))))))))))
def R__law_same : Nat → Fn
  | 0 => fun _ _ => .bad
  | n + 1 => mkF 2 4 (b__law_same (R__law_same n))
def F__law_same : Fn := R__law_same 12
/-- _law_wv_pool: slots 0 script, 1 digits, 2 stirred, 3 at, 4 cell -/
abbrev b__law_wv_pool : FS :=
    (sSeq (sAsg (.tp [(.nm 1), (.nm 2)]) (eTup (aCons (eC (.int 0)) (aCons (eC (.int 7)) aNil))))
    (sSeq (sFor (iRng (eUn fLen (eV 0))) (.nm 3) (sSeq (sSet 4 (eOp oMax (eOp oIx (eV 0) (eV 3)) (eOp oSub (eUn uNeg (eC (.int 1))) (eOp oIx (eV 0) (eV 3)))))
    (sSeq (sSet 2 (eOp oMod (eOp oAdd (eOp oAdd (eOp oMul (eV 2) (eC (.int 48271))) (eOp oMod (eV 4) (eC (.int 2147483629)))) (eC (.int 11))) (eC (.int 2147483647))))
    (sSet 1 (eIf (tAnd (tE (eOp oGe (eV 4) (eOp oPow (eC (.int 10)) (eC (.int 12))))) (tE (eOp oLt (eV 1) (eOp oPow (eC (.int 10)) (eC (.int 60)))))) (eOp oAdd (eOp oMul (eV 1) (eOp oPow (eC (.int 10)) (eC (.int 60)))) (eOp oMod (eV 4) (eOp oPow (eC (.int 10)) (eC (.int 60))))) (eV 1))))))
    (sRet (eLst (aCons (eV 1) (aCons (eV 2) aNil))))))
def F__law_wv_pool : Fn := mkF 1 5 b__law_wv_pool
/-- _law_wv_take: slots 0 pool, 1 many, 2 found -/
abbrev b__law_wv_take : FS :=
    (sSeq (sIf (tE (eOp oGt (eOp oIx (eV 0) (eC (.int 0))) (eC (.int 0)))) (sSeq (sSet 2 (eOp oMod (eOp oIx (eV 0) (eC (.int 0))) (eV 1)))
    (sSeq (sSub uSetL (eV 0) (eC (.int 0)) (eOp oFdiv (eOp oIx (eV 0) (eC (.int 0))) (eV 1)))
    (sRet (eV 2)))) sSkip)
    (sSeq (sSub uSetL (eV 0) (eC (.int 1)) (eOp oMod (eOp oAdd (eOp oMul (eOp oIx (eV 0) (eC (.int 1))) (eC (.int 39373))) (eC (.int 7))) (eC (.int 2147483647))))
    (sRet (eOp oMod (eOp oFdiv (eOp oMod (eOp oMul (eOp oIx (eV 0) (eC (.int 1))) (eOp oIx (eV 0) (eC (.int 1)))) (eC (.int 2147483629))) (eC (.int 32))) (eV 1)))))
def F__law_wv_take : Fn := mkF 2 3 b__law_wv_take
/-- _law_wv_one: slots 0 pool, 1 things -/
abbrev b__law_wv_one : FS :=
    (sRet (eOp oIx (eV 1) (eCall F__law_wv_take (aCons (eV 0) (aCons (eUn fLen (eV 1)) aNil)))))
def F__law_wv_one : Fn := mkF 2 2 b__law_wv_one
/-- _law_wv_mixed: slots 0 pool, 1 things, 2 spare, 3 found, 4 go -/
abbrev b__law_wv_mixed : FS :=
    (sSeq (sPar 2 3 (eUn fList (eV 1)) (eLst aNil))
    (sSeq (sFor (iRng (eUn fLen (eV 1))) (.nm 4) (sExpr (eBM oAppend (eV 3) (eBM oPopAt (eV 2) (eCall F__law_wv_take (aCons (eV 0) (aCons (eUn fLen (eV 2)) aNil)))))))
    (sRet (eV 3))))
def F__law_wv_mixed : Fn := mkF 2 5 b__law_wv_mixed
/-- _law_wv_schema: slots 0 pool, 1 hands, 2 kinds, 3 met, 4 found, 5 go, 6 holder, 7 goal -/
abbrev b__law_wv_schema : FS :=
    (sSeq (sSet 1 (eOp oAdd (eC (.int 1)) (eOp oFdiv (eCall F__law_wv_take (aCons (eV 0) (aCons (eC (.int 4)) aNil))) (eC (.int 3)))))
    (sSeq (sSet 2 (eOp oAdd (eOp oAdd (eV 1) (eC (.int 1))) (eCall F__law_wv_take (aCons (eV 0) (aCons (eC (.int 4)) aNil)))))
    (sSeq (sPar 3 4 (eUn fListRg (eV 1)) (eLst aNil))
    (sSeq (sFor (iRng (eCall F__law_wv_one (aCons (eV 0) (aCons (eLst (aCons (eC (.int 1)) (aCons (eC (.int 2)) (aCons (eC (.int 2)) (aCons (eC (.int 3)) (aCons (eC (.int 3)) (aCons (eC (.int 4)) (aCons (eC (.int 4)) (aCons (eC (.int 5)) (aCons (eC (.int 5)) (aCons (eC (.int 6)) (aCons (eC (.int 7)) (aCons (eC (.int 0)) aNil))))))))))))) aNil)))) (.nm 5) (sSeq (sSet 6 (eIf (tE (eOp oGt (eCall F__law_wv_take (aCons (eV 0) (aCons (eC (.int 5)) aNil))) (eC (.int 0)))) (eCall F__law_wv_one (aCons (eV 0) (aCons (eV 3) aNil))) (eCall F__law_wv_take (aCons (eV 0) (aCons (eV 2) aNil)))))
    (sSeq (sSet 7 (eOp oAdd (eV 1) (eCall F__law_wv_take (aCons (eV 0) (aCons (eOp oSub (eV 2) (eV 1)) aNil)))))
    (sSeq (sExpr (eBM oAppend (eV 4) (eTup (aCons (eV 6) (aCons (eV 7) aNil)))))
    (sExpr (eBM oExtend (eV 3) (eIf (tE (eOp oInS (eV 6) (eV 3))) (eLst (aCons (eV 7) aNil)) (eLst aNil))))))))
    (sRet (eTup (aCons (eV 1) (aCons (eV 2) (aCons (eUn fTuple (eCall F__law_wv_mixed (aCons (eV 0) (aCons (eV 4) aNil)))) aNil)))))))))
def F__law_wv_schema : Fn := mkF 1 8 b__law_wv_schema
/-- _law_wv_great_schema: slots 0 pool, 1 hands, 2 found, 3 go -/
abbrev b__law_wv_great_schema : FS :=
    (sSeq (sSet 1 (eOp oAdd (eC (.int 1)) (eCall F__law_wv_take (aCons (eV 0) (aCons (eC (.int 6)) aNil)))))
    (sSeq (sSet 2 (eComp (iRng (eC (.int 8))) (.nm 3) tTrue (eTup (aCons (eCall F__law_wv_take (aCons (eV 0) (aCons (eV 1) aNil))) (aCons (eOp oAdd (eV 1) (eCall F__law_wv_take (aCons (eV 0) (aCons (eOp oSub (eC (.int 24)) (eV 1)) aNil)))) aNil))) [3]))
    (sSeq (sExpr (eBM oExtend (eV 2) (eComp (iRng (eC (.int 32))) (.nm 3) tTrue (eTup (aCons (eCall F__law_wv_take (aCons (eV 0) (aCons (eC (.int 24)) aNil))) (aCons (eOp oAdd (eV 1) (eCall F__law_wv_take (aCons (eV 0) (aCons (eOp oSub (eC (.int 24)) (eV 1)) aNil)))) aNil))) [3])))
    (sRet (eTup (aCons (eV 1) (aCons (eC (.int 24)) (aCons (eUn fTuple (eCall F__law_wv_mixed (aCons (eV 0) (aCons (eV 2) aNil)))) aNil))))))))
def F__law_wv_great_schema : Fn := mkF 1 4 b__law_wv_great_schema
/-- _law_wv_reached: slots 0 schema, 1 kinds_now, 2 found, 3 before, 4 more, 5 a, 6 b, 7 kind -/
abbrev b__law_wv_reached : FS :=
    (sSeq (sAsg (.tp [(.nm 2), (.nm 3)]) (eTup (aCons (eUn fSorted (eV 1)) (aCons (eC .non) aNil))))
    (sSeq (Wk.sWhile (tE (eOp oNe (eV 3) (eV 2))) (sSeq (sSet 3 (eV 2))
    (sSeq (sSet 4 (eComp (iSeq (eOp oIx (eV 0) (eC (.int 2)))) (.tp [(.nm 5), (.nm 6)]) (tE (eOp oInS (eV 5) (eV 3))) (eV 6) [5, 6]))
    (sSet 2 (eComp (iRng (eOp oIx (eV 0) (eC (.int 1)))) (.nm 7) (tOr (tE (eOp oInS (eV 7) (eV 3))) (tE (eOp oInS (eV 7) (eV 4)))) (eV 7) [7])))))
    (sRet (eV 2))))
def F__law_wv_reached : Fn := mkF 2 8 b__law_wv_reached
/-- _law_wv_had: slots 0 schema -/
abbrev b__law_wv_had : FS :=
    (sRet (eUn fTuple (eCall F__law_wv_reached (aCons (eV 0) (aCons (eUn fListRg (eOp oIx (eV 0) (eC (.int 0)))) aNil)))))
def F__law_wv_had : Fn := mkF 1 1 b__law_wv_had
/-- _law_wf_is: slots 0 thing, 1 low, 2 top -/
abbrev b__law_wf_is : FS :=
    (sRet (eAnd (eUn (fIsInst "int") (eV 0)) (eAnd (eNot (eUn (fIsInst "bool") (eV 0))) (eChain oLe oLe (eV 1) (eV 0) (eV 2)))))
def F__law_wf_is : Fn := mkF 3 3 b__law_wf_is
/-- _law_wf_first: slots 0 refusals, 1 found, 2 one -/
abbrev b__law_wf_first : FS :=
    (sSeq (sSet 1 (eComp (iSeq (eV 0)) (.nm 2) (tE (eOp oNotN (eV 2) (eC .non))) (eV 2) [2]))
    (sRet (eIf (tE (eOp oNe (eV 1) (eLst aNil))) (eOp oIx (eV 1) (eC (.int 0))) (eC .non))))
def F__law_wf_first : Fn := mkF 1 3 b__law_wf_first
/-- _law_wf_kind: slots 0 schema, 1 thing -/
abbrev b__law_wf_kind : FS :=
    (sRet (eIf (tE (eCall F__law_wf_is (aCons (eV 1) (aCons (eC (.int 0)) (aCons (eOp oSub (eOp oIx (eV 0) (eC (.int 1))) (eC (.int 1))) aNil))))) (eC .non) (eTup (aCons (eC (.str "BadKind")) (aCons (eV 1) aNil)))))
def F__law_wf_kind : Fn := mkF 2 2 b__law_wf_kind
/-- _law_wf_schema: slots 0 thing, 1 hands, 2 kinds, 3 fields, 4 at, 5 one, 6 is_pair -/
abbrev b__law_wf_schema : FS :=
    (sSeq (sIf (tOr (Wk.tNot (tE (eUn (fIsInst "tuple") (eV 0)))) (tE (eOp oNe (eUn fLen (eV 0)) (eC (.int 3))))) (sRet (eTup (aCons (eC (.str "BadSchema")) (aCons (eUn uNeg (eC (.int 1))) aNil)))) sSkip)
    (sSeq (sAsg (.tp [(.nm 1), (.nm 2), (.nm 3)]) (eV 0))
    (sSeq (sIf (Wk.tNot (tE (eCall F__law_wf_is (aCons (eV 1) (aCons (eC (.int 1)) (aCons (eC (.int 6)) aNil)))))) (sRet (eTup (aCons (eC (.str "BadSchema")) (aCons (eC (.int 0)) aNil)))) sSkip)
    (sSeq (sIf (Wk.tNot (tE (eCall F__law_wf_is (aCons (eV 2) (aCons (eV 1) (aCons (eC (.int 24)) aNil)))))) (sRet (eTup (aCons (eC (.str "BadSchema")) (aCons (eC (.int 1)) aNil)))) sSkip)
    (sSeq (sIf (Wk.tNot (tE (eUn (fIsInst "tuple") (eV 3)))) (sRet (eTup (aCons (eC (.str "BadSchema")) (aCons (eC (.int 2)) aNil)))) sSkip)
    (sSeq (sIf (tE (eOp oGt (eUn fLen (eV 3)) (eC (.int 40)))) (sRet (eTup (aCons (eC (.str "TooMany")) (aCons (eUn fLen (eV 3)) aNil)))) sSkip)
    (sSeq (sFor (iRng (eUn fLen (eV 3))) (.nm 4) (sSeq (sSet 5 (eOp oIx (eV 3) (eV 4)))
    (sSeq (sSet 6 (eAnd (eUn (fIsInst "tuple") (eV 5)) (eOp oEq (eUn fLen (eV 5)) (eC (.int 2)))))
    (sIf (tOr (Wk.tNot (tE (eV 6))) (tOr (Wk.tNot (tE (eCall F__law_wf_is (aCons (eOp oIx (eV 5) (eC (.int 0))) (aCons (eC (.int 0)) (aCons (eOp oSub (eV 2) (eC (.int 1))) aNil)))))) (Wk.tNot (tE (eCall F__law_wf_is (aCons (eOp oIx (eV 5) (eC (.int 1))) (aCons (eV 1) (aCons (eOp oSub (eV 2) (eC (.int 1))) aNil)))))))) (sRet (eTup (aCons (eC (.str "BadSchema")) (aCons (eTup (aCons (eC (.int 2)) (aCons (eV 4) aNil))) aNil)))) sSkip))))
    (sRet (eC .non)))))))))
def F__law_wf_schema : Fn := mkF 1 7 b__law_wf_schema
/-- _law_wf_order: slots 0 schema, 1 thing, 2 hands, 3 kinds, 4 is_first, 5 one -/
abbrev b__law_wf_order : FS :=
    (sSeq (sAsg (.tp [(.nm 2), (.nm 3)]) (eTup (aCons (eOp oIx (eV 0) (eC (.int 0))) (aCons (eOp oIx (eV 0) (eC (.int 1))) aNil))))
    (sSeq (sIf (tOr (Wk.tNot (tE (eUn (fIsInst "tuple") (eV 1)))) (tE (eOp oNe (eUn fLen (eV 1)) (eV 3)))) (sRet (eTup (aCons (eC (.str "BadOrder")) (aCons (eUn uNeg (eC (.int 1))) aNil)))) sSkip)
    (sSeq (sIf (tE (eOp oNe (eComp (iSeq (eV 1)) (.nm 5) (Wk.tNot (tE (eCall F__law_wf_is (aCons (eV 5) (aCons (eC (.int 0)) (aCons (eOp oSub (eV 3) (eC (.int 1))) aNil)))))) (eV 5) [5]) (eLst aNil))) (sRet (eTup (aCons (eC (.str "BadOrder")) (aCons (eUn uNeg (eC (.int 1))) aNil)))) sSkip)
    (sSeq (sSet 4 (eOp oEq (eUn fSorted (eSlice (eV 1) oNone (oSome (eV 2)))) (eUn fListRg (eV 2))))
    (sRet (eIf (tAnd (tE (eV 4)) (tE (eOp oEq (eUn fSorted (eV 1)) (eUn fListRg (eV 3))))) (eC .non) (eTup (aCons (eC (.str "BadOrder")) (aCons (eUn uNeg (eC (.int 1))) aNil)))))))))
def F__law_wf_order : Fn := mkF 2 6 b__law_wf_order
/-- _law_is_heard: slots 0 heard, 1 refusals, 2 owed, 3 why -/
abbrev b__law_is_heard : FS :=
    (sSeq (sSet 3 (eCall F__law_wf_first (aCons (eV 1) aNil)))
    (sRet (eCall F__law_same (aCons (eV 0) (aCons (eIf (tE (eOp oIsN (eV 3) (eC .non))) (eTup (aCons (eC (.str "told")) (aCons (eV 2) aNil))) (eV 3)) aNil)))))
def F__law_is_heard : Fn := mkF 3 4 b__law_is_heard
/-- _law_over: slots 0 many, 1 bound -/
abbrev b__law_over : FS :=
    (sRet (eIf (tE (eOp oGt (eV 0) (eV 1))) (eTup (aCons (eC (.str "TooMany")) (aCons (eV 0) aNil))) (eC .non)))
def F__law_over : Fn := mkF 2 2 b__law_over
/-- _law_led_fields: slots 0 schema, 1 place, 2 a, 3 b -/
abbrev b__law_led_fields : FS :=
    (sRet (eUn fTuple (eComp (iSeq (eOp oIx (eV 0) (eC (.int 2)))) (.tp [(.nm 2), (.nm 3)]) tTrue (eTup (aCons (eOp oIxD (eV 1) (eV 2)) (aCons (eOp oIxD (eV 1) (eV 3)) aNil))) [2, 3])))
def F__law_led_fields : Fn := mkF 2 4 b__law_led_fields
/-- _law_renamed_by: slots 0 schema, 1 order, 2 place, 3 j -/
abbrev b__law_renamed_by : FS :=
    (sSeq (sSet 2 (eUn fDict (eComp (iRng (eUn fLen (eV 1))) (.nm 3) tTrue (eTup (aCons (eOp oIx (eV 1) (eV 3)) (aCons (eV 3) aNil))) [3])))
    (sRet (eTup (aCons (eOp oIx (eV 0) (eC (.int 0))) (aCons (eOp oIx (eV 0) (eC (.int 1))) (aCons (eCall F__law_led_fields (aCons (eV 0) (aCons (eV 2) aNil))) aNil))))))
def F__law_renamed_by : Fn := mkF 2 4 b__law_renamed_by
/-- _law_places_beside: slots 0 one, 1 two, 2 first, 3 second, 4 kind -/
abbrev b__law_places_beside : FS :=
    (sSeq (sSet 2 (eUn fDict (eComp (iRng (eOp oIx (eV 0) (eC (.int 1)))) (.nm 4) tTrue (eTup (aCons (eV 4) (aCons (eIf (tE (eOp oLt (eV 4) (eOp oIx (eV 0) (eC (.int 0))))) (eV 4) (eOp oAdd (eV 4) (eOp oIx (eV 1) (eC (.int 0))))) aNil))) [4])))
    (sSeq (sSet 3 (eUn fDict (eComp (iRng (eOp oIx (eV 1) (eC (.int 1)))) (.nm 4) tTrue (eTup (aCons (eV 4) (aCons (eIf (tE (eOp oLt (eV 4) (eOp oIx (eV 1) (eC (.int 0))))) (eOp oAdd (eOp oIx (eV 0) (eC (.int 0))) (eV 4)) (eOp oAdd (eOp oIx (eV 0) (eC (.int 1))) (eV 4))) aNil))) [4])))
    (sRet (eTup (aCons (eV 2) (aCons (eV 3) aNil))))))
def F__law_places_beside : Fn := mkF 2 5 b__law_places_beside
/-- _law_beside_by: slots 0 one, 1 two, 2 first, 3 second -/
abbrev b__law_beside_by : FS :=
    (sSeq (sAsg (.tp [(.nm 2), (.nm 3)]) (eCall F__law_places_beside (aCons (eV 0) (aCons (eV 1) aNil))))
    (sRet (eTup (aCons (eOp oAdd (eOp oIx (eV 0) (eC (.int 0))) (eOp oIx (eV 1) (eC (.int 0)))) (aCons (eOp oAdd (eOp oIx (eV 0) (eC (.int 1))) (eOp oIx (eV 1) (eC (.int 1)))) (aCons (eOp oAdd (eCall F__law_led_fields (aCons (eV 0) (aCons (eV 2) aNil))) (eCall F__law_led_fields (aCons (eV 1) (aCons (eV 3) aNil)))) aNil))))))
def F__law_beside_by : Fn := mkF 2 4 b__law_beside_by
/-- _law_any_schema: slots 0 pool, 1 form, 2 hands, 3 kinds -/
abbrev b__law_any_schema : FS :=
    (sSeq (sSet 1 (eCall F__law_wv_take (aCons (eV 0) (aCons (eC (.int 8)) aNil))))
    (sSeq (sIf (tE (eOp oEq (eV 1) (eC (.int 0)))) (sRet (eCall F__law_wv_great_schema (aCons (eV 0) aNil))) sSkip)
    (sSeq (sIf (tE (eOp oEq (eV 1) (eC (.int 1)))) (sSeq (sSet 2 (eOp oAdd (eC (.int 1)) (eCall F__law_wv_take (aCons (eV 0) (aCons (eC (.int 6)) aNil)))))
    (sSeq (sSet 3 (eOp oAdd (eC (.int 22)) (eCall F__law_wv_take (aCons (eV 0) (aCons (eC (.int 3)) aNil)))))
    (sRet (eTup (aCons (eV 2) (aCons (eV 3) (aCons (eOp oMul (eTup (aCons (eTup (aCons (eC (.int 0)) (aCons (eOp oSub (eV 3) (eC (.int 1))) aNil))) aNil)) (eOp oAdd (eC (.int 37)) (eCall F__law_wv_take (aCons (eV 0) (aCons (eC (.int 4)) aNil))))) aNil))))))) sSkip)
    (sRet (eCall F__law_wv_schema (aCons (eV 0) aNil))))))
def F__law_any_schema : Fn := mkF 1 4 b__law_any_schema
/-- _law_no_schema: slots 0 pool, 1 schema, 2 hands, 3 kinds, 4 fields, 5 some -/
abbrev b__law_no_schema : FS :=
    (sSeq (sAsg (.tp [(.nm 2), (.nm 3), (.nm 4)]) (eV 1))
    (sSeq (sSet 5 (eLst (aCons (eC .non) (aCons (eSlice (eV 1) oNone (oSome (eC (.int 2)))) (aCons (eUn fList (eV 1)) (aCons (eTup (aCons (eC (.int 0)) (aCons (eV 3) (aCons (eV 4) aNil)))) (aCons (eTup (aCons (eC (.int 7)) (aCons (eC (.int 24)) (aCons (eTup aNil) aNil)))) (aCons (eTup (aCons (eV 2) (aCons (eC (.int 25)) (aCons (eV 4) aNil)))) (aCons (eTup (aCons (eV 2) (aCons (eOp oSub (eV 2) (eC (.int 1))) (aCons (eTup aNil) aNil)))) aNil)))))))))
    (sSeq (sExpr (eBM oExtend (eV 5) (eLst (aCons (eTup (aCons (eV 2) (aCons (eV 3) (aCons (eUn fList (eV 4)) aNil)))) (aCons (eTup (aCons (eV 2) (aCons (eV 3) (aCons (eOp oAdd (eV 4) (eTup (aCons (eTup (aCons (eC (.int 0)) (aCons (eC (.int 0)) aNil))) aNil))) aNil)))) (aCons (eTup (aCons (eV 2) (aCons (eV 3) (aCons (eOp oAdd (eV 4) (eTup (aCons (eTup (aCons (eC (.int 0)) aNil)) aNil))) aNil)))) aNil))))))
    (sRet (eCall F__law_wv_one (aCons (eV 0) (aCons (eOp oAdd (eV 5) (eLst (aCons (eTup (aCons (eV 2) (aCons (eV 3) (aCons (eTup (aCons (eTup (aCons (eV 3) (aCons (eV 2) aNil))) aNil)) aNil)))) (aCons (eTup (aCons (eC (.bl true)) (aCons (eV 3) (aCons (eTup aNil) aNil)))) (aCons (eTup (aCons (eV 2) (aCons (eV 3) (aCons (eOp oMul (eTup (aCons (eTup (aCons (eC (.int 0)) (aCons (eV 2) aNil))) aNil)) (eC (.int 41))) aNil)))) aNil))))) aNil)))))))
def F__law_no_schema : Fn := mkF 2 6 b__law_no_schema
/-- _law_odd_kind: slots 0 pool, 1 schema, 2 some -/
abbrev b__law_odd_kind : FS :=
    (sSeq (sSet 2 (eOp oMul (eUn fListRg (eOp oIx (eV 1) (eC (.int 1)))) (eC (.int 2))))
    (sRet (eCall F__law_wv_one (aCons (eV 0) (aCons (eOp oAdd (eV 2) (eLst (aCons (eOp oIx (eV 1) (eC (.int 1))) (aCons (eUn uNeg (eC (.int 1))) (aCons (eC .non) (aCons (eC (.bl true)) (aCons (eC (.str "0")) (aCons (eTup (aCons (eC (.int 0)) aNil)) aNil)))))))) aNil)))))
def F__law_odd_kind : Fn := mkF 2 3 b__law_odd_kind
/-- _law_fields_right: slots 0 pool, 1 schema, 2 hands, 3 kinds, 4 fields, 5 heard, 6 why, 7 a, 8 b, 9 f -/
abbrev b__law_fields_right : FS :=
    (sSeq (sAsg (.tp [(.nm 7), (.nm 8)]) (eTup (aCons (eCall F__law_odd_kind (aCons (eV 0) (aCons (eV 1) aNil))) (aCons (eCall F__law_odd_kind (aCons (eV 0) (aCons (eV 1) aNil))) aNil))))
    (sSeq (sAsg (.tp [(.nm 2), (.nm 3), (.nm 4)]) (eV 1))
    (sSeq (sSet 5 (eHeard heardCs (eCall F_with_kind (aCons (eV 1) aNil))))
    (sSeq (sIf (Wk.tNot (tE (eCall F__law_is_heard (aCons (eV 5) (aCons (eLst (aCons (eCall F__law_over (aCons (eOp oAdd (eV 3) (eC (.int 1))) (aCons (eC (.int 24)) aNil))) aNil)) (aCons (eTup (aCons (eV 2) (aCons (eOp oAdd (eV 3) (eC (.int 1))) (aCons (eV 4) aNil)))) aNil)))))) (sRet (eC (.bl false))) sSkip)
    (sSeq (sSet 6 (eLst (aCons (eCall F__law_wf_kind (aCons (eV 1) (aCons (eV 7) aNil))) (aCons (eCall F__law_wf_kind (aCons (eV 1) (aCons (eV 8) aNil))) aNil))))
    (sSeq (sIf (tE (eOp oEq (eV 6) (eLst (aCons (eC .non) (aCons (eC .non) aNil))))) (sExpr (eBM oExtend (eV 6) (eLst (aCons (eIf (tE (eOp oLt (eV 8) (eV 2))) (eTup (aCons (eC (.str "NotThing")) (aCons (eV 8) aNil))) (eC .non)) (aCons (eCall F__law_over (aCons (eOp oAdd (eUn fLen (eV 4)) (eC (.int 1))) (aCons (eC (.int 40)) aNil))) aNil))))) sSkip)
    (sSeq (sSet 5 (eHeard heardCs (eCall F_with_field (aCons (eV 1) (aCons (eV 7) (aCons (eV 8) aNil))))))
    (sSeq (sIf (Wk.tNot (tE (eCall F__law_is_heard (aCons (eV 5) (aCons (eV 6) (aCons (eTup (aCons (eV 2) (aCons (eV 3) (aCons (eOp oAdd (eV 4) (eTup (aCons (eTup (aCons (eV 7) (aCons (eV 8) aNil))) aNil))) aNil)))) aNil)))))) (sRet (eC (.bl false))) sSkip)
    (sSeq (sSet 5 (eHeard heardCs (eCall F_fields_of (aCons (eV 1) (aCons (eV 7) aNil)))))
    (sRet (eCall F__law_is_heard (aCons (eV 5) (aCons (eLst (aCons (eCall F__law_wf_kind (aCons (eV 1) (aCons (eV 7) aNil))) aNil)) (aCons (eUn fTuple (eComp (iRng (eUn fLen (eV 4))) (.nm 9) (tE (eOp oEq (eOp oIx (eOp oIx (eV 4) (eV 9)) (eC (.int 0))) (eV 7))) (eV 9) [9])) aNil))))))))))))))
def F__law_fields_right : Fn := mkF 2 10 b__law_fields_right
/-- _law_orders_right: slots 0 pool, 1 schema, 2 hands, 3 kinds, 4 order, 5 back, 6 owed, 7 place, 8 some, 9 heard, 10 why, 11 odd, 12 kind, 13 j -/
abbrev b__law_orders_right : FS :=
    (sSeq (sPar 2 3 (eUn fListRg (eOp oIx (eV 1) (eC (.int 0)))) (eOp oListRg (eOp oIx (eV 1) (eC (.int 0))) (eOp oIx (eV 1) (eC (.int 1)))))
    (sSeq (sSet 4 (eUn fTuple (eOp oAdd (eCall F__law_wv_mixed (aCons (eV 0) (aCons (eV 2) aNil))) (eCall F__law_wv_mixed (aCons (eV 0) (aCons (eV 3) aNil))))))
    (sSeq (sSet 5 (eUn fTuple (eComp (iRng (eOp oIx (eV 1) (eC (.int 1)))) (.nm 12) tTrue (eBM oIndex (eUn fList (eV 4)) (eV 12)) [12])))
    (sSeq (sSet 6 (eCall F__law_renamed_by (aCons (eV 1) (aCons (eV 4) aNil))))
    (sSeq (sIf (Wk.tNot (tE (eCall F__law_same (aCons (eTup (aCons (eCall F_renamed (aCons (eV 1) (aCons (eV 4) aNil))) (aCons (eCall F_renamed (aCons (eV 6) (aCons (eV 5) aNil))) aNil))) (aCons (eTup (aCons (eV 6) (aCons (eV 1) aNil))) aNil))))) (sRet (eC (.bl false))) sSkip)
    (sSeq (sSet 7 (eUn fDict (eComp (iRng (eUn fLen (eV 4))) (.nm 13) tTrue (eTup (aCons (eOp oIx (eV 4) (eV 13)) (aCons (eV 13) aNil))) [13])))
    (sSeq (sIf (Wk.tNot (tE (eCall F__law_same (aCons (eCall F_had (aCons (eV 6) aNil)) (aCons (eUn fTuple (eUn fSorted (eComp (iSeq (eCall F__law_wv_had (aCons (eV 1) aNil))) (.nm 12) tTrue (eOp oIxD (eV 7) (eV 12)) [12]))) aNil))))) (sRet (eC (.bl false))) sSkip)
    (sSeq (sIf (Wk.tNot (tE (eCall F__law_same (aCons (eCall F_had (aCons (eV 1) aNil)) (aCons (eCall F__law_wv_had (aCons (eV 1) aNil)) aNil))))) (sRet (eC (.bl false))) sSkip)
    (sSeq (sSet 8 (eLst (aCons (eC .non) (aCons (eUn fList (eV 4)) (aCons (eSlice (eV 4) (oSome (eC (.int 1))) oNone) (aCons (eOp oAdd (eV 4) (eTup (aCons (eC (.int 0)) aNil))) (aCons (eOp oAdd (eSlice (eV 4) oNone (oSome (eUn uNeg (eC (.int 1))))) (eSlice (eV 4) oNone (oSome (eC (.int 1))))) (aCons (eUn fTuple (eCall F__law_wv_mixed (aCons (eV 0) (aCons (eV 4) aNil)))) (aCons (eC (.str "order")) (aCons (eTup aNil) aNil))))))))))
    (sSeq (sSet 11 (eCall F__law_wv_one (aCons (eV 0) (aCons (eOp oAdd (eV 8) (eLst (aCons (eOp oAdd (eSlice (eV 4) oNone (oSome (eUn uNeg (eC (.int 1))))) (eTup (aCons (eC .non) aNil))) (aCons (eUn fRevA (eV 4)) (aCons (eOp oAdd (eSlice (eV 4) oNone (oSome (eUn uNeg (eC (.int 1))))) (eTup (aCons (eUn uNeg (eC (.int 1))) aNil))) (aCons (eOp oAdd (eTup (aCons (eC (.bl true)) aNil)) (eSlice (eV 4) (oSome (eC (.int 1))) oNone)) aNil)))))) aNil))))
    (sSeq (sSet 9 (eHeard heardCs (eCall F_renamed (aCons (eV 1) (aCons (eV 11) aNil)))))
    (sSeq (sSet 10 (eCall F__law_wf_order (aCons (eV 1) (aCons (eV 11) aNil))))
    (sRet (eCall F__law_same (aCons (eV 9) (aCons (eIf (tE (eOp oNotN (eV 10) (eC .non))) (eV 10) (eTup (aCons (eC (.str "told")) (aCons (eCall F__law_renamed_by (aCons (eV 1) (aCons (eV 11) aNil))) aNil)))) aNil))))))))))))))))
def F__law_orders_right : Fn := mkF 2 14 b__law_orders_right
/-- _law_beside_right: slots 0 pool, 1 one, 2 two, 3 heard, 4 why, 5 owed, 6 first, 7 second, 8 kind, 9 some, 10 other, 11 own, 12 far, 13 f -/
abbrev b__law_beside_right : FS :=
    (sSeq (sSet 3 (eHeard heardCs (eCall F_beside (aCons (eV 1) (aCons (eV 2) aNil)))))
    (sSeq (sSet 4 (eLst (aCons (eCall F__law_over (aCons (eOp oAdd (eOp oIx (eV 1) (eC (.int 0))) (eOp oIx (eV 2) (eC (.int 0)))) (aCons (eC (.int 6)) aNil))) (aCons (eCall F__law_over (aCons (eOp oAdd (eOp oIx (eV 1) (eC (.int 1))) (eOp oIx (eV 2) (eC (.int 1)))) (aCons (eC (.int 24)) aNil))) (aCons (eCall F__law_over (aCons (eOp oAdd (eUn fLen (eOp oIx (eV 1) (eC (.int 2)))) (eUn fLen (eOp oIx (eV 2) (eC (.int 2))))) (aCons (eC (.int 40)) aNil))) aNil)))))
    (sSeq (sSet 5 (eCall F__law_beside_by (aCons (eV 1) (aCons (eV 2) aNil))))
    (sSeq (sIf (Wk.tNot (tE (eCall F__law_is_heard (aCons (eV 3) (aCons (eV 4) (aCons (eV 5) aNil)))))) (sRet (eC (.bl false))) sSkip)
    (sSeq (sIf (tE (eOp oNe (eOp oIx (eV 3) (eC (.int 0))) (eC (.str "told")))) (sRet (eC (.bl true))) sSkip)
    (sSeq (sAsg (.tp [(.nm 6), (.nm 7)]) (eCall F__law_places_beside (aCons (eV 1) (aCons (eV 2) aNil))))
    (sSeq (sSet 9 (eOp oAdd (eComp (iSeq (eCall F__law_wv_had (aCons (eV 1) aNil))) (.nm 8) tTrue (eOp oIxD (eV 6) (eV 8)) [8]) (eComp (iSeq (eCall F__law_wv_had (aCons (eV 2) aNil))) (.nm 8) tTrue (eOp oIxD (eV 7) (eV 8)) [8])))
    (sSeq (sIf (Wk.tNot (tE (eCall F__law_same (aCons (eCall F_had (aCons (eV 5) aNil)) (aCons (eUn fTuple (eUn fSorted (eV 9))) aNil))))) (sRet (eC (.bl false))) sSkip)
    (sSeq (sAsg (.tp [(.nm 8), (.nm 10)]) (eTup (aCons (eCall F__law_wv_take (aCons (eV 0) (aCons (eOp oIx (eV 1) (eC (.int 1))) aNil))) (aCons (eCall F__law_wv_take (aCons (eV 0) (aCons (eOp oIx (eV 2) (eC (.int 1))) aNil))) aNil))))
    (sSeq (sSet 11 (eComp (iRng (eUn fLen (eOp oIx (eV 1) (eC (.int 2))))) (.nm 13) (tE (eOp oEq (eOp oIx (eOp oIx (eOp oIx (eV 1) (eC (.int 2))) (eV 13)) (eC (.int 0))) (eV 8))) (eV 13) [13]))
    (sSeq (sSet 12 (eComp (iRng (eUn fLen (eOp oIx (eV 2) (eC (.int 2))))) (.nm 13) (tE (eOp oEq (eOp oIx (eOp oIx (eOp oIx (eV 2) (eC (.int 2))) (eV 13)) (eC (.int 0))) (eV 10))) (eOp oAdd (eUn fLen (eOp oIx (eV 1) (eC (.int 2)))) (eV 13)) [13]))
    (sRet (eCall F__law_same (aCons (eTup (aCons (eCall F_fields_of (aCons (eV 5) (aCons (eOp oIxD (eV 6) (eV 8)) aNil))) (aCons (eCall F_fields_of (aCons (eV 5) (aCons (eOp oIxD (eV 7) (eV 10)) aNil))) aNil))) (aCons (eTup (aCons (eUn fTuple (eV 11)) (aCons (eUn fTuple (eV 12)) aNil))) aNil)))))))))))))))
def F__law_beside_right : Fn := mkF 3 14 b__law_beside_right
/-- _law_refused_right: slots 0 pool, 1 one, 2 two, 3 why, 4 behind, 5 heard, 6 bad, 7 other -/
abbrev b__law_refused_right : FS :=
    (sSeq (sAsg (.tp [(.nm 6), (.nm 7)]) (eTup (aCons (eCall F__law_no_schema (aCons (eV 0) (aCons (eV 1) aNil))) (aCons (eCall F__law_no_schema (aCons (eV 0) (aCons (eV 2) aNil))) aNil))))
    (sSeq (sPar 3 4 (eCall F__law_wf_schema (aCons (eV 6) aNil)) (eCall F__law_wf_schema (aCons (eV 7) aNil)))
    (sSeq (sSet 5 (eLst (aCons (eHeard heardCs (eCall F_with_kind (aCons (eV 6) aNil))) aNil)))
    (sSeq (sExpr (eBM oAppend (eV 5) (eHeard heardCs (eCall F_with_field (aCons (eV 6) (aCons (eC .non) (aCons (eC .non) aNil)))))))
    (sSeq (sExpr (eBM oAppend (eV 5) (eHeard heardCs (eCall F_renamed (aCons (eV 6) (aCons (eC .non) aNil))))))
    (sSeq (sExpr (eBM oAppend (eV 5) (eHeard heardCs (eCall F_beside (aCons (eV 6) (aCons (eV 7) aNil))))))
    (sSeq (sExpr (eBM oAppend (eV 5) (eHeard heardCs (eCall F_beside (aCons (eV 1) (aCons (eV 7) aNil))))))
    (sSeq (sExpr (eBM oAppend (eV 5) (eHeard heardCs (eCall F_beside (aCons (eV 6) (aCons (eV 2) aNil))))))
    (sRet (eAnd (eOp oNinS (eC .non) (eLst (aCons (eV 3) (aCons (eV 4) aNil)))) (eCall F__law_same (aCons (eV 5) (aCons (eOp oAdd (eOp oMul (eLst (aCons (eV 3) aNil)) (eC (.int 4))) (eLst (aCons (eV 4) (aCons (eV 3) aNil)))) aNil)))))))))))))
def F__law_refused_right : Fn := mkF 3 8 b__law_refused_right
/-- law: slots 0 script, 1 pool, 2 go, 3 one, 4 two, 5 turn -/
abbrev b_law : FS :=
    (sSeq (sSet 1 (eCall F__law_wv_pool (aCons (eV 0) aNil)))
    (sSeq (sFor (iRng (eC (.int 8))) (.nm 2) (sSeq (sPar 3 4 (eCall F__law_any_schema (aCons (eV 1) aNil)) (eCall F__law_any_schema (aCons (eV 1) aNil)))
    (sSeq (sFor (iRng (eC (.int 3))) (.nm 5) (sIf (tOr (Wk.tNot (tE (eCall F__law_fields_right (aCons (eV 1) (aCons (eV 3) aNil))))) (Wk.tNot (tE (eCall F__law_orders_right (aCons (eV 1) (aCons (eV 3) aNil)))))) (sRet (eC (.bl false))) sSkip))
    (sSeq (sIf (tOr (Wk.tNot (tE (eCall F__law_beside_right (aCons (eV 1) (aCons (eV 3) (aCons (eV 4) aNil)))))) (Wk.tNot (tE (eCall F__law_beside_right (aCons (eV 1) (aCons (eV 3) (aCons (eV 3) aNil))))))) (sRet (eC (.bl false))) sSkip)
    (sIf (Wk.tNot (tE (eCall F__law_refused_right (aCons (eV 1) (aCons (eV 3) (aCons (eV 4) aNil)))))) (sRet (eC (.bl false))) sSkip)))))
    (sRet (eC (.bl true)))))
def F_law : Fn := mkF 1 6 b_law
end WkL


set_option Elab.async false
set_option linter.all false
set_option maxRecDepth 100000
set_option maxHeartbeats 4000000
set_option autoImplicit false
/-! printed by gen.py: the derivations for the defs of wovenkeep_k04_schemas_edited_and_put_bes. -/
namespace WkL
open PySem PySem.Spec PyProof.Rows L2 LamX Wk

def top (i : Nat) : Stmt := PySem.Challenge.pw_wovenkeep_k04_schemas_edited_and_put_bes.main.body.getD i (.Pass ⟨0, 0, 0, 0⟩)
abbrev st_is_whole : Stmt := top 8
abbrev st_is_row : Stmt := top 9
abbrev st_is_field : Stmt := top 14
abbrev st_made_schema : Stmt := top 15
abbrev st_asked_kind : Stmt := top 16
abbrev st_held_by : Stmt := top 17
abbrev st_fields_of : Stmt := top 18
abbrev st_had_list : Stmt := top 19
abbrev st_had : Stmt := top 20
abbrev st_with_kind : Stmt := top 22
abbrev st_with_field : Stmt := top 23
abbrev st_is_order : Stmt := top 24
abbrev st_renamed : Stmt := top 25
abbrev st_kinds_beside : Stmt := top 26
abbrev st_beside : Stmt := top 27
abbrev st__law_is_whole : Stmt := top 29
abbrev st__law_same : Stmt := top 30
abbrev st__law_wv_pool : Stmt := top 31
abbrev st__law_wv_take : Stmt := top 32
abbrev st__law_wv_one : Stmt := top 33
abbrev st__law_wv_mixed : Stmt := top 34
abbrev st__law_wv_schema : Stmt := top 35
abbrev st__law_wv_great_schema : Stmt := top 36
abbrev st__law_wv_reached : Stmt := top 37
abbrev st__law_wv_had : Stmt := top 38
abbrev st__law_wf_is : Stmt := top 39
abbrev st__law_wf_first : Stmt := top 40
abbrev st__law_wf_kind : Stmt := top 41
abbrev st__law_wf_schema : Stmt := top 42
abbrev st__law_wf_order : Stmt := top 43
abbrev st__law_edit_heard : Stmt := top 44
abbrev st__law_is_heard : Stmt := top 45
abbrev st__law_over : Stmt := top 46
abbrev st__law_led_fields : Stmt := top 47
abbrev st__law_renamed_by : Stmt := top 48
abbrev st__law_places_beside : Stmt := top 49
abbrev st__law_beside_by : Stmt := top 50
abbrev st__law_any_schema : Stmt := top 51
abbrev st__law_no_schema : Stmt := top 52
abbrev st__law_odd_kind : Stmt := top 53
abbrev st__law_fields_right : Stmt := top 54
abbrev st__law_orders_right : Stmt := top 55
abbrev st__law_beside_right : Stmt := top 56
abbrev st__law_refused_right : Stmt := top 57
abbrev st_law : Stmt := top 58
abbrev st_init : Stmt := inClass (top 1) 0
theorem kit_int : ∀ t ∈ tysD, kitB t "int" = some (isTy t "int") := by decide +kernel
theorem kit_bool : ∀ t ∈ tysD, kitB t "bool" = some (isTy t "bool") := by decide +kernel
theorem kit_str : ∀ t ∈ tysD, kitB t "str" = some (isTy t "str") := by decide +kernel
theorem kit_tuple : ∀ t ∈ tysD, kitB t "tuple" = some (isTy t "tuple") := by decide +kernel
theorem kit_list : ∀ t ∈ tysD, kitB t "list" = some (isTy t "list") := by decide +kernel
theorem kit_dict : ∀ t ∈ tysD, kitB t "dict" = some (isTy t "dict") := by decide +kernel
abbrev N_is_whole : List Str := ["thing", "low", "high"]
theorem sc_is_whole : FnScope ["thing", "low", "high"] ["thing", "low", "high"] (defScope st_is_whole) := ⟨rfl, rfl, rfl, by decide +kernel, rfl, by decide +kernel, by decide +kernel⟩
abbrev N_is_row : List Str := ["thing", "many"]
theorem sc_is_row : FnScope ["thing", "many"] ["thing", "many"] (defScope st_is_row) := ⟨rfl, rfl, rfl, by decide +kernel, rfl, by decide +kernel, by decide +kernel⟩
abbrev N_is_field : List Str := ["thing", "hands", "kinds"]
theorem sc_is_field : FnScope ["thing", "hands", "kinds"] ["thing", "hands", "kinds"] (defScope st_is_field) := ⟨rfl, rfl, rfl, by decide +kernel, rfl, by decide +kernel, by decide +kernel⟩
abbrev N_made_schema : List Str := ["thing", "hands", "kinds", "fields", "index", "field"]
theorem sc_made_schema : FnScope ["thing", "hands", "kinds", "fields", "index", "field"] ["thing"] (defScope st_made_schema) := ⟨rfl, rfl, rfl, by decide +kernel, rfl, by decide +kernel, by decide +kernel⟩
abbrev N_asked_kind : List Str := ["schema", "kind"]
theorem sc_asked_kind : FnScope ["schema", "kind"] ["schema", "kind"] (defScope st_asked_kind) := ⟨rfl, rfl, rfl, by decide +kernel, rfl, by decide +kernel, by decide +kernel⟩
abbrev N_held_by : List Str := ["schema", "found", "f", "holder", "target", "kind"]
theorem sc_held_by : FnScope ["schema", "found", "f", "holder", "target", "kind"] ["schema"] (defScope st_held_by) := ⟨rfl, rfl, rfl, by decide +kernel, rfl, by decide +kernel, by decide +kernel⟩
abbrev N_fields_of : List Str := ["schema", "kind"]
theorem sc_fields_of : FnScope ["schema", "kind"] ["schema", "kind"] (defScope st_fields_of) := ⟨rfl, rfl, rfl, by decide +kernel, rfl, by decide +kernel, by decide +kernel⟩
abbrev N_had_list : List Str := ["schema", "held", "found", "waiting", "f", "target", "kind"]
theorem sc_had_list : FnScope ["schema", "held", "found", "waiting", "f", "target", "kind"] ["schema"] (defScope st_had_list) := ⟨rfl, rfl, rfl, by decide +kernel, rfl, by decide +kernel, by decide +kernel⟩
abbrev N_had : List Str := ["schema", "kind", "is_had"]
theorem sc_had : FnScope ["schema", "kind", "is_had"] ["schema"] (defScope st_had) := ⟨rfl, rfl, rfl, by decide +kernel, rfl, by decide +kernel, by decide +kernel⟩
abbrev N_with_kind : List Str := ["schema", "hands", "kinds", "fields"]
theorem sc_with_kind : FnScope ["schema", "hands", "kinds", "fields"] ["schema"] (defScope st_with_kind) := ⟨rfl, rfl, rfl, by decide +kernel, rfl, by decide +kernel, by decide +kernel⟩
abbrev N_with_field : List Str := ["schema", "a", "b", "hands", "kinds", "fields"]
theorem sc_with_field : FnScope ["schema", "a", "b", "hands", "kinds", "fields"] ["schema", "a", "b"] (defScope st_with_field) := ⟨rfl, rfl, rfl, by decide +kernel, rfl, by decide +kernel, by decide +kernel⟩
abbrev N_is_order : List Str := ["schema", "thing", "hands", "kinds", "kind"]
theorem sc_is_order : FnScope ["schema", "thing", "hands", "kinds", "kind"] ["schema", "thing"] (defScope st_is_order) := ⟨rfl, rfl, rfl, by decide +kernel, rfl, by decide +kernel, by decide +kernel⟩
abbrev N_renamed : List Str := ["schema", "order", "hands", "kinds", "fields", "now", "index", "kind", "holder", "target"]
theorem sc_renamed : FnScope ["schema", "order", "hands", "kinds", "fields", "now", "index", "kind", "holder", "target"] ["schema", "order"] (defScope st_renamed) := ⟨rfl, rfl, rfl, by decide +kernel, rfl, by decide +kernel, by decide +kernel⟩
abbrev N_kinds_beside : List Str := ["one", "two", "firsts", "seconds", "kind"]
theorem sc_kinds_beside : FnScope ["one", "two", "firsts", "seconds", "kind"] ["one", "two"] (defScope st_kinds_beside) := ⟨rfl, rfl, rfl, by decide +kernel, rfl, by decide +kernel, by decide +kernel⟩
abbrev N_beside : List Str := ["one", "two", "first", "second", "at", "most", "many", "fields", "schema", "now", "holder", "target"]
theorem sc_beside : FnScope ["one", "two", "first", "second", "at", "most", "many", "fields", "schema", "now", "holder", "target"] ["one", "two"] (defScope st_beside) := ⟨rfl, rfl, rfl, by decide +kernel, rfl, by decide +kernel, by decide +kernel⟩
abbrev N__law_is_whole : List Str := ["thing"]
theorem sc__law_is_whole : FnScope ["thing"] ["thing"] (defScope st__law_is_whole) := ⟨rfl, rfl, rfl, by decide +kernel, rfl, by decide +kernel, by decide +kernel⟩
abbrev N__law_same : List Str := ["heard_one", "owed", "at", "one"]
theorem sc__law_same : FnScope ["heard_one", "owed", "at", "one"] ["heard_one", "owed"] (defScope st__law_same) := ⟨rfl, rfl, rfl, by decide +kernel, rfl, by decide +kernel, by decide +kernel⟩
abbrev N__law_wv_pool : List Str := ["script", "digits", "stirred", "at", "cell"]
theorem sc__law_wv_pool : FnScope ["script", "digits", "stirred", "at", "cell"] ["script"] (defScope st__law_wv_pool) := ⟨rfl, rfl, rfl, by decide +kernel, rfl, by decide +kernel, by decide +kernel⟩
abbrev N__law_wv_take : List Str := ["pool", "many", "found"]
theorem sc__law_wv_take : FnScope ["pool", "many", "found"] ["pool", "many"] (defScope st__law_wv_take) := ⟨rfl, rfl, rfl, by decide +kernel, rfl, by decide +kernel, by decide +kernel⟩
abbrev N__law_wv_one : List Str := ["pool", "things"]
theorem sc__law_wv_one : FnScope ["pool", "things"] ["pool", "things"] (defScope st__law_wv_one) := ⟨rfl, rfl, rfl, by decide +kernel, rfl, by decide +kernel, by decide +kernel⟩
abbrev N__law_wv_mixed : List Str := ["pool", "things", "spare", "found", "go"]
theorem sc__law_wv_mixed : FnScope ["pool", "things", "spare", "found", "go"] ["pool", "things"] (defScope st__law_wv_mixed) := ⟨rfl, rfl, rfl, by decide +kernel, rfl, by decide +kernel, by decide +kernel⟩
abbrev N__law_wv_schema : List Str := ["pool", "hands", "kinds", "met", "found", "go", "holder", "goal"]
theorem sc__law_wv_schema : FnScope ["pool", "hands", "kinds", "met", "found", "go", "holder", "goal"] ["pool"] (defScope st__law_wv_schema) := ⟨rfl, rfl, rfl, by decide +kernel, rfl, by decide +kernel, by decide +kernel⟩
abbrev N__law_wv_great_schema : List Str := ["pool", "hands", "found", "go"]
theorem sc__law_wv_great_schema : FnScope ["pool", "hands", "found", "go"] ["pool"] (defScope st__law_wv_great_schema) := ⟨rfl, rfl, rfl, by decide +kernel, rfl, by decide +kernel, by decide +kernel⟩
abbrev N__law_wv_reached : List Str := ["schema", "kinds_now", "found", "before", "more", "a", "b", "kind"]
theorem sc__law_wv_reached : FnScope ["schema", "kinds_now", "found", "before", "more", "a", "b", "kind"] ["schema", "kinds_now"] (defScope st__law_wv_reached) := ⟨rfl, rfl, rfl, by decide +kernel, rfl, by decide +kernel, by decide +kernel⟩
abbrev N__law_wv_had : List Str := ["schema"]
theorem sc__law_wv_had : FnScope ["schema"] ["schema"] (defScope st__law_wv_had) := ⟨rfl, rfl, rfl, by decide +kernel, rfl, by decide +kernel, by decide +kernel⟩
abbrev N__law_wf_is : List Str := ["thing", "low", "top"]
theorem sc__law_wf_is : FnScope ["thing", "low", "top"] ["thing", "low", "top"] (defScope st__law_wf_is) := ⟨rfl, rfl, rfl, by decide +kernel, rfl, by decide +kernel, by decide +kernel⟩
abbrev N__law_wf_first : List Str := ["refusals", "found", "one"]
theorem sc__law_wf_first : FnScope ["refusals", "found", "one"] ["refusals"] (defScope st__law_wf_first) := ⟨rfl, rfl, rfl, by decide +kernel, rfl, by decide +kernel, by decide +kernel⟩
abbrev N__law_wf_kind : List Str := ["schema", "thing"]
theorem sc__law_wf_kind : FnScope ["schema", "thing"] ["schema", "thing"] (defScope st__law_wf_kind) := ⟨rfl, rfl, rfl, by decide +kernel, rfl, by decide +kernel, by decide +kernel⟩
abbrev N__law_wf_schema : List Str := ["thing", "hands", "kinds", "fields", "at", "one", "is_pair"]
theorem sc__law_wf_schema : FnScope ["thing", "hands", "kinds", "fields", "at", "one", "is_pair"] ["thing"] (defScope st__law_wf_schema) := ⟨rfl, rfl, rfl, by decide +kernel, rfl, by decide +kernel, by decide +kernel⟩
abbrev N__law_wf_order : List Str := ["schema", "thing", "hands", "kinds", "is_first", "one"]
theorem sc__law_wf_order : FnScope ["schema", "thing", "hands", "kinds", "is_first", "one"] ["schema", "thing"] (defScope st__law_wf_order) := ⟨rfl, rfl, rfl, by decide +kernel, rfl, by decide +kernel, by decide +kernel⟩
abbrev N__law_is_heard : List Str := ["heard", "refusals", "owed", "why"]
theorem sc__law_is_heard : FnScope ["heard", "refusals", "owed", "why"] ["heard", "refusals", "owed"] (defScope st__law_is_heard) := ⟨rfl, rfl, rfl, by decide +kernel, rfl, by decide +kernel, by decide +kernel⟩
abbrev N__law_over : List Str := ["many", "bound"]
theorem sc__law_over : FnScope ["many", "bound"] ["many", "bound"] (defScope st__law_over) := ⟨rfl, rfl, rfl, by decide +kernel, rfl, by decide +kernel, by decide +kernel⟩
abbrev N__law_led_fields : List Str := ["schema", "place", "a", "b"]
theorem sc__law_led_fields : FnScope ["schema", "place", "a", "b"] ["schema", "place"] (defScope st__law_led_fields) := ⟨rfl, rfl, rfl, by decide +kernel, rfl, by decide +kernel, by decide +kernel⟩
abbrev N__law_renamed_by : List Str := ["schema", "order", "place", "j"]
theorem sc__law_renamed_by : FnScope ["schema", "order", "place", "j"] ["schema", "order"] (defScope st__law_renamed_by) := ⟨rfl, rfl, rfl, by decide +kernel, rfl, by decide +kernel, by decide +kernel⟩
abbrev N__law_places_beside : List Str := ["one", "two", "first", "second", "kind"]
theorem sc__law_places_beside : FnScope ["one", "two", "first", "second", "kind"] ["one", "two"] (defScope st__law_places_beside) := ⟨rfl, rfl, rfl, by decide +kernel, rfl, by decide +kernel, by decide +kernel⟩
abbrev N__law_beside_by : List Str := ["one", "two", "first", "second"]
theorem sc__law_beside_by : FnScope ["one", "two", "first", "second"] ["one", "two"] (defScope st__law_beside_by) := ⟨rfl, rfl, rfl, by decide +kernel, rfl, by decide +kernel, by decide +kernel⟩
abbrev N__law_any_schema : List Str := ["pool", "form", "hands", "kinds"]
theorem sc__law_any_schema : FnScope ["pool", "form", "hands", "kinds"] ["pool"] (defScope st__law_any_schema) := ⟨rfl, rfl, rfl, by decide +kernel, rfl, by decide +kernel, by decide +kernel⟩
abbrev N__law_no_schema : List Str := ["pool", "schema", "hands", "kinds", "fields", "some"]
theorem sc__law_no_schema : FnScope ["pool", "schema", "hands", "kinds", "fields", "some"] ["pool", "schema"] (defScope st__law_no_schema) := ⟨rfl, rfl, rfl, by decide +kernel, rfl, by decide +kernel, by decide +kernel⟩
abbrev N__law_odd_kind : List Str := ["pool", "schema", "some"]
theorem sc__law_odd_kind : FnScope ["pool", "schema", "some"] ["pool", "schema"] (defScope st__law_odd_kind) := ⟨rfl, rfl, rfl, by decide +kernel, rfl, by decide +kernel, by decide +kernel⟩
abbrev N__law_fields_right : List Str := ["pool", "schema", "hands", "kinds", "fields", "heard", "why", "a", "b", "f"]
theorem sc__law_fields_right : FnScope ["pool", "schema", "hands", "kinds", "fields", "heard", "why", "a", "b", "f"] ["pool", "schema"] (defScope st__law_fields_right) := ⟨rfl, rfl, rfl, by decide +kernel, rfl, by decide +kernel, by decide +kernel⟩
abbrev N__law_orders_right : List Str := ["pool", "schema", "hands", "kinds", "order", "back", "owed", "place", "some", "heard", "why", "odd", "kind", "j"]
theorem sc__law_orders_right : FnScope ["pool", "schema", "hands", "kinds", "order", "back", "owed", "place", "some", "heard", "why", "odd", "kind", "j"] ["pool", "schema"] (defScope st__law_orders_right) := ⟨rfl, rfl, rfl, by decide +kernel, rfl, by decide +kernel, by decide +kernel⟩
abbrev N__law_beside_right : List Str := ["pool", "one", "two", "heard", "why", "owed", "first", "second", "kind", "some", "other", "own", "far", "f"]
theorem sc__law_beside_right : FnScope ["pool", "one", "two", "heard", "why", "owed", "first", "second", "kind", "some", "other", "own", "far", "f"] ["pool", "one", "two"] (defScope st__law_beside_right) := ⟨rfl, rfl, rfl, by decide +kernel, rfl, by decide +kernel, by decide +kernel⟩
abbrev N__law_refused_right : List Str := ["pool", "one", "two", "why", "behind", "heard", "bad", "other"]
theorem sc__law_refused_right : FnScope ["pool", "one", "two", "why", "behind", "heard", "bad", "other"] ["pool", "one", "two"] (defScope st__law_refused_right) := ⟨rfl, rfl, rfl, by decide +kernel, rfl, by decide +kernel, by decide +kernel⟩
abbrev N_law : List Str := ["script", "pool", "go", "one", "two", "turn"]
theorem sc_law : FnScope ["script", "pool", "go", "one", "two", "turn"] ["script"] (defScope st_law) := ⟨rfl, rfl, rfl, by decide +kernel, rfl, by decide +kernel, by decide +kernel⟩
def hds : List ExceptHandler := match defBody st__law_edit_heard with
  | [.Try _ hs _ _ _] => hs
  | _ => []
structure Txt (P : Program) (w : World) (K : PySem.W.Frag) (mg : Str → Option Value) (base : Heap) (c__law_fields_right t__law_fields_right c__law_orders_right t__law_orders_right c__law_beside_right t__law_beside_right c__law_refused_right t__law_refused_right : Addr) : Prop where
  d_is_whole : DefAt K mg "is_whole" st_is_whole ["thing", "low", "high"]
  d_is_row : DefAt K mg "is_row" st_is_row ["thing", "many"]
  d_is_field : DefAt K mg "is_field" st_is_field ["thing", "hands", "kinds"]
  d_made_schema : DefAt K mg "made_schema" st_made_schema ["thing"]
  d_asked_kind : DefAt K mg "asked_kind" st_asked_kind ["schema", "kind"]
  d_held_by : DefAt K mg "held_by" st_held_by ["schema"]
  d_fields_of : DefAt K mg "fields_of" st_fields_of ["schema", "kind"]
  d_had_list : DefAt K mg "had_list" st_had_list ["schema"]
  d_had : DefAt K mg "had" st_had ["schema"]
  d_with_kind : DefAt K mg "with_kind" st_with_kind ["schema"]
  d_with_field : DefAt K mg "with_field" st_with_field ["schema", "a", "b"]
  d_is_order : DefAt K mg "is_order" st_is_order ["schema", "thing"]
  d_renamed : DefAt K mg "renamed" st_renamed ["schema", "order"]
  d_kinds_beside : DefAt K mg "kinds_beside" st_kinds_beside ["one", "two"]
  d_beside : DefAt K mg "beside" st_beside ["one", "two"]
  d__law_is_whole : DefAt K mg "_law_is_whole" st__law_is_whole ["thing"]
  d__law_same : DefAt K mg "_law_same" st__law_same ["heard_one", "owed"]
  d__law_wv_pool : DefAt K mg "_law_wv_pool" st__law_wv_pool ["script"]
  d__law_wv_take : DefAt K mg "_law_wv_take" st__law_wv_take ["pool", "many"]
  d__law_wv_one : DefAt K mg "_law_wv_one" st__law_wv_one ["pool", "things"]
  d__law_wv_mixed : DefAt K mg "_law_wv_mixed" st__law_wv_mixed ["pool", "things"]
  d__law_wv_schema : DefAt K mg "_law_wv_schema" st__law_wv_schema ["pool"]
  d__law_wv_great_schema : DefAt K mg "_law_wv_great_schema" st__law_wv_great_schema ["pool"]
  d__law_wv_reached : DefAt K mg "_law_wv_reached" st__law_wv_reached ["schema", "kinds_now"]
  d__law_wv_had : DefAt K mg "_law_wv_had" st__law_wv_had ["schema"]
  d__law_wf_is : DefAt K mg "_law_wf_is" st__law_wf_is ["thing", "low", "top"]
  d__law_wf_first : DefAt K mg "_law_wf_first" st__law_wf_first ["refusals"]
  d__law_wf_kind : DefAt K mg "_law_wf_kind" st__law_wf_kind ["schema", "thing"]
  d__law_wf_schema : DefAt K mg "_law_wf_schema" st__law_wf_schema ["thing"]
  d__law_wf_order : DefAt K mg "_law_wf_order" st__law_wf_order ["schema", "thing"]
  d__law_is_heard : DefAt K mg "_law_is_heard" st__law_is_heard ["heard", "refusals", "owed"]
  d__law_over : DefAt K mg "_law_over" st__law_over ["many", "bound"]
  d__law_led_fields : DefAt K mg "_law_led_fields" st__law_led_fields ["schema", "place"]
  d__law_renamed_by : DefAt K mg "_law_renamed_by" st__law_renamed_by ["schema", "order"]
  d__law_places_beside : DefAt K mg "_law_places_beside" st__law_places_beside ["one", "two"]
  d__law_beside_by : DefAt K mg "_law_beside_by" st__law_beside_by ["one", "two"]
  d__law_any_schema : DefAt K mg "_law_any_schema" st__law_any_schema ["pool"]
  d__law_no_schema : DefAt K mg "_law_no_schema" st__law_no_schema ["pool", "schema"]
  d__law_odd_kind : DefAt K mg "_law_odd_kind" st__law_odd_kind ["pool", "schema"]
  d__law_fields_right : DefAtC K mg "_law_fields_right" st__law_fields_right ["pool", "schema"] c__law_fields_right
  d__law_orders_right : DefAtC K mg "_law_orders_right" st__law_orders_right ["pool", "schema"] c__law_orders_right
  d__law_beside_right : DefAtC K mg "_law_beside_right" st__law_beside_right ["pool", "one", "two"] c__law_beside_right
  d__law_refused_right : DefAtC K mg "_law_refused_right" st__law_refused_right ["pool", "one", "two"] c__law_refused_right
  d_law : DefAt K mg "law" st_law ["script"]
  n_all : mg "all" = none
  n_bool : mg "bool" = none
  n_dict : mg "dict" = none
  n_enumerate : mg "enumerate" = none
  n_int : mg "int" = none
  n_isinstance : mg "isinstance" = none
  n_len : mg "len" = none
  n_list : mg "list" = none
  n_max : mg "max" = none
  n_range : mg "range" = none
  n_sorted : mg "sorted" = none
  n_str : mg "str" = none
  n_tuple : mg "tuple" = none
  n_zip : mg "zip" = none
  c_MOST_FIELDS : ∃ t, mg "MOST_FIELDS" = some (.int 40 t)
  c_MOST_HANDS : ∃ t, mg "MOST_HANDS" = some (.int 6 t)
  c_MOST_KINDS : ∃ t, mg "MOST_KINDS" = some (.int 24 t)
  e_BadKind : ExcAt P w K mg base "BadKind"
  e_BadOrder : ExcAt P w K mg base "BadOrder"
  e_BadSchema : ExcAt P w K mg base "BadSchema"
  e_NotThing : ExcAt P w K mg base "NotThing"
  e_TooMany : ExcAt P w K mg base "TooMany"
  heard : HeardAt K mg "_law_edit_heard" "deed" "refused_one" st__law_edit_heard hds heardCs
  b__law_fields_right : TabB base mg c__law_fields_right t__law_fields_right
  b__law_orders_right : TabB base mg c__law_orders_right t__law_orders_right
  b__law_beside_right : TabB base mg c__law_beside_right t__law_beside_right
  b__law_refused_right : TabB base mg c__law_refused_right t__law_refused_right
  u__law_fields_right__law_orders_right : t__law_fields_right ≠ t__law_orders_right
  u__law_fields_right__law_beside_right : t__law_fields_right ≠ t__law_beside_right
  u__law_fields_right__law_refused_right : t__law_fields_right ≠ t__law_refused_right
  u__law_orders_right__law_beside_right : t__law_orders_right ≠ t__law_beside_right
  u__law_orders_right__law_refused_right : t__law_orders_right ≠ t__law_refused_right
  u__law_beside_right__law_refused_right : t__law_beside_right ≠ t__law_refused_right
section
variable {P : Program} {w : World} {K : PySem.W.Frag} {mg : Str → Option Value} {base : Heap} {c__law_fields_right t__law_fields_right c__law_orders_right t__law_orders_right c__law_beside_right t__law_beside_right c__law_refused_right t__law_refused_right : Addr}
abbrev Tabl (t__law_fields_right t__law_orders_right t__law_beside_right t__law_refused_right : Addr) : Tbs := [(t__law_fields_right, (envOfC "_law_fields_right" (defScope st__law_fields_right) 0 0 .none).qual ++ "<lambda>"), (t__law_orders_right, (envOfC "_law_orders_right" (defScope st__law_orders_right) 0 0 .none).qual ++ "<lambda>"), (t__law_beside_right, (envOfC "_law_beside_right" (defScope st__law_beside_right) 0 0 .none).qual ++ "<lambda>"), (t__law_refused_right, (envOfC "_law_refused_right" (defScope st__law_refused_right) 0 0 .none).qual ++ "<lambda>")]
theorem mk__law_fields_right {X : Cx} (Tx : Txt P w K mg base c__law_fields_right t__law_fields_right c__law_orders_right t__law_orders_right c__law_beside_right t__law_beside_right c__law_refused_right t__law_refused_right) (hb : X.base = base) (hm : X.mg = mg) (hc : X.env.code = .ref c__law_fields_right) (hq : X.env.qual ++ "<lambda>" = (envOfC "_law_fields_right" (defScope st__law_fields_right) 0 0 .none).qual ++ "<lambda>") : MakerAt X (Tabl t__law_fields_right t__law_orders_right t__law_beside_right t__law_refused_right) c__law_fields_right t__law_fields_right := by
  subst hb hm
  refine ⟨Tx.b__law_fields_right, hc, ?_, fun p hp e => ?_⟩
  · rw [hq]; exact (List.Mem.head _)
  · rw [hq]
    simp only [Tabl, List.mem_cons, List.not_mem_nil, or_false] at hp
    rcases hp with rfl | rfl | rfl | rfl
    · rfl
    · exact absurd e.symm Tx.u__law_fields_right__law_orders_right
    · exact absurd e.symm Tx.u__law_fields_right__law_beside_right
    · exact absurd e.symm Tx.u__law_fields_right__law_refused_right
theorem mk__law_orders_right {X : Cx} (Tx : Txt P w K mg base c__law_fields_right t__law_fields_right c__law_orders_right t__law_orders_right c__law_beside_right t__law_beside_right c__law_refused_right t__law_refused_right) (hb : X.base = base) (hm : X.mg = mg) (hc : X.env.code = .ref c__law_orders_right) (hq : X.env.qual ++ "<lambda>" = (envOfC "_law_orders_right" (defScope st__law_orders_right) 0 0 .none).qual ++ "<lambda>") : MakerAt X (Tabl t__law_fields_right t__law_orders_right t__law_beside_right t__law_refused_right) c__law_orders_right t__law_orders_right := by
  subst hb hm
  refine ⟨Tx.b__law_orders_right, hc, ?_, fun p hp e => ?_⟩
  · rw [hq]; exact (List.Mem.tail _ (List.Mem.head _))
  · rw [hq]
    simp only [Tabl, List.mem_cons, List.not_mem_nil, or_false] at hp
    rcases hp with rfl | rfl | rfl | rfl
    · exact absurd e Tx.u__law_fields_right__law_orders_right
    · rfl
    · exact absurd e.symm Tx.u__law_orders_right__law_beside_right
    · exact absurd e.symm Tx.u__law_orders_right__law_refused_right
theorem mk__law_beside_right {X : Cx} (Tx : Txt P w K mg base c__law_fields_right t__law_fields_right c__law_orders_right t__law_orders_right c__law_beside_right t__law_beside_right c__law_refused_right t__law_refused_right) (hb : X.base = base) (hm : X.mg = mg) (hc : X.env.code = .ref c__law_beside_right) (hq : X.env.qual ++ "<lambda>" = (envOfC "_law_beside_right" (defScope st__law_beside_right) 0 0 .none).qual ++ "<lambda>") : MakerAt X (Tabl t__law_fields_right t__law_orders_right t__law_beside_right t__law_refused_right) c__law_beside_right t__law_beside_right := by
  subst hb hm
  refine ⟨Tx.b__law_beside_right, hc, ?_, fun p hp e => ?_⟩
  · rw [hq]; exact (List.Mem.tail _ (List.Mem.tail _ (List.Mem.head _)))
  · rw [hq]
    simp only [Tabl, List.mem_cons, List.not_mem_nil, or_false] at hp
    rcases hp with rfl | rfl | rfl | rfl
    · exact absurd e Tx.u__law_fields_right__law_beside_right
    · exact absurd e Tx.u__law_orders_right__law_beside_right
    · rfl
    · exact absurd e.symm Tx.u__law_beside_right__law_refused_right
theorem mk__law_refused_right {X : Cx} (Tx : Txt P w K mg base c__law_fields_right t__law_fields_right c__law_orders_right t__law_orders_right c__law_beside_right t__law_beside_right c__law_refused_right t__law_refused_right) (hb : X.base = base) (hm : X.mg = mg) (hc : X.env.code = .ref c__law_refused_right) (hq : X.env.qual ++ "<lambda>" = (envOfC "_law_refused_right" (defScope st__law_refused_right) 0 0 .none).qual ++ "<lambda>") : MakerAt X (Tabl t__law_fields_right t__law_orders_right t__law_beside_right t__law_refused_right) c__law_refused_right t__law_refused_right := by
  subst hb hm
  refine ⟨Tx.b__law_refused_right, hc, ?_, fun p hp e => ?_⟩
  · rw [hq]; exact (List.Mem.tail _ (List.Mem.tail _ (List.Mem.tail _ (List.Mem.head _))))
  · rw [hq]
    simp only [Tabl, List.mem_cons, List.not_mem_nil, or_false] at hp
    rcases hp with rfl | rfl | rfl | rfl
    · exact absurd e Tx.u__law_fields_right__law_refused_right
    · exact absurd e Tx.u__law_orders_right__law_refused_right
    · exact absurd e Tx.u__law_beside_right__law_refused_right
    · rfl
theorem ok_is_whole (Tx : Txt P w K mg base c__law_fields_right t__law_fields_right c__law_orders_right t__law_orders_right c__law_beside_right t__law_beside_right c__law_refused_right t__law_refused_right) : CallOk P w K mg base (Tabl t__law_fields_right t__law_orders_right t__law_beside_right t__law_refused_right) 1 "is_whole" 3 F_is_whole := call_ok Tx.d_is_whole sc_is_whole rfl rfl fun f cdv A outer s H E hr =>
    (ess_one (es_ret (ev_and (ev_isinst kit_int Tx.n_isinstance Tx.n_int rfl (ev_v 0)) (ev_and (ev_not (ev_isinst kit_bool Tx.n_isinstance Tx.n_bool rfl (ev_v 0))) (ev_one (ev_chain (os_le hr) (os_le hr) (ev_v 1) (ev_v 0) (ev_v 2)))))))
theorem ok_is_row (Tx : Txt P w K mg base c__law_fields_right t__law_fields_right c__law_orders_right t__law_orders_right c__law_beside_right t__law_beside_right c__law_refused_right t__law_refused_right) : CallOk P w K mg base (Tabl t__law_fields_right t__law_orders_right t__law_beside_right t__law_refused_right) 1 "is_row" 2 F_is_row := call_ok Tx.d_is_row sc_is_row rfl rfl fun f cdv A outer s H E hr =>
    (ess_one (es_ret (ev_and (ev_isinst kit_tuple Tx.n_isinstance Tx.n_tuple rfl (ev_v 0)) (ev_one (ev_cmp (os_eq hr) (ev_b1 os_len Tx.n_len rfl (ev_v 0)) (ev_v 1))))))
theorem ok_is_field (Tx : Txt P w K mg base c__law_fields_right t__law_fields_right c__law_orders_right t__law_orders_right c__law_beside_right t__law_beside_right c__law_refused_right t__law_refused_right) : CallOk P w K mg base (Tabl t__law_fields_right t__law_orders_right t__law_beside_right t__law_refused_right) 2 "is_field" 3 F_is_field := call_ok Tx.d_is_field sc_is_field rfl rfl fun f cdv A outer s H E hr =>
    (ess_one (es_ret (ev_and (ev_call (ok_is_row Tx) (takes_of rfl rfl rfl rfl) (hr.mono (by decide)) (ea_cons (ev_v 0) (ea_cons ev_int ea_nil))) (ev_and (ev_call (ok_is_whole Tx) (takes_of rfl rfl rfl rfl) (hr.mono (by decide)) (ea_cons (ev_ix os_ix (ev_v 0) ev_int) (ea_cons ev_int (ea_cons (ev_op os_sub (ev_v 2) ev_int) ea_nil)))) (ev_one (ev_call (ok_is_whole Tx) (takes_of rfl rfl rfl rfl) (hr.mono (by decide)) (ea_cons (ev_ix os_ix (ev_v 0) ev_int) (ea_cons (ev_v 1) (ea_cons (ev_op os_sub (ev_v 2) ev_int) ea_nil)))))))))
theorem ok_made_schema (Tx : Txt P w K mg base c__law_fields_right t__law_fields_right c__law_orders_right t__law_orders_right c__law_beside_right t__law_beside_right c__law_refused_right t__law_refused_right) : CallOk P w K mg base (Tabl t__law_fields_right t__law_orders_right t__law_beside_right t__law_refused_right) 3 "made_schema" 1 F_made_schema := call_ok Tx.d_made_schema sc_made_schema rfl rfl fun f cdv A outer s H E hr =>
    (ess_cons (es_if (et_not (et_e (ev_call (ok_is_row Tx) (takes_of rfl rfl rfl rfl) (hr.mono (by decide)) (ea_cons (ev_v 0) (ea_cons ev_int ea_nil))))) (ess_one (es_raise Tx.e_BadSchema rfl rfl (takes_of rfl rfl rfl rfl) (hr.mono (by decide)) (ev_un os_neg ev_int))) ess_nil)
    (ess_cons (es_asg (vs := [1, 2, 3]) (ev_v 0) (eg_tup rfl (egs_cons (eg_name 1 sc_made_schema.nd) (egs_cons (eg_name 2 sc_made_schema.nd) (egs_cons (eg_name 3 sc_made_schema.nd) egs_nil)))))
    (ess_cons (es_if (et_not (et_e (ev_call (ok_is_whole Tx) (takes_of rfl rfl rfl rfl) (hr.mono (by decide)) (ea_cons (ev_v 1) (ea_cons ev_int (ea_cons (ev_globI Tx.c_MOST_HANDS.choose_spec) ea_nil)))))) (ess_one (es_raise Tx.e_BadSchema rfl rfl (takes_of rfl rfl rfl rfl) (hr.mono (by decide)) ev_int)) ess_nil)
    (ess_cons (es_if (et_not (et_e (ev_call (ok_is_whole Tx) (takes_of rfl rfl rfl rfl) (hr.mono (by decide)) (ea_cons (ev_v 2) (ea_cons (ev_v 1) (ea_cons (ev_globI Tx.c_MOST_KINDS.choose_spec) ea_nil)))))) (ess_one (es_raise Tx.e_BadSchema rfl rfl (takes_of rfl rfl rfl rfl) (hr.mono (by decide)) ev_int)) ess_nil)
    (ess_cons (es_if (et_not (et_e (ev_isinst kit_tuple Tx.n_isinstance Tx.n_tuple rfl (ev_v 3)))) (ess_one (es_raise Tx.e_BadSchema rfl rfl (takes_of rfl rfl rfl rfl) (hr.mono (by decide)) ev_int)) ess_nil)
    (ess_cons (es_if (et_cmp os_gt (ev_b1 os_len Tx.n_len rfl (ev_v 3)) (ev_globI Tx.c_MOST_FIELDS.choose_spec)) (ess_one (es_raise Tx.e_TooMany rfl rfl (takes_of rfl rfl rfl rfl) (hr.mono (by decide)) (ev_b1 os_len Tx.n_len rfl (ev_v 3)))) ess_nil)
    (ess_cons (es_for (vs := [4, 5]) (passes_of rfl) rfl (ei_enum Tx.n_enumerate (ev_v 3)) (eg_tup rfl (egs_cons (eg_name 4 sc_made_schema.nd) (egs_cons (eg_name 5 sc_made_schema.nd) egs_nil))) (ess_one (es_if (et_not (et_e (ev_call (ok_is_field Tx) (takes_of rfl rfl rfl rfl) (hr.mono (by decide)) (ea_cons (ev_v 5) (ea_cons (ev_v 1) (ea_cons (ev_v 2) ea_nil)))))) (ess_one (es_raise Tx.e_BadSchema rfl rfl (takes_of rfl rfl rfl rfl) (hr.mono (by decide)) (ev_tup (ea_cons ev_int (ea_cons (ev_v 4) ea_nil))))) ess_nil)))
    (ess_one (es_ret (ev_tup (ea_cons (ev_v 1) (ea_cons (ev_v 2) (ea_cons (ev_t1 os_tuple Tx.n_tuple rfl (ev_comp rfl sc_made_schema.nd (ei_seq (ev_v 3)) (@blkOk_by N_made_schema (defScope st_made_schema) _ [("field", 5)] (by decide +kernel)) rfl (fun _ _ _ _ _ => (eg_name 5 sc_made_schema.nd)) (fun _ _ _ _ _ => ets_nil) (fun _ _ _ _ _ => (ev_t1 os_tuple Tx.n_tuple rfl (ev_v 5))))) ea_nil)))))))))))))
theorem ok_asked_kind (Tx : Txt P w K mg base c__law_fields_right t__law_fields_right c__law_orders_right t__law_orders_right c__law_beside_right t__law_beside_right c__law_refused_right t__law_refused_right) : CallOk P w K mg base (Tabl t__law_fields_right t__law_orders_right t__law_beside_right t__law_refused_right) 3 "asked_kind" 2 F_asked_kind := call_ok Tx.d_asked_kind sc_asked_kind rfl rfl fun f cdv A outer s H E hr =>
    (ess_one (es_if (et_not (et_e (ev_call (ok_is_whole Tx) (takes_of rfl rfl rfl rfl) (hr.mono (by decide)) (ea_cons (ev_v 1) (ea_cons ev_int (ea_cons (ev_op os_sub (ev_ix os_ix (ev_v 0) ev_int) ev_int) ea_nil)))))) (ess_one (es_raise Tx.e_BadKind rfl rfl (takes_of rfl rfl rfl rfl) (hr.mono (by decide)) (ev_v 1))) ess_nil))
theorem ok_held_by (Tx : Txt P w K mg base c__law_fields_right t__law_fields_right c__law_orders_right t__law_orders_right c__law_beside_right t__law_beside_right c__law_refused_right t__law_refused_right) : CallOk P w K mg base (Tabl t__law_fields_right t__law_orders_right t__law_beside_right t__law_refused_right) 1 "held_by" 1 F_held_by := call_ok Tx.d_held_by sc_held_by rfl rfl fun f cdv A outer s H E hr =>
    (ess_cons (es_comp rfl sc_held_by.nd rfl rfl (sw_true rfl rfl rfl (by decide +kernel)) (ei_rng Tx.n_range (ev_ix os_ix (ev_v 0) ev_int)) (@blkOk_by N_held_by (defScope st_held_by) _ [("kind", 5)] (by decide +kernel)) rfl (fun _ _ _ _ _ => (eg_name 5 sc_held_by.nd)) (fun _ _ _ _ _ => ets_nil) (fun _ _ _ _ _ => (ev_lst ea_nil)))
    (ess_cons (es_for (vs := [2, 3, 4]) (passes_of rfl) rfl (ei_enum Tx.n_enumerate (ev_ix os_ix (ev_v 0) ev_int)) (eg_tup rfl (egs_cons (eg_name 2 sc_held_by.nd) (egs_cons (eg_tup rfl (egs_cons (eg_name 3 sc_held_by.nd) (egs_cons (eg_name 4 sc_held_by.nd) egs_nil))) egs_nil))) (ess_one (es_expr (ev_m1 PySem.F.slot_list_append PySem.F.type_list_append os_append (ev_ix os_ix (ev_v 1) (ev_v 3)) (ev_v 2)))))
    (ess_one (es_ret (ev_v 1)))))
theorem ok_fields_of (Tx : Txt P w K mg base c__law_fields_right t__law_fields_right c__law_orders_right t__law_orders_right c__law_beside_right t__law_beside_right c__law_refused_right t__law_refused_right) : CallOk P w K mg base (Tabl t__law_fields_right t__law_orders_right t__law_beside_right t__law_refused_right) 4 "fields_of" 2 F_fields_of := call_ok Tx.d_fields_of sc_fields_of rfl rfl fun f cdv A outer s H E hr =>
    (ess_cons (es_expr (ev_call (ok_made_schema Tx) (takes_of rfl rfl rfl rfl) (hr.mono (by decide)) (ea_cons (ev_v 0) ea_nil)))
    (ess_cons (es_expr (ev_call (ok_asked_kind Tx) (takes_of rfl rfl rfl rfl) (hr.mono (by decide)) (ea_cons (ev_v 0) (ea_cons (ev_v 1) ea_nil))))
    (ess_one (es_ret (ev_t1 os_tuple Tx.n_tuple rfl (ev_ix os_ix (ev_call (ok_held_by Tx) (takes_of rfl rfl rfl rfl) (hr.mono (by decide)) (ea_cons (ev_v 0) ea_nil)) (ev_v 1)))))))
theorem ok_had_list (Tx : Txt P w K mg base c__law_fields_right t__law_fields_right c__law_orders_right t__law_orders_right c__law_beside_right t__law_beside_right c__law_refused_right t__law_refused_right) : CallOk P w K mg base (Tabl t__law_fields_right t__law_orders_right t__law_beside_right t__law_refused_right) 2 "had_list" 1 F_had_list := call_ok Tx.d_had_list sc_had_list rfl rfl fun f cdv A outer s H E hr =>
    (ess_cons (es_set 1 sc_had_list.nd (ev_call (ok_held_by Tx) (takes_of rfl rfl rfl rfl) (hr.mono (by decide)) (ea_cons (ev_v 0) ea_nil)))
    (ess_cons (es_comp rfl sc_had_list.nd rfl rfl (sw_true rfl rfl rfl (by decide +kernel)) (ei_rng Tx.n_range (ev_ix os_ix (ev_v 0) ev_int)) (@blkOk_by N_had_list (defScope st_had_list) _ [("kind", 6)] (by decide +kernel)) rfl (fun _ _ _ _ _ => (eg_name 6 sc_had_list.nd)) (fun _ _ _ _ _ => ets_nil) (fun _ _ _ _ _ => (ev_cmp os_lt (ev_v 6) (ev_ix os_ix (ev_v 0) ev_int))))
    (ess_cons (es_set 3 sc_had_list.nd (ev_listRg rfl Tx.n_list Tx.n_range (ev_ix os_ix (ev_v 0) ev_int)))
    (ess_cons (es_while (passes_of rfl) (et_cmp (os_ne hr) (ev_v 3) (ev_lst ea_nil)) (ess_one (es_for (vs := [4]) (passes_of rfl) rfl (ei_seq (ev_ix os_ix (ev_v 1) (ev_pop (ev_v 3)))) (eg_name 4 sc_had_list.nd) (ess_cons (es_set 5 sc_had_list.nd (ev_ix os_ix (ev_ix os_ix (ev_ix os_ix (ev_v 0) ev_int) (ev_v 4)) ev_int))
    (ess_one (es_if (et_not (et_e (ev_ix os_ix (ev_v 2) (ev_v 5)))) (ess_cons (es_subL ev_bl (ev_v 2) (ev_v 5))
    (ess_one (es_expr (ev_m1 PySem.F.slot_list_append PySem.F.type_list_append os_append (ev_v 3) (ev_v 5))))) ess_nil))))))
    (ess_one (es_ret (ev_v 2)))))))
theorem ok_had (Tx : Txt P w K mg base c__law_fields_right t__law_fields_right c__law_orders_right t__law_orders_right c__law_beside_right t__law_beside_right c__law_refused_right t__law_refused_right) : CallOk P w K mg base (Tabl t__law_fields_right t__law_orders_right t__law_beside_right t__law_refused_right) 4 "had" 1 F_had := call_ok Tx.d_had sc_had rfl rfl fun f cdv A outer s H E hr =>
    (ess_cons (es_expr (ev_call (ok_made_schema Tx) (takes_of rfl rfl rfl rfl) (hr.mono (by decide)) (ea_cons (ev_v 0) ea_nil)))
    (ess_one (es_ret (ev_t1 os_tuple Tx.n_tuple rfl (ev_comp rfl sc_had.nd (ei_enum Tx.n_enumerate (ev_call (ok_had_list Tx) (takes_of rfl rfl rfl rfl) (hr.mono (by decide)) (ea_cons (ev_v 0) ea_nil))) (@blkOk_by N_had (defScope st_had) _ [("kind", 1), ("is_had", 2)] (by decide +kernel)) rfl (fun _ _ _ _ _ => (eg_tup rfl (egs_cons (eg_name 1 sc_had.nd) (egs_cons (eg_name 2 sc_had.nd) egs_nil)))) (fun _ _ _ _ _ => (ets_one (et_e (ev_v 2)))) (fun _ _ _ _ _ => (ev_v 1)))))))
theorem ok_with_kind (Tx : Txt P w K mg base c__law_fields_right t__law_fields_right c__law_orders_right t__law_orders_right c__law_beside_right t__law_beside_right c__law_refused_right t__law_refused_right) : CallOk P w K mg base (Tabl t__law_fields_right t__law_orders_right t__law_beside_right t__law_refused_right) 4 "with_kind" 1 F_with_kind := call_ok Tx.d_with_kind sc_with_kind rfl rfl fun f cdv A outer s H E hr =>
    (ess_cons (es_asg (vs := [1, 2, 3]) (ev_call (ok_made_schema Tx) (takes_of rfl rfl rfl rfl) (hr.mono (by decide)) (ea_cons (ev_v 0) ea_nil)) (eg_tup rfl (egs_cons (eg_name 1 sc_with_kind.nd) (egs_cons (eg_name 2 sc_with_kind.nd) (egs_cons (eg_name 3 sc_with_kind.nd) egs_nil)))))
    (ess_cons (es_if (et_cmp (os_eq hr) (ev_v 2) (ev_globI Tx.c_MOST_KINDS.choose_spec)) (ess_one (es_raise Tx.e_TooMany rfl rfl (takes_of rfl rfl rfl rfl) (hr.mono (by decide)) (ev_op os_add (ev_v 2) ev_int))) ess_nil)
    (ess_one (es_ret (ev_tup (ea_cons (ev_v 1) (ea_cons (ev_op os_add (ev_v 2) ev_int) (ea_cons (ev_v 3) ea_nil))))))))
theorem ok_with_field (Tx : Txt P w K mg base c__law_fields_right t__law_fields_right c__law_orders_right t__law_orders_right c__law_beside_right t__law_beside_right c__law_refused_right t__law_refused_right) : CallOk P w K mg base (Tabl t__law_fields_right t__law_orders_right t__law_beside_right t__law_refused_right) 4 "with_field" 3 F_with_field := call_ok Tx.d_with_field sc_with_field rfl rfl fun f cdv A outer s H E hr =>
    (ess_cons (es_asg (vs := [3, 4, 5]) (ev_call (ok_made_schema Tx) (takes_of rfl rfl rfl rfl) (hr.mono (by decide)) (ea_cons (ev_v 0) ea_nil)) (eg_tup rfl (egs_cons (eg_name 3 sc_with_field.nd) (egs_cons (eg_name 4 sc_with_field.nd) (egs_cons (eg_name 5 sc_with_field.nd) egs_nil)))))
    (ess_cons (es_expr (ev_call (ok_asked_kind Tx) (takes_of rfl rfl rfl rfl) (hr.mono (by decide)) (ea_cons (ev_v 0) (ea_cons (ev_v 1) ea_nil))))
    (ess_cons (es_expr (ev_call (ok_asked_kind Tx) (takes_of rfl rfl rfl rfl) (hr.mono (by decide)) (ea_cons (ev_v 0) (ea_cons (ev_v 2) ea_nil))))
    (ess_cons (es_if (et_cmp os_lt (ev_v 2) (ev_v 3)) (ess_one (es_raise Tx.e_NotThing rfl rfl (takes_of rfl rfl rfl rfl) (hr.mono (by decide)) (ev_v 2))) ess_nil)
    (ess_cons (es_if (et_cmp (os_eq hr) (ev_b1 os_len Tx.n_len rfl (ev_v 5)) (ev_globI Tx.c_MOST_FIELDS.choose_spec)) (ess_one (es_raise Tx.e_TooMany rfl rfl (takes_of rfl rfl rfl rfl) (hr.mono (by decide)) (ev_op os_add (ev_b1 os_len Tx.n_len rfl (ev_v 5)) ev_int))) ess_nil)
    (ess_one (es_ret (ev_tup (ea_cons (ev_v 3) (ea_cons (ev_v 4) (ea_cons (ev_tup (ea_star (ev_v 5) (ea_cons (ev_tup (ea_cons (ev_v 1) (ea_cons (ev_v 2) ea_nil))) ea_nil))) ea_nil)))))))))))
theorem ok_is_order (Tx : Txt P w K mg base c__law_fields_right t__law_fields_right c__law_orders_right t__law_orders_right c__law_beside_right t__law_beside_right c__law_refused_right t__law_refused_right) : CallOk P w K mg base (Tabl t__law_fields_right t__law_orders_right t__law_beside_right t__law_refused_right) 2 "is_order" 2 F_is_order := call_ok Tx.d_is_order sc_is_order rfl rfl fun f cdv A outer s H E hr =>
    (ess_cons (es_asg (vs := [2, 3]) (ev_tup (ea_cons (ev_ix os_ix (ev_v 0) ev_int) (ea_cons (ev_ix os_ix (ev_v 0) ev_int) ea_nil))) (eg_tup rfl (egs_cons (eg_name 2 sc_is_order.nd) (egs_cons (eg_name 3 sc_is_order.nd) egs_nil))))
    (ess_cons (es_if (et_w (ew_or (et_not (et_e (ev_call (ok_is_row Tx) (takes_of rfl rfl rfl rfl) (hr.mono (by decide)) (ea_cons (ev_v 1) (ea_cons (ev_v 3) ea_nil))))) (ew_or1 (et_not (et_e (ev_b1 (os_all rfl) Tx.n_all rfl (ev_comp rfl sc_is_order.nd (ei_seq (ev_v 1)) (@blkOk_by N_is_order (defScope st_is_order) _ [("kind", 4)] (by decide +kernel)) rfl (fun _ _ _ _ _ => (eg_name 4 sc_is_order.nd)) (fun _ _ _ _ _ => ets_nil) (fun _ _ _ _ _ => (ev_call (ok_is_whole Tx) L2.takes0 (hr.mono (by decide)) (ea_cons (ev_v 4) (ea_cons ev_int (ea_cons (ev_op os_sub (ev_v 3) ev_int) ea_nil)))))))))))) (ess_one (es_ret ev_bl)) ess_nil)
    (ess_one (es_ret (ev_and (ev_cmp (os_eq hr) (ev_b1 (os_sorted rfl) Tx.n_sorted rfl (ev_v 1)) (ev_listRg rfl Tx.n_list Tx.n_range (ev_v 3))) (ev_one (ev_b1 (os_all rfl) Tx.n_all rfl (ev_comp rfl sc_is_order.nd (ei_seq (ev_slice (ev_v 1) eo_none (eo_some (ev_v 2)))) (@blkOk_by N_is_order (defScope st_is_order) _ [("kind", 4)] (by decide +kernel)) rfl (fun _ _ _ _ _ => (eg_name 4 sc_is_order.nd)) (fun _ _ _ _ _ => ets_nil) (fun _ _ _ _ _ => (ev_cmp os_lt (ev_v 4) (ev_v 2)))))))))))
theorem ok_renamed (Tx : Txt P w K mg base c__law_fields_right t__law_fields_right c__law_orders_right t__law_orders_right c__law_beside_right t__law_beside_right c__law_refused_right t__law_refused_right) : CallOk P w K mg base (Tabl t__law_fields_right t__law_orders_right t__law_beside_right t__law_refused_right) 4 "renamed" 2 F_renamed := call_ok Tx.d_renamed sc_renamed rfl rfl fun f cdv A outer s H E hr =>
    (ess_cons (es_asg (vs := [2, 3, 4]) (ev_call (ok_made_schema Tx) (takes_of rfl rfl rfl rfl) (hr.mono (by decide)) (ea_cons (ev_v 0) ea_nil)) (eg_tup rfl (egs_cons (eg_name 2 sc_renamed.nd) (egs_cons (eg_name 3 sc_renamed.nd) (egs_cons (eg_name 4 sc_renamed.nd) egs_nil)))))
    (ess_cons (es_if (et_not (et_e (ev_call (ok_is_order Tx) (takes_of rfl rfl rfl rfl) (hr.mono (by decide)) (ea_cons (ev_v 0) (ea_cons (ev_v 1) ea_nil))))) (ess_one (es_raise Tx.e_BadOrder rfl rfl (takes_of rfl rfl rfl rfl) (hr.mono (by decide)) (ev_un os_neg ev_int))) ess_nil)
    (ess_cons (es_set 5 sc_renamed.nd (ev_dcomp rfl sc_renamed.nd (ei_enum Tx.n_enumerate (ev_v 1)) (@blkOk_by N_renamed (defScope st_renamed) _ [("index", 6), ("kind", 7)] (by decide +kernel)) rfl (fun _ _ _ _ _ => (eg_tup rfl (egs_cons (eg_name 6 sc_renamed.nd) (egs_cons (eg_name 7 sc_renamed.nd) egs_nil)))) (fun _ _ _ _ _ => ets_nil) (fun _ _ _ _ _ => (ev_v 7)) (fun _ _ _ _ _ => (ev_v 6))))
    (ess_one (es_ret (ev_tup (ea_cons (ev_v 2) (ea_cons (ev_v 3) (ea_cons (ev_t1 os_tuple Tx.n_tuple rfl (ev_comp rfl sc_renamed.nd (ei_seq (ev_v 4)) (@blkOk_by N_renamed (defScope st_renamed) _ [("holder", 8), ("target", 9)] (by decide +kernel)) rfl (fun _ _ _ _ _ => (eg_tup rfl (egs_cons (eg_name 8 sc_renamed.nd) (egs_cons (eg_name 9 sc_renamed.nd) egs_nil)))) (fun _ _ _ _ _ => ets_nil) (fun _ _ _ _ _ => (ev_tup (ea_cons (ev_ixD hr (ev_v 5) (ev_v 8)) (ea_cons (ev_ixD hr (ev_v 5) (ev_v 9)) ea_nil)))))) ea_nil)))))))))
theorem ok_kinds_beside (Tx : Txt P w K mg base c__law_fields_right t__law_fields_right c__law_orders_right t__law_orders_right c__law_beside_right t__law_beside_right c__law_refused_right t__law_refused_right) : CallOk P w K mg base (Tabl t__law_fields_right t__law_orders_right t__law_beside_right t__law_refused_right) 1 "kinds_beside" 2 F_kinds_beside := call_ok Tx.d_kinds_beside sc_kinds_beside rfl rfl fun f cdv A outer s H E hr =>
    (ess_cons (es_comp rfl sc_kinds_beside.nd rfl rfl (sw_true rfl rfl rfl (by decide +kernel)) (ei_rng Tx.n_range (ev_ix os_ix (ev_v 0) ev_int)) (@blkOk_by N_kinds_beside (defScope st_kinds_beside) _ [("kind", 4)] (by decide +kernel)) rfl (fun _ _ _ _ _ => (eg_name 4 sc_kinds_beside.nd)) (fun _ _ _ _ _ => ets_nil) (fun _ _ _ _ _ => (ev_if (et_cmp os_lt (ev_v 4) (ev_ix os_ix (ev_v 0) ev_int)) (ev_v 4) (ev_op os_add (ev_v 4) (ev_ix os_ix (ev_v 1) ev_int)))))
    (ess_cons (es_comp rfl sc_kinds_beside.nd rfl rfl (sw_true rfl rfl rfl (by decide +kernel)) (ei_rng Tx.n_range (ev_ix os_ix (ev_v 1) ev_int)) (@blkOk_by N_kinds_beside (defScope st_kinds_beside) _ [("kind", 4)] (by decide +kernel)) rfl (fun _ _ _ _ _ => (eg_name 4 sc_kinds_beside.nd)) (fun _ _ _ _ _ => ets_nil) (fun _ _ _ _ _ => (ev_if (et_cmp os_lt (ev_v 4) (ev_ix os_ix (ev_v 1) ev_int)) (ev_op os_add (ev_ix os_ix (ev_v 0) ev_int) (ev_v 4)) (ev_op os_add (ev_ix os_ix (ev_v 0) ev_int) (ev_v 4)))))
    (ess_one (es_ret (ev_tup (ea_cons (ev_v 2) (ea_cons (ev_v 3) ea_nil)))))))
theorem ok_beside (Tx : Txt P w K mg base c__law_fields_right t__law_fields_right c__law_orders_right t__law_orders_right c__law_beside_right t__law_beside_right c__law_refused_right t__law_refused_right) : CallOk P w K mg base (Tabl t__law_fields_right t__law_orders_right t__law_beside_right t__law_refused_right) 4 "beside" 2 F_beside := call_ok Tx.d_beside sc_beside rfl rfl fun f cdv A outer s H E hr =>
    (ess_cons (es_par 2 3 rfl sc_beside.nd (ev_call (ok_made_schema Tx) (takes_of rfl rfl rfl rfl) (hr.mono (by decide)) (ea_cons (ev_v 0) ea_nil)) (ev_call (ok_made_schema Tx) (takes_of rfl rfl rfl rfl) (hr.mono (by decide)) (ea_cons (ev_v 1) ea_nil)))
    (ess_cons (es_for (vs := [4, 5]) (passes_of rfl) rfl (ei_seq (ev_tup (ea_cons (ev_tup (ea_cons ev_int (ea_cons (ev_globI Tx.c_MOST_HANDS.choose_spec) ea_nil))) (ea_cons (ev_tup (ea_cons ev_int (ea_cons (ev_globI Tx.c_MOST_KINDS.choose_spec) ea_nil))) ea_nil)))) (eg_tup rfl (egs_cons (eg_name 4 sc_beside.nd) (egs_cons (eg_name 5 sc_beside.nd) egs_nil))) (ess_one (es_if (et_cmp os_gt (ev_op os_add (ev_ix os_ix (ev_v 2) (ev_v 4)) (ev_ix os_ix (ev_v 3) (ev_v 4))) (ev_v 5)) (ess_one (es_raise Tx.e_TooMany rfl rfl (takes_of rfl rfl rfl rfl) (hr.mono (by decide)) (ev_op os_add (ev_ix os_ix (ev_v 2) (ev_v 4)) (ev_ix os_ix (ev_v 3) (ev_v 4))))) ess_nil)))
    (ess_cons (es_set 6 sc_beside.nd (ev_op os_add (ev_b1 os_len Tx.n_len rfl (ev_ix os_ix (ev_v 2) ev_int)) (ev_b1 os_len Tx.n_len rfl (ev_ix os_ix (ev_v 3) ev_int))))
    (ess_cons (es_if (et_cmp os_gt (ev_v 6) (ev_globI Tx.c_MOST_FIELDS.choose_spec)) (ess_one (es_raise Tx.e_TooMany rfl rfl (takes_of rfl rfl rfl rfl) (hr.mono (by decide)) (ev_v 6))) ess_nil)
    (ess_cons (es_set 7 sc_beside.nd (ev_lst ea_nil))
    (ess_cons (es_for (vs := [8, 9]) (passes_of rfl) rfl (ei_zip Tx.n_zip (ev_tup (ea_cons (ev_v 2) (ea_cons (ev_v 3) ea_nil))) (ev_call (ok_kinds_beside Tx) (takes_of rfl rfl rfl rfl) (hr.mono (by decide)) (ea_cons (ev_v 2) (ea_cons (ev_v 3) ea_nil)))) (eg_tup rfl (egs_cons (eg_name 8 sc_beside.nd) (egs_cons (eg_name 9 sc_beside.nd) egs_nil))) (ess_one (es_expr (ev_m1 PySem.F.slot_list_extend PySem.F.type_list_extend os_extend (ev_v 7) (ev_comp rfl sc_beside.nd (ei_seq (ev_ix os_ix (ev_v 8) ev_int)) (@blkOk_by N_beside (defScope st_beside) _ [("holder", 10), ("target", 11)] (by decide +kernel)) rfl (fun _ _ _ _ _ => (eg_tup rfl (egs_cons (eg_name 10 sc_beside.nd) (egs_cons (eg_name 11 sc_beside.nd) egs_nil)))) (fun _ _ _ _ _ => ets_nil) (fun _ _ _ _ _ => (ev_tup (ea_cons (ev_ix os_ix (ev_v 9) (ev_v 10)) (ea_cons (ev_ix os_ix (ev_v 9) (ev_v 11)) ea_nil)))))))))
    (ess_one (es_ret (ev_tup (ea_cons (ev_op os_add (ev_ix os_ix (ev_v 2) ev_int) (ev_ix os_ix (ev_v 3) ev_int)) (ea_cons (ev_op os_add (ev_ix os_ix (ev_v 2) ev_int) (ev_ix os_ix (ev_v 3) ev_int)) (ea_cons (ev_t1 os_tuple Tx.n_tuple rfl (ev_v 7)) ea_nil))))))))))))
theorem ok__law_is_whole (Tx : Txt P w K mg base c__law_fields_right t__law_fields_right c__law_orders_right t__law_orders_right c__law_beside_right t__law_beside_right c__law_refused_right t__law_refused_right) : CallOk P w K mg base (Tabl t__law_fields_right t__law_orders_right t__law_beside_right t__law_refused_right) 1 "_law_is_whole" 1 F__law_is_whole := call_ok Tx.d__law_is_whole sc__law_is_whole rfl rfl fun f cdv A outer s H E hr =>
    (ess_one (es_ret (ev_and (ev_isinst kit_int Tx.n_isinstance Tx.n_int rfl (ev_v 0)) (ev_one (ev_not (ev_isinst kit_bool Tx.n_isinstance Tx.n_bool rfl (ev_v 0)))))))
theorem okR__law_same (Tx : Txt P w K mg base c__law_fields_right t__law_fields_right c__law_orders_right t__law_orders_right c__law_beside_right t__law_beside_right c__law_refused_right t__law_refused_right) : ∀ n : Nat, CallOk P w K mg base (Tabl t__law_fields_right t__law_orders_right t__law_beside_right t__law_refused_right) (n + 1) "_law_same" 2 (R__law_same n)
  | 0 => (call_bad Tx.d__law_same rfl).mono (Nat.zero_le _)
  | n + 1 => by
    have ih := okR__law_same Tx n
    exact (call_ok (k := n + 1) Tx.d__law_same sc__law_same rfl rfl fun f cdv A outer s H E hr =>
      (ess_cons (es_if (et_cmp os_isN (ev_v 1) ev_non) (ess_one (es_ret (ev_cmp os_isN (ev_v 0) ev_non))) ess_nil)
    (ess_cons (es_if (et_e (ev_isinst kit_bool Tx.n_isinstance Tx.n_bool rfl (ev_v 1))) (ess_one (es_ret (ev_if (et_e (ev_v 1)) (ev_cmp os_isB (ev_v 0) ev_bl) (ev_cmp os_isB (ev_v 0) ev_bl)))) ess_nil)
    (ess_cons (es_if (et_e (ev_isinst kit_int Tx.n_isinstance Tx.n_int rfl (ev_v 1))) (ess_one (es_ret (ev_and (ev_call (ok__law_is_whole Tx) (takes_of rfl rfl rfl rfl) (hr.mono (by omega)) (ea_cons (ev_v 0) ea_nil)) (ev_one (ev_cmp (os_eq hr) (ev_v 0) (ev_v 1)))))) ess_nil)
    (ess_cons (es_if (et_e (ev_isinst kit_str Tx.n_isinstance Tx.n_str rfl (ev_v 1))) (ess_one (es_ret (ev_and (ev_isinst kit_str Tx.n_isinstance Tx.n_str rfl (ev_v 0)) (ev_one (ev_cmp (os_eq hr) (ev_v 0) (ev_v 1)))))) ess_nil)
    (ess_cons (es_if (et_e (ev_isinst kit_dict Tx.n_isinstance Tx.n_dict rfl (ev_v 1))) (ess_cons (es_if (et_w (ew_or (et_not (et_e (ev_isinst kit_dict Tx.n_isinstance Tx.n_dict rfl (ev_v 0)))) (ew_or1 (et_cmp (os_ne hr) (ev_b1 os_len Tx.n_len rfl (ev_v 0)) (ev_b1 os_len Tx.n_len rfl (ev_v 1)))))) (ess_one (es_ret ev_bl)) ess_nil)
    (ess_one (es_ret (ev_cmp (os_eq hr) ev_bad (ev_lst ea_nil))))) ess_nil)
    (ess_cons (es_if (et_w (ew_and (et_not (et_e (ev_isinst kit_tuple Tx.n_isinstance Tx.n_tuple rfl (ev_v 1)))) (ew_and1 (et_not (et_e (ev_isinst kit_list Tx.n_isinstance Tx.n_list rfl (ev_v 1))))))) (ess_one (es_ret (ev_t1 os_bool Tx.n_bool rfl (ev_cmp (os_eq hr) (ev_v 0) (ev_v 1))))) ess_nil)
    (ess_cons (es_if (et_cmp (os_ne hr) (ev_isinst kit_tuple Tx.n_isinstance Tx.n_tuple rfl (ev_v 1)) (ev_isinst kit_tuple Tx.n_isinstance Tx.n_tuple rfl (ev_v 0))) (ess_one (es_ret ev_bl)) ess_nil)
    (ess_cons (es_if (et_cmp (os_ne hr) (ev_isinst kit_list Tx.n_isinstance Tx.n_list rfl (ev_v 1)) (ev_isinst kit_list Tx.n_isinstance Tx.n_list rfl (ev_v 0))) (ess_one (es_ret ev_bl)) ess_nil)
    (ess_cons (es_if (et_cmp (os_ne hr) (ev_b1 os_len Tx.n_len rfl (ev_v 0)) (ev_b1 os_len Tx.n_len rfl (ev_v 1))) (ess_one (es_ret ev_bl)) ess_nil)
    (ess_cons (es_for (vs := [2]) (passes_of rfl) rfl (ei_rng Tx.n_range (ev_b1 os_len Tx.n_len rfl (ev_v 1))) (eg_name 2 sc__law_same.nd) (ess_one (es_if (et_not (et_e (ev_call ih (takes_of rfl rfl rfl rfl) (hr.mono (by omega)) (ea_cons (ev_ix os_ix (ev_v 0) (ev_v 2)) (ea_cons (ev_ix os_ix (ev_v 1) (ev_v 2)) ea_nil))))) (ess_one (es_ret ev_bl)) ess_nil)))
    (ess_one (es_ret ev_bl))))))))))))).mono (by omega)
theorem ok__law_same (Tx : Txt P w K mg base c__law_fields_right t__law_fields_right c__law_orders_right t__law_orders_right c__law_beside_right t__law_beside_right c__law_refused_right t__law_refused_right) : CallOk P w K mg base (Tabl t__law_fields_right t__law_orders_right t__law_beside_right t__law_refused_right) 14 "_law_same" 2 F__law_same := (okR__law_same Tx 12).mono (by decide)
theorem ok__law_wv_pool (Tx : Txt P w K mg base c__law_fields_right t__law_fields_right c__law_orders_right t__law_orders_right c__law_beside_right t__law_beside_right c__law_refused_right t__law_refused_right) : CallOk P w K mg base (Tabl t__law_fields_right t__law_orders_right t__law_beside_right t__law_refused_right) 1 "_law_wv_pool" 1 F__law_wv_pool := call_ok Tx.d__law_wv_pool sc__law_wv_pool rfl rfl fun f cdv A outer s H E hr =>
    (ess_cons (es_asg (vs := [1, 2]) (ev_tup (ea_cons ev_int (ea_cons ev_int ea_nil))) (eg_tup rfl (egs_cons (eg_name 1 sc__law_wv_pool.nd) (egs_cons (eg_name 2 sc__law_wv_pool.nd) egs_nil))))
    (ess_cons (es_for (vs := [3]) (passes_of rfl) rfl (ei_rng Tx.n_range (ev_b1 os_len Tx.n_len rfl (ev_v 0))) (eg_name 3 sc__law_wv_pool.nd) (ess_cons (es_set 4 sc__law_wv_pool.nd (ev_b2 (os_max2 rfl) Tx.n_max rfl (ev_ix os_ix (ev_v 0) (ev_v 3)) (ev_op os_sub (ev_un os_neg ev_int) (ev_ix os_ix (ev_v 0) (ev_v 3)))))
    (ess_cons (es_set 2 sc__law_wv_pool.nd (ev_op os_mod (ev_op os_add (ev_op os_add (ev_op os_mul (ev_v 2) ev_int) (ev_op os_mod (ev_v 4) ev_int)) ev_int) ev_int))
    (ess_one (es_set 1 sc__law_wv_pool.nd (ev_if (et_w (ew_and (et_cmp os_ge (ev_v 4) (ev_op os_pow ev_int ev_int)) (ew_and1 (et_cmp os_lt (ev_v 1) (ev_op os_pow ev_int ev_int))))) (ev_op os_add (ev_op os_mul (ev_v 1) (ev_op os_pow ev_int ev_int)) (ev_op os_mod (ev_v 4) (ev_op os_pow ev_int ev_int))) (ev_v 1)))))))
    (ess_one (es_ret (ev_lst (ea_cons (ev_v 1) (ea_cons (ev_v 2) ea_nil)))))))
theorem ok__law_wv_take (Tx : Txt P w K mg base c__law_fields_right t__law_fields_right c__law_orders_right t__law_orders_right c__law_beside_right t__law_beside_right c__law_refused_right t__law_refused_right) : CallOk P w K mg base (Tabl t__law_fields_right t__law_orders_right t__law_beside_right t__law_refused_right) 1 "_law_wv_take" 2 F__law_wv_take := call_ok Tx.d__law_wv_take sc__law_wv_take rfl rfl fun f cdv A outer s H E hr =>
    (ess_cons (es_if (et_cmp os_gt (ev_ix os_ix (ev_v 0) ev_int) ev_int) (ess_cons (es_set 2 sc__law_wv_take.nd (ev_op os_mod (ev_ix os_ix (ev_v 0) ev_int) (ev_v 1)))
    (ess_cons (es_subL (ev_op os_fdiv (ev_ix os_ix (ev_v 0) ev_int) (ev_v 1)) (ev_v 0) ev_int)
    (ess_one (es_ret (ev_v 2))))) ess_nil)
    (ess_cons (es_subL (ev_op os_mod (ev_op os_add (ev_op os_mul (ev_ix os_ix (ev_v 0) ev_int) ev_int) ev_int) ev_int) (ev_v 0) ev_int)
    (ess_one (es_ret (ev_op os_mod (ev_op os_fdiv (ev_op os_mod (ev_op os_mul (ev_ix os_ix (ev_v 0) ev_int) (ev_ix os_ix (ev_v 0) ev_int)) ev_int) ev_int) (ev_v 1))))))
theorem ok__law_wv_one (Tx : Txt P w K mg base c__law_fields_right t__law_fields_right c__law_orders_right t__law_orders_right c__law_beside_right t__law_beside_right c__law_refused_right t__law_refused_right) : CallOk P w K mg base (Tabl t__law_fields_right t__law_orders_right t__law_beside_right t__law_refused_right) 2 "_law_wv_one" 2 F__law_wv_one := call_ok Tx.d__law_wv_one sc__law_wv_one rfl rfl fun f cdv A outer s H E hr =>
    (ess_one (es_ret (ev_ix os_ix (ev_v 1) (ev_call (ok__law_wv_take Tx) (takes_of rfl rfl rfl rfl) (hr.mono (by decide)) (ea_cons (ev_v 0) (ea_cons (ev_b1 os_len Tx.n_len rfl (ev_v 1)) ea_nil))))))
theorem ok__law_wv_mixed (Tx : Txt P w K mg base c__law_fields_right t__law_fields_right c__law_orders_right t__law_orders_right c__law_beside_right t__law_beside_right c__law_refused_right t__law_refused_right) : CallOk P w K mg base (Tabl t__law_fields_right t__law_orders_right t__law_beside_right t__law_refused_right) 2 "_law_wv_mixed" 2 F__law_wv_mixed := call_ok Tx.d__law_wv_mixed sc__law_wv_mixed rfl rfl fun f cdv A outer s H E hr =>
    (ess_cons (es_par 2 3 rfl sc__law_wv_mixed.nd (ev_t1 os_list Tx.n_list rfl (ev_v 1)) (ev_lst ea_nil))
    (ess_cons (es_for (vs := [4]) (passes_of rfl) rfl (ei_rng Tx.n_range (ev_b1 os_len Tx.n_len rfl (ev_v 1))) (eg_name 4 sc__law_wv_mixed.nd) (ess_one (es_expr (ev_m1 PySem.F.slot_list_append PySem.F.type_list_append os_append (ev_v 3) (ev_m1 PySem.F.slot_list_pop PySem.F.type_list_pop os_popAt (ev_v 2) (ev_call (ok__law_wv_take Tx) (takes_of rfl rfl rfl rfl) (hr.mono (by decide)) (ea_cons (ev_v 0) (ea_cons (ev_b1 os_len Tx.n_len rfl (ev_v 2)) ea_nil))))))))
    (ess_one (es_ret (ev_v 3)))))
theorem ok__law_wv_schema (Tx : Txt P w K mg base c__law_fields_right t__law_fields_right c__law_orders_right t__law_orders_right c__law_beside_right t__law_beside_right c__law_refused_right t__law_refused_right) : CallOk P w K mg base (Tabl t__law_fields_right t__law_orders_right t__law_beside_right t__law_refused_right) 3 "_law_wv_schema" 1 F__law_wv_schema := call_ok Tx.d__law_wv_schema sc__law_wv_schema rfl rfl fun f cdv A outer s H E hr =>
    (ess_cons (es_set 1 sc__law_wv_schema.nd (ev_op os_add ev_int (ev_op os_fdiv (ev_call (ok__law_wv_take Tx) (takes_of rfl rfl rfl rfl) (hr.mono (by decide)) (ea_cons (ev_v 0) (ea_cons ev_int ea_nil))) ev_int)))
    (ess_cons (es_set 2 sc__law_wv_schema.nd (ev_op os_add (ev_op os_add (ev_v 1) ev_int) (ev_call (ok__law_wv_take Tx) (takes_of rfl rfl rfl rfl) (hr.mono (by decide)) (ea_cons (ev_v 0) (ea_cons ev_int ea_nil)))))
    (ess_cons (es_par 3 4 rfl sc__law_wv_schema.nd (ev_listRg rfl Tx.n_list Tx.n_range (ev_v 1)) (ev_lst ea_nil))
    (ess_cons (es_for (vs := [5]) (passes_of rfl) rfl (ei_rng Tx.n_range (ev_call (ok__law_wv_one Tx) (takes_of rfl rfl rfl rfl) (hr.mono (by decide)) (ea_cons (ev_v 0) (ea_cons (ev_lst (ea_cons ev_int (ea_cons ev_int (ea_cons ev_int (ea_cons ev_int (ea_cons ev_int (ea_cons ev_int (ea_cons ev_int (ea_cons ev_int (ea_cons ev_int (ea_cons ev_int (ea_cons ev_int (ea_cons ev_int ea_nil))))))))))))) ea_nil)))) (eg_name 5 sc__law_wv_schema.nd) (ess_cons (es_set 6 sc__law_wv_schema.nd (ev_if (et_cmp os_gt (ev_call (ok__law_wv_take Tx) (takes_of rfl rfl rfl rfl) (hr.mono (by decide)) (ea_cons (ev_v 0) (ea_cons ev_int ea_nil))) ev_int) (ev_call (ok__law_wv_one Tx) (takes_of rfl rfl rfl rfl) (hr.mono (by decide)) (ea_cons (ev_v 0) (ea_cons (ev_v 3) ea_nil))) (ev_call (ok__law_wv_take Tx) (takes_of rfl rfl rfl rfl) (hr.mono (by decide)) (ea_cons (ev_v 0) (ea_cons (ev_v 2) ea_nil)))))
    (ess_cons (es_set 7 sc__law_wv_schema.nd (ev_op os_add (ev_v 1) (ev_call (ok__law_wv_take Tx) (takes_of rfl rfl rfl rfl) (hr.mono (by decide)) (ea_cons (ev_v 0) (ea_cons (ev_op os_sub (ev_v 2) (ev_v 1)) ea_nil)))))
    (ess_cons (es_expr (ev_m1 PySem.F.slot_list_append PySem.F.type_list_append os_append (ev_v 4) (ev_tup (ea_cons (ev_v 6) (ea_cons (ev_v 7) ea_nil)))))
    (ess_one (es_expr (ev_m1 PySem.F.slot_list_extend PySem.F.type_list_extend os_extend (ev_v 3) (ev_if (et_cmp (os_inS hr) (ev_v 6) (ev_v 3)) (ev_lst (ea_cons (ev_v 7) ea_nil)) (ev_lst ea_nil)))))))))
    (ess_one (es_ret (ev_tup (ea_cons (ev_v 1) (ea_cons (ev_v 2) (ea_cons (ev_t1 os_tuple Tx.n_tuple rfl (ev_call (ok__law_wv_mixed Tx) (takes_of rfl rfl rfl rfl) (hr.mono (by decide)) (ea_cons (ev_v 0) (ea_cons (ev_v 4) ea_nil)))) ea_nil))))))))))
theorem ok__law_wv_great_schema (Tx : Txt P w K mg base c__law_fields_right t__law_fields_right c__law_orders_right t__law_orders_right c__law_beside_right t__law_beside_right c__law_refused_right t__law_refused_right) : CallOk P w K mg base (Tabl t__law_fields_right t__law_orders_right t__law_beside_right t__law_refused_right) 3 "_law_wv_great_schema" 1 F__law_wv_great_schema := call_ok Tx.d__law_wv_great_schema sc__law_wv_great_schema rfl rfl fun f cdv A outer s H E hr =>
    (ess_cons (es_set 1 sc__law_wv_great_schema.nd (ev_op os_add ev_int (ev_call (ok__law_wv_take Tx) (takes_of rfl rfl rfl rfl) (hr.mono (by decide)) (ea_cons (ev_v 0) (ea_cons ev_int ea_nil)))))
    (ess_cons (es_comp rfl sc__law_wv_great_schema.nd rfl rfl (sw_true rfl rfl rfl (by decide +kernel)) (ei_rng Tx.n_range ev_int) (@blkOk_by N__law_wv_great_schema (defScope st__law_wv_great_schema) _ [("go", 3)] (by decide +kernel)) rfl (fun _ _ _ _ _ => (eg_name 3 sc__law_wv_great_schema.nd)) (fun _ _ _ _ _ => ets_nil) (fun _ _ _ _ _ => (ev_tup (ea_cons (ev_call (ok__law_wv_take Tx) L2.takes0 (hr.mono (by decide)) (ea_cons (ev_v 0) (ea_cons (ev_v 1) ea_nil))) (ea_cons (ev_op os_add (ev_v 1) (ev_call (ok__law_wv_take Tx) L2.takes0 (hr.mono (by decide)) (ea_cons (ev_v 0) (ea_cons (ev_op os_sub ev_int (ev_v 1)) ea_nil)))) ea_nil)))))
    (ess_cons (es_expr (ev_m1 PySem.F.slot_list_extend PySem.F.type_list_extend os_extend (ev_v 2) (ev_comp rfl sc__law_wv_great_schema.nd (ei_rng Tx.n_range ev_int) (@blkOk_by N__law_wv_great_schema (defScope st__law_wv_great_schema) _ [("go", 3)] (by decide +kernel)) rfl (fun _ _ _ _ _ => (eg_name 3 sc__law_wv_great_schema.nd)) (fun _ _ _ _ _ => ets_nil) (fun _ _ _ _ _ => (ev_tup (ea_cons (ev_call (ok__law_wv_take Tx) L2.takes0 (hr.mono (by decide)) (ea_cons (ev_v 0) (ea_cons ev_int ea_nil))) (ea_cons (ev_op os_add (ev_v 1) (ev_call (ok__law_wv_take Tx) L2.takes0 (hr.mono (by decide)) (ea_cons (ev_v 0) (ea_cons (ev_op os_sub ev_int (ev_v 1)) ea_nil)))) ea_nil)))))))
    (ess_one (es_ret (ev_tup (ea_cons (ev_v 1) (ea_cons ev_int (ea_cons (ev_t1 os_tuple Tx.n_tuple rfl (ev_call (ok__law_wv_mixed Tx) (takes_of rfl rfl rfl rfl) (hr.mono (by decide)) (ea_cons (ev_v 0) (ea_cons (ev_v 2) ea_nil)))) ea_nil)))))))))
theorem ok__law_wv_reached (Tx : Txt P w K mg base c__law_fields_right t__law_fields_right c__law_orders_right t__law_orders_right c__law_beside_right t__law_beside_right c__law_refused_right t__law_refused_right) : CallOk P w K mg base (Tabl t__law_fields_right t__law_orders_right t__law_beside_right t__law_refused_right) 1 "_law_wv_reached" 2 F__law_wv_reached := call_ok Tx.d__law_wv_reached sc__law_wv_reached rfl rfl fun f cdv A outer s H E hr =>
    (ess_cons (es_asg (vs := [2, 3]) (ev_tup (ea_cons (ev_b1 (os_sorted rfl) Tx.n_sorted rfl (ev_v 1)) (ea_cons ev_non ea_nil))) (eg_tup rfl (egs_cons (eg_name 2 sc__law_wv_reached.nd) (egs_cons (eg_name 3 sc__law_wv_reached.nd) egs_nil))))
    (ess_cons (es_while (passes_of rfl) (et_cmp (os_ne hr) (ev_v 3) (ev_v 2)) (ess_cons (es_set 3 sc__law_wv_reached.nd (ev_v 2))
    (ess_cons (es_set 4 sc__law_wv_reached.nd (ev_comp rfl sc__law_wv_reached.nd (ei_seq (ev_ix os_ix (ev_v 0) ev_int)) (@blkOk_by N__law_wv_reached (defScope st__law_wv_reached) _ [("a", 5), ("b", 6)] (by decide +kernel)) rfl (fun _ _ _ _ _ => (eg_tup rfl (egs_cons (eg_name 5 sc__law_wv_reached.nd) (egs_cons (eg_name 6 sc__law_wv_reached.nd) egs_nil)))) (fun _ _ _ _ _ => (ets_one (et_cmp (os_inS hr) (ev_v 5) (ev_v 3)))) (fun _ _ _ _ _ => (ev_v 6))))
    (ess_one (es_comp rfl sc__law_wv_reached.nd rfl rfl (sw_true rfl rfl rfl (by decide +kernel)) (ei_rng Tx.n_range (ev_ix os_ix (ev_v 0) ev_int)) (@blkOk_by N__law_wv_reached (defScope st__law_wv_reached) _ [("kind", 7)] (by decide +kernel)) rfl (fun _ _ _ _ _ => (eg_name 7 sc__law_wv_reached.nd)) (fun _ _ _ _ _ => (ets_one (et_w (ew_or (et_cmp (os_inS hr) (ev_v 7) (ev_v 3)) (ew_or1 (et_cmp (os_inS hr) (ev_v 7) (ev_v 4))))))) (fun _ _ _ _ _ => (ev_v 7)))))))
    (ess_one (es_ret (ev_v 2)))))
theorem ok__law_wv_had (Tx : Txt P w K mg base c__law_fields_right t__law_fields_right c__law_orders_right t__law_orders_right c__law_beside_right t__law_beside_right c__law_refused_right t__law_refused_right) : CallOk P w K mg base (Tabl t__law_fields_right t__law_orders_right t__law_beside_right t__law_refused_right) 2 "_law_wv_had" 1 F__law_wv_had := call_ok Tx.d__law_wv_had sc__law_wv_had rfl rfl fun f cdv A outer s H E hr =>
    (ess_one (es_ret (ev_t1 os_tuple Tx.n_tuple rfl (ev_call (ok__law_wv_reached Tx) (takes_of rfl rfl rfl rfl) (hr.mono (by decide)) (ea_cons (ev_v 0) (ea_cons (ev_listRg rfl Tx.n_list Tx.n_range (ev_ix os_ix (ev_v 0) ev_int)) ea_nil))))))
theorem ok__law_wf_is (Tx : Txt P w K mg base c__law_fields_right t__law_fields_right c__law_orders_right t__law_orders_right c__law_beside_right t__law_beside_right c__law_refused_right t__law_refused_right) : CallOk P w K mg base (Tabl t__law_fields_right t__law_orders_right t__law_beside_right t__law_refused_right) 1 "_law_wf_is" 3 F__law_wf_is := call_ok Tx.d__law_wf_is sc__law_wf_is rfl rfl fun f cdv A outer s H E hr =>
    (ess_one (es_ret (ev_and (ev_isinst kit_int Tx.n_isinstance Tx.n_int rfl (ev_v 0)) (ev_and (ev_not (ev_isinst kit_bool Tx.n_isinstance Tx.n_bool rfl (ev_v 0))) (ev_one (ev_chain (os_le hr) (os_le hr) (ev_v 1) (ev_v 0) (ev_v 2)))))))
theorem ok__law_wf_first (Tx : Txt P w K mg base c__law_fields_right t__law_fields_right c__law_orders_right t__law_orders_right c__law_beside_right t__law_beside_right c__law_refused_right t__law_refused_right) : CallOk P w K mg base (Tabl t__law_fields_right t__law_orders_right t__law_beside_right t__law_refused_right) 1 "_law_wf_first" 1 F__law_wf_first := call_ok Tx.d__law_wf_first sc__law_wf_first rfl rfl fun f cdv A outer s H E hr =>
    (ess_cons (es_comp rfl sc__law_wf_first.nd rfl rfl (sw_true rfl rfl rfl (by decide +kernel)) (ei_seq (ev_v 0)) (@blkOk_by N__law_wf_first (defScope st__law_wf_first) _ [("one", 2)] (by decide +kernel)) rfl (fun _ _ _ _ _ => (eg_name 2 sc__law_wf_first.nd)) (fun _ _ _ _ _ => (ets_one (et_cmp os_notN (ev_v 2) ev_non))) (fun _ _ _ _ _ => (ev_v 2)))
    (ess_one (es_ret (ev_if (et_cmp (os_ne hr) (ev_v 1) (ev_lst ea_nil)) (ev_ix os_ix (ev_v 1) ev_int) ev_non))))
theorem ok__law_wf_kind (Tx : Txt P w K mg base c__law_fields_right t__law_fields_right c__law_orders_right t__law_orders_right c__law_beside_right t__law_beside_right c__law_refused_right t__law_refused_right) : CallOk P w K mg base (Tabl t__law_fields_right t__law_orders_right t__law_beside_right t__law_refused_right) 2 "_law_wf_kind" 2 F__law_wf_kind := call_ok Tx.d__law_wf_kind sc__law_wf_kind rfl rfl fun f cdv A outer s H E hr =>
    (ess_one (es_ret (ev_if (et_e (ev_call (ok__law_wf_is Tx) (takes_of rfl rfl rfl rfl) (hr.mono (by decide)) (ea_cons (ev_v 1) (ea_cons ev_int (ea_cons (ev_op os_sub (ev_ix os_ix (ev_v 0) ev_int) ev_int) ea_nil))))) ev_non (ev_tup (ea_cons ev_str (ea_cons (ev_v 1) ea_nil))))))
theorem ok__law_wf_schema (Tx : Txt P w K mg base c__law_fields_right t__law_fields_right c__law_orders_right t__law_orders_right c__law_beside_right t__law_beside_right c__law_refused_right t__law_refused_right) : CallOk P w K mg base (Tabl t__law_fields_right t__law_orders_right t__law_beside_right t__law_refused_right) 2 "_law_wf_schema" 1 F__law_wf_schema := call_ok Tx.d__law_wf_schema sc__law_wf_schema rfl rfl fun f cdv A outer s H E hr =>
    (ess_cons (es_if (et_w (ew_or (et_not (et_e (ev_isinst kit_tuple Tx.n_isinstance Tx.n_tuple rfl (ev_v 0)))) (ew_or1 (et_cmp (os_ne hr) (ev_b1 os_len Tx.n_len rfl (ev_v 0)) ev_int)))) (ess_one (es_ret (ev_tup (ea_cons ev_str (ea_cons (ev_un os_neg ev_int) ea_nil))))) ess_nil)
    (ess_cons (es_asg (vs := [1, 2, 3]) (ev_v 0) (eg_tup rfl (egs_cons (eg_name 1 sc__law_wf_schema.nd) (egs_cons (eg_name 2 sc__law_wf_schema.nd) (egs_cons (eg_name 3 sc__law_wf_schema.nd) egs_nil)))))
    (ess_cons (es_if (et_not (et_e (ev_call (ok__law_wf_is Tx) (takes_of rfl rfl rfl rfl) (hr.mono (by decide)) (ea_cons (ev_v 1) (ea_cons ev_int (ea_cons ev_int ea_nil)))))) (ess_one (es_ret (ev_tup (ea_cons ev_str (ea_cons ev_int ea_nil))))) ess_nil)
    (ess_cons (es_if (et_not (et_e (ev_call (ok__law_wf_is Tx) (takes_of rfl rfl rfl rfl) (hr.mono (by decide)) (ea_cons (ev_v 2) (ea_cons (ev_v 1) (ea_cons ev_int ea_nil)))))) (ess_one (es_ret (ev_tup (ea_cons ev_str (ea_cons ev_int ea_nil))))) ess_nil)
    (ess_cons (es_if (et_not (et_e (ev_isinst kit_tuple Tx.n_isinstance Tx.n_tuple rfl (ev_v 3)))) (ess_one (es_ret (ev_tup (ea_cons ev_str (ea_cons ev_int ea_nil))))) ess_nil)
    (ess_cons (es_if (et_cmp os_gt (ev_b1 os_len Tx.n_len rfl (ev_v 3)) ev_int) (ess_one (es_ret (ev_tup (ea_cons ev_str (ea_cons (ev_b1 os_len Tx.n_len rfl (ev_v 3)) ea_nil))))) ess_nil)
    (ess_cons (es_for (vs := [4]) (passes_of rfl) rfl (ei_rng Tx.n_range (ev_b1 os_len Tx.n_len rfl (ev_v 3))) (eg_name 4 sc__law_wf_schema.nd) (ess_cons (es_set 5 sc__law_wf_schema.nd (ev_ix os_ix (ev_v 3) (ev_v 4)))
    (ess_cons (es_set 6 sc__law_wf_schema.nd (ev_and (ev_isinst kit_tuple Tx.n_isinstance Tx.n_tuple rfl (ev_v 5)) (ev_one (ev_cmp (os_eq hr) (ev_b1 os_len Tx.n_len rfl (ev_v 5)) ev_int))))
    (ess_one (es_if (et_w (ew_or (et_not (et_e (ev_v 6))) (ew_or (et_not (et_e (ev_call (ok__law_wf_is Tx) (takes_of rfl rfl rfl rfl) (hr.mono (by decide)) (ea_cons (ev_ix os_ix (ev_v 5) ev_int) (ea_cons ev_int (ea_cons (ev_op os_sub (ev_v 2) ev_int) ea_nil)))))) (ew_or1 (et_not (et_e (ev_call (ok__law_wf_is Tx) (takes_of rfl rfl rfl rfl) (hr.mono (by decide)) (ea_cons (ev_ix os_ix (ev_v 5) ev_int) (ea_cons (ev_v 1) (ea_cons (ev_op os_sub (ev_v 2) ev_int) ea_nil)))))))))) (ess_one (es_ret (ev_tup (ea_cons ev_str (ea_cons (ev_tup (ea_cons ev_int (ea_cons (ev_v 4) ea_nil))) ea_nil))))) ess_nil)))))
    (ess_one (es_ret ev_non)))))))))
theorem ok__law_wf_order (Tx : Txt P w K mg base c__law_fields_right t__law_fields_right c__law_orders_right t__law_orders_right c__law_beside_right t__law_beside_right c__law_refused_right t__law_refused_right) : CallOk P w K mg base (Tabl t__law_fields_right t__law_orders_right t__law_beside_right t__law_refused_right) 2 "_law_wf_order" 2 F__law_wf_order := call_ok Tx.d__law_wf_order sc__law_wf_order rfl rfl fun f cdv A outer s H E hr =>
    (ess_cons (es_asg (vs := [2, 3]) (ev_tup (ea_cons (ev_ix os_ix (ev_v 0) ev_int) (ea_cons (ev_ix os_ix (ev_v 0) ev_int) ea_nil))) (eg_tup rfl (egs_cons (eg_name 2 sc__law_wf_order.nd) (egs_cons (eg_name 3 sc__law_wf_order.nd) egs_nil))))
    (ess_cons (es_if (et_w (ew_or (et_not (et_e (ev_isinst kit_tuple Tx.n_isinstance Tx.n_tuple rfl (ev_v 1)))) (ew_or1 (et_cmp (os_ne hr) (ev_b1 os_len Tx.n_len rfl (ev_v 1)) (ev_v 3))))) (ess_one (es_ret (ev_tup (ea_cons ev_str (ea_cons (ev_un os_neg ev_int) ea_nil))))) ess_nil)
    (ess_cons (es_if (et_cmp (os_ne hr) (ev_comp rfl sc__law_wf_order.nd (ei_seq (ev_v 1)) (@blkOk_by N__law_wf_order (defScope st__law_wf_order) _ [("one", 5)] (by decide +kernel)) rfl (fun _ _ _ _ _ => (eg_name 5 sc__law_wf_order.nd)) (fun _ _ _ _ _ => (ets_one (et_not (et_e (ev_call (ok__law_wf_is Tx) L2.takes0 (hr.mono (by decide)) (ea_cons (ev_v 5) (ea_cons ev_int (ea_cons (ev_op os_sub (ev_v 3) ev_int) ea_nil)))))))) (fun _ _ _ _ _ => (ev_v 5))) (ev_lst ea_nil)) (ess_one (es_ret (ev_tup (ea_cons ev_str (ea_cons (ev_un os_neg ev_int) ea_nil))))) ess_nil)
    (ess_cons (es_set 4 sc__law_wf_order.nd (ev_cmp (os_eq hr) (ev_b1 (os_sorted rfl) Tx.n_sorted rfl (ev_slice (ev_v 1) eo_none (eo_some (ev_v 2)))) (ev_listRg rfl Tx.n_list Tx.n_range (ev_v 2))))
    (ess_one (es_ret (ev_if (et_w (ew_and (et_e (ev_v 4)) (ew_and1 (et_cmp (os_eq hr) (ev_b1 (os_sorted rfl) Tx.n_sorted rfl (ev_v 1)) (ev_listRg rfl Tx.n_list Tx.n_range (ev_v 3)))))) ev_non (ev_tup (ea_cons ev_str (ea_cons (ev_un os_neg ev_int) ea_nil))))))))))
theorem ok__law_is_heard (Tx : Txt P w K mg base c__law_fields_right t__law_fields_right c__law_orders_right t__law_orders_right c__law_beside_right t__law_beside_right c__law_refused_right t__law_refused_right) : CallOk P w K mg base (Tabl t__law_fields_right t__law_orders_right t__law_beside_right t__law_refused_right) 15 "_law_is_heard" 3 F__law_is_heard := call_ok Tx.d__law_is_heard sc__law_is_heard rfl rfl fun f cdv A outer s H E hr =>
    (ess_cons (es_set 3 sc__law_is_heard.nd (ev_call (ok__law_wf_first Tx) (takes_of rfl rfl rfl rfl) (hr.mono (by decide)) (ea_cons (ev_v 1) ea_nil)))
    (ess_one (es_ret (ev_call (ok__law_same Tx) (takes_of rfl rfl rfl rfl) (hr.mono (by decide)) (ea_cons (ev_v 0) (ea_cons (ev_if (et_cmp os_isN (ev_v 3) ev_non) (ev_tup (ea_cons ev_str (ea_cons (ev_v 2) ea_nil))) (ev_v 3)) ea_nil))))))
theorem ok__law_over (Tx : Txt P w K mg base c__law_fields_right t__law_fields_right c__law_orders_right t__law_orders_right c__law_beside_right t__law_beside_right c__law_refused_right t__law_refused_right) : CallOk P w K mg base (Tabl t__law_fields_right t__law_orders_right t__law_beside_right t__law_refused_right) 1 "_law_over" 2 F__law_over := call_ok Tx.d__law_over sc__law_over rfl rfl fun f cdv A outer s H E hr =>
    (ess_one (es_ret (ev_if (et_cmp os_gt (ev_v 0) (ev_v 1)) (ev_tup (ea_cons ev_str (ea_cons (ev_v 0) ea_nil))) ev_non)))
theorem ok__law_led_fields (Tx : Txt P w K mg base c__law_fields_right t__law_fields_right c__law_orders_right t__law_orders_right c__law_beside_right t__law_beside_right c__law_refused_right t__law_refused_right) : CallOk P w K mg base (Tabl t__law_fields_right t__law_orders_right t__law_beside_right t__law_refused_right) 1 "_law_led_fields" 2 F__law_led_fields := call_ok Tx.d__law_led_fields sc__law_led_fields rfl rfl fun f cdv A outer s H E hr =>
    (ess_one (es_ret (ev_t1 os_tuple Tx.n_tuple rfl (ev_comp rfl sc__law_led_fields.nd (ei_seq (ev_ix os_ix (ev_v 0) ev_int)) (@blkOk_by N__law_led_fields (defScope st__law_led_fields) _ [("a", 2), ("b", 3)] (by decide +kernel)) rfl (fun _ _ _ _ _ => (eg_tup rfl (egs_cons (eg_name 2 sc__law_led_fields.nd) (egs_cons (eg_name 3 sc__law_led_fields.nd) egs_nil)))) (fun _ _ _ _ _ => ets_nil) (fun _ _ _ _ _ => (ev_tup (ea_cons (ev_ixD hr (ev_v 1) (ev_v 2)) (ea_cons (ev_ixD hr (ev_v 1) (ev_v 3)) ea_nil))))))))
theorem ok__law_renamed_by (Tx : Txt P w K mg base c__law_fields_right t__law_fields_right c__law_orders_right t__law_orders_right c__law_beside_right t__law_beside_right c__law_refused_right t__law_refused_right) : CallOk P w K mg base (Tabl t__law_fields_right t__law_orders_right t__law_beside_right t__law_refused_right) 2 "_law_renamed_by" 2 F__law_renamed_by := call_ok Tx.d__law_renamed_by sc__law_renamed_by rfl rfl fun f cdv A outer s H E hr =>
    (ess_cons (es_set 2 sc__law_renamed_by.nd (ev_t1 (os_dict hr rfl) Tx.n_dict rfl (ev_comp rfl sc__law_renamed_by.nd (ei_rng Tx.n_range (ev_b1 os_len Tx.n_len rfl (ev_v 1))) (@blkOk_by N__law_renamed_by (defScope st__law_renamed_by) _ [("j", 3)] (by decide +kernel)) rfl (fun _ _ _ _ _ => (eg_name 3 sc__law_renamed_by.nd)) (fun _ _ _ _ _ => ets_nil) (fun _ _ _ _ _ => (ev_tup (ea_cons (ev_ix os_ix (ev_v 1) (ev_v 3)) (ea_cons (ev_v 3) ea_nil)))))))
    (ess_one (es_ret (ev_tup (ea_cons (ev_ix os_ix (ev_v 0) ev_int) (ea_cons (ev_ix os_ix (ev_v 0) ev_int) (ea_cons (ev_call (ok__law_led_fields Tx) (takes_of rfl rfl rfl rfl) (hr.mono (by decide)) (ea_cons (ev_v 0) (ea_cons (ev_v 2) ea_nil))) ea_nil)))))))
theorem ok__law_places_beside (Tx : Txt P w K mg base c__law_fields_right t__law_fields_right c__law_orders_right t__law_orders_right c__law_beside_right t__law_beside_right c__law_refused_right t__law_refused_right) : CallOk P w K mg base (Tabl t__law_fields_right t__law_orders_right t__law_beside_right t__law_refused_right) 1 "_law_places_beside" 2 F__law_places_beside := call_ok Tx.d__law_places_beside sc__law_places_beside rfl rfl fun f cdv A outer s H E hr =>
    (ess_cons (es_set 2 sc__law_places_beside.nd (ev_t1 (os_dict hr rfl) Tx.n_dict rfl (ev_comp rfl sc__law_places_beside.nd (ei_rng Tx.n_range (ev_ix os_ix (ev_v 0) ev_int)) (@blkOk_by N__law_places_beside (defScope st__law_places_beside) _ [("kind", 4)] (by decide +kernel)) rfl (fun _ _ _ _ _ => (eg_name 4 sc__law_places_beside.nd)) (fun _ _ _ _ _ => ets_nil) (fun _ _ _ _ _ => (ev_tup (ea_cons (ev_v 4) (ea_cons (ev_if (et_cmp os_lt (ev_v 4) (ev_ix os_ix (ev_v 0) ev_int)) (ev_v 4) (ev_op os_add (ev_v 4) (ev_ix os_ix (ev_v 1) ev_int))) ea_nil)))))))
    (ess_cons (es_set 3 sc__law_places_beside.nd (ev_t1 (os_dict hr rfl) Tx.n_dict rfl (ev_comp rfl sc__law_places_beside.nd (ei_rng Tx.n_range (ev_ix os_ix (ev_v 1) ev_int)) (@blkOk_by N__law_places_beside (defScope st__law_places_beside) _ [("kind", 4)] (by decide +kernel)) rfl (fun _ _ _ _ _ => (eg_name 4 sc__law_places_beside.nd)) (fun _ _ _ _ _ => ets_nil) (fun _ _ _ _ _ => (ev_tup (ea_cons (ev_v 4) (ea_cons (ev_if (et_cmp os_lt (ev_v 4) (ev_ix os_ix (ev_v 1) ev_int)) (ev_op os_add (ev_ix os_ix (ev_v 0) ev_int) (ev_v 4)) (ev_op os_add (ev_ix os_ix (ev_v 0) ev_int) (ev_v 4))) ea_nil)))))))
    (ess_one (es_ret (ev_tup (ea_cons (ev_v 2) (ea_cons (ev_v 3) ea_nil)))))))
theorem ok__law_beside_by (Tx : Txt P w K mg base c__law_fields_right t__law_fields_right c__law_orders_right t__law_orders_right c__law_beside_right t__law_beside_right c__law_refused_right t__law_refused_right) : CallOk P w K mg base (Tabl t__law_fields_right t__law_orders_right t__law_beside_right t__law_refused_right) 2 "_law_beside_by" 2 F__law_beside_by := call_ok Tx.d__law_beside_by sc__law_beside_by rfl rfl fun f cdv A outer s H E hr =>
    (ess_cons (es_asg (vs := [2, 3]) (ev_call (ok__law_places_beside Tx) (takes_of rfl rfl rfl rfl) (hr.mono (by decide)) (ea_cons (ev_v 0) (ea_cons (ev_v 1) ea_nil))) (eg_tup rfl (egs_cons (eg_name 2 sc__law_beside_by.nd) (egs_cons (eg_name 3 sc__law_beside_by.nd) egs_nil))))
    (ess_one (es_ret (ev_tup (ea_cons (ev_op os_add (ev_ix os_ix (ev_v 0) ev_int) (ev_ix os_ix (ev_v 1) ev_int)) (ea_cons (ev_op os_add (ev_ix os_ix (ev_v 0) ev_int) (ev_ix os_ix (ev_v 1) ev_int)) (ea_cons (ev_op os_add (ev_call (ok__law_led_fields Tx) (takes_of rfl rfl rfl rfl) (hr.mono (by decide)) (ea_cons (ev_v 0) (ea_cons (ev_v 2) ea_nil))) (ev_call (ok__law_led_fields Tx) (takes_of rfl rfl rfl rfl) (hr.mono (by decide)) (ea_cons (ev_v 1) (ea_cons (ev_v 3) ea_nil)))) ea_nil)))))))
theorem ok__law_any_schema (Tx : Txt P w K mg base c__law_fields_right t__law_fields_right c__law_orders_right t__law_orders_right c__law_beside_right t__law_beside_right c__law_refused_right t__law_refused_right) : CallOk P w K mg base (Tabl t__law_fields_right t__law_orders_right t__law_beside_right t__law_refused_right) 4 "_law_any_schema" 1 F__law_any_schema := call_ok Tx.d__law_any_schema sc__law_any_schema rfl rfl fun f cdv A outer s H E hr =>
    (ess_cons (es_set 1 sc__law_any_schema.nd (ev_call (ok__law_wv_take Tx) (takes_of rfl rfl rfl rfl) (hr.mono (by decide)) (ea_cons (ev_v 0) (ea_cons ev_int ea_nil))))
    (ess_cons (es_if (et_cmp (os_eq hr) (ev_v 1) ev_int) (ess_one (es_ret (ev_call (ok__law_wv_great_schema Tx) (takes_of rfl rfl rfl rfl) (hr.mono (by decide)) (ea_cons (ev_v 0) ea_nil)))) ess_nil)
    (ess_cons (es_if (et_cmp (os_eq hr) (ev_v 1) ev_int) (ess_cons (es_set 2 sc__law_any_schema.nd (ev_op os_add ev_int (ev_call (ok__law_wv_take Tx) (takes_of rfl rfl rfl rfl) (hr.mono (by decide)) (ea_cons (ev_v 0) (ea_cons ev_int ea_nil)))))
    (ess_cons (es_set 3 sc__law_any_schema.nd (ev_op os_add ev_int (ev_call (ok__law_wv_take Tx) (takes_of rfl rfl rfl rfl) (hr.mono (by decide)) (ea_cons (ev_v 0) (ea_cons ev_int ea_nil)))))
    (ess_one (es_ret (ev_tup (ea_cons (ev_v 2) (ea_cons (ev_v 3) (ea_cons (ev_op os_mul (ev_tup (ea_cons (ev_tup (ea_cons ev_int (ea_cons (ev_op os_sub (ev_v 3) ev_int) ea_nil))) ea_nil)) (ev_op os_add ev_int (ev_call (ok__law_wv_take Tx) (takes_of rfl rfl rfl rfl) (hr.mono (by decide)) (ea_cons (ev_v 0) (ea_cons ev_int ea_nil))))) ea_nil)))))))) ess_nil)
    (ess_one (es_ret (ev_call (ok__law_wv_schema Tx) (takes_of rfl rfl rfl rfl) (hr.mono (by decide)) (ea_cons (ev_v 0) ea_nil)))))))
theorem ok__law_no_schema (Tx : Txt P w K mg base c__law_fields_right t__law_fields_right c__law_orders_right t__law_orders_right c__law_beside_right t__law_beside_right c__law_refused_right t__law_refused_right) : CallOk P w K mg base (Tabl t__law_fields_right t__law_orders_right t__law_beside_right t__law_refused_right) 3 "_law_no_schema" 2 F__law_no_schema := call_ok Tx.d__law_no_schema sc__law_no_schema rfl rfl fun f cdv A outer s H E hr =>
    (ess_cons (es_asg (vs := [2, 3, 4]) (ev_v 1) (eg_tup rfl (egs_cons (eg_name 2 sc__law_no_schema.nd) (egs_cons (eg_name 3 sc__law_no_schema.nd) (egs_cons (eg_name 4 sc__law_no_schema.nd) egs_nil)))))
    (ess_cons (es_set 5 sc__law_no_schema.nd (ev_lst (ea_cons ev_non (ea_cons (ev_slice (ev_v 1) eo_none (eo_some ev_int)) (ea_cons (ev_t1 os_list Tx.n_list rfl (ev_v 1)) (ea_cons (ev_tup (ea_cons ev_int (ea_cons (ev_v 3) (ea_cons (ev_v 4) ea_nil)))) (ea_cons (ev_tup (ea_cons ev_int (ea_cons ev_int (ea_cons (ev_tup ea_nil) ea_nil)))) (ea_cons (ev_tup (ea_cons (ev_v 2) (ea_cons ev_int (ea_cons (ev_v 4) ea_nil)))) (ea_cons (ev_tup (ea_cons (ev_v 2) (ea_cons (ev_op os_sub (ev_v 2) ev_int) (ea_cons (ev_tup ea_nil) ea_nil)))) ea_nil)))))))))
    (ess_cons (es_expr (ev_m1 PySem.F.slot_list_extend PySem.F.type_list_extend os_extend (ev_v 5) (ev_lst (ea_cons (ev_tup (ea_cons (ev_v 2) (ea_cons (ev_v 3) (ea_cons (ev_t1 os_list Tx.n_list rfl (ev_v 4)) ea_nil)))) (ea_cons (ev_tup (ea_cons (ev_v 2) (ea_cons (ev_v 3) (ea_cons (ev_op os_add (ev_v 4) (ev_tup (ea_cons (ev_tup (ea_cons ev_int (ea_cons ev_int ea_nil))) ea_nil))) ea_nil)))) (ea_cons (ev_tup (ea_cons (ev_v 2) (ea_cons (ev_v 3) (ea_cons (ev_op os_add (ev_v 4) (ev_tup (ea_cons (ev_tup (ea_cons ev_int ea_nil)) ea_nil))) ea_nil)))) ea_nil))))))
    (ess_one (es_ret (ev_call (ok__law_wv_one Tx) (takes_of rfl rfl rfl rfl) (hr.mono (by decide)) (ea_cons (ev_v 0) (ea_cons (ev_op os_add (ev_v 5) (ev_lst (ea_cons (ev_tup (ea_cons (ev_v 2) (ea_cons (ev_v 3) (ea_cons (ev_tup (ea_cons (ev_tup (ea_cons (ev_v 3) (ea_cons (ev_v 2) ea_nil))) ea_nil)) ea_nil)))) (ea_cons (ev_tup (ea_cons ev_bl (ea_cons (ev_v 3) (ea_cons (ev_tup ea_nil) ea_nil)))) (ea_cons (ev_tup (ea_cons (ev_v 2) (ea_cons (ev_v 3) (ea_cons (ev_op os_mul (ev_tup (ea_cons (ev_tup (ea_cons ev_int (ea_cons (ev_v 2) ea_nil))) ea_nil)) ev_int) ea_nil)))) ea_nil))))) ea_nil))))))))
theorem ok__law_odd_kind (Tx : Txt P w K mg base c__law_fields_right t__law_fields_right c__law_orders_right t__law_orders_right c__law_beside_right t__law_beside_right c__law_refused_right t__law_refused_right) : CallOk P w K mg base (Tabl t__law_fields_right t__law_orders_right t__law_beside_right t__law_refused_right) 3 "_law_odd_kind" 2 F__law_odd_kind := call_ok Tx.d__law_odd_kind sc__law_odd_kind rfl rfl fun f cdv A outer s H E hr =>
    (ess_cons (es_set 2 sc__law_odd_kind.nd (ev_op os_mul (ev_listRg rfl Tx.n_list Tx.n_range (ev_ix os_ix (ev_v 1) ev_int)) ev_int))
    (ess_one (es_ret (ev_call (ok__law_wv_one Tx) (takes_of rfl rfl rfl rfl) (hr.mono (by decide)) (ea_cons (ev_v 0) (ea_cons (ev_op os_add (ev_v 2) (ev_lst (ea_cons (ev_ix os_ix (ev_v 1) ev_int) (ea_cons (ev_un os_neg ev_int) (ea_cons ev_non (ea_cons ev_bl (ea_cons ev_str (ea_cons (ev_tup (ea_cons ev_int ea_nil)) ea_nil)))))))) ea_nil))))))
theorem ok__law_fields_right (Tx : Txt P w K mg base c__law_fields_right t__law_fields_right c__law_orders_right t__law_orders_right c__law_beside_right t__law_beside_right c__law_refused_right t__law_refused_right) : CallOk P w K mg base (Tabl t__law_fields_right t__law_orders_right t__law_beside_right t__law_refused_right) 16 "_law_fields_right" 2 F__law_fields_right := call_okC Tx.d__law_fields_right sc__law_fields_right rfl rfl fun f A outer s H E hr =>
    (ess_cons (es_asg (vs := [7, 8]) (ev_tup (ea_cons (ev_call (ok__law_odd_kind Tx) (takes_of rfl rfl rfl rfl) (hr.mono (by decide)) (ea_cons (ev_v 0) (ea_cons (ev_v 1) ea_nil))) (ea_cons (ev_call (ok__law_odd_kind Tx) (takes_of rfl rfl rfl rfl) (hr.mono (by decide)) (ea_cons (ev_v 0) (ea_cons (ev_v 1) ea_nil))) ea_nil))) (eg_tup rfl (egs_cons (eg_name 7 sc__law_fields_right.nd) (egs_cons (eg_name 8 sc__law_fields_right.nd) egs_nil))))
    (ess_cons (es_asg (vs := [2, 3, 4]) (ev_v 1) (eg_tup rfl (egs_cons (eg_name 2 sc__law_fields_right.nd) (egs_cons (eg_name 3 sc__law_fields_right.nd) (egs_cons (eg_name 4 sc__law_fields_right.nd) egs_nil)))))
    (ess_cons (es_set 5 sc__law_fields_right.nd (ev_heard (k := 13) Tx.heard (mk__law_fields_right Tx rfl rfl rfl rfl) (hr.mono (by decide)) (@lamS_by (defScope st__law_fields_right) _ (by decide +kernel)) fun A outer s H E f c hr => (ev_call (ok_with_kind Tx) (takes_of rfl rfl rfl rfl) (hr.mono (by decide)) (ea_cons (ev_v 1) ea_nil))))
    (ess_cons (es_if (et_not (et_e (ev_call (ok__law_is_heard Tx) (takes_of rfl rfl rfl rfl) (hr.mono (by decide)) (ea_cons (ev_v 5) (ea_cons (ev_lst (ea_cons (ev_call (ok__law_over Tx) (takes_of rfl rfl rfl rfl) (hr.mono (by decide)) (ea_cons (ev_op os_add (ev_v 3) ev_int) (ea_cons ev_int ea_nil))) ea_nil)) (ea_cons (ev_tup (ea_cons (ev_v 2) (ea_cons (ev_op os_add (ev_v 3) ev_int) (ea_cons (ev_v 4) ea_nil)))) ea_nil)))))) (ess_one (es_ret ev_bl)) ess_nil)
    (ess_cons (es_set 6 sc__law_fields_right.nd (ev_lst (ea_cons (ev_call (ok__law_wf_kind Tx) (takes_of rfl rfl rfl rfl) (hr.mono (by decide)) (ea_cons (ev_v 1) (ea_cons (ev_v 7) ea_nil))) (ea_cons (ev_call (ok__law_wf_kind Tx) (takes_of rfl rfl rfl rfl) (hr.mono (by decide)) (ea_cons (ev_v 1) (ea_cons (ev_v 8) ea_nil))) ea_nil))))
    (ess_cons (es_if (et_cmp (os_eq hr) (ev_v 6) (ev_lst (ea_cons ev_non (ea_cons ev_non ea_nil)))) (ess_one (es_expr (ev_m1 PySem.F.slot_list_extend PySem.F.type_list_extend os_extend (ev_v 6) (ev_lst (ea_cons (ev_if (et_cmp os_lt (ev_v 8) (ev_v 2)) (ev_tup (ea_cons ev_str (ea_cons (ev_v 8) ea_nil))) ev_non) (ea_cons (ev_call (ok__law_over Tx) (takes_of rfl rfl rfl rfl) (hr.mono (by decide)) (ea_cons (ev_op os_add (ev_b1 os_len Tx.n_len rfl (ev_v 4)) ev_int) (ea_cons ev_int ea_nil))) ea_nil)))))) ess_nil)
    (ess_cons (es_set 5 sc__law_fields_right.nd (ev_heard (k := 13) Tx.heard (mk__law_fields_right Tx rfl rfl rfl rfl) (hr.mono (by decide)) (@lamS_by (defScope st__law_fields_right) _ (by decide +kernel)) fun A outer s H E f c hr => (ev_call (ok_with_field Tx) (takes_of rfl rfl rfl rfl) (hr.mono (by decide)) (ea_cons (ev_v 1) (ea_cons (ev_v 7) (ea_cons (ev_v 8) ea_nil))))))
    (ess_cons (es_if (et_not (et_e (ev_call (ok__law_is_heard Tx) (takes_of rfl rfl rfl rfl) (hr.mono (by decide)) (ea_cons (ev_v 5) (ea_cons (ev_v 6) (ea_cons (ev_tup (ea_cons (ev_v 2) (ea_cons (ev_v 3) (ea_cons (ev_op os_add (ev_v 4) (ev_tup (ea_cons (ev_tup (ea_cons (ev_v 7) (ea_cons (ev_v 8) ea_nil))) ea_nil))) ea_nil)))) ea_nil)))))) (ess_one (es_ret ev_bl)) ess_nil)
    (ess_cons (es_set 5 sc__law_fields_right.nd (ev_heard (k := 13) Tx.heard (mk__law_fields_right Tx rfl rfl rfl rfl) (hr.mono (by decide)) (@lamS_by (defScope st__law_fields_right) _ (by decide +kernel)) fun A outer s H E f c hr => (ev_call (ok_fields_of Tx) (takes_of rfl rfl rfl rfl) (hr.mono (by decide)) (ea_cons (ev_v 1) (ea_cons (ev_v 7) ea_nil)))))
    (ess_one (es_ret (ev_call (ok__law_is_heard Tx) (takes_of rfl rfl rfl rfl) (hr.mono (by decide)) (ea_cons (ev_v 5) (ea_cons (ev_lst (ea_cons (ev_call (ok__law_wf_kind Tx) (takes_of rfl rfl rfl rfl) (hr.mono (by decide)) (ea_cons (ev_v 1) (ea_cons (ev_v 7) ea_nil))) ea_nil)) (ea_cons (ev_t1 os_tuple Tx.n_tuple rfl (ev_comp rfl sc__law_fields_right.nd (ei_rng Tx.n_range (ev_b1 os_len Tx.n_len rfl (ev_v 4))) (@blkOk_by N__law_fields_right (defScope st__law_fields_right) _ [("f", 9)] (by decide +kernel)) rfl (fun _ _ _ _ _ => (eg_name 9 sc__law_fields_right.nd)) (fun _ _ _ _ _ => (ets_one (et_cmp (os_eq hr) (ev_ix os_ix (ev_ix os_ix (ev_v 4) (ev_v 9)) ev_int) (ev_v 7)))) (fun _ _ _ _ _ => (ev_v 9)))) ea_nil)))))))))))))))
theorem ok__law_orders_right (Tx : Txt P w K mg base c__law_fields_right t__law_fields_right c__law_orders_right t__law_orders_right c__law_beside_right t__law_beside_right c__law_refused_right t__law_refused_right) : CallOk P w K mg base (Tabl t__law_fields_right t__law_orders_right t__law_beside_right t__law_refused_right) 15 "_law_orders_right" 2 F__law_orders_right := call_okC Tx.d__law_orders_right sc__law_orders_right rfl rfl fun f A outer s H E hr =>
    (ess_cons (es_par 2 3 rfl sc__law_orders_right.nd (ev_listRg rfl Tx.n_list Tx.n_range (ev_ix os_ix (ev_v 1) ev_int)) (ev_listRg2 rfl Tx.n_list Tx.n_range (ev_ix os_ix (ev_v 1) ev_int) (ev_ix os_ix (ev_v 1) ev_int)))
    (ess_cons (es_set 4 sc__law_orders_right.nd (ev_t1 os_tuple Tx.n_tuple rfl (ev_op os_add (ev_call (ok__law_wv_mixed Tx) (takes_of rfl rfl rfl rfl) (hr.mono (by decide)) (ea_cons (ev_v 0) (ea_cons (ev_v 2) ea_nil))) (ev_call (ok__law_wv_mixed Tx) (takes_of rfl rfl rfl rfl) (hr.mono (by decide)) (ea_cons (ev_v 0) (ea_cons (ev_v 3) ea_nil))))))
    (ess_cons (es_set 5 sc__law_orders_right.nd (ev_t1 os_tuple Tx.n_tuple rfl (ev_comp rfl sc__law_orders_right.nd (ei_rng Tx.n_range (ev_ix os_ix (ev_v 1) ev_int)) (@blkOk_by N__law_orders_right (defScope st__law_orders_right) _ [("kind", 12)] (by decide +kernel)) rfl (fun _ _ _ _ _ => (eg_name 12 sc__law_orders_right.nd)) (fun _ _ _ _ _ => ets_nil) (fun _ _ _ _ _ => (ev_m1 PySem.F.slot_list_index PySem.F.type_list_index (os_index hr) (ev_t1 os_list Tx.n_list rfl (ev_v 4)) (ev_v 12))))))
    (ess_cons (es_set 6 sc__law_orders_right.nd (ev_call (ok__law_renamed_by Tx) (takes_of rfl rfl rfl rfl) (hr.mono (by decide)) (ea_cons (ev_v 1) (ea_cons (ev_v 4) ea_nil))))
    (ess_cons (es_if (et_not (et_e (ev_call (ok__law_same Tx) (takes_of rfl rfl rfl rfl) (hr.mono (by decide)) (ea_cons (ev_tup (ea_cons (ev_call (ok_renamed Tx) (takes_of rfl rfl rfl rfl) (hr.mono (by decide)) (ea_cons (ev_v 1) (ea_cons (ev_v 4) ea_nil))) (ea_cons (ev_call (ok_renamed Tx) (takes_of rfl rfl rfl rfl) (hr.mono (by decide)) (ea_cons (ev_v 6) (ea_cons (ev_v 5) ea_nil))) ea_nil))) (ea_cons (ev_tup (ea_cons (ev_v 6) (ea_cons (ev_v 1) ea_nil))) ea_nil))))) (ess_one (es_ret ev_bl)) ess_nil)
    (ess_cons (es_set 7 sc__law_orders_right.nd (ev_t1 (os_dict hr rfl) Tx.n_dict rfl (ev_comp rfl sc__law_orders_right.nd (ei_rng Tx.n_range (ev_b1 os_len Tx.n_len rfl (ev_v 4))) (@blkOk_by N__law_orders_right (defScope st__law_orders_right) _ [("j", 13)] (by decide +kernel)) rfl (fun _ _ _ _ _ => (eg_name 13 sc__law_orders_right.nd)) (fun _ _ _ _ _ => ets_nil) (fun _ _ _ _ _ => (ev_tup (ea_cons (ev_ix os_ix (ev_v 4) (ev_v 13)) (ea_cons (ev_v 13) ea_nil)))))))
    (ess_cons (es_if (et_not (et_e (ev_call (ok__law_same Tx) (takes_of rfl rfl rfl rfl) (hr.mono (by decide)) (ea_cons (ev_call (ok_had Tx) (takes_of rfl rfl rfl rfl) (hr.mono (by decide)) (ea_cons (ev_v 6) ea_nil)) (ea_cons (ev_t1 os_tuple Tx.n_tuple rfl (ev_b1 (os_sorted rfl) Tx.n_sorted rfl (ev_comp rfl sc__law_orders_right.nd (ei_seq (ev_call (ok__law_wv_had Tx) (takes_of rfl rfl rfl rfl) (hr.mono (by decide)) (ea_cons (ev_v 1) ea_nil))) (@blkOk_by N__law_orders_right (defScope st__law_orders_right) _ [("kind", 12)] (by decide +kernel)) rfl (fun _ _ _ _ _ => (eg_name 12 sc__law_orders_right.nd)) (fun _ _ _ _ _ => ets_nil) (fun _ _ _ _ _ => (ev_ixD hr (ev_v 7) (ev_v 12)))))) ea_nil))))) (ess_one (es_ret ev_bl)) ess_nil)
    (ess_cons (es_if (et_not (et_e (ev_call (ok__law_same Tx) (takes_of rfl rfl rfl rfl) (hr.mono (by decide)) (ea_cons (ev_call (ok_had Tx) (takes_of rfl rfl rfl rfl) (hr.mono (by decide)) (ea_cons (ev_v 1) ea_nil)) (ea_cons (ev_call (ok__law_wv_had Tx) (takes_of rfl rfl rfl rfl) (hr.mono (by decide)) (ea_cons (ev_v 1) ea_nil)) ea_nil))))) (ess_one (es_ret ev_bl)) ess_nil)
    (ess_cons (es_set 8 sc__law_orders_right.nd (ev_lst (ea_cons ev_non (ea_cons (ev_t1 os_list Tx.n_list rfl (ev_v 4)) (ea_cons (ev_slice (ev_v 4) (eo_some ev_int) eo_none) (ea_cons (ev_op os_add (ev_v 4) (ev_tup (ea_cons ev_int ea_nil))) (ea_cons (ev_op os_add (ev_slice (ev_v 4) eo_none (eo_some (ev_un os_neg ev_int))) (ev_slice (ev_v 4) eo_none (eo_some ev_int))) (ea_cons (ev_t1 os_tuple Tx.n_tuple rfl (ev_call (ok__law_wv_mixed Tx) (takes_of rfl rfl rfl rfl) (hr.mono (by decide)) (ea_cons (ev_v 0) (ea_cons (ev_v 4) ea_nil)))) (ea_cons ev_str (ea_cons (ev_tup ea_nil) ea_nil))))))))))
    (ess_cons (es_set 11 sc__law_orders_right.nd (ev_call (ok__law_wv_one Tx) (takes_of rfl rfl rfl rfl) (hr.mono (by decide)) (ea_cons (ev_v 0) (ea_cons (ev_op os_add (ev_v 8) (ev_lst (ea_cons (ev_op os_add (ev_slice (ev_v 4) eo_none (eo_some (ev_un os_neg ev_int))) (ev_tup (ea_cons ev_non ea_nil))) (ea_cons (ev_revA (ev_v 4)) (ea_cons (ev_op os_add (ev_slice (ev_v 4) eo_none (eo_some (ev_un os_neg ev_int))) (ev_tup (ea_cons (ev_un os_neg ev_int) ea_nil))) (ea_cons (ev_op os_add (ev_tup (ea_cons ev_bl ea_nil)) (ev_slice (ev_v 4) (eo_some ev_int) eo_none)) ea_nil)))))) ea_nil))))
    (ess_cons (es_set 9 sc__law_orders_right.nd (ev_heard (k := 12) Tx.heard (mk__law_orders_right Tx rfl rfl rfl rfl) (hr.mono (by decide)) (@lamS_by (defScope st__law_orders_right) _ (by decide +kernel)) fun A outer s H E f c hr => (ev_call (ok_renamed Tx) (takes_of rfl rfl rfl rfl) (hr.mono (by decide)) (ea_cons (ev_v 1) (ea_cons (ev_v 11) ea_nil)))))
    (ess_cons (es_set 10 sc__law_orders_right.nd (ev_call (ok__law_wf_order Tx) (takes_of rfl rfl rfl rfl) (hr.mono (by decide)) (ea_cons (ev_v 1) (ea_cons (ev_v 11) ea_nil))))
    (ess_one (es_ret (ev_call (ok__law_same Tx) (takes_of rfl rfl rfl rfl) (hr.mono (by decide)) (ea_cons (ev_v 9) (ea_cons (ev_if (et_cmp os_notN (ev_v 10) ev_non) (ev_v 10) (ev_tup (ea_cons ev_str (ea_cons (ev_call (ok__law_renamed_by Tx) (takes_of rfl rfl rfl rfl) (hr.mono (by decide)) (ea_cons (ev_v 1) (ea_cons (ev_v 11) ea_nil))) ea_nil)))) ea_nil)))))))))))))))))
theorem ok__law_beside_right (Tx : Txt P w K mg base c__law_fields_right t__law_fields_right c__law_orders_right t__law_orders_right c__law_beside_right t__law_beside_right c__law_refused_right t__law_refused_right) : CallOk P w K mg base (Tabl t__law_fields_right t__law_orders_right t__law_beside_right t__law_refused_right) 16 "_law_beside_right" 3 F__law_beside_right := call_okC Tx.d__law_beside_right sc__law_beside_right rfl rfl fun f A outer s H E hr =>
    (ess_cons (es_set 3 sc__law_beside_right.nd (ev_heard (k := 13) Tx.heard (mk__law_beside_right Tx rfl rfl rfl rfl) (hr.mono (by decide)) (@lamS_by (defScope st__law_beside_right) _ (by decide +kernel)) fun A outer s H E f c hr => (ev_call (ok_beside Tx) (takes_of rfl rfl rfl rfl) (hr.mono (by decide)) (ea_cons (ev_v 1) (ea_cons (ev_v 2) ea_nil)))))
    (ess_cons (es_set 4 sc__law_beside_right.nd (ev_lst (ea_cons (ev_call (ok__law_over Tx) (takes_of rfl rfl rfl rfl) (hr.mono (by decide)) (ea_cons (ev_op os_add (ev_ix os_ix (ev_v 1) ev_int) (ev_ix os_ix (ev_v 2) ev_int)) (ea_cons ev_int ea_nil))) (ea_cons (ev_call (ok__law_over Tx) (takes_of rfl rfl rfl rfl) (hr.mono (by decide)) (ea_cons (ev_op os_add (ev_ix os_ix (ev_v 1) ev_int) (ev_ix os_ix (ev_v 2) ev_int)) (ea_cons ev_int ea_nil))) (ea_cons (ev_call (ok__law_over Tx) (takes_of rfl rfl rfl rfl) (hr.mono (by decide)) (ea_cons (ev_op os_add (ev_b1 os_len Tx.n_len rfl (ev_ix os_ix (ev_v 1) ev_int)) (ev_b1 os_len Tx.n_len rfl (ev_ix os_ix (ev_v 2) ev_int))) (ea_cons ev_int ea_nil))) ea_nil)))))
    (ess_cons (es_set 5 sc__law_beside_right.nd (ev_call (ok__law_beside_by Tx) (takes_of rfl rfl rfl rfl) (hr.mono (by decide)) (ea_cons (ev_v 1) (ea_cons (ev_v 2) ea_nil))))
    (ess_cons (es_if (et_not (et_e (ev_call (ok__law_is_heard Tx) (takes_of rfl rfl rfl rfl) (hr.mono (by decide)) (ea_cons (ev_v 3) (ea_cons (ev_v 4) (ea_cons (ev_v 5) ea_nil)))))) (ess_one (es_ret ev_bl)) ess_nil)
    (ess_cons (es_if (et_cmp (os_ne hr) (ev_ix os_ix (ev_v 3) ev_int) ev_str) (ess_one (es_ret ev_bl)) ess_nil)
    (ess_cons (es_asg (vs := [6, 7]) (ev_call (ok__law_places_beside Tx) (takes_of rfl rfl rfl rfl) (hr.mono (by decide)) (ea_cons (ev_v 1) (ea_cons (ev_v 2) ea_nil))) (eg_tup rfl (egs_cons (eg_name 6 sc__law_beside_right.nd) (egs_cons (eg_name 7 sc__law_beside_right.nd) egs_nil))))
    (ess_cons (es_set 9 sc__law_beside_right.nd (ev_op os_add (ev_comp rfl sc__law_beside_right.nd (ei_seq (ev_call (ok__law_wv_had Tx) (takes_of rfl rfl rfl rfl) (hr.mono (by decide)) (ea_cons (ev_v 1) ea_nil))) (@blkOk_by N__law_beside_right (defScope st__law_beside_right) _ [("kind", 8)] (by decide +kernel)) rfl (fun _ _ _ _ _ => (eg_name 8 sc__law_beside_right.nd)) (fun _ _ _ _ _ => ets_nil) (fun _ _ _ _ _ => (ev_ixD hr (ev_v 6) (ev_v 8)))) (ev_comp rfl sc__law_beside_right.nd (ei_seq (ev_call (ok__law_wv_had Tx) (takes_of rfl rfl rfl rfl) (hr.mono (by decide)) (ea_cons (ev_v 2) ea_nil))) (@blkOk_by N__law_beside_right (defScope st__law_beside_right) _ [("kind", 8)] (by decide +kernel)) rfl (fun _ _ _ _ _ => (eg_name 8 sc__law_beside_right.nd)) (fun _ _ _ _ _ => ets_nil) (fun _ _ _ _ _ => (ev_ixD hr (ev_v 7) (ev_v 8))))))
    (ess_cons (es_if (et_not (et_e (ev_call (ok__law_same Tx) (takes_of rfl rfl rfl rfl) (hr.mono (by decide)) (ea_cons (ev_call (ok_had Tx) (takes_of rfl rfl rfl rfl) (hr.mono (by decide)) (ea_cons (ev_v 5) ea_nil)) (ea_cons (ev_t1 os_tuple Tx.n_tuple rfl (ev_b1 (os_sorted rfl) Tx.n_sorted rfl (ev_v 9))) ea_nil))))) (ess_one (es_ret ev_bl)) ess_nil)
    (ess_cons (es_asg (vs := [8, 10]) (ev_tup (ea_cons (ev_call (ok__law_wv_take Tx) (takes_of rfl rfl rfl rfl) (hr.mono (by decide)) (ea_cons (ev_v 0) (ea_cons (ev_ix os_ix (ev_v 1) ev_int) ea_nil))) (ea_cons (ev_call (ok__law_wv_take Tx) (takes_of rfl rfl rfl rfl) (hr.mono (by decide)) (ea_cons (ev_v 0) (ea_cons (ev_ix os_ix (ev_v 2) ev_int) ea_nil))) ea_nil))) (eg_tup rfl (egs_cons (eg_name 8 sc__law_beside_right.nd) (egs_cons (eg_name 10 sc__law_beside_right.nd) egs_nil))))
    (ess_cons (es_comp rfl sc__law_beside_right.nd rfl rfl (sw_true rfl rfl rfl (by decide +kernel)) (ei_rng Tx.n_range (ev_b1 os_len Tx.n_len rfl (ev_ix os_ix (ev_v 1) ev_int))) (@blkOk_by N__law_beside_right (defScope st__law_beside_right) _ [("f", 13)] (by decide +kernel)) rfl (fun _ _ _ _ _ => (eg_name 13 sc__law_beside_right.nd)) (fun _ _ _ _ _ => (ets_one (et_cmp (os_eq hr) (ev_ix os_ix (ev_ix os_ix (ev_ix os_ix (ev_v 1) ev_int) (ev_v 13)) ev_int) (ev_v 8)))) (fun _ _ _ _ _ => (ev_v 13)))
    (ess_cons (es_comp rfl sc__law_beside_right.nd rfl rfl (sw_true rfl rfl rfl (by decide +kernel)) (ei_rng Tx.n_range (ev_b1 os_len Tx.n_len rfl (ev_ix os_ix (ev_v 2) ev_int))) (@blkOk_by N__law_beside_right (defScope st__law_beside_right) _ [("f", 13)] (by decide +kernel)) rfl (fun _ _ _ _ _ => (eg_name 13 sc__law_beside_right.nd)) (fun _ _ _ _ _ => (ets_one (et_cmp (os_eq hr) (ev_ix os_ix (ev_ix os_ix (ev_ix os_ix (ev_v 2) ev_int) (ev_v 13)) ev_int) (ev_v 10)))) (fun _ _ _ _ _ => (ev_op os_add (ev_b1 os_len Tx.n_len rfl (ev_ix os_ix (ev_v 1) ev_int)) (ev_v 13))))
    (ess_one (es_ret (ev_call (ok__law_same Tx) (takes_of rfl rfl rfl rfl) (hr.mono (by decide)) (ea_cons (ev_tup (ea_cons (ev_call (ok_fields_of Tx) (takes_of rfl rfl rfl rfl) (hr.mono (by decide)) (ea_cons (ev_v 5) (ea_cons (ev_ixD hr (ev_v 6) (ev_v 8)) ea_nil))) (ea_cons (ev_call (ok_fields_of Tx) (takes_of rfl rfl rfl rfl) (hr.mono (by decide)) (ea_cons (ev_v 5) (ea_cons (ev_ixD hr (ev_v 7) (ev_v 10)) ea_nil))) ea_nil))) (ea_cons (ev_tup (ea_cons (ev_t1 os_tuple Tx.n_tuple rfl (ev_v 11)) (ea_cons (ev_t1 os_tuple Tx.n_tuple rfl (ev_v 12)) ea_nil))) ea_nil))))))))))))))))
theorem ok__law_refused_right (Tx : Txt P w K mg base c__law_fields_right t__law_fields_right c__law_orders_right t__law_orders_right c__law_beside_right t__law_beside_right c__law_refused_right t__law_refused_right) : CallOk P w K mg base (Tabl t__law_fields_right t__law_orders_right t__law_beside_right t__law_refused_right) 15 "_law_refused_right" 3 F__law_refused_right := call_okC Tx.d__law_refused_right sc__law_refused_right rfl rfl fun f A outer s H E hr =>
    (ess_cons (es_asg (vs := [6, 7]) (ev_tup (ea_cons (ev_call (ok__law_no_schema Tx) (takes_of rfl rfl rfl rfl) (hr.mono (by decide)) (ea_cons (ev_v 0) (ea_cons (ev_v 1) ea_nil))) (ea_cons (ev_call (ok__law_no_schema Tx) (takes_of rfl rfl rfl rfl) (hr.mono (by decide)) (ea_cons (ev_v 0) (ea_cons (ev_v 2) ea_nil))) ea_nil))) (eg_tup rfl (egs_cons (eg_name 6 sc__law_refused_right.nd) (egs_cons (eg_name 7 sc__law_refused_right.nd) egs_nil))))
    (ess_cons (es_par 3 4 rfl sc__law_refused_right.nd (ev_call (ok__law_wf_schema Tx) (takes_of rfl rfl rfl rfl) (hr.mono (by decide)) (ea_cons (ev_v 6) ea_nil)) (ev_call (ok__law_wf_schema Tx) (takes_of rfl rfl rfl rfl) (hr.mono (by decide)) (ea_cons (ev_v 7) ea_nil)))
    (ess_cons (es_set 5 sc__law_refused_right.nd (ev_lst (ea_cons (ev_heard (k := 12) Tx.heard (mk__law_refused_right Tx rfl rfl rfl rfl) (hr.mono (by decide)) (@lamS_by (defScope st__law_refused_right) _ (by decide +kernel)) fun A outer s H E f c hr => (ev_call (ok_with_kind Tx) (takes_of rfl rfl rfl rfl) (hr.mono (by decide)) (ea_cons (ev_v 6) ea_nil))) ea_nil)))
    (ess_cons (es_expr (ev_m1 PySem.F.slot_list_append PySem.F.type_list_append os_append (ev_v 5) (ev_heard (k := 12) Tx.heard (mk__law_refused_right Tx rfl rfl rfl rfl) (hr.mono (by decide)) (@lamS_by (defScope st__law_refused_right) _ (by decide +kernel)) fun A outer s H E f c hr => (ev_call (ok_with_field Tx) (takes_of rfl rfl rfl rfl) (hr.mono (by decide)) (ea_cons (ev_v 6) (ea_cons ev_non (ea_cons ev_non ea_nil)))))))
    (ess_cons (es_expr (ev_m1 PySem.F.slot_list_append PySem.F.type_list_append os_append (ev_v 5) (ev_heard (k := 12) Tx.heard (mk__law_refused_right Tx rfl rfl rfl rfl) (hr.mono (by decide)) (@lamS_by (defScope st__law_refused_right) _ (by decide +kernel)) fun A outer s H E f c hr => (ev_call (ok_renamed Tx) (takes_of rfl rfl rfl rfl) (hr.mono (by decide)) (ea_cons (ev_v 6) (ea_cons ev_non ea_nil))))))
    (ess_cons (es_expr (ev_m1 PySem.F.slot_list_append PySem.F.type_list_append os_append (ev_v 5) (ev_heard (k := 12) Tx.heard (mk__law_refused_right Tx rfl rfl rfl rfl) (hr.mono (by decide)) (@lamS_by (defScope st__law_refused_right) _ (by decide +kernel)) fun A outer s H E f c hr => (ev_call (ok_beside Tx) (takes_of rfl rfl rfl rfl) (hr.mono (by decide)) (ea_cons (ev_v 6) (ea_cons (ev_v 7) ea_nil))))))
    (ess_cons (es_expr (ev_m1 PySem.F.slot_list_append PySem.F.type_list_append os_append (ev_v 5) (ev_heard (k := 12) Tx.heard (mk__law_refused_right Tx rfl rfl rfl rfl) (hr.mono (by decide)) (@lamS_by (defScope st__law_refused_right) _ (by decide +kernel)) fun A outer s H E f c hr => (ev_call (ok_beside Tx) (takes_of rfl rfl rfl rfl) (hr.mono (by decide)) (ea_cons (ev_v 1) (ea_cons (ev_v 7) ea_nil))))))
    (ess_cons (es_expr (ev_m1 PySem.F.slot_list_append PySem.F.type_list_append os_append (ev_v 5) (ev_heard (k := 12) Tx.heard (mk__law_refused_right Tx rfl rfl rfl rfl) (hr.mono (by decide)) (@lamS_by (defScope st__law_refused_right) _ (by decide +kernel)) fun A outer s H E f c hr => (ev_call (ok_beside Tx) (takes_of rfl rfl rfl rfl) (hr.mono (by decide)) (ea_cons (ev_v 6) (ea_cons (ev_v 2) ea_nil))))))
    (ess_one (es_ret (ev_and (ev_cmp (os_ninS hr) ev_non (ev_lst (ea_cons (ev_v 3) (ea_cons (ev_v 4) ea_nil)))) (ev_one (ev_call (ok__law_same Tx) (takes_of rfl rfl rfl rfl) (hr.mono (by decide)) (ea_cons (ev_v 5) (ea_cons (ev_op os_add (ev_op os_mul (ev_lst (ea_cons (ev_v 3) ea_nil)) ev_int) (ev_lst (ea_cons (ev_v 4) (ea_cons (ev_v 3) ea_nil)))) ea_nil)))))))))))))))
theorem fn_law (Tx : Txt P w K mg base c__law_fields_right t__law_fields_right c__law_orders_right t__law_orders_right c__law_beside_right t__law_beside_right c__law_refused_right t__law_refused_right) {f : Addr} {fd : FuncData} (F : Fun K "law" "law" st_law f fd) : FnOk P w K mg base (L2.CX P w) 17 f fd ["script"] (spF K mg (Tabl t__law_fields_right t__law_orders_right t__law_beside_right t__law_refused_right) 1 F_law) := fn_okF F sc_law fun cdv A outer s H E hr =>
    (ess_cons (es_set 1 sc_law.nd (ev_call (ok__law_wv_pool Tx) (takes_of rfl rfl rfl rfl) (hr.mono (by decide)) (ea_cons (ev_v 0) ea_nil)))
    (ess_cons (es_for (vs := [2]) (passes_of rfl) rfl (ei_rng Tx.n_range ev_int) (eg_name 2 sc_law.nd) (ess_cons (es_par 3 4 rfl sc_law.nd (ev_call (ok__law_any_schema Tx) (takes_of rfl rfl rfl rfl) (hr.mono (by decide)) (ea_cons (ev_v 1) ea_nil)) (ev_call (ok__law_any_schema Tx) (takes_of rfl rfl rfl rfl) (hr.mono (by decide)) (ea_cons (ev_v 1) ea_nil)))
    (ess_cons (es_for (vs := [5]) (passes_of rfl) rfl (ei_rng Tx.n_range ev_int) (eg_name 5 sc_law.nd) (ess_one (es_if (et_w (ew_or (et_not (et_e (ev_call (ok__law_fields_right Tx) (takes_of rfl rfl rfl rfl) (hr.mono (by decide)) (ea_cons (ev_v 1) (ea_cons (ev_v 3) ea_nil))))) (ew_or1 (et_not (et_e (ev_call (ok__law_orders_right Tx) (takes_of rfl rfl rfl rfl) (hr.mono (by decide)) (ea_cons (ev_v 1) (ea_cons (ev_v 3) ea_nil)))))))) (ess_one (es_ret ev_bl)) ess_nil)))
    (ess_cons (es_if (et_w (ew_or (et_not (et_e (ev_call (ok__law_beside_right Tx) (takes_of rfl rfl rfl rfl) (hr.mono (by decide)) (ea_cons (ev_v 1) (ea_cons (ev_v 3) (ea_cons (ev_v 4) ea_nil)))))) (ew_or1 (et_not (et_e (ev_call (ok__law_beside_right Tx) (takes_of rfl rfl rfl rfl) (hr.mono (by decide)) (ea_cons (ev_v 1) (ea_cons (ev_v 3) (ea_cons (ev_v 3) ea_nil))))))))) (ess_one (es_ret ev_bl)) ess_nil)
    (ess_one (es_if (et_not (et_e (ev_call (ok__law_refused_right Tx) (takes_of rfl rfl rfl rfl) (hr.mono (by decide)) (ea_cons (ev_v 1) (ea_cons (ev_v 3) (ea_cons (ev_v 4) ea_nil)))))) (ess_one (es_ret ev_bl)) ess_nil))))))
    (ess_one (es_ret ev_bl))))
end
end WkL


set_option Elab.async false
set_option linter.all false
set_option maxRecDepth 100000
set_option autoImplicit false
/-! WkP: plain lemmas over the functional reading: how combinators compute, loops by invariants, what is kept of a store. -/
namespace Wk
open PySem (Str)

/-! ### combinators compute -/
section
variable (s : Env) (S : Store)
@[simp] theorem eV_eq (i : Nat) : eV i s S = match s[i]? with
  | some (some d) => .ok d S
  | _ => .bad := rfl
@[simp] theorem eC_eq (d : D) : eC d s S = .ok d S := rfl
@[simp] theorem eOp_eq (o : Op) (a b : FE) : eOp o a b s S = (a s S).bind fun x S1 => (b s S1).bind fun y S2 => o x y S2 := rfl
@[simp] theorem eUn_eq (o : D → Store → Res D) (a : FE) : eUn o a s S = (a s S).bind o := rfl
@[simp] theorem aNil_eq : aNil s S = .ok [] S := rfl
@[simp] theorem aCons_eq (a : FE) (r : FA) : aCons a r s S = (a s S).bind fun x S1 => (r s S1).bind fun xs S2 => .ok (x :: xs) S2 := rfl
@[simp] theorem eTup_eq (a : FA) : eTup a s S = (a s S).bind fun xs S1 => if xs.length ≤ LIM then .ok (.tup xs) S1 else .bad := rfl
@[simp] theorem eLst_eq (a : FA) : eLst a s S = (a s S).bind fun xs S1 => if xs.length ≤ LIM then .ok (.ref S1.length) (S1 ++ [.lst xs]) else .bad := rfl
@[simp] theorem eDictK_eq : eDictK s S = .ok (.ref S.length) (S ++ [.dk []]) := rfl
@[simp] theorem eCall_eq (F : Fn) (a : FA) : eCall F a s S = (a s S).bind F := rfl
@[simp] theorem tE_eq (a : FE) : tE a s S = (a s S).bind fun x S1 => match x with
  | .bl b => .ok b S1
  | _ => .bad := rfl
@[simp] theorem tAnd_eq (t u : FT) : tAnd t u s S = (t s S).bind fun b S1 => if b = true then u s S1 else .ok false S1 := rfl
@[simp] theorem tOr_eq (t u : FT) : tOr t u s S = (t s S).bind fun b S1 => if b = true then .ok true S1 else u s S1 := rfl
@[simp] theorem tNot_eq (t : FT) : Wk.tNot t s S = (t s S).bind fun b S1 => .ok (!b) S1 := rfl
@[simp] theorem eNot_eq (a : FE) : eNot a s S = (tE a s S).bind fun b S1 => .ok (.bl (!b)) S1 := rfl
@[simp] theorem eAnd_eq (a b : FE) : eAnd a b s S = (tE a s S).bind fun c S1 => if c = true then b s S1 else .ok (.bl false) S1 := rfl
@[simp] theorem eOr_eq (a b : FE) : eOr a b s S = (tE a s S).bind fun c S1 => if c = true then .ok (.bl true) S1 else b s S1 := rfl
@[simp] theorem eIf_eq (t : FT) (a b : FE) : eIf t a b s S = (t s S).bind fun c S1 => if c = true then a s S1 else b s S1 := rfl
@[simp] theorem eChain_eq (o o' : Op) (a b c : FE) : eChain o o' a b c s S = (a s S).bind fun x S1 => (b s S1).bind fun y S2 => (o x y S2).bind fun z S3 => match z with
  | .bl true => (c s S3).bind fun w S4 => o' y w S4
  | .bl false => .ok (.bl false) S3
  | _ => .bad := rfl
@[simp] theorem eBM_eq (o : Op) (a b : FE) : eBM o a b s S = (a s S).bind fun x S1 => if isLst x S1 then (b s S1).bind fun y S2 => o x y S2 else .bad := rfl
@[simp] theorem eHeard_eq (cs : List String) (f : FE) : eHeard cs f s S = heardR cs (f s S) := rfl
@[simp] theorem heardR_ok (cs : List String) (d : D) : heardR cs (.ok d S) = .ok (.tup [.str "told", d]) S := rfl
@[simp] theorem heardR_ex (cs : List String) (c : String) (w : D) : heardR cs (.ex c w S) = if cs.contains c then .ok (.tup [.str (Str.ofString c), w]) S else .bad := rfl
@[simp] theorem tTrue_eq : tTrue s S = .ok true S := rfl
@[simp] theorem gF_nm (i : Nat) (d : D) : gF (.nm i) d s = some (s.set i (some d)) := rfl
@[simp] theorem gF_tp (ts : List Tg) (ds : List D) : gF (.tp ts) (.tup ds) s = gFs ts ds s := rfl
@[simp] theorem gFs_nil : gFs [] [] s = some s := rfl
@[simp] theorem gFs_cons (t : Tg) (ts : List Tg) (d : D) (ds : List D) : gFs (t :: ts) (d :: ds) s = match gF t d s with
  | some s' => gFs ts ds s'
  | none => none := rfl
@[simp] theorem sSkip_eq : sSkip s S = .nx s S := rfl
@[simp] theorem sSeq_eq (f g : FS) : sSeq f g s S = match f s S with
  | .nx s' S' => g s' S'
  | r => r := rfl
@[simp] theorem sSet_eq (i : Nat) (e : FE) : sSet i e s S = ofE (e s S) s fun d S1 => .nx (s.set i (some d)) S1 := rfl
@[simp] theorem sAsg_eq (g : Tg) (e : FE) : sAsg g e s S = ofE (e s S) s fun d S1 => match gF g d s with
  | some s' => .nx s' S1
  | none => .bad := rfl
@[simp] theorem sPar_eq (i j : Nat) (a b : FE) : sPar i j a b s S = ofE (a s S) s fun x S1 => ofE (b s S1) s fun y S2 => .nx ((s.set i (some x)).set j (some y)) S2 := rfl
@[simp] theorem sExpr_eq (e : FE) : sExpr e s S = ofE (e s S) s fun _ S1 => .nx s S1 := rfl
@[simp] theorem sRet_eq (e : FE) : sRet e s S = ofE (e s S) s fun d S1 => .rt d S1 := rfl
@[simp] theorem sRetN_eq : sRetN s S = .rt .non S := rfl
@[simp] theorem sIf_eq (t : FT) (f g : FS) : sIf t f g s S = ofE (t s S) s fun b S1 => if b = true then f s S1 else g s S1 := rfl
@[simp] theorem sBreak_eq : Wk.sBreak s S = .bk s S := rfl
@[simp] theorem sCont_eq : Wk.sCont s S = .ct s S := rfl
@[simp] theorem sRaise_eq (c : String) (e : FE) : sRaise c e s S = ofE (e s S) s fun d S1 => .ex c d s S1 := rfl
@[simp] theorem sSub_eq (u : Up) (o i v : FE) : sSub u o i v s S = ofE (v s S) s fun x S1 => ofE (o s S1) s fun y S2 => ofE (i s S2) s fun z S3 => match u y z x S3 with
  | some S4 => .nx s S4
  | none => .bad := rfl
@[simp] theorem sFor_eq (it : FI) (g : Tg) (b : FS) : sFor it g b s S = ofE (it s S) s fun I S1 => forL I.chk g b I.items s S1 := rfl
@[simp] theorem sWhile_eq (t : FT) (b : FS) : Wk.sWhile t b s S = whileL t b FUEL s S := rfl
@[simp] theorem iSeq_eq (e : FE) : iSeq e s S = (e s S).bind fun x S1 => match x with
  | .tup ds => .ok ⟨ds, []⟩ S1
  | .frz ds => .ok ⟨ds, []⟩ S1
  | .ref l => match S1[l]? with
    | some (.lst ds) => .ok ⟨ds, [(l, .lst ds)]⟩ S1
    | _ => .bad
  | _ => .bad := rfl
@[simp] theorem iRng_eq (e : FE) : iRng e s S = (e s S).bind fun x S1 => match x with
  | .int j => if -(2 ^ 62) ≤ j ∧ j ≤ 16777216 then .ok ⟨rngD 0 j, []⟩ S1 else .bad
  | _ => .bad := rfl
@[simp] theorem iEnum_eq (e : FE) : iEnum e s S = (e s S).bind fun x S1 => match x with
  | .tup ds => .ok ⟨enumD ds, []⟩ S1
  | .ref l => match S1[l]? with
    | some (.lst ds) => .ok ⟨enumD ds, [(l, .lst ds)]⟩ S1
    | _ => .bad
  | _ => .bad := rfl
@[simp] theorem eComp_eq (it : FI) (g : Tg) (t : FT) (e : FE) (vs : List Nat) : eComp it g t e vs s S = (it s S).bind fun I S1 =>
  (noEx (compL I.chk g t e (wipeE s vs) I.items S1)).bind fun ys S2 => .ok (.ref S2.length) (S2 ++ [.lst ys]) := rfl
@[simp] theorem eDComp_eq (it : FI) (g : Tg) (t : FT) (k e : FE) (vs : List Nat) : eDComp it g t k e vs s S = (it s S).bind fun I S1 =>
  (noEx (compD I.chk g t k e (wipeE s vs) I.items S1)).bind fun ys S2 => .ok (.ref S2.length) (S2 ++ [.dk (mergeD [] ys)]) := rfl
@[simp] theorem wipeE_nil : wipeE s [] = s := rfl
@[simp] theorem wipeE_cons (v : Nat) (vs : List Nat) : wipeE s (v :: vs) = (wipeE s vs).set v none := rfl
end
theorem mkF_eq (k n : Nat) (b : FS) (ds : List D) (S : Store) (h : ds.length = k) : mkF k n b ds S = match b (startE n ds) S with
  | .nx _ S' => .ok .non S'
  | .rt d S' => .ok d S'
  | .ex c w _ S' => .ex c w S'
  | _ => .bad := if_pos h
/-! ### operations compute -/
section
variable (S : Store)
@[simp] theorem oAdd_int (i j : Int) : oAdd (.int i) (.int j) S = .ok (.int (i + j)) S := rfl
@[simp] theorem oSub_int (i j : Int) : oSub (.int i) (.int j) S = .ok (.int (i - j)) S := rfl
@[simp] theorem oMul_int (i j : Int) : oMul (.int i) (.int j) S = if bigOk i && bigOk j then .ok (.int (i * j)) S else .bad := rfl
@[simp] theorem oMod_int (i j : Int) : oMod (.int i) (.int j) S = if 0 < j then .ok (.int (i % j)) S else .bad := rfl
@[simp] theorem oFdiv_int (i j : Int) : oFdiv (.int i) (.int j) S = if 0 < j ∧ j.natAbs.log2 < 9000 then .ok (.int (i / j)) S else .bad := rfl
@[simp] theorem oPow_int (i j : Int) : oPow (.int i) (.int j) S = if 0 ≤ j ∧ j ≤ 1000000 ∧ i.natAbs < 2 ^ 64 then .ok (.int (i ^ j.toNat)) S else .bad := rfl
@[simp] theorem oLt_int (i j : Int) : oLt (.int i) (.int j) S = .ok (.bl (decide (i < j))) S := rfl
@[simp] theorem oLe_int (i j : Int) : oLe (.int i) (.int j) S = .ok (.bl (decide (i ≤ j))) S := rfl
@[simp] theorem oGt_int (i j : Int) : oGt (.int i) (.int j) S = .ok (.bl (decide (j < i))) S := rfl
@[simp] theorem oGe_int (i j : Int) : oGe (.int i) (.int j) S = .ok (.bl (decide (j ≤ i))) S := rfl
@[simp] theorem oMax_int (i j : Int) : oMax (.int i) (.int j) S = .ok (.int (if j > i then j else i)) S := rfl
@[simp] theorem uNeg_int (i : Int) : uNeg (.int i) S = .ok (.int (-i)) S := rfl
@[simp] theorem oEq_int (i j : Int) : oEq (.int i) (.int j) S = .ok (.bl (i == j)) S := rfl
@[simp] theorem notR_ok (b : Bool) : notR (.ok (.bl b) S) = .ok (.bl (!b)) S := rfl
@[simp] theorem oNe_eq (x y : D) : oNe x y S = notR (oEq x y S) := rfl
@[simp] theorem oNinS_eq (x y : D) : oNinS x y S = notR (oInS x y S) := rfl
@[simp] theorem oNinD_eq (x y : D) : oNinD x y S = notR (oInD x y S) := rfl
@[simp] theorem oIsN_eq (x : D) : oIsN x .non S = .ok (.bl (isNon x)) S := rfl
@[simp] theorem oNotN_eq (x : D) : oNotN x .non S = .ok (.bl (!isNon x)) S := rfl
@[simp] theorem isNon_non : isNon .non = true := rfl
@[simp] theorem isNon_int (i : Int) : isNon (.int i) = false := rfl
@[simp] theorem isNon_bl (i : Bool) : isNon (.bl i) = false := rfl
@[simp] theorem isNon_str (i : Str) : isNon (.str i) = false := rfl
@[simp] theorem isNon_tup (i : List D) : isNon (.tup i) = false := rfl
@[simp] theorem isNon_ref (i : Nat) : isNon (.ref i) = false := rfl
@[simp] theorem oIx_tup (ds : List D) (i : Int) : oIx (.tup ds) (.int i) S = match atI ds i with
  | some d => .ok d S
  | none => .bad := rfl
@[simp] theorem oIx_frz (ds : List D) (i : Int) : oIx (.frz ds) (.int i) S = match atI ds i with
  | some d => .ok d S
  | none => .bad := rfl
@[simp] theorem oIx_ref (l : Nat) (i : Int) : oIx (.ref l) (.int i) S = match S[l]? with
  | some (.lst ds) => match atI ds i with
    | some d => .ok d S
    | none => .bad
  | _ => .bad := rfl
@[simp] theorem fLen_tup (ds : List D) : fLen (.tup ds) S = .ok (.int ds.length) S := rfl
@[simp] theorem fLen_frz (ds : List D) : fLen (.frz ds) S = .ok (.int ds.length) S := rfl
theorem fLen_lst {S : Store} {l : Nat} {ds : List D} (h : S[l]? = some (.lst ds)) : fLen (.ref l) S = .ok (.int ds.length) S := by
  unfold fLen seqD; dsimp only; rw [h]
theorem fLen_dk {S : Store} {l : Nat} {ds : List (Kk × D)} (h : S[l]? = some (.dk ds)) : fLen (.ref l) S = .ok (.int ds.length) S := by
  unfold fLen; dsimp only; rw [h]
@[simp] theorem fTuple_tup (ds : List D) : fTuple (.tup ds) S = .ok (.tup ds) S := rfl
theorem fTuple_lst {S : Store} {l : Nat} {ds : List D} (h : S[l]? = some (.lst ds)) : fTuple (.ref l) S = .ok (.tup ds) S := by
  unfold fTuple seqD; dsimp only; rw [h]
@[simp] theorem fList_tup (ds : List D) : fList (.tup ds) S = .ok (.ref S.length) (S ++ [.lst ds]) := rfl
theorem fList_lst {S : Store} {l : Nat} {ds : List D} (h : S[l]? = some (.lst ds)) : fList (.ref l) S = .ok (.ref S.length) (S ++ [.lst ds]) := by
  unfold fList seqD; dsimp only; rw [h]
theorem isLst_lst {S : Store} {l : Nat} {ds : List D} (h : S[l]? = some (.lst ds)) : isLst (.ref l) S = true := by
  unfold isLst; dsimp only; rw [h]
theorem isDk_dk {S : Store} {l : Nat} {ds : List (Kk × D)} (h : S[l]? = some (.dk ds)) : isDk (.ref l) S = true := by
  unfold isDk; dsimp only; rw [h]
theorem oAppend_lst {S : Store} {l : Nat} {ds : List D} {y : D} (h : S[l]? = some (.lst ds)) (hz : ds.length < LIM) : oAppend (.ref l) y S = .ok .non (S.set l (.lst (ds ++ [y]))) := by
  unfold oAppend; dsimp only; rw [h]; dsimp only; rw [if_pos hz]
theorem oExtend_lst {S : Store} {l m : Nat} {ds es : List D} (h : S[l]? = some (.lst ds)) (h2 : S[m]? = some (.lst es)) (hz : ds.length + es.length ≤ LIM) : oExtend (.ref l) (.ref m) S = .ok .non (S.set l (.lst (ds ++ es))) := by
  unfold oExtend; dsimp only; rw [h, h2]; dsimp only; rw [if_pos hz]
@[simp] theorem fListRg_int (b : Int) : fListRg (.int b) S = if -(2 ^ 62) ≤ b ∧ b ≤ 16777216 then .ok (.ref S.length) (S ++ [.lst (rngD 0 b)]) else .bad := rfl
@[simp] theorem tyD_non : tyD S .non = some "NoneType" := rfl
@[simp] theorem tyD_bl (b : Bool) : tyD S (.bl b) = some "bool" := rfl
@[simp] theorem tyD_int (b : Int) : tyD S (.int b) = some "int" := rfl
@[simp] theorem tyD_str (b : Str) : tyD S (.str b) = some "str" := rfl
@[simp] theorem tyD_tup (b : List D) : tyD S (.tup b) = some "tuple" := rfl
theorem tyD_lst {S : Store} {l : Nat} {ds : List D} (h : S[l]? = some (.lst ds)) : tyD S (.ref l) = some "list" := by
  unfold tyD; dsimp only; rw [h]
theorem tyD_dk {S : Store} {l : Nat} {ds : List (Kk × D)} (h : S[l]? = some (.dk ds)) : tyD S (.ref l) = some "dict" := by
  unfold tyD; dsimp only; rw [h]
@[simp] theorem fIsInst_eq (n : String) (x : D) : fIsInst n x S = match tyD S x with
  | some t => .ok (.bl (isTy t n)) S
  | none => .bad := rfl
end
theorem LIM_val : LIM = 16777216 := rfl
/-! ### places -/
@[simp] theorem atI_nat {α : Type} (xs : List α) (i : Nat) : atI xs (i : Int) = xs[i]? := by
  unfold atI ixN
  rw [if_pos (Int.natCast_nonneg i)]
  by_cases h : i < xs.length
  · rw [if_pos (by omega)]; simp
  · rw [if_neg (by omega)]; simp [List.getElem?_eq_none (Nat.le_of_not_lt h)]
@[simp] theorem atI_zero {α : Type} (xs : List α) : atI xs 0 = xs[0]? := atI_nat xs 0
@[simp] theorem atI_one {α : Type} (xs : List α) : atI xs 1 = xs[1]? := atI_nat xs 1
@[simp] theorem atI_two {α : Type} (xs : List α) : atI xs 2 = xs[2]? := atI_nat xs 2
theorem ixN_nat (n i : Nat) (h : i < n) : ixN n (i : Int) = some i := by
  unfold ixN
  rw [if_pos (Int.natCast_nonneg i), if_pos (by omega)]
  simp
/-- ints from 0 -/
theorem rngD_nat (n : Nat) : rngD 0 (n : Int) = (List.range n).map fun (i : Nat) => D.int (i : Int) := by
  unfold rngD
  simp

/-! ### what is kept of a store -/
/-- all but the things numbered in X is as it was -/
def Keep (X : List Nat) (S S' : Store) : Prop := S.length ≤ S'.length ∧ ∀ i, i < S.length → i ∉ X → S'[i]? = S[i]?
theorem Keep.refl (X : List Nat) (S : Store) : Keep X S S := ⟨Nat.le_refl _, fun _ _ _ => rfl⟩
theorem Keep.trans {X : List Nat} {S S' S'' : Store} (h : Keep X S S') (k : Keep X S' S'') : Keep X S S'' := ⟨Nat.le_trans h.1 k.1, fun i hi hx => (k.2 i (Nat.lt_of_lt_of_le hi h.1) hx).trans (h.2 i hi hx)⟩
theorem Keep.mono {X Y : List Nat} {S S' : Store} (h : Keep X S S') (xy : ∀ i ∈ X, i ∈ Y) : Keep Y S S' := ⟨h.1, fun i hi hy => h.2 i hi fun z => hy (xy i z)⟩
theorem Keep.get {X : List Nat} {S S' : Store} (h : Keep X S S') {i : Nat} {o : Ob} (e : S[i]? = some o) (hx : i ∉ X) : S'[i]? = some o := by
  rw [h.2 i (List.getElem?_eq_some_iff.mp e).1 hx]; exact e
theorem Keep.push (S T : Store) (X : List Nat) : Keep X S (S ++ T) := ⟨by simp, fun i hi _ => List.getElem?_append_left hi⟩
theorem Keep.set {X : List Nat} (S : Store) {p : Nat} {o : Ob} (hp : p ∈ X ∨ S.length ≤ p) : Keep X S (S.set p o) := ⟨by simp, fun i hi hx => by
  rw [List.getElem?_set_ne]
  rintro rfl
  rcases hp with h | h
  · exact hx h
  · omega⟩
/-- things that are new may change -/
theorem Keep.new {X Y : List Nat} {S S' S'' : Store} (h : Keep X S S') (k : Keep Y S' S'') (hy : ∀ i ∈ Y, i ∈ X ∨ S.length ≤ i) : Keep X S S'' := ⟨Nat.le_trans h.1 k.1, fun i hi hx => (k.2 i (Nat.lt_of_lt_of_le hi h.1) fun z => (hy i z).elim hx fun q => by omega).trans (h.2 i hi hx)⟩
theorem lt_of_get {S : Store} {i : Nat} {o : Ob} (e : S[i]? = some o) : i < S.length := (List.getElem?_eq_some_iff.mp e).1
theorem get_last (S : Store) (o : Ob) : (S ++ [o])[S.length]? = some o := by simp
theorem get_set_self {S : Store} {i : Nat} {o u : Ob} (e : S[i]? = some o) : (S.set i u)[i]? = some u := List.getElem?_set_self (lt_of_get e)

/-! ### loops -/
section
variable {c : Chk} {g : Tg} {b : FS}
/-- a for that goes through: I, of what is left -/
theorem forL_run (I : List D → Env → Store → Prop) (hc : ∀ ds s S, I ds s S → okC c S = true)
    (hs : ∀ d ds s S, I (d :: ds) s S → ∃ s1 s2 S2, gF g d s = some s1 ∧ (b s1 S = .nx s2 S2 ∨ b s1 S = .ct s2 S2) ∧ I ds s2 S2) :
    ∀ ds s S, I ds s S → ∃ s' S', forL c g b ds s S = .nx s' S' ∧ I [] s' S'
  | [], s, S, h => ⟨s, S, by unfold forL; rw [if_pos (hc _ _ _ h)], h⟩
  | d :: ds, s, S, h => by
    obtain ⟨s1, s2, S2, e1, e2, h2⟩ := hs d ds s S h
    obtain ⟨s', S', e3, h3⟩ := forL_run I hc hs ds s2 S2 h2
    refine ⟨s', S', ?_, h3⟩
    unfold forL
    rw [if_pos (hc _ _ _ h), e1]
    dsimp only
    rcases e2 with e2 | e2 <;> rw [e2] <;> exact e3
/-- a while that goes through -/
theorem whileL_run {t : FT} (I : Env → Store → Prop) (Q : Env → Store → Prop) (μ : Env → Store → Nat)
    (hs : ∀ s S, I s S → (∃ S1, t s S = .ok false S1 ∧ Q s S1) ∨ ∃ S1 s2 S2, t s S = .ok true S1 ∧ (b s S1 = .nx s2 S2 ∨ b s S1 = .ct s2 S2) ∧ I s2 S2 ∧ μ s2 S2 < μ s S) :
    ∀ n s S, I s S → μ s S < n → ∃ s' S', whileL t b n s S = .nx s' S' ∧ Q s' S'
  | 0, _, _, _, h => absurd h (Nat.not_lt_zero _)
  | n + 1, s, S, h, hm => by
    unfold whileL
    rcases hs s S h with ⟨S1, e, q⟩ | ⟨S1, s2, S2, e, e2, h2, h3⟩
    · exact ⟨s, S1, by rw [e]; rfl, q⟩
    · obtain ⟨s', S', e3, q⟩ := whileL_run I Q μ hs n s2 S2 h2 (by omega)
      refine ⟨s', S', ?_, q⟩
      rw [e, ofE_ok, if_pos rfl]
      rcases e2 with e2 | e2 <;> rw [e2] <;> exact e3
end
section
variable {c : Chk} {g : Tg} {t : FT} {e : FE} {sw : Env}
/-- a comprehension whose test and element keep the store -/
theorem compL_pure {S : Store} {p : D → Bool} {f : D → D} (hc : okC c S = true) : ∀ ds : List D, (∀ d ∈ ds, ∃ s1, gF g d sw = some s1 ∧ t s1 S = .ok (p d) S ∧ (p d = true → e s1 S = .ok (f d) S)) →
    compL c g t e sw ds S = .ok ((ds.filter p).map f) S
  | [], _ => by unfold compL; rw [if_pos hc]; rfl
  | d :: ds, h => by
    obtain ⟨s1, e1, e2, e3⟩ := h d List.mem_cons_self
    have ih := compL_pure hc ds fun x hx => h x (List.mem_cons_of_mem _ hx)
    unfold compL
    rw [if_pos hc, e1]
    dsimp only
    rw [e2, Res.bind_ok]
    cases hp : p d with
    | true => rw [if_pos rfl, e3 hp, Res.bind_ok, ih, Res.bind_ok, List.filter_cons, hp]; rfl
    | false => rw [if_neg (by decide), ih, List.filter_cons, hp]; rfl
/-- a comprehension by an invariant: of what is left, what has been told, the store -/
theorem compL_run (I : List D → List D → Store → Prop) (hc : ∀ ds acc S, I ds acc S → okC c S = true)
    (hs : ∀ d ds acc S, I (d :: ds) acc S → ∃ s1 S1, gF g d sw = some s1 ∧ ((t s1 S = .ok false S1 ∧ I ds acc S1) ∨ ∃ y S2, t s1 S = .ok true S1 ∧ e s1 S1 = .ok y S2 ∧ I ds (acc ++ [y]) S2)) :
    ∀ ds acc S, I ds acc S → ∃ ys S', compL c g t e sw ds S = .ok ys S' ∧ I [] (acc ++ ys) S'
  | [], acc, S, h => ⟨[], S, by unfold compL; rw [if_pos (hc _ _ _ h)], by simpa using h⟩
  | d :: ds, acc, S, h => by
    obtain ⟨s1, S1, e1, h1⟩ := hs d ds acc S h
    unfold compL
    rw [if_pos (hc _ _ _ h), e1]
    dsimp only
    rcases h1 with ⟨e2, h2⟩ | ⟨y, S2, e2, e3, h2⟩
    · obtain ⟨ys, S', e4, h4⟩ := compL_run I hc hs ds acc S1 h2
      exact ⟨ys, S', by rw [e2, Res.bind_ok, if_neg (by decide)]; exact e4, h4⟩
    · obtain ⟨ys, S', e4, h4⟩ := compL_run I hc hs ds (acc ++ [y]) S2 h2
      exact ⟨y :: ys, S', by rw [e2, Res.bind_ok, if_pos rfl, e3, Res.bind_ok, e4]; rfl, by simpa using h4⟩
theorem compL_map {S : Store} {f : D → D} (hc : okC c S = true) (ds : List D) (h : ∀ d ∈ ds, ∃ s1, gF g d sw = some s1 ∧ e s1 S = .ok (f d) S) : compL c g tTrue e sw ds S = .ok (ds.map f) S := by
  rw [compL_pure (t := tTrue) (p := fun _ => true) (f := f) hc ds fun d hd => let ⟨s1, a, b⟩ := h d hd; ⟨s1, a, rfl, fun _ => b⟩]
  rw [List.filter_eq_self.mpr (fun _ _ => rfl)]
end
theorem forL_nil {c : Chk} {g : Tg} {b : FS} {s : Env} {S : Store} (h : okC c S = true) : forL c g b [] s S = .nx s S := by
  unfold forL; rw [if_pos h]
theorem forL_cons {c : Chk} {g : Tg} {b : FS} {s s1 s2 : Env} {S S2 : Store} {d : D} {ds : List D} (h : okC c S = true) (hg : gF g d s = some s1) (hb : b s1 S = .nx s2 S2) : forL c g b (d :: ds) s S = forL c g b ds s2 S2 := by
  rw [show forL c g b (d :: ds) s S = if okC c S then (match gF g d s with
    | none => .bad
    | some s1 => match b s1 S with
      | .nx s2 S2 => forL c g b ds s2 S2
      | .ct s2 S2 => forL c g b ds s2 S2
      | .bk s2 S2 => .nx s2 S2
      | r => r) else .bad from rfl, if_pos h, hg]
  dsimp only
  rw [hb]
/-- a while that goes through, its measure in the invariant -/
theorem whileL_runN {t : FT} {b : FS} (I : Nat → Env → Store → Prop) (Q : Env → Store → Prop)
    (hs : ∀ m s S, I m s S → (∃ S1, t s S = .ok false S1 ∧ Q s S1) ∨ ∃ S1 s2 S2 m2, t s S = .ok true S1 ∧ (b s S1 = .nx s2 S2 ∨ b s S1 = .ct s2 S2) ∧ I m2 s2 S2 ∧ m2 < m) :
    ∀ n m s S, I m s S → m < n → ∃ s' S', whileL t b n s S = .nx s' S' ∧ Q s' S'
  | 0, _, _, _, _, h => absurd h (Nat.not_lt_zero _)
  | n + 1, m, s, S, h, hm => by
    unfold whileL
    rcases hs m s S h with ⟨S1, e, q⟩ | ⟨S1, s2, S2, m2, e, e2, h2, h3⟩
    · exact ⟨s, S1, by rw [e]; rfl, q⟩
    · obtain ⟨s', S', e3, q⟩ := whileL_runN I Q hs n m2 s2 S2 h2 (by omega)
      refine ⟨s', S', ?_, q⟩
      rw [e, ofE_ok, if_pos rfl]
      rcases e2 with e2 | e2 <;> rw [e2] <;> exact e3
theorem compD_map {c : Chk} {g : Tg} {fk fe : FE} {sw : Env} {S : Store} {kf : D → Kk} {vf : D → D} (hc : okC c S = true) : ∀ ds : List D, (∀ d ∈ ds, ∃ s1 x, gF g d sw = some s1 ∧ fk s1 S = .ok x S ∧ fe s1 S = .ok (vf d) S ∧ keyD x = some (kf d)) →
    compD c g tTrue fk fe sw ds S = .ok (ds.map fun d => (kf d, vf d)) S
  | [], _ => by unfold compD; rw [if_pos hc]; rfl
  | d :: ds, h => by
    obtain ⟨s1, x, e1, e2, e3, e4⟩ := h d List.mem_cons_self
    have ih := compD_map hc ds fun y hy => h y (List.mem_cons_of_mem _ hy)
    unfold compD
    rw [if_pos hc, e1]
    dsimp only
    rw [tTrue_eq, Res.bind_ok, if_pos rfl, e2, Res.bind_ok, e3, Res.bind_ok, e4]
    dsimp only
    rw [ih]; rfl
theorem nx_seq {f g : FS} {s s1 : Env} {S S1 : Store} {r : Rs} (h : f s S = .nx s1 S1) (k : g s1 S1 = r) : sSeq f g s S = r := by rw [sSeq_eq, h]; exact k
end Wk


set_option Elab.async false
set_option linter.all false
set_option maxRecDepth 100000
set_option autoImplicit false
/-! PvPool: what pool, take, one, mixed of the law's drawing do. -/
namespace WkL
open PySem (Str)
open Wk
/-- a pool of numbers -/
structure PoolI (dg st : Int) : Prop where
  d0 : 0 ≤ dg
  s0 : 0 ≤ st
  s1 : st < 2147483647
/-- the pool stands at p -/
def Pool (p : Nat) (S : Store) : Prop := ∃ dg st, S[p]? = some (.lst [.int dg, .int st]) ∧ PoolI dg st
theorem Pool.keep {p : Nat} {X : List Nat} {S S' : Store} (h : Pool p S) (k : Keep X S S') (hp : p ∉ X) : Pool p S' := by
  obtain ⟨dg, st, e, i⟩ := h
  exact ⟨dg, st, k.get e hp, i⟩
theorem log2_lt {n k : Nat} (hk : 0 < k) (h : n < 2 ^ k) : n.log2 < k := by
  by_cases h0 : n = 0
  · rw [h0]; simpa using hk
  · exact (Nat.log2_lt h0).mpr h
theorem bigOk_small {i : Int} (k : Nat) (hk : 0 < k) (hk2 : k ≤ 400000) (h : i.natAbs < 2 ^ k) : bigOk i = true := decide_eq_true (Nat.lt_of_lt_of_le (log2_lt hk h) hk2)
theorem log_ok {i : Int} (h0 : 0 < i) (h : i ≤ 1000000) : i.natAbs.log2 < 9000 := Nat.lt_trans (log2_lt (k := 64) (by decide) (by show i.natAbs < 18446744073709551616; omega)) (by decide)
@[simp] theorem big_48271 : bigOk 48271 = true := bigOk_small 64 (by decide) (by decide) (by decide)
@[simp] theorem big_39373 : bigOk 39373 = true := bigOk_small 64 (by decide) (by decide) (by decide)
@[simp] theorem log2_32 : Nat.log2 32 = 5 := by decide
theorem big31 {i : Int} (h0 : 0 ≤ i) (h1 : i < 2147483647) : bigOk i = true := bigOk_small 64 (by decide) (by decide) (by show i.natAbs < 18446744073709551616; omega)
theorem set_two {S : Store} {p : Nat} {x y : D} (h : S[p]? = some (.lst [x, y])) (i : Nat) (z : D) (hi : i < 2) : uSetL (.ref p) (.int (i : Int)) z S = some (S.set p (.lst ([x, y].set i z))) := by
  unfold uSetL; dsimp only; rw [h]; dsimp only; rw [ixN_nat _ _ (by exact hi)]
theorem take_ok {p : Nat} {S : Store} {many : Int} (h : Pool p S) (hm : 0 < many) (hm2 : many ≤ 1000000) :
    ∃ (k : Int) (S' : Store), F__law_wv_take [.ref p, .int many] S = .ok (.int k) S' ∧ 0 ≤ k ∧ k < many ∧ Keep [p] S S' ∧ Pool p S' ∧ S'.length = S.length := by
  obtain ⟨dg, st, e, i⟩ := h
  have hl := lt_of_get e
  have i0 := i.d0; have i1 := i.s0; have i2 := i.s1
  have u0 : ∀ z, uSetL (.ref p) (.int 0) z S = _ := fun z => set_two e 0 z (by decide)
  have u1 : ∀ z, uSetL (.ref p) (.int 1) z S = _ := fun z => set_two e 1 z (by decide)
  have lg := log_ok hm hm2
  by_cases hd : 0 < dg
  · refine ⟨dg % many, S.set p (.lst [.int (dg / many), .int st]), ?_, Int.emod_nonneg _ (by omega), Int.emod_lt_of_pos _ hm, Keep.set _ (.inl (by simp)), ⟨dg / many, st, get_set_self e, ⟨Int.ediv_nonneg i0 (by omega), i1, i2⟩⟩, by simp⟩
    simp [F__law_wv_take, mkF, startE, e, hd, hm, lg, u0]
  · have b1 := big31 i1 i2
    have m1 : 0 ≤ (st * 39373 + 7) % 2147483647 := Int.emod_nonneg _ (by decide)
    have m2 : (st * 39373 + 7) % 2147483647 < 2147483647 := Int.emod_lt_of_pos _ (by decide)
    have b2 := big31 m1 m2
    refine ⟨((st * 39373 + 7) % 2147483647) * ((st * 39373 + 7) % 2147483647) % 2147483629 / 32 % many, S.set p (.lst [.int dg, .int ((st * 39373 + 7) % 2147483647)]), ?_, Int.emod_nonneg _ (by omega), Int.emod_lt_of_pos _ hm, Keep.set _ (.inl (by simp)), ⟨dg, _, get_set_self e, ⟨i0, m1, m2⟩⟩, by simp⟩
    have g1 : (S.set p (.lst [.int dg, .int ((st * 39373 + 7) % 2147483647)]))[p]? = _ := get_set_self e
    simp [F__law_wv_take, mkF, startE, e, hd, hm, u1, b1, b2, g1]
theorem one_ok {p l : Nat} {S : Store} {ds : List D} (h : Pool p S) (hl : S[l]? = some (.lst ds)) (hlp : l ≠ p) (hne : 0 < ds.length) (hz : ds.length ≤ 1000000) :
    ∃ (d : D) (S' : Store), F__law_wv_one [.ref p, .ref l] S = .ok d S' ∧ d ∈ ds ∧ Keep [p] S S' ∧ Pool p S' ∧ S'.length = S.length := by
  obtain ⟨k, S', e, k0, k1, hk, hp, hL⟩ := take_ok (many := (ds.length : Int)) h (by omega) (by omega)
  obtain ⟨j, rfl⟩ := Int.eq_ofNat_of_zero_le k0
  have hj : j < ds.length := by omega
  have g := hk.get hl (by simpa using hlp)
  refine ⟨ds[j], S', ?_, List.getElem_mem hj, hk, hp, hL⟩
  simp [F__law_wv_one, mkF, startE, fLen_lst hl, e, g, hj]
theorem eraseIdx_perm {α : Type} : ∀ {xs : List α} {j : Nat} {x : α}, xs[j]? = some x → (x :: xs.eraseIdx j).Perm xs
  | [], j, x, h => by simp at h
  | a :: xs, 0, x, h => by simp at h; subst h; exact List.Perm.refl _
  | a :: xs, j + 1, x, h => by
    have ih := eraseIdx_perm (xs := xs) (j := j) (x := x) (by simpa using h)
    exact (List.Perm.swap a x _).trans (ih.cons a)
theorem mixed_ok {p l : Nat} {S : Store} {ds : List D} (h : Pool p S) (hl : S[l]? = some (.lst ds)) (hlp : l ≠ p) (hz : ds.length ≤ 1000000) :
    ∃ (n : Nat) (es : List D) (S' : Store), F__law_wv_mixed [.ref p, .ref l] S = .ok (.ref n) S' ∧ S'[n]? = some (.lst es) ∧ es.Perm ds ∧ Keep [p] S S' ∧ Pool p S' ∧ S.length ≤ n := by
  have hl' := lt_of_get hl
  have hp' : p < S.length := by obtain ⟨_, _, e, _⟩ := h; exact lt_of_get e
  -- the store with spare, found
  have e1 : (S ++ [Ob.lst ds] ++ [Ob.lst []])[S.length]? = some (.lst ds) := by simp
  have e2 : (S ++ [Ob.lst ds] ++ [Ob.lst []])[S.length + 1]? = some (.lst []) := by simp
  have k0 : Keep [p] S (S ++ [Ob.lst ds] ++ [Ob.lst []]) := by rw [List.append_assoc]; exact Keep.push S _ _
  obtain ⟨s', S', hr, h'⟩ := forL_run (c := []) (g := .nm 4) (b := sExpr (eBM oAppend (eV 3) (eBM oPopAt (eV 2) (eCall F__law_wv_take (aCons (eV 0) (aCons (eUn fLen (eV 2)) aNil))))))
    (fun rest s T => ∃ (sp fd : List D) (x : Option D), s = [some (.ref p), some (.ref l), some (.ref S.length), some (.ref (S.length + 1)), x] ∧ T[S.length]? = some (.lst sp) ∧ T[S.length + 1]? = some (.lst fd) ∧ sp.length = rest.length ∧ (fd ++ sp).Perm ds ∧ Keep [p] S T ∧ Pool p T)
    (fun _ _ _ _ => rfl) (by
    rintro d rest s T ⟨sp, fd, x, rfl, h1, h2, h3, h4, h5, h6⟩
    have hn : 0 < sp.length := by rw [h3]; simp
    have hle : (fd ++ sp).length = ds.length := h4.length_eq
    rw [List.length_append] at hle
    obtain ⟨k, T1, e, k0', k1, hk, hp, hL⟩ := take_ok (many := (sp.length : Int)) h6 (by omega) (by omega)
    obtain ⟨j, rfl⟩ := Int.eq_ofNat_of_zero_le k0'
    have hj : j < sp.length := by omega
    have n1 : S.length ≠ p := by omega
    have n2 : S.length + 1 ≠ p := by omega
    have g1 := hk.get h1 (by simpa using n1)
    have g2 := hk.get h2 (by simpa using n2)
    have il := isLst_lst h1
    have il2 := isLst_lst h2
    have hjj : sp[j]? = some sp[j] := List.getElem?_eq_getElem hj
    have p1 : oPopAt (.ref S.length) (.int (j : Int)) T1 = .ok sp[j] (T1.set S.length (.lst (sp.eraseIdx j))) := by
      unfold oPopAt; dsimp only; rw [g1]; dsimp only; rw [ixN_nat _ _ hj]; dsimp only; rw [hjj]
    have g3 : (T1.set S.length (.lst (sp.eraseIdx j)))[S.length + 1]? = some (.lst fd) := by rw [List.getElem?_set_ne (by omega)]; exact g2
    have p2 := oAppend_lst (y := sp[j]) g3 (by rw [LIM_val]; omega)
    have kk : Keep [p] S ((T1.set S.length (.lst (sp.eraseIdx j))).set (S.length + 1) (.lst (fd ++ [sp[j]]))) := ((h5.trans hk).new (Y := [S.length, S.length + 1]) ((Keep.set _ (.inl (by simp))).trans (Keep.set _ (.inl (by simp)))) (by intro i hi; simp at hi; omega))
    refine ⟨_, _, _, rfl, .inl (by simp [il, il2, fLen_lst h1, e, p1, p2]; rfl), sp.eraseIdx j, fd ++ [sp[j]], some d, by simp, ?_, ?_, ?_, ?_, kk, ?_⟩
    · rw [List.getElem?_set_ne (by omega)]; exact get_set_self g1
    · exact get_set_self g3
    · rw [List.length_eraseIdx_of_lt hj]; simp at h3; omega
    · rw [List.append_assoc]
      exact ((eraseIdx_perm hjj).append_left fd).trans h4
    · exact hp.keep (X := [S.length, S.length + 1]) ((Keep.set _ (.inl (by simp))).trans (Keep.set _ (.inl (by simp)))) (by simp; omega)) ((List.range ds.length).map fun (i : Nat) => D.int (i : Int)) [some (.ref p), some (.ref l), some (.ref S.length), some (.ref (S.length + 1)), none] (S ++ [Ob.lst ds] ++ [Ob.lst []])
    ⟨ds, [], none, rfl, e1, e2, by simp, by simp, k0, h.keep (Keep.push S _ []) (by simp) |> fun z => by rw [List.append_assoc]; exact z⟩
  · obtain ⟨sp, fd, x, rfl, h1, h2, h3, h4, h5, h6⟩ := h'
    have sp0 : sp = [] := List.eq_nil_of_length_eq_zero (by simpa using h3)
    subst sp0
    refine ⟨S.length + 1, fd, S', ?_, h2, by simpa using h4, h5, h6, by omega⟩
    have r1 : -(4611686018427387904 : Int) ≤ (ds.length : Int) := by omega
    have r2 : (ds.length : Int) ≤ 16777216 := by omega
    have g1 : (S ++ [Ob.lst ds] ++ [Ob.lst []])[l]? = some (.lst ds) := k0.get hl (by simpa using hlp)
    have g2 : (S ++ [Ob.lst ds, Ob.lst []])[l]? = some (.lst ds) := by simpa using g1
    have hr' := hr
    simp only [List.append_assoc, List.cons_append, List.nil_append] at hr'
    simp [F__law_wv_mixed, mkF, startE, fList_lst hl, fLen_lst g2, LIM_val, rngD_nat, r1, r2, hr']
theorem mixed_okT {p : Nat} {S : Store} {ds : List D} (h : Pool p S) (hz : ds.length ≤ 1000000) :
    ∃ (n : Nat) (es : List D) (S' : Store), F__law_wv_mixed [.ref p, .tup ds] S = .ok (.ref n) S' ∧ S'[n]? = some (.lst es) ∧ es.Perm ds ∧ Keep [p] S S' ∧ Pool p S' ∧ S.length ≤ n := by
  have hp' : p < S.length := by obtain ⟨_, _, e, _⟩ := h; exact lt_of_get e
  -- the store with spare, found
  have e1 : (S ++ [Ob.lst ds] ++ [Ob.lst []])[S.length]? = some (.lst ds) := by simp
  have e2 : (S ++ [Ob.lst ds] ++ [Ob.lst []])[S.length + 1]? = some (.lst []) := by simp
  have k0 : Keep [p] S (S ++ [Ob.lst ds] ++ [Ob.lst []]) := by rw [List.append_assoc]; exact Keep.push S _ _
  obtain ⟨s', S', hr, h'⟩ := forL_run (c := []) (g := .nm 4) (b := sExpr (eBM oAppend (eV 3) (eBM oPopAt (eV 2) (eCall F__law_wv_take (aCons (eV 0) (aCons (eUn fLen (eV 2)) aNil))))))
    (fun rest s T => ∃ (sp fd : List D) (x : Option D), s = [some (.ref p), some (.tup ds), some (.ref S.length), some (.ref (S.length + 1)), x] ∧ T[S.length]? = some (.lst sp) ∧ T[S.length + 1]? = some (.lst fd) ∧ sp.length = rest.length ∧ (fd ++ sp).Perm ds ∧ Keep [p] S T ∧ Pool p T)
    (fun _ _ _ _ => rfl) (by
    rintro d rest s T ⟨sp, fd, x, rfl, h1, h2, h3, h4, h5, h6⟩
    have hn : 0 < sp.length := by rw [h3]; simp
    have hle : (fd ++ sp).length = ds.length := h4.length_eq
    rw [List.length_append] at hle
    obtain ⟨k, T1, e, k0', k1, hk, hp, hL⟩ := take_ok (many := (sp.length : Int)) h6 (by omega) (by omega)
    obtain ⟨j, rfl⟩ := Int.eq_ofNat_of_zero_le k0'
    have hj : j < sp.length := by omega
    have n1 : S.length ≠ p := by omega
    have n2 : S.length + 1 ≠ p := by omega
    have g1 := hk.get h1 (by simpa using n1)
    have g2 := hk.get h2 (by simpa using n2)
    have il := isLst_lst h1
    have il2 := isLst_lst h2
    have hjj : sp[j]? = some sp[j] := List.getElem?_eq_getElem hj
    have p1 : oPopAt (.ref S.length) (.int (j : Int)) T1 = .ok sp[j] (T1.set S.length (.lst (sp.eraseIdx j))) := by
      unfold oPopAt; dsimp only; rw [g1]; dsimp only; rw [ixN_nat _ _ hj]; dsimp only; rw [hjj]
    have g3 : (T1.set S.length (.lst (sp.eraseIdx j)))[S.length + 1]? = some (.lst fd) := by rw [List.getElem?_set_ne (by omega)]; exact g2
    have p2 := oAppend_lst (y := sp[j]) g3 (by rw [LIM_val]; omega)
    have kk : Keep [p] S ((T1.set S.length (.lst (sp.eraseIdx j))).set (S.length + 1) (.lst (fd ++ [sp[j]]))) := ((h5.trans hk).new (Y := [S.length, S.length + 1]) ((Keep.set _ (.inl (by simp))).trans (Keep.set _ (.inl (by simp)))) (by intro i hi; simp at hi; omega))
    refine ⟨_, _, _, rfl, .inl (by simp [il, il2, fLen_lst h1, e, p1, p2]; rfl), sp.eraseIdx j, fd ++ [sp[j]], some d, by simp, ?_, ?_, ?_, ?_, kk, ?_⟩
    · rw [List.getElem?_set_ne (by omega)]; exact get_set_self g1
    · exact get_set_self g3
    · rw [List.length_eraseIdx_of_lt hj]; simp at h3; omega
    · rw [List.append_assoc]
      exact ((eraseIdx_perm hjj).append_left fd).trans h4
    · exact hp.keep (X := [S.length, S.length + 1]) ((Keep.set _ (.inl (by simp))).trans (Keep.set _ (.inl (by simp)))) (by simp; omega)) ((List.range ds.length).map fun (i : Nat) => D.int (i : Int)) [some (.ref p), some (.tup ds), some (.ref S.length), some (.ref (S.length + 1)), none] (S ++ [Ob.lst ds] ++ [Ob.lst []])
    ⟨ds, [], none, rfl, e1, e2, by simp, by simp, k0, h.keep (Keep.push S _ []) (by simp) |> fun z => by rw [List.append_assoc]; exact z⟩
  · obtain ⟨sp, fd, x, rfl, h1, h2, h3, h4, h5, h6⟩ := h'
    have sp0 : sp = [] := List.eq_nil_of_length_eq_zero (by simpa using h3)
    subst sp0
    refine ⟨S.length + 1, fd, S', ?_, h2, by simpa using h4, h5, h6, by omega⟩
    have r1 : -(4611686018427387904 : Int) ≤ (ds.length : Int) := by omega
    have r2 : (ds.length : Int) ≤ 16777216 := by omega
    have hr' := hr
    simp only [List.append_assoc, List.cons_append, List.nil_append] at hr'
    simp [F__law_wv_mixed, mkF, startE, LIM_val, rngD_nat, r1, r2, hr']
@[simp] theorem big_e60 : bigOk 1000000000000000000000000000000000000000000000000000000000000 = true := bigOk_small 256 (by decide) (by decide) (by decide)
@[simp] theorem pow60 : (10 : Int) ^ 60 = 1000000000000000000000000000000000000000000000000000000000000 := by decide
@[simp] theorem pow12 : (10 : Int) ^ 12 = 1000000000000 := by decide
theorem pool_ok {x : D} {S : Store} {ns : List Int} (hz : ns.length ≤ 1000000) (hl : fLen x S = .ok (.int ns.length) S) (hx : ∀ (i : Nat) (z : Int), ns[i]? = some z → oIx x (.int (i : Int)) S = .ok (.int z) S) :
    ∃ (p : Nat) (S' : Store), F__law_wv_pool [x] S = .ok (.ref p) S' ∧ Pool p S' ∧ Keep [] S S' ∧ S.length ≤ p := by
  obtain ⟨s', S', hr, h'⟩ := forL_run (c := []) (g := .nm 3) (b := (sSeq (sSet 4 (eOp oMax (eOp oIx (eV 0) (eV 3)) (eOp oSub (eUn uNeg (eC (.int 1))) (eOp oIx (eV 0) (eV 3)))))
    (sSeq (sSet 2 (eOp oMod (eOp oAdd (eOp oAdd (eOp oMul (eV 2) (eC (.int 48271))) (eOp oMod (eV 4) (eC (.int 2147483629)))) (eC (.int 11))) (eC (.int 2147483647))))
    (sSet 1 (eIf (tAnd (tE (eOp oGe (eV 4) (eOp oPow (eC (.int 10)) (eC (.int 12))))) (tE (eOp oLt (eV 1) (eOp oPow (eC (.int 10)) (eC (.int 60)))))) (eOp oAdd (eOp oMul (eV 1) (eOp oPow (eC (.int 10)) (eC (.int 60)))) (eOp oMod (eV 4) (eOp oPow (eC (.int 10)) (eC (.int 60))))) (eV 1))))))
    (fun rest s T => ∃ (i : Nat) (dg st : Int) (y z : Option D), rest = ((List.range ns.length).drop i).map (fun (j : Nat) => D.int (j : Int)) ∧ s = [some x, some (.int dg), some (.int st), y, z] ∧ T = S ∧ PoolI dg st)
    (fun _ _ _ _ => rfl) (by
      rintro d rest s T ⟨i, dg, st, y, z, hd, rfl, rfl, I⟩
      have hi : i < ns.length := by
        refine Decidable.byContradiction fun q => ?_
        rw [List.drop_of_length_le (by simp; omega)] at hd
        simp at hd
      have hdr : (List.range ns.length).drop i = i :: (List.range ns.length).drop (i + 1) := by
        rw [List.drop_eq_getElem_cons (by simpa using hi)]; simp
      rw [hdr, List.map_cons, List.cons.injEq] at hd
      obtain ⟨rfl, rfl⟩ := hd
      have hxi := hx i ns[i] (List.getElem?_eq_getElem hi)
      have i0 := I.d0; have i1 := I.s0; have i2 := I.s1
      have b1 := big31 i1 i2
      have m1 : ∀ a : Int, 0 ≤ a % 2147483647 := fun a => Int.emod_nonneg _ (by decide)
      have m2 : ∀ a : Int, a % 2147483647 < 2147483647 := fun a => Int.emod_lt_of_pos _ (by decide)
      generalize hc : (if -1 - ns[i] > ns[i] then -1 - ns[i] else ns[i]) = c
      have hc' : (if ns[i] < -1 - ns[i] then -1 - ns[i] else ns[i]) = c := hc
      by_cases hb : 1000000000000 ≤ c ∧ dg < 1000000000000000000000000000000000000000000000000000000000000
      · have bd : bigOk dg = true := bigOk_small 256 (by decide) (by decide) (by
          have h1 : dg.natAbs < 1000000000000000000000000000000000000000000000000000000000000 := by have := hb.2; omega
          exact Nat.lt_trans h1 (by decide))
        have m3 : 0 ≤ c % 1000000000000000000000000000000000000000000000000000000000000 := Int.emod_nonneg _ (by decide)
        refine ⟨_, _, _, rfl, .inl (?_ : _ = Rs.nx [some x, some (.int (dg * 1000000000000000000000000000000000000000000000000000000000000 + c % 1000000000000000000000000000000000000000000000000000000000000)), some (.int ((st * 48271 + c % 2147483629 + 11) % 2147483647)), some (.int (i : Int)), some (.int c)] T), i + 1, _, _, _, _, rfl, rfl, rfl, ⟨by omega, m1 _, m2 _⟩⟩
        simp [hxi, hc', b1, hb.1, hb.2, bd]
      · refine ⟨_, _, _, rfl, .inl (?_ : _ = Rs.nx [some x, some (.int dg), some (.int ((st * 48271 + c % 2147483629 + 11) % 2147483647)), some (.int (i : Int)), some (.int c)] T), i + 1, dg, _, _, _, rfl, rfl, rfl, ⟨i0, m1 _, m2 _⟩⟩
        by_cases h1 : 1000000000000 ≤ c
        · have h2 : ¬ dg < 1000000000000000000000000000000000000000000000000000000000000 := fun q => hb ⟨h1, q⟩
          simp [hxi, hc', b1, h1, h2]
        · simp [hxi, hc', b1, h1]) ((List.range ns.length).map fun (i : Nat) => D.int (i : Int)) [some x, some (.int 0), some (.int 7), none, none] S
    ⟨0, 0, 7, none, none, by simp, rfl, rfl, ⟨by decide, by decide, by decide⟩⟩
  obtain ⟨i, dg, st, y, z, _, rfl, rfl, I⟩ := h'
  refine ⟨S'.length, S' ++ [.lst [.int dg, .int st]], ?_, ⟨dg, st, get_last _ _, I⟩, Keep.push _ _ _, Nat.le_refl _⟩
  have r1 : -(4611686018427387904 : Int) ≤ (ns.length : Int) := by omega
  have r2 : (ns.length : Int) ≤ 16777216 := by omega
  simp [F__law_wv_pool, mkF, startE, LIM_val, hl, rngD_nat, r1, r2, hr]
end WkL

set_option Elab.async false
set_option linter.all false
set_option maxRecDepth 100000
set_option autoImplicit false
/-! PvSchema: the drawn schemas. -/
namespace WkL
open PySem (Str)
open Wk
structure Sch where
  h : Nat
  k : Nat
  fs : List (Nat × Nat)
def fD (f : Nat × Nat) : D := .tup [.int (f.1 : Int), .int (f.2 : Int)]
def Sch.d (c : Sch) : D := .tup [.int (c.h : Int), .int (c.k : Int), .tup (c.fs.map fD)]
structure Sch.Ok (c : Sch) : Prop where
  h1 : 1 ≤ c.h
  h6 : c.h ≤ 6
  hk : c.h ≤ c.k
  k24 : c.k ≤ 24
  f40 : c.fs.length ≤ 40
  fs : ∀ f ∈ c.fs, f.1 < c.k ∧ c.h ≤ f.2 ∧ f.2 < c.k
theorem fD_list {P : Nat × Nat → Prop} : ∀ {es : List D}, (∀ e ∈ es, ∃ f, P f ∧ e = fD f) → ∃ fs : List (Nat × Nat), es = fs.map fD ∧ ∀ f ∈ fs, P f
  | [], _ => ⟨[], rfl, by simp⟩
  | e :: es, h => by
    obtain ⟨f, hf, rfl⟩ := h e List.mem_cons_self
    obtain ⟨fs, rfl, h2⟩ := fD_list (es := es) fun x hx => h x (List.mem_cons_of_mem _ hx)
    exact ⟨f :: fs, rfl, fun g hg => (List.mem_cons.mp hg).elim (fun q => q ▸ hf) (h2 g)⟩
theorem keep2 {p a b : Nat} {S T : Store} (h : Keep [p] S T) (ha : S.length ≤ a) (hb : S.length ≤ b) (o u : Ob) : Keep [p] S ((T.set a o).set b u) :=
  h.new (Y := [a, b]) ((Keep.set _ (.inl (by simp))).trans (Keep.set _ (.inl (by simp)))) (by intro i hi; simp at hi; omega)
theorem keep1 {p a : Nat} {S T : Store} (h : Keep [p] S T) (ha : S.length ≤ a) (o : Ob) : Keep [p] S (T.set a o) :=
  h.new (Y := [a]) (Keep.set _ (.inl (by simp))) (by intro i hi; simp at hi; omega)
theorem Pool.set {p a : Nat} {T : Store} {o : Ob} (h : Pool p T) (n : a ≠ p) : Pool p (T.set a o) := h.keep (X := [a]) (Keep.set _ (.inl (by simp))) (by simp; omega)
theorem Pool.push {p : Nat} {T X : Store} (h : Pool p T) : Pool p (T ++ X) := h.keep (Keep.push T X []) (by simp)
theorem Pool.lt {p : Nat} {T : Store} (h : Pool p T) : p < T.length := by obtain ⟨_, _, e, _⟩ := h; exact lt_of_get e
def isNat (n : Nat) (d : D) : Prop := ∃ a : Nat, a < n ∧ d = .int (a : Int)
theorem isNat_flat {n : Nat} {ds : List D} (h : ∀ d ∈ ds, isNat n d) : ds.all flatD = true := by
  rw [List.all_eq_true]
  intro d hd
  obtain ⟨a, _, rfl⟩ := h d hd
  rfl
/-- the loop that draws the fields -/
theorem fields_loop {p m f hh kk : Nat} {S : Store} (h1 : 1 ≤ hh) (hk : hh < kk) (k24 : kk ≤ 24) (hm : S.length ≤ m) (hf : S.length ≤ f) (hmf : m ≠ f) (hp : p < S.length) :
    ∀ (ds : List D) (s : Env) (T : Store), ds.length ≤ 100 →
      (∃ (met fd : List D) (x y z : Option D), s = [some (.ref p), some (.int (hh : Int)), some (.int (kk : Int)), some (.ref m), some (.ref f), x, y, z] ∧ T[m]? = some (.lst met) ∧ T[f]? = some (.lst fd) ∧ 0 < met.length ∧ met.length + ds.length ≤ 200 ∧ (∀ d ∈ met, isNat kk d) ∧
        (∀ d ∈ fd, ∃ q : Nat × Nat, (q.1 < kk ∧ hh ≤ q.2 ∧ q.2 < kk) ∧ d = fD q) ∧ fd.length + ds.length ≤ 40 ∧ Keep [p] S T ∧ Pool p T) →
      ∃ s' T', forL [] (.nm 5) (sSeq (sSet 6 (eIf (tE (eOp oGt (eCall F__law_wv_take (aCons (eV 0) (aCons (eC (.int 5)) aNil))) (eC (.int 0)))) (eCall F__law_wv_one (aCons (eV 0) (aCons (eV 3) aNil))) (eCall F__law_wv_take (aCons (eV 0) (aCons (eV 2) aNil)))))
    (sSeq (sSet 7 (eOp oAdd (eV 1) (eCall F__law_wv_take (aCons (eV 0) (aCons (eOp oSub (eV 2) (eV 1)) aNil)))))
    (sSeq (sExpr (eBM oAppend (eV 4) (eTup (aCons (eV 6) (aCons (eV 7) aNil)))))
    (sExpr (eBM oExtend (eV 3) (eIf (tE (eOp oInS (eV 6) (eV 3))) (eLst (aCons (eV 7) aNil)) (eLst aNil))))))) ds s T = .nx s' T' ∧
      ∃ (fd : List D) (x y z : Option D), s' = [some (.ref p), some (.int (hh : Int)), some (.int (kk : Int)), some (.ref m), some (.ref f), x, y, z] ∧ T'[f]? = some (.lst fd) ∧ (∀ d ∈ fd, ∃ q : Nat × Nat, (q.1 < kk ∧ hh ≤ q.2 ∧ q.2 < kk) ∧ d = fD q) ∧ fd.length ≤ 40 ∧ Keep [p] S T' ∧ Pool p T' := by
  intro ds s T hz h
  obtain ⟨s', T', e, h'⟩ := forL_run (c := []) (g := .nm 5) (b := (sSeq (sSet 6 (eIf (tE (eOp oGt (eCall F__law_wv_take (aCons (eV 0) (aCons (eC (.int 5)) aNil))) (eC (.int 0)))) (eCall F__law_wv_one (aCons (eV 0) (aCons (eV 3) aNil))) (eCall F__law_wv_take (aCons (eV 0) (aCons (eV 2) aNil)))))
    (sSeq (sSet 7 (eOp oAdd (eV 1) (eCall F__law_wv_take (aCons (eV 0) (aCons (eOp oSub (eV 2) (eV 1)) aNil)))))
    (sSeq (sExpr (eBM oAppend (eV 4) (eTup (aCons (eV 6) (aCons (eV 7) aNil)))))
    (sExpr (eBM oExtend (eV 3) (eIf (tE (eOp oInS (eV 6) (eV 3))) (eLst (aCons (eV 7) aNil)) (eLst aNil))))))))
    (fun ds s T => ∃ (met fd : List D) (x y z : Option D), s = [some (.ref p), some (.int (hh : Int)), some (.int (kk : Int)), some (.ref m), some (.ref f), x, y, z] ∧ T[m]? = some (.lst met) ∧ T[f]? = some (.lst fd) ∧ 0 < met.length ∧ met.length + ds.length ≤ 200 ∧ (∀ d ∈ met, isNat kk d) ∧
        (∀ d ∈ fd, ∃ q : Nat × Nat, (q.1 < kk ∧ hh ≤ q.2 ∧ q.2 < kk) ∧ d = fD q) ∧ fd.length + ds.length ≤ 40 ∧ Keep [p] S T ∧ Pool p T) (fun _ _ _ _ => rfl) (by
      rintro d rest s T ⟨met, fd, x, y, z, rfl, em, ef, hm0, hml, hmet, hfd, hfl, kST, hP⟩
      simp only [List.length_cons] at hml hfl
      have nm : m ≠ p := by omega
      have nf : f ≠ p := by omega
      obtain ⟨k5, T1, e1, k50, k51, K1, P1, L1⟩ := take_ok (many := 5) hP (by decide) (by decide)
      have em1 := K1.get em (by simpa using nm)
      have ef1 := K1.get ef (by simpa using nf)
      -- the holder
      have hold : ∃ (a : Nat) (T2 : Store), a < kk ∧ (if 0 < k5 then F__law_wv_one [.ref p, .ref m] T1 else F__law_wv_take [.ref p, .int (kk : Int)] T1) = .ok (.int (a : Int)) T2 ∧ Keep [p] T1 T2 ∧ Pool p T2 := by
        by_cases hk5 : 0 < k5
        · rw [if_pos hk5]
          obtain ⟨d, T2, e2, hd, K2, P2, _⟩ := one_ok P1 em1 nm hm0 (by omega)
          obtain ⟨a, ha, rfl⟩ := hmet d hd
          exact ⟨a, T2, ha, e2, K2, P2⟩
        · rw [if_neg hk5]
          obtain ⟨a, T2, e2, a0, a1, K2, P2, _⟩ := take_ok (many := (kk : Int)) P1 (by omega) (by omega)
          obtain ⟨a, rfl⟩ := Int.eq_ofNat_of_zero_le a0
          exact ⟨a, T2, by omega, e2, K2, P2⟩
      obtain ⟨a, T2, ha, e2, K2, P2⟩ := hold
      have em2 := K2.get em1 (by simpa using nm)
      have ef2 := K2.get ef1 (by simpa using nf)
      obtain ⟨b, T3, e3, b0, b1, K3, P3, L3⟩ := take_ok (many := (kk : Int) - (hh : Int)) P2 (by omega) (by omega)
      obtain ⟨b, rfl⟩ := Int.eq_ofNat_of_zero_le b0
      have em3 := K3.get em2 (by simpa using nm)
      have ef3 := K3.get ef2 (by simpa using nf)
      have K := ((kST.trans K1).trans K2).trans K3
      have il := isLst_lst ef3
      have ap := oAppend_lst (y := .tup [.int (a : Int), .int ((hh : Int) + (b : Int))]) ef3 (by rw [LIM_val]; omega)
      generalize hT4 : T3.set f (.lst (fd ++ [.tup [.int (a : Int), .int ((hh : Int) + (b : Int))]])) = T4 at ap
      have em4 : T4[m]? = some (.lst met) := by rw [← hT4, List.getElem?_set_ne (Ne.symm hmf)]; exact em3
      have ef4 : T4[f]? = some (.lst (fd ++ [.tup [.int (a : Int), .int ((hh : Int) + (b : Int))]])) := by rw [← hT4]; exact get_set_self ef3
      have K4 : Keep [p] S T4 := by rw [← hT4]; exact keep1 K hf _
      have P4 : Pool p T4 := by rw [← hT4]; exact P3.set nf
      have il4 := isLst_lst em4
      have inS : oInS (.int (a : Int)) (.ref m) T4 = .ok (.bl (inF (.int (a : Int)) met)) T4 := by
        unfold oInS oInL; dsimp only; rw [em4]; dsimp only; rw [isNat_flat hmet]; rfl
      have hfd' : ∀ d ∈ fd ++ [D.tup [.int (a : Int), .int ((hh : Int) + (b : Int))]], ∃ q : Nat × Nat, (q.1 < kk ∧ hh ≤ q.2 ∧ q.2 < kk) ∧ d = fD q := by
        intro d hd
        rcases List.mem_append.mp hd with q | q
        · exact hfd d q
        · have : d = .tup [.int (a : Int), .int ((hh : Int) + (b : Int))] := by simpa using q
          subst this
          exact ⟨(a, hh + b), ⟨ha, by show hh ≤ hh + b; omega, by show hh + b < kk; omega⟩, by simp [fD]⟩
      have l4 := lt_of_get em4
      have lf4 := lt_of_get ef4
      cases hin : inF (.int (a : Int)) met with
      | true =>
        have g4 : (T4 ++ [Ob.lst [.int ((hh : Int) + (b : Int))]])[m]? = some (.lst met) := by rw [List.getElem?_append_left l4]; exact em4
        have ex := oExtend_lst g4 (get_last T4 _) (by simp [LIM_val]; omega)
        refine ⟨_, _, _, rfl, .inl (?_ : _ = Rs.nx [some (.ref p), some (.int (hh : Int)), some (.int (kk : Int)), some (.ref m), some (.ref f), some d, some (.int (a : Int)), some (.int ((hh : Int) + (b : Int)))] ((T4 ++ [Ob.lst [.int ((hh : Int) + (b : Int))]]).set m (.lst (met ++ [.int ((hh : Int) + (b : Int))])))),
          met ++ [.int ((hh : Int) + (b : Int))], _, _, _, _, rfl, get_set_self g4, ?_, ?_, ?_, ?_, hfd', ?_, ?_, ?_⟩
        · simp [e1, e2, e3, il, ap, LIM_val, il4, inS, hin, ex]
        · rw [List.getElem?_set_ne hmf, List.getElem?_append_left lf4]; exact ef4
        · simp
        · simp; omega
        · intro d hd
          rcases List.mem_append.mp hd with q | q
          · exact hmet d q
          · have : d = .int ((hh : Int) + (b : Int)) := by simpa using q
            subst this
            exact ⟨hh + b, by omega, by simp⟩
        · simp; omega
        · exact keep1 (K4.trans (Keep.push T4 _ _)) hm _
        · exact (P4.push).set nm
      | false =>
        have g4 : (T4 ++ [Ob.lst []])[m]? = some (.lst met) := by rw [List.getElem?_append_left l4]; exact em4
        have ex := oExtend_lst g4 (get_last T4 (.lst [])) (by simp [LIM_val]; omega)
        refine ⟨_, _, _, rfl, .inl (?_ : _ = Rs.nx [some (.ref p), some (.int (hh : Int)), some (.int (kk : Int)), some (.ref m), some (.ref f), some d, some (.int (a : Int)), some (.int ((hh : Int) + (b : Int)))] ((T4 ++ [Ob.lst []]).set m (.lst (met ++ [])))),
          met ++ [], _, _, _, _, rfl, get_set_self g4, ?_, ?_, ?_, ?_, hfd', ?_, ?_, ?_⟩
        · simp [e1, e2, e3, il, ap, LIM_val, il4, inS, hin] at ex ⊢
          rw [ex]; rfl
        · rw [List.getElem?_set_ne hmf, List.getElem?_append_left lf4]; exact ef4
        · simpa using hm0
        · simp; omega
        · simpa using hmet
        · simp; omega
        · exact keep1 (K4.trans (Keep.push T4 _ _)) hm _
        · exact (P4.push).set nm) ds s T h
  obtain ⟨met, fd, x, y, z, rfl, _, ef, _, _, _, hfd, hl, hK, hP⟩ := h'
  exact ⟨_, T', e, fd, x, y, z, rfl, ef, hfd, by simpa using hl, hK, hP⟩
@[simp] theorem log2_3 : Nat.log2 3 = 1 := by decide
theorem rng_isNat {n m : Nat} (h : n ≤ m) : ∀ d ∈ rngD 0 (n : Int), isNat m d := by
  intro d hd
  rw [rngD_nat] at hd
  obtain ⟨i, hi, rfl⟩ := List.mem_map.mp hd
  exact ⟨i, by have := List.mem_range.mp hi; omega, rfl⟩
theorem rngD_len (n : Nat) : (rngD 0 (n : Int)).length = n := by rw [rngD_nat]; simp
theorem perm_fD {P : Nat × Nat → Prop} {es fd : List D} (h : es.Perm fd) (hf : ∀ d ∈ fd, ∃ q, P q ∧ d = fD q) : ∃ fs : List (Nat × Nat), es = fs.map fD ∧ (∀ f ∈ fs, P f) ∧ fs.length = fd.length := by
  obtain ⟨fs, e, h2⟩ := fD_list (P := P) (es := es) fun e he => hf e (h.mem_iff.mp he)
  exact ⟨fs, e, h2, by rw [← h.length_eq, e, List.length_map]⟩
theorem schema_ok {p : Nat} {S : Store} (h : Pool p S) : ∃ (c : Sch) (S' : Store), F__law_wv_schema [.ref p] S = .ok c.d S' ∧ c.Ok ∧ Keep [p] S S' ∧ Pool p S' := by
  have hp := h.lt
  obtain ⟨k1, T1, e1, a0, a1, K1, P1, L1⟩ := take_ok (many := 4) h (by decide) (by decide)
  obtain ⟨k2, T2, e2, b0, b1, K2, P2, L2⟩ := take_ok (many := 4) P1 (by decide) (by decide)
  obtain ⟨hh, hhe⟩ := Int.eq_ofNat_of_zero_le (show 0 ≤ 1 + k1 / 3 by omega)
  obtain ⟨kk, kke⟩ := Int.eq_ofNat_of_zero_le (show 0 ≤ 1 + k1 / 3 + 1 + k2 by omega)
  have h1 : 1 ≤ hh := by omega
  have h2 : hh ≤ 2 := by omega
  have hk : hh < kk := by omega
  have k6 : kk ≤ 6 := by omega
  -- met, found, the list of how many
  generalize hl : ([.int 1, .int 2, .int 2, .int 3, .int 3, .int 4, .int 4, .int 5, .int 5, .int 6, .int 7, .int 0] : List D) = L
  have hLl : L.length = 12 := by rw [← hl]; rfl
  have hL : ∀ d ∈ L, isNat 8 d := by
    rw [← hl]
    intro d hd
    simp only [List.mem_cons, List.not_mem_nil, or_false] at hd
    rcases hd with rfl | rfl | rfl | rfl | rfl | rfl | rfl | rfl | rfl | rfl | rfl | rfl
    · exact ⟨1, by decide, rfl⟩
    · exact ⟨2, by decide, rfl⟩
    · exact ⟨2, by decide, rfl⟩
    · exact ⟨3, by decide, rfl⟩
    · exact ⟨3, by decide, rfl⟩
    · exact ⟨4, by decide, rfl⟩
    · exact ⟨4, by decide, rfl⟩
    · exact ⟨5, by decide, rfl⟩
    · exact ⟨5, by decide, rfl⟩
    · exact ⟨6, by decide, rfl⟩
    · exact ⟨7, by decide, rfl⟩
    · exact ⟨0, by decide, rfl⟩
  generalize hT3 : T2 ++ [Ob.lst (rngD 0 (hh : Int)), Ob.lst [], Ob.lst L] = T3
  have K3 : Keep [p] S T3 := by rw [← hT3]; exact (K1.trans K2).trans (Keep.push _ _ _)
  have P3 : Pool p T3 := by rw [← hT3]; exact P2.push
  have g0 : T3[T2.length]? = some (.lst (rngD 0 (hh : Int))) := by rw [← hT3]; simp
  have g1 : T3[T2.length + 1]? = some (.lst []) := by rw [← hT3]; simp
  have g2 : T3[T2.length + 2]? = some (.lst L) := by rw [← hT3]; simp
  have z1 : S.length ≤ T2.length := (K1.trans K2).1
  obtain ⟨d, T4, e4, hd, K4, P4, L4⟩ := one_ok P3 g2 (by omega) (by omega) (by omega)
  obtain ⟨n, hn, rfl⟩ := hL d hd
  have g0' := K4.get g0 (by simp; omega)
  have g1' := K4.get g1 (by simp; omega)
  obtain ⟨s', T5, e5, fd, x, y, z, rfl, ef, hfd, hfl, K5, P5⟩ := fields_loop (S := S) h1 hk (by omega) z1 (by omega) (by omega) hp ((List.range n).map fun (i : Nat) => D.int (i : Int)) [some (.ref p), some (.int (hh : Int)), some (.int (kk : Int)), some (.ref T2.length), some (.ref (T2.length + 1)), none, none, none] T4 (by simp; omega)
    ⟨rngD 0 (hh : Int), [], none, none, none, rfl, g0', g1', by rw [rngD_len]; omega, by rw [rngD_len]; simp; omega, rng_isNat (by omega), by simp, by simp; omega, K3.trans K4, P4⟩
  rw [← rngD_nat] at e5
  have kke' : (hh : Int) + 1 + k2 = (kk : Int) := by omega
  obtain ⟨m, es, T6, e6, em, hpm, K6, P6, _⟩ := mixed_ok P5 ef (by omega) (by omega)
  obtain ⟨fs, rfl, hfs, hfsl⟩ := perm_fD hpm hfd
  refine ⟨⟨hh, kk, fs⟩, T6, ?_, ⟨h1, by show hh ≤ 6; omega, by show hh ≤ kk; omega, by show kk ≤ 24; omega, by show fs.length ≤ 40; omega, hfs⟩, K5.trans K6, P6⟩
  have hT3' : T2 ++ [Ob.lst (rngD 0 (hh : Int))] ++ [Ob.lst []] ++ [Ob.lst L] = T3 := by rw [← hT3]; simp
  have r1 : -(4611686018427387904 : Int) ≤ (hh : Int) := by omega
  have r2 : (hh : Int) ≤ 16777216 := by omega
  have r3 : -(4611686018427387904 : Int) ≤ (n : Int) := by omega
  have r4 : (n : Int) ≤ 16777216 := by omega
  simp [F__law_wv_schema, mkF, startE, e1, e2, hhe, kke', LIM_val, r1, r2, hl, hLl, hT3, e4, r3, r4, e5, e6, fTuple_lst em, Sch.d]
/-- pairs drawn in a comprehension -/
theorem drawn_pairs {p hh : Nat} {many : FE} {m : Int} {S : Store} {x y : Option D} (h1 : 1 ≤ hh) (h6 : hh ≤ 6) (m0 : 0 < m) (m24 : m ≤ 24) (hmany : ∀ (z : Option D) (T : Store), many [some (.ref p), some (.int (hh : Int)), x, z] T = .ok (.int m) T) (n : Nat) (T : Store) (hk : Keep [p] S T) (hP : Pool p T) :
    ∃ ys T', compL [] (.nm 3) tTrue (eTup (aCons (eCall F__law_wv_take (aCons (eV 0) (aCons many aNil))) (aCons (eOp oAdd (eV 1) (eCall F__law_wv_take (aCons (eV 0) (aCons (eOp oSub (eC (.int 24)) (eV 1)) aNil)))) aNil))) [some (.ref p), some (.int (hh : Int)), x, y] (rngD 0 (n : Int)) T = .ok ys T' ∧
      (∀ d ∈ ys, ∃ q : Nat × Nat, (q.1 < 24 ∧ hh ≤ q.2 ∧ q.2 < 24) ∧ d = fD q) ∧ ys.length = n ∧ Keep [p] S T' ∧ Pool p T' := by
  obtain ⟨ys, T', e, h⟩ := compL_run (c := []) (g := .nm 3) (t := tTrue) (e := eTup (aCons (eCall F__law_wv_take (aCons (eV 0) (aCons many aNil))) (aCons (eOp oAdd (eV 1) (eCall F__law_wv_take (aCons (eV 0) (aCons (eOp oSub (eC (.int 24)) (eV 1)) aNil)))) aNil))) (sw := [some (.ref p), some (.int (hh : Int)), x, y])
    (fun ds acc T => (∀ d ∈ acc, ∃ q : Nat × Nat, (q.1 < 24 ∧ hh ≤ q.2 ∧ q.2 < 24) ∧ d = fD q) ∧ acc.length + ds.length = n ∧ Keep [p] S T ∧ Pool p T) (fun _ _ _ _ => rfl) (by
      rintro d ds acc T ⟨i1, i2, i3, i4⟩
      obtain ⟨a, T1, e1, a0, a1, K1, P1, L1⟩ := take_ok (many := m) i4 m0 (by omega)
      obtain ⟨b, T2, e2, b0, b1, K2, P2, L2⟩ := take_ok (many := 24 - (hh : Int)) P1 (by omega) (by omega)
      obtain ⟨a, rfl⟩ := Int.eq_ofNat_of_zero_le a0
      obtain ⟨b, rfl⟩ := Int.eq_ofNat_of_zero_le b0
      refine ⟨_, T, rfl, .inr ⟨.tup [.int (a : Int), .int ((hh : Int) + (b : Int))], T2, rfl, by simp [hmany, e1, e2, LIM_val], ?_, ?_, (i3.trans K1).trans K2, P2⟩⟩
      · intro z hz
        rcases List.mem_append.mp hz with q | q
        · exact i1 z q
        · have : z = .tup [.int (a : Int), .int ((hh : Int) + (b : Int))] := by simpa using q
          subst this
          exact ⟨(a, hh + b), ⟨by show a < 24; omega, by show hh ≤ hh + b; omega, by show hh + b < 24; omega⟩, by simp [fD]⟩
      · simp at i2 ⊢; omega) (rngD 0 (n : Int)) [] T ⟨by simp, by rw [rngD_len]; simp, hk, hP⟩
  obtain ⟨i1, i2, i3, i4⟩ := h
  exact ⟨ys, T', e, by simpa using i1, by simpa using i2, i3, i4⟩
theorem great_ok {p : Nat} {S : Store} (h : Pool p S) : ∃ (c : Sch) (S' : Store), F__law_wv_great_schema [.ref p] S = .ok c.d S' ∧ c.Ok ∧ Keep [p] S S' ∧ Pool p S' := by
  have hp := h.lt
  obtain ⟨k1, T1, e1, a0, a1, K1, P1, L1⟩ := take_ok (many := 6) h (by decide) (by decide)
  obtain ⟨hh, hhe⟩ := Int.eq_ofNat_of_zero_le (show 0 ≤ 1 + k1 by omega)
  have h1 : 1 ≤ hh := by omega
  have h6 : hh ≤ 6 := by omega
  obtain ⟨ys, T2, e2, y1, y2, K2, P2⟩ := drawn_pairs (p := p) (hh := hh) (many := eV 1) (m := (hh : Int)) (x := none) (y := none) h1 h6 (by omega) (by omega) (fun _ _ => rfl) 8 T1 K1 P1
  have z2 := K2.1
  have K3 : Keep [p] S (T2 ++ [.lst ys]) := K2.trans (Keep.push _ _ _)
  obtain ⟨zs, T4, e4, w1, w2, K4, P4⟩ := drawn_pairs (p := p) (hh := hh) (many := eC (.int 24)) (m := 24) (x := some (.ref T2.length)) (y := none) h1 h6 (by decide) (by decide) (fun _ _ => rfl) 32 (T2 ++ [.lst ys]) K3 P2.push
  have e4' := e4
  have k4 : Keep [p] (T2 ++ [.lst ys]) T4 := by
    obtain ⟨zs', T4', e4'', _, _, K4', _⟩ := drawn_pairs (S := T2 ++ [.lst ys]) (p := p) (hh := hh) (many := eC (.int 24)) (m := 24) (x := some (.ref T2.length)) (y := none) h1 h6 (by decide) (by decide) (fun _ _ => rfl) 32 (T2 ++ [.lst ys]) (Keep.refl _ _) P2.push
    rw [e4] at e4''
    cases e4''
    exact K4'
  have np : T2.length ≠ p := by omega
  have g0 : (T2 ++ [.lst ys])[T2.length]? = some (.lst ys) := get_last _ _
  have g4 := k4.get g0 (by simpa using np)
  have l4 := lt_of_get g4
  have g5 : (T4 ++ [.lst zs])[T2.length]? = some (.lst ys) := by rw [List.getElem?_append_left l4]; exact g4
  have ex := oExtend_lst g5 (get_last T4 (.lst zs)) (by rw [LIM_val]; omega)
  generalize hT5 : (T4 ++ [Ob.lst zs]).set T2.length (Ob.lst (ys ++ zs)) = T5 at ex
  have g6 : T5[T2.length]? = some (.lst (ys ++ zs)) := by rw [← hT5]; exact get_set_self g5
  have K5 : Keep [p] S T5 := by rw [← hT5]; exact keep1 (K4.trans (Keep.push _ _ _)) z2 _
  have P5 : Pool p T5 := by rw [← hT5]; exact P4.push.set np
  obtain ⟨m, es, T6, e6, em, hpm, K6, P6, _⟩ := mixed_ok P5 g6 np (by simp; omega)
  obtain ⟨fs, rfl, hfs, hfsl⟩ := perm_fD (P := fun q => q.1 < 24 ∧ hh ≤ q.2 ∧ q.2 < 24) hpm (by
    intro d hd
    rcases List.mem_append.mp hd with q | q
    · exact y1 d q
    · exact w1 d q)
  rw [List.length_append] at hfsl
  refine ⟨⟨hh, 24, fs⟩, T6, ?_, ⟨h1, h6, by show hh ≤ 24; omega, Nat.le_refl _, by show fs.length ≤ 40; omega, hfs⟩, K5.trans K6, P6⟩
  have i0 := isLst_lst g0
  have e2' : compL [] (.nm 3) tTrue (eTup (aCons (eCall F__law_wv_take (aCons (eV 0) (aCons (eV 1) aNil))) (aCons (eOp oAdd (eV 1) (eCall F__law_wv_take (aCons (eV 0) (aCons (eOp oSub (eC (.int 24)) (eV 1)) aNil)))) aNil))) [some (.ref p), some (.int (hh : Int)), none, none] (rngD 0 8) T1 = .ok ys T2 := e2
  have e4'' : compL [] (.nm 3) tTrue (eTup (aCons (eCall F__law_wv_take (aCons (eV 0) (aCons (eC (.int 24)) aNil))) (aCons (eOp oAdd (eV 1) (eCall F__law_wv_take (aCons (eV 0) (aCons (eOp oSub (eC (.int 24)) (eV 1)) aNil)))) aNil))) [some (.ref p), some (.int (hh : Int)), some (.ref T2.length), none] (rngD 0 32) (T2 ++ [.lst ys]) = .ok zs T4 := e4
  simp [F__law_wv_great_schema, mkF, startE, e1, hhe, LIM_val, e2', e4'', i0, ex, e6, fTuple_lst em, Sch.d]
end WkL


set_option Elab.async false
set_option linter.all false
set_option maxRecDepth 100000
set_option maxHeartbeats 1000000
set_option autoImplicit false
/-! PvSame: _law_same tells True of equal data. -/
namespace WkL
open PySem (Str)
open Wk
/-- equal data, lists by the store, to a depth -/
def SameN (S : Store) : Nat → D → D → Prop
  | _, .non, .non => True
  | _, .bl a, .bl b => a = b
  | _, .int a, .int b => a = b
  | _, .str a, .str b => a = b
  | n + 1, .tup xs, .tup ys => xs.length = ys.length ∧ xs.length ≤ 1000000 ∧ ∀ (i : Nat) (a b : D), xs[i]? = some a → ys[i]? = some b → SameN S n a b
  | n + 1, .ref l, .ref m => ∃ xs ys, S[l]? = some (.lst xs) ∧ S[m]? = some (.lst ys) ∧ xs.length = ys.length ∧ xs.length ≤ 1000000 ∧ ∀ (i : Nat) (a b : D), xs[i]? = some a → ys[i]? = some b → SameN S n a b
  | _, _, _ => False
@[simp] theorem oIsB_bl (a b : Bool) (S : Store) : oIsB (.bl a) (.bl b) S = .ok (.bl (decide (a = b))) S := rfl
@[simp] theorem oEq_bl (a b : Bool) (S : Store) : oEq (.bl a) (.bl b) S = .ok (.bl (a == b)) S := rfl
@[simp] theorem oEq_str (a b : Str) (S : Store) : oEq (.str a) (.str b) S = .ok (.bl (a == b)) S := rfl
@[simp] theorem is_whole_int (i : Int) (S : Store) : F__law_is_whole [.int i] S = .ok (.bl true) S := by simp [F__law_is_whole, mkF, startE, isTy]
/-- the loop over the items -/
theorem same_loop {F : Fn} {x y : D} {xs ys : List D} {S : Store} {z : Option D} (hx : ∀ (i : Nat) (a : D), xs[i]? = some a → oIx x (.int (i : Int)) S = .ok a S) (hy : ∀ (i : Nat) (a : D), ys[i]? = some a → oIx y (.int (i : Int)) S = .ok a S) (hl : xs.length = ys.length)
    (h : ∀ (i : Nat) (a b : D), xs[i]? = some a → ys[i]? = some b → F [a, b] S = .ok (.bl true) S) :
    ∃ s' , forL [] (.nm 2) (sIf (Wk.tNot (tE (eCall F (aCons (eOp oIx (eV 0) (eV 2)) (aCons (eOp oIx (eV 1) (eV 2)) aNil))))) (sRet (eC (.bl false))) sSkip) (rngD 0 (ys.length : Int)) [some x, some y, z, none] S = .nx s' S := by
  obtain ⟨s', S', e, w, _, rfl⟩ := forL_run (c := []) (g := .nm 2) (b := sIf (Wk.tNot (tE (eCall F (aCons (eOp oIx (eV 0) (eV 2)) (aCons (eOp oIx (eV 1) (eV 2)) aNil))))) (sRet (eC (.bl false))) sSkip)
    (fun rest s T => (∃ (i : Nat) (w : Option D), rest = ((List.range ys.length).drop i).map (fun (j : Nat) => D.int (j : Int)) ∧ s = [some x, some y, w, none]) ∧ T = S) (fun _ _ _ _ => rfl) (by
      rintro d rest s T ⟨⟨i, w, hd, rfl⟩, rfl⟩
      have hi : i < ys.length := by
        refine Decidable.byContradiction fun q => ?_
        rw [List.drop_of_length_le (by simp; omega)] at hd
        simp at hd
      have hdr : (List.range ys.length).drop i = i :: (List.range ys.length).drop (i + 1) := by
        rw [List.drop_eq_getElem_cons (by simpa using hi)]; simp
      rw [hdr, List.map_cons, List.cons.injEq] at hd
      obtain ⟨rfl, rfl⟩ := hd
      have gx : xs[i]? = some xs[i] := List.getElem?_eq_getElem (by omega)
      have gy : ys[i]? = some ys[i] := List.getElem?_eq_getElem hi
      refine ⟨_, _, T, rfl, .inl (?_ : _ = Rs.nx [some x, some y, some (.int (i : Int)), none] T), ⟨i + 1, _, rfl, rfl⟩, rfl⟩
      simp [hx i _ gx, hy i _ gy, h i _ _ gx gy]) (rngD 0 (ys.length : Int)) [some x, some y, z, none] S ⟨⟨0, z, by rw [rngD_nat]; simp, rfl⟩, rfl⟩
  exact ⟨s', e⟩
theorem same_ok {S : Store} : ∀ (n m : Nat) (x y : D), n < m → SameN S n x y → R__law_same m [x, y] S = .ok (.bl true) S
  | n, 0, _, _, h, _ => absurd h (Nat.not_lt_zero _)
  | n, m + 1, x, y, hm, h => by
    cases x with
    | non => cases y <;> first | (cases n <;> exact (show False from h).elim) | skip
             simp [R__law_same, mkF, startE]
    | bl a => cases y <;> first | (cases n <;> exact (show False from h).elim) | skip
              rename_i b
              obtain rfl : a = b := by cases n <;> exact h
              cases a <;> simp [R__law_same, mkF, startE, isTy]
    | int a => cases y <;> first | (cases n <;> exact (show False from h).elim) | skip
               rename_i b
               obtain rfl : a = b := by cases n <;> exact h
               simp [R__law_same, mkF, startE, isTy]
    | str a => cases y <;> first | (cases n <;> exact (show False from h).elim) | skip
               rename_i b
               obtain rfl : a = b := by cases n <;> exact h
               simp [R__law_same, mkF, startE, isTy]
    | tup xs =>
      cases y <;> first | (cases n <;> exact (show False from h).elim) | skip
      rename_i ys
      cases n with
      | zero => exact (show False from h).elim
      | succ n =>
        obtain ⟨hl, hz, hs⟩ := h
        obtain ⟨s', e⟩ := same_loop (F := R__law_same m) (x := .tup xs) (y := .tup ys) (xs := xs) (ys := ys) (S := S) (z := none) (fun i a ha => by simp [ha]) (fun i a ha => by simp [ha]) hl fun i a b ha hb => same_ok n m a b (by omega) (hs i a b ha hb)
        have r1 : -(4611686018427387904 : Int) ≤ (ys.length : Int) := by omega
        have r2 : (ys.length : Int) ≤ 16777216 := by omega
        simp [R__law_same, mkF, startE, isTy, hl, r1, r2, e]
    | frz xs => cases y <;> cases n <;> exact (show False from h).elim
    | ref l =>
      cases y <;> first | (cases n <;> exact (show False from h).elim) | skip
      rename_i l2
      cases n with
      | zero => exact (show False from h).elim
      | succ n =>
        obtain ⟨xs, ys, g1, g2, hl, hz, hs⟩ := h
        obtain ⟨s', e⟩ := same_loop (F := R__law_same m) (x := .ref l) (y := .ref l2) (xs := xs) (ys := ys) (S := S) (z := none) (fun i a ha => by simp [ha, g1]) (fun i a ha => by simp [ha, g2]) hl fun i a b ha hb => same_ok n m a b (by omega) (hs i a b ha hb)
        have r1 : -(4611686018427387904 : Int) ≤ (ys.length : Int) := by omega
        have r2 : (ys.length : Int) ≤ 16777216 := by omega
        simp [R__law_same, mkF, startE, isTy, tyD_lst g1, tyD_lst g2, fLen_lst g1, fLen_lst g2, hl, r1, r2, e]
theorem same_true {S : Store} {x y : D} (n : Nat) (hn : n < 12) (h : SameN S n x y) : F__law_same [x, y] S = .ok (.bl true) S := same_ok n 12 x y hn h
/-- a thing is the same as itself, where its lists stand -/
def Plain : Nat → D → Prop
  | _, .non => True
  | _, .bl _ => True
  | _, .int _ => True
  | _, .str _ => True
  | n + 1, .tup xs => xs.length ≤ 1000000 ∧ ∀ x ∈ xs, Plain n x
  | _, _ => False
theorem same_refl {S : Store} : ∀ (n : Nat) (x : D), Plain n x → SameN S n x x
  | n, .non, _ => by cases n <;> exact True.intro
  | n, .bl _, _ => by cases n <;> exact rfl
  | n, .int _, _ => by cases n <;> exact rfl
  | n, .str _, _ => by cases n <;> exact rfl
  | 0, .tup xs, h => (show False from h).elim
  | n + 1, .tup xs, h => ⟨rfl, h.1, fun i a b ha hb => by
      rw [ha] at hb; cases hb
      exact same_refl n a (h.2 a (List.mem_of_getElem? ha))⟩
  | n, .frz xs, h => by cases n <;> exact (show False from h).elim
  | n, .ref l, h => by cases n <;> exact (show False from h).elim
end WkL


set_option Elab.async false
set_option linter.all false
set_option maxRecDepth 100000
set_option maxHeartbeats 1000000
set_option autoImplicit false
/-! PvForms: forms, made_schema, asked_kind, held_by. -/
namespace WkL
open PySem (Str)
open Wk
@[simp] theorem is_row_tup (xs : List D) (n : Int) (S : Store) : F_is_row [.tup xs, .int n] S = .ok (.bl ((xs.length : Int) == n)) S := by simp [F_is_row, mkF, startE, isTy]
@[simp] theorem is_whole_in (i lo hi : Int) (S : Store) : F_is_whole [.int i, .int lo, .int hi] S = .ok (.bl (decide (lo ≤ i) && decide (i ≤ hi))) S := by
  by_cases h : lo ≤ i <;> simp [F_is_whole, mkF, startE, isTy, h]
/-- no whole number -/
def NoWhole : D → Prop
  | .int _ => False
  | .frz _ => False
  | .ref _ => False
  | _ => True
theorem is_whole_no {x : D} (h : NoWhole x) (lo hi : D) (S : Store) : F_is_whole [x, lo, hi] S = .ok (.bl false) S := by
  cases x with
  | non => simp [F_is_whole, mkF, startE, isTy]
  | bl b => simp [F_is_whole, mkF, startE, isTy]
  | str b => simp [F_is_whole, mkF, startE, isTy]
  | tup b => simp [F_is_whole, mkF, startE, isTy]
  | int i => exact h.elim
  | frz i => exact h.elim
  | ref i => exact h.elim
theorem is_field_ok {a b h k : Nat} (h1 : a < k) (h2 : h ≤ b) (h3 : b < k) (S : Store) : F_is_field [fD (a, b), .int (h : Int), .int (k : Int)] S = .ok (.bl true) S := by
  have q1 : (a : Int) ≤ (k : Int) - 1 := by omega
  have q2 : (b : Int) ≤ (k : Int) - 1 := by omega
  simp [F_is_field, fD, mkF, startE, q1, q2, h2]
theorem enum_get {ds : List D} {i : Nat} : (enumD ds)[i]? = (ds[i]?).map fun d => D.tup [.int (i : Int), d] := by
  unfold enumD; rw [List.getElem?_mapIdx]
theorem enum_len {ds : List D} : (enumD ds).length = ds.length := by unfold enumD; simp
theorem drop_cons {α : Type} {xs : List α} {i : Nat} {d : α} {rest : List α} (h : d :: rest = xs.drop i) : i < xs.length ∧ xs[i]? = some d ∧ rest = xs.drop (i + 1) := by
  have hi : i < xs.length := by
    refine Decidable.byContradiction fun q => ?_
    rw [List.drop_of_length_le (by omega)] at h
    cases h
  rw [List.drop_eq_getElem_cons hi] at h
  injection h with h1 h2
  exact ⟨hi, by rw [List.getElem?_eq_getElem hi, h1], h2⟩
theorem map_fD_get {fs : List (Nat × Nat)} {i : Nat} {d : D} (h : (fs.map fD)[i]? = some d) : ∃ f, fs[i]? = some f ∧ d = fD f := by
  rw [List.getElem?_map] at h
  cases e : fs[i]? with
  | none => rw [e] at h; cases h
  | some f => rw [e] at h; exact ⟨f, rfl, (Option.some.inj h).symm⟩
theorem made_ok {c : Sch} (hc : c.Ok) (S : Store) : F_made_schema [c.d] S = .ok c.d (S ++ [.lst (c.fs.map fD)]) := by
  have h1 := hc.h1; have h6 := hc.h6; have hk := hc.hk; have k24 := hc.k24; have f40 := hc.f40
  obtain ⟨s', S', e, x, y, rfl, _, rfl⟩ := forL_run (c := []) (g := .tp [(.nm 4), (.nm 5)]) (b := sIf (Wk.tNot (tE (eCall F_is_field (aCons (eV 5) (aCons (eV 1) (aCons (eV 2) aNil)))))) (sRaise "BadSchema" (eTup (aCons (eC (.int 2)) (aCons (eV 4) aNil)))) sSkip)
    (fun rest s T => ∃ x y, s = [some c.d, some (.int (c.h : Int)), some (.int (c.k : Int)), some (.tup (c.fs.map fD)), x, y] ∧ (∃ i, rest = (enumD (c.fs.map fD)).drop i) ∧ T = S) (fun _ _ _ _ => rfl) (by
      rintro d rest s T ⟨x, y, rfl, ⟨i, hd⟩, rfl⟩
      obtain ⟨hi, hg, rfl⟩ := drop_cons hd
      rw [enum_get] at hg
      cases e : (c.fs.map fD)[i]? with
      | none => rw [e] at hg; cases hg
      | some d' =>
        rw [e] at hg
        obtain rfl : D.tup [.int (i : Int), d'] = d := Option.some.inj hg
        obtain ⟨f, hf, rfl⟩ := map_fD_get e
        obtain ⟨q1, q2, q3⟩ := hc.fs f (List.mem_of_getElem? hf)
        have := is_field_ok q1 q2 q3 T
        exact ⟨_, _, _, rfl, .inl ((by simp [this]) : _ = Rs.nx [some c.d, some (.int (c.h : Int)), some (.int (c.k : Int)), some (.tup (c.fs.map fD)), some (.int (i : Int)), some (fD f)] T), _, _, rfl, ⟨i + 1, rfl⟩, rfl⟩) (enumD (c.fs.map fD)) [some c.d, some (.int (c.h : Int)), some (.int (c.k : Int)), some (.tup (c.fs.map fD)), none, none] S ⟨none, none, rfl, ⟨0, by simp⟩, rfl⟩
  have cp : ∀ (sw : Env) (hs : sw = [some c.d, some (.int (c.h : Int)), some (.int (c.k : Int)), some (.tup (c.fs.map fD)), x, none]), compL [] (.nm 5) tTrue (eUn fTuple (eV 5)) sw (c.fs.map fD) S' = .ok (c.fs.map fD) S' := by
    intro sw hs
    subst hs
    have := compL_map (c := []) (g := .nm 5) (e := eUn fTuple (eV 5)) (sw := [some c.d, some (.int (c.h : Int)), some (.int (c.k : Int)), some (.tup (c.fs.map fD)), x, none]) (S := S') (f := id) rfl (c.fs.map fD) (by
      intro d hd
      obtain ⟨f, _, rfl⟩ := List.mem_map.mp hd
      exact ⟨_, rfl, by simp [fD]⟩)
    simpa using this
  have hk' : (c.h : Int) ≤ (c.k : Int) := by omega
  have k24' : (c.k : Int) ≤ 24 := by omega
  have h1' : (1 : Int) ≤ (c.h : Int) := by omega
  have h6' : (c.h : Int) ≤ 6 := by omega
  have f40' : ¬ (40 : Int) < (c.fs.length : Int) := by omega
  have e' := e
  unfold Sch.d at e' cp ⊢
  simp [F_made_schema, mkF, startE, isTy, h1', h6', hk', k24', f40', LIM_val, e', cp, fTuple_lst]
end WkL


set_option Elab.async false
set_option linter.all false
set_option maxRecDepth 100000
set_option maxHeartbeats 1000000
set_option autoImplicit false
/-! PvAsked: asked_kind. -/
namespace WkL
open PySem (Str)
open Wk
theorem asked_ok {c : Sch} {a : Nat} (ha : a < c.k) (S : Store) : F_asked_kind [c.d, .int (a : Int)] S = .ok .non S := by
  have q : (a : Int) ≤ (c.k : Int) - 1 := by omega
  simp [F_asked_kind, Sch.d, mkF, startE, q]
/-- no kind of a schema of k -/
def NoKind (k : Nat) (x : D) : Prop := NoWhole x ∨ ∃ i : Int, x = .int i ∧ (i < 0 ∨ (k : Int) ≤ i)
theorem asked_no {c : Sch} {x : D} (h : NoKind c.k x) (S : Store) : F_asked_kind [c.d, x] S = .ex "BadKind" x S := by
  rcases h with h | ⟨i, rfl, h⟩
  · have := fun (lo hi : D) => is_whole_no h lo hi S
    simp [F_asked_kind, Sch.d, mkF, startE, this]
  · rcases h with h | h
    · have q : ¬ (0 ≤ i) := by omega
      simp [F_asked_kind, Sch.d, mkF, startE, q]
    · have q : ¬ (i ≤ (c.k : Int) - 1) := by omega
      simp [F_asked_kind, Sch.d, mkF, startE, q]
end WkL


set_option Elab.async false
set_option linter.all false
set_option maxRecDepth 100000
set_option autoImplicit false
/-! PvReach: what is led to, by how many fields; plain lists. -/
namespace WkL
open PySem (Str)
open Wk
section
variable (fs : List (Nat × Nat)) (src : Nat → Prop)
/-- led to by at most n fields -/
def Rch : Nat → Nat → Prop
  | 0, v => src v
  | n + 1, v => Rch n v ∨ ∃ a, Rch n a ∧ (a, v) ∈ fs
def Reach (v : Nat) : Prop := ∃ n, Rch fs src n v
/-- n is the least such number -/
def IsDist (n v : Nat) : Prop := Rch fs src n v ∧ ∀ m, Rch fs src m v → n ≤ m
end
section
variable {fs : List (Nat × Nat)} {src : Nat → Prop}
theorem Rch.up {n v : Nat} (h : Rch fs src n v) : Rch fs src (n + 1) v := .inl h
theorem Rch.mono {n v : Nat} (h : Rch fs src n v) : ∀ m, n ≤ m → Rch fs src m v
  | 0, q => by
    have : n = 0 := by omega
    subst this; exact h
  | m + 1, q => by
    by_cases e : n = m + 1
    · subst e; exact h
    · exact (Rch.mono h m (by omega)).up
theorem Reach.of_src {v : Nat} (h : src v) : Reach fs src v := ⟨0, h⟩
theorem Reach.step {a v : Nat} (h : Reach fs src a) (e : (a, v) ∈ fs) : Reach fs src v := by
  obtain ⟨n, h⟩ := h
  exact ⟨n + 1, .inr ⟨a, h, e⟩⟩
theorem Rch.ind {P : Nat → Prop} (h0 : ∀ v, src v → P v) (hs : ∀ a v, P a → (a, v) ∈ fs → P v) : ∀ (n v : Nat), Rch fs src n v → P v
  | 0, v, h => h0 v h
  | n + 1, v, h => h.elim (Rch.ind h0 hs n v) fun ⟨a, ha, e⟩ => hs a v (Rch.ind h0 hs n a ha) e
theorem Reach.ind {P : Nat → Prop} (h0 : ∀ v, src v → P v) (hs : ∀ a v, P a → (a, v) ∈ fs → P v) {v : Nat} (h : Reach fs src v) : P v := by
  obtain ⟨n, h⟩ := h
  exact Rch.ind h0 hs n v h
theorem IsDist.uniq {n m v : Nat} (h : IsDist fs src n v) (k : IsDist fs src m v) : n = m := Nat.le_antisymm (h.2 m k.1) (k.2 n h.1)
/-- numbers that are right from below and closed upwards are the distances -/
theorem dist_of {val : Nat → Nat → Prop} (sound : ∀ v n, val v n → Rch fs src n v) (h0 : ∀ v, src v → ∃ n, val v n ∧ n ≤ 0) (hs : ∀ a v n, val a n → (a, v) ∈ fs → ∃ m, val v m ∧ m ≤ n + 1) (u : ∀ v n m, val v n → val v m → n = m) :
    (∀ v n, val v n → IsDist fs src n v) ∧ ∀ v, Reach fs src v → ∃ n, val v n := by
  have key : ∀ (n v : Nat), Rch fs src n v → ∃ m, val v m ∧ m ≤ n := by
    intro n
    induction n with
    | zero => intro v h; exact h0 v h
    | succ n ih =>
      intro v h
      rcases h with h | ⟨a, ha, e⟩
      · obtain ⟨m, h1, h2⟩ := ih v h
        exact ⟨m, h1, by omega⟩
      · obtain ⟨m, h1, h2⟩ := ih a ha
        obtain ⟨q, h3, h4⟩ := hs a v m h1 e
        exact ⟨q, h3, by omega⟩
  refine ⟨fun v n h => ⟨sound v n h, fun m hm => ?_⟩, fun v ⟨n, h⟩ => ?_⟩
  · obtain ⟨q, h1, h2⟩ := key m v hm
    rw [u v n q h h1]
    exact h2
  · obtain ⟨q, h1, _⟩ := key n v h
    exact ⟨q, h1⟩
end
open Classical in
/-- the kinds below k that are led to, in order -/
noncomputable def reachL (fs : List (Nat × Nat)) (k : Nat) (src : Nat → Prop) : List Nat := (List.range k).filter fun v => decide (Reach fs src v)
theorem mem_reachL {fs : List (Nat × Nat)} {k : Nat} {src : Nat → Prop} {v : Nat} : v ∈ reachL fs k src ↔ v < k ∧ Reach fs src v := by
  unfold reachL
  rw [List.mem_filter, List.mem_range]
  simp
theorem filter_reachL {fs : List (Nat × Nat)} {k : Nat} {src : Nat → Prop} {p : Nat → Bool} (h : ∀ v, v < k → (p v = true ↔ Reach fs src v)) : (List.range k).filter p = reachL fs k src := by
  unfold reachL
  apply List.filter_congr
  intro v hv
  have := h v (List.mem_range.mp hv)
  by_cases q : p v = true
  · rw [q]; simp [this.mp q]
  · have n : ¬ Reach fs src v := fun z => q (this.mpr z)
    simp [n]
    simpa using q
/-- truths set -/
theorem count_set : ∀ {F : List Bool} {b : Nat}, F[b]? = some false → (F.set b true).count false + 1 = F.count false
  | [], _, h => by simp at h
  | x :: F, 0, h => by simp at h; subst h; simp
  | x :: F, b + 1, h => by
    have ih := count_set (F := F) (b := b) (by simpa using h)
    simp only [List.set_cons_succ, List.count_cons]
    omega

/-! ### lists of numbers compared -/
theorem mapM_ints (S : Store) (n : Nat) : ∀ xs : List Int, (xs.map D.int).mapM (toP S n) = some (xs.map P.int)
  | [] => rfl
  | x :: xs => by
    rw [List.map_cons, List.mapM_cons, mapM_ints S n xs]
    cases n <;> rfl
theorem eqvs_ints : ∀ xs ys : List Int, P.eqvs (xs.map P.int) (ys.map P.int) = decide (xs = ys)
  | [], [] => by rfl
  | [], _ :: _ => by rfl
  | _ :: _, [] => by rfl
  | x :: xs, y :: ys => by
    simp only [List.map_cons, P.eqvs, P.eqv, eqvs_ints xs ys, List.cons.injEq, Bool.decide_and]
    rfl
theorem toP_ints {S : Store} {l : Nat} {xs : List Int} (h : S[l]? = some (.lst (xs.map D.int))) (n : Nat) : toP S (n + 1) (.ref l) = some (.lst (xs.map P.int)) := by
  unfold toP
  rw [h]
  dsimp only
  rw [mapM_ints]
theorem oEq_lists {S : Store} {l m : Nat} {xs ys : List Int} (h : S[l]? = some (.lst (xs.map D.int))) (k : S[m]? = some (.lst (ys.map D.int))) : oEq (.ref l) (.ref m) S = .ok (.bl (decide (xs = ys))) S := by
  show oEqG _ _ _ = _
  unfold oEqG
  rw [toP_ints h 59, toP_ints k 59]
  dsimp only
  rw [show P.eqv (.lst (xs.map P.int)) (.lst (ys.map P.int)) = P.eqvs (xs.map P.int) (ys.map P.int) from by simp only [P.eqv], eqvs_ints]
theorem oEq_non_list {S : Store} {m : Nat} {ys : List Int} (k : S[m]? = some (.lst (ys.map D.int))) : oEq .non (.ref m) S = .ok (.bl false) S := by
  show oEqG _ _ _ = _
  unfold oEqG
  rw [toP_ints k 59]
  rfl
theorem intsN_int (l : List Nat) : (l.map fun (f : Nat) => D.int (f : Int)) = (l.map fun (f : Nat) => (f : Int)).map D.int := by simp
theorem castL_inj {l m : List Nat} : (l.map fun (f : Nat) => (f : Int)) = (m.map fun (f : Nat) => (f : Int)) ↔ l = m := by
  constructor
  · intro h
    have := congrArg (List.map Int.toNat) h
    simpa [Function.comp_def] using this
  · rintro rfl; rfl
theorem oEq_nats {S : Store} {l m : Nat} {xs ys : List Nat} (h : S[l]? = some (.lst (xs.map fun (f : Nat) => D.int (f : Int)))) (k : S[m]? = some (.lst (ys.map fun (f : Nat) => D.int (f : Int)))) : oEq (.ref l) (.ref m) S = .ok (.bl (decide (xs = ys))) S := by
  rw [intsN_int] at h k
  rw [oEq_lists h k, decide_eq_decide.mpr castL_inj]
end WkL


set_option Elab.async false
set_option linter.all false
set_option maxRecDepth 100000
set_option maxHeartbeats 1000000
set_option autoImplicit false
/-! PvNats: rows of numbers in the store. -/
namespace WkL
open PySem (Str)
open Wk
abbrev intsN (l : List Nat) : List D := l.map fun (f : Nat) => D.int (f : Int)
abbrev blsN (F : List Bool) : List D := F.map D.bl
theorem oIx_lst {S : Store} {l i : Nat} {ds : List D} {d : D} (h : S[l]? = some (.lst ds)) (g : ds[i]? = some d) : oIx (.ref l) (.int (i : Int)) S = .ok d S := by
  rw [oIx_ref, h]; dsimp only; rw [atI_nat, g]
theorem uSetL_nat {S : Store} {l i : Nat} {ds : List D} (h : S[l]? = some (.lst ds)) (hi : i < ds.length) (v : D) : uSetL (.ref l) (.int (i : Int)) v S = some (S.set l (.lst (ds.set i v))) := by
  unfold uSetL; dsimp only; rw [h]; dsimp only; rw [ixN_nat _ _ hi]
theorem insI_le {a : Int} : ∀ {l : List Int}, (∀ b ∈ l, a ≤ b) → insI a l = a :: l
  | [], _ => rfl
  | b :: l, h => by unfold insI; rw [if_pos (h b List.mem_cons_self)]
theorem sortI_sorted : ∀ {l : List Int}, l.Pairwise (· ≤ ·) → sortI l = l
  | [], _ => rfl
  | a :: l, h => by
    unfold sortI
    rw [List.pairwise_cons] at h
    rw [sortI_sorted h.2, insI_le h.1]
theorem intsD_map : ∀ l : List Int, intsD (l.map D.int) = some l
  | [] => rfl
  | a :: l => by rw [List.map_cons]; unfold intsD; rw [intsD_map l]
theorem range_sorted (n : Nat) : ((List.range n).map fun (i : Nat) => (i : Int)).Pairwise (· ≤ ·) := by
  rw [List.pairwise_map]
  exact (List.pairwise_lt_range (n := n)).imp fun h => by omega
theorem inF_nats (a : Nat) (l : List Nat) : inF (.int (a : Int)) (intsN l) = decide (a ∈ l) := by
  unfold inF
  rw [List.any_map]
  induction l with
  | nil => rfl
  | cons b l ih =>
    rw [List.any_cons, ih]
    simp only [Function.comp_apply, eqF, List.mem_cons, Bool.decide_or]
    congr 1
    by_cases h : a = b
    · subst h; simp
    · have : ¬ b = a := fun z => h z.symm
      simp [h]; omega
theorem nats_flat (l : List Nat) : (intsN l).all flatD = true := by
  rw [List.all_map]; simp [flatD, Function.comp_def]
theorem oInS_nats {S : Store} {l : Nat} {L : List Nat} (h : S[l]? = some (.lst (intsN L))) (a : Nat) : oInS (.int (a : Int)) (.ref l) S = .ok (.bl (decide (a ∈ L))) S := by
  unfold oInS oInL; dsimp only; rw [h]; dsimp only; rw [nats_flat, inF_nats]; rfl
end WkL


set_option Elab.async false
set_option linter.all false
set_option maxRecDepth 100000
set_option maxHeartbeats 1000000
set_option autoImplicit false
/-! PvHeld: held_by, fields_of. -/
namespace WkL
open PySem (Str)
open Wk
/-- the fields below i whose holder is a -/
def fo (fs : List (Nat × Nat)) (i a : Nat) : List Nat := (List.range i).filter fun f => (fs[f]?.map (·.1)) == some a
theorem fo_succ (fs : List (Nat × Nat)) {i a : Nat} {f : Nat × Nat} (h : fs[i]? = some f) : fo fs (i + 1) a = if f.1 = a then fo fs i a ++ [i] else fo fs i a := by
  unfold fo
  rw [List.range_succ, List.filter_append]
  by_cases e : f.1 = a
  · rw [if_pos e]
    simp [h, e]
  · rw [if_neg e]
    simp [h, e]
theorem mem_fo {fs : List (Nat × Nat)} {i a f : Nat} : f ∈ fo fs i a ↔ f < i ∧ ∃ b, fs[f]? = some (a, b) := by
  unfold fo
  rw [List.mem_filter, List.mem_range]
  constructor
  · rintro ⟨h, e⟩
    refine ⟨h, ?_⟩
    cases q : fs[f]? with
    | none => rw [q] at e; simp at e
    | some p =>
      rw [q] at e
      simp at e
      exact ⟨p.2, by rw [← e]⟩
  · rintro ⟨h, b, e⟩
    exact ⟨h, by rw [e]; simp⟩
/-- the lists of the fields by their holders stand at b, b + 1 .. , their list at l -/
structure Held (c : Sch) (l b : Nat) (T : Store) : Prop where
  top : T[l]? = some (.lst ((List.range c.k).map fun (a : Nat) => D.ref (b + a)))
  row : ∀ a, a < c.k → T[b + a]? = some (.lst (intsN (fo c.fs c.fs.length a)))
theorem rep_get {S : Store} {n a : Nat} {o : Ob} {X : Store} (h : a < n) : (S ++ List.replicate n o ++ X)[S.length + a]? = some o := by
  rw [List.append_assoc, List.getElem?_append_right (by omega), Nat.add_sub_cancel_left, List.getElem?_append_left (by simpa using h)]
  simp [h]
theorem new_rows (c : Sch) (S : Store) (k : Nat) (s : Env) (hs : ∃ x y z w v, s = [x, y, z, w, v, none]) :
    compL [] (.nm 5) tTrue (eLst aNil) s (rngD 0 (k : Int)) S = .ok ((List.range k).map fun (a : Nat) => D.ref (S.length + a)) (S ++ List.replicate k (.lst [])) := by
  obtain ⟨ys, T', e, n, rfl, rfl, hn⟩ := compL_run (c := []) (g := .nm 5) (t := tTrue) (e := eLst aNil) (sw := s)
    (fun ds acc T => ∃ n, acc = (List.range n).map (fun (a : Nat) => D.ref (S.length + a)) ∧ T = S ++ List.replicate n (.lst []) ∧ n + ds.length = k) (fun _ _ _ _ => rfl) (by
      rintro d ds acc T ⟨n, rfl, rfl, hn⟩
      refine ⟨_, _, rfl, .inr ⟨.ref (S.length + n), S ++ List.replicate (n + 1) (.lst []), rfl, ?_, n + 1, ?_, rfl, ?_⟩⟩
      · simp [LIM_val, List.replicate_succ']
      · rw [List.range_succ, List.map_append]; rfl
      · simp at hn ⊢; omega) (rngD 0 (k : Int)) [] S ⟨0, rfl, by simp, by rw [rngD_len]; simp⟩
  simp at hn
  subst hn
  simpa using e
theorem held_ok {c : Sch} (hc : c.Ok) (S : Store) : ∃ T, F_held_by [c.d] S = .ok (.ref (S.length + c.k)) T ∧ Held c (S.length + c.k) S.length T ∧ Keep [] S T ∧ T.length = S.length + c.k + 1 := by
  have k24 := hc.k24
  have hb1 := new_rows c S c.k [some c.d, none, none, none, none, none] ⟨_, _, _, _, _, rfl⟩
  generalize hT0 : S ++ List.replicate c.k (Ob.lst []) ++ [Ob.lst ((List.range c.k).map fun (a : Nat) => D.ref (S.length + a))] = T0
  have g0 : T0[S.length + c.k]? = some (.lst ((List.range c.k).map fun (a : Nat) => D.ref (S.length + a))) := by rw [← hT0]; simp
  obtain ⟨s', T, e, x, y, z, i, rfl, hi, hl, htop, hrow, hkeep⟩ := forL_run (c := []) (g := .tp [(.nm 2), (.tp [(.nm 3), (.nm 4)])]) (b := sExpr (eBM oAppend (eOp oIx (eV 1) (eV 3)) (eV 2)))
    (fun rest s T => ∃ x y z i, s = [some c.d, some (.ref (S.length + c.k)), x, y, z, none] ∧ rest = (enumD (c.fs.map fD)).drop i ∧ T.length = S.length + c.k + 1 ∧ T[S.length + c.k]? = some (.lst ((List.range c.k).map fun (a : Nat) => D.ref (S.length + a))) ∧
      (∀ a, a < c.k → T[S.length + a]? = some (.lst (intsN (fo c.fs i a)))) ∧ Keep [] S T) (fun _ _ _ _ => rfl) (by
      rintro d rest s T ⟨x, y, z, i, rfl, hd, hl, htop, hrow, hkeep⟩
      obtain ⟨hi, hg, rfl⟩ := drop_cons hd
      rw [enum_get] at hg
      cases e : (c.fs.map fD)[i]? with
      | none => rw [e] at hg; cases hg
      | some d' =>
        rw [e] at hg
        obtain rfl : D.tup [.int (i : Int), d'] = d := Option.some.inj hg
        obtain ⟨f, hf, rfl⟩ := map_fD_get e
        obtain ⟨q1, q2, q3⟩ := hc.fs f (List.mem_of_getElem? hf)
        have hlt : i < 40 := by
          have := (List.getElem?_eq_some_iff.mp hf).1
          have := hc.f40
          omega
        have gr := hrow f.1 q1
        have hfl : (fo c.fs i f.1).length ≤ i := by unfold fo; exact Nat.le_trans (List.length_filter_le _ _) (by simp)
        have ap := oAppend_lst (y := .int (i : Int)) gr (by rw [LIM_val]; simp; omega)
        have il := isLst_lst gr
        refine ⟨_, _, _, rfl, .inl ((by simp [fD, htop, q1, il, ap]) : _ = Rs.nx [some c.d, some (.ref (S.length + c.k)), some (.int (i : Int)), some (.int (f.1 : Int)), some (.int (f.2 : Int)), none] (T.set (S.length + f.1) (.lst (intsN (fo c.fs i f.1) ++ [.int (i : Int)])))), _, _, _, i + 1, rfl, rfl, by simpa using hl, ?_, fun a ha => ?_, ?_⟩
        · rw [List.getElem?_set_ne (by omega)]; exact htop
        · rw [fo_succ c.fs hf]
          by_cases ea : f.1 = a
          · subst ea
            rw [if_pos rfl, get_set_self gr]
            simp
          · rw [if_neg ea, List.getElem?_set_ne (by omega)]; exact hrow a ha
        · exact hkeep.new (Y := [S.length + f.1]) (Keep.set _ (.inl (by simp))) (by intro i hi; simp at hi; omega)) (enumD (c.fs.map fD)) [some c.d, some (.ref (S.length + c.k)), none, none, none, none] T0
    ⟨none, none, none, 0, rfl, by simp, by rw [← hT0]; simp; omega, g0, fun a ha => by rw [← hT0, rep_get ha]; simp [fo], by rw [← hT0, List.append_assoc]; exact Keep.push _ _ _⟩
  have hi' : i ≥ c.fs.length := by
    refine Decidable.byContradiction fun q => ?_
    have : i < (enumD (c.fs.map fD)).length := by rw [enum_len]; simp; omega
    rw [List.drop_eq_getElem_cons this] at hi
    cases hi
  have fo_top : ∀ a, fo c.fs i a = fo c.fs c.fs.length a := by
    intro a
    unfold fo
    obtain ⟨m, rfl⟩ : ∃ m, i = c.fs.length + m := ⟨i - c.fs.length, by omega⟩
    rw [List.range_add, List.filter_append]
    have : ((List.range m).map (c.fs.length + ·)).filter (fun f => (c.fs[f]?.map (·.1)) == some a) = [] := by
      rw [List.filter_eq_nil_iff]
      intro x hx
      obtain ⟨j, _, rfl⟩ := List.mem_map.mp hx
      rw [List.getElem?_eq_none (by omega)]
      simp
    rw [this, List.append_nil]
  refine ⟨T, ?_, ⟨htop, fun a ha => by rw [← fo_top a]; exact hrow a ha⟩, hkeep, hl⟩
  have r1 : -(4611686018427387904 : Int) ≤ (c.k : Int) := by omega
  have r2 : (c.k : Int) ≤ 16777216 := by omega
  have hT0' : S ++ (List.replicate c.k (Ob.lst []) ++ [Ob.lst ((List.range c.k).map fun (a : Nat) => D.ref (S.length + a))]) = T0 := by rw [← hT0]; simp
  have e' := e
  unfold Sch.d at e' hb1 ⊢
  simp [F_held_by, mkF, startE, r1, r2, hb1, hT0', e']
end WkL


set_option Elab.async false
set_option linter.all false
set_option maxRecDepth 100000
set_option maxHeartbeats 1000000
set_option autoImplicit false
/-! PvFieldsOf: fields_of. -/
namespace WkL
open PySem (Str)
open Wk
theorem fields_of_ok {c : Sch} (hc : c.Ok) {a : Nat} (ha : a < c.k) (S : Store) : ∃ T, F_fields_of [c.d, .int (a : Int)] S = .ok (.tup (intsN (fo c.fs c.fs.length a))) T ∧ Keep [] S T := by
  obtain ⟨T, e, H, K, _⟩ := held_ok hc (S ++ [.lst (c.fs.map fD)])
  refine ⟨T, ?_, (Keep.push _ _ _).trans K⟩
  have e1 := made_ok hc S
  have e2 := asked_ok ha (S ++ [.lst (c.fs.map fD)])
  have g := H.top
  have g2 := H.row a ha
  simp at e g g2
  simp [F_fields_of, mkF, startE, e1, e2, e, g, ha, fTuple_lst g2]
theorem fields_of_no {c : Sch} (hc : c.Ok) {x : D} (h : NoKind c.k x) (S : Store) : F_fields_of [c.d, x] S = .ex "BadKind" x (S ++ [.lst (c.fs.map fD)]) := by
  have e1 := made_ok hc S
  have e2 := asked_no h (S ++ [.lst (c.fs.map fD)])
  simp [F_fields_of, mkF, startE, e1, e2]
end WkL


set_option Elab.async false
set_option linter.all false
set_option maxRecDepth 100000
set_option maxHeartbeats 1000000
set_option autoImplicit false
/-! PvBase: small things of lists in the store. -/
namespace WkL
open PySem (Str)
open Wk
theorem edge_get {fs : List (Nat × Nat)} {f : Nat} {q : Nat × Nat} (h : fs[f]? = some q) : (a b : Nat) → q = (a, b) → (a, b) ∈ fs := fun a b e => by rw [← e]; exact List.mem_of_getElem? h
theorem edge_ix {fs : List (Nat × Nat)} {a b : Nat} (h : (a, b) ∈ fs) : ∃ f, f ∈ fo fs fs.length a ∧ fs[f]? = some (a, b) := by
  obtain ⟨f, hf, e⟩ := List.getElem_of_mem h
  have e' : fs[f]? = some (a, b) := by rw [List.getElem?_eq_getElem hf, e]
  exact ⟨f, mem_fo.mpr ⟨hf, b, e'⟩, e'⟩
theorem intsN_snoc {W : List Nat} (h : W ≠ []) : ∃ W0 u, W = W0 ++ [u] := ⟨W.dropLast, W.getLast h, (List.dropLast_concat_getLast h).symm⟩
theorem uPop_snoc {S : Store} {l : Nat} {W : List Nat} {u : Nat} (h : S[l]? = some (.lst (intsN (W ++ [u])))) : uPop (.ref l) S = .ok (.int (u : Int)) (S.set l (.lst (intsN W))) := by
  unfold uPop
  dsimp only
  rw [h]
  simp
end WkL


set_option Elab.async false
set_option linter.all false
set_option maxRecDepth 100000
set_option maxHeartbeats 1000000
set_option autoImplicit false
/-! PvHad: had_list, had: what is led to from the hands. -/
namespace WkL
open PySem (Str)
open Wk
/-- where the things of had_list stand -/
structure HadAt (c : Sch) (l b fi wi : Nat) (F : List Bool) (W : List Nat) (T : Store) : Prop where
  held : Held c l b T
  fo : T[fi]? = some (.lst (blsN F))
  wo : T[wi]? = some (.lst (intsN W))
  ne : fi ≠ wi
  nf : l ≠ fi ∧ ∀ a, a < c.k → b + a ≠ fi
  nw : l ≠ wi ∧ ∀ a, a < c.k → b + a ≠ wi
  lenF : F.length = c.k
theorem HadAt.push {c : Sch} {l b fi wi : Nat} {F : List Bool} {W : List Nat} {T : Store} (h : HadAt c l b fi wi F W T) (X : Store) : HadAt c l b fi wi F W (T ++ X) := by
  have k := Keep.push T X []
  exact ⟨⟨k.get h.held.top (by simp), fun a ha => k.get (h.held.row a ha) (by simp)⟩, k.get h.fo (by simp), k.get h.wo (by simp), h.ne, h.nf, h.nw, h.lenF⟩
theorem HadAt.setF {c : Sch} {l b fi wi : Nat} {F F' : List Bool} {W : List Nat} {T : Store} (h : HadAt c l b fi wi F W T) (e : F'.length = c.k) : HadAt c l b fi wi F' W (T.set fi (.lst (blsN F'))) :=
  ⟨⟨by rw [List.getElem?_set_ne (Ne.symm h.nf.1)]; exact h.held.top, fun a ha => by rw [List.getElem?_set_ne (Ne.symm (h.nf.2 a ha))]; exact h.held.row a ha⟩, get_set_self h.fo, by rw [List.getElem?_set_ne h.ne]; exact h.wo, h.ne, h.nf, h.nw, e⟩
theorem HadAt.setW {c : Sch} {l b fi wi : Nat} {F : List Bool} {W W' : List Nat} {T : Store} (h : HadAt c l b fi wi F W T) : HadAt c l b fi wi F W' (T.set wi (.lst (intsN W'))) :=
  ⟨⟨by rw [List.getElem?_set_ne (Ne.symm h.nw.1)]; exact h.held.top, fun a ha => by rw [List.getElem?_set_ne (Ne.symm (h.nw.2 a ha))]; exact h.held.row a ha⟩, by rw [List.getElem?_set_ne (Ne.symm h.ne)]; exact h.fo, get_set_self h.wo, h.ne, h.nf, h.nw, h.lenF⟩
/-- what is known while the closure is made: u is gone through but for rest -/
structure HadI (c : Sch) (src : Nat → Prop) (F : List Bool) (W : List Nat) (u : Option Nat) (rest : List Nat) : Prop where
  sound : ∀ v : Nat, F[v]? = some true → Reach c.fs src v
  base : ∀ v : Nat, src v → F[v]? = some true
  inW : ∀ v ∈ W, F[v]? = some true
  clo : ∀ v x : Nat, F[v]? = some true → v ∉ W → (v, x) ∈ c.fs → F[x]? = some true ∨ (some v = u ∧ ∃ f ∈ rest, c.fs[f]? = some (v, x))
  wlen : W.length ≤ 1000
def hbody : FS := sSeq (sSet 5 (eOp oIx (eOp oIx (eOp oIx (eV 0) (eC (.int 2))) (eV 4)) (eC (.int 1))))
    (sIf (Wk.tNot (tE (eOp oIx (eV 2) (eV 5)))) (sSeq (sSub uSetL (eV 2) (eV 5) (eC (.bl true)))
    (sExpr (eBM oAppend (eV 3) (eV 5)))) sSkip)
theorem had_inner {c : Sch} (hc : c.Ok) {src : Nat → Prop} {l b fi wi u : Nat} (hu : u < c.k) {S0 : Store} (h0 : ∀ i, i < S0.length → i ≠ fi ∧ i ≠ wi) : ∀ (rest : List Nat) (s : Env) (T : Store) (F : List Bool) (W : List Nat),
    (∃ x y, s = [some c.d, some (.ref l), some (.ref fi), some (.ref wi), x, y, none]) → (∀ f ∈ rest, f ∈ fo c.fs c.fs.length u) → HadAt c l b fi wi F W T → HadI c src F W (some u) rest → F[u]? = some true → Keep [] S0 T → F.count false + W.length ≤ 100 →
    ∃ s' T' F' W', forL [(b + u, .lst (intsN (fo c.fs c.fs.length u)))] (.nm 4) hbody (intsN rest) s T = .nx s' T' ∧ (∃ x y, s' = [some c.d, some (.ref l), some (.ref fi), some (.ref wi), x, y, none]) ∧ HadAt c l b fi wi F' W' T' ∧ HadI c src F' W' none [] ∧ Keep [] S0 T' ∧
      F'.count false + W'.length = F.count false + W.length := by
  intro rest
  induction rest with
  | nil =>
    rintro s T F W ⟨x, y, rfl⟩ hr hA hI hFu hK hm
    refine ⟨_, T, F, W, ?_, ⟨x, y, rfl⟩, hA, ⟨hI.sound, hI.base, hI.inW, fun v x a b e => ?_, hI.wlen⟩, hK, rfl⟩
    · have ok : okC [(b + u, .lst (intsN (fo c.fs c.fs.length u)))] T = true := by simp [okC, hA.held.row u hu]
      exact forL_nil ok
    · rcases hI.clo v x a b e with q | ⟨_, f, hf, _⟩
      · exact .inl q
      · simp at hf
  | cons f rest ih =>
    rintro s T F W ⟨x, y, rfl⟩ hr hA hI hFu hK hm
    have ok : okC [(b + u, .lst (intsN (fo c.fs c.fs.length u)))] T = true := by simp [okC, hA.held.row u hu]
    obtain ⟨hfl, t, hft⟩ := mem_fo.mp (hr f List.mem_cons_self)
    obtain ⟨q1, q2, q3⟩ := hc.fs _ (List.mem_of_getElem? hft)
    have ht : t < F.length := by rw [hA.lenF]; exact q3
    have hgt : (blsN F)[t]? = some (.bl F[t]) := by rw [List.getElem?_map, List.getElem?_eq_getElem ht]; rfl
    have gx := oIx_lst hA.fo hgt
    have e0 : ∀ z w, (sSet 5 (eOp oIx (eOp oIx (eOp oIx (eV 0) (eC (.int 2))) (eV 4)) (eC (.int 1)))) [some c.d, some (.ref l), some (.ref fi), some (.ref wi), some (.int (f : Int)), z, w] T = .nx [some c.d, some (.ref l), some (.ref fi), some (.ref wi), some (.int (f : Int)), some (.int (t : Int)), w] T := by
      intro z w
      simp [Sch.d, hft, fD]
    have hedge : (u, t) ∈ c.fs := List.mem_of_getElem? hft
    cases hFt : F[t] with
    | true =>
      have hFt' : F[t]? = some true := by rw [List.getElem?_eq_getElem ht, hFt]
      rw [hFt] at gx
      have step : hbody [some c.d, some (.ref l), some (.ref fi), some (.ref wi), some (.int (f : Int)), y, none] T = .nx [some c.d, some (.ref l), some (.ref fi), some (.ref wi), some (.int (f : Int)), some (.int (t : Int)), none] T := by
        unfold hbody
        rw [sSeq_eq, e0]
        simp only [sIf_eq, tNot_eq, tE_eq, eOp_eq, eV_eq]
        simp only [List.getElem?_cons_succ, List.getElem?_cons_zero, Res.bind_ok, gx, ofE_ok]
        rfl
      obtain ⟨s', T', F', W', e, i1, i2, i3, i4, i5⟩ := ih [some c.d, some (.ref l), some (.ref fi), some (.ref wi), some (.int (f : Int)), some (.int (t : Int)), none] T F W ⟨_, _, rfl⟩ (fun g hg => hr g (List.mem_cons_of_mem _ hg)) hA
        ⟨hI.sound, hI.base, hI.inW, fun v x a b e => by
          rcases hI.clo v x a b e with q | ⟨q, g, hg, eg⟩
          · exact .inl q
          · rcases List.mem_cons.mp hg with z | z
            · subst z
              rw [hft] at eg
              cases eg
              exact .inl hFt'
            · exact .inr ⟨q, g, z, eg⟩, hI.wlen⟩ hFu hK hm
      refine ⟨s', T', F', W', ?_, i1, i2, i3, i4, i5⟩
      exact (forL_cons ok rfl step).trans e
    | false =>
      have hFt' : F[t]? = some false := by rw [List.getElem?_eq_getElem ht, hFt]
      rw [hFt] at gx
      have hcnt := count_set hFt'
      have hA1 : HadAt c l b fi wi (F.set t true) W (T.set fi (.lst (blsN (F.set t true)))) := hA.setF (by rw [List.length_set]; exact hA.lenF)
      have hA2 : HadAt c l b fi wi (F.set t true) (W ++ [t]) ((T.set fi (.lst (blsN (F.set t true)))).set wi (.lst (intsN (W ++ [t])))) := hA1.setW
      have us := uSetL_nat hA.fo (i := t) (by simpa using ht) (.bl true)
      have ub : (blsN F).set t (.bl true) = blsN (F.set t true) := by rw [blsN, blsN, List.map_set]
      rw [ub] at us
      have ap := oAppend_lst (y := .int (t : Int)) hA1.wo (by rw [LIM_val]; simp; have := hI.wlen; omega)
      have il := isLst_lst hA1.wo
      have eW : intsN W ++ [D.int (t : Int)] = intsN (W ++ [t]) := by simp
      rw [eW] at ap
      have step : hbody [some c.d, some (.ref l), some (.ref fi), some (.ref wi), some (.int (f : Int)), y, none] T = .nx [some c.d, some (.ref l), some (.ref fi), some (.ref wi), some (.int (f : Int)), some (.int (t : Int)), none] ((T.set fi (.lst (blsN (F.set t true)))).set wi (.lst (intsN (W ++ [t])))) := by
        unfold hbody
        rw [sSeq_eq, e0]
        simp only [sIf_eq, tNot_eq, tE_eq, eOp_eq, eV_eq]
        simp only [List.getElem?_cons_succ, List.getElem?_cons_zero, Res.bind_ok, gx, ofE_ok]
        simp only [Bool.not_false, if_true, sSeq_eq, sSub_eq, eC_eq, eV_eq, List.getElem?_cons_succ, List.getElem?_cons_zero, ofE_ok, us, sExpr_eq, eBM_eq, Res.bind_ok, il, ap]
      have hut : u ≠ t := by
        rintro rfl
        rw [hFu] at hFt'
        cases hFt'
      have set_true : ∀ v : Nat, F[v]? = some true → (F.set t true)[v]? = some true := by
        intro v hv
        by_cases z : t = v
        · subst z; exact List.getElem?_set_self ht
        · rw [List.getElem?_set_ne z]; exact hv
      have set_inv : ∀ v : Nat, (F.set t true)[v]? = some true → v = t ∨ F[v]? = some true := by
        intro v hv
        by_cases z : t = v
        · exact .inl z.symm
        · rw [List.getElem?_set_ne z] at hv; exact .inr hv
      obtain ⟨s', T', F', W', e, i1, i2, i3, i4, i5⟩ := ih [some c.d, some (.ref l), some (.ref fi), some (.ref wi), some (.int (f : Int)), some (.int (t : Int)), none] _ (F.set t true) (W ++ [t]) ⟨_, _, rfl⟩ (fun g hg => hr g (List.mem_cons_of_mem _ hg)) hA2
        ⟨fun v hv => (set_inv v hv).elim (fun z => z ▸ (hI.sound u hFu).step hedge) (hI.sound v), fun v hv => set_true v (hI.base v hv),
         fun v hv => (List.mem_append.mp hv).elim (fun z => set_true v (hI.inW v z)) (fun z => by
          have : v = t := by simpa using z
          subst this
          exact List.getElem?_set_self ht), fun v x a nb e => by
          have nv : v ≠ t := fun z => nb (by rw [z]; simp)
          have nW : v ∉ W := fun z => nb (List.mem_append_left _ z)
          rcases hI.clo v x ((set_inv v a).resolve_left nv) nW e with q | ⟨q, g, hg, eg⟩
          · exact .inl (set_true x q)
          · rcases List.mem_cons.mp hg with z | z
            · subst z
              rw [hft] at eg
              cases eg
              exact .inl (List.getElem?_set_self ht)
            · exact .inr ⟨q, g, z, eg⟩, by simp; omega⟩ (by rw [List.getElem?_set_ne (Ne.symm hut)]; exact hFu)
        (hK.new (Y := [fi, wi]) ((Keep.set _ (.inl (by simp))).trans (Keep.set _ (.inl (by simp)))) (fun i hi => .inr (by
          refine Decidable.byContradiction fun q => ?_
          have := h0 i (by omega)
          simp at hi
          omega))) (by simp; omega)
      refine ⟨s', T', F', W', ?_, i1, i2, i3, i4, by rw [i5]; simp; omega⟩
      exact (forL_cons ok rfl step).trans e
theorem had_list_ok {c : Sch} (hc : c.Ok) (S : Store) : ∃ fi F T, F_had_list [c.d] S = .ok (.ref fi) T ∧ T[fi]? = some (.lst (blsN F)) ∧ F.length = c.k ∧ (∀ v, v < c.k → (F[v]? = some true ↔ Reach c.fs (fun v => v < c.h) v)) ∧ Keep [] S T := by
  have k24 := hc.k24; have hk := hc.hk
  obtain ⟨T1, e1, H1, K1, L1⟩ := held_ok hc S
  generalize hF0 : (List.range c.k).map (fun v => decide (v < c.h)) = F0
  have F0l : F0.length = c.k := by rw [← hF0]; simp
  have F0g : ∀ v : Nat, F0[v]? = some true ↔ v < c.h := by
    intro v
    rw [← hF0, List.getElem?_map]
    by_cases q : v < c.k
    · rw [List.getElem?_range q]; simp
    · rw [List.getElem?_eq_none (by simpa using q)]; simp; omega
  have comp : ∀ w, compL [] (.nm 6) tTrue (eOp oLt (eV 6) (eOp oIx (eV 0) (eC (.int 0)))) [some c.d, some (.ref (S.length + c.k)), none, none, none, none, w] (rngD 0 (c.k : Int)) T1 = .ok (blsN F0) T1 := by
    intro w
    rw [rngD_nat]
    refine Eq.trans (compL_map (f := fun d => match d with | .int i => .bl (decide (i < (c.h : Int))) | _ => .non) rfl _ ?_) ?_
    · intro d hd
      obtain ⟨i, hi, rfl⟩ := List.mem_map.mp hd
      exact ⟨_, rfl, by simp [Sch.d]⟩
    · rw [← hF0, blsN, List.map_map, List.map_map]
      congr 1
      apply List.map_congr_left
      intro i hi
      simp
  generalize hT3 : T1 ++ [Ob.lst (blsN F0), Ob.lst (intsN (List.range c.h))] = T3
  have A3 : HadAt c (S.length + c.k) S.length T1.length (T1.length + 1) F0 (List.range c.h) T3 := by
    have k := Keep.push T1 [Ob.lst (blsN F0), Ob.lst (intsN (List.range c.h))] []
    rw [hT3] at k
    exact ⟨⟨k.get H1.top (by simp), fun a ha => k.get (H1.row a ha) (by simp)⟩, by rw [← hT3]; simp, by rw [← hT3]; simp, by omega, ⟨by omega, fun a ha => by omega⟩, ⟨by omega, fun a ha => by omega⟩, F0l⟩
  have I3 : HadI c (fun v => v < c.h) F0 (List.range c.h) none [] := ⟨fun v hv => Reach.of_src ((F0g v).mp hv), fun v hv => (F0g v).mpr hv, fun v hv => (F0g v).mpr (List.mem_range.mp hv), fun v x a nb _ => absurd (List.mem_range.mpr ((F0g v).mp a)) nb, by simp; have := hc.h6; omega⟩
  have K3 : Keep [] S T3 := by rw [← hT3]; exact K1.trans (Keep.push _ _ _)
  obtain ⟨s', T', ew, F, W, x, y, rfl, A, I, K, hW⟩ := whileL_runN (t := tE (eOp oNe (eV 3) (eLst aNil))) (b := sFor (iSeq (eOp oIx (eV 1) (eUn uPop (eV 3)))) (.nm 4) hbody)
    (fun m s T => ∃ F W x y, s = [some c.d, some (.ref (S.length + c.k)), some (.ref T1.length), some (.ref (T1.length + 1)), x, y, none] ∧ HadAt c (S.length + c.k) S.length T1.length (T1.length + 1) F W T ∧ HadI c (fun v => v < c.h) F W none [] ∧ Keep [] S T ∧ m = F.count false + W.length ∧ m ≤ 100)
    (fun s T => ∃ F W x y, s = [some c.d, some (.ref (S.length + c.k)), some (.ref T1.length), some (.ref (T1.length + 1)), x, y, none] ∧ HadAt c (S.length + c.k) S.length T1.length (T1.length + 1) F W T ∧ HadI c (fun v => v < c.h) F W none [] ∧ Keep [] S T ∧ W = [])
    (by
      rintro m s T ⟨F, W, x, y, rfl, A, I, K, rfl, hm⟩
      have A' := A.push [Ob.lst []]
      have K' : Keep [] S (T ++ [Ob.lst []]) := K.trans (Keep.push _ _ _)
      have eq : oEq (.ref (T1.length + 1)) (.ref T.length) (T ++ [Ob.lst []]) = .ok (.bl (decide (W = []))) (T ++ [Ob.lst []]) := oEq_nats A'.wo (ys := []) (by simp)
      have test : tE (eOp oNe (eV 3) (eLst aNil)) [some c.d, some (.ref (S.length + c.k)), some (.ref T1.length), some (.ref (T1.length + 1)), x, y, none] T = .ok (!decide (W = [])) (T ++ [Ob.lst []]) := by
        simp [LIM_val, eq]
      by_cases hW : W = []
      · left
        exact ⟨_, by rw [test, hW]; rfl, F, W, x, y, rfl, A', I, K', hW⟩
      · right
        obtain ⟨W0, u, rfl⟩ := intsN_snoc hW
        have hFu := I.inW u (by simp)
        have hu : u < c.k := by rw [← A.lenF]; exact (List.getElem?_eq_some_iff.mp hFu).1
        have pop := uPop_snoc A'.wo
        have A2 : HadAt c (S.length + c.k) S.length T1.length (T1.length + 1) F W0 ((T ++ [Ob.lst []]).set (T1.length + 1) (.lst (intsN W0))) := A'.setW
        generalize hT2 : (T ++ [Ob.lst []]).set (T1.length + 1) (.lst (intsN W0)) = T2 at pop A2
        have K2 : Keep [] S T2 := by
          rw [← hT2]
          exact K'.new (Y := [T1.length + 1]) (Keep.set _ (.inl (by simp))) (fun i hi => .inr (by simp at hi; omega))
        have I2 : HadI c (fun v => v < c.h) F W0 (some u) (fo c.fs c.fs.length u) := ⟨I.sound, I.base, fun v hv => I.inW v (List.mem_append_left _ hv), (fun v x a nb e => by
          by_cases z : v = u
          · subst z
            obtain ⟨f, hf, ef⟩ := edge_ix e
            exact .inr ⟨rfl, f, hf, ef⟩
          · rcases I.clo v x a (fun q => (List.mem_append.mp q).elim nb (fun w => z (by simpa using w))) e with q | ⟨q, _⟩
            · exact .inl q
            · cases q), (by have := I.wlen; simp at this; omega)⟩
        have hm' : F.count false + W0.length ≤ 100 := by simp at hm; omega
        obtain ⟨s2, T4, F2, W2, e4, ⟨x2, y2, rfl⟩, A4, I4, K4, hc4⟩ := had_inner hc hu (S0 := S) (fun i hi => by have := K1.1; omega) (fo c.fs c.fs.length u) [some c.d, some (.ref (S.length + c.k)), some (.ref T1.length), some (.ref (T1.length + 1)), x, y, none] T2 F W0 ⟨_, _, rfl⟩ (fun _ h => h) A2 I2 hFu K2 hm'
        refine ⟨T ++ [Ob.lst []], _, T4, _, by rw [test]; simp, .inl ?_, ⟨F2, W2, x2, y2, rfl, A4, I4, K4, rfl, by omega⟩, by simp; omega⟩
        have gt : ((List.range c.k).map fun (a : Nat) => D.ref (S.length + a))[u]? = some (.ref (S.length + u)) := by rw [List.getElem?_map, List.getElem?_range hu]; rfl
        have ix := oIx_lst A2.held.top gt
        have gr := A2.held.row u hu
        simp only [sFor_eq, iSeq_eq, eOp_eq, eUn_eq, eV_eq, List.getElem?_cons_succ, List.getElem?_cons_zero, Res.bind_ok, pop, ix, gr, ofE_ok]
        exact e4) FUEL (F0.count false + (List.range c.h).length) [some c.d, some (.ref (S.length + c.k)), some (.ref T1.length), some (.ref (T1.length + 1)), none, none, none] T3 ⟨F0, List.range c.h, none, none, rfl, A3, I3, K3, rfl, by
          have := List.count_le_length (a := false) (l := F0)
          have := hc.h6
          simp; omega⟩ (by
          have := List.count_le_length (a := false) (l := F0)
          have := hc.h6
          unfold FUEL
          simp; omega)
  subst hW
  refine ⟨T1.length, F, T', ?_, A.fo, A.lenF, fun v hv => ⟨I.sound v, fun hr => ?_⟩, K⟩
  · have r1 : -(4611686018427387904 : Int) ≤ (c.k : Int) := by omega
    have r2 : (c.k : Int) ≤ 16777216 := by omega
    have r3 : -(4611686018427387904 : Int) ≤ (c.h : Int) := by omega
    have r4 : (c.h : Int) ≤ 16777216 := by omega
    have hT3' : T1 ++ [Ob.lst (blsN F0)] ++ [Ob.lst (rngD 0 (c.h : Int))] = T3 := by rw [← hT3, rngD_nat]; simp
    have hT3'' : T1 ++ [Ob.lst (blsN F0), Ob.lst (rngD 0 (c.h : Int))] = T3 := by rw [← hT3']; simp
    have cp := comp none
    have ew' := ew
    unfold hbody at ew'
    unfold Sch.d at e1 cp ew' ⊢
    simp [F_had_list, mkF, startE, e1, r1, r2, r3, r4, cp, hT3'', ew']
  · refine Reach.ind (P := fun v => F[v]? = some true) I.base (fun a v ha e => ?_) hr
    rcases I.clo a v ha (by simp) e with q | ⟨_, f, hf, _⟩
    · exact q
    · simp at hf
end WkL


set_option Elab.async false
set_option linter.all false
set_option maxRecDepth 100000
set_option maxHeartbeats 1000000
set_option autoImplicit false
/-! PvHadT: had. -/
namespace WkL
open PySem (Str)
open Wk
theorem had_ok {c : Sch} (hc : c.Ok) (S : Store) : ∃ T, F_had [c.d] S = .ok (.tup (intsN (reachL c.fs c.k fun v => v < c.h))) T ∧ Keep [] S T := by
  obtain ⟨fi, F, T, e, g, hl, hr, K⟩ := had_list_ok hc (S ++ [.lst (c.fs.map fD)])
  have e1 := made_ok hc S
  have cp : compL [(fi, .lst (blsN F))] (.tp [(.nm 1), (.nm 2)]) (tE (eV 2)) (eV 1) [some c.d, none, none] (enumD (blsN F)) T = .ok (intsN (reachL c.fs c.k fun v => v < c.h)) T := by
    have hen : enumD (blsN F) = (List.range c.k).map fun (i : Nat) => D.tup [.int (i : Int), .bl (F.getD i false)] := by
      refine List.ext_getElem? fun i => ?_
      rw [enum_get, List.getElem?_map, List.getElem?_map]
      by_cases q : i < c.k
      · rw [List.getElem?_range q, List.getElem?_eq_getElem (by omega)]
        simp [List.getD_eq_getElem?_getD, List.getElem?_eq_getElem (show i < F.length by omega)]
      · rw [List.getElem?_eq_none (by omega), List.getElem?_eq_none (by simpa using q)]
        rfl
    rw [hen]
    have := compL_pure (c := [(fi, .lst (blsN F))]) (g := .tp [(.nm 1), (.nm 2)]) (t := tE (eV 2)) (e := eV 1) (sw := [some c.d, none, none]) (S := T) (p := fun d => match d with | .tup [_, .bl b] => b | _ => false) (f := fun d => match d with | .tup [x, _] => x | _ => .non) (by simp [okC, g])
      ((List.range c.k).map fun (i : Nat) => D.tup [.int (i : Int), .bl (F.getD i false)]) (by
        intro d hd
        obtain ⟨i, hi, rfl⟩ := List.mem_map.mp hd
        exact ⟨[some c.d, some (.int (i : Int)), some (.bl (F.getD i false))], rfl, rfl, fun _ => rfl⟩)
    rw [this, List.filter_map, List.map_map]
    have fl : (List.range c.k).filter ((fun d => match d with | D.tup [_, .bl b] => b | _ => false) ∘ fun (i : Nat) => D.tup [.int (i : Int), .bl (F.getD i false)]) = reachL c.fs c.k fun v => v < c.h := by
      refine filter_reachL fun v hv => ?_
      rw [← hr v hv]
      show F.getD v false = true ↔ _
      rw [List.getD_eq_getElem?_getD, List.getElem?_eq_getElem (show v < F.length by omega)]
      simp
    rw [fl]
    rfl
  refine ⟨T ++ [.lst (intsN (reachL c.fs c.k fun v => v < c.h))], ?_, (Keep.push _ _ _).trans (K.trans (Keep.push _ _ _))⟩
  simp [F_had, mkF, startE, e1, e, g, cp, fTuple_lst (get_last T (.lst (intsN (reachL c.fs c.k fun v => v < c.h))))]
end WkL


set_option Elab.async false
set_option linter.all false
set_option maxRecDepth 100000
set_option maxHeartbeats 1000000
set_option autoImplicit false
/-! PvReached: the law's own closure. -/
namespace WkL
open PySem (Str)
open Wk
open Classical in
noncomputable def rchL (fs : List (Nat × Nat)) (k : Nat) (src : Nat → Prop) (n : Nat) : List Nat := (List.range k).filter fun v => decide (Rch fs src n v)
theorem mem_rchL {fs : List (Nat × Nat)} {k : Nat} {src : Nat → Prop} {n v : Nat} : v ∈ rchL fs k src n ↔ v < k ∧ Rch fs src n v := by
  unfold rchL; rw [List.mem_filter, List.mem_range]; simp
theorem rchL_sub (fs : List (Nat × Nat)) (k : Nat) (src : Nat → Prop) (n : Nat) : (rchL fs k src n).Sublist (rchL fs k src (n + 1)) := by
  have : rchL fs k src n = (rchL fs k src (n + 1)).filter fun v => @decide (Rch fs src n v) (Classical.propDecidable _) := by
    unfold rchL
    rw [List.filter_filter]
    apply List.filter_congr
    intro v _
    by_cases h : Rch fs src n v
    · simp [h, h.up]
    · simp [h]
  rw [this]
  exact List.filter_sublist
theorem rchL_lt {fs : List (Nat × Nat)} {k : Nat} {src : Nat → Prop} {n : Nat} (h : rchL fs k src n ≠ rchL fs k src (n + 1)) : (rchL fs k src n).length < (rchL fs k src (n + 1)).length :=
  Nat.lt_of_le_of_ne (rchL_sub fs k src n).length_le fun e => h ((rchL_sub fs k src n).eq_of_length e)
theorem rchL_le (fs : List (Nat × Nat)) (k : Nat) (src : Nat → Prop) (n : Nat) : (rchL fs k src n).length ≤ k := by
  unfold rchL; exact Nat.le_trans (List.length_filter_le _ _) (by simp)
theorem rchL_fix {fs : List (Nat × Nat)} {k : Nat} {src : Nat → Prop} {n : Nat} (hfs : ∀ f ∈ fs, f.1 < k ∧ f.2 < k) (hsrc : ∀ v, src v → v < k) (h : rchL fs k src n = rchL fs k src (n + 1)) : rchL fs k src (n + 1) = reachL fs k src := by
  unfold rchL reachL
  apply List.filter_congr
  intro v hv
  have key : Reach fs src v → v < k ∧ Rch fs src n v := fun hr => Reach.ind (P := fun v => v < k ∧ Rch fs src n v) (fun v hv => ⟨hsrc v hv, (show Rch fs src 0 v from hv).mono n (Nat.zero_le _)⟩) (fun a v ⟨ha, hr⟩ e => by
    have q : v ∈ rchL fs k src (n + 1) := mem_rchL.mpr ⟨(hfs _ e).2, .inr ⟨a, hr, e⟩⟩
    rw [← h] at q
    exact mem_rchL.mp q) hr
  by_cases q : Reach fs src v
  · simp [q, (key q).2.up]
  · have : ¬ Rch fs src (n + 1) v := fun z => q ⟨_, z⟩
    simp [q, this]
theorem rchL_range {fs : List (Nat × Nat)} {h k : Nat} (hhk : h ≤ k) : rchL fs k (fun v => v < h) 0 = List.range h := by
  have e0 : rchL fs k (fun v => v < h) 0 = (List.range k).filter (fun v => decide (v < h)) := by
    unfold rchL
    apply List.filter_congr
    intro v _
    by_cases q : v < h
    · simp [q, Rch]
    · simp [q, Rch]
  rw [e0]
  obtain ⟨m, hm⟩ : ∃ m, k = h + m := ⟨k - h, by omega⟩
  rw [hm, List.range_add, List.filter_append, List.filter_eq_self.mpr (by intro a ha; simpa using ha)]
  rw [List.filter_eq_nil_iff.mpr, List.append_nil]
  intro a ha
  obtain ⟨j, _, rfl⟩ := List.mem_map.mp ha
  simp
theorem filter_one {x : Nat} : ∀ {k : Nat}, x < k → (List.range k).filter (fun v => decide (v = x)) = [x]
  | k + 1, h => by
    rw [List.range_succ, List.filter_append]
    by_cases e : x = k
    · subst e
      rw [List.filter_eq_nil_iff.mpr (by intro a ha; have := List.mem_range.mp ha; simp; omega)]
      simp
    · rw [filter_one (show x < k by omega)]
      have : ¬ k = x := fun z => e z.symm
      simp [this]
theorem rchL_one {fs : List (Nat × Nat)} {x k : Nat} (hx : x < k) : rchL fs k (fun v => v ∈ [x]) 0 = [x] := by
  have e0 : rchL fs k (fun v => v ∈ [x]) 0 = (List.range k).filter (fun v => decide (v = x)) := by
    unfold rchL
    apply List.filter_congr
    intro v _
    by_cases q : v = x
    · simp [q, Rch]
    · simp [q, Rch]
  rw [e0, filter_one hx]
theorem reached_ok {c : Sch} (hc : c.Ok) {S : Store} {ki : Nat} {src : Nat → Prop} {ks : List Nat} (L0 : rchL c.fs c.k src 0 = ks) (hso : (ks.map fun (i : Nat) => (i : Int)).Pairwise (· ≤ ·)) (hsk : ∀ v, src v → v < c.k) (hk : S[ki]? = some (.lst (intsN ks))) :
    ∃ fi T, F__law_wv_reached [c.d, .ref ki] S = .ok (.ref fi) T ∧ T[fi]? = some (.lst (intsN (reachL c.fs c.k src))) ∧ Keep [] S T := by
  have k24 := hc.k24; have hhk := hc.hk
  have hfs : ∀ f ∈ c.fs, f.1 < c.k ∧ f.2 < c.k := fun f hf => ⟨(hc.fs f hf).1, (hc.fs f hf).2.2⟩
  have srt : fSorted (.ref ki) S = .ok (.ref S.length) (S ++ [.lst (intsN ks)]) := by
    unfold fSorted
    dsimp only
    rw [hk]
    dsimp only
    rw [intsN, intsN_int, intsD_map]
    dsimp only
    rw [sortI_sorted hso]
  obtain ⟨s', T', ew, fi, b, x1, x2, x3, x4, rfl, hf, K⟩ := whileL_runN (t := tE (eOp oNe (eV 3) (eV 2))) (b := (sSeq (sSet 3 (eV 2))
    (sSeq (sSet 4 (eComp (iSeq (eOp oIx (eV 0) (eC (.int 2)))) (.tp [(.nm 5), (.nm 6)]) (tE (eOp oInS (eV 5) (eV 3))) (eV 6) [5, 6]))
    (sSet 2 (eComp (iRng (eOp oIx (eV 0) (eC (.int 1)))) (.nm 7) (tOr (tE (eOp oInS (eV 7) (eV 3))) (tE (eOp oInS (eV 7) (eV 4)))) (eV 7) [7])))))
    (fun m s T => ∃ n fi b x1, s = [some c.d, some (.ref ki), some (.ref fi), some b, x1, none, none, none] ∧ T[fi]? = some (.lst (intsN (rchL c.fs c.k src n))) ∧ Keep [] S T ∧
      ((b = .non ∧ n = 0 ∧ m = 40) ∨ ∃ bi n0, b = .ref bi ∧ n = n0 + 1 ∧ T[bi]? = some (.lst (intsN (rchL c.fs c.k src n0))) ∧ m = 39 - (rchL c.fs c.k src n0).length))
    (fun s T => ∃ fi b x1 x2 x3 x4, s = [some c.d, some (.ref ki), some (.ref fi), some b, x1, x2, x3, x4] ∧ T[fi]? = some (.lst (intsN (reachL c.fs c.k src))) ∧ Keep [] S T)
    (by
      rintro m s T ⟨n, fi, b, x1, rfl, hf, K, hb⟩
      have body : (∃ T2, (sSeq (sSet 3 (eV 2))
    (sSeq (sSet 4 (eComp (iSeq (eOp oIx (eV 0) (eC (.int 2)))) (.tp [(.nm 5), (.nm 6)]) (tE (eOp oInS (eV 5) (eV 3))) (eV 6) [5, 6]))
    (sSet 2 (eComp (iRng (eOp oIx (eV 0) (eC (.int 1)))) (.nm 7) (tOr (tE (eOp oInS (eV 7) (eV 3))) (tE (eOp oInS (eV 7) (eV 4)))) (eV 7) [7])))) [some c.d, some (.ref ki), some (.ref fi), some b, x1, none, none, none] T = .nx [some c.d, some (.ref ki), some (.ref (T.length + 1)), some (.ref fi), some (.ref T.length), none, none, none] T2 ∧
          T2[T.length + 1]? = some (.lst (intsN (rchL c.fs c.k src (n + 1)))) ∧ T2[fi]? = some (.lst (intsN (rchL c.fs c.k src n))) ∧ Keep [] S T2) := by
        generalize hmore : ((c.fs.filter fun f => decide (f.1 ∈ rchL c.fs c.k src n)).map (·.2)) = more
        have c1 : compL [] (.tp [(.nm 5), (.nm 6)]) (tE (eOp oInS (eV 5) (eV 3))) (eV 6) [some c.d, some (.ref ki), some (.ref fi), some (.ref fi), x1, none, none, none] (c.fs.map fD) T = .ok (intsN more) T := by
          have := compL_pure (c := []) (g := .tp [(.nm 5), (.nm 6)]) (t := tE (eOp oInS (eV 5) (eV 3))) (e := eV 6) (sw := [some c.d, some (.ref ki), some (.ref fi), some (.ref fi), x1, none, none, none]) (S := T)
            (p := fun d => match d with | .tup [.int a, _] => decide (a.toNat ∈ rchL c.fs c.k src n) | _ => false) (f := fun d => match d with | .tup [_, b] => b | _ => .non) rfl (c.fs.map fD) (by
              intro d hd
              obtain ⟨f, hf', rfl⟩ := List.mem_map.mp hd
              refine ⟨[some c.d, some (.ref ki), some (.ref fi), some (.ref fi), x1, some (.int (f.1 : Int)), some (.int (f.2 : Int)), none], rfl, ?_, fun _ => rfl⟩
              have := oInS_nats hf f.1
              simp [fD, this])
          rw [this, List.filter_map, List.map_map, ← hmore, intsN, List.map_map]
          congr 2
        have g1 : (T ++ [Ob.lst (intsN more)])[T.length]? = some (.lst (intsN more)) := get_last _ _
        have g2 : (T ++ [Ob.lst (intsN more)])[fi]? = some (.lst (intsN (rchL c.fs c.k src n))) := by rw [List.getElem?_append_left (lt_of_get hf)]; exact hf
        have c2 : compL [] (.nm 7) (tOr (tE (eOp oInS (eV 7) (eV 3))) (tE (eOp oInS (eV 7) (eV 4)))) (eV 7) [some c.d, some (.ref ki), some (.ref fi), some (.ref fi), some (.ref T.length), none, none, none] (rngD 0 (c.k : Int)) (T ++ [Ob.lst (intsN more)]) = .ok (intsN (rchL c.fs c.k src (n + 1))) (T ++ [Ob.lst (intsN more)]) := by
          rw [rngD_nat]
          have := compL_pure (c := []) (g := .nm 7) (t := tOr (tE (eOp oInS (eV 7) (eV 3))) (tE (eOp oInS (eV 7) (eV 4)))) (e := eV 7) (sw := [some c.d, some (.ref ki), some (.ref fi), some (.ref fi), some (.ref T.length), none, none, none]) (S := T ++ [Ob.lst (intsN more)])
            (p := fun d => match d with | .int a => decide (a.toNat ∈ rchL c.fs c.k src n) || decide (a.toNat ∈ more) | _ => false) (f := id) rfl ((List.range c.k).map fun (i : Nat) => D.int (i : Int)) (by
              intro d hd
              obtain ⟨i, hi, rfl⟩ := List.mem_map.mp hd
              refine ⟨[some c.d, some (.ref ki), some (.ref fi), some (.ref fi), some (.ref T.length), none, none, some (.int (i : Int))], rfl, ?_, fun _ => rfl⟩
              have h1 := oInS_nats g2 i
              have h2 := oInS_nats g1 i
              by_cases q : i ∈ rchL c.fs c.k src n
              · simp [h1, q]
              · simp [h1, q, h2])
          rw [this, List.filter_map, List.map_map]
          congr 1
          rw [show (id ∘ fun (i : Nat) => D.int (i : Int)) = fun (i : Nat) => D.int (i : Int) from rfl]
          congr 1
          conv => rhs; unfold rchL
          apply List.filter_congr
          intro v hv
          simp only [Function.comp_apply, Int.toNat_natCast]
          have hm : v ∈ more ↔ ∃ a, a ∈ rchL c.fs c.k src n ∧ (a, v) ∈ c.fs := by
            rw [← hmore, List.mem_map]
            constructor
            · rintro ⟨⟨a, b⟩, hf', rfl⟩
              rw [List.mem_filter] at hf'
              exact ⟨a, by simpa using hf'.2, hf'.1⟩
            · rintro ⟨a, ha, e⟩
              exact ⟨(a, v), List.mem_filter.mpr ⟨e, by simpa using ha⟩, rfl⟩
          have : (v ∈ rchL c.fs c.k src n ∨ v ∈ more) ↔ Rch c.fs src (n + 1) v := by
            rw [hm, mem_rchL]
            constructor
            · rintro (⟨_, h⟩ | ⟨a, ha, e⟩)
              · exact .inl h
              · exact .inr ⟨a, (mem_rchL.mp ha).2, e⟩
            · rintro (h | ⟨a, ha, e⟩)
              · exact .inl ⟨List.mem_range.mp hv, h⟩
              · exact .inr ⟨a, mem_rchL.mpr ⟨(hfs _ e).1, ha⟩, e⟩
          by_cases q : Rch c.fs src (n + 1) v
          · rcases this.mpr q with z | z <;> simp [q, z]
          · have n1 : v ∉ rchL c.fs c.k src n := fun z => q (this.mp (.inl z))
            have n2 : v ∉ more := fun z => q (this.mp (.inr z))
            simp [q, n1, n2]
        have r1 : -(4611686018427387904 : Int) ≤ (c.k : Int) := by omega
        have r2 : (c.k : Int) ≤ 16777216 := by omega
        have c1' := c1
        have c2' := c2
        refine ⟨T ++ [Ob.lst (intsN more)] ++ [Ob.lst (intsN (rchL c.fs c.k src (n + 1)))], ?_, by simp, ?_, (K.trans (Keep.push _ _ _)).trans (Keep.push _ _ _)⟩
        · unfold Sch.d at c1' c2' ⊢
          simp [c1', c2', r1, r2]
        · rw [List.getElem?_append_left (lt_of_get g2)]; exact g2
      obtain ⟨T2, eb, g1, g2, K2⟩ := body
      rcases hb with ⟨rfl, rfl, rfl⟩ | ⟨bi, n0, rfl, rfl, hbi, rfl⟩
      · right
        rw [intsN, intsN_int] at hf
        have eq := oEq_non_list hf
        refine ⟨T, _, T2, 39 - (rchL c.fs c.k src 0).length, by simp [eq], .inl eb, ⟨1, _, _, _, rfl, g1, K2, .inr ⟨_, 0, rfl, rfl, g2, rfl⟩⟩, by omega⟩
      · have eq := oEq_nats hbi hf
        by_cases q : rchL c.fs c.k src n0 = rchL c.fs c.k src (n0 + 1)
        · left
          refine ⟨T, by simp [eq, q], fi, _, _, _, _, _, rfl, ?_, K⟩
          rw [← rchL_fix hfs hsk q]; exact hf
        · right
          have lt := rchL_lt q
          have le := rchL_le c.fs c.k src (n0 + 1)
          exact ⟨T, _, T2, 39 - (rchL c.fs c.k src (n0 + 1)).length, by simp [eq, q], .inl eb, ⟨n0 + 2, _, _, _, rfl, g1, K2, .inr ⟨_, n0 + 1, rfl, rfl, g2, rfl⟩⟩, by omega⟩) FUEL 40 [some c.d, some (.ref ki), some (.ref S.length), some .non, none, none, none, none] (S ++ [.lst (intsN ks)])
      ⟨0, S.length, .non, none, rfl, by rw [L0]; exact get_last _ _, Keep.push _ _ _, .inl ⟨rfl, rfl, rfl⟩⟩ (by decide)
  refine ⟨fi, T', ?_, hf, K⟩
  have ew' := ew
  unfold Sch.d at ew' ⊢
  simp [F__law_wv_reached, mkF, startE, srt, LIM_val, ew']
end WkL


set_option Elab.async false
set_option linter.all false
set_option maxRecDepth 100000
set_option maxHeartbeats 1000000
set_option autoImplicit false
/-! PvLawHad: what the law says is had. -/
namespace WkL
open PySem (Str)
open Wk
theorem law_had_ok {c : Sch} (hc : c.Ok) (S : Store) : ∃ T, F__law_wv_had [c.d] S = .ok (.tup (intsN (reachL c.fs c.k fun v => v < c.h))) T ∧ Keep [] S T := by
  have k24 := hc.k24; have hhk := hc.hk
  have g : (S ++ [Ob.lst (intsN (List.range c.h))])[S.length]? = some (.lst (intsN (List.range c.h))) := get_last _ _
  obtain ⟨fi, T, e, hf, K⟩ := reached_ok hc (src := fun v => v < c.h) (rchL_range hhk) (range_sorted _) (fun v hv => Nat.lt_of_lt_of_le hv hhk) g
  refine ⟨T, ?_, (Keep.push _ _ _).trans K⟩
  have r3 : -(4611686018427387904 : Int) ≤ (c.h : Int) := by omega
  have r4 : (c.h : Int) ≤ 16777216 := by omega
  have e' : F__law_wv_reached [c.d, .ref S.length] (S ++ [Ob.lst (rngD 0 (c.h : Int))]) = .ok (.ref fi) T := by rw [rngD_nat]; exact e
  unfold Sch.d at e' ⊢
  simp [F__law_wv_had, mkF, startE, r3, r4, e', fTuple_lst hf]
end WkL


set_option Elab.async false
set_option linter.all false
set_option maxRecDepth 100000
set_option maxHeartbeats 1000000
set_option autoImplicit false
/-! PvSort: sorting of numbers and of pairs. -/
namespace WkL
open PySem (Str)
open Wk
/-! ### sorting -/
theorem mem_insI {a x : Int} : ∀ {l : List Int}, x ∈ insI a l ↔ x = a ∨ x ∈ l
  | [] => by simp [insI]
  | b :: l => by
    unfold insI
    split
    · simp
    · rw [List.mem_cons, mem_insI, List.mem_cons]
      constructor
      · rintro (h | h | h) <;> simp [h]
      · rintro (h | h | h) <;> simp [h]
theorem mem_sortI {x : Int} : ∀ {l : List Int}, x ∈ sortI l ↔ x ∈ l
  | [] => by simp [sortI]
  | a :: l => by unfold sortI; rw [mem_insI, mem_sortI, List.mem_cons]
theorem insI_lt {a : Int} : ∀ {l : List Int}, l.Pairwise (· < ·) → a ∉ l → (insI a l).Pairwise (· < ·)
  | [], _, _ => by simp [insI]
  | b :: l, h, n => by
    rw [List.pairwise_cons] at h
    rw [List.mem_cons, not_or] at n
    unfold insI
    split
    · rename_i q
      have ab : a < b := by omega
      rw [List.pairwise_cons]
      refine ⟨fun x hx => ?_, List.pairwise_cons.mpr h⟩
      rcases List.mem_cons.mp hx with e | e
      · omega
      · have := h.1 x e; omega
    · rename_i q
      rw [List.pairwise_cons]
      refine ⟨fun x hx => ?_, insI_lt h.2 n.2⟩
      rcases mem_insI.mp hx with e | e
      · omega
      · exact h.1 x e
theorem sortI_lt : ∀ {l : List Int}, l.Nodup → (sortI l).Pairwise (· < ·)
  | [], _ => by simp [sortI]
  | a :: l, h => by
    rw [List.nodup_cons] at h
    unfold sortI
    exact insI_lt (sortI_lt h.2) fun z => h.1 (mem_sortI.mp z)
theorem lt_ext : ∀ {l m : List Int}, l.Pairwise (· < ·) → m.Pairwise (· < ·) → (∀ x, x ∈ l ↔ x ∈ m) → l = m
  | [], [], _, _, _ => rfl
  | [], b :: m, _, _, h => absurd ((h b).mpr List.mem_cons_self) (by simp)
  | a :: l, [], _, _, h => absurd ((h a).mp List.mem_cons_self) (by simp)
  | a :: l, b :: m, h1, h2, h => by
    rw [List.pairwise_cons] at h1 h2
    have e : a = b := by
      rcases List.mem_cons.mp ((h a).mp List.mem_cons_self) with e | e
      · exact e
      · rcases List.mem_cons.mp ((h b).mpr List.mem_cons_self) with e2 | e2
        · exact e2.symm
        · have := h1.1 b e2; have := h2.1 a e; omega
    subst e
    rw [lt_ext h1.2 h2.2 fun x => ?_]
    constructor
    · intro hx
      rcases List.mem_cons.mp ((h x).mp (List.mem_cons_of_mem _ hx)) with e | e
      · have := h1.1 x hx; omega
      · exact e
    · intro hx
      rcases List.mem_cons.mp ((h x).mpr (List.mem_cons_of_mem _ hx)) with e | e
      · have := h2.1 x hx; omega
      · exact e
end WkL


set_option Elab.async false
set_option linter.all false
set_option maxRecDepth 100000
set_option maxHeartbeats 1000000
set_option autoImplicit false
/-! PvPairs: numbers and pairs in lists: in, remove, index, sorted. -/
namespace WkL
open PySem (Str)
open Wk
/-- things of a kind laid as data -/
structure Enc {α : Type} (g : α → D) (gp : α → P) : Prop where
  lo : ∀ S n a, toP S (n + 1) (g a) = some (gp a)
  eq : ∀ a b, P.eqv (gp a) (gp b) = true ↔ a = b
def pP (q : Nat × Nat) : P := .tup [.int (q.1 : Int), .int (q.2 : Int)]
theorem enc_nat : Enc (fun (n : Nat) => D.int (n : Int)) (fun (n : Nat) => P.int (n : Int)) := ⟨fun S n a => by unfold toP; rfl, fun a b => by simp [P.eqv]; omega⟩
theorem enc_pair : Enc fD pP := ⟨fun S n a => by
    cases n <;> rfl, fun a b => by
    unfold pP
    simp only [P.eqv, P.eqvs, Bool.and_true, Bool.and_eq_true, beq_iff_eq]
    constructor
    · rintro ⟨h1, h2⟩; exact Prod.ext (by omega) (by omega)
    · rintro rfl; exact ⟨rfl, rfl⟩⟩
theorem erase_map {α β : Type} (g : α → β) : ∀ (xs : List α) (j : Nat), (xs.map g).eraseIdx j = (xs.eraseIdx j).map g
  | [], _ => rfl
  | _ :: _, 0 => rfl
  | x :: xs, j + 1 => by
    show g x :: (xs.map g).eraseIdx j = g x :: (xs.eraseIdx j).map g
    rw [erase_map g xs j]
section
variable {α : Type} {g : α → D} {gp : α → P} (E : Enc g gp)
include E
theorem Enc.all (S : Store) (n : Nat) : ∀ xs : List α, (xs.map g).mapM (toP S (n + 1)) = some (xs.map gp)
  | [] => rfl
  | x :: xs => by rw [List.map_cons, List.mapM_cons, Enc.all S n xs, E.lo]; rfl
theorem Enc.list {S : Store} {l : Nat} {xs : List α} (h : S[l]? = some (.lst (xs.map g))) (n : Nat) : toP S (n + 2) (.ref l) = some (.lst (xs.map gp)) := by
  unfold toP; rw [h]; dsimp only; rw [E.all]
theorem Enc.tuple (S : Store) (xs : List α) (n : Nat) : toP S (n + 2) (.tup (xs.map g)) = some (.tup (xs.map gp)) := by
  unfold toP; rw [E.all]
variable [DecidableEq α]
theorem Enc.any (a : α) : ∀ xs : List α, ((xs.map gp).any fun q => P.eqv q (gp a)) = decide (a ∈ xs)
  | [] => by simp
  | x :: xs => by
    rw [List.map_cons, List.any_cons, Enc.any a xs]
    by_cases e : x = a
    · subst e; simp [(E.eq x x).mpr rfl]
    · have : P.eqv (gp x) (gp a) = false := by
        cases q : P.eqv (gp x) (gp a) with
        | true => exact absurd ((E.eq x a).mp q) e
        | false => rfl
      rw [this]
      have : ¬ a = x := fun z => e z.symm
      simp [this]
theorem Enc.inG {S : Store} {l : Nat} {xs : List α} (h : S[l]? = some (.lst (xs.map g))) (a : α) : oInG (g a) (.ref l) S = .ok (.bl (decide (a ∈ xs))) S := by
  unfold oInG; rw [E.lo S 59 a, E.list h 58]; dsimp only; rw [E.any]
theorem Enc.inGT (S : Store) (xs : List α) (a : α) : oInG (g a) (.tup (xs.map g)) S = .ok (.bl (decide (a ∈ xs))) S := by
  unfold oInG; rw [E.lo S 59 a, E.tuple S xs 58]; dsimp only; rw [E.any]
theorem Enc.idx {a : α} : ∀ {xs : List α}, a ∈ xs → ∃ j, (xs.map gp).findIdx? (fun q => P.eqv q (gp a)) = some j ∧ xs[j]? = some a
  | [], h => by simp at h
  | x :: xs, h => by
    rw [List.map_cons, List.findIdx?_cons]
    by_cases e : x = a
    · subst e
      rw [(E.eq x x).mpr rfl]
      exact ⟨0, rfl, rfl⟩
    · have n : P.eqv (gp x) (gp a) = false := by
        cases q : P.eqv (gp x) (gp a) with
        | true => exact absurd ((E.eq x a).mp q) e
        | false => rfl
      rw [n]
      obtain ⟨j, h1, h2⟩ := Enc.idx (xs := xs) ((List.mem_cons.mp h).resolve_left fun z => e z.symm)
      exact ⟨j + 1, by rw [h1]; rfl, by simpa using h2⟩
theorem Enc.remove {S : Store} {l : Nat} {xs : List α} {a : α} (h : S[l]? = some (.lst (xs.map g))) (ha : a ∈ xs) (nd : xs.Nodup) :
    ∃ ys : List α, oRemove (.ref l) (g a) S = .ok .non (S.set l (.lst (ys.map g))) ∧ ys.Nodup ∧ (∀ x, x ∈ ys ↔ x ∈ xs ∧ x ≠ a) ∧ ys.length ≤ xs.length := by
  obtain ⟨j, h1, h2⟩ := E.idx ha
  have p := eraseIdx_perm h2
  have nd2 := p.nodup_iff.mpr nd
  rw [List.nodup_cons] at nd2
  refine ⟨xs.eraseIdx j, ?_, nd2.2, fun x => ?_, by rw [List.length_eraseIdx]; split <;> omega⟩
  · unfold oRemove idxD
    dsimp only
    rw [h, E.lo S 59 a, E.list h 58]
    dsimp only
    rw [h1]
    dsimp only
    rw [erase_map]
  · have m := p.mem_iff (a := x)
    rw [List.mem_cons] at m
    constructor
    · intro hx
      exact ⟨m.mp (.inr hx), fun z => nd2.1 (z ▸ hx)⟩
    · rintro ⟨hx, hn⟩
      exact (m.mpr hx).resolve_left hn
end
theorem oInS_pairs {S : Store} {l : Nat} {ps : List (Nat × Nat)} (h : S[l]? = some (.lst (ps.map fD))) (q : Nat × Nat) : oInS (fD q) (.ref l) S = .ok (.bl (decide (q ∈ ps))) S := by
  have e : oInG (fD q) (.ref l) S = .ok (.bl (decide (q ∈ ps))) S := (enc_pair.inG h q).trans (by congr)
  have b : oInL (ps.map fD) (fD q) S = .bad := rfl
  unfold oInS
  dsimp only
  rw [h]
  dsimp only
  rw [e, b]
  rfl
theorem oInS_natsT (S : Store) (L : List Nat) (a : Nat) : oInS (.int (a : Int)) (.tup (intsN L)) S = .ok (.bl (decide (a ∈ L))) S := by
  unfold oInS oInL; dsimp only; rw [nats_flat, inF_nats]; rfl
/-! ### sorted -/
def ltN (p q : Nat × Nat) : Prop := p.1 < q.1 ∨ (p.1 = q.1 ∧ p.2 < q.2)
theorem ltPr_yes {p q : Int × Int} : ltPr p q = true ↔ p.1 < q.1 ∨ (p.1 = q.1 ∧ p.2 < q.2) := by
  unfold ltPr
  by_cases e : p.1 = q.1
  · rw [if_pos e, decide_eq_true_eq]; omega
  · rw [if_neg e, decide_eq_true_eq]; omega
theorem mem_insP {a x : Int × Int} : ∀ {l : List (Int × Int)}, x ∈ insP a l ↔ x = a ∨ x ∈ l
  | [] => by simp [insP]
  | b :: l => by
    unfold insP
    split
    · rw [List.mem_cons, mem_insP, List.mem_cons]
      constructor
      · rintro (h | h | h) <;> simp [h]
      · rintro (h | h | h) <;> simp [h]
    · simp
theorem insP_perm (a : Int × Int) : ∀ l, (insP a l).Perm (a :: l)
  | [] => .refl _
  | b :: l => by
    unfold insP
    split
    · exact ((insP_perm a l).cons b).trans (.swap a b l)
    · exact .refl _
theorem sortP_perm : ∀ l, (sortP l).Perm l
  | [] => .refl _
  | a :: l => (insP_perm a _).trans ((sortP_perm l).cons a)
theorem insI_perm (a : Int) : ∀ l, (insI a l).Perm (a :: l)
  | [] => .refl _
  | b :: l => by
    unfold insI
    split
    · exact .refl _
    · exact ((insI_perm a l).cons b).trans (.swap a b l)
theorem sortI_perm : ∀ l, (sortI l).Perm l
  | [] => .refl _
  | a :: l => (insI_perm a _).trans ((sortI_perm l).cons a)
theorem insP_lt {a : Int × Int} : ∀ {l : List (Int × Int)}, l.Pairwise (fun p q => ltPr p q = true) → a ∉ l → (insP a l).Pairwise (fun p q => ltPr p q = true)
  | [], _, _ => by simp [insP]
  | b :: l, h, n => by
    rw [List.pairwise_cons] at h
    rw [List.mem_cons, not_or] at n
    unfold insP
    split
    · rename_i c
      rw [List.pairwise_cons]
      refine ⟨fun x hx => ?_, insP_lt h.2 n.2⟩
      rcases mem_insP.mp hx with e | e
      · rw [e]; exact c
      · exact h.1 x e
    · rename_i c
      have ab : ltPr a b = true := by
        refine ltPr_yes.mpr ?_
        have h1 : ¬ (b.1 < a.1 ∨ (b.1 = a.1 ∧ b.2 < a.2)) := fun z => c (ltPr_yes.mpr z)
        have h2 : ¬ (a.1 = b.1 ∧ a.2 = b.2) := fun z => n.1 (Prod.ext z.1 z.2)
        omega
      rw [List.pairwise_cons]
      refine ⟨fun x hx => ?_, List.pairwise_cons.mpr h⟩
      rcases List.mem_cons.mp hx with e | e
      · rw [e]; exact ab
      · have q1 := ltPr_yes.mp ab
        have q2 := ltPr_yes.mp (h.1 x e)
        exact ltPr_yes.mpr (by omega)
theorem sortP_lt : ∀ {l : List (Int × Int)}, l.Nodup → (sortP l).Pairwise (fun p q => ltPr p q = true)
  | [], _ => by simp [sortP]
  | a :: l, h => by
    rw [List.nodup_cons] at h
    unfold sortP
    exact insP_lt (sortP_lt h.2) fun z => h.1 ((sortP_perm l).mem_iff.mp z)
abbrev prI (q : Nat × Nat) : Int × Int := ((q.1 : Int), (q.2 : Int))
theorem prsD_fD : ∀ ps : List (Nat × Nat), prsD (ps.map fD) = some (ps.map prI)
  | [] => rfl
  | p :: ps => by
    show (match prsD (ps.map fD) with | some qs => some (((p.1 : Int), (p.2 : Int)) :: qs) | none => none) = _
    rw [prsD_fD ps]; rfl
theorem prI_back : ∀ {l : List (Int × Int)}, (∀ x ∈ l, ∃ q, x = prI q) → ∃ qs : List (Nat × Nat), l = qs.map prI
  | [], _ => ⟨[], rfl⟩
  | x :: l, h => by
    obtain ⟨q, rfl⟩ := h x List.mem_cons_self
    obtain ⟨qs, rfl⟩ := prI_back (l := l) fun y hy => h y (List.mem_cons_of_mem _ hy)
    exact ⟨q :: qs, rfl⟩
theorem prI_inj {p q : Nat × Nat} (h : prI p = prI q) : p = q := by
  have h1 := congrArg Prod.fst h
  have h2 := congrArg Prod.snd h
  exact Prod.ext (by have : (p.1 : Int) = q.1 := h1; omega) (by have : (p.2 : Int) = q.2 := h2; omega)
theorem perm_unmap {α β : Type} {f : α → β} (hf : ∀ a b, f a = f b → a = b) : ∀ {l m : List α}, (l.map f).Perm (m.map f) → l.Perm m := by
  classical
  intro l m h
  refine List.perm_iff_count.mpr fun a => ?_
  have h1 := h.count_eq (f a)
  have key : ∀ k : List α, (k.map f).count (f a) = k.count a := by
    intro k
    induction k with
    | nil => rfl
    | cons x k ih =>
      rw [List.map_cons, List.count_cons, List.count_cons, ih]
      by_cases q : x = a
      · rw [q]; simp
      · have : ¬ f x = f a := fun z => q (hf _ _ z)
        simp [q, this]
  rw [key, key] at h1
  exact h1
theorem sorted_pairs {S : Store} {l : Nat} {ps : List (Nat × Nat)} (h : S[l]? = some (.lst (ps.map fD))) (nd : ps.Nodup) : ∃ qs : List (Nat × Nat), fSorted (.ref l) S = .ok (.ref S.length) (S ++ [.lst (qs.map fD)]) ∧ qs.Perm ps ∧ qs.Pairwise ltN := by
  cases ps with
  | nil => exact ⟨[], by unfold fSorted; dsimp only; rw [h]; rfl, .refl _, .nil⟩
  | cons p ps =>
    have pm := sortP_perm ((p :: ps).map prI)
    obtain ⟨qs, hq⟩ := prI_back (l := sortP ((p :: ps).map prI)) fun x hx => by
      obtain ⟨q, _, e⟩ := List.mem_map.mp (pm.mem_iff.mp hx)
      exact ⟨q, e.symm⟩
    rw [hq] at pm
    have nd2 : ((p :: ps).map prI).Nodup := List.Pairwise.map _ (fun a b (h : a ≠ b) z => h (prI_inj z)) nd
    have lt := sortP_lt nd2
    rw [hq, List.pairwise_map] at lt
    refine ⟨qs, ?_, perm_unmap (fun _ _ => prI_inj) pm, lt.imp fun {a b} z => ?_⟩
    · unfold fSorted
      dsimp only
      rw [h]
      have e1 : intsD ((p :: ps).map fD) = none := rfl
      dsimp only
      rw [e1]
      dsimp only
      rw [prsD_fD]
      dsimp only
      rw [hq, List.map_map]
      rfl
    · have := ltPr_yes.mp z
      unfold ltN
      simp only at this
      omega
theorem sorted_nats {S : Store} {l : Nat} {L : List Nat} (h : S[l]? = some (.lst (intsN L))) (nd : L.Nodup) : ∃ M : List Nat, fSorted (.ref l) S = .ok (.ref S.length) (S ++ [.lst (intsN M)]) ∧ M.Perm L ∧ M.Pairwise (· < ·) := by
  have pm := sortI_perm (L.map fun (i : Nat) => (i : Int))
  have bk : ∃ M : List Nat, sortI (L.map fun (i : Nat) => (i : Int)) = M.map fun (i : Nat) => (i : Int) := by
    have key : ∀ l : List Int, (∀ x ∈ l, 0 ≤ x) → ∃ M : List Nat, l = M.map fun (i : Nat) => (i : Int) := by
      intro l
      induction l with
      | nil => intro _; exact ⟨[], rfl⟩
      | cons a l ih =>
        intro ha
        obtain ⟨M, rfl⟩ := ih fun x hx => ha x (List.mem_cons_of_mem _ hx)
        obtain ⟨n, rfl⟩ := Int.eq_ofNat_of_zero_le (ha a List.mem_cons_self)
        exact ⟨n :: M, rfl⟩
    refine key _ fun x hx => ?_
    obtain ⟨q, _, e⟩ := List.mem_map.mp (pm.mem_iff.mp hx)
    omega
  obtain ⟨M, hM⟩ := bk
  have nd2 : (L.map fun (i : Nat) => (i : Int)).Nodup := List.Pairwise.map _ (fun a b (h : a ≠ b) => by omega) nd
  have lt := sortI_lt nd2
  rw [hM] at pm lt
  rw [List.pairwise_map] at lt
  refine ⟨M, ?_, perm_unmap (fun a b h => by omega) pm, lt.imp fun {a b} z => by omega⟩
  unfold fSorted
  dsimp only
  rw [h]
  dsimp only
  rw [intsN, intsN_int, intsD_map]
  dsimp only
  rw [hM, ← intsN_int]
/-! ### rising rows are told by what is in them -/
theorem ltN_ext : ∀ {l m : List (Nat × Nat)}, l.Pairwise ltN → m.Pairwise ltN → (∀ x, x ∈ l ↔ x ∈ m) → l = m
  | [], [], _, _, _ => rfl
  | [], b :: m, _, _, h => absurd ((h b).mpr List.mem_cons_self) (by simp)
  | a :: l, [], _, _, h => absurd ((h a).mp List.mem_cons_self) (by simp)
  | a :: l, b :: m, h1, h2, h => by
    rw [List.pairwise_cons] at h1 h2
    have irr : ∀ x y : Nat × Nat, ltN x y → ltN y x → False := fun x y p q => by unfold ltN at p q; omega
    have e : a = b := by
      rcases List.mem_cons.mp ((h a).mp List.mem_cons_self) with e | e
      · exact e
      · rcases List.mem_cons.mp ((h b).mpr List.mem_cons_self) with e2 | e2
        · exact e2.symm
        · exact (irr _ _ (h1.1 b e2) (h2.1 a e)).elim
    subst e
    have self : ∀ x, ltN x x → False := fun x p => irr x x p p
    rw [ltN_ext h1.2 h2.2 fun x => ?_]
    constructor
    · intro hx
      rcases List.mem_cons.mp ((h x).mp (List.mem_cons_of_mem _ hx)) with e | e
      · exact (self a (e ▸ h1.1 x hx)).elim
      · exact e
    · intro hx
      rcases List.mem_cons.mp ((h x).mpr (List.mem_cons_of_mem _ hx)) with e | e
      · exact (self a (e ▸ h2.1 x hx)).elim
      · exact e
theorem nat_ext : ∀ {l m : List Nat}, l.Pairwise (· < ·) → m.Pairwise (· < ·) → (∀ x, x ∈ l ↔ x ∈ m) → l = m
  | [], [], _, _, _ => rfl
  | [], b :: m, _, _, h => absurd ((h b).mpr List.mem_cons_self) (by simp)
  | a :: l, [], _, _, h => absurd ((h a).mp List.mem_cons_self) (by simp)
  | a :: l, b :: m, h1, h2, h => by
    rw [List.pairwise_cons] at h1 h2
    have e : a = b := by
      rcases List.mem_cons.mp ((h a).mp List.mem_cons_self) with e | e
      · exact e
      · rcases List.mem_cons.mp ((h b).mpr List.mem_cons_self) with e2 | e2
        · exact e2.symm
        · have := h1.1 b e2; have := h2.1 a e; omega
    subst e
    rw [nat_ext h1.2 h2.2 fun x => ?_]
    constructor
    · intro hx
      rcases List.mem_cons.mp ((h x).mp (List.mem_cons_of_mem _ hx)) with e | e
      · have := h1.1 x hx; omega
      · exact e
    · intro hx
      rcases List.mem_cons.mp ((h x).mpr (List.mem_cons_of_mem _ hx)) with e | e
      · have := h2.1 x hx; omega
      · exact e
theorem ltN_nodup {l : List (Nat × Nat)} (h : l.Pairwise ltN) : l.Nodup := h.imp fun {a b} z e => by subst e; unfold ltN at z; omega
theorem lt_nodup {l : List Nat} (h : l.Pairwise (· < ·)) : l.Nodup := h.imp fun {a b} z e => by omega
end WkL


set_option Elab.async false
set_option linter.all false
set_option maxRecDepth 100000
set_option maxHeartbeats 1000000
set_option autoImplicit false
/-! PvComp: comprehensions over rows of things. -/
namespace WkL
open PySem (Str)
open Wk
section
variable {c : Chk} {g : Tg} {t : FT} {e : FE} {sw : Env} {α : Type}
/-- a comprehension over things laid by dg whose test and element keep the store -/
theorem compL_on {S : Store} {dg : α → D} {p : α → Bool} {f : α → D} (hc : okC c S = true) : ∀ L : List α, (∀ a ∈ L, ∃ s1, gF g (dg a) sw = some s1 ∧ t s1 S = .ok (p a) S ∧ (p a = true → e s1 S = .ok (f a) S)) →
    compL c g t e sw (L.map dg) S = .ok ((L.filter p).map f) S
  | [], _ => by unfold List.map compL; rw [if_pos hc]; rfl
  | a :: L, h => by
    obtain ⟨s1, e1, e2, e3⟩ := h a List.mem_cons_self
    have ih := compL_on hc L fun x hx => h x (List.mem_cons_of_mem _ hx)
    rw [List.map_cons]
    unfold compL
    rw [if_pos hc, e1]
    dsimp only
    rw [e2, Res.bind_ok]
    cases hp : p a with
    | true => rw [if_pos rfl, e3 hp, Res.bind_ok, ih, Res.bind_ok, List.filter_cons, hp]; rfl
    | false => rw [if_neg (by decide), ih, List.filter_cons, hp]; rfl
/-- .. that keep a statement of the store -/
theorem compL_onI {dg : α → D} {p : α → Bool} {f : α → D} (I : Store → Prop) (hc : ∀ T, I T → okC c T = true) : ∀ L : List α, (∀ a ∈ L, ∀ T, I T → ∃ s1 T1, gF g (dg a) sw = some s1 ∧ t s1 T = .ok (p a) T1 ∧ I T1 ∧ (p a = true → ∃ T2, e s1 T1 = .ok (f a) T2 ∧ I T2)) →
    ∀ T, I T → ∃ T', compL c g t e sw (L.map dg) T = .ok ((L.filter p).map f) T' ∧ I T'
  | [], _, T, i => ⟨T, by unfold List.map compL; rw [if_pos (hc T i)]; rfl, i⟩
  | a :: L, h, T, i => by
    obtain ⟨s1, T1, e1, e2, i1, e3⟩ := h a List.mem_cons_self T i
    rw [List.map_cons]
    unfold compL
    rw [if_pos (hc T i), e1]
    dsimp only
    rw [e2, Res.bind_ok]
    cases hp : p a with
    | true =>
      obtain ⟨T2, e4, i2⟩ := e3 hp
      obtain ⟨T3, e5, i3⟩ := compL_onI I hc L (fun x hx => h x (List.mem_cons_of_mem _ hx)) T2 i2
      exact ⟨T3, by rw [if_pos rfl, e4, Res.bind_ok, e5, Res.bind_ok, List.filter_cons, hp]; rfl, i3⟩
    | false =>
      obtain ⟨T3, e5, i3⟩ := compL_onI I hc L (fun x hx => h x (List.mem_cons_of_mem _ hx)) T1 i1
      exact ⟨T3, by rw [if_neg (by decide), e5, List.filter_cons, hp]; rfl, i3⟩
end
theorem rngD_on (n : Nat) : rngD 0 (n : Int) = (List.range n).map fun (i : Nat) => D.int (i : Int) := rngD_nat n
theorem fD_ix {c : Sch} {f : Nat} {q : Nat × Nat} (h : c.fs[f]? = some q) (S : Store) : oIx (.tup (c.fs.map fD)) (.int (f : Int)) S = .ok (fD q) S := by
  rw [oIx_tup, atI_nat, List.getElem?_map, h]; rfl
end WkL


set_option Elab.async false
set_option linter.all false
set_option maxRecDepth 100000
set_option maxHeartbeats 1000000
set_option autoImplicit false
/-! PvIx: places of schemas; lists and tuples put together; loops that end. -/
namespace WkL
open PySem (Str)
open Wk
theorem sch_ix0 (c : Sch) (S : Store) : oIx c.d (.int 0) S = .ok (.int (c.h : Int)) S := by unfold Sch.d; simp
theorem sch_ix1 (c : Sch) (S : Store) : oIx c.d (.int 1) S = .ok (.int (c.k : Int)) S := by unfold Sch.d; simp
theorem sch_ix2 (c : Sch) (S : Store) : oIx c.d (.int 2) S = .ok (.tup (c.fs.map fD)) S := by unfold Sch.d; simp
theorem oAdd_lsts {S : Store} {l m : Nat} {a b : List D} (h : S[l]? = some (.lst a)) (k : S[m]? = some (.lst b)) (hz : a.length + b.length ≤ LIM) : oAdd (.ref l) (.ref m) S = .ok (.ref S.length) (S ++ [.lst (a ++ b)]) := by
  unfold oAdd; dsimp only; rw [h, k]; dsimp only; rw [if_pos hz]
theorem oAdd_tups (a b : List D) (S : Store) (hz : a.length + b.length ≤ LIM) : oAdd (.tup a) (.tup b) S = .ok (.tup (a ++ b)) S := if_pos hz
theorem oMul_lst {S : Store} {l : Nat} {a : List D} (h : S[l]? = some (.lst a)) (k : Nat) (hk : k ≤ 1000) (hz : a.length ≤ 1000) : oMul (.ref l) (.int (k : Int)) S = .ok (.ref S.length) (S ++ [.lst (List.replicate k a).flatten]) := by
  unfold oMul; dsimp only; rw [h]; dsimp only
  have a1 : a.length * k ≤ 1000 * 1000 := Nat.mul_le_mul hz hk
  rw [if_pos ⟨by omega, by omega, by rw [LIM_val, Int.toNat_natCast]; omega⟩, Int.toNat_natCast]
def resD (o : Option Nat) (d : D) (T : Store) : Res D := match o with
  | some n => .ex "TooMany" (.int (n : Int)) T
  | none => .ok d T
theorem compL_nil {c : Chk} {g : Tg} {t : FT} {e : FE} {sw : Env} {S : Store} (h : okC c S = true) : compL c g t e sw [] S = .ok [] S := by
  unfold compL; rw [if_pos h]
theorem compL_cons {c : Chk} {g : Tg} {t : FT} {e : FE} {sw s1 : Env} {S S1 S2 : Store} {d y : D} {ds : List D} (h : okC c S = true) (hg : gF g d sw = some s1) (ht : t s1 S = .ok true S1) (he : e s1 S1 = .ok y S2) :
    compL c g t e sw (d :: ds) S = (compL c g t e sw ds S2).bind fun ys S3 => .ok (y :: ys) S3 := by
  conv => lhs; unfold compL
  rw [if_pos h, hg]
  dsimp only
  rw [ht, Res.bind_ok, if_pos rfl, he, Res.bind_ok]
theorem forL_ex {c : Chk} {g : Tg} {b : FS} {s s1 s2 : Env} {S S2 : Store} {d w : D} {k : String} {ds : List D} (h : okC c S = true) (hg : gF g d s = some s1) (hb : b s1 S = .ex k w s2 S2) : forL c g b (d :: ds) s S = .ex k w s2 S2 := by
  conv => lhs; unfold forL
  rw [if_pos h, hg]
  dsimp only
  rw [hb]
theorem cut_to (xs : List D) (m : Nat) : cutD xs none (some (m : Int)) = xs.take m := by
  unfold cutD slIx
  dsimp only
  rw [if_pos (Int.natCast_nonneg m)]
  simp
end WkL


set_option Elab.async false
set_option linter.all false
set_option maxRecDepth 100000
set_option autoImplicit false
/-! PvBfs: a queue of kinds with their lengths, plain lists. -/
namespace WkL
open PySem (Str)
open Wk
theorem nodup_lt_len : ∀ {k : Nat} {l : List Nat}, l.Nodup → (∀ v ∈ l, v < k) → l.length ≤ k
  | 0, [], _, _ => Nat.le_refl _
  | 0, v :: l, _, h => absurd (h v List.mem_cons_self) (Nat.not_lt_zero _)
  | k + 1, l, nd, h => by
    have e := List.length_erase (a := k) (l := l)
    have ih := nodup_lt_len (k := k) (l := l.erase k) (nd.erase k) (fun v hv => by
      have hm := (List.Nodup.mem_erase_iff nd).mp hv
      have := h v hm.2
      have := hm.1
      omega)
    split at e <;> omega
abbrev As := List (Nat × Nat)
abbrev keysA (A : As) : List Nat := A.map (·.1)
theorem as_uniq {A : As} (nd : (keysA A).Nodup) {v n m : Nat} (h : (v, n) ∈ A) (k : (v, m) ∈ A) : n = m := by
  induction A with
  | nil => cases h
  | cons p A ih =>
    rw [keysA, List.map_cons, List.nodup_cons] at nd
    rcases List.mem_cons.mp h with e | h1
    · rcases List.mem_cons.mp k with e2 | k1
      · rw [← e] at e2; cases e2; rfl
      · exact absurd (List.mem_map.mpr ⟨_, k1, by rw [← e]⟩) nd.1
    · rcases List.mem_cons.mp k with e2 | k1
      · exact absurd (List.mem_map.mpr ⟨_, h1, by rw [← e2]⟩) nd.1
      · exact ih nd.2 h1 k1
theorem mem_keys {A : As} {v : Nat} : v ∈ keysA A ↔ ∃ n, (v, n) ∈ A := by
  constructor
  · intro h
    obtain ⟨⟨a, n⟩, h1, rfl⟩ := List.mem_map.mp h
    exact ⟨n, h1⟩
  · rintro ⟨n, h⟩
    exact List.mem_map.mpr ⟨_, h, rfl⟩
structure BfsI (fs : List (Nat × Nat)) (src : Nat → Prop) (k : Nat) (A : As) (W : List Nat) (pend : Nat → Nat → Prop) : Prop where
  nd : (keysA A).Nodup
  lt : ∀ v n, (v, n) ∈ A → v < k
  sound : ∀ v n, (v, n) ∈ A → Rch fs src n v
  src0 : ∀ v, src v → (v, 0) ∈ A
  inW : ∀ w ∈ W, w ∈ keysA A
  clo : ∀ v n x, (v, n) ∈ A → v ∉ W → (v, x) ∈ fs → (∃ m, (x, m) ∈ A ∧ m ≤ n + 1) ∨ pend v x
  up : ∀ v n w m, (v, n) ∈ A → w ∈ W → (w, m) ∈ A → n ≤ m + 1
  srt : W.Pairwise fun w w' => ∀ m m', (w, m) ∈ A → (w', m') ∈ A → m ≤ m'
structure BfsU (A : As) (W : List Nat) (u nu : Nat) : Prop where
  hu : (u, nu) ∈ A
  all : ∀ v n, (v, n) ∈ A → n ≤ nu + 1
  low : ∀ w m, w ∈ W → (w, m) ∈ A → nu ≤ m
section
variable {fs : List (Nat × Nat)} {src : Nat → Prop} {k : Nat} {A : As} {W : List Nat} {pend pend' : Nat → Nat → Prop} {u nu : Nat}
theorem BfsI.len (I : BfsI fs src k A W pend) : A.length ≤ k := by
  have := nodup_lt_len I.nd (fun v hv => let ⟨n, h⟩ := mem_keys.mp hv; I.lt v n h)
  simpa using this
theorem BfsI.start {ks : List Nat} (nd : ks.Nodup) (hk : ∀ v ∈ ks, v < k) : BfsI fs (fun v => v ∈ ks) k (ks.map fun v => (v, 0)) ks fun _ _ => False where
  nd := by simpa [Function.comp_def] using nd
  lt := fun v n h => by
    obtain ⟨a, h1, e⟩ := List.mem_map.mp h
    cases e; exact hk _ h1
  sound := fun v n h => by
    obtain ⟨a, h1, e⟩ := List.mem_map.mp h
    cases e; exact h1
  src0 := fun v h => List.mem_map.mpr ⟨v, h, rfl⟩
  inW := fun w h => mem_keys.mpr ⟨0, List.mem_map.mpr ⟨w, h, rfl⟩⟩
  clo := fun v n x h nW _ => by
    obtain ⟨a, h1, e⟩ := List.mem_map.mp h
    cases e; exact absurd h1 nW
  up := fun v n w m h _ _ => by
    obtain ⟨a, h1, e⟩ := List.mem_map.mp h
    cases e; omega
  srt := by
    refine List.Pairwise.imp (R := fun _ _ => True) ?_ (by simp [List.pairwise_iff_getElem])
    intro a b _ m m' h _
    obtain ⟨_, _, e⟩ := List.mem_map.mp h
    cases e; omega
theorem BfsI.pop (I : BfsI fs src k A (u :: W) fun _ _ => False) : ∃ nu, BfsI fs src k A W (fun v x => v = u ∧ (v, x) ∈ fs) ∧ BfsU A W u nu := by
  obtain ⟨nu, hu⟩ := mem_keys.mp (I.inW u List.mem_cons_self)
  have sr := List.pairwise_cons.mp I.srt
  refine ⟨nu, ⟨I.nd, I.lt, I.sound, I.src0, fun w hw => I.inW w (List.mem_cons_of_mem _ hw), fun v n x h nW e => ?_, fun v n w m h hw hm => I.up v n w m h (List.mem_cons_of_mem _ hw) hm, sr.2⟩, ⟨hu, fun v n h => I.up v n u nu h List.mem_cons_self hu, fun w m hw hm => sr.1 w hw nu m hu hm⟩⟩
  by_cases q : v = u
  · exact .inr ⟨q, e⟩
  · rcases I.clo v n x h (fun z => (List.mem_cons.mp z).elim q nW) e with z | z
    · exact .inl z
    · exact z.elim
theorem BfsI.skip (I : BfsI fs src k A W pend) (h : ∀ v n x, (v, n) ∈ A → pend v x → (∃ m, (x, m) ∈ A ∧ m ≤ n + 1) ∨ pend' v x) : BfsI fs src k A W pend' :=
  ⟨I.nd, I.lt, I.sound, I.src0, I.inW, fun v n x hv nW e => (I.clo v n x hv nW e).elim .inl (h v n x hv), I.up, I.srt⟩
theorem BfsI.add (I : BfsI fs src k A W pend) (U : BfsU A W u nu) {t : Nat} (e : (u, t) ∈ fs) (nt : t ∉ keysA A) (ht : t < k) : BfsI fs src k (A ++ [(t, nu + 1)]) (W ++ [t]) pend ∧ BfsU (A ++ [(t, nu + 1)]) (W ++ [t]) u nu := by
  have old : ∀ {v n : Nat}, (v, n) ∈ A ++ [(t, nu + 1)] → (v, n) ∈ A ∨ (v = t ∧ n = nu + 1) := by
    intro v n h
    rcases List.mem_append.mp h with h | h
    · exact .inl h
    · have := List.mem_singleton.mp h
      cases this; exact .inr ⟨rfl, rfl⟩
  have oldK : ∀ {v n : Nat}, v ∈ keysA A → (v, n) ∈ A ++ [(t, nu + 1)] → (v, n) ∈ A := by
    intro v n hk h
    rcases old h with h | ⟨rfl, _⟩
    · exact h
    · exact absurd hk nt
  have all' : ∀ v n, (v, n) ∈ A ++ [(t, nu + 1)] → n ≤ nu + 1 := fun v n h => (old h).elim (U.all v n) fun ⟨_, q⟩ => by omega
  have low' : ∀ w m, w ∈ W ++ [t] → (w, m) ∈ A ++ [(t, nu + 1)] → nu ≤ m := by
    intro w m hw hm
    rcases old hm with h | ⟨_, q⟩
    · rcases List.mem_append.mp hw with z | z
      · exact U.low w m z h
      · have : w = t := by simpa using z
        subst this
        exact absurd (mem_keys.mpr ⟨m, h⟩) nt
    · omega
  refine ⟨⟨?_, ?_, ?_, ?_, ?_, ?_, ?_, ?_⟩, ⟨List.mem_append_left _ U.hu, all', low'⟩⟩
  · rw [keysA, List.map_append, List.nodup_append]
    exact ⟨I.nd, by simp, fun a ha b hb z => by
      have : b = t := by simpa using hb
      subst this; subst z; exact nt ha⟩
  · intro v n h
    rcases old h with h | ⟨rfl, _⟩
    · exact I.lt v n h
    · exact ht
  · intro v n h
    rcases old h with h | ⟨rfl, rfl⟩
    · exact I.sound v n h
    · exact .inr ⟨u, I.sound u nu U.hu, e⟩
  · exact fun v h => List.mem_append_left _ (I.src0 v h)
  · intro w hw
    rw [keysA, List.map_append]
    rcases List.mem_append.mp hw with z | z
    · exact List.mem_append_left _ (I.inW w z)
    · exact List.mem_append_right _ (by simpa using z)
  · intro v n x h nW ex
    rcases old h with h | ⟨rfl, _⟩
    · rcases I.clo v n x h (fun z => nW (List.mem_append_left _ z)) ex with ⟨m, a, b⟩ | z
      · exact .inl ⟨m, List.mem_append_left _ a, b⟩
      · exact .inr z
    · exact absurd (List.mem_append_right _ (by simp)) nW
  · intro v n w m h hw hm
    have := all' v n h
    have := low' w m hw hm
    omega
  · rw [List.pairwise_append]
    refine ⟨?_, by simp, fun a ha b hb m m' hm hm' => ?_⟩
    · refine List.Pairwise.imp_of_mem ?_ I.srt
      intro a b ha hb h m m' hm hm'
      exact h m m' (oldK (I.inW a ha) hm) (oldK (I.inW b hb) hm')
    · have : b = t := by simpa using hb
      subst this
      have q : m' = nu + 1 := by
        rcases old hm' with z | ⟨_, z⟩
        · exact absurd (mem_keys.mpr ⟨m', z⟩) nt
        · exact z
      have := all' a m hm
      omega
/-- with an empty queue the lengths are the distances -/
theorem BfsI.dist (I : BfsI fs src k A [] fun _ _ => False) : (∀ v n, (v, n) ∈ A → IsDist fs src n v) ∧ ∀ v, Reach fs src v → ∃ n, (v, n) ∈ A :=
  dist_of (val := fun v n => (v, n) ∈ A) I.sound (fun v h => ⟨0, I.src0 v h, Nat.le_refl _⟩) (fun a v n h e => (I.clo a n v h (by simp) e).resolve_right id) fun v n m h h' => as_uniq I.nd h h'
end
/-! ### the dict of it -/
def kvA (A : As) : List (Kk × D) := A.map fun p => ((Sum.inl (p.1 : Int) : Kk), D.int (p.2 : Int))
theorem kk_inj {a b : Nat} : (Sum.inl (a : Int) : Kk) = Sum.inl (b : Int) ↔ a = b := by
  constructor
  · intro h
    have := Sum.inl.inj h
    omega
  · rintro rfl; rfl
theorem valD_some {A : As} (nd : (keysA A).Nodup) {v n : Nat} (h : (v, n) ∈ A) : valD (kvA A) (Sum.inl (v : Int)) = some (.int (n : Int)) := by
  induction A with
  | nil => cases h
  | cons p A ih =>
    unfold valD kvA
    rw [List.map_cons, List.find?_cons]
    by_cases q : p.1 = v
    · have : decide ((Sum.inl (p.1 : Int) : Kk) = Sum.inl (v : Int)) = true := decide_eq_true (kk_inj.mpr q)
      rw [this]
      have e := as_uniq nd h (show (v, p.2) ∈ p :: A by rw [← q]; exact List.mem_cons_self)
      rw [e]; rfl
    · have : decide ((Sum.inl (p.1 : Int) : Kk) = Sum.inl (v : Int)) = false := decide_eq_false fun z => q (kk_inj.mp z)
      rw [this]
      rw [keysA, List.map_cons, List.nodup_cons] at nd
      have h' : (v, n) ∈ A := by
        rcases List.mem_cons.mp h with e | e
        · rw [← e] at q; exact absurd rfl q
        · exact e
      exact ih nd.2 h'
theorem valD_none {A : As} {v : Nat} (h : v ∉ keysA A) : valD (kvA A) (Sum.inl (v : Int)) = none := by
  induction A with
  | nil => rfl
  | cons p A ih =>
    unfold valD kvA
    rw [List.map_cons, List.find?_cons]
    rw [keysA, List.map_cons, List.mem_cons, not_or] at h
    have : decide ((Sum.inl (p.1 : Int) : Kk) = Sum.inl (v : Int)) = false := decide_eq_false fun z => h.1 (kk_inj.mp z).symm
    rw [this]
    exact ih h.2
theorem putD_new {A : As} {v n : Nat} (h : v ∉ keysA A) : putD (kvA A) (Sum.inl (v : Int)) (.int (n : Int)) = kvA (A ++ [(v, n)]) := by
  unfold putD
  rw [if_neg]
  · simp [kvA]
  · intro z
    obtain ⟨p, hp, e⟩ := List.any_eq_true.mp z
    obtain ⟨q, hq, rfl⟩ := List.mem_map.mp hp
    have := kk_inj.mp (of_decide_eq_true e)
    exact h (by rw [← this]; exact List.mem_map.mpr ⟨q, hq, rfl⟩)
theorem mergeD_nd : ∀ {B A : As}, (keysA (A ++ B)).Nodup → mergeD (kvA A) (kvA B) = kvA (A ++ B)
  | [], A, _ => by simp [mergeD, kvA]
  | p :: B, A, h => by
    have np : p.1 ∉ keysA A := by
      intro z
      rw [keysA, List.map_append, List.nodup_append] at h
      exact h.2.2 _ z _ (by simp) rfl
    have := mergeD_nd (B := B) (A := A ++ [p]) (by simpa using h)
    unfold mergeD at this ⊢
    unfold kvA at this ⊢
    rw [List.map_cons, List.foldl_cons]
    have e := putD_new (n := p.2) np
    unfold kvA at e
    rw [e]
    simpa using this
section
variable {fs : List (Nat × Nat)} {src : Nat → Prop} {k : Nat} {A : As} {W : List Nat} {pend pend' : Nat → Nat → Prop} {u nu : Nat}
theorem BfsI.edge_in (I : BfsI fs src k A W pend) (U : BfsU A W u nu) {t : Nat} (ht : t ∈ keysA A) (h : ∀ v x, pend v x → pend' v x ∨ (v = u ∧ x = t)) : BfsI fs src k A W pend' :=
  I.skip fun v n x hv hp => by
    rcases h v x hp with z | ⟨rfl, rfl⟩
    · exact .inr z
    · obtain ⟨m, hm⟩ := mem_keys.mp ht
      have := U.all _ m hm
      have e := as_uniq I.nd hv U.hu
      exact .inl ⟨m, hm, by omega⟩
end
/-! ### dicts of the store -/
theorem oInD_some {S : Store} {l : Nat} {kvs : List (Kk × D)} {v : Nat} {d : D} (h : S[l]? = some (.dk kvs)) (e : valD kvs (Sum.inl (v : Int)) = some d) : oInD (.int (v : Int)) (.ref l) S = .ok (.bl true) S := by
  unfold oInD getD; dsimp only; rw [h]; dsimp only [keyD]; rw [e]; rfl
theorem oInD_none {S : Store} {l : Nat} {kvs : List (Kk × D)} {v : Nat} (h : S[l]? = some (.dk kvs)) (e : valD kvs (Sum.inl (v : Int)) = none) : oInD (.int (v : Int)) (.ref l) S = .ok (.bl false) S := by
  unfold oInD getD; dsimp only; rw [h]; dsimp only [keyD]; rw [e]; rfl
theorem oIxD_some {S : Store} {l : Nat} {kvs : List (Kk × D)} {v : Nat} {d : D} (h : S[l]? = some (.dk kvs)) (e : valD kvs (Sum.inl (v : Int)) = some d) : oIxD (.ref l) (.int (v : Int)) S = .ok d S := by
  unfold oIxD getD; dsimp only; rw [h]; dsimp only [keyD]; rw [e]
theorem uSetD_nat {S : Store} {l : Nat} {kvs : List (Kk × D)} {v : Nat} {d : D} (h : S[l]? = some (.dk kvs)) (hz : kvs.length < LIM) : uSetD (.ref l) (.int (v : Int)) d S = some (S.set l (.dk (putD kvs (Sum.inl (v : Int)) d))) := by
  unfold uSetD; dsimp only; rw [h]; dsimp only [keyD]; rw [if_pos hz]
theorem inD_A {S : Store} {l : Nat} {A : As} (nd : (keysA A).Nodup) (h : S[l]? = some (.dk (kvA A))) (v : Nat) : oInD (.int (v : Int)) (.ref l) S = .ok (.bl (decide (v ∈ keysA A))) S := by
  by_cases q : v ∈ keysA A
  · obtain ⟨n, hn⟩ := mem_keys.mp q
    rw [oInD_some h (valD_some nd hn), decide_eq_true q]
  · rw [oInD_none h (valD_none q), decide_eq_false q]
end WkL


set_option Elab.async false
set_option linter.all false
set_option maxRecDepth 100000
set_option maxHeartbeats 1000000
set_option autoImplicit false
/-! PvDict: dicts of things, each with True; dicts by keys that are all different. -/
namespace WkL
open PySem (Str)
open Wk
abbrev nk (v : Nat) : Kk := .inl (v : Int)
abbrev pk (q : Nat × Nat) : List Kk := [.inl (q.1 : Int), .inl (q.2 : Int)]
theorem nk_inj (a b : Nat) (h : nk a = nk b) : a = b := by have := Sum.inl.inj h; omega
theorem pk_inj (a b : Nat × Nat) (h : pk a = pk b) : a = b := by
  injection h with h1 h2
  injection h2 with h3 _
  have e1 := Sum.inl.inj h1
  have e2 := Sum.inl.inj h3
  exact Prod.ext (by omega) (by omega)
@[simp] theorem aStar_eqU (a : FE) (r : FA) (s : Env) (S : Store) : aStar a r s S = (a s S).bind fun x S1 => match seqD S1 x with
  | some xs => (r s S1).bind fun ys S2 => .ok (xs ++ ys) S2
  | none => .bad := rfl
@[simp] theorem seqD_tup (S : Store) (ds : List D) : seqD S (.tup ds) = some ds := rfl
theorem seqD_lstU {S : Store} {l : Nat} {ds : List D} (h : S[l]? = some (.lst ds)) : seqD S (.ref l) = some ds := by
  unfold seqD; dsimp only; rw [h]
section
variable {α κ : Type} [DecidableEq α] [DecidableEq κ]
/-- things as keys, each with True -/
def kvG (k : α → κ) (L : List α) : List (κ × D) := L.map fun v => (k v, D.bl true)
def addG (L : List α) (v : α) : List α := if v ∈ L then L else L ++ [v]
theorem putG {k : α → κ} (hk : ∀ a b, k a = k b → a = b) (L : List α) (v : α) : putD (kvG k L) (k v) (.bl true) = kvG k (addG L v) := by
  have any : ((kvG k L).any fun kv => decide (kv.1 = k v)) = decide (v ∈ L) := by
    rw [Bool.eq_iff_iff, List.any_eq_true, decide_eq_true_iff]
    constructor
    · rintro ⟨x, hx, e⟩
      obtain ⟨w, hw, rfl⟩ := List.mem_map.mp hx
      exact hk _ _ (of_decide_eq_true e) ▸ hw
    · intro h
      exact ⟨_, List.mem_map.mpr ⟨v, h, rfl⟩, decide_eq_true rfl⟩
  unfold putD addG
  rw [any]
  by_cases h : v ∈ L
  · rw [if_pos (decide_eq_true h), if_pos h]
    unfold kvG
    rw [List.map_map]
    apply List.map_congr_left
    intro w _
    simp only [Function.comp_apply]
    split <;> rfl
  · rw [if_neg (by simpa using h), if_neg h]
    unfold kvG
    rw [List.map_append]; rfl
theorem mergeG {k : α → κ} (hk : ∀ a b, k a = k b → a = b) : ∀ (L M : List α), mergeD (kvG k M) (kvG k L) = kvG k (L.foldl addG M)
  | [], M => rfl
  | v :: L, M => by
    show mergeD (putD (kvG k M) (k v) (.bl true)) (kvG k L) = _
    rw [putG hk, mergeG hk L]; rfl
theorem mem_addG {L : List α} {v x : α} : x ∈ addG L v ↔ x ∈ L ∨ x = v := by
  unfold addG
  by_cases h : v ∈ L
  · rw [if_pos h]
    exact ⟨.inl, fun z => z.elim id fun e => e ▸ h⟩
  · rw [if_neg h]; simp
theorem addG_nodup {L : List α} {v : α} (h : L.Nodup) : (addG L v).Nodup := by
  unfold addG
  by_cases q : v ∈ L
  · rw [if_pos q]; exact h
  · rw [if_neg q, List.nodup_append]
    exact ⟨h, by simp, fun a ha b hb e => by simp at hb; subst hb; exact q (e ▸ ha)⟩
theorem addG_len (L : List α) (v : α) : (addG L v).length ≤ L.length + 1 := by
  unfold addG; split <;> simp
theorem fold_addG : ∀ (L M : List α), M.Nodup → (L.foldl addG M).Nodup ∧ (∀ x, x ∈ L.foldl addG M ↔ x ∈ M ∨ x ∈ L) ∧ (L.foldl addG M).length ≤ M.length + L.length
  | [], M, h => ⟨h, fun x => by simp, by simp⟩
  | v :: L, M, h => by
    obtain ⟨h1, h2, h3⟩ := fold_addG L (addG M v) (addG_nodup h)
    refine ⟨h1, fun x => ?_, ?_⟩
    · rw [List.foldl_cons, h2 x, mem_addG, List.mem_cons]
      constructor
      · rintro ((z | z) | z) <;> simp [z]
      · rintro (z | z | z) <;> simp [z]
    · have := addG_len M v
      rw [List.foldl_cons, List.length_cons]; omega
end
theorem sorted_nk {S : Store} {l : Nat} {L : List Nat} (h : S[l]? = some (.dk (kvG nk L))) (nd : L.Nodup) (hz : L.length ≤ 1000000) : ∃ M : List Nat, fSorted (.ref l) S = .ok (.ref S.length) (S ++ [.lst (intsN M)]) ∧ M.Perm L ∧ M.Pairwise (· < ·) := by
  obtain ⟨M, e, pm, lt⟩ := sorted_nats (S := [.lst (intsN L)]) (l := 0) (L := L) rfl nd
  refine ⟨M, ?_, pm, lt⟩
  have ks : (kvG nk L).map (fun kv => kD kv.1) = (L.map fun (f : Nat) => (f : Int)).map D.int := by
    unfold kvG; rw [List.map_map, List.map_map]; rfl
  have e2 : sortI (L.map fun (f : Nat) => (f : Int)) = M.map fun (f : Nat) => (f : Int) := by
    unfold fSorted at e
    dsimp only at e
    rw [show ([Ob.lst (intsN L)] : Store)[0]? = some (.lst (intsN L)) from rfl] at e
    dsimp only at e
    rw [intsN, intsN_int, intsD_map] at e
    dsimp only at e
    injection e with _ e3
    have e4 := List.append_cancel_left e3
    injection e4 with e5 _
    injection e5 with e6
    rw [intsN, intsN_int] at e6
    have inj : ∀ {a b : List Int}, a.map D.int = b.map D.int → a = b := by
      intro a
      induction a with
      | nil => intro b h; cases b with
        | nil => rfl
        | cons _ _ => cases h
      | cons x a ih => intro b h; cases b with
        | nil => cases h
        | cons y b =>
          rw [List.map_cons, List.map_cons] at h
          injection h with h1 h2
          injection h1 with h3
          rw [h3, ih h2]
    exact inj e6
  unfold fSorted
  dsimp only
  rw [h]
  dsimp only
  rw [ks, intsD_map]
  dsimp only
  rw [if_pos (by simp [LIM_val]; omega), e2, ← intsN_int]
theorem sorted_pk {S : Store} {l : Nat} {L : List (Nat × Nat)} (h : S[l]? = some (.dt (kvG pk L))) (nd : L.Nodup) (hz : L.length ≤ 1000000) : ∃ M : List (Nat × Nat), fSorted (.ref l) S = .ok (.ref S.length) (S ++ [.lst (M.map fD)]) ∧ M.Perm L ∧ M.Pairwise ltN := by
  have ks : (kvG pk L).map (fun kv => D.tup (kv.1.map kD)) = L.map fD := by
    unfold kvG; rw [List.map_map]; rfl
  have pm := sortP_perm (L.map prI)
  obtain ⟨qs, hq⟩ := prI_back (l := sortP (L.map prI)) fun x hx => by
    obtain ⟨q, _, e⟩ := List.mem_map.mp (pm.mem_iff.mp hx)
    exact ⟨q, e.symm⟩
  rw [hq] at pm
  have nd2 : (L.map prI).Nodup := List.Pairwise.map _ (fun a b (h : a ≠ b) z => h (prI_inj z)) nd
  have lt := sortP_lt nd2
  rw [hq, List.pairwise_map] at lt
  refine ⟨qs, ?_, perm_unmap (fun _ _ => prI_inj) pm, lt.imp fun {a b} z => ?_⟩
  · unfold fSorted
    dsimp only
    rw [h]
    dsimp only
    rw [ks, prsD_fD]
    dsimp only
    rw [if_pos (by simp [LIM_val]; omega), hq, List.map_map]
    rfl
  · have := ltPr_yes.mp z
    unfold ltN
    simp only at this
    omega
/-! ### dict comprehensions over rows -/
section
variable {c : Chk} {g : Tg} {fk fe : FE} {sw : Env} {α : Type}
theorem compD_on {S : Store} {dg : α → D} {k : α → Kk} {f : α → D} (hc : okC c S = true) : ∀ L : List α, (∀ a ∈ L, ∃ s1, gF g (dg a) sw = some s1 ∧ (∃ x, fk s1 S = .ok x S ∧ keyD x = some (k a)) ∧ fe s1 S = .ok (f a) S) →
    compD c g tTrue fk fe sw (L.map dg) S = .ok (L.map fun a => (k a, f a)) S
  | [], _ => by unfold List.map compD; rw [if_pos hc]
  | a :: L, h => by
    obtain ⟨s1, e1, ⟨x, e2, e3⟩, e4⟩ := h a List.mem_cons_self
    have ih := compD_on hc L fun x hx => h x (List.mem_cons_of_mem _ hx)
    rw [List.map_cons]
    unfold compD
    rw [if_pos hc, e1]
    dsimp only
    rw [tTrue_eq, Res.bind_ok, if_pos rfl, e2, Res.bind_ok, e4, Res.bind_ok, e3]
    dsimp only
    rw [ih]; rfl
theorem compT_on {S : Store} {dg : α → D} {k : α → List Kk} {f : α → D} (hc : okC c S = true) : ∀ L : List α, (∀ a ∈ L, ∃ s1, gF g (dg a) sw = some s1 ∧ (∃ x, fk s1 S = .ok x S ∧ keyT x = some (k a)) ∧ fe s1 S = .ok (f a) S) →
    compT c g tTrue fk fe sw (L.map dg) S = .ok (L.map fun a => (k a, f a)) S
  | [], _ => by unfold List.map compT; rw [if_pos hc]
  | a :: L, h => by
    obtain ⟨s1, e1, ⟨x, e2, e3⟩, e4⟩ := h a List.mem_cons_self
    have ih := compT_on hc L fun x hx => h x (List.mem_cons_of_mem _ hx)
    rw [List.map_cons]
    unfold compT
    rw [if_pos hc, e1]
    dsimp only
    rw [tTrue_eq, Res.bind_ok, if_pos rfl, e2, Res.bind_ok, e4, Res.bind_ok, e3]
    dsimp only
    rw [ih]; rfl
end
theorem compD_noT {c : Chk} {g : Tg} {fk fe : FE} {sw : Env} {S : Store} {d : D} {ds : List D} {s1 : Env} {x v : D} (hc : okC c S = true) (h1 : gF g d sw = some s1) (h2 : fk s1 S = .ok x S) (h3 : fe s1 S = .ok v S) (h4 : keyD x = none) : compD c g tTrue fk fe sw (d :: ds) S = .bad := by
  unfold compD
  rw [if_pos hc, h1]
  dsimp only
  rw [tTrue_eq, Res.bind_ok, if_pos rfl, h2, Res.bind_ok, h3, Res.bind_ok, h4]
@[simp] theorem orG_ok (d : D) (S : Store) (q : Res D) : orG (.ok d S) q = .ok d S := rfl
@[simp] theorem orG_bad (q : Res D) : orG .bad q = q := rfl
section
variable {κ : Type} [DecidableEq κ]
theorem putK_new {kvs : List (κ × D)} {k : κ} {v : D} (h : k ∉ kvs.map (·.1)) : putD kvs k v = kvs ++ [(k, v)] := by
  unfold putD
  have : (kvs.any fun kv => decide (kv.1 = k)) = false := by
    rw [Bool.eq_false_iff]
    intro z
    rw [List.any_eq_true] at z
    obtain ⟨x, hx, e⟩ := z
    exact h (List.mem_map.mpr ⟨x, hx, of_decide_eq_true e⟩)
  rw [this]; rfl
theorem mergeK_new : ∀ (more kvs : List (κ × D)), ((kvs ++ more).map (·.1)).Nodup → mergeD kvs more = kvs ++ more
  | [], kvs, _ => by simp [mergeD]
  | kv :: more, kvs, h => by
    have hk : kv.1 ∉ kvs.map (·.1) := by
      rw [List.map_append, List.nodup_append] at h
      intro z
      exact h.2.2 _ z _ (by simp) rfl
    show mergeD (putD kvs kv.1 kv.2) more = _
    rw [putK_new hk, mergeK_new more (kvs ++ [(kv.1, kv.2)]) (by simpa using h)]
    simp
theorem valK_mem : ∀ {kvs : List (κ × D)} {k : κ} {v : D}, (kvs.map (·.1)).Nodup → (k, v) ∈ kvs → valD kvs k = some v
  | [], _, _, _, h => by simp at h
  | kv :: kvs, k, v, nd, h => by
    rw [List.map_cons, List.nodup_cons] at nd
    unfold valD
    rw [List.find?_cons]
    rcases List.mem_cons.mp h with e | e
    · rw [← e]; simp
    · have : ¬ kv.1 = k := fun z => nd.1 (List.mem_map.mpr ⟨_, e, z.symm⟩)
      rw [decide_eq_false this]
      exact valK_mem nd.2 e
end
theorem oIxD_dk {S : Store} {l : Nat} {kvs : List (Kk × D)} {d v : D} {k : Kk} (h : S[l]? = some (.dk kvs)) (hk : keyD d = some k) (hv : valD kvs k = some v) : oIxD (.ref l) d S = .ok v S := by
  unfold oIxD getD
  dsimp only
  rw [h]
  dsimp only
  rw [hk]
  dsimp only
  rw [hv]
/-- keys told by number, with numbers -/
def kvT (n : Nat) (key val : Nat → Nat) : List (Kk × D) := (List.range n).map fun i => (nk (key i), D.int (val i : Int))
theorem kvT_nodup {n : Nat} {key val : Nat → Nat} (hk : ∀ i j, i < n → j < n → key i = key j → i = j) : ((kvT n key val).map (·.1)).Nodup := by
  unfold kvT
  rw [List.map_map]
  rw [List.Nodup, List.pairwise_map]
  refine (List.nodup_range (n := n)).imp_of_mem fun {a b} ha hb hne z => hne (hk a b (List.mem_range.mp ha) (List.mem_range.mp hb) (nk_inj _ _ z))
theorem kvT_merge {n : Nat} {key val : Nat → Nat} (hk : ∀ i j, i < n → j < n → key i = key j → i = j) : mergeD [] (kvT n key val) = kvT n key val := by
  rw [mergeK_new _ _ (by simpa using kvT_nodup (val := val) hk)]; rfl
theorem kvT_get {S : Store} {l n : Nat} {key val : Nat → Nat} (hk : ∀ i j, i < n → j < n → key i = key j → i = j) (h : S[l]? = some (.dk (kvT n key val))) {i : Nat} (hi : i < n) : oIxD (.ref l) (.int (key i : Int)) S = .ok (.int (val i : Int)) S :=
  oIxD_dk h rfl (valK_mem (kvT_nodup hk) (List.mem_map.mpr ⟨i, List.mem_range.mpr hi, rfl⟩))
theorem pairsD_kvT (key val : Nat → Nat) : ∀ L : List Nat, pairsD (L.map fun i => D.tup [.int (key i : Int), .int (val i : Int)]) = some (L.map fun i => (nk (key i), D.int (val i : Int)))
  | [] => rfl
  | i :: L => by
    rw [List.map_cons]
    unfold pairsD
    rw [pairsD_kvT key val L]
    rfl
theorem fDict_kvT {S : Store} {l n : Nat} {key val : Nat → Nat} (hk : ∀ i j, i < n → j < n → key i = key j → i = j) (h : S[l]? = some (.lst ((List.range n).map fun i => D.tup [.int (key i : Int), .int (val i : Int)]))) : fDict (.ref l) S = .ok (.ref S.length) (S ++ [.dk (kvT n key val)]) := by
  unfold fDict
  dsimp only
  rw [h]
  dsimp only
  rw [pairsD_kvT]
  dsimp only
  rw [show ((List.range n).map fun i => (nk (key i), D.int (val i : Int))) = kvT n key val from rfl, kvT_merge hk]
end WkL


set_option Elab.async false
set_option linter.all false
set_option maxRecDepth 100000
set_option maxHeartbeats 1000000
set_option autoImplicit false
/-! PvAny: any things as schemas: what is refused. -/
namespace WkL
open PySem (Str)
open Wk
/-- things whose types are known, to a depth -/
def Ty (S : Store) : Nat → D → Prop
  | _, .ref l => ∃ ds, S[l]? = some (.lst ds)
  | 0, .tup _ => False
  | n + 1, .tup xs => ∀ x ∈ xs, Ty S n x
  | _, _ => True
theorem Ty.mono {S : Store} : ∀ {n m : Nat} {x : D}, Ty S n x → n ≤ m → Ty S m x
  | n, m, .non, _, _ => by cases m <;> exact True.intro
  | n, m, .bl _, _, _ => by cases m <;> exact True.intro
  | n, m, .int _, _, _ => by cases m <;> exact True.intro
  | n, m, .str _, _, _ => by cases m <;> exact True.intro
  | n, m, .frz _, _, _ => by cases m <;> exact True.intro
  | n, m, .ref l, h, _ => by
    have h' : ∃ ds, S[l]? = some (.lst ds) := by cases n <;> exact h
    cases m <;> exact h'
  | 0, m, .tup xs, h, _ => (show False from h).elim
  | n + 1, m, .tup xs, h, q => by
    obtain ⟨m, rfl⟩ : ∃ k, m = k + 1 := ⟨m - 1, by omega⟩
    exact fun x hx => Ty.mono (h x hx) (by omega)
theorem Ty.keep {S T : Store} (K : Keep [] S T) : ∀ {n : Nat} {x : D}, Ty S n x → Ty T n x
  | n, .non, _ => by cases n <;> exact True.intro
  | n, .bl _, _ => by cases n <;> exact True.intro
  | n, .int _, _ => by cases n <;> exact True.intro
  | n, .str _, _ => by cases n <;> exact True.intro
  | n, .frz _, _ => by cases n <;> exact True.intro
  | n, .ref l, h => by
    have h' : ∃ ds, S[l]? = some (.lst ds) := by cases n <;> exact h
    obtain ⟨ds, e⟩ := h'
    have := K.get e (by simp)
    cases n <;> exact ⟨ds, this⟩
  | 0, .tup xs, h => (show False from h).elim
  | n + 1, .tup xs, h => fun x hx => Ty.keep K (h x hx)
theorem Ty.reft {S : Store} {n l : Nat} (h : Ty S n (.ref l)) : tyD S (.ref l) = some "list" := by
  have h' : ∃ ds, S[l]? = some (.lst ds) := by cases n <;> exact h
  obtain ⟨ds, e⟩ := h'
  exact tyD_lst e
/-- a whole number in these bounds -/
def wholeB (x : D) (lo hi : Int) : Bool := match x with
  | .int i => decide (lo ≤ i) && decide (i ≤ hi)
  | _ => false
theorem whole_int {x : D} {lo hi : Int} (h : wholeB x lo hi = true) : ∃ i : Int, x = .int i ∧ lo ≤ i ∧ i ≤ hi := by
  cases x with
  | int i => exact ⟨i, rfl, by simpa [wholeB] using h⟩
  | _ => cases h
@[simp] theorem tyD_frz (S : Store) (b : List D) : tyD S (.frz b) = some "list" := rfl
theorem is_whole_any {S : Store} {n : Nat} {x : D} (h : Ty S n x) (lo hi : Int) : F_is_whole [x, .int lo, .int hi] S = .ok (.bl (wholeB x lo hi)) S := by
  cases x with
  | int i => rw [is_whole_in]; rfl
  | ref l => simp [F_is_whole, mkF, startE, h.reft, isTy, wholeB]
  | non => simp [F_is_whole, mkF, startE, isTy, wholeB]
  | bl b => simp [F_is_whole, mkF, startE, isTy, wholeB]
  | str b => simp [F_is_whole, mkF, startE, isTy, wholeB]
  | tup b => simp [F_is_whole, mkF, startE, isTy, wholeB]
  | frz b => simp [F_is_whole, mkF, startE, isTy, wholeB]
theorem wf_is_any {S : Store} {n : Nat} {x : D} (h : Ty S n x) (lo hi : Int) : F__law_wf_is [x, .int lo, .int hi] S = .ok (.bl (wholeB x lo hi)) S := by
  cases x with
  | int i =>
    by_cases h : lo ≤ i <;> simp [F__law_wf_is, mkF, startE, isTy, h, wholeB]
  | ref l => simp [F__law_wf_is, mkF, startE, h.reft, isTy, wholeB]
  | non => simp [F__law_wf_is, mkF, startE, isTy, wholeB]
  | bl b => simp [F__law_wf_is, mkF, startE, isTy, wholeB]
  | str b => simp [F__law_wf_is, mkF, startE, isTy, wholeB]
  | tup b => simp [F__law_wf_is, mkF, startE, isTy, wholeB]
  | frz b => simp [F__law_wf_is, mkF, startE, isTy, wholeB]
/-- a tuple of so many -/
def rowB (x : D) (n : Nat) : Bool := match x with
  | .tup xs => decide (xs.length = n)
  | _ => false
theorem row_tup {x : D} {n : Nat} (h : rowB x n = true) : ∃ xs, x = .tup xs ∧ xs.length = n := by
  cases x with
  | tup xs => exact ⟨xs, rfl, of_decide_eq_true h⟩
  | _ => cases h
theorem is_row_any {S : Store} {n : Nat} {x : D} (h : Ty S n x) (m : Nat) : F_is_row [x, .int (m : Int)] S = .ok (.bl (rowB x m)) S := by
  cases x with
  | tup xs =>
    rw [is_row_tup]
    have : ((xs.length : Int) == (m : Int)) = decide (xs.length = m) := by
      rw [Bool.eq_iff_iff]; simp; omega
    rw [this]; rfl
  | ref l => simp [F_is_row, mkF, startE, h.reft, isTy, rowB]
  | int i => simp [F_is_row, mkF, startE, isTy, rowB]
  | non => simp [F_is_row, mkF, startE, isTy, rowB]
  | bl b => simp [F_is_row, mkF, startE, isTy, rowB]
  | str b => simp [F_is_row, mkF, startE, isTy, rowB]
  | frz b => simp [F_is_row, mkF, startE, isTy, rowB]
def tupB (x : D) : Bool := match x with
  | .tup _ => true
  | _ => false
theorem inst_tup_any {S : Store} {n : Nat} {x : D} (h : Ty S n x) : fIsInst "tuple" x S = .ok (.bl (tupB x)) S := by
  cases x with
  | ref l => simp [h.reft, isTy, tupB]
  | tup xs => simp [isTy, tupB]
  | int i => simp [isTy, tupB]
  | non => simp [isTy, tupB]
  | bl b => simp [isTy, tupB]
  | str b => simp [isTy, tupB]
  | frz b => simp [isTy, tupB]
/-- a field, a pair of kinds -/
def fieldB (x : D) (h k : Int) : Bool := match x with
  | .tup [a, b] => wholeB a 0 (k - 1) && wholeB b h (k - 1)
  | _ => false
theorem is_field_any {S : Store} {n : Nat} {x : D} (t : Ty S (n + 1) x) (h k : Int) : F_is_field [x, .int h, .int k] S = .ok (.bl (fieldB x h k)) S := by
  have r := is_row_any t 2
  cases hb : rowB x 2 with
  | false =>
    rw [hb] at r
    have : fieldB x h k = false := by
      unfold fieldB
      split
      · cases hb
      · rfl
    rw [this]
    have r' : F_is_row [x, .int 2] S = .ok (.bl false) S := r
    simp [F_is_field, mkF, startE, r']
  | true =>
    obtain ⟨xs, rfl, hl⟩ := row_tup hb
    match xs, hl with
    | [a, b], _ =>
      have ta : Ty S n a := t a (by simp)
      have tb : Ty S n b := t b (by simp)
      have e1 := is_whole_any ta 0 (k - 1)
      have e2 := is_whole_any tb h (k - 1)
      unfold fieldB
      cases hw : wholeB a 0 (k - 1) with
      | true => rw [hw] at e1; simp [F_is_field, mkF, startE, e1, e2, hw]
      | false => rw [hw] at e1; simp [F_is_field, mkF, startE, e1, hw]
/-! ### the first wrong thing in a row -/
/-- how a loop ends at a thing -/
theorem forL_find {c : Chk} {g : Tg} {b : FS} {ds : List D} {j : Nat} {r : Rs} (I : Nat → Env → Store → Prop) (hc : ∀ i s S, I i s S → okC c S = true) (hr : (∃ d S, r = .rt d S) ∨ ∃ k w s S, r = .ex k w s S)
    (hs : ∀ i d s S, i < j → ds[i]? = some d → I i s S → ∃ s1 s2 S2, gF g d s = some s1 ∧ (b s1 S = .nx s2 S2 ∨ b s1 S = .ct s2 S2) ∧ I (i + 1) s2 S2)
    (he : ∀ d s S, ds[j]? = some d → I j s S → ∃ s1, gF g d s = some s1 ∧ b s1 S = r) (hj : j < ds.length) :
    ∀ i s S, i ≤ j → I i s S → forL c g b (ds.drop i) s S = r := by
  intro i s S hi h
  have hlt : i < ds.length := by omega
  have ed : ds.drop i = ds[i] :: ds.drop (i + 1) := List.drop_eq_getElem_cons hlt
  have eg : ds[i]? = some ds[i] := List.getElem?_eq_getElem hlt
  rw [ed]
  generalize ds[i] = d at eg
  unfold forL
  rw [if_pos (hc _ _ _ h)]
  by_cases e : i = j
  · subst e
    obtain ⟨s1, e1, e2⟩ := he d s S eg h
    rw [e1]
    dsimp only
    rw [e2]
    rcases hr with ⟨d, S, rfl⟩ | ⟨k, w, s, S, rfl⟩ <;> rfl
  · obtain ⟨s1, s2, S2, e1, e2, h2⟩ := hs i d s S (by omega) eg h
    rw [e1]
    dsimp only
    rcases e2 with e2 | e2 <;> rw [e2] <;> exact forL_find I hc hr hs he hj (i + 1) s2 S2 (by omega) h2
termination_by i => j - i
/-- what is wrong of a schema: the refusal, with what it keeps -/
def wfS (x : D) : Option (String × D) := match x with
  | .tup [h, k, f] => match h with
    | .int hh => if wholeB h 1 6 then (match k with
      | .int kk => if wholeB k hh 24 then (match f with
        | .tup fs => if 40 < fs.length then some ("TooMany", .int (fs.length : Int)) else (match fs.findIdx? (fun d => !fieldB d hh kk) with
          | some j => some ("BadSchema", .tup [.int 2, .int (j : Int)])
          | none => none)
        | _ => some ("BadSchema", .int 2)) else some ("BadSchema", .int 1)
      | _ => some ("BadSchema", .int 1)) else some ("BadSchema", .int 0)
    | _ => some ("BadSchema", .int 0)
  | _ => some ("BadSchema", .int (-1))
def refW (o : Option (String × D)) : D := match o with
  | some (k, w) => .tup [.str (Str.ofString k), w]
  | none => .non
theorem field_int {d : D} {h k : Int} (e : fieldB d h k = true) (h0 : 0 ≤ h) : ∃ q : Nat × Nat, d = fD q ∧ (q.1 : Int) < k ∧ h ≤ (q.2 : Int) ∧ (q.2 : Int) < k := by
  unfold fieldB at e
  split at e
  · rw [Bool.and_eq_true] at e
    obtain ⟨i, rfl, i1, i2⟩ := whole_int e.1
    obtain ⟨j, rfl, j1, j2⟩ := whole_int e.2
    obtain ⟨i, rfl⟩ := Int.eq_ofNat_of_zero_le i1
    obtain ⟨j, rfl⟩ := Int.eq_ofNat_of_zero_le (show 0 ≤ j by omega)
    exact ⟨(i, j), rfl, by show (i : Int) < k; omega, j1, by show (j : Int) < k; omega⟩
  · cases e
/-- what isn't wrong is a schema -/
theorem wfS_none {x : D} (e : wfS x = none) : ∃ c : Sch, c.Ok ∧ x = c.d := by
  unfold wfS at e
  split at e
  · rename_i h k f
    split at e
    · rename_i hh
      split at e
      · rename_i w1
        split at e
        · rename_i kk
          split at e
          · rename_i w2
            split at e
            · rename_i fs
              split at e
              · cases e
              · rename_i l40
                split at e
                · cases e
                · rename_i nf
                  rw [List.findIdx?_eq_none_iff] at nf
                  obtain ⟨_, e1, a1, a2⟩ := whole_int w1
                  cases e1
                  obtain ⟨_, e2, b1, b2⟩ := whole_int w2
                  cases e2
                  obtain ⟨hh, rfl⟩ := Int.eq_ofNat_of_zero_le (show 0 ≤ hh by omega)
                  obtain ⟨kk, rfl⟩ := Int.eq_ofNat_of_zero_le (show 0 ≤ kk by omega)
                  obtain ⟨qs, rfl, hq⟩ := fD_list (P := fun q => q.1 < kk ∧ hh ≤ q.2 ∧ q.2 < kk) (es := fs) fun d hd => by
                    have := nf d hd
                    obtain ⟨q, e, q1, q2, q3⟩ := field_int (d := d) (h := hh) (k := kk) (by simpa using this) (by omega)
                    exact ⟨q, ⟨by omega, by omega, by omega⟩, e⟩
                  exact ⟨⟨hh, kk, qs⟩, ⟨by show 1 ≤ hh; omega, by show hh ≤ 6; omega, by show hh ≤ kk; omega, by show kk ≤ 24; omega, by show qs.length ≤ 40; simpa using l40, hq⟩, rfl⟩
            · cases e
          · cases e
        · cases e
      · cases e
    · cases e
  · cases e
theorem wfS_ok {c : Sch} (hc : c.Ok) : wfS c.d = none := by
  have h1 := hc.h1; have h6 := hc.h6; have hk := hc.hk; have k24 := hc.k24; have f40 := hc.f40
  unfold wfS Sch.d
  have w1 : wholeB (.int (c.h : Int)) 1 6 = true := by simp [wholeB]; omega
  have w2 : wholeB (.int (c.k : Int)) (c.h : Int) 24 = true := by simp [wholeB]; omega
  have nf : (c.fs.map fD).findIdx? (fun d => !fieldB d (c.h : Int) (c.k : Int)) = none := by
    rw [List.findIdx?_eq_none_iff]
    intro d hd
    obtain ⟨q, hq, rfl⟩ := List.mem_map.mp hd
    obtain ⟨q1, q2, q3⟩ := hc.fs q hq
    have : fieldB (fD q) (c.h : Int) (c.k : Int) = true := by
      unfold fieldB fD wholeB
      simp only [Bool.and_eq_true, decide_eq_true_eq]
      omega
    rw [this]; rfl
  dsimp only
  rw [if_pos w1, if_pos w2, if_neg (by simp; omega), nf]
theorem findIdx_some {α : Type} {p : α → Bool} {xs : List α} {j : Nat} (h : xs.findIdx? p = some j) : j < xs.length ∧ (∀ d, xs[j]? = some d → p d = true) ∧ ∀ i d, i < j → xs[i]? = some d → p d = false := by
  rw [List.findIdx?_eq_some_iff_getElem] at h
  obtain ⟨hj, h1, h2⟩ := h
  refine ⟨hj, fun d e => ?_, fun i d hi e => ?_⟩
  · rw [List.getElem?_eq_getElem hj] at e; cases e; exact h1
  · have := h2 i hi
    rw [List.getElem?_eq_getElem (by omega)] at e
    cases e
    simpa using this
theorem made_any {S : Store} {n : Nat} {x : D} (t : Ty S (n + 3) x) {k : String} {w : D} (hw : wfS x = some (k, w)) : F_made_schema [x] S = .ex k w S := by
  have r := is_row_any t 3
  have body : ∀ {r : Rs}, b_made_schema [some x, none, none, none, none, none] S = r → (match r with
    | .nx _ S' => Res.ok D.non S'
    | .rt d S' => .ok d S'
    | .ex c w _ S' => .ex c w S'
    | _ => .bad) = .ex k w S → F_made_schema [x] S = .ex k w S := by
    intro r h h2
    refine (mkF_eq 1 6 _ [x] S rfl).trans ?_
    rw [show startE 6 [x] = [some x, none, none, none, none, none] from rfl, h]
    exact h2
  cases hb : rowB x 3 with
  | false =>
    rw [hb] at r
    have r' : F_is_row [x, .int 3] S = .ok (.bl false) S := r
    have e1 : wfS x = some ("BadSchema", .int (-1)) := by
      unfold wfS
      split
      · cases hb
      · rfl
    rw [e1] at hw
    cases hw
    exact body (r := .ex "BadSchema" (.int (-1)) [some x, none, none, none, none, none] S) (by simp [r']) rfl
  | true =>
    obtain ⟨xs, rfl, hl⟩ := row_tup hb
    match xs, hl with
    | [h, kd, f], _ =>
      have th : Ty S (n + 2) h := t h (by simp)
      have tk : Ty S (n + 2) kd := t kd (by simp)
      have tf : Ty S (n + 2) f := t f (by simp)
      have e1 := is_whole_any th 1 6
      have s1 : (sIf (Wk.tNot (tE (eCall F_is_row (aCons (eV 0) (aCons (eC (.int 3)) aNil))))) (sRaise "BadSchema" (eUn uNeg (eC (.int 1)))) sSkip) [some (.tup [h, kd, f]), none, none, none, none, none] S = .nx [some (.tup [h, kd, f]), none, none, none, none, none] S := by simp
      have s2 : (sAsg (.tp [(.nm 1), (.nm 2), (.nm 3)]) (eV 0)) [some (.tup [h, kd, f]), none, none, none, none, none] S = .nx [some (.tup [h, kd, f]), some h, some kd, some f, none, none] S := by simp
      unfold wfS at hw
      dsimp only at hw
      cases w1 : wholeB h 1 6 with
      | false =>
        rw [w1] at e1 hw
        have : (k, w) = ("BadSchema", D.int 0) := by
          cases h <;> simp at hw <;> exact Prod.ext hw.1.symm hw.2.symm
        cases this
        exact body (r := .ex "BadSchema" (.int 0) [some (.tup [h, kd, f]), some h, some kd, some f, none, none] S) (nx_seq s1 (nx_seq s2 (by simp [e1]))) rfl
      | true =>
        rw [w1] at e1
        obtain ⟨hh, rfl, a1, a2⟩ := whole_int w1
        have e2 := is_whole_any tk hh 24
        have s3 : (sIf (Wk.tNot (tE (eCall F_is_whole (aCons (eV 1) (aCons (eC (.int 1)) (aCons (eC (.int 6)) aNil)))))) (sRaise "BadSchema" (eC (.int 0))) sSkip) [some (.tup [.int hh, kd, f]), some (.int hh), some kd, some f, none, none] S = .nx [some (.tup [.int hh, kd, f]), some (.int hh), some kd, some f, none, none] S := by simp [e1]
        dsimp only at hw
        rw [if_pos w1] at hw
        cases w2 : wholeB kd hh 24 with
        | false =>
          rw [w2] at e2 hw
          have : (k, w) = ("BadSchema", D.int 1) := by
            cases kd <;> simp at hw <;> exact Prod.ext hw.1.symm hw.2.symm
          cases this
          exact body (r := .ex "BadSchema" (.int 1) [some (.tup [.int hh, kd, f]), some (.int hh), some kd, some f, none, none] S) (nx_seq s1 (nx_seq s2 (nx_seq s3 (by simp [e2])))) rfl
        | true =>
          rw [w2] at e2
          obtain ⟨kk, rfl, b1, b2⟩ := whole_int w2
          have s4 : (sIf (Wk.tNot (tE (eCall F_is_whole (aCons (eV 2) (aCons (eV 1) (aCons (eC (.int 24)) aNil)))))) (sRaise "BadSchema" (eC (.int 1))) sSkip) [some (.tup [.int hh, .int kk, f]), some (.int hh), some (.int kk), some f, none, none] S = .nx [some (.tup [.int hh, .int kk, f]), some (.int hh), some (.int kk), some f, none, none] S := by simp [e2]
          have e3 := inst_tup_any tf
          dsimp only at hw
          rw [if_pos w2] at hw
          cases w3 : tupB f with
          | false =>
            rw [w3] at e3
            have : (k, w) = ("BadSchema", D.int 2) := by
              cases f <;> first | (cases w3; done) | (simp at hw; exact Prod.ext hw.1.symm hw.2.symm)
            cases this
            exact body (r := .ex "BadSchema" (.int 2) [some (.tup [.int hh, .int kk, f]), some (.int hh), some (.int kk), some f, none, none] S) (nx_seq s1 (nx_seq s2 (nx_seq s3 (nx_seq s4 (by simp [-fIsInst_eq, e3]))))) rfl
          | true =>
            cases f with
            | tup fs =>
              dsimp only at hw
              have s5 : (sIf (Wk.tNot (tE (eUn (fIsInst "tuple") (eV 3)))) (sRaise "BadSchema" (eC (.int 2))) sSkip) [some (.tup [.int hh, .int kk, .tup fs]), some (.int hh), some (.int kk), some (.tup fs), none, none] S = .nx [some (.tup [.int hh, .int kk, .tup fs]), some (.int hh), some (.int kk), some (.tup fs), none, none] S := by simp [isTy]
              by_cases l40 : 40 < fs.length
              · have l40' : (40 : Int) < (fs.length : Int) := by omega
                rw [if_pos l40] at hw
                cases hw
                exact body (r := .ex "TooMany" (.int (fs.length : Int)) [some (.tup [.int hh, .int kk, .tup fs]), some (.int hh), some (.int kk), some (.tup fs), none, none] S) (nx_seq s1 (nx_seq s2 (nx_seq s3 (nx_seq s4 (nx_seq s5 (by simp [l40'])))))) rfl
              · have l40' : ¬ (40 : Int) < (fs.length : Int) := by omega
                rw [if_neg l40] at hw
                have s6 : (sIf (tE (eOp oGt (eUn fLen (eV 3)) (eC (.int 40)))) (sRaise "TooMany" (eUn fLen (eV 3))) sSkip) [some (.tup [.int hh, .int kk, .tup fs]), some (.int hh), some (.int kk), some (.tup fs), none, none] S = .nx [some (.tup [.int hh, .int kk, .tup fs]), some (.int hh), some (.int kk), some (.tup fs), none, none] S := by simp [l40']
                cases hf : fs.findIdx? (fun d => !fieldB d hh kk) with
                | none => rw [hf] at hw; cases hw
                | some j =>
                  rw [hf] at hw
                  cases hw
                  obtain ⟨hj, bad, good⟩ := findIdx_some hf
                  have fj : fs[j]? = some fs[j] := List.getElem?_eq_getElem hj
                  generalize fs[j] = dj at fj
                  have lp := forL_find (c := []) (g := .tp [(.nm 4), (.nm 5)]) (b := (sIf (Wk.tNot (tE (eCall F_is_field (aCons (eV 5) (aCons (eV 1) (aCons (eV 2) aNil)))))) (sRaise "BadSchema" (eTup (aCons (eC (.int 2)) (aCons (eV 4) aNil)))) sSkip)) (ds := enumD fs) (j := j) (r := .ex "BadSchema" (.tup [.int 2, .int (j : Int)]) [some (.tup [.int hh, .int kk, .tup fs]), some (.int hh), some (.int kk), some (.tup fs), some (.int (j : Int)), some dj] S)
                    (fun i s T => ∃ x y, s = [some (.tup [.int hh, .int kk, .tup fs]), some (.int hh), some (.int kk), some (.tup fs), x, y] ∧ T = S) (fun _ _ _ _ => rfl) (.inr ⟨_, _, _, _, rfl⟩)
                    (by
                      rintro i d s T hi hd ⟨x, y, rfl, rfl⟩
                      rw [enum_get] at hd
                      cases e : fs[i]? with
                      | none => rw [e] at hd; cases hd
                      | some d' =>
                        rw [e] at hd
                        cases hd
                        have td : Ty T (n + 1) d' := tf d' (List.mem_of_getElem? e)
                        have ef := is_field_any td hh kk
                        have gd := good i d' hi e
                        have gd' : fieldB d' hh kk = true := by simpa using gd
                        rw [gd'] at ef
                        exact ⟨_, [some (.tup [.int hh, .int kk, .tup fs]), some (.int hh), some (.int kk), some (.tup fs), some (.int (i : Int)), some d'], T, rfl, .inl (by simp [ef]), _, _, rfl, rfl⟩)
                    (by
                      rintro d s T hd ⟨x, y, rfl, rfl⟩
                      rw [enum_get, fj] at hd
                      cases hd
                      have td : Ty T (n + 1) dj := tf dj (List.mem_of_getElem? fj)
                      have ef := is_field_any td hh kk
                      have gd := bad dj fj
                      have gd' : fieldB dj hh kk = false := by simpa using gd
                      rw [gd'] at ef
                      exact ⟨_, rfl, by simp [ef, LIM_val]⟩) (by rw [enum_len]; exact hj) 0 [some (.tup [.int hh, .int kk, .tup fs]), some (.int hh), some (.int kk), some (.tup fs), none, none] S (Nat.zero_le _) ⟨none, none, rfl, rfl⟩
                  rw [List.drop_zero] at lp
                  refine body (r := .ex "BadSchema" (.tup [.int 2, .int (j : Int)]) [some (.tup [.int hh, .int kk, .tup fs]), some (.int hh), some (.int kk), some (.tup fs), some (.int (j : Int)), some dj] S) (nx_seq s1 (nx_seq s2 (nx_seq s3 (nx_seq s4 (nx_seq s5 (nx_seq s6 ?_)))))) rfl
                  rw [sSeq_eq, sFor_eq, show iEnum (eV 3) [some (.tup [.int hh, .int kk, .tup fs]), some (.int hh), some (.int kk), some (.tup fs), none, none] S = .ok ⟨enumD fs, []⟩ S from rfl, ofE_ok, lp]
            | _ => cases w3
end WkL


set_option Elab.async false
set_option linter.all false
set_option maxRecDepth 100000
set_option maxHeartbeats 1000000
set_option autoImplicit false
/-! PvAnyW: what the law says of any thing as a schema. -/
namespace WkL
open PySem (Str)
open Wk
theorem wf_any {S : Store} {n : Nat} {x : D} (t : Ty S (n + 3) x) : F__law_wf_schema [x] S = .ok (refW (wfS x)) S := by
  have body : ∀ {d : D}, b__law_wf_schema [some x, none, none, none, none, none, none] S = .rt d S → d = refW (wfS x) → F__law_wf_schema [x] S = .ok (refW (wfS x)) S := by
    intro d h h2
    refine (mkF_eq 1 7 _ [x] S rfl).trans ?_
    rw [show startE 7 [x] = [some x, none, none, none, none, none, none] from rfl, h, h2]
  have stop : ∀ {f : FS} {g : FS} {s : Env} {T : Store} {d : D}, f s T = .rt d T → sSeq f g s T = .rt d T := by
    intro f g s T d h
    rw [sSeq_eq, h]
  have it := inst_tup_any t
  cases hb : rowB x 3 with
  | false =>
    have e1 : wfS x = some ("BadSchema", .int (-1)) := by
      unfold wfS
      split
      · cases hb
      · rfl
    refine body (d := .tup [.str "BadSchema", .int (-1)]) (stop ?_) (by rw [e1]; rfl)
    cases ht : tupB x with
    | false =>
      rw [ht] at it
      simp [-fIsInst_eq, it, LIM_val]
    | true =>
      rw [ht] at it
      cases x with
      | tup xs =>
        have hl : ¬ xs.length = 3 := fun z => by simp [rowB, z] at hb
        have hl' : ((xs.length : Int) == 3) = false := by
          rw [beq_eq_false_iff_ne]; omega
        simp [-fIsInst_eq, it, LIM_val, hl']
      | _ => cases ht
  | true =>
    obtain ⟨xs, rfl, hl⟩ := row_tup hb
    match xs, hl with
    | [h, kd, f], _ =>
      have th : Ty S (n + 2) h := t h (by simp)
      have tk : Ty S (n + 2) kd := t kd (by simp)
      have tf : Ty S (n + 2) f := t f (by simp)
      have e1 := wf_is_any th 1 6
      have s1 : (sIf (tOr (Wk.tNot (tE (eUn (fIsInst "tuple") (eV 0)))) (tE (eOp oNe (eUn fLen (eV 0)) (eC (.int 3))))) (sRet (eTup (aCons (eC (.str "BadSchema")) (aCons (eUn uNeg (eC (.int 1))) aNil)))) sSkip) [some (.tup [h, kd, f]), none, none, none, none, none, none] S = .nx [some (.tup [h, kd, f]), none, none, none, none, none, none] S := by simp [isTy]
      have s2 : (sAsg (.tp [(.nm 1), (.nm 2), (.nm 3)]) (eV 0)) [some (.tup [h, kd, f]), none, none, none, none, none, none] S = .nx [some (.tup [h, kd, f]), some h, some kd, some f, none, none, none] S := by simp
      have wd : ∀ z : D, wfS (.tup [h, kd, f]) = wfS (.tup [h, kd, f]) := fun _ => rfl
      generalize hW : wfS (.tup [h, kd, f]) = W at *
      unfold wfS at hW
      dsimp only at hW
      cases w1 : wholeB h 1 6 with
      | false =>
        rw [w1] at e1 hW
        have : W = some ("BadSchema", D.int 0) := by
          cases h <;> simp at hW <;> exact hW.symm
        exact body (d := .tup [.str "BadSchema", .int 0]) (nx_seq s1 (nx_seq s2 (stop (by simp [e1, LIM_val])))) (by rw [this]; rfl)
      | true =>
        rw [w1] at e1
        obtain ⟨hh, rfl, a1, a2⟩ := whole_int w1
        have e2 := wf_is_any tk hh 24
        have s3 : (sIf (Wk.tNot (tE (eCall F__law_wf_is (aCons (eV 1) (aCons (eC (.int 1)) (aCons (eC (.int 6)) aNil)))))) (sRet (eTup (aCons (eC (.str "BadSchema")) (aCons (eC (.int 0)) aNil)))) sSkip) [some (.tup [.int hh, kd, f]), some (.int hh), some kd, some f, none, none, none] S = .nx [some (.tup [.int hh, kd, f]), some (.int hh), some kd, some f, none, none, none] S := by simp [e1]
        dsimp only at hW
        rw [if_pos w1] at hW
        cases w2 : wholeB kd hh 24 with
        | false =>
          rw [w2] at e2 hW
          have : W = some ("BadSchema", D.int 1) := by
            cases kd <;> simp at hW <;> exact hW.symm
          exact body (d := .tup [.str "BadSchema", .int 1]) (nx_seq s1 (nx_seq s2 (nx_seq s3 (stop (by simp [e2, LIM_val]))))) (by rw [this]; rfl)
        | true =>
          rw [w2] at e2
          obtain ⟨kk, rfl, b1, b2⟩ := whole_int w2
          have s4 : (sIf (Wk.tNot (tE (eCall F__law_wf_is (aCons (eV 2) (aCons (eV 1) (aCons (eC (.int 24)) aNil)))))) (sRet (eTup (aCons (eC (.str "BadSchema")) (aCons (eC (.int 1)) aNil)))) sSkip) [some (.tup [.int hh, .int kk, f]), some (.int hh), some (.int kk), some f, none, none, none] S = .nx [some (.tup [.int hh, .int kk, f]), some (.int hh), some (.int kk), some f, none, none, none] S := by simp [e2]
          have e3 := inst_tup_any tf
          dsimp only at hW
          rw [if_pos w2] at hW
          cases w3 : tupB f with
          | false =>
            rw [w3] at e3
            have : W = some ("BadSchema", D.int 2) := by
              cases f <;> first | (cases w3; done) | (simp at hW; exact hW.symm)
            exact body (d := .tup [.str "BadSchema", .int 2]) (nx_seq s1 (nx_seq s2 (nx_seq s3 (nx_seq s4 (stop (by simp [-fIsInst_eq, e3, LIM_val])))))) (by rw [this]; rfl)
          | true =>
            cases f with
            | tup fs =>
              dsimp only at hW
              have s5 : (sIf (Wk.tNot (tE (eUn (fIsInst "tuple") (eV 3)))) (sRet (eTup (aCons (eC (.str "BadSchema")) (aCons (eC (.int 2)) aNil)))) sSkip) [some (.tup [.int hh, .int kk, .tup fs]), some (.int hh), some (.int kk), some (.tup fs), none, none, none] S = .nx [some (.tup [.int hh, .int kk, .tup fs]), some (.int hh), some (.int kk), some (.tup fs), none, none, none] S := by simp [isTy]
              by_cases l40 : 40 < fs.length
              · have l40' : (40 : Int) < (fs.length : Int) := by omega
                rw [if_pos l40] at hW
                exact body (d := .tup [.str "TooMany", .int (fs.length : Int)]) (nx_seq s1 (nx_seq s2 (nx_seq s3 (nx_seq s4 (nx_seq s5 (stop (by simp [l40', LIM_val]))))))) (by rw [← hW]; rfl)
              · have l40' : ¬ (40 : Int) < (fs.length : Int) := by omega
                rw [if_neg l40] at hW
                have s6 : (sIf (tE (eOp oGt (eUn fLen (eV 3)) (eC (.int 40)))) (sRet (eTup (aCons (eC (.str "TooMany")) (aCons (eUn fLen (eV 3)) aNil)))) sSkip) [some (.tup [.int hh, .int kk, .tup fs]), some (.int hh), some (.int kk), some (.tup fs), none, none, none] S = .nx [some (.tup [.int hh, .int kk, .tup fs]), some (.int hh), some (.int kk), some (.tup fs), none, none, none] S := by simp [l40']
                have it7 : iRng (eUn fLen (eV 3)) [some (.tup [.int hh, .int kk, .tup fs]), some (.int hh), some (.int kk), some (.tup fs), none, none, none] S = .ok ⟨rngD 0 (fs.length : Int), []⟩ S := by
                  have r1 : -(4611686018427387904 : Int) ≤ (fs.length : Int) := by omega
                  have r2 : (fs.length : Int) ≤ 16777216 := by omega
                  simp [r1, r2]
                -- one turn
                have turn : ∀ (i : Nat) (d : D) (x y z : Option D), fs[i]? = some d → (sSeq (sSet 5 (eOp oIx (eV 3) (eV 4)))
    (sSeq (sSet 6 (eAnd (eUn (fIsInst "tuple") (eV 5)) (eOp oEq (eUn fLen (eV 5)) (eC (.int 2)))))
    (sIf (tOr (Wk.tNot (tE (eV 6))) (tOr (Wk.tNot (tE (eCall F__law_wf_is (aCons (eOp oIx (eV 5) (eC (.int 0))) (aCons (eC (.int 0)) (aCons (eOp oSub (eV 2) (eC (.int 1))) aNil)))))) (Wk.tNot (tE (eCall F__law_wf_is (aCons (eOp oIx (eV 5) (eC (.int 1))) (aCons (eV 1) (aCons (eOp oSub (eV 2) (eC (.int 1))) aNil)))))))) (sRet (eTup (aCons (eC (.str "BadSchema")) (aCons (eTup (aCons (eC (.int 2)) (aCons (eV 4) aNil))) aNil)))) sSkip))) [some (.tup [.int hh, .int kk, .tup fs]), some (.int hh), some (.int kk), some (.tup fs), some (.int (i : Int)), y, z] S =
                    if fieldB d hh kk = true then .nx [some (.tup [.int hh, .int kk, .tup fs]), some (.int hh), some (.int kk), some (.tup fs), some (.int (i : Int)), some d, some (.bl true)] S else .rt (.tup [.str "BadSchema", .tup [.int 2, .int (i : Int)]]) S := by
                  intro i d x y z e
                  have td : Ty S (n + 1) d := tf d (List.mem_of_getElem? e)
                  have ix : oIx (.tup fs) (.int (i : Int)) S = .ok d S := by rw [oIx_tup, atI_nat, e]
                  have t1 : (sSet 5 (eOp oIx (eV 3) (eV 4))) [some (.tup [.int hh, .int kk, .tup fs]), some (.int hh), some (.int kk), some (.tup fs), some (.int (i : Int)), y, z] S = .nx [some (.tup [.int hh, .int kk, .tup fs]), some (.int hh), some (.int kk), some (.tup fs), some (.int (i : Int)), some d, z] S := by
                    simp only [sSet_eq, eOp_eq, eV_eq, List.getElem?_cons_succ, List.getElem?_cons_zero, Res.bind_ok, ix, ofE_ok, List.set_cons_succ, List.set_cons_zero]
                  have ti := inst_tup_any td
                  have t2 : (sSet 6 (eAnd (eUn (fIsInst "tuple") (eV 5)) (eOp oEq (eUn fLen (eV 5)) (eC (.int 2))))) [some (.tup [.int hh, .int kk, .tup fs]), some (.int hh), some (.int kk), some (.tup fs), some (.int (i : Int)), some d, z] S = .nx [some (.tup [.int hh, .int kk, .tup fs]), some (.int hh), some (.int kk), some (.tup fs), some (.int (i : Int)), some d, some (.bl (rowB d 2))] S := by
                    cases hd : tupB d with
                    | false =>
                      rw [hd] at ti
                      have : rowB d 2 = false := by
                        cases d <;> first | (cases hd; done) | rfl
                      simp [-fIsInst_eq, ti, this]
                    | true =>
                      cases d with
                      | tup ys =>
                        have : ((ys.length : Int) == 2) = rowB (.tup ys) 2 := by
                          show _ = decide (ys.length = 2)
                          rw [Bool.eq_iff_iff]; simp; omega
                        simp [isTy, this]
                      | _ => cases hd
                  refine nx_seq t1 (nx_seq t2 ?_)
                  cases hr : rowB d 2 with
                  | false =>
                    have : fieldB d hh kk = false := by
                      unfold fieldB
                      split
                      · cases hr
                      · rfl
                    simp [this, LIM_val]
                  | true =>
                    obtain ⟨ys, rfl, hyl⟩ := row_tup hr
                    match ys, hyl with
                    | [a, b], _ =>
                      have ta : Ty S n a := td a (by simp)
                      have tb : Ty S n b := td b (by simp)
                      have w4 := wf_is_any ta 0 (kk - 1)
                      have w5 := wf_is_any tb hh (kk - 1)
                      unfold fieldB
                      cases x4 : wholeB a 0 (kk - 1) with
                      | false => rw [x4] at w4; simp [w4, x4, LIM_val]
                      | true =>
                        rw [x4] at w4
                        cases x5 : wholeB b hh (kk - 1) with
                        | false => rw [x5] at w5; simp [w4, w5, x4, x5, LIM_val]
                        | true => rw [x5] at w5; simp [w4, w5, x4, x5]
                cases hf : fs.findIdx? (fun d => !fieldB d hh kk) with
                | none =>
                  rw [hf] at hW
                  rw [List.findIdx?_eq_none_iff] at hf
                  obtain ⟨s', T, e, i, y, z, w, rfl, _, rfl⟩ := forL_run (c := []) (g := .nm 4) (b := (sSeq (sSet 5 (eOp oIx (eV 3) (eV 4)))
    (sSeq (sSet 6 (eAnd (eUn (fIsInst "tuple") (eV 5)) (eOp oEq (eUn fLen (eV 5)) (eC (.int 2)))))
    (sIf (tOr (Wk.tNot (tE (eV 6))) (tOr (Wk.tNot (tE (eCall F__law_wf_is (aCons (eOp oIx (eV 5) (eC (.int 0))) (aCons (eC (.int 0)) (aCons (eOp oSub (eV 2) (eC (.int 1))) aNil)))))) (Wk.tNot (tE (eCall F__law_wf_is (aCons (eOp oIx (eV 5) (eC (.int 1))) (aCons (eV 1) (aCons (eOp oSub (eV 2) (eC (.int 1))) aNil)))))))) (sRet (eTup (aCons (eC (.str "BadSchema")) (aCons (eTup (aCons (eC (.int 2)) (aCons (eV 4) aNil))) aNil)))) sSkip))))
                    (fun rest s T => ∃ (i : Nat) (x y z : Option D), s = [some (.tup [.int hh, .int kk, .tup fs]), some (.int hh), some (.int kk), some (.tup fs), x, y, z] ∧ rest = ((List.range fs.length).drop i).map (fun (j : Nat) => D.int (j : Int)) ∧ T = S) (fun _ _ _ _ => rfl) (by
                      rintro d rest s T ⟨i, x, y, z, rfl, hd, rfl⟩
                      have hi : i < fs.length := by
                        refine Decidable.byContradiction fun q => ?_
                        rw [List.drop_of_length_le (by simp; omega)] at hd
                        simp at hd
                      have hdr : (List.range fs.length).drop i = i :: (List.range fs.length).drop (i + 1) := by
                        rw [List.drop_eq_getElem_cons (by simpa using hi)]; simp
                      rw [hdr, List.map_cons, List.cons.injEq] at hd
                      obtain ⟨rfl, rfl⟩ := hd
                      have hq : fs[i]? = some fs[i] := List.getElem?_eq_getElem hi
                      generalize fs[i] = q at hq
                      have gq := hf q (List.mem_of_getElem? hq)
                      have gq' : fieldB q hh kk = true := by simpa using gq
                      have tt := turn i q x y z hq
                      rw [if_pos gq'] at tt
                      exact ⟨_, _, _, rfl, .inl tt, i + 1, _, _, _, rfl, rfl, rfl⟩) ((List.range fs.length).map fun (j : Nat) => D.int (j : Int)) [some (.tup [.int hh, .int kk, .tup fs]), some (.int hh), some (.int kk), some (.tup fs), none, none, none] S ⟨0, none, none, none, rfl, rfl, rfl⟩
                  rw [← rngD_nat] at e
                  refine body (d := .non) (nx_seq s1 (nx_seq s2 (nx_seq s3 (nx_seq s4 (nx_seq s5 (nx_seq s6 (nx_seq (s1 := [some (.tup [.int hh, .int kk, .tup fs]), some (.int hh), some (.int kk), some (.tup fs), y, z, w]) (S1 := T) ?_ rfl))))))) (by rw [← hW]; rfl)
                  rw [sFor_eq, it7, ofE_ok]
                  exact e
                | some j =>
                  rw [hf] at hW
                  obtain ⟨hj, bad, good⟩ := findIdx_some hf
                  have fj : fs[j]? = some fs[j] := List.getElem?_eq_getElem hj
                  generalize fs[j] = dj at fj
                  have get : ∀ {i : Nat} {d : D}, (rngD 0 (fs.length : Int))[i]? = some d → i < fs.length ∧ d = .int (i : Int) := by
                    intro i d h
                    rw [rngD_nat, List.getElem?_map] at h
                    by_cases q : i < fs.length
                    · rw [List.getElem?_range q] at h
                      cases h; exact ⟨q, rfl⟩
                    · rw [List.getElem?_eq_none (by simpa using q)] at h; cases h
                  have lp := forL_find (c := []) (g := .nm 4) (b := (sSeq (sSet 5 (eOp oIx (eV 3) (eV 4)))
    (sSeq (sSet 6 (eAnd (eUn (fIsInst "tuple") (eV 5)) (eOp oEq (eUn fLen (eV 5)) (eC (.int 2)))))
    (sIf (tOr (Wk.tNot (tE (eV 6))) (tOr (Wk.tNot (tE (eCall F__law_wf_is (aCons (eOp oIx (eV 5) (eC (.int 0))) (aCons (eC (.int 0)) (aCons (eOp oSub (eV 2) (eC (.int 1))) aNil)))))) (Wk.tNot (tE (eCall F__law_wf_is (aCons (eOp oIx (eV 5) (eC (.int 1))) (aCons (eV 1) (aCons (eOp oSub (eV 2) (eC (.int 1))) aNil)))))))) (sRet (eTup (aCons (eC (.str "BadSchema")) (aCons (eTup (aCons (eC (.int 2)) (aCons (eV 4) aNil))) aNil)))) sSkip)))) (ds := rngD 0 (fs.length : Int)) (j := j) (r := .rt (.tup [.str "BadSchema", .tup [.int 2, .int (j : Int)]]) S)
                    (fun i s T => ∃ x y z, s = [some (.tup [.int hh, .int kk, .tup fs]), some (.int hh), some (.int kk), some (.tup fs), x, y, z] ∧ T = S) (fun _ _ _ _ => rfl) (.inl ⟨_, _, rfl⟩)
                    (by
                      rintro i d s T hi hd ⟨x, y, z, rfl, rfl⟩
                      obtain ⟨hi2, rfl⟩ := get hd
                      have hq : fs[i]? = some fs[i] := List.getElem?_eq_getElem hi2
                      generalize fs[i] = q at hq
                      have gd' : fieldB q hh kk = true := by simpa using good i q hi hq
                      have tt := turn i q x y z hq
                      rw [if_pos gd'] at tt
                      exact ⟨_, _, _, rfl, .inl tt, _, _, _, rfl, rfl⟩)
                    (by
                      rintro d s T hd ⟨x, y, z, rfl, rfl⟩
                      obtain ⟨hi2, rfl⟩ := get hd
                      have gd' : fieldB dj hh kk = false := by simpa using bad dj fj
                      have tt := turn j dj x y z fj
                      rw [if_neg (by rw [gd']; decide)] at tt
                      exact ⟨_, rfl, tt⟩) (by rw [rngD_nat]; simpa using hj) 0 [some (.tup [.int hh, .int kk, .tup fs]), some (.int hh), some (.int kk), some (.tup fs), none, none, none] S (Nat.zero_le _) ⟨none, none, none, rfl, rfl⟩
                  rw [List.drop_zero] at lp
                  refine body (d := .tup [.str "BadSchema", .tup [.int 2, .int (j : Int)]]) (nx_seq s1 (nx_seq s2 (nx_seq s3 (nx_seq s4 (nx_seq s5 (nx_seq s6 (stop ?_))))))) (by rw [← hW]; rfl)
                  rw [sFor_eq, it7, ofE_ok, lp]
            | _ => cases w3
end WkL


set_option Elab.async false
set_option linter.all false
set_option maxRecDepth 100000
set_option maxHeartbeats 1000000
set_option autoImplicit false
/-! PvHeardW: refusals in a row, the first of them; what is heard. -/
namespace WkL
open PySem (Str)
open Wk
/-- plain data: scalars, texts, tuples of these -/
def Pl : Nat → D → Prop
  | _, .non => True
  | _, .bl _ => True
  | _, .int _ => True
  | _, .str x => x.cps.all (· < 0x110000) = true
  | n + 1, .tup xs => xs.length ≤ 1000000 ∧ ∀ x ∈ xs, Pl n x
  | _, _ => False
theorem Pl.plain : ∀ {n : Nat} {x : D}, Pl n x → Plain n x
  | n, .non, _ => by cases n <;> exact True.intro
  | n, .bl _, _ => by cases n <;> exact True.intro
  | n, .int _, _ => by cases n <;> exact True.intro
  | n, .str _, _ => by cases n <;> exact True.intro
  | 0, .tup _, h => (show False from h).elim
  | n + 1, .tup xs, h => ⟨h.1, fun x hx => (h.2 x hx).plain⟩
  | n, .frz _, h => by cases n <;> exact (show False from h).elim
  | n, .ref _, h => by cases n <;> exact (show False from h).elim
theorem Pl.mono : ∀ {n m : Nat} {x : D}, Pl n x → n ≤ m → Pl m x
  | n, m, .non, _, _ => by cases m <;> exact True.intro
  | n, m, .bl _, _, _ => by cases m <;> exact True.intro
  | n, m, .int _, _, _ => by cases m <;> exact True.intro
  | n, m, .str x, h, _ => by
    have h' : x.cps.all (· < 0x110000) = true := by cases n <;> exact h
    cases m <;> exact h'
  | 0, _, .tup _, h, _ => (show False from h).elim
  | n + 1, m, .tup xs, h, q => by
    obtain ⟨m, rfl⟩ : ∃ k, m = k + 1 := ⟨m - 1, by omega⟩
    exact ⟨h.1, fun x hx => (h.2 x hx).mono (by omega)⟩
  | n, _, .frz _, h, _ => by cases n <;> exact (show False from h).elim
  | n, _, .ref _, h, _ => by cases n <;> exact (show False from h).elim
theorem Pl.ty {S : Store} : ∀ {n : Nat} {x : D}, Pl n x → Ty S n x
  | n, .non, _ => by cases n <;> exact True.intro
  | n, .bl _, _ => by cases n <;> exact True.intro
  | n, .int _, _ => by cases n <;> exact True.intro
  | n, .str _, _ => by cases n <;> exact True.intro
  | 0, .tup _, h => (show False from h).elim
  | n + 1, .tup xs, h => fun x hx => (h.2 x hx).ty
  | n, .frz _, h => by cases n <;> exact (show False from h).elim
  | n, .ref _, h => by cases n <;> exact (show False from h).elim
theorem mapM_some {S : Store} {n : Nat} : ∀ {xs : List D}, (∀ x ∈ xs, ∃ p, toP S n x = some p) → ∃ ps, xs.mapM (toP S n) = some ps ∧ ps.length = xs.length
  | [], _ => ⟨[], rfl, rfl⟩
  | x :: xs, h => by
    obtain ⟨p, hp⟩ := h x List.mem_cons_self
    obtain ⟨ps, e, hl⟩ := mapM_some (xs := xs) fun y hy => h y (List.mem_cons_of_mem _ hy)
    refine ⟨p :: ps, ?_, by simp [hl]⟩
    rw [List.mapM_cons, hp, e]; rfl
theorem Pl.toP {S : Store} : ∀ {n m : Nat} {x : D}, Pl n x → n ≤ m → ∃ p, toP S m x = some p
  | n, m, .non, _, _ => ⟨.non, by cases m <;> rfl⟩
  | n, m, .bl b, _, _ => ⟨.bl b, by cases m <;> rfl⟩
  | n, m, .int i, _, _ => ⟨.int i, by cases m <;> rfl⟩
  | n, m, .str x, h, _ => by
    have h' : x.cps.all (· < 0x110000) = true := by cases n <;> exact h
    refine ⟨.str x, ?_⟩
    cases m <;> (unfold Wk.toP; rw [if_pos h'])
  | 0, _, .tup _, h, _ => (show False from h).elim
  | n + 1, m, .tup xs, h, q => by
    obtain ⟨m, rfl⟩ : ∃ k, m = k + 1 := ⟨m - 1, by omega⟩
    obtain ⟨ps, e, _⟩ := mapM_some (S := S) (n := m) (xs := xs) fun x hx => (h.2 x hx).toP (by omega)
    exact ⟨.tup ps, by unfold Wk.toP; rw [e]⟩
  | n, _, .frz _, h, _ => by cases n <;> exact (show False from h).elim
  | n, _, .ref _, h, _ => by cases n <;> exact (show False from h).elim
/-- a list of plain things beside the empty list -/
theorem oEq_nil {S : Store} {l m n : Nat} {xs : List D} (h : S[l]? = some (.lst xs)) (k : S[m]? = some (.lst [])) (hp : ∀ x ∈ xs, Pl n x) (hn : n ≤ 50) : oEq (.ref l) (.ref m) S = .ok (.bl xs.isEmpty) S := by
  obtain ⟨ps, e, hl⟩ := mapM_some (S := S) (n := 59) (xs := xs) fun x hx => (hp x hx).toP (by omega)
  have e1 : toP S 60 (.ref l) = some (.lst ps) := by unfold toP; rw [h]; dsimp only; rw [e]
  have e2 : toP S 60 (.ref m) = some (.lst []) := by unfold toP; rw [k]; rfl
  show oEqG _ _ _ = _
  unfold oEqG
  rw [e1, e2]
  cases xs with
  | nil => cases ps with
    | nil => rfl
    | cons _ _ => simp at hl
  | cons _ _ => cases ps with
    | nil => simp at hl
    | cons _ _ => rfl
abbrev Rf := Option (String × D)
def RfOk (o : Rf) : Prop := ∀ k w, o = some (k, w) → (Str.ofString k).cps.all (· < 0x110000) = true ∧ Pl 3 w
theorem refW_pl {o : Rf} (h : RfOk o) : Pl 4 (refW o) := by
  cases o with
  | none => exact True.intro
  | some p =>
    obtain ⟨h1, h2⟩ := h p.1 p.2 rfl
    refine ⟨by simp, fun x hx => ?_⟩
    simp only [List.mem_cons, List.not_mem_nil, or_false] at hx
    rcases hx with rfl | rfl
    · exact h1
    · exact h2
def firstW (os : List Rf) : Rf := os.findSome? id
theorem refW_non (o : Rf) : isNon (refW o) = o.isNone := by cases o <;> rfl
theorem first_ok {S : Store} {l : Nat} {os : List Rf} (h : S[l]? = some (.lst (os.map refW))) (hp : ∀ o ∈ os, RfOk o) : ∃ T, F__law_wf_first [.ref l] S = .ok (refW (firstW os)) T ∧ Keep [] S T := by
  have cp : compL [(l, .lst (os.map refW))] (.nm 2) (tE (eOp oNotN (eV 2) (eC .non))) (eV 2) [some (.ref l), none, none] (os.map refW) S = .ok ((os.filter fun o => !o.isNone).map refW) S := by
    refine compL_on (c := [(l, .lst (os.map refW))]) (S := S) (dg := refW) (p := fun o => !o.isNone) (f := refW) (by simp [okC, h]) os ?_
    intro o _
    exact ⟨_, rfl, by simp [refW_non], fun _ => rfl⟩
  generalize hW : (os.filter fun o => !o.isNone) = W at *
  have hWp : ∀ o ∈ W, RfOk o := fun o ho => hp o (by rw [← hW] at ho; exact (List.mem_filter.mp ho).1)
  generalize hT1 : S ++ [Ob.lst (W.map refW)] = T1
  have g1 : T1[S.length]? = some (.lst (W.map refW)) := by rw [← hT1]; exact get_last _ _
  have g2 : (T1 ++ [Ob.lst []])[S.length]? = some (.lst (W.map refW)) := by rw [List.getElem?_append_left (lt_of_get g1)]; exact g1
  have eq := oEq_nil (n := 4) g2 (get_last T1 (.lst [])) (fun x hx => by
    obtain ⟨o, ho, rfl⟩ := List.mem_map.mp hx
    exact refW_pl (hWp o ho)) (by decide)
  have hF : firstW os = W.head?.join := by
    rw [← hW]
    unfold firstW
    clear hW g1 g2 eq hWp cp h hp
    induction os with
    | nil => rfl
    | cons o os ih =>
      cases o with
      | none => rw [List.findSome?_cons_of_isNone rfl, ih]; rfl
      | some p => rfl
  refine ⟨T1 ++ [.lst []], ?_, by rw [← hT1]; exact (Keep.push _ _ _).trans (Keep.push _ _ _)⟩
  have s1 : (sSet 1 (eComp (iSeq (eV 0)) (.nm 2) (tE (eOp oNotN (eV 2) (eC .non))) (eV 2) [2])) [some (.ref l), none, none] S = .nx [some (.ref l), some (.ref S.length), none] T1 := by
    simp only [sSet_eq, eComp_eq, iSeq_eq, eV_eq, List.getElem?_cons_succ, List.getElem?_cons_zero, Res.bind_ok, h, wipeE_cons, wipeE_nil, List.set_cons_succ, List.set_cons_zero, cp, noEx_ok, hT1, ofE_ok]
  have s2 : (sRet (eIf (tE (eOp oNe (eV 1) (eLst aNil))) (eOp oIx (eV 1) (eC (.int 0))) (eC .non))) [some (.ref l), some (.ref S.length), none] T1 = .rt (refW (firstW os)) (T1 ++ [.lst []]) := by
    rw [hF]
    cases hw : W with
    | nil =>
      rw [hw] at eq
      have eq' : oEq (.ref S.length) (.ref T1.length) (T1 ++ [Ob.lst []]) = .ok (.bl true) (T1 ++ [Ob.lst []]) := eq
      simp [eq', refW, LIM_val]
    | cons w W' =>
      rw [hw] at eq g2
      have eq' : oEq (.ref S.length) (.ref T1.length) (T1 ++ [Ob.lst []]) = .ok (.bl false) (T1 ++ [Ob.lst []]) := eq
      have ix : oIx (.ref S.length) (.int 0) (T1 ++ [Ob.lst []]) = .ok (refW w) (T1 ++ [Ob.lst []]) := oIx_lst (i := 0) g2 rfl
      simp [-oIx_ref, eq', ix, LIM_val]
  exact (mkF_eq 1 3 _ [.ref l] S rfl).trans (by
    rw [show startE 3 [D.ref l] = [some (.ref l), none, none] from rfl]
    rw [show b__law_wf_first [some (.ref l), none, none] S = .rt (refW (firstW os)) (T1 ++ [.lst []]) from nx_seq s1 s2])
/-- what is heard of a thing told, or refused -/
def heardW (o : Rf) (d : D) : D := match o with
  | some (k, w) => .tup [.str (Str.ofString k), w]
  | none => .tup [.str "told", d]
def resW (o : Rf) (d : D) (T : Store) : Res D := match o with
  | some (k, w) => .ex k w T
  | none => .ok d T
theorem heard_resW {o : Rf} (h : ∀ k w, o = some (k, w) → heardCs.contains k = true) (d : D) (T : Store) : heardR heardCs (resW o d T) = .ok (heardW o d) T := by
  cases o with
  | none => rfl
  | some p =>
    show (if _ then _ else _) = _
    rw [if_pos (h p.1 p.2 rfl)]
    rfl
theorem told_txt : ((Str.ofString "told").cps.all fun x => decide (x < 0x110000)) = true := by decide +kernel
theorem pl_told (n : Nat) : Pl n (.str "told") := by cases n <;> exact told_txt
theorem heardW_pl {o : Rf} {d : D} {n : Nat} (h : RfOk o) (hd : o = none → Pl n d) (hn : 3 ≤ n) : Pl (n + 1) (heardW o d) := by
  cases o with
  | none =>
    refine ⟨by simp, fun x hx => ?_⟩
    simp only [List.mem_cons, List.not_mem_nil, or_false] at hx
    rcases hx with rfl | rfl
    · exact pl_told n
    · exact hd rfl
  | some p => exact (refW_pl h).mono (by omega)
theorem is_heard_ok {S : Store} {l n : Nat} {os : List Rf} {o : Rf} {d : D} (h : S[l]? = some (.lst (os.map refW))) (hp : ∀ o ∈ os, RfOk o) (ho : firstW os = o) (hpl : Pl n (heardW o d)) (hn : n < 12) : ∃ T, F__law_is_heard [heardW o d, .ref l, d] S = .ok (.bl true) T ∧ Keep [] S T := by
  obtain ⟨T, e, K⟩ := first_ok h hp
  rw [ho] at e
  have sm : F__law_same [heardW o d, heardW o d] T = .ok (.bl true) T := same_true n hn (same_refl n _ hpl.plain)
  refine ⟨T, ?_, K⟩
  cases o with
  | none =>
    have sm' : F__law_same [heardW none d, .tup [.str "told", d]] T = .ok (.bl true) T := sm
    have e' : F__law_wf_first [.ref l] S = .ok .non T := e
    generalize heardW none d = H at *
    simp [F__law_is_heard, mkF, startE, e', LIM_val, sm']
  | some p =>
    have nn : isNon (refW (some p)) = false := rfl
    have sm' : F__law_same [heardW (some p) d, refW (some p)] T = .ok (.bl true) T := sm
    generalize heardW (some p) d = H at *
    generalize refW (some p) = R at *
    simp [F__law_is_heard, mkF, startE, e, nn, sm']
end WkL


set_option Elab.async false
set_option linter.all false
set_option maxRecDepth 100000
set_option maxHeartbeats 1000000
set_option autoImplicit false
/-! PvBeside: schemas put beside one another. -/
namespace WkL
open PySem (Str)
open Wk
def mv1 (c e : Sch) (a : Nat) : Nat := if a < c.h then a else a + e.h
def mv2 (c e : Sch) (a : Nat) : Nat := if a < e.h then c.h + a else c.k + a
def mvF (m : Nat → Nat) (q : Nat × Nat) : Nat × Nat := (m q.1, m q.2)
def bes (c e : Sch) : Sch := ⟨c.h + e.h, c.k + e.k, c.fs.map (mvF (mv1 c e)) ++ e.fs.map (mvF (mv2 c e))⟩
def besX (c e : Sch) : Option Nat := if 6 < c.h + e.h then some (c.h + e.h) else if 24 < c.k + e.k then some (c.k + e.k) else if 40 < c.fs.length + e.fs.length then some (c.fs.length + e.fs.length) else none
/-- the kinds of the first, of the second, by a test with their number -/
theorem kinds1 {g : Tg} {e : FE} {sw : Env} {c f : Sch} (m : Nat → Nat) (n : Nat) (S : Store) (h : ∀ i : Nat, i < n → ∃ s1, gF g (.int (i : Int)) sw = some s1 ∧ e s1 S = .ok (.int (m i : Int)) S) :
    compL [] g tTrue e sw (rngD 0 (n : Int)) S = .ok (intsN ((List.range n).map m)) S := by
  rw [rngD_on]
  refine (compL_on (c := []) (S := S) (dg := fun (i : Nat) => D.int (i : Int)) (p := fun _ => true) (f := fun (i : Nat) => D.int (m i : Int)) rfl (List.range n) ?_).trans (by rw [List.filter_eq_self.mpr (fun _ _ => rfl), intsN, List.map_map]; rfl)
  intro i hi
  obtain ⟨s1, h1, h2⟩ := h i (List.mem_range.mp hi)
  exact ⟨s1, h1, rfl, fun _ => h2⟩
theorem kinds_beside_ok {c e : Sch} (hc : c.Ok) (he : e.Ok) (S : Store) : F_kinds_beside [c.d, e.d] S = .ok (.tup [.ref S.length, .ref (S.length + 1)]) (S ++ [.lst (intsN ((List.range c.k).map (mv1 c e)))] ++ [.lst (intsN ((List.range e.k).map (mv2 c e)))]) := by
  have k1 := hc.k24; have k2 := he.k24
  have r1 : -(4611686018427387904 : Int) ≤ (c.k : Int) := by omega
  have r2 : (c.k : Int) ≤ 16777216 := by omega
  have q1 : -(4611686018427387904 : Int) ≤ (e.k : Int) := by omega
  have q2 : (e.k : Int) ≤ 16777216 := by omega
  have c0 := sch_ix0 c; have c1 := sch_ix1 c; have e0 := sch_ix0 e; have e1 := sch_ix1 e
  have cp1 : ∀ T, compL [] (.nm 4) tTrue (eIf (tE (eOp oLt (eV 4) (eOp oIx (eV 0) (eC (.int 0))))) (eV 4) (eOp oAdd (eV 4) (eOp oIx (eV 1) (eC (.int 0))))) [some c.d, some e.d, none, none, none] (rngD 0 (c.k : Int)) T = .ok (intsN ((List.range c.k).map (mv1 c e))) T := fun T => by
    refine kinds1 (c := c) (f := e) (mv1 c e) c.k T fun i _ => ⟨_, rfl, ?_⟩
    unfold mv1
    by_cases h : i < c.h
    · have h' : (i : Int) < (c.h : Int) := by omega
      simp [c0, e0, h, h']
    · have h' : ¬ (i : Int) < (c.h : Int) := by omega
      simp [c0, e0, h, h']
  have cp2 : ∀ (a : Nat) T, compL [] (.nm 4) tTrue (eIf (tE (eOp oLt (eV 4) (eOp oIx (eV 1) (eC (.int 0))))) (eOp oAdd (eOp oIx (eV 0) (eC (.int 0))) (eV 4)) (eOp oAdd (eOp oIx (eV 0) (eC (.int 1))) (eV 4))) [some c.d, some e.d, some (.ref a), none, none] (rngD 0 (e.k : Int)) T = .ok (intsN ((List.range e.k).map (mv2 c e))) T := fun a T => by
    refine kinds1 (c := c) (f := e) (mv2 c e) e.k T fun i _ => ⟨_, rfl, ?_⟩
    unfold mv2
    by_cases h : i < e.h
    · have h' : (i : Int) < (e.h : Int) := by omega
      simp [c0, c1, e0, h, h']
    · have h' : ¬ (i : Int) < (e.h : Int) := by omega
      simp [c0, c1, e0, h, h']
  have s1 : (sSet 2 (eComp (iRng (eOp oIx (eV 0) (eC (.int 1)))) (.nm 4) tTrue (eIf (tE (eOp oLt (eV 4) (eOp oIx (eV 0) (eC (.int 0))))) (eV 4) (eOp oAdd (eV 4) (eOp oIx (eV 1) (eC (.int 0))))) [4])) [some c.d, some e.d, none, none, none] S = .nx [some c.d, some e.d, some (.ref S.length), none, none] (S ++ [.lst (intsN ((List.range c.k).map (mv1 c e)))]) := by
    simp [c1, r1, r2, cp1]
  have s2 : (sSet 3 (eComp (iRng (eOp oIx (eV 1) (eC (.int 1)))) (.nm 4) tTrue (eIf (tE (eOp oLt (eV 4) (eOp oIx (eV 1) (eC (.int 0))))) (eOp oAdd (eOp oIx (eV 0) (eC (.int 0))) (eV 4)) (eOp oAdd (eOp oIx (eV 0) (eC (.int 1))) (eV 4))) [4])) [some c.d, some e.d, some (.ref S.length), none, none] (S ++ [.lst (intsN ((List.range c.k).map (mv1 c e)))]) = .nx [some c.d, some e.d, some (.ref S.length), some (.ref (S.length + 1)), none] (S ++ [.lst (intsN ((List.range c.k).map (mv1 c e)))] ++ [.lst (intsN ((List.range e.k).map (mv2 c e)))]) := by
    simp [e1, q1, q2, cp2]
  exact (mkF_eq 2 5 _ [c.d, e.d] S rfl).trans (by
    rw [show startE 5 [c.d, e.d] = [some c.d, some e.d, none, none, none] from rfl]
    rw [show b_kinds_beside [some c.d, some e.d, none, none, none] S = .rt (.tup [.ref S.length, .ref (S.length + 1)]) (S ++ [.lst (intsN ((List.range c.k).map (mv1 c e)))] ++ [.lst (intsN ((List.range e.k).map (mv2 c e)))]) from nx_seq s1 (nx_seq s2 (by simp [LIM_val]))])
theorem mvs_get {T : Store} {l k : Nat} {m : Nat → Nat} (h : T[l]? = some (.lst (intsN ((List.range k).map m)))) {a : Nat} (ha : a < k) : oIx (.ref l) (.int (a : Int)) T = .ok (.int (m a : Int)) T := by
  refine oIx_lst h ?_
  rw [intsN, List.map_map, List.getElem?_map, List.getElem?_range ha]
  rfl
/-- the fields moved -/
theorem move_comp {t1 t2 t0 : Nat} {T : Store} {l k : Nat} {m : Nat → Nat} {sw : Env} {fs : List (Nat × Nat)} {g : Tg} {e : FE} (hl : T[l]? = some (.lst (intsN ((List.range k).map m)))) (hf : ∀ q ∈ fs, q.1 < k ∧ q.2 < k)
    (h : ∀ q ∈ fs, ∃ s1, gF g (fD q) sw = some s1 ∧ e s1 T = ((oIx (.ref l) (.int (q.1 : Int)) T).bind fun x S1 => (oIx (.ref l) (.int (q.2 : Int)) S1).bind fun y S2 => .ok (.tup [x, y]) S2)) :
    compL [] g tTrue e sw (fs.map fD) T = .ok ((fs.map (mvF m)).map fD) T := by
  refine (compL_on (c := []) (S := T) (dg := fD) (p := fun _ => true) (f := fun q => fD (mvF m q)) rfl fs ?_).trans (by rw [List.filter_eq_self.mpr (fun _ _ => rfl), List.map_map]; rfl)
  intro q hq
  obtain ⟨s1, h1, h2⟩ := h q hq
  obtain ⟨q1, q2⟩ := hf q hq
  refine ⟨s1, h1, rfl, fun _ => ?_⟩
  rw [h2, mvs_get hl q1, Res.bind_ok, mvs_get hl q2, Res.bind_ok]
  rfl
def extB : FS := (sExpr (eBM oExtend (eV 7) (eComp (iSeq (eOp oIx (eV 8) (eC (.int 2)))) (.tp [(.nm 10), (.nm 11)]) tTrue (eTup (aCons (eOp oIx (eV 9) (eV 10)) (aCons (eOp oIx (eV 9) (eV 11)) aNil))) [10, 11])))
theorem ext_ok {c e x : Sch} (m : Nat → Nat) {o0 o1 o4 o5 o6 : Option D} {a l k : Nat} {T : Store} {acc : List (Nat × Nat)} (ga : T[a]? = some (.lst (acc.map fD))) (hl : T[l]? = some (.lst (intsN ((List.range k).map m)))) (hf : ∀ q ∈ x.fs, q.1 < k ∧ q.2 < k) (hz : acc.length + x.fs.length ≤ 1000) :
    extB [o0, o1, some c.d, some e.d, o4, o5, o6, some (.ref a), some x.d, some (.ref l), none, none] T = .nx [o0, o1, some c.d, some e.d, o4, o5, o6, some (.ref a), some x.d, some (.ref l), none, none] ((T ++ [Ob.lst ((x.fs.map (mvF m)).map fD)]).set a (Ob.lst ((acc ++ x.fs.map (mvF m)).map fD))) := by
  have cp : compL [] (.tp [(.nm 10), (.nm 11)]) tTrue (eTup (aCons (eOp oIx (eV 9) (eV 10)) (aCons (eOp oIx (eV 9) (eV 11)) aNil))) [o0, o1, some c.d, some e.d, o4, o5, o6, some (.ref a), some x.d, some (.ref l), none, none] (x.fs.map fD) T = .ok ((x.fs.map (mvF m)).map fD) T := by
    refine move_comp (t1 := 0) (t2 := 0) (t0 := 0) hl hf fun q hq => ⟨[o0, o1, some c.d, some e.d, o4, o5, o6, some (.ref a), some x.d, some (.ref l), some (.int (q.1 : Int)), some (.int (q.2 : Int))], rfl, ?_⟩
    obtain ⟨q1, q2⟩ := hf q hq
    have h1 := mvs_get hl q1
    have h2 := mvs_get hl q2
    simp [-oIx_ref, h1, h2, LIM_val]
  have x2 := sch_ix2 x
  have g2 : (T ++ [Ob.lst ((x.fs.map (mvF m)).map fD)])[a]? = some (.lst (acc.map fD)) := by rw [List.getElem?_append_left (lt_of_get ga)]; exact ga
  have ex := oExtend_lst g2 (get_last T (.lst ((x.fs.map (mvF m)).map fD))) (by simp [LIM_val]; omega)
  rw [← List.map_append] at ex
  have il := isLst_lst ga
  unfold extB
  simp only [sExpr_eq, eBM_eq, eV_eq, eOp_eq, eC_eq, List.getElem?_cons_succ, List.getElem?_cons_zero, Res.bind_ok, il, if_true, eComp_eq, iSeq_eq, x2, wipeE_cons, wipeE_nil, List.set_cons_succ, List.set_cons_zero, cp, noEx_ok, ex, ofE_ok]
theorem beside_ok {c e : Sch} (hc : c.Ok) (he : e.Ok) (S : Store) : ∃ T, F_beside [c.d, e.d] S = resD (besX c e) (bes c e).d T ∧ Keep [] S T := by
  have k1 := hc.k24; have k2 := he.k24; have f1 := hc.f40; have f2 := he.f40
  have c0 := sch_ix0 c; have c1 := sch_ix1 c; have c2 := sch_ix2 c; have e0 := sch_ix0 e; have e1 := sch_ix1 e; have e2 := sch_ix2 e
  have m1 := made_ok hc S
  have m2 := made_ok he (S ++ [.lst (c.fs.map fD)])
  generalize hS1 : S ++ [Ob.lst (c.fs.map fD)] ++ [Ob.lst (e.fs.map fD)] = S1 at m2
  have K1 : Keep [] S S1 := by rw [← hS1]; exact (Keep.push _ _ _).trans (Keep.push _ _ _)
  have s1 : (sPar 2 3 (eCall F_made_schema (aCons (eV 0) aNil)) (eCall F_made_schema (aCons (eV 1) aNil))) [some c.d, some e.d, none, none, none, none, none, none, none, none, none, none] S = .nx [some c.d, some e.d, some c.d, some e.d, none, none, none, none, none, none, none, none] S1 := by
    simp [m1, m2]
  have out : ∀ {r : Rs}, (sSeq (sFor (iSeq (eTup (aCons (eTup (aCons (eC (.int 0)) (aCons (eC (.int 6)) aNil))) (aCons (eTup (aCons (eC (.int 1)) (aCons (eC (.int 24)) aNil))) aNil)))) (.tp [(.nm 4), (.nm 5)]) (sIf (tE (eOp oGt (eOp oAdd (eOp oIx (eV 2) (eV 4)) (eOp oIx (eV 3) (eV 4))) (eV 5))) (sRaise "TooMany" (eOp oAdd (eOp oIx (eV 2) (eV 4)) (eOp oIx (eV 3) (eV 4)))) sSkip)) (sSeq (sSet 6 (eOp oAdd (eUn fLen (eOp oIx (eV 2) (eC (.int 2)))) (eUn fLen (eOp oIx (eV 3) (eC (.int 2))))))
    (sSeq (sIf (tE (eOp oGt (eV 6) (eC (.int 40)))) (sRaise "TooMany" (eV 6)) sSkip)
    (sSeq (sSet 7 (eLst aNil))
    (sSeq (sFor (iZip (eTup (aCons (eV 2) (aCons (eV 3) aNil))) (eCall F_kinds_beside (aCons (eV 2) (aCons (eV 3) aNil)))) (.tp [(.nm 8), (.nm 9)]) (sExpr (eBM oExtend (eV 7) (eComp (iSeq (eOp oIx (eV 8) (eC (.int 2)))) (.tp [(.nm 10), (.nm 11)]) tTrue (eTup (aCons (eOp oIx (eV 9) (eV 10)) (aCons (eOp oIx (eV 9) (eV 11)) aNil))) [10, 11]))))
    (sRet (eTup (aCons (eOp oAdd (eOp oIx (eV 2) (eC (.int 0))) (eOp oIx (eV 3) (eC (.int 0)))) (aCons (eOp oAdd (eOp oIx (eV 2) (eC (.int 1))) (eOp oIx (eV 3) (eC (.int 1)))) (aCons (eUn fTuple (eV 7)) aNil)))))))))) [some c.d, some e.d, some c.d, some e.d, none, none, none, none, none, none, none, none] S1 = r → F_beside [c.d, e.d] S = (match r with
    | .nx _ S' => .ok .non S'
    | .rt d S' => .ok d S'
    | .ex c w _ S' => .ex c w S'
    | _ => .bad) := by
    intro r h
    refine (mkF_eq 2 12 _ [c.d, e.d] S rfl).trans ?_
    rw [show startE 12 [c.d, e.d] = [some c.d, some e.d, none, none, none, none, none, none, none, none, none, none] from rfl]
    rw [show b_beside [some c.d, some e.d, none, none, none, none, none, none, none, none, none, none] S = r from nx_seq s1 h]
    all_goals rfl
  have it : iSeq (eTup (aCons (eTup (aCons (eC (.int 0)) (aCons (eC (.int 6)) aNil))) (aCons (eTup (aCons (eC (.int 1)) (aCons (eC (.int 24)) aNil))) aNil))) [some c.d, some e.d, some c.d, some e.d, none, none, none, none, none, none, none, none] S1 = .ok ⟨[.tup [.int 0, .int 6], .tup [.int 1, .int 24]], []⟩ S1 := by simp [LIM_val]
  unfold besX
  by_cases h6 : 6 < c.h + e.h
  · have h6' : (6 : Int) < (c.h : Int) + (e.h : Int) := by omega
    rw [if_pos h6]
    refine ⟨S1, out (r := .ex "TooMany" (.int ((c.h + e.h : Nat) : Int)) [some c.d, some e.d, some c.d, some e.d, some (.int 0), some (.int 6), none, none, none, none, none, none] S1) ?_, K1⟩
    rw [sSeq_eq, sFor_eq, it, ofE_ok, forL_ex rfl rfl (show (sIf (tE (eOp oGt (eOp oAdd (eOp oIx (eV 2) (eV 4)) (eOp oIx (eV 3) (eV 4))) (eV 5))) (sRaise "TooMany" (eOp oAdd (eOp oIx (eV 2) (eV 4)) (eOp oIx (eV 3) (eV 4)))) sSkip) [some c.d, some e.d, some c.d, some e.d, some (.int 0), some (.int 6), none, none, none, none, none, none] S1 = .ex "TooMany" (.int ((c.h + e.h : Nat) : Int)) [some c.d, some e.d, some c.d, some e.d, some (.int 0), some (.int 6), none, none, none, none, none, none] S1 from by
      simp [c0, e0, h6'])]
  rw [if_neg h6]
  have h6' : ¬ (6 : Int) < (c.h : Int) + (e.h : Int) := by omega
  have t1 : (sIf (tE (eOp oGt (eOp oAdd (eOp oIx (eV 2) (eV 4)) (eOp oIx (eV 3) (eV 4))) (eV 5))) (sRaise "TooMany" (eOp oAdd (eOp oIx (eV 2) (eV 4)) (eOp oIx (eV 3) (eV 4)))) sSkip) [some c.d, some e.d, some c.d, some e.d, some (.int 0), some (.int 6), none, none, none, none, none, none] S1 = .nx [some c.d, some e.d, some c.d, some e.d, some (.int 0), some (.int 6), none, none, none, none, none, none] S1 := by
    simp [c0, e0, h6']
  by_cases h24 : 24 < c.k + e.k
  · have h24' : (24 : Int) < (c.k : Int) + (e.k : Int) := by omega
    rw [if_pos h24]
    refine ⟨S1, out (r := .ex "TooMany" (.int ((c.k + e.k : Nat) : Int)) [some c.d, some e.d, some c.d, some e.d, some (.int 1), some (.int 24), none, none, none, none, none, none] S1) ?_, K1⟩
    rw [sSeq_eq, sFor_eq, it, ofE_ok, forL_cons rfl rfl t1, forL_ex rfl rfl (show (sIf (tE (eOp oGt (eOp oAdd (eOp oIx (eV 2) (eV 4)) (eOp oIx (eV 3) (eV 4))) (eV 5))) (sRaise "TooMany" (eOp oAdd (eOp oIx (eV 2) (eV 4)) (eOp oIx (eV 3) (eV 4)))) sSkip) [some c.d, some e.d, some c.d, some e.d, some (.int 1), some (.int 24), none, none, none, none, none, none] S1 = .ex "TooMany" (.int ((c.k + e.k : Nat) : Int)) [some c.d, some e.d, some c.d, some e.d, some (.int 1), some (.int 24), none, none, none, none, none, none] S1 from by
      simp [c1, e1, h24'])]
  rw [if_neg h24]
  have h24' : ¬ (24 : Int) < (c.k : Int) + (e.k : Int) := by omega
  have t2 : (sIf (tE (eOp oGt (eOp oAdd (eOp oIx (eV 2) (eV 4)) (eOp oIx (eV 3) (eV 4))) (eV 5))) (sRaise "TooMany" (eOp oAdd (eOp oIx (eV 2) (eV 4)) (eOp oIx (eV 3) (eV 4)))) sSkip) [some c.d, some e.d, some c.d, some e.d, some (.int 1), some (.int 24), none, none, none, none, none, none] S1 = .nx [some c.d, some e.d, some c.d, some e.d, some (.int 1), some (.int 24), none, none, none, none, none, none] S1 := by
    simp [c1, e1, h24']
  have s2 : (sFor (iSeq (eTup (aCons (eTup (aCons (eC (.int 0)) (aCons (eC (.int 6)) aNil))) (aCons (eTup (aCons (eC (.int 1)) (aCons (eC (.int 24)) aNil))) aNil)))) (.tp [(.nm 4), (.nm 5)]) (sIf (tE (eOp oGt (eOp oAdd (eOp oIx (eV 2) (eV 4)) (eOp oIx (eV 3) (eV 4))) (eV 5))) (sRaise "TooMany" (eOp oAdd (eOp oIx (eV 2) (eV 4)) (eOp oIx (eV 3) (eV 4)))) sSkip)) [some c.d, some e.d, some c.d, some e.d, none, none, none, none, none, none, none, none] S1 = .nx [some c.d, some e.d, some c.d, some e.d, some (.int 1), some (.int 24), none, none, none, none, none, none] S1 := by
    rw [sFor_eq, it, ofE_ok, forL_cons rfl rfl t1, forL_cons rfl rfl t2, forL_nil rfl]
  have s3 : (sSet 6 (eOp oAdd (eUn fLen (eOp oIx (eV 2) (eC (.int 2)))) (eUn fLen (eOp oIx (eV 3) (eC (.int 2)))))) [some c.d, some e.d, some c.d, some e.d, some (.int 1), some (.int 24), none, none, none, none, none, none] S1 = .nx [some c.d, some e.d, some c.d, some e.d, some (.int 1), some (.int 24), some (.int ((c.fs.length + e.fs.length : Nat) : Int)), none, none, none, none, none] S1 := by
    simp [c2, e2]
  by_cases h40 : 40 < c.fs.length + e.fs.length
  · have h40' : (40 : Int) < ((c.fs.length + e.fs.length : Nat) : Int) := by omega
    rw [if_pos h40]
    refine ⟨S1, out (r := .ex "TooMany" (.int ((c.fs.length + e.fs.length : Nat) : Int)) [some c.d, some e.d, some c.d, some e.d, some (.int 1), some (.int 24), some (.int ((c.fs.length + e.fs.length : Nat) : Int)), none, none, none, none, none] S1) (nx_seq s2 (nx_seq s3 ?_)), K1⟩
    simp only [sSeq_eq, sIf_eq, tE_eq, eOp_eq, eV_eq, eC_eq, List.getElem?_cons_succ, List.getElem?_cons_zero, Res.bind_ok, oGt_int, ofE_ok, decide_eq_true h40', if_true, sRaise_eq]
  rw [if_neg h40]
  have h40' : ¬ (40 : Int) < ((c.fs.length + e.fs.length : Nat) : Int) := by omega
  have s4 : (sIf (tE (eOp oGt (eV 6) (eC (.int 40)))) (sRaise "TooMany" (eV 6)) sSkip) [some c.d, some e.d, some c.d, some e.d, some (.int 1), some (.int 24), some (.int ((c.fs.length + e.fs.length : Nat) : Int)), none, none, none, none, none] S1 = .nx [some c.d, some e.d, some c.d, some e.d, some (.int 1), some (.int 24), some (.int ((c.fs.length + e.fs.length : Nat) : Int)), none, none, none, none, none] S1 := by
    simp only [sSkip_eq, sIf_eq, tE_eq, eOp_eq, eV_eq, eC_eq, List.getElem?_cons_succ, List.getElem?_cons_zero, Res.bind_ok, oGt_int, ofE_ok, decide_eq_false h40']
    rfl
  generalize hN : D.int ((c.fs.length + e.fs.length : Nat) : Int) = N at *
  have s5 : (sSet 7 (eLst aNil)) [some c.d, some e.d, some c.d, some e.d, some (.int 1), some (.int 24), some N, none, none, none, none, none] S1 = .nx [some c.d, some e.d, some c.d, some e.d, some (.int 1), some (.int 24), some N, some (.ref S1.length), none, none, none, none] (S1 ++ [.lst []]) := by simp [LIM_val]
  have kb := kinds_beside_ok hc he (S1 ++ [.lst []])
  have hln : (S1 ++ [Ob.lst []]).length = S1.length + 1 := by simp
  rw [hln] at kb
  generalize hS2 : S1 ++ [Ob.lst []] ++ [Ob.lst (intsN ((List.range c.k).map (mv1 c e)))] ++ [Ob.lst (intsN ((List.range e.k).map (mv2 c e)))] = S2 at kb
  have ga : S2[S1.length]? = some (.lst (([] : List (Nat × Nat)).map fD)) := by rw [← hS2]; simp
  have gl1 : S2[S1.length + 1]? = some (.lst (intsN ((List.range c.k).map (mv1 c e)))) := by rw [← hS2]; simp
  have gl2 : S2[S1.length + 1 + 1]? = some (.lst (intsN ((List.range e.k).map (mv2 c e)))) := by
    rw [← hS2, show S1.length + 1 + 1 = (S1 ++ [Ob.lst []] ++ [Ob.lst (intsN ((List.range c.k).map (mv1 c e)))]).length from by simp]
    exact get_last _ _
  have x1 := ext_ok (c := c) (e := e) (x := c) (mv1 c e) (o0 := some c.d) (o1 := some e.d) (o4 := some (.int 1)) (o5 := some (.int 24)) (o6 := some N) (acc := []) ga gl1 (fun q hq => ⟨(hc.fs q hq).1, (hc.fs q hq).2.2⟩) (by simp; omega)
  generalize hS3 : (S2 ++ [Ob.lst ((c.fs.map (mvF (mv1 c e))).map fD)]).set S1.length (.lst (([] ++ c.fs.map (mvF (mv1 c e))).map fD)) = S3 at x1
  have zz : S1.length < S2.length := lt_of_get ga
  have ga3 : S3[S1.length]? = some (.lst ((c.fs.map (mvF (mv1 c e))).map fD)) := by
    rw [← hS3, List.nil_append]
    exact get_set_self (o := .lst (([] : List (Nat × Nat)).map fD)) (by rw [List.getElem?_append_left zz]; exact ga)
  have gl3 : S3[S1.length + 1 + 1]? = some (.lst (intsN ((List.range e.k).map (mv2 c e)))) := by
    rw [← hS3, List.getElem?_set_ne (by omega), List.getElem?_append_left (lt_of_get gl2)]; exact gl2
  have x2 := ext_ok (c := c) (e := e) (x := e) (mv2 c e) (o0 := some c.d) (o1 := some e.d) (o4 := some (.int 1)) (o5 := some (.int 24)) (o6 := some N) ga3 gl3 (fun q hq => ⟨(he.fs q hq).1, (he.fs q hq).2.2⟩) (by simp; omega)
  generalize hS4 : (S3 ++ [Ob.lst ((e.fs.map (mvF (mv2 c e))).map fD)]).set S1.length (.lst ((c.fs.map (mvF (mv1 c e)) ++ e.fs.map (mvF (mv2 c e))).map fD)) = S4 at x2
  have zz3 : S1.length < S3.length := lt_of_get ga3
  have ga4 : S4[S1.length]? = some (.lst ((c.fs.map (mvF (mv1 c e)) ++ e.fs.map (mvF (mv2 c e))).map fD)) := by
    rw [← hS4]
    exact get_set_self (o := .lst ((c.fs.map (mvF (mv1 c e))).map fD)) (by rw [List.getElem?_append_left zz3]; exact ga3)
  have K4 : Keep [] S1 S4 := by
    have a1 : Keep [] S1 S2 := by rw [← hS2, List.append_assoc, List.append_assoc]; exact Keep.push _ _ _
    have a2 : Keep [] S1 S3 := by rw [← hS3]; exact (a1.trans (Keep.push _ _ _)).new (Y := [S1.length]) (Keep.set _ (.inl (by simp))) (by intro j hj; simp at hj; omega)
    rw [← hS4]; exact (a2.trans (Keep.push _ _ _)).new (Y := [S1.length]) (Keep.set _ (.inl (by simp))) (by intro j hj; simp at hj; omega)
  have s6 : (sFor (iZip (eTup (aCons (eV 2) (aCons (eV 3) aNil))) (eCall F_kinds_beside (aCons (eV 2) (aCons (eV 3) aNil)))) (.tp [(.nm 8), (.nm 9)]) (sExpr (eBM oExtend (eV 7) (eComp (iSeq (eOp oIx (eV 8) (eC (.int 2)))) (.tp [(.nm 10), (.nm 11)]) tTrue (eTup (aCons (eOp oIx (eV 9) (eV 10)) (aCons (eOp oIx (eV 9) (eV 11)) aNil))) [10, 11])))) [some c.d, some e.d, some c.d, some e.d, some (.int 1), some (.int 24), some N, some (.ref S1.length), none, none, none, none] (S1 ++ [.lst []]) = .nx [some c.d, some e.d, some c.d, some e.d, some (.int 1), some (.int 24), some N, some (.ref S1.length), some e.d, some (.ref (S1.length + 1 + 1)), none, none] S4 := by
    have iz : iZip (eTup (aCons (eV 2) (aCons (eV 3) aNil))) (eCall F_kinds_beside (aCons (eV 2) (aCons (eV 3) aNil))) [some c.d, some e.d, some c.d, some e.d, some (.int 1), some (.int 24), some N, some (.ref S1.length), none, none, none, none] (S1 ++ [.lst []]) = .ok ⟨[.tup [c.d, .ref (S1.length + 1)], .tup [e.d, .ref (S1.length + 1 + 1)]], []⟩ S2 := by
      unfold iZip
      simp [kb, LIM_val, zipD]
    rw [sFor_eq, iz, ofE_ok]
    unfold extB at x1 x2
    rw [forL_cons rfl rfl x1, forL_cons rfl rfl x2, forL_nil rfl]
  have ft := fTuple_lst ga4
  refine ⟨S4, out (r := .rt (bes c e).d S4) (nx_seq s2 (nx_seq s3 (nx_seq s4 (nx_seq s5 (nx_seq s6 ?_))))), K1.trans K4⟩
  have pa : ∀ a b : Nat, (a : Int) + (b : Int) = ((a + b : Nat) : Int) := fun a b => by omega
  unfold bes
  simp only [sRet_eq, eTup_eq, aCons_eq, aNil_eq, eOp_eq, eUn_eq, eV_eq, eC_eq, List.getElem?_cons_succ, List.getElem?_cons_zero, Res.bind_ok, c0, c1, e0, e1, oAdd_int, ft, pa]
  rw [if_pos (by simp [LIM_val]), ofE_ok]
  rfl
end WkL


set_option Elab.async false
set_option linter.all false
set_option maxRecDepth 100000
set_option maxHeartbeats 1000000
set_option autoImplicit false
/-! Pk04a: a kind more, a field more. -/
namespace WkL
open PySem (Str)
open Wk
def overW (m b : Nat) : Rf := if b < m then some ("TooMany", .int (m : Int)) else none
def kindW (c : Sch) (x : D) : Rf := if wholeB x 0 ((c.k : Int) - 1) = true then none else some ("BadKind", x)
def ntW (c : Sch) (x : D) : Rf := match x with
  | .int i => if i < (c.h : Int) then some ("NotThing", x) else none
  | _ => none
def fldW (c : Sch) (a b : D) : Rf := match kindW c a with
  | some r => some r
  | none => match kindW c b with
    | some r => some r
    | none => match ntW c b with
      | some r => some r
      | none => overW (c.fs.length + 1) 40
theorem txt_many : ((Str.ofString "TooMany").cps.all fun x => decide (x < 0x110000)) = true := by decide +kernel
theorem txt_kind : ((Str.ofString "BadKind").cps.all fun x => decide (x < 0x110000)) = true := by decide +kernel
theorem txt_thing : ((Str.ofString "NotThing").cps.all fun x => decide (x < 0x110000)) = true := by decide +kernel
theorem overW_ok (m b : Nat) : RfOk (overW m b) := by
  intro k w e
  unfold overW at e
  split at e
  · cases e; exact ⟨txt_many, True.intro⟩
  · cases e
theorem kindW_ok {c : Sch} {x : D} (h : Pl 1 x) : RfOk (kindW c x) := by
  intro k w e
  unfold kindW at e
  split at e
  · cases e
  · cases e; exact ⟨txt_kind, h.mono (by decide)⟩
theorem ntW_ok {c : Sch} {x : D} (h : Pl 1 x) : RfOk (ntW c x) := by
  intro k w e
  unfold ntW at e
  split at e
  · split at e
    · cases e; exact ⟨txt_thing, True.intro⟩
    · cases e
  · cases e
theorem fldW_ok {c : Sch} {a b : D} (ha : Pl 1 a) (hb : Pl 1 b) : RfOk (fldW c a b) := by
  intro k w e
  unfold fldW at e
  split at e
  · rename_i r h; cases e; exact kindW_ok ha _ _ h
  · split at e
    · rename_i r h; cases e; exact kindW_ok hb _ _ h
    · split at e
      · rename_i r h; cases e; exact ntW_ok hb _ _ h
      · exact overW_ok _ _ _ _ e
theorem law_over_ok (m b : Nat) (S : Store) : F__law_over [.int (m : Int), .int (b : Int)] S = .ok (refW (overW m b)) S := by
  unfold overW
  by_cases h : b < m
  · have h' : (b : Int) < (m : Int) := by omega
    rw [if_pos h]
    simp [F__law_over, mkF, startE, h', LIM_val, refW]
  · have h' : ¬ (b : Int) < (m : Int) := by omega
    rw [if_neg h]
    simp [F__law_over, mkF, startE, h', refW]
theorem wf_kind_ok {c : Sch} {x : D} (h : Pl 1 x) (S : Store) : F__law_wf_kind [c.d, x] S = .ok (refW (kindW c x)) S := by
  have e := wf_is_any (h.ty (S := S)) 0 ((c.k : Int) - 1)
  have c1 := sch_ix1 c S
  unfold kindW
  cases hw : wholeB x 0 ((c.k : Int) - 1) with
  | true => rw [hw] at e; simp [F__law_wf_kind, mkF, startE, c1, e, refW]
  | false => rw [hw] at e; simp [F__law_wf_kind, mkF, startE, c1, e, refW, LIM_val]
theorem asked_any {c : Sch} {x : D} (h : Pl 1 x) (S : Store) : F_asked_kind [c.d, x] S = resW (kindW c x) .non S := by
  have e := is_whole_any (h.ty (S := S)) 0 ((c.k : Int) - 1)
  have c1 := sch_ix1 c S
  unfold kindW
  cases hw : wholeB x 0 ((c.k : Int) - 1) with
  | true => rw [hw] at e; simp [F_asked_kind, mkF, startE, c1, e, resW]
  | false => rw [hw] at e; simp [F_asked_kind, mkF, startE, c1, e, resW]
theorem kindW_none {c : Sch} {x : D} (h : kindW c x = none) : ∃ a : Nat, a < c.k ∧ x = .int (a : Int) := by
  unfold kindW at h
  split at h
  · rename_i w
    obtain ⟨i, rfl, i0, i1⟩ := whole_int w
    obtain ⟨a, rfl⟩ := Int.eq_ofNat_of_zero_le i0
    exact ⟨a, by omega, rfl⟩
  · cases h
theorem with_kind_ok {c : Sch} (hc : c.Ok) (S : Store) : F_with_kind [c.d] S = resW (overW (c.k + 1) 24) (.tup [.int (c.h : Int), .int ((c.k : Int) + 1), .tup (c.fs.map fD)]) (S ++ [.lst (c.fs.map fD)]) := by
  have e0 := made_ok hc S
  have k24 := hc.k24
  unfold overW
  unfold Sch.d at e0 ⊢
  by_cases h : 24 < c.k + 1
  · have h' : ((c.k : Int) == 24) = true := by rw [beq_iff_eq]; omega
    rw [if_pos h]
    simp [F_with_kind, mkF, startE, e0, h', resW]
  · have h' : ((c.k : Int) == 24) = false := by rw [beq_eq_false_iff_ne]; omega
    rw [if_neg h]
    simp [F_with_kind, mkF, startE, e0, h', LIM_val, resW]
theorem with_field_ok {c : Sch} (hc : c.Ok) {a b : D} (ha : Pl 1 a) (hb : Pl 1 b) (S : Store) : F_with_field [c.d, a, b] S = resW (fldW c a b) (.tup [.int (c.h : Int), .int (c.k : Int), .tup (c.fs.map fD ++ [.tup [a, b]])]) (S ++ [.lst (c.fs.map fD)]) := by
  have e0 := made_ok hc S
  have f40 := hc.f40
  generalize hS1 : S ++ [Ob.lst (c.fs.map fD)] = S1 at *
  have ka := asked_any (c := c) ha S1
  have kb := asked_any (c := c) hb S1
  have s1 : (sAsg (.tp [(.nm 3), (.nm 4), (.nm 5)]) (eCall F_made_schema (aCons (eV 0) aNil))) [some c.d, some a, some b, none, none, none] S = .nx [some c.d, some a, some b, some (.int (c.h : Int)), some (.int (c.k : Int)), some (.tup (c.fs.map fD))] S1 := by
    unfold Sch.d at e0 ⊢
    simp [e0]
  have body : ∀ {r : Rs}, b_with_field [some c.d, some a, some b, none, none, none] S = r → F_with_field [c.d, a, b] S = (match r with
    | .nx _ S' => Res.ok D.non S'
    | .rt d S' => .ok d S'
    | .ex c w _ S' => .ex c w S'
    | _ => .bad) := by
    intro r h
    refine (mkF_eq 3 6 _ [c.d, a, b] S rfl).trans ?_
    rw [show startE 6 [c.d, a, b] = [some c.d, some a, some b, none, none, none] from rfl, h]
    all_goals rfl
  generalize hE : ([some c.d, some a, some b, some (.int (c.h : Int)), some (.int (c.k : Int)), some (.tup (c.fs.map fD))] : Env) = E at s1
  have g0 : E[0]? = some (some c.d) := by rw [← hE]; rfl
  have g1 : E[1]? = some (some a) := by rw [← hE]; rfl
  have g2 : E[2]? = some (some b) := by rw [← hE]; rfl
  have g3 : E[3]? = some (some (.int (c.h : Int))) := by rw [← hE]; rfl
  have g4 : E[4]? = some (some (.int (c.k : Int))) := by rw [← hE]; rfl
  have g5 : E[5]? = some (some (.tup (c.fs.map fD))) := by rw [← hE]; rfl
  unfold fldW
  cases hka : kindW c a with
  | some r =>
    rw [hka] at ka
    refine body (r := .ex r.1 r.2 E S1) (nx_seq s1 ?_)
    have ka' : F_asked_kind [c.d, a] S1 = .ex r.1 r.2 S1 := ka
    rw [sSeq_eq]
    simp only [sExpr_eq, eCall_eq, aCons_eq, aNil_eq, eV_eq, g0, g1, Res.bind_ok, ka', ofE_ex]
  | none =>
    rw [hka] at ka
    have ka' : F_asked_kind [c.d, a] S1 = .ok .non S1 := ka
    have s2 : (sExpr (eCall F_asked_kind (aCons (eV 0) (aCons (eV 1) aNil)))) E S1 = .nx E S1 := by
      simp only [sExpr_eq, eCall_eq, aCons_eq, aNil_eq, eV_eq, g0, g1, Res.bind_ok, ka', ofE_ok]
    cases hkb : kindW c b with
    | some r =>
      rw [hkb] at kb
      refine body (r := .ex r.1 r.2 E S1) (nx_seq s1 (nx_seq s2 ?_))
      have kb' : F_asked_kind [c.d, b] S1 = .ex r.1 r.2 S1 := kb
      rw [sSeq_eq]
      simp only [sExpr_eq, eCall_eq, aCons_eq, aNil_eq, eV_eq, g0, g2, Res.bind_ok, kb', ofE_ex]
    | none =>
      rw [hkb] at kb
      have kb' : F_asked_kind [c.d, b] S1 = .ok .non S1 := kb
      have s3 : (sExpr (eCall F_asked_kind (aCons (eV 0) (aCons (eV 2) aNil)))) E S1 = .nx E S1 := by
        simp only [sExpr_eq, eCall_eq, aCons_eq, aNil_eq, eV_eq, g0, g2, Res.bind_ok, kb', ofE_ok]
      obtain ⟨bn, hbn, rfl⟩ := kindW_none hkb
      by_cases hlt : (bn : Int) < (c.h : Int)
      · have hn : ntW c (.int (bn : Int)) = some ("NotThing", .int (bn : Int)) := if_pos hlt
        rw [hn]
        refine body (r := .ex "NotThing" (.int (bn : Int)) E S1) (nx_seq s1 (nx_seq s2 (nx_seq s3 ?_)))
        rw [sSeq_eq]
        simp only [sIf_eq, tE_eq, eOp_eq, eV_eq, g2, g3, Res.bind_ok, oLt_int, decide_eq_true hlt, ofE_ok, if_true, sRaise_eq]
      · have hn : ntW c (.int (bn : Int)) = none := if_neg hlt
        rw [hn]
        have s4 : (sIf (tE (eOp oLt (eV 2) (eV 3))) (sRaise "NotThing" (eV 2)) sSkip) E S1 = .nx E S1 := by
          simp only [sIf_eq, tE_eq, eOp_eq, eV_eq, g2, g3, Res.bind_ok, oLt_int, decide_eq_false hlt, ofE_ok, sSkip_eq]
          rfl
        dsimp only
        unfold overW
        by_cases h40 : 40 < c.fs.length + 1
        · have h40' : ((c.fs.length : Int) == 40) = true := by rw [beq_iff_eq]; omega
          rw [if_pos h40]
          refine body (r := .ex "TooMany" (.int ((c.fs.length + 1 : Nat) : Int)) E S1) (nx_seq s1 (nx_seq s2 (nx_seq s3 (nx_seq s4 ?_))))
          rw [sSeq_eq]
          simp only [sIf_eq, tE_eq, eOp_eq, eUn_eq, eV_eq, eC_eq, g5, Res.bind_ok, fLen_tup, List.length_map, oEq_int, h40', ofE_ok, if_true, sRaise_eq, oAdd_int]
          rfl
        · have h40' : ((c.fs.length : Int) == 40) = false := by rw [beq_eq_false_iff_ne]; omega
          rw [if_neg h40]
          refine body (r := .rt (.tup [.int (c.h : Int), .int (c.k : Int), .tup (c.fs.map fD ++ [.tup [a, .int (bn : Int)]])]) S1) (nx_seq s1 (nx_seq s2 (nx_seq s3 (nx_seq s4 (nx_seq (s1 := E) (S1 := S1) ?_ ?_)))))
          · simp only [sIf_eq, tE_eq, eOp_eq, eUn_eq, eV_eq, eC_eq, g5, Res.bind_ok, fLen_tup, List.length_map, oEq_int, h40', ofE_ok, sSkip_eq]
            rfl
          · have aS : ∀ (x : FE) (r : FA) (s : Env) (T : Store), aStar x r s T = (x s T).bind fun y S1 => match seqD S1 y with
              | some xs => (r s S1).bind fun ys S2 => .ok (xs ++ ys) S2
              | none => .bad := fun _ _ _ _ => rfl
            have sq : ∀ (T : Store) (ds : List D), seqD T (.tup ds) = some ds := fun _ _ => rfl
            simp only [sRet_eq, eTup_eq, aCons_eq, aNil_eq, aS, eV_eq, g1, g2, g3, g4, g5, Res.bind_ok, sq]
            rw [if_pos (by simp [LIM_val])]
            simp only [Res.bind_ok]
            rw [if_pos (by simp [LIM_val]; omega)]
            simp only [Res.bind_ok]
            rw [if_pos (by simp [LIM_val]), ofE_ok]
theorem fields_of_any {c : Sch} (hc : c.Ok) {x : D} (h : Pl 1 x) {k : String} {w : D} (e : kindW c x = some (k, w)) (S : Store) : F_fields_of [c.d, x] S = .ex k w (S ++ [.lst (c.fs.map fD)]) := by
  have e1 := made_ok hc S
  have e2 := asked_any (c := c) h (S ++ [.lst (c.fs.map fD)])
  rw [e] at e2
  have e2' : F_asked_kind [c.d, x] (S ++ [.lst (c.fs.map fD)]) = .ex k w (S ++ [.lst (c.fs.map fD)]) := e2
  simp [F_fields_of, mkF, startE, e1, e2']
/-! ### a kind drawn, or none -/
def OddK (x : D) : Prop := (∃ i : Int, x = .int i) ∨ x = .non ∨ x = .bl true ∨ x = .str "0" ∨ x = .tup [.int 0]
theorem txt_0 : ((Str.ofString "0").cps.all fun x => decide (x < 0x110000)) = true := by decide +kernel
theorem OddK.pl {x : D} (h : OddK x) : Pl 1 x := by
  rcases h with ⟨i, rfl⟩ | rfl | rfl | rfl | rfl
  · exact True.intro
  · exact True.intro
  · exact True.intro
  · exact txt_0
  · exact ⟨by simp, fun x hx => by simp at hx; subst hx; exact True.intro⟩
theorem odd_kind_ok {p : Nat} {c : Sch} (hc : c.Ok) {S : Store} (hP : Pool p S) : ∃ x T, F__law_odd_kind [.ref p, c.d] S = .ok x T ∧ OddK x ∧ Keep [p] S T ∧ Pool p T := by
  have hp := hP.lt
  have k24 := hc.k24
  have c1 := sch_ix1 c
  have r1 : -(4611686018427387904 : Int) ≤ (c.k : Int) := by omega
  have r2 : (c.k : Int) ≤ 16777216 := by omega
  generalize hT1 : S ++ [Ob.lst (rngD 0 (c.k : Int))] = T1
  have g1 : T1[S.length]? = some (.lst (rngD 0 (c.k : Int))) := by rw [← hT1]; exact get_last _ _
  have mu := oMul_lst g1 2 (by decide) (by rw [rngD_len]; omega)
  generalize hL2 : (List.replicate 2 (rngD 0 (c.k : Int))).flatten = L2 at mu
  have l2 : L2.length ≤ 48 := by rw [← hL2]; simp [List.length_flatten, rngD_len]; omega
  have m2 : ∀ d ∈ L2, OddK d := by
    intro d hd
    rw [← hL2, List.mem_flatten] at hd
    obtain ⟨l, hl, hd⟩ := hd
    rw [List.eq_of_mem_replicate hl, rngD_nat] at hd
    obtain ⟨i, _, rfl⟩ := List.mem_map.mp hd
    exact .inl ⟨_, rfl⟩
  generalize hT2 : T1 ++ [Ob.lst L2] = T2 at mu
  have g2 : T2[T1.length]? = some (.lst L2) := by rw [← hT2]; exact get_last _ _
  generalize hO : ([.int (c.k : Int), .int (-1), .non, .bl true, .str "0", .tup [.int 0]] : List D) = O
  have mO : ∀ d ∈ O, OddK d := by
    intro d hd
    rw [← hO] at hd
    simp only [List.mem_cons, List.not_mem_nil, or_false] at hd
    rcases hd with rfl | rfl | rfl | rfl | rfl | rfl
    · exact .inl ⟨_, rfl⟩
    · exact .inl ⟨_, rfl⟩
    · exact .inr (.inl rfl)
    · exact .inr (.inr (.inl rfl))
    · exact .inr (.inr (.inr (.inl rfl)))
    · exact .inr (.inr (.inr (.inr rfl)))
  have lO : O.length = 6 := by rw [← hO]; rfl
  generalize hT3 : T2 ++ [Ob.lst O] = T3
  have g23 : T3[T1.length]? = some (.lst L2) := by rw [← hT3, List.getElem?_append_left (lt_of_get g2)]; exact g2
  have g3 : T3[T2.length]? = some (.lst O) := by rw [← hT3]; exact get_last _ _
  have ad := oAdd_lsts g23 g3 (by rw [LIM_val]; omega)
  generalize hT4 : T3 ++ [Ob.lst (L2 ++ O)] = T4 at ad
  have g4 : T4[T3.length]? = some (.lst (L2 ++ O)) := by rw [← hT4]; exact get_last _ _
  have K4 : Keep [p] S T4 := by rw [← hT4, ← hT3, ← hT2, ← hT1]; exact (((Keep.push _ _ _).trans (Keep.push _ _ _)).trans (Keep.push _ _ _)).trans (Keep.push _ _ _)
  have P4 : Pool p T4 := hP.keep (X := []) (by rw [← hT4, ← hT3, ← hT2, ← hT1]; exact (((Keep.push _ _ _).trans (Keep.push _ _ _)).trans (Keep.push _ _ _)).trans (Keep.push _ _ _)) (by simp)
  have n3 : T3.length ≠ p := by
    have : S.length ≤ T3.length := by rw [← hT3, ← hT2, ← hT1]; simp
    omega
  obtain ⟨d, T5, e5, hd, K5, P5, _⟩ := one_ok P4 g4 n3 (by simp; omega) (by simp; omega)
  refine ⟨d, T5, ?_, ?_, K4.trans K5, P5⟩
  · have s1 : (sSet 2 (eOp oMul (eUn fListRg (eOp oIx (eV 1) (eC (.int 1)))) (eC (.int 2)))) [some (.ref p), some c.d, none] S = .nx [some (.ref p), some c.d, some (.ref T1.length)] T2 := by
      have mu' : oMul (.ref S.length) (.int 2) T1 = .ok (.ref T1.length) T2 := mu
      simp [c1, r1, r2, hT1, mu']
    have s2 : (sRet (eCall F__law_wv_one (aCons (eV 0) (aCons (eOp oAdd (eV 2) (eLst (aCons (eOp oIx (eV 1) (eC (.int 1))) (aCons (eUn uNeg (eC (.int 1))) (aCons (eC .non) (aCons (eC (.bl true)) (aCons (eC (.str "0")) (aCons (eTup (aCons (eC (.int 0)) aNil)) aNil)))))))) aNil)))) [some (.ref p), some c.d, some (.ref T1.length)] T2 = .rt d T5 := by
      have lit : eLst (aCons (eOp oIx (eV 1) (eC (.int 1))) (aCons (eUn uNeg (eC (.int 1))) (aCons (eC .non) (aCons (eC (.bl true)) (aCons (eC (.str "0")) (aCons (eTup (aCons (eC (.int 0)) aNil)) aNil)))))) [some (.ref p), some c.d, some (.ref T1.length)] T2 = .ok (.ref T2.length) T3 := by
        rw [← hT3, ← hO]
        simp [c1, LIM_val]
      simp only [sRet_eq, eCall_eq, aCons_eq, aNil_eq, eOp_eq, eV_eq, List.getElem?_cons_succ, List.getElem?_cons_zero, Res.bind_ok] at lit ⊢
      rw [lit]
      simp only [Res.bind_ok, ad, e5, ofE_ok]
    exact (mkF_eq 2 3 _ [.ref p, c.d] S rfl).trans (by
      rw [show startE 3 [D.ref p, c.d] = [some (.ref p), some c.d, none] from rfl]
      rw [show b__law_odd_kind [some (.ref p), some c.d, none] S = .rt d T5 from nx_seq s1 s2])
  · rcases List.mem_append.mp hd with z | z
    · exact m2 d z
    · exact mO d z
end WkL


set_option Elab.async false
set_option linter.all false
set_option maxRecDepth 100000
set_option maxHeartbeats 1000000
set_option autoImplicit false
/-! Pk04b: a kind more, a field more: what is heard is right. -/
namespace WkL
open PySem (Str)
open Wk
theorem heardCs_over (m b : Nat) : ∀ k w, overW m b = some (k, w) → heardCs.contains k = true := by
  intro k w e
  unfold overW at e
  split at e
  · cases e; rfl
  · cases e
theorem heardCs_kind (c : Sch) (x : D) : ∀ k w, kindW c x = some (k, w) → heardCs.contains k = true := by
  intro k w e
  unfold kindW at e
  split at e
  · cases e
  · cases e; rfl
theorem heardCs_fld (c : Sch) (a b : D) : ∀ k w, fldW c a b = some (k, w) → heardCs.contains k = true := by
  intro k w e
  unfold fldW at e
  split at e
  · rename_i r h; cases e; exact heardCs_kind _ _ _ _ h
  · split at e
    · rename_i r h; cases e; exact heardCs_kind _ _ _ _ h
    · split at e
      · rename_i r h
        cases e
        unfold ntW at h
        split at h
        · split at h
          · cases h; rfl
          · cases h
        · cases h
      · exact heardCs_over _ _ _ _ e
theorem pl_fD (n : Nat) (q : Nat × Nat) : Pl (n + 1) (fD q) := ⟨by simp, fun x hx => by
  simp only [List.mem_cons, List.not_mem_nil, or_false] at hx
  rcases hx with rfl | rfl <;> (cases n <;> exact True.intro)⟩
theorem pl_int (n : Nat) (i : Int) : Pl n (.int i) := by cases n <;> exact True.intro
theorem pl_nats (n : Nat) {L : List Nat} (h : L.length ≤ 1000000) : Pl (n + 1) (.tup (intsN L)) := ⟨by simpa using h, fun x hx => by
  obtain ⟨a, _, rfl⟩ := List.mem_map.mp hx
  exact pl_int n _⟩
theorem pl_flds {c : Sch} (hc : c.Ok) {a b : D} (ha : Pl 1 a) (hb : Pl 1 b) (h k : Int) : Pl 4 (.tup [.int h, .int k, .tup (c.fs.map fD ++ [.tup [a, b]])]) := by
  have f40 := hc.f40
  refine ⟨by simp, fun x hx => ?_⟩
  simp only [List.mem_cons, List.not_mem_nil, or_false] at hx
  rcases hx with rfl | rfl | rfl
  · exact pl_int _ _
  · exact pl_int _ _
  · refine ⟨by simp; omega, fun x hx => ?_⟩
    rcases List.mem_append.mp hx with z | z
    · obtain ⟨q, _, rfl⟩ := List.mem_map.mp z
      exact pl_fD _ _
    · simp at z; subst z
      exact ⟨by simp, fun x hx => by
        simp only [List.mem_cons, List.not_mem_nil, or_false] at hx
        rcases hx with rfl | rfl
        · exact ha
        · exact hb⟩
theorem pl_sch {c : Sch} (hc : c.Ok) (h k : Int) : Pl 4 (.tup [.int h, .int k, .tup (c.fs.map fD)]) := by
  have f40 := hc.f40
  refine ⟨by simp, fun x hx => ?_⟩
  simp only [List.mem_cons, List.not_mem_nil, or_false] at hx
  rcases hx with rfl | rfl | rfl
  · exact pl_int _ _
  · exact pl_int _ _
  · refine ⟨by simp; omega, fun x hx => ?_⟩
    obtain ⟨q, _, rfl⟩ := List.mem_map.mp hx
    exact pl_fD _ _
/-- two refusals beside none, none -/
theorem oEq_two {S : Store} {l m : Nat} {o u : Rf} (ho : RfOk o) (hu : RfOk u) (h : S[l]? = some (.lst [refW o, refW u])) (k : S[m]? = some (.lst [.non, .non])) : oEq (.ref l) (.ref m) S = .ok (.bl (o.isNone && u.isNone)) S := by
  obtain ⟨p, hp⟩ := (refW_pl ho).toP (S := S) (m := 59) (by decide)
  obtain ⟨q, hq⟩ := (refW_pl hu).toP (S := S) (m := 59) (by decide)
  have e1 : toP S 60 (.ref l) = some (.lst [p, q]) := by
    unfold toP; rw [h]; dsimp only
    rw [List.mapM_cons, List.mapM_cons, hp, hq]; rfl
  have e2 : toP S 60 (.ref m) = some (.lst [.non, .non]) := by unfold toP; rw [k]; rfl
  have key : ∀ {o : Rf} {p : P}, toP S 59 (refW o) = some p → P.eqv p .non = o.isNone := by
    intro o p hp
    cases o with
    | none => cases hp; rfl
    | some r =>
      unfold refW toP at hp
      dsimp only at hp
      split at hp
      · cases hp; rfl
      · cases hp
  show oEqG _ _ _ = _
  unfold oEqG
  rw [e1, e2]
  simp only [P.eqv, P.eqvs, key hp, key hq, Bool.and_true]
theorem oEq_odd {x : D} (h : OddK x) (i : Int) (S : Store) : ∃ b, oEq (.int i) x S = .ok (.bl b) S ∧ ∀ a : Nat, x = .int (a : Int) → b = (i == (a : Int)) := by
  rcases h with ⟨j, rfl⟩ | rfl | rfl | rfl | rfl
  · exact ⟨i == j, rfl, fun a e => by cases e; rfl⟩
  · exact ⟨false, rfl, fun a e => by cases e⟩
  · exact ⟨_, rfl, fun a e => by cases e⟩
  · exact ⟨false, rfl, fun a e => by cases e⟩
  · exact ⟨_, rfl, fun a e => by cases e⟩
theorem fields_right_ok {p : Nat} {c : Sch} (hc : c.Ok) {S : Store} (hP : Pool p S) : ∃ T, F__law_fields_right [.ref p, c.d] S = .ok (.bl true) T ∧ Keep [p] S T ∧ Pool p T := by
  have f40 := hc.f40
  have c1 := sch_ix1 c
  obtain ⟨a, T1, e1, oa, K1, P1⟩ := odd_kind_ok hc hP
  obtain ⟨b, T2, e2, ob, K2, P2⟩ := odd_kind_ok hc P1
  have pa := oa.pl
  have pb := ob.pl
  have s1 : (sAsg (.tp [(.nm 7), (.nm 8)]) (eTup (aCons (eCall F__law_odd_kind (aCons (eV 0) (aCons (eV 1) aNil))) (aCons (eCall F__law_odd_kind (aCons (eV 0) (aCons (eV 1) aNil))) aNil)))) [some (.ref p), some c.d, none, none, none, none, none, none, none, none] S = .nx [some (.ref p), some c.d, none, none, none, none, none, some a, some b, none] T2 := by
    simp [e1, e2, LIM_val]
  have s2 : (sAsg (.tp [(.nm 2), (.nm 3), (.nm 4)]) (eV 1)) [some (.ref p), some c.d, none, none, none, none, none, some a, some b, none] T2 = .nx [some (.ref p), some c.d, some (.int (c.h : Int)), some (.int (c.k : Int)), some (.tup (c.fs.map fD)), none, none, some a, some b, none] T2 := by
    unfold Sch.d; simp
  -- a kind more
  have e3 := with_kind_ok hc T2
  generalize hT3 : T2 ++ [Ob.lst (c.fs.map fD)] = T3 at e3
  have K3 : Keep [] T2 T3 := by rw [← hT3]; exact Keep.push _ _ _
  have hd3 := heard_resW (heardCs_over (c.k + 1) 24) (.tup [.int (c.h : Int), .int ((c.k : Int) + 1), .tup (c.fs.map fD)]) T3
  rw [← e3] at hd3
  have pl3 := heardW_pl (n := 4) (overW_ok (c.k + 1) 24) (fun _ => pl_sch hc (c.h : Int) ((c.k : Int) + 1)) (by decide)
  generalize hH3 : heardW (overW (c.k + 1) 24) (.tup [.int (c.h : Int), .int ((c.k : Int) + 1), .tup (c.fs.map fD)]) = H3 at *
  have s3 : (sSet 5 (eHeard heardCs (eCall F_with_kind (aCons (eV 1) aNil)))) [some (.ref p), some c.d, some (.int (c.h : Int)), some (.int (c.k : Int)), some (.tup (c.fs.map fD)), none, none, some a, some b, none] T2 = .nx [some (.ref p), some c.d, some (.int (c.h : Int)), some (.int (c.k : Int)), some (.tup (c.fs.map fD)), some H3, none, some a, some b, none] T3 := by
    simp [hd3]
  have e4 : ∀ T, F__law_over [.int ((c.k : Int) + 1), .int 24] T = .ok (refW (overW (c.k + 1) 24)) T := law_over_ok (c.k + 1) 24
  generalize hT4 : T3 ++ [Ob.lst [refW (overW (c.k + 1) 24)]] = T4
  have K4 : Keep [] T3 T4 := by rw [← hT4]; exact Keep.push _ _ _
  obtain ⟨T5, e5, K5⟩ := is_heard_ok (S := T4) (l := T3.length) (os := [overW (c.k + 1) 24]) (o := overW (c.k + 1) 24) (d := .tup [.int (c.h : Int), .int ((c.k : Int) + 1), .tup (c.fs.map fD)]) (by rw [← hT4]; exact get_last _ _) (fun o ho => by simp at ho; subst ho; exact overW_ok _ _) (by unfold firstW; cases overW (c.k + 1) 24 <;> rfl) (by rw [hH3]; exact pl3) (by decide)
  rw [hH3] at e5
  have s4 : (sIf (Wk.tNot (tE (eCall F__law_is_heard (aCons (eV 5) (aCons (eLst (aCons (eCall F__law_over (aCons (eOp oAdd (eV 3) (eC (.int 1))) (aCons (eC (.int 24)) aNil))) aNil)) (aCons (eTup (aCons (eV 2) (aCons (eOp oAdd (eV 3) (eC (.int 1))) (aCons (eV 4) aNil)))) aNil)))))) (sRet (eC (.bl false))) sSkip) [some (.ref p), some c.d, some (.int (c.h : Int)), some (.int (c.k : Int)), some (.tup (c.fs.map fD)), some H3, none, some a, some b, none] T3 = .nx [some (.ref p), some c.d, some (.int (c.h : Int)), some (.int (c.k : Int)), some (.tup (c.fs.map fD)), some H3, none, some a, some b, none] T5 := by
    generalize refW (overW (c.k + 1) 24) = R at *
    simp [e4, LIM_val, hT4, e5]
  -- why
  have e6a := fun T => wf_kind_ok (c := c) pa T
  have e6b := fun T => wf_kind_ok (c := c) pb T
  generalize hka : kindW c a = ka at *
  have oka : RfOk ka := by rw [← hka]; exact kindW_ok pa
  generalize hkb : kindW c b = kb at *
  have okb : RfOk kb := by rw [← hkb]; exact kindW_ok pb
  generalize hT6 : T5 ++ [Ob.lst [refW ka, refW kb]] = T6
  have K6 : Keep [] T5 T6 := by rw [← hT6]; exact Keep.push _ _ _
  have g6 : T6[T5.length]? = some (.lst [refW ka, refW kb]) := by rw [← hT6]; exact get_last _ _
  have s5 : (sSet 6 (eLst (aCons (eCall F__law_wf_kind (aCons (eV 1) (aCons (eV 7) aNil))) (aCons (eCall F__law_wf_kind (aCons (eV 1) (aCons (eV 8) aNil))) aNil)))) [some (.ref p), some c.d, some (.int (c.h : Int)), some (.int (c.k : Int)), some (.tup (c.fs.map fD)), some H3, none, some a, some b, none] T5 = .nx [some (.ref p), some c.d, some (.int (c.h : Int)), some (.int (c.k : Int)), some (.tup (c.fs.map fD)), some H3, some (.ref T5.length), some a, some b, none] T6 := by
    simp [e6a, e6b, LIM_val, hT6]
  generalize hT7 : T6 ++ [Ob.lst [.non, .non]] = T7
  have K7 : Keep [] T6 T7 := by rw [← hT7]; exact Keep.push _ _ _
  have g7 := K7.get g6 (by simp)
  have g7n : T7[T6.length]? = some (.lst [.non, .non]) := by rw [← hT7]; exact get_last _ _
  have e7 := oEq_two oka okb g7 g7n
  -- the row of refusals that there are
  obtain ⟨os, T9, s6, g9, hos, hfst, K9⟩ : ∃ (os : List Rf) (T9 : Store), (sIf (tE (eOp oEq (eV 6) (eLst (aCons (eC .non) (aCons (eC .non) aNil))))) (sExpr (eBM oExtend (eV 6) (eLst (aCons (eIf (tE (eOp oLt (eV 8) (eV 2))) (eTup (aCons (eC (.str "NotThing")) (aCons (eV 8) aNil))) (eC .non)) (aCons (eCall F__law_over (aCons (eOp oAdd (eUn fLen (eV 4)) (eC (.int 1))) (aCons (eC (.int 40)) aNil))) aNil))))) sSkip) [some (.ref p), some c.d, some (.int (c.h : Int)), some (.int (c.k : Int)), some (.tup (c.fs.map fD)), some H3, some (.ref T5.length), some a, some b, none] T6 = .nx [some (.ref p), some c.d, some (.int (c.h : Int)), some (.int (c.k : Int)), some (.tup (c.fs.map fD)), some H3, some (.ref T5.length), some a, some b, none] T9 ∧
      T9[T5.length]? = some (.lst (os.map refW)) ∧ (∀ o ∈ os, RfOk o) ∧ firstW os = fldW c a b ∧ Keep [] T5 T9 := by
    have hne : T5.length ∉ ([] : List Nat) := by simp
    cases hn : (ka.isNone && kb.isNone) with
    | false =>
      rw [hn] at e7
      refine ⟨[ka, kb], T7, ?_, g7, ?_, ?_, K6.trans K7⟩
      · simp [LIM_val, hT7, e7]
      · intro o ho
        simp at ho
        rcases ho with rfl | rfl
        · exact oka
        · exact okb
      · unfold fldW firstW
        rw [hka, hkb]
        cases ka with
        | some r => rfl
        | none => cases kb with
          | some r => rfl
          | none => cases hn
    | true =>
      rw [hn] at e7
      rw [Bool.and_eq_true, Option.isNone_iff_eq_none, Option.isNone_iff_eq_none] at hn
      obtain ⟨rfl, rfl⟩ := hn
      obtain ⟨bn, hbn, rfl⟩ := kindW_none hkb
      have nt : ∀ T, (eIf (tE (eOp oLt (eV 8) (eV 2))) (eTup (aCons (eC (.str "NotThing")) (aCons (eV 8) aNil))) (eC .non)) [some (.ref p), some c.d, some (.int (c.h : Int)), some (.int (c.k : Int)), some (.tup (c.fs.map fD)), some H3, some (.ref T5.length), some a, some (.int (bn : Int)), none] T = .ok (refW (ntW c (.int (bn : Int)))) T := by
        intro T
        unfold ntW
        dsimp only
        by_cases hlt : (bn : Int) < (c.h : Int)
        · rw [if_pos hlt]; simp [hlt, LIM_val, refW]
        · rw [if_neg hlt]; simp [hlt, refW]
      have ov : ∀ T, F__law_over [.int ((c.fs.length : Int) + 1), .int 40] T = .ok (refW (overW (c.fs.length + 1) 40)) T := law_over_ok (c.fs.length + 1) 40
      generalize hN : ntW c (.int (bn : Int)) = N at *
      have okN : RfOk N := by rw [← hN]; exact ntW_ok pb
      generalize hO : overW (c.fs.length + 1) 40 = O at *
      have okO : RfOk O := by rw [← hO]; exact overW_ok _ _
      generalize hT8 : T7 ++ [Ob.lst [refW N, refW O]] = T8
      have g8 : T8[T5.length]? = some (.lst [refW none, refW none]) := by rw [← hT8, List.getElem?_append_left (lt_of_get g7)]; exact g7
      have g8n : T8[T7.length]? = some (.lst [refW N, refW O]) := by rw [← hT8]; exact get_last _ _
      have ex := oExtend_lst g8 g8n (by simp [LIM_val])
      have il := isLst_lst g7
      refine ⟨[none, none, N, O], T8.set T5.length (.lst [refW none, refW none, refW N, refW O]), ?_, get_set_self g8, ?_, ?_, ?_⟩
      · have t1 : (tE (eOp oEq (eV 6) (eLst (aCons (eC .non) (aCons (eC .non) aNil))))) [some (.ref p), some c.d, some (.int (c.h : Int)), some (.int (c.k : Int)), some (.tup (c.fs.map fD)), some H3, some (.ref T5.length), some a, some (.int (bn : Int)), none] T6 = .ok true T7 := by
          simp [LIM_val, hT7, e7]
        have lit : (eLst (aCons (eIf (tE (eOp oLt (eV 8) (eV 2))) (eTup (aCons (eC (.str "NotThing")) (aCons (eV 8) aNil))) (eC .non)) (aCons (eCall F__law_over (aCons (eOp oAdd (eUn fLen (eV 4)) (eC (.int 1))) (aCons (eC (.int 40)) aNil))) aNil))) [some (.ref p), some c.d, some (.int (c.h : Int)), some (.int (c.k : Int)), some (.tup (c.fs.map fD)), some H3, some (.ref T5.length), some a, some (.int (bn : Int)), none] T7 = .ok (.ref T7.length) T8 := by
          rw [← hT8]
          simp only [eLst_eq, aCons_eq, aNil_eq, nt, Res.bind_ok, eCall_eq, eOp_eq, eUn_eq, eV_eq, eC_eq, List.getElem?_cons_succ, List.getElem?_cons_zero, fLen_tup, List.length_map, oAdd_int, ov]
          rw [if_pos (by simp [LIM_val])]
        rw [sIf_eq, t1, ofE_ok, if_pos rfl, sExpr_eq, eBM_eq]
        simp only [eV_eq, List.getElem?_cons_succ, List.getElem?_cons_zero, Res.bind_ok, il, if_true, lit, ex, ofE_ok]
        rfl
      · intro o ho
        simp at ho
        rcases ho with rfl | rfl | rfl
        · intro k w e; cases e
        · exact okN
        · exact okO
      · unfold fldW firstW
        rw [hka, hkb, hN, hO]
        cases N <;> cases O <;> rfl
      · exact (K6.trans (K7.trans (by rw [← hT8]; exact Keep.push _ _ _))).new (Y := [T5.length]) (Keep.set _ (.inl (by simp))) (by intro j hj; simp at hj; omega)
  -- a field more
  have e10 := with_field_ok hc pa pb T9
  generalize hT10 : T9 ++ [Ob.lst (c.fs.map fD)] = T10 at e10
  have K10 : Keep [] T9 T10 := by rw [← hT10]; exact Keep.push _ _ _
  have hd10 := heard_resW (heardCs_fld c a b) (.tup [.int (c.h : Int), .int (c.k : Int), .tup (c.fs.map fD ++ [.tup [a, b]])]) T10
  rw [← e10] at hd10
  have pl10 := heardW_pl (n := 4) (fldW_ok (c := c) pa pb) (fun _ => pl_flds hc pa pb (c.h : Int) (c.k : Int)) (by decide)
  obtain ⟨T11, e11, K11⟩ := is_heard_ok (S := T10) (os := os) (K10.get g9 (by simp)) hos hfst pl10 (by decide)
  generalize hH10 : heardW (fldW c a b) (.tup [.int (c.h : Int), .int (c.k : Int), .tup (c.fs.map fD ++ [.tup [a, b]])]) = H10 at *
  have s7 : (sSet 5 (eHeard heardCs (eCall F_with_field (aCons (eV 1) (aCons (eV 7) (aCons (eV 8) aNil)))))) [some (.ref p), some c.d, some (.int (c.h : Int)), some (.int (c.k : Int)), some (.tup (c.fs.map fD)), some H3, some (.ref T5.length), some a, some b, none] T9 = .nx [some (.ref p), some c.d, some (.int (c.h : Int)), some (.int (c.k : Int)), some (.tup (c.fs.map fD)), some H10, some (.ref T5.length), some a, some b, none] T10 := by
    simp [hd10]
  have ad : oAdd (.tup (c.fs.map fD)) (.tup [.tup [a, b]]) T10 = .ok (.tup (c.fs.map fD ++ [.tup [a, b]])) T10 := oAdd_tups _ _ _ (by simp [LIM_val]; omega)
  have s8 : (sIf (Wk.tNot (tE (eCall F__law_is_heard (aCons (eV 5) (aCons (eV 6) (aCons (eTup (aCons (eV 2) (aCons (eV 3) (aCons (eOp oAdd (eV 4) (eTup (aCons (eTup (aCons (eV 7) (aCons (eV 8) aNil))) aNil))) aNil)))) aNil)))))) (sRet (eC (.bl false))) sSkip) [some (.ref p), some c.d, some (.int (c.h : Int)), some (.int (c.k : Int)), some (.tup (c.fs.map fD)), some H10, some (.ref T5.length), some a, some b, none] T10 = .nx [some (.ref p), some c.d, some (.int (c.h : Int)), some (.int (c.k : Int)), some (.tup (c.fs.map fD)), some H10, some (.ref T5.length), some a, some b, none] T11 := by
    generalize c.fs.map fD ++ [D.tup [a, b]] = FS at *
    simp [LIM_val, ad, e11]
  -- the fields of a kind
  have fw : ∃ (L : List Nat) (T12 : Store), F_fields_of [c.d, a] T11 = resW (kindW c a) (.tup (intsN L)) T12 ∧ Keep [] T11 T12 ∧ L.length ≤ 40 ∧ (kindW c a = none → ∃ an : Nat, a = .int (an : Int) ∧ L = fo c.fs c.fs.length an) := by
    cases hk : kindW c a with
    | some r =>
      exact ⟨[], _, fields_of_any hc pa hk T11, Keep.push _ _ _, by simp, fun e => by cases e⟩
    | none =>
      obtain ⟨an, han, rfl⟩ := kindW_none hk
      obtain ⟨T12, e12, K12⟩ := fields_of_ok hc han T11
      refine ⟨_, T12, e12, K12, ?_, fun _ => ⟨an, rfl, rfl⟩⟩
      unfold fo
      exact Nat.le_trans (List.length_filter_le _ _) (by simpa using f40)
  obtain ⟨L, T12, e12, K12, hLl, hL⟩ := fw
  rw [hka] at e12 hL
  have hd12 := heard_resW (o := ka) (by rw [← hka]; exact heardCs_kind c a) (.tup (intsN L)) T12
  rw [← e12] at hd12
  generalize hT13 : T12 ++ [Ob.lst [refW ka]] = T13
  have K13 : Keep [] T12 T13 := by rw [← hT13]; exact Keep.push _ _ _
  have s9 : (sSet 5 (eHeard heardCs (eCall F_fields_of (aCons (eV 1) (aCons (eV 7) aNil))))) [some (.ref p), some c.d, some (.int (c.h : Int)), some (.int (c.k : Int)), some (.tup (c.fs.map fD)), some H10, some (.ref T5.length), some a, some b, none] T11 = .nx [some (.ref p), some c.d, some (.int (c.h : Int)), some (.int (c.k : Int)), some (.tup (c.fs.map fD)), some (heardW ka (.tup (intsN L))), some (.ref T5.length), some a, some b, none] T12 := by
    simp [hd12]
  have hob := fun (i : Int) (S : Store) => oEq_odd oa i S
  obtain ⟨L2, cp, hL2⟩ : ∃ L2 : List Nat, compL [] (.nm 9) (tE (eOp oEq (eOp oIx (eOp oIx (eV 4) (eV 9)) (eC (.int 0))) (eV 7))) (eV 9) [some (.ref p), some c.d, some (.int (c.h : Int)), some (.int (c.k : Int)), some (.tup (c.fs.map fD)), some (heardW ka (.tup (intsN L))), some (.ref T5.length), some a, some b, none] (rngD 0 (c.fs.length : Int)) T13 = .ok (intsN L2) T13 ∧ (ka = none → L2 = L) := by
    let pf : Nat → Bool := fun f => match c.fs[f]? with
      | some q => (match oEq (.int (q.1 : Int)) a T13 with
        | .ok (.bl b) _ => b
        | _ => false)
      | none => false
    refine ⟨(List.range c.fs.length).filter pf, ?_, ?_⟩
    · rw [rngD_on]
      refine compL_on (c := []) (S := T13) (dg := fun (f : Nat) => D.int (f : Int)) (p := pf) (f := fun (f : Nat) => D.int (f : Int)) rfl _ ?_
      intro f hf
      have hq : c.fs[f]? = some c.fs[f]! := by rw [List.getElem?_eq_getElem (List.mem_range.mp hf), getElem!_pos]
      generalize c.fs[f]! = q at hq
      obtain ⟨bb, e, _⟩ := hob (q.1 : Int) T13
      refine ⟨[some (.ref p), some c.d, some (.int (c.h : Int)), some (.int (c.k : Int)), some (.tup (c.fs.map fD)), some (heardW ka (.tup (intsN L))), some (.ref T5.length), some a, some b, some (.int (f : Int))], rfl, ?_, fun _ => rfl⟩
      have hpf : pf f = bb := by
        show (match c.fs[f]? with
          | some q => (match oEq (.int (q.1 : Int)) a T13 with
            | .ok (.bl b) _ => b
            | _ => false)
          | none => false) = bb
        rw [hq]; dsimp only; rw [e]
      rw [hpf]
      have ix : oIx (.tup (c.fs.map fD)) (.int (f : Int)) T13 = .ok (fD q) T13 := fD_ix hq T13
      have ix0 : oIx (fD q) (.int 0) T13 = .ok (.int (q.1 : Int)) T13 := by unfold fD; simp
      simp only [tE_eq, eOp_eq, eV_eq, eC_eq, List.getElem?_cons_succ, List.getElem?_cons_zero, Res.bind_ok, ix, ix0, e]
    · intro hn
      obtain ⟨an, han, rfl⟩ := hL hn
      unfold fo
      apply List.filter_congr
      intro f hf
      have hq : c.fs[f]? = some c.fs[f]! := by rw [List.getElem?_eq_getElem (List.mem_range.mp hf), getElem!_pos]
      generalize c.fs[f]! = q at hq
      obtain ⟨bb, e, hbb⟩ := hob (q.1 : Int) T13
      have h1 := hbb an han
      show (match c.fs[f]? with
          | some q => (match oEq (.int (q.1 : Int)) a T13 with
            | .ok (.bl b) _ => b
            | _ => false)
          | none => false) = _
      rw [hq]; dsimp only; rw [e]
      dsimp only
      rw [h1, Bool.eq_iff_iff]
      simp; omega
  generalize hT14 : T13 ++ [Ob.lst (intsN L2)] = T14
  have K14 : Keep [] T13 T14 := by rw [← hT14]; exact Keep.push _ _ _
  have ft : fTuple (.ref T13.length) T14 = .ok (.tup (intsN L2)) T14 := fTuple_lst (by rw [← hT14]; exact get_last _ _)
  have heq : heardW ka (.tup (intsN L)) = heardW ka (.tup (intsN L2)) := by
    cases ka with
    | some r => rfl
    | none => rw [hL2 rfl]
  have pl14 := heardW_pl (n := 4) (o := ka) (d := .tup (intsN L2)) oka (fun hn => by rw [hL2 hn]; exact pl_nats 3 (by omega)) (by decide)
  have g13 : T13[T12.length]? = some (.lst [refW ka]) := by rw [← hT13]; exact get_last _ _
  obtain ⟨T15, e15, K15⟩ := is_heard_ok (S := T14) (l := T12.length) (os := [ka]) (o := ka) (d := .tup (intsN L2)) (K14.get g13 (by simp)) (fun o ho => by simp at ho; subst ho; exact oka) (by unfold firstW; cases ka <;> rfl) pl14 (by decide)
  have r1 : -(4611686018427387904 : Int) ≤ (c.fs.length : Int) := by omega
  have r2 : (c.fs.length : Int) ≤ 16777216 := by omega
  rw [← heq] at e15
  generalize heardW ka (.tup (intsN L)) = H12 at *
  have s10 : (sRet (eCall F__law_is_heard (aCons (eV 5) (aCons (eLst (aCons (eCall F__law_wf_kind (aCons (eV 1) (aCons (eV 7) aNil))) aNil)) (aCons (eUn fTuple (eComp (iRng (eUn fLen (eV 4))) (.nm 9) (tE (eOp oEq (eOp oIx (eOp oIx (eV 4) (eV 9)) (eC (.int 0))) (eV 7))) (eV 9) [9])) aNil))))) [some (.ref p), some c.d, some (.int (c.h : Int)), some (.int (c.k : Int)), some (.tup (c.fs.map fD)), some H12, some (.ref T5.length), some a, some b, none] T12 = .rt (.bl true) T15 := by
    have it : iRng (eUn fLen (eV 4)) [some (.ref p), some c.d, some (.int (c.h : Int)), some (.int (c.k : Int)), some (.tup (c.fs.map fD)), some H12, some (.ref T5.length), some a, some b, none] T13 = .ok ⟨rngD 0 (c.fs.length : Int), []⟩ T13 := by simp [r1, r2]
    simp only [sRet_eq, eCall_eq, aCons_eq, aNil_eq, eV_eq, List.getElem?_cons_succ, List.getElem?_cons_zero, Res.bind_ok, eLst_eq, e6a]
    rw [if_pos (by simp [LIM_val])]
    simp only [Res.bind_ok, hT13, eUn_eq, eComp_eq, it, wipeE_cons, wipeE_nil, List.set_cons_succ, List.set_cons_zero, cp, noEx_ok, hT14, ft, e15, ofE_ok]
  refine ⟨T15, ?_, ?_, ?_⟩
  · exact (mkF_eq 2 10 _ [.ref p, c.d] S rfl).trans (by
      rw [show startE 10 [D.ref p, c.d] = [some (.ref p), some c.d, none, none, none, none, none, none, none, none] from rfl]
      rw [show b__law_fields_right [some (.ref p), some c.d, none, none, none, none, none, none, none, none] S = .rt (.bl true) T15 from nx_seq s1 (nx_seq s2 (nx_seq s3 (nx_seq s4 (nx_seq s5 (nx_seq s6 (nx_seq s7 (nx_seq s8 (nx_seq s9 s10))))))))])
  · exact (K1.trans K2).trans ((((((((((K3.trans K4).trans K5).trans K9).trans K10).trans K11).trans K12).trans K13).trans K14).trans K15).mono (by simp))
  · exact P2.keep ((((((((((K3.trans K4).trans K5).trans K9).trans K10).trans K11).trans K12).trans K13).trans K14).trans K15)) (by simp)
end WkL


set_option Elab.async false
set_option linter.all false
set_option maxRecDepth 100000
set_option maxHeartbeats 1000000
set_option autoImplicit false
/-! PvOrder: orders of kinds. -/
namespace WkL
open PySem (Str)
open Wk
abbrev castL (L : List Nat) : List Int := L.map fun (f : Nat) => (f : Int)
/-- sorted, the numbers below n -/
def srtB (L : List Nat) (n : Nat) : Bool := decide (sortI (castL L) = castL (List.range n))
theorem castL_nodup {L : List Nat} (h : L.Nodup) : (castL L).Nodup := List.Pairwise.map _ (fun a b (h : a ≠ b) => by omega) h
theorem srt_iff {L : List Nat} {n : Nat} : srtB L n = true ↔ L.Perm (List.range n) := by
  unfold srtB
  rw [decide_eq_true_iff]
  constructor
  · intro h
    have pm := sortI_perm (castL L)
    rw [h] at pm
    exact (perm_unmap (f := fun (f : Nat) => (f : Int)) (fun a b h => by omega) pm).symm
  · intro h
    have nd := h.nodup_iff.mpr List.nodup_range
    refine lt_ext (sortI_lt (castL_nodup nd)) ?_ fun x => ?_
    · rw [castL, List.pairwise_map]
      exact (List.pairwise_lt_range (n := n)).imp fun h => by omega
    · rw [mem_sortI, List.mem_map, List.mem_map]
      exact ⟨fun ⟨a, ha, e⟩ => ⟨a, h.mem_iff.mp ha, e⟩, fun ⟨a, ha, e⟩ => ⟨a, h.mem_iff.mpr ha, e⟩⟩
/-- so many different numbers below n are all of them -/
theorem perm_range {L : List Nat} {n : Nat} (nd : L.Nodup) (lt : ∀ a ∈ L, a < n) (len : L.length = n) : L.Perm (List.range n) := by
  rw [List.perm_ext_iff_of_nodup nd List.nodup_range]
  intro a
  rw [List.mem_range]
  refine ⟨lt a, fun ha => ?_⟩
  refine Decidable.byContradiction fun q => ?_
  have := nodup_lt_len (k := n) (l := a :: L) (List.nodup_cons.mpr ⟨q, nd⟩) (fun v hv => by
    rcases List.mem_cons.mp hv with e | e
    · rw [e]; exact ha
    · exact lt v e)
  simp at this; omega
def natsOf (ds : List D) : List Nat := ds.map fun d => match d with
  | .int i => i.toNat
  | _ => 0
theorem natsOf_ints (L : List Nat) : natsOf (intsN L) = L := by
  unfold natsOf
  rw [List.map_map]
  exact (List.map_congr_left fun a _ => by simp).trans (List.map_id L)
theorem whole_nats : ∀ {ds : List D} {n : Int}, (∀ d ∈ ds, wholeB d 0 n = true) → ∃ L : List Nat, ds = intsN L ∧ ∀ a ∈ L, (a : Int) ≤ n
  | [], _, _ => ⟨[], rfl, by simp⟩
  | d :: ds, n, h => by
    obtain ⟨i, rfl, i0, i1⟩ := whole_int (h d List.mem_cons_self)
    obtain ⟨a, rfl⟩ := Int.eq_ofNat_of_zero_le i0
    obtain ⟨L, rfl, hL⟩ := whole_nats (ds := ds) fun x hx => h x (List.mem_cons_of_mem _ hx)
    exact ⟨a :: L, rfl, fun x hx => by
      rcases List.mem_cons.mp hx with e | e
      · rw [e]; exact i1
      · exact hL x e⟩
/-- an order of the kinds, hand kinds first -/
structure OrdOk (c : Sch) (L : List Nat) : Prop where
  pm : L.Perm (List.range c.k)
  hd : ∀ a ∈ L.take c.h, a < c.h
def ordB (c : Sch) (x : D) : Bool := match x with
  | .tup ds => decide (ds.length = c.k) && (ds.all (fun d => wholeB d 0 ((c.k : Int) - 1)) && (srtB (natsOf ds) c.k && ((natsOf ds).take c.h).all (fun a => decide (a < c.h))))
  | _ => false
theorem ordB_yes {c : Sch} {x : D} (h : ordB c x = true) : ∃ L, x = .tup (intsN L) ∧ OrdOk c L := by
  unfold ordB at h
  split at h
  · rename_i ds
    simp only [Bool.and_eq_true, List.all_eq_true, decide_eq_true_eq] at h
    obtain ⟨h1, h2, h3, h4⟩ := h
    obtain ⟨L, rfl, hL⟩ := whole_nats h2
    rw [natsOf_ints] at h3 h4
    exact ⟨L, rfl, srt_iff.mp h3, h4⟩
  · cases h
theorem OrdOk.len {c : Sch} {L : List Nat} (h : OrdOk c L) : L.length = c.k := by rw [h.pm.length_eq, List.length_range]
theorem OrdOk.nd {c : Sch} {L : List Nat} (h : OrdOk c L) : L.Nodup := h.pm.nodup_iff.mpr List.nodup_range
theorem OrdOk.mem {c : Sch} {L : List Nat} (h : OrdOk c L) {a : Nat} : a ∈ L ↔ a < c.k := by rw [h.pm.mem_iff, List.mem_range]
theorem ordB_of {c : Sch} {L : List Nat} (h : OrdOk c L) : ordB c (.tup (intsN L)) = true := by
  unfold ordB
  simp only [Bool.and_eq_true, List.all_eq_true, decide_eq_true_eq, natsOf_ints]
  refine ⟨by rw [List.length_map]; exact h.len, fun d hd => ?_, srt_iff.mpr h.pm, h.hd⟩
  obtain ⟨a, ha, rfl⟩ := List.mem_map.mp hd
  have := h.mem.mp ha
  simp [wholeB]; omega
/-- the first ones are just the hands -/
theorem ord_first {c : Sch} (hk : c.h ≤ c.k) {L : List Nat} (pm : L.Perm (List.range c.k)) : srtB (L.take c.h) c.h = (L.take c.h).all fun a => decide (a < c.h) := by
  have nd : L.Nodup := pm.nodup_iff.mpr List.nodup_range
  have ln : L.length = c.k := by rw [pm.length_eq, List.length_range]
  rw [Bool.eq_iff_iff, srt_iff, List.all_eq_true]
  constructor
  · intro h a ha
    have := h.mem_iff.mp ha
    rw [List.mem_range] at this
    simpa using this
  · intro h
    exact perm_range (nd.sublist (List.take_sublist _ _)) (fun a ha => by simpa using h a ha) (by rw [List.length_take]; omega)
/-- things that are told as orders -/
structure OddO (S : Store) (x : D) : Prop where
  ty : Ty S 1 x
  sc : ∀ ds, x = .tup ds → ∀ d ∈ ds, Pl 0 d
theorem sorted_tupN (L : List Nat) (S : Store) : fSorted (.tup (intsN L)) S = .ok (.ref S.length) (S ++ [.lst ((sortI (castL L)).map D.int)]) := by
  unfold fSorted
  dsimp only
  rw [intsN, intsN_int, intsD_map]
theorem listRg_nat (n : Nat) (hn : n ≤ 1000) (S : Store) : fListRg (.int (n : Int)) S = .ok (.ref S.length) (S ++ [.lst ((castL (List.range n)).map D.int)]) := by
  rw [fListRg_int, if_pos ⟨by omega, by omega⟩, rngD_nat]
  simp
/-- sorted(L) == list(range(n)) -/
theorem srt_eq (L : List Nat) (n : Nat) (hn : n ≤ 1000) (S : Store) : ((fSorted (.tup (intsN L)) S).bind fun x S1 => (fListRg (.int (n : Int)) S1).bind fun y S2 => oEq x y S2) = .ok (.bl (srtB L n)) (S ++ [.lst ((sortI (castL L)).map D.int)] ++ [.lst ((castL (List.range n)).map D.int)]) := by
  rw [sorted_tupN, Res.bind_ok, listRg_nat n hn, Res.bind_ok]
  exact oEq_lists (by rw [List.append_assoc]; simp) (get_last _ _)
theorem all_bls {S : Store} {l : Nat} {bs : List Bool} (h : S[l]? = some (.lst (bs.map D.bl))) : fAll (.ref l) S = .ok (.bl (bs.all id)) S := by
  have key : ∀ bs : List Bool, blsD (bs.map D.bl) = some bs := by
    intro bs
    induction bs with
    | nil => rfl
    | cons b bs ih => rw [List.map_cons]; unfold blsD; rw [ih]
  unfold fAll fAllBy; dsimp only; rw [h]; dsimp only; rw [key]
theorem is_order_any {c : Sch} (hc : c.Ok) {x : D} {S : Store} (ox : OddO S x) : ∃ T, F_is_order [c.d, x] S = .ok (.bl (ordB c x)) T ∧ Keep [] S T := by
  have k24 := hc.k24; have hk := hc.hk
  have c0 := sch_ix0 c; have c1 := sch_ix1 c
  have r := is_row_any ox.ty c.k
  have s1 : (sAsg (.tp [(.nm 2), (.nm 3)]) (eTup (aCons (eOp oIx (eV 0) (eC (.int 0))) (aCons (eOp oIx (eV 0) (eC (.int 1))) aNil)))) [some c.d, some x, none, none, none] S = .nx [some c.d, some x, some (.int (c.h : Int)), some (.int (c.k : Int)), none] S := by
    simp [c0, c1, LIM_val]
  have body : ∀ {d : D} {T : Store}, (sSeq (sIf (tOr (Wk.tNot (tE (eCall F_is_row (aCons (eV 1) (aCons (eV 3) aNil))))) (Wk.tNot (tE (eUn fAll (eComp (iSeq (eV 1)) (.nm 4) tTrue (eCall F_is_whole (aCons (eV 4) (aCons (eC (.int 0)) (aCons (eOp oSub (eV 3) (eC (.int 1))) aNil)))) [4]))))) (sRet (eC (.bl false))) sSkip) (sRet (eAnd (eOp oEq (eUn fSorted (eV 1)) (eUn fListRg (eV 3))) (eUn fAll (eComp (iSeq (eSlice (eV 1) oNone (oSome (eV 2)))) (.nm 4) tTrue (eOp oLt (eV 4) (eV 2)) [4]))))) [some c.d, some x, some (.int (c.h : Int)), some (.int (c.k : Int)), none] S = .rt d T → F_is_order [c.d, x] S = .ok d T := by
    intro d T h
    exact (mkF_eq 2 5 _ [c.d, x] S rfl).trans (by
      rw [show startE 5 [c.d, x] = [some c.d, some x, none, none, none] from rfl]
      rw [show b_is_order [some c.d, some x, none, none, none] S = .rt d T from nx_seq s1 h])
  cases hr : rowB x c.k with
  | false =>
    rw [hr] at r
    have : ordB c x = false := by
      cases x with
      | tup ds =>
        have : ¬ ds.length = c.k := of_decide_eq_false hr
        simp [ordB, this]
      | _ => rfl
    rw [this]
    refine ⟨S, body ?_, Keep.refl _ _⟩
    rw [sSeq_eq, show (sIf (tOr (Wk.tNot (tE (eCall F_is_row (aCons (eV 1) (aCons (eV 3) aNil))))) (Wk.tNot (tE (eUn fAll (eComp (iSeq (eV 1)) (.nm 4) tTrue (eCall F_is_whole (aCons (eV 4) (aCons (eC (.int 0)) (aCons (eOp oSub (eV 3) (eC (.int 1))) aNil)))) [4]))))) (sRet (eC (.bl false))) sSkip) [some c.d, some x, some (.int (c.h : Int)), some (.int (c.k : Int)), none] S = .rt (.bl false) S from by simp [r]]
  | true =>
    obtain ⟨ds, rfl, hl⟩ := row_tup hr
    rw [hr] at r
    have cp : compL [] (.nm 4) tTrue (eCall F_is_whole (aCons (eV 4) (aCons (eC (.int 0)) (aCons (eOp oSub (eV 3) (eC (.int 1))) aNil)))) [some c.d, some (.tup ds), some (.int (c.h : Int)), some (.int (c.k : Int)), none] ds S = .ok ((ds.map fun d => wholeB d 0 ((c.k : Int) - 1)).map D.bl) S := by
      rw [List.map_map]
      have := compL_map (c := []) (g := .nm 4) (e := (eCall F_is_whole (aCons (eV 4) (aCons (eC (.int 0)) (aCons (eOp oSub (eV 3) (eC (.int 1))) aNil))))) (sw := [some c.d, some (.tup ds), some (.int (c.h : Int)), some (.int (c.k : Int)), none]) (S := S) (f := fun d => .bl (wholeB d 0 ((c.k : Int) - 1))) rfl ds (by
        intro d hd
        have td : Ty S 0 d := (ox.sc ds rfl d hd).ty
        exact ⟨_, rfl, by simp [is_whole_any td]⟩)
      exact this
    generalize hW : ds.map (fun d => wholeB d 0 ((c.k : Int) - 1)) = W at *
    have al : W.all id = ds.all (fun d => wholeB d 0 ((c.k : Int) - 1)) := by rw [← hW, List.all_map]; rfl
    generalize hT1 : S ++ [Ob.lst (W.map D.bl)] = T1
    have K1 : Keep [] S T1 := by rw [← hT1]; exact Keep.push _ _ _
    have fa := all_bls (show T1[S.length]? = some (.lst (W.map D.bl)) by rw [← hT1]; exact get_last _ _)
    rw [al] at fa
    have tst : (tOr (Wk.tNot (tE (eCall F_is_row (aCons (eV 1) (aCons (eV 3) aNil))))) (Wk.tNot (tE (eUn fAll (eComp (iSeq (eV 1)) (.nm 4) tTrue (eCall F_is_whole (aCons (eV 4) (aCons (eC (.int 0)) (aCons (eOp oSub (eV 3) (eC (.int 1))) aNil)))) [4]))))) [some c.d, some (.tup ds), some (.int (c.h : Int)), some (.int (c.k : Int)), none] S = .ok (!(ds.all (fun d => wholeB d 0 ((c.k : Int) - 1)))) T1 := by
      simp only [tOr_eq, tNot_eq, tE_eq, eCall_eq, aCons_eq, aNil_eq, eV_eq, List.getElem?_cons_succ, List.getElem?_cons_zero, Res.bind_ok, r, Bool.not_true, if_false, eUn_eq, eComp_eq, iSeq_eq, wipeE_cons, wipeE_nil, List.set_cons_succ, List.set_cons_zero, cp, noEx_ok, hT1, fa]
      rfl
    cases ha : ds.all (fun d => wholeB d 0 ((c.k : Int) - 1)) with
    | false =>
      rw [ha] at tst
      have : ordB c (.tup ds) = false := by simp only [ordB, ha, Bool.false_and, Bool.and_false]
      rw [this]
      refine ⟨T1, body ?_, K1⟩
      rw [sSeq_eq, sIf_eq, tst]; rfl
    | true =>
      rw [ha] at tst
      obtain ⟨L, rfl, hL⟩ := whole_nats (fun d hd => List.all_eq_true.mp ha d hd)
      have hLl : L.length = c.k := by simpa using hl
      have s2 : (sIf (tOr (Wk.tNot (tE (eCall F_is_row (aCons (eV 1) (aCons (eV 3) aNil))))) (Wk.tNot (tE (eUn fAll (eComp (iSeq (eV 1)) (.nm 4) tTrue (eCall F_is_whole (aCons (eV 4) (aCons (eC (.int 0)) (aCons (eOp oSub (eV 3) (eC (.int 1))) aNil)))) [4]))))) (sRet (eC (.bl false))) sSkip) [some c.d, some (.tup (intsN L)), some (.int (c.h : Int)), some (.int (c.k : Int)), none] S = .nx [some c.d, some (.tup (intsN L)), some (.int (c.h : Int)), some (.int (c.k : Int)), none] T1 := by
        rw [sIf_eq, tst]; rfl
      have e3 := srt_eq L c.k (by omega) T1
      generalize hT3 : T1 ++ [Ob.lst ((sortI (castL L)).map D.int)] ++ [Ob.lst ((castL (List.range c.k)).map D.int)] = T3 at e3
      have K3 : Keep [] T1 T3 := by rw [← hT3]; exact (Keep.push _ _ _).trans (Keep.push _ _ _)
      have ob : ordB c (.tup (intsN L)) = (srtB L c.k && (L.take c.h).all (fun a => decide (a < c.h))) := by
        unfold ordB
        dsimp only
        rw [ha, natsOf_ints, decide_eq_true hl, Bool.true_and, Bool.true_and]
      rw [ob]
      have fst : (tE (eOp oEq (eUn fSorted (eV 1)) (eUn fListRg (eV 3)))) [some c.d, some (.tup (intsN L)), some (.int (c.h : Int)), some (.int (c.k : Int)), none] T1 = .ok (srtB L c.k) T3 := by
        simp only [tE_eq, eOp_eq, eUn_eq, eV_eq, List.getElem?_cons_succ, List.getElem?_cons_zero, Res.bind_ok]
        rw [e3]; rfl
      cases hs : srtB L c.k with
      | false =>
        rw [hs] at fst
        refine ⟨T3, body (nx_seq s2 ?_), K1.trans K3⟩
        rw [sRet_eq, eAnd_eq, fst]; rfl
      | true =>
        rw [hs] at fst
        have cp2 : compL [] (.nm 4) tTrue (eOp oLt (eV 4) (eV 2)) [some c.d, some (.tup (intsN L)), some (.int (c.h : Int)), some (.int (c.k : Int)), none] (intsN (L.take c.h)) T3 = .ok (((L.take c.h).map fun a => decide (a < c.h)).map D.bl) T3 := by
          refine (compL_on (c := []) (S := T3) (dg := fun (a : Nat) => D.int (a : Int)) (p := fun _ => true) (f := fun a => D.bl (decide (a < c.h))) rfl (L.take c.h) ?_).trans (by rw [List.filter_eq_self.mpr (fun _ _ => rfl), List.map_map]; rfl)
          intro a _
          refine ⟨_, rfl, rfl, fun _ => ?_⟩
          have : decide ((a : Int) < (c.h : Int)) = decide (a < c.h) := by rw [decide_eq_decide]; omega
          simp [this]
        have sl : slD (.tup (intsN L)) none (some (c.h : Int)) T3 = .ok (.tup (intsN (L.take c.h))) T3 := by
          unfold slD; dsimp only; rw [cut_to, ← List.map_take]
        have sle : eSlice (eV 1) oNone (oSome (eV 2)) [some c.d, some (.tup (intsN L)), some (.int (c.h : Int)), some (.int (c.k : Int)), none] T3 = .ok (.tup (intsN (L.take c.h))) T3 := by
          simp [eSlice, oNone, oSome, sl]
        have fa2 := all_bls (get_last T3 (.lst (((L.take c.h).map fun a => decide (a < c.h)).map D.bl)))
        have ae : ((L.take c.h).map fun a => decide (a < c.h)).all id = (L.take c.h).all fun a => decide (a < c.h) := by rw [List.all_map]; rfl
        rw [ae] at fa2
        refine ⟨T3 ++ [.lst (((L.take c.h).map fun a => decide (a < c.h)).map D.bl)], body (nx_seq s2 ?_), (K1.trans K3).trans (Keep.push _ _ _)⟩
        rw [sRet_eq, eAnd_eq, fst, Res.bind_ok, if_pos rfl]
        simp only [eUn_eq, eComp_eq, iSeq_eq, sle, Res.bind_ok, wipeE_cons, wipeE_nil, List.set_cons_succ, List.set_cons_zero, cp2, noEx_ok, fa2, ofE_ok, Bool.true_and]
def ordW (c : Sch) (x : D) : Rf := if ordB c x = true then none else some ("BadOrder", .int (-1))
theorem wf_order_any {c : Sch} (hc : c.Ok) {x : D} {S : Store} (ox : OddO S x) : ∃ T, F__law_wf_order [c.d, x] S = .ok (refW (ordW c x)) T ∧ Keep [] S T := by
  have k24 := hc.k24; have hk := hc.hk
  have c0 := sch_ix0 c; have c1 := sch_ix1 c
  have ti := inst_tup_any ox.ty
  have s1 : (sAsg (.tp [(.nm 2), (.nm 3)]) (eTup (aCons (eOp oIx (eV 0) (eC (.int 0))) (aCons (eOp oIx (eV 0) (eC (.int 1))) aNil)))) [some c.d, some x, none, none, none, none] S = .nx [some c.d, some x, some (.int (c.h : Int)), some (.int (c.k : Int)), none, none] S := by
    simp [c0, c1, LIM_val]
  have body : ∀ {d : D} {T : Store}, (sSeq (sIf (tOr (Wk.tNot (tE (eUn (fIsInst "tuple") (eV 1)))) (tE (eOp oNe (eUn fLen (eV 1)) (eV 3)))) (sRet (eTup (aCons (eC (.str "BadOrder")) (aCons (eUn uNeg (eC (.int 1))) aNil)))) sSkip) (sSeq (sIf (tE (eOp oNe (eComp (iSeq (eV 1)) (.nm 5) (Wk.tNot (tE (eCall F__law_wf_is (aCons (eV 5) (aCons (eC (.int 0)) (aCons (eOp oSub (eV 3) (eC (.int 1))) aNil)))))) (eV 5) [5]) (eLst aNil))) (sRet (eTup (aCons (eC (.str "BadOrder")) (aCons (eUn uNeg (eC (.int 1))) aNil)))) sSkip)
    (sSeq (sSet 4 (eOp oEq (eUn fSorted (eSlice (eV 1) oNone (oSome (eV 2)))) (eUn fListRg (eV 2))))
    (sRet (eIf (tAnd (tE (eV 4)) (tE (eOp oEq (eUn fSorted (eV 1)) (eUn fListRg (eV 3))))) (eC .non) (eTup (aCons (eC (.str "BadOrder")) (aCons (eUn uNeg (eC (.int 1))) aNil)))))))) [some c.d, some x, some (.int (c.h : Int)), some (.int (c.k : Int)), none, none] S = .rt d T → F__law_wf_order [c.d, x] S = .ok d T := by
    intro d T h
    exact (mkF_eq 2 6 _ [c.d, x] S rfl).trans (by
      rw [show startE 6 [c.d, x] = [some c.d, some x, none, none, none, none] from rfl]
      rw [show b__law_wf_order [some c.d, some x, none, none, none, none] S = .rt d T from nx_seq s1 h])
  have bad : ordB c x = false → refW (ordW c x) = .tup [.str "BadOrder", .int (-1)] := by
    intro h
    unfold ordW
    rw [h]; rfl
  cases hr : rowB x c.k with
  | false =>
    have : ordB c x = false := by
      cases x with
      | tup ds =>
        have : ¬ ds.length = c.k := of_decide_eq_false hr
        simp [ordB, this]
      | _ => rfl
    rw [bad this]
    refine ⟨S, body ?_, Keep.refl _ _⟩
    rw [sSeq_eq]
    cases ht : tupB x with
    | false =>
      rw [ht] at ti
      rw [show (sIf (tOr (Wk.tNot (tE (eUn (fIsInst "tuple") (eV 1)))) (tE (eOp oNe (eUn fLen (eV 1)) (eV 3)))) (sRet (eTup (aCons (eC (.str "BadOrder")) (aCons (eUn uNeg (eC (.int 1))) aNil)))) sSkip) [some c.d, some x, some (.int (c.h : Int)), some (.int (c.k : Int)), none, none] S = .rt (.tup [.str "BadOrder", .int (-1)]) S from by simp [-fIsInst_eq, ti, LIM_val]]
    | true =>
      rw [ht] at ti
      cases x with
      | tup ds =>
        have h1 : ¬ ds.length = c.k := of_decide_eq_false hr
        have h2 : ((ds.length : Int) == (c.k : Int)) = false := by rw [beq_eq_false_iff_ne]; omega
        rw [show (sIf (tOr (Wk.tNot (tE (eUn (fIsInst "tuple") (eV 1)))) (tE (eOp oNe (eUn fLen (eV 1)) (eV 3)))) (sRet (eTup (aCons (eC (.str "BadOrder")) (aCons (eUn uNeg (eC (.int 1))) aNil)))) sSkip) [some c.d, some (.tup ds), some (.int (c.h : Int)), some (.int (c.k : Int)), none, none] S = .rt (.tup [.str "BadOrder", .int (-1)]) S from by simp [-fIsInst_eq, ti, LIM_val, h2]]
      | _ => cases ht
  | true =>
    obtain ⟨ds, rfl, hl⟩ := row_tup hr
    have s2 : (sIf (tOr (Wk.tNot (tE (eUn (fIsInst "tuple") (eV 1)))) (tE (eOp oNe (eUn fLen (eV 1)) (eV 3)))) (sRet (eTup (aCons (eC (.str "BadOrder")) (aCons (eUn uNeg (eC (.int 1))) aNil)))) sSkip) [some c.d, some (.tup ds), some (.int (c.h : Int)), some (.int (c.k : Int)), none, none] S = .nx [some c.d, some (.tup ds), some (.int (c.h : Int)), some (.int (c.k : Int)), none, none] S := by
      simp [isTy, hl]
    have cp : compL [] (.nm 5) (Wk.tNot (tE (eCall F__law_wf_is (aCons (eV 5) (aCons (eC (.int 0)) (aCons (eOp oSub (eV 3) (eC (.int 1))) aNil)))))) (eV 5) [some c.d, some (.tup ds), some (.int (c.h : Int)), some (.int (c.k : Int)), none, none] ds S = .ok (ds.filter fun d => !wholeB d 0 ((c.k : Int) - 1)) S := by
      have := compL_pure (c := []) (g := .nm 5) (t := (Wk.tNot (tE (eCall F__law_wf_is (aCons (eV 5) (aCons (eC (.int 0)) (aCons (eOp oSub (eV 3) (eC (.int 1))) aNil))))))) (e := eV 5) (sw := [some c.d, some (.tup ds), some (.int (c.h : Int)), some (.int (c.k : Int)), none, none]) (S := S) (p := fun d => !wholeB d 0 ((c.k : Int) - 1)) (f := id) rfl ds (by
        intro d hd
        have td : Ty S 0 d := (ox.sc ds rfl d hd).ty
        exact ⟨[some c.d, some (.tup ds), some (.int (c.h : Int)), some (.int (c.k : Int)), none, some d], rfl, by simp [wf_is_any td], fun _ => rfl⟩)
      rw [this, List.map_id]
    generalize hW : (ds.filter fun d => !wholeB d 0 ((c.k : Int) - 1)) = W at *
    generalize hT1 : S ++ [Ob.lst W] = T1
    have g1 : T1[S.length]? = some (.lst W) := by rw [← hT1]; exact get_last _ _
    have g2 : (T1 ++ [Ob.lst []])[S.length]? = some (.lst W) := by rw [List.getElem?_append_left (lt_of_get g1)]; exact g1
    have eq := oEq_nil (n := 0) g2 (get_last T1 (.lst [])) (fun d hd => by rw [← hW] at hd; exact ox.sc ds rfl d (List.mem_filter.mp hd).1) (by decide)
    have we : W.isEmpty = ds.all (fun d => wholeB d 0 ((c.k : Int) - 1)) := by
      rw [← hW, Bool.eq_iff_iff, List.isEmpty_iff, List.filter_eq_nil_iff, List.all_eq_true]
      simp
    rw [we] at eq
    generalize hT2 : T1 ++ [Ob.lst []] = T2 at *
    have K2 : Keep [] S T2 := by rw [← hT2, ← hT1]; exact (Keep.push _ _ _).trans (Keep.push _ _ _)
    have tst : (tE (eOp oNe (eComp (iSeq (eV 1)) (.nm 5) (Wk.tNot (tE (eCall F__law_wf_is (aCons (eV 5) (aCons (eC (.int 0)) (aCons (eOp oSub (eV 3) (eC (.int 1))) aNil)))))) (eV 5) [5]) (eLst aNil))) [some c.d, some (.tup ds), some (.int (c.h : Int)), some (.int (c.k : Int)), none, none] S = .ok (!(ds.all (fun d => wholeB d 0 ((c.k : Int) - 1)))) T2 := by
      simp only [tE_eq, eOp_eq, eUn_eq, eComp_eq, iSeq_eq, eV_eq, List.getElem?_cons_succ, List.getElem?_cons_zero, Res.bind_ok, wipeE_cons, wipeE_nil, List.set_cons_succ, List.set_cons_zero, cp, noEx_ok, hT1, eLst_eq, aNil_eq, List.length_nil]
      rw [if_pos (by simp [LIM_val]), Res.bind_ok, hT2, oNe_eq, eq, notR_ok]
      rfl
    cases ha : ds.all (fun d => wholeB d 0 ((c.k : Int) - 1)) with
    | false =>
      rw [ha] at tst
      have : ordB c (.tup ds) = false := by simp only [ordB, ha, Bool.false_and, Bool.and_false]
      rw [bad this]
      refine ⟨T2, body (nx_seq s2 ?_), K2⟩
      rw [sSeq_eq, show (sIf (tE (eOp oNe (eComp (iSeq (eV 1)) (.nm 5) (Wk.tNot (tE (eCall F__law_wf_is (aCons (eV 5) (aCons (eC (.int 0)) (aCons (eOp oSub (eV 3) (eC (.int 1))) aNil)))))) (eV 5) [5]) (eLst aNil))) (sRet (eTup (aCons (eC (.str "BadOrder")) (aCons (eUn uNeg (eC (.int 1))) aNil)))) sSkip) [some c.d, some (.tup ds), some (.int (c.h : Int)), some (.int (c.k : Int)), none, none] S = .rt (.tup [.str "BadOrder", .int (-1)]) T2 from by
        rw [sIf_eq, tst, ofE_ok, Bool.not_false, if_pos rfl]; simp [LIM_val]]
    | true =>
      rw [ha] at tst
      obtain ⟨L, rfl, hL⟩ := whole_nats (fun d hd => List.all_eq_true.mp ha d hd)
      have hLl : L.length = c.k := by simpa using hl
      have s3 : (sIf (tE (eOp oNe (eComp (iSeq (eV 1)) (.nm 5) (Wk.tNot (tE (eCall F__law_wf_is (aCons (eV 5) (aCons (eC (.int 0)) (aCons (eOp oSub (eV 3) (eC (.int 1))) aNil)))))) (eV 5) [5]) (eLst aNil))) (sRet (eTup (aCons (eC (.str "BadOrder")) (aCons (eUn uNeg (eC (.int 1))) aNil)))) sSkip) [some c.d, some (.tup (intsN L)), some (.int (c.h : Int)), some (.int (c.k : Int)), none, none] S = .nx [some c.d, some (.tup (intsN L)), some (.int (c.h : Int)), some (.int (c.k : Int)), none, none] T2 := by
        rw [sIf_eq, tst]; rfl
      have sl : slD (.tup (intsN L)) none (some (c.h : Int)) T2 = .ok (.tup (intsN (L.take c.h))) T2 := by
        unfold slD; dsimp only; rw [cut_to, ← List.map_take]
      have sle : eSlice (eV 1) oNone (oSome (eV 2)) [some c.d, some (.tup (intsN L)), some (.int (c.h : Int)), some (.int (c.k : Int)), none, none] T2 = .ok (.tup (intsN (L.take c.h))) T2 := by
        simp [eSlice, oNone, oSome, sl]
      have e4 := srt_eq (L.take c.h) c.h (by omega) T2
      generalize hT4 : T2 ++ [Ob.lst ((sortI (castL (L.take c.h))).map D.int)] ++ [Ob.lst ((castL (List.range c.h)).map D.int)] = T4 at e4
      have K4 : Keep [] T2 T4 := by rw [← hT4]; exact (Keep.push _ _ _).trans (Keep.push _ _ _)
      have s4 : (sSet 4 (eOp oEq (eUn fSorted (eSlice (eV 1) oNone (oSome (eV 2)))) (eUn fListRg (eV 2)))) [some c.d, some (.tup (intsN L)), some (.int (c.h : Int)), some (.int (c.k : Int)), none, none] T2 = .nx [some c.d, some (.tup (intsN L)), some (.int (c.h : Int)), some (.int (c.k : Int)), some (.bl (srtB (L.take c.h) c.h)), none] T4 := by
        simp only [sSet_eq, eOp_eq, eUn_eq, sle, eV_eq, List.getElem?_cons_succ, List.getElem?_cons_zero, Res.bind_ok]
        rw [e4]; rfl
      have e5 := srt_eq L c.k (by omega) T4
      generalize hT5 : T4 ++ [Ob.lst ((sortI (castL L)).map D.int)] ++ [Ob.lst ((castL (List.range c.k)).map D.int)] = T5 at e5
      have K5 : Keep [] T4 T5 := by rw [← hT5]; exact (Keep.push _ _ _).trans (Keep.push _ _ _)
      have ob : ordB c (.tup (intsN L)) = (srtB L c.k && (L.take c.h).all (fun a => decide (a < c.h))) := by
        unfold ordB
        dsimp only
        rw [ha, natsOf_ints, decide_eq_true hl, Bool.true_and, Bool.true_and]
      cases hs0 : srtB (L.take c.h) c.h with
      | false =>
        rw [hs0] at s4
        have : ordB c (.tup (intsN L)) = false := by
          rw [ob]
          cases hs : srtB L c.k with
          | false => rfl
          | true => rw [← ord_first hk (srt_iff.mp hs), hs0]; rfl
        rw [bad this]
        exact ⟨T4, body (nx_seq s2 (nx_seq s3 (nx_seq s4 (by simp [LIM_val])))), K2.trans K4⟩
      | true =>
        rw [hs0] at s4
        have t6 : (tE (eOp oEq (eUn fSorted (eV 1)) (eUn fListRg (eV 3)))) [some c.d, some (.tup (intsN L)), some (.int (c.h : Int)), some (.int (c.k : Int)), some (.bl true), none] T4 = .ok (srtB L c.k) T5 := by
          simp only [tE_eq, eOp_eq, eUn_eq, eV_eq, List.getElem?_cons_succ, List.getElem?_cons_zero, Res.bind_ok]
          rw [e5]; rfl
        have ord : ordB c (.tup (intsN L)) = srtB L c.k := by
          rw [ob]
          cases hs : srtB L c.k with
          | false => rfl
          | true => rw [← ord_first hk (srt_iff.mp hs), hs0]; rfl
        unfold ordW
        rw [ord]
        refine ⟨T5, body (nx_seq s2 (nx_seq s3 (nx_seq s4 ?_))), (K2.trans K4).trans K5⟩
        have t7 : (tAnd (tE (eV 4)) (tE (eOp oEq (eUn fSorted (eV 1)) (eUn fListRg (eV 3))))) [some c.d, some (.tup (intsN L)), some (.int (c.h : Int)), some (.int (c.k : Int)), some (.bl true), none] T4 = .ok (srtB L c.k) T5 := by
          rw [tAnd_eq]
          rw [show (tE (eV 4)) [some c.d, some (.tup (intsN L)), some (.int (c.h : Int)), some (.int (c.k : Int)), some (.bl true), none] T4 = .ok true T4 from rfl, Res.bind_ok, if_pos rfl]
          exact t6
        rw [sRet_eq, eIf_eq, t7, Res.bind_ok]
        cases srtB L c.k with
        | true => simp [refW]
        | false => simp [refW, LIM_val]
end WkL


set_option Elab.async false
set_option linter.all false
set_option maxRecDepth 100000
set_option maxHeartbeats 1000000
set_option autoImplicit false
/-! PvRename: schemas by another order of kinds. -/
namespace WkL
open PySem (Str)
open Wk
/-- where a kind stands in an order -/
def posN (L : List Nat) (a : Nat) : Nat := L.idxOf a
theorem posN_lt {L : List Nat} {a : Nat} (h : a ∈ L) : posN L a < L.length := List.idxOf_lt_length_of_mem h
theorem posN_get {L : List Nat} {a : Nat} (h : a ∈ L) : L[posN L a]? = some a := by
  rw [List.getElem?_eq_getElem (posN_lt h)]
  exact congrArg some (List.getElem_idxOf (posN_lt h))
theorem nd_ix {L : List Nat} (nd : L.Nodup) {i j a : Nat} (h : L[i]? = some a) (k : L[j]? = some a) : i = j := by
  have hi := List.getElem?_eq_some_iff.mp h
  have hj := List.getElem?_eq_some_iff.mp k
  obtain ⟨hi, ei⟩ := hi
  obtain ⟨hj, ej⟩ := hj
  have pw := List.pairwise_iff_getElem.mp nd
  refine Decidable.byContradiction fun q => ?_
  rcases Nat.lt_or_gt_of_ne q with z | z
  · exact pw i j hi hj z (ei.trans ej.symm)
  · exact pw j i hj hi z (ej.trans ei.symm)
theorem posN_of {L : List Nat} (nd : L.Nodup) {i a : Nat} (h : L[i]? = some a) : posN L a = i := nd_ix nd (posN_get (List.mem_of_getElem? h)) h
/-- the schema whose kind j is what L's j-th was -/
def ren (c : Sch) (L : List Nat) : Sch := ⟨c.h, c.k, c.fs.map (mvF (posN L))⟩
theorem OrdOk.pos_lt {c : Sch} {L : List Nat} (h : OrdOk c L) {a : Nat} (ha : a < c.k) : posN L a < c.k := by
  have := posN_lt (h.mem.mpr ha)
  rw [h.len] at this; exact this
theorem OrdOk.pos_hand {c : Sch} (hk : c.h ≤ c.k) {L : List Nat} (h : OrdOk c L) {a : Nat} (ha : a < c.k) : posN L a < c.h ↔ a < c.h := by
  have fl := h.len
  constructor
  · intro q
    have g := posN_get (h.mem.mpr ha)
    refine h.hd a ?_
    rw [List.mem_take_iff_getElem]
    have hj := (List.getElem?_eq_some_iff.mp g)
    exact ⟨posN L a, by omega, hj.2⟩
  · intro q
    have nt : (L.take c.h).Nodup := h.nd.sublist (List.take_sublist _ _)
    have pm := perm_range nt h.hd (by rw [List.length_take]; omega)
    have ma : a ∈ L.take c.h := pm.mem_iff.mpr (List.mem_range.mpr q)
    obtain ⟨j, hj, e⟩ := List.getElem_of_mem ma
    have hj2 : j < c.h := by rw [List.length_take] at hj; omega
    rw [List.getElem_take] at e
    have : L[j]? = some a := by rw [List.getElem?_eq_getElem (by rw [List.length_take] at hj; omega), e]
    rw [posN_of h.nd this]
    exact hj2
theorem ren_ok {c : Sch} (hc : c.Ok) {L : List Nat} (h : OrdOk c L) : (ren c L).Ok where
  h1 := hc.h1
  h6 := hc.h6
  hk := hc.hk
  k24 := hc.k24
  f40 := by show (c.fs.map _).length ≤ 40; rw [List.length_map]; exact hc.f40
  fs := by
    intro q hq
    obtain ⟨r, hr, rfl⟩ := List.mem_map.mp hq
    obtain ⟨r1, r2, r3⟩ := hc.fs r hr
    refine ⟨h.pos_lt r1, ?_, h.pos_lt r3⟩
    show c.h ≤ posN L r.2
    refine Decidable.byContradiction fun z => ?_
    have := (h.pos_hand hc.hk r3).mp (by omega)
    omega
/-- an order turned about -/
def backL (c : Sch) (L : List Nat) : List Nat := (List.range c.k).map (posN L)
theorem back_get {c : Sch} {L : List Nat} {a : Nat} (ha : a < c.k) : (backL c L)[a]? = some (posN L a) := by
  unfold backL; rw [List.getElem?_map, List.getElem?_range ha]; rfl
theorem posN_inj {L : List Nat} {a b : Nat} (ha : a ∈ L) (hb : b ∈ L) (e : posN L a = posN L b) : a = b := by
  have h1 := posN_get ha
  have h2 := posN_get hb
  rw [e] at h1
  exact Option.some.inj (h1.symm.trans h2)
theorem back_ok {c : Sch} (hc : c.Ok) {L : List Nat} (h : OrdOk c L) : OrdOk (ren c L) (backL c L) where
  pm := by
    show (backL c L).Perm (List.range c.k)
    refine perm_range ?_ ?_ (by unfold backL; simp)
    · unfold backL
      rw [List.Nodup, List.pairwise_map]
      exact (List.nodup_range (n := c.k)).imp_of_mem fun {a b} ha hb hne z => hne (posN_inj (h.mem.mpr (List.mem_range.mp ha)) (h.mem.mpr (List.mem_range.mp hb)) z)
    · intro a ha
      obtain ⟨b, hb, rfl⟩ := List.mem_map.mp ha
      exact h.pos_lt (List.mem_range.mp hb)
  hd := by
    intro a ha
    show a < c.h
    change a ∈ (backL c L).take c.h at ha
    unfold backL at ha
    rw [← List.map_take] at ha
    obtain ⟨b, hb, rfl⟩ := List.mem_map.mp ha
    have hk := hc.hk
    rw [List.take_range, List.mem_range] at hb
    exact (h.pos_hand hc.hk (by omega)).mpr (by omega)
theorem back_pos {c : Sch} (hc : c.Ok) {L : List Nat} (h : OrdOk c L) {a : Nat} (ha : a < c.k) : posN (backL c L) (posN L a) = a := posN_of (back_ok hc h).nd (back_get ha)
theorem ren_back {c : Sch} (hc : c.Ok) {L : List Nat} (h : OrdOk c L) : ren (ren c L) (backL c L) = c := by
  unfold ren
  dsimp only
  rw [List.map_map]
  have : c.fs.map (mvF (posN (backL c L)) ∘ mvF (posN L)) = c.fs := by
    refine (List.map_congr_left fun q hq => ?_).trans (List.map_id _)
    obtain ⟨q1, _, q3⟩ := hc.fs q hq
    show (posN (backL c L) (posN L q.1), posN (backL c L) (posN L q.2)) = q
    rw [back_pos hc h q1, back_pos hc h q3]
  rw [this]
/-! ### places as a dict -/
theorem get_key {c : Sch} {L : List Nat} (h : OrdOk c L) : ∀ i j, i < c.k → j < c.k → L.getD i 0 = L.getD j 0 → i = j := by
  intro i j hi hj e
  have g1 : L[i]? = some (L.getD i 0) := by rw [List.getD_eq_getElem?_getD, List.getElem?_eq_getElem (by rw [h.len]; exact hi)]; rfl
  have g2 : L[j]? = some (L.getD j 0) := by rw [List.getD_eq_getElem?_getD, List.getElem?_eq_getElem (by rw [h.len]; exact hj)]; rfl
  rw [← e] at g2
  exact nd_ix h.nd g1 g2
theorem place_get {c : Sch} {L : List Nat} (h : OrdOk c L) {S : Store} {l : Nat} (g : S[l]? = some (.dk (kvT c.k (fun i => L.getD i 0) id))) {a : Nat} (ha : a < c.k) : oIxD (.ref l) (.int (a : Int)) S = .ok (.int (posN L a : Int)) S := by
  have := kvT_get (get_key h) g (h.pos_lt ha)
  have e : L.getD (posN L a) 0 = a := by rw [List.getD_eq_getElem?_getD, posN_get (h.mem.mpr ha)]; rfl
  rw [e] at this
  exact this
theorem renamed_no {c : Sch} (hc : c.Ok) {x : D} {S : Store} (ox : OddO S x) (hb : ordB c x = false) : ∃ T, F_renamed [c.d, x] S = .ex "BadOrder" (.int (-1)) T ∧ Keep [] S T := by
  have e0 := made_ok hc S
  have ox1 : OddO (S ++ [.lst (c.fs.map fD)]) x := ⟨ox.ty.keep (Keep.push _ _ _), ox.sc⟩
  obtain ⟨T, e1, K1⟩ := is_order_any hc ox1
  rw [hb] at e1
  refine ⟨T, ?_, (Keep.push _ _ _).trans K1⟩
  unfold Sch.d at e0 e1 ⊢
  simp [F_renamed, mkF, startE, e0, e1]
theorem oddO_ints (L : List Nat) (S : Store) : OddO S (.tup (intsN L)) := ⟨fun x hx => by
  obtain ⟨a, _, rfl⟩ := List.mem_map.mp hx
  exact True.intro, fun ds e d hd => by
  cases e
  obtain ⟨a, _, rfl⟩ := List.mem_map.mp hd
  exact True.intro⟩
theorem getD_get {L : List Nat} {i : Nat} (h : i < L.length) : L[i]? = some (L.getD i 0) := by rw [List.getD_eq_getElem?_getD, List.getElem?_eq_getElem h]; rfl
theorem ints_range {L : List Nat} {n : Nat} (h : L.length = n) : intsN L = (List.range n).map fun (i : Nat) => D.int ((L.getD i 0 : Nat) : Int) := by
  refine List.ext_getElem? fun i => ?_
  rw [List.getElem?_map, List.getElem?_map]
  by_cases q : i < n
  · rw [List.getElem?_range q, getD_get (by omega)]; rfl
  · rw [List.getElem?_eq_none (by omega), List.getElem?_eq_none (by simpa using q)]; rfl
theorem renamed_ok {c : Sch} (hc : c.Ok) {L : List Nat} (h : OrdOk c L) (S : Store) : ∃ T, F_renamed [c.d, .tup (intsN L)] S = .ok (ren c L).d T ∧ Keep [] S T := by
  have f40 := hc.f40
  have e0 := made_ok hc S
  obtain ⟨T1, e1, K1⟩ := is_order_any hc (oddO_ints L (S ++ [.lst (c.fs.map fD)]))
  rw [ordB_of h] at e1
  have s1 : (sAsg (.tp [(.nm 2), (.nm 3), (.nm 4)]) (eCall F_made_schema (aCons (eV 0) aNil))) [some c.d, some (.tup (intsN L)), none, none, none, none, none, none, none, none] S = .nx [some c.d, some (.tup (intsN L)), some (.int (c.h : Int)), some (.int (c.k : Int)), some (.tup (c.fs.map fD)), none, none, none, none, none] (S ++ [.lst (c.fs.map fD)]) := by
    unfold Sch.d at e0 ⊢
    simp [e0]
  have s2 : (sIf (Wk.tNot (tE (eCall F_is_order (aCons (eV 0) (aCons (eV 1) aNil))))) (sRaise "BadOrder" (eUn uNeg (eC (.int 1)))) sSkip) [some c.d, some (.tup (intsN L)), some (.int (c.h : Int)), some (.int (c.k : Int)), some (.tup (c.fs.map fD)), none, none, none, none, none] (S ++ [.lst (c.fs.map fD)]) = .nx [some c.d, some (.tup (intsN L)), some (.int (c.h : Int)), some (.int (c.k : Int)), some (.tup (c.fs.map fD)), none, none, none, none, none] T1 := by simp [e1]
  have cp : compD [] (.tp [(.nm 6), (.nm 7)]) tTrue (eV 7) (eV 6) [some c.d, some (.tup (intsN L)), some (.int (c.h : Int)), some (.int (c.k : Int)), some (.tup (c.fs.map fD)), none, none, none, none, none] (enumD (intsN L)) T1 = .ok (kvT c.k (fun i => L.getD i 0) id) T1 := by
    have en : enumD (intsN L) = (List.range c.k).map fun (i : Nat) => D.tup [.int (i : Int), .int ((L.getD i 0 : Nat) : Int)] := by
      rw [ints_range h.len]
      refine List.ext_getElem? fun i => ?_
      rw [enum_get, List.getElem?_map, List.getElem?_map]
      by_cases q : i < c.k
      · rw [List.getElem?_range q]; rfl
      · rw [List.getElem?_eq_none (by simpa using q)]; rfl
    rw [en]
    exact compD_on (c := []) (S := T1) (k := fun (i : Nat) => nk (L.getD i 0)) (f := fun (i : Nat) => D.int ((id i : Nat) : Int)) (dg := fun (i : Nat) => D.tup [.int (i : Int), .int ((L.getD i 0 : Nat) : Int)]) rfl (List.range c.k) fun i _ => ⟨[some c.d, some (.tup (intsN L)), some (.int (c.h : Int)), some (.int (c.k : Int)), some (.tup (c.fs.map fD)), none, some (.int (i : Int)), some (.int ((L.getD i 0 : Nat) : Int)), none, none], rfl, ⟨_, rfl, rfl⟩, rfl⟩
  have mg : mergeD [] (kvT c.k (fun i => L.getD i 0) id) = kvT c.k (fun i => L.getD i 0) id := kvT_merge (get_key h)
  generalize hT2 : T1 ++ [Ob.dk (kvT c.k (fun i => L.getD i 0) id)] = T2
  have g2 : T2[T1.length]? = some (.dk (kvT c.k (fun i => L.getD i 0) id)) := by rw [← hT2]; exact get_last _ _
  have s3 : (sSet 5 (eDComp (iEnum (eV 1)) (.tp [(.nm 6), (.nm 7)]) tTrue (eV 7) (eV 6) [6, 7])) [some c.d, some (.tup (intsN L)), some (.int (c.h : Int)), some (.int (c.k : Int)), some (.tup (c.fs.map fD)), none, none, none, none, none] T1 = .nx [some c.d, some (.tup (intsN L)), some (.int (c.h : Int)), some (.int (c.k : Int)), some (.tup (c.fs.map fD)), some (.ref T1.length), none, none, none, none] T2 := by
    rw [sSet_eq, eDComp_eq]
    rw [show iEnum (eV 1) [some c.d, some (.tup (intsN L)), some (.int (c.h : Int)), some (.int (c.k : Int)), some (.tup (c.fs.map fD)), none, none, none, none, none] T1 = .ok ⟨enumD (intsN L), []⟩ T1 from rfl, Res.bind_ok]
    simp only [wipeE_cons, wipeE_nil, List.set_cons_succ, List.set_cons_zero, cp, noEx_ok, Res.bind_ok, mg, ofE_ok, hT2]
  have cp4 : compL [] (.tp [(.nm 8), (.nm 9)]) tTrue (eTup (aCons (eOp oIxD (eV 5) (eV 8)) (aCons (eOp oIxD (eV 5) (eV 9)) aNil))) [some c.d, some (.tup (intsN L)), some (.int (c.h : Int)), some (.int (c.k : Int)), some (.tup (c.fs.map fD)), some (.ref T1.length), none, none, none, none] (c.fs.map fD) T2 = .ok ((c.fs.map (mvF (posN L))).map fD) T2 := by
    refine (compL_on (c := []) (S := T2) (dg := fD) (p := fun _ => true) (f := fun q => fD (mvF (posN L) q)) rfl c.fs ?_).trans (by rw [List.filter_eq_self.mpr (fun _ _ => rfl), List.map_map]; rfl)
    intro q hq
    obtain ⟨q1, _, q3⟩ := hc.fs q hq
    have p1 := place_get h g2 q1
    have p2 := place_get h g2 q3
    refine ⟨[some c.d, some (.tup (intsN L)), some (.int (c.h : Int)), some (.int (c.k : Int)), some (.tup (c.fs.map fD)), some (.ref T1.length), none, none, some (.int (q.1 : Int)), some (.int (q.2 : Int))], rfl, rfl, fun _ => ?_⟩
    simp [p1, p2, LIM_val, fD, mvF]
  have ft := fTuple_lst (get_last T2 (.lst ((c.fs.map (mvF (posN L))).map fD)))
  refine ⟨T2 ++ [.lst ((c.fs.map (mvF (posN L))).map fD)], ?_, (((Keep.push _ _ _).trans K1).trans (by rw [← hT2]; exact Keep.push _ _ _)).trans (Keep.push _ _ _)⟩
  exact (mkF_eq 2 10 _ [c.d, .tup (intsN L)] S rfl).trans (by
    rw [show startE 10 [c.d, D.tup (intsN L)] = [some c.d, some (.tup (intsN L)), none, none, none, none, none, none, none, none] from rfl]
    rw [show b_renamed [some c.d, some (.tup (intsN L)), none, none, none, none, none, none, none, none] S = .rt (ren c L).d (T2 ++ [.lst ((c.fs.map (mvF (posN L))).map fD)]) from nx_seq s1 (nx_seq s2 (nx_seq s3 (by
      simp only [sRet_eq, eTup_eq, aCons_eq, aNil_eq, eUn_eq, eComp_eq, iSeq_eq, eV_eq, List.getElem?_cons_succ, List.getElem?_cons_zero, Res.bind_ok, wipeE_cons, wipeE_nil, List.set_cons_succ, List.set_cons_zero, cp4, noEx_ok, ft]
      rw [if_pos (by simp [LIM_val]), ofE_ok]
      rfl)))])
/-- the law's own -/
theorem led_fields_ok {c : Sch} (hc : c.Ok) {m : Nat → Nat} {S : Store} {l : Nat} (hm : ∀ a, a < c.k → oIxD (.ref l) (.int (a : Int)) S = .ok (.int (m a : Int)) S) : F__law_led_fields [c.d, .ref l] S = .ok (.tup ((c.fs.map (mvF m)).map fD)) (S ++ [.lst ((c.fs.map (mvF m)).map fD)]) := by
  have c2 := sch_ix2 c
  have cp : compL [] (.tp [(.nm 2), (.nm 3)]) tTrue (eTup (aCons (eOp oIxD (eV 1) (eV 2)) (aCons (eOp oIxD (eV 1) (eV 3)) aNil))) [some c.d, some (.ref l), none, none] (c.fs.map fD) S = .ok ((c.fs.map (mvF m)).map fD) S := by
    refine (compL_on (c := []) (S := S) (dg := fD) (p := fun _ => true) (f := fun q => fD (mvF m q)) rfl c.fs ?_).trans (by rw [List.filter_eq_self.mpr (fun _ _ => rfl), List.map_map]; rfl)
    intro q hq
    obtain ⟨q1, _, q3⟩ := hc.fs q hq
    have p1 := hm _ q1
    have p2 := hm _ q3
    exact ⟨[some c.d, some (.ref l), some (.int (q.1 : Int)), some (.int (q.2 : Int))], rfl, rfl, fun _ => by simp [p1, p2, LIM_val, fD, mvF]⟩
  have ft := fTuple_lst (get_last S (.lst ((c.fs.map (mvF m)).map fD)))
  exact (mkF_eq 2 4 _ [c.d, .ref l] S rfl).trans (by
    rw [show startE 4 [c.d, D.ref l] = [some c.d, some (.ref l), none, none] from rfl]
    rw [show b__law_led_fields [some c.d, some (.ref l), none, none] S = .rt (.tup ((c.fs.map (mvF m)).map fD)) (S ++ [.lst ((c.fs.map (mvF m)).map fD)]) from by
      simp only [sRet_eq, eUn_eq, eComp_eq, iSeq_eq, eOp_eq, eV_eq, eC_eq, List.getElem?_cons_succ, List.getElem?_cons_zero, Res.bind_ok, c2, wipeE_cons, wipeE_nil, List.set_cons_succ, List.set_cons_zero, cp, noEx_ok, ft, ofE_ok]])
/-- dict([(order[j], j) for j in range(len(order))]) -/
theorem place_comp {c : Sch} {L : List Nat} (h : OrdOk c L) {g : Tg} {e : FE} {sw : Env} {T : Store} (he : ∀ i : Nat, i < c.k → ∃ s1, gF g (.int (i : Int)) sw = some s1 ∧ e s1 T = ((oIx (.tup (intsN L)) (.int (i : Int)) T).bind fun x S1 => .ok (.tup [x, .int (i : Int)]) S1)) :
    compL [] g tTrue e sw (rngD 0 (c.k : Int)) T = .ok ((List.range c.k).map fun (i : Nat) => D.tup [.int ((L.getD i 0 : Nat) : Int), .int ((id i : Nat) : Int)]) T := by
  rw [rngD_on]
  refine (compL_on (c := []) (S := T) (dg := fun (i : Nat) => D.int (i : Int)) (p := fun _ => true) (f := fun (i : Nat) => D.tup [.int ((L.getD i 0 : Nat) : Int), .int ((id i : Nat) : Int)]) rfl (List.range c.k) ?_).trans (by rw [List.filter_eq_self.mpr (fun _ _ => rfl)])
  intro i hi
  obtain ⟨s1, h1, h2⟩ := he i (List.mem_range.mp hi)
  refine ⟨s1, h1, rfl, fun _ => ?_⟩
  have ix : oIx (.tup (intsN L)) (.int (i : Int)) T = .ok (.int ((L.getD i 0 : Nat) : Int)) T := by
    rw [oIx_tup, atI_nat, List.getElem?_map, getD_get (by rw [h.len]; exact List.mem_range.mp hi)]; rfl
  rw [h2, ix, Res.bind_ok]
  rfl
theorem renamed_by_ok {c : Sch} (hc : c.Ok) {L : List Nat} (h : OrdOk c L) (S : Store) : ∃ T, F__law_renamed_by [c.d, .tup (intsN L)] S = .ok (ren c L).d T ∧ Keep [] S T := by
  have k24 := hc.k24
  have hl := h.len
  have c0 := sch_ix0 c; have c1 := sch_ix1 c
  have r1 : -(4611686018427387904 : Int) ≤ (c.k : Int) := by omega
  have r2 : (c.k : Int) ≤ 16777216 := by omega
  have cp : compL [] (.nm 3) tTrue (eTup (aCons (eOp oIx (eV 1) (eV 3)) (aCons (eV 3) aNil))) [some c.d, some (.tup (intsN L)), none, none] (rngD 0 (c.k : Int)) S = .ok ((List.range c.k).map fun (i : Nat) => D.tup [.int ((L.getD i 0 : Nat) : Int), .int ((id i : Nat) : Int)]) S := by
    refine place_comp h fun i hi => ⟨_, rfl, ?_⟩
    have gi : (intsN L)[i]? = some (.int ((L.getD i 0 : Nat) : Int)) := by rw [List.getElem?_map, getD_get (by omega)]; rfl
    simp [LIM_val, gi]
  generalize hT1 : S ++ [Ob.lst ((List.range c.k).map fun (i : Nat) => D.tup [.int ((L.getD i 0 : Nat) : Int), .int ((id i : Nat) : Int)])] = T1
  have g1 : T1[S.length]? = some (.lst ((List.range c.k).map fun (i : Nat) => D.tup [.int ((L.getD i 0 : Nat) : Int), .int ((id i : Nat) : Int)])) := by rw [← hT1]; exact get_last _ _
  have fd := fDict_kvT (get_key h) g1
  generalize hT2 : T1 ++ [Ob.dk (kvT c.k (fun i => L.getD i 0) id)] = T2 at *
  have g2 : T2[T1.length]? = some (.dk (kvT c.k (fun i => L.getD i 0) id)) := by rw [← hT2]; exact get_last _ _
  have lf := led_fields_ok hc (S := T2) (l := T1.length) (m := posN L) fun a ha => place_get h g2 ha
  have it : iRng (eUn fLen (eV 1)) [some c.d, some (.tup (intsN L)), none, none] S = .ok ⟨rngD 0 (c.k : Int), []⟩ S := by simp [hl, r1, r2]
  have s1 : (sSet 2 (eUn fDict (eComp (iRng (eUn fLen (eV 1))) (.nm 3) tTrue (eTup (aCons (eOp oIx (eV 1) (eV 3)) (aCons (eV 3) aNil))) [3]))) [some c.d, some (.tup (intsN L)), none, none] S = .nx [some c.d, some (.tup (intsN L)), some (.ref T1.length), none] T2 := by
    simp only [sSet_eq, eUn_eq, eComp_eq, it, Res.bind_ok, wipeE_cons, wipeE_nil, List.set_cons_succ, List.set_cons_zero, cp, noEx_ok, hT1, fd, ofE_ok]
  refine ⟨T2 ++ [.lst ((c.fs.map (mvF (posN L))).map fD)], ?_, by rw [← hT2, ← hT1]; exact ((Keep.push _ _ _).trans (Keep.push _ _ _)).trans (Keep.push _ _ _)⟩
  exact (mkF_eq 2 4 _ [c.d, .tup (intsN L)] S rfl).trans (by
    rw [show startE 4 [c.d, D.tup (intsN L)] = [some c.d, some (.tup (intsN L)), none, none] from rfl]
    rw [show b__law_renamed_by [some c.d, some (.tup (intsN L)), none, none] S = .rt (ren c L).d (T2 ++ [.lst ((c.fs.map (mvF (posN L))).map fD)]) from nx_seq s1 (by
      simp only [sRet_eq, eTup_eq, aCons_eq, aNil_eq, eCall_eq, eOp_eq, eV_eq, eC_eq, List.getElem?_cons_succ, List.getElem?_cons_zero, Res.bind_ok, c0, c1, lf]
      rw [if_pos (by simp [LIM_val]), ofE_ok]
      rfl)])
end WkL


set_option Elab.async false
set_option linter.all false
set_option maxRecDepth 100000
set_option maxHeartbeats 1000000
set_option autoImplicit false
/-! Pk04c: orders drawn; what is had goes along. -/
namespace WkL
open PySem (Str)
open Wk
theorem Reach.map_to {fs gs : List (Nat × Nat)} {src tgt : Nat → Prop} {m : Nat → Nat} (hs : ∀ a, src a → tgt (m a)) (he : ∀ q ∈ fs, mvF m q ∈ gs) {a : Nat} (h : Reach fs src a) : Reach gs tgt (m a) :=
  Reach.ind (P := fun v => Reach gs tgt (m v)) (fun v hv => Reach.of_src (hs v hv)) (fun a v ih e => ih.step (he (a, v) e)) h
theorem Reach.lt {c : Sch} (hc : c.Ok) {a : Nat} (h : Reach c.fs (fun v => v < c.h) a) : a < c.k := by
  have hk := hc.hk
  exact Reach.ind (P := fun v => v < c.k) (fun v hv => by omega) (fun a v _ e => (hc.fs _ e).2.2) h
theorem reach_ren {c : Sch} (hc : c.Ok) {L : List Nat} (h : OrdOk c L) {v : Nat} : Reach (ren c L).fs (fun v => v < c.h) v ↔ ∃ a, Reach c.fs (fun v => v < c.h) a ∧ v = posN L a := by
  have hk := hc.hk
  constructor
  · intro r
    refine Reach.ind (P := fun v => ∃ a, Reach c.fs (fun v => v < c.h) a ∧ v = posN L a) (fun v hv => ?_) (fun a v ih e => ?_) r
    · have hv' : v < L.length := by rw [h.len]; omega
      have g : L[v]? = some L[v] := List.getElem?_eq_getElem hv'
      generalize L[v] = w at g
      have pw := posN_of h.nd g
      have wk := h.mem.mp (List.mem_of_getElem? g)
      exact ⟨w, Reach.of_src ((h.pos_hand hk wk).mp (by omega)), pw.symm⟩
    · obtain ⟨b, hb, rfl⟩ := ih
      obtain ⟨q, hq, e2⟩ := List.mem_map.mp e
      have e3 : posN L q.1 = posN L b := congrArg Prod.fst e2
      have e4 : posN L q.2 = v := congrArg Prod.snd e2
      have qb := posN_inj (h.mem.mpr (hc.fs q hq).1) (h.mem.mpr (hb.lt hc)) e3
      exact ⟨q.2, hb.step (by rw [← qb]; exact hq), e4.symm⟩
  · rintro ⟨a, ha, rfl⟩
    have key : ∀ a, Reach c.fs (fun v => v < c.h) a → Reach (ren c L).fs (fun v => v < c.h) (posN L a) := fun a ha =>
      Reach.map_to (m := posN L) (fun b hb => (h.pos_hand hk (by omega)).mpr hb) (fun q hq => List.mem_map.mpr ⟨q, hq, rfl⟩) ha
    exact key a ha
theorem reachL_lt (fs : List (Nat × Nat)) (k : Nat) (src : Nat → Prop) : (reachL fs k src).Pairwise (· < ·) := by
  unfold reachL
  exact (List.pairwise_lt_range (n := k)).filter _
/-- sorted told numbers -/
theorem sorted_is {S : Store} {l : Nat} {X R : List Nat} (h : S[l]? = some (.lst (intsN X))) (nd : X.Nodup) (lt : R.Pairwise (· < ·)) (m : ∀ x, x ∈ X ↔ x ∈ R) : fSorted (.ref l) S = .ok (.ref S.length) (S ++ [.lst (intsN R)]) := by
  obtain ⟨M, e, pm, lt2⟩ := sorted_nats h nd
  rw [e, nat_ext lt2 lt fun x => by rw [pm.mem_iff, m x]]
theorem perm_ints : ∀ {es : List D} {L : List Nat}, es.Perm (intsN L) → ∃ M, es = intsN M ∧ M.Perm L := by
  intro es L h
  have key : ∀ es : List D, (∀ d ∈ es, ∃ a : Nat, d = .int (a : Int)) → ∃ M : List Nat, es = intsN M := by
    intro es
    induction es with
    | nil => intro _; exact ⟨[], rfl⟩
    | cons d es ih =>
      intro hd
      obtain ⟨a, rfl⟩ := hd d List.mem_cons_self
      obtain ⟨M, rfl⟩ := ih fun x hx => hd x (List.mem_cons_of_mem _ hx)
      exact ⟨a :: M, rfl⟩
  obtain ⟨M, rfl⟩ := key es fun d hd => by
    obtain ⟨a, _, rfl⟩ := List.mem_map.mp (h.mem_iff.mp hd)
    exact ⟨a, rfl⟩
  exact ⟨M, rfl, perm_unmap (f := fun (f : Nat) => D.int (f : Int)) (fun a b e => by injection e with e1; omega) h⟩
theorem rngD_from (a b : Nat) : rngD (a : Int) (b : Int) = intsN ((List.range (b - a)).map fun i => a + i) := by
  unfold rngD
  rw [show ((b : Int) - (a : Int)).toNat = b - a from by omega, intsN, List.map_map]
  refine List.map_congr_left fun i _ => ?_
  show D.int ((a : Int) + (i : Int)) = D.int (((a + i : Nat)) : Int)
  congr 1
theorem ord_of_parts {c : Sch} (hc : c.Ok) {A B : List Nat} (ha : A.Perm (List.range c.h)) (hb : B.Perm ((List.range (c.k - c.h)).map fun i => c.h + i)) : OrdOk c (A ++ B) where
  pm := by
    have hk := hc.hk
    rw [show c.k = c.h + (c.k - c.h) from by omega, List.range_add]
    exact ha.append hb
  hd := by
    intro a h
    have la : A.length = c.h := by rw [ha.length_eq, List.length_range]
    rw [List.take_append_of_le_length (by omega), List.take_of_length_le (by omega)] at h
    have := ha.mem_iff.mp h
    exact List.mem_range.mp this
theorem index_nats {S : Store} {l : Nat} {L : List Nat} (h : S[l]? = some (.lst (intsN L))) (nd : L.Nodup) {a : Nat} (ha : a ∈ L) : oIndex (.ref l) (.int (a : Int)) S = .ok (.int (posN L a : Int)) S := by
  obtain ⟨j, h1, h2⟩ := enc_nat.idx ha
  unfold oIndex idxD
  dsimp only
  rw [enc_nat.lo S 59 a, enc_nat.list h 58]
  dsimp only
  rw [h1]
  dsimp only
  rw [posN_of nd h2]
/-- a scalar -/
theorem cut_mem {ds : List D} {lo hi : Option Int} {d : D} (h : d ∈ cutD ds lo hi) : d ∈ ds := by
  unfold cutD at h
  exact List.mem_of_mem_drop (List.mem_of_mem_take h)
theorem cut_len (ds : List D) (lo hi : Option Int) : (cutD ds lo hi).length ≤ ds.length := by
  unfold cutD
  rw [List.length_take, List.length_drop]; omega
def ScT (x : D) : Prop := ∃ ds, x = .tup ds ∧ ds.length ≤ 1000 ∧ ∀ d ∈ ds, Pl 0 d
theorem ScT.ints {L : List Nat} (h : L.length ≤ 1000) : ScT (.tup (intsN L)) := ⟨_, rfl, by simpa using h, fun d hd => by
  obtain ⟨a, _, rfl⟩ := List.mem_map.mp hd
  exact True.intro⟩
theorem ScT.odd {x : D} (h : ScT x) (S : Store) : OddO S x := by
  obtain ⟨ds, rfl, _, hs⟩ := h
  exact ⟨fun d hd => (hs d hd).ty, fun es e => by cases e; exact hs⟩
theorem ScT.cat {A B : List D} (ha : ScT (.tup A)) (hb : ScT (.tup B)) (hz : A.length + B.length ≤ 1000) : ScT (.tup (A ++ B)) := by
  obtain ⟨_, e, _, hs⟩ := ha
  cases e
  obtain ⟨_, e, _, hs2⟩ := hb
  cases e
  exact ⟨_, rfl, by simp; omega, fun d hd => (List.mem_append.mp hd).elim (hs d) (hs2 d)⟩
theorem ScT.cut {A : List D} (ha : ScT (.tup A)) (lo hi : Option Int) : ScT (.tup (cutD A lo hi)) := by
  obtain ⟨_, e, hl, hs⟩ := ha
  cases e
  exact ⟨_, rfl, Nat.le_trans (cut_len _ _ _) hl, fun d hd => hs d (cut_mem hd)⟩
theorem txt_order : ((Str.ofString "order").cps.all fun x => decide (x < 0x110000)) = true := by decide +kernel
theorem txt_bad : ((Str.ofString "BadOrder").cps.all fun x => decide (x < 0x110000)) = true := by decide +kernel
theorem ordW_ok (c : Sch) (x : D) : RfOk (ordW c x) := by
  intro k w e
  unfold ordW at e
  split at e
  · cases e
  · cases e; exact ⟨txt_bad, True.intro⟩
theorem pl_schD {c : Sch} (hc : c.Ok) : Pl 3 c.d := by
  have f40 := hc.f40
  refine ⟨by simp, fun x hx => ?_⟩
  simp only [List.mem_cons, List.not_mem_nil, or_false] at hx
  rcases hx with rfl | rfl | rfl
  · exact pl_int _ _
  · exact pl_int _ _
  · refine ⟨by simp; omega, fun x hx => ?_⟩
    obtain ⟨q, _, rfl⟩ := List.mem_map.mp hx
    exact pl_fD _ _
theorem same_pl {S : Store} {n : Nat} {x : D} (h : Pl n x) (hn : n < 12) : F__law_same [x, x] S = .ok (.bl true) S := same_true n hn (same_refl n _ h.plain)
end WkL


set_option Elab.async false
set_option linter.all false
set_option maxRecDepth 100000
set_option maxHeartbeats 1000000
set_option autoImplicit false
/-! Pk04d: renamed is right. -/
namespace WkL
open PySem (Str)
open Wk
abbrev envO (p : Nat) (c : Sch) (y2 y3 y4 y5 y6 y7 y8 y9 y10 y11 : Option D) : Env := [some (.ref p), some c.d, y2, y3, y4, y5, y6, y7, y8, y9, y10, y11, none, none]
/-- what is told as an order, of scalars, or no tuple -/
def OddT (T : Store) (p : Nat) (x : D) : Prop := x = .non ∨ x = .str "order" ∨ ScT x ∨ ∃ l ds, x = .ref l ∧ l ≠ p ∧ T[l]? = some (.lst ds)
theorem OddT.keep {S T : Store} {p : Nat} {x : D} (h : OddT S p x) (K : Keep [p] S T) : OddT T p x := by
  rcases h with h | h | h | ⟨l, ds, h1, h2, h3⟩
  · exact .inl h
  · exact .inr (.inl h)
  · exact .inr (.inr (.inl h))
  · exact .inr (.inr (.inr ⟨l, ds, h1, h2, K.get h3 (by simpa using h2)⟩))
theorem OddT.odd {S : Store} {p : Nat} {x : D} (h : OddT S p x) : OddO S x := by
  rcases h with rfl | rfl | h | ⟨l, ds, rfl, _, h3⟩
  · exact ⟨True.intro, fun ds e => by cases e⟩
  · exact ⟨True.intro, fun ds e => by cases e⟩
  · exact h.odd S
  · exact ⟨⟨ds, h3⟩, fun ds e => by cases e⟩
/-- an operation by its values: no unfolding of it -/
theorem eOp_run {s : Env} {x y : D} {S T : Store} {a b : FE} {d : D} (ha : a s S = .ok x S) (hb : b s S = .ok y S) (F : Op) (hf : F x y S = .ok d T) : eOp F a b s S = .ok d T := by
  rw [eOp_eq, ha, Res.bind_ok, hb, Res.bind_ok, hf]
theorem rgOk_nat {a b : Nat} (ha : a ≤ 1000) (hb : b ≤ 1000) : rgOk (a : Int) (b : Int) = true := by
  unfold rgOk
  refine decide_eq_true ⟨by omega, by omega, by omega, by omega, ?_⟩
  have : ((b : Int) - (a : Int)).toNat ≤ 1000 := by omega
  exact Nat.le_trans this (by rw [LIM_val]; omega)
/-- an order drawn -/
theorem order_drawn {p : Nat} {c : Sch} (hc : c.Ok) {S : Store} (hP : Pool p S) : ∃ L a2 a3 T, OrdOk c L ∧ (sPar 2 3 (eUn fListRg (eOp oIx (eV 1) (eC (.int 0)))) (eOp oListRg (eOp oIx (eV 1) (eC (.int 0))) (eOp oIx (eV 1) (eC (.int 1))))) (envO p c none none none none none none none none none none) S = .nx (envO p c (some (.ref a2)) (some (.ref a3)) none none none none none none none none) (S ++ [.lst (intsN (List.range c.h))] ++ [.lst (rngD (c.h : Int) (c.k : Int))]) ∧
    (sSet 4 (eUn fTuple (eOp oAdd (eCall F__law_wv_mixed (aCons (eV 0) (aCons (eV 2) aNil))) (eCall F__law_wv_mixed (aCons (eV 0) (aCons (eV 3) aNil)))))) (envO p c (some (.ref a2)) (some (.ref a3)) none none none none none none none none) (S ++ [.lst (intsN (List.range c.h))] ++ [.lst (rngD (c.h : Int) (c.k : Int))]) = .nx (envO p c (some (.ref a2)) (some (.ref a3)) (some (.tup (intsN L))) none none none none none none none) T ∧ Keep [p] S T ∧ Pool p T := by
  have hp := hP.lt
  have k24 := hc.k24; have hk := hc.hk; have h6 := hc.h6
  have c0 := sch_ix0 c; have c1 := sch_ix1 c
  have r1 : -(4611686018427387904 : Int) ≤ (c.h : Int) := by omega
  have r2 : (c.h : Int) ≤ 16777216 := by omega
  have rg : oListRg (.int (c.h : Int)) (.int (c.k : Int)) (S ++ [.lst (intsN (List.range c.h))]) = .ok (.ref (S ++ [Ob.lst (intsN (List.range c.h))]).length) (S ++ [.lst (intsN (List.range c.h))] ++ [.lst (rngD (c.h : Int) (c.k : Int))]) := by
    unfold oListRg
    dsimp only
    rw [if_pos (rgOk_nat (by omega) (by omega))]
  have s1 : (sPar 2 3 (eUn fListRg (eOp oIx (eV 1) (eC (.int 0)))) (eOp oListRg (eOp oIx (eV 1) (eC (.int 0))) (eOp oIx (eV 1) (eC (.int 1))))) (envO p c none none none none none none none none none none) S = .nx (envO p c (some (.ref S.length)) (some (.ref (S ++ [Ob.lst (intsN (List.range c.h))]).length)) none none none none none none none none) (S ++ [.lst (intsN (List.range c.h))] ++ [.lst (rngD (c.h : Int) (c.k : Int))]) := by
    have lr : fListRg (.int (c.h : Int)) S = .ok (.ref S.length) (S ++ [.lst (intsN (List.range c.h))]) := by
      rw [listRg_nat c.h (by omega), ← intsN_int]
    have x1 : (eUn fListRg (eOp oIx (eV 1) (eC (.int 0)))) (envO p c none none none none none none none none none none) S = .ok (.ref S.length) (S ++ [.lst (intsN (List.range c.h))]) := by
      unfold envO
      rw [eUn_eq, eOp_eq]
      simp only [eV_eq, eC_eq, List.getElem?_cons_succ, List.getElem?_cons_zero, Res.bind_ok, c0, lr]
    have x2 : (eOp oListRg (eOp oIx (eV 1) (eC (.int 0))) (eOp oIx (eV 1) (eC (.int 1)))) (envO p c none none none none none none none none none none) (S ++ [.lst (intsN (List.range c.h))]) = .ok (.ref (S ++ [Ob.lst (intsN (List.range c.h))]).length) (S ++ [.lst (intsN (List.range c.h))] ++ [.lst (rngD (c.h : Int) (c.k : Int))]) := by
      unfold envO
      refine eOp_run ?_ ?_ _ rg
      · simp only [eOp_eq, eV_eq, eC_eq, List.getElem?_cons_succ, List.getElem?_cons_zero, Res.bind_ok, c0]
      · simp only [eOp_eq, eV_eq, eC_eq, List.getElem?_cons_succ, List.getElem?_cons_zero, Res.bind_ok, c1]
    rw [sPar_eq, x1, ofE_ok, x2, ofE_ok]
    rfl
  generalize hT1 : S ++ [Ob.lst (intsN (List.range c.h))] = T1 at *
  have hl1 : T1.length = S.length + 1 := by rw [← hT1]; simp
  generalize hT2 : T1 ++ [Ob.lst (rngD (c.h : Int) (c.k : Int))] = T2 at *
  have K2 : Keep [p] S T2 := by rw [← hT2, ← hT1]; exact (Keep.push _ _ _).trans (Keep.push _ _ _)
  have P2 : Pool p T2 := by rw [← hT2, ← hT1]; exact (hP.push).push
  have g1 : T2[S.length]? = some (.lst (intsN (List.range c.h))) := by
    rw [← hT2, List.getElem?_append_left (by omega), ← hT1]; exact get_last _ _
  have g2 : T2[T1.length]? = some (.lst (intsN ((List.range (c.k - c.h)).map fun i => c.h + i))) := by rw [← hT2, ← rngD_from]; exact get_last _ _
  obtain ⟨m3, es3, T3, e3, g3, pm3, K3, P3, l3⟩ := mixed_ok P2 g1 (by omega) (by simp; omega)
  have g23 := K3.get g2 (by simp; omega)
  obtain ⟨m4, es4, T4, e4, g4, pm4, K4, P4, l4⟩ := mixed_ok P3 g23 (by omega) (by simp; omega)
  have n3 : m3 ≠ p := by have := K2.1; omega
  have g34 := K4.get g3 (by simpa using n3)
  obtain ⟨A, rfl, pA⟩ := perm_ints pm3
  obtain ⟨B, rfl, pB⟩ := perm_ints pm4
  have ok := ord_of_parts hc pA pB
  have la := pA.length_eq
  have lb := pB.length_eq
  simp at la lb
  have ad := oAdd_lsts g34 g4 (by rw [LIM_val]; simp; omega)
  rw [← List.map_append] at ad
  have ft := fTuple_lst (get_last T4 (.lst (intsN (A ++ B))))
  refine ⟨A ++ B, S.length, T1.length, T4 ++ [.lst (intsN (A ++ B))], ok, s1, ?_, ((K2.trans K3).trans K4).trans (Keep.push _ _ _), P4.push⟩
  unfold envO
  simp only [sSet_eq, eUn_eq, eOp_eq, eCall_eq, aCons_eq, aNil_eq, eV_eq, List.getElem?_cons_succ, List.getElem?_cons_zero, Res.bind_ok, e3, e4, ad, ft, ofE_ok, List.set_cons_succ, List.set_cons_zero]
/-- what isn't an order, or is one by chance -/
theorem odd_order {p : Nat} {c : Sch} (hc : c.Ok) {L : List Nat} (h : OrdOk c L) {y2 y3 y5 y6 y7 : Option D} {S : Store} (hP : Pool p S) : ∃ a8 x T1 T2, (sSet 8 (eLst (aCons (eC .non) (aCons (eUn fList (eV 4)) (aCons (eSlice (eV 4) (oSome (eC (.int 1))) oNone) (aCons (eOp oAdd (eV 4) (eTup (aCons (eC (.int 0)) aNil))) (aCons (eOp oAdd (eSlice (eV 4) oNone (oSome (eUn uNeg (eC (.int 1))))) (eSlice (eV 4) oNone (oSome (eC (.int 1))))) (aCons (eUn fTuple (eCall F__law_wv_mixed (aCons (eV 0) (aCons (eV 4) aNil)))) (aCons (eC (.str "order")) (aCons (eTup aNil) aNil)))))))))) (envO p c y2 y3 (some (.tup (intsN L))) y5 y6 y7 none none none none) S = .nx (envO p c y2 y3 (some (.tup (intsN L))) y5 y6 y7 (some (.ref a8)) none none none) T1 ∧
    (sSet 11 (eCall F__law_wv_one (aCons (eV 0) (aCons (eOp oAdd (eV 8) (eLst (aCons (eOp oAdd (eSlice (eV 4) oNone (oSome (eUn uNeg (eC (.int 1))))) (eTup (aCons (eC .non) aNil))) (aCons (eUn fRevA (eV 4)) (aCons (eOp oAdd (eSlice (eV 4) oNone (oSome (eUn uNeg (eC (.int 1))))) (eTup (aCons (eUn uNeg (eC (.int 1))) aNil))) (aCons (eOp oAdd (eTup (aCons (eC (.bl true)) aNil)) (eSlice (eV 4) (oSome (eC (.int 1))) oNone)) aNil)))))) aNil)))) (envO p c y2 y3 (some (.tup (intsN L))) y5 y6 y7 (some (.ref a8)) none none none) T1 = .nx (envO p c y2 y3 (some (.tup (intsN L))) y5 y6 y7 (some (.ref a8)) none none (some x)) T2 ∧ OddT T2 p x ∧ Keep [p] S T2 ∧ Pool p T2 := by
  have hp := hP.lt
  have k24 := hc.k24
  have hl := h.len
  generalize hO : intsN L = O
  have sO : ScT (.tup O) := by rw [← hO]; exact ScT.ints (by omega)
  have lO : O.length ≤ 24 := by rw [← hO]; simp; omega
  have lit1 : ∀ d : D, Pl 0 d → ScT (.tup [d]) := fun d hd => ⟨_, rfl, by simp, fun x hx => by simp at hx; subst hx; exact hd⟩
  generalize hC1 : cutD O (some 1) none = C1
  have sC1 : ScT (.tup C1) := by rw [← hC1]; exact sO.cut _ _
  have lC1 : C1.length ≤ 24 := by rw [← hC1]; exact Nat.le_trans (cut_len _ _ _) lO
  generalize hC2 : cutD O none (some (-1)) = C2
  have sC2 : ScT (.tup C2) := by rw [← hC2]; exact sO.cut _ _
  have lC2 : C2.length ≤ 24 := by rw [← hC2]; exact Nat.le_trans (cut_len _ _ _) lO
  generalize hC3 : cutD O none (some 1) = C3
  have sC3 : ScT (.tup C3) := by rw [← hC3]; exact sO.cut _ _
  have lC3 : C3.length ≤ 24 := by rw [← hC3]; exact Nat.le_trans (cut_len _ _ _) lO
  have q1 : ∀ T, slD (.tup O) (some 1) none T = .ok (.tup C1) T := fun T => by unfold slD; dsimp only; rw [hC1]
  have q2 : ∀ T, slD (.tup O) none (some (-1)) T = .ok (.tup C2) T := fun T => by unfold slD; dsimp only; rw [hC2]
  have q3 : ∀ T, slD (.tup O) none (some 1) T = .ok (.tup C3) T := fun T => by unfold slD; dsimp only; rw [hC3]
  have ad : ∀ (A B : List D) (T : Store), A.length ≤ 24 → B.length ≤ 24 → oAdd (.tup A) (.tup B) T = .ok (.tup (A ++ B)) T := fun A B T ha hb => oAdd_tups A B T (by rw [LIM_val]; omega)
  generalize hTa : S ++ [Ob.lst O] = Ta
  have Pa : Pool p Ta := by rw [← hTa]; exact hP.push
  have ga : Ta[S.length]? = some (.lst O) := by rw [← hTa]; exact get_last _ _
  obtain ⟨m, es, Tb, eb, gb, pmb, Kb, Pb, lb⟩ := mixed_okT (ds := O) Pa (by omega)
  have gab := Kb.get ga (by simp; omega)
  have ftb := fTuple_lst gb
  have les : es.length ≤ 24 := by rw [pmb.length_eq]; exact lO
  have ses : ScT (.tup es) := ⟨es, rfl, by omega, fun d hd => by
    obtain ⟨_, e, _, hs⟩ := sO
    cases e
    exact hs d (pmb.mem_iff.mp hd)⟩
  generalize hX : ([.non, .ref S.length, .tup C1, .tup (O ++ [.int 0]), .tup (C2 ++ C3), .tup es, .str "order", .tup []] : List D) = X
  have lX : X.length = 8 := by rw [← hX]; rfl
  generalize hTc : Tb ++ [Ob.lst X] = Tc
  have gc : Tc[Tb.length]? = some (.lst X) := by rw [← hTc]; exact get_last _ _
  have gac : Tc[S.length]? = some (.lst O) := by rw [← hTc, List.getElem?_append_left (lt_of_get gab)]; exact gab
  have Pc : Pool p Tc := by rw [← hTc]; exact Pb.push
  have mX : ∀ x ∈ X, OddT Tc p x := by
    intro x hx
    rw [← hX] at hx
    simp only [List.mem_cons, List.not_mem_nil, or_false] at hx
    rcases hx with rfl | rfl | rfl | rfl | rfl | rfl | rfl | rfl
    · exact .inl rfl
    · exact .inr (.inr (.inr ⟨_, _, rfl, by omega, gac⟩))
    · exact .inr (.inr (.inl sC1))
    · exact .inr (.inr (.inl (sO.cat (lit1 _ True.intro) (by simp; omega))))
    · exact .inr (.inr (.inl (sC2.cat sC3 (by omega))))
    · exact .inr (.inr (.inl ses))
    · exact .inr (.inl rfl)
    · exact .inr (.inr (.inl ⟨[], rfl, by simp, by simp⟩))
  have s8 : (sSet 8 (eLst (aCons (eC .non) (aCons (eUn fList (eV 4)) (aCons (eSlice (eV 4) (oSome (eC (.int 1))) oNone) (aCons (eOp oAdd (eV 4) (eTup (aCons (eC (.int 0)) aNil))) (aCons (eOp oAdd (eSlice (eV 4) oNone (oSome (eUn uNeg (eC (.int 1))))) (eSlice (eV 4) oNone (oSome (eC (.int 1))))) (aCons (eUn fTuple (eCall F__law_wv_mixed (aCons (eV 0) (aCons (eV 4) aNil)))) (aCons (eC (.str "order")) (aCons (eTup aNil) aNil)))))))))) (envO p c y2 y3 (some (.tup O)) y5 y6 y7 none none none none) S = .nx (envO p c y2 y3 (some (.tup O)) y5 y6 y7 (some (.ref Tb.length)) none none none) Tc := by
    have a1 := ad O [.int 0] Ta lO (by simp)
    have a2 := ad C2 C3 Ta lC2 lC3
    unfold envO
    rw [← hTc, ← hX]
    simp [eSlice, oNone, oSome, q1, q2, q3, a1, a2, hTa, eb, ftb, LIM_val]
  generalize hY : ([.tup (C2 ++ [.non]), .tup O.reverse, .tup (C2 ++ [.int (-1)]), .tup ([.bl true] ++ C1)] : List D) = Y
  have lY : Y.length = 4 := by rw [← hY]; rfl
  have mY : ∀ T, ∀ x ∈ Y, OddT T p x := by
    intro T x hx
    rw [← hY] at hx
    simp only [List.mem_cons, List.not_mem_nil, or_false] at hx
    rcases hx with rfl | rfl | rfl | rfl
    · exact .inr (.inr (.inl (sC2.cat (lit1 _ True.intro) (by simp; omega))))
    · exact .inr (.inr (.inl ⟨O.reverse, rfl, by simp; omega, fun d hd => by
        obtain ⟨_, e, _, hs⟩ := sO
        cases e
        exact hs d (List.mem_reverse.mp hd)⟩))
    · exact .inr (.inr (.inl (sC2.cat (lit1 _ True.intro) (by simp; omega))))
    · exact .inr (.inr (.inl ((lit1 (.bl true) True.intro).cat sC1 (by simp; omega))))
  generalize hTd : Tc ++ [Ob.lst Y] = Td
  have gd : Td[Tc.length]? = some (.lst Y) := by rw [← hTd]; exact get_last _ _
  have gcd : Td[Tb.length]? = some (.lst X) := by rw [← hTd, List.getElem?_append_left (lt_of_get gc)]; exact gc
  have ade := oAdd_lsts gcd gd (by rw [LIM_val]; omega)
  generalize hTe : Td ++ [Ob.lst (X ++ Y)] = Te at ade
  have ge : Te[Td.length]? = some (.lst (X ++ Y)) := by rw [← hTe]; exact get_last _ _
  have Pe : Pool p Te := by rw [← hTe, ← hTd]; exact Pc.push.push
  have Kce : Keep [p] Tc Te := by rw [← hTe, ← hTd]; exact (Keep.push _ _ _).trans (Keep.push _ _ _)
  have nd : Td.length ≠ p := by
    have h1 := lt_of_get gcd
    have h2 := Pc.lt
    have : Tc.length ≤ Td.length := by rw [← hTd]; simp
    omega
  obtain ⟨x, Tf, ef, hx, Kf, Pf, _⟩ := one_ok Pe ge nd (by simp; omega) (by simp; omega)
  refine ⟨Tb.length, x, Tc, Tf, s8, ?_, ?_, ?_, Pf⟩
  · have lit : (eLst (aCons (eOp oAdd (eSlice (eV 4) oNone (oSome (eUn uNeg (eC (.int 1))))) (eTup (aCons (eC .non) aNil))) (aCons (eUn fRevA (eV 4)) (aCons (eOp oAdd (eSlice (eV 4) oNone (oSome (eUn uNeg (eC (.int 1))))) (eTup (aCons (eUn uNeg (eC (.int 1))) aNil))) (aCons (eOp oAdd (eTup (aCons (eC (.bl true)) aNil)) (eSlice (eV 4) (oSome (eC (.int 1))) oNone)) aNil))))) (envO p c y2 y3 (some (.tup O)) y5 y6 y7 (some (.ref Tb.length)) none none none) Tc = .ok (.ref Tc.length) Td := by
      have a1 := ad C2 [.non] Tc lC2 (by simp)
      have a2 := ad C2 [.int (-1)] Tc lC2 (by simp)
      have a3 : oAdd (.tup [.bl true]) (.tup C1) Tc = .ok (.tup (.bl true :: C1)) Tc := ad [.bl true] C1 Tc (by simp) lC1
      unfold envO
      rw [← hTd, ← hY]
      have rv : ∀ T, fRevA (.tup O) T = .ok (.tup O.reverse) T := fun T => rfl
      simp [eSlice, oNone, oSome, q1, q2, a1, a2, a3, rv, LIM_val]
    unfold envO at lit ⊢
    simp only [sSet_eq, eCall_eq, aCons_eq, aNil_eq, eOp_eq, eV_eq, List.getElem?_cons_succ, List.getElem?_cons_zero, Res.bind_ok] at lit ⊢
    rw [lit]
    simp only [Res.bind_ok, ade, ef, ofE_ok, List.set_cons_succ, List.set_cons_zero]
  · have : OddT Tc p x := by
      rcases List.mem_append.mp hx with z | z
      · exact mX x z
      · exact mY Tc x z
    exact (this.keep Kce).keep Kf
  · have K0 : Keep [p] S Tc := by
      rw [← hTc]
      refine Keep.trans ?_ (Keep.push _ _ _)
      have : Keep [p] S Ta := by rw [← hTa]; exact Keep.push _ _ _
      exact this.trans Kb
    exact (K0.trans Kce).trans Kf
end WkL


set_option Elab.async false
set_option linter.all false
set_option maxRecDepth 100000
set_option maxHeartbeats 1000000
set_option autoImplicit false
/-! Pk04e: renamed is right. -/
namespace WkL
open PySem (Str)
open Wk
theorem pl_two {n : Nat} {x y : D} (hx : Pl n x) (hy : Pl n y) : Pl (n + 1) (.tup [x, y]) := ⟨by simp, fun z hz => by
  simp only [List.mem_cons, List.not_mem_nil, or_false] at hz
  rcases hz with rfl | rfl
  · exact hx
  · exact hy⟩
theorem orders_right_ok {p : Nat} {c : Sch} (hc : c.Ok) {S : Store} (hP : Pool p S) : ∃ T, F__law_orders_right [.ref p, c.d] S = .ok (.bl true) T ∧ Keep [p] S T ∧ Pool p T := by
  have k24 := hc.k24; have f40 := hc.f40
  have c0 := sch_ix0 c; have c1 := sch_ix1 c
  have q1 : -(4611686018427387904 : Int) ≤ (c.k : Int) := by omega
  have q2 : (c.k : Int) ≤ 16777216 := by omega
  obtain ⟨L, a2, a3, T2, ok, s1, s2, K2, P2⟩ := order_drawn hc hP
  have hl := ok.len
  have rok := ren_ok hc ok
  have bok := back_ok hc ok
  -- turned about
  obtain ⟨T3, cp3, K3⟩ := compL_onI (c := []) (g := .nm 12) (t := tTrue) (e := (eBM oIndex (eUn fList (eV 4)) (eV 12))) (sw := envO p c (some (.ref a2)) (some (.ref a3)) (some (.tup (intsN L))) none none none none none none none) (dg := fun (i : Nat) => D.int (i : Int)) (p := fun _ => true) (f := fun (i : Nat) => D.int (posN L i : Int)) (fun T => Keep [] T2 T) (fun _ _ => rfl) (List.range c.k) (fun i hi T KT => by
    have g : (T ++ [Ob.lst (intsN L)])[T.length]? = some (.lst (intsN L)) := get_last _ _
    have ix := index_nats g ok.nd (ok.mem.mpr (List.mem_range.mp hi))
    have il := isLst_lst g
    refine ⟨[some (.ref p), some c.d, some (.ref a2), some (.ref a3), some (.tup (intsN L)), none, none, none, none, none, none, none, some (.int (i : Int)), none], T, rfl, rfl, KT, fun _ => ⟨T ++ [.lst (intsN L)], ?_, KT.trans (Keep.push _ _ _)⟩⟩
    simp [il, ix]) T2 (Keep.refl _ _)
  rw [List.filter_eq_self.mpr (fun _ _ => rfl)] at cp3
  have cp3' : compL [] (.nm 12) tTrue (eBM oIndex (eUn fList (eV 4)) (eV 12)) [some (.ref p), some c.d, some (.ref a2), some (.ref a3), some (.tup (intsN L)), none, none, none, none, none, none, none, none, none] (rngD 0 (c.k : Int)) T2 = .ok (intsN (backL c L)) T3 := by
    rw [rngD_on]
    refine cp3.trans ?_
    unfold backL
    rw [intsN, List.map_map]; rfl
  generalize hT4 : T3 ++ [Ob.lst (intsN (backL c L))] = T4
  have K4 : Keep [] T3 T4 := by rw [← hT4]; exact Keep.push _ _ _
  have ft4 : fTuple (.ref T3.length) T4 = .ok (.tup (intsN (backL c L))) T4 := fTuple_lst (by rw [← hT4]; exact get_last _ _)
  have s3 : (sSet 5 (eUn fTuple (eComp (iRng (eOp oIx (eV 1) (eC (.int 1)))) (.nm 12) tTrue (eBM oIndex (eUn fList (eV 4)) (eV 12)) [12]))) (envO p c (some (.ref a2)) (some (.ref a3)) (some (.tup (intsN L))) none none none none none none none) T2 = .nx (envO p c (some (.ref a2)) (some (.ref a3)) (some (.tup (intsN L))) (some (.tup (intsN (backL c L)))) none none none none none none) T4 := by
    have it : iRng (eOp oIx (eV 1) (eC (.int 1))) (envO p c (some (.ref a2)) (some (.ref a3)) (some (.tup (intsN L))) none none none none none none none) T2 = .ok ⟨rngD 0 (c.k : Int), []⟩ T2 := by
      simp [c1, q1, q2]
    unfold envO at it ⊢
    simp only [sSet_eq, eUn_eq, eComp_eq, it, Res.bind_ok, wipeE_cons, wipeE_nil, List.set_cons_succ, List.set_cons_zero, cp3', noEx_ok, hT4, ft4, ofE_ok]
  -- renamed by the law, by the program, and back
  obtain ⟨T5, e5, K5⟩ := renamed_by_ok hc ok T4
  have s4 : (sSet 6 (eCall F__law_renamed_by (aCons (eV 1) (aCons (eV 4) aNil)))) (envO p c (some (.ref a2)) (some (.ref a3)) (some (.tup (intsN L))) (some (.tup (intsN (backL c L)))) none none none none none none) T4 = .nx (envO p c (some (.ref a2)) (some (.ref a3)) (some (.tup (intsN L))) (some (.tup (intsN (backL c L)))) (some (ren c L).d) none none none none none) T5 := by
    simp [envO, e5]
  obtain ⟨T6, e6, K6⟩ := renamed_ok hc ok T5
  obtain ⟨T7, e7, K7⟩ := renamed_ok rok bok T6
  rw [ren_back hc ok] at e7
  have sm7 : F__law_same [.tup [(ren c L).d, c.d], .tup [(ren c L).d, c.d]] T7 = .ok (.bl true) T7 := same_pl (pl_two (pl_schD rok) (pl_schD hc)) (by decide)
  have s5 : (sIf (Wk.tNot (tE (eCall F__law_same (aCons (eTup (aCons (eCall F_renamed (aCons (eV 1) (aCons (eV 4) aNil))) (aCons (eCall F_renamed (aCons (eV 6) (aCons (eV 5) aNil))) aNil))) (aCons (eTup (aCons (eV 6) (aCons (eV 1) aNil))) aNil))))) (sRet (eC (.bl false))) sSkip) (envO p c (some (.ref a2)) (some (.ref a3)) (some (.tup (intsN L))) (some (.tup (intsN (backL c L)))) (some (ren c L).d) none none none none none) T5 = .nx (envO p c (some (.ref a2)) (some (.ref a3)) (some (.tup (intsN L))) (some (.tup (intsN (backL c L)))) (some (ren c L).d) none none none none none) T7 := by
    simp [envO, e6, e7, LIM_val, sm7]
  -- places
  have cp8 : compL [] (.nm 13) tTrue (eTup (aCons (eOp oIx (eV 4) (eV 13)) (aCons (eV 13) aNil))) [some (.ref p), some c.d, some (.ref a2), some (.ref a3), some (.tup (intsN L)), some (.tup (intsN (backL c L))), some (ren c L).d, none, none, none, none, none, none, none] (rngD 0 (c.k : Int)) T7 = .ok ((List.range c.k).map fun (i : Nat) => D.tup [.int ((L.getD i 0 : Nat) : Int), .int ((id i : Nat) : Int)]) T7 := by
    refine place_comp ok fun i hi => ⟨_, rfl, ?_⟩
    have gi : (intsN L)[i]? = some (.int ((L.getD i 0 : Nat) : Int)) := by rw [List.getElem?_map, getD_get (by omega)]; rfl
    simp [LIM_val, gi]
  generalize hT8 : T7 ++ [Ob.lst ((List.range c.k).map fun (i : Nat) => D.tup [.int ((L.getD i 0 : Nat) : Int), .int ((id i : Nat) : Int)])] = T8
  have g8 : T8[T7.length]? = some (.lst ((List.range c.k).map fun (i : Nat) => D.tup [.int ((L.getD i 0 : Nat) : Int), .int ((id i : Nat) : Int)])) := by rw [← hT8]; exact get_last _ _
  have fd := fDict_kvT (get_key ok) g8
  generalize hT9 : T8 ++ [Ob.dk (kvT c.k (fun i => L.getD i 0) id)] = T9 at *
  have g9 : T9[T8.length]? = some (.dk (kvT c.k (fun i => L.getD i 0) id)) := by rw [← hT9]; exact get_last _ _
  have K9 : Keep [] T7 T9 := by rw [← hT9, ← hT8]; exact (Keep.push _ _ _).trans (Keep.push _ _ _)
  have s6 : (sSet 7 (eUn fDict (eComp (iRng (eUn fLen (eV 4))) (.nm 13) tTrue (eTup (aCons (eOp oIx (eV 4) (eV 13)) (aCons (eV 13) aNil))) [13]))) (envO p c (some (.ref a2)) (some (.ref a3)) (some (.tup (intsN L))) (some (.tup (intsN (backL c L)))) (some (ren c L).d) none none none none none) T7 = .nx (envO p c (some (.ref a2)) (some (.ref a3)) (some (.tup (intsN L))) (some (.tup (intsN (backL c L)))) (some (ren c L).d) (some (.ref T8.length)) none none none none) T9 := by
    have it : iRng (eUn fLen (eV 4)) (envO p c (some (.ref a2)) (some (.ref a3)) (some (.tup (intsN L))) (some (.tup (intsN (backL c L)))) (some (ren c L).d) none none none none none) T7 = .ok ⟨rngD 0 (c.k : Int), []⟩ T7 := by
      simp [hl, q1, q2]
    unfold envO at it ⊢
    simp only [sSet_eq, eUn_eq, eComp_eq, it, Res.bind_ok, wipeE_cons, wipeE_nil, List.set_cons_succ, List.set_cons_zero, cp8, noEx_ok, hT8, fd, ofE_ok]
  -- what is had
  obtain ⟨T10, e10, K10⟩ := had_ok rok T9
  obtain ⟨T11, e11, K11⟩ := law_had_ok hc T10
  have g11 := (K10.trans K11).get g9 (by simp)
  have hm : ∀ a ∈ reachL c.fs c.k (fun v => v < c.h), a < c.k := fun a ha => (mem_reachL.mp ha).1
  have cp12 : compL [] (.nm 12) tTrue (eOp oIxD (eV 7) (eV 12)) [some (.ref p), some c.d, some (.ref a2), some (.ref a3), some (.tup (intsN L)), some (.tup (intsN (backL c L))), some (ren c L).d, some (.ref T8.length), none, none, none, none, none, none] (intsN (reachL c.fs c.k (fun v => v < c.h))) T11 = .ok (intsN ((reachL c.fs c.k (fun v => v < c.h)).map (posN L))) T11 := by
    refine (compL_on (c := []) (S := T11) (dg := fun (a : Nat) => D.int (a : Int)) (p := fun _ => true) (f := fun (a : Nat) => D.int (posN L a : Int)) rfl _ ?_).trans (by rw [List.filter_eq_self.mpr (fun _ _ => rfl), intsN, List.map_map]; rfl)
    intro a ha
    have pg := place_get ok g11 (hm a ha)
    exact ⟨_, rfl, rfl, fun _ => by simp [pg]⟩
  have nd12 : ((reachL c.fs c.k (fun v => v < c.h)).map (posN L)).Nodup := by
    rw [List.Nodup, List.pairwise_map]
    exact (lt_nodup (reachL_lt c.fs c.k (fun v => v < c.h))).imp_of_mem fun {a b} ha hb hne z => hne (posN_inj (ok.mem.mpr (hm a ha)) (ok.mem.mpr (hm b hb)) z)
  have so := sorted_is (get_last T11 (.lst (intsN ((reachL c.fs c.k (fun v => v < c.h)).map (posN L))))) nd12 (reachL_lt (ren c L).fs c.k (fun v => v < c.h)) fun x => by
    rw [List.mem_map, mem_reachL, reach_ren hc ok]
    constructor
    · rintro ⟨a, ha, rfl⟩
      exact ⟨ok.pos_lt (hm a ha), a, (mem_reachL.mp ha).2, rfl⟩
    · rintro ⟨_, a, ha, rfl⟩
      exact ⟨a, mem_reachL.mpr ⟨ha.lt hc, ha⟩, rfl⟩
  generalize hT12 : T11 ++ [Ob.lst (intsN ((reachL c.fs c.k (fun v => v < c.h)).map (posN L)))] = T12 at *
  have K12 : Keep [] T11 T12 := by rw [← hT12]; exact Keep.push _ _ _
  have e10' : F_had [(ren c L).d] T9 = .ok (.tup (intsN (reachL (ren c L).fs c.k fun v => v < c.h))) T10 := e10
  generalize hR : reachL (ren c L).fs c.k (fun v => v < c.h) = R at *
  have hRl : R.length ≤ 24 := by
    rw [← hR]; unfold reachL
    exact Nat.le_trans (List.length_filter_le _ _) (by simpa using k24)
  generalize hT13 : T12 ++ [Ob.lst (intsN R)] = T13 at *
  have K13 : Keep [] T12 T13 := by rw [← hT13]; exact Keep.push _ _ _
  have ft13 : fTuple (.ref T12.length) T13 = .ok (.tup (intsN R)) T13 := fTuple_lst (by rw [← hT13]; exact get_last _ _)
  have sm13 : F__law_same [.tup (intsN R), .tup (intsN R)] T13 = .ok (.bl true) T13 := same_pl (pl_nats 0 (by omega)) (by decide)
  have s7 : (sIf (Wk.tNot (tE (eCall F__law_same (aCons (eCall F_had (aCons (eV 6) aNil)) (aCons (eUn fTuple (eUn fSorted (eComp (iSeq (eCall F__law_wv_had (aCons (eV 1) aNil))) (.nm 12) tTrue (eOp oIxD (eV 7) (eV 12)) [12]))) aNil))))) (sRet (eC (.bl false))) sSkip) (envO p c (some (.ref a2)) (some (.ref a3)) (some (.tup (intsN L))) (some (.tup (intsN (backL c L)))) (some (ren c L).d) (some (.ref T8.length)) none none none none) T9 = .nx (envO p c (some (.ref a2)) (some (.ref a3)) (some (.tup (intsN L))) (some (.tup (intsN (backL c L)))) (some (ren c L).d) (some (.ref T8.length)) none none none none) T13 := by
    have it : iSeq (eCall F__law_wv_had (aCons (eV 1) aNil)) (envO p c (some (.ref a2)) (some (.ref a3)) (some (.tup (intsN L))) (some (.tup (intsN (backL c L)))) (some (ren c L).d) (some (.ref T8.length)) none none none none) T10 = .ok ⟨intsN (reachL c.fs c.k (fun v => v < c.h)), []⟩ T11 := by
      simp only [iSeq_eq, eCall_eq, aCons_eq, aNil_eq, eV_eq, envO, List.getElem?_cons_succ, List.getElem?_cons_zero, Res.bind_ok, e11]
    unfold envO at it ⊢
    simp only [sIf_eq, tNot_eq, tE_eq, eCall_eq, aCons_eq, aNil_eq, eV_eq, List.getElem?_cons_succ, List.getElem?_cons_zero, Res.bind_ok, e10'] at it ⊢
    simp only [eUn_eq, eComp_eq, it, Res.bind_ok, wipeE_cons, wipeE_nil, List.set_cons_succ, List.set_cons_zero, cp12, noEx_ok, hT12, so, ft13, sm13, Bool.not_true, ofE_ok, sSkip_eq]
    rfl
  obtain ⟨T14, e14, K14⟩ := had_ok hc T13
  obtain ⟨T15, e15, K15⟩ := law_had_ok hc T14
  generalize hH : reachL c.fs c.k (fun v => v < c.h) = H at *
  have hHl : H.length ≤ 24 := by
    rw [← hH]; unfold reachL
    exact Nat.le_trans (List.length_filter_le _ _) (by simpa using k24)
  have sm15 : F__law_same [.tup (intsN H), .tup (intsN H)] T15 = .ok (.bl true) T15 := same_pl (pl_nats 0 (by omega)) (by decide)
  have s8 : (sIf (Wk.tNot (tE (eCall F__law_same (aCons (eCall F_had (aCons (eV 1) aNil)) (aCons (eCall F__law_wv_had (aCons (eV 1) aNil)) aNil))))) (sRet (eC (.bl false))) sSkip) (envO p c (some (.ref a2)) (some (.ref a3)) (some (.tup (intsN L))) (some (.tup (intsN (backL c L)))) (some (ren c L).d) (some (.ref T8.length)) none none none none) T13 = .nx (envO p c (some (.ref a2)) (some (.ref a3)) (some (.tup (intsN L))) (some (.tup (intsN (backL c L)))) (some (ren c L).d) (some (.ref T8.length)) none none none none) T15 := by
    simp [envO, e14, e15, sm15]
  have K215 : Keep [] T2 T15 := ((((((((((K3.trans K4).trans K5).trans K6).trans K7).trans K9).trans K10).trans K11).trans K12).trans K13).trans K14).trans K15
  have P15 := P2.keep K215 (by simp)
  -- what isn't an order
  obtain ⟨a8, x, T16, T17, s9, s10, ox, K17, P17⟩ := odd_order hc ok (y2 := some (.ref a2)) (y3 := some (.ref a3)) (y5 := some (.tup (intsN (backL c L)))) (y6 := some (ren c L).d) (y7 := some (.ref T8.length)) P15
  have fin : ∃ T20, (sSeq (sSet 9 (eHeard heardCs (eCall F_renamed (aCons (eV 1) (aCons (eV 11) aNil))))) (sSeq (sSet 10 (eCall F__law_wf_order (aCons (eV 1) (aCons (eV 11) aNil))))
    (sRet (eCall F__law_same (aCons (eV 9) (aCons (eIf (tE (eOp oNotN (eV 10) (eC .non))) (eV 10) (eTup (aCons (eC (.str "told")) (aCons (eCall F__law_renamed_by (aCons (eV 1) (aCons (eV 11) aNil))) aNil)))) aNil)))))) (envO p c (some (.ref a2)) (some (.ref a3)) (some (.tup (intsN L))) (some (.tup (intsN (backL c L)))) (some (ren c L).d) (some (.ref T8.length)) (some (.ref a8)) none none (some x)) T17 = .rt (.bl true) T20 ∧ Keep [] T17 T20 := by
    cases hb : ordB c x with
    | false =>
      obtain ⟨T18, e18, K18⟩ := renamed_no hc ox.odd hb
      have ox18 : OddO T18 x := ⟨ox.odd.ty.keep K18, ox.odd.sc⟩
      obtain ⟨T19, e19, K19⟩ := wf_order_any hc ox18
      have ow : refW (ordW c x) = .tup [.str "BadOrder", .int (-1)] := by unfold ordW; rw [hb]; rfl
      rw [ow] at e19
      have hh : heardR heardCs (Res.ex "BadOrder" (.int (-1)) T18) = .ok (.tup [.str "BadOrder", .int (-1)]) T18 := rfl
      have pl : Pl 4 (.tup [.str "BadOrder", .int (-1)]) := by rw [← ow]; exact refW_pl (ordW_ok c x)
      have sm : F__law_same [.tup [.str "BadOrder", .int (-1)], .tup [.str "BadOrder", .int (-1)]] T19 = .ok (.bl true) T19 := same_pl pl (by decide)
      exact ⟨T19, by simp [envO, e18, hh, e19, sm], K18.trans K19⟩
    | true =>
      obtain ⟨M, rfl, okM⟩ := ordB_yes hb
      obtain ⟨T18, e18, K18⟩ := renamed_ok hc okM T17
      obtain ⟨T19, e19, K19⟩ := wf_order_any hc (oddO_ints M T18)
      have ow : refW (ordW c (.tup (intsN M))) = .non := by unfold ordW; rw [hb]; rfl
      rw [ow] at e19
      obtain ⟨T20, e20, K20⟩ := renamed_by_ok hc okM T19
      have sm : F__law_same [.tup [.str "told", (ren c M).d], .tup [.str "told", (ren c M).d]] T20 = .ok (.bl true) T20 := same_pl (pl_two (pl_told 3) (pl_schD (ren_ok hc okM))) (by decide)
      exact ⟨T20, by simp [envO, e18, e19, e20, sm, LIM_val], (K18.trans K19).trans K20⟩
  obtain ⟨T20, sf, K20⟩ := fin
  refine ⟨T20, ?_, ((K2.trans (K215.mono (by simp))).trans K17).trans (K20.mono (by simp)), P17.keep K20 (by simp)⟩
  exact (mkF_eq 2 14 _ [.ref p, c.d] S rfl).trans (by
    rw [show startE 14 [D.ref p, c.d] = envO p c none none none none none none none none none none from rfl]
    rw [show b__law_orders_right (envO p c none none none none none none none none none none) S = .rt (.bl true) T20 from nx_seq s1 (nx_seq s2 (nx_seq s3 (nx_seq s4 (nx_seq s5 (nx_seq s6 (nx_seq s7 (nx_seq s8 (nx_seq s9 (nx_seq s10 sf)))))))))])
end WkL


set_option Elab.async false
set_option linter.all false
set_option maxRecDepth 100000
set_option maxHeartbeats 1000000
set_option autoImplicit false
/-! Pk04f: schemas beside one another: what the law says, what is had. -/
namespace WkL
open PySem (Str)
open Wk
theorem mv1_inj {c e : Sch} {a b : Nat} (h : mv1 c e a = mv1 c e b) : a = b := by
  unfold mv1 at h
  split at h <;> split at h <;> omega
theorem mv2_inj {c e : Sch} (hk : c.h ≤ c.k) {a b : Nat} (h : mv2 c e a = mv2 c e b) : a = b := by
  unfold mv2 at h
  split at h <;> split at h <;> omega
theorem mv_ne {c e : Sch} {a b : Nat} (ha : a < c.k) : mv1 c e a ≠ mv2 c e b := by
  unfold mv1 mv2
  split <;> split <;> omega
theorem mv1_hand {c e : Sch} {a : Nat} (ha : a < c.h) : mv1 c e a < c.h + e.h := by unfold mv1; rw [if_pos ha]; omega
theorem mv2_hand {c e : Sch} {a : Nat} (ha : a < e.h) : mv2 c e a < c.h + e.h := by unfold mv2; rw [if_pos ha]; omega
theorem mv_lt {c e : Sch} {a : Nat} (ha : a < c.k) (hk : e.h ≤ e.k) : mv1 c e a < c.k + e.k := by unfold mv1; split <;> omega
theorem mv2_lt {c e : Sch} {a : Nat} (ha : a < e.k) (hk : c.h ≤ c.k) : mv2 c e a < c.k + e.k := by unfold mv2; split <;> omega
theorem mv_hands {c e : Sch} {v : Nat} (hv : v < c.h + e.h) : (∃ a, a < c.h ∧ v = mv1 c e a) ∨ ∃ a, a < e.h ∧ v = mv2 c e a := by
  by_cases h : v < c.h
  · exact .inl ⟨v, h, by unfold mv1; rw [if_pos h]⟩
  · exact .inr ⟨v - c.h, by omega, by unfold mv2; rw [if_pos (by omega)]; omega⟩
theorem bes_ok {c e : Sch} (hc : c.Ok) (he : e.Ok) (h : besX c e = none) : (bes c e).Ok := by
  have h1 := hc.h1; have hk := hc.hk; have ek := he.hk
  unfold besX at h
  split at h
  · cases h
  split at h
  · cases h
  split at h
  · cases h
  refine ⟨by show 1 ≤ c.h + e.h; omega, by show c.h + e.h ≤ 6; omega, by show c.h + e.h ≤ c.k + e.k; omega, by show c.k + e.k ≤ 24; omega, by show (_ ++ _ : List (Nat × Nat)).length ≤ 40; simp; omega, fun q hq => ?_⟩
  rcases List.mem_append.mp hq with z | z
  · obtain ⟨r, hr, rfl⟩ := List.mem_map.mp z
    obtain ⟨r1, r2, r3⟩ := hc.fs r hr
    refine ⟨mv_lt r1 ek, ?_, mv_lt r3 ek⟩
    show c.h + e.h ≤ mv1 c e r.2
    unfold mv1; rw [if_neg (by omega)]; omega
  · obtain ⟨r, hr, rfl⟩ := List.mem_map.mp z
    obtain ⟨r1, r2, r3⟩ := he.fs r hr
    refine ⟨mv2_lt r1 hk, ?_, mv2_lt r3 hk⟩
    show c.h + e.h ≤ mv2 c e r.2
    unfold mv2; rw [if_neg (by omega)]; omega
theorem reach_bes {c e : Sch} (hc : c.Ok) (he : e.Ok) {v : Nat} : Reach (bes c e).fs (fun v => v < c.h + e.h) v ↔ (∃ a, Reach c.fs (fun v => v < c.h) a ∧ v = mv1 c e a) ∨ ∃ a, Reach e.fs (fun v => v < e.h) a ∧ v = mv2 c e a := by
  constructor
  · intro r
    refine Reach.ind (P := fun v => (∃ a, Reach c.fs (fun v => v < c.h) a ∧ v = mv1 c e a) ∨ ∃ a, Reach e.fs (fun v => v < e.h) a ∧ v = mv2 c e a) (fun v hv => ?_) (fun a v ih ed => ?_) r
    · rcases mv_hands hv with ⟨a, ha, rfl⟩ | ⟨a, ha, rfl⟩
      · exact .inl ⟨a, Reach.of_src ha, rfl⟩
      · exact .inr ⟨a, Reach.of_src ha, rfl⟩
    · rcases List.mem_append.mp ed with z | z
      · obtain ⟨q, hq, e2⟩ := List.mem_map.mp z
        have e3 : mv1 c e q.1 = a := congrArg Prod.fst e2
        have e4 : mv1 c e q.2 = v := congrArg Prod.snd e2
        rcases ih with ⟨b, hb, rfl⟩ | ⟨b, hb, rfl⟩
        · have := mv1_inj e3
          exact .inl ⟨q.2, hb.step (by rw [← this]; exact hq), e4.symm⟩
        · exact (mv_ne (hc.fs q hq).1 e3).elim
      · obtain ⟨q, hq, e2⟩ := List.mem_map.mp z
        have e3 : mv2 c e q.1 = a := congrArg Prod.fst e2
        have e4 : mv2 c e q.2 = v := congrArg Prod.snd e2
        rcases ih with ⟨b, hb, rfl⟩ | ⟨b, hb, rfl⟩
        · exact (mv_ne (hb.lt hc) e3.symm).elim
        · have := mv2_inj hc.hk e3
          exact .inr ⟨q.2, hb.step (by rw [← this]; exact hq), e4.symm⟩
  · rintro (⟨a, ha, rfl⟩ | ⟨a, ha, rfl⟩)
    · exact Reach.map_to (m := mv1 c e) (fun b hb => mv1_hand hb) (fun q hq => List.mem_append_left _ (List.mem_map.mpr ⟨q, hq, rfl⟩)) ha
    · exact Reach.map_to (m := mv2 c e) (fun b hb => mv2_hand hb) (fun q hq => List.mem_append_right _ (List.mem_map.mpr ⟨q, hq, rfl⟩)) ha
/-! ### fields of kinds beside -/
theorem fo_bes1 {c e : Sch} (hc : c.Ok) {a : Nat} (ha : a < c.k) : fo (bes c e).fs (bes c e).fs.length (mv1 c e a) = fo c.fs c.fs.length a := by
  have hl : (bes c e).fs.length = c.fs.length + e.fs.length := by unfold bes; simp
  rw [hl]
  unfold fo
  rw [List.range_add, List.filter_append]
  have h1 : (List.range c.fs.length).filter (fun f => ((bes c e).fs[f]?.map (·.1)) == some (mv1 c e a)) = (List.range c.fs.length).filter (fun f => (c.fs[f]?.map (·.1)) == some a) := by
    apply List.filter_congr
    intro f hf
    have hf' := List.mem_range.mp hf
    have : (bes c e).fs[f]? = some (mvF (mv1 c e) c.fs[f]) := by
      unfold bes
      rw [List.getElem?_append_left (by simpa using hf'), List.getElem?_map, List.getElem?_eq_getElem hf']; rfl
    rw [this, List.getElem?_eq_getElem hf', Bool.eq_iff_iff]
    simp only [Option.map_some, beq_iff_eq, Option.some.injEq]
    exact ⟨fun z => mv1_inj z, fun z => by rw [← z]; rfl⟩
  have h2 : ((List.range e.fs.length).map (c.fs.length + ·)).filter (fun f => ((bes c e).fs[f]?.map (·.1)) == some (mv1 c e a)) = [] := by
    rw [List.filter_eq_nil_iff]
    intro f hf
    obtain ⟨j, hj, rfl⟩ := List.mem_map.mp hf
    have hj' := List.mem_range.mp hj
    have : (bes c e).fs[c.fs.length + j]? = some (mvF (mv2 c e) e.fs[j]) := by
      unfold bes
      rw [List.getElem?_append_right (by simp), List.length_map, Nat.add_sub_cancel_left, List.getElem?_map, List.getElem?_eq_getElem hj']; rfl
    rw [this]
    simp only [Option.map_some, beq_iff_eq, Option.some.injEq]
    exact fun z => mv_ne ha z.symm
  rw [h1, h2, List.append_nil]
theorem fo_bes2 {c e : Sch} (hc : c.Ok) {a : Nat} : fo (bes c e).fs (bes c e).fs.length (mv2 c e a) = (fo e.fs e.fs.length a).map (c.fs.length + ·) := by
  have hl : (bes c e).fs.length = c.fs.length + e.fs.length := by unfold bes; simp
  rw [hl]
  unfold fo
  rw [List.range_add, List.filter_append, List.filter_map]
  have h1 : (List.range c.fs.length).filter (fun f => ((bes c e).fs[f]?.map (·.1)) == some (mv2 c e a)) = [] := by
    rw [List.filter_eq_nil_iff]
    intro f hf
    have hf' := List.mem_range.mp hf
    have : (bes c e).fs[f]? = some (mvF (mv1 c e) c.fs[f]) := by
      unfold bes
      rw [List.getElem?_append_left (by simpa using hf'), List.getElem?_map, List.getElem?_eq_getElem hf']; rfl
    rw [this]
    simp only [Option.map_some, beq_iff_eq, Option.some.injEq]
    exact fun z => mv_ne (hc.fs _ (List.getElem_mem hf')).1 z
  have h2 : (List.range e.fs.length).filter ((fun f => ((bes c e).fs[f]?.map (·.1)) == some (mv2 c e a)) ∘ (c.fs.length + ·)) = (List.range e.fs.length).filter (fun f => (e.fs[f]?.map (·.1)) == some a) := by
    apply List.filter_congr
    intro j hj
    have hj' := List.mem_range.mp hj
    have : (bes c e).fs[c.fs.length + j]? = some (mvF (mv2 c e) e.fs[j]) := by
      unfold bes
      rw [List.getElem?_append_right (by simp), List.length_map, Nat.add_sub_cancel_left, List.getElem?_map, List.getElem?_eq_getElem hj']; rfl
    simp only [Function.comp_apply]
    rw [this, List.getElem?_eq_getElem hj', Bool.eq_iff_iff]
    simp only [Option.map_some, beq_iff_eq, Option.some.injEq]
    exact ⟨fun z => mv2_inj hc.hk z, fun z => by rw [← z]; rfl⟩
  rw [h1, h2, List.nil_append]
/-! ### the law's places -/
theorem places_ok {c e : Sch} (hc : c.Ok) (he : e.Ok) (S : Store) : ∃ a b T, F__law_places_beside [c.d, e.d] S = .ok (.tup [.ref a, .ref b]) T ∧ T[a]? = some (.dk (kvT c.k id (mv1 c e))) ∧ T[b]? = some (.dk (kvT e.k id (mv2 c e))) ∧ Keep [] S T := by
  have k1 := hc.k24; have k2 := he.k24
  have r1 : -(4611686018427387904 : Int) ≤ (c.k : Int) := by omega
  have r2 : (c.k : Int) ≤ 16777216 := by omega
  have q1 : -(4611686018427387904 : Int) ≤ (e.k : Int) := by omega
  have q2 : (e.k : Int) ≤ 16777216 := by omega
  have c0 := sch_ix0 c; have c1 := sch_ix1 c; have e0 := sch_ix0 e; have e1 := sch_ix1 e
  have cp1 : ∀ T, compL [] (.nm 4) tTrue (eTup (aCons (eV 4) (aCons (eIf (tE (eOp oLt (eV 4) (eOp oIx (eV 0) (eC (.int 0))))) (eV 4) (eOp oAdd (eV 4) (eOp oIx (eV 1) (eC (.int 0))))) aNil))) [some c.d, some e.d, none, none, none] (rngD 0 (c.k : Int)) T = .ok ((List.range c.k).map fun (i : Nat) => D.tup [.int ((id i : Nat) : Int), .int ((mv1 c e i : Nat) : Int)]) T := fun T => by
    rw [rngD_on]
    refine (compL_on (c := []) (S := T) (dg := fun (i : Nat) => D.int (i : Int)) (p := fun _ => true) (f := fun (i : Nat) => D.tup [.int ((id i : Nat) : Int), .int ((mv1 c e i : Nat) : Int)]) rfl (List.range c.k) ?_).trans (by rw [List.filter_eq_self.mpr (fun _ _ => rfl)])
    intro i _
    refine ⟨_, rfl, rfl, fun _ => ?_⟩
    unfold mv1
    by_cases h : i < c.h
    · have h' : (i : Int) < (c.h : Int) := by omega
      simp [c0, e0, h, h', LIM_val]
    · have h' : ¬ (i : Int) < (c.h : Int) := by omega
      simp [c0, e0, h, h', LIM_val]
  have cp2 : ∀ (a : Nat) T, compL [] (.nm 4) tTrue (eTup (aCons (eV 4) (aCons (eIf (tE (eOp oLt (eV 4) (eOp oIx (eV 1) (eC (.int 0))))) (eOp oAdd (eOp oIx (eV 0) (eC (.int 0))) (eV 4)) (eOp oAdd (eOp oIx (eV 0) (eC (.int 1))) (eV 4))) aNil))) [some c.d, some e.d, some (.ref a), none, none] (rngD 0 (e.k : Int)) T = .ok ((List.range e.k).map fun (i : Nat) => D.tup [.int ((id i : Nat) : Int), .int ((mv2 c e i : Nat) : Int)]) T := fun a T => by
    rw [rngD_on]
    refine (compL_on (c := []) (S := T) (dg := fun (i : Nat) => D.int (i : Int)) (p := fun _ => true) (f := fun (i : Nat) => D.tup [.int ((id i : Nat) : Int), .int ((mv2 c e i : Nat) : Int)]) rfl (List.range e.k) ?_).trans (by rw [List.filter_eq_self.mpr (fun _ _ => rfl)])
    intro i _
    refine ⟨_, rfl, rfl, fun _ => ?_⟩
    unfold mv2
    by_cases h : i < e.h
    · have h' : (i : Int) < (e.h : Int) := by omega
      simp [c0, c1, e0, h, h', LIM_val]
    · have h' : ¬ (i : Int) < (e.h : Int) := by omega
      simp [c0, c1, e0, h, h', LIM_val]
  have idk : ∀ n : Nat, ∀ i j, i < n → j < n → id i = id j → i = j := fun _ _ _ _ _ z => z
  generalize hT1 : S ++ [Ob.lst ((List.range c.k).map fun (i : Nat) => D.tup [.int ((id i : Nat) : Int), .int ((mv1 c e i : Nat) : Int)])] = T1
  have g1 : T1[S.length]? = some (.lst ((List.range c.k).map fun (i : Nat) => D.tup [.int ((id i : Nat) : Int), .int ((mv1 c e i : Nat) : Int)])) := by rw [← hT1]; exact get_last _ _
  have fd1 := fDict_kvT (idk c.k) g1
  generalize hT2 : T1 ++ [Ob.dk (kvT c.k id (mv1 c e))] = T2 at *
  have g2 : T2[T1.length]? = some (.dk (kvT c.k id (mv1 c e))) := by rw [← hT2]; exact get_last _ _
  generalize hT3 : T2 ++ [Ob.lst ((List.range e.k).map fun (i : Nat) => D.tup [.int ((id i : Nat) : Int), .int ((mv2 c e i : Nat) : Int)])] = T3
  have g3 : T3[T2.length]? = some (.lst ((List.range e.k).map fun (i : Nat) => D.tup [.int ((id i : Nat) : Int), .int ((mv2 c e i : Nat) : Int)])) := by rw [← hT3]; exact get_last _ _
  have fd2 := fDict_kvT (idk e.k) g3
  generalize hT4 : T3 ++ [Ob.dk (kvT e.k id (mv2 c e))] = T4 at *
  have g4 : T4[T3.length]? = some (.dk (kvT e.k id (mv2 c e))) := by rw [← hT4]; exact get_last _ _
  have K24 : Keep [] T2 T4 := by rw [← hT4, ← hT3]; exact (Keep.push _ _ _).trans (Keep.push _ _ _)
  refine ⟨T1.length, T3.length, T4, ?_, K24.get g2 (by simp), g4, Keep.trans (by rw [← hT2, ← hT1]; exact (Keep.push _ _ _).trans (Keep.push _ _ _)) K24⟩
  have it1 : iRng (eOp oIx (eV 0) (eC (.int 1))) [some c.d, some e.d, none, none, none] S = .ok ⟨rngD 0 (c.k : Int), []⟩ S := by simp [c1, r1, r2]
  have it2 : iRng (eOp oIx (eV 1) (eC (.int 1))) [some c.d, some e.d, some (.ref T1.length), none, none] T2 = .ok ⟨rngD 0 (e.k : Int), []⟩ T2 := by simp [e1, q1, q2]
  have s1 : (sSet 2 (eUn fDict (eComp (iRng (eOp oIx (eV 0) (eC (.int 1)))) (.nm 4) tTrue (eTup (aCons (eV 4) (aCons (eIf (tE (eOp oLt (eV 4) (eOp oIx (eV 0) (eC (.int 0))))) (eV 4) (eOp oAdd (eV 4) (eOp oIx (eV 1) (eC (.int 0))))) aNil))) [4]))) [some c.d, some e.d, none, none, none] S = .nx [some c.d, some e.d, some (.ref T1.length), none, none] T2 := by
    simp only [sSet_eq, eUn_eq, eComp_eq, it1, Res.bind_ok, wipeE_cons, wipeE_nil, List.set_cons_succ, List.set_cons_zero, cp1, noEx_ok, hT1, fd1, ofE_ok]
  have s2 : (sSet 3 (eUn fDict (eComp (iRng (eOp oIx (eV 1) (eC (.int 1)))) (.nm 4) tTrue (eTup (aCons (eV 4) (aCons (eIf (tE (eOp oLt (eV 4) (eOp oIx (eV 1) (eC (.int 0))))) (eOp oAdd (eOp oIx (eV 0) (eC (.int 0))) (eV 4)) (eOp oAdd (eOp oIx (eV 0) (eC (.int 1))) (eV 4))) aNil))) [4]))) [some c.d, some e.d, some (.ref T1.length), none, none] T2 = .nx [some c.d, some e.d, some (.ref T1.length), some (.ref T3.length), none] T4 := by
    simp only [sSet_eq, eUn_eq, eComp_eq, it2, Res.bind_ok, wipeE_cons, wipeE_nil, List.set_cons_succ, List.set_cons_zero, cp2, noEx_ok, hT3, fd2, ofE_ok]
  exact (mkF_eq 2 5 _ [c.d, e.d] S rfl).trans (by
    rw [show startE 5 [c.d, e.d] = [some c.d, some e.d, none, none, none] from rfl]
    rw [show b__law_places_beside [some c.d, some e.d, none, none, none] S = .rt (.tup [.ref T1.length, .ref T3.length]) T4 from nx_seq s1 (nx_seq s2 (by simp [LIM_val]))])
theorem at_id {S : Store} {l n : Nat} {val : Nat → Nat} (h : S[l]? = some (.dk (kvT n id val))) {a : Nat} (ha : a < n) : oIxD (.ref l) (.int (a : Int)) S = .ok (.int (val a : Int)) S := kvT_get (key := id) (fun _ _ _ _ z => z) h ha
theorem law_by_ok {c e : Sch} (hc : c.Ok) (he : e.Ok) (S : Store) : ∃ T, F__law_beside_by [c.d, e.d] S = .ok (bes c e).d T ∧ Keep [] S T := by
  have f1 := hc.f40; have f2 := he.f40
  have c0 := sch_ix0 c; have c1 := sch_ix1 c; have e0 := sch_ix0 e; have e1 := sch_ix1 e
  obtain ⟨a, b, T1, e2, ga, gb, K1⟩ := places_ok hc he S
  have l1 := led_fields_ok hc (S := T1) (l := a) (m := mv1 c e) fun x hx => at_id ga hx
  have hA : (c.fs.map (mvF (mv1 c e))).length = c.fs.length := by simp
  have hB : (e.fs.map (mvF (mv2 c e))).length = e.fs.length := by simp
  have hbs : (bes c e).fs = c.fs.map (mvF (mv1 c e)) ++ e.fs.map (mvF (mv2 c e)) := rfl
  generalize c.fs.map (mvF (mv1 c e)) = A at *
  generalize hT2 : T1 ++ [Ob.lst (A.map fD)] = T2 at *
  have K2 : Keep [] T1 T2 := by rw [← hT2]; exact Keep.push _ _ _
  have l2 := led_fields_ok he (S := T2) (l := b) (m := mv2 c e) fun x hx => at_id (K2.get gb (by simp)) hx
  generalize e.fs.map (mvF (mv2 c e)) = B at *
  generalize hT3 : T2 ++ [Ob.lst (B.map fD)] = T3 at *
  have K3 : Keep [] T2 T3 := by rw [← hT3]; exact Keep.push _ _ _
  have ad := oAdd_tups (A.map fD) (B.map fD) T3 (by simp [LIM_val]; omega)
  rw [← List.map_append] at ad
  have pa : ∀ a b : Nat, (a : Int) + (b : Int) = ((a + b : Nat) : Int) := fun a b => by omega
  refine ⟨T3, ?_, (K1.trans K2).trans K3⟩
  have s1 : (sAsg (.tp [(.nm 2), (.nm 3)]) (eCall F__law_places_beside (aCons (eV 0) (aCons (eV 1) aNil)))) [some c.d, some e.d, none, none] S = .nx [some c.d, some e.d, some (.ref a), some (.ref b)] T1 := by simp [e2]
  exact (mkF_eq 2 4 _ [c.d, e.d] S rfl).trans (by
    rw [show startE 4 [c.d, e.d] = [some c.d, some e.d, none, none] from rfl]
    rw [show b__law_beside_by [some c.d, some e.d, none, none] S = .rt (bes c e).d T3 from nx_seq s1 (by
      unfold Sch.d at *
      rw [hbs]
      simp only [sRet_eq, eTup_eq, aCons_eq, aNil_eq, eOp_eq, eCall_eq, eV_eq, eC_eq, List.getElem?_cons_succ, List.getElem?_cons_zero, Res.bind_ok, c0, c1, e0, e1, oAdd_int, l1, l2, ad, pa]
      rw [if_pos (by simp [LIM_val]), ofE_ok]
      rfl)])
end WkL


set_option Elab.async false
set_option linter.all false
set_option maxRecDepth 100000
set_option maxHeartbeats 1000000
set_option autoImplicit false
/-! Pk04g: beside is right. -/
namespace WkL
open PySem (Str)
open Wk
def besR (c e : Sch) : Rf := (besX c e).map fun n => ("TooMany", .int (n : Int))
theorem resD_resW (o : Option Nat) (d : D) (T : Store) : resD o d T = resW (o.map fun n => ("TooMany", .int (n : Int))) d T := by cases o <;> rfl
theorem besR_ok (c e : Sch) : RfOk (besR c e) := by
  intro k w h
  unfold besR at h
  cases hX : besX c e with
  | none => rw [hX] at h; cases h
  | some n => rw [hX] at h; cases h; exact ⟨txt_many, True.intro⟩
theorem besR_heard (c e : Sch) : ∀ k w, besR c e = some (k, w) → heardCs.contains k = true := by
  intro k w h
  unfold besR at h
  cases hX : besX c e with
  | none => rw [hX] at h; cases h
  | some n => rw [hX] at h; cases h; rfl
theorem besR_first (c e : Sch) : firstW [overW (c.h + e.h) 6, overW (c.k + e.k) 24, overW (c.fs.length + e.fs.length) 40] = besR c e := by
  unfold firstW besR besX overW
  by_cases h6 : 6 < c.h + e.h
  · simp [h6]
  · by_cases h24 : 24 < c.k + e.k
    · simp [h6, h24]
    · by_cases h40 : 40 < c.fs.length + e.fs.length <;> simp [h6, h24, h40]
abbrev envB (p : Nat) (c e : Sch) (y3 y4 y5 y6 y7 y8 y9 y10 y11 y12 : Option D) : Env := [some (.ref p), some c.d, some e.d, y3, y4, y5, y6, y7, y8, y9, y10, y11, y12, none]
theorem own_comp {c : Sch} {a : Nat} {g : Tg} {t : FT} {e : FE} {sw : Env} {T : Store} (off : Nat) (h : ∀ (f : Nat) (q : Nat × Nat), c.fs[f]? = some q → ∃ s1, gF g (.int (f : Int)) sw = some s1 ∧ t s1 T = .ok ((q.1 : Int) == (a : Int)) T ∧ e s1 T = .ok (.int ((off + f : Nat) : Int)) T) :
    compL [] g t e sw (rngD 0 (c.fs.length : Int)) T = .ok (intsN ((fo c.fs c.fs.length a).map (off + ·))) T := by
  rw [rngD_on]
  refine (compL_on (c := []) (S := T) (dg := fun (f : Nat) => D.int (f : Int)) (p := fun f => (c.fs[f]?.map (·.1)) == some a) (f := fun (f : Nat) => D.int ((off + f : Nat) : Int)) rfl (List.range c.fs.length) ?_).trans (by unfold fo; rw [intsN, List.map_map]; rfl)
  intro f hf
  have hq : c.fs[f]? = some c.fs[f]! := by rw [List.getElem?_eq_getElem (List.mem_range.mp hf), getElem!_pos]
  generalize c.fs[f]! = q at hq
  obtain ⟨s1, h1, h2, h3⟩ := h f q hq
  refine ⟨s1, h1, ?_, fun _ => h3⟩
  rw [h2, hq]
  congr 1
  rw [Bool.eq_iff_iff]
  simp; omega
theorem bes_right_ok {p : Nat} {c e : Sch} (hc : c.Ok) (he : e.Ok) {S : Store} (hP : Pool p S) : ∃ T, F__law_beside_right [.ref p, c.d, e.d] S = .ok (.bl true) T ∧ Keep [p] S T ∧ Pool p T := by
  have f1 := hc.f40; have f2 := he.f40; have k1 := hc.k24; have k2 := he.k24; have hk1 := hc.hk; have hk2 := he.hk; have hh1 := hc.h1; have hh2 := he.h1
  have c0 := sch_ix0 c; have c1 := sch_ix1 c; have c2 := sch_ix2 c; have e0 := sch_ix0 e; have e1 := sch_ix1 e; have e2 := sch_ix2 e
  obtain ⟨T1, b1, K1⟩ := beside_ok hc he S
  rw [resD_resW] at b1
  have hd1 := heard_resW (besR_heard c e) (bes c e).d T1
  rw [show resW (besR c e) (bes c e).d T1 = F_beside [c.d, e.d] S from b1.symm] at hd1
  have plb : besX c e = none → Pl 4 (bes c e).d := fun h => (pl_schD (bes_ok hc he h)).mono (by decide)
  have pl1 := heardW_pl (n := 4) (besR_ok c e) (d := (bes c e).d) (fun h => plb (by unfold besR at h; cases hX : besX c e with | none => rfl | some n => rw [hX] at h; cases h)) (by decide)
  have s1 : (sSet 3 (eHeard heardCs (eCall F_beside (aCons (eV 1) (aCons (eV 2) aNil))))) (envB p c e none none none none none none none none none none) S = .nx (envB p c e (some (heardW (besR c e) (bes c e).d)) none none none none none none none none none) T1 := by
    simp [envB, hd1]
  have ov1 : ∀ T, F__law_over [.int ((c.h : Int) + (e.h : Int)), .int 6] T = .ok (refW (overW (c.h + e.h) 6)) T := fun T => law_over_ok (c.h + e.h) 6 T
  have ov2 : ∀ T, F__law_over [.int ((c.k : Int) + (e.k : Int)), .int 24] T = .ok (refW (overW (c.k + e.k) 24)) T := fun T => law_over_ok (c.k + e.k) 24 T
  have ov3 : ∀ T, F__law_over [.int ((c.fs.length : Int) + (e.fs.length : Int)), .int 40] T = .ok (refW (overW (c.fs.length + e.fs.length) 40)) T := fun T => law_over_ok (c.fs.length + e.fs.length) 40 T
  have fst := besR_first c e
  have ok1 := overW_ok (c.h + e.h) 6; have ok2 := overW_ok (c.k + e.k) 24; have ok3 := overW_ok (c.fs.length + e.fs.length) 40
  generalize overW (c.h + e.h) 6 = w1 at *
  generalize overW (c.k + e.k) 24 = w2 at *
  generalize overW (c.fs.length + e.fs.length) 40 = w3 at *
  generalize hT2 : T1 ++ [Ob.lst [refW w1, refW w2, refW w3]] = T2
  have g2 : T2[T1.length]? = some (.lst ([w1, w2, w3].map refW)) := by rw [← hT2]; exact get_last _ _
  have K2 : Keep [] T1 T2 := by rw [← hT2]; exact Keep.push _ _ _
  have s2 : ∀ H : D, (sSet 4 (eLst (aCons (eCall F__law_over (aCons (eOp oAdd (eOp oIx (eV 1) (eC (.int 0))) (eOp oIx (eV 2) (eC (.int 0)))) (aCons (eC (.int 6)) aNil))) (aCons (eCall F__law_over (aCons (eOp oAdd (eOp oIx (eV 1) (eC (.int 1))) (eOp oIx (eV 2) (eC (.int 1)))) (aCons (eC (.int 24)) aNil))) (aCons (eCall F__law_over (aCons (eOp oAdd (eUn fLen (eOp oIx (eV 1) (eC (.int 2)))) (eUn fLen (eOp oIx (eV 2) (eC (.int 2))))) (aCons (eC (.int 40)) aNil))) aNil))))) (envB p c e (some H) none none none none none none none none none) T1 = .nx (envB p c e (some H) (some (.ref T1.length)) none none none none none none none none) T2 := by
    intro H
    rw [← hT2]
    simp [envB, c0, c1, c2, e0, e1, e2, ov1, ov2, ov3, LIM_val]
  obtain ⟨T3, b3, K3⟩ := law_by_ok hc he T2
  have s3 : ∀ H : D, (sSet 5 (eCall F__law_beside_by (aCons (eV 1) (aCons (eV 2) aNil)))) (envB p c e (some H) (some (.ref T1.length)) none none none none none none none none) T2 = .nx (envB p c e (some H) (some (.ref T1.length)) (some (bes c e).d) none none none none none none none) T3 := by
    intro H
    simp [envB, b3]
  obtain ⟨T4, b4, K4⟩ := is_heard_ok (S := T3) (l := T1.length) (os := [w1, w2, w3]) (o := besR c e) (d := (bes c e).d) (K3.get g2 (by simp)) (fun o ho => by
    simp only [List.mem_cons, List.not_mem_nil, or_false] at ho
    rcases ho with rfl | rfl | rfl
    · exact ok1
    · exact ok2
    · exact ok3) fst pl1 (by decide)
  have s4 : (sIf (Wk.tNot (tE (eCall F__law_is_heard (aCons (eV 3) (aCons (eV 4) (aCons (eV 5) aNil)))))) (sRet (eC (.bl false))) sSkip) (envB p c e (some (heardW (besR c e) (bes c e).d)) (some (.ref T1.length)) (some (bes c e).d) none none none none none none none) T3 = .nx (envB p c e (some (heardW (besR c e) (bes c e).d)) (some (.ref T1.length)) (some (bes c e).d) none none none none none none none) T4 := by
    generalize heardW (besR c e) (bes c e).d = H at *
    simp [envB, b4]
  have K04 : Keep [] S T4 := ((K1.trans K2).trans K3).trans K4
  have P4 := hP.keep K04 (by simp)
  have body : ∀ {T : Store}, (sSeq (sIf (tE (eOp oNe (eOp oIx (eV 3) (eC (.int 0))) (eC (.str "told")))) (sRet (eC (.bl true))) sSkip) (sSeq (sAsg (.tp [(.nm 6), (.nm 7)]) (eCall F__law_places_beside (aCons (eV 1) (aCons (eV 2) aNil))))
    (sSeq (sSet 9 (eOp oAdd (eComp (iSeq (eCall F__law_wv_had (aCons (eV 1) aNil))) (.nm 8) tTrue (eOp oIxD (eV 6) (eV 8)) [8]) (eComp (iSeq (eCall F__law_wv_had (aCons (eV 2) aNil))) (.nm 8) tTrue (eOp oIxD (eV 7) (eV 8)) [8])))
    (sSeq (sIf (Wk.tNot (tE (eCall F__law_same (aCons (eCall F_had (aCons (eV 5) aNil)) (aCons (eUn fTuple (eUn fSorted (eV 9))) aNil))))) (sRet (eC (.bl false))) sSkip)
    (sSeq (sAsg (.tp [(.nm 8), (.nm 10)]) (eTup (aCons (eCall F__law_wv_take (aCons (eV 0) (aCons (eOp oIx (eV 1) (eC (.int 1))) aNil))) (aCons (eCall F__law_wv_take (aCons (eV 0) (aCons (eOp oIx (eV 2) (eC (.int 1))) aNil))) aNil))))
    (sSeq (sSet 11 (eComp (iRng (eUn fLen (eOp oIx (eV 1) (eC (.int 2))))) (.nm 13) (tE (eOp oEq (eOp oIx (eOp oIx (eOp oIx (eV 1) (eC (.int 2))) (eV 13)) (eC (.int 0))) (eV 8))) (eV 13) [13]))
    (sSeq (sSet 12 (eComp (iRng (eUn fLen (eOp oIx (eV 2) (eC (.int 2))))) (.nm 13) (tE (eOp oEq (eOp oIx (eOp oIx (eOp oIx (eV 2) (eC (.int 2))) (eV 13)) (eC (.int 0))) (eV 10))) (eOp oAdd (eUn fLen (eOp oIx (eV 1) (eC (.int 2)))) (eV 13)) [13]))
    (sRet (eCall F__law_same (aCons (eTup (aCons (eCall F_fields_of (aCons (eV 5) (aCons (eOp oIxD (eV 6) (eV 8)) aNil))) (aCons (eCall F_fields_of (aCons (eV 5) (aCons (eOp oIxD (eV 7) (eV 10)) aNil))) aNil))) (aCons (eTup (aCons (eUn fTuple (eV 11)) (aCons (eUn fTuple (eV 12)) aNil))) aNil))))))))))) (envB p c e (some (heardW (besR c e) (bes c e).d)) (some (.ref T1.length)) (some (bes c e).d) none none none none none none none) T4 = .rt (.bl true) T → F__law_beside_right [.ref p, c.d, e.d] S = .ok (.bl true) T := by
    intro T h
    exact (mkF_eq 3 14 _ [.ref p, c.d, e.d] S rfl).trans (by
      rw [show startE 14 [D.ref p, c.d, e.d] = envB p c e none none none none none none none none none none from rfl]
      rw [show b__law_beside_right (envB p c e none none none none none none none none none none) S = .rt (.bl true) T from nx_seq s1 (nx_seq (s2 _) (nx_seq (s3 _) (nx_seq s4 h)))])
  cases hX : besX c e with
  | some n =>
    have hR : besR c e = some ("TooMany", .int (n : Int)) := by unfold besR; rw [hX]; rfl
    refine ⟨T4, body ?_, K04.mono (by simp), P4⟩
    rw [hR, sSeq_eq]
    have ne : (Str.ofString "TooMany" == Str.ofString "told") = false := by decide +kernel
    rw [show (sIf (tE (eOp oNe (eOp oIx (eV 3) (eC (.int 0))) (eC (.str "told")))) (sRet (eC (.bl true))) sSkip) (envB p c e (some (heardW (some ("TooMany", .int (n : Int))) (bes c e).d)) (some (.ref T1.length)) (some (bes c e).d) none none none none none none none) T4 = .rt (.bl true) T4 from by
      simp [envB, heardW, ne]]
  | none =>
    have hR : besR c e = none := by unfold besR; rw [hX]; rfl
    have bok := bes_ok hc he hX
    rw [hR] at body
    generalize hB : heardW none (bes c e).d = H at *
    have s5 : (sIf (tE (eOp oNe (eOp oIx (eV 3) (eC (.int 0))) (eC (.str "told")))) (sRet (eC (.bl true))) sSkip) (envB p c e (some H) (some (.ref T1.length)) (some (bes c e).d) none none none none none none none) T4 = .nx (envB p c e (some H) (some (.ref T1.length)) (some (bes c e).d) none none none none none none none) T4 := by
      rw [← hB]
      simp [envB, heardW]
    obtain ⟨a6, a7, T5, b5, g6, g7, K5⟩ := places_ok hc he T4
    have s6 : (sAsg (.tp [(.nm 6), (.nm 7)]) (eCall F__law_places_beside (aCons (eV 1) (aCons (eV 2) aNil)))) (envB p c e (some H) (some (.ref T1.length)) (some (bes c e).d) none none none none none none none) T4 = .nx (envB p c e (some H) (some (.ref T1.length)) (some (bes c e).d) (some (.ref a6)) (some (.ref a7)) none none none none none) T5 := by
      simp [envB, b5]
    -- what is had
    obtain ⟨T6, b6, K6⟩ := law_had_ok hc T5
    have g66 := K6.get g6 (by simp)
    have g76 := K6.get g7 (by simp)
    have m1 : ∀ a ∈ reachL c.fs c.k (fun v => v < c.h), a < c.k := fun a ha => (mem_reachL.mp ha).1
    have m2 : ∀ a ∈ reachL e.fs e.k (fun v => v < e.h), a < e.k := fun a ha => (mem_reachL.mp ha).1
    have lt1 := reachL_lt c.fs c.k (fun v => v < c.h)
    have lt2 := reachL_lt e.fs e.k (fun v => v < e.h)
    have rl1 : (reachL c.fs c.k (fun v => v < c.h)).length ≤ 24 := by unfold reachL; exact Nat.le_trans (List.length_filter_le _ _) (by simpa using k1)
    have rl2 : (reachL e.fs e.k (fun v => v < e.h)).length ≤ 24 := by unfold reachL; exact Nat.le_trans (List.length_filter_le _ _) (by simpa using k2)
    have cp1 : compL [] (.nm 8) tTrue (eOp oIxD (eV 6) (eV 8)) [some (.ref p), some c.d, some e.d, some H, some (.ref T1.length), some (bes c e).d, some (.ref a6), some (.ref a7), none, none, none, none, none, none] (intsN (reachL c.fs c.k (fun v => v < c.h))) T6 = .ok (intsN ((reachL c.fs c.k (fun v => v < c.h)).map (mv1 c e))) T6 := by
      refine (compL_on (c := []) (S := T6) (dg := fun (a : Nat) => D.int (a : Int)) (p := fun _ => true) (f := fun (a : Nat) => D.int (mv1 c e a : Int)) rfl _ ?_).trans (by rw [List.filter_eq_self.mpr (fun _ _ => rfl), intsN, List.map_map]; rfl)
      intro a ha
      have pg := at_id g66 (m1 a ha)
      exact ⟨_, rfl, rfl, fun _ => by simp [pg]⟩
    have nd : ((reachL c.fs c.k (fun v => v < c.h)).map (mv1 c e) ++ (reachL e.fs e.k (fun v => v < e.h)).map (mv2 c e)).Nodup := by
      rw [List.nodup_append]
      refine ⟨?_, ?_, ?_⟩
      · rw [List.Nodup, List.pairwise_map]
        exact (lt_nodup lt1).imp fun {a b} hne z => hne (mv1_inj z)
      · rw [List.Nodup, List.pairwise_map]
        exact (lt_nodup lt2).imp fun {a b} hne z => hne (mv2_inj hk1 z)
      · intro x hx y hy exy
        obtain ⟨a, ha, rfl⟩ := List.mem_map.mp hx
        obtain ⟨b, hb, rfl⟩ := List.mem_map.mp hy
        exact mv_ne (m1 a ha) exy
    have mm : ∀ x, x ∈ (reachL c.fs c.k (fun v => v < c.h)).map (mv1 c e) ++ (reachL e.fs e.k (fun v => v < e.h)).map (mv2 c e) ↔ x ∈ reachL (bes c e).fs (c.k + e.k) (fun v => v < c.h + e.h) := by
      intro x
      rw [List.mem_append, List.mem_map, List.mem_map, mem_reachL, reach_bes hc he]
      constructor
      · rintro (⟨a, ha, rfl⟩ | ⟨a, ha, rfl⟩)
        · exact ⟨mv_lt (m1 a ha) hk2, .inl ⟨a, (mem_reachL.mp ha).2, rfl⟩⟩
        · exact ⟨mv2_lt (m2 a ha) hk1, .inr ⟨a, (mem_reachL.mp ha).2, rfl⟩⟩
      · rintro ⟨_, ⟨a, ha, rfl⟩ | ⟨a, ha, rfl⟩⟩
        · exact .inl ⟨a, mem_reachL.mpr ⟨ha.lt hc, ha⟩, rfl⟩
        · exact .inr ⟨a, mem_reachL.mpr ⟨ha.lt he, ha⟩, rfl⟩
    have la : ((reachL c.fs c.k (fun v => v < c.h)).map (mv1 c e)).length ≤ 24 := by simpa using rl1
    have lb : ((reachL e.fs e.k (fun v => v < e.h)).map (mv2 c e)).length ≤ 24 := by simpa using rl2
    have cp2' : ∀ T, T[a7]? = some (.dk (kvT e.k id (mv2 c e))) → compL [] (.nm 8) tTrue (eOp oIxD (eV 7) (eV 8)) [some (.ref p), some c.d, some e.d, some H, some (.ref T1.length), some (bes c e).d, some (.ref a6), some (.ref a7), none, none, none, none, none, none] (intsN (reachL e.fs e.k (fun v => v < e.h))) T = .ok (intsN ((reachL e.fs e.k (fun v => v < e.h)).map (mv2 c e))) T := by
      intro T gT
      refine (compL_on (c := []) (S := T) (dg := fun (a : Nat) => D.int (a : Int)) (p := fun _ => true) (f := fun (a : Nat) => D.int (mv2 c e a : Int)) rfl _ ?_).trans (by rw [List.filter_eq_self.mpr (fun _ _ => rfl), intsN, List.map_map]; rfl)
      intro a ha
      have pg := at_id gT (m2 a ha)
      exact ⟨_, rfl, rfl, fun _ => by simp [pg]⟩
    generalize hA : (reachL c.fs c.k (fun v => v < c.h)).map (mv1 c e) = A at *
    generalize hT7 : T6 ++ [Ob.lst (intsN A)] = T7
    have g77 : T7[a7]? = some (.dk (kvT e.k id (mv2 c e))) := by rw [← hT7, List.getElem?_append_left (lt_of_get g76)]; exact g76
    have gA7 : T7[T6.length]? = some (.lst (intsN A)) := by rw [← hT7]; exact get_last _ _
    have K7 : Keep [] T6 T7 := by rw [← hT7]; exact Keep.push _ _ _
    obtain ⟨T8, b8, K8⟩ := law_had_ok he T7
    have cp2 := cp2' T8 (K8.get g77 (by simp))
    generalize hB2 : (reachL e.fs e.k (fun v => v < e.h)).map (mv2 c e) = B at *
    generalize hT9 : T8 ++ [Ob.lst (intsN B)] = T9
    have gB9 : T9[T8.length]? = some (.lst (intsN B)) := by rw [← hT9]; exact get_last _ _
    have K9 : Keep [] T8 T9 := by rw [← hT9]; exact Keep.push _ _ _
    have gA9 := (K8.trans K9).get gA7 (by simp)
    have ad := oAdd_lsts gA9 gB9 (by simp [LIM_val]; omega)
    rw [← List.map_append] at ad
    generalize hT10 : T9 ++ [Ob.lst (intsN (A ++ B))] = T10 at ad
    have g10 : T10[T9.length]? = some (.lst (intsN (A ++ B))) := by rw [← hT10]; exact get_last _ _
    have K10 : Keep [] T9 T10 := by rw [← hT10]; exact Keep.push _ _ _
    have s7 : (sSet 9 (eOp oAdd (eComp (iSeq (eCall F__law_wv_had (aCons (eV 1) aNil))) (.nm 8) tTrue (eOp oIxD (eV 6) (eV 8)) [8]) (eComp (iSeq (eCall F__law_wv_had (aCons (eV 2) aNil))) (.nm 8) tTrue (eOp oIxD (eV 7) (eV 8)) [8]))) (envB p c e (some H) (some (.ref T1.length)) (some (bes c e).d) (some (.ref a6)) (some (.ref a7)) none none none none none) T5 = .nx (envB p c e (some H) (some (.ref T1.length)) (some (bes c e).d) (some (.ref a6)) (some (.ref a7)) none (some (.ref T9.length)) none none none) T10 := by
      unfold envB
      simp only [sSet_eq, eOp_eq, eComp_eq, iSeq_eq, eCall_eq, aCons_eq, aNil_eq, eV_eq, List.getElem?_cons_succ, List.getElem?_cons_zero, Res.bind_ok, b6, b8, wipeE_cons, wipeE_nil, List.set_cons_succ, List.set_cons_zero, cp1, cp2, noEx_ok, hT7, hT9, ad, ofE_ok]
    obtain ⟨T11, b11, K11⟩ := had_ok bok T10
    have b11' : F_had [(bes c e).d] T10 = .ok (.tup (intsN (reachL (bes c e).fs (c.k + e.k) fun v => v < c.h + e.h))) T11 := b11
    have so := sorted_is (K11.get g10 (by simp)) nd (reachL_lt (bes c e).fs (c.k + e.k) (fun v => v < c.h + e.h)) mm
    have hRl : (reachL (bes c e).fs (c.k + e.k) (fun v => v < c.h + e.h)).length ≤ 48 := by
      unfold reachL
      exact Nat.le_trans (List.length_filter_le _ _) (by simp; omega)
    generalize reachL (bes c e).fs (c.k + e.k) (fun v => v < c.h + e.h) = R at *
    generalize hT12 : T11 ++ [Ob.lst (intsN R)] = T12 at *
    have K12 : Keep [] T11 T12 := by rw [← hT12]; exact Keep.push _ _ _
    have ft12 : fTuple (.ref T11.length) T12 = .ok (.tup (intsN R)) T12 := fTuple_lst (by rw [← hT12]; exact get_last _ _)
    have sm12 : F__law_same [.tup (intsN R), .tup (intsN R)] T12 = .ok (.bl true) T12 := same_pl (pl_nats 0 (by omega)) (by decide)
    have s8 : (sIf (Wk.tNot (tE (eCall F__law_same (aCons (eCall F_had (aCons (eV 5) aNil)) (aCons (eUn fTuple (eUn fSorted (eV 9))) aNil))))) (sRet (eC (.bl false))) sSkip) (envB p c e (some H) (some (.ref T1.length)) (some (bes c e).d) (some (.ref a6)) (some (.ref a7)) none (some (.ref T9.length)) none none none) T10 = .nx (envB p c e (some H) (some (.ref T1.length)) (some (bes c e).d) (some (.ref a6)) (some (.ref a7)) none (some (.ref T9.length)) none none none) T12 := by
      simp [envB, b11', so, ft12, sm12]
    -- each kind's own fields
    have K412 : Keep [] T4 T12 := (((((((K5.trans K6).trans K7).trans K8).trans K9).trans K10).trans K11).trans K12)
    have P12 := P4.keep K412 (by simp)
    obtain ⟨ka, T13, b13, ka0, ka1, K13, P13, _⟩ := take_ok (many := (c.k : Int)) P12 (by omega) (by omega)
    obtain ⟨kb, T14, b14, kb0, kb1, K14, P14, _⟩ := take_ok (many := (e.k : Int)) P13 (by omega) (by omega)
    obtain ⟨a, rfl⟩ := Int.eq_ofNat_of_zero_le ka0
    obtain ⟨b, rfl⟩ := Int.eq_ofNat_of_zero_le kb0
    have ha : a < c.k := by omega
    have hb : b < e.k := by omega
    have s9 : (sAsg (.tp [(.nm 8), (.nm 10)]) (eTup (aCons (eCall F__law_wv_take (aCons (eV 0) (aCons (eOp oIx (eV 1) (eC (.int 1))) aNil))) (aCons (eCall F__law_wv_take (aCons (eV 0) (aCons (eOp oIx (eV 2) (eC (.int 1))) aNil))) aNil)))) (envB p c e (some H) (some (.ref T1.length)) (some (bes c e).d) (some (.ref a6)) (some (.ref a7)) none (some (.ref T9.length)) none none none) T12 = .nx (envB p c e (some H) (some (.ref T1.length)) (some (bes c e).d) (some (.ref a6)) (some (.ref a7)) (some (.int (a : Int))) (some (.ref T9.length)) (some (.int (b : Int))) none none) T14 := by
      simp [envB, c1, e1, b13, b14, LIM_val]
    have np6 : a6 ∉ [p] := by
      intro z
      simp at z
      subst z
      obtain ⟨_, _, hp, _⟩ := P12
      have := (K412.trans (Keep.refl _ _)).2
      have g612 := (((((((K6.trans K7).trans K8).trans K9).trans K10).trans K11).trans K12)).get g6 (by simp)
      rw [g612] at hp; cases hp
    have np7 : a7 ∉ [p] := by
      intro z
      simp at z
      subst z
      obtain ⟨_, _, hp, _⟩ := P12
      have g712 := (((((((K6.trans K7).trans K8).trans K9).trans K10).trans K11).trans K12)).get g7 (by simp)
      rw [g712] at hp; cases hp
    have g614 := (K13.trans K14).get ((((((((K6.trans K7).trans K8).trans K9).trans K10).trans K11).trans K12)).get g6 (by simp)) np6
    have g714 := (K13.trans K14).get ((((((((K6.trans K7).trans K8).trans K9).trans K10).trans K11).trans K12)).get g7 (by simp)) np7
    have r1 : -(4611686018427387904 : Int) ≤ (c.fs.length : Int) := by omega
    have r2 : (c.fs.length : Int) ≤ 16777216 := by omega
    have q1 : -(4611686018427387904 : Int) ≤ (e.fs.length : Int) := by omega
    have q2 : (e.fs.length : Int) ≤ 16777216 := by omega
    have ix : ∀ (x : Sch) (f : Nat) (q : Nat × Nat) (T : Store), x.fs[f]? = some q → oIx (.tup (x.fs.map fD)) (.int (f : Int)) T = .ok (fD q) T := fun x f q T h => fD_ix h T
    have ix0 : ∀ (q : Nat × Nat) (T : Store), oIx (fD q) (.int 0) T = .ok (.int (q.1 : Int)) T := fun q T => by unfold fD; simp
    have cp3 : compL [] (.nm 13) (tE (eOp oEq (eOp oIx (eOp oIx (eOp oIx (eV 1) (eC (.int 2))) (eV 13)) (eC (.int 0))) (eV 8))) (eV 13) [some (.ref p), some c.d, some e.d, some H, some (.ref T1.length), some (bes c e).d, some (.ref a6), some (.ref a7), some (.int (a : Int)), some (.ref T9.length), some (.int (b : Int)), none, none, none] (rngD 0 (c.fs.length : Int)) T14 = .ok (intsN ((fo c.fs c.fs.length a).map (0 + ·))) T14 := by
      refine own_comp 0 fun f q hq => ⟨_, rfl, ?_, by simp⟩
      have i1 := ix c f q T14 hq
      simp [c2, -oIx_tup, i1, ix0]
    have z0 : (fo c.fs c.fs.length a).map (0 + ·) = fo c.fs c.fs.length a := by simp
    rw [z0] at cp3
    have lo : (fo c.fs c.fs.length a).length ≤ 40 := by unfold fo; exact Nat.le_trans (List.length_filter_le _ _) (by simpa using f1)
    generalize hO : fo c.fs c.fs.length a = O at *
    generalize hT15 : T14 ++ [Ob.lst (intsN O)] = T15
    have g15 : T15[T14.length]? = some (.lst (intsN O)) := by rw [← hT15]; exact get_last _ _
    have K15 : Keep [] T14 T15 := by rw [← hT15]; exact Keep.push _ _ _
    have s10 : (sSet 11 (eComp (iRng (eUn fLen (eOp oIx (eV 1) (eC (.int 2))))) (.nm 13) (tE (eOp oEq (eOp oIx (eOp oIx (eOp oIx (eV 1) (eC (.int 2))) (eV 13)) (eC (.int 0))) (eV 8))) (eV 13) [13])) (envB p c e (some H) (some (.ref T1.length)) (some (bes c e).d) (some (.ref a6)) (some (.ref a7)) (some (.int (a : Int))) (some (.ref T9.length)) (some (.int (b : Int))) none none) T14 = .nx (envB p c e (some H) (some (.ref T1.length)) (some (bes c e).d) (some (.ref a6)) (some (.ref a7)) (some (.int (a : Int))) (some (.ref T9.length)) (some (.int (b : Int))) (some (.ref T14.length)) none) T15 := by
      have it : iRng (eUn fLen (eOp oIx (eV 1) (eC (.int 2)))) (envB p c e (some H) (some (.ref T1.length)) (some (bes c e).d) (some (.ref a6)) (some (.ref a7)) (some (.int (a : Int))) (some (.ref T9.length)) (some (.int (b : Int))) none none) T14 = .ok ⟨rngD 0 (c.fs.length : Int), []⟩ T14 := by simp [c2, r1, r2]
      unfold envB at it ⊢
      simp only [sSet_eq, eComp_eq, it, Res.bind_ok, wipeE_cons, wipeE_nil, List.set_cons_succ, List.set_cons_zero, cp3, noEx_ok, hT15, ofE_ok]
    have cp4 : compL [] (.nm 13) (tE (eOp oEq (eOp oIx (eOp oIx (eOp oIx (eV 2) (eC (.int 2))) (eV 13)) (eC (.int 0))) (eV 10))) (eOp oAdd (eUn fLen (eOp oIx (eV 1) (eC (.int 2)))) (eV 13)) [some (.ref p), some c.d, some e.d, some H, some (.ref T1.length), some (bes c e).d, some (.ref a6), some (.ref a7), some (.int (a : Int)), some (.ref T9.length), some (.int (b : Int)), some (.ref T14.length), none, none] (rngD 0 (e.fs.length : Int)) T15 = .ok (intsN ((fo e.fs e.fs.length b).map (c.fs.length + ·))) T15 := by
      refine own_comp c.fs.length fun f q hq => ⟨_, rfl, ?_, by simp [c2]⟩
      have i1 := ix e f q T15 hq
      simp [e2, -oIx_tup, i1, ix0]
    have lf : ((fo e.fs e.fs.length b).map (c.fs.length + ·)).length ≤ 40 := by rw [List.length_map]; unfold fo; exact Nat.le_trans (List.length_filter_le _ _) (by simpa using f2)
    generalize hF : (fo e.fs e.fs.length b).map (c.fs.length + ·) = F at *
    generalize hT16 : T15 ++ [Ob.lst (intsN F)] = T16
    have g16 : T16[T15.length]? = some (.lst (intsN F)) := by rw [← hT16]; exact get_last _ _
    have K16 : Keep [] T15 T16 := by rw [← hT16]; exact Keep.push _ _ _
    have s11 : (sSet 12 (eComp (iRng (eUn fLen (eOp oIx (eV 2) (eC (.int 2))))) (.nm 13) (tE (eOp oEq (eOp oIx (eOp oIx (eOp oIx (eV 2) (eC (.int 2))) (eV 13)) (eC (.int 0))) (eV 10))) (eOp oAdd (eUn fLen (eOp oIx (eV 1) (eC (.int 2)))) (eV 13)) [13])) (envB p c e (some H) (some (.ref T1.length)) (some (bes c e).d) (some (.ref a6)) (some (.ref a7)) (some (.int (a : Int))) (some (.ref T9.length)) (some (.int (b : Int))) (some (.ref T14.length)) none) T15 = .nx (envB p c e (some H) (some (.ref T1.length)) (some (bes c e).d) (some (.ref a6)) (some (.ref a7)) (some (.int (a : Int))) (some (.ref T9.length)) (some (.int (b : Int))) (some (.ref T14.length)) (some (.ref T15.length))) T16 := by
      have it : iRng (eUn fLen (eOp oIx (eV 2) (eC (.int 2)))) (envB p c e (some H) (some (.ref T1.length)) (some (bes c e).d) (some (.ref a6)) (some (.ref a7)) (some (.int (a : Int))) (some (.ref T9.length)) (some (.int (b : Int))) (some (.ref T14.length)) none) T15 = .ok ⟨rngD 0 (e.fs.length : Int), []⟩ T15 := by simp [e2, q1, q2]
      unfold envB at it ⊢
      simp only [sSet_eq, eComp_eq, it, Res.bind_ok, wipeE_cons, wipeE_nil, List.set_cons_succ, List.set_cons_zero, cp4, noEx_ok, hT16, ofE_ok]
    have p6 := at_id ((K15.trans K16).get g614 (by simp)) ha
    obtain ⟨T17, b17, K17⟩ := fields_of_ok bok (a := mv1 c e a) (mv_lt ha hk2) T16
    rw [fo_bes1 hc ha, hO] at b17
    have p7 := at_id (((K15.trans K16).trans K17).get g714 (by simp)) hb
    obtain ⟨T18, b18, K18⟩ := fields_of_ok bok (a := mv2 c e b) (mv2_lt hb hk1) T17
    rw [fo_bes2 hc, hF] at b18
    have ft1 := fTuple_lst ((((K16.trans K17).trans K18)).get g15 (by simp))
    have ft2 := fTuple_lst ((K17.trans K18).get g16 (by simp))
    have sm18 : F__law_same [.tup [.tup (intsN O), .tup (intsN F)], .tup [.tup (intsN O), .tup (intsN F)]] T18 = .ok (.bl true) T18 := same_pl (pl_two (pl_nats 1 (by omega)) (pl_nats 1 (by omega))) (by decide)
    have s12 : (sRet (eCall F__law_same (aCons (eTup (aCons (eCall F_fields_of (aCons (eV 5) (aCons (eOp oIxD (eV 6) (eV 8)) aNil))) (aCons (eCall F_fields_of (aCons (eV 5) (aCons (eOp oIxD (eV 7) (eV 10)) aNil))) aNil))) (aCons (eTup (aCons (eUn fTuple (eV 11)) (aCons (eUn fTuple (eV 12)) aNil))) aNil)))) (envB p c e (some H) (some (.ref T1.length)) (some (bes c e).d) (some (.ref a6)) (some (.ref a7)) (some (.int (a : Int))) (some (.ref T9.length)) (some (.int (b : Int))) (some (.ref T14.length)) (some (.ref T15.length))) T16 = .rt (.bl true) T18 := by
      unfold envB
      generalize hOO : intsN O = OO at *
      generalize hFF : intsN F = FF at *
      simp [p6, b17, p7, b18, ft1, ft2, LIM_val, sm18]
    refine ⟨T18, body (nx_seq s5 (nx_seq s6 (nx_seq s7 (nx_seq s8 (nx_seq s9 (nx_seq s10 (nx_seq s11 s12))))))), ?_, P14.keep (((K15.trans K16).trans K17).trans K18) (by simp)⟩
    exact (((K04.trans K412).mono (by simp)).trans (K13.trans K14)).trans ((((K15.trans K16).trans K17).trans K18).mono (by simp))
end WkL


set_option Elab.async false
set_option linter.all false
set_option maxRecDepth 100000
set_option maxHeartbeats 1000000
set_option autoImplicit false
/-! Pk04h: schemas that are none. -/
namespace WkL
open PySem (Str)
open Wk
theorem txt_schema : ((Str.ofString "BadSchema").cps.all fun x => decide (x < 0x110000)) = true := by decide +kernel
theorem wfS_shape {x : D} {k : String} {w : D} (h : wfS x = some (k, w)) : (k = "BadSchema" ∨ k = "TooMany") ∧ Pl 1 w := by
  unfold wfS at h
  split at h
  · split at h
    · split at h
      · split at h
        · split at h
          · split at h
            · split at h
              · cases h; exact ⟨.inr rfl, True.intro⟩
              · split at h
                · cases h
                  exact ⟨.inl rfl, by simp, fun x hx => by
                    simp only [List.mem_cons, List.not_mem_nil, or_false] at hx
                    rcases hx with rfl | rfl <;> exact True.intro⟩
                · cases h
            · cases h; exact ⟨.inl rfl, True.intro⟩
          · cases h; exact ⟨.inl rfl, True.intro⟩
        · cases h; exact ⟨.inl rfl, True.intro⟩
      · cases h; exact ⟨.inl rfl, True.intro⟩
    · cases h; exact ⟨.inl rfl, True.intro⟩
  · cases h; exact ⟨.inl rfl, True.intro⟩
theorem wfS_rf (x : D) : RfOk (wfS x) := by
  intro k w h
  obtain ⟨h1, h2⟩ := wfS_shape h
  rcases h1 with rfl | rfl
  · exact ⟨txt_schema, h2.mono (by decide)⟩
  · exact ⟨txt_many, h2.mono (by decide)⟩
theorem wfS_cs {x : D} {k : String} {w : D} (h : wfS x = some (k, w)) : heardCs.contains k = true := by
  rcases (wfS_shape h).1 with rfl | rfl <;> rfl
theorem Ty.keepP {S T : Store} {p : Nat} (K : Keep [p] S T) (P : Pool p T) : ∀ {n : Nat} {x : D}, Ty S n x → Ty T n x
  | n, .non, _ => by cases n <;> exact True.intro
  | n, .bl _, _ => by cases n <;> exact True.intro
  | n, .int _, _ => by cases n <;> exact True.intro
  | n, .str _, _ => by cases n <;> exact True.intro
  | n, .frz _, _ => by cases n <;> exact True.intro
  | n, .ref l, h => by
    have h' : ∃ ds, S[l]? = some (.lst ds) := by cases n <;> exact h
    obtain ⟨ds, e⟩ := h'
    have : ∃ ds, T[l]? = some (.lst ds) := by
      by_cases q : l = p
      · subst q
        obtain ⟨a, b, e, _⟩ := P
        exact ⟨_, e⟩
      · exact ⟨ds, K.get e (by simpa using q)⟩
    cases n <;> exact this
  | 0, .tup xs, h => (show False from h).elim
  | n + 1, .tup xs, h => fun x hx => Ty.keepP K P (h x hx)
/-- no schema -/
structure NoS (S : Store) (x : D) : Prop where
  ty : Ty S 3 x
  no : wfS x ≠ none
theorem NoS.keepP {S T : Store} {p : Nat} {x : D} (h : NoS S x) (K : Keep [p] S T) (P : Pool p T) : NoS T x := ⟨h.ty.keepP K P, h.no⟩
theorem noS_of {S : Store} {x : D} (t : Ty S 3 x) (h : ∀ c : Sch, c.Ok → x ≠ c.d) : NoS S x := ⟨t, fun e => by
  obtain ⟨c, hc, rfl⟩ := wfS_none e
  exact h c hc rfl⟩
theorem ty_fields {S : Store} {c : Sch} : Ty S 2 (.tup (c.fs.map fD)) := fun x hx => by
  obtain ⟨q, _, rfl⟩ := List.mem_map.mp hx
  intro y hy
  simp only [List.mem_cons, List.not_mem_nil, or_false] at hy
  rcases hy with rfl | rfl <;> exact True.intro
theorem ty_tri {S : Store} {h k f : D} (a : Ty S 2 h) (b : Ty S 2 k) (d : Ty S 2 f) : Ty S 3 (.tup [h, k, f]) := fun x hx => by
  simp only [List.mem_cons, List.not_mem_nil, or_false] at hx
  rcases hx with rfl | rfl | rfl
  · exact a
  · exact b
  · exact d
theorem ty_flat {S : Store} {fs : List D} (h : ∀ x ∈ fs, Ty S 1 x) : Ty S 2 (.tup fs) := h
theorem ty_one {S : Store} {a : Int} : Ty S 1 (.tup [.int a]) := fun x hx => by simp at hx; subst hx; exact True.intro
theorem ty_pair {S : Store} {a b : Int} : Ty S 1 (.tup [.int a, .int b]) := fun x hx => by
  simp only [List.mem_cons, List.not_mem_nil, or_false] at hx
  rcases hx with rfl | rfl <;> exact True.intro
theorem tri_inj {a b f : D} {c : Sch} (h : D.tup [a, b, f] = c.d) : a = .int (c.h : Int) ∧ b = .int (c.k : Int) ∧ f = .tup (c.fs.map fD) := by
  unfold Sch.d at h
  injection h with h1
  injection h1 with h2 h3
  injection h3 with h4 h5
  injection h5 with h6 _
  exact ⟨h2, h4, h6⟩
theorem no_schema_ok {p : Nat} {c : Sch} (hc : c.Ok) {S : Store} (hP : Pool p S) : ∃ x T, F__law_no_schema [.ref p, c.d] S = .ok x T ∧ NoS T x ∧ Keep [p] S T ∧ Pool p T := by
  have hp := hP.lt
  have f40 := hc.f40; have h1 := hc.h1; have hk := hc.hk
  have s1 : (sAsg (.tp [(.nm 2), (.nm 3), (.nm 4)]) (eV 1)) [some (.ref p), some c.d, none, none, none, none] S = .nx [some (.ref p), some c.d, some (.int (c.h : Int)), some (.int (c.k : Int)), some (.tup (c.fs.map fD)), none] S := by
    unfold Sch.d; simp
  -- the first list
  have sl : ∀ T, slD c.d none (some 2) T = .ok (.tup [.int (c.h : Int), .int (c.k : Int)]) T := fun T => by
    unfold Sch.d slD
    rfl
  have li : ∀ T, fList c.d T = .ok (.ref T.length) (T ++ [.lst [.int (c.h : Int), .int (c.k : Int), .tup (c.fs.map fD)]]) := fun T => rfl
  generalize hTa : S ++ [Ob.lst [.int (c.h : Int), .int (c.k : Int), .tup (c.fs.map fD)]] = Ta
  have ga : Ta[S.length]? = some (.lst [.int (c.h : Int), .int (c.k : Int), .tup (c.fs.map fD)]) := by rw [← hTa]; exact get_last _ _
  generalize hX : ([.non, .tup [.int (c.h : Int), .int (c.k : Int)], .ref S.length, .tup [.int 0, .int (c.k : Int), .tup (c.fs.map fD)], .tup [.int 7, .int 24, .tup []], .tup [.int (c.h : Int), .int 25, .tup (c.fs.map fD)], .tup [.int (c.h : Int), .int ((c.h : Int) - 1), .tup []]] : List D) = X
  have lX : X.length = 7 := by rw [← hX]; rfl
  generalize hTb : Ta ++ [Ob.lst X] = Tb
  have gb : Tb[Ta.length]? = some (.lst X) := by rw [← hTb]; exact get_last _ _
  have gab : Tb[S.length]? = some (.lst [.int (c.h : Int), .int (c.k : Int), .tup (c.fs.map fD)]) := by rw [← hTb, List.getElem?_append_left (lt_of_get ga)]; exact ga
  have s2 : (sSet 5 (eLst (aCons (eC .non) (aCons (eSlice (eV 1) oNone (oSome (eC (.int 2)))) (aCons (eUn fList (eV 1)) (aCons (eTup (aCons (eC (.int 0)) (aCons (eV 3) (aCons (eV 4) aNil)))) (aCons (eTup (aCons (eC (.int 7)) (aCons (eC (.int 24)) (aCons (eTup aNil) aNil)))) (aCons (eTup (aCons (eV 2) (aCons (eC (.int 25)) (aCons (eV 4) aNil)))) (aCons (eTup (aCons (eV 2) (aCons (eOp oSub (eV 2) (eC (.int 1))) (aCons (eTup aNil) aNil)))) aNil))))))))) [some (.ref p), some c.d, some (.int (c.h : Int)), some (.int (c.k : Int)), some (.tup (c.fs.map fD)), none] S = .nx [some (.ref p), some c.d, some (.int (c.h : Int)), some (.int (c.k : Int)), some (.tup (c.fs.map fD)), some (.ref Ta.length)] Tb := by
    rw [← hTb, ← hX]
    simp [eSlice, oNone, oSome, sl, li, hTa, LIM_val]
  -- the second
  generalize hTc : Tb ++ [Ob.lst (c.fs.map fD)] = Tc
  have gc : Tc[Tb.length]? = some (.lst (c.fs.map fD)) := by rw [← hTc]; exact get_last _ _
  generalize hY : ([.tup [.int (c.h : Int), .int (c.k : Int), .ref Tb.length], .tup [.int (c.h : Int), .int (c.k : Int), .tup (c.fs.map fD ++ [.tup [.int 0, .int 0]])], .tup [.int (c.h : Int), .int (c.k : Int), .tup (c.fs.map fD ++ [.tup [.int 0]])]] : List D) = Y
  have lY : Y.length = 3 := by rw [← hY]; rfl
  generalize hTd : Tc ++ [Ob.lst Y] = Td
  have gd : Td[Tc.length]? = some (.lst Y) := by rw [← hTd]; exact get_last _ _
  have lb := lt_of_get gb
  have gbc : Tc[Ta.length]? = some (.lst X) := by rw [← hTc, List.getElem?_append_left lb]; exact gb
  have gbd : Td[Ta.length]? = some (.lst X) := by rw [← hTd, List.getElem?_append_left (lt_of_get gbc)]; exact gbc
  have ex := oExtend_lst gbd gd (by rw [LIM_val]; omega)
  generalize hTe : Td.set Ta.length (Ob.lst (X ++ Y)) = Te at ex
  have ge : Te[Ta.length]? = some (.lst (X ++ Y)) := by rw [← hTe]; exact get_set_self gbd
  have ad1 : ∀ T, oAdd (.tup (c.fs.map fD)) (.tup [.tup [.int 0, .int 0]]) T = .ok (.tup (c.fs.map fD ++ [.tup [.int 0, .int 0]])) T := fun T => oAdd_tups _ _ _ (by simp [LIM_val]; omega)
  have ad2 : ∀ T, oAdd (.tup (c.fs.map fD)) (.tup [.tup [.int 0]]) T = .ok (.tup (c.fs.map fD ++ [.tup [.int 0]])) T := fun T => oAdd_tups _ _ _ (by simp [LIM_val]; omega)
  have s3 : (sExpr (eBM oExtend (eV 5) (eLst (aCons (eTup (aCons (eV 2) (aCons (eV 3) (aCons (eUn fList (eV 4)) aNil)))) (aCons (eTup (aCons (eV 2) (aCons (eV 3) (aCons (eOp oAdd (eV 4) (eTup (aCons (eTup (aCons (eC (.int 0)) (aCons (eC (.int 0)) aNil))) aNil))) aNil)))) (aCons (eTup (aCons (eV 2) (aCons (eV 3) (aCons (eOp oAdd (eV 4) (eTup (aCons (eTup (aCons (eC (.int 0)) aNil)) aNil))) aNil)))) aNil)))))) [some (.ref p), some c.d, some (.int (c.h : Int)), some (.int (c.k : Int)), some (.tup (c.fs.map fD)), some (.ref Ta.length)] Tb = .nx [some (.ref p), some c.d, some (.int (c.h : Int)), some (.int (c.k : Int)), some (.tup (c.fs.map fD)), some (.ref Ta.length)] Te := by
    have lit : (eLst (aCons (eTup (aCons (eV 2) (aCons (eV 3) (aCons (eUn fList (eV 4)) aNil)))) (aCons (eTup (aCons (eV 2) (aCons (eV 3) (aCons (eOp oAdd (eV 4) (eTup (aCons (eTup (aCons (eC (.int 0)) (aCons (eC (.int 0)) aNil))) aNil))) aNil)))) (aCons (eTup (aCons (eV 2) (aCons (eV 3) (aCons (eOp oAdd (eV 4) (eTup (aCons (eTup (aCons (eC (.int 0)) aNil)) aNil))) aNil)))) aNil)))) [some (.ref p), some c.d, some (.int (c.h : Int)), some (.int (c.k : Int)), some (.tup (c.fs.map fD)), some (.ref Ta.length)] Tb = .ok (.ref Tc.length) Td := by
      rw [← hTd, ← hY]
      generalize hA1 : c.fs.map fD ++ [D.tup [.int 0, .int 0]] = A1 at *
      generalize hA2 : c.fs.map fD ++ [D.tup [.int 0]] = A2 at *
      simp [fList_tup, hTc, ad1, ad2, LIM_val]
    have il := isLst_lst gb
    simp only [sExpr_eq, eBM_eq, eV_eq, List.getElem?_cons_succ, List.getElem?_cons_zero, Res.bind_ok, il, if_true]
    rw [lit]
    simp only [Res.bind_ok, ex, ofE_ok]
  -- the third
  have mu : ∀ T, oMul (.tup [.tup [.int 0, .int (c.h : Int)]]) (.int 41) T = .ok (.tup (List.replicate 41 [D.tup [.int 0, .int (c.h : Int)]]).flatten) T := fun T => rfl
  generalize hM : (List.replicate 41 [D.tup [.int 0, .int (c.h : Int)]]).flatten = M at mu
  generalize hZ : ([.tup [.int (c.h : Int), .int (c.k : Int), .tup [.tup [.int (c.k : Int), .int (c.h : Int)]]], .tup [.bl true, .int (c.k : Int), .tup []], .tup [.int (c.h : Int), .int (c.k : Int), .tup M]] : List D) = Z
  have lZ : Z.length = 3 := by rw [← hZ]; rfl
  generalize hTf : Te ++ [Ob.lst Z] = Tf
  have gf : Tf[Te.length]? = some (.lst Z) := by rw [← hTf]; exact get_last _ _
  have gef : Tf[Ta.length]? = some (.lst (X ++ Y)) := by rw [← hTf, List.getElem?_append_left (lt_of_get ge)]; exact ge
  have ad := oAdd_lsts gef gf (by rw [LIM_val, List.length_append]; omega)
  generalize hTg : Tf ++ [Ob.lst (X ++ Y ++ Z)] = Tg at ad
  have gg : Tg[Tf.length]? = some (.lst (X ++ Y ++ Z)) := by rw [← hTg]; exact get_last _ _
  have Kg : Keep [] S Tg := by
    have k1 : Keep [] S Td := by rw [← hTd, ← hTc, ← hTb, ← hTa]; exact (((Keep.push _ _ _).trans (Keep.push _ _ _)).trans (Keep.push _ _ _)).trans (Keep.push _ _ _)
    have k2 : Keep [] S Te := by rw [← hTe]; exact k1.new (Y := [Ta.length]) (Keep.set _ (.inl (by simp))) (by intro j hj; simp at hj; right; rw [hj, ← hTa]; simp)
    rw [← hTg, ← hTf]; exact (k2.trans (Keep.push _ _ _)).trans (Keep.push _ _ _)
  have Pg := hP.keep Kg (by simp)
  have nf : Tf.length ≠ p := by
    have h2 := lt_of_get gef
    have : S.length ≤ Ta.length := by rw [← hTa]; simp
    omega
  obtain ⟨x, Th, eh, hx, Kh, Ph, _⟩ := one_ok Pg gg nf (by simp; omega) (by simp; omega)
  refine ⟨x, Th, ?_, ?_, (Kg.mono (by simp)).trans Kh, Ph⟩
  · have s4 : (sRet (eCall F__law_wv_one (aCons (eV 0) (aCons (eOp oAdd (eV 5) (eLst (aCons (eTup (aCons (eV 2) (aCons (eV 3) (aCons (eTup (aCons (eTup (aCons (eV 3) (aCons (eV 2) aNil))) aNil)) aNil)))) (aCons (eTup (aCons (eC (.bl true)) (aCons (eV 3) (aCons (eTup aNil) aNil)))) (aCons (eTup (aCons (eV 2) (aCons (eV 3) (aCons (eOp oMul (eTup (aCons (eTup (aCons (eC (.int 0)) (aCons (eV 2) aNil))) aNil)) (eC (.int 41))) aNil)))) aNil))))) aNil)))) [some (.ref p), some c.d, some (.int (c.h : Int)), some (.int (c.k : Int)), some (.tup (c.fs.map fD)), some (.ref Ta.length)] Te = .rt x Th := by
      have lit : (eLst (aCons (eTup (aCons (eV 2) (aCons (eV 3) (aCons (eTup (aCons (eTup (aCons (eV 3) (aCons (eV 2) aNil))) aNil)) aNil)))) (aCons (eTup (aCons (eC (.bl true)) (aCons (eV 3) (aCons (eTup aNil) aNil)))) (aCons (eTup (aCons (eV 2) (aCons (eV 3) (aCons (eOp oMul (eTup (aCons (eTup (aCons (eC (.int 0)) (aCons (eV 2) aNil))) aNil)) (eC (.int 41))) aNil)))) aNil)))) [some (.ref p), some c.d, some (.int (c.h : Int)), some (.int (c.k : Int)), some (.tup (c.fs.map fD)), some (.ref Ta.length)] Te = .ok (.ref Te.length) Tf := by
        rw [← hTf, ← hZ]
        simp [mu, LIM_val]
      simp only [sRet_eq, eCall_eq, aCons_eq, aNil_eq, eOp_eq, eV_eq, List.getElem?_cons_succ, List.getElem?_cons_zero, Res.bind_ok] at lit ⊢
      rw [lit]
      simp only [Res.bind_ok, ad, eh, ofE_ok]
    exact (mkF_eq 2 6 _ [.ref p, c.d] S rfl).trans (by
      rw [show startE 6 [D.ref p, c.d] = [some (.ref p), some c.d, none, none, none, none] from rfl]
      rw [show b__law_no_schema [some (.ref p), some c.d, none, none, none, none] S = .rt x Th from nx_seq s1 (nx_seq s2 (nx_seq s3 s4))])
  · -- each is none
    have la : Ta.length = S.length + 1 := by rw [← hTa]; simp
    have lb2 : Tb.length = S.length + 2 := by rw [← hTb]; simp [la]
    have Kcg : Keep [Ta.length] Tc Tg := by
      rw [← hTg, ← hTf, ← hTe, ← hTd]
      exact (((Keep.push _ _ _).trans (Keep.set _ (.inl (by simp)))).trans (Keep.push _ _ _)).trans (Keep.push _ _ _)
    have gac : Tc[S.length]? = some (.lst [.int (c.h : Int), .int (c.k : Int), .tup (c.fs.map fD)]) := by rw [← hTc, List.getElem?_append_left (lt_of_get gab)]; exact gab
    have gag := Kcg.get gac (by simp; omega)
    have gcg := Kcg.get gc (by simp; omega)
    refine NoS.keepP (S := Tg) ?_ Kh Ph
    have tI : ∀ (n : Nat) (i : Int), Ty Tg n (.int i) := fun n i => by cases n <;> exact True.intro
    have tF : Ty Tg 2 (.tup (c.fs.map fD)) := ty_fields
    have tE : Ty Tg 2 (.tup []) := fun x hx => by simp at hx
    have lap : ∀ z : D, Ty Tg 1 z → Ty Tg 2 (.tup (c.fs.map fD ++ [z])) := fun z hz x hx => by
      rcases List.mem_append.mp hx with q | q
      · exact tF x q
      · simp at q; subst q; exact hz
    rcases List.mem_append.mp hx with hx | hx
    · rcases List.mem_append.mp hx with hx | hx
      · rw [← hX] at hx
        simp only [List.mem_cons, List.not_mem_nil, or_false] at hx
        rcases hx with rfl | rfl | rfl | rfl | rfl | rfl | rfl
        · exact noS_of True.intro fun d _ e => by unfold Sch.d at e; cases e
        · exact noS_of (fun x hx => by
            simp only [List.mem_cons, List.not_mem_nil, or_false] at hx
            rcases hx with rfl | rfl <;> exact tI _ _) fun d _ e => by
            unfold Sch.d at e
            injection e with e1
            have := congrArg List.length e1
            simp at this
        · exact noS_of ⟨_, gag⟩ fun d _ e => by unfold Sch.d at e; cases e
        · refine noS_of (ty_tri (tI _ _) (tI _ _) tF) fun d hd e => ?_
          obtain ⟨e1, _, _⟩ := tri_inj e
          injection e1 with e2
          have := hd.h1; omega
        · refine noS_of (ty_tri (tI _ _) (tI _ _) tE) fun d hd e => ?_
          obtain ⟨e1, _, _⟩ := tri_inj e
          injection e1 with e2
          have := hd.h6; omega
        · refine noS_of (ty_tri (tI _ _) (tI _ _) tF) fun d hd e => ?_
          obtain ⟨_, e1, _⟩ := tri_inj e
          injection e1 with e2
          have := hd.k24; omega
        · refine noS_of (ty_tri (tI _ _) (tI _ _) tE) fun d hd e => ?_
          obtain ⟨e1, e2, _⟩ := tri_inj e
          injection e1 with e3
          injection e2 with e4
          have := hd.hk; omega
      · rw [← hY] at hx
        simp only [List.mem_cons, List.not_mem_nil, or_false] at hx
        rcases hx with rfl | rfl | rfl
        · refine noS_of (ty_tri (tI _ _) (tI _ _) ⟨_, gcg⟩) fun d hd e => ?_
          obtain ⟨_, _, e1⟩ := tri_inj e
          cases e1
        · refine noS_of (ty_tri (tI _ _) (tI _ _) (lap _ ty_pair)) fun d hd e => ?_
          obtain ⟨e1, _, e3⟩ := tri_inj e
          injection e1 with e2
          injection e3 with e4
          have hm : D.tup [.int 0, .int 0] ∈ d.fs.map fD := by rw [← e4]; simp
          obtain ⟨q, hq, e5⟩ := List.mem_map.mp hm
          have := (hd.fs q hq).2.1
          have e6 : fD q = fD (0, 0) := e5
          unfold fD at e6
          injection e6 with e7
          injection e7 with e8 e9
          injection e9 with e10 _
          injection e10 with e11
          have h0 : (q.2 : Int) = 0 := e11
          omega
        · refine noS_of (ty_tri (tI _ _) (tI _ _) (lap _ ty_one)) fun d hd e => ?_
          obtain ⟨_, _, e3⟩ := tri_inj e
          injection e3 with e4
          have hm : D.tup [.int 0] ∈ d.fs.map fD := by rw [← e4]; simp
          obtain ⟨q, hq, e5⟩ := List.mem_map.mp hm
          unfold fD at e5
          injection e5 with e6
          have := congrArg List.length e6
          simp at this
    · rw [← hZ] at hx
      simp only [List.mem_cons, List.not_mem_nil, or_false] at hx
      rcases hx with rfl | rfl | rfl
      · refine noS_of (ty_tri (tI _ _) (tI _ _) (fun x hx => by simp at hx; subst hx; exact ty_pair)) fun d hd e => ?_
        obtain ⟨_, e1, e3⟩ := tri_inj e
        injection e1 with e2
        injection e3 with e4
        have hm : D.tup [.int (c.k : Int), .int (c.h : Int)] ∈ d.fs.map fD := by rw [← e4]; simp
        obtain ⟨q, hq, e5⟩ := List.mem_map.mp hm
        have := (hd.fs q hq).1
        have e6 : fD q = fD (c.k, c.h) := e5
        unfold fD at e6
        injection e6 with e7
        injection e7 with e8 e9
        injection e8 with e10
        have h0 : (q.1 : Int) = (c.k : Int) := e10
        omega
      · refine noS_of (ty_tri True.intro (tI _ _) tE) fun d hd e => ?_
        obtain ⟨e1, _, _⟩ := tri_inj e
        cases e1
      · refine noS_of (ty_tri (tI _ _) (tI _ _) (fun x hx => by
          rw [← hM] at hx
          obtain ⟨l, hl, hx⟩ := List.mem_flatten.mp hx
          rw [List.eq_of_mem_replicate hl] at hx
          simp at hx; subst hx; exact ty_pair)) fun d hd e => ?_
        obtain ⟨_, _, e3⟩ := tri_inj e
        injection e3 with e4
        have l1 := congrArg List.length e4
        rw [← hM] at l1
        simp [List.length_flatten] at l1
        have := hd.f40; omega
end WkL


set_option Elab.async false
set_option linter.all false
set_option maxRecDepth 100000
set_option maxHeartbeats 1000000
set_option autoImplicit false
/-! Pk04i: refusals of schemas that are none; the law. -/
namespace WkL
open PySem (Str)
open Wk
abbrev envR (p : Nat) (c e : Sch) (y3 y4 y5 y6 y7 : Option D) : Env := [some (.ref p), some c.d, some e.d, y3, y4, y5, y6, y7]
theorem same_list {S : Store} {l m n : Nat} {xs : List D} (h : S[l]? = some (.lst xs)) (k : S[m]? = some (.lst xs)) (hz : xs.length ≤ 1000000) (hp : ∀ x ∈ xs, Pl n x) (hn : n + 1 < 12) : F__law_same [.ref l, .ref m] S = .ok (.bl true) S := by
  refine same_true (n + 1) hn ⟨_, _, h, k, rfl, hz, fun i a b ha hb => ?_⟩
  rw [ha] at hb; cases hb
  exact same_refl n a (hp a (List.mem_of_getElem? ha)).plain
theorem inS_none {S : Store} {l n : Nat} {xs : List D} (h : S[l]? = some (.lst xs)) (hp : ∀ x ∈ xs, Pl n x ∧ ∃ ds, x = .tup ds) (hx : xs ≠ []) (hn : n ≤ 50) : oInS .non (.ref l) S = .ok (.bl false) S := by
  obtain ⟨ps, e, hl⟩ := mapM_some (S := S) (n := 59) (xs := xs) fun x hx => (hp x hx).1.toP (by omega)
  have ht : ∀ p ∈ ps, ∃ qs, p = .tup qs := by
    have key : ∀ (xs : List D) (ps : List P), xs.mapM (toP S 59) = some ps → (∀ x ∈ xs, ∃ ds, x = D.tup ds) → ∀ p ∈ ps, ∃ qs, p = P.tup qs := by
      intro xs
      induction xs with
      | nil => intro ps h _ p hp; cases h; simp at hp
      | cons x xs ih =>
        intro ps h hx p hp
        rw [List.mapM_cons] at h
        obtain ⟨ds, rfl⟩ := hx x List.mem_cons_self
        cases h1 : toP S 59 (.tup ds) with
        | none => rw [h1] at h; cases h
        | some q =>
          cases h2 : xs.mapM (toP S 59) with
          | none => rw [h1, h2] at h; cases h
          | some qs =>
            rw [h1, h2] at h
            cases h
            rcases List.mem_cons.mp hp with rfl | hp
            · unfold toP at h1
              split at h1
              · cases h1; exact ⟨_, rfl⟩
              · cases h1
            · exact ih qs h2 (fun y hy => hx y (List.mem_cons_of_mem _ hy)) p hp
    exact key xs ps e fun x hx => (hp x hx).2
  have e1 : toP S 60 (.ref l) = some (.lst ps) := by unfold toP; rw [h]; dsimp only; rw [e]
  have bad : oInL xs .non S = .bad := by
    cases xs with
    | nil => exact (hx rfl).elim
    | cons x xs =>
      obtain ⟨ds, rfl⟩ := (hp x List.mem_cons_self).2
      rfl
  unfold oInS
  dsimp only
  rw [h]
  dsimp only
  rw [bad]
  have e0 : toP S 60 .non = some .non := rfl
  show oInG .non (.ref l) S = _
  unfold oInG
  rw [e1, e0]
  have hany : (ps.any fun q => P.eqv q .non) = false := by
    rw [Bool.eq_false_iff]
    intro z
    rw [List.any_eq_true] at z
    obtain ⟨q, hq, e2⟩ := z
    obtain ⟨qs, rfl⟩ := ht q hq
    cases e2
  show Res.ok (D.bl (ps.any fun q => P.eqv q .non)) S = _
  rw [hany]
theorem refused_ok {p : Nat} {c e : Sch} (hc : c.Ok) (he : e.Ok) {S : Store} (hP : Pool p S) : ∃ T, F__law_refused_right [.ref p, c.d, e.d] S = .ok (.bl true) T ∧ Keep [p] S T ∧ Pool p T := by
  obtain ⟨x, T1, e1, nx1, K1, P1⟩ := no_schema_ok hc hP
  obtain ⟨y, T2, e2, ny, K2, P2⟩ := no_schema_ok he P1
  have nx := nx1.keepP K2 P2
  have s1 : (sAsg (.tp [(.nm 6), (.nm 7)]) (eTup (aCons (eCall F__law_no_schema (aCons (eV 0) (aCons (eV 1) aNil))) (aCons (eCall F__law_no_schema (aCons (eV 0) (aCons (eV 2) aNil))) aNil)))) (envR p c e none none none none none) S = .nx (envR p c e none none none (some x) (some y)) T2 := by
    simp [envR, e1, e2, LIM_val]
  obtain ⟨kx, hkx⟩ := Option.ne_none_iff_exists'.mp nx.no
  obtain ⟨ky, hky⟩ := Option.ne_none_iff_exists'.mp ny.no
  obtain ⟨kx, wx⟩ := kx
  obtain ⟨ky, wy⟩ := ky
  have fx := wf_any (n := 0) nx.ty
  have fy := wf_any (n := 0) ny.ty
  rw [hkx] at fx
  rw [hky] at fy
  have rx := wfS_rf x; have ry := wfS_rf y
  rw [hkx] at rx
  rw [hky] at ry
  have cx := wfS_cs hkx; have cy := wfS_cs hky
  have px := refW_pl rx; have py := refW_pl ry
  have X : ∀ T, Keep [] T2 T → F_made_schema [x] T = .ex kx wx T := fun T K => made_any (n := 0) (nx.ty.keep K) hkx
  have Y : ∀ T, Keep [] T2 T → F_made_schema [y] T = .ex ky wy T := fun T K => made_any (n := 0) (ny.ty.keep K) hky
  have hx : ∀ T, heardR heardCs (.ex kx wx T) = .ok (refW (some (kx, wx))) T := fun T => by rw [heardR_ex, if_pos cx]; rfl
  have hy : ∀ T, heardR heardCs (.ex ky wy T) = .ok (refW (some (ky, wy))) T := fun T => by rw [heardR_ex, if_pos cy]; rfl
  have w1 : ∀ T, Keep [] T2 T → F_with_kind [x] T = .ex kx wx T := fun T K => by simp [F_with_kind, mkF, startE, X T K]
  have w2 : ∀ T, Keep [] T2 T → F_with_field [x, .non, .non] T = .ex kx wx T := fun T K => by simp [F_with_field, mkF, startE, X T K]
  have w3 : ∀ T, Keep [] T2 T → F_renamed [x, .non] T = .ex kx wx T := fun T K => by simp [F_renamed, mkF, startE, X T K]
  have w4 : ∀ (z : D) T, Keep [] T2 T → F_beside [x, z] T = .ex kx wx T := fun z T K => by simp [F_beside, mkF, startE, X T K]
  have w5 : ∀ T, Keep [] T2 T → F_beside [c.d, y] T = .ex ky wy (T ++ [.lst (c.fs.map fD)]) := fun T K => by
    have m := made_ok hc T
    have yy := Y (T ++ [.lst (c.fs.map fD)]) (K.trans (Keep.push _ _ _))
    simp [F_beside, mkF, startE, m, yy]
  have s2 : (sPar 3 4 (eCall F__law_wf_schema (aCons (eV 6) aNil)) (eCall F__law_wf_schema (aCons (eV 7) aNil))) (envR p c e none none none (some x) (some y)) T2 = .nx (envR p c e (some (refW (some (kx, wx)))) (some (refW (some (ky, wy)))) none (some x) (some y)) T2 := by
    simp [envR, fx, fy]
  have isx : ∃ ds, refW (some (kx, wx)) = .tup ds := ⟨_, rfl⟩
  have isy : ∃ ds, refW (some (ky, wy)) = .tup ds := ⟨_, rfl⟩
  generalize refW (some (kx, wx)) = RX at *
  generalize refW (some (ky, wy)) = RY at *
  -- the list of what is heard
  have K0 := Keep.refl [] T2
  generalize hl : T2.length = l
  have step : ∀ (f : FE) (A : List D) (r : D) (T U : Store), Keep [] T2 T → T[l]? = some (.lst A) → A.length ≤ 10 → f (envR p c e (some RX) (some RY) (some (.ref l)) (some x) (some y)) T = .ok r U → Keep [] T U →
      ∃ V, sExpr (eBM oAppend (eV 5) f) (envR p c e (some RX) (some RY) (some (.ref l)) (some x) (some y)) T = .nx (envR p c e (some RX) (some RY) (some (.ref l)) (some x) (some y)) V ∧ V[l]? = some (.lst (A ++ [r])) ∧ Keep [] T2 V := by
    intro f A r T U KT g hA hf KU
    have il := isLst_lst g
    have gU := KU.get g (by simp)
    have ap := oAppend_lst (y := r) gU (by rw [LIM_val]; omega)
    refine ⟨U.set l (.lst (A ++ [r])), ?_, get_set_self gU, (KT.trans KU).new (Y := [l]) (Keep.set _ (.inl (by simp))) (by intro j hj; simp at hj; omega)⟩
    unfold envR at hf ⊢
    simp only [sExpr_eq, eBM_eq, eV_eq, List.getElem?_cons_succ, List.getElem?_cons_zero, Res.bind_ok, il, if_true, hf, ap, ofE_ok]
  generalize hT3 : T2 ++ [Ob.lst [RX]] = T3
  have K3 : Keep [] T2 T3 := by rw [← hT3]; exact Keep.push _ _ _
  have g3 : T3[l]? = some (.lst [RX]) := by rw [← hT3, ← hl]; exact get_last _ _
  have s3 : (sSet 5 (eLst (aCons (eHeard heardCs (eCall F_with_kind (aCons (eV 6) aNil))) aNil))) (envR p c e (some RX) (some RY) none (some x) (some y)) T2 = .nx (envR p c e (some RX) (some RY) (some (.ref l)) (some x) (some y)) T3 := by
    simp [envR, w1 T2 K0, hx, LIM_val, hT3, hl]
  obtain ⟨T4, s4, g4, K4⟩ := step (eHeard heardCs (eCall F_with_field (aCons (eV 6) (aCons (eC .non) (aCons (eC .non) aNil))))) _ RX T3 T3 K3 g3 (by simp) (by simp [envR, w2 T3 K3, hx]) (Keep.refl _ _)
  obtain ⟨T5, s5, g5, K5⟩ := step (eHeard heardCs (eCall F_renamed (aCons (eV 6) (aCons (eC .non) aNil)))) _ RX T4 T4 K4 g4 (by simp) (by simp [envR, w3 T4 K4, hx]) (Keep.refl _ _)
  obtain ⟨T6, s6, g6, K6⟩ := step (eHeard heardCs (eCall F_beside (aCons (eV 6) (aCons (eV 7) aNil)))) _ RX T5 T5 K5 g5 (by simp) (by simp [envR, w4 y T5 K5, hx]) (Keep.refl _ _)
  obtain ⟨T7, s7, g7, K7⟩ := step (eHeard heardCs (eCall F_beside (aCons (eV 1) (aCons (eV 7) aNil)))) _ RY T6 (T6 ++ [.lst (c.fs.map fD)]) K6 g6 (by simp) (by simp [envR, w5 T6 K6, hy]) (Keep.push _ _ _)
  obtain ⟨T8, s8, g8, K8⟩ := step (eHeard heardCs (eCall F_beside (aCons (eV 6) (aCons (eV 2) aNil)))) _ RX T7 T7 K7 g7 (by simp) (by simp [envR, w4 e.d T7 K7, hx]) (Keep.refl _ _)
  have g8' : T8[l]? = some (.lst [RX, RX, RX, RX, RY, RX]) := g8
  -- none isn't among them
  generalize hT9 : T8 ++ [Ob.lst [RX, RY]] = T9
  have g9 : T9[T8.length]? = some (.lst [RX, RY]) := by rw [← hT9]; exact get_last _ _
  have K9 : Keep [] T8 T9 := by rw [← hT9]; exact Keep.push _ _ _
  have ni := inS_none (n := 4) g9 (fun z hz => by
    simp only [List.mem_cons, List.not_mem_nil, or_false] at hz
    rcases hz with rfl | rfl
    · exact ⟨px, isx⟩
    · exact ⟨py, isy⟩) (by simp) (by decide)
  generalize hT10 : T9 ++ [Ob.lst [RX]] = T10
  have g10 : T10[T9.length]? = some (.lst [RX]) := by rw [← hT10]; exact get_last _ _
  have mu := oMul_lst g10 4 (by decide) (by simp)
  have mu' : oMul (.ref T9.length) (.int 4) T10 = .ok (.ref T10.length) (T10 ++ [.lst [RX, RX, RX, RX]]) := mu
  generalize hT11 : T10 ++ [Ob.lst [RX, RX, RX, RX]] = T11 at mu'
  have g11 : T11[T10.length]? = some (.lst [RX, RX, RX, RX]) := by rw [← hT11]; exact get_last _ _
  generalize hT12 : T11 ++ [Ob.lst [RY, RX]] = T12
  have g12 : T12[T11.length]? = some (.lst [RY, RX]) := by rw [← hT12]; exact get_last _ _
  have g112 : T12[T10.length]? = some (.lst [RX, RX, RX, RX]) := by rw [← hT12, List.getElem?_append_left (lt_of_get g11)]; exact g11
  have ad := oAdd_lsts g112 g12 (by simp [LIM_val])
  have ad' : oAdd (.ref T10.length) (.ref T11.length) T12 = .ok (.ref T12.length) (T12 ++ [.lst [RX, RX, RX, RX, RY, RX]]) := ad
  generalize hT13 : T12 ++ [Ob.lst [RX, RX, RX, RX, RY, RX]] = T13 at ad'
  have K13 : Keep [] T9 T13 := by rw [← hT13, ← hT12, ← hT11, ← hT10]; exact (((Keep.push _ _ _).trans (Keep.push _ _ _)).trans (Keep.push _ _ _)).trans (Keep.push _ _ _)
  have g13 : T13[T12.length]? = some (.lst [RX, RX, RX, RX, RY, RX]) := by rw [← hT13]; exact get_last _ _
  have sm := same_list (n := 4) ((K9.trans K13).get g8' (by simp)) g13 (by simp) (fun z hz => by
    simp only [List.mem_cons, List.not_mem_nil, or_false] at hz
    rcases hz with rfl | rfl | rfl | rfl | rfl | rfl
    · exact px
    · exact px
    · exact px
    · exact px
    · exact py
    · exact px) (by decide)
  have s9 : (sRet (eAnd (eOp oNinS (eC .non) (eLst (aCons (eV 3) (aCons (eV 4) aNil)))) (eCall F__law_same (aCons (eV 5) (aCons (eOp oAdd (eOp oMul (eLst (aCons (eV 3) aNil)) (eC (.int 4))) (eLst (aCons (eV 4) (aCons (eV 3) aNil)))) aNil))))) (envR p c e (some RX) (some RY) (some (.ref l)) (some x) (some y)) T8 = .rt (.bl true) T13 := by
    unfold envR
    simp [LIM_val, hT9, ni, hT10, mu', hT12, ad', sm]
  refine ⟨T13, ?_, (K1.trans K2).trans (((K8.trans K9).trans K13).mono (by simp)), P2.keep ((K8.trans K9).trans K13) (by simp)⟩
  exact (mkF_eq 3 8 _ [.ref p, c.d, e.d] S rfl).trans (by
    rw [show startE 8 [D.ref p, c.d, e.d] = envR p c e none none none none none from rfl]
    rw [show b__law_refused_right (envR p c e none none none none none) S = .rt (.bl true) T13 from nx_seq s1 (nx_seq s2 (nx_seq s3 (nx_seq s4 (nx_seq s5 (nx_seq s6 (nx_seq s7 (nx_seq s8 s9)))))))])
/-! ### any schema -/
theorem any_schema_ok {p : Nat} {S : Store} (hP : Pool p S) : ∃ (c : Sch) (T : Store), F__law_any_schema [.ref p] S = .ok c.d T ∧ c.Ok ∧ Keep [p] S T ∧ Pool p T := by
  obtain ⟨k, T1, e1, k0, k1, K1, P1, _⟩ := take_ok (many := 8) hP (by decide) (by decide)
  have s1 : (sSet 1 (eCall F__law_wv_take (aCons (eV 0) (aCons (eC (.int 8)) aNil)))) [some (.ref p), none, none, none] S = .nx [some (.ref p), some (.int k), none, none] T1 := by simp [e1]
  have body : ∀ {d : D} {T : Store}, (sSeq (sIf (tE (eOp oEq (eV 1) (eC (.int 0)))) (sRet (eCall F__law_wv_great_schema (aCons (eV 0) aNil))) sSkip) (sSeq (sIf (tE (eOp oEq (eV 1) (eC (.int 1)))) (sSeq (sSet 2 (eOp oAdd (eC (.int 1)) (eCall F__law_wv_take (aCons (eV 0) (aCons (eC (.int 6)) aNil)))))
    (sSeq (sSet 3 (eOp oAdd (eC (.int 22)) (eCall F__law_wv_take (aCons (eV 0) (aCons (eC (.int 3)) aNil)))))
    (sRet (eTup (aCons (eV 2) (aCons (eV 3) (aCons (eOp oMul (eTup (aCons (eTup (aCons (eC (.int 0)) (aCons (eOp oSub (eV 3) (eC (.int 1))) aNil))) aNil)) (eOp oAdd (eC (.int 37)) (eCall F__law_wv_take (aCons (eV 0) (aCons (eC (.int 4)) aNil))))) aNil))))))) sSkip)
    (sRet (eCall F__law_wv_schema (aCons (eV 0) aNil))))) [some (.ref p), some (.int k), none, none] T1 = .rt d T → F__law_any_schema [.ref p] S = .ok d T := by
    intro d T h
    exact (mkF_eq 1 4 _ [.ref p] S rfl).trans (by
      rw [show startE 4 [D.ref p] = [some (.ref p), none, none, none] from rfl]
      rw [show b__law_any_schema [some (.ref p), none, none, none] S = .rt d T from nx_seq s1 h])
  by_cases h0 : k = 0
  · obtain ⟨c, T2, e2, hc, K2, P2⟩ := great_ok P1
    refine ⟨c, T2, body ?_, hc, K1.trans K2, P2⟩
    simp [h0, e2]
  · by_cases h1 : k = 1
    · obtain ⟨a, T2, e2, a0, a1, K2, P2, _⟩ := take_ok (many := 6) P1 (by decide) (by decide)
      obtain ⟨b, T3, e3, b0, b1, K3, P3, _⟩ := take_ok (many := 3) P2 (by decide) (by decide)
      obtain ⟨d, T4, e4, d0, d1, K4, P4, _⟩ := take_ok (many := 4) P3 (by decide) (by decide)
      obtain ⟨hh, hhe⟩ := Int.eq_ofNat_of_zero_le (show 0 ≤ 1 + a by omega)
      obtain ⟨kk, kke⟩ := Int.eq_ofNat_of_zero_le (show 0 ≤ 22 + b by omega)
      obtain ⟨n, ne⟩ := Int.eq_ofNat_of_zero_le (show 0 ≤ 37 + d by omega)
      have hfl : (List.replicate n [fD (0, kk - 1)]).flatten = (List.replicate n (0, kk - 1)).map fD := by
        clear ne
        induction n with
        | zero => rfl
        | succ n ih => rw [List.replicate_succ, List.flatten_cons, ih, List.replicate_succ, List.map_cons]; rfl
      have mu : ∀ T, oMul (.tup [fD (0, kk - 1)]) (.int (n : Int)) T = .ok (.tup ((List.replicate n (0, kk - 1)).map fD)) T := fun T => by
        rw [← hfl]
        show (if _ then _ else _) = _
        rw [if_pos ⟨by simp, by simp, by omega, by omega⟩, Int.toNat_natCast]
      have hfd : D.tup [.int 0, .int ((kk : Int) - 1)] = fD (0, kk - 1) := by
        unfold fD
        rw [show ((kk : Int) - 1) = ((kk - 1 : Nat) : Int) from by omega]
        rfl
      refine ⟨⟨hh, kk, List.replicate n (0, kk - 1)⟩, T4, body ?_, ⟨by show 1 ≤ hh; omega, by show hh ≤ 6; omega, by show hh ≤ kk; omega, by show kk ≤ 24; omega, by show (List.replicate n _).length ≤ 40; simp; omega, fun q hq => ?_⟩, ((K1.trans K2).trans K3).trans K4, P4⟩
      · generalize hQ : (List.replicate n (0, kk - 1)).map fD = Q at *
        have hd : Sch.d ⟨hh, kk, List.replicate n (0, kk - 1)⟩ = .tup [.int (hh : Int), .int (kk : Int), .tup Q] := by unfold Sch.d; rw [hQ]
        rw [hd]
        simp [h1, e2, hhe, e3, kke, e4, ne, hfd, mu, LIM_val]
      · rw [List.eq_of_mem_replicate hq]
        exact ⟨by show 0 < kk; omega, by show hh ≤ kk - 1; omega, by show kk - 1 < kk; omega⟩
    · obtain ⟨c, T2, e2, hc, K2, P2⟩ := schema_ok P1
      refine ⟨c, T2, body ?_, hc, K1.trans K2, P2⟩
      simp [h0, h1, e2]
/-! ### the law -/
def turnB : FS := (sSeq (sPar 3 4 (eCall F__law_any_schema (aCons (eV 1) aNil)) (eCall F__law_any_schema (aCons (eV 1) aNil)))
    (sSeq (sFor (iRng (eC (.int 3))) (.nm 5) (sIf (tOr (Wk.tNot (tE (eCall F__law_fields_right (aCons (eV 1) (aCons (eV 3) aNil))))) (Wk.tNot (tE (eCall F__law_orders_right (aCons (eV 1) (aCons (eV 3) aNil)))))) (sRet (eC (.bl false))) sSkip))
    (sSeq (sIf (tOr (Wk.tNot (tE (eCall F__law_beside_right (aCons (eV 1) (aCons (eV 3) (aCons (eV 4) aNil)))))) (Wk.tNot (tE (eCall F__law_beside_right (aCons (eV 1) (aCons (eV 3) (aCons (eV 3) aNil))))))) (sRet (eC (.bl false))) sSkip)
    (sIf (Wk.tNot (tE (eCall F__law_refused_right (aCons (eV 1) (aCons (eV 3) (aCons (eV 4) aNil)))))) (sRet (eC (.bl false))) sSkip))))
abbrev envL (x : D) (p : Nat) (y2 y3 y4 y5 : Option D) : Env := [some x, some (.ref p), y2, y3, y4, y5]
theorem turn_ok {p : Nat} {x : D} {T : Store} (i y3 y4 y5 : Option D) (hP : Pool p T) : ∃ z3 z4 z5 T', turnB (envL x p i y3 y4 y5) T = .nx (envL x p i z3 z4 z5) T' ∧ Pool p T' := by
  obtain ⟨c, T1, e1, hc, K1, P1⟩ := any_schema_ok hP
  obtain ⟨e, T2, e2, he, K2, P2⟩ := any_schema_ok P1
  have s1 : (sPar 3 4 (eCall F__law_any_schema (aCons (eV 1) aNil)) (eCall F__law_any_schema (aCons (eV 1) aNil))) (envL x p i y3 y4 y5) T = .nx (envL x p i (some c.d) (some e.d) y5) T2 := by simp [envL, e1, e2]
  obtain ⟨s', T3, e3, z5, rfl, P3⟩ := forL_run (c := []) (g := .nm 5) (b := (sIf (tOr (Wk.tNot (tE (eCall F__law_fields_right (aCons (eV 1) (aCons (eV 3) aNil))))) (Wk.tNot (tE (eCall F__law_orders_right (aCons (eV 1) (aCons (eV 3) aNil)))))) (sRet (eC (.bl false))) sSkip))
    (fun rest s T => ∃ z5, s = envL x p i (some c.d) (some e.d) z5 ∧ Pool p T) (fun _ _ _ _ => rfl) (by
      rintro d rest s U ⟨z5, rfl, hU⟩
      obtain ⟨U1, f1, _, Q1⟩ := fields_right_ok hc hU
      obtain ⟨U2, f2, _, Q2⟩ := orders_right_ok hc Q1
      exact ⟨_, envL x p i (some c.d) (some e.d) (some d), U2, rfl, .inl (by simp [envL, f1, f2]), _, rfl, Q2⟩) (rngD 0 3) (envL x p i (some c.d) (some e.d) y5) T2 ⟨_, rfl, P2⟩
  have s2 : (sFor (iRng (eC (.int 3))) (.nm 5) (sIf (tOr (Wk.tNot (tE (eCall F__law_fields_right (aCons (eV 1) (aCons (eV 3) aNil))))) (Wk.tNot (tE (eCall F__law_orders_right (aCons (eV 1) (aCons (eV 3) aNil)))))) (sRet (eC (.bl false))) sSkip)) (envL x p i (some c.d) (some e.d) y5) T2 = .nx (envL x p i (some c.d) (some e.d) z5) T3 := by
    have it : iRng (eC (.int 3)) (envL x p i (some c.d) (some e.d) y5) T2 = .ok ⟨rngD 0 3, []⟩ T2 := by simp
    rw [sFor_eq, it, ofE_ok]
    exact e3
  obtain ⟨T4, f4, _, P4⟩ := bes_right_ok hc he P3
  obtain ⟨T5, f5, _, P5⟩ := bes_right_ok hc hc P4
  have s3 : (sIf (tOr (Wk.tNot (tE (eCall F__law_beside_right (aCons (eV 1) (aCons (eV 3) (aCons (eV 4) aNil)))))) (Wk.tNot (tE (eCall F__law_beside_right (aCons (eV 1) (aCons (eV 3) (aCons (eV 3) aNil))))))) (sRet (eC (.bl false))) sSkip) (envL x p i (some c.d) (some e.d) z5) T3 = .nx (envL x p i (some c.d) (some e.d) z5) T5 := by simp [envL, f4, f5]
  obtain ⟨T6, f6, _, P6⟩ := refused_ok hc he P5
  have s4 : (sIf (Wk.tNot (tE (eCall F__law_refused_right (aCons (eV 1) (aCons (eV 3) (aCons (eV 4) aNil)))))) (sRet (eC (.bl false))) sSkip) (envL x p i (some c.d) (some e.d) z5) T5 = .nx (envL x p i (some c.d) (some e.d) z5) T6 := by simp [envL, f6]
  exact ⟨_, _, _, T6, nx_seq s1 (nx_seq s2 (nx_seq s3 s4)), P6⟩
theorem law_ok {x : D} {S : Store} {ns : List Int} (hz : ns.length ≤ 1000000) (hl : fLen x S = .ok (.int ns.length) S) (hx : ∀ (i : Nat) (z : Int), ns[i]? = some z → oIx x (.int (i : Int)) S = .ok (.int z) S) : ∃ T, F_law [x] S = .ok (.bl true) T := by
  obtain ⟨p, S1, e1, P1, _, _⟩ := pool_ok hz hl hx
  have s1 : (sSet 1 (eCall F__law_wv_pool (aCons (eV 0) aNil))) [some x, none, none, none, none, none] S = .nx (envL x p none none none none) S1 := by simp [envL, e1]
  obtain ⟨s', T, e2, _⟩ := forL_run (c := []) (g := .nm 2) (b := turnB)
    (fun rest s T => ∃ y2 y3 y4 y5, s = envL x p y2 y3 y4 y5 ∧ Pool p T) (fun _ _ _ _ => rfl) (by
      rintro d rest s T ⟨y2, y3, y4, y5, rfl, hP⟩
      obtain ⟨z3, z4, z5, T', e, hP'⟩ := turn_ok (x := x) (some d) y3 y4 y5 hP
      exact ⟨_, _, T', rfl, .inl e, _, _, _, _, rfl, hP'⟩) (rngD 0 8) (envL x p none none none none) S1 ⟨_, _, _, _, rfl, P1⟩
  unfold turnB at e2
  have s2 : (sFor (iRng (eC (.int 8))) (.nm 2) (sSeq (sPar 3 4 (eCall F__law_any_schema (aCons (eV 1) aNil)) (eCall F__law_any_schema (aCons (eV 1) aNil)))
    (sSeq (sFor (iRng (eC (.int 3))) (.nm 5) (sIf (tOr (Wk.tNot (tE (eCall F__law_fields_right (aCons (eV 1) (aCons (eV 3) aNil))))) (Wk.tNot (tE (eCall F__law_orders_right (aCons (eV 1) (aCons (eV 3) aNil)))))) (sRet (eC (.bl false))) sSkip))
    (sSeq (sIf (tOr (Wk.tNot (tE (eCall F__law_beside_right (aCons (eV 1) (aCons (eV 3) (aCons (eV 4) aNil)))))) (Wk.tNot (tE (eCall F__law_beside_right (aCons (eV 1) (aCons (eV 3) (aCons (eV 3) aNil))))))) (sRet (eC (.bl false))) sSkip)
    (sIf (Wk.tNot (tE (eCall F__law_refused_right (aCons (eV 1) (aCons (eV 3) (aCons (eV 4) aNil)))))) (sRet (eC (.bl false))) sSkip))))) (envL x p none none none none) S1 = .nx s' T := by
    have it : iRng (eC (.int 8)) (envL x p none none none none) S1 = .ok ⟨rngD 0 8, []⟩ S1 := by simp
    rw [sFor_eq, it, ofE_ok]
    exact e2
  refine ⟨T, (mkF_eq 1 6 _ [x] S rfl).trans ?_⟩
  rw [show startE 6 [x] = [some x, none, none, none, none, none] from rfl]
  rw [show b_law [some x, none, none, none, none, none] S = .rt (.bl true) T from nx_seq s1 (nx_seq s2 rfl)]
theorem pure_law (ns : List Int) (hn : ns.length ≤ 63) : (∃ S', F_law [.frz (ns.map D.int)] [] = .ok (.bl true) S') ∧ ∃ S', F_law [.ref 0] [.lst (ns.map D.int)] = .ok (.bl true) S' := by
  refine ⟨law_ok (ns := ns) (by omega) (by simp) fun i z h => ?_, law_ok (ns := ns) (by omega) (by rw [fLen_lst (ds := ns.map D.int) rfl]; simp) fun i z h => ?_⟩
  · simp [h]
  · simp [h]
end WkL


set_option Elab.async false
set_option linter.all false
set_option maxRecDepth 100000
set_option maxHeartbeats 4000000
set_option autoImplicit false
/-! printed by gen.py: the end of wovenkeep_k04_schemas_edited_and_put_bes. -/
namespace WkL
open PySem PySem.Spec PyProof.Rows L2 LamX Wk

section
variable {P : Program} {w : World} {K : PySem.W.Frag} {mg : Str → Option Value} {base : Heap}
theorem sc_init : FnScope ["self", "what"] ["self", "what"] (defScope st_init) := ⟨rfl, rfl, rfl, by decide +kernel, rfl, by decide +kernel, by decide +kernel⟩
theorem ok_init {f : Addr} {fd : FuncData} (F : Fun K "__init__" "Refused.__init__" st_init f fd) (hm : mg "ValueError" = none) (vV : PySem.W.findCls K (.type "ValueError") (.type "type") "__init__" = some (.val (.builtin "ValueError.__init__"))) : FnOk P w K mg base CX0 1 f fd ["self", "what"] (spRef K) := by
  refine F.ok sc_init (fun vs H Q E h => ?_) (fun cdv A outer s H vs Q E hr h => ?_)
  · obtain ⟨a, C, v, rfl, _⟩ := h
    rfl
  · obtain ⟨a, C, v, rfl, O, hno, ha, k⟩ := h
    refine ⟨_, pss_cons (ps_expr (pe_veinit rfl hm vV (pa_cons (pv 0) (pa_cons (pv 1) pa_nil)))) (pss_one (ps_ost (pv 0) (pv 1))), ?_⟩
    exact ⟨_, rfl, _, rfl, a, C, [v], rfl, (by show 1 ≤ 1000; decide), O, ha, _, rfl, _, rfl, a, C, rfl, O, hno, .inl ⟨ha, fun dx h1 h2 => k dx h1 h2⟩⟩
theorem init_all {fI : Addr} {oc : Value} {od : Option Addr} {kV dc pm : Value} {an : Option Addr} {cd ct : Value} {sl : Array (Option Value)} (l : K.lookup fI = some ⟨oc, od, .func (PySem.W.fnOf "__init__" "Refused.__init__" (defArgs st_init) (defBody st_init) (defScope st_init) .none kV dc pm an cd ct), sl⟩)
    (c : PySem.W.codeIn K cd "Refused.__init__" = true) (k : PySem.W.keepIn K (.ref fI) = true) (hm : mg "ValueError" = none) (vV : PySem.W.findCls K (.type "ValueError") (.type "type") "__init__" = some (.val (.builtin "ValueError.__init__"))) :
    ∃ fd : FuncData, L2.Binds K fd ["self", "what"] [] ∧ FnOk P w K mg base CX0 1 fI fd ["self", "what"] (spRef K) := by
  have F := fun_mk (st := st_init) l c k
  exact ⟨_, F.binds (ps := ["self", "what"]) fun _ _ _ _ _ _ us hl => match us, hl with | [_, _], _ => rfl, ok_init F hm vV⟩
end
theorem bi_is_whole : BindP "is_whole" st_is_whole ["thing", "low", "high"] := fun _ _ _ _ _ _ us hl => match us, hl with | [_, _, _], _ => rfl
theorem bi_is_row : BindP "is_row" st_is_row ["thing", "many"] := fun _ _ _ _ _ _ us hl => match us, hl with | [_, _], _ => rfl
theorem bi_is_field : BindP "is_field" st_is_field ["thing", "hands", "kinds"] := fun _ _ _ _ _ _ us hl => match us, hl with | [_, _, _], _ => rfl
theorem bi_made_schema : BindP "made_schema" st_made_schema ["thing"] := fun _ _ _ _ _ _ us hl => match us, hl with | [_], _ => rfl
theorem bi_asked_kind : BindP "asked_kind" st_asked_kind ["schema", "kind"] := fun _ _ _ _ _ _ us hl => match us, hl with | [_, _], _ => rfl
theorem bi_held_by : BindP "held_by" st_held_by ["schema"] := fun _ _ _ _ _ _ us hl => match us, hl with | [_], _ => rfl
theorem bi_fields_of : BindP "fields_of" st_fields_of ["schema", "kind"] := fun _ _ _ _ _ _ us hl => match us, hl with | [_, _], _ => rfl
theorem bi_had_list : BindP "had_list" st_had_list ["schema"] := fun _ _ _ _ _ _ us hl => match us, hl with | [_], _ => rfl
theorem bi_had : BindP "had" st_had ["schema"] := fun _ _ _ _ _ _ us hl => match us, hl with | [_], _ => rfl
theorem bi_with_kind : BindP "with_kind" st_with_kind ["schema"] := fun _ _ _ _ _ _ us hl => match us, hl with | [_], _ => rfl
theorem bi_with_field : BindP "with_field" st_with_field ["schema", "a", "b"] := fun _ _ _ _ _ _ us hl => match us, hl with | [_, _, _], _ => rfl
theorem bi_is_order : BindP "is_order" st_is_order ["schema", "thing"] := fun _ _ _ _ _ _ us hl => match us, hl with | [_, _], _ => rfl
theorem bi_renamed : BindP "renamed" st_renamed ["schema", "order"] := fun _ _ _ _ _ _ us hl => match us, hl with | [_, _], _ => rfl
theorem bi_kinds_beside : BindP "kinds_beside" st_kinds_beside ["one", "two"] := fun _ _ _ _ _ _ us hl => match us, hl with | [_, _], _ => rfl
theorem bi_beside : BindP "beside" st_beside ["one", "two"] := fun _ _ _ _ _ _ us hl => match us, hl with | [_, _], _ => rfl
theorem bi__law_is_whole : BindP "_law_is_whole" st__law_is_whole ["thing"] := fun _ _ _ _ _ _ us hl => match us, hl with | [_], _ => rfl
theorem bi__law_same : BindP "_law_same" st__law_same ["heard_one", "owed"] := fun _ _ _ _ _ _ us hl => match us, hl with | [_, _], _ => rfl
theorem bi__law_wv_pool : BindP "_law_wv_pool" st__law_wv_pool ["script"] := fun _ _ _ _ _ _ us hl => match us, hl with | [_], _ => rfl
theorem bi__law_wv_take : BindP "_law_wv_take" st__law_wv_take ["pool", "many"] := fun _ _ _ _ _ _ us hl => match us, hl with | [_, _], _ => rfl
theorem bi__law_wv_one : BindP "_law_wv_one" st__law_wv_one ["pool", "things"] := fun _ _ _ _ _ _ us hl => match us, hl with | [_, _], _ => rfl
theorem bi__law_wv_mixed : BindP "_law_wv_mixed" st__law_wv_mixed ["pool", "things"] := fun _ _ _ _ _ _ us hl => match us, hl with | [_, _], _ => rfl
theorem bi__law_wv_schema : BindP "_law_wv_schema" st__law_wv_schema ["pool"] := fun _ _ _ _ _ _ us hl => match us, hl with | [_], _ => rfl
theorem bi__law_wv_great_schema : BindP "_law_wv_great_schema" st__law_wv_great_schema ["pool"] := fun _ _ _ _ _ _ us hl => match us, hl with | [_], _ => rfl
theorem bi__law_wv_reached : BindP "_law_wv_reached" st__law_wv_reached ["schema", "kinds_now"] := fun _ _ _ _ _ _ us hl => match us, hl with | [_, _], _ => rfl
theorem bi__law_wv_had : BindP "_law_wv_had" st__law_wv_had ["schema"] := fun _ _ _ _ _ _ us hl => match us, hl with | [_], _ => rfl
theorem bi__law_wf_is : BindP "_law_wf_is" st__law_wf_is ["thing", "low", "top"] := fun _ _ _ _ _ _ us hl => match us, hl with | [_, _, _], _ => rfl
theorem bi__law_wf_first : BindP "_law_wf_first" st__law_wf_first ["refusals"] := fun _ _ _ _ _ _ us hl => match us, hl with | [_], _ => rfl
theorem bi__law_wf_kind : BindP "_law_wf_kind" st__law_wf_kind ["schema", "thing"] := fun _ _ _ _ _ _ us hl => match us, hl with | [_, _], _ => rfl
theorem bi__law_wf_schema : BindP "_law_wf_schema" st__law_wf_schema ["thing"] := fun _ _ _ _ _ _ us hl => match us, hl with | [_], _ => rfl
theorem bi__law_wf_order : BindP "_law_wf_order" st__law_wf_order ["schema", "thing"] := fun _ _ _ _ _ _ us hl => match us, hl with | [_, _], _ => rfl
theorem bi__law_edit_heard : BindP "_law_edit_heard" st__law_edit_heard ["deed"] := fun _ _ _ _ _ _ us hl => match us, hl with | [_], _ => rfl
theorem bi__law_is_heard : BindP "_law_is_heard" st__law_is_heard ["heard", "refusals", "owed"] := fun _ _ _ _ _ _ us hl => match us, hl with | [_, _, _], _ => rfl
theorem bi__law_over : BindP "_law_over" st__law_over ["many", "bound"] := fun _ _ _ _ _ _ us hl => match us, hl with | [_, _], _ => rfl
theorem bi__law_led_fields : BindP "_law_led_fields" st__law_led_fields ["schema", "place"] := fun _ _ _ _ _ _ us hl => match us, hl with | [_, _], _ => rfl
theorem bi__law_renamed_by : BindP "_law_renamed_by" st__law_renamed_by ["schema", "order"] := fun _ _ _ _ _ _ us hl => match us, hl with | [_, _], _ => rfl
theorem bi__law_places_beside : BindP "_law_places_beside" st__law_places_beside ["one", "two"] := fun _ _ _ _ _ _ us hl => match us, hl with | [_, _], _ => rfl
theorem bi__law_beside_by : BindP "_law_beside_by" st__law_beside_by ["one", "two"] := fun _ _ _ _ _ _ us hl => match us, hl with | [_, _], _ => rfl
theorem bi__law_any_schema : BindP "_law_any_schema" st__law_any_schema ["pool"] := fun _ _ _ _ _ _ us hl => match us, hl with | [_], _ => rfl
theorem bi__law_no_schema : BindP "_law_no_schema" st__law_no_schema ["pool", "schema"] := fun _ _ _ _ _ _ us hl => match us, hl with | [_, _], _ => rfl
theorem bi__law_odd_kind : BindP "_law_odd_kind" st__law_odd_kind ["pool", "schema"] := fun _ _ _ _ _ _ us hl => match us, hl with | [_, _], _ => rfl
theorem bi__law_fields_right : BindP "_law_fields_right" st__law_fields_right ["pool", "schema"] := fun _ _ _ _ _ _ us hl => match us, hl with | [_, _], _ => rfl
theorem bi__law_orders_right : BindP "_law_orders_right" st__law_orders_right ["pool", "schema"] := fun _ _ _ _ _ _ us hl => match us, hl with | [_, _], _ => rfl
theorem bi__law_beside_right : BindP "_law_beside_right" st__law_beside_right ["pool", "one", "two"] := fun _ _ _ _ _ _ us hl => match us, hl with | [_, _, _], _ => rfl
theorem bi__law_refused_right : BindP "_law_refused_right" st__law_refused_right ["pool", "one", "two"] := fun _ _ _ _ _ _ us hl => match us, hl with | [_, _, _], _ => rfl
theorem bi_law : BindP "law" st_law ["script"] := fun _ _ _ _ _ _ us hl => match us, hl with | [_], _ => rfl
theorem heard_mk {K : PySem.W.Frag} {mg : Str → Option Value} (D : DefAt K mg "_law_edit_heard" st__law_edit_heard ["deed"]) {l : List (Addr × String)} (hl : l.map (·.2) = heardCs) (C : HeardC K mg l) : HeardAt K mg "_law_edit_heard" "deed" "refused_one" st__law_edit_heard hds heardCs :=
  ⟨D, ⟨_, _, _, _, _, _, _, _, rfl⟩, ⟨rfl, rfl, rfl, by decide +kernel, rfl, by decide +kernel, by decide +kernel⟩, by
    show HeardHds "refused_one" [_, _, _, _, _] heardCs
    exact (.cons rfl rfl (.cons rfl rfl (.cons rfl rfl (.cons rfl rfl (.cons rfl rfl .nil))))), (by show hds ≠ []; intro z; exact absurd (show (0 : Nat) = hds.length by rw [z]; rfl) (by decide +kernel)), Or.inl rfl, rfl, by decide +kernel, by decide +kernel, l, hl, C⟩
theorem bi_law1 {kV doc pm : Value} {an : Option Addr} {cdv ct : Value} (s : Shared) (u : Value) : BindsTo s (PySem.W.fnOf "law" "law" (defArgs st_law) (defBody st_law) (defScope st_law) .none kV doc pm an cdv ct) ⟨[u], []⟩ [("script", u)] := .of_eq rfl
open PySem.W in
theorem all_mk {l : OpenLaw} {q : Program} {w : World} {K : Params → Frag} {h : Heap} {mg : Str → Option Value} {fa fI : Addr} (KX : (K w.params).In h) (G : h.Ns mainGlobals mg) (hfa : mg "law" = some (.ref fa)) (tt : TopTabs q (K w.params) h)
    (D_is_whole : DefK (K w.params) "is_whole" st_is_whole)
    (D_is_row : DefK (K w.params) "is_row" st_is_row)
    (D_is_field : DefK (K w.params) "is_field" st_is_field)
    (D_made_schema : DefK (K w.params) "made_schema" st_made_schema)
    (D_asked_kind : DefK (K w.params) "asked_kind" st_asked_kind)
    (D_held_by : DefK (K w.params) "held_by" st_held_by)
    (D_fields_of : DefK (K w.params) "fields_of" st_fields_of)
    (D_had_list : DefK (K w.params) "had_list" st_had_list)
    (D_had : DefK (K w.params) "had" st_had)
    (D_with_kind : DefK (K w.params) "with_kind" st_with_kind)
    (D_with_field : DefK (K w.params) "with_field" st_with_field)
    (D_is_order : DefK (K w.params) "is_order" st_is_order)
    (D_renamed : DefK (K w.params) "renamed" st_renamed)
    (D_kinds_beside : DefK (K w.params) "kinds_beside" st_kinds_beside)
    (D_beside : DefK (K w.params) "beside" st_beside)
    (D__law_is_whole : DefK (K w.params) "_law_is_whole" st__law_is_whole)
    (D__law_same : DefK (K w.params) "_law_same" st__law_same)
    (D__law_wv_pool : DefK (K w.params) "_law_wv_pool" st__law_wv_pool)
    (D__law_wv_take : DefK (K w.params) "_law_wv_take" st__law_wv_take)
    (D__law_wv_one : DefK (K w.params) "_law_wv_one" st__law_wv_one)
    (D__law_wv_mixed : DefK (K w.params) "_law_wv_mixed" st__law_wv_mixed)
    (D__law_wv_schema : DefK (K w.params) "_law_wv_schema" st__law_wv_schema)
    (D__law_wv_great_schema : DefK (K w.params) "_law_wv_great_schema" st__law_wv_great_schema)
    (D__law_wv_reached : DefK (K w.params) "_law_wv_reached" st__law_wv_reached)
    (D__law_wv_had : DefK (K w.params) "_law_wv_had" st__law_wv_had)
    (D__law_wf_is : DefK (K w.params) "_law_wf_is" st__law_wf_is)
    (D__law_wf_first : DefK (K w.params) "_law_wf_first" st__law_wf_first)
    (D__law_wf_kind : DefK (K w.params) "_law_wf_kind" st__law_wf_kind)
    (D__law_wf_schema : DefK (K w.params) "_law_wf_schema" st__law_wf_schema)
    (D__law_wf_order : DefK (K w.params) "_law_wf_order" st__law_wf_order)
    (D__law_is_heard : DefK (K w.params) "_law_is_heard" st__law_is_heard)
    (D__law_over : DefK (K w.params) "_law_over" st__law_over)
    (D__law_led_fields : DefK (K w.params) "_law_led_fields" st__law_led_fields)
    (D__law_renamed_by : DefK (K w.params) "_law_renamed_by" st__law_renamed_by)
    (D__law_places_beside : DefK (K w.params) "_law_places_beside" st__law_places_beside)
    (D__law_beside_by : DefK (K w.params) "_law_beside_by" st__law_beside_by)
    (D__law_any_schema : DefK (K w.params) "_law_any_schema" st__law_any_schema)
    (D__law_no_schema : DefK (K w.params) "_law_no_schema" st__law_no_schema)
    (D__law_odd_kind : DefK (K w.params) "_law_odd_kind" st__law_odd_kind)
    (D_law : DefK (K w.params) "law" st_law)
    (D__law_edit_heard : DefK (K w.params) "_law_edit_heard" st__law_edit_heard)
    {c__law_fields_right t__law_fields_right : Addr} (D__law_fields_right : DefKC (K w.params) "_law_fields_right" st__law_fields_right c__law_fields_right t__law_fields_right)
    {c__law_orders_right t__law_orders_right : Addr} (D__law_orders_right : DefKC (K w.params) "_law_orders_right" st__law_orders_right c__law_orders_right t__law_orders_right)
    {c__law_beside_right t__law_beside_right : Addr} (D__law_beside_right : DefKC (K w.params) "_law_beside_right" st__law_beside_right c__law_beside_right t__law_beside_right)
    {c__law_refused_right t__law_refused_right : Addr} (D__law_refused_right : DefKC (K w.params) "_law_refused_right" st__law_refused_right c__law_refused_right t__law_refused_right)
    (L__law_fields_right : List.lookup t__law_fields_right (K w.params) = none) (R__law_fields_right : ((recsOf q).any fun e => e.name == ("_law_fields_right" : Str)) = true)
    (L__law_orders_right : List.lookup t__law_orders_right (K w.params) = none) (R__law_orders_right : ((recsOf q).any fun e => e.name == ("_law_orders_right" : Str)) = true)
    (L__law_beside_right : List.lookup t__law_beside_right (K w.params) = none) (R__law_beside_right : ((recsOf q).any fun e => e.name == ("_law_beside_right" : Str)) = true)
    (L__law_refused_right : List.lookup t__law_refused_right (K w.params) = none) (R__law_refused_right : ((recsOf q).any fun e => e.name == ("_law_refused_right" : Str)) = true)
    (U__law_fields_right__law_orders_right : t__law_fields_right ≠ t__law_orders_right)
    (U__law_fields_right__law_beside_right : t__law_fields_right ≠ t__law_beside_right)
    (U__law_fields_right__law_refused_right : t__law_fields_right ≠ t__law_refused_right)
    (U__law_orders_right__law_beside_right : t__law_orders_right ≠ t__law_beside_right)
    (U__law_orders_right__law_refused_right : t__law_orders_right ≠ t__law_refused_right)
    (U__law_beside_right__law_refused_right : t__law_beside_right ≠ t__law_refused_right)
    (Z_ValueError : nsIn (K w.params) mainGlobals "ValueError" = some none)
    (Z_all : nsIn (K w.params) mainGlobals "all" = some none)
    (Z_bool : nsIn (K w.params) mainGlobals "bool" = some none)
    (Z_dict : nsIn (K w.params) mainGlobals "dict" = some none)
    (Z_enumerate : nsIn (K w.params) mainGlobals "enumerate" = some none)
    (Z_int : nsIn (K w.params) mainGlobals "int" = some none)
    (Z_isinstance : nsIn (K w.params) mainGlobals "isinstance" = some none)
    (Z_len : nsIn (K w.params) mainGlobals "len" = some none)
    (Z_list : nsIn (K w.params) mainGlobals "list" = some none)
    (Z_max : nsIn (K w.params) mainGlobals "max" = some none)
    (Z_range : nsIn (K w.params) mainGlobals "range" = some none)
    (Z_sorted : nsIn (K w.params) mainGlobals "sorted" = some none)
    (Z_str : nsIn (K w.params) mainGlobals "str" = some none)
    (Z_tuple : nsIn (K w.params) mainGlobals "tuple" = some none)
    (Z_zip : nsIn (K w.params) mainGlobals "zip" = some none)
    {i_MOST_FIELDS : Tok} (G_MOST_FIELDS : nsIn (K w.params) mainGlobals "MOST_FIELDS" = some (some (.int 40 i_MOST_FIELDS)))
    {i_MOST_HANDS : Tok} (G_MOST_HANDS : nsIn (K w.params) mainGlobals "MOST_HANDS" = some (some (.int 6 i_MOST_HANDS)))
    {i_MOST_KINDS : Tok} (G_MOST_KINDS : nsIn (K w.params) mainGlobals "MOST_KINDS" = some (some (.int 24 i_MOST_KINDS)))
    {C_BadKind : Addr} (E_BadKind : ErrK (K w.params) "BadKind" C_BadKind) (I_BadKind : findIn (K w.params) (.ref C_BadKind) "__init__" = some (some (.ref fI)))
    {C_BadOrder : Addr} (E_BadOrder : ErrK (K w.params) "BadOrder" C_BadOrder) (I_BadOrder : findIn (K w.params) (.ref C_BadOrder) "__init__" = some (some (.ref fI)))
    {C_BadSchema : Addr} (E_BadSchema : ErrK (K w.params) "BadSchema" C_BadSchema) (I_BadSchema : findIn (K w.params) (.ref C_BadSchema) "__init__" = some (some (.ref fI)))
    {C_NotThing : Addr} (E_NotThing : ErrK (K w.params) "NotThing" C_NotThing) (I_NotThing : findIn (K w.params) (.ref C_NotThing) "__init__" = some (some (.ref fI)))
    {C_TooMany : Addr} (E_TooMany : ErrK (K w.params) "TooMany" C_TooMany) (I_TooMany : findIn (K w.params) (.ref C_TooMany) "__init__" = some (some (.ref fI)))
    (S_BadSchema_BadSchema : subIn (K w.params) (.ref C_BadSchema) (.ref C_BadSchema) = some true)
    (S_BadSchema_BadKind : subIn (K w.params) (.ref C_BadSchema) (.ref C_BadKind) = some false)
    (S_BadSchema_BadOrder : subIn (K w.params) (.ref C_BadSchema) (.ref C_BadOrder) = some false)
    (S_BadSchema_NotThing : subIn (K w.params) (.ref C_BadSchema) (.ref C_NotThing) = some false)
    (S_BadSchema_TooMany : subIn (K w.params) (.ref C_BadSchema) (.ref C_TooMany) = some false)
    (S_BadKind_BadSchema : subIn (K w.params) (.ref C_BadKind) (.ref C_BadSchema) = some false)
    (S_BadKind_BadKind : subIn (K w.params) (.ref C_BadKind) (.ref C_BadKind) = some true)
    (S_BadKind_BadOrder : subIn (K w.params) (.ref C_BadKind) (.ref C_BadOrder) = some false)
    (S_BadKind_NotThing : subIn (K w.params) (.ref C_BadKind) (.ref C_NotThing) = some false)
    (S_BadKind_TooMany : subIn (K w.params) (.ref C_BadKind) (.ref C_TooMany) = some false)
    (S_BadOrder_BadSchema : subIn (K w.params) (.ref C_BadOrder) (.ref C_BadSchema) = some false)
    (S_BadOrder_BadKind : subIn (K w.params) (.ref C_BadOrder) (.ref C_BadKind) = some false)
    (S_BadOrder_BadOrder : subIn (K w.params) (.ref C_BadOrder) (.ref C_BadOrder) = some true)
    (S_BadOrder_NotThing : subIn (K w.params) (.ref C_BadOrder) (.ref C_NotThing) = some false)
    (S_BadOrder_TooMany : subIn (K w.params) (.ref C_BadOrder) (.ref C_TooMany) = some false)
    (S_NotThing_BadSchema : subIn (K w.params) (.ref C_NotThing) (.ref C_BadSchema) = some false)
    (S_NotThing_BadKind : subIn (K w.params) (.ref C_NotThing) (.ref C_BadKind) = some false)
    (S_NotThing_BadOrder : subIn (K w.params) (.ref C_NotThing) (.ref C_BadOrder) = some false)
    (S_NotThing_NotThing : subIn (K w.params) (.ref C_NotThing) (.ref C_NotThing) = some true)
    (S_NotThing_TooMany : subIn (K w.params) (.ref C_NotThing) (.ref C_TooMany) = some false)
    (S_TooMany_BadSchema : subIn (K w.params) (.ref C_TooMany) (.ref C_BadSchema) = some false)
    (S_TooMany_BadKind : subIn (K w.params) (.ref C_TooMany) (.ref C_BadKind) = some false)
    (S_TooMany_BadOrder : subIn (K w.params) (.ref C_TooMany) (.ref C_BadOrder) = some false)
    (S_TooMany_NotThing : subIn (K w.params) (.ref C_TooMany) (.ref C_NotThing) = some false)
    (S_TooMany_TooMany : subIn (K w.params) (.ref C_TooMany) (.ref C_TooMany) = some true)
    {oc : Value} {od : Option Addr} {kV dc pm : Value} {an : Option Addr} {cd ct : Value} {sl : Array (Option Value)} (l0 : List.lookup fI (K w.params) = some ⟨oc, od, .func (fnOf "__init__" "Refused.__init__" (defArgs st_init) (defBody st_init) (defScope st_init) .none kV dc pm an cd ct), sl⟩) (c0 : codeIn (K w.params) cd "Refused.__init__" = true) (k0 : keepIn (K w.params) (.ref fI) = true) (vV : findCls (K w.params) (.type "ValueError") (.type "type") "__init__" = some (.val (.builtin "ValueError.__init__"))) : LawAtS l w (K w.params) (L2.CX l.prog w) 17 63 "script" mg fa h := by
  obtain ⟨f, oc1, od1, kV1, dc1, pm1, an1, cd1, ct1, sl1, a1, l1, c1, k1⟩ := D_law.ex
  have e := hfa.symm.trans (mg_of KX G a1)
  cases e
  have FL := fun_mk (st := st_law) l1 c1 k1
  have H__law_fields_right := tt "_law_fields_right" c__law_fields_right t__law_fields_right R__law_fields_right D__law_fields_right.tab
  have H__law_orders_right := tt "_law_orders_right" c__law_orders_right t__law_orders_right R__law_orders_right D__law_orders_right.tab
  have H__law_beside_right := tt "_law_beside_right" c__law_beside_right t__law_beside_right R__law_beside_right D__law_beside_right.tab
  have H__law_refused_right := tt "_law_refused_right" c__law_refused_right t__law_refused_right R__law_refused_right D__law_refused_right.tab
  refine law_at (n := 63) (cs := [(c__law_fields_right, t__law_fields_right), (c__law_orders_right, t__law_orders_right), (c__law_beside_right, t__law_beside_right), (c__law_refused_right, t__law_refused_right)]) (T := (Tabl t__law_fields_right t__law_orders_right t__law_beside_right t__law_refused_right)) (Fl := F_law) (fd := fnOf "law" "law" (defArgs st_law) (defBody st_law) (defScope st_law) .none kV1 dc1 pm1 an1 cd1 ct1) (by decide) ?_ ?_ ?_ bi_law1 pure_law fun base KB GB TB => ?_
  · intro p hp
    simp only [List.mem_cons, List.not_mem_nil, or_false] at hp
    rcases hp with rfl | rfl | rfl | rfl
    · exact H__law_fields_right
    · exact H__law_orders_right
    · exact H__law_beside_right
    · exact H__law_refused_right
  · intro p hp
    simp only [List.mem_cons, List.not_mem_nil, or_false] at hp
    rcases hp with rfl | rfl | rfl | rfl
    · exact L__law_fields_right
    · exact L__law_orders_right
    · exact L__law_beside_right
    · exact L__law_refused_right
  · intro t ht
    simp only [Tabl, List.mem_cons, List.not_mem_nil, or_false] at ht
    rcases ht with rfl | rfl | rfl | rfl
    · exact ⟨(c__law_fields_right, t__law_fields_right), by simp, rfl⟩
    · exact ⟨(c__law_orders_right, t__law_orders_right), by simp, rfl⟩
    · exact ⟨(c__law_beside_right, t__law_beside_right), by simp, rfl⟩
    · exact ⟨(c__law_refused_right, t__law_refused_right), by simp, rfl⟩
  have hv : mg "ValueError" = none := mg_none_of KX G Z_ValueError
  have II : ∃ fd : FuncData, L2.Binds (K w.params) fd ["self", "what"] [] ∧ FnOk l.prog w (K w.params) mg base CX0 1 fI fd ["self", "what"] (spRef (K w.params)) := init_all l0 c0 k0 hv vV
  have X_BadKind : ExcAt l.prog w (K w.params) mg base "BadKind" := E_BadKind.exc KX G fun f i => by
    have z := I_BadKind.symm.trans i
    cases z
    exact II
  have X_BadOrder : ExcAt l.prog w (K w.params) mg base "BadOrder" := E_BadOrder.exc KX G fun f i => by
    have z := I_BadOrder.symm.trans i
    cases z
    exact II
  have X_BadSchema : ExcAt l.prog w (K w.params) mg base "BadSchema" := E_BadSchema.exc KX G fun f i => by
    have z := I_BadSchema.symm.trans i
    cases z
    exact II
  have X_NotThing : ExcAt l.prog w (K w.params) mg base "NotThing" := E_NotThing.exc KX G fun f i => by
    have z := I_NotThing.symm.trans i
    cases z
    exact II
  have X_TooMany : ExcAt l.prog w (K w.params) mg base "TooMany" := E_TooMany.exc KX G fun f i => by
    have z := I_TooMany.symm.trans i
    cases z
    exact II
  have HC : HeardC (K w.params) mg [(C_BadSchema, "BadSchema"), (C_BadKind, "BadKind"), (C_BadOrder, "BadOrder"), (C_NotThing, "NotThing"), (C_TooMany, "TooMany")] := heardC KX G (by
    intro p hp
    simp only [List.mem_cons, List.not_mem_nil, or_false] at hp
    rcases hp with rfl | rfl | rfl | rfl | rfl
    · exact E_BadSchema
    · exact E_BadKind
    · exact E_BadOrder
    · exact E_NotThing
    · exact E_TooMany) (by
    intro p hp r hr
    simp only [List.mem_cons, List.not_mem_nil, or_false] at hp hr
    rcases hp with rfl | rfl | rfl | rfl | rfl
    · rcases hr with rfl | rfl | rfl | rfl | rfl
      · exact S_BadSchema_BadSchema
      · exact S_BadSchema_BadKind
      · exact S_BadSchema_BadOrder
      · exact S_BadSchema_NotThing
      · exact S_BadSchema_TooMany
    · rcases hr with rfl | rfl | rfl | rfl | rfl
      · exact S_BadKind_BadSchema
      · exact S_BadKind_BadKind
      · exact S_BadKind_BadOrder
      · exact S_BadKind_NotThing
      · exact S_BadKind_TooMany
    · rcases hr with rfl | rfl | rfl | rfl | rfl
      · exact S_BadOrder_BadSchema
      · exact S_BadOrder_BadKind
      · exact S_BadOrder_BadOrder
      · exact S_BadOrder_NotThing
      · exact S_BadOrder_TooMany
    · rcases hr with rfl | rfl | rfl | rfl | rfl
      · exact S_NotThing_BadSchema
      · exact S_NotThing_BadKind
      · exact S_NotThing_BadOrder
      · exact S_NotThing_NotThing
      · exact S_NotThing_TooMany
    · rcases hr with rfl | rfl | rfl | rfl | rfl
      · exact S_TooMany_BadSchema
      · exact S_TooMany_BadKind
      · exact S_TooMany_BadOrder
      · exact S_TooMany_NotThing
      · exact S_TooMany_TooMany)
  have Tx : Txt l.prog w (K w.params) mg base c__law_fields_right t__law_fields_right c__law_orders_right t__law_orders_right c__law_beside_right t__law_beside_right c__law_refused_right t__law_refused_right := {
    d_is_whole := D_is_whole.at KX G bi_is_whole
    d_is_row := D_is_row.at KX G bi_is_row
    d_is_field := D_is_field.at KX G bi_is_field
    d_made_schema := D_made_schema.at KX G bi_made_schema
    d_asked_kind := D_asked_kind.at KX G bi_asked_kind
    d_held_by := D_held_by.at KX G bi_held_by
    d_fields_of := D_fields_of.at KX G bi_fields_of
    d_had_list := D_had_list.at KX G bi_had_list
    d_had := D_had.at KX G bi_had
    d_with_kind := D_with_kind.at KX G bi_with_kind
    d_with_field := D_with_field.at KX G bi_with_field
    d_is_order := D_is_order.at KX G bi_is_order
    d_renamed := D_renamed.at KX G bi_renamed
    d_kinds_beside := D_kinds_beside.at KX G bi_kinds_beside
    d_beside := D_beside.at KX G bi_beside
    d__law_is_whole := D__law_is_whole.at KX G bi__law_is_whole
    d__law_same := D__law_same.at KX G bi__law_same
    d__law_wv_pool := D__law_wv_pool.at KX G bi__law_wv_pool
    d__law_wv_take := D__law_wv_take.at KX G bi__law_wv_take
    d__law_wv_one := D__law_wv_one.at KX G bi__law_wv_one
    d__law_wv_mixed := D__law_wv_mixed.at KX G bi__law_wv_mixed
    d__law_wv_schema := D__law_wv_schema.at KX G bi__law_wv_schema
    d__law_wv_great_schema := D__law_wv_great_schema.at KX G bi__law_wv_great_schema
    d__law_wv_reached := D__law_wv_reached.at KX G bi__law_wv_reached
    d__law_wv_had := D__law_wv_had.at KX G bi__law_wv_had
    d__law_wf_is := D__law_wf_is.at KX G bi__law_wf_is
    d__law_wf_first := D__law_wf_first.at KX G bi__law_wf_first
    d__law_wf_kind := D__law_wf_kind.at KX G bi__law_wf_kind
    d__law_wf_schema := D__law_wf_schema.at KX G bi__law_wf_schema
    d__law_wf_order := D__law_wf_order.at KX G bi__law_wf_order
    d__law_is_heard := D__law_is_heard.at KX G bi__law_is_heard
    d__law_over := D__law_over.at KX G bi__law_over
    d__law_led_fields := D__law_led_fields.at KX G bi__law_led_fields
    d__law_renamed_by := D__law_renamed_by.at KX G bi__law_renamed_by
    d__law_places_beside := D__law_places_beside.at KX G bi__law_places_beside
    d__law_beside_by := D__law_beside_by.at KX G bi__law_beside_by
    d__law_any_schema := D__law_any_schema.at KX G bi__law_any_schema
    d__law_no_schema := D__law_no_schema.at KX G bi__law_no_schema
    d__law_odd_kind := D__law_odd_kind.at KX G bi__law_odd_kind
    d__law_fields_right := D__law_fields_right.at KX G bi__law_fields_right
    d__law_orders_right := D__law_orders_right.at KX G bi__law_orders_right
    d__law_beside_right := D__law_beside_right.at KX G bi__law_beside_right
    d__law_refused_right := D__law_refused_right.at KX G bi__law_refused_right
    d_law := D_law.at KX G bi_law
    n_all := mg_none_of KX G Z_all
    n_bool := mg_none_of KX G Z_bool
    n_dict := mg_none_of KX G Z_dict
    n_enumerate := mg_none_of KX G Z_enumerate
    n_int := mg_none_of KX G Z_int
    n_isinstance := mg_none_of KX G Z_isinstance
    n_len := mg_none_of KX G Z_len
    n_list := mg_none_of KX G Z_list
    n_max := mg_none_of KX G Z_max
    n_range := mg_none_of KX G Z_range
    n_sorted := mg_none_of KX G Z_sorted
    n_str := mg_none_of KX G Z_str
    n_tuple := mg_none_of KX G Z_tuple
    n_zip := mg_none_of KX G Z_zip
    c_MOST_FIELDS := ⟨_, mg_of KX G G_MOST_FIELDS⟩
    c_MOST_HANDS := ⟨_, mg_of KX G G_MOST_HANDS⟩
    c_MOST_KINDS := ⟨_, mg_of KX G G_MOST_KINDS⟩
    e_BadKind := X_BadKind
    e_BadOrder := X_BadOrder
    e_BadSchema := X_BadSchema
    e_NotThing := X_NotThing
    e_TooMany := X_TooMany
    heard := heard_mk (D__law_edit_heard.at KX G bi__law_edit_heard) (l := [(C_BadSchema, "BadSchema"), (C_BadKind, "BadKind"), (C_BadOrder, "BadOrder"), (C_NotThing, "NotThing"), (C_TooMany, "TooMany")]) rfl HC
    b__law_fields_right := TB (c__law_fields_right, t__law_fields_right) (by simp)
    b__law_orders_right := TB (c__law_orders_right, t__law_orders_right) (by simp)
    b__law_beside_right := TB (c__law_beside_right, t__law_beside_right) (by simp)
    b__law_refused_right := TB (c__law_refused_right, t__law_refused_right) (by simp)
    u__law_fields_right__law_orders_right := U__law_fields_right__law_orders_right
    u__law_fields_right__law_beside_right := U__law_fields_right__law_beside_right
    u__law_fields_right__law_refused_right := U__law_fields_right__law_refused_right
    u__law_orders_right__law_beside_right := U__law_orders_right__law_beside_right
    u__law_orders_right__law_refused_right := U__law_orders_right__law_refused_right
    u__law_beside_right__law_refused_right := U__law_beside_right__law_refused_right }
  exact fn_law Tx FL
end WkL


open PySem PySem.W PyProof.Rows in
set_option maxRecDepth 100000 in
set_option maxHeartbeats 0 in
theorem PySem.Challenge.cw_wovenkeep_k04_schemas_edited_and_put_bes_holds : PySem.Challenge.rw_wovenkeep_k04_schemas_edited_and_put_bes.Holds := by
  w_on; o_law; k_head; (case hw => w_witness2)
  k_fill
  refine Wk.walk_ofTop (l := PySem.Challenge.rw_wovenkeep_k04_schemas_edited_and_put_bes) (n := 63) (k := 17) (x := "script") (CX := fun w => L2.CX (PySem.Challenge.rw_wovenkeep_k04_schemas_edited_and_put_bes).prog w) rfl (by decide) rfl ⟨rfl, by decide, by decide⟩ (fun w h Y => by first | exact PySem.W.km_in_of Y | exact PySem.W.kIn_of Y) ?F ?C
  case C =>
    intro w H s e s1 z
    obtain ⟨_, _, _, _, _, _, _, _, _, _, _, _, z⟩ := z
    exact z
  case F =>
    intro w mg fa h KX G hmg tt
    refine' WkL.all_mk KX G hmg tt ?D_is_whole ?D_is_row ?D_is_field ?D_made_schema ?D_asked_kind ?D_held_by ?D_fields_of ?D_had_list ?D_had ?D_with_kind ?D_with_field ?D_is_order ?D_renamed ?D_kinds_beside ?D_beside ?D__law_is_whole ?D__law_same ?D__law_wv_pool ?D__law_wv_take ?D__law_wv_one ?D__law_wv_mixed ?D__law_wv_schema ?D__law_wv_great_schema ?D__law_wv_reached ?D__law_wv_had ?D__law_wf_is ?D__law_wf_first ?D__law_wf_kind ?D__law_wf_schema ?D__law_wf_order ?D__law_is_heard ?D__law_over ?D__law_led_fields ?D__law_renamed_by ?D__law_places_beside ?D__law_beside_by ?D__law_any_schema ?D__law_no_schema ?D__law_odd_kind ?D_law ?D__law_edit_heard ?D__law_fields_right ?D__law_orders_right ?D__law_beside_right ?D__law_refused_right ?L__law_fields_right ?R__law_fields_right ?L__law_orders_right ?R__law_orders_right ?L__law_beside_right ?R__law_beside_right ?L__law_refused_right ?R__law_refused_right ?U__law_fields_right__law_orders_right ?U__law_fields_right__law_beside_right ?U__law_fields_right__law_refused_right ?U__law_orders_right__law_beside_right ?U__law_orders_right__law_refused_right ?U__law_beside_right__law_refused_right ?Z_ValueError ?Z_all ?Z_bool ?Z_dict ?Z_enumerate ?Z_int ?Z_isinstance ?Z_len ?Z_list ?Z_max ?Z_range ?Z_sorted ?Z_str ?Z_tuple ?Z_zip ?G_MOST_FIELDS ?G_MOST_HANDS ?G_MOST_KINDS ?E_BadKind ?I_BadKind ?E_BadOrder ?I_BadOrder ?E_BadSchema ?I_BadSchema ?E_NotThing ?I_NotThing ?E_TooMany ?I_TooMany ?S_BadSchema_BadSchema ?S_BadSchema_BadKind ?S_BadSchema_BadOrder ?S_BadSchema_NotThing ?S_BadSchema_TooMany ?S_BadKind_BadSchema ?S_BadKind_BadKind ?S_BadKind_BadOrder ?S_BadKind_NotThing ?S_BadKind_TooMany ?S_BadOrder_BadSchema ?S_BadOrder_BadKind ?S_BadOrder_BadOrder ?S_BadOrder_NotThing ?S_BadOrder_TooMany ?S_NotThing_BadSchema ?S_NotThing_BadKind ?S_NotThing_BadOrder ?S_NotThing_NotThing ?S_NotThing_TooMany ?S_TooMany_BadSchema ?S_TooMany_BadKind ?S_TooMany_BadOrder ?S_TooMany_NotThing ?S_TooMany_TooMany ?l0 ?c0 ?k0 ?vV
    (case D_is_whole => refine' Wk.defK ?a ?l ?c ?k; (case a => k_is); (case l => k_is); (case c => k_is); (case k => k_is))
    (case D_is_row => refine' Wk.defK ?a ?l ?c ?k; (case a => k_is); (case l => k_is); (case c => k_is); (case k => k_is))
    (case D_is_field => refine' Wk.defK ?a ?l ?c ?k; (case a => k_is); (case l => k_is); (case c => k_is); (case k => k_is))
    (case D_made_schema => refine' Wk.defK ?a ?l ?c ?k; (case a => k_is); (case l => k_is); (case c => k_is); (case k => k_is))
    (case D_asked_kind => refine' Wk.defK ?a ?l ?c ?k; (case a => k_is); (case l => k_is); (case c => k_is); (case k => k_is))
    (case D_held_by => refine' Wk.defK ?a ?l ?c ?k; (case a => k_is); (case l => k_is); (case c => k_is); (case k => k_is))
    (case D_fields_of => refine' Wk.defK ?a ?l ?c ?k; (case a => k_is); (case l => k_is); (case c => k_is); (case k => k_is))
    (case D_had_list => refine' Wk.defK ?a ?l ?c ?k; (case a => k_is); (case l => k_is); (case c => k_is); (case k => k_is))
    (case D_had => refine' Wk.defK ?a ?l ?c ?k; (case a => k_is); (case l => k_is); (case c => k_is); (case k => k_is))
    (case D_with_kind => refine' Wk.defK ?a ?l ?c ?k; (case a => k_is); (case l => k_is); (case c => k_is); (case k => k_is))
    (case D_with_field => refine' Wk.defK ?a ?l ?c ?k; (case a => k_is); (case l => k_is); (case c => k_is); (case k => k_is))
    (case D_is_order => refine' Wk.defK ?a ?l ?c ?k; (case a => k_is); (case l => k_is); (case c => k_is); (case k => k_is))
    (case D_renamed => refine' Wk.defK ?a ?l ?c ?k; (case a => k_is); (case l => k_is); (case c => k_is); (case k => k_is))
    (case D_kinds_beside => refine' Wk.defK ?a ?l ?c ?k; (case a => k_is); (case l => k_is); (case c => k_is); (case k => k_is))
    (case D_beside => refine' Wk.defK ?a ?l ?c ?k; (case a => k_is); (case l => k_is); (case c => k_is); (case k => k_is))
    (case D__law_is_whole => refine' Wk.defK ?a ?l ?c ?k; (case a => k_is); (case l => k_is); (case c => k_is); (case k => k_is))
    (case D__law_same => refine' Wk.defK ?a ?l ?c ?k; (case a => k_is); (case l => k_is); (case c => k_is); (case k => k_is))
    (case D__law_wv_pool => refine' Wk.defK ?a ?l ?c ?k; (case a => k_is); (case l => k_is); (case c => k_is); (case k => k_is))
    (case D__law_wv_take => refine' Wk.defK ?a ?l ?c ?k; (case a => k_is); (case l => k_is); (case c => k_is); (case k => k_is))
    (case D__law_wv_one => refine' Wk.defK ?a ?l ?c ?k; (case a => k_is); (case l => k_is); (case c => k_is); (case k => k_is))
    (case D__law_wv_mixed => refine' Wk.defK ?a ?l ?c ?k; (case a => k_is); (case l => k_is); (case c => k_is); (case k => k_is))
    (case D__law_wv_schema => refine' Wk.defK ?a ?l ?c ?k; (case a => k_is); (case l => k_is); (case c => k_is); (case k => k_is))
    (case D__law_wv_great_schema => refine' Wk.defK ?a ?l ?c ?k; (case a => k_is); (case l => k_is); (case c => k_is); (case k => k_is))
    (case D__law_wv_reached => refine' Wk.defK ?a ?l ?c ?k; (case a => k_is); (case l => k_is); (case c => k_is); (case k => k_is))
    (case D__law_wv_had => refine' Wk.defK ?a ?l ?c ?k; (case a => k_is); (case l => k_is); (case c => k_is); (case k => k_is))
    (case D__law_wf_is => refine' Wk.defK ?a ?l ?c ?k; (case a => k_is); (case l => k_is); (case c => k_is); (case k => k_is))
    (case D__law_wf_first => refine' Wk.defK ?a ?l ?c ?k; (case a => k_is); (case l => k_is); (case c => k_is); (case k => k_is))
    (case D__law_wf_kind => refine' Wk.defK ?a ?l ?c ?k; (case a => k_is); (case l => k_is); (case c => k_is); (case k => k_is))
    (case D__law_wf_schema => refine' Wk.defK ?a ?l ?c ?k; (case a => k_is); (case l => k_is); (case c => k_is); (case k => k_is))
    (case D__law_wf_order => refine' Wk.defK ?a ?l ?c ?k; (case a => k_is); (case l => k_is); (case c => k_is); (case k => k_is))
    (case D__law_is_heard => refine' Wk.defK ?a ?l ?c ?k; (case a => k_is); (case l => k_is); (case c => k_is); (case k => k_is))
    (case D__law_over => refine' Wk.defK ?a ?l ?c ?k; (case a => k_is); (case l => k_is); (case c => k_is); (case k => k_is))
    (case D__law_led_fields => refine' Wk.defK ?a ?l ?c ?k; (case a => k_is); (case l => k_is); (case c => k_is); (case k => k_is))
    (case D__law_renamed_by => refine' Wk.defK ?a ?l ?c ?k; (case a => k_is); (case l => k_is); (case c => k_is); (case k => k_is))
    (case D__law_places_beside => refine' Wk.defK ?a ?l ?c ?k; (case a => k_is); (case l => k_is); (case c => k_is); (case k => k_is))
    (case D__law_beside_by => refine' Wk.defK ?a ?l ?c ?k; (case a => k_is); (case l => k_is); (case c => k_is); (case k => k_is))
    (case D__law_any_schema => refine' Wk.defK ?a ?l ?c ?k; (case a => k_is); (case l => k_is); (case c => k_is); (case k => k_is))
    (case D__law_no_schema => refine' Wk.defK ?a ?l ?c ?k; (case a => k_is); (case l => k_is); (case c => k_is); (case k => k_is))
    (case D__law_odd_kind => refine' Wk.defK ?a ?l ?c ?k; (case a => k_is); (case l => k_is); (case c => k_is); (case k => k_is))
    (case D_law => refine' Wk.defK ?a ?l ?c ?k; (case a => k_is); (case l => k_is); (case c => k_is); (case k => k_is))
    (case D__law_edit_heard => refine' Wk.defK ?a ?l ?c ?k; (case a => k_is); (case l => k_is); (case c => k_is); (case k => k_is))
    (case D__law_fields_right => refine' Wk.defKC ?a ?l ?c ?k ?t ?v; (case a => k_is); (case l => k_is); (case c => k_is); (case k => k_is); (case t => k_is); (case v => rfl))
    (case D__law_orders_right => refine' Wk.defKC ?a ?l ?c ?k ?t ?v; (case a => k_is); (case l => k_is); (case c => k_is); (case k => k_is); (case t => k_is); (case v => rfl))
    (case D__law_beside_right => refine' Wk.defKC ?a ?l ?c ?k ?t ?v; (case a => k_is); (case l => k_is); (case c => k_is); (case k => k_is); (case t => k_is); (case v => rfl))
    (case D__law_refused_right => refine' Wk.defKC ?a ?l ?c ?k ?t ?v; (case a => k_is); (case l => k_is); (case c => k_is); (case k => k_is); (case t => k_is); (case v => rfl))
    (case L__law_fields_right => rfl)
    (case R__law_fields_right => first | rfl | decide +kernel)
    (case L__law_orders_right => rfl)
    (case R__law_orders_right => first | rfl | decide +kernel)
    (case L__law_beside_right => rfl)
    (case R__law_beside_right => first | rfl | decide +kernel)
    (case L__law_refused_right => rfl)
    (case R__law_refused_right => first | rfl | decide +kernel)
    (case U__law_fields_right__law_orders_right => decide)
    (case U__law_fields_right__law_beside_right => decide)
    (case U__law_fields_right__law_refused_right => decide)
    (case U__law_orders_right__law_beside_right => decide)
    (case U__law_orders_right__law_refused_right => decide)
    (case U__law_beside_right__law_refused_right => decide)
    (case Z_ValueError => k_is)
    (case Z_all => k_is)
    (case Z_bool => k_is)
    (case Z_dict => k_is)
    (case Z_enumerate => k_is)
    (case Z_int => k_is)
    (case Z_isinstance => k_is)
    (case Z_len => k_is)
    (case Z_list => k_is)
    (case Z_max => k_is)
    (case Z_range => k_is)
    (case Z_sorted => k_is)
    (case Z_str => k_is)
    (case Z_tuple => k_is)
    (case Z_zip => k_is)
    (case G_MOST_FIELDS => k_is)
    (case G_MOST_HANDS => k_is)
    (case G_MOST_KINDS => k_is)
    (case E_BadKind => refine' Wk.errK ?a ?xL ?sa ?ga ?gg ?nw ?eC ?tC ?kC ?hd ?ic ?i1 ?i2; (case a => k_is); (case xL => k_is); (case sa => k_is); (case ga => k_is); (case gg => k_is); (case nw => k_is); (case eC => k_is); (case tC => k_is); (case kC => k_is); (case hd => k_is); (case ic => k_is); (case i1 => k_is); (case i2 => k_is))
    (case I_BadKind => k_is)
    (case E_BadOrder => refine' Wk.errK ?a ?xL ?sa ?ga ?gg ?nw ?eC ?tC ?kC ?hd ?ic ?i1 ?i2; (case a => k_is); (case xL => k_is); (case sa => k_is); (case ga => k_is); (case gg => k_is); (case nw => k_is); (case eC => k_is); (case tC => k_is); (case kC => k_is); (case hd => k_is); (case ic => k_is); (case i1 => k_is); (case i2 => k_is))
    (case I_BadOrder => k_is)
    (case E_BadSchema => refine' Wk.errK ?a ?xL ?sa ?ga ?gg ?nw ?eC ?tC ?kC ?hd ?ic ?i1 ?i2; (case a => k_is); (case xL => k_is); (case sa => k_is); (case ga => k_is); (case gg => k_is); (case nw => k_is); (case eC => k_is); (case tC => k_is); (case kC => k_is); (case hd => k_is); (case ic => k_is); (case i1 => k_is); (case i2 => k_is))
    (case I_BadSchema => k_is)
    (case E_NotThing => refine' Wk.errK ?a ?xL ?sa ?ga ?gg ?nw ?eC ?tC ?kC ?hd ?ic ?i1 ?i2; (case a => k_is); (case xL => k_is); (case sa => k_is); (case ga => k_is); (case gg => k_is); (case nw => k_is); (case eC => k_is); (case tC => k_is); (case kC => k_is); (case hd => k_is); (case ic => k_is); (case i1 => k_is); (case i2 => k_is))
    (case I_NotThing => k_is)
    (case E_TooMany => refine' Wk.errK ?a ?xL ?sa ?ga ?gg ?nw ?eC ?tC ?kC ?hd ?ic ?i1 ?i2; (case a => k_is); (case xL => k_is); (case sa => k_is); (case ga => k_is); (case gg => k_is); (case nw => k_is); (case eC => k_is); (case tC => k_is); (case kC => k_is); (case hd => k_is); (case ic => k_is); (case i1 => k_is); (case i2 => k_is))
    (case I_TooMany => k_is)
    (case S_BadSchema_BadSchema => k_is)
    (case S_BadSchema_BadKind => k_is)
    (case S_BadSchema_BadOrder => k_is)
    (case S_BadSchema_NotThing => k_is)
    (case S_BadSchema_TooMany => k_is)
    (case S_BadKind_BadSchema => k_is)
    (case S_BadKind_BadKind => k_is)
    (case S_BadKind_BadOrder => k_is)
    (case S_BadKind_NotThing => k_is)
    (case S_BadKind_TooMany => k_is)
    (case S_BadOrder_BadSchema => k_is)
    (case S_BadOrder_BadKind => k_is)
    (case S_BadOrder_BadOrder => k_is)
    (case S_BadOrder_NotThing => k_is)
    (case S_BadOrder_TooMany => k_is)
    (case S_NotThing_BadSchema => k_is)
    (case S_NotThing_BadKind => k_is)
    (case S_NotThing_BadOrder => k_is)
    (case S_NotThing_NotThing => k_is)
    (case S_NotThing_TooMany => k_is)
    (case S_TooMany_BadSchema => k_is)
    (case S_TooMany_BadKind => k_is)
    (case S_TooMany_BadOrder => k_is)
    (case S_TooMany_NotThing => k_is)
    (case S_TooMany_TooMany => k_is)
    (case l0 => k_is)
    (case c0 => k_is)
    (case k0 => k_is)
    (case vV => k_is)


