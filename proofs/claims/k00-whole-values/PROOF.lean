import PyProof.Rows.All
import Wide.All
import OpenK.AllK
import Wide.FinOn
import HandS.ForMost
import HandS.ForExc
import HandS.IsInst
import HandS.Wide
import HandS.TupLe
import HandS.ExcIs
import HandS.ExcField
import HandS.CallSlots
import HandS.StrMore
import HandS.Deep
import HandS.Flow
import HandS.Replace
import HandS.DictTup
import KE.LtData
import PySem.Challenge.RW_cellsmeant_k00_whole_values
set_option Elab.async false
set_option linter.all false
set_option maxRecDepth 100000
set_option maxHeartbeats 4000000
set_option exponentiation.threshold 5000
/-! # Mi1: a small Python as a pure function. Tuples by value, what may change in a store by index. -/
namespace Mi
open PySem

/-- a value -/
inductive D where
  | non | bl (b : Bool) | int (i : Int) | str (s : List Nat) | tup (ds : List D) | frz (ds : List D) | ref (i : Nat) | exc (c : Nat) (vs : List D)
/-- what stands in the store -/
inductive MO where
  | lst (xs : List D) | dct (kvs : List (D × D)) | ins (c : Nat) (fs : List (Nat × D)) | frz (o : MO)
abbrev St := List MO
abbrev Env := List (Option D)

mutual
def D.beq : D → D → Bool
  | .non, .non => true
  | .bl a, .bl b => a == b
  | .int a, .int b => a == b
  | .str a, .str b => a == b
  | .tup a, .tup b => D.beqs a b
  | .frz a, .frz b => D.beqs a b
  | .ref a, .ref b => a == b
  | .exc c a, .exc e b => c == e && D.beqs a b
  | _, _ => false
def D.beqs : List D → List D → Bool
  | [], [] => true
  | x :: xs, y :: ys => D.beq x y && D.beqs xs ys
  | _, _ => false
end
mutual
theorem D.beq_iff : ∀ (a b : D), D.beq a b = true ↔ a = b := by
  intro a b
  cases a with
  | tup xs => cases b <;> simp [D.beq, D.beqs_iff xs]
  | frz xs => cases b <;> simp [D.beq, D.beqs_iff xs]
  | exc c xs => cases b <;> simp [D.beq, D.beqs_iff xs]
  | _ => cases b <;> simp [D.beq]
theorem D.beqs_iff : ∀ (a b : List D), D.beqs a b = true ↔ a = b := by
  intro a b
  cases a with
  | nil => cases b <;> simp [D.beqs]
  | cons x xs => cases b <;> simp [D.beqs, D.beq_iff x, D.beqs_iff xs]
end
instance : DecidableEq D := fun a b => if h : D.beq a b = true then isTrue ((D.beq_iff a b).mp h) else isFalse fun e => h ((D.beq_iff a b).mpr e)
def MO.beq : MO → MO → Bool
  | .lst a, .lst b => decide (a = b)
  | .dct a, .dct b => decide (a = b)
  | .ins c a, .ins e b => c == e && decide (a = b)
  | .frz a, .frz b => MO.beq a b
  | _, _ => false
theorem MO.beq_iff : ∀ (a b : MO), MO.beq a b = true ↔ a = b := by
  intro a
  induction a with
  | frz o ih => intro b; cases b <;> simp [MO.beq, ih]
  | _ => intro b; cases b <;> simp [MO.beq]
instance : DecidableEq MO := fun a b => if h : MO.beq a b = true then isTrue ((MO.beq_iff a b).mp h) else isFalse fun e => h ((MO.beq_iff a b).mpr e)

/-! ### what a value leans on -/
mutual
def D.under (n : Nat) : D → Bool
  | .tup ds => D.unders n ds
  | .frz ds => D.unders n ds
  | .ref i => decide (i < n)
  | .exc _ vs => D.unders n vs
  | _ => true
def D.unders (n : Nat) : List D → Bool
  | [] => true
  | d :: ds => D.under n d && D.unders n ds
end
def MO.under (n : Nat) : MO → Bool
  | .lst xs => D.unders n xs
  | .dct kvs => D.unders n (kvs.map (·.1)) && D.unders n (kvs.map (·.2))
  | .ins _ fs => D.unders n (fs.map (·.2))
  | .frz o => MO.under n o

/-! ### results -/
inductive R (α : Type) where
  | ok (a : α) (S : St) | exc (c : Nat) (vs : List D) (S : St) | bad
@[simp] def R.bind {α β : Type} (r : R α) (f : α → St → R β) : R β := match r with
  | .ok a S => f a S
  | .exc c vs S => .exc c vs S
  | .bad => .bad
/-- an exception is not let out -/
@[simp] def R.nox {α : Type} (r : R α) : R α := match r with
  | .exc _ _ _ => .bad
  | r => r
inductive Fl where
  | nx | ret (d : D) | brk | cont
inductive RS where
  | fl (f : Fl) (σ : Env) (S : St) | exc (c : Nat) (vs : List D) (σ : Env) (S : St) | bad
/-- an expression's result within a statement -/
@[simp] def R.bindS {α : Type} (r : R α) (σ : Env) (f : α → St → RS) : RS := match r with
  | .ok a S => f a S
  | .exc c vs S => .exc c vs σ S
  | .bad => .bad

/-! ### the text -/
inductive Op where
  | add | sub | mul | fdiv | mod | pow
  deriving DecidableEq
inductive Cm where
  | eq | ne | lt | le | gt | ge | isin | notin
  deriving DecidableEq
inductive Ty where
  | int | bool | str | tup | lst | dct | own (c : Nat)
  deriving DecidableEq
inductive Bi where
  | abs | all | any | int | len | list | tuple | str
  deriving DecidableEq
inductive Bm where
  | sindex | append
  deriving DecidableEq
inductive It where
  | val | range1 | range2
inductive Pat where
  | name (i : Nat) | tup (ps : List Pat)
inductive IE where
  | loc (i : Nat)
  | con (d : D)
  | bin (o : Op) (a b : IE)
  | neg (a : IE)
  | not_ (a : IE)
  | and_ (a b : IE)
  | or_ (a b : IE)
  | cmp (o : Cm) (a b : IE)
  | cmp2 (o p : Cm) (a b c : IE)
  | isN (a : IE)
  | notN (a : IE)
  | ife (c a b : IE)
  | tup (es : List IE)
  | lst (es : List IE)
  | dic (kvs : List IE)
  | ix (a b : IE)
  | sl (a lo hi : IE)
  | call (f : Nat) (es : List IE)
  | make (c : Nat) (es : List IE)
  | meth (o : IE) (m : Nat) (es : List IE)
  | bi (b : Bi) (a : IE)
  | bm (m : Bm) (o : IE) (es : List IE)
  | isi (a : IE) (t : Ty)
  /-- isinstance of the caught exception; its j-th field -/
  | xisi (i t : Nat)
  | xfld (i j : Nat)
  | comp (k : It) (args : List IE) (tg : Pat) (ws : List Nat) (ifs : List IE) (elt : IE)
  | fld (o : IE) (f : Nat)
inductive Tg where
  | name (i : Nat) | sub (o i : IE) | fld (o : IE) (f : Nat) | tup (gs : List Tg)
inductive IS where
  | asg (g : Tg) (e : IE)
  | par (is : List Nat) (es : List IE)
  | aug (i : Nat) (o : Op) (e : IE)
  | ex (e : IE)
  | ret (e : IE)
  | ret0
  | ife (c : IE) (a b : List IS)
  | whl (c : IE) (b : List IS)
  | for_ (k : It) (args : List IE) (tg : Tg) (b : List IS)
  | pass
  | brk
  | cont
  | raise (c : Nat) (es : List IE)
  | try_ (b : List IS) (c : Nat) (i : Option Nat) (h : List IS)
structure IDef where
  ar : Nat
  sz : Nat
  body : List IS
structure Cls where
  init : Nat
  fields : List Nat
  meths : List (Nat × Nat)
structure Pg where
  defs : List IDef
  classes : List Cls
  /-- an exception class is a heir of another -/
  sub : Nat → Nat → Bool
  /-- what is walked at most by one while -/
  fuel : Nat
abbrev Cl := Nat → List D → St → R D

/-! ### values -/
def line : Nat := 16777216
def intBig : Nat := 1000000
mutual
/-- data without its store -/
def D.py (rf : Nat → Option PyData) : D → Option PyData
  | .non => some .none
  | .bl b => some (.bool b)
  | .int i => some (.int i)
  | .str s => some (.str ⟨s.toArray⟩)
  | .tup ds => (D.pys rf ds).map .tuple
  | .ref i => rf i
  | .frz _ => none
  | .exc _ _ => none
def D.pys (rf : Nat → Option PyData) : List D → Option (List PyData)
  | [] => some []
  | d :: ds => (D.py rf d).bind fun x => (D.pys rf ds).map fun xs => x :: xs
end
def pyRef : Nat → St → Nat → Option PyData
  | 0, _, _ => none
  | n + 1, S, i => match S[i]? with
    | some (.lst xs) => (D.pys (pyRef n S) xs).map .list
    | _ => none
def toPy (S : St) (d : D) : Option PyData := (D.py (pyRef 6 S) d).bind fun x => if SeqAt.shaped x = true then some x else none
def eqD (S : St) (x y : D) : Option Bool := (toPy S x).bind fun a => (toPy S y).map fun b => PyData.eqv a b
def ltD (S : St) (x y : D) : Option Bool := (toPy S x).bind fun a => (toPy S y).bind fun b =>
  match a with
  | .none => none
  | _ => if W.alike a b = true then some (W.dataLt a b) else none
def truth (S : St) : D → Option Bool
  | .non => some false
  | .bl b => some b
  | .int i => some (i != 0)
  | .str s => if s.length ≤ line then some (!s.isEmpty) else none
  | .tup ds => some (!ds.isEmpty)
  | .frz ds => some (!ds.isEmpty)
  | .ref i => match S[i]? with
    | some (.lst xs) => some (!xs.isEmpty)
    | _ => none
  | .exc _ _ => none
/-- the items of what is walked; the list's place, if it is one -/
def itemsOf (S : St) : D → Option (List D × Option Nat)
  | .tup ds => some (ds, none)
  | .frz ds => some (ds, none)
  | .str s => some (s.map fun c => .str [c], none)
  | .ref i => match S[i]? with
    | some (.lst xs) => some (xs, some i)
    | _ => none
  | _ => none
def listOf (S : St) : D → Option (List D)
  | .tup ds => some ds
  | .frz ds => some ds
  | .ref i => match S[i]? with
    | some (.lst xs) => some xs
    | _ => none
  | _ => none
def alloc (o : MO) (S : St) : R D := .ok (.ref S.length) (S ++ [o])
def pureO (o : Option D) (S : St) : R D := match o with
  | some d => .ok d S
  | none => .bad
def big62 : Int := 4611686018427387904
def mulOk (i j : Int) : Bool := decide (i.natAbs.log2 + j.natAbs.log2 < intBig)
def divOk (j : Int) : Bool := decide (j ≠ 0) && decide (j.natAbs.log2 < 9000)
def powOk (i j : Int) : Bool := decide (0 ≤ j) && decide (j ≤ 1000) && decide (i.natAbs < 1000000)
def op2 (o : Op) (x y : D) (S : St) : R D := match o, x, y with
  | .add, .int i, .int j => .ok (.int (i + j)) S
  | .add, .str a, .str b => if a.length + b.length ≤ line then .ok (.str (a ++ b)) S else .bad
  | .add, .ref a, .ref b => match S[a]?, S[b]? with
    | some (.lst xs), some (.lst ys) => if xs.length + ys.length ≤ line then alloc (.lst (xs ++ ys)) S else .bad
    | _, _ => .bad
  | .add, .tup xs, .tup ys => if xs.length + ys.length ≤ line && !xs.isEmpty then .ok (.tup (xs ++ ys)) S else .bad
  | .sub, .int i, .int j => .ok (.int (i - j)) S
  | .mul, .int i, .int j => if mulOk i j then .ok (.int (i * j)) S else .bad
  | .mul, .str a, .int j => if 0 ≤ j && j ≤ 1000 && a.length ≤ 1000 then .ok (.str (List.replicate j.toNat a).flatten) S else .bad
  | .mul, .ref a, .int j => match S[a]? with
    | some (.lst xs) => if 0 ≤ j && j ≤ 1000 && xs.length ≤ 1000 then alloc (.lst (List.replicate j.toNat xs).flatten) S else .bad
    | _ => .bad
  | .fdiv, .int i, .int j => if divOk j then .ok (.int (i.fdiv j)) S else .bad
  | .mod, .int i, .int j => if j ≠ 0 then .ok (.int (i.fmod j)) S else .bad
  | .pow, .int i, .int j => if powOk i j then .ok (.int (i ^ j.toNat)) S else .bad
  | _, _, _ => .bad
/-- a key of a dict -/
def isKey : D → Bool
  | .int _ => true
  | .str _ => true
  | _ => false
/-- the value under a key -/
def look (k : D) : List (D × D) → Option D
  | [] => none
  | (a, v) :: r => if a = k then some v else look k r
def isIn (S : St) (x y : D) : Option Bool := match y with
  | .str s => match x with
    | .str [c] => some (decide (c ∈ s))
    | _ => none
  | .ref i => match S[i]? with
    | some (.dct kvs) => if isKey x then some (look x kvs).isSome else none
    | some (.lst xs) => (toPy S x).bind fun a => (D.pys (pyRef 5 S) xs).bind fun l => if SeqAt.shaped (.list l) = true then some (l.any fun z => PyData.eqv z a) else none
    | _ => none
  | .tup ds => (toPy S x).bind fun a => (D.pys (pyRef 5 S) ds).bind fun l => if SeqAt.shaped (.tuple l) = true then some (l.any fun z => PyData.eqv z a) else none
  | _ => none
def cmpV (o : Cm) (x y : D) (S : St) : Option Bool := match o with
  | .eq => eqD S x y
  | .ne => (eqD S x y).map (!·)
  | .lt => match x, y with
    | .int i, .int j => some (decide (i < j))
    | _, _ => ltD S x y
  | .le => match x, y with
    | .int i, .int j => some (decide (i ≤ j))
    | _, _ => none
  | .gt => match x, y with
    | .int i, .int j => some (decide (j < i))
    | _, _ => none
  | .ge => match x, y with
    | .int i, .int j => some (decide (j ≤ i))
    | _, _ => none
  | .isin => isIn S x y
  | .notin => (isIn S x y).map (!·)
def cmpR (o : Cm) (x y : D) (S : St) : R Bool := match cmpV o x y S with
  | some b => .ok b S
  | none => .bad
/-- the place that an index of any sign means -/
def atI {α : Type} (xs : List α) (i : Int) : Option α := L2.atI xs i
def ixV (S : St) (x y : D) : Option D := match x, y with
  | .tup ds, .int i => atI ds i
  | .frz ds, .int i => atI ds i
  | .str s, .int i => if s.length ≤ line then (atI s i).map fun c => .str [c] else none
  | .ref a, y => match S[a]? with
    | some (.lst xs) => match y with
      | .int i => atI xs i
      | _ => none
    | some (.dct kvs) => if isKey y then look y kvs else none
    | _ => none
  | _, _ => none
/-- a slice's bound; one that is left out stands as an exc -/
def part (d : D) : Option (Option Int) := match d with
  | .exc _ _ => some none
  | .int i => some (some i)
  | _ => none
def L2cut (ds : List D) (l h : Option Int) : List D := (ds.drop (HT.sIx ds.length 0 l)).take (HT.sIx ds.length ds.length h - HT.sIx ds.length 0 l)
def slV (x lo hi : D) (S : St) : R D := match part lo, part hi with
  | some l, some h => match x with
    | .str s => if s.length ≤ line then .ok (.str ((s.drop (HT.sIx s.length 0 l)).take (HT.sIx s.length s.length h - HT.sIx s.length 0 l))) S else .bad
    | .tup ds => if HT.sIx ds.length 0 l = 0 ∧ HT.sIx ds.length ds.length h = ds.length then .bad else .ok (.tup (L2cut ds l h)) S
    | .ref i => match S[i]? with
      | some (.lst xs) => alloc (.lst (L2cut xs l h)) S
      | _ => .bad
    | _ => .bad
  | _, _ => .bad
def digits (i : Int) : List Nat := (Str.ofString (toString i)).cps.toList
def allBl : List D → Option (List Bool)
  | [] => some []
  | .bl b :: r => (allBl r).map fun l => b :: l
  | _ => none
def biV (b : Bi) (x : D) (S : St) : R D := match b with
  | .abs => match x with
    | .int i => .ok (.int (if i < 0 then -i else i)) S
    | _ => .bad
  | .int => match x with
    | .int i => .ok (.int i) S
    | .bl b => .ok (.int (if b then 1 else 0)) S
    | _ => .bad
  | .str => match x with
    | .int i => if i.natAbs.log2 < 1920 then .ok (.str (digits i)) S else .bad
    | _ => .bad
  | .len => match x with
    | .str s => if s.length ≤ line then .ok (.int s.length) S else .bad
    | x => match listOf S x with
      | some xs => .ok (.int xs.length) S
      | none => .bad
  | .list => match listOf S x with
    | some xs => alloc (.lst xs) S
    | none => .bad
  | .tuple => match listOf S x with
    | some xs => .ok (.tup xs) S
    | none => .bad
  | .all => match x with
    | .ref i => match S[i]? with
      | some (.lst xs) => match allBl xs with
        | some bs => .ok (.bl (bs.all id)) S
        | none => .bad
      | _ => .bad
    | _ => .bad
  | .any => match x with
    | .ref i => match S[i]? with
      | some (.lst xs) => match allBl xs with
        | some bs => .ok (.bl (bs.any id)) S
        | none => .bad
      | _ => .bad
    | _ => .bad
/-- the first place of a sign -/
def idx (c : Nat) : List Nat → Option Nat
  | [] => none
  | a :: r => if a = c then some 0 else (idx c r).map (· + 1)
/-- what a built-in's method is asked of -/
def bmT (m : Bm) (x : D) (S : St) : Bool := match m, x with
  | .sindex, .str _ => true
  | .append, .ref i => match S[i]? with
    | some (.lst _) => true
    | _ => false
  | _, _ => false
def bmV (m : Bm) (x : D) (as : List D) (S : St) : R D := match m, x, as with
  | .sindex, .str s, [.str [c]] => match idx c s with
    | some k => .ok (.int k) S
    | none => .bad
  | .append, .ref i, [y] => match S[i]? with
    | some (.lst xs) => if xs.length < line then .ok .non (S.set i (.lst (xs ++ [y]))) else .bad
    | _ => .bad
  | _, _, _ => .bad
/-- isinstance -/
def isiV (P : Pg) (S : St) (x : D) (t : Ty) : Option Bool := match x with
  | .non => match t with
    | .own _ => none
    | _ => some false
  | .bl _ => match t with
    | .bool => some true
    | .int => some true
    | .own _ => none
    | _ => some false
  | .int _ => match t with
    | .int => some true
    | .own _ => none
    | _ => some false
  | .str _ => match t with
    | .str => some true
    | .own _ => none
    | _ => some false
  | .tup _ => match t with
    | .tup => some true
    | .own _ => none
    | _ => some false
  | .frz _ => none
  | .ref i => match S[i]? with
    | some (.lst _) => match t with
      | .lst => some true
      | .own _ => none
      | _ => some false
    | _ => none
  | .exc _ _ => none
def itV (k : It) (as : List D) (S : St) : Option (List D × Option Nat) := match k, as with
  | .val, [x] => itemsOf S x
  | .range1, [.int n] => if -big62 ≤ n && n < big62 then some ((List.range n.toNat).map fun i => .int (i : Nat), none) else none
  | .range2, [.int a, .int b] => if -big62 ≤ a && a < big62 && -big62 ≤ b && b < big62 then some ((List.range (b - a).toNat).map fun i => .int (a + (i : Nat)), none) else none
  | _, _ => none
/-- the list that is walked stands as it stood -/
def still (xs : List D) (o : Option Nat) (S : St) : Bool := match o with
  | none => true
  | some i => decide (S[i]? = some (.lst xs))

mutual
def Pat.put : Pat → D → Env → Option Env
  | .name i, d, σ => some (σ.set i (some d))
  | .tup ps, d, σ => match d with
    | .tup ds => Pat.puts ps ds σ
    | _ => none
def Pat.puts : List Pat → List D → Env → Option Env
  | [], [], σ => some σ
  | p :: ps, d :: ds, σ => (Pat.put p d σ).bind fun σ => Pat.puts ps ds σ
  | _, _, _ => none
end
def wipe (σ : Env) : List Nat → Env
  | [] => σ
  | i :: is => (wipe σ is).set i none
/-- a comprehension's loop: turn tells the item, or that none is made -/
def compL (xs : List D) (o : Option Nat) (turn : D → St → R (Option D)) : List D → List D → St → R (List D)
  | [], acc, S => if still xs o S then .ok acc S else .bad
  | d :: ds, acc, S => if still xs o S then (turn d S).bind fun r S => match r with
      | some y => if acc.length < line then compL xs o turn ds (acc ++ [y]) S else .bad
      | none => compL xs o turn ds acc S
    else .bad
def mergeD (kvs : List (D × D)) (k v : D) : List (D × D) := match kvs with
  | [] => [(k, v)]
  | (a, u) :: r => if a = k then (a, v) :: r else (a, u) :: mergeD r k v
/-- the entries of a display: key, value, key, value .. -/
def dictOf : List D → List (D × D) → Option (List (D × D))
  | [], m => some m
  | k :: v :: r, m => if isKey k then dictOf r (mergeD m k v) else none
  | _, _ => none
def putD (f : Nat) (v : D) : List (Nat × D) → List (Nat × D)
  | [] => [(f, v)]
  | (g, x) :: r => if g = f then (g, v) :: r else (g, x) :: putD f v r
def truthR (d : D) (S : St) : R Bool := match truth S d with
  | some b => .ok b S
  | none => .bad
def bl (b : Bool) (S : St) : R D := .ok (.bl b) S

mutual
def evalE (P : Pg) (cl mk : Cl) : IE → Env → St → R D
  | .loc i, σ, S => match σ[i]? with
    | some (some (.exc _ _)) => .bad
    | some (some d) => .ok d S
    | _ => .bad
  | .xisi i t, σ, S => match σ[i]? with
    | some (some (.exc c _)) => bl (P.sub c t) S
    | _ => .bad
  | .xfld i j, σ, S => match σ[i]? with
    | some (some (.exc _ vs)) => pureO vs[j]? S
    | _ => .bad
  | .con d, _, S => .ok d S
  | .bin o a b, σ, S => (evalE P cl mk a σ S).bind fun x S => (evalE P cl mk b σ S).bind fun y S => op2 o x y S
  | .neg a, σ, S => (evalE P cl mk a σ S).bind fun x S => match x with
    | .int i => .ok (.int (-i)) S
    | _ => .bad
  | .not_ a, σ, S => (evalE P cl mk a σ S).bind fun x S => (truthR x S).bind fun b S => bl (!b) S
  | .and_ a b, σ, S => (evalE P cl mk a σ S).bind fun x S => (truthR x S).bind fun t S => if t then evalE P cl mk b σ S else .ok x S
  | .or_ a b, σ, S => (evalE P cl mk a σ S).bind fun x S => (truthR x S).bind fun t S => if t then .ok x S else evalE P cl mk b σ S
  | .cmp o a b, σ, S => (evalE P cl mk a σ S).bind fun x S => (evalE P cl mk b σ S).bind fun y S => (cmpR o x y S).bind bl
  | .cmp2 o p a b c, σ, S => (evalE P cl mk a σ S).bind fun x S => (evalE P cl mk b σ S).bind fun y S => (cmpR o x y S).bind fun k S =>
      if k then (evalE P cl mk c σ S).bind fun z S => (cmpR p y z S).bind bl else bl false S
  | .isN a, σ, S => (evalE P cl mk a σ S).bind fun x S => bl (decide (x = .non)) S
  | .notN a, σ, S => (evalE P cl mk a σ S).bind fun x S => bl (!decide (x = .non)) S
  | .ife c a b, σ, S => (evalT P cl mk c (evalE P cl mk c σ S) σ S).bind fun t S => if t then evalE P cl mk a σ S else evalE P cl mk b σ S
  | .tup es, σ, S => (evalEs P cl mk es σ S).bind fun xs S => if xs.length ≤ line then .ok (.tup xs) S else .bad
  | .lst es, σ, S => (evalEs P cl mk es σ S).bind fun xs S => if xs.length ≤ line then alloc (.lst xs) S else .bad
  | .dic es, σ, S => (evalEs P cl mk es σ S).bind fun kv S => match dictOf kv [] with
    | some m => if kv.length ≤ 30 then alloc (.dct m) S else .bad
    | none => .bad
  | .ix a b, σ, S => (evalE P cl mk a σ S).bind fun x S => (evalE P cl mk b σ S).bind fun y S => pureO (ixV S x y) S
  | .sl a l h, σ, S => (evalE P cl mk a σ S).bind fun x S => (evalE P cl mk l σ S).bind fun y S => if (part y).isSome then (evalE P cl mk h σ S).bind fun z S => slV x y z S else .bad
  | .call f es, σ, S => (evalEs P cl mk es σ S).bind fun xs S => cl f xs S
  | .make c es, σ, S => (evalEs P cl mk es σ S).bind fun xs S => match P.classes[c]? with
    | some C => (mk C.init (.ref S.length :: xs) (S ++ [.ins c []])).bind fun r S' => if r = .non then .ok (.ref S.length) S' else .bad
    | none => .bad
  | .meth o m es, σ, S => (evalE P cl mk o σ S).bind fun x S => match x with
    | .ref i => match S[i]? with
      | some (.ins c _) => match P.classes[c]? with
        | some C => match C.meths.lookup m with
          | some f => (evalEs P cl mk es σ S).bind fun xs S => cl f (.ref i :: xs) S
          | none => .bad
        | none => .bad
      | _ => .bad
    | _ => .bad
  | .bi b a, σ, S => (evalE P cl mk a σ S).bind fun x S => biV b x S
  | .bm m o es, σ, S => (evalE P cl mk o σ S).bind fun x S => if bmT m x S then (evalEs P cl mk es σ S).bind fun xs S => bmV m x xs S else .bad
  | .isi a t, σ, S => (evalE P cl mk a σ S).bind fun x S => match isiV P S x t with
    | some b => bl b S
    | none => .bad
  | .comp k args tg ws ifs elt, σ, S => (evalEs P cl mk args σ S).bind fun xs S => match itV k xs S with
    | none => .bad
    | some (ds, o) => (compL ds o (fun d S => match tg.put d (wipe σ ws) with
        | none => .bad
        | some σ' => (evalTs P cl mk ifs σ' S).nox.bind fun b S => if b then (evalE P cl mk elt σ' S).nox.bind fun y S => .ok (some y) S else .ok none S) ds [] S).bind fun ys S => alloc (.lst ys) S
  | .fld o f, σ, S => (evalE P cl mk o σ S).bind fun x S => match x with
    | .ref i => match S[i]? with
      | some (.ins c fs) => match P.classes[c]? with
        | some C => if C.fields.contains f then pureO (fs.lookup f) S else .bad
        | none => .bad
      | _ => .bad
    | _ => .bad
/-- a test; w: what the whole is worth -/
def evalT (P : Pg) (cl mk : Cl) : IE → R D → Env → St → R Bool
  | .not_ a, _, σ, S => (evalT P cl mk a (evalE P cl mk a σ S) σ S).bind fun b S => .ok (!b) S
  | .and_ a b, _, σ, S => (evalT P cl mk a (evalE P cl mk a σ S) σ S).bind fun t S => if t then evalT P cl mk b (evalE P cl mk b σ S) σ S else .ok false S
  | .or_ a b, _, σ, S => (evalT P cl mk a (evalE P cl mk a σ S) σ S).bind fun t S => if t then .ok true S else evalT P cl mk b (evalE P cl mk b σ S) σ S
  | .ife c a b, _, σ, S => (evalT P cl mk c (evalE P cl mk c σ S) σ S).bind fun t S => if t then evalT P cl mk a (evalE P cl mk a σ S) σ S else evalT P cl mk b (evalE P cl mk b σ S) σ S
  | .cmp o a b, _, σ, S => (evalE P cl mk a σ S).bind fun x S => (evalE P cl mk b σ S).bind fun y S => cmpR o x y S
  | _, w, _, _ => w.bind fun x S => truthR x S
def evalEs (P : Pg) (cl mk : Cl) : List IE → Env → St → R (List D)
  | [], _, S => .ok [] S
  | e :: es, σ, S => (evalE P cl mk e σ S).bind fun x S => (evalEs P cl mk es σ S).bind fun xs S => .ok (x :: xs) S
def evalTs (P : Pg) (cl mk : Cl) : List IE → Env → St → R Bool
  | [], _, S => .ok true S
  | e :: es, σ, S => (evalT P cl mk e (evalE P cl mk e σ S) σ S).bind fun b S => if b then evalTs P cl mk es σ S else .ok false S
end
def evT (P : Pg) (cl mk : Cl) (e : IE) (σ : Env) (S : St) : R Bool := evalT P cl mk e (evalE P cl mk e σ S) σ S

/-! ### statements -/
/-- x[y] = d -/
def setV (x y d : D) (S : St) : R Unit := match x with
  | .ref a => match S[a]? with
    | some (.lst xs) => match y with
      | .int k => match L2.ixN xs.length k with
        | some j => .ok () (S.set a (.lst (xs.set j d)))
        | none => .bad
      | _ => .bad
    | _ => .bad
  | _ => .bad
/-- x.f = d -/
def fldV (P : Pg) (x : D) (f : Nat) (d : D) (S : St) : R Unit := match x with
  | .ref a => match S[a]? with
    | some (.ins c fs) => match P.classes[c]? with
      | some C => if C.fields.contains f then .ok () (S.set a (.ins c (putD f d fs))) else .bad
      | none => .bad
    | _ => .bad
  | _ => .bad
mutual
def store (P : Pg) (cl mk : Cl) : Tg → D → Env → St → R Env
  | .name i, d, σ, S => .ok (σ.set i (some d)) S
  | .sub o i, d, σ, S => (evalE P cl mk o σ S).nox.bind fun x S => (evalE P cl mk i σ S).nox.bind fun y S => (setV x y d S).nox.bind fun _ S => .ok σ S
  | .fld o f, d, σ, S => (evalE P cl mk o σ S).nox.bind fun x S => (fldV P x f d S).nox.bind fun _ S => .ok σ S
  | .tup gs, d, σ, S => match d with
    | .tup ds => stores P cl mk gs ds σ S
    | _ => .bad
def stores (P : Pg) (cl mk : Cl) : List Tg → List D → Env → St → R Env
  | [], [], σ, S => .ok σ S
  | g :: gs, d :: ds, σ, S => (store P cl mk g d σ S).nox.bind fun σ S => stores P cl mk gs ds σ S
  | _, _, _, _ => .bad
end
def setAll : List Nat → List D → Env → Option Env
  | [], [], σ => some σ
  | i :: is, d :: ds, σ => setAll is ds (σ.set i (some d))
  | _, _, _ => none
def whileL (test : Env → St → R Bool) (body : Env → St → RS) : Nat → Env → St → RS
  | 0, _, _ => .bad
  | n + 1, σ, S => (test σ S).bindS σ fun t S => if t then match body σ S with
      | .fl .nx σ S => whileL test body n σ S
      | .fl .cont σ S => whileL test body n σ S
      | .fl .brk σ S => .fl .nx σ S
      | r => r
    else .fl .nx σ S
def forL (xs : List D) (o : Option Nat) (turn : D → Env → St → RS) : List D → Env → St → RS
  | [], σ, S => if still xs o S then .fl .nx σ S else .bad
  | d :: ds, σ, S => if still xs o S then match turn d σ S with
      | .fl .nx σ S => forL xs o turn ds σ S
      | .fl .cont σ S => forL xs o turn ds σ S
      | .fl .brk σ S => .fl .nx σ S
      | r => r
    else .bad
mutual
def execS (P : Pg) (cl mk : Cl) : IS → Env → St → RS
  | .asg g e, σ, S => (evalE P cl mk e σ S).bindS σ fun x S => (store P cl mk g x σ S).bindS σ fun σ S => .fl .nx σ S
  | .par is es, σ, S => (evalEs P cl mk es σ S).bindS σ fun xs S => match setAll is xs σ with
    | some σ => .fl .nx σ S
    | none => .bad
  | .aug i o e, σ, S => match σ[i]? with
    | some (some (.int x)) => (evalE P cl mk e σ S).bindS σ fun y S => match y with
      | .int y => (op2 o (.int x) (.int y) S).bindS σ fun z S => .fl .nx (σ.set i (some z)) S
      | _ => .bad
    | _ => .bad
  | .ex e, σ, S => (evalE P cl mk e σ S).bindS σ fun _ S => .fl .nx σ S
  | .ret e, σ, S => (evalE P cl mk e σ S).bindS σ fun x S => .fl (.ret x) σ S
  | .ret0, σ, S => .fl (.ret .non) σ S
  | .ife c a b, σ, S => (evT P cl mk c σ S).bindS σ fun t S => if t then execSs P cl mk a σ S else execSs P cl mk b σ S
  | .whl c b, σ, S => whileL (evT P cl mk c) (fun σ S => execSs P cl mk b σ S) P.fuel σ S
  | .for_ k args g b, σ, S => (evalEs P cl mk args σ S).bindS σ fun xs S => match itV k xs S with
    | none => .bad
    | some (ds, o) => forL ds o (fun d σ S => (store P cl mk g d σ S).bindS σ fun σ S => execSs P cl mk b σ S) ds σ S
  | .pass, σ, S => .fl .nx σ S
  | .brk, σ, S => .fl .brk σ S
  | .cont, σ, S => .fl .cont σ S
  | .raise c es, σ, S => (evalEs P cl mk es σ S).bindS σ fun xs S => .exc c xs σ S
  | .try_ b c i h, σ, S => match execSs P cl mk b σ S with
    | .exc e vs σ S => if P.sub e c then match i with
        | some i => match execSs P cl mk h (σ.set i (some (.exc e vs))) S with
          | .fl .nx σ S => .fl .nx (σ.set i none) S
          | .fl .cont σ S => .fl .cont (σ.set i none) S
          | .fl .brk σ S => .fl .brk (σ.set i none) S
          | .fl (.ret d) σ S => .fl (.ret d) σ S
          | _ => .bad
        | none => match execSs P cl mk h σ S with
          | .fl f σ S => .fl f σ S
          | _ => .bad
      else .exc e vs σ S
    | r => r
def execSs (P : Pg) (cl mk : Cl) : List IS → Env → St → RS
  | [], σ, S => .fl .nx σ S
  | s :: ss, σ, S => match execS P cl mk s σ S with
    | .fl .nx σ S => execSs P cl mk ss σ S
    | r => r
end

/-! ### calls -/
def keepOk (n : Nat) : St → St → Bool
  | [], _ => true
  | o :: S, o' :: S' => (decide (o = o') || o'.under n) && keepOk n S S'
  | _ :: _, [] => false
/-- what was made in a call and is leant on by nothing goes -/
def gc (S : St) (d : D) (S' : St) : St := if D.under S.length d && keepOk S.length S S' then S'.take S.length else S'
def gcs (S : St) (ds : List D) (S' : St) : St := if D.unders S.length ds && keepOk S.length S S' then S'.take S.length else S'
def startEnv (d : IDef) (as : List D) : Env := as.map some ++ List.replicate (d.sz - as.length) none
def runDef (P : Pg) (cl mk : Cl) : Cl := fun f as S => match P.defs[f]? with
  | none => .bad
  | some d => if as.length = d.ar then match execSs P cl mk d.body (startEnv d as) S with
      | .fl (.ret x) _ S' => .ok x (gc S x S')
      | .fl .nx _ S' => .ok .non (gc S .non S')
      | .exc c vs _ S' => .exc c vs (gcs S vs S')
      | _ => .bad
    else .bad
def noCl : Cl := fun _ _ _ => .bad
def callK (P : Pg) : Nat → Cl
  | 0 => noCl
  | 1 => runDef P noCl noCl
  | k + 2 => runDef P (callK P (k + 1)) (callK P k)
end Mi
/-! # Mi2a: a value of the small Python and a value of the layer, a store and the abstract heap. -/
namespace Mi
open PySem PySem.Spec PyProof.Rows L2

/-- what the relation leans on: the written part, the classes' places, the names of fields, the exception classes, their fields' names -/
structure RC where
  K : W.Frag
  cA : Nat → Addr
  fN : Nat → Str
  xA : Nat → Addr
  xF : Nat → List Str
  nx : Nat

/-- a list that is never changed -/
def FzL (K : W.Frag) (H : Hp) (a : Addr) (vs : List V) : Prop :=
  (∃ o, H a = some (.frz o (.lst vs))) ∨
    ∃ (o : Obj) (its : Array Value) (n : Nat), K.lookup a = some o ∧ o.cls = .type "list" ∧ o.dict = none ∧ o.data = .seq its n ∧ its.size ≤ sizeLine ∧ Vals vs its.toList
theorem FzL.sq {K : W.Frag} {H : Hp} {a : Addr} {vs : List V} (h : FzL K H a vs) : SqL K H a vs := by
  rcases h with h | h
  · exact .inl (.inr h)
  · exact .inr h

mutual
def Rep (G : RC) (α : List Addr) (H : Hp) : D → V → Prop
  | .non, v => v = .non
  | .bl b, v => v = .bl b
  | .int i, v => v = .int i
  | .str s, v => v = .str ⟨s.toArray⟩
  | .tup ds, v => ∃ a vs, v = .ref a ∧ SqT G.K H a vs ∧ Reps G α H ds vs
  | .frz ds, v => ∃ a vs, v = .ref a ∧ FzL G.K H a vs ∧ Reps G α H ds vs
  | .ref i, v => ∃ a, α[i]? = some a ∧ v = .ref a
  | .exc _ _, _ => False
def Reps (G : RC) (α : List Addr) (H : Hp) : List D → List V → Prop
  | [], vs => vs = []
  | d :: ds, vs => ∃ v r, vs = v :: r ∧ Rep G α H d v ∧ Reps G α H ds r
end
/-- a key of a dict -/
def keyD : Key → D
  | .inl i => .int i
  | .inr x => .str x.cps.toList
def RepKs (G : RC) (α : List Addr) (H : Hp) : List (D × D) → List (Key × V) → Prop
  | [], kvs => kvs = []
  | (k, d) :: r, kvs => ∃ q v s, kvs = (q, v) :: s ∧ k = keyD q ∧ Rep G α H d v ∧ RepKs G α H r s
def RepFs (G : RC) (α : List Addr) (H : Hp) : List (Nat × D) → List (Str × V) → Prop
  | [], fs => fs = []
  | (f, d) :: r, fs => ∃ v s, fs = (G.fN f, v) :: s ∧ Rep G α H d v ∧ RepFs G α H r s
/-- what stands in the store, at its address -/
def RepO (G : RC) (α : List Addr) (H : Hp) : MO → HO → Prop
  | .lst xs, o => ∃ vs, o = .lst vs ∧ Reps G α H xs vs
  | .dct kvs, o => ∃ ks, o = .dK ks ∧ RepKs G α H kvs ks ∧ (ks.map (·.1)).Nodup
  | .ins c fs, o => ∃ dx gs, o = .ins (G.cA c) dx gs ∧ RepFs G α H fs gs
  | .frz _, _ => False
/-- the store is held by the heap -/
structure HRel (G : RC) (α : List Addr) (H : Hp) (S : St) : Prop where
  len : α.length = S.length
  nd : α.Nodup
  at_ : ∀ (i : Nat) (o : MO) (a : Addr), S[i]? = some o → α[i]? = some a → ∃ ho, H a = some ho ∧ RepO G α H o ho
/-- what is kept: places, tuples, frozen lists -/
structure Keep (α : List Addr) (H : Hp) (α' : List Addr) (H' : Hp) : Prop where
  pl : ∀ (i : Nat) (a : Addr), α[i]? = some a → α'[i]? = some a
  tup : ∀ a vs, Rd H a (.tup vs) → Rd H' a (.tup vs)
  frz : ∀ a o u, H a = some (.frz o u) → H' a = some (.frz o u)
section
variable {G : RC} {α β γ : List Addr} {H H' H'' : Hp}
theorem Keep.sqt {K : W.Frag} {a : Addr} {vs : List V} (k : Keep α H β H') (h : SqT K H a vs) : SqT K H' a vs := by
  rcases h with h | h
  · exact .inl (k.tup _ _ h)
  · exact .inr h
theorem Keep.fzl {K : W.Frag} {a : Addr} {vs : List V} (k : Keep α H β H') (h : FzL K H a vs) : FzL K H' a vs := by
  rcases h with ⟨o, h⟩ | h
  · exact .inl ⟨o, k.frz _ _ _ h⟩
  · exact .inr h
mutual
theorem Rep.keep (k : Keep α H β H') : ∀ (d : D) (v : V), Rep G α H d v → Rep G β H' d v := by
  intro d v h
  cases d with
  | tup ds =>
    obtain ⟨a, vs, e, s, r⟩ := h
    exact ⟨a, vs, e, k.sqt s, Reps.keep k ds vs r⟩
  | frz ds =>
    obtain ⟨a, vs, e, s, r⟩ := h
    exact ⟨a, vs, e, k.fzl s, Reps.keep k ds vs r⟩
  | ref i =>
    obtain ⟨a, h1, h2⟩ := h
    exact ⟨a, k.pl _ _ h1, h2⟩
  | exc c ds => exact h
  | non => exact h
  | bl _ => exact h
  | int _ => exact h
  | str _ => exact h
theorem Reps.keep (k : Keep α H β H') : ∀ (ds : List D) (vs : List V), Reps G α H ds vs → Reps G β H' ds vs := by
  intro ds vs h
  cases ds with
  | nil => exact h
  | cons d ds =>
    obtain ⟨v, r, e, h1, h2⟩ := h
    exact ⟨v, r, e, Rep.keep k d v h1, Reps.keep k ds r h2⟩
end
theorem RepKs.keep (k : Keep α H β H') : ∀ (kvs : List (D × D)) (ks : List (Key × V)), RepKs G α H kvs ks → RepKs G β H' kvs ks := by
  intro kvs
  induction kvs with
  | nil => intro ks h; exact h
  | cons p r ih =>
    intro ks h
    obtain ⟨q, v, s, e, e2, h1, h2⟩ := h
    exact ⟨q, v, s, e, e2, Rep.keep k _ _ h1, ih _ h2⟩
theorem RepFs.keep (k : Keep α H β H') : ∀ (fs : List (Nat × D)) (gs : List (Str × V)), RepFs G α H fs gs → RepFs G β H' fs gs := by
  intro fs
  induction fs with
  | nil => intro ks h; exact h
  | cons p r ih =>
    intro ks h
    obtain ⟨v, s, e, h1, h2⟩ := h
    exact ⟨v, s, e, Rep.keep k _ _ h1, ih _ h2⟩
theorem RepO.keep (k : Keep α H β H') : ∀ (o : MO) (ho : HO), RepO G α H o ho → RepO G β H' o ho := by
  intro o ho h
  cases o with
  | lst xs => obtain ⟨vs, e, r⟩ := h; exact ⟨vs, e, Reps.keep k _ _ r⟩
  | dct kvs => obtain ⟨vs, e, r, n⟩ := h; exact ⟨vs, e, RepKs.keep k _ _ r, n⟩
  | ins c fs => obtain ⟨dx, vs, e, r⟩ := h; exact ⟨dx, vs, e, RepFs.keep k _ _ r⟩
  | frz _ => exact h
/-- what may stand at a place of the store -/
def isM : HO → Bool
  | .lst _ => true
  | .dK _ => true
  | .ins _ _ _ => true
  | _ => false
theorem RepO.isM {o : MO} {ho : HO} (h : RepO G α H o ho) : isM ho = true := by
  cases o with
  | lst xs => obtain ⟨vs, e, r⟩ := h; rw [e]; rfl
  | dct kvs => obtain ⟨vs, e, r⟩ := h; rw [e]; rfl
  | ins c fs => obtain ⟨dx, vs, e, r⟩ := h; rw [e]; rfl
  | frz _ => exact h.elim
theorem HRel.mem {S : St} (h : HRel G α H S) {a : Addr} (ha : a ∈ α) : ∃ ho, H a = some ho ∧ Mi.isM ho = true := by
  obtain ⟨i, hi, e⟩ := List.mem_iff_getElem.mp ha
  have e1 : α[i]? = some a := by rw [List.getElem?_eq_getElem hi, e]
  have hi2 : i < S.length := by rw [← h.len]; exact hi
  obtain ⟨ho, e2, r⟩ := h.at_ i S[i] a (List.getElem?_eq_getElem hi2) e1
  exact ⟨ho, e2, r.isM⟩
theorem HRel.notup {S : St} (h : HRel G α H S) {a : Addr} {u : HO} (e : H a = some u) (n : Mi.isM u = false) : a ∉ α := fun ha => by
  obtain ⟨ho, e1, e2⟩ := h.mem ha
  rw [e] at e1; cases e1; rw [n] at e2; cases e2
/-- a step: the places go on, the new ones were free, what is not the store's is kept -/
structure Ext (α : List Addr) (H : Hp) (α' : List Addr) (H' : Hp) : Prop where
  pre : ∃ β, α' = α ++ β ∧ ∀ b ∈ β, H b = none ∧ b ∉ α
  keep : ∀ b o, b ∉ α → H b = some o → H' b = some o
theorem Ext.refl : Ext α H α H := ⟨⟨[], by simp, by simp⟩, fun _ _ _ h => h⟩
theorem Ext.trans (a : Ext α H β H') (b : Ext β H' γ H'') : Ext α H γ H'' := by
  obtain ⟨⟨x, e1, n1⟩, k1⟩ := a
  obtain ⟨⟨y, e2, n2⟩, k2⟩ := b
  subst e1
  refine ⟨⟨x ++ y, by rw [e2, List.append_assoc], fun c hc => ?_⟩, fun c o hc h => ?_⟩
  · rcases List.mem_append.mp hc with h | h
    · exact n1 c h
    · have hm : c ∉ α := fun z => (n2 c h).2 (List.mem_append_left _ z)
      refine ⟨?_, hm⟩
      cases e : H c with
      | none => rfl
      | some o =>
        have := k1 c o hm e
        rw [(n2 c h).1] at this; cases this
  · refine k2 c o (fun hm => ?_) (k1 c o hc h)
    rcases List.mem_append.mp hm with z | z
    · exact hc z
    · rw [(n1 c z).1] at h; cases h
theorem Ext.toKeep {S : St} (e : Ext α H β H') (h : HRel G α H S) : Keep α H β H' := by
  obtain ⟨⟨x, e1, n1⟩, k1⟩ := e
  refine ⟨fun i a hi => ?_, fun a vs r => ?_, fun a o u r => k1 _ _ (h.notup r rfl) r⟩
  · rw [e1]
    obtain ⟨hl, _⟩ := List.getElem?_eq_some_iff.mp hi
    rw [List.getElem?_append_left hl]; exact hi
  · rcases r with r | ⟨o, r⟩
    · exact .inl (k1 _ _ (h.notup r rfl) r)
    · exact .inr ⟨o, k1 _ _ (h.notup r rfl) r⟩
/-- something else is laid at a free place -/
theorem Ext.upd {p : Addr} {o : HO} (hp : H p = none) : Ext α H α (upd H p o) :=
  ⟨⟨[], by simp, by simp⟩, fun b u _ h => by rw [upd_ne (ne_of_none h hp)]; exact h⟩
theorem HRel.free {S : St} {p : Addr} (h : HRel G α H S) (hp : H p = none) : p ∉ α := fun hm => by
  obtain ⟨ho, e, _⟩ := h.mem hm
  rw [hp] at e; cases e
theorem HRel.upd {S : St} {p : Addr} {o : HO} (h : HRel G α H S) (hp : H p = none) : HRel G α (upd H p o) S := by
  have k : Keep α H α (L2.upd H p o) := (Ext.upd (o := o) hp).toKeep h
  refine ⟨h.len, h.nd, fun i u a h1 h2 => ?_⟩
  obtain ⟨ho, e, r⟩ := h.at_ i u a h1 h2
  exact ⟨ho, by rw [upd_ne (ne_of_none e hp)]; exact e, RepO.keep k _ _ r⟩
/-- a new object of the store -/
theorem Ext.new {p : Addr} {o : HO} {S : St} (h : HRel G α H S) (hp : H p = none) : Ext α H (α ++ [p]) (L2.upd H p o) :=
  ⟨⟨[p], rfl, fun b hb => by
    rw [List.mem_singleton] at hb; subst hb; exact ⟨hp, h.free hp⟩⟩, fun b u _ q => by rw [upd_ne (ne_of_none q hp)]; exact q⟩
theorem HRel.new {p : Addr} {o : HO} {S : St} {m : MO} (h : HRel G α H S) (hp : H p = none) (r : RepO G α H m o) : HRel G (α ++ [p]) (L2.upd H p o) (S ++ [m]) := by
  have k : Keep α H (α ++ [p]) (L2.upd H p o) := (Ext.new (o := o) h hp).toKeep h
  refine ⟨by simp [h.len], ?_, fun i u a h1 h2 => ?_⟩
  · refine List.nodup_append.mpr ⟨h.nd, by simp, fun a ha b hb => ?_⟩
    rw [List.mem_singleton] at hb; subst hb
    rintro rfl
    exact h.free hp ha
  · by_cases hi : i < S.length
    · rw [List.getElem?_append_left hi] at h1
      rw [List.getElem?_append_left (by rw [h.len]; exact hi)] at h2
      obtain ⟨ho, e, r'⟩ := h.at_ i u a h1 h2
      exact ⟨ho, by rw [upd_ne (ne_of_none e hp)]; exact e, RepO.keep k _ _ r'⟩
    · have hi2 : i = S.length := by
        obtain ⟨hl, _⟩ := List.getElem?_eq_some_iff.mp h1
        rw [List.length_append, List.length_singleton] at hl; omega
      subst hi2
      rw [List.getElem?_append_right (Nat.le_refl _), Nat.sub_self] at h1
      rw [List.getElem?_append_right (by rw [h.len]; exact Nat.le_refl _), h.len, Nat.sub_self] at h2
      simp at h1 h2
      subst h1 h2
      exact ⟨o, upd_same, RepO.keep k _ _ r⟩
theorem Rep.new {p : Addr} {S : St} (h : HRel G α H S) : Rep G (α ++ [p]) H' (.ref S.length) (.ref p) := by
  refine ⟨p, ?_, rfl⟩
  rw [List.getElem?_append_right (by rw [h.len]; exact Nat.le_refl _), h.len, Nat.sub_self]; rfl
/-- an object of the store is written -/
theorem Ext.wr {i : Nat} {p : Addr} {o : HO} (hi : α[i]? = some p) : Ext α H α (L2.upd H p o) :=
  ⟨⟨[], by simp, by simp⟩, fun b u hb q => by
    have : b ≠ p := fun z => hb (by rw [z]; exact List.mem_of_getElem? hi)
    rw [upd_ne this]; exact q⟩
theorem HRel.wr {i : Nat} {p : Addr} {o : HO} {S : St} {m : MO} (h : HRel G α H S) (hi : α[i]? = some p) (r : RepO G α H m o) : HRel G α (L2.upd H p o) (S.set i m) := by
  have k : Keep α H α (L2.upd H p o) := (Ext.wr (o := o) hi).toKeep h
  refine ⟨by simp [h.len], h.nd, fun j u a h1 h2 => ?_⟩
  by_cases hj : j = i
  · subst hj
    rw [hi] at h2; cases h2
    have hl : j < S.length := by
      rw [← h.len]; exact (List.getElem?_eq_some_iff.mp hi).1
    rw [List.getElem?_set_self hl] at h1
    cases h1
    exact ⟨o, upd_same, RepO.keep k _ _ r⟩
  · rw [List.getElem?_set_ne (Ne.symm hj)] at h1
    obtain ⟨ho, e, r'⟩ := h.at_ j u a h1 h2
    have ne : a ≠ p := fun z => hj (by
      subst z
      obtain ⟨x1, y1⟩ := List.getElem?_eq_some_iff.mp h2
      obtain ⟨x2, y2⟩ := List.getElem?_eq_some_iff.mp hi
      exact (List.getElem_inj h.nd).mp (y1.trans y2.symm))
    exact ⟨ho, by rw [upd_ne ne]; exact e, RepO.keep k _ _ r'⟩
theorem HRel.get {i : Nat} {S : St} {m : MO} {v : V} (h : HRel G α H S) (e : S[i]? = some m) (r : Rep G α H (.ref i) v) : ∃ p ho, v = .ref p ∧ α[i]? = some p ∧ H p = some ho ∧ RepO G α H m ho := by
  obtain ⟨a, h1, h2⟩ := r
  obtain ⟨ho, h3, h4⟩ := h.at_ i m a e h1
  exact ⟨a, ho, h2, h1, h3, h4⟩

end
/-- how an exception lies -/
def XRel (G : RC) (α : List Addr) (H : Hp) (c : Nat) (ds : List D) (dd : Option Addr) : Prop :=
  c < G.nx ∧ ((G.xF c = [] ∧ ds = [] ∧ dd = none) ∨
    G.xF c ≠ [] ∧ ∃ d fs, dd = some d ∧ H d = some (.xd fs) ∧ ds.length = (G.xF c).length ∧ ∀ (i : Nat) f x, (G.xF c)[i]? = some f → ds[i]? = some x → ∃ v, fs.lookup f = some v ∧ Rep G α H x v)
section
variable {G : RC} {α β γ : List Addr} {H H' H'' : Hp}
theorem XRel.ext {S : St} {c : Nat} {ds : List D} {dd : Option Addr} (h : XRel G α H c ds dd) (hr : HRel G α H S) (e : Ext α H β H') : XRel G β H' c ds dd := by
  obtain ⟨hn, h⟩ := h
  refine ⟨hn, ?_⟩
  rcases h with h | ⟨nn, d, fs, e1, e2, e3, e4⟩
  · exact .inl h
  · refine .inr ⟨nn, d, fs, e1, e.keep _ _ (hr.notup e2 rfl) e2, e3, fun i f x h1 h2 => ?_⟩
    obtain ⟨v, h3, h4⟩ := e4 i f x h1 h2
    exact ⟨v, h3, Rep.keep (e.toKeep hr) _ _ h4⟩
/-- the exception that a suite holds: its slot, place, class, fields, dict -/
abbrev HX := Option (Nat × Addr × Nat × List D × Option Addr)
/-! ### slots -/
structure ERel (G : RC) (hx : HX) (α : List Addr) (H : Hp) (σ : Env) (V : L2.St) : Prop where
  len : σ.length = V.length
  at_ : ∀ (i : Nat) (d : D), σ[i]? = some (some d) → ∃ v, V[i]? = some (some v) ∧ (Rep G α H d v ∨ ∃ a c ds dd, d = .exc c ds ∧ hx = some (i, a, c, ds, dd) ∧ v = .ref a)
  xr : ∀ i a c ds dd, hx = some (i, a, c, ds, dd) → XRel G α H c ds dd
section
variable {hx : HX}
theorem ERel.ext {σ : Env} {V : L2.St} {S : St} (h : ERel G hx α H σ V) (hr : HRel G α H S) (e : Ext α H β H') : ERel G hx β H' σ V :=
  ⟨h.len, fun i d q => let ⟨v, e1, r⟩ := h.at_ i d q; ⟨v, e1, r.imp (fun r => Rep.keep (e.toKeep hr) _ _ r) id⟩, fun i a c ds dd q => (h.xr i a c ds dd q).ext hr e⟩
theorem ERel.set {σ : Env} {V : L2.St} {i : Nat} {d : D} {v : L2.V} (h : ERel G hx α H σ V) (r : Rep G α H d v) : ERel G hx α H (σ.set i (some d)) (V.set i (some v)) := by
  refine ⟨by simp [h.len], fun j e q => ?_, h.xr⟩
  by_cases hj : j = i
  · subst hj
    have hl : j < σ.length := by
      obtain ⟨hl, _⟩ := List.getElem?_eq_some_iff.mp q
      rw [List.length_set] at hl; exact hl
    rw [List.getElem?_set_self hl] at q
    cases q
    exact ⟨v, List.getElem?_set_self (by rw [← h.len]; exact hl), .inl r⟩
  · rw [List.getElem?_set_ne (Ne.symm hj)] at q
    rw [List.getElem?_set_ne (Ne.symm hj)]
    exact h.at_ j e q
theorem ERel.unset {σ : Env} {V : L2.St} {i : Nat} (h : ERel G hx α H σ V) : ERel G hx α H (σ.set i none) (V.set i none) := by
  refine ⟨by simp [h.len], fun j e q => ?_, h.xr⟩
  by_cases hj : j = i
  · subst hj
    have hl : j < σ.length := by
      obtain ⟨hl, _⟩ := List.getElem?_eq_some_iff.mp q
      rw [List.length_set] at hl; exact hl
    rw [List.getElem?_set_self hl] at q
    cases q
  · rw [List.getElem?_set_ne (Ne.symm hj)] at q
    rw [List.getElem?_set_ne (Ne.symm hj)]
    exact h.at_ j e q
theorem ERel.wipe {σ : Env} {V : L2.St} (h : ERel G hx α H σ V) : ∀ ws : List Nat, ERel G hx α H (Mi.wipe σ ws) (L2.wipe V ws)
  | [] => h
  | _ :: ws => (ERel.wipe h ws).unset
end
end
/-! ### what comes out -/
section
variable {A B : Type}
def Out (rel : List Addr → Hp → A → B → Prop) (G : RC) (W : WX) (V : L2.St) (α : List Addr) (H : Hp) (r : R A) (Q : B → Hp → Prop) : Prop :=
  match r with
  | .ok a S' => ∀ β H' b, Ext α H β H' → HRel G β H' S' → rel β H' a b → Q b H'
  | .exc c ds S' => ∀ β H' dd, Ext α H β H' → HRel G β H' S' → XRel G β H' c ds dd → W (.ref (G.xA c)) dd V H'
  | .bad => False
variable {rel : List Addr → Hp → A → B → Prop} {G : RC} {W : WX} {V : L2.St} {α β : List Addr} {H H' : Hp} {r : R A} {Q Q' : B → Hp → Prop}
theorem Out.imp (h : Out rel G W V α H r Q) (i : ∀ b H', Q b H' → Q' b H') : Out rel G W V α H r Q' := by
  cases r with
  | ok a S => exact fun β H' b e h1 h2 => i _ _ (h β H' b e h1 h2)
  | exc c ds S => exact h
  | bad => exact h
theorem Out.ext (h : Out rel G W V α H r Q) (e : Ext α H β H') : Out rel G W V β H' r Q := by
  cases r with
  | ok a S => exact fun γ H' b e' h1 h2 => h γ H' b (e.trans e') h1 h2
  | exc c ds S => exact fun γ H' b e' h1 h2 => h γ H' b (e.trans e') h1 h2
  | bad => exact h
theorem Out.bind {A' B' : Type} {rel' : List Addr → Hp → A' → B' → Prop} {r : R A'} {f : A' → St → R A} (h : Out rel G W V α H (r.bind f) Q) :
    Out rel' G W V α H r (fun b H1 => ∃ α1 a S1, Ext α H α1 H1 ∧ HRel G α1 H1 S1 ∧ rel' α1 H1 a b ∧ Out rel G W V α1 H1 (f a S1) Q) := by
  cases r with
  | ok a S => exact fun γ H' b e h1 h2 => ⟨γ, a, S, e, h1, h2, Out.ext h e⟩
  | exc c ds S => exact h
  | bad => exact h
theorem Out.val {S : St} {a : A} {b : B} (h : Out rel G W V α H (.ok a S) Q) (hr : HRel G α H S) (r : rel α H a b) : Q b H := h α H b Ext.refl hr r
end
abbrev rD (G : RC) : List Addr → Hp → D → V → Prop := fun α H d v => Rep G α H d v
abbrev rDs (G : RC) : List Addr → Hp → List D → List V → Prop := fun α H d v => Reps G α H d v
abbrev rB : List Addr → Hp → Bool → Bool → Prop := fun _ _ a b => a = b

/-- the reading of an expression, of arguments, of a test -/
def tM (G : RC) (W : WX) (hx : HX) (m : Env → St → R D) : TE := fun V H Q => ∃ α σ S, HRel G α H S ∧ ERel G hx α H σ V ∧ Out (rD G) G W V α H (m σ S) Q
def tMs (G : RC) (W : WX) (hx : HX) (m : Env → St → R (List D)) : TA := fun V H Q => ∃ α σ S, HRel G α H S ∧ ERel G hx α H σ V ∧ Out (rDs G) G W V α H (m σ S) Q
def tMT (G : RC) (W : WX) (hx : HX) (m : Env → St → R Bool) : TT := fun V H Q => ∃ α σ S, HRel G α H S ∧ ERel G hx α H σ V ∧ Out rB G W V α H (m σ S) Q
theorem pe_imp {X : Cx} {e : Expr} {t t' : TE} (h : PE X e t) (i : ∀ V H Q, t' V H Q → t V H Q) : PE X e t' := ⟨fun pins s σ H Q I q => h.run pins s σ H Q I (i _ _ _ q)⟩
theorem pt_imp {X : Cx} {e : Expr} {t t' : TT} (h : PT X e t) (i : ∀ V H Q, t' V H Q → t V H Q) : PT X e t' := ⟨fun pins s σ H Q I q => h.run pins s σ H Q I (i _ _ _ q)⟩
theorem pa_imp {X : Cx} {es : List Expr} {t t' : TA} (h : PA X es t) (i : ∀ V H Q, t' V H Q → t V H Q) : PA X es t' := ⟨fun pos pins s σ H Q I q => h.run pos pins s σ H Q I (i _ _ _ q)⟩
theorem ps_imp {X : Cx} {st : Stmt} {t t' : TS} (h : PS X st t) (i : ∀ D V H, t' D V H → t D V H) : PS X st t' := ⟨fun pins s σ H D I q => h.run pins s σ H D I (i _ _ _ q)⟩
theorem pss_imp {X : Cx} {st : List Stmt} {t t' : TS} (h : PSs X st t) (i : ∀ D V H, t' D V H → t D V H) : PSs X st t' := ⟨fun pins s σ H D I q => h.run pins s σ H D I (i _ _ _ q)⟩
end Mi
/-! # Mi2b: the operations keep the relation. -/
namespace Mi
open PySem PySem.Spec PyProof.Rows L2

/-- what is asked of a context, but for names and calls -/
structure XOk (G : RC) (W : WX) (X : Cx) : Prop where
  K : X.K = G.K
  tk : Takes X W
  un : X.A.units + 66 < cLine

/-! ### ends -/
section
variable {G : RC} {W : WX} {V : L2.St} {α β : List Addr} {H H' : Hp} {S : St} {Q : VK}
theorem Out.alloc {o : MO} {ho : HO} (h : Out (rD G) G W V α H (alloc o S) Q) (hr : HRel G α H S) (r : RepO G α H o ho) : ∀ p, H p = none → Q (.ref p) (upd H p ho) := fun p hp =>
  h _ _ _ (Ext.new hr hp) (HRel.new hr hp r) (Rep.new hr)
theorem Reps.upd {ds : List D} {vs : List L2.V} {p : Addr} {o : HO} (hr : HRel G α H S) (hp : H p = none) (r : Reps G α H ds vs) : Reps G α (L2.upd H p o) ds vs := Reps.keep ((Ext.upd hp).toKeep hr) _ _ r
theorem Out.tup {ds : List D} {vs : List L2.V} (h : Out (rD G) G W V α H (.ok (.tup ds) S) Q) (hr : HRel G α H S) (r : Reps G α H ds vs) : ∀ p, H p = none → Q (.ref p) (upd H p (.tup vs)) := fun p hp =>
  h α _ _ (Ext.upd hp) (hr.upd hp) ⟨p, vs, rfl, SqT.of upd_same, r.upd hr hp⟩
theorem Out.wr {A B : Type} {rel : List Addr → Hp → A → B → Prop} {Q : B → Hp → Prop} {a : A} {b : B} {i : Nat} {p : Addr} {o : MO} {ho : HO} (h : Out rel G W V α H (.ok a (S.set i o)) Q) (hr : HRel G α H S) (hi : α[i]? = some p) (r : RepO G α H o ho)
    (rb : rel α (L2.upd H p ho) a b) : Q b (L2.upd H p ho) := h α _ _ (Ext.wr hi) (hr.wr hi r) rb
theorem Reps.len : ∀ {ds : List D} {vs : List L2.V}, Reps G α H ds vs → ds.length = vs.length
  | [], vs, h => by rw [show vs = [] from h]; rfl
  | d :: ds, vs, h => by
    obtain ⟨v, r, e, _, h2⟩ := h
    rw [e, List.length_cons, List.length_cons, Reps.len h2]
theorem Reps.get : ∀ {ds : List D} {vs : List L2.V} {i : Nat} {d : D}, Reps G α H ds vs → ds[i]? = some d → ∃ v, vs[i]? = some v ∧ Rep G α H d v
  | [], _, _, _, _, e => by simp at e
  | x :: ds, vs, 0, d, h, e => by
    obtain ⟨v, r, e2, h1, _⟩ := h
    simp at e; subst e; subst e2
    exact ⟨v, rfl, h1⟩
  | x :: ds, vs, i + 1, d, h, e => by
    obtain ⟨v, r, e2, _, h2⟩ := h
    subst e2
    exact Reps.get (i := i) h2 (by simpa using e)
theorem Reps.app : ∀ {ds es : List D} {vs ws : List L2.V}, Reps G α H ds vs → Reps G α H es ws → Reps G α H (ds ++ es) (vs ++ ws)
  | [], es, vs, ws, h, h' => by rw [show vs = [] from h]; exact h'
  | d :: ds, es, vs, ws, h, h' => by
    obtain ⟨v, r, e, h1, h2⟩ := h
    exact ⟨v, r ++ ws, by rw [e]; rfl, h1, Reps.app h2 h'⟩
theorem Reps.drop : ∀ {ds : List D} {vs : List L2.V} (n : Nat), Reps G α H ds vs → Reps G α H (ds.drop n) (vs.drop n)
  | ds, vs, 0, h => by simpa using h
  | [], vs, n + 1, h => by rw [show vs = [] from h]; exact rfl
  | d :: ds, vs, n + 1, h => by
    obtain ⟨v, r, e, h1, h2⟩ := h
    rw [e]; exact Reps.drop n h2
theorem Reps.take : ∀ {ds : List D} {vs : List L2.V} (n : Nat), Reps G α H ds vs → Reps G α H (ds.take n) (vs.take n)
  | ds, vs, 0, h => rfl
  | [], vs, n + 1, h => by rw [show vs = [] from h]; exact rfl
  | d :: ds, vs, n + 1, h => by
    obtain ⟨v, r, e, h1, h2⟩ := h
    rw [e]; exact ⟨v, r.take n, rfl, h1, Reps.take n h2⟩
theorem Reps.set : ∀ {ds : List D} {vs : List L2.V} {d : D} {v : L2.V} (n : Nat), Reps G α H ds vs → Rep G α H d v → Reps G α H (ds.set n d) (vs.set n v)
  | [], vs, d, v, n, h, _ => by rw [show vs = [] from h]; exact rfl
  | x :: ds, vs, d, v, 0, h, r => by
    obtain ⟨w, r', e, h1, h2⟩ := h
    rw [e]; exact ⟨v, r', rfl, r, h2⟩
  | x :: ds, vs, d, v, n + 1, h, r => by
    obtain ⟨w, r', e, h1, h2⟩ := h
    rw [e]; exact ⟨w, r'.set n v, rfl, h1, Reps.set n h2 r⟩
theorem Reps.rep {ds : List D} {vs : List L2.V} (h : Reps G α H ds vs) : ∀ n : Nat, Reps G α H (List.replicate n ds).flatten (List.replicate n vs).flatten
  | 0 => rfl
  | n + 1 => by
    rw [List.replicate_succ, List.replicate_succ, List.flatten_cons, List.flatten_cons]
    exact Reps.app h (Reps.rep h n)
theorem lines : Mi.line = sizeLine := by rw [sizeLine_eq]; rfl

/-! ### data -/
mutual
theorem dp_of (hr : HRel G α H S) (n : Nat) (rf : ∀ i p, pyRef n S i = some p → ∀ v, Rep G α H (.ref i) v → Dp G.K H v p) : ∀ (d : D) (p : PyData) (v : L2.V), D.py (pyRef n S) d = some p → Rep G α H d v → Dp G.K H v p := by
  intro d p v e r
  cases d with
  | non => cases e; rw [show v = .non from r]; exact .non
  | bl b => cases e; rw [show v = .bl b from r]; exact .bl b
  | int i => cases e; rw [show v = .int i from r]; exact .int i
  | str s => cases e; rw [show v = .str ⟨s.toArray⟩ from r]; exact .str _
  | tup ds =>
    simp only [D.py] at e
    cases q : D.pys (pyRef n S) ds with
    | none => rw [q] at e; cases e
    | some l =>
      rw [q] at e; cases e
      obtain ⟨a, vs, e1, e2, e3⟩ := r
      rw [e1]
      exact .tup e2 (dps_of hr n rf ds l vs q e3)
  | frz _ => cases e
  | ref i => exact rf i p e v r
  | exc _ _ => cases e
theorem dps_of (hr : HRel G α H S) (n : Nat) (rf : ∀ i p, pyRef n S i = some p → ∀ v, Rep G α H (.ref i) v → Dp G.K H v p) : ∀ (ds : List D) (ps : List PyData) (vs : List L2.V), D.pys (pyRef n S) ds = some ps → Reps G α H ds vs → DpAll G.K H vs ps := by
  intro ds ps vs e r
  cases ds with
  | nil => cases e; rw [show vs = [] from r]; exact .nil
  | cons d ds =>
    simp only [D.pys] at e
    obtain ⟨v, ws, e1, r1, r2⟩ := r
    cases q : D.py (pyRef n S) d with
    | none => rw [q] at e; cases e
    | some x =>
      cases q2 : D.pys (pyRef n S) ds with
      | none => rw [q, q2] at e; cases e
      | some xs =>
        rw [q, q2] at e; cases e
        rw [e1]
        exact .cons (dp_of hr n rf d x v q r1) (dps_of hr n rf ds xs ws q2 r2)
end
theorem dp_ref (hr : HRel G α H S) : ∀ (n i : Nat) (p : PyData), pyRef n S i = some p → ∀ v, Rep G α H (.ref i) v → Dp G.K H v p := by
  intro n
  induction n with
  | zero => intro i p e; cases e
  | succ n ih =>
    intro i p e v r
    simp only [pyRef] at e
    split at e
    · rename_i xs hS
      cases q : D.pys (pyRef n S) xs with
      | none => rw [q] at e; cases e
      | some l =>
        rw [q] at e; cases e
        obtain ⟨a, ho, rfl, ha, hH, ro⟩ := hr.get hS r
        obtain ⟨vs, rfl, rs⟩ := ro
        exact .lst (SqL.of hH) (dps_of hr n ih xs l vs q rs)
    · cases e
theorem dp_py (hr : HRel G α H S) {n : Nat} {d : D} {p : PyData} {v : L2.V} (e : D.py (pyRef n S) d = some p) (r : Rep G α H d v) : Dp G.K H v p := dp_of hr n (dp_ref hr n) d p v e r
theorem toPy_dp (hr : HRel G α H S) {d : D} {p : PyData} {v : L2.V} (e : toPy S d = some p) (r : Rep G α H d v) : Dp G.K H v p ∧ SeqAt.shaped p = true := by
  unfold toPy at e
  cases q : D.py (pyRef 6 S) d with
  | none => rw [q] at e; cases e
  | some x =>
    rw [q] at e
    simp only [Option.bind_some] at e
    by_cases h : SeqAt.shaped x = true
    · rw [if_pos h] at e; cases e; exact ⟨dp_py hr q r, h⟩
    · rw [if_neg h] at e; cases e
end

/-! ### binary operators -/
def opP : Op → Operator
  | .add => .Add | .sub => .Sub | .mul => .Mult | .fdiv => .FloorDiv | .mod => .Mod | .pow => .Pow
/-- an operation of the small Python, as a reading -/
def rO (G : RC) (f : D → D → St → R D) : R2 := fun x y H Q => ∃ (W : WX) (V : L2.St) (α : List Addr) (S : St) (dx dy : D), HRel G α H S ∧ Rep G α H dx x ∧ Rep G α H dy y ∧ Out (rD G) G W V α H (f dx dy S) Q
theorem mul_strM {X : Cx} : OpR X (binaryOp .Mult) (fun x y H Q => ∃ z j, x = .str z ∧ y = .int j ∧ 0 ≤ j ∧ j ≤ 1000 ∧ z.length ≤ 1000 ∧ Q (.str ⟨(List.replicate j.toNat z.cps.toList).flatten.toArray⟩) H) := by
  intro pins s σ H x y v u Q I rx ry h
  obtain ⟨z, j, rfl, rfl, h0, h1, h2, q⟩ := h
  obtain ⟨t, rfl⟩ := rx
  obtain ⟨t', rfl⟩ := ry
  have hz : z.length * j.toNat ≤ 1000 * 1000 := Nat.mul_le_mul h2 (by omega)
  have ej : ((j.toNat : Nat) : Int) = j := Int.toNat_of_nonneg h0
  refine SB.mul ⟨?_, ?_, ?_⟩ fun t1 k => ⟨.str (Txt.mul z j), H, I.tok _, ⟨_, rfl⟩, ?_⟩
  · rw [Bool.or_eq_false_iff]; exact ⟨decide_eq_false (by omega), decide_eq_false (by omega)⟩
  · intro n1 _ hh
    have h4 : (z.length : Int) * j ≤ 2 ^ 63 - 1 := by
      rw [← ej]
      have : ((z.length * j.toNat : Nat) : Int) ≤ 1000000 := by omega
      rw [Int.natCast_mul] at this
      omega
    have := Int.le_ediv_of_mul_le (by omega : 0 < j) h4
    omega
  · intro _ _
    unfold Builtin.Str.tooLong
    have : sizeLine = 16777216 := sizeLine_eq
    exact decide_eq_false (by omega)
  · have e : Txt.mul z j = ⟨(List.replicate j.toNat z.cps.toList).flatten.toArray⟩ := by
      unfold Txt.mul
      have fl : ∀ (n : Nat) (acc : Array Nat), (List.replicate n z.cps).foldl (· ++ ·) acc = acc ++ (List.replicate n z.cps.toList).flatten.toArray := by
        intro n
        induction n with
        | zero => intro acc; simp
        | succ n ih =>
          intro acc; rw [List.replicate_succ, List.foldl_cons, ih, List.replicate_succ, List.flatten_cons]
          apply Array.ext'
          simp
      split
      · have : j.toNat = 0 := by omega
        rw [this]; rfl
      · split
        · rename_i hh
          simp only [Bool.or_eq_true, beq_iff_eq] at hh
          rcases hh with hh | hh
          · subst hh; simp
          · have : z.cps = #[] := by
              apply Array.eq_empty_of_size_eq_zero; exact hh
            obtain ⟨c⟩ := z
            simp only at this; subst this
            congr 1
            have : ∀ n : Nat, (List.replicate n ([] : List Nat)).flatten = [] := by
              intro n; induction n with
              | zero => rfl
              | succ n ih => rw [List.replicate_succ, List.flatten_cons, ih]; rfl
            simp [this]
        · rw [fl]; simp
    rw [e]; exact q
theorem fdiv_all {X : Cx} : OpR X (binaryOp .FloorDiv) (rI (fun _ j => j ≠ 0 ∧ j.natAbs.log2 < 9000) fun i j => .int (i.fdiv j)) := opI fun i j _ _ _ _ _ hc q => floordiv_int hc.1 q (.inl (PyProof.noPylong_of_log2 hc.2))
theorem sappend (a b : List Nat) : ((⟨a.toArray⟩ : Str) ++ ⟨b.toArray⟩) = ⟨(a ++ b).toArray⟩ := by
  show Str.append _ _ = _
  unfold Str.append
  simp
theorem slen (a : List Nat) : (⟨a.toArray⟩ : Str).length = a.length := by simp [Str.length]
theorem op_ok {G : RC} {W : WX} {X : Cx} (x : XOk G W X) (o : Op) : OpR X (binaryOp (opP o)) (rO G (op2 o)) := by
  intro pins s σ H vx vy v u Q I rv ru h
  obtain ⟨W', V', α, S, dx, dy, hr, rx, ry, ho⟩ := h
  have hK := x.K
  cases o
  case add =>
    cases dx <;> cases dy <;> first | exact False.elim ho | skip
    case int.int i j => exact op_add pins s σ H vx vy v u Q I rv ru ⟨i, j, rx, ry, ho.val hr rfl⟩
    case str.str a b =>
      have ho : Out (rD G) G W' V' α H (if a.length + b.length ≤ line then R.ok (D.str (a ++ b)) S else R.bad) Q := ho
      split at ho
      · rename_i hl
        exact op_add_str pins s σ H vx vy v u Q I rv ru ⟨_, _, rx, ry, by rw [slen, slen, ← lines]; exact hl, by rw [sappend]; exact ho.val hr rfl⟩
      · exact ho.elim
    case tup.tup a b =>
      have ho : Out (rD G) G W' V' α H (if (decide (a.length + b.length ≤ line) && !a.isEmpty) = true then R.ok (D.tup (a ++ b)) S else R.bad) Q := ho
      split at ho
      · rename_i hl
        rw [Bool.and_eq_true, decide_eq_true_eq] at hl
        obtain ⟨p, ps, e1, t1, r1⟩ := rx
        obtain ⟨q, qs, e2, t2, r2⟩ := ry
        have l1 := r1.len
        have l2 := r2.len
        refine op_catT pins s σ H vx vy v u Q I rv ru ⟨p, q, ps, qs, e1, e2, by rw [hK]; exact t1, by rw [hK]; exact t2, ?_, by rw [← l1, ← l2, ← lines]; exact hl.1, fun e => ?_, fun _ => ?_⟩
        · rintro rfl
          cases a with
          | nil => simp at hl
          | cons _ _ => simp at l1
        · refine ho.val hr ⟨p, ps, rfl, t1, ?_⟩
          subst e
          cases b with
          | nil => rw [List.append_nil]; exact r1
          | cons _ _ => simp at l2
        · exact ho.tup hr (r1.app r2)
      · exact ho.elim
    case ref.ref a b =>
      have ho : Out (rD G) G W' V' α H (match S[a]?, S[b]? with
        | some (.lst xs), some (.lst ys) => if xs.length + ys.length ≤ line then alloc (.lst (xs ++ ys)) S else .bad
        | _, _ => .bad) Q := ho
      split at ho
      · rename_i xs ys h1 h2
        split at ho
        · rename_i hl
          obtain ⟨p, o1, e1, a1, q1, ro1⟩ := hr.get h1 rx
          obtain ⟨q, o2, e2, a2, q2, ro2⟩ := hr.get h2 ry
          obtain ⟨ps, rfl, r1⟩ := ro1
          obtain ⟨qs, rfl, r2⟩ := ro2
          exact op_cat pins s σ H vx vy v u Q I rv ru ⟨p, q, ps, qs, e1, e2, q1, q2, by rw [← r1.len, ← r2.len, ← lines]; exact hl, ho.alloc hr ⟨_, rfl, r1.app r2⟩⟩
        · exact ho.elim
      · exact ho.elim
  case sub =>
    cases dx <;> cases dy <;> first | exact False.elim ho | skip
    case int.int i j => exact op_sub pins s σ H vx vy v u Q I rv ru ⟨i, j, rx, ry, ho.val hr rfl⟩
  case mul =>
    cases dx <;> cases dy <;> first | exact False.elim ho | skip
    case int.int i j =>
      have ho : Out (rD G) G W' V' α H (if mulOk i j = true then R.ok (D.int (i * j)) S else R.bad) Q := ho
      split at ho
      · rename_i hl
        exact op_mulW pins s σ H vx vy v u Q I rv ru ⟨i, j, rx, ry, (by unfold mulOk intBig at hl; exact of_decide_eq_true hl : i.natAbs.log2 + j.natAbs.log2 < 1000000), ho.val hr rfl⟩
      · exact ho.elim
    case str.int a j =>
      have ho : Out (rD G) G W' V' α H (if (decide (0 ≤ j) && decide (j ≤ 1000) && decide (a.length ≤ 1000)) = true then R.ok (.str (List.replicate j.toNat a).flatten) S else R.bad) Q := ho
      split at ho
      · rename_i hl
        simp only [Bool.and_eq_true, decide_eq_true_eq] at hl
        exact mul_strM pins s σ H vx vy v u Q I rv ru ⟨_, j, rx, ry, hl.1.1, hl.1.2, by rw [slen]; exact hl.2, ho.val hr rfl⟩
      · exact ho.elim
    case ref.int a j =>
      have ho : Out (rD G) G W' V' α H (match S[a]? with
        | some (.lst xs) => if (decide (0 ≤ j) && decide (j ≤ 1000) && decide (xs.length ≤ 1000)) = true then alloc (.lst (List.replicate j.toNat xs).flatten) S else .bad
        | _ => .bad) Q := ho
      split at ho
      · rename_i xs h1
        split at ho
        · rename_i hl
          simp only [Bool.and_eq_true, decide_eq_true_eq] at hl
          obtain ⟨p, o1, e1, a1, q1, ro1⟩ := hr.get h1 rx
          obtain ⟨ps, rfl, r1⟩ := ro1
          have l1 := r1.len
          have hz : ps.length * j.toNat ≤ 1000 * 1000 := Nat.mul_le_mul (by omega) (by omega)
          exact op_rep pins s σ H vx vy v u Q I rv ru ⟨p, j, ps, e1, ry, q1, by omega, by omega, by rw [← lines]; unfold line; omega, ho.alloc hr ⟨_, rfl, r1.rep _⟩⟩
        · exact ho.elim
      · exact ho.elim
  case fdiv =>
    cases dx <;> cases dy <;> first | exact False.elim ho | skip
    case int.int i j =>
      have ho : Out (rD G) G W' V' α H (if divOk j = true then R.ok (D.int (i.fdiv j)) S else R.bad) Q := ho
      split at ho
      · rename_i hl
        simp only [divOk, Bool.and_eq_true, decide_eq_true_eq] at hl
        exact fdiv_all pins s σ H vx vy v u Q I rv ru ⟨i, j, rx, ry, hl, ho.val hr rfl⟩
      · exact ho.elim
  case mod =>
    cases dx <;> cases dy <;> first | exact False.elim ho | skip
    case int.int i j =>
      have ho : Out (rD G) G W' V' α H (if j ≠ 0 then R.ok (D.int (i.fmod j)) S else R.bad) Q := ho
      split at ho
      · rename_i hl
        exact op_modN pins s σ H vx vy v u Q I rv ru ⟨i, j, rx, ry, hl, ho.val hr rfl⟩
      · exact ho.elim
  case pow =>
    cases dx <;> cases dy <;> first | exact False.elim ho | skip
    case int.int i j =>
      have ho : Out (rD G) G W' V' α H (if powOk i j = true then R.ok (D.int (i ^ j.toNat)) S else R.bad) Q := ho
      split at ho
      · rename_i hl
        simp only [powOk, Bool.and_eq_true, decide_eq_true_eq] at hl
        exact op_pow pins s σ H vx vy v u Q I rv ru ⟨i, j, rx, ry, ⟨hl.1.1, by omega, by omega⟩, ho.val hr rfl⟩
      · exact ho.elim
/-- an operator within its own place: n += e -/
theorem Out.kind {A B : Type} {rel : List Addr → Hp → A → B → Prop} {G : RC} {W : WX} {V : L2.St} {α : List Addr} {H : Hp} {Q : B → Hp → Prop} {c : Prop} [Decidable c] {r : R A} (h : Out rel G W V α H (if c then r else .bad) Q) : c ∧ Out rel G W V α H r Q := by
  split at h
  · exact ⟨by assumption, h⟩
  · exact h.elim

/-! ### comparisons -/
def cmP : Cm → CmpOp
  | .eq => .Eq | .ne => .NotEq | .lt => .Lt | .le => .LtE | .gt => .Gt | .ge => .GtE | .isin => .In | .notin => .NotIn
def rC (G : RC) (o : Cm) : R2 := fun x y H Q => ∃ (α : List Addr) (S : St) (dx dy : D) (b : Bool), HRel G α H S ∧ Rep G α H dx x ∧ Rep G α H dy y ∧ cmpV o dx dy S = some b ∧ Q (.bl b) H
section
variable {G : RC} {W : WX} {X : Cx}
theorem keyD_inj {a b : Key} (h : keyD a = keyD b) : a = b := by
  cases a <;> cases b <;> simp only [keyD, D.int.injEq, D.str.injEq, reduceCtorEq] at h
  · rw [h]
  · rename_i x y
    obtain ⟨x⟩ := x; obtain ⟨y⟩ := y
    have : x = y := Array.toList_inj.mp h
    rw [this]
/-- a key of the small Python is a key of the layer -/
theorem key_of {α : List Addr} {H : Hp} {k : D} {v : L2.V} (hk : isKey k = true) (r : Rep G α H k v) : ∃ q, k = keyD q ∧ v = kV q := by
  cases k <;> simp only [isKey, reduceCtorEq] at hk
  · exact ⟨.inl _, rfl, r⟩
  · rename_i s; exact ⟨.inr ⟨s.toArray⟩, by simp [keyD], r⟩
theorem look_val {α : List Addr} {H : Hp} {q : Key} : ∀ {kvs : List (D × D)} {ks : List (Key × L2.V)}, RepKs G α H kvs ks →
    (look (keyD q) kvs = none ∧ valV ks q = none) ∨ ∃ d v, look (keyD q) kvs = some d ∧ valV ks q = some v ∧ Rep G α H d v := by
  intro kvs
  induction kvs with
  | nil => intro ks h; rw [show ks = [] from h]; exact .inl ⟨rfl, rfl⟩
  | cons p r ih =>
    intro ks h
    obtain ⟨a, d⟩ := p
    obtain ⟨q', v, s, rfl, e2, h1, h2⟩ := h
    by_cases hq : q' = q
    · subst hq
      refine .inr ⟨d, v, ?_, ?_, h1⟩
      · simp only [look]; rw [if_pos e2]
      · unfold valV; simp
    · have h3 : ¬ a = keyD q := fun z => hq (keyD_inj (e2.symm.trans z))
      have e3 : look (keyD q) ((a, d) :: r) = look (keyD q) r := by simp only [look]; rw [if_neg h3]
      have e4 : valV ((q', v) :: s) q = valV s q := by unfold valV; simp [hq]
      rw [e3, e4]
      exact ih h2
theorem eq_ok (x : XOk G W X) : OpR X (compareOp .Eq) (rC G .eq) := by
  intro pins s σ H vx vy v u Q I rv ru h
  obtain ⟨α, S, dx, dy, b, hr, rx, ry, e, q⟩ := h
  simp only [cmpV, eqD] at e
  cases e1 : toPy S dx with
  | none => rw [e1] at e; cases e
  | some p =>
    cases e2 : toPy S dy with
    | none => rw [e1, e2] at e; cases e
    | some p' =>
      rw [e1, e2] at e; cases e
      obtain ⟨d1, s1⟩ := toPy_dp hr e1 rx
      obtain ⟨d2, s2⟩ := toPy_dp hr e2 ry
      exact op_eqD (by have := x.un; omega) pins s σ H vx vy v u Q I rv ru ⟨p, p', by rw [x.K]; exact d1, by rw [x.K]; exact d2, s1, s2, q⟩
theorem ne_ok (x : XOk G W X) : OpR X (compareOp .NotEq) (rC G .ne) := by
  intro pins s σ H vx vy v u Q I rv ru h
  obtain ⟨α, S, dx, dy, b, hr, rx, ry, e, q⟩ := h
  simp only [cmpV, eqD] at e
  cases e1 : toPy S dx with
  | none => rw [e1] at e; cases e
  | some p =>
    cases e2 : toPy S dy with
    | none => rw [e1, e2] at e; cases e
    | some p' =>
      rw [e1, e2] at e; cases e
      obtain ⟨d1, s1⟩ := toPy_dp hr e1 rx
      obtain ⟨d2, s2⟩ := toPy_dp hr e2 ry
      exact op_neD (by have := x.un; omega) pins s σ H vx vy v u Q I rv ru ⟨p, p', by rw [x.K]; exact d1, by rw [x.K]; exact d2, s1, s2, q⟩
theorem ltD_ok (x : XOk G W X) {pins : List (Addr × Obj)} {s : Shared} {σ : L2.St} {H : Hp} {vx vy : L2.V} {v u : Value} {Q : VK} (I : L2.Inv X pins σ H s) (rv : RelV vx v) (ru : RelV vy u) {α : List Addr} {S : St} {dx dy : D} {b : Bool}
    (hr : HRel G α H S) (rx : Rep G α H dx vx) (ry : Rep G α H dy vy) (e : ltD S dx dy = some b) (q : Q (.bl b) H) : wpAny (model X.prog X.w) X.A (compareOp .Lt v u) (EP X pins σ Q) X.xe s := by
  simp only [ltD] at e
  cases e1 : toPy S dx with
  | none => rw [e1] at e; cases e
  | some p =>
    cases e2 : toPy S dy with
    | none => rw [e1, e2] at e; cases e
    | some p' =>
      rw [e1, e2] at e
      simp only [Option.bind_some] at e
      obtain ⟨d1, s1⟩ := toPy_dp hr e1 rx
      obtain ⟨d2, s2⟩ := toPy_dp hr e2 ry
      have hq : p ≠ .none ∧ (if PySem.W.alike p p' = true then some (PySem.W.dataLt p p') else none) = some b := by
        cases p <;> first | (cases e; done) | exact ⟨(fun z => nomatch z), e⟩
      have hp : PySem.W.alike p p' = true ∧ PySem.W.dataLt p p' = b := by
        obtain ⟨_, e⟩ := hq
        split at e
        · rename_i h; exact ⟨h, Option.some.inj e⟩
        · cases e
      obtain ⟨as, r1⟩ := Dp.reads I p vx v (by rw [x.K]; exact d1) rv
      obtain ⟨bs, r2⟩ := Dp.reads I p' vy u (by rw [x.K]; exact d2) ru
      have hu : X.A.units + min p.depth p'.depth < cLine := SeqAt.room_of_shaped s1 (by have := x.un; omega)
      have rc := PySem.W.rcLt_alike p p' X.A s v u as bs r1 r2 hp.1 hq.1 hu
      show wpAny _ _ (richCompare .Lt v u) _ _ _
      exact rc _ _ _ _ ⟨.bl _, H, I, rfl, by rw [hp.2]; exact q⟩
theorem lt_ok (x : XOk G W X) : OpR X (compareOp .Lt) (rC G .lt) := by
  intro pins s σ H vx vy v u Q I rv ru h
  obtain ⟨α, S, dx, dy, b, hr, rx, ry, e, q⟩ := h
  simp only [cmpV] at e
  split at e
  · cases e; exact op_lt pins s σ H vx vy v u Q I rv ru ⟨_, _, rx, ry, q⟩
  · exact ltD_ok x I rv ru hr rx ry e q
theorem le_ok (x : XOk G W X) : OpR X (compareOp .LtE) (rC G .le) := by
  intro pins s σ H vx vy v u Q I rv ru h
  obtain ⟨α, S, dx, dy, b, hr, rx, ry, e, q⟩ := h
  simp only [cmpV] at e
  split at e
  · cases e; exact op_le pins s σ H vx vy v u Q I rv ru ⟨_, _, rx, ry, q⟩
  · cases e
theorem gt_ok (x : XOk G W X) : OpR X (compareOp .Gt) (rC G .gt) := by
  intro pins s σ H vx vy v u Q I rv ru h
  obtain ⟨α, S, dx, dy, b, hr, rx, ry, e, q⟩ := h
  simp only [cmpV] at e
  split at e
  · cases e; exact op_gt pins s σ H vx vy v u Q I rv ru ⟨_, _, rx, ry, q⟩
  · cases e
theorem ge_ok (x : XOk G W X) : OpR X (compareOp .GtE) (rC G .ge) := by
  intro pins s σ H vx vy v u Q I rv ru h
  obtain ⟨α, S, dx, dy, b, hr, rx, ry, e, q⟩ := h
  simp only [cmpV] at e
  split at e
  · cases e; exact op_ge pins s σ H vx vy v u Q I rv ru ⟨_, _, rx, ry, q⟩
  · cases e
theorem isIn_ok (x : XOk G W X) (neg : Bool) {pins : List (Addr × Obj)} {s : Shared} {σ : L2.St} {H : Hp} {vx vy : L2.V} {v u : Value} {Q : VK} (I : L2.Inv X pins σ H s) (rv : RelV vx v) (ru : RelV vy u) {α : List Addr} {S : St} {dx dy : D} {b : Bool}
    (hr : HRel G α H S) (rx : Rep G α H dx vx) (ry : Rep G α H dy vy) (e : isIn S dx dy = some b) (q : Q (.bl (if neg then !b else b)) H) : wpAny (model X.prog X.w) X.A (compareOp (if neg then .NotIn else .In) v u) (EP X pins σ Q) X.xe s := by
  have data : ∀ (a : PyData) (l : List PyData) (t : Bool), toPy S dx = some a → Dp G.K H vy (if t then .tuple l else .list l) → SeqAt.shaped (if t then .tuple l else .list l) = true → Q (.bl (if neg then !(l.any fun z => PyData.eqv z a) else (l.any fun z => PyData.eqv z a))) H →
      wpAny (model X.prog X.w) X.A (compareOp (if neg then .NotIn else .In) v u) (EP X pins σ Q) X.xe s := by
    intro a l t e1 d2 s2 q
    obtain ⟨d1, s1⟩ := toPy_dp hr e1 rx
    obtain ⟨as, r1⟩ := Dp.reads I a vx v (by rw [x.K]; exact d1) rv
    obtain ⟨bs, r2⟩ := Dp.reads I _ vy u (by rw [x.K]; exact d2) ru
    have hu : X.A.units + 65 < cLine := by have := x.un; omega
    cases t with
    | true =>
      cases neg with
      | true => exact SeqAt.notIn_tuple_reads r2 r1 (SeqAt.canLay_of_shaped s2) (SeqAt.canLay_of_shaped s1) (PyProof.Rows.room_in_shaped s1 hu) ⟨.bl _, H, I, rfl, q⟩
      | false => exact SeqAt.in_tuple_reads r2 r1 (SeqAt.canLay_of_shaped s2) (SeqAt.canLay_of_shaped s1) (PyProof.Rows.room_in_shaped s1 hu) ⟨.bl _, H, I, rfl, q⟩
    | false =>
      cases neg with
      | true => exact SeqAt.notIn_list_reads r2 r1 (SeqAt.canLay_of_shaped s2) (SeqAt.canLay_of_shaped s1) (PyProof.Rows.room_in_shaped s1 hu) ⟨.bl _, H, I, rfl, q⟩
      | false => exact SeqAt.in_list_reads r2 r1 (SeqAt.canLay_of_shaped s2) (SeqAt.canLay_of_shaped s1) (PyProof.Rows.room_in_shaped s1 hu) ⟨.bl _, H, I, rfl, q⟩
  cases dy <;> first | (cases e; done) | skip
  case str t =>
    simp only [isIn] at e
    split at e
    · cases e
      cases neg with
      | true => exact op_notIn_sign pins s σ H vx vy v u Q I rv ru ⟨_, _, rx, ry, by simpa using q⟩
      | false => exact op_in_sign pins s σ H vx vy v u Q I rv ru ⟨_, _, rx, ry, by simpa using q⟩
    · cases e
  case tup ds =>
    simp only [isIn] at e
    cases e1 : toPy S dx with
    | none => rw [e1] at e; cases e
    | some a =>
      cases e2 : D.pys (pyRef 5 S) ds with
      | none => rw [e1, e2] at e; cases e
      | some l =>
        rw [e1, e2] at e
        simp only [Option.bind_some] at e
        split at e
        · rename_i h
          cases e
          obtain ⟨p, vs, e3, e4, e5⟩ := ry
          exact data a l true e1 (by rw [e3]; exact .tup e4 (dps_of hr 5 (dp_ref hr 5) ds l vs e2 e5)) h q
        · cases e
  case ref i =>
    simp only [isIn] at e
    split at e
    · rename_i kvs hS
      split at e
      · rename_i hk
        cases e
        obtain ⟨p, o, rfl, _, hH, ks, rfl, rk, _⟩ := hr.get hS ry
        obtain ⟨k, rfl, rfl⟩ := key_of hk rx
        obtain rfl : u = Value.ref p := ru
        have hu : X.A.units + 1 < cLine := by have := x.un; omega
        have eb : (look (keyD k) kvs).isSome = (valV ks k).isSome := by
          rcases look_val (q := k) rk with ⟨h1, h2⟩ | ⟨d, w, h1, h2, _⟩
          · rw [h1, h2]; rfl
          · rw [h1, h2]; rfl
        cases neg with
        | true => exact d_notIn hu I (DGet.k hH) rv fun s' I' => ⟨.bl _, H, I', rfl, by rw [← eb]; exact q⟩
        | false => exact d_in hu I (DGet.k hH) rv fun s' I' => ⟨.bl _, H, I', rfl, by rw [← eb]; exact q⟩
      · cases e
    · rename_i xs hS
      cases e1 : toPy S dx with
      | none => rw [e1] at e; cases e
      | some a =>
        cases e2 : D.pys (pyRef 5 S) xs with
        | none => rw [e1, e2] at e; cases e
        | some l =>
          rw [e1, e2] at e
          simp only [Option.bind_some] at e
          split at e
          · rename_i h
            cases e
            obtain ⟨p, o, rfl, _, hH, vs, rfl, rk⟩ := hr.get hS ry
            exact data a l false e1 (.lst (SqL.of hH) (dps_of hr 5 (dp_ref hr 5) xs l vs e2 rk)) h q
          · cases e
    · cases e
theorem cm_ok (x : XOk G W X) (o : Cm) : OpR X (compareOp (cmP o)) (rC G o) := by
  cases o with
  | eq => exact eq_ok x
  | ne => exact ne_ok x
  | lt => exact lt_ok x
  | le => exact le_ok x
  | gt => exact gt_ok x
  | ge => exact ge_ok x
  | isin =>
    intro pins s σ H vx vy v u Q I rv ru h
    obtain ⟨α, S, dx, dy, b, hr, rx, ry, e, q⟩ := h
    exact isIn_ok x false I rv ru hr rx ry e q
  | notin =>
    intro pins s σ H vx vy v u Q I rv ru h
    obtain ⟨α, S, dx, dy, b, hr, rx, ry, e, q⟩ := h
    simp only [cmpV] at e
    cases e1 : isIn S dx dy with
    | none => rw [e1] at e; cases e
    | some c =>
      rw [e1] at e; cases e
      exact isIn_ok x true I rv ru hr rx ry e1 q
end
end Mi
/-! # Mi2c: truth, subscripts, slices, built-ins keep the relation. -/
namespace Mi
open PySem PySem.Spec PyProof.Rows L2
section
variable {G : RC} {W : WX} {V : L2.St} {α β : List Addr} {H H' : Hp} {S : St}
theorem Reps.emp {ds : List D} {vs : List L2.V} (r : Reps G α H ds vs) : ds.isEmpty = vs.isEmpty := by
  have := r.len
  cases ds <;> cases vs <;> simp_all
theorem truth_tv {d : D} {v : L2.V} {k : Bool} (hr : HRel G α H S) (e : truth S d = some k) (r : Rep G α H d v) : TruV G.K v H k := by
  cases d with
  | non => cases e; rw [show v = .non from r]; exact rfl
  | bl b => cases e; rw [show v = .bl _ from r]; exact rfl
  | int i => cases e; rw [show v = .int i from r]; exact rfl
  | str s =>
    rw [show v = .str ⟨s.toArray⟩ from r]
    simp only [truth] at e
    split at e
    · rename_i h
      cases e
      refine ⟨by rw [slen, ← lines]; exact h, ?_⟩
      rw [slen]
      cases s with
      | nil => rfl
      | cons a b =>
        have : ((List.length (a :: b) : Nat) : Int) ≠ 0 := by simp; omega
        simp [this]
        omega
    · cases e
  | tup ds =>
    cases e
    obtain ⟨a, vs, rfl, t, rs⟩ := r
    exact .inr (.inl ⟨vs, t, by rw [rs.emp]⟩)
  | frz ds =>
    cases e
    obtain ⟨a, vs, rfl, t, rs⟩ := r
    exact .inl ⟨vs, t.sq, by rw [rs.emp]⟩
  | ref i =>
    simp only [truth] at e
    split at e
    · rename_i xs hS
      cases e
      obtain ⟨p, o, rfl, _, hH, vs, rfl, rs⟩ := hr.get hS r
      exact .inl ⟨vs, SqL.of hH, by rw [rs.emp]⟩
    · cases e
  | exc _ _ => cases e
theorem Reps.atI {ds : List D} {vs : List L2.V} {i : Int} {d : D} (r : Reps G α H ds vs) (e : Mi.atI ds i = some d) : ∃ v, L2.atI vs i = some v ∧ Rep G α H d v := by
  unfold Mi.atI L2.atI at e
  unfold L2.atI
  rw [← r.len]
  cases q : ixN ds.length i with
  | none => rw [q] at e; cases e
  | some j =>
    rw [q] at e
    obtain ⟨v, h1, h2⟩ := r.get (i := j) (by simpa using e)
    exact ⟨v, by simpa using h1, h2⟩
end

/-! ### subscripts -/
def rIxM (G : RC) : R2 := fun x y H Q => ∃ (α : List Addr) (S : St) (dx dy d : D), HRel G α H S ∧ Rep G α H dx x ∧ Rep G α H dy y ∧ ixV S dx dy = some d ∧ ∀ v, Rep G α H d v → Q v H
section
variable {G : RC} {W : WX} {X : Cx}
theorem ixr_ok (x : XOk G W X) : IxR X (rIxM G) := by
  intro value slice pins s σ H vx vy v u Q I rv ru h hs
  obtain ⟨α, S, dx, dy, d, hr, rx, ry, e, q⟩ := h
  have hK := x.K
  have seqT : ∀ (ds : List D) (a : Addr) (vs : List L2.V) (i : Int), dy = .int i → Mi.atI ds i = some d → vx = .ref a → SqT G.K H a vs → Reps G α H ds vs → wpAny (model X.prog X.w) X.A (subscriptTail value slice v u) (EP X pins σ Q) X.xe s := by
    intro ds a vs i e1 e2 e3 t rs
    obtain ⟨w, h1, h2⟩ := rs.atI e2
    subst e1
    exact ix_tup value slice pins s σ H vx vy v u Q I rv ru ⟨a, vs, i, w, e3, ry, by rw [hK]; exact t, h1, q w h2⟩ hs
  have seqL : ∀ (ds : List D) (a : Addr) (vs : List L2.V) (i : Int), dy = .int i → Mi.atI ds i = some d → vx = .ref a → SqL G.K H a vs → Reps G α H ds vs → wpAny (model X.prog X.w) X.A (subscriptTail value slice v u) (EP X pins σ Q) X.xe s := by
    intro ds a vs i e1 e2 e3 t rs
    obtain ⟨w, h1, h2⟩ := rs.atI e2
    subst e1
    exact ix_list value slice pins s σ H vx vy v u Q I rv ru ⟨a, vs, i, w, e3, ry, by rw [hK]; exact t, h1, q w h2⟩ hs
  cases dx <;> first | (cases e; done) | skip
  case str t =>
    cases dy <;> first | (cases e; done) | skip
    rename_i i
    simp only [ixV] at e
    split at e
    · rename_i hl
      cases q2 : Mi.atI t i with
      | none => rw [q2] at e; cases e
      | some c =>
        rw [q2] at e; cases e
        exact ix_str value slice pins s σ H vx vy v u Q I rv ru ⟨_, i, c, rx, ry, by rw [slen, ← lines]; exact hl, q2, q _ rfl⟩ hs
    · cases e
  case tup ds =>
    cases dy <;> first | (cases e; done) | skip
    rename_i i
    obtain ⟨a, vs, e1, t, rs⟩ := rx
    exact seqT ds a vs i rfl e e1 t rs
  case frz ds =>
    cases dy <;> first | (cases e; done) | skip
    rename_i i
    obtain ⟨a, vs, e1, t, rs⟩ := rx
    exact seqL ds a vs i rfl e e1 t.sq rs
  case ref r =>
    simp only [ixV] at e
    split at e
    · rename_i xs hS
      split at e
      · rename_i i
        obtain ⟨p, o, e1, _, hH, vs, rfl, rs⟩ := hr.get hS rx
        exact seqL xs p vs i rfl e e1 (SqL.of hH) rs
      · cases e
    · rename_i kvs hS
      split at e
      · rename_i hk
        obtain ⟨p, o, rfl, _, hH, ks, rfl, rk, _⟩ := hr.get hS rx
        obtain ⟨k, rfl, rfl⟩ := key_of hk ry
        obtain rfl : v = Value.ref p := rv
        have hu : X.A.units + 1 < cLine := by have := x.un; omega
        rcases look_val (q := k) rk with ⟨h1, h2⟩ | ⟨d', w, h1, h2, h3⟩
        · rw [h1] at e; cases e
        · rw [h1] at e; cases e
          have g : DGet H p (kV k) (some w) := by rw [← h2]; exact DGet.k hH
          exact tail_any (dict_typeIs I g) PySem.F.slot_dict_getitem.lookup (d_getItem hu I g ru fun w' s' I' rw' => ⟨w, H, I', rw', q w h3⟩) hs
      · cases e
    · cases e

/-! ### slices -/
theorem cut_reps {α : List Addr} {H : Hp} {ds : List D} {vs : List L2.V} {l h : Option Int} (r : Reps G α H ds vs) : Reps G α H (L2cut ds l h) (cutV vs l h) := by
  unfold L2cut cutV
  rw [r.len]
  exact (r.drop _).take _
def rSlM (G : RC) : L2.V → Option Int → Option Int → Hp → VK → Prop := fun x lo hi H Q => ∃ (W : WX) (V : L2.St) (α : List Addr) (S : St) (dx dl dh : D), HRel G α H S ∧ Rep G α H dx x ∧ part dl = some lo ∧ part dh = some hi ∧ Out (rD G) G W V α H (slV dx dl dh S) Q
theorem sl_ok (x : XOk G W X) : SlR X (rSlM G) := by
  intro pins s σ H vx v vl vu lo hi sl Q I rv hs pl pu h
  obtain ⟨W', V', α, S, dx, dl, dh, hr, rx, e1, e2, ho⟩ := h
  have hK := x.K
  simp only [slV, e1, e2] at ho
  cases dx <;> first | exact False.elim ho | skip
  case str t =>
    obtain ⟨hl, ho⟩ := ho.kind
    exact sl_str pins s σ H vx v vl vu lo hi sl Q I rv hs pl pu ⟨_, rx, by rw [slen, ← lines]; exact hl, by
      have := ho.val hr (b := .str (cutS ⟨t.toArray⟩ lo hi)) (by
        show L2.V.str _ = L2.V.str _
        unfold cutS
        rw [slen])
      exact this⟩
  case tup ds =>
    obtain ⟨a, vs, rfl, t, rs⟩ := rx
    simp only at ho
    split at ho
    · exact ho.elim
    · rename_i hw
      exact sl_tup pins s σ H _ v vl vu lo hi sl Q I rv hs pl pu ⟨a, vs, rfl, by rw [hK]; exact t, by rw [← rs.len]; exact hw, ho.tup hr (cut_reps rs)⟩
  case ref r =>
    simp only at ho
    split at ho
    · rename_i xs hS
      obtain ⟨p, o, rfl, _, hH, vs, rfl, rs⟩ := hr.get hS rx
      exact sl_list pins s σ H _ v vl vu lo hi sl Q I rv hs pl pu ⟨p, vs, rfl, SqL.of hH, ho.alloc hr ⟨_, rfl, cut_reps rs⟩⟩
    · exact ho.elim

/-! ### built-in functions -/
def rBi (G : RC) (b : Bi) : List L2.V → Hp → VK → Prop := fun xs H Q => ∃ (W : WX) (V : L2.St) (α : List Addr) (S : St) (dx : D) (x : L2.V), xs = [x] ∧ HRel G α H S ∧ Rep G α H dx x ∧ Out (rD G) G W V α H (biV b dx S) Q
def biF : Bi → Value
  | .abs => .builtin "abs" | .all => .builtin "all" | .any => .builtin "any" | .len => .builtin "len"
  | .int => .type "int" | .list => .type "list" | .tuple => .type "tuple" | .str => .type "str"
theorem listOf_sq {α : List Addr} {H : Hp} {S : St} {d : D} {xs : List D} {x : L2.V} (hr : HRel G α H S) (e : listOf S d = some xs) (r : Rep G α H d x) : ∃ a vs, x = .ref a ∧ Reps G α H xs vs ∧ (SqL G.K H a vs ∨ (SqT G.K H a vs ∧ d = .tup xs)) := by
  cases d <;> first | (cases e; done) | skip
  case tup ds => cases e; obtain ⟨a, vs, e1, t, rs⟩ := r; exact ⟨a, vs, e1, rs, .inr ⟨t, rfl⟩⟩
  case frz ds => cases e; obtain ⟨a, vs, e1, t, rs⟩ := r; exact ⟨a, vs, e1, rs, .inl t.sq⟩
  case ref i =>
    simp only [listOf] at e
    split at e
    · rename_i ys hS
      cases e
      obtain ⟨p, o, e1, _, hH, vs, rfl, rs⟩ := hr.get hS r
      exact ⟨p, vs, e1, rs, .inl (SqL.of hH)⟩
    · cases e
theorem allBl_vs {α : List Addr} {H : Hp} : ∀ {xs : List D} {bs : List Bool} {vs : List L2.V}, allBl xs = some bs → Reps G α H xs vs → vs = bs.map L2.V.bl
  | [], bs, vs, e, r => by cases e; exact r
  | d :: xs, bs, vs, e, r => by
    obtain ⟨v, ws, rfl, h1, h2⟩ := r
    cases d <;> first | (cases e; done) | skip
    rename_i b
    simp only [allBl] at e
    cases q : allBl xs with
    | none => rw [q] at e; cases e
    | some l =>
      rw [q] at e; cases e
      rw [show v = .bl b from h1, allBl_vs q h2]; rfl
theorem bi_ok (x : XOk G W X) (hc : X.calm = true) (b : Bi) : CallR X (biF b) (rBi G b) := by
  intro pins s σ H xs us Q I ru h
  obtain ⟨W', V', α, S, dx, vx, rfl, hr, rx, ho⟩ := h
  have hK := x.K
  cases b
  case abs =>
    cases dx <;> first | exact False.elim ho | skip
    rename_i i
    exact call_abs pins s σ H _ us Q I ru ⟨i, by rw [show vx = .int i from rx], ho.val hr rfl⟩
  case int =>
    cases dx <;> first | exact False.elim ho | skip
    · rename_i b
      refine call_int1 pins s σ H _ us Q I ru (.inr ⟨b, by rw [show vx = .bl b from rx], ?_⟩)
      cases b <;> exact ho.val hr rfl
    · rename_i i
      exact call_int1 pins s σ H _ us Q I ru (.inl ⟨i, by rw [show vx = .int i from rx], ho.val hr rfl⟩)
  case str =>
    cases dx <;> first | exact False.elim ho | skip
    rename_i i
    obtain ⟨hl, ho⟩ := ho.kind
    exact call_str_int pins s σ H _ us Q I ru ⟨i, by rw [show vx = .int i from rx], hl, ho.val hr (by show L2.V.str _ = L2.V.str _; unfold digits; simp)⟩
  case len =>
    have seq : ∀ (ds : List D), listOf S dx = some ds → Out (rD G) G W' V' α H (.ok (.int ds.length) S) Q → wpAny (model X.prog X.w) X.A (call (biF .len) us) (EP X pins σ Q) X.xe s := by
      intro ds e ho
      obtain ⟨a, vs, e1, rs, t⟩ := listOf_sq hr e rx
      refine call_len_seq pins s σ H _ us Q I ru ⟨a, vs, by rw [e1], ?_, by rw [← rs.len]; exact ho.val hr rfl⟩
      rw [hK]
      exact t.imp id fun t => t.1
    cases dx
    case str t =>
      obtain ⟨hl, ho⟩ := Out.kind ho
      exact call_len_str pins s σ H _ us Q I ru ⟨⟨t.toArray⟩, by rw [show vx = .str ⟨t.toArray⟩ from rx], by rw [slen, ← lines]; exact hl, by rw [slen]; exact ho.val hr rfl⟩
    all_goals first
      | exact seq _ rfl ho
      | (simp only [biV] at ho; split at ho; (exact seq _ (by assumption) ho); (exact ho.elim))
  case list =>
    simp only [biV] at ho
    split at ho
    · rename_i ds e
      obtain ⟨a, vs, e1, rs, t⟩ := listOf_sq hr e rx
      refine call_list_of pins s σ H _ us Q I ru ⟨a, vs, by rw [e1], ?_, ho.alloc hr ⟨_, rfl, rs⟩⟩
      rw [hK]
      exact t.imp id fun t => t.1
    · exact ho.elim
  case tuple =>
    simp only [biV] at ho
    split at ho
    · rename_i ds e
      obtain ⟨a, vs, e1, rs, t⟩ := listOf_sq hr e rx
      refine call_tuple_of pins s σ H _ us Q I ru ⟨a, vs, by rw [e1], ?_⟩
      rw [hK]
      rcases t with t | ⟨t, ed⟩
      · exact .inl ⟨t, ho.tup hr rs⟩
      · exact .inr ⟨t, ho.val hr ⟨a, vs, rfl, t, rs⟩⟩
    · exact ho.elim
  case all =>
    cases dx <;> first | exact False.elim ho | skip
    simp only [biV] at ho
    split at ho
    · rename_i ds hS
      split at ho
      · rename_i bs hb
        obtain ⟨p, o, rfl, _, hH, vs, rfl, rs⟩ := hr.get hS rx
        have := allBl_vs hb rs
        subst this
        exact cr_all hc pins s σ H _ us Q I ru ⟨p, bs, rfl, SqL.of hH, ho.val hr rfl⟩
      · exact ho.elim
    · exact ho.elim
  case any =>
    cases dx <;> first | exact False.elim ho | skip
    simp only [biV] at ho
    split at ho
    · rename_i ds hS
      split at ho
      · rename_i bs hb
        obtain ⟨p, o, rfl, _, hH, vs, rfl, rs⟩ := hr.get hS rx
        have := allBl_vs hb rs
        subst this
        exact cr_any hc pins s σ H _ us Q I ru ⟨p, bs, rfl, SqL.of hH, ho.val hr rfl⟩
      · exact ho.elim
    · exact ho.elim
end

/-! ### isinstance -/
def tyN : Ty → String
  | .int => "int" | .bool => "bool" | .str => "str" | .tup => "tuple" | .lst => "list" | .dct => "dict" | .own _ => "object"
theorem kit_all : ∀ (a : String) (t : Ty) (r : Bool), (a = "NoneType" ∨ a = "bool" ∨ a = "int" ∨ a = "str" ∨ a = "tuple" ∨ a = "list") → (match t with
    | .own _ => none
    | t => if a = "bool" then some (decide (t = .bool) || decide (t = .int)) else some (decide (a = tyN t))) = some r → kitB a (tyN t) = some r := by
  have key : ∀ a ∈ ["NoneType", "bool", "int", "str", "tuple", "list"], ∀ t ∈ [Ty.int, .bool, .str, .tup, .lst, .dct], kitB a (tyN t) = (if a = "bool" then some (decide (t = .bool) || decide (t = .int)) else some (decide (a = tyN t))) := by decide +kernel
  intro a t r ha e
  have ha' : a ∈ ["NoneType", "bool", "int", "str", "tuple", "list"] := by simpa using ha
  cases t <;> first | (cases e; done) | (rw [key a ha' _ (by simp)]; exact e)
end Mi
/-! # Mi2d: what is walked, comprehensions. -/
namespace Mi
open PySem PySem.Spec PyProof.Rows L2

/-! ### what is walked -/
/-- J walks the items ds, while the list stands still -/
structure Wk (G : RC) (α : List Addr) (H : Hp) (p : List D × Option Nat) (J : L2.It) : Prop where
  go : ∀ α' H' S', Ext α H α' H' → HRel G α' H' S' → still p.1 p.2 S' = true → ∀ (i : Nat) (d : D), p.1[i]? = some d → J.go i H' ∧ ∀ x H'', J.yld i H' x H'' → H'' = H' ∧ Rep G α' H' d x
  stop : ∀ α' H' S', Ext α H α' H' → HRel G α' H' S' → still p.1 p.2 S' = true → J.stop p.1.length H'
theorem Wk.ext {G : RC} {α β : List Addr} {H H' : Hp} {p : List D × Option Nat} {J : L2.It} (w : Wk G α H p J) (e : Ext α H β H') : Wk G β H' p J :=
  ⟨fun a h s e2 => w.go a h s (e.trans e2), fun a h s e2 => w.stop a h s (e.trans e2)⟩
def tI (G : RC) (W : WX) (hx : HX) (m : Env → St → R (List D × Option Nat)) : TI := fun V H R => ∃ α σ S, HRel G α H S ∧ ERel G hx α H σ V ∧ Out (Wk G) G W V α H (m σ S) R
def evalIt (P : Pg) (cl mk : Cl) (k : It) (args : List IE) (σ : Env) (S : St) : R (List D × Option Nat) := (evalEs P cl mk args σ S).bind fun xs S => match itV k xs S with
  | none => .bad
  | some p => .ok p S
section
variable {G : RC} {W : WX} {hx : HX} {X : Cx} {P : Pg} {cl mk : Cl} {tg : Expr}
theorem sqt_uni {α : List Addr} {H : Hp} {K : PySem.W.Frag} {a : Addr} {xs ys : List L2.V} {X : Cx} {pins : List (Addr × Obj)} {σ : L2.St} {s : Shared} (I : L2.Inv X pins σ H s) (h : SqT X.K H a xs) (h' : SqT X.K H a ys) : xs = ys := I.tuple_inj h h'
/-- the layer's walks over what the small Python walks -/
theorem wk_list {α : List Addr} {H : Hp} {S : St} {i : Nat} {xs : List D} {a : Addr} (hS : S[i]? = some (.lst xs)) (ha : α[i]? = some a) : Wk G α H (xs, some i) (Itl G.K a) := by
  have at_ : ∀ α' H' S', Ext α H α' H' → HRel G α' H' S' → still xs (some i) S' = true → ∃ vs, H' a = some (.lst vs) ∧ Reps G α' H' xs vs := by
    intro α' H' S' e hr st
    obtain ⟨⟨β, e1, _⟩, _⟩ := e
    have ha' : α'[i]? = some a := by
      rw [e1, List.getElem?_append_left (List.getElem?_eq_some_iff.mp ha).1]; exact ha
    obtain ⟨ho, h1, vs, rfl, rs⟩ := hr.at_ i _ a (of_decide_eq_true st) ha'
    exact ⟨vs, h1, rs⟩
  refine ⟨fun α' H' S' e hr st j d hj => ?_, fun α' H' S' e hr st => ?_⟩
  · obtain ⟨vs, h1, rs⟩ := at_ α' H' S' e hr st
    obtain ⟨v, h2, h3⟩ := rs.get hj
    refine ⟨⟨vs, v, SqL.of h1, h2⟩, fun x H'' y => ?_⟩
    obtain ⟨e2, q⟩ := y
    have := q vs (SqL.of h1)
    rw [h2] at this; cases this
    exact ⟨e2, h3⟩
  · obtain ⟨vs, h1, rs⟩ := at_ α' H' S' e hr st
    exact ⟨vs, SqL.of h1, by rw [← rs.len]; exact Nat.le_refl _⟩
theorem wk_tup {α : List Addr} {H : Hp} {S : St} {xs : List D} {a : Addr} {vs : List L2.V} (hr0 : HRel G α H S) (t : SqT G.K H a vs) (rs : Reps G α H xs vs) : Wk G α H (xs, none) (Itt G.K a) := by
  refine ⟨fun α' H' S' e hr st j d hj => ?_, fun α' H' S' e hr st => ?_⟩
  · have k := e.toKeep hr0
    obtain ⟨v, h2, h3⟩ := rs.get hj
    refine ⟨⟨vs, v, k.sqt t, h2⟩, fun x H'' y => ?_⟩
    obtain ⟨e2, q⟩ := y
    have := q vs (k.sqt t)
    rw [h2] at this; cases this
    exact ⟨e2, Rep.keep k _ _ h3⟩
  · exact ⟨vs, (e.toKeep hr0).sqt t, by rw [← rs.len]; exact Nat.le_refl _⟩
theorem wk_frz {α : List Addr} {H : Hp} {S : St} {xs : List D} {a : Addr} {vs : List L2.V} (hr0 : HRel G α H S) (t : FzL G.K H a vs) (rs : Reps G α H xs vs) : Wk G α H (xs, none) (Itl G.K a) := by
  refine ⟨fun α' H' S' e hr st j d hj => ?_, fun α' H' S' e hr st => ?_⟩
  · have k := e.toKeep hr0
    obtain ⟨v, h2, h3⟩ := rs.get hj
    refine ⟨⟨vs, v, (k.fzl t).sq, h2⟩, fun x H'' y => ?_⟩
    obtain ⟨e2, q⟩ := y
    have := q vs (k.fzl t).sq
    rw [h2] at this; cases this
    exact ⟨e2, Rep.keep k _ _ h3⟩
  · exact ⟨vs, ((e.toKeep hr0).fzl t).sq, by rw [← rs.len]; exact Nat.le_refl _⟩
theorem wk_str {α : List Addr} {H : Hp} {t : List Nat} : Wk G α H (t.map fun c => .str [c], none) (Its ⟨t.toArray⟩) := by
  refine ⟨fun α' H' S' e hr st j d hj => ?_, fun α' H' S' e hr st => ?_⟩
  · simp only [List.getElem?_map] at hj
    cases q : t[j]? with
    | none => rw [q] at hj; cases hj
    | some c =>
      rw [q] at hj; cases hj
      refine ⟨?_, fun x H'' y => ?_⟩
      · show j < t.toArray.size
        rw [List.size_toArray]; exact (List.getElem?_eq_some_iff.mp q).1
      · obtain ⟨e2, c', h1, h2⟩ := y
        have h1' : t[j]? = some c' := by simpa using h1
        rw [q] at h1'; cases h1'
        exact ⟨e2, h2⟩
  · show t.toArray.size ≤ (t.map _).length
    simp
theorem wk_range {α : List Addr} {H : Hp} {lo : Int} {n : Nat} : Wk G α H ((List.range n).map fun i => .int (lo + (i : Nat)), none) (Itr lo n) := by
  refine ⟨fun α' H' S' e hr st j d hj => ?_, fun α' H' S' e hr st => ?_⟩
  · simp only [List.getElem?_map, List.getElem?_range] at hj
    by_cases hl : j < n
    · rw [List.getElem?_range hl] at hj
      cases hj
      refine ⟨hl, fun x H'' y => ?_⟩
      obtain ⟨e2, h2⟩ := y
      exact ⟨e2, h2⟩
    · have : (List.range n)[j]? = none := by simp; omega
      rw [this] at hj; cases hj
  · show n ≤ ((List.range n).map _).length
    simp
theorem s_itval (x : XOk G W X) {e : Expr} {ie : IE} (h : PE X e (tM G W hx (evalE P cl mk ie))) : PI X tg e (tI G W hx (evalIt P cl mk .val [ie])) := by
  refine ⟨fun pins s V H R I q => ?_⟩
  obtain ⟨α, σ, S, hr, he, ho⟩ := q
  have hK := x.K
  have ho : Out (Wk G) G W V α H ((evalE P cl mk ie σ S).bind fun d S => match itemsOf S d with
      | none => .bad
      | some p => .ok p S) R := by
    have e : evalIt P cl mk .val [ie] σ S = (evalE P cl mk ie σ S).bind fun d S => match itemsOf S d with
      | none => .bad
      | some p => .ok p S := by
      unfold evalIt
      simp only [evalEs]
      cases evalE P cl mk ie σ S <;> rfl
    rw [← e]; exact ho
  refine thn (h.run pins s V H _ I ⟨α, σ, S, hr, he, ho.bind⟩) fun u s1 ⟨v, H1, I1, r1, α1, d, S1, e1, hr1, rd, q1⟩ => ?_
  have fin : ∀ (o : Obj) (J : L2.It) (tn : Nat → Heap → Prop) (p : List D × Option Nat), Out (Wk G) G W V α1 H1 (.ok p S1) R → Wk G α1 H1 p J → Turn X.prog X.w X.K tg J [s1.heap.objs.size] s1.heap.objs.size tn → tn 0 (s1.heap.push o) →
      PIE X pins V tg R (.ref s1.heap.objs.size) { s1 with heap := s1.heap.push o } := by
    intro o J tn p h1 h2 T st
    exact pi_one (tk := s1.toks) I1 o T st (h1.val hr1 h2)
  have lst : ∀ (a : Addr) (vs : List L2.V) (p : List D × Option Nat), v = .ref a → SqL G.K H1 a vs → Out (Wk G) G W V α1 H1 (.ok p S1) R → Wk G α1 H1 p (Itl G.K a) → wpAny (model X.prog X.w) X.A (pyIter u) (PIE X pins V tg R) X.xe s1 := by
    intro a vs p e2 sq h1 h2
    subst e2
    obtain rfl : u = Value.ref a := r1
    obtain ⟨its, rv, pl, hz⟩ := I1.list (by rw [hK]; exact sq)
    refine wpAny_pyIter_list pl.isList ?_
    exact fin _ _ (fun i h => h.IsListIter s1.heap.objs.size a i) p h1 h2 (by rw [← hK]; exact turn_list a _) ⟨_, Heap.get?_push_size _ rfl, rfl, rfl⟩
  cases d <;> first | exact False.elim q1 | skip
  case str t =>
    obtain ⟨tt, rfl⟩ : ∃ t', u = .str ⟨t.toArray⟩ t' := by
      have : v = .str ⟨t.toArray⟩ := rd
      subst this; exact r1
    cases ha : (⟨t.toArray⟩ : Str).cps.all (· < 128)
    · exact wpAny_pyIter_wide ha (fin _ _ _ _ q1 wk_str (turn_str _ _ tt "str_iterator" (.inr rfl)) ⟨_, Heap.get?_push_size _ rfl, rfl, rfl⟩)
    · exact wpAny_pyIter_ascii ha (fin _ _ _ _ q1 wk_str (turn_str _ _ tt "str_ascii_iterator" (.inl rfl)) ⟨_, Heap.get?_push_size _ rfl, rfl, rfl⟩)
  case tup ds =>
    obtain ⟨a, vs, e2, t, rs⟩ := rd
    subst e2
    obtain rfl : u = Value.ref a := r1
    obtain ⟨its, rv, pl, hz⟩ := I1.tuple (by rw [hK]; exact t)
    refine wpAny_pyIter_tuple (show s1.heap.IsTuple a its.toArray from pl) ?_
    exact fin _ _ (fun i h => h.IsTupleIter s1.heap.objs.size a i) _ q1 (wk_tup hr1 t rs) (by rw [← hK]; exact turn_tuple a _) ⟨_, Heap.get?_push_size _ rfl, rfl, rfl⟩
  case frz ds =>
    obtain ⟨a, vs, e2, t, rs⟩ := rd
    exact lst a vs _ e2 t.sq q1 (wk_frz hr1 t rs)
  case ref i =>
    simp only [itemsOf] at q1
    cases hS : S1[i]? with
    | none => rw [hS] at q1; exact q1.elim
    | some o =>
      rw [hS] at q1
      cases o <;> first | exact False.elim q1 | skip
      rename_i xs
      obtain ⟨a, o, e2, ha, hH, vs, rfl, rs⟩ := hr1.get hS rd
      exact lst a vs _ e2 (SqL.of hH) q1 (wk_list hS ha)
theorem big62_eq : big62 = 2 ^ 62 := by decide
theorem s_itrange1 {a : Expr} {ia : IE} {p pos : Pos} (hg : Gl X "range") (hm : X.mg "range" = none) (ha : PA X [a] (tMs G W hx (evalEs P cl mk [ia]))) (hs : starEach [a] X.env = [(false, eval a X.env)]) :
    PI X tg (.Call (.Name "range" p) [a] [] pos) (tI G W hx (evalIt P cl mk .range1 [ia])) := by
  have h := pi_range1 (tg := tg) (p := p) (pos := pos) hg hm ha hs
  refine ⟨fun pins s V H R I q => h.run pins s V H R I ?_⟩
  obtain ⟨α, σ, S, hr, he, ho⟩ := q
  refine ⟨α, σ, S, hr, he, (Out.bind (rel' := rDs G) ho).imp fun vs H1 ⟨α1, ds, S1, e1, hr1, rd, q1⟩ => ?_⟩
  cases ds with
  | nil => exact q1.elim
  | cons d r =>
    obtain ⟨v, ws, rfl, r1, r2⟩ := rd
    cases r with
    | cons _ _ => cases d <;> exact q1.elim
    | nil =>
      rw [show ws = [] from r2]
      cases d <;> first | exact False.elim q1 | skip
      rename_i n
      simp only [itV] at q1
      split at q1
      · exact q1.elim
      · rename_i p0 hp
        split at hp
        · rename_i hc
          rw [Bool.and_eq_true, decide_eq_true_eq, decide_eq_true_eq] at hc
          cases hp
          refine ⟨n, by rw [show v = .int n from r1], ?_, ?_, q1.val hr1 ?_⟩
          · have := hc.1; unfold big62 at this; omega
          · have := hc.2; unfold big62 at this; omega
          · have w := wk_range (G := G) (α := α1) (H := H1) (lo := 0) (n := n.toNat)
            simpa using w
        · cases hp
theorem s_itrange2 {a b : Expr} {ia ib : IE} {p pos : Pos} (hg : Gl X "range") (hm : X.mg "range" = none) (ha : PA X [a, b] (tMs G W hx (evalEs P cl mk [ia, ib]))) (hs : starEach [a, b] X.env = [(false, eval a X.env), (false, eval b X.env)]) (hs2 : starEach [b] X.env = [(false, eval b X.env)]) :
    PI X tg (.Call (.Name "range" p) [a, b] [] pos) (tI G W hx (evalIt P cl mk .range2 [ia, ib])) := by
  have h := pi_range2 (tg := tg) (p := p) (pos := pos) hg hm ha hs hs2
  refine ⟨fun pins s V H R I q => h.run pins s V H R I ?_⟩
  obtain ⟨α, σ, S, hr, he, ho⟩ := q
  refine ⟨α, σ, S, hr, he, (Out.bind (rel' := rDs G) ho).imp fun vs H1 ⟨α1, ds, S1, e1, hr1, rd, q1⟩ => ?_⟩
  cases ds with
  | nil => exact q1.elim
  | cons d r =>
    obtain ⟨v, ws, rfl, r1, r2⟩ := rd
    cases r with
    | nil => cases d <;> exact q1.elim
    | cons d2 r =>
      obtain ⟨v2, ws2, rfl, r3, r4⟩ := r2
      cases r with
      | cons _ _ => cases d <;> first | exact False.elim q1 | (cases d2 <;> exact q1.elim)
      | nil =>
        rw [show ws2 = [] from r4]
        cases d <;> first | exact False.elim q1 | skip
        cases d2 <;> first | exact False.elim q1 | skip
        rename_i n m
        simp only [itV] at q1
        split at q1
        · exact q1.elim
        · rename_i p0 hp
          split at hp
          · rename_i hc
            simp only [Bool.and_eq_true, decide_eq_true_eq] at hc
            cases hp
            unfold big62 at hc
            refine ⟨n, m, by rw [show v = .int n from r1, show v2 = .int m from r3], ⟨by omega, by omega, by omega, by omega⟩, q1.val hr1 wk_range⟩
          · cases hp

/-! ### targets that are names -/
mutual
def Pat.slots : Pat → List Nat
  | .name i => [i]
  | .tup ps => Pat.slotss ps
def Pat.slotss : List Pat → List Nat
  | [] => []
  | p :: ps => Pat.slots p ++ Pat.slotss ps
end
/-- a target of names: the slots behind it, the others as they stood -/
def gP (G : RC) (hx : HX) (p : Pat) : TG := fun v V H Q => ∃ α σ S d σ', HRel G α H S ∧ ERel G hx α H σ V ∧ Rep G α H d v ∧ p.put d σ = some σ' ∧
  ∀ V', ERel G hx α H σ' V' → (∀ j, j ∉ p.slots → V'[j]? = V[j]?) → Q V' H
def gPs (G : RC) (hx : HX) (ps : List Pat) : TGs := fun vs V H Q => ∃ α σ S ds σ', HRel G α H S ∧ ERel G hx α H σ V ∧ Reps G α H ds vs ∧ Pat.puts ps ds σ = some σ' ∧
  ∀ V', ERel G hx α H σ' V' → (∀ j, j ∉ Pat.slotss ps → V'[j]? = V[j]?) → Q V' H
theorem pg_imp {X : Cx} {e : Expr} {t t' : TG} (h : PG X e t) (i : ∀ v V H Q, t' v V H Q → t v V H Q) : PG X e t' := ⟨fun pins s σ H v u Q I r q => h.run pins s σ H v u Q I r (i _ _ _ _ q)⟩
theorem pgs_imp {X : Cx} {es : List Expr} {t t' : TGs} (h : PGs X es t) (i : ∀ v V H Q, t' v V H Q → t v V H Q) : PGs X es t' := ⟨fun pins s σ H v u Q I r q => h.run pins s σ H v u Q I r (i _ _ _ _ q)⟩
theorem s_pname {i : Nat} {n : Str} {pos : Pos} (hN : X.N.Nodup) (hi : X.N[i]? = some n) (hl : Loc X.env.scope n) (hf : X.fn n = true ∨ X.env.scope.names.lookup n = some .local) : PG X (.Name n pos) (gP G hx (.name i)) :=
  pg_imp (pg_name hN hi hl hf) fun v V H Q ⟨α, σ, S, d, σ', hr, he, rd, ep, q⟩ => by
    simp only [Pat.put, Option.some.injEq] at ep
    subst ep
    refine q _ (he.set rd) fun j hj => ?_
    have : j ≠ i := fun z => hj (by simp [Pat.slots, z])
    exact List.getElem?_set_ne (Ne.symm this)
theorem s_pnil : PGs X [] (gPs G hx []) := pgs_imp pgs_nil fun vs V H Q ⟨α, σ, S, ds, σ', hr, he, rd, ep, q⟩ => by
  cases ds with
  | nil => cases ep; exact ⟨rd, q V he fun _ _ => rfl⟩
  | cons _ _ => cases ep
theorem s_pcons {e : Expr} {es : List Expr} {p : Pat} {ps : List Pat} (h1 : PG X e (gP G hx p)) (h2 : PGs X es (gPs G hx ps)) (hs : (assignEach (e :: es) X.env).map (·.2) = assign e X.env :: (assignEach es X.env).map (·.2)) :
    PGs X (e :: es) (gPs G hx (p :: ps)) := pgs_imp (pgs_cons h1 h2 hs) fun vs V H Q ⟨α, σ, S, ds, σ', hr, he, rd, ep, q⟩ => by
  cases ds with
  | nil => cases ep
  | cons d ds =>
    obtain ⟨v, ws, rfl, r1, r2⟩ := rd
    simp only [Pat.puts] at ep
    cases q1 : p.put d σ with
    | none => rw [q1] at ep; cases ep
    | some σ1 =>
      rw [q1] at ep
      exact ⟨v, ws, rfl, α, σ, S, d, σ1, hr, he, r1, q1, fun V1 he1 k1 => ⟨α, σ1, S, ds, σ', hr, he1, r2, ep, fun V2 he2 k2 => q V2 he2 fun j hj => by
        rw [Pat.slotss, List.mem_append, not_or] at hj
        rw [k2 j hj.2, k1 j hj.1]⟩⟩
theorem s_ptup (x : XOk G W X) {es : List Expr} {ps : List Pat} {k : Nat} {pos : Pos} (hc : X.calm = true) (h : PGs X es (gPs G hx ps)) (hn : (assignEach es X.env).length = ps.length) (hst : (assignEach es X.env).findIdx? (·.1) = none) :
    PG X (.Tuple es k pos) (gP G hx (.tup ps)) := pg_imp (pg_tup hc h hn hst) fun v V H Q ⟨α, σ, S, d, σ', hr, he, rd, ep, q⟩ => by
  cases d <;> first | (cases ep; done) | skip
  rename_i ds
  obtain ⟨a, vs, e1, t, rs⟩ := rd
  have hl : ∀ (ps : List Pat) (ds : List D) (σ σ' : Env), Pat.puts ps ds σ = some σ' → ds.length = ps.length := by
    intro ps
    induction ps with
    | nil => intro ds σ σ' e; cases ds with
      | nil => rfl
      | cons _ _ => cases e
    | cons p ps ih => intro ds σ σ' e; cases ds with
      | nil => cases e
      | cons d ds =>
        simp only [Pat.puts] at e
        cases q1 : p.put d σ with
        | none => rw [q1] at e; cases e
        | some σ1 => rw [q1] at e; rw [List.length_cons, List.length_cons, ih ds σ1 σ' e]
  refine ⟨a, vs, e1, by rw [x.K]; exact t, by rw [← rs.len]; exact hl ps ds σ σ' ep, α, σ, S, ds, σ', hr, he, rs, ep, q⟩

/-! ### comprehensions -/
theorem Out.bindB {A B A' B' : Type} {rel : List Addr → Hp → A → B → Prop} {rel' : List Addr → Hp → A' → B' → Prop} {W W' : WX} {V V' : L2.St} {α0 α : List Addr} {H0 H : Hp} {Q : B → Hp → Prop} {r : R A'} {f : A' → St → R A} (h : Out rel G W V α0 H0 (r.nox.bind f) Q) :
    Out rel' G W' V' α H r (fun b H1 => ∃ β a S1, Ext α H β H1 ∧ HRel G β H1 S1 ∧ rel' β H1 a b ∧ Out rel G W V α0 H0 (f a S1) Q) := by
  cases r with
  | ok a S => exact fun γ H' b e h1 h2 => ⟨γ, a, S, e, h1, h2, h⟩
  | exc c ds S => exact h.elim
  | bad => exact h.elim
theorem wipe_same {ws : List Nat} {V V' : L2.St} (hl : V'.length = V.length) (h : ∀ j, j ∉ ws → V'[j]? = V[j]?) : L2.wipe V' ws = L2.wipe V ws := by
  apply List.ext_getElem?
  intro j
  by_cases hj : j ∈ ws
  · have key : ∀ (ws : List Nat) (V : L2.St), j ∈ ws → (L2.wipe V ws)[j]? = if j < V.length then some none else none := by
      intro ws
      induction ws with
      | nil => intro V h; cases h
      | cons w ws ih =>
        intro V h
        show ((L2.wipe V ws).set w none)[j]? = _
        by_cases e : j = w
        · subst e
          rw [List.getElem?_set_self']
          have hlen : (L2.wipe V ws).length = V.length := wipe_length V ws
          by_cases hlt : j < V.length
          · rw [if_pos hlt, List.getElem?_eq_getElem (by rw [hlen]; exact hlt)]; rfl
          · rw [if_neg hlt, List.getElem?_eq_none (by rw [hlen]; omega)]; rfl
        · rw [List.getElem?_set_ne (Ne.symm e)]
          exact ih V ((List.mem_cons.mp h).resolve_left e)
    rw [key ws V' hj, key ws V hj, hl]
  · rw [wipe_out hj, wipe_out hj, h j hj]
/-- an address that is not the store's, an object of ours alone -/
theorem HRel.side {α : List Addr} {H : Hp} {S : St} {D : Addr} {u u' : HO} (h : HRel G α H S) (hD : D ∉ α) (e : H D = some u) (hu : Mi.isM u = true) : HRel G α (L2.upd H D u') S ∧ Keep α H α (L2.upd H D u') := by
  have k : Keep α H α (L2.upd H D u') := by
    refine ⟨fun _ _ h => h, fun a us r => ?_, fun a o w r => ?_⟩
    · have ne : a ≠ D := by
        rintro rfl
        rcases r with r | ⟨o, r⟩ <;> (rw [e] at r; cases r; cases hu)
      rcases r with r | ⟨o, r⟩
      · exact .inl (by rw [upd_ne ne]; exact r)
      · exact .inr ⟨o, by rw [upd_ne ne]; exact r⟩
    · have ne : a ≠ D := by
        rintro rfl
        rw [e] at r; cases r; cases hu
      rw [upd_ne ne]; exact r
  refine ⟨⟨h.len, h.nd, fun i o a h1 h2 => ?_⟩, k⟩
  obtain ⟨ho, e1, r⟩ := h.at_ i o a h1 h2
  have ne : a ≠ D := fun z => hD (by rw [← z]; exact List.mem_of_getElem? h2)
  exact ⟨ho, by rw [upd_ne ne]; exact e1, RepO.keep k _ _ r⟩
/-- it becomes the store's -/
theorem HRel.own {α : List Addr} {H : Hp} {S : St} {D : Addr} {o : HO} {m : MO} (h : HRel G α H S) (hD : D ∉ α) (e : H D = some o) (r : RepO G α H m o) : HRel G (α ++ [D]) H (S ++ [m]) := by
  have k : Keep α H (α ++ [D]) H := ⟨fun i a hi => by rw [List.getElem?_append_left (List.getElem?_eq_some_iff.mp hi).1]; exact hi, fun _ _ r => r, fun _ _ _ r => r⟩
  refine ⟨by simp [h.len], ?_, fun i u a h1 h2 => ?_⟩
  · refine List.nodup_append.mpr ⟨h.nd, by simp, fun a ha b hb => ?_⟩
    rw [List.mem_singleton] at hb; subst hb
    rintro rfl
    exact hD ha
  · by_cases hi : i < S.length
    · rw [List.getElem?_append_left hi] at h1
      rw [List.getElem?_append_left (by rw [h.len]; exact hi)] at h2
      obtain ⟨ho, e, r'⟩ := h.at_ i u a h1 h2
      exact ⟨ho, e, RepO.keep k _ _ r'⟩
    · have hi2 : i = S.length := by
        obtain ⟨hl, _⟩ := List.getElem?_eq_some_iff.mp h1
        rw [List.length_append, List.length_singleton] at hl; omega
      subst hi2
      rw [List.getElem?_append_right (Nat.le_refl _), Nat.sub_self] at h1
      rw [List.getElem?_append_right (by rw [h.len]; exact Nat.le_refl _), h.len, Nat.sub_self] at h2
      simp at h1 h2
      subst h1 h2
      exact ⟨o, e, RepO.keep k _ _ r⟩
abbrev WN : WX := fun _ _ _ _ => False
theorem R.assoc {α β γ : Type} (r : R α) (f : α → St → R β) (g : β → St → R γ) : (r.bind f).bind g = r.bind fun a S => (f a S).bind g := by cases r <;> rfl
theorem side_keep {α β : List Addr} {H H' : Hp} {D : Addr} {o : HO} (e : Ext α H β H') (hD : D ∉ α) (h : H D = some o) : D ∉ β ∧ H' D = some o := by
  refine ⟨fun z => ?_, e.keep _ _ hD h⟩
  obtain ⟨γ, e1, n1⟩ := e.pre
  rw [e1] at z
  rcases List.mem_append.mp z with z | z
  · exact hD z
  · have := (n1 D z).1
    rw [h] at this; cases this
/-- a free place is filled by what is not the store's -/
theorem Ext.side {α β : List Addr} {H H' : Hp} {D : Addr} {o : HO} (e : Ext α H β H') (h : H D = none) : Ext α H β (L2.upd H' D o) :=
  ⟨e.pre, fun b u hb q => by rw [upd_ne (ne_of_none q h)]; exact e.keep b u hb q⟩
mutual
theorem put_len : ∀ (p : Pat) (d : D) (σ σ' : Env), p.put d σ = some σ' → σ'.length = σ.length := by
  intro p d σ σ' e
  cases p with
  | name i => simp only [Pat.put, Option.some.injEq] at e; rw [← e, List.length_set]
  | tup ps =>
    cases d <;> first | (cases e; done) | skip
    exact puts_len ps _ σ σ' e
theorem puts_len : ∀ (ps : List Pat) (ds : List D) (σ σ' : Env), Pat.puts ps ds σ = some σ' → σ'.length = σ.length := by
  intro ps ds σ σ' e
  cases ps with
  | nil => cases ds with
    | nil => cases e; rfl
    | cons _ _ => cases e
  | cons p ps => cases ds with
    | nil => cases e
    | cons d ds =>
      simp only [Pat.puts] at e
      cases q : p.put d σ with
      | none => rw [q] at e; cases e
      | some σ1 => rw [q] at e; rw [puts_len ps ds σ1 σ' e, put_len p d σ σ1 q]
end
theorem wipe_len (σ : Env) : ∀ ws : List Nat, (Mi.wipe σ ws).length = σ.length
  | [] => rfl
  | w :: ws => by show ((Mi.wipe σ ws).set w none).length = _; rw [List.length_set, wipe_len σ ws]
theorem s_comp (hc : X.calm = true) (hN : X.N.Nodup) {elt tgt iter : Expr} {ifs : List Expr} {scope : Scope} {own : List (Str × Nat)} {pos : Pos} {k : It} {args iifs : List IE} {ielt : IE} {p : Pat}
    (hi : PI X tgt iter (tI G W hx (evalIt P cl mk k args))) (ok : BlkOk X.N X.env.scope scope own) (hp : ∀ j ∈ p.slots, j ∈ own.map (·.2))
    (hg : ∀ (s : Shared) (H : Hp) (C : Addr) (cel : List (Str × Addr)) (fp : List Addr), PG (X.blk s H scope (compEnvC scope cel C X.env) fp) tgt (gP G hx p))
    (ht : ∀ (s : Shared) (H : Hp) (C : Addr) (cel : List (Str × Addr)) (fp : List Addr), PTs (X.blk s H scope (compEnvC scope cel C X.env) fp) ifs (tMT G WN hx (evalTs P cl mk iifs)))
    (he : ∀ (s : Shared) (H : Hp) (C : Addr) (cel : List (Str × Addr)) (fp : List Addr), PE (X.blk s H scope (compEnvC scope cel C X.env) fp) elt (tM G WN hx (evalE P cl mk ielt))) :
    ∀ V H Q, tM G W hx (evalE P cl mk (.comp k args p (own.map (·.2)) iifs ielt)) V H Q → tLc (tI G W hx (evalIt P cl mk k args)) (gP G hx p) (tMT G WN hx (evalTs P cl mk iifs)) (tM G WN hx (evalE P cl mk ielt)) (own.map (·.2)) V H Q := by
  intro V H Q ⟨α, σ, S, hr, her, ho⟩
  generalize hws : own.map (·.2) = ws at *
  let turn : D → St → R (Option D) := fun d S => match p.put d (Mi.wipe σ ws) with
        | none => .bad
        | some σ' => (evalTs P cl mk iifs σ' S).nox.bind fun b S => if b then (evalE P cl mk ielt σ' S).nox.bind fun y S => .ok (some y) S else .ok none S
  have ho : Out (rD G) G W V α H ((evalIt P cl mk k args σ S).bind fun q S => (compL q.1 q.2 turn q.1 [] S).bind fun ys S => alloc (.lst ys) S) Q := by
    have e : evalE P cl mk (.comp k args p ws iifs ielt) σ S = (evalIt P cl mk k args σ S).bind fun q S => (compL q.1 q.2 turn q.1 [] S).bind fun ys S => alloc (.lst ys) S := by
      simp only [evalE, evalIt]
      cases evalEs P cl mk args σ S with
      | ok xs S1 =>
        simp only [R.bind]
        cases itV k xs S1 with
        | none => rfl
        | some q => rfl
      | exc _ _ _ => rfl
      | bad => rfl
    rw [← e]; exact ho
  refine ⟨α, σ, S, hr, her, ho.bind.imp fun J H1 ⟨α1, q, S1, e1, hr1, wk, h1⟩ => fun D hD => ?_⟩
  obtain ⟨ds, o⟩ := q
  have her1 := her.ext hr e1
  refine ⟨fun i m Hc => ∃ α' S' acc vs, i ≤ ds.length ∧ m = ds.length - i ∧ Ext α1 H1 α' Hc ∧ HRel G α' Hc S' ∧ D ∉ α' ∧ Hc D = some (.lst vs) ∧ Reps G α' Hc acc vs ∧
      Out (rD G) G W V α1 H1 ((compL ds o turn (ds.drop i) acc S').bind fun ys S => alloc (.lst ys) S) Q,
    ⟨_, α1, S1, [], [], Nat.zero_le _, rfl, Ext.upd hD, hr1.upd hD, hr1.free hD, upd_same, rfl, h1⟩, ?_⟩
  rintro i m Hc ⟨α', S', acc, vs, hi', rfl, ex, hr', hDn, hDl, rs, hO⟩
  by_cases hlt : i < ds.length
  · right
    have hdrop : ds.drop i = ds[i] :: ds.drop (i + 1) := List.drop_eq_getElem_cons hlt
    rw [hdrop] at hO
    simp only [compL] at hO
    by_cases hst : still ds o S' = true
    · rw [if_pos hst, R.assoc] at hO
      have hd : ds[i]? = some ds[i] := List.getElem?_eq_getElem hlt
      obtain ⟨go, yld⟩ := wk.go α' Hc S' ex hr' hst i _ hd
      refine ⟨go, fun H' => ∃ m', m' < ds.length - i ∧ ∃ α' S' acc vs, i + 1 ≤ ds.length ∧ m' = ds.length - (i + 1) ∧ Ext α1 H1 α' H' ∧ HRel G α' H' S' ∧ D ∉ α' ∧ H' D = some (.lst vs) ∧ Reps G α' H' acc vs ∧
        Out (rD G) G W V α1 H1 ((compL ds o turn (ds.drop (i + 1)) acc S').bind fun ys S => alloc (.lst ys) S) Q, fun H' z => z, ?_⟩
      intro x H' y
      obtain ⟨rfl, rx⟩ := yld x H' y
      cases hput : p.put ds[i] (Mi.wipe σ ws) with
      | none =>
        have : turn ds[i] S' = .bad := by show (match p.put ds[i] (Mi.wipe σ ws) with | none => _ | some _ => _) = _; rw [hput]
        rw [this] at hO
        exact hO.elim
      | some σ' =>
        have et : turn ds[i] S' = (evalTs P cl mk iifs σ' S').nox.bind fun b S => if b then (evalE P cl mk ielt σ' S).nox.bind fun y S => .ok (some y) S else .ok none S := by
          show (match p.put ds[i] (Mi.wipe σ ws) with | none => _ | some _ => _) = _; rw [hput]
        rw [et, R.assoc] at hO
        have her' := her1.ext hr1 ex
        refine ⟨α', Mi.wipe σ ws, S', ds[i], σ', hr', her'.wipe ws, rx, hput, fun V2 he2 k2 => ⟨?_, ?_⟩⟩
        · refine wipe_same ?_ fun j hj => ?_
          · rw [← he2.len, put_len p _ _ _ hput, wipe_len, her.len]
          · rw [k2 j fun z => hj (hp j z), wipe_out hj]
        · refine ⟨α', σ', S', hr', he2, hO.bindB.imp fun b H3 ⟨β, b', S2, e3, hr3, eb, h3⟩ => ?_⟩
          obtain rfl : b' = b := eb
          obtain ⟨hD3, hl3⟩ := side_keep e3 hDn hDl
          have rs3 := Reps.keep (e3.toKeep hr') _ _ rs
          cases b' with
          | true =>
            rw [if_pos rfl]
            simp only [if_true] at h3
            rw [R.assoc] at h3
            refine ⟨β, σ', S2, hr3, he2.ext hr' e3, h3.bindB.imp fun y H4 ⟨γ, dy, S3, e4, hr4, ry, h4⟩ => ?_⟩
            obtain ⟨hD4, hl4⟩ := side_keep e4 hD3 hl3
            have rs4 := Reps.keep (e4.toKeep hr3) _ _ rs3
            simp only [R.bind] at h4
            by_cases hz : acc.length < line
            · rw [if_pos hz] at h4
              obtain ⟨hs1, hs2⟩ := hr4.side (u' := .lst (vs ++ [y])) hD4 hl4 rfl
              refine ⟨vs, hl4, by rw [← rs.len, ← lines]; exact hz, _, by omega, γ, S3, acc ++ [dy], vs ++ [y], hlt, rfl, Ext.side (((ex.trans e3).trans e4)) hD, hs1, hD4, upd_same, Reps.keep hs2 _ _ (rs4.app ⟨y, [], rfl, ry, rfl⟩), h4⟩
            · rw [if_neg hz] at h4
              exact h4.elim
          | false =>
            rw [if_neg Bool.false_ne_true]
            simp only [R.bind, Bool.false_eq_true, if_false] at h3
            exact ⟨_, by omega, β, S2, acc, vs, hlt, rfl, ex.trans e3, hr3, hD3, hl3, rs3, h3⟩
    · rw [if_neg hst] at hO
      exact hO.elim
  · left
    have hi2 : i = ds.length := by omega
    subst hi2
    rw [List.drop_length] at hO
    simp only [compL] at hO
    by_cases hst : still ds o S' = true
    · rw [if_pos hst] at hO
      refine ⟨wk.stop α' Hc S' ex hr' hst, ?_⟩
      refine hO (α' ++ [D]) Hc (.ref D) ?_ (hr'.own hDn hDl ⟨vs, rfl, rs⟩) ?_
      · obtain ⟨⟨β, e2, n2⟩, k2⟩ := ex
        refine ⟨⟨β ++ [D], by rw [e2, List.append_assoc], fun b hb => ?_⟩, k2⟩
        rcases List.mem_append.mp hb with hb | hb
        · exact n2 b hb
        · rw [List.mem_singleton] at hb; subst hb
          exact ⟨hD, hr1.free hD⟩
      · refine ⟨D, ?_, rfl⟩
        rw [← hr'.len, List.getElem?_append_right (Nat.le_refl _), Nat.sub_self]; rfl
    · rw [if_neg hst] at hO
      exact hO.elim
end
end Mi
/-! # Mi2e: a checker that an expression of the model is an expression of the small Python, and its soundness. -/
namespace Mi
open PySem PySem.Spec PyProof.Rows L2

/-- the scope of a comprehension's block, as the model lays it -/
def relab (scope sc : Scope) : Scope := { scope with names := scope.names.map fun (n, k) => if (k == NameKind.free && sc.kind == .function && sc.names.lookup n == some .cell) then (n, NameKind.cell) else (n, k) }
theorem relab_eq (scope : Scope) (env : PySem.Env) : relabel scope env = relab scope env.scope := rfl
theorem relab_lookup {scope sc : Scope} {x : Str} {k : NameKind} (h : scope.names.lookup x = some k) (hk : k ≠ .free) : (relab scope sc).names.lookup x = some k := by
  show (scope.names.map _).lookup x = some k
  revert h
  generalize scope.names = l
  intro h
  induction l with
  | nil => cases h
  | cons p r ih =>
    obtain ⟨n, k'⟩ := p
    rw [List.map_cons]
    cases hx : x == n with
    | true =>
      simp only [List.lookup_cons, hx] at h
      cases h
      have : (k == NameKind.free) = false := by cases k <;> first | rfl | exact absurd rfl hk
      simp [List.lookup_cons, hx, this]
    | false =>
      simp only [List.lookup_cons, hx] at h
      by_cases hc : (k' == NameKind.free && sc.kind == .function && sc.names.lookup n == some .cell) = true
      · show List.lookup x ((if (k' == NameKind.free && sc.kind == .function && sc.names.lookup n == some .cell) = true then (n, NameKind.cell) else (n, k')) :: _) = _
        rw [if_pos hc]; simp only [List.lookup_cons, hx]; exact ih h
      · show List.lookup x ((if (k' == NameKind.free && sc.kind == .function && sc.names.lookup n == some .cell) = true then (n, NameKind.cell) else (n, k')) :: _) = _
        rw [if_neg hc]; simp only [List.lookup_cons, hx]; exact ih h
/-- what a global name is -/
inductive GB where
  | fn (i n : Nat) | exc (i : Nat) | con (d : D)
/-- what the checker knows of the module -/
structure CI where
  glob : List (Str × GB)
  blts : List Str
def visB (sc : Scope) (x : Str) : Bool := match sc.names.lookup x with
  | some .local => true
  | some .cell => true
  | some .free => true
  | _ => false
def locB (sc : Scope) (x : Str) : Bool := match sc.names.lookup x with
  | some .local => true
  | some .cell => true
  | _ => false
def glB (sc : Scope) (x : Str) : Bool := match sc.names.lookup x with
  | some .globalImplicit => true
  | _ => false
def dbgB (x : Str) : Bool := !(x == ("__debug__" : Str)) && !(x == ("__classdict__" : Str)) && !(x == ("__name__" : Str))
def notStar : Expr → Bool
  | .Starred _ _ => false
  | _ => true
def notSlice : Expr → Bool
  | .Slice _ _ _ _ => false
  | _ => true
/-- a test that is its value's truth -/
def plainE : Expr → Bool
  | .UnaryOp .Not _ _ => false
  | .BoolOp _ _ _ => false
  | .IfExp _ _ _ _ => false
  | .Compare _ _ _ _ => false
  | _ => true
def plainI : IE → Bool
  | .not_ _ => false
  | .and_ _ _ => false
  | .or_ _ _ => false
  | .ife _ _ _ => false
  | .cmp _ _ _ => false
  | _ => true
/-- an attribute's base that is no super() -/
def plainBase : Expr → Bool
  | .Call (.Name _ _) [] [] _ => false
  | _ => true
def biName : Bi → Str
  | .abs => "abs" | .all => "all" | .any => "any" | .len => "len" | .int => "int" | .list => "list" | .tuple => "tuple" | .str => "str"
def tyName : Ty → Str
  | .int => "int" | .bool => "bool" | .str => "str" | .tup => "tuple" | .lst => "list" | .dct => "dict" | .own _ => "object"
def isOwn : Ty → Bool
  | .own _ => true
  | _ => false
/-- a built-in's name -/
def bltB (ci : CI) (sc : Scope) (x : Str) : Bool := glB sc x && ci.blts.contains x && dbgB x
def fnB (ci : CI) (sc : Scope) (x : Str) (i n : Nat) : Bool := glB sc x && dbgB x && (match ci.glob.lookup x with
  | some (.fn j m) => j == i && m == n
  | _ => false)
def excB (ci : CI) (sc : Scope) (x : Str) (i : Nat) : Bool := glB sc x && dbgB x && (match ci.glob.lookup x with
  | some (.exc j) => j == i
  | _ => false)
def notSetE : Expr → Bool
  | .Set _ _ _ => false
  | _ => true
def isMissing : IE → Bool
  | .con (.exc _ _) => true
  | _ => false
def chkL (f : Expr → IE → Bool) : List Expr → List IE → Bool
  | [], [] => true
  | e :: es, i :: is => notStar e && f e i && chkL f es is
  | _, _ => false
def chkC (c : PySem.Const) (d : D) : Bool := match c, d with
  | .int i, .int j => decide (i = j)
  | .str s, .str t => decide (s.cps.toList = t)
  | .bool a, .bl b => a == b
  | .none, .non => true
  | _, _ => false
/-- the names of a comprehension's target, each its slot -/
def patB (N : List Str) (sc : Scope) : Nat → Expr → Pat → Bool
  | 0, _, _ => false
  | n + 1, e, p => match e with
    | .Name x _ => match p with
      | .name i => decide (N[i]? = some x) && locB sc x && dbgB x
      | _ => false
    | .Tuple es _ _ => match p with
      | .tup ps => decide (es.length = ps.length) && (es.zip ps).all fun q => notStar q.1 && patB N sc n q.1 q.2
      | _ => false
    | _ => false
def slotNames (N : List Str) (ws : List Nat) : List (Str × Nat) := ws.map fun i => (N.getD i (PySem.Str.ofString ""), i)
def dkeys : List (Option Expr) → List Expr → List Expr
  | some k :: ks, v :: vs => k :: v :: dkeys ks vs
  | _, _ => []
mutual
def chkE (ci : CI) (N : List Str) (calm : Bool) (hs : Option Nat) : Nat → Scope → Expr → IE → Bool
  | 0, _, _, _ => false
  | n + 1, sc, e, ie => match e with
    | .Name x _ => match ie with
      | .loc i => decide (N[i]? = some x) && visB sc x && dbgB x
      | .con d => glB sc x && dbgB x && (match ci.glob.lookup x with
        | some (.con d') => decide (d = d')
        | _ => false)
      | _ => false
    | .Constant c _ _ => match ie with
      | .con d => chkC c d
      | _ => false
    | .BinOp a op b _ => match ie with
      | .bin o ia ib => decide (op = opP o) && chkE ci N calm hs n sc a ia && chkE ci N calm hs n sc b ib
      | _ => false
    | .UnaryOp op a _ => match op, ie with
      | .USub, .neg ia => chkE ci N calm hs n sc a ia
      | .Not, .not_ ia => chkE ci N calm hs n sc a ia
      | _, _ => false
    | .BoolOp op es _ => chkB ci N calm hs n sc op es ie
    | .Compare a ops bs _ => match ops, bs with
      | [op], [b] => match ie with
        | .cmp o ia ib => decide (op = cmP o) && chkE ci N calm hs n sc a ia && chkE ci N calm hs n sc b ib && !behindInMarks op b
        | .isN ia => decide (op = .Is) && (match b with
          | .Constant .none _ _ => true
          | _ => false) && chkE ci N calm hs n sc a ia
        | .notN ia => decide (op = .IsNot) && (match b with
          | .Constant .none _ _ => true
          | _ => false) && chkE ci N calm hs n sc a ia
        | _ => false
      | [op, op'], [b, c] => match ie with
        | .cmp2 o p ia ib ic => decide (op = cmP o) && decide (op' = cmP p) && chkE ci N calm hs n sc a ia && chkE ci N calm hs n sc b ib && chkE ci N calm hs n sc c ic && !lastMarks [op, op'] [b, c]
        | _ => false
      | _, _ => false
    | .IfExp c a b _ => match ie with
      | .ife ic ia ib => chkT ci N calm hs n sc c ic && chkE ci N calm hs n sc a ia && chkE ci N calm hs n sc b ib
      | _ => false
    | .Tuple es _ _ => match ie with
      | .tup is => chkL (chkE ci N calm hs n sc) es is
      | _ => false
    | .List es _ => match ie with
      | .lst is => chkL (chkE ci N calm hs n sc) es is
      | _ => false
    | .Dict ks vs _ => match ie with
      | .dic is => ks.all (·.isSome) && decide (ks.length = vs.length) && !ks.isEmpty && decide (ks.length ≤ 15) && chkL (chkE ci N calm hs n sc) (dkeys ks vs) is
      | _ => false
    | .Subscript a b _ => match b with
      | .Slice lo hi st _ => match ie with
        | .sl ia il ih => st.isNone && chkE ci N calm hs n sc a ia && (match lo with
          | none => isMissing il
          | some l => chkE ci N calm hs n sc l il) && (match hi with
          | none => isMissing ih
          | some h => chkE ci N calm hs n sc h ih)
        | _ => false
      | b => match ie with
        | .ix ia ib => notSlice b && chkE ci N calm hs n sc a ia && chkE ci N calm hs n sc b ib
        | _ => false
    | .Call f es kws pos => kws.isEmpty && (match f with
      | .Name x _ => match ie with
        | .call i is => calm && fnB ci sc x i es.length && chkL (chkE ci N calm hs n sc) es is
        | .bi b ia => calm && bltB ci sc x && decide (x = biName b) && (match es with
          | [a] => notStar a && chkE ci N calm hs n sc a ia
          | _ => false)
        | .isi ia t => bltB ci sc x && decide (x = ("isinstance" : Str)) && !isOwn t && (match es with
          | [a, .Name y _] => notStar a && chkE ci N calm hs n sc a ia && bltB ci sc y && decide (y = tyName t)
          | _ => false)
        | .xisi i t => bltB ci sc x && decide (x = ("isinstance" : Str)) && decide (hs = some i) && (match es with
          | [.Name y _, .Name z _] => decide (N[i]? = some y) && visB sc y && dbgB y && excB ci sc z t
          | _ => false)
        | _ => false
      | .Attribute o m apos => match ie with
        | .bm .sindex io [ia] => decide (m = ("index" : Str)) && plainBase o && (apos.endLine == pos.line) && chkE ci N calm hs n sc o io && (match es with
          | [a] => notStar a && chkE ci N calm hs n sc a ia
          | _ => false)
        | _ => false
      | _ => false)
    | .ListComp elt gs scope _ => match gs with
      | [⟨tg, iter, ifs, 0⟩] => match ie with
        | .comp k args p ws iifs ielt => calm && blkC N sc scope (slotNames N ws) && decide ((slotNames N ws).map (·.2) = ws) && p.slots.all (ws.contains ·) && patB N scope 8 tg p && chkI ci N calm hs n sc iter k args &&
            (match ifs, iifs with
              | [], [] => true
              | [c], [ic] => chkT ci N calm hs n (relab scope sc) c ic
              | _, _ => false) && chkE ci N calm hs n (relab scope sc) elt ielt && notSetE iter
        | _ => false
      | _ => false
    | _ => false
def chkT (ci : CI) (N : List Str) (calm : Bool) (hs : Option Nat) : Nat → Scope → Expr → IE → Bool
  | 0, _, _, _ => false
  | n + 1, sc, e, ie => match e with
    | .UnaryOp .Not a _ => match ie with
      | .not_ ia => chkT ci N calm hs n sc a ia
      | _ => false
    | .BoolOp op es _ => chkBT ci N calm hs n sc op es ie
    | .IfExp c a b _ => match ie with
      | .ife ic ia ib => chkT ci N calm hs n sc c ic && chkT ci N calm hs n sc a ia && chkT ci N calm hs n sc b ib
      | _ => false
    | e => plainE e && plainI ie && chkE ci N calm hs n sc e ie || (!plainE e && chkE ci N calm hs n sc e ie)
def chkB (ci : CI) (N : List Str) (calm : Bool) (hs : Option Nat) : Nat → Scope → BoolOp → List Expr → IE → Bool
  | 0, _, _, _, _ => false
  | n + 1, sc, op, es, ie => match es with
    | [] => false
    | [a] => chkE ci N calm hs n sc a ie
    | a :: b :: r => match op, ie with
      | .And, .and_ x y => chkE ci N calm hs n sc a x && chkB ci N calm hs n sc op (b :: r) y
      | .Or, .or_ x y => chkE ci N calm hs n sc a x && chkB ci N calm hs n sc op (b :: r) y
      | _, _ => false
def chkBT (ci : CI) (N : List Str) (calm : Bool) (hs : Option Nat) : Nat → Scope → BoolOp → List Expr → IE → Bool
  | 0, _, _, _, _ => false
  | n + 1, sc, op, es, ie => match es with
    | [] => false
    | [a] => chkT ci N calm hs n sc a ie
    | a :: b :: r => match op, ie with
      | .And, .and_ x y => chkT ci N calm hs n sc a x && chkBT ci N calm hs n sc op (b :: r) y
      | .Or, .or_ x y => chkT ci N calm hs n sc a x && chkBT ci N calm hs n sc op (b :: r) y
      | _, _ => false
def chkI (ci : CI) (N : List Str) (calm : Bool) (hs : Option Nat) : Nat → Scope → Expr → It → List IE → Bool
  | 0, _, _, _, _ => false
  | n + 1, sc, e, k, args => match k, args with
    | .val, [ia] => notStar e && chkE ci N calm hs n sc e ia
    | .range1, [ia] => (match e with
      | .Call (.Name x _) [a] [] _ => bltB ci sc x && decide (x = ("range" : Str)) && notStar a && chkE ci N calm hs n sc a ia
      | _ => false)
    | .range2, [ia, ib] => (match e with
      | .Call (.Name x _) [a, b] [] _ => bltB ci sc x && decide (x = ("range" : Str)) && notStar a && notStar b && chkE ci N calm hs n sc a ia && chkE ci N calm hs n sc b ib
      | _ => false)
    | _, _ => false
end

/-! ### what a def promises, what is asked of a context -/
def spM (G : RC) (cl : Cl) (i n : Nat) : Sp := fun vs H Q E => vs.length = n ∧ ∃ α S ds, HRel G α H S ∧ Reps G α H ds vs ∧ Out (rD G) G (fun c dd _ H' => E c dd H') [] α H (cl i ds S) Q
structure FA where
  f : Addr
  fd : FuncData
  ps : List Str
structure EC (P : Pg) (ci : CI) (N : List Str) (G : RC) (cl mk : Cl) (W : WX) (hx : HX) (hs : Option Nat) (calm : Bool) (sc : Scope) (X : Cx) : Prop where
  ok : XOk G W X
  nN : X.N = N
  nd : N.Nodup
  scp : X.env.scope = sc
  cm : calm = true → X.calm = true ∧ hx = none
  con : ∀ x d, ci.glob.lookup x = some (.con d) → ∃ u v, X.mg x = some u ∧ RelV v u ∧ ∀ α H, Rep G α H d v
  blt : ∀ x, ci.blts.contains x = true → X.mg x = none
  fn : calm = true → ∀ x i n, ci.glob.lookup x = some (.fn i n) → ∃ (A : FA) (j : Nat), A.ps.length = n ∧ X.mg x = some (.ref A.f) ∧ PySem.W.keepIn X.K (.ref A.f) = true ∧ Binds X.K A.fd A.ps [] ∧ FnOk X.prog X.w X.K X.mg X.base (L2.CX X.prog X.w) j A.f A.fd A.ps (spM G cl i A.ps.length) ∧ Room j X.A
  exn : ∀ x i, ci.glob.lookup x = some (.exc i) → X.mg x = some (.ref (G.xA i)) ∧ i < G.nx
  kit : ∀ c t, c < G.nx → t < G.nx → PySem.W.kitOne X.K (.ref (G.xA c)) (.ref (G.xA t)) = some (P.sub c t)
  isE : ∀ i a c ds dd, hx = some (i, a, c, ds, dd) → CallR X (.builtin "isinstance") (rIsE X.K (G.xA c) a)
section
variable {P : Pg} {ci : CI} {N : List Str} {G : RC} {cl mk : Cl} {W : WX} {hx : HX} {hs : Option Nat} {calm : Bool} {sc : Scope} {X : Cx}
theorem EC.blk (c : EC P ci N G cl mk W hx hs calm sc X) (hc : calm = true) (s : Shared) (H : Hp) (scope : Scope) (C : Addr) (cel : List (Str × Addr)) (fp : List Addr) : EC P ci N G cl mk WN hx hs calm (relab scope sc) (X.blk s H scope (compEnvC scope cel C X.env) fp) where
  ok := ⟨c.ok.K, fun u s' ⟨_, _, _, _, _, _, _, _, _, _, _, _, _, _, _, _, h⟩ => h.elim, c.ok.un⟩
  nN := c.nN
  nd := c.nd
  scp := by
    show relabel scope X.env = _
    rw [relab_eq, c.scp]
  cm := c.cm
  con := c.con
  blt := c.blt
  fn := c.fn
  exn := c.exn
  kit := c.kit
  isE := fun i a cc ds dd e => by rw [(c.cm hc).2] at e; cases e
theorem vis_of {x : Str} (h : visB sc x = true) : Vis sc x := by
  unfold visB at h
  split at h
  · exact .inl (by assumption)
  · exact .inr (.inl (by assumption))
  · exact .inr (.inr (by assumption))
  · cases h
theorem loc_of {x : Str} (h : locB sc x = true) : Loc sc x := by
  unfold locB at h
  split at h
  · exact .inl (by assumption)
  · exact .inr (by assumption)
  · cases h
theorem gl_of {x : Str} (hs : X.env.scope = sc) (h : glB sc x = true) : Gl X x := by
  unfold glB at h
  split at h
  · show X.env.scope.names.lookup x = _
    rw [hs]; assumption
  · cases h
theorem dbg_of {x : Str} (h : dbgB x = true) : (x == ("__debug__" : Str)) = false ∧ (x == ("__classdict__" : Str)) = false ∧ x ≠ "__name__" := by
  simp only [dbgB, Bool.and_eq_true, Bool.not_eq_true'] at h
  exact ⟨h.1.1, h.1.2, fun e => by rw [e] at h; simp at h⟩
theorem star_of {e : Expr} {es : List Expr} {env : PySem.Env} (h : notStar e = true) : starEach (e :: es) env = (false, eval e env) :: starEach es env := by
  cases e <;> first | rfl | (cases h; done)
theorem slice_of {e : Expr} (h : notSlice e = true) : PlainIx e := by
  intro o i
  cases e <;> first | rfl | (cases h; done)
theorem set_of {e : Expr} {env : PySem.Env} (h : notSetE e = true) : ∀ x, foldedSetIterable e env x = pure x := by
  intro x
  cases e <;> first | rfl | (cases h; done)
theorem chkL_star {f : Expr → IE → Bool} : ∀ {es : List Expr} {is : List IE} {env : PySem.Env} {pos : Pos}, chkL f es is = true → (backTo pos (starEach es env)).any (·.1) = false
  | [], [], _, _, _ => rfl
  | [], _ :: _, _, _, h => by cases h
  | _ :: _, [], _, _, h => by cases h
  | e :: es, i :: is, env, pos, h => by
    simp only [chkL, Bool.and_eq_true] at h
    rw [star_of h.1.1]
    show (false || (backTo pos (starEach es env)).any (·.1)) = false
    rw [chkL_star h.2]; rfl
/-- arguments, items -/
theorem s_args {f : Expr → IE → Bool} (hf : ∀ e ie, f e ie = true → PE X e (tM G W hx (evalE P cl mk ie))) : ∀ {es : List Expr} {is : List IE}, chkL f es is = true → PA X es (tMs G W hx (evalEs P cl mk is))
  | [], [], _ => pa_imp pa_nil fun V H Q ⟨α, σ, S, hr, he, ho⟩ => by
    simp only [evalEs] at ho
    exact ho.val hr rfl
  | [], _ :: _, h => by cases h
  | _ :: _, [], h => by cases h
  | e :: es, i :: is, h => by
    simp only [chkL, Bool.and_eq_true] at h
    refine pa_imp (pa_cons (hf e i h.1.2) (s_args hf h.2) (star_of h.1.1)) fun V H Q ⟨α, σ, S, hr, he, ho⟩ => ?_
    simp only [evalEs] at ho
    refine ⟨α, σ, S, hr, he, (Out.bind (rel' := rD G) ho).imp fun v H1 ⟨α1, d, S1, e1, hr1, rd, q1⟩ => ?_⟩
    refine ⟨α1, σ, S1, hr1, he.ext hr e1, (Out.bind (rel' := rDs G) q1).imp fun vs H2 ⟨α2, ds, S2, e2, hr2, rds, q2⟩ => ?_⟩
    exact q2.val hr2 ⟨v, vs, rfl, Rep.keep (e2.toKeep hr1) _ _ rd, rds⟩

/-! ### the forms -/
section
variable (c : EC P ci N G cl mk W hx hs calm sc X)
include c
theorem s_loc {i : Nat} {x : Str} {pos : Pos} (hi : N[i]? = some x) (hv : visB sc x = true) (hd : dbgB x = true) : PE X (.Name x pos) (tM G W hx (evalE P cl mk (.loc i))) :=
  pe_imp (pe_var (by rw [c.nN]; exact hi) (by rw [c.scp]; exact vis_of hv) (dbg_of hd).1 (dbg_of hd).2.1) fun V H Q ⟨α, σ, S, hr, he, ho⟩ => by
    simp only [evalE] at ho
    split at ho
    · exact ho.elim
    · rename_i d hne hσ
      obtain ⟨v, e1, r⟩ := he.at_ _ _ hσ
      rcases r with r | ⟨a, cc, ds, dd, e2, _⟩
      · exact ⟨v, e1, ho.val hr r⟩
      · exact (hne cc ds e2).elim
    · exact ho.elim
omit c in
theorem s_con {e : Expr} {d : D} {v : L2.V} (h : PE X e (tC v)) (r : ∀ α H, Rep G α H d v) : PE X e (tM G W hx (evalE P cl mk (.con d))) :=
  pe_imp h fun V H Q ⟨α, σ, S, hr, he, ho⟩ => by
    simp only [evalE] at ho
    exact ho.val hr (r α H)
omit c in
theorem s_lit {k : PySem.Const} {j : Nat} {pos : Pos} {d : D} (h : chkC k d = true) : PE X (.Constant k j pos) (tM G W hx (evalE P cl mk (.con d))) := by
  cases k <;> cases d <;> first | (cases h; done) | skip
  · exact s_con pe_non fun _ _ => rfl
  · simp only [chkC, beq_iff_eq] at h
    subst h
    exact s_con pe_bl fun _ _ => rfl
  · have h := of_decide_eq_true h
    subst h
    exact s_con pe_int fun _ _ => rfl
  · rename_i s t
    have h := of_decide_eq_true h
    subst h
    exact s_con pe_str fun _ _ => by show _ = _; simp
theorem s_bin {o : Op} {a b : Expr} {ia ib : IE} {pos : Pos} (ha : PE X a (tM G W hx (evalE P cl mk ia))) (hb : PE X b (tM G W hx (evalE P cl mk ib))) : PE X (.BinOp a (opP o) b pos) (tM G W hx (evalE P cl mk (.bin o ia ib))) :=
  pe_imp (pe_op (op_ok c.ok o) ha hb) fun V H Q ⟨α, σ, S, hr, he, ho⟩ => by
    simp only [evalE] at ho
    exact ⟨α, σ, S, hr, he, (Out.bind (rel' := rD G) ho).imp fun x H1 ⟨α1, d, S1, e1, hr1, rd, q1⟩ => ⟨α1, σ, S1, hr1, he.ext hr e1, (Out.bind (rel' := rD G) q1).imp fun y H2 ⟨α2, d2, S2, e2, hr2, rd2, q2⟩ =>
      ⟨W, V, α2, S2, d, d2, hr2, Rep.keep (e2.toKeep hr1) _ _ rd, rd2, q2⟩⟩⟩
omit c in
theorem s_neg {a : Expr} {ia : IE} {pos : Pos} (ha : PE X a (tM G W hx (evalE P cl mk ia))) : PE X (.UnaryOp .USub a pos) (tM G W hx (evalE P cl mk (.neg ia))) :=
  pe_imp (pe_un un_neg ha) fun V H Q ⟨α, σ, S, hr, he, ho⟩ => by
    simp only [evalE] at ho
    refine ⟨α, σ, S, hr, he, (Out.bind (rel' := rD G) ho).imp fun x H1 ⟨α1, d, S1, e1, hr1, rd, q1⟩ => ?_⟩
    cases d <;> first | exact False.elim q1 | skip
    exact ⟨_, rd, q1.val hr1 rfl⟩
omit c in
/-- a value's truth, in a result -/
theorem truR {A B : Type} {rel : List Addr → Hp → A → B → Prop} {V : L2.St} {α : List Addr} {H : Hp} {S : St} {d : D} {v : L2.V} {f : Bool → St → R A} {Q : B → Hp → Prop} (hr : HRel G α H S) (rd : Rep G α H d v) (h : Out rel G W V α H ((truthR d S).bind f) Q) :
    ∃ k, TruV G.K v H k ∧ Out rel G W V α H (f k S) Q := by
  unfold truthR at h
  cases e : truth S d with
  | none => rw [e] at h; exact h.elim
  | some k => rw [e] at h; exact ⟨k, truth_tv hr e rd, h⟩
theorem s_not {a : Expr} {ia : IE} {pos : Pos} (ha : PE X a (tM G W hx (evalE P cl mk ia))) : PE X (.UnaryOp .Not a pos) (tM G W hx (evalE P cl mk (.not_ ia))) :=
  pe_imp (pe_notT ha) fun V H Q ⟨α, σ, S, hr, he, ho⟩ => by
    simp only [evalE] at ho
    refine ⟨α, σ, S, hr, he, (Out.bind (rel' := rD G) ho).imp fun x H1 ⟨α1, d, S1, e1, hr1, rd, q1⟩ => ?_⟩
    obtain ⟨k, t, q⟩ := truR hr1 rd q1
    exact ⟨k, by rw [c.ok.K]; exact t, Out.val (S := S1) q hr1 rfl⟩
theorem s_and {a b : Expr} {r : List Expr} {ia ib : IE} {pos : Pos} (ha : PE X a (tM G W hx (evalE P cl mk ia))) (hb : PE X (.BoolOp .And (b :: r) pos) (tM G W hx (evalE P cl mk ib))) : PE X (.BoolOp .And (a :: b :: r) pos) (tM G W hx (evalE P cl mk (.and_ ia ib))) :=
  pe_imp (pe_andT ha hb) fun V H Q ⟨α, σ, S, hr, he, ho⟩ => by
    simp only [evalE] at ho
    refine ⟨α, σ, S, hr, he, (Out.bind (rel' := rD G) ho).imp fun x H1 ⟨α1, d, S1, e1, hr1, rd, q1⟩ => ?_⟩
    obtain ⟨k, t, q⟩ := truR hr1 rd q1
    refine ⟨k, by rw [c.ok.K]; exact t, ?_⟩
    cases k with
    | true => exact ⟨α1, σ, S1, hr1, he.ext hr e1, q⟩
    | false => exact Out.val (S := S1) q hr1 rd
theorem s_or {a b : Expr} {r : List Expr} {ia ib : IE} {pos : Pos} (ha : PE X a (tM G W hx (evalE P cl mk ia))) (hb : PE X (.BoolOp .Or (b :: r) pos) (tM G W hx (evalE P cl mk ib))) : PE X (.BoolOp .Or (a :: b :: r) pos) (tM G W hx (evalE P cl mk (.or_ ia ib))) :=
  pe_imp (pe_orT ha hb) fun V H Q ⟨α, σ, S, hr, he, ho⟩ => by
    simp only [evalE] at ho
    refine ⟨α, σ, S, hr, he, (Out.bind (rel' := rD G) ho).imp fun x H1 ⟨α1, d, S1, e1, hr1, rd, q1⟩ => ?_⟩
    obtain ⟨k, t, q⟩ := truR hr1 rd q1
    refine ⟨k, by rw [c.ok.K]; exact t, ?_⟩
    cases k with
    | true => exact Out.val (S := S1) q hr1 rd
    | false => exact ⟨α1, σ, S1, hr1, he.ext hr e1, q⟩
omit c in
theorem cmpR_out {A B : Type} {rel : List Addr → Hp → A → B → Prop} {V : L2.St} {α : List Addr} {H : Hp} {S : St} {o : Cm} {x y : D} {f : Bool → St → R A} {Q : B → Hp → Prop} (h : Out rel G W V α H ((cmpR o x y S).bind f) Q) :
    ∃ k, cmpV o x y S = some k ∧ Out rel G W V α H (f k S) Q := by
  unfold cmpR at h
  cases e : cmpV o x y S with
  | none => rw [e] at h; exact h.elim
  | some k => rw [e] at h; exact ⟨k, rfl, h⟩
theorem s_cmp {o : Cm} {a b : Expr} {ia ib : IE} {pos : Pos} (ha : PE X a (tM G W hx (evalE P cl mk ia))) (hb : PE X b (tM G W hx (evalE P cl mk ib))) (hm : behindInMarks (cmP o) b = false) :
    PE X (.Compare a [cmP o] [b] pos) (tM G W hx (evalE P cl mk (.cmp o ia ib))) ∧ PT X (.Compare a [cmP o] [b] pos) (tMT G W hx (evT P cl mk (.cmp o ia ib))) := by
  refine ⟨pe_imp (pe_cmpR (cm_ok c.ok o) ha hb hm) fun V H Q ⟨α, σ, S, hr, he, ho⟩ => ?_, pt_imp (pt_cmpR (cm_ok c.ok o) ha hb hm) fun V H Q ⟨α, σ, S, hr, he, ho⟩ => ?_⟩
  · simp only [evalE] at ho
    refine ⟨α, σ, S, hr, he, (Out.bind (rel' := rD G) ho).imp fun x H1 ⟨α1, d, S1, e1, hr1, rd, q1⟩ => ⟨α1, σ, S1, hr1, he.ext hr e1, (Out.bind (rel' := rD G) q1).imp fun y H2 ⟨α2, d2, S2, e2, hr2, rd2, q2⟩ => ?_⟩⟩
    obtain ⟨k, ek, q⟩ := cmpR_out q2
    exact ⟨α2, S2, d, d2, k, hr2, Rep.keep (e2.toKeep hr1) _ _ rd, rd2, ek, Out.val (S := S2) q hr2 rfl⟩
  · simp only [evT, evalT] at ho
    refine ⟨α, σ, S, hr, he, (Out.bind (rel' := rD G) ho).imp fun x H1 ⟨α1, d, S1, e1, hr1, rd, q1⟩ => ⟨α1, σ, S1, hr1, he.ext hr e1, (Out.bind (rel' := rD G) q1).imp fun y H2 ⟨α2, d2, S2, e2, hr2, rd2, q2⟩ => ?_⟩⟩
    have q2' : Out rB G W V α2 H2 ((cmpR o d d2 S2).bind fun k S => .ok k S) Q := by
      cases hq : cmpR o d d2 S2 with
      | ok a S => rw [hq] at q2; exact q2
      | exc _ _ _ => rw [hq] at q2; exact q2
      | bad => rw [hq] at q2; exact q2
    obtain ⟨k, ek, q⟩ := cmpR_out q2'
    exact ⟨α2, S2, d, d2, k, hr2, Rep.keep (e2.toKeep hr1) _ _ rd, rd2, ek, k, rfl, Out.val (S := S2) q hr2 rfl⟩
theorem s_cmp2 {o p : Cm} {a b d : Expr} {ia ib id : IE} {pos : Pos} (ha : PE X a (tM G W hx (evalE P cl mk ia))) (hb : PE X b (tM G W hx (evalE P cl mk ib))) (hd : PE X d (tM G W hx (evalE P cl mk id))) (hm : lastMarks [cmP o, cmP p] [b, d] = false) :
    PE X (.Compare a [cmP o, cmP p] [b, d] pos) (tM G W hx (evalE P cl mk (.cmp2 o p ia ib id))) ∧ PT X (.Compare a [cmP o, cmP p] [b, d] pos) (tMT G W hx (evT P cl mk (.cmp2 o p ia ib id))) := by
  have key : ∀ V H Q, tM G W hx (evalE P cl mk (.cmp2 o p ia ib id)) V H Q → tChain (rC G o) (rC G p) (tM G W hx (evalE P cl mk ia)) (tM G W hx (evalE P cl mk ib)) (tM G W hx (evalE P cl mk id)) V H Q := by
    intro V H Q ⟨α, σ, S, hr, he, ho⟩
    simp only [evalE] at ho
    refine ⟨α, σ, S, hr, he, (Out.bind (rel' := rD G) ho).imp fun x H1 ⟨α1, d, S1, e1, hr1, rd, q1⟩ => ⟨α1, σ, S1, hr1, he.ext hr e1, (Out.bind (rel' := rD G) q1).imp fun y H2 ⟨α2, d2, S2, e2, hr2, rd2, q2⟩ => ?_⟩⟩
    obtain ⟨k, ek, q⟩ := cmpR_out q2
    refine ⟨α2, S2, d, d2, k, hr2, Rep.keep (e2.toKeep hr1) _ _ rd, rd2, ek, k, rfl, ?_⟩
    cases k with
    | true =>
      rw [if_pos rfl]
      simp only [if_true] at q
      refine ⟨α2, σ, S2, hr2, (he.ext hr e1).ext hr1 e2, (Out.bind (rel' := rD G) q).imp fun z H3 ⟨α3, d3, S3, e3, hr3, rd3, q3⟩ => ?_⟩
      obtain ⟨k, ek, q⟩ := cmpR_out q3
      exact ⟨α3, S3, d2, d3, k, hr3, Rep.keep (e3.toKeep hr2) _ _ rd2, rd3, ek, Out.val (S := S3) q hr3 rfl⟩
    | false =>
      rw [if_neg Bool.false_ne_true]
      exact Out.val (S := S2) q hr2 rfl
  refine ⟨pe_imp (pe_chain (cm_ok c.ok o) (cm_ok c.ok p) ha hb hd hm) key, pt_imp (pt_chain (cm_ok c.ok o) (cm_ok c.ok p) ha hb hd hm) fun V H Q h => key V H _ ?_⟩
  obtain ⟨α, σ, S, hr, he, ho⟩ := h
  refine ⟨α, σ, S, hr, he, ?_⟩
  simp only [evT, evalT] at ho
  -- the value is a bool
  have hb : ∀ d S', evalE P cl mk (.cmp2 o p ia ib id) σ S = .ok d S' → ∃ k, d = .bl k := by
    intro d S' e
    simp only [evalE] at e
    cases e1 : evalE P cl mk ia σ S with
    | ok x S1 =>
      rw [e1] at e; simp only [R.bind] at e
      cases e2 : evalE P cl mk ib σ S1 with
      | ok y S2 =>
        rw [e2] at e; simp only at e
        cases e3 : cmpR o x y S2 with
        | ok k S3 =>
          rw [e3] at e; simp only at e
          cases k with
          | true =>
            simp only [if_true] at e
            cases e4 : evalE P cl mk id σ S3 with
            | ok z S4 =>
              rw [e4] at e; simp only at e
              cases e5 : cmpR p y z S4 with
              | ok k S5 => rw [e5] at e; simp only [bl, R.ok.injEq] at e; exact ⟨k, e.1.symm⟩
              | exc _ _ _ => rw [e5] at e; cases e
              | bad => rw [e5] at e; cases e
            | exc _ _ _ => rw [e4] at e; cases e
            | bad => rw [e4] at e; cases e
          | false => simp only [Bool.false_eq_true, if_false, bl, R.ok.injEq] at e; exact ⟨false, e.1.symm⟩
        | exc _ _ _ => rw [e3] at e; cases e
        | bad => rw [e3] at e; cases e
      | exc _ _ _ => rw [e2] at e; cases e
      | bad => rw [e2] at e; cases e
    | exc _ _ _ => rw [e1] at e; cases e
    | bad => rw [e1] at e; cases e
  cases er : evalE P cl mk (.cmp2 o p ia ib id) σ S with
  | ok d S' =>
    obtain ⟨k, rfl⟩ := hb d S' er
    rw [er] at ho
    intro β H' v e1 hr1 rv
    exact ⟨k, rv, ho β H' k e1 hr1 rfl⟩
  | exc _ _ _ => rw [er] at ho; exact ho
  | bad => rw [er] at ho; exact ho
/-- a value's truth as a test -/
theorem s_plain {e : Expr} {ie : IE} (h : PE X e (tM G W hx (evalE P cl mk ie))) (he : plainE e = true) (hi : plainI ie = true) : PT X e (tMT G W hx (evT P cl mk ie)) := by
  refine pt_imp (pt_truth h fun whole => ?_) fun V H Q ⟨α, σ, S, hr, her, ho⟩ => ?_
  · cases e <;> first | rfl | (cases he; done) | skip
    rename_i op a pos
    cases op <;> first | rfl | (cases he; done)
  · have e1 : evT P cl mk ie σ S = (evalE P cl mk ie σ S).bind fun x S => truthR x S := by
      unfold evT
      cases ie <;> first | rfl | (cases hi; done)
    rw [e1] at ho
    refine ⟨α, σ, S, hr, her, (Out.bind (rel' := rD G) ho).imp fun v H1 ⟨α1, d, S1, e1, hr1, rd, q1⟩ => ?_⟩
    have q1' : Out rB G W V α1 H1 ((truthR d S1).bind fun k S => .ok k S) Q := by
      cases hq : truthR d S1 with
      | ok a S => rw [hq] at q1; exact q1
      | exc _ _ _ => rw [hq] at q1; exact q1
      | bad => rw [hq] at q1; exact q1
    obtain ⟨k, t, q⟩ := truR hr1 rd q1'
    exact ⟨k, by rw [c.ok.K]; exact t, Out.val (S := S1) q hr1 rfl⟩
theorem s_isN {a b : Expr} {ia : IE} {pos : Pos} (ha : PE X a (tM G W hx (evalE P cl mk ia))) (hb : (match b with
          | .Constant .none _ _ => true
          | _ => false) = true) : PE X (.Compare a [.Is] [b] pos) (tM G W hx (evalE P cl mk (.isN ia))) ∧ PT X (.Compare a [.Is] [b] pos) (tMT G W hx (evT P cl mk (.isN ia))) := by
  split at hb
  · rename_i j p
    have dn : ∀ {α H} {d : D} {v : L2.V}, Rep G α H d v → decide (d = .non) = decide (v = .non) := by
      intro α H d v r
      cases d <;> first | (rw [show v = _ from r]; simp; done) | skip
      · obtain ⟨a, vs, rfl, _⟩ := r; simp
      · obtain ⟨a, vs, rfl, _⟩ := r; simp
      · obtain ⟨a, _, rfl⟩ := r; simp
      · exact r.elim
    refine ⟨pe_imp (pe_cmp (pc_isN ha) rfl) fun V H Q ⟨α, σ, S, hr, he, ho⟩ => ?_, pt_imp (pt_cmp (pc_isN ha) rfl) fun V H Q ⟨α, σ, S, hr, he, ho⟩ => ?_⟩
    · simp only [evalE] at ho
      refine ⟨α, σ, S, hr, he, (Out.bind (rel' := rD G) ho).imp fun x H1 ⟨α1, d, S1, e1, hr1, rd, q1⟩ => ?_⟩
      rw [← dn rd]
      exact Out.val (S := S1) q1 hr1 rfl
    · simp only [evT, evalT, evalE, R.assoc] at ho
      refine ⟨α, σ, S, hr, he, (Out.bind (rel' := rD G) ho).imp fun x H1 ⟨α1, d, S1, e1, hr1, rd, q1⟩ => ?_⟩
      rw [← dn rd]
      exact ⟨_, rfl, Out.val (S := S1) q1 hr1 rfl⟩
  · cases hb
theorem s_notN {a b : Expr} {ia : IE} {pos : Pos} (ha : PE X a (tM G W hx (evalE P cl mk ia))) (hb : (match b with
          | .Constant .none _ _ => true
          | _ => false) = true) : PE X (.Compare a [.IsNot] [b] pos) (tM G W hx (evalE P cl mk (.notN ia))) ∧ PT X (.Compare a [.IsNot] [b] pos) (tMT G W hx (evT P cl mk (.notN ia))) := by
  split at hb
  · rename_i j p
    have dn : ∀ {α H} {d : D} {v : L2.V}, Rep G α H d v → decide (d = .non) = decide (v = .non) := by
      intro α H d v r
      cases d <;> first | (rw [show v = _ from r]; simp; done) | skip
      · obtain ⟨a, vs, rfl, _⟩ := r; simp
      · obtain ⟨a, vs, rfl, _⟩ := r; simp
      · obtain ⟨a, _, rfl⟩ := r; simp
      · exact r.elim
    refine ⟨pe_imp (pe_cmp (pc_notN ha) rfl) fun V H Q ⟨α, σ, S, hr, he, ho⟩ => ?_, pt_imp (pt_cmp (pc_notN ha) rfl) fun V H Q ⟨α, σ, S, hr, he, ho⟩ => ?_⟩
    · simp only [evalE] at ho
      refine ⟨α, σ, S, hr, he, (Out.bind (rel' := rD G) ho).imp fun x H1 ⟨α1, d, S1, e1, hr1, rd, q1⟩ => ?_⟩
      rw [← dn rd]
      exact Out.val (S := S1) q1 hr1 rfl
    · simp only [evT, evalT, evalE, R.assoc] at ho
      refine ⟨α, σ, S, hr, he, (Out.bind (rel' := rD G) ho).imp fun x H1 ⟨α1, d, S1, e1, hr1, rd, q1⟩ => ?_⟩
      rw [← dn rd]
      exact ⟨_, rfl, Out.val (S := S1) q1 hr1 rfl⟩
  · cases hb
omit c in
theorem s_ife {k a b : Expr} {ic ia ib : IE} {pos : Pos} (hk : PT X k (tMT G W hx (evT P cl mk ic))) (ha : PE X a (tM G W hx (evalE P cl mk ia))) (hb : PE X b (tM G W hx (evalE P cl mk ib))) : PE X (.IfExp k a b pos) (tM G W hx (evalE P cl mk (.ife ic ia ib))) :=
  pe_imp (pe_ifExp hk ha hb) fun V H Q ⟨α, σ, S, hr, he, ho⟩ => by
    simp only [evalE] at ho
    refine ⟨α, σ, S, hr, he, (Out.bind (rel' := rB) ho).imp fun t H1 ⟨α1, d, S1, e1, hr1, rd, q1⟩ => ?_⟩
    obtain rfl : d = t := rd
    cases d with
    | true => exact ⟨α1, σ, S1, hr1, he.ext hr e1, q1⟩
    | false => exact ⟨α1, σ, S1, hr1, he.ext hr e1, q1⟩
omit c in
theorem s_tup {es : List Expr} {is : List IE} {k : Nat} {pos : Pos} (h : PA X es (tMs G W hx (evalEs P cl mk is))) : PE X (.Tuple es k pos) (tM G W hx (evalE P cl mk (.tup is))) :=
  pe_imp (pe_tup h) fun V H Q ⟨α, σ, S, hr, he, ho⟩ => by
    simp only [evalE] at ho
    refine ⟨α, σ, S, hr, he, (Out.bind (rel' := rDs G) ho).imp fun vs H1 ⟨α1, ds, S1, e1, hr1, rd, q1⟩ => ?_⟩
    obtain ⟨hl, q⟩ := q1.kind
    exact ⟨by rw [← rd.len, ← lines]; exact hl, q.tup hr1 rd⟩
omit c in
theorem s_lst {es : List Expr} {is : List IE} {pos : Pos} (h : PA X es (tMs G W hx (evalEs P cl mk is))) : PE X (.List es pos) (tM G W hx (evalE P cl mk (.lst is))) :=
  pe_imp (pe_lst h) fun V H Q ⟨α, σ, S, hr, he, ho⟩ => by
    simp only [evalE] at ho
    refine ⟨α, σ, S, hr, he, (Out.bind (rel' := rDs G) ho).imp fun vs H1 ⟨α1, ds, S1, e1, hr1, rd, q1⟩ => ?_⟩
    obtain ⟨hl, q⟩ := q1.kind
    exact ⟨by rw [← rd.len, ← lines]; exact hl, q.alloc hr1 ⟨vs, rfl, rd⟩⟩
theorem s_ix {a b : Expr} {ia ib : IE} {pos : Pos} (ha : PE X a (tM G W hx (evalE P cl mk ia))) (hb : PE X b (tM G W hx (evalE P cl mk ib))) (hs : PlainIx b) : PE X (.Subscript a b pos) (tM G W hx (evalE P cl mk (.ix ia ib))) :=
  pe_imp (pe_ix (ixr_ok c.ok) ha hb hs) fun V H Q ⟨α, σ, S, hr, he, ho⟩ => by
    simp only [evalE] at ho
    refine ⟨α, σ, S, hr, he, (Out.bind (rel' := rD G) ho).imp fun x H1 ⟨α1, d, S1, e1, hr1, rd, q1⟩ => ⟨α1, σ, S1, hr1, he.ext hr e1, (Out.bind (rel' := rD G) q1).imp fun y H2 ⟨α2, d2, S2, e2, hr2, rd2, q2⟩ => ?_⟩⟩
    unfold pureO at q2
    split at q2
    · rename_i z hz
      exact ⟨α2, S2, d, d2, z, hr2, Rep.keep (e2.toKeep hr1) _ _ rd, rd2, hz, fun v rv => q2.val hr2 rv⟩
    · exact q2.elim
omit c in
theorem tMs_len {es : List Expr} {is : List IE} {f : Expr → IE → Bool} (h : chkL f es is = true) : es.length = is.length := by
  revert is
  induction es with
  | nil => intro is h; cases is with
    | nil => rfl
    | cons _ _ => cases h
  | cons e es ih => intro is h; cases is with
    | nil => cases h
    | cons i is =>
      simp only [chkL, Bool.and_eq_true] at h
      rw [List.length_cons, List.length_cons, ih h.2]
omit c in
theorem evalEs_len {P : Pg} : ∀ {is : List IE} {σ : Env} {S S' : St} {ds : List D}, evalEs P cl mk is σ S = .ok ds S' → ds.length = is.length := by
  intro is
  induction is with
  | nil => intro σ S S' ds e; simp only [evalEs, R.ok.injEq] at e; rw [← e.1]; rfl
  | cons i is ih =>
    intro σ S S' ds e
    simp only [evalEs] at e
    cases e1 : evalE P cl mk i σ S with
    | ok x S1 =>
      rw [e1] at e; simp only [R.bind] at e
      cases e2 : evalEs P cl mk is σ S1 with
      | ok xs S2 =>
        rw [e2] at e; simp only [R.ok.injEq] at e
        rw [← e.1, List.length_cons, List.length_cons, ih e2]
      | exc _ _ _ => rw [e2] at e; cases e
      | bad => rw [e2] at e; cases e
    | exc _ _ _ => rw [e1] at e; cases e
    | bad => rw [e1] at e; cases e
theorem s_call (hcm : calm = true) {i : Nat} {x : Str} {p pos : Pos} {es : List Expr} {is : List IE} {f : Expr → IE → Bool} (h : fnB ci sc x i es.length = true) (hL : chkL f es is = true) (hf : ∀ e ie, f e ie = true → PE X e (tM G W hx (evalE P cl mk ie))) :
    PE X (.Call (.Name x p) es [] pos) (tM G W hx (evalE P cl mk (.call i is))) := by
  simp only [fnB, Bool.and_eq_true] at h
  obtain ⟨⟨h1, h2⟩, h3⟩ := h
  split at h3
  · rename_i i' m hj
    simp only [Bool.and_eq_true, beq_iff_eq] at h3
    obtain ⟨h3, h4⟩ := h3
    subst h3 h4
    obtain ⟨A, j, el, e1, e2, e3, e4, e5⟩ := c.fn hcm _ _ _ hj
    have ha := s_args hf hL
    refine ⟨fun pins s V H Q I q => ?_⟩
    obtain ⟨α, σ, S, hr, he, ho⟩ := q
    simp only [evalE] at ho
    -- the arguments, and how many
    have hbase : Out (rDs G) G W V α H (evalEs P cl mk is σ S) (fun vs H1 => spM G cl i' A.ps.length vs H1 Q (WE W V)) := by
      cases er : evalEs P cl mk is σ S with
      | ok ds S' =>
        rw [er] at ho
        intro β H' vs e hr' rs
        refine ⟨?_, β, S', ds, hr', rs, Out.ext ho e⟩
        rw [← rs.len, evalEs_len er, ← tMs_len hL, el]
      | exc _ _ _ => rw [er] at ho; exact ho
      | bad => rw [er] at ho; exact ho
    refine wpAny_Call_Name_kw (ld_glob I (gl_of c.scp h1) e1 ?_ (dbg_of h2).1)
    cases es with
    | nil =>
      refine PySem.W.callWith_K0 I.kIn e2 ?_
      cases is with
      | cons _ _ => cases hL
      | nil =>
        simp only [evalEs] at hbase
        exact run_fnS (E := WE W) e4 e5 e3 (passAt c.ok.tk V) I .nil (hbase.val hr rfl)
    | cons e es =>
      have hL' := hL
      cases is with
      | nil => cases hL
      | cons i2 is =>
        simp only [chkL, Bool.and_eq_true] at hL'
        refine PySem.W.callWith_K (h₀ := X.base) I.ok.mod.kin e2 (thn (ha.run pos pins s V H _ I ⟨α, σ, S, hr, he, hbase⟩) fun us s1 ⟨vs, H1, I1, r, q⟩ => ⟨I1.kIn, ?_⟩) (star_of hL'.1.1) (chkL_star hL'.2)
        exact run_fnS (E := WE W) e4 e5 e3 (passAt c.ok.tk V) I1 r q
  · cases h3
theorem ld_bl {x : Str} {v : Value} (h : bltB ci sc x = true) (hv : bootBuiltins x = some v) {u : L2.V} (r : RelV u v) {pos : Pos} : PE X (.Name x pos) (tC u) := by
  simp only [bltB, Bool.and_eq_true] at h
  exact pe_bltn (gl_of c.scp h.1.1) (c.blt _ h.1.2) hv r (dbg_of h.2).2.2 (dbg_of h.2).1
omit c in
theorem boot_bi (b : Bi) : bootBuiltins (biName b) = some (biF b) := by cases b <;> decide +kernel
theorem s_bi {b : Bi} {a : Expr} {ia : IE} {p pos : Pos} (hc : X.calm = true) (h : bltB ci sc (biName b) = true) (hs : notStar a = true) (ha : PE X a (tM G W hx (evalE P cl mk ia))) : PE X (.Call (.Name (biName b) p) [a] [] pos) (tM G W hx (evalE P cl mk (.bi b ia))) := by
  have h' := h
  simp only [bltB, Bool.and_eq_true] at h
  have hA : PA X [a] (tCons (tM G W hx (evalE P cl mk ia)) tNil) := pa_cons ha pa_nil (star_of hs)
  have key : ∀ V H Q, tM G W hx (evalE P cl mk (.bi b ia)) V H Q → tCB (rBi G b) (tCons (tM G W hx (evalE P cl mk ia)) tNil) V H Q := by
    intro V H Q ⟨α, σ, S, hr, he, ho⟩
    simp only [evalE] at ho
    exact ⟨α, σ, S, hr, he, (Out.bind (rel' := rD G) ho).imp fun x H1 ⟨α1, d, S1, e1, hr1, rd, q1⟩ => ⟨W, V, α1, S1, d, x, rfl, hr1, rd, q1⟩⟩
  have hr := bi_ok c.ok hc b
  have hb := boot_bi b
  cases b <;> first
    | exact pe_imp (pe_callB hr (gl_of c.scp h.1.1) (c.blt _ h.1.2) hb hA (dbg_of h.2).2.2 (dbg_of h.2).1 (star_of hs) rfl) key
    | exact pe_imp (pe_callTy hr (gl_of c.scp h.1.1) (c.blt _ h.1.2) hb hA (dbg_of h.2).2.2 (dbg_of h.2).1 (star_of hs) rfl) key
omit c in
theorem isi_ty {α : List Addr} {H : Hp} {S : St} {d : D} {t : Ty} {b : Bool} {v : L2.V} (hr : HRel G α H S) (e : isiV P S d t = some b) (r : Rep G α H d v) : ∃ a, TyX G.K H v (.type a) ∧ kitB a (tyN t) = some b := by
  cases d <;> first | (cases e; done) | skip
  case non => exact ⟨"NoneType", by rw [show v = .non from r]; exact .base .non, kit_all "NoneType" t b (by simp) (by cases t <;> first | (cases e; done) | exact e)⟩
  case bl k => exact ⟨"bool", by rw [show v = .bl k from r]; exact .base (.bl k), kit_all "bool" t b (by simp) (by cases t <;> first | (cases e; done) | exact e)⟩
  case int k => exact ⟨"int", by rw [show v = .int k from r]; exact .base (.int k), kit_all "int" t b (by simp) (by cases t <;> first | (cases e; done) | exact e)⟩
  case str k => exact ⟨"str", by rw [show v = .str _ from r]; exact .base (.str _), kit_all "str" t b (by simp) (by cases t <;> first | (cases e; done) | exact e)⟩
  case tup ds =>
    obtain ⟨a, vs, rfl, st, _⟩ := r
    refine ⟨"tuple", ?_, kit_all "tuple" t b (by simp) (by cases t <;> first | (cases e; done) | exact e)⟩
    rcases st with (st | ⟨o, st⟩) | ⟨o, its, n, h1, h2, _⟩
    · exact .base (.tup st)
    · exact .fTuple st
    · exact .kTuple h1 h2
  case ref i =>
    simp only [isiV] at e
    split at e
    · rename_i xs hS
      obtain ⟨p, o, rfl, _, hH, vs, rfl, rs⟩ := hr.get hS r
      exact ⟨"list", .base (.lst hH), kit_all "list" t b (by simp) (by cases t <;> first | (cases e; done) | exact e)⟩
    · cases e
omit c in
theorem boot_ty (t : Ty) (h : isOwn t = false) : bootBuiltins (tyName t) = some (.type (tyN t)) := by cases t <;> first | (cases h; done) | decide +kernel
theorem s_isi {a : Expr} {ia : IE} {t : Ty} {p p2 pos : Pos} (h : bltB ci sc "isinstance" = true) (ht : bltB ci sc (tyName t) = true) (ho : isOwn t = false) (hs : notStar a = true) (ha : PE X a (tM G W hx (evalE P cl mk ia))) :
    PE X (.Call (.Name "isinstance" p) [a, .Name (tyName t) p2] [] pos) (tM G W hx (evalE P cl mk (.isi ia t))) := by
  have h' := h
  simp only [bltB, Bool.and_eq_true] at h'
  have hT : PE X (.Name (tyName t) p2) (tC (.ty (tyN t))) := ld_bl c ht (boot_ty t ho) (show RelV (.ty (tyN t)) (.type (tyN t)) from rfl)
  have hA : PA X [a, .Name (tyName t) p2] (tCons (tM G W hx (evalE P cl mk ia)) (tCons (tC (.ty (tyN t))) tNil)) := pa_cons ha (pa_cons hT pa_nil rfl) (star_of hs)
  refine pe_imp (pe_callB call_isi (gl_of c.scp h'.1.1) (c.blt _ h'.1.2) (by decide +kernel) hA (dbg_of h'.2).2.2 (dbg_of h'.2).1 (star_of hs) rfl) fun V H Q ⟨α, σ, S, hr, he, ho⟩ => ?_
  simp only [evalE] at ho
  refine ⟨α, σ, S, hr, he, (Out.bind (rel' := rD G) ho).imp fun x H1 ⟨α1, d, S1, e1, hr1, rd, q1⟩ => ?_⟩
  split at q1
  · rename_i b hb
    obtain ⟨ty, h1, h2⟩ := isi_ty hr1 hb rd
    exact ⟨x, .ty (tyN t), .type ty, .type (tyN t), b, rfl, .ty _, by rw [c.ok.K]; exact h1, kit_ty h2, Out.val (S := S1) q1 hr1 rfl⟩
  · exact q1.elim
theorem s_xisi {i t : Nat} {y z : Str} {p p2 p3 pos : Pos} (h : bltB ci sc "isinstance" = true) (hi : N[i]? = some y) (hv : visB sc y = true) (hd : dbgB y = true) (hz : excB ci sc z t = true) :
    PE X (.Call (.Name "isinstance" p) [.Name y p2, .Name z p3] [] pos) (tM G W hx (evalE P cl mk (.xisi i t))) := by
  have h' := h
  simp only [bltB, Bool.and_eq_true] at h'
  simp only [excB, Bool.and_eq_true] at hz
  obtain ⟨⟨z1, z2⟩, z3⟩ := hz
  split at z3
  · rename_i t' hj
    simp only [beq_iff_eq] at z3
    subst z3
    obtain ⟨e1, ht⟩ := c.exn _ _ hj
    have hV : PE X (.Name y p2) (tVar i) := pe_var (by rw [c.nN]; exact hi) (by rw [c.scp]; exact vis_of hv) (dbg_of hd).1 (dbg_of hd).2.1
    have hT : PE X (.Name z p3) (tC (.ref (G.xA t'))) := pe_glob (gl_of c.scp z1) e1 rfl (dbg_of z2).1
    have hA : PA X [.Name y p2, .Name z p3] (tCons (tVar i) (tCons (tC (.ref (G.xA t'))) tNil)) := pa_cons hV (pa_cons hT pa_nil rfl) rfl
    refine ⟨fun pins s V H Q I q => ?_⟩
    obtain ⟨α, σ, S, hr, he, ho⟩ := q
    simp only [evalE] at ho
    split at ho
    · rename_i cc vs hσ
      obtain ⟨v, ev, r⟩ := he.at_ _ _ hσ
      rcases r with r | ⟨a, c', ds, dd, e2, e3, e4⟩
      · exact r.elim
      · cases e2
        obtain ⟨hn, _⟩ := he.xr _ _ _ _ _ e3
        refine (pe_callB (c.isE _ _ _ _ _ e3) (gl_of c.scp h'.1.1) (c.blt _ h'.1.2) (by decide +kernel) hA (dbg_of h'.2).2.2 (dbg_of h'.2).1 rfl rfl).run pins s V H Q I ?_
        exact ⟨v, ev, .ref (G.xA t'), .ref (G.xA t'), P.sub cc t', by rw [e4], fun u ru => ru, c.kit _ _ hn ht, Out.val (S := S) ho hr rfl⟩
    · exact ho.elim
  · cases z3
omit c in
theorem base_of {o : Expr} {m : Str} {env : PySem.Env} (h : plainBase o = true) : attributeBase o m env (eval o env) = eval o env := by
  cases o <;> first | rfl | skip
  rename_i f args kws pos
  cases f <;> first | rfl | skip
  rename_i x p
  cases args with
  | cons _ _ => rfl
  | nil =>
    cases kws with
    | cons _ _ => rfl
    | nil => cases h
omit c in
open Builtin Builtin.Str StrLaws in
theorem occ_full (s sub : Str) (hi : Nat) : ∀ (l : List Nat) (st : Array Nat × Nat), 1 ≤ st.fst.size → (forIn l st (occBody s sub hi 1)).run.fst = st.fst
  | [], st, h => rfl
  | a :: l, st, h => by
    rw [List.forIn_cons]
    have : ¬ (((st.fst.size < 1 ∧ st.snd ≤ a) ∧ a + sub.length ≤ hi) ∧ subAt s sub a = true) := fun z => by omega
    unfold occBody
    rw [if_neg this]
    exact occ_full s sub hi l _ h
omit c in
open Builtin Builtin.Str StrLaws in
theorem occ_first (s sub : Str) (hi k : Nat) : ∀ (n free : Nat), free ≤ k → k < free + n → (∀ i, free ≤ i → i < k → ¬ (i + sub.length ≤ hi ∧ subAt s sub i = true)) → (k + sub.length ≤ hi ∧ subAt s sub k = true) → ∀ fr, fr ≤ free →
    (forIn (List.range' free n) ((#[] : Array Nat), fr) (occBody s sub hi 1)).run.fst = #[k]
  | 0, free, h1, h2, _, _, _, _ => by omega
  | n + 1, free, h1, h2, h3, h4, fr, h5 => by
    rw [List.range'_succ, List.forIn_cons]
    by_cases e : free = k
    · subst e
      have : (((((#[] : Array Nat), fr) : Array Nat × Nat).fst.size < 1 ∧ (((#[] : Array Nat), fr) : Array Nat × Nat).snd ≤ free) ∧ free + sub.length ≤ hi) ∧ subAt s sub free = true := ⟨⟨⟨by simp, h5⟩, h4.1⟩, h4.2⟩
      unfold occBody
      rw [if_pos this]
      have := occ_full s sub hi (List.range' (free + 1) n) ((#[] : Array Nat).push free, free + sub.length) (by simp)
      exact this
    · have : ¬ ((((((#[] : Array Nat), fr) : Array Nat × Nat).fst.size < 1 ∧ (((#[] : Array Nat), fr) : Array Nat × Nat).snd ≤ free) ∧ free + sub.length ≤ hi) ∧ subAt s sub free = true) := fun z => h3 free (Nat.le_refl _) (by omega) ⟨z.1.2, z.2⟩
      unfold occBody
      rw [if_neg this]
      exact occ_first s sub hi k n (free + 1) (by omega) (by omega) (fun i a b => h3 i (by omega) b) h4 fr (by omega)
omit c in
theorem idx_some {a : Nat} : ∀ {l : List Nat} {k : Nat}, idx a l = some k → l[k]? = some a ∧ ∀ i, i < k → l[i]? ≠ some a
  | [], k, h => by cases h
  | b :: l, k, h => by
    simp only [idx] at h
    by_cases e : b = a
    · rw [if_pos e] at h; cases h
      exact ⟨by simp [e], fun i hi => by omega⟩
    · rw [if_neg e] at h
      cases q : idx a l with
      | none => rw [q] at h; cases h
      | some j =>
        rw [q] at h; simp only [Option.map_some, Option.some.injEq] at h; subst h
        obtain ⟨h1, h2⟩ := idx_some q
        refine ⟨by simpa using h1, fun i hi => ?_⟩
        cases i with
        | zero => simp [e]
        | succ i => simpa using h2 i (by omega)
omit c in
theorem occ_idx {s : List Nat} {a k : Nat} (h : idx a s = some k) : Builtin.Str.occurrences ⟨s.toArray⟩ ⟨#[a]⟩ 0 (⟨s.toArray⟩ : Str).length 1 = [k] := by
  obtain ⟨h1, h2⟩ := idx_some h
  rw [PySem.StrLaws.occ_eq]
  have hk : k < s.length := (List.getElem?_eq_some_iff.mp h1).1
  have := occ_first ⟨s.toArray⟩ ⟨#[a]⟩ (⟨s.toArray⟩ : Str).length k ((⟨s.toArray⟩ : Str).length + 1 - 0) 0 (Nat.zero_le _) (by rw [slen]; omega) (fun i _ hi z => h2 i hi (by simpa using (PySem.StrLaws.subAt_one ⟨s.toArray⟩ a i).mp z)) ((PySem.StrLaws.subAt_one ⟨s.toArray⟩ a k).mpr (by simpa using h1)) 0 (Nat.le_refl _)
  rw [this]
theorem s_sindex {o a : Expr} {io ia : IE} {apos pos : Pos} (hb : plainBase o = true) (hl : (apos.endLine == pos.line) = true) (hs : notStar a = true) (ho : PE X o (tM G W hx (evalE P cl mk io))) (ha : PE X a (tM G W hx (evalE P cl mk ia))) :
    PE X (.Call (.Attribute o "index" apos) [a] [] pos) (tM G W hx (evalE P cl mk (.bm .sindex io [ia]))) := by
  have hA : PA X [a] (tCons (tM G W hx (evalE P cl mk ia)) tNil) := pa_cons ha pa_nil (star_of hs)
  have hfew : ((backTo pos (starEach [a] X.env)).all (fun x => !x.1) && (backToKw pos (keywordEach [] X.env)).all (fun x => x.1.isSome)
      && decide ([a].length + ([] : List Keyword).length + (if ([] : List Keyword).isEmpty then 0 else 1) < 30)) = true := by
    rw [star_of hs]; rfl
  refine pe_imp (pe_bm PySem.F.plainAttrs_str PySem.F.slot_str_index PySem.F.type_str_index mt_sindex ho hA (base_of hb) hfew hl (star_of hs) rfl) fun V H Q ⟨α, σ, S, hr, he, hO⟩ => ?_
  simp only [evalE, evalEs] at hO
  refine ⟨α, σ, S, hr, he, (Out.bind (rel' := rD G) hO).imp fun x H1 ⟨α1, d, S1, e1, hr1, rd, q1⟩ => ?_⟩
  obtain ⟨ht, q1⟩ := q1.kind
  rw [R.assoc] at q1
  have good : ∃ t, d = .str t := by
    cases d <;> first | (cases ht; done) | exact ⟨_, rfl⟩
  obtain ⟨t, rfl⟩ := good
  refine ⟨by rw [show x = .str _ from rd]; rfl, α1, σ, S1, hr1, he.ext hr e1, (Out.bind (rel' := rD G) q1).imp fun y H2 ⟨α2, d2, S2, e2, hr2, rd2, q2⟩ => ?_⟩
  simp only [R.bind] at q2
  cases d2 <;> first | exact False.elim q2 | skip
  rename_i u
  match u, rd2, q2 with
  | [], _, q2 => exact q2.elim
  | [k], rd2, q2 =>
    simp only [bmV] at q2
    split at q2
    · rename_i j hj
      exact ⟨_, _, j, [], rd, by rw [show y = .str _ from rd2], occ_idx hj, q2.val hr2 rfl⟩
    · exact q2.elim
  | _ :: _ :: _, _, q2 => exact q2.elim
/-! slices -/
omit c in
theorem po_miss {il : IE} (h : isMissing il = true) : PO X none (fun V H Q => ∃ α σ S, HRel G α H S ∧ ERel G hx α H σ V ∧ Out (fun _ _ d o => part d = some o) G W V α H (evalE P cl mk il σ S) Q) := by
  cases il <;> first | (cases h; done) | skip
  rename_i d
  cases d <;> first | (cases h; done) | skip
  refine ⟨fun pins s V H Q I q => po_none.run pins s V H Q I ?_⟩
  obtain ⟨α, σ, S, hr, he, ho⟩ := q
  simp only [evalE] at ho
  exact ho.val hr rfl
omit c in
theorem po_have {l : Expr} {il : IE} (h : PE X l (tM G W hx (evalE P cl mk il))) : PO X (some l) (fun V H Q => ∃ α σ S, HRel G α H S ∧ ERel G hx α H σ V ∧ Out (fun _ _ d o => part d = some o) G W V α H ((evalE P cl mk il σ S).bind fun y S => if (part y).isSome then .ok y S else .bad) Q) := by
  refine ⟨fun pins s V H Q I q => (po_some h).run pins s V H Q I ?_⟩
  obtain ⟨α, σ, S, hr, he, ho⟩ := q
  refine ⟨α, σ, S, hr, he, (Out.bind (rel' := rD G) ho).imp fun v H1 ⟨α1, d, S1, e1, hr1, rd, q1⟩ => ?_⟩
  obtain ⟨hp, q⟩ := q1.kind
  cases d <;> first | (cases hp; done) | skip
  · rename_i i
    exact ⟨i, rd, q.val hr1 rfl⟩
  · exact rd.elim
omit c in
/-- a part as it is asked within a slice -/
theorem po_any {lo : Option Expr} {il : IE} (h : (match lo with
          | none => isMissing il = true
          | some l => PE X l (tM G W hx (evalE P cl mk il)))) : PO X lo (fun V H Q => ∃ α σ S, HRel G α H S ∧ ERel G hx α H σ V ∧ Out (fun _ _ d o => part d = some o) G W V α H ((evalE P cl mk il σ S).bind fun y S => if (part y).isSome then .ok y S else .bad) Q) := by
  cases lo with
  | none =>
    refine ⟨fun pins s V H Q I q => (po_miss (P := P) (G := G) (W := W) (hx := hx) (cl := cl) (mk := mk) h).run pins s V H Q I ?_⟩
    obtain ⟨α, σ, S, hr, he, ho⟩ := q
    refine ⟨α, σ, S, hr, he, ?_⟩
    cases il <;> first | (cases h; done) | skip
    rename_i d
    cases d <;> first | (cases h; done) | skip
    exact ho
  | some l => exact po_have h
theorem s_sl {a : Expr} {lo hi : Option Expr} {ia il ih : IE} {p2 pos : Pos} (ha : PE X a (tM G W hx (evalE P cl mk ia))) (hl : (match lo with
          | none => isMissing il = true
          | some l => PE X l (tM G W hx (evalE P cl mk il)))) (hh : (match hi with
          | none => isMissing ih = true
          | some l => PE X l (tM G W hx (evalE P cl mk ih)))) : PE X (.Subscript a (.Slice lo hi none p2) pos) (tM G W hx (evalE P cl mk (.sl ia il ih))) :=
  pe_imp (pe_slice (sl_ok c.ok) ha (po_any hl) (po_any hh)) fun V H Q ⟨α, σ, S, hr, he, ho⟩ => by
    simp only [evalE] at ho
    refine ⟨α, σ, S, hr, he, (Out.bind (rel' := rD G) ho).imp fun x H1 ⟨α1, d, S1, e1, hr1, rd, q1⟩ => ⟨α1, σ, S1, hr1, he.ext hr e1, ?_⟩⟩
    have q1' : Out (rD G) G W V α1 H1 (((evalE P cl mk il σ S1).bind fun y S => if (part y).isSome then .ok y S else .bad).bind fun y S => (evalE P cl mk ih σ S).bind fun z S => slV d y z S) Q := by
      rw [R.assoc]
      cases e : evalE P cl mk il σ S1 with
      | ok y S' =>
        rw [e] at q1; simp only [R.bind] at q1 ⊢
        split at q1
        · rename_i h; rw [if_pos h]; exact q1
        · exact q1.elim
      | exc _ _ _ => rw [e] at q1; exact q1
      | bad => rw [e] at q1; exact q1
    refine (Out.bind (rel' := fun _ _ d o => part d = some o) q1').imp fun l H2 ⟨α2, d2, S2, e2, hr2, rd2, q2⟩ => ⟨α2, σ, S2, hr2, (he.ext hr e1).ext hr1 e2, ?_⟩
    have q2' : Out (rD G) G W V α2 H2 (((evalE P cl mk ih σ S2).bind fun y S => if (part y).isSome then .ok y S else .bad).bind fun z S => slV d d2 z S) Q := by
      rw [R.assoc]
      cases e : evalE P cl mk ih σ S2 with
      | ok y S' =>
        rw [e] at q2; simp only [R.bind] at q2 ⊢
        by_cases h : (part y).isSome = true
        · rw [if_pos h]; exact q2
        · rw [if_neg h]
          have hn : part y = none := by simpa using h
          simp only [slV, hn] at q2
          split at q2 <;> first | exact q2 | (rename_i hh; cases hh)
      | exc _ _ _ => rw [e] at q2; exact q2
      | bad => rw [e] at q2; exact q2
    refine (Out.bind (rel' := fun _ _ d o => part d = some o) q2').imp fun h H3 ⟨α3, d3, S3, e3, hr3, rd3, q3⟩ => ?_
    exact ⟨W, V, α3, S3, d, d2, d3, hr3, Rep.keep (e3.toKeep hr2) _ _ (Rep.keep (e2.toKeep hr1) _ _ rd), rd2, rd3, q3⟩
end
end
end Mi
/-! # Mi2f: displays of dicts; the checker of expressions is sound. -/
namespace Mi
open PySem PySem.Spec PyProof.Rows L2
section
variable {P : Pg} {ci : CI} {N : List Str} {G : RC} {cl mk : Cl} {W : WX} {hx : HX} {hs : Option Nat} {calm : Bool} {sc : Scope} {X : Cx}
theorem Out.bindX {A B A' B' : Type} {rel : List Addr → Hp → A → B → Prop} {rel' : List Addr → Hp → A' → B' → Prop} {V : L2.St} {α0 α : List Addr} {H0 H : Hp} {Q : B → Hp → Prop} {r : R A'} {f : A' → St → R A} (h : Out rel G W V α0 H0 (r.bind f) Q) (e0 : Ext α0 H0 α H) :
    Out rel' G W V α H r (fun b H1 => ∃ β a S1, Ext α H β H1 ∧ HRel G β H1 S1 ∧ rel' β H1 a b ∧ Out rel G W V α0 H0 (f a S1) Q) := by
  cases r with
  | ok a S => exact fun γ H' b e h1 h2 => ⟨γ, a, S, e, h1, h2, h⟩
  | exc c ds S => exact fun γ H' dd e h1 h2 => h γ H' dd (e0.trans e) h1 h2
  | bad => exact h.elim
def prs (P : Pg) (G : RC) (W : WX) (hx : HX) (cl mk : Cl) : List IE → List (TE × TE)
  | k :: v :: r => (tM G W hx (evalE P cl mk k), tM G W hx (evalE P cl mk v)) :: prs P G W hx cl mk r
  | _ => []
def RepPs (G : RC) (α : List Addr) (H : Hp) : List D → List (L2.V × L2.V) → Prop
  | k :: v :: r, ps => ∃ x y s, ps = (x, y) :: s ∧ Rep G α H k x ∧ Rep G α H v y ∧ RepPs G α H r s
  | [], ps => ps = []
  | [_], _ => False
theorem RepPs.keep {α β : List Addr} {H H' : Hp} (k : Keep α H β H') : ∀ {ds : List D} {ps : List (L2.V × L2.V)}, RepPs G α H ds ps → RepPs G β H' ds ps
  | k1 :: v :: r, ps, h => by
    obtain ⟨x, y, s, e, h1, h2, h3⟩ := h
    exact ⟨x, y, s, e, Rep.keep k _ _ h1, Rep.keep k _ _ h2, RepPs.keep k h3⟩
  | [], ps, h => h
  | [_], _, h => h.elim
theorem pairs_ok {A B : Type} {rel : List Addr → Hp → A → B → Prop} {V : L2.St} {α0 : List Addr} {H0 : Hp} {QB : B → Hp → Prop} : ∀ (is : List IE) (α : List Addr) (H : Hp) (σ : Env) (S : St) (f : List D → St → R A) (Q : List (L2.V × L2.V) → Hp → Prop), is.length % 2 = 0 →
    Ext α0 H0 α H → HRel G α H S → ERel G hx α H σ V → Out rel G W V α0 H0 ((evalEs P cl mk is σ S).bind f) QB →
    (∀ β ds S' ps H2, Ext α H β H2 → HRel G β H2 S' → RepPs G β H2 ds ps → Out rel G W V α0 H0 (f ds S') QB → Q ps H2) → tPairs (prs P G W hx cl mk is) V H Q
  | [], α, H, σ, S, f, Q, _, e0, hr, he, hO, hq => hq α [] S [] H Ext.refl hr rfl (by simp only [evalEs] at hO; exact hO)
  | [_], _, _, _, _, _, _, hl, _, _, _, _, _ => by simp at hl
  | k :: v :: r, α, H, σ, S, f, Q, hl, e0, hr, he, hO, hq => by
    have hl' : r.length % 2 = 0 := by simp only [List.length_cons] at hl; omega
    simp only [evalEs, R.assoc] at hO
    refine ⟨α, σ, S, hr, he, (Out.bindX (rel' := rD G) hO e0).imp fun x H1 ⟨α1, d, S1, e1, hr1, rd, q1⟩ => ?_⟩
    refine ⟨α1, σ, S1, hr1, he.ext hr e1, (Out.bindX (rel' := rD G) q1 (e0.trans e1)).imp fun y H2 ⟨α2, d2, S2, e2, hr2, rd2, q2⟩ => ?_⟩
    refine pairs_ok r α2 H2 σ S2 (fun xs S => f (d :: d2 :: xs) S) _ hl' ((e0.trans e1).trans e2) hr2 ((he.ext hr e1).ext hr1 e2) q2 fun β ds S' ps H3 e3 hr3 rp hO3 => ?_
    exact hq β (d :: d2 :: ds) S' ((x, y) :: ps) H3 ((e1.trans e2).trans e3) hr3 ⟨x, y, ps, rfl, Rep.keep (e3.toKeep hr2) _ _ (Rep.keep (e2.toKeep hr1) _ _ rd), Rep.keep (e3.toKeep hr2) _ _ rd2, rp⟩ hO3
theorem pps_ok {pos : Pos} {f : Expr → IE → Bool} (hf : ∀ e ie, f e ie = true → PE X e (tM G W hx (evalE P cl mk ie))) : ∀ {ks : List (Option Expr)} {vs : List Expr} {is : List IE}, ks.all (·.isSome) = true → ks.length = vs.length → chkL f (dkeys ks vs) is = true →
    PPs X pos ks vs (prs P G W hx cl mk is) ∧ is.length % 2 = 0
  | [], [], [], _, _, _ => ⟨pps_nil, rfl⟩
  | [], [], _ :: _, _, _, h => by cases h
  | [], _ :: _, _, _, h, _ => by cases h
  | _ :: _, [], _, _, h, _ => by cases h
  | none :: _, _ :: _, _, h, _, _ => by simp at h
  | some k :: ks, v :: vs, [], _, _, h => by cases h
  | some k :: ks, v :: vs, [_], _, _, h => by simp [dkeys, chkL] at h
  | some k :: ks, v :: vs, i :: j :: is, h1, h2, h3 => by
    simp only [dkeys, chkL, Bool.and_eq_true] at h3
    obtain ⟨p, q⟩ := pps_ok hf (ks := ks) (vs := vs) (is := is) (by simpa using h1) (by simpa using h2) h3.2.2
    exact ⟨pps_cons (hf k i h3.1.2) (hf v j h3.2.1.2) p, by simp only [List.length_cons]; omega⟩
theorem putK_nodup {kvs : List (Key × L2.V)} {k : Key} {v : L2.V} (h : (kvs.map (·.1)).Nodup) : ((putK kvs k v).map (·.1)).Nodup := by
  unfold putK
  split
  · rw [List.map_map]
    have : (kvs.map ((·.1) ∘ fun kv => if kv.1 = k then (kv.1, v) else kv)) = kvs.map (·.1) := by
      apply List.map_congr_left
      intro p _
      simp only [Function.comp]
      split <;> rfl
    rw [this]; exact h
  · rename_i hn
    rw [List.map_append]
    refine List.nodup_append.mpr ⟨h, by simp, fun a ha b hb => ?_⟩
    simp only [List.map_cons, List.map_nil, List.mem_singleton] at hb
    subst hb
    rintro rfl
    apply hn
    obtain ⟨p, hp, e⟩ := List.mem_map.mp ha
    exact List.any_eq_true.mpr ⟨p, hp, by simp [e]⟩
theorem merge_put {α : List Addr} {H : Hp} {q : Key} {d : D} {v : L2.V} (rv : Rep G α H d v) : ∀ {kvs : List (D × D)} {ks : List (Key × L2.V)}, RepKs G α H kvs ks → (ks.map (·.1)).Nodup → RepKs G α H (mergeD kvs (keyD q) d) (putK ks q v) := by
  intro kvs
  induction kvs with
  | nil =>
    intro ks h _
    rw [show ks = [] from h]
    exact ⟨q, v, [], rfl, rfl, rv, rfl⟩
  | cons p r ih =>
    intro ks h nd
    obtain ⟨a, u⟩ := p
    obtain ⟨q', w, s, rfl, e2, h1, h2⟩ := h
    rw [List.map_cons, List.nodup_cons] at nd
    simp only [mergeD]
    by_cases hq : q' = q
    · subst hq
      rw [if_pos e2]
      have e3 : putK ((q', w) :: s) q' v = (q', v) :: s := by
        unfold putK
        rw [if_pos (by simp)]
        simp only [List.map_cons, if_true]
        congr 1
        have : s.map (fun kv => if kv.1 = q' then (kv.1, v) else kv) = s.map id := by
          apply List.map_congr_left
          intro p hp
          rw [if_neg (fun z => nd.1 (List.mem_map.mpr ⟨p, hp, z⟩))]; rfl
        rw [this, List.map_id]
      rw [e3]
      exact ⟨q', v, s, rfl, e2, rv, h2⟩
    · have h3 : ¬ a = keyD q := fun z => hq (keyD_inj (e2.symm.trans z))
      rw [if_neg h3]
      have e3 : putK ((q', w) :: s) q v = (q', w) :: putK s q v := by
        unfold putK
        simp only [List.any_cons, hq, decide_false, Bool.false_or, List.map_cons, if_false]
        split <;> rfl
      rw [e3]
      exact ⟨q', w, _, rfl, e2, h1, ih h2 nd.2⟩
theorem dictOf_ok {α : List Addr} {H : Hp} : ∀ {ds : List D} {ps : List (L2.V × L2.V)} {m0 m : List (D × D)} {k0 : List (Key × L2.V)}, RepPs G α H ds ps → dictOf ds m0 = some m → RepKs G α H m0 k0 → (k0.map (·.1)).Nodup →
    ∃ kvs : List (Key × L2.V), ps = kvs.map (fun kv => (kV kv.1, kv.2)) ∧ kvs.length * 2 = ds.length ∧ RepKs G α H m (mergeK k0 kvs) ∧ ((mergeK k0 kvs).map (·.1)).Nodup
  | [], ps, m0, m, k0, rp, e, rk, nd => by
    cases e
    exact ⟨[], rp, rfl, rk, nd⟩
  | [_], _, _, _, _, rp, _, _, _ => rp.elim
  | k :: v :: r, ps, m0, m, k0, rp, e, rk, nd => by
    obtain ⟨x, y, s, rfl, h1, h2, h3⟩ := rp
    simp only [dictOf] at e
    split at e
    · rename_i hk
      obtain ⟨q, rfl, rfl⟩ := key_of hk h1
      obtain ⟨kvs, e1, e2, e3, e4⟩ := dictOf_ok h3 e (merge_put h2 rk nd) (putK_nodup nd)
      exact ⟨(q, y) :: kvs, by rw [e1]; rfl, by simp only [List.length_cons]; omega, e3, e4⟩
    · cases e
theorem s_dic {ks : List (Option Expr)} {vs : List Expr} {is : List IE} {pos : Pos} {f : Expr → IE → Bool} (hf : ∀ e ie, f e ie = true → PE X e (tM G W hx (evalE P cl mk ie))) (h1 : ks.all (·.isSome) = true) (h2 : ks.length = vs.length) (h3 : ks ≠ []) (h4 : ks.length ≤ 15) (h5 : chkL f (dkeys ks vs) is = true) :
    PE X (.Dict ks vs pos) (tM G W hx (evalE P cl mk (.dic is))) := by
  obtain ⟨hp, hl⟩ := pps_ok (pos := pos) hf h1 h2 h5
  refine pe_imp (pe_disp hp h1 h2 h3 h4) fun V H Q ⟨α, σ, S, hr, he, ho⟩ p hpn => ?_
  simp only [evalE] at ho
  refine pairs_ok (rel := rD G) (α0 := α) (H0 := H) is α (upd H p (.dK [])) σ S _ _ hl (Ext.upd hpn) (hr.upd hpn) (he.ext hr (Ext.upd hpn)) ho fun β ds S' ps H2 e hr2 rp hO => ?_
  obtain ⟨hn, hH⟩ := side_keep e (hr.free hpn) upd_same
  refine ⟨hH, ?_⟩
  split at hO
  · rename_i m hm
    obtain ⟨h30, hO⟩ := hO.kind
    obtain ⟨kvs, e1, e2, e3, e4⟩ := dictOf_ok rp hm (show RepKs G β H2 [] [] from rfl) List.nodup_nil
    refine ⟨kvs, e1, by omega, ?_⟩
    obtain ⟨s1, s2⟩ := hr2.side (u' := .dK (mergeK [] kvs)) hn hH rfl
    refine hO (β ++ [p]) _ (.ref p) ?_ (s1.own hn upd_same ⟨_, rfl, RepKs.keep s2 _ _ e3, e4⟩) ?_
    · obtain ⟨⟨γ, e5, n5⟩, k5⟩ := e
      refine ⟨⟨γ ++ [p], by rw [e5, List.append_assoc], fun b hb => ?_⟩, fun b u hb q => ?_⟩
      · rcases List.mem_append.mp hb with hb | hb
        · have := n5 b hb
          refine ⟨?_, this.2⟩
          by_cases hbp : b = p
          · subst hbp; exact hpn
          · rw [upd_ne hbp] at this; exact this.1
        · rw [List.mem_singleton] at hb; subst hb
          exact ⟨hpn, hr.free hpn⟩
      · have hbp : b ≠ p := ne_of_none q hpn
        rw [upd_ne hbp]
        exact k5 b u hb (by rw [upd_ne hbp]; exact q)
    · refine ⟨p, ?_, rfl⟩
      rw [← hr2.len, List.getElem?_append_right (Nat.le_refl _), Nat.sub_self]; rfl
  · exact hO.elim
end
end Mi
/-! # Mi2g: the checker of expressions is sound. -/
namespace Mi
open PySem PySem.Spec PyProof.Rows L2
section
variable {P : Pg} {ci : CI} {N : List Str} {G : RC} {cl mk : Cl}
/-- what the checker promises at a depth -/
structure ChkOk (P : Pg) (ci : CI) (N : List Str) (G : RC) (cl mk : Cl) (n : Nat) : Prop where
  E : ∀ (calm : Bool) (hs : Option Nat) (sc : Scope) (e : Expr) (ie : IE), chkE ci N calm hs n sc e ie = true → ∀ (W : WX) (hx : HX) (X : Cx), EC P ci N G cl mk W hx hs calm sc X →
    PE X e (tM G W hx (evalE P cl mk ie)) ∧ ((match e with
      | .Compare _ _ _ _ => true
      | _ => false) = true → PT X e (tMT G W hx (evT P cl mk ie)))
  T : ∀ (calm : Bool) (hs : Option Nat) (sc : Scope) (e : Expr) (ie : IE), chkT ci N calm hs n sc e ie = true → ∀ (W : WX) (hx : HX) (X : Cx), EC P ci N G cl mk W hx hs calm sc X → PT X e (tMT G W hx (evT P cl mk ie))
  B : ∀ (calm : Bool) (hs : Option Nat) (sc : Scope) (op : PySem.BoolOp) (es : List Expr) (ie : IE), chkB ci N calm hs n sc op es ie = true → ∀ (W : WX) (hx : HX) (X : Cx) (pos : Pos), EC P ci N G cl mk W hx hs calm sc X → PE X (.BoolOp op es pos) (tM G W hx (evalE P cl mk ie))
  BT : ∀ (calm : Bool) (hs : Option Nat) (sc : Scope) (op : PySem.BoolOp) (es : List Expr) (ie : IE), chkBT ci N calm hs n sc op es ie = true → ∀ (W : WX) (hx : HX) (X : Cx) (pos : Pos), EC P ci N G cl mk W hx hs calm sc X → PW X (.BoolOp op es pos) (tMT G W hx (evT P cl mk ie))
  I : ∀ (calm : Bool) (hs : Option Nat) (sc : Scope) (e : Expr) (k : It) (args : List IE), chkI ci N calm hs n sc e k args = true → ∀ (W : WX) (hx : HX) (X : Cx) (tg : Expr), EC P ci N G cl mk W hx hs calm sc X → PI X tg e (tI G W hx (evalIt P cl mk k args))
theorem pw_imp {X : Cx} {e : Expr} {t t' : TT} (h : PW X e t) (i : ∀ V H Q, t' V H Q → t V H Q) : PW X e t' := ⟨fun wh pins s σ H Q I q => h.run wh pins s σ H Q I (i _ _ _ q)⟩
/-- a test of a comprehension's clause -/
theorem s_ifs {X : Cx} {W : WX} {hx : HX} {c : Expr} {ic : IE} (h : PT X c (tMT G W hx (evT P cl mk ic))) : PTs X [c] (tMT G W hx (evalTs P cl mk [ic])) := by
  refine ⟨fun pins s V H Q I q => (pts_one h).run pins s V H Q I ?_⟩
  obtain ⟨α, σ, S, hr, he, ho⟩ := q
  refine ⟨α, σ, S, hr, he, ?_⟩
  have : evalTs P cl mk [ic] σ S = evT P cl mk ic σ S := by
    simp only [evalTs, evT]
    cases evalT P cl mk ic (evalE P cl mk ic σ S) σ S with
    | ok b S => cases b <;> rfl
    | exc _ _ _ => rfl
    | bad => rfl
  rw [← this]; exact ho
theorem s_noifs {X : Cx} {W : WX} {hx : HX} : PTs X [] (tMT G W hx (evalTs P cl mk [])) :=
  ⟨fun pins s V H Q I ⟨α, σ, S, hr, he, ho⟩ => pts_nil.run pins s V H Q I (by simp only [evalTs] at ho; exact ho.val hr rfl)⟩
/-- a target of a comprehension -/
theorem s_pat {calm : Bool} {hs : Option Nat} {sc : Scope} {W : WX} {hx : HX} {X : Cx} (c : EC P ci N G cl mk W hx hs calm sc X) (hc : X.calm = true) (s : Shared) (H : Hp) (scope : Scope) (C : Addr) (cel : List (Str × Addr)) (fp : List Addr) :
    ∀ (n : Nat) (e : Expr) (p : Pat), patB N scope n e p = true → PG (X.blk s H scope (compEnvC scope cel C X.env) fp) e (gP G hx p) := by
  intro n
  induction n with
  | zero => intro e p h; cases h
  | succ n ih =>
    intro e p h
    simp only [patB] at h
    split at h
    · rename_i x pos
      split at h
      · rename_i i
        simp only [Bool.and_eq_true, decide_eq_true_eq] at h
        obtain ⟨⟨h1, h2⟩, h3⟩ := h
        refine s_pname (by show X.N.Nodup; rw [c.nN]; exact c.nd) (by show X.N[i]? = _; rw [c.nN]; exact h1) ?_ ?_
        · show Loc (relabel scope X.env) x
          rw [relab_eq]
          rcases loc_of h2 with h | h
          · exact .inl (relab_lookup h (by decide))
          · exact .inr (relab_lookup h (by decide))
        · rcases loc_of h2 with h | h
          · refine .inr ?_
            show (relabel scope X.env).names.lookup x = _
            rw [relab_eq]; exact relab_lookup h (by decide)
          · refine .inl ?_
            show (scope.names.lookup x == some .cell) = true
            rw [h]; rfl
      · cases h
    · rename_i es k pos
      split at h
      · rename_i ps
        simp only [Bool.and_eq_true, decide_eq_true_eq] at h
        obtain ⟨h1, h2⟩ := h
        have key : ∀ (es : List Expr) (ps : List Pat), es.length = ps.length → ((es.zip ps).all fun q => notStar q.1 && patB N scope n q.1 q.2) = true →
            PGs (X.blk s H scope (compEnvC scope cel C X.env) fp) es (gPs G hx ps) ∧ (assignEach es (compEnvC scope cel C X.env)).length = ps.length ∧ (assignEach es (compEnvC scope cel C X.env)).findIdx? (·.1) = none := by
          intro es
          induction es with
          | nil => intro ps hl _; cases ps with
            | nil => exact ⟨s_pnil, rfl, rfl⟩
            | cons _ _ => cases hl
          | cons e es ihe => intro ps hl ha; cases ps with
            | nil => cases hl
            | cons p ps =>
              simp only [List.zip_cons_cons, List.all_cons, Bool.and_eq_true] at ha
              obtain ⟨k1, k2, k3⟩ := ihe ps (by simpa using hl) ha.2
              have ea : ∀ env, assignEach (e :: es) env = (false, assign e env) :: assignEach es env := by
                intro env
                have := ha.1.1
                cases e <;> first | rfl | (cases this; done)
              refine ⟨s_pcons (ih e p ha.1.2) k1 (by rw [ea]; rfl), by rw [ea, List.length_cons, List.length_cons, k2], ?_⟩
              rw [ea, List.findIdx?_cons]
              simp only [Bool.false_eq_true, if_false, k3]
              rfl
        obtain ⟨k1, k2, k3⟩ := key es ps h1 h2
        exact s_ptup (X := X.blk s H scope (compEnvC scope cel C X.env) fp) (W := WN) ⟨c.ok.K, fun u s' ⟨_, _, _, _, _, _, _, _, _, _, _, _, _, _, _, _, h⟩ => h.elim, c.ok.un⟩ hc k1 k2 k3
      · cases h
    · cases h
theorem chk_ok : ∀ n, ChkOk P ci N G cl mk n := by
  intro n
  induction n with
  | zero => exact ⟨fun _ _ _ _ _ h => (nomatch h), fun _ _ _ _ _ h => (nomatch h), fun _ _ _ _ _ _ h => (nomatch h), fun _ _ _ _ _ _ h => (nomatch h), fun _ _ _ _ _ _ h => (nomatch h)⟩
  | succ n ih =>
    refine ⟨fun calm hs sc e ie h W hx X c => ?_, fun calm hs sc e ie h W hx X c => ?_, fun calm hs sc op es ie h W hx X pos c => ?_, fun calm hs sc op es ie h W hx X pos c => ?_, fun calm hs sc e k args h W hx X tg c => ?_⟩
    · -- expressions
      have iE : ∀ {e ie}, chkE ci N calm hs n sc e ie = true → PE X e (tM G W hx (evalE P cl mk ie)) := fun h => (ih.E _ _ _ _ _ h W hx X c).1
      have iT : ∀ {e ie}, chkT ci N calm hs n sc e ie = true → PT X e (tMT G W hx (evT P cl mk ie)) := fun h => ih.T _ _ _ _ _ h W hx X c
      simp only [chkE] at h
      split at h
      · -- Name
        refine ⟨?_, fun z => by cases z⟩
        split at h
        · simp only [Bool.and_eq_true, decide_eq_true_eq] at h
          exact s_loc c h.1.1 h.1.2 h.2
        · rename_i x pos d
          simp only [Bool.and_eq_true] at h
          obtain ⟨⟨h1, h2⟩, h3⟩ := h
          split at h3
          · rename_i d' hd
            have := of_decide_eq_true h3
            subst this
            obtain ⟨u, v, e1, e2, e3⟩ := c.con _ _ hd
            exact s_con (pe_glob (gl_of c.scp h1) e1 e2 (dbg_of h2).1) e3
          · cases h3
        · cases h
      · -- Constant
        refine ⟨?_, fun z => by cases z⟩
        split at h
        · exact s_lit h
        · cases h
      · -- BinOp
        refine ⟨?_, fun z => by cases z⟩
        split at h
        · simp only [Bool.and_eq_true, decide_eq_true_eq] at h
          obtain ⟨⟨h1, h2⟩, h3⟩ := h
          subst h1
          exact s_bin c (iE h2) (iE h3)
        · cases h
      · -- UnaryOp
        refine ⟨?_, fun z => by cases z⟩
        split at h
        · exact s_neg (iE h)
        · exact s_not c (iE h)
        · cases h
      · -- BoolOp
        exact ⟨ih.B _ _ _ _ _ _ h W hx X _ c, fun z => by cases z⟩
      · -- Compare
        split at h
        · rename_i op b
          split at h
          · simp only [Bool.and_eq_true, decide_eq_true_eq, Bool.not_eq_true'] at h
            obtain ⟨⟨⟨h1, h2⟩, h3⟩, h4⟩ := h
            subst h1
            have := s_cmp c (pos := by assumption) (iE h2) (iE h3) h4
            exact ⟨this.1, fun _ => this.2⟩
          · simp only [Bool.and_eq_true, decide_eq_true_eq] at h
            obtain ⟨⟨h1, h2⟩, h3⟩ := h
            subst h1
            have := s_isN c (pos := by assumption) (iE h3) h2
            exact ⟨this.1, fun _ => this.2⟩
          · simp only [Bool.and_eq_true, decide_eq_true_eq] at h
            obtain ⟨⟨h1, h2⟩, h3⟩ := h
            subst h1
            have := s_notN c (pos := by assumption) (iE h3) h2
            exact ⟨this.1, fun _ => this.2⟩
          · cases h
        · split at h
          · simp only [Bool.and_eq_true, decide_eq_true_eq, Bool.not_eq_true'] at h
            obtain ⟨⟨⟨⟨⟨h1, h2⟩, h3⟩, h4⟩, h5⟩, h6⟩ := h
            subst h1 h2
            have := s_cmp2 c (pos := by assumption) (iE h3) (iE h4) (iE h5) h6
            exact ⟨this.1, fun _ => this.2⟩
          · cases h
        · cases h
      · -- IfExp
        refine ⟨?_, fun z => by cases z⟩
        split at h
        · simp only [Bool.and_eq_true] at h
          exact s_ife (iT h.1.1) (iE h.1.2) (iE h.2)
        · cases h
      · -- Tuple
        refine ⟨?_, fun z => by cases z⟩
        split at h
        · exact s_tup (s_args (fun e ie h => iE h) h)
        · cases h
      · -- List
        refine ⟨?_, fun z => by cases z⟩
        split at h
        · exact s_lst (s_args (fun e ie h => iE h) h)
        · cases h
      · -- Dict
        refine ⟨?_, fun z => by cases z⟩
        split at h
        · simp only [Bool.and_eq_true, decide_eq_true_eq, Bool.not_eq_true'] at h
          obtain ⟨⟨⟨⟨h1, h2⟩, h3⟩, h4⟩, h5⟩ := h
          exact s_dic (fun e ie h => iE h) h1 h2 (fun z => by rw [z] at h3; cases h3) h4 h5
        · cases h
      · -- Subscript
        refine ⟨?_, fun z => by cases z⟩
        split at h
        · split at h
          · rename_i st _ _ _ _
            simp only [Bool.and_eq_true, Option.isNone_iff_eq_none] at h
            obtain ⟨⟨⟨h1, h2⟩, h3⟩, h4⟩ := h
            subst h1
            refine s_sl c (iE h2) ?_ ?_
            · split at h3
              · exact h3
              · exact iE h3
            · split at h4
              · exact h4
              · exact iE h4
          · cases h
        · split at h
          · simp only [Bool.and_eq_true] at h
            exact s_ix c (iE h.1.2) (iE h.2) (slice_of h.1.1)
          · cases h
      · -- Call
        refine ⟨?_, fun z => by cases z⟩
        rename_i f es kws pos
        simp only [Bool.and_eq_true] at h
        obtain ⟨hk, h⟩ := h
        have hk : kws = [] := by simpa using hk
        subst hk
        split at h
        · split at h
          · -- a def
            simp only [Bool.and_eq_true] at h
            exact s_call c h.1.1 h.1.2 h.2 (fun e ie h => iE h)
          · -- a built-in
            simp only [Bool.and_eq_true, decide_eq_true_eq] at h
            obtain ⟨⟨⟨h1, h2⟩, h3⟩, h4⟩ := h
            subst h3
            split at h4
            · simp only [Bool.and_eq_true] at h4
              exact s_bi c (c.cm h1).1 h2 h4.1 (iE h4.2)
            · cases h4
          · -- isinstance
            simp only [Bool.and_eq_true, decide_eq_true_eq, Bool.not_eq_true'] at h
            obtain ⟨⟨⟨h1, h2⟩, h3⟩, h4⟩ := h
            subst h2
            split at h4
            · simp only [Bool.and_eq_true, decide_eq_true_eq] at h4
              obtain ⟨⟨⟨k1, k2⟩, k3⟩, k4⟩ := h4
              subst k4
              exact s_isi c h1 k3 h3 k1 (iE k2)
            · cases h4
          · -- .. of the caught exception
            simp only [Bool.and_eq_true, decide_eq_true_eq] at h
            obtain ⟨⟨⟨h1, h2⟩, h3⟩, h4⟩ := h
            subst h2
            split at h4
            · simp only [Bool.and_eq_true, decide_eq_true_eq] at h4
              obtain ⟨⟨⟨k1, k2⟩, k3⟩, k4⟩ := h4
              exact s_xisi c h1 k1 k2 k3 k4
            · cases h4
          · cases h
        · split at h
          · -- text.index
            simp only [Bool.and_eq_true, decide_eq_true_eq] at h
            obtain ⟨⟨⟨⟨h1, h2⟩, h3⟩, h4⟩, h5⟩ := h
            subst h1
            split at h5
            · simp only [Bool.and_eq_true] at h5
              exact s_sindex c h2 h3 h5.1 (iE h4) (iE h5.2)
            · cases h5
          · cases h
        · cases h
      · -- ListComp
        refine ⟨?_, fun z => by cases z⟩
        split at h
        · split at h
          · rename_i elt _ scope pos _ tg iter ifs _ k args p ws iifs ielt
            simp only [Bool.and_eq_true, decide_eq_true_eq] at h
            obtain ⟨⟨⟨⟨⟨⟨⟨⟨h1, h2⟩, h3⟩, h4⟩, h5⟩, h6⟩, h7⟩, h8⟩, h9⟩ := h
            have hc := (c.cm h1).1
            have hN : X.N.Nodup := by rw [c.nN]; exact c.nd
            have hb : BlkOk X.N X.env.scope scope (slotNames N ws) := by rw [c.nN, c.scp]; exact blkOk_by h2
            have hI := ih.I _ _ _ _ _ _ h6 W hx X tg c
            have cb := fun s H C cel fp => c.blk h1 s H scope C cel fp
            have hp : ∀ j ∈ p.slots, j ∈ (slotNames N ws).map (·.2) := by
              rw [h3]
              intro j hj
              have := List.all_eq_true.mp h4 j hj
              simpa using this
            have ht : ∀ (s : Shared) (H : Hp) (C : Addr) (cel : List (Str × Addr)) (fp : List Addr), PTs (X.blk s H scope (compEnvC scope cel C X.env) fp) ifs (tMT G WN hx (evalTs P cl mk iifs)) := by
              intro s H C cel fp
              split at h7
              · exact s_noifs
              · exact s_ifs (ih.T _ _ _ _ _ h7 _ _ _ (cb s H C cel fp))
              · cases h7
            have key := s_comp (P := P) (W := W) (X := X) (k := k) (args := args) (pos := pos) hc hN hI hb hp (fun s H C cel fp => s_pat c hc s H scope C cel fp 8 tg p h5) ht (fun s H C cel fp => (ih.E _ _ _ _ _ h8 _ _ _ (cb s H C cel fp)).1)
            rw [h3] at key
            have hpe := pe_lc (pos := pos) hc hN hI hb (fun s H C cel fp => s_pat c hc s H scope C cel fp 8 tg p h5) ht (fun s H C cel fp => (ih.E _ _ _ _ _ h8 _ _ _ (cb s H C cel fp)).1) (set_of h9)
            rw [h3] at hpe
            exact pe_imp hpe key
          · cases h
        · cases h
      · cases h
    · -- tests
      have iE : ∀ {e ie}, chkE ci N calm hs n sc e ie = true → PE X e (tM G W hx (evalE P cl mk ie)) := fun h => (ih.E _ _ _ _ _ h W hx X c).1
      have iT : ∀ {e ie}, chkT ci N calm hs n sc e ie = true → PT X e (tMT G W hx (evT P cl mk ie)) := fun h => ih.T _ _ _ _ _ h W hx X c
      simp only [chkT] at h
      split at h
      · split at h
        · refine pt_imp (pt_not (iT h)) fun V H Q ⟨α, σ, S, hr, he, ho⟩ => ?_
          simp only [evT, evalT] at ho
          exact ⟨α, σ, S, hr, he, (Out.bind (rel' := rB) ho).imp fun b H1 ⟨α1, d, S1, e1, hr1, rd, q1⟩ => by
            obtain rfl : d = b := rd
            exact q1.val hr1 rfl⟩
        · cases h
      · exact (ih.BT _ _ _ _ _ _ h W hx X _ c).pt
      · split at h
        · simp only [Bool.and_eq_true] at h
          obtain ⟨⟨h1, h2⟩, h3⟩ := h
          have a1 := iT h1
          have a2 := iT h2
          have a3 := iT h3
          refine ⟨fun pins s V H Q I q => ?_⟩
          obtain ⟨α, σ, S, hr, he, ho⟩ := q
          simp only [evT, evalT] at ho
          refine PyProof.Rows.isTrue_IfExp (thn (a1.run pins s V H _ I ⟨α, σ, S, hr, he, (Out.bind (rel' := rB) ho)⟩) fun b s1 ⟨H1, I1, α1, d, S1, e1, hr1, rd, q1⟩ => ?_)
          obtain rfl : d = b := rd
          cases d with
          | true => exact a2.run pins s1 V H1 Q I1 ⟨α1, σ, S1, hr1, he.ext hr e1, q1⟩
          | false => exact a3.run pins s1 V H1 Q I1 ⟨α1, σ, S1, hr1, he.ext hr e1, q1⟩
        · cases h
      · rename_i n1 n2 n3
        rw [Bool.or_eq_true] at h
        rcases h with h | h
        · simp only [Bool.and_eq_true] at h
          exact s_plain c (iE h.2) h.1.1 h.1.2
        · simp only [Bool.and_eq_true, Bool.not_eq_true'] at h
          refine (ih.E _ _ _ _ _ h.2 W hx X c).2 ?_
          have h1 := h.1
          cases e <;> first | rfl | (cases h1; done) | skip
          · exact (n2 _ _ _ rfl).elim
          · rename_i op a pos
            cases op <;> first | (cases h1; done) | exact (n1 _ _ rfl).elim
          · exact (n3 _ _ _ _ rfl).elim
    · -- and, or as values
      simp only [chkB] at h
      split at h
      · cases h
      · exact pe_one (ih.E _ _ _ _ _ h W hx X c).1
      · split at h
        · simp only [Bool.and_eq_true] at h
          exact s_and c (ih.E _ _ _ _ _ h.1 W hx X c).1 (ih.B _ _ _ _ _ _ h.2 W hx X pos c)
        · simp only [Bool.and_eq_true] at h
          exact s_or c (ih.E _ _ _ _ _ h.1 W hx X c).1 (ih.B _ _ _ _ _ _ h.2 W hx X pos c)
        · cases h
    · -- and, or as tests
      simp only [chkBT] at h
      split at h
      · cases h
      · have := ih.T _ _ _ _ _ h W hx X c
        cases op with
        | And => exact pw_and1 this
        | Or => exact pw_or1 this
      · split at h
        · simp only [Bool.and_eq_true] at h
          refine pw_imp (pw_and (ih.T _ _ _ _ _ h.1 W hx X c) (ih.BT _ _ _ _ _ _ h.2 W hx X pos c)) fun V H Q ⟨α, σ, S, hr, he, ho⟩ => ?_
          simp only [evT, evalT] at ho
          refine ⟨α, σ, S, hr, he, (Out.bind (rel' := rB) ho).imp fun b H1 ⟨α1, d, S1, e1, hr1, rd, q1⟩ => ?_⟩
          obtain rfl : d = b := rd
          cases d with
          | true => exact ⟨α1, σ, S1, hr1, he.ext hr e1, q1⟩
          | false => exact Out.val (S := S1) q1 hr1 rfl
        · simp only [Bool.and_eq_true] at h
          refine pw_imp (pw_or (ih.T _ _ _ _ _ h.1 W hx X c) (ih.BT _ _ _ _ _ _ h.2 W hx X pos c)) fun V H Q ⟨α, σ, S, hr, he, ho⟩ => ?_
          simp only [evT, evalT] at ho
          refine ⟨α, σ, S, hr, he, (Out.bind (rel' := rB) ho).imp fun b H1 ⟨α1, d, S1, e1, hr1, rd, q1⟩ => ?_⟩
          obtain rfl : d = b := rd
          cases d with
          | true => exact Out.val (S := S1) q1 hr1 rfl
          | false => exact ⟨α1, σ, S1, hr1, he.ext hr e1, q1⟩
        · cases h
    · -- what is walked
      have iE : ∀ {e ie}, chkE ci N calm hs n sc e ie = true → PE X e (tM G W hx (evalE P cl mk ie)) := fun h => (ih.E _ _ _ _ _ h W hx X c).1
      simp only [chkI] at h
      split at h
      · simp only [Bool.and_eq_true] at h
        exact s_itval c.ok (iE h.2)
      · split at h
        · simp only [Bool.and_eq_true, decide_eq_true_eq] at h
          obtain ⟨⟨⟨h1, h2⟩, h3⟩, h4⟩ := h
          subst h2
          simp only [bltB, Bool.and_eq_true] at h1
          refine s_itrange1 (gl_of c.scp h1.1.1) (c.blt _ h1.1.2) (s_args (f := fun e ie => chkE ci N calm hs n sc e ie) (fun e ie h => iE h) (by simp [chkL, h3, h4])) (star_of h3)
        · cases h
      · split at h
        · simp only [Bool.and_eq_true, decide_eq_true_eq] at h
          obtain ⟨⟨⟨⟨⟨h1, h2⟩, h3⟩, h4⟩, h5⟩, h6⟩ := h
          subst h2
          simp only [bltB, Bool.and_eq_true] at h1
          refine s_itrange2 (gl_of c.scp h1.1.1) (c.blt _ h1.1.2) (s_args (f := fun e ie => chkE ci N calm hs n sc e ie) (fun e ie h => iE h) (by simp [chkL, h3, h4, h5, h6])) (by rw [star_of h3, star_of h4]; rfl) (star_of h4)
        · cases h
      · cases h
end
end Mi
/-! # Mi2h: statements. -/
namespace Mi
open PySem PySem.Spec PyProof.Rows L2

/-! ### what comes out of a statement -/
section
variable {G : RC} {hx : HX} {W : WX} {α β : List Addr} {H H' : Hp} {r : RS} {D D' : Ends}
def OutS (G : RC) (hx : HX) (W : WX) (α : List Addr) (H : Hp) (r : RS) (D : Ends) : Prop := match r with
  | .fl .nx σ' S' => ∀ β H' V', Ext α H β H' → HRel G β H' S' → ERel G hx β H' σ' V' → D.nx V' H'
  | .fl .brk σ' S' => ∀ β H' V', Ext α H β H' → HRel G β H' S' → ERel G hx β H' σ' V' → D.bk V' H'
  | .fl .cont σ' S' => ∀ β H' V', Ext α H β H' → HRel G β H' S' → ERel G hx β H' σ' V' → D.ct V' H'
  | .fl (.ret d) _ S' => ∀ β H' v, Ext α H β H' → HRel G β H' S' → Rep G β H' d v → D.rt v H'
  | .exc c ds σ' S' => ∀ β H' V' dd, Ext α H β H' → HRel G β H' S' → ERel G hx β H' σ' V' → XRel G β H' c ds dd → W (.ref (G.xA c)) dd V' H'
  | .bad => False
theorem OutS.ext (h : OutS G hx W α H r D) (e : Ext α H β H') : OutS G hx W β H' r D := by
  cases r with
  | fl f σ S => cases f <;> exact fun γ H2 v e2 => h γ H2 v (e.trans e2)
  | exc c ds σ S => exact fun γ H2 v dd e2 => h γ H2 v dd (e.trans e2)
  | bad => exact h
/-- an expression within a statement -/
theorem OutS.bind {A B : Type} {rel : List Addr → Hp → A → B → Prop} {V : L2.St} {σ : Env} {S : St} {q : R A} {f : A → St → RS} (hr : HRel G α H S) (he : ERel G hx α H σ V) (h : OutS G hx W α H (q.bindS σ f) D) :
    Out rel G W V α H q (fun b H1 => ∃ β a S1, Ext α H β H1 ∧ HRel G β H1 S1 ∧ rel β H1 a b ∧ OutS G hx W β H1 (f a S1) D) := by
  cases q with
  | ok a S => exact fun γ H' b e h1 h2 => ⟨γ, a, S, e, h1, h2, OutS.ext h e⟩
  | exc c ds S => exact fun γ H' dd e h1 h2 => h γ H' V dd e h1 (he.ext hr e) h2
  | bad => exact h
theorem OutS.nxt {σ : Env} {S : St} {V : L2.St} (h : OutS G hx W α H (.fl .nx σ S) D) (hr : HRel G α H S) (he : ERel G hx α H σ V) : D.nx V H := h α H V Ext.refl hr he
end
/-- the reading of a statement -/
def tS (G : RC) (W : WX) (hx : HX) (m : Env → St → RS) : TS := fun D V H => ∃ α σ S, HRel G α H S ∧ ERel G hx α H σ V ∧ OutS G hx W α H (m σ S) D

/-! ### the text -/
def isComp : Expr → Bool
  | .ListComp _ _ _ _ => true
  | .SetComp _ _ _ _ => true
  | .DictComp _ _ _ _ _ => true
  | _ => false
def isName : Expr → Bool
  | .Name _ _ => true
  | _ => false
/-- whether two or three names are stored from the right -/
def swapQ (sc : Scope) (ts vs : List Expr) : Option (Option (List Str)) :=
  if !(ts.length == 2 || ts.length == 3) || vs.length != ts.length || sc.kind != .function then some none else
  if vs.any fun | .Starred .. => true | _ => false then some none else
  let line := (ts.head?.map (·.pos.line)).getD 0
  let names := ts.filterMap fun
    | .Name id pos => if sc.names.lookup id == some .local && pos.line == line then some id else none
    | _ => none
  if names.length != ts.length || names.eraseDups.length != names.length then some none else
  if vs.all (foldedForSure 8) then some none else
  if vs.all (constantsAlone 8) then none else
  some (some names)
theorem swapQ_eq {sc : Scope} {ts vs : List Expr} {k k2 : Nat} {p p2 : Pos} {env : PySem.Env} {r : Option (List Str)} (hs : env.scope = sc) (hk : sc.kind = .function) (h : swapQ sc ts vs = some r) : swappedStores [.Tuple ts k p] (.Tuple vs k2 p2) env = pure r := by
  have hb : env.blockKind = .function := by unfold PySem.Env.blockKind; rw [hs, hk]; rfl
  have hkind : ∀ x, env.kindOf x = sc.names.lookup x := fun x => by show env.scope.names.lookup x = _; rw [hs]
  unfold swapQ at h
  rw [hk] at h
  unfold swappedStores
  simp only [hb, hkind]
  split at h
  · rename_i c1; cases h; exact if_pos c1
  · rename_i c1
    refine (if_neg c1).trans ?_
    split at h
    · rename_i c2; cases h; exact if_pos c2
    · rename_i c2
      refine (if_neg c2).trans ?_
      simp only at h
      split at h
      · rename_i c3; cases h; exact if_pos c3
      · rename_i c3
        refine (if_neg c3).trans ?_
        split at h
        · rename_i c4; cases h; exact if_pos c4
        · rename_i c4
          refine (if_neg c4).trans ?_
          split at h
          · cases h
          · rename_i c5
            cases h
            exact if_neg c5
def noSwap (sc : Scope) (t v : Expr) : Bool := match t with
  | .Tuple ts _ _ => match v with
    | .Tuple vs _ _ => decide (swapQ sc ts vs = some none)
    | _ => true
  | .List _ _ => false
  | _ => true
theorem noSwap_eq {sc : Scope} {t v : Expr} {env : PySem.Env} (hs : env.scope = sc) (hk : sc.kind = .function) (h : noSwap sc t v = true) : swappedStores [t] v env = pure none := by
  cases t <;> first | rfl | (cases h; done) | skip
  cases v <;> first | rfl | skip
  exact swapQ_eq hs hk (of_decide_eq_true h)
mutual
def chkG (ci : CI) (N : List Str) (calm : Bool) (hs : Option Nat) (m : Nat) : Nat → Scope → Expr → Tg → Bool
  | 0, _, _, _ => false
  | n + 1, sc, e, g => match e with
    | .Name x _ => match g with
      | .name i => decide (N[i]? = some x) && locB sc x && dbgB x
      | _ => false
    | .Subscript o i _ => match g with
      | .sub io ii => chkE ci N calm hs m sc o io && chkE ci N calm hs m sc i ii && notSlice i
      | _ => false
    | .Tuple es _ _ => match g with
      | .tup gs => calm && decide (es.length = gs.length) && chkGs ci N calm hs m n sc es gs
      | _ => false
    | _ => false
def chkGs (ci : CI) (N : List Str) (calm : Bool) (hs : Option Nat) (m : Nat) : Nat → Scope → List Expr → List Tg → Bool
  | 0, _, _, _ => false
  | n + 1, sc, es, gs => match es, gs with
    | [], [] => true
    | e :: es, g :: gs => notStar e && chkG ci N calm hs m n sc e g && chkGs ci N calm hs m n sc es gs
    | _, _ => false
end
mutual
def chkS (ci : CI) (N : List Str) (calm : Bool) (hs : Option Nat) (m : Nat) : Nat → Scope → Stmt → IS → Bool
  | 0, _, _, _ => false
  | n + 1, sc, st, is => match st with
    | .Assign ts v pos => match ts with
      | [t] => match is with
        | .asg g e => chkG ci N calm hs m n sc t g && chkE ci N calm hs m sc v e && noSwap sc t v && (!isComp v || !isName t || calm)
        | .par [i, j] [ia, ib] => calm && (match t, v with
          | .Tuple ts _ _, .Tuple vs _ _ => (match ts, vs with
            | [.Name x _, .Name y _], [a, b] => decide (swapQ sc ts vs = some (some [x, y])) && decide (N[i]? = some x) && decide (N[j]? = some y) && decide (i ≠ j) && decide (sc.names.lookup x = some .local) && decide (sc.names.lookup y = some .local) &&
                chkL (chkE ci N calm hs m sc) [a, b] [ia, ib]
            | _, _ => false)
          | _, _ => false)
        | _ => false
      | _ => false
    | .AugAssign t op v _ => match t with
      | .Name x _ => match is with
        | .aug i o e => decide (op = opP o) && (decide (o = .add) || decide (o = .sub)) && decide (N[i]? = some x) && locB sc x && dbgB x && chkE ci N calm hs m sc v e
        | _ => false
      | _ => false
    | .Expr e _ => match is with
      | .ex ie => chkE ci N calm hs m sc e ie && !isComp e
      | _ => false
    | .Return e _ => match e with
      | some e => match is with
        | .ret ie => chkE ci N calm hs m sc e ie
        | _ => false
      | none => match is with
        | .ret0 => true
        | _ => false
    | .If c a b _ => match is with
      | .ife ic ia ib => chkT ci N calm hs m sc c ic && chkSs ci N calm hs m n sc a ia && chkSs ci N calm hs m n sc b ib
      | _ => false
    | .While c a b _ => match is with
      | .whl ic ia => calm && chkT ci N calm hs m sc c ic && chkSs ci N calm hs m n sc a ia && b.isEmpty
      | _ => false
    | .For t iter a b _ => match is with
      | .for_ k args g ia => calm && chkI ci N calm hs m sc iter k args && chkG ci N calm hs m n sc t g && chkSs ci N calm hs m n sc a ia && b.isEmpty && notSetE iter
      | _ => false
    | .Pass _ => match is with
      | .pass => true
      | _ => false
    | .Break _ => match is with
      | .brk => true
      | _ => false
    | .Continue _ => match is with
      | .cont => true
      | _ => false
    | .Raise e c _ => c.isNone && (match e with
      | some (.Call (.Name x _) [.Constant (.str _) _ _] [] _) => match is with
        | .raise i [] => calm && excB ci sc x i
        | _ => false
      | _ => false)
    | .Try b hs' o f _ => o.isEmpty && f.isEmpty && (match hs' with
      | [.ExceptHandler (some (.Name x _)) nm (b₀ :: h) _] => match is with
        | .try_ ib c i ih => calm && excB ci sc x c && chkSs ci N calm hs m n sc b ib && (match nm, i with
          | some y, some i => decide (N[i]? = some y) && decide (sc.names.lookup y = some .local) && dbgB y && chkSs ci N false (some i) m n sc (b₀ :: h) ih
          | none, none => chkSs ci N false none m n sc (b₀ :: h) ih
          | _, _ => false)
        | _ => false
      | _ => false)
    | _ => false
def chkSs (ci : CI) (N : List Str) (calm : Bool) (hs : Option Nat) (m : Nat) : Nat → Scope → List Stmt → List IS → Bool
  | 0, _, _, _ => false
  | n + 1, sc, sts, is => match sts, is with
    | [], [] => true
    | s :: ss, i :: is => chkS ci N calm hs m n sc s i && chkSs ci N calm hs m n sc ss is
    | _, _ => false
end
/-- an exception class that may be raised -/
def ExF (K : PySem.W.Frag) (C : Addr) : Prop := (∃ (B newId initId : String) (bmB : List Value), ExcBaseFacts B newId initId bmB ∧ PySem.W.excIn K C bmB newId = true) ∧ PySem.W.keepIn K (.ref C) = true ∧ PySem.W.subIn K (.ref C) (.type "BaseException") = some true ∧ PySem.W.typeIn K (.ref C) = some (.type "type")
/-- what is asked of a def's context -/
structure SC (P : Pg) (ci : CI) (N : List Str) (G : RC) (cl mk : Cl) (W : WX) (hx : HX) (hs : Option Nat) (calm : Bool) (sc : Scope) (X : Cx) : Prop where
  ec : EC P ci N G cl mk W hx hs calm sc X
  fn : ∀ x, X.fn x = true
  kind : sc.kind = .function
  po : calm = true → PassesOwn (model X.prog X.w) X.A X.env X.xe
  st : calm = true → X.stack = X.env :: X.outer ∧ X.env.frame = some X.env.locals
  xf : ∀ c, c < G.nx → ExF X.K (G.xA c)
  xp : ∀ c, G.xF c = []
  exm : ∀ e c, e < G.nx → c < G.nx → PySem.W.exmOne X.K (.ref (G.xA e)) (.ref (G.xA c)) = some (P.sub e c)
  exc : ∀ c, c < G.nx → ExcC X.K (G.xA c)
section
variable {P : Pg} {ci : CI} {N : List Str} {G : RC} {cl mk : Cl} {W : WX} {hx : HX} {hs : Option Nat} {calm : Bool} {sc : Scope} {X : Cx}
theorem EC.tr (c : EC P ci N G cl mk W hx hs calm sc X) (hc : calm = true) {W' : WX} {pn : List (Addr × Obj)} {xe : Value → Shared → Prop} (tk : Takes (X.tr pn xe) W') : EC P ci N G cl mk W' hx hs calm sc (X.tr pn xe) where
  ok := ⟨c.ok.K, tk, c.ok.un⟩
  nN := c.nN
  nd := c.nd
  scp := c.scp
  cm := c.cm
  con := c.con
  blt := c.blt
  fn := c.fn
  exn := c.exn
  kit := c.kit
  isE := fun i a cc ds dd e => by rw [(c.cm hc).2] at e; cases e
theorem SC.tr (c : SC P ci N G cl mk W hx hs calm sc X) (hc : calm = true) {W' : WX} {pn : List (Addr × Obj)} {xe : Value → Shared → Prop} (tk : Takes (X.tr pn xe) W') (po : PassesOwn (model X.prog X.w) X.A X.env xe) : SC P ci N G cl mk W' hx hs calm sc (X.tr pn xe) where
  ec := c.ec.tr hc tk
  fn := c.fn
  kind := c.kind
  po := fun _ => po
  st := c.st
  xf := c.xf
  xp := c.xp
  exm := c.exm
  exc := c.exc
theorem SC.suite (c : SC P ci N G cl mk W hx hs calm sc X) {i : Option Nat} {a : Addr} {oe : Obj} {pn : List (Addr × Obj)} {k : Nat} {ds : List D} {j : Nat} (hk : k < G.nx) (hz : Zc (.ref (G.xA k)) none oe) (hf : ∃ vs, oe.data = .fields vs) :
    SC P ci N G cl mk WN (some (j, a, k, ds, none)) i false sc (X.suite a ((a, oe) :: pn)) where
  ec := {
    ok := ⟨c.ec.ok.K, fun u s' ⟨_, _, _, _, _, _, _, _, _, _, _, _, _, _, _, _, h⟩ => h.elim, c.ec.ok.un⟩
    nN := c.ec.nN
    nd := c.ec.nd
    scp := c.ec.scp
    cm := fun h => by cases h
    con := c.ec.con
    blt := c.ec.blt
    fn := fun h => by cases h
    exn := c.ec.exn
    kit := c.ec.kit
    isE := fun i a' cc ds' dd e => by
      cases e
      exact call_isE (c.exc _ hk) hz hf }
  fn := c.fn
  kind := c.kind
  po := fun h => by cases h
  st := fun h => by cases h
  xf := c.xf
  xp := c.xp
  exm := c.exm
  exc := c.exc
/-- .. without a name for the exception -/
theorem SC.suite0 (c : SC P ci N G cl mk W hx hs calm sc X) {i : Option Nat} {a : Addr} {pn : List (Addr × Obj)} : SC P ci N G cl mk WN none i false sc (X.suite a pn) where
  ec := {
    ok := ⟨c.ec.ok.K, fun u s' ⟨_, _, _, _, _, _, _, _, _, _, _, _, _, _, _, _, h⟩ => h.elim, c.ec.ok.un⟩
    nN := c.ec.nN
    nd := c.ec.nd
    scp := c.ec.scp
    cm := fun h => by cases h
    con := c.ec.con
    blt := c.ec.blt
    fn := fun h => by cases h
    exn := c.ec.exn
    kit := c.ec.kit
    isE := fun i a' cc ds' dd e => by cases e }
  fn := c.fn
  kind := c.kind
  po := fun h => by cases h
  st := fun h => by cases h
  xf := c.xf
  xp := c.xp
  exm := c.exm
  exc := c.exc
end
end Mi
/-! # Mi2i: the checker of statements is sound. -/
namespace Mi
open PySem PySem.Spec PyProof.Rows L2
section
variable {P : Pg} {ci : CI} {N : List Str} {G : RC} {cl mk : Cl} {W : WX} {hx : HX} {hs : Option Nat} {calm : Bool} {sc : Scope} {X : Cx}
theorem Out.chg {A B : Type} {rel : List Addr → Hp → A → B → Prop} {W' : WX} {V V' : L2.St} {α : List Addr} {H : Hp} {r : R A} {Q : B → Hp → Prop} (n : ∀ c vs S, r ≠ .exc c vs S) (h : Out rel G W V α H r Q) : Out rel G W' V' α H r Q := by
  cases r with
  | ok a S => exact h
  | exc c ds S => exact absurd rfl (n c ds S)
  | bad => exact h
/-- a step that lets nothing out -/
theorem Out.noxB {A B A' B' : Type} {rel : List Addr → Hp → A → B → Prop} {rel' : List Addr → Hp → A' → B' → Prop} {W' : WX} {V V' : L2.St} {α : List Addr} {H : Hp} {Q : B → Hp → Prop} {r : R A'} {f : A' → St → R A} (h : Out rel G W V α H (r.nox.bind f) Q) :
    Out rel' G W' V' α H r (fun b H1 => ∃ β a S1, Ext α H β H1 ∧ HRel G β H1 S1 ∧ rel' β H1 a b ∧ Out rel G W V β H1 (f a S1) Q) := by
  cases r with
  | ok a S => exact fun γ H' b e h1 h2 => ⟨γ, a, S, e, h1, h2, Out.ext h e⟩
  | exc c ds S => exact h.elim
  | bad => exact h.elim
theorem nox_ne {A A' : Type} {r : R A'} {f : A' → St → R A} (hf : ∀ a S c vs S', f a S ≠ .exc c vs S') : ∀ c vs S, r.nox.bind f ≠ .exc c vs S := by
  intro c vs S
  cases r with
  | ok a S1 => exact hf a S1 c vs S
  | exc _ _ _ => exact fun h => by cases h
  | bad => exact fun h => by cases h
mutual
theorem store_ne : ∀ (g : Tg) (d : D) (σ : Env) (S : St) (c : Nat) (vs : List D) (S' : St), store P cl mk g d σ S ≠ .exc c vs S' := by
  intro g d σ S c vs S'
  cases g with
  | name i => exact fun h => by cases h
  | sub o i =>
    simp only [store]
    exact nox_ne (fun a S => nox_ne (fun a S => nox_ne (fun a S c vs S' h => by cases h))) c vs S'
  | fld o f =>
    simp only [store]
    exact nox_ne (fun a S => nox_ne (fun a S c vs S' h => by cases h)) c vs S'
  | tup gs =>
    simp only [store]
    split
    · exact stores_ne gs _ σ S c vs S'
    · exact fun h => by cases h
theorem stores_ne : ∀ (gs : List Tg) (ds : List D) (σ : Env) (S : St) (c : Nat) (vs : List D) (S' : St), stores P cl mk gs ds σ S ≠ .exc c vs S' := by
  intro gs ds σ S c vs S'
  cases gs with
  | nil => cases ds with
    | nil => exact fun h => by cases h
    | cons _ _ => exact fun h => by cases h
  | cons g gs => cases ds with
    | nil => exact fun h => by cases h
    | cons d ds =>
      simp only [stores]
      exact nox_ne (fun σ S => stores_ne gs ds σ S) c vs S'
end
abbrev rE (G : RC) (hx : HX) : List Addr → Hp → Env → L2.St → Prop := fun β H σ V => ERel G hx β H σ V
abbrev rU : List Addr → Hp → Unit → Unit → Prop := fun _ _ _ _ => True
def gSt (P : Pg) (cl mk : Cl) (G : RC) (W : WX) (hx : HX) (g : Tg) : TG := fun v V H Q => ∃ α σ S d, HRel G α H S ∧ ERel G hx α H σ V ∧ Rep G α H d v ∧ Out (rE G hx) G W V α H (store P cl mk g d σ S) Q
def gSts (P : Pg) (cl mk : Cl) (G : RC) (W : WX) (hx : HX) (gs : List Tg) : TGs := fun vs V H Q => ∃ α σ S ds, HRel G α H S ∧ ERel G hx α H σ V ∧ Reps G α H ds vs ∧ Out (rE G hx) G W V α H (stores P cl mk gs ds σ S) Q
theorem s_gname (c : SC P ci N G cl mk W hx hs calm sc X) {i : Nat} {x : Str} {pos : Pos} (hi : N[i]? = some x) (hl : locB sc x = true) (hd : dbgB x = true) : PG X (.Name x pos) (gSt P cl mk G W hx (.name i)) :=
  pg_imp (pg_name (by rw [c.ec.nN]; exact c.ec.nd) (by rw [c.ec.nN]; exact hi) (by rw [c.ec.scp]; exact loc_of hl) (.inl (c.fn x))) fun v V H Q ⟨α, σ, S, d, hr, he, rd, ho⟩ => by
    simp only [store] at ho
    exact ho.val hr (he.set rd)
def rSetM (G : RC) : TSet := fun o i v H Q => ∃ (W : WX) (V : L2.St) (α : List Addr) (S : St) (dx dy d : D), HRel G α H S ∧ Rep G α H dx o ∧ Rep G α H dy i ∧ Rep G α H d v ∧ Out rU G W V α H (setV dx dy d S) (fun _ H' => Q H')
theorem set_ok : PSet X (rSetM G) := by
  intro pins s σ H o i v ov iv u Q I ro ri ru h
  obtain ⟨W', V', α, S, dx, dy, d, hr, rx, ry, rd, ho⟩ := h
  simp only [setV] at ho
  cases dx <;> first | exact False.elim ho | skip
  rename_i a
  simp only at ho
  split at ho
  · rename_i xs hS
    cases dy <;> first | exact False.elim ho | skip
    rename_i k
    simp only at ho
    split at ho
    · rename_i j hj
      obtain ⟨p, o', rfl, ha, hH, vs, rfl, rs⟩ := hr.get hS rx
      refine set_list pins s σ H _ i v ov iv u Q I ro ri ru ⟨p, vs, k, j, rfl, ry, hH, by rw [← rs.len]; exact hj, ?_⟩
      exact Out.wr (b := ()) ho hr ha ⟨_, rfl, rs.set j rd⟩ True.intro
    · exact ho.elim
  · exact ho.elim
theorem sub_of {o i : Expr} {pos : Pos} {env : PySem.Env} (h : notSlice i = true) : ∀ v, assign (.Subscript o i pos) env v = (do
      let ov ← holding [v] (eval o env)
      let iv ← holding [v, ov] (eval i env)
      standAt pos
      holding [v, ov, iv] (setItem ov iv v)
      release [v, ov, iv] []) := by
  intro v
  cases i <;> first | rfl | (cases h; done)
theorem s_gsub {o i : Expr} {io ii : IE} {pos : Pos} (ho : PE X o (tM G WN hx (evalE P cl mk io))) (hi : PE X i (tM G WN hx (evalE P cl mk ii))) (hs : notSlice i = true) : PG X (.Subscript o i pos) (gSt P cl mk G W hx (.sub io ii)) :=
  pg_imp (pg_sub ho hi set_ok (sub_of hs)) fun v V H Q ⟨α, σ, S, d, hr, he, rd, hO⟩ => by
    simp only [store] at hO
    refine ⟨α, σ, S, hr, he, (Out.noxB (rel' := rD G) hO).imp fun x H1 ⟨α1, dx, S1, e1, hr1, rx, q1⟩ => ?_⟩
    refine ⟨α1, σ, S1, hr1, he.ext hr e1, (Out.noxB (rel' := rD G) q1).imp fun y H2 ⟨α2, dy, S2, e2, hr2, ry, q2⟩ => ?_⟩
    refine ⟨WN, V, α2, S2, dx, dy, d, hr2, Rep.keep (e2.toKeep hr1) _ _ rx, ry, Rep.keep (e2.toKeep hr1) _ _ (Rep.keep (e1.toKeep hr) _ _ rd), (Out.noxB (rel' := rU) q2).imp fun _ H3 ⟨α3, _, S3, e3, hr3, _, q3⟩ => ?_⟩
    exact q3.val hr3 (((he.ext hr e1).ext hr1 e2).ext hr2 e3)
theorem s_gnil : PGs X [] (gSts P cl mk G W hx []) := pgs_imp pgs_nil fun vs V H Q ⟨α, σ, S, ds, hr, he, rd, ho⟩ => by
  cases ds with
  | nil => simp only [stores] at ho; exact ⟨rd, ho.val hr he⟩
  | cons _ _ => exact ho.elim
theorem s_gcons {e : Expr} {es : List Expr} {g : Tg} {gs : List Tg} (h1 : PG X e (gSt P cl mk G W hx g)) (h2 : PGs X es (gSts P cl mk G W hx gs)) (hs : notStar e = true) : PGs X (e :: es) (gSts P cl mk G W hx (g :: gs)) := by
  have ea : assignEach (e :: es) X.env = (false, assign e X.env) :: assignEach es X.env := by cases e <;> first | rfl | (cases hs; done)
  refine pgs_imp (pgs_cons h1 h2 (by rw [ea]; rfl)) fun vs V H Q ⟨α, σ, S, ds, hr, he, rd, ho⟩ => ?_
  cases ds with
  | nil => exact ho.elim
  | cons d ds =>
    obtain ⟨v, ws, rfl, r1, r2⟩ := rd
    simp only [stores] at ho
    refine ⟨v, ws, rfl, α, σ, S, d, hr, he, r1, (Out.noxB (rel' := rE G hx) ho).imp fun V1 H1 ⟨α1, σ1, S1, e1, hr1, he1, q1⟩ => ?_⟩
    exact ⟨α1, σ1, S1, ds, hr1, he1, Reps.keep (e1.toKeep hr) _ _ r2, Out.chg (stores_ne gs ds σ1 S1) q1⟩
theorem stores_len : ∀ (gs : List Tg) (ds : List D) (σ : Env) (S : St) (σ' : Env) (S' : St), stores P cl mk gs ds σ S = .ok σ' S' → ds.length = gs.length := by
  intro gs
  induction gs with
  | nil => intro ds σ S σ' S' e; cases ds with
    | nil => rfl
    | cons _ _ => cases e
  | cons g gs ih => intro ds σ S σ' S' e; cases ds with
    | nil => cases e
    | cons d ds =>
      simp only [stores] at e
      cases q : store P cl mk g d σ S with
      | ok σ1 S1 => rw [q] at e; rw [List.length_cons, List.length_cons, ih ds σ1 S1 σ' S' e]
      | exc _ _ _ => rw [q] at e; cases e
      | bad => rw [q] at e; cases e
theorem s_gtup (c : SC P ci N G cl mk W hx hs calm sc X) (hc : X.calm = true) {es : List Expr} {gs : List Tg} {k : Nat} {pos : Pos} (h : PGs X es (gSts P cl mk G W hx gs)) (hn : (assignEach es X.env).length = gs.length) (hst : (assignEach es X.env).findIdx? (·.1) = none) :
    PG X (.Tuple es k pos) (gSt P cl mk G W hx (.tup gs)) := pg_imp (pg_tup hc h hn hst) fun v V H Q ⟨α, σ, S, d, hr, he, rd, ho⟩ => by
  simp only [store] at ho
  cases d <;> first | exact False.elim ho | skip
  rename_i ds
  obtain ⟨a, vs, e1, t, rs⟩ := rd
  have hl : ds.length = gs.length := by
    cases q : stores P cl mk gs ds σ S with
    | ok σ' S' => exact stores_len gs ds σ S σ' S' q
    | exc _ _ _ => exact absurd q (stores_ne gs ds σ S _ _ _)
    | bad => simp only [q] at ho; exact ho.elim
  exact ⟨a, vs, e1, by rw [c.ec.ok.K]; exact t, by rw [← rs.len]; exact hl, α, σ, S, ds, hr, he, rs, ho⟩

/-! ### small statements -/
theorem s_nil : PSs X [] (tS G W hx (execSs P cl mk [])) := pss_imp pss_nil fun D V H ⟨α, σ, S, hr, he, ho⟩ => by
  simp only [execSs] at ho
  exact ho.nxt hr he
theorem s_cons {st : Stmt} {sts : List Stmt} {i : IS} {is : List IS} (h1 : PS X st (tS G W hx (execS P cl mk i))) (h2 : PSs X sts (tS G W hx (execSs P cl mk is))) : PSs X (st :: sts) (tS G W hx (execSs P cl mk (i :: is))) :=
  pss_imp (pss_cons h1 h2) fun D V H ⟨α, σ, S, hr, he, ho⟩ => by
    simp only [execSs] at ho
    refine ⟨α, σ, S, hr, he, ?_⟩
    cases q : execS P cl mk i σ S with
    | fl f σ' S' =>
      rw [q] at ho
      cases f with
      | nx => exact fun β H' V' e h1 h2 => ⟨β, σ', S', h1, h2, OutS.ext ho e⟩
      | ret d => exact ho
      | brk => exact ho
      | cont => exact ho
    | exc _ _ _ _ => rw [q] at ho; exact ho
    | bad => rw [q] at ho; exact ho
theorem comp_of {e : Expr} {t : Option Expr} {l : Nat} {env : PySem.Env} (h : isComp e = false) : swapsWith e t l env = pure false := by
  cases e <;> first | rfl | (cases h; done)
theorem name_of {e t : Expr} {l : Nat} {env : PySem.Env} (h : isName t = false) : swapsWith e (some t) l env = pure false := by
  cases e <;> first | rfl | (cases t <;> first | rfl | (cases h; done))
/-- target = value -/
theorem asg_out {V : L2.St} {H : Hp} {D : Ends} {g : Tg} {ie : IE} (h : tS G W hx (execS P cl mk (.asg g ie)) D V H) : tAsg (tM G W hx (evalE P cl mk ie)) (gSt P cl mk G W hx g) D V H := by
  obtain ⟨α, σ, S, hr, he, ho⟩ := h
  simp only [execS] at ho
  refine ⟨α, σ, S, hr, he, (OutS.bind (rel := rD G) hr he ho).imp fun x H1 ⟨α1, d, S1, e1, hr1, rd, q1⟩ => ?_⟩
  refine ⟨α1, σ, S1, d, hr1, he.ext hr e1, rd, (OutS.bind (rel := rE G hx) hr1 (he.ext hr e1) q1).imp fun V2 H2 ⟨α2, σ2, S2, e2, hr2, he2, q2⟩ => ?_⟩
  exact q2.nxt hr2 he2
theorem s_asg (c : SC P ci N G cl mk W hx hs calm sc X) {t v : Expr} {g : Tg} {ie : IE} {pos : Pos} (hg : PG X t (gSt P cl mk G W hx g)) (hv : PE X v (tM G W hx (evalE P cl mk ie))) (hsw : swapsWithSole [t] v pos.line X.env = pure false) (hns : noSwap sc t v = true) (hst : notStar t = true) :
    PS X (.Assign [t] v pos) (tS G W hx (execS P cl mk (.asg g ie))) :=
  ps_imp (ps_asg hv hg hsw (noSwap_eq c.ec.scp c.kind hns) (by cases t <;> first | rfl | (cases hst; done))) fun D V H h => asg_out h
theorem s_par {i j : Nat} {ia ib : IE} {x y : Str} {px py pt pos : Pos} {kt k2 : Nat} {pt2 : Pos} {a b : Expr} {f : Expr → IE → Bool} (c : SC P ci N G cl mk W hx hs calm sc X) (hc : X.calm = true)
    (hsw : swapQ sc [.Name x px, .Name y py] [a, b] = some (some [x, y])) (hi : N[i]? = some x) (hj : N[j]? = some y) (hij : i ≠ j) (hx' : sc.names.lookup x = some .local) (hy : sc.names.lookup y = some .local) (hL : chkL f [a, b] [ia, ib] = true) (hf : ∀ e ie, f e ie = true → PE X e (tM G W hx (evalE P cl mk ie))) :
    PS X (.Assign [.Tuple [.Name x px, .Name y py] kt pt] (.Tuple [a, b] k2 pt2) pos) (tS G W hx (execS P cl mk (.par [i, j] [ia, ib]))) :=
  ps_imp (ps_par hc (by rw [c.ec.nN]; exact c.ec.nd) (by rw [c.ec.nN]; exact hi) (by rw [c.ec.nN]; exact hj) hij (by rw [c.ec.scp]; exact hx') (by rw [c.ec.scp]; exact hy) (s_args hf hL) (swapQ_eq c.ec.scp c.kind hsw) rfl) fun D V H ⟨α, σ, S, hr, he, ho⟩ => by
    simp only [execS] at ho
    refine ⟨α, σ, S, hr, he, (OutS.bind (rel := rDs G) hr he ho).imp fun vs H1 ⟨α1, ds, S1, e1, hr1, rd, q1⟩ => ?_⟩
    match ds, rd, q1 with
    | [], _, q1 => exact q1.elim
    | [_], _, q1 => exact q1.elim
    | [d1, d2], rd, q1 =>
      obtain ⟨v1, r1, rfl, h1, v2, r2, rfl, h2, r3⟩ := rd
      rw [show r2 = [] from r3]
      exact ⟨v1, v2, rfl, OutS.nxt q1 hr1 (((he.ext hr e1).set h1).set h2)⟩
    | _ :: _ :: _ :: _, _, q1 => exact q1.elim
theorem s_aug (c : SC P ci N G cl mk W hx hs calm sc X) {i : Nat} {x : Str} {o : Op} {v : Expr} {ie : IE} {p pos : Pos} (ho' : o = .add ∨ o = .sub) (hi : N[i]? = some x) (hl : locB sc x = true) (hv : PE X v (tM G W hx (evalE P cl mk ie))) :
    PS X (.AugAssign (.Name x p) (opP o) v pos) (tS G W hx (execS P cl mk (.aug i o ie))) := by
  have key : ∀ (ti : Int → Int → Int), PIp X (opP o) (ipI ti) → (∀ a b S, op2 o (.int a) (.int b) S = .ok (.int (ti a b)) S) → PS X (.AugAssign (.Name x p) (opP o) v pos) (tS G W hx (execS P cl mk (.aug i o ie))) := by
    intro ti hp hop
    refine ps_imp (ps_aug (by rw [c.ec.nN]; exact c.ec.nd) (by rw [c.ec.nN]; exact hi) (by rw [c.ec.scp]; exact loc_of hl) hv hp (.inl (c.fn x))) fun D V H ⟨α, σ, S, hr, he, ho⟩ => ?_
    simp only [execS] at ho
    split at ho
    · rename_i k hz
      obtain ⟨w, ew, r⟩ := he.at_ _ _ hz
      rcases r with r | ⟨_, _, _, _, e2, _⟩
      · refine ⟨.int k, by rw [ew, show w = .int k from r], α, σ, S, hr, he, (OutS.bind (rel := rD G) hr he ho).imp fun y H1 ⟨α1, d, S1, e1, hr1, rd, q1⟩ => ?_⟩
        cases d <;> first | exact False.elim q1 | skip
        rename_i m
        simp only [hop, R.bindS] at q1
        exact ⟨k, m, rfl, rd, q1.nxt hr1 ((he.ext hr e1).set rfl)⟩
      · cases e2
    · exact ho.elim
  rcases ho' with rfl | rfl
  · exact key _ ip_add fun _ _ _ => rfl
  · exact key _ ip_sub fun _ _ _ => rfl
theorem s_ex {e : Expr} {ie : IE} {pos : Pos} (h : PE X e (tM G W hx (evalE P cl mk ie))) (hc : isComp e = false) : PS X (.Expr e pos) (tS G W hx (execS P cl mk (.ex ie))) :=
  ps_imp (ps_expr h (comp_of hc)) fun D V H ⟨α, σ, S, hr, he, ho⟩ => by
    simp only [execS] at ho
    exact ⟨α, σ, S, hr, he, (OutS.bind (rel := rD G) hr he ho).imp fun x H1 ⟨α1, d, S1, e1, hr1, rd, q1⟩ => q1.nxt hr1 (he.ext hr e1)⟩
theorem s_ret {e : Expr} {ie : IE} {pos : Pos} (h : PE X e (tM G W hx (evalE P cl mk ie))) : PS X (.Return (some e) pos) (tS G W hx (execS P cl mk (.ret ie))) :=
  ps_imp (ps_ret h) fun D V H ⟨α, σ, S, hr, he, ho⟩ => by
    simp only [execS] at ho
    exact ⟨α, σ, S, hr, he, (OutS.bind (rel := rD G) hr he ho).imp fun x H1 ⟨α1, d, S1, e1, hr1, rd, q1⟩ => q1 α1 H1 x Ext.refl hr1 rd⟩
theorem s_ret0 {pos : Pos} : PS X (.Return none pos) (tS G W hx (execS P cl mk .ret0)) :=
  ps_imp ps_retN fun D V H ⟨α, σ, S, hr, he, ho⟩ => by
    simp only [execS] at ho
    exact ho α H .non Ext.refl hr rfl
theorem s_if {k : Expr} {a b : List Stmt} {ic : IE} {ia ib : List IS} {pos : Pos} (hk : PT X k (tMT G W hx (evT P cl mk ic))) (ha : PSs X a (tS G W hx (execSs P cl mk ia))) (hb : PSs X b (tS G W hx (execSs P cl mk ib))) :
    PS X (.If k a b pos) (tS G W hx (execS P cl mk (.ife ic ia ib))) :=
  ps_imp (ps_if hk ha hb) fun D V H ⟨α, σ, S, hr, he, ho⟩ => by
    simp only [execS] at ho
    refine ⟨α, σ, S, hr, he, (OutS.bind (rel := rB) hr he ho).imp fun t H1 ⟨α1, d, S1, e1, hr1, rd, q1⟩ => ?_⟩
    obtain rfl : d = t := rd
    cases d with
    | true => exact ⟨α1, σ, S1, hr1, he.ext hr e1, q1⟩
    | false => exact ⟨α1, σ, S1, hr1, he.ext hr e1, q1⟩
theorem s_pass {pos : Pos} : PS X (.Pass pos) (tS G W hx (execS P cl mk .pass)) := ps_imp ps_pass fun D V H ⟨α, σ, S, hr, he, ho⟩ => by
  simp only [execS] at ho; exact ho.nxt hr he
theorem s_brk {pos : Pos} : PS X (.Break pos) (tS G W hx (execS P cl mk .brk)) := ps_imp ps_break fun D V H ⟨α, σ, S, hr, he, ho⟩ => by
  simp only [execS] at ho; exact ho α H V Ext.refl hr he
theorem s_cont {pos : Pos} : PS X (.Continue pos) (tS G W hx (execS P cl mk .cont)) := ps_imp ps_continue fun D V H ⟨α, σ, S, hr, he, ho⟩ => by
  simp only [execS] at ho; exact ho α H V Ext.refl hr he

/-! ### loops -/
/-- a turn's end -/
theorem turn_out {α : List Addr} {H : Hp} {D : Ends} {r : RS} {f : Env → St → RS} {Nx : L2.St → Hp → Prop} (ho : OutS G hx W α H (match r with
      | .fl .nx σ S => f σ S
      | .fl .cont σ S => f σ S
      | .fl .brk σ S => .fl .nx σ S
      | r => r) D) (hn : ∀ σ S β H' V', Ext α H β H' → HRel G β H' S → ERel G hx β H' σ V' → OutS G hx W β H' (f σ S) D → Nx V' H') : OutS G hx W α H r { D with nx := Nx, ct := Nx, bk := D.nx } := by
  cases r with
  | fl g σ S =>
    cases g with
    | nx => exact fun β H' V' e h1 h2 => hn σ S β H' V' e h1 h2 (OutS.ext ho e)
    | cont => exact fun β H' V' e h1 h2 => hn σ S β H' V' e h1 h2 (OutS.ext ho e)
    | brk => exact ho
    | ret d => exact ho
  | exc c vs σ S => exact ho
  | bad => exact ho
theorem s_while (c : SC P ci N G cl mk W hx hs calm sc X) (hc : calm = true) {k : Expr} {a : List Stmt} {ic : IE} {ia : List IS} {pos : Pos} (hk : PT X k (tMT G W hx (evT P cl mk ic))) (ha : PSs X a (tS G W hx (execSs P cl mk ia))) :
    PS X (.While k a [] pos) (tS G W hx (execS P cl mk (.whl ic ia))) :=
  ps_imp (ps_while (c.po hc) hk ha) fun D V H ⟨α, σ, S, hr, he, ho⟩ => by
    simp only [execS] at ho
    refine ⟨fun m V H => ∃ α σ S, HRel G α H S ∧ ERel G hx α H σ V ∧ OutS G hx W α H (whileL (evT P cl mk ic) (fun σ S => execSs P cl mk ia σ S) m σ S) D, ⟨_, α, σ, S, hr, he, ho⟩, ?_⟩
    rintro m V H ⟨α, σ, S, hr, he, ho⟩
    cases m with
    | zero => exact ho.elim
    | succ m =>
      simp only [whileL] at ho
      refine ⟨α, σ, S, hr, he, (OutS.bind (rel := rB) hr he ho).imp fun t H1 ⟨α1, d, S1, e1, hr1, rd, q1⟩ => ?_⟩
      obtain rfl : d = t := rd
      cases d with
      | true =>
        rw [if_pos rfl]
        simp only [if_true] at q1
        refine ⟨fun V' H' => ∃ m', m' < m + 1 ∧ ∃ α σ S, HRel G α H' S ∧ ERel G hx α H' σ V' ∧ OutS G hx W α H' (whileL (evT P cl mk ic) (fun σ S => execSs P cl mk ia σ S) m' σ S) D, fun V' H' h => h, ?_⟩
        exact ⟨α1, σ, S1, hr1, he.ext hr e1, turn_out q1 fun σ S β H' V' e h1 h2 h3 => ⟨m, Nat.lt_succ_self m, β, σ, S, h1, h2, h3⟩⟩
      | false =>
        rw [if_neg Bool.false_ne_true]
        simp only [Bool.false_eq_true, if_false] at q1
        exact q1.nxt hr1 (he.ext hr e1)
theorem s_for (c : SC P ci N G cl mk W hx hs calm sc X) (hc : calm = true) {t iter : Expr} {a : List Stmt} {k : It} {args : List IE} {g : Tg} {ia : List IS} {pos : Pos} (hi : PI X t iter (tI G W hx (evalIt P cl mk k args))) (hg : PG X t (gSt P cl mk G W hx g)) (ha : PSs X a (tS G W hx (execSs P cl mk ia))) (hs' : notSetE iter = true) :
    PS X (.For t iter a [] pos) (tS G W hx (execS P cl mk (.for_ k args g ia))) :=
  ps_imp (ps_for (c.po hc) (c.ec.cm hc).1 hi hg ha (set_of hs')) fun D V H ⟨α, σ, S, hr, he, ho⟩ => by
    let turn : Mi.D → Env → St → RS := fun d σ S => (store P cl mk g d σ S).bindS σ fun σ S => execSs P cl mk ia σ S
    have ho : OutS G hx W α H ((evalIt P cl mk k args σ S).bindS σ fun q S => forL q.1 q.2 turn q.1 σ S) D := by
      have e : execS P cl mk (.for_ k args g ia) σ S = (evalIt P cl mk k args σ S).bindS σ fun q S => forL q.1 q.2 turn q.1 σ S := by
        simp only [execS, evalIt]
        cases evalEs P cl mk args σ S with
        | ok xs S1 =>
          simp only [R.bind, R.bindS]
          cases itV k xs S1 with
          | none => rfl
          | some q => rfl
        | exc _ _ _ => rfl
        | bad => rfl
      rw [← e]; exact ho
    refine ⟨α, σ, S, hr, he, (OutS.bind (rel := Wk G) hr he ho).imp fun J H1 ⟨α1, q, S1, e1, hr1, wk, q1⟩ => ?_⟩
    obtain ⟨ds, o⟩ := q
    refine ⟨fun i m V H => ∃ α σ S, i ≤ ds.length ∧ m = ds.length - i ∧ Ext α1 H1 α H ∧ HRel G α H S ∧ ERel G hx α H σ V ∧ OutS G hx W α H (forL ds o turn (ds.drop i) σ S) D,
      ⟨_, α1, σ, S1, Nat.zero_le _, rfl, Ext.refl, hr1, he.ext hr e1, q1⟩, ?_⟩
    rintro i m V H ⟨α, σ, S, hi', rfl, ex, hr, he, ho⟩
    by_cases hlt : i < ds.length
    · right
      rw [List.drop_eq_getElem_cons hlt] at ho
      simp only [forL] at ho
      by_cases hst : still ds o S = true
      · rw [if_pos hst] at ho
        obtain ⟨go, yld⟩ := wk.go α H S ex hr hst i _ (List.getElem?_eq_getElem hlt)
        refine ⟨go, fun V' H' => ∃ m', m' < ds.length - i ∧ ∃ α σ S, i + 1 ≤ ds.length ∧ m' = ds.length - (i + 1) ∧ Ext α1 H1 α H' ∧ HRel G α H' S ∧ ERel G hx α H' σ V' ∧ OutS G hx W α H' (forL ds o turn (ds.drop (i + 1)) σ S) D, fun V' H' h => h, ?_⟩
        intro x H' y
        obtain ⟨rfl, rx⟩ := yld x H' y
        have ho2 := turn_out (Nx := fun V' H' => ∃ m', m' < ds.length - i ∧ ∃ α σ S, i + 1 ≤ ds.length ∧ m' = ds.length - (i + 1) ∧ Ext α1 H1 α H' ∧ HRel G α H' S ∧ ERel G hx α H' σ V' ∧ OutS G hx W α H' (forL ds o turn (ds.drop (i + 1)) σ S) D) ho
          fun σ S β H' V' e h1 h2 h3 => ⟨_, by omega, β, σ, S, hlt, rfl, ex.trans e, h1, h2, h3⟩
        refine ⟨α, σ, S, ds[i], hr, he, rx, (OutS.bind (rel := rE G hx) hr he ho2).imp fun V2 H2 ⟨α2, σ2, S2, e2, hr2, he2, q2⟩ => ?_⟩
        exact ⟨α2, σ2, S2, hr2, he2, q2⟩
      · rw [if_neg hst] at ho; exact ho.elim
    · left
      have hi2 : i = ds.length := by omega
      subst hi2
      rw [List.drop_length] at ho
      simp only [forL] at ho
      by_cases hst : still ds o S = true
      · rw [if_pos hst] at ho
        exact ⟨wk.stop α H S ex hr hst, ho.nxt hr he⟩
      · rw [if_neg hst] at ho; exact ho.elim

/-! ### exceptions -/
theorem exc_of {x : Str} {i : Nat} (c : SC P ci N G cl mk W hx hs calm sc X) (h : excB ci sc x i = true) : Gl X x ∧ dbgB x = true ∧ X.mg x = some (.ref (G.xA i)) ∧ i < G.nx := by
  simp only [excB, Bool.and_eq_true] at h
  obtain ⟨⟨h1, h2⟩, h3⟩ := h
  split at h3
  · rename_i j hj
    simp only [beq_iff_eq] at h3
    subst h3
    exact ⟨gl_of c.ec.scp h1, h2, c.ec.exn _ _ hj⟩
  · cases h3
theorem s_raise (c : SC P ci N G cl mk W hx hs calm sc X) (hc : X.calm = true) {x m : Str} {i j : Nat} {p p2 p3 pos : Pos} (h : excB ci sc x i = true) : PS X (.Raise (some (.Call (.Name x p) [.Constant (.str m) j p2] [] p3)) none pos) (tS G W hx (execS P cl mk (.raise i []))) := by
  obtain ⟨g, d, e, hn⟩ := exc_of c h
  obtain ⟨⟨B, newId, initId, bmB, F, q⟩, k, s, t⟩ := c.xf i hn
  refine ps_imp (ps_raise hc c.ec.ok.tk (pmk_own F q e k (raises_own s t) g (dbg_of d).1)) fun D V H ⟨α, σ, S, hr, he, ho⟩ => ?_
  simp only [execS, evalEs, R.bindS] at ho
  exact ho α H V none Ext.refl hr he ⟨hn, .inl ⟨c.xp i, rfl, rfl⟩⟩
theorem names_of (c : SC P ci N G cl mk W hx hs calm sc X) {x : Str} {i : Nat} (h : excB ci sc x i = true) : Names X x (.ref (G.xA i)) := by
  obtain ⟨g, d, e, _⟩ := exc_of c h
  exact ⟨g, (dbg_of d).1, .inl e⟩
theorem xrel_plain (c : SC P ci N G cl mk W hx hs calm sc X) {α : List Addr} {H : Hp} {k : Nat} {ds : List D} {dd : Option Addr} (h : XRel G α H k ds dd) : dd = none ∧ k < G.nx := by
  obtain ⟨hn, h⟩ := h
  rcases h with ⟨_, _, h⟩ | ⟨nn, _⟩
  · exact ⟨h, hn⟩
  · exact absurd (c.xp k) nn
end
end Mi
/-! # Mi2j: try, the comprehension that is stored in a name, the checker of statements is sound. -/
namespace Mi
open PySem PySem.Spec PyProof.Rows L2
section
variable {P : Pg} {ci : CI} {N : List Str} {G : RC} {cl mk : Cl} {W : WX} {hx : HX} {hs : Option Nat} {calm : Bool} {sc : Scope} {X : Cx}
theorem ERel.hold {α : List Addr} {H : Hp} {σ : Env} {V : L2.St} {i k : Nat} {ds : List D} {a : Addr} {dd : Option Addr} (h : ERel G none α H σ V) (x : XRel G α H k ds dd) : ERel G (some (i, a, k, ds, dd)) α H (σ.set i (some (.exc k ds))) (V.set i (some (.ref a))) := by
  refine ⟨by simp [h.len], fun j e q => ?_, fun i' a' c' ds' dd' e => by cases e; exact x⟩
  by_cases hj : j = i
  · subst hj
    have hl : j < σ.length := by
      obtain ⟨hl, _⟩ := List.getElem?_eq_some_iff.mp q
      rw [List.length_set] at hl; exact hl
    rw [List.getElem?_set_self hl] at q
    cases q
    exact ⟨_, List.getElem?_set_self (by rw [← h.len]; exact hl), .inr ⟨a, k, ds, dd, rfl, rfl, rfl⟩⟩
  · rw [List.getElem?_set_ne (Ne.symm hj)] at q
    rw [List.getElem?_set_ne (Ne.symm hj)]
    obtain ⟨v, e1, r⟩ := h.at_ j e q
    refine ⟨v, e1, .inl ?_⟩
    rcases r with r | ⟨_, _, _, _, _, e2, _⟩
    · exact r
    · cases e2
theorem ERel.drop {α : List Addr} {H : Hp} {σ : Env} {V : L2.St} {i k : Nat} {ds : List D} {a : Addr} {dd : Option Addr} (h : ERel G (some (i, a, k, ds, dd)) α H σ V) : ERel G none α H (σ.set i none) (V.set i none) := by
  have hu := h.unset (i := i)
  refine ⟨hu.len, fun j e q => ?_, fun i' a' c' ds' dd' e => by cases e⟩
  by_cases hj : j = i
  · subst hj
    have hl : j < σ.length := by
      obtain ⟨hl, _⟩ := List.getElem?_eq_some_iff.mp q
      rw [List.length_set] at hl; exact hl
    rw [List.getElem?_set_self hl] at q
    cases q
  · obtain ⟨v, e1, r⟩ := hu.at_ j e q
    refine ⟨v, e1, .inl ?_⟩
    rcases r with r | ⟨_, _, _, _, _, e2, _⟩
    · exact r
    · cases e2; exact absurd rfl hj
def tsAs (P : Pg) (cl mk : Cl) (G : RC) (i : Nat) (ih : List IS) : Addr → Value → Option Addr → TS := fun a cls d D V H => ∃ k ds, cls = .ref (G.xA k) ∧ d = none ∧ k < G.nx ∧ tS G WN (some (i, a, k, ds, none)) (execSs P cl mk ih) D V H
theorem s_try_as (c : SC P ci N G cl mk W hx hs calm sc X) (hc : calm = true) {x y : Str} {k i : Nat} {body suite : List Stmt} {b₀ : Stmt} {np pos pos' : Pos} {ib ih : List IS}
    (hk : excB ci sc x k = true) (hi : N[i]? = some y) (hl : sc.names.lookup y = some .local)
    (hb : ∀ (W : WX) (pn : List (Addr × Obj)) (xe : Value → Shared → Prop), SC P ci N G cl mk W hx hs calm sc (X.tr pn xe) → PSs (X.tr pn xe) body (tS G W hx (execSs P cl mk ib)))
    (hsu : ∀ (a : Addr) (oe : Obj) (k : Nat) (ds : List D) (pn : List (Addr × Obj)), SC P ci N G cl mk WN (some (i, a, k, ds, none)) (some i) false sc (X.suite a ((a, oe) :: pn)) → PSs (X.suite a ((a, oe) :: pn)) (b₀ :: suite) (tS G WN (some (i, a, k, ds, none)) (execSs P cl mk ih))) :
    PS X (.Try body [.ExceptHandler (some (.Name x np)) (some y) (b₀ :: suite) pos'] [] [] pos) (tS G W hx (execS P cl mk (.try_ ib k (some i) ih))) := by
  have hx0 : hx = none := (c.ec.cm hc).2
  subst hx0
  have hkn : k < G.nx := (exc_of c hk).2.2.2
  refine ps_imp (ps_try_as (tb := fun W => tS G W none (execSs P cl mk ib)) (ts := tsAs P cl mk G i ih) (i := i) (c.st hc).1 (c.st hc).2 (by rw [c.ec.nN]; exact c.ec.nd) (by rw [c.ec.nN]; exact hi) ?_ (names_of c hk) c.ec.ok.tk
    (fun W pn xe tk po => hb W pn xe (c.tr hc tk po)) fun a oe cls d pn z f => ⟨fun pins s V H D I ⟨j, ds, e1, e2, e3, h⟩ => ?_⟩) fun D V H ⟨α, σ, S, hr, he, ho⟩ => ?_
  · show X.env.scope.names.lookup y = _
    rw [c.ec.scp]; exact hl
  · subst e1 e2
    exact (hsu a oe j ds pn (c.suite e3 z f)).run pins s V H D I h
  · refine ⟨α, σ, S, hr, he, ?_⟩
    simp only [execS] at ho
    cases q : execSs P cl mk ib σ S with
    | bad => rw [q] at ho; exact ho.elim
    | fl f σ1 S1 => rw [q] at ho; cases f <;> exact ho
    | exc e vs σ1 S1 =>
      rw [q] at ho
      simp only at ho
      intro β H' V' dd ex hr1 he1 hx1
      obtain ⟨rfl, hen⟩ := xrel_plain c hx1
      refine ⟨P.sub e k, c.exm e k hen hkn, fun hs2 a ha => ?_, fun hs2 => ?_⟩
      · rw [if_pos hs2] at ho
        refine ⟨e, vs, rfl, rfl, hen, β, σ1.set i (some (.exc e vs)), S1, hr1, he1.hold hx1, ?_⟩
        have ho := OutS.ext ho ex
        cases q2 : execSs P cl mk ih (σ1.set i (some (.exc e vs))) S1 with
        | bad => rw [q2] at ho; exact ho.elim
        | exc _ _ _ _ => rw [q2] at ho; exact ho.elim
        | fl f σ2 S2 =>
          rw [q2] at ho
          cases f with
          | ret d => exact ho
          | nx => exact fun γ H2 V2 e2 h1 h2 => ho γ H2 _ e2 h1 h2.drop
          | brk => exact fun γ H2 V2 e2 h1 h2 => ho γ H2 _ e2 h1 h2.drop
          | cont => exact fun γ H2 V2 e2 h1 h2 => ho γ H2 _ e2 h1 h2.drop
      · rw [if_neg (by rw [hs2]; exact Bool.false_ne_true)] at ho
        exact ho β H' V' none ex hr1 he1 hx1
def tsOn (P : Pg) (cl mk : Cl) (G : RC) (ih : List IS) : Addr → Value → Option Addr → TS := fun _ _ _ => tS G WN none (execSs P cl mk ih)
theorem s_try_only (c : SC P ci N G cl mk W hx hs calm sc X) (hc : calm = true) {x : Str} {k : Nat} {body suite : List Stmt} {b₀ : Stmt} {np pos pos' : Pos} {ib ih : List IS}
    (hk : excB ci sc x k = true)
    (hb : ∀ (W : WX) (pn : List (Addr × Obj)) (xe : Value → Shared → Prop), SC P ci N G cl mk W hx hs calm sc (X.tr pn xe) → PSs (X.tr pn xe) body (tS G W hx (execSs P cl mk ib)))
    (hsu : ∀ (a : Addr) (oe : Obj) (pn : List (Addr × Obj)), SC P ci N G cl mk WN none none false sc (X.suite a ((a, oe) :: pn)) → PSs (X.suite a ((a, oe) :: pn)) (b₀ :: suite) (tS G WN none (execSs P cl mk ih))) :
    PS X (.Try body [.ExceptHandler (some (.Name x np)) none (b₀ :: suite) pos'] [] [] pos) (tS G W hx (execS P cl mk (.try_ ib k none ih))) := by
  have hx0 : hx = none := (c.ec.cm hc).2
  subst hx0
  have hkn : k < G.nx := (exc_of c hk).2.2.2
  refine ps_imp (ps_try_only (tb := fun W => tS G W none (execSs P cl mk ib)) (ts := tsOn P cl mk G ih) (c.st hc).1 (c.st hc).2 (names_of c hk) c.ec.ok.tk
    (fun W pn xe tk po => hb W pn xe (c.tr hc tk po)) fun a oe cls d pn z f => hsu a oe pn c.suite0) fun D V H ⟨α, σ, S, hr, he, ho⟩ => ?_
  refine ⟨α, σ, S, hr, he, ?_⟩
  simp only [execS] at ho
  cases q : execSs P cl mk ib σ S with
  | bad => rw [q] at ho; exact ho.elim
  | fl f σ1 S1 => rw [q] at ho; cases f <;> exact ho
  | exc e vs σ1 S1 =>
    rw [q] at ho
    simp only at ho
    intro β H' V' dd ex hr1 he1 hx1
    obtain ⟨rfl, hen⟩ := xrel_plain c hx1
    refine ⟨P.sub e k, c.exm e k hen hkn, fun hs2 a ha => ?_, fun hs2 => ?_⟩
    · rw [if_pos hs2] at ho
      refine ⟨β, σ1, S1, hr1, he1, ?_⟩
      have ho := OutS.ext ho ex
      cases q2 : execSs P cl mk ih σ1 S1 with
      | bad => rw [q2] at ho; exact ho.elim
      | exc _ _ _ _ => rw [q2] at ho; exact ho.elim
      | fl f σ2 S2 =>
        rw [q2] at ho
        cases f <;> exact ho
    · rw [if_neg (by rw [hs2]; exact Bool.false_ne_true)] at ho
      exact ho β H' V' none ex hr1 he1 hx1
/-! ### a comprehension that is stored in a name -/
theorem tM_imp {e : Env → St → R D} {V : L2.St} {H : Hp} {Q Q' : L2.V → Hp → Prop} (h : tM G W hx e V H Q) (i : ∀ v H', Q v H' → Q' v H') : tM G W hx e V H Q' := by
  obtain ⟨α, σ, S, hr, he, ho⟩ := h
  exact ⟨α, σ, S, hr, he, ho.imp i⟩
theorem s_setLc (c : SC P ci N G cl mk W hx hs calm sc X) {n i : Nat} {y : Str} {py pos spos : Pos} {elt : Expr} {gs : List Comprehension} {scope : Scope} {ie : IE}
    (hi : N[i]? = some y) (hl : locB sc y = true) (hd : dbgB y = true) (h : chkE ci N calm hs n sc (.ListComp elt gs scope pos) ie = true) :
    PS X (.Assign [.Name y py] (.ListComp elt gs scope pos) spos) (tS G W hx (execS P cl mk (.asg (.name i) ie))) := by
  have gn := s_gname (P := P) (cl := cl) (mk := mk) c (pos := py) hi hl hd
  cases n with
  | zero => cases h
  | succ n =>
  have ih : ChkOk P ci N G cl mk n := chk_ok n
  have whole := ((chk_ok (P := P) (G := G) (cl := cl) (mk := mk) (n + 1)).E calm hs sc _ ie h W hx X c.ec).1
  have hb : X.env.blockKind = .function := by unfold PySem.Env.blockKind; rw [c.ec.scp, c.kind]; rfl
  have hk : X.env.kindOf y = sc.names.lookup y := by show X.env.scope.names.lookup y = _; rw [c.ec.scp]
  have sw : swapsWith (.ListComp elt gs scope pos) (some (.Name y py)) spos.line X.env = pure (sc.names.lookup y == some .local && py.line == pos.line && !(scope.names.any fun (n, k) => n == y && (k == .local || k == .cell))) := by
    unfold swapsWith
    simp only [hb, hk]
    rfl
  generalize hq : (sc.names.lookup y == some .local && py.line == pos.line && !(scope.names.any fun (n, k) => n == y && (k == .local || k == .cell))) = q at sw
  cases q with
  | false => exact s_asg c gn whole sw (by rfl) (by rfl)
  | true =>
    have hyl : sc.names.lookup y = some .local := by
      simp only [Bool.and_eq_true, beq_iff_eq] at hq
      exact hq.1.1
    simp only [chkE] at h
    split at h
    · split at h
      · rename_i _ tg iter ifs _ k args p ws iifs ielt
        simp only [Bool.and_eq_true, decide_eq_true_eq] at h
        obtain ⟨⟨⟨⟨⟨⟨⟨⟨h1, h2⟩, h3⟩, h4⟩, h5⟩, h6⟩, h7⟩, h8⟩, h9⟩ := h
        have hc := (c.ec.cm h1).1
        have hN : X.N.Nodup := by rw [c.ec.nN]; exact c.ec.nd
        have hb : BlkOk X.N X.env.scope scope (slotNames N ws) := by rw [c.ec.nN, c.ec.scp]; exact blkOk_by h2
        have hI := ih.I _ _ _ _ _ _ h6 W hx X tg c.ec
        have cb := fun s H C cel fp => c.ec.blk h1 s H scope C cel fp
        have hp : ∀ j ∈ p.slots, j ∈ (slotNames N ws).map (·.2) := by
          rw [h3]
          intro j hj
          have := List.all_eq_true.mp h4 j hj
          simpa using this
        have ht : ∀ (s : Shared) (H : Hp) (C : Addr) (cel : List (Str × Addr)) (fp : List Addr), PTs (X.blk s H scope (compEnvC scope cel C X.env) fp) ifs (tMT G WN hx (evalTs P cl mk iifs)) := by
          intro s H C cel fp
          split at h7
          · exact s_noifs
          · exact s_ifs (ih.T _ _ _ _ _ h7 _ _ _ (cb s H C cel fp))
          · cases h7
        have key := s_comp (P := P) (W := W) (X := X) (k := k) (args := args) (pos := pos) hc hN hI hb hp (fun s H C cel fp => s_pat c.ec hc s H scope C cel fp 8 tg p h5) ht (fun s H C cel fp => (ih.E _ _ _ _ _ h8 _ _ _ (cb s H C cel fp)).1)
        rw [h3] at key
        have hpe := ps_setLc (py := py) (spos := spos) hc hN (show X.N[i]? = some y by rw [c.ec.nN]; exact hi) (by rw [c.ec.scp]; exact hyl) sw hI hb (fun s H C cel fp => s_pat c.ec hc s H scope C cel fp 8 tg p h5) ht (fun s H C cel fp => (ih.E _ _ _ _ _ h8 _ _ _ (cb s H C cel fp)).1) (set_of h9)
        rw [h3] at hpe
        refine ps_imp hpe fun D V H h => ?_
        refine key V H _ (tM_imp (asg_out h) fun v H' ⟨α, σ, S, d, hr, he, rd, ho⟩ => ?_)
        simp only [store] at ho
        exact ho.val hr (he.set rd)
      · cases h
    · cases h
/-! ### the whole -/
theorem EC.wn (c : EC P ci N G cl mk W hx hs calm sc X) : EC P ci N G cl mk WN hx hs calm sc X where
  ok := ⟨c.ok.K, fun u s' ⟨_, _, _, _, _, _, _, _, _, _, _, _, _, _, _, _, h⟩ => h.elim, c.ok.un⟩
  nN := c.nN
  nd := c.nd
  scp := c.scp
  cm := c.cm
  con := c.con
  blt := c.blt
  fn := c.fn
  exn := c.exn
  kit := c.kit
  isE := c.isE
structure ChkSOk (P : Pg) (ci : CI) (N : List Str) (G : RC) (cl mk : Cl) (m n : Nat) : Prop where
  gT : ∀ (calm : Bool) (hs : Option Nat) (sc : Scope) (e : Expr) (g : Tg), chkG ci N calm hs m n sc e g = true → ∀ (W : WX) (hx : HX) (X : Cx), SC P ci N G cl mk W hx hs calm sc X → PG X e (gSt P cl mk G W hx g)
  Gs : ∀ (calm : Bool) (hs : Option Nat) (sc : Scope) (es : List Expr) (gs : List Tg), chkGs ci N calm hs m n sc es gs = true → ∀ (W : WX) (hx : HX) (X : Cx), SC P ci N G cl mk W hx hs calm sc X →
    PGs X es (gSts P cl mk G W hx gs) ∧ (assignEach es X.env).length = gs.length ∧ (assignEach es X.env).findIdx? (·.1) = none
  S : ∀ (calm : Bool) (hs : Option Nat) (sc : Scope) (st : Stmt) (is : IS), chkS ci N calm hs m n sc st is = true → ∀ (W : WX) (hx : HX) (X : Cx), SC P ci N G cl mk W hx hs calm sc X → PS X st (tS G W hx (execS P cl mk is))
  Ss : ∀ (calm : Bool) (hs : Option Nat) (sc : Scope) (st : List Stmt) (is : List IS), chkSs ci N calm hs m n sc st is = true → ∀ (W : WX) (hx : HX) (X : Cx), SC P ci N G cl mk W hx hs calm sc X → PSs X st (tS G W hx (execSs P cl mk is))
end
section
variable {P : Pg} {ci : CI} {N : List Str} {G : RC} {cl mk : Cl}
theorem star_ok {e : Expr} (h : notStar e = true) : notStar e = true := h
theorem chkS_ok (m : Nat) : ∀ n, ChkSOk P ci N G cl mk m n := by
  intro n
  induction n with
  | zero => exact ⟨fun _ _ _ _ _ h => (by cases h), fun _ _ _ _ _ h => (by cases h), fun _ _ _ _ _ h => (by cases h), fun _ _ _ _ _ h => (by cases h)⟩
  | succ n ih =>
  have ce : ChkOk P ci N G cl mk m := chk_ok m
  refine ⟨fun calm hs sc e g h W hx X c => ?_, fun calm hs sc es gs h W hx X c => ?_, fun calm hs sc st is h W hx X c => ?_, fun calm hs sc sts is h W hx X c => ?_⟩
  · simp only [chkG] at h
    split at h
    · split at h
      · simp only [Bool.and_eq_true, decide_eq_true_eq] at h
        exact s_gname c h.1.1 h.1.2 h.2
      · cases h
    · split at h
      · simp only [Bool.and_eq_true] at h
        exact s_gsub (ce.E _ _ _ _ _ h.1.1 WN hx X c.ec.wn).1 (ce.E _ _ _ _ _ h.1.2 WN hx X c.ec.wn).1 h.2
      · cases h
    · split at h
      · simp only [Bool.and_eq_true, decide_eq_true_eq] at h
        obtain ⟨h1, h2, h3⟩ := ih.Gs _ _ _ _ _ h.2 W hx X c
        exact s_gtup c (c.ec.cm h.1.1).1 h1 h2 h3
      · cases h
    · cases h
  · simp only [chkGs] at h
    split at h
    · exact ⟨s_gnil, rfl, rfl⟩
    · rename_i e es g gs
      simp only [Bool.and_eq_true] at h
      obtain ⟨h1, h2, h3⟩ := ih.Gs _ _ _ _ _ h.2 W hx X c
      have ea : assignEach (e :: es) X.env = (false, assign e X.env) :: assignEach es X.env := by
        have := h.1.1
        cases e <;> first | rfl | (cases this; done)
      refine ⟨s_gcons (ih.gT _ _ _ _ _ h.1.2 W hx X c) h1 h.1.1, by rw [ea, List.length_cons, List.length_cons, h2], ?_⟩
      rw [ea, List.findIdx?_cons]
      simp [h3]
    · cases h
  · simp only [chkS] at h
    split at h
    · -- Assign
      split at h
      · split at h
        · rename_i v spos ts t is' g e
          simp only [Bool.and_eq_true, Bool.or_eq_true, Bool.not_eq_true'] at h
          obtain ⟨⟨⟨h1, h2⟩, h3⟩, h4⟩ := h
          have hg := ih.gT _ _ _ _ _ h1 W hx X c
          have hv := (ce.E _ _ _ _ _ h2 W hx X c.ec).1
          have nst : notStar t = true := by
            cases t <;> first | rfl | skip
            cases n with
            | zero => cases h1
            | succ n => simp only [chkG] at h1; cases h1
          by_cases q1 : isComp v = true
          · by_cases q2 : isName t = true
            · cases t <;> first | (cases q2; done) | skip
              rename_i y py
              have hgs : ∃ i, g = .name i ∧ N[i]? = some y ∧ locB sc y = true ∧ dbgB y = true := by
                cases n with
                | zero => cases h1
                | succ n =>
                  simp only [chkG] at h1
                  split at h1
                  · simp only [Bool.and_eq_true, decide_eq_true_eq] at h1
                    exact ⟨_, rfl, h1.1.1, h1.1.2, h1.2⟩
                  · cases h1
              obtain ⟨i, rfl, g1, g2, g3⟩ := hgs
              cases v <;> first | (cases q1; done) | skip
              · exact s_setLc c g1 g2 g3 h2
              · cases m with
                | zero => cases h2
                | succ m => simp only [chkE] at h2; cases h2
              · cases m with
                | zero => cases h2
                | succ m => simp only [chkE] at h2; cases h2
            · exact s_asg c hg hv (name_of (by simpa using q2)) h3 nst
          · exact s_asg c hg hv (comp_of (by simpa using q1)) h3 nst
        · simp only [Bool.and_eq_true] at h
          obtain ⟨hc, h⟩ := h
          split at h
          · split at h
            · simp only [Bool.and_eq_true, decide_eq_true_eq] at h
              obtain ⟨⟨⟨⟨⟨⟨h1, h2⟩, h3⟩, h4⟩, h5⟩, h6⟩, h7⟩ := h
              exact s_par c (c.ec.cm hc).1 h1 h2 h3 h4 h5 h6 h7 fun e ie q => (ce.E _ _ _ _ _ q W hx X c.ec).1
            · cases h
          · cases h
        · cases h
      · cases h
    · -- AugAssign
      split at h
      · split at h
        · simp only [Bool.and_eq_true, Bool.or_eq_true, decide_eq_true_eq] at h
          obtain ⟨⟨⟨⟨⟨h1, h2⟩, h3⟩, h4⟩, h5⟩, h6⟩ := h
          subst h1
          exact s_aug c h2 h3 h4 (ce.E _ _ _ _ _ h6 W hx X c.ec).1
        · cases h
      · cases h
    · -- Expr
      split at h
      · simp only [Bool.and_eq_true, Bool.not_eq_true'] at h
        exact s_ex (ce.E _ _ _ _ _ h.1 W hx X c.ec).1 h.2
      · cases h
    · -- Return
      split at h
      · split at h
        · exact s_ret (ce.E _ _ _ _ _ h W hx X c.ec).1
        · cases h
      · split at h
        · exact s_ret0
        · cases h
    · -- If
      split at h
      · simp only [Bool.and_eq_true] at h
        exact s_if (ce.T _ _ _ _ _ h.1.1 W hx X c.ec) (ih.Ss _ _ _ _ _ h.1.2 W hx X c) (ih.Ss _ _ _ _ _ h.2 W hx X c)
      · cases h
    · -- While
      split at h
      · rename_i cnd a b _ _ _ _
        simp only [Bool.and_eq_true, List.isEmpty_iff] at h
        obtain ⟨⟨⟨h1, h2⟩, h3⟩, rfl⟩ := h
        exact s_while c h1 (ce.T _ _ _ _ _ h2 W hx X c.ec) (ih.Ss _ _ _ _ _ h3 W hx X c)
      · cases h
    · -- For
      split at h
      · simp only [Bool.and_eq_true, List.isEmpty_iff] at h
        obtain ⟨⟨⟨⟨⟨h1, h2⟩, h3⟩, h4⟩, rfl⟩, h6⟩ := h
        exact s_for c h1 (ce.I _ _ _ _ _ _ h2 W hx X _ c.ec) (ih.gT _ _ _ _ _ h3 W hx X c) (ih.Ss _ _ _ _ _ h4 W hx X c) h6
      · cases h
    · split at h
      · exact s_pass
      · cases h
    · split at h
      · exact s_brk
      · cases h
    · split at h
      · exact s_cont
      · cases h
    · -- Raise
      simp only [Bool.and_eq_true, Option.isNone_iff_eq_none] at h
      obtain ⟨rfl, h⟩ := h
      split at h
      · split at h
        · simp only [Bool.and_eq_true] at h
          exact s_raise c (c.ec.cm h.1).1 h.2
        · cases h
      · cases h
    · -- Try
      simp only [Bool.and_eq_true, List.isEmpty_iff] at h
      obtain ⟨⟨rfl, rfl⟩, h⟩ := h
      split at h
      · split at h
        · simp only [Bool.and_eq_true] at h
          obtain ⟨⟨⟨h1, h2⟩, h3⟩, h4⟩ := h
          split at h4
          · simp only [Bool.and_eq_true, decide_eq_true_eq] at h4
            obtain ⟨⟨⟨h5, h6⟩, h7⟩, h8⟩ := h4
            exact s_try_as c h1 h2 h5 h6 (fun W pn xe c' => ih.Ss _ _ _ _ _ h3 W hx _ c') fun a oe k ds pn c' => ih.Ss _ _ _ _ _ h8 WN _ _ c'
          · exact s_try_only c h1 h2 (fun W pn xe c' => ih.Ss _ _ _ _ _ h3 W hx _ c') fun a oe pn c' => ih.Ss _ _ _ _ _ h4 WN _ _ c'
          · cases h4
        · cases h
      · cases h
    · cases h
  · simp only [chkSs] at h
    split at h
    · exact s_nil
    · simp only [Bool.and_eq_true] at h
      exact s_cons (ih.S _ _ _ _ _ h.1 W hx X c) (ih.Ss _ _ _ _ _ h.2 W hx X c)
    · cases h
end
end Mi
/-! # Mi2k: defs. -/
namespace Mi
open PySem PySem.Spec PyProof.Rows L2

/-! ### what a call made and nothing leans on -/
section
variable {G : RC} {α β : List Addr} {H H' : Hp} {n : Nat}
mutual
theorem Rep.low (h : n ≤ β.length) : ∀ (d : D) (v : V), d.under n = true → Rep G β H d v → Rep G (β.take n) H d v := by
  intro d v u r
  cases d with
  | tup ds =>
    obtain ⟨a, vs, e, s, r⟩ := r
    simp only [D.under] at u
    exact ⟨a, vs, e, s, Reps.low h ds vs u r⟩
  | frz ds =>
    obtain ⟨a, vs, e, s, r⟩ := r
    simp only [D.under] at u
    exact ⟨a, vs, e, s, Reps.low h ds vs u r⟩
  | ref i =>
    obtain ⟨a, h1, h2⟩ := r
    simp only [D.under, decide_eq_true_eq] at u
    exact ⟨a, by rw [List.getElem?_take_of_lt u]; exact h1, h2⟩
  | exc c ds => exact r
  | non => exact r
  | bl _ => exact r
  | int _ => exact r
  | str _ => exact r
theorem Reps.low (h : n ≤ β.length) : ∀ (ds : List D) (vs : List V), D.unders n ds = true → Reps G β H ds vs → Reps G (β.take n) H ds vs := by
  intro ds vs u r
  cases ds with
  | nil => exact r
  | cons d ds =>
    simp only [D.unders, Bool.and_eq_true] at u
    obtain ⟨v, rs, e, h1, h2⟩ := r
    exact ⟨v, rs, e, Rep.low h d v u.1 h1, Reps.low h ds rs u.2 h2⟩
end
mutual
theorem Rep.und : ∀ (d : D) (v : V), Rep G α H d v → d.under α.length = true := by
  intro d v r
  cases d with
  | tup ds =>
    obtain ⟨a, vs, e, s, r⟩ := r
    simp only [D.under]
    exact Reps.und ds vs r
  | frz ds =>
    obtain ⟨a, vs, e, s, r⟩ := r
    simp only [D.under]
    exact Reps.und ds vs r
  | ref i =>
    obtain ⟨a, h1, h2⟩ := r
    simp only [D.under, decide_eq_true_eq]
    exact (List.getElem?_eq_some_iff.mp h1).1
  | exc c ds => exact r.elim
  | non => rfl
  | bl _ => rfl
  | int _ => rfl
  | str _ => rfl
theorem Reps.und : ∀ (ds : List D) (vs : List V), Reps G α H ds vs → D.unders α.length ds = true := by
  intro ds vs r
  cases ds with
  | nil => rfl
  | cons d ds =>
    obtain ⟨v, rs, e, h1, h2⟩ := r
    simp only [D.unders, Bool.and_eq_true]
    exact ⟨Rep.und d v h1, Reps.und ds rs h2⟩
end
theorem RepKs.low (h : n ≤ β.length) : ∀ (kvs : List (D × D)) (ks : List (Key × V)), D.unders n (kvs.map (·.2)) = true → RepKs G β H kvs ks → RepKs G (β.take n) H kvs ks := by
  intro kvs
  induction kvs with
  | nil => intro ks _ r; exact r
  | cons p r ih =>
    intro ks u r
    obtain ⟨q, v, s, e, e2, h1, h2⟩ := r
    simp only [List.map_cons, D.unders, Bool.and_eq_true] at u
    exact ⟨q, v, s, e, e2, Rep.low h _ _ u.1 h1, ih _ u.2 h2⟩
theorem RepFs.low (h : n ≤ β.length) : ∀ (kvs : List (Nat × D)) (ks : List (Str × V)), D.unders n (kvs.map (·.2)) = true → RepFs G β H kvs ks → RepFs G (β.take n) H kvs ks := by
  intro kvs
  induction kvs with
  | nil => intro ks _ r; exact r
  | cons p r ih =>
    intro ks u r
    obtain ⟨v, s, e, h1, h2⟩ := r
    simp only [List.map_cons, D.unders, Bool.and_eq_true] at u
    exact ⟨v, s, e, Rep.low h _ _ u.1 h1, ih _ u.2 h2⟩
theorem RepKs.und : ∀ (kvs : List (D × D)) (ks : List (Key × V)), RepKs G α H kvs ks → D.unders α.length (kvs.map (·.1)) = true ∧ D.unders α.length (kvs.map (·.2)) = true := by
  intro kvs
  induction kvs with
  | nil => intro ks _; exact ⟨rfl, rfl⟩
  | cons p r ih =>
    intro ks r
    obtain ⟨q, v, s, e, e2, h1, h2⟩ := r
    simp only [List.map_cons, D.unders, Bool.and_eq_true]
    refine ⟨⟨?_, (ih _ h2).1⟩, Rep.und _ _ h1, (ih _ h2).2⟩
    rw [e2]
    cases q <;> rfl
theorem RepFs.und : ∀ (kvs : List (Nat × D)) (ks : List (Str × V)), RepFs G α H kvs ks → D.unders α.length (kvs.map (·.2)) = true := by
  intro kvs
  induction kvs with
  | nil => intro ks _; rfl
  | cons p r ih =>
    intro ks r
    obtain ⟨v, s, e, h1, h2⟩ := r
    simp only [List.map_cons, D.unders, Bool.and_eq_true]
    exact ⟨Rep.und _ _ h1, ih _ h2⟩
theorem RepO.low (h : n ≤ β.length) : ∀ (o : MO) (ho : HO), o.under n = true → RepO G β H o ho → RepO G (β.take n) H o ho := by
  intro o ho u r
  cases o with
  | lst xs => obtain ⟨vs, e, r⟩ := r; exact ⟨vs, e, Reps.low h _ _ u r⟩
  | dct kvs =>
    obtain ⟨vs, e, r, n⟩ := r
    simp only [MO.under, Bool.and_eq_true] at u
    exact ⟨vs, e, RepKs.low h _ _ u.2 r, n⟩
  | ins c fs => obtain ⟨dx, vs, e, r⟩ := r; exact ⟨dx, vs, e, RepFs.low h _ _ u r⟩
  | frz _ => exact r
theorem RepO.und : ∀ (o : MO) (ho : HO), RepO G α H o ho → o.under α.length = true := by
  intro o ho r
  cases o with
  | lst xs => obtain ⟨vs, e, r⟩ := r; exact Reps.und _ _ r
  | dct kvs =>
    obtain ⟨vs, e, r, n⟩ := r
    simp only [MO.under, Bool.and_eq_true]
    exact RepKs.und _ _ r
  | ins c fs => obtain ⟨dx, vs, e, r⟩ := r; exact RepFs.und _ _ r
  | frz _ => exact r.elim
theorem keepOk_at : ∀ {S S' : St}, keepOk n S S' = true → ∀ i, i < S.length → ∃ o', S'[i]? = some o' ∧ (S[i]? = some o' ∨ o'.under n = true)
  | [], _, _, i, hi => absurd hi (Nat.not_lt_zero _)
  | o :: S, [], h, i, hi => by cases h
  | o :: S, o' :: S', h, i, hi => by
    simp only [keepOk, Bool.and_eq_true, Bool.or_eq_true, decide_eq_true_eq] at h
    cases i with
    | zero =>
      rcases h.1 with q | q
      · exact ⟨o', rfl, .inl (by rw [q]; rfl)⟩
      · exact ⟨o', rfl, .inr q⟩
    | succ i => exact keepOk_at h.2 i (by simpa using hi)
theorem HRel.low {S S' : St} (hr : HRel G α H S) (ex : Ext α H β H') (h : HRel G β H' S') (k : keepOk S.length S S' = true) : β.take S.length = α ∧ HRel G α H' (S'.take S.length) ∧ Ext α H α H' := by
  obtain ⟨⟨x, e1, n1⟩, k1⟩ := ex
  have e2 : β.take S.length = α := by rw [e1, ← hr.len, List.take_left']; rfl
  have hl : S.length ≤ β.length := by rw [e1, List.length_append, hr.len]; omega
  refine ⟨e2, ⟨?_, hr.nd, fun i o a h1 h2 => ?_⟩, ⟨⟨[], by simp, by simp⟩, k1⟩⟩
  · rw [List.length_take, ← h.len, hr.len]; omega
  · have hi : i < S.length := by rw [← hr.len]; exact (List.getElem?_eq_some_iff.mp h2).1
    rw [List.getElem?_take_of_lt hi] at h1
    have h3 : β[i]? = some a := by rw [e1, List.getElem?_append_left (by rw [hr.len]; exact hi)]; exact h2
    obtain ⟨ho, e3, r⟩ := h.at_ i o a h1 h3
    refine ⟨ho, e3, ?_⟩
    rw [← e2]
    refine RepO.low hl _ _ ?_ r
    obtain ⟨o', e4, q⟩ := keepOk_at k i hi
    rw [h1] at e4; cases e4
    rcases q with q | q
    · obtain ⟨ho', _, r'⟩ := hr.at_ i o a q h2
      rw [← hr.len]
      exact RepO.und _ _ r'
    · exact q
/-- the value of a call -/
theorem gc_ok {S S' : St} {d : D} {Q : V → Hp → Prop} {W : WX} {V : L2.St} (hr : HRel G α H S) (h : Out (rD G) G W V α H (.ok d (gc S d S')) Q) : ∀ β H' v, Ext α H β H' → HRel G β H' S' → Rep G β H' d v → Q v H' := by
  intro β H' v ex h1 h2
  simp only [gc] at h
  split at h
  · rename_i c
    simp only [Bool.and_eq_true] at c
    obtain ⟨e2, h3, e3⟩ := hr.low ex h1 c.2
    refine h α H' v e3 h3 ?_
    have hl : S.length ≤ β.length := by
      have := congrArg List.length e2
      rw [List.length_take, hr.len] at this; omega
    have := Rep.low hl _ _ c.1 h2
    rw [e2] at this; exact this
  · exact h β H' v ex h1 h2
theorem gcs_ok {A : Type} {rel : List Addr → Hp → A → V → Prop} {S S' : St} {c : Nat} {ds : List D} {Q : V → Hp → Prop} {W : WX} {V : L2.St} (hr : HRel G α H S) (h : Out rel G W V α H (.exc c ds (gcs S ds S')) Q) : ∀ β H' dd, Ext α H β H' → HRel G β H' S' → XRel G β H' c ds dd → W (.ref (G.xA c)) dd V H' := by
  intro β H' v ex h1 h2
  simp only [gcs] at h
  split at h
  · rename_i cc
    simp only [Bool.and_eq_true] at cc
    obtain ⟨e2, h3, e3⟩ := hr.low ex h1 cc.2
    refine h α H' v e3 h3 ?_
    have hl : S.length ≤ β.length := by
      have := congrArg List.length e2
      rw [List.length_take, hr.len] at this; omega
    obtain ⟨g1, g2⟩ := h2
    refine ⟨g1, ?_⟩
    rcases g2 with g2 | ⟨nn, d, fs, q1, q2, q3, q4⟩
    · exact .inl g2
    · refine .inr ⟨nn, d, fs, q1, q2, q3, fun i f x z1 z2 => ?_⟩
      obtain ⟨u, z3, z4⟩ := q4 i f x z1 z2
      refine ⟨u, z3, ?_⟩
      have un : ∀ {l : List D} {j : Nat} {y : D}, D.unders S.length l = true → l[j]? = some y → y.under S.length = true := by
        intro l
        induction l with
        | nil => intro j y _ e; cases e
        | cons a l ih =>
          intro j y hu e
          simp only [D.unders, Bool.and_eq_true] at hu
          cases j with
          | zero => cases e; exact hu.1
          | succ j => exact ih hu.2 e
      have := Rep.low hl _ _ (un cc.1 z2) z4
      rw [e2] at this; exact this
  · exact h β H' v ex h1 h2
end

/-! ### the start -/
theorem Reps.at' {G : RC} {α : List Addr} {H : Hp} : ∀ {ds : List D} {vs : List V} {i : Nat} {d : D}, Reps G α H ds vs → ds[i]? = some d → ∃ v, vs[i]? = some v ∧ Rep G α H d v := Reps.get
theorem start_ok {G : RC} {α : List Addr} {H : Hp} {ds : List D} {vs : List V} {d : IDef} {N : List Str} (r : Reps G α H ds vs) (hN : N.length = d.sz) : ERel G none α H (startEnv d ds) (L2.start N vs) := by
  have hl := r.len
  refine ⟨by simp [startEnv, L2.start, hl, hN], fun i x h => ?_, fun i a c ds dd e => by cases e⟩
  unfold startEnv at h
  by_cases hi : i < ds.length
  · rw [List.getElem?_append_left (by simpa using hi), List.getElem?_map] at h
    obtain ⟨y, hy⟩ : ∃ y, ds[i]? = some y := ⟨ds[i], List.getElem?_eq_getElem hi⟩
    rw [hy] at h
    cases h
    obtain ⟨v, h1, h2⟩ := Reps.get r hy
    refine ⟨v, ?_, .inl h2⟩
    unfold L2.start
    rw [List.getElem?_append_left (by simpa [← hl] using hi), List.getElem?_map, h1]; rfl
  · rw [List.getElem?_append_right (by simpa using hi), List.getElem?_replicate] at h
    split at h <;> cases h

/-! ### a def -/
structure DT where
  x : Str
  qual : Str
  st : Stmt
  N : List Str
  ps : List Str
def scB (N ps : List Str) (sc : Scope) : Bool := (match sc.kind with
  | .function => true
  | _ => false) && !sc.isCoroutine && !sc.isGenerator && decide N.Nodup && decide (N.take ps.length = ps) && ps.all (fun x => locB sc x) && sc.names.all (fun y => match y.2 with
  | .free => false
  | _ => true)
theorem scB_ok {N ps : List Str} {sc : Scope} (h : scB N ps sc = true) : FnScope N ps sc := by
  simp only [scB, Bool.and_eq_true, Bool.not_eq_true', decide_eq_true_eq, List.all_eq_true] at h
  obtain ⟨⟨⟨⟨⟨⟨h1, h2⟩, h3⟩, h4⟩, h5⟩, h6⟩, h7⟩ := h
  refine ⟨?_, h2, h3, h4, h5, fun x hx => loc_of (h6 x hx), fun y hy => ?_⟩
  · split at h1
    · assumption
    · cases h1
  · have := h7 y hy
    intro e
    rw [e] at this; cases this
def chkDef (ci : CI) (m n : Nat) (d : IDef) (T : DT) : Bool := decide (T.N.length = d.sz) && decide (T.ps.length = d.ar) && scB T.N T.ps (defScope T.st) && chkSs ci T.N true none m n (defScope T.st) (defBody T.st) d.body
/-- what is asked of the program's top -/
structure PF (P : Pg) (ci : CI) (G : RC) (mg : Str → Option Value) (T : Nat → DT) (F : Nat → Addr) (fd : Nat → FuncData) : Prop where
  con : ∀ x d, ci.glob.lookup x = some (.con d) → ∃ u v, mg x = some u ∧ RelV v u ∧ ∀ α H, Rep G α H d v
  blt : ∀ x, ci.blts.contains x = true → mg x = none
  glf : ∀ x i n, ci.glob.lookup x = some (.fn i n) → mg x = some (.ref (F i)) ∧ ∃ d, P.defs[i]? = some d ∧ d.ar = n
  exn : ∀ x i, ci.glob.lookup x = some (.exc i) → mg x = some (.ref (G.xA i)) ∧ i < G.nx
  kit : ∀ c t, c < G.nx → t < G.nx → PySem.W.kitOne G.K (.ref (G.xA c)) (.ref (G.xA t)) = some (P.sub c t)
  xf : ∀ c, c < G.nx → ExF G.K (G.xA c)
  xp : ∀ c, G.xF c = []
  exm : ∀ e c, e < G.nx → c < G.nx → PySem.W.exmOne G.K (.ref (G.xA e)) (.ref (G.xA c)) = some (P.sub e c)
  exc : ∀ c, c < G.nx → ExcC G.K (G.xA c)
  fun_ : ∀ i d, P.defs[i]? = some d → Fun G.K (T i).x (T i).qual (T i).st (F i) (fd i) ∧ Binds G.K (fd i) (T i).ps []
  chk : ∀ i d, P.defs[i]? = some d → ∃ m n, chkDef ci m n d (T i) = true
theorem all_ok {P : Pg} {ci : CI} {G : RC} {mg : Str → Option Value} {T : Nat → DT} {F : Nat → Addr} {fd : Nat → FuncData} (p : PF P ci G mg T F fd) {prog : Program} {w : World} {base : Heap} :
    ∀ k i d, P.defs[i]? = some d → FnOk prog w G.K mg base (L2.CX prog w) k (F i) (fd i) (T i).ps (spM G (callK P k) i (T i).ps.length) := by
  intro k
  induction k with
  | zero =>
    intro i d _
    exact ⟨fun vs H Q E h => h.1, fun A outer s H args us vs Q E _ _ _ _ ⟨_, α, S, ds, _, _, h⟩ => h.elim⟩
  | succ k ih =>
    intro i d hd
    obtain ⟨f, _⟩ := p.fun_ i d hd
    obtain ⟨m, n, hc⟩ := p.chk i d hd
    simp only [chkDef, Bool.and_eq_true, decide_eq_true_eq] at hc
    obtain ⟨⟨⟨c1, c2⟩, c3⟩, c4⟩ := hc
    refine f.okX (scB_ok c3) (fun vs H Q E h => h.1) fun cdv A outer s H vs Q E hr hsp => ?_
    obtain ⟨hl, α, S, ds, h1, h2, ho⟩ := hsp
    obtain ⟨mk, hk⟩ : ∃ mk, callK P (k + 1) = runDef P (callK P k) mk := by
      cases k with
      | zero => exact ⟨_, rfl⟩
      | succ k => exact ⟨_, rfl⟩
    rw [hk] at ho
    have sc : SC P ci (T i).N G (callK P k) mk (fun cls dd _ H => E cls dd H) none none true (defScope (T i).st) (cxOf (L2.CX prog w) prog w G.K mg base (T i).N (T i).qual (defScope (T i).st) (F i) cdv A outer s H E) := {
      ec := {
        ok := ⟨rfl, takes_of rfl rfl rfl rfl, show (A.deeper (envOfC (T i).qual (defScope (T i).st) s.heap.objs.size (F i) cdv)).units + 66 < cLine from by have := hr.un; omega⟩
        nN := rfl
        nd := (scB_ok c3).nd
        scp := rfl
        cm := fun _ => ⟨rfl, rfl⟩
        con := p.con
        blt := p.blt
        fn := fun _ x j n' hj => by
          obtain ⟨g1, d', g2, g3⟩ := p.glf x j n' hj
          obtain ⟨f', b'⟩ := p.fun_ j d' g2
          obtain ⟨m', n'', hc'⟩ := p.chk j d' g2
          simp only [chkDef, Bool.and_eq_true, decide_eq_true_eq] at hc'
          exact ⟨⟨F j, fd j, (T j).ps⟩, k, by rw [hc'.1.1.2, g3], g1, f'.kp, b', ih j d' g2, hr⟩
        exn := p.exn
        kit := p.kit
        isE := fun i a c ds dd e => by cases e }
      fn := fun _ => rfl
      kind := (scB_ok c3).kind
      po := fun _ => passes_of rfl
      st := fun _ => ⟨rfl, rfl⟩
      xf := p.xf
      xp := p.xp
      exm := p.exm
      exc := p.exc }
    refine ⟨_, (chkS_ok (cl := callK P k) (mk := mk) m n).Ss _ _ _ _ _ c4 _ _ _ sc, α, startEnv d ds, S, h1, start_ok h2 c1, ?_⟩
    simp only [runDef, hd] at ho
    have ha : ds.length = d.ar := by rw [h2.len, hl, c2]
    rw [if_pos ha] at ho
    cases q : execSs P (callK P k) mk d.body (startEnv d ds) S with
    | bad => rw [q] at ho; exact ho.elim
    | exc c vs σ S' =>
      rw [q] at ho
      exact fun β H' V' dd ex hr1 _ x1 => gcs_ok h1 ho β H' dd ex hr1 x1
    | fl fl σ S' =>
      rw [q] at ho
      cases fl with
      | nx => exact fun β H' V' ex hr1 _ => gc_ok h1 ho β H' .non ex hr1 rfl
      | ret x => exact fun β H' v ex hr1 rv => gc_ok h1 ho β H' v ex hr1 rv
      | brk => exact ho.elim
      | cont => exact ho.elim
end Mi
/-! # Mi2l: the top and the head. -/
namespace Mi
open PySem PySem.Spec PyProof.Rows L2
open PySem.W (mg_of mg_none_of)
section
variable {K : PySem.W.Frag}
/-! ### what the written part says -/
/-- a value that is never changed -/
def ValD (K : PySem.W.Frag) (u : Value) (d : D) : Prop := ∃ v, RelV v u ∧ ∀ (G : RC), G.K = K → ∀ α H, Rep G α H d v
def ValsD (K : PySem.W.Frag) (us : List Value) (ds : List D) : Prop := ∃ vs, Vals vs us ∧ ∀ (G : RC), G.K = K → ∀ α H, Reps G α H ds vs
theorem val_int {i : Int} {t} : ValD K (.int i t) (.int i) := ⟨.int i, ⟨t, rfl⟩, fun _ _ _ _ => rfl⟩
theorem val_bl {b : Bool} : ValD K (.bool b) (.bl b) := ⟨.bl b, rfl, fun _ _ _ _ => rfl⟩
theorem val_non : ValD K .none .non := ⟨.non, rfl, fun _ _ _ _ => rfl⟩
theorem val_str {s : Str} {t} {l : List Nat} (h : s.cps.toList = l) : ValD K (.str s t) (.str l) := ⟨.str s, ⟨t, rfl⟩, fun _ _ _ _ => by
  subst h
  show V.str s = V.str ⟨s.cps.toList.toArray⟩
  simp⟩
theorem vals_nil : ValsD K [] [] := ⟨[], .nil, fun _ _ _ _ => rfl⟩
theorem vals_cons {u : Value} {us : List Value} {d : D} {ds : List D} (h : ValD K u d) (hs : ValsD K us ds) : ValsD K (u :: us) (d :: ds) := by
  obtain ⟨v, r, q⟩ := h
  obtain ⟨vs, rs, qs⟩ := hs
  exact ⟨v :: vs, .cons r rs, fun G e α H => ⟨v, vs, rfl, q G e α H, qs G e α H⟩⟩
theorem val_tup {a : Addr} {o : Obj} {its : Array Value} {n : Nat} {ds : List D} (l : K.lookup a = some o) (hc : o.cls = .type "tuple") (hd : o.data = .seq its n) (hz : its.size ≤ sizeLine) (h : ValsD K its.toList ds) : ValD K (.ref a) (.tup ds) := by
  obtain ⟨vs, r, q⟩ := h
  exact ⟨.ref a, rfl, fun G e α H => ⟨a, vs, rfl, .inr ⟨o, its, n, by rw [e]; exact l, hc, hd, hz, r⟩, q G e α H⟩⟩
/-- .. by its class, its items -/
theorem val_tup' {a : Addr} {od : Option Addr} {sl : Array (Option Value)} {its : Array Value} {n : Nat} {ds : List D} (l : K.lookup a = some ⟨.type "tuple", od, .seq its n, sl⟩) (hz : its.size ≤ sizeLine) (h : ValsD K its.toList ds) : ValD K (.ref a) (.tup ds) := val_tup l rfl rfl hz h
/-- a global constant -/
def ConAt (K : PySem.W.Frag) (x : Str) (d : D) : Prop := ∃ u, PySem.W.nsIn K mainGlobals x = some (some u) ∧ ValD K u d
theorem con_mk {x : Str} {u : Value} {d : D} (a : PySem.W.nsIn K mainGlobals x = some (some u)) (h : ValD K u d) : ConAt K x d := ⟨u, a, h⟩
theorem con_tup {x : Str} {a : Addr} {od : Option Addr} {sl : Array (Option Value)} {its : Array Value} {n : Nat} {ds : List D} (h1 : PySem.W.nsIn K mainGlobals x = some (some (.ref a))) (l : K.lookup a = some ⟨.type "tuple", od, .seq its n, sl⟩) (hz : its.size ≤ sizeLine) (h : ValsD K its.toList ds) : ConAt K x (.tup ds) := ⟨_, h1, val_tup' l hz h⟩
/-- how arguments bind -/
def BindE (fd : FuncData) (ps : List Str) : Prop := ∀ us : List Value, us.length = ps.length → bindArgs fd ⟨us, []⟩ = pure (ps.zip us)
/-- a def -/
def FnAt (K : PySem.W.Frag) (t : DT) : Prop := ∃ f fd, PySem.W.nsIn K mainGlobals t.x = some (some (.ref f)) ∧ Fun K t.x t.qual t.st f fd ∧ BindE fd t.ps
/-- how the arguments of a def bind -/
def BindOk (t : DT) : Prop := ∀ (kV doc pm : Value) (an : Option Addr) (cdv ct : Value) (us : List Value), us.length = t.ps.length → bindArgs (PySem.W.fnOf t.x t.qual (defArgs t.st) (defBody t.st) (defScope t.st) .none kV doc pm an cdv ct) ⟨us, []⟩ = pure (t.ps.zip us)
theorem fnAt_mk {t : DT} {f : Addr} {oc : Value} {od an : Option Addr} {osl : Array (Option Value)} {kV doc pm cdv ct : Value} (b : BindOk t) (a : PySem.W.nsIn K mainGlobals t.x = some (some (.ref f)))
    (l : K.lookup f = some ⟨oc, od, .func (PySem.W.fnOf t.x t.qual (defArgs t.st) (defBody t.st) (defScope t.st) .none kV doc pm an cdv ct), osl⟩) (c : PySem.W.codeIn K cdv t.qual = true) (k : PySem.W.keepIn K (.ref f) = true) : FnAt K t :=
  let F := fun_mk (st := t.st) l c k
  ⟨f, _, a, F, b kV doc pm an cdv ct⟩
/-- an exception class -/
structure XAt (K : PySem.W.Frag) (x : Str) (C : Addr) : Prop where
  ns : PySem.W.nsIn K mainGlobals x = some (some (.ref C))
  f : ExF K C
  c : ExcC K C
theorem xat_mk {x : Str} {C : Addr} {B newId initId : String} {bmB : List Value} (F : ExcBaseFacts B newId initId bmB) (ns : PySem.W.nsIn K mainGlobals x = some (some (.ref C))) (q : PySem.W.excIn K C bmB newId = true) (k : PySem.W.keepIn K (.ref C) = true)
    (s : PySem.W.subIn K (.ref C) (.type "BaseException") = some true) (t : PySem.W.typeIn K (.ref C) = some (.type "type"))
    (hg : PySem.W.findIn K (.ref C) "__getattribute__" = some (some (.builtin "BaseException.__getattribute__"))) (hk : PySem.W.findIn K (.ref C) "__getattr__" = some none) (hd : PySem.W.hasDictIn K C = true)
    (ha : PySem.W.findIn K (.ref C) "__class__" = some (some (.builtin "object.__class__"))) (hn : PySem.W.specialIn K (.builtin "object.__class__") "__get__" = some (some (.builtin "getset_descriptor.__get__")))
    (ht : PySem.W.takesIn K (.builtin "object.__class__") = some true) (hm : PySem.W.mroIn K C (.type "object") = some true) : XAt K x C :=
  ⟨ns, ⟨⟨B, newId, initId, bmB, F, q⟩, k, s, t⟩, hg, hk, s, hd, ha, hn, ht, hm⟩
theorem xat_exm {x y : Str} {A B : Addr} {b : Bool} (hB : XAt K y B) (h : PySem.W.subIn K (.ref A) (.ref B) = some b) : PySem.W.exmOne K (.ref A) (.ref B) = some b := PySem.W.exm_ref hB.c.hs hB.c.hd hB.f.2.2.2 h
theorem xat_kit {y : Str} {A B : Addr} {b : Bool} (hB : XAt K y B) (h : PySem.W.subIn K (.ref A) (.ref B) = some b) (hr : A = B → b = true) : PySem.W.kitOne K (.ref A) (.ref B) = some b := by
  obtain ⟨cd, hc, _⟩ := PySem.W.any_some hB.c.hd
  unfold PySem.W.kitOne
  by_cases e : A = B
  · subst e
    rw [hr rfl, if_pos (by simp)]
  · rw [if_neg (by simpa using e)]
    show (if ((PySem.W.clsIn K B).isSome && PySem.W.typeIn K (.ref B) == some (.type "type")) = true then PySem.W.subIn K (.ref A) (.ref B) else none) = some b
    rw [if_pos (by rw [hc, hB.f.2.2.2] <;> rfl)]
    exact h
end

/-! ### from the top's facts to the defs' promises -/
/-- the tables of a program -/
structure Tab where
  P : Pg
  ci : CI
  fns : List DT
  excs : List Str
  m : Nat
/-- what the checker says of the tables -/
def Tab.chk (T : Tab) : Bool :=
  decide (T.fns.length = T.P.defs.length) && (T.P.defs.zip T.fns).all (fun p => chkDef T.ci T.m T.m p.1 p.2) &&
  T.ci.glob.all (fun p => match p.2 with
    | .fn i n => (match T.fns[i]?, T.P.defs[i]? with
      | some t, some d => t.x == p.1 && d.ar == n
      | _, _ => false)
    | .exc i => (match T.excs[i]? with
      | some y => y == p.1
      | _ => false)
    | .con _ => true) &&
  (List.range T.excs.length).all (fun i => T.P.sub i i)
theorem mem_lookup {α β : Type} [BEq α] [LawfulBEq α] {x : α} {b : β} : ∀ {l : List (α × β)}, l.lookup x = some b → (x, b) ∈ l
  | [], h => by cases h
  | (y, c) :: l, h => by
    rw [List.lookup_cons] at h
    by_cases e : x = y
    · subst e; simp at h; subst h; exact List.mem_cons_self
    · have : (x == y) = false := by simpa using e
      rw [this] at h
      exact List.mem_cons_of_mem _ (mem_lookup h)
/-- what the written part must say -/
structure TopK (K : PySem.W.Frag) (T : Tab) (xs : List Addr) : Prop where
  fns : ∀ t ∈ T.fns, FnAt K t
  cons : ∀ p ∈ T.ci.glob, ∀ d, p.2 = .con d → ConAt K p.1 d
  blts : ∀ x ∈ T.ci.blts, PySem.W.nsIn K mainGlobals x = some none
  xlen : xs.length = T.excs.length
  excs : ∀ (i : Nat) (x : Str) (C : Addr), T.excs[i]? = some x → xs[i]? = some C → XAt K x C
  subs : ∀ (i j : Nat) (A B : Addr), xs[i]? = some A → xs[j]? = some B → PySem.W.subIn K (.ref A) (.ref B) = some (T.P.sub i j)
def gOf (K : PySem.W.Frag) (xs : List Addr) : RC := ⟨K, fun _ => 0, fun _ => "", fun i => xs.getD i 0, fun _ => [], xs.length⟩
def dt0 : DT := ⟨"", "", .Pass ⟨0, 0, 0, 0⟩, [], []⟩
theorem top_ok {K : PySem.W.Frag} {T : Tab} {xs : List Addr} (k : TopK K T xs) (c : T.chk = true) {h : Heap} {mg : Str → Option Value} (KX : K.In h) (ns : h.Ns mainGlobals mg) {prog : Program} {w : World} {base : Heap} (n i : Nat) {t : DT} (ht : T.fns[i]? = some t) {fa : Addr} (hf : mg t.x = some (.ref fa)) :
    ∃ fd : FuncData, BindE fd t.ps ∧ ∀ base : Heap, FnOk prog w K mg base (L2.CX prog w) n fa fd t.ps (spM (gOf K xs) (callK T.P n) i t.ps.length) := by
  simp only [Tab.chk, Bool.and_eq_true, decide_eq_true_eq, List.all_eq_true] at c
  obtain ⟨⟨⟨c1, c2⟩, c3⟩, c4⟩ := c
  -- the defs' places
  have hex : ∀ j : Nat, ∃ q : Addr × FuncData, ∀ t, T.fns[j]? = some t → PySem.W.nsIn K mainGlobals t.x = some (some (.ref q.1)) ∧ Fun K t.x t.qual t.st q.1 q.2 ∧ BindE q.2 t.ps := by
    intro j
    cases e : T.fns[j]? with
    | some t =>
      obtain ⟨f, fd, h1, h2, h3⟩ := k.fns t (List.mem_of_getElem? e)
      exact ⟨(f, fd), fun t' e' => by cases e'; exact ⟨h1, h2, h3⟩⟩
    | none =>
      obtain ⟨f, fd, _⟩ := k.fns t (List.mem_of_getElem? ht)
      exact ⟨(f, fd), fun t' e' => by cases e'⟩
  obtain ⟨q, hq⟩ := Classical.axiomOfChoice hex
  have hT : ∀ (j : Nat) (d : IDef), T.P.defs[j]? = some d → ∃ t, T.fns[j]? = some t ∧ chkDef T.ci T.m T.m d t = true := by
    intro j d hd
    obtain ⟨hl, e⟩ := List.getElem?_eq_some_iff.mp hd
    have hl2 : j < T.fns.length := by rw [c1]; exact hl
    refine ⟨T.fns[j], List.getElem?_eq_getElem hl2, ?_⟩
    refine c2 (d, T.fns[j]) (List.mem_iff_getElem.mpr ⟨j, by rw [List.length_zip]; omega, ?_⟩)
    rw [List.getElem_zip, e]
  have gT : ∀ {j : Nat} {t : DT}, T.fns[j]? = some t → T.fns.getD j dt0 = t := fun e => by rw [List.getD_eq_getElem?_getD, e]; rfl
  have gx : ∀ i : Nat, i < xs.length → ∃ (x : Str) (C : Addr), T.excs[i]? = some x ∧ xs[i]? = some C ∧ (gOf K xs).xA i = C := fun i hi => by
    have h2 : i < T.excs.length := by rw [← k.xlen]; exact hi
    refine ⟨T.excs[i], xs[i], List.getElem?_eq_getElem h2, List.getElem?_eq_getElem hi, ?_⟩
    show xs.getD i 0 = _
    rw [List.getD_eq_getElem?_getD, List.getElem?_eq_getElem hi]; rfl
  have p : PF T.P T.ci (gOf K xs) mg (fun j => T.fns.getD j dt0) (fun j => (q j).1) (fun j => (q j).2) := {
    con := fun x d e => by
      obtain ⟨u, h1, v, r, h2⟩ := k.cons _ (mem_lookup e) d rfl
      exact ⟨u, v, mg_of KX ns h1, r, fun α H => h2 _ rfl α H⟩
    blt := fun x e => mg_none_of KX ns (k.blts x (by simpa using e))
    glf := fun x j n e => by
      have := c3 _ (mem_lookup e)
      simp only at this
      split at this
      · rename_i t d e1 e2
        simp only [Bool.and_eq_true, beq_iff_eq] at this
        obtain ⟨rfl, rfl⟩ := this
        exact ⟨mg_of KX ns (hq j t e1).1, d, e2, rfl⟩
      · cases this
    exn := fun x j e => by
      have := c3 _ (mem_lookup e)
      simp only at this
      split at this
      · rename_i y e1
        simp only [beq_iff_eq] at this
        subst this
        have hj : j < xs.length := by rw [k.xlen]; exact (List.getElem?_eq_some_iff.mp e1).1
        obtain ⟨x, C, h1, h2, h3⟩ := gx j hj
        rw [e1] at h1; cases h1
        exact ⟨by rw [h3]; exact mg_of KX ns (k.excs _ _ _ e1 h2).ns, hj⟩
      · cases this
    kit := fun a b ha hb => by
      obtain ⟨x1, A, h1, h2, h3⟩ := gx a ha
      obtain ⟨x2, B, h4, h5, h6⟩ := gx b hb
      rw [h3, h6]
      refine xat_kit (k.excs _ _ _ h4 h5) (k.subs _ _ _ _ h2 h5) fun e => ?_
      subst e
      have e1 := k.subs _ _ _ _ h2 h2
      have e2 := k.subs _ _ _ _ h2 h5
      rw [e1] at e2
      rw [← Option.some.inj e2]
      exact c4 a (by rw [List.mem_range, ← k.xlen]; exact ha)
    xf := fun a ha => by
      obtain ⟨x1, A, h1, h2, h3⟩ := gx a ha
      rw [h3]; exact (k.excs _ _ _ h1 h2).f
    xp := fun _ => rfl
    exm := fun a b ha hb => by
      obtain ⟨x1, A, h1, h2, h3⟩ := gx a ha
      obtain ⟨x2, B, h4, h5, h6⟩ := gx b hb
      rw [h3, h6]
      exact xat_exm (x := x1) (k.excs _ _ _ h4 h5) (k.subs _ _ _ _ h2 h5)
    exc := fun a ha => by
      obtain ⟨x1, A, h1, h2, h3⟩ := gx a ha
      rw [h3]; exact (k.excs _ _ _ h1 h2).c
    fun_ := fun j d hd => by
      obtain ⟨t, e, _⟩ := hT j d hd
      rw [gT e]
      exact ⟨(hq j t e).2.1, .all (hq j t e).2.2⟩
    chk := fun j d hd => by
      obtain ⟨t, e, h⟩ := hT j d hd
      rw [gT e]
      exact ⟨_, _, h⟩ }
  obtain ⟨h1, h2, h3⟩ := hq i t ht
  have e := hf.symm.trans (mg_of KX ns h1)
  cases e
  refine ⟨(q i).2, h3, fun base => ?_⟩
  have hi : i < T.P.defs.length := by rw [← c1]; exact (List.getElem?_eq_some_iff.mp ht).1
  have := all_ok p (prog := prog) (w := w) (base := base) n i _ (List.getElem?_eq_getElem hi)
  simp only [gT ht] at this
  exact this

/-! ### the lists -/
theorem all_nil {α : Type} {Q : α → Prop} : ∀ t ∈ ([] : List α), Q t := fun t h => by cases h
theorem all_cons {α : Type} {Q : α → Prop} {a : α} {l : List α} (h : Q a) (hs : ∀ t ∈ l, Q t) : ∀ t ∈ a :: l, Q t := fun t ht => by
  rcases List.mem_cons.mp ht with rfl | ht
  · exact h
  · exact hs t ht
def XAll (K : PySem.W.Frag) : List Str → List Addr → Prop
  | x :: ys, C :: Cs => XAt K x C ∧ XAll K ys Cs
  | _, _ => True
theorem XAll.at_ {K : PySem.W.Frag} : ∀ {ys : List Str} {Cs : List Addr}, XAll K ys Cs → ∀ (i : Nat) (x : Str) (C : Addr), ys[i]? = some x → Cs[i]? = some C → XAt K x C
  | [], _, _, i, _, _, e, _ => by simp at e
  | _ :: _, [], _, i, _, _, _, e => by simp at e
  | y :: ys, D :: Cs, h, 0, x, C, e1, e2 => by simp at e1 e2; subst e1 e2; exact h.1
  | y :: ys, D :: Cs, h, i + 1, x, C, e1, e2 => XAll.at_ h.2 i x C (by simpa using e1) (by simpa using e2)
def SubRow (K : PySem.W.Frag) (P : Pg) (i : Nat) (A : Addr) : Nat → List Addr → Prop
  | _, [] => True
  | j, B :: Bs => PySem.W.subIn K (.ref A) (.ref B) = some (P.sub i j) ∧ SubRow K P i A (j + 1) Bs
def SubAll (K : PySem.W.Frag) (P : Pg) (xs : List Addr) : Nat → List Addr → Prop
  | _, [] => True
  | i, A :: As => SubRow K P i A 0 xs ∧ SubAll K P xs (i + 1) As
theorem SubRow.at_ {K : PySem.W.Frag} {P : Pg} {i : Nat} {A : Addr} : ∀ {Bs : List Addr} {j : Nat}, SubRow K P i A j Bs → ∀ (n : Nat) (B : Addr), Bs[n]? = some B → PySem.W.subIn K (.ref A) (.ref B) = some (P.sub i (j + n))
  | [], _, _, _, _, e => by simp at e
  | B :: Bs, j, h, 0, _, e => by simp at e; subst e; exact h.1
  | B :: Bs, j, h, n + 1, C, e => by
    have := SubRow.at_ h.2 n C (by simpa using e)
    rw [show j + (n + 1) = j + 1 + n by omega]; exact this
theorem SubAll.at_ {K : PySem.W.Frag} {P : Pg} {xs : List Addr} : ∀ {As : List Addr} {i : Nat}, SubAll K P xs i As → ∀ (n j : Nat) (A B : Addr), As[n]? = some A → xs[j]? = some B → PySem.W.subIn K (.ref A) (.ref B) = some (P.sub (i + n) j)
  | [], _, _, _, _, _, _, e, _ => by simp at e
  | A :: As, i, h, 0, j, _, B, e, e2 => by
    simp at e; subst e
    have := SubRow.at_ h.1 j B e2
    rw [Nat.zero_add] at this; exact this
  | A :: As, i, h, n + 1, j, C, B, e, e2 => by
    have := SubAll.at_ h.2 n j C B (by simpa using e) e2
    rw [show i + (n + 1) = i + 1 + n by omega]; exact this
theorem topK_mk {K : PySem.W.Frag} {T : Tab} {xs : List Addr} (hx : XAll K T.excs xs) (hl : xs.length = T.excs.length) (hs : SubAll K T.P xs 0 xs) (hf : ∀ t ∈ T.fns, FnAt K t) (hc : ∀ p ∈ T.ci.glob, match p.2 with
    | .con d => ConAt K p.1 d
    | _ => True) (hb : ∀ x ∈ T.ci.blts, PySem.W.nsIn K mainGlobals x = some none) : TopK K T xs where
  fns := hf
  cons := fun p hp d e => by
    have := hc p hp
    rw [e] at this; exact this
  blts := hb
  xlen := hl
  excs := hx.at_
  subs := fun i j A B h1 h2 => by
    have := hs.at_ i j A B h1 h2
    rw [Nat.zero_add] at this; exact this

/-! ### the head -/
theorem walk {l : PySem.W.OpenLaw} {q : Program} {loose : List Str} {XP : (Str → Option Value) → Heap → Prop} {YP : World → Heap → Prop} {d : DefRec} {K : Params → PySem.W.Frag} {T : Tab} {xs : List Addr} {n k i : Nat} {t : DT}
    (hn : l.most = some n) (hn2 : n ≤ sizeLine) (hdf : d.params.defaults = []) (hr : Room k callerA)
    (hY : ∀ (w : World) (h : Heap), YP w h → (K w.params).In h) (hc : T.chk = true) (ht : T.fns[i]? = some t) (hps : t.ps = [("script" : Str)]) (hx : d.name = t.x)
    (hK : ∀ w : World, TopK (K w.params) T xs)
    (law : ∀ ns : List Int, ns.length ≤ n → ∃ S, callK T.P k i [.frz (ns.map .int)] [] = .ok (.bl true) S) :
    PySem.W.WalkO q loose XP YP l.row.toRowW d [] (fun f vs => PySem.call f vs) := by
  refine L2.walk_of (n := n) (k := k) (x := "script") (CX := fun w => L2.CX l.prog w) (sp := fun w => spM (gOf (K w.params) xs) (callK T.P k) i 1) hn hn2 hdf hr hY (fun w mg fa h KX ns hmg => ?_) (fun w H a ns hl hO hS => ?_) (fun w H s e s' hx => ?_)
  · rw [hx] at hmg
    obtain ⟨fd, hb, hF⟩ := top_ok (hK w) hc KX ns (prog := l.prog) (w := w) (base := h) k i ht hmg
    rw [hps] at hb hF
    exact ⟨fd, fun s u => .of_eq (hb [u] rfl), fun base _ _ => hF base⟩
  · obtain ⟨S, hS'⟩ := law ns hl
    refine ⟨rfl, [], [], [.frz (ns.map .int)], ⟨rfl, List.nodup_nil, fun i o a e => by cases e⟩, ⟨.ref a, [], rfl, ⟨a, ns.map V.int, rfl, ?_, ?_⟩, rfl⟩, ?_⟩
    · rcases hS with (h | h) | h
      · rcases hO a with z | ⟨o, u, z⟩
        · rw [z] at h; cases h
        · rw [z] at h; cases h
      · exact .inl h
      · exact .inr h
    · clear hS' hl hS
      induction ns with
      | nil => rfl
      | cons n ns ih => exact ⟨_, _, rfl, rfl, ih⟩
    · rw [hS']
      exact fun β H' v _ _ r => r
  · obtain ⟨_, _, _, _, _, _, _, _, _, _, _, _, z⟩ := hx
    exact z
end Mi
/-! # Mi3: reasoning about the small Python. -/
namespace Mi.Ev
open PySem
/-! ### calls -/
def mkK (P : Pg) : Nat → Cl
  | 0 => noCl
  | k + 1 => callK P k
theorem callK_eq (P : Pg) (k : Nat) : callK P (k + 1) = runDef P (callK P k) (mkK P k) := by cases k <;> rfl
/-- a call's end -/
def fin (S : St) : RS → R D
  | .fl (.ret x) _ S' => .ok x (gc S x S')
  | .fl .nx _ S' => .ok .non (gc S .non S')
  | .exc c vs _ S' => .exc c vs (gcs S vs S')
  | _ => .bad
theorem call_eq {P : Pg} {k f : Nat} {d : IDef} {as : List D} {S : St} (hd : P.defs[f]? = some d) (ha : as.length = d.ar) : callK P (k + 1) f as S = fin S (execSs P (callK P k) (mkK P k) d.body (startEnv d as) S) := by
  rw [callK_eq]
  simp only [runDef, hd, if_pos ha]
  cases execSs P (callK P k) (mkK P k) d.body (startEnv d as) S with
  | fl f σ S => cases f <;> rfl
  | exc c vs σ S => rfl
  | bad => rfl
theorem gc_len {S S' : St} {d : D} (h : S'.length = S.length) : gc S d S' = S' := by
  unfold gc
  split
  · rw [← h, List.take_length]
  · rfl
theorem gc_same {S : St} {d : D} : gc S d S = S := gc_len rfl
theorem keepOk_app (n : Nat) : ∀ (S X : St), keepOk n S (S ++ X) = true
  | [], _ => rfl
  | o :: S, X => by simp [keepOk, keepOk_app n S X]
theorem gc_app {S X : St} {d : D} (h : D.under S.length d = true) : gc S d (S ++ X) = S := by
  unfold gc
  rw [h, keepOk_app]
  simp
theorem gcs_same {S : St} {ds : List D} : gcs S ds S = S := by
  unfold gcs
  split
  · rw [List.take_length]
  · rfl
/-! ### values -/
theorem toPy_int {S : St} {i : Int} : toPy S (.int i) = some (.int i) := rfl
theorem toPy_bl {S : St} {b : Bool} : toPy S (.bl b) = some (.bool b) := rfl
theorem toPy_non {S : St} : toPy S .non = some .none := rfl
/-- signs that are signs -/
def okS (s : List Nat) : Bool := s.all (· < 0x110000)
theorem strOk_of {s : List Nat} (h : okS s = true) : PyData.strOk ⟨s.toArray⟩ = true := by
  unfold PyData.strOk
  rw [← h]
  unfold okS
  simp
theorem toPy_str {S : St} {s : List Nat} (h : okS s = true) : toPy S (.str s) = some (.str ⟨s.toArray⟩) := by
  have : SeqAt.shaped (.str ⟨s.toArray⟩) = true := by
    unfold SeqAt.shaped
    rw [Bool.and_eq_true]
    exact ⟨strOk_of h, rfl⟩
  unfold toPy
  simp only [D.py, Option.bind_some]
  rw [if_pos this]
theorem eqD_int {S : St} {a b : Int} : eqD S (.int a) (.int b) = some (decide (a = b)) := by
  simp only [eqD, toPy_int, PyData.eqv, Option.bind_some, Option.map_some]
  rfl
theorem eqD_str {S : St} {a b : List Nat} (ha : okS a = true) (hb : okS b = true) : eqD S (.str a) (.str b) = some (decide (a = b)) := by
  simp only [eqD, toPy_str ha, toPy_str hb, PyData.eqv, Option.bind_some, Option.map_some]
  congr 1
  by_cases h : a = b
  · subst h; simp
  · rw [decide_eq_false h]
    simp only [beq_eq_false_iff_ne, ne_eq]
    intro e
    apply h
    simpa using e
theorem eqD_bl {S : St} {a b : Bool} : eqD S (.bl a) (.bl b) = some (a == b) := by
  simp only [eqD, toPy_bl, PyData.eqv, Option.bind_some, Option.map_some]
theorem eqD_strInt {S : St} {a : List Nat} {b : Int} (ha : okS a = true) : eqD S (.str a) (.int b) = some false := by
  simp only [eqD, toPy_int, toPy_str ha, PyData.eqv, Option.bind_some, Option.map_some]
theorem log_le {a : Nat} {n : Nat} (h : a < 2 ^ (n + 1)) : a.log2 ≤ n := by
  by_cases z : a = 0
  · subst z; simp
  · have := (Nat.log2_lt z).mpr h
    omega
theorem mulOk_of {a b : Int} (ha : a.natAbs < 2 ^ 4000) (hb : b.natAbs < 2 ^ 4000) : mulOk a b = true := by
  have h1 := log_le (n := 3999) ha
  have h2 := log_le (n := 3999) hb
  unfold mulOk
  rw [decide_eq_true_eq]
  show _ < 1000000
  omega
theorem divOk_of {b : Int} (h : b ≠ 0) (hb : b.natAbs < 2 ^ 4000) : divOk b = true := by
  have h2 := log_le (n := 3999) hb
  unfold divOk
  simp only [Bool.and_eq_true, decide_eq_true_eq]
  exact ⟨h, by omega⟩
/-! ### the draws -/
def dDraws : IDef := ⟨1, 1, [(.ret (.lst [(.bi .list (.loc 0)), (.con (.int 0)), (.con (.int 0)), (.con (.int 1))]))]⟩
def dDraw : IDef := ⟨2, 4, [(.ife (.and_ (.cmp .eq (.ix (.loc 0) (.con (.int 2))) (.con (.int 0))) (.cmp .lt (.ix (.loc 0) (.con (.int 1))) (.bi .len (.ix (.loc 0) (.con (.int 0)))))) [(.asg (.name 2) (.ix (.ix (.loc 0) (.con (.int 0))) (.ix (.loc 0) (.con (.int 1))))),
  (.asg (.sub (.loc 0) (.con (.int 1))) (.bin .add (.ix (.loc 0) (.con (.int 1))) (.con (.int 1)))),
  (.ife (.cmp .ge (.loc 2) (.bin .pow (.con (.int 10)) (.con (.int 18)))) [(.asg (.sub (.loc 0) (.con (.int 2))) (.loc 2))] []),
  (.asg (.sub (.loc 0) (.con (.int 3))) (.bin .mod (.bi .int (.bin .add (.bin .add (.bin .mul (.ix (.loc 0) (.con (.int 3))) (.con (.int 48271))) (.loc 2)) (.con (.int 13)))) (.con (.int 2147483647))))] []),
  (.ife (.cmp .gt (.ix (.loc 0) (.con (.int 2))) (.con (.int 0))) [(.asg (.name 3) (.bin .mod (.bi .int (.ix (.loc 0) (.con (.int 2)))) (.loc 1))),
  (.asg (.sub (.loc 0) (.con (.int 2))) (.bin .fdiv (.ix (.loc 0) (.con (.int 2))) (.loc 1))),
  (.ret (.loc 3))] []),
  (.asg (.sub (.loc 0) (.con (.int 3))) (.bin .mod (.bi .int (.bin .add (.bin .mul (.ix (.loc 0) (.con (.int 3))) (.con (.int 69621))) (.con (.int 7)))) (.con (.int 2147483629)))),
  (.ret (.bin .mod (.bi .int (.bin .fdiv (.ix (.loc 0) (.con (.int 3))) (.con (.int 11)))) (.loc 1)))]⟩
/-- the store with the draws: the script's copy, the draws, the rest -/
def dst (ns : List Int) (p c s : Int) (T : St) : St := .lst (ns.map .int) :: .lst [.ref 0, .int p, .int c, .int s] :: T
structure DOk (ns : List Int) (p c s : Int) : Prop where
  p0 : 0 ≤ p
  c0 : 0 ≤ c
  s0 : 0 ≤ s
  s1 : s < 2147483647
theorem atI_nat {α : Type} {xs : List α} {i : Int} (h0 : 0 ≤ i) (h1 : i < xs.length) : atI xs i = xs[i.toNat]? := by
  have hl : i.toNat < xs.length := by omega
  unfold atI L2.atI L2.ixN
  rw [if_pos h0, if_pos h1]; rfl
theorem draw_ok {P : Pg} {k f : Nat} {ns : List Int} {p c s lim : Int} {T : St} (hP : P.defs[f]? = some dDraw) (h : DOk ns p c s) (hl : 0 < lim) (hl2 : lim.natAbs < 2 ^ 4000) :
    ∃ v p' c' s', callK P (k + 1) f [.ref 1, .int lim] (dst ns p c s T) = .ok (.int v) (dst ns p' c' s' T) ∧ 0 ≤ v ∧ v < lim ∧ DOk ns p' c' s' := by
  have e18 : powOk 10 18 = true := by decide
  have e18' : (10 : Int) ^ (18 : Int).toNat = 1000000000000000000 := by decide
  have m1 : ∀ s : Int, 0 ≤ s → s < 2147483647 → mulOk s 48271 = true := fun s h1 h2 => mulOk_of (Nat.lt_of_lt_of_le (show s.natAbs < 2 ^ 31 by omega) (Nat.pow_le_pow_right (by decide) (by decide))) (Nat.lt_of_lt_of_le (show (48271 : Int).natAbs < 2 ^ 31 by decide) (Nat.pow_le_pow_right (by decide) (by decide)))
  have m2 : ∀ s : Int, 0 ≤ s → s < 2147483647 → mulOk s 69621 = true := fun s h1 h2 => mulOk_of (Nat.lt_of_lt_of_le (show s.natAbs < 2 ^ 31 by omega) (Nat.pow_le_pow_right (by decide) (by decide))) (Nat.lt_of_lt_of_le (show (69621 : Int).natAbs < 2 ^ 31 by decide) (Nat.pow_le_pow_right (by decide) (by decide)))
  have d1 : divOk lim = true := divOk_of (by omega) hl2
  have d2 : divOk 11 = true := by decide
  have f1 : ∀ z : Int, 0 ≤ z.fmod 2147483647 ∧ z.fmod 2147483647 < 2147483647 := fun z => ⟨Int.fmod_nonneg_of_pos _ (by decide), Int.fmod_lt_of_pos _ (by decide)⟩
  have f2 : ∀ z : Int, 0 ≤ z.fmod 2147483629 ∧ z.fmod 2147483629 < 2147483647 := fun z => ⟨Int.fmod_nonneg_of_pos _ (by decide), Int.lt_trans (Int.fmod_lt_of_pos _ (by decide)) (by decide)⟩
  have f3 : ∀ z : Int, 0 ≤ z.fmod lim ∧ z.fmod lim < lim := fun z => ⟨Int.fmod_nonneg_of_pos _ hl, Int.fmod_lt_of_pos _ hl⟩
  -- the second half
  have half : ∀ (p c s : Int) (w : Option D), DOk ns p c s → ∃ v p' c' s' w2 w3, execSs P (callK P k) (mkK P k) (dDraw.body.drop 1) [some (.ref 1), some (.int lim), w, none] (dst ns p c s T) = .fl (.ret (.int v)) [some (.ref 1), some (.int lim), w2, w3] (dst ns p' c' s' T) ∧ 0 ≤ v ∧ v < lim ∧ DOk ns p' c' s' := by
    intro p c s w h
    by_cases hc : 0 < c
    · refine ⟨c.fmod lim, p, c.fdiv lim, s, w, some (.int (c.fmod lim)), ?_, (f3 _).1, (f3 _).2, h.p0, Int.fdiv_nonneg h.c0 (by omega), h.s0, h.s1⟩
      simp [dDraw, dst, execSs, execS, evT, evalT, evalE, evalEs, evalTs, store, stores, setV, truthR, truth, bl, cmpR, cmpV, op2, biV, ixV, pureO, alloc, itV, itemsOf, listOf, still, hc, eqD_int, atI, L2.atI, L2.ixN, d1, show lim ≠ 0 by omega]
    · refine ⟨((s * 69621 + 7).fmod 2147483629 |>.fdiv 11).fmod lim, p, c, (s * 69621 + 7).fmod 2147483629, w, none, ?_, (f3 _).1, (f3 _).2, h.p0, h.c0, (f2 _).1, (f2 _).2⟩
      simp [dDraw, dst, execSs, execS, evT, evalT, evalE, evalEs, evalTs, store, stores, setV, truthR, truth, bl, cmpR, cmpV, op2, biV, ixV, pureO, alloc, itV, itemsOf, listOf, still, hc, eqD_int, atI, L2.atI, L2.ixN, d1, d2, show lim ≠ 0 by omega, m2 s h.s0 h.s1]
  have whole : ∃ v p' c' s' w2 w3, execSs P (callK P k) (mkK P k) dDraw.body (startEnv dDraw [.ref 1, .int lim]) (dst ns p c s T) = .fl (.ret (.int v)) [some (.ref 1), some (.int lim), w2, w3] (dst ns p' c' s' T) ∧ 0 ≤ v ∧ v < lim ∧ DOk ns p' c' s' := by
    rw [show dDraw.body = dDraw.body.head (by decide) :: dDraw.body.drop 1 from rfl, show startEnv dDraw [.ref 1, .int lim] = [some (.ref 1), some (.int lim), none, none] from rfl]
    rw [execSs]
    by_cases h1 : c = 0 ∧ p < ns.length
    · obtain ⟨rfl, h2⟩ := h1
      have hl3 : p.toNat < ns.length := by have := h.p0; omega
      have hget : (List.map D.int ns)[p.toNat]? = some (.int ns[p.toNat]) := by rw [List.getElem?_map, List.getElem?_eq_getElem hl3]; rfl
      have ha : ∀ xs : List D, xs.length = ns.length → L2.atI xs p = xs[p.toNat]? := fun xs e => atI_nat h.p0 (by rw [e]; exact h2)
      by_cases h3 : 1000000000000000000 ≤ ns[p.toNat]
      · obtain ⟨v, p', c', s', w2, w3, e, r⟩ := half (p + 1) ns[p.toNat] ((s * 48271 + ns[p.toNat] + 13).fmod 2147483647) (some (.int ns[p.toNat])) ⟨by have := h.p0; omega, by omega, (f1 _).1, (f1 _).2⟩
        refine ⟨v, p', c', s', w2, w3, ?_, r⟩
        rw [← e]
        simp [dDraw, dst, execSs, execS, evT, evalT, evalE, evalEs, evalTs, store, stores, setV, truthR, truth, bl, cmpR, cmpV, op2, biV, ixV, pureO, alloc, itV, itemsOf, listOf, still, eqD_int, atI, ha, L2.atI, L2.ixN, m1 s h.s0 h.s1, h2, hget, h3, e18, e18', h.p0, hl3]
      · obtain ⟨v, p', c', s', w2, w3, e, r⟩ := half (p + 1) 0 ((s * 48271 + ns[p.toNat] + 13).fmod 2147483647) (some (.int ns[p.toNat])) ⟨by have := h.p0; omega, by omega, (f1 _).1, (f1 _).2⟩
        refine ⟨v, p', c', s', w2, w3, ?_, r⟩
        rw [← e]
        simp [dDraw, dst, execSs, execS, evT, evalT, evalE, evalEs, evalTs, store, stores, setV, truthR, truth, bl, cmpR, cmpV, op2, biV, ixV, pureO, alloc, itV, itemsOf, listOf, still, eqD_int, atI, ha, L2.atI, L2.ixN, m1 s h.s0 h.s1, h2, hget, h3, e18, e18', h.p0, hl3]
    · obtain ⟨v, p', c', s', w2, w3, e, r⟩ := half p c s none h
      refine ⟨v, p', c', s', w2, w3, ?_, r⟩
      rw [← e]
      by_cases hc : c = 0
      · subst hc
        have h2 : ¬ p < ns.length := fun z => h1 ⟨rfl, z⟩
        simp [dDraw, dst, execSs, execS, evT, evalT, evalE, evalEs, evalTs, store, stores, setV, truthR, truth, bl, cmpR, cmpV, op2, biV, ixV, pureO, alloc, itV, itemsOf, listOf, still, eqD_int, atI, L2.atI, L2.ixN, h2]
      · simp [dDraw, dst, execSs, execS, evT, evalT, evalE, evalEs, evalTs, store, stores, setV, truthR, truth, bl, cmpR, cmpV, op2, biV, ixV, pureO, alloc, itV, itemsOf, listOf, still, eqD_int, atI, L2.atI, L2.ixN, hc]
  obtain ⟨v, p', c', s', w2, w3, e, r⟩ := whole
  refine ⟨v, p', c', s', ?_, r⟩
  rw [call_eq hP rfl, e]
  show R.ok _ (gc _ _ _) = _
  rw [gc_len (by simp [dst])]

theorem draws_ok {P : Pg} {k f : Nat} {ns : List Int} (hP : P.defs[f]? = some dDraws) : callK P (k + 1) f [.frz (ns.map .int)] [] = .ok (.ref 1) (dst ns 0 0 1 []) := by
  rw [call_eq hP rfl]
  simp [dDraws, startEnv, execSs, execS, evT, evalT, evalE, evalEs, evalTs, store, stores, setV, truthR, truth, bl, cmpR, cmpV, op2, biV, ixV, pureO, alloc, itV, itemsOf, listOf, still, fin, gc, D.under, dst, line]
theorem DOk.start {ns : List Int} : DOk ns 0 0 1 := ⟨by decide, by decide, by decide, by decide⟩
def dPick (f : Nat) : IDef := ⟨2, 2, [(.ret (.ix (.loc 1) (.call f [(.loc 0), (.bi .len (.loc 1))])))]⟩
theorem dst_at {ns : List Int} {p c s : Int} {T : St} {j : Nat} : (dst ns p c s T)[j + 2]? = T[j]? := rfl
theorem pick_ok {P : Pg} {k f g j : Nat} {ns : List Int} {p c s : Int} {T : St} {xs : List D} (hP : P.defs[g]? = some (dPick f)) (hD : P.defs[f]? = some dDraw) (h : DOk ns p c s) (hT : T[j]? = some (.lst xs)) (hx : xs ≠ []) (hl : xs.length < 1000000) :
    ∃ d ∈ xs, ∃ p' c' s', callK P (k + 2) g [.ref 1, .ref (j + 2)] (dst ns p c s T) = .ok d (dst ns p' c' s' T) ∧ DOk ns p' c' s' := by
  have hpos : 0 < xs.length := by cases xs with
    | nil => exact absurd rfl hx
    | cons a l => simp
  obtain ⟨v, p', c', s', e, h0, h1, h2⟩ := draw_ok (k := k) (T := T) (lim := (xs.length : Int)) hD h (by omega) (Nat.lt_of_lt_of_le (show ((xs.length : Int)).natAbs < 2 ^ 31 by omega) (Nat.pow_le_pow_right (by decide) (by decide)))
  have hv : v.toNat < xs.length := by omega
  refine ⟨xs[v.toNat], List.getElem_mem hv, p', c', s', ?_, h2⟩
  have hat : L2.atI xs v = some xs[v.toNat] := by
    have := atI_nat (xs := xs) h0 h1
    unfold atI at this
    rw [this, List.getElem?_eq_getElem hv]
  rw [call_eq hP rfl]
  simp [dPick, startEnv, execSs, execS, evT, evalT, evalE, evalEs, evalTs, store, stores, setV, truthR, truth, bl, cmpR, cmpV, op2, biV, ixV, pureO, alloc, itV, itemsOf, listOf, still, dst_at, hT, e, atI, hat, fin]
  exact gc_len (by simp [dst])

/-! ### the greatest common measure -/
def gcdI (a b : Int) : Int := (Nat.gcd a.natAbs b.natAbs : Nat)
def eu : Nat → Int → Int → Int × Int
  | 0, x, y => (x, y)
  | n + 1, x, y => if 0 < y then eu n y (x.fmod y) else eu n x y
theorem eu_zero : ∀ (n : Nat) (x : Int), eu n x 0 = (x, 0)
  | 0, _ => rfl
  | n + 1, x => by
    rw [eu, if_neg (by decide)]; exact eu_zero n x
theorem fmod_nat {x y : Int} (hx : 0 ≤ x) (hy : 0 ≤ y) : x.fmod y = ((x.natAbs % y.natAbs : Nat) : Int) := by
  obtain ⟨a, rfl⟩ := Int.eq_ofNat_of_zero_le hx
  obtain ⟨b, rfl⟩ := Int.eq_ofNat_of_zero_le hy
  rw [Int.fmod_eq_emod_of_nonneg _ hy]
  simp
theorem gcd_step {x y : Int} (hx : 0 ≤ x) (hy : 0 < y) : gcdI y (x.fmod y) = gcdI x y := by
  unfold gcdI
  rw [fmod_nat hx (by omega)]
  congr 1
  rw [Int.natAbs_natCast, Nat.gcd_comm x.natAbs, Nat.gcd_comm y.natAbs, ← Nat.gcd_rec]
theorem half_step {a b : Nat} (hb : 0 < b) (h : 0 < a % b) : 2 * (b % (a % b)) < b := by
  have h1 : a % b < b := Nat.mod_lt _ hb
  have h2 : b % (a % b) < a % b := Nat.mod_lt _ h
  have h3 := Nat.div_add_mod b (a % b)
  have h4 : 1 ≤ b / (a % b) := (Nat.one_le_div_iff h).mpr (by omega)
  have h5 : a % b ≤ (a % b) * (b / (a % b)) := Nat.le_mul_of_pos_right _ (by omega)
  omega
theorem eu_ok : ∀ (n m : Nat) (x y : Int), 0 ≤ x → 0 ≤ y → y.natAbs < 2 ^ n → eu (2 * n + m) x y = (gcdI x y, 0) := by
  intro n
  induction n with
  | zero =>
    intro m x y hx hy h
    have : y = 0 := by simp at h; omega
    subst this
    rw [eu_zero]
    simp [gcdI, Int.natAbs_of_nonneg hx]
  | succ n ih =>
    intro m x y hx hy h
    by_cases y0 : y = 0
    · subst y0; rw [eu_zero]; simp [gcdI, Int.natAbs_of_nonneg hx]
    · have yp : 0 < y := by omega
      rw [show 2 * (n + 1) + m = (2 * n + m + 1) + 1 by omega, eu, if_pos yp, eu]
      have hr := fmod_nat hx hy
      by_cases r0 : 0 < x.fmod y
      · rw [if_pos r0, ih m _ _ (by omega) (Int.fmod_nonneg_of_pos _ r0) ?_, gcd_step (by omega) r0, gcd_step hx yp]
        rw [fmod_nat hy (by omega), Int.natAbs_natCast, hr, Int.natAbs_natCast]
        have := half_step (a := x.natAbs) (b := y.natAbs) (by omega) (by omega)
        rw [Nat.pow_succ] at h
        omega
      · have z : x.fmod y = 0 := by have := Int.fmod_nonneg_of_pos x yp; omega
        rw [if_neg r0, z, eu_zero, ← gcd_step hx yp, z]
        simp [gcdI, Int.natAbs_of_nonneg hy]
end Mi.Ev
namespace Mi.Ev
open PySem
theorem abs_eq (i : Int) : (if i < 0 then -i else i) = (i.natAbs : Int) := by
  split <;> omega
theorem gcdI_abs (a b : Int) : gcdI (a.natAbs : Int) (b.natAbs : Int) = gcdI a b := by
  simp [gcdI]
theorem still_none {xs : List D} {S : St} : still xs none S = true := rfl
def dPart : IDef := ⟨2, 3, [(.par [0, 1] [(.bi .abs (.loc 0)), (.bi .abs (.loc 1))]),
  (.for_ .range1 [(.con (.int 2000))] (.name 2) [(.ife (.cmp .gt (.loc 1) (.con (.int 0))) [(.par [0, 1] [(.loc 1), (.bin .mod (.loc 0) (.loc 1))])] [])]),
  (.ret (.loc 0))]⟩
def partB : List IS := [(.ife (.cmp .gt (.loc 1) (.con (.int 0))) [(.par [0, 1] [(.loc 1), (.bin .mod (.loc 0) (.loc 1))])] [])]
theorem part_loop {P : Pg} {cl mk : Cl} {xs : List D} {S : St} : ∀ (ds : List D) (x y : Int) (w : Option D), 0 ≤ y → ∃ w', forL xs none (fun d σ S => (store P cl mk (.name 2) d σ S).bindS σ fun σ S => execSs P cl mk partB σ S) ds [some (.int x), some (.int y), w] S =
    .fl .nx [some (.int (eu ds.length x y).1), some (.int (eu ds.length x y).2), w'] S := by
  intro ds
  induction ds with
  | nil => intro x y w _; exact ⟨w, rfl⟩
  | cons d ds ih =>
    intro x y w hy
    by_cases h : 0 < y
    · obtain ⟨w', e⟩ := ih y (x.fmod y) (some d) (Int.fmod_nonneg_of_pos _ h)
      refine ⟨w', ?_⟩
      rw [List.length_cons, eu, if_pos h, ← e, forL, if_pos still_none]
      simp [partB, execSs, execS, evT, evalT, evalE, evalEs, evalTs, store, stores, setV, truthR, truth, bl, cmpR, cmpV, op2, biV, ixV, pureO, alloc, itV, itemsOf, listOf, still, setAll, h, show y ≠ 0 by omega]
    · obtain ⟨w', e⟩ := ih x y (some d) hy
      refine ⟨w', ?_⟩
      rw [List.length_cons, eu, if_neg h, ← e, forL, if_pos still_none]
      simp [partB, execSs, execS, evT, evalT, evalE, evalEs, evalTs, store, stores, setV, truthR, truth, bl, cmpR, cmpV, op2, biV, ixV, pureO, alloc, itV, itemsOf, listOf, still, setAll, h]
theorem part_ok {P : Pg} {k f : Nat} {a b : Int} {S : St} (hP : P.defs[f]? = some dPart) (hb : b.natAbs < 2 ^ 1000) : callK P (k + 1) f [.int a, .int b] S = .ok (.int (gcdI a b)) S := by
  rw [call_eq hP rfl]
  have hr : itV .range1 [.int 2000] S = some ((List.range 2000).map fun i => .int (i : Nat), none) := rfl
  obtain ⟨w', e⟩ := part_loop (P := P) (cl := callK P k) (mk := mkK P k) (xs := (List.range 2000).map fun i => .int (i : Nat)) (S := S) ((List.range 2000).map fun i => .int (i : Nat)) (a.natAbs : Int) (b.natAbs : Int) none (by omega)
  have e2 := eu_ok 1000 0 (a.natAbs : Int) (b.natAbs : Int) (by omega) (by omega) (by simpa using hb)
  rw [List.length_map, List.length_range, show eu 2000 = eu (2 * 1000 + 0) from rfl, e2, gcdI_abs] at e
  have h1 : execS P (callK P k) (mkK P k) (.par [0, 1] [(.bi .abs (.loc 0)), (.bi .abs (.loc 1))]) (startEnv dPart [.int a, .int b]) S = .fl .nx [some (.int a.natAbs), some (.int b.natAbs), none] S := by
    simp [dPart, startEnv, execSs, execS, evT, evalT, evalE, evalEs, evalTs, store, stores, setV, truthR, truth, bl, cmpR, cmpV, op2, biV, ixV, pureO, alloc, itV, itemsOf, listOf, still, setAll, abs_eq]
  have h2 : execS P (callK P k) (mkK P k) (.for_ .range1 [(.con (.int 2000))] (.name 2) partB) [some (.int a.natAbs), some (.int b.natAbs), none] S = .fl .nx [some (.int (gcdI a b)), some (.int 0), w'] S := by
    rw [← e]
    simp only [execS, evalEs, evalE, R.bind, R.bindS, hr]
  have h3 : execSs P (callK P k) (mkK P k) dPart.body (startEnv dPart [.int a, .int b]) S = .fl (.ret (.int (gcdI a b))) [some (.int (gcdI a b)), some (.int 0), w'] S := by
    show execSs P (callK P k) (mkK P k) [.par [0, 1] [(.bi .abs (.loc 0)), (.bi .abs (.loc 1))], .for_ .range1 [(.con (.int 2000))] (.name 2) partB, .ret (.loc 0)] _ S = _
    rw [execSs, h1]
    simp only
    rw [execSs, h2]
    simp [execSs, execS, evT, evalT, evalE, evalEs, evalTs, store, stores, setV, truthR, truth, bl, cmpR, cmpV, op2, biV, ixV, pureO, alloc, itV, itemsOf, listOf, still]
  rw [h3]
  show R.ok _ (gc _ _ _) = _
  rw [gc_same]
def dCommon : IDef := ⟨2, 2, [(.par [0, 1] [(.bi .abs (.loc 0)), (.bi .abs (.loc 1))]),
  (.whl (.cmp .gt (.loc 1) (.con (.int 0))) [(.par [0, 1] [(.loc 1), (.bin .mod (.loc 0) (.loc 1))])]),
  (.ret (.loc 0))]⟩
theorem eu_neg : ∀ (n : Nat) (x y : Int), ¬ 0 < y → eu n x y = (x, y)
  | 0, _, _, _ => rfl
  | n + 1, x, y, h => by rw [eu, if_neg h]; exact eu_neg n x y h
theorem common_loop {P : Pg} {cl mk : Cl} {S : St} : ∀ (n : Nat) (x y g : Int), eu n x y = (g, 0) → whileL (evT P cl mk (.cmp .gt (.loc 1) (.con (.int 0)))) (fun σ S => execSs P cl mk [(.par [0, 1] [(.loc 1), (.bin .mod (.loc 0) (.loc 1))])] σ S) (n + 1) [some (.int x), some (.int y)] S = .fl .nx [some (.int g), some (.int 0)] S := by
  intro n
  induction n with
  | zero =>
    intro x y g h
    cases h
    rw [whileL]
    simp [execSs, execS, evT, evalT, evalE, evalEs, evalTs, store, stores, setV, truthR, truth, bl, cmpR, cmpV, op2, biV, ixV, pureO, alloc, itV, itemsOf, listOf, still]
  | succ n ih =>
    intro x y g h
    by_cases hy : 0 < y
    · rw [eu, if_pos hy] at h
      rw [← ih y (x.fmod y) g h, whileL]
      simp [execSs, execS, evT, evalT, evalE, evalEs, evalTs, store, stores, setV, truthR, truth, bl, cmpR, cmpV, op2, biV, ixV, pureO, alloc, itV, itemsOf, listOf, still, setAll, hy, show y ≠ 0 by omega]
    · rw [eu_neg _ _ _ hy] at h
      cases h
      rw [whileL]
      simp [execSs, execS, evT, evalT, evalE, evalEs, evalTs, store, stores, setV, truthR, truth, bl, cmpR, cmpV, op2, biV, ixV, pureO, alloc, itV, itemsOf, listOf, still]
theorem common_ok {P : Pg} {k f : Nat} {a b : Int} {S : St} (hP : P.defs[f]? = some dCommon) (hF : P.fuel = 3000) (hb : b.natAbs < 2 ^ 1400) : callK P (k + 1) f [.int a, .int b] S = .ok (.int (gcdI a b)) S := by
  rw [call_eq hP rfl]
  have e2 := eu_ok 1400 199 (a.natAbs : Int) (b.natAbs : Int) (by omega) (by omega) (by simpa using hb)
  rw [gcdI_abs] at e2
  have e := common_loop (P := P) (cl := callK P k) (mk := mkK P k) (S := S) _ _ _ _ e2
  have h1 : execS P (callK P k) (mkK P k) (.par [0, 1] [(.bi .abs (.loc 0)), (.bi .abs (.loc 1))]) (startEnv dCommon [.int a, .int b]) S = .fl .nx [some (.int a.natAbs), some (.int b.natAbs)] S := by
    simp [dCommon, startEnv, execSs, execS, evT, evalT, evalE, evalEs, evalTs, store, stores, setV, truthR, truth, bl, cmpR, cmpV, op2, biV, ixV, pureO, alloc, itV, itemsOf, listOf, still, setAll, abs_eq]
  have h2 : execS P (callK P k) (mkK P k) (.whl (.cmp .gt (.loc 1) (.con (.int 0))) [(.par [0, 1] [(.loc 1), (.bin .mod (.loc 0) (.loc 1))])]) [some (.int a.natAbs), some (.int b.natAbs)] S = .fl .nx [some (.int (gcdI a b)), some (.int 0)] S := by
    rw [← e]
    simp only [execS, hF]
  have h3 : execSs P (callK P k) (mkK P k) dCommon.body (startEnv dCommon [.int a, .int b]) S = .fl (.ret (.int (gcdI a b))) [some (.int (gcdI a b)), some (.int 0)] S := by
    show execSs P (callK P k) (mkK P k) [.par [0, 1] [(.bi .abs (.loc 0)), (.bi .abs (.loc 1))], .whl (.cmp .gt (.loc 1) (.con (.int 0))) [(.par [0, 1] [(.loc 1), (.bin .mod (.loc 0) (.loc 1))])], .ret (.loc 0)] _ S = _
    rw [execSs, h1]
    simp only
    rw [execSs, h2]
    simp [execSs, execS, evT, evalT, evalE, evalEs, evalTs, store, stores, setV, truthR, truth, bl, cmpR, cmpV, op2, biV, ixV, pureO, alloc, itV, itemsOf, listOf, still]
  rw [h3]
  show R.ok _ (gc _ _ _) = _
  rw [gc_same]
end Mi.Ev
namespace Mi.Ev
open PySem
/-! ### fractions -/
def most : Int := 115792089237316195423570985008687907853269984665640564039457584007913129639936
def wErr : D := .str [101, 114, 114, 111, 114]
def wNum : D := .str [110, 117, 109]
def errV (w : List Nat) : D := .tup [wErr, .str w]
def vZero : D := errV [122, 101, 114, 111]
def vBig : D := errV [98, 105, 103]
def sg (b : Int) : Int := if 0 < b then 1 else -1
def numQ (a b : Int) : Int := a.fdiv (gcdI a b * sg b)
def numP (a b : Int) : Int := b.fdiv (gcdI a b * sg b)
def big (q p : Int) : Bool := decide (most ≤ (q.natAbs : Int)) || decide (most ≤ p)
def numV (a b : Int) : D := if b = 0 then vZero else if big (numQ a b) (numP a b) then vBig else .tup [wNum, .int (numQ a b), .int (numP a b)]
theorem gcd_pos {a b : Int} (h : b ≠ 0) : 0 < gcdI a b := by
  unfold gcdI
  have := Nat.gcd_pos_of_pos_right a.natAbs (n := b.natAbs) (by omega)
  omega
theorem gcd_dvd {a b : Int} : gcdI a b ∣ a ∧ gcdI a b ∣ b := by
  unfold gcdI
  exact ⟨Int.ofNat_dvd_left.mpr (Nat.gcd_dvd_left _ _), Int.ofNat_dvd_left.mpr (Nat.gcd_dvd_right _ _)⟩
theorem gcd_le {a b : Int} (h : b ≠ 0) : (gcdI a b).natAbs ≤ b.natAbs := by
  unfold gcdI
  rw [Int.natAbs_natCast]
  exact Nat.gcd_le_right _ (by omega)
/-- both parts by the measure -/
theorem num_split {a b : Int} (h : b ≠ 0) : ∃ u v, a = gcdI a b * u ∧ b = gcdI a b * v ∧ v ≠ 0 ∧ numQ a b = u * sg b ∧ numP a b = v.natAbs ∧ (0 < v ↔ 0 < b) := by
  obtain ⟨⟨u, hu⟩, ⟨v, hv⟩⟩ := gcd_dvd (a := a) (b := b)
  have g0 := gcd_pos (a := a) h
  have hv0 : v ≠ 0 := by rintro rfl; rw [Int.mul_zero] at hv; exact h hv
  have hs : 0 < v ↔ 0 < b := by
    constructor
    · intro z; rw [hv]; exact Int.mul_pos g0 z
    · intro z
      rcases Int.lt_trichotomy v 0 with y | y | y
      · have := Int.mul_neg_of_pos_of_neg g0 y; omega
      · exact absurd y hv0
      · exact y
  refine ⟨u, v, hu, hv, hv0, ?_, ?_, hs⟩
  · unfold numQ sg
    generalize gcdI a b = g at *
    subst hu
    split
    · rw [Int.mul_one, Int.mul_one, Int.mul_fdiv_cancel_left _ (by omega)]
    · rw [show g * -1 = -g by omega, show g * u = -g * -u by rw [Int.neg_mul_neg], Int.mul_fdiv_cancel_left _ (by omega)]; omega
  · unfold numP sg
    have : ∀ s : Int, b.fdiv (gcdI a b * s) = (gcdI a b * v).fdiv (gcdI a b * s) := fun s => by rw [← hv]
    rw [this]
    generalize hg : gcdI a b = g at *
    split
    · rename_i hb
      rw [Int.mul_one, Int.mul_fdiv_cancel_left _ (by omega)]
      have := hs.mpr hb; omega
    · rename_i hb
      rw [show g * -1 = -g by omega, show g * v = -g * -v by rw [Int.neg_mul_neg], Int.mul_fdiv_cancel_left _ (by omega)]
      have : ¬ 0 < v := fun z => hb (hs.mp z)
      omega
def dError : IDef := ⟨1, 1, [(.ret (.tup [(.con (.str [101, 114, 114, 111, 114])), (.loc 0)]))]⟩
theorem error_ok {P : Pg} {k f : Nat} {w : List Nat} {S : St} (hP : P.defs[f]? = some dError) : callK P (k + 1) f [.str w] S = .ok (errV w) S := by
  rw [call_eq hP rfl]
  simp [dError, startEnv, execSs, execS, evT, evalT, evalE, evalEs, evalTs, store, stores, setV, truthR, truth, bl, cmpR, cmpV, op2, biV, ixV, pureO, alloc, itV, itemsOf, listOf, still, fin, gc_same, errV, wErr, line]
def dNumber (fe fc : Nat) : IDef := ⟨2, 3, [(.ife (.cmp .eq (.loc 1) (.con (.int 0))) [(.ret (.call fe [(.con (.str [122, 101, 114, 111]))]))] []),
  (.asg (.name 2) (.call fc [(.loc 0), (.loc 1)])),
  (.par [0, 1] [(.bin .fdiv (.loc 0) (.loc 2)), (.bin .fdiv (.loc 1) (.loc 2))]),
  (.ife (.cmp .lt (.loc 1) (.con (.int 0))) [(.par [0, 1] [(.neg (.loc 0)), (.neg (.loc 1))])] []),
  (.ife (.or_ (.cmp .ge (.bi .abs (.loc 0)) (.con (.int 115792089237316195423570985008687907853269984665640564039457584007913129639936))) (.cmp .ge (.loc 1) (.con (.int 115792089237316195423570985008687907853269984665640564039457584007913129639936)))) [(.ret (.call fe [(.con (.str [98, 105, 103]))]))] []),
  (.ret (.tup [(.con (.str [110, 117, 109])), (.loc 0), (.loc 1)]))]⟩
theorem number_ok {P : Pg} {k f fe fc : Nat} {a b : Int} {S : St} (hP : P.defs[f]? = some (dNumber fe fc)) (hE : P.defs[fe]? = some dError) (hC : P.defs[fc]? = some dCommon) (hF : P.fuel = 3000) (hb : b.natAbs < 2 ^ 1400) : callK P (k + 2) f [.int a, .int b] S = .ok (numV a b) S := by
  rw [call_eq hP rfl]
  by_cases h0 : b = 0
  · subst h0
    simp [dNumber, startEnv, execSs, execS, evT, evalT, evalE, evalEs, evalTs, store, stores, setV, truthR, truth, bl, cmpR, cmpV, op2, biV, ixV, pureO, alloc, itV, itemsOf, listOf, still, fin, gc_same, eqD_int, error_ok hE, numV, vZero]
  · obtain ⟨u, v, hu, hv, v0, hq, hp, hs⟩ := num_split (a := a) h0
    have g0 := gcd_pos (a := a) h0
    have hg : divOk (gcdI a b) = true := divOk_of (by omega) (Nat.lt_of_le_of_lt (gcd_le h0) (Nat.lt_of_lt_of_le hb (Nat.pow_le_pow_right (by decide) (by decide))))
    have e1 : a.fdiv (gcdI a b) = u := by
      have : ∀ g : Int, a.fdiv g = (gcdI a b * u).fdiv g := fun g => by rw [← hu]
      rw [this, Int.mul_fdiv_cancel_left _ (by omega)]
    have e2 : b.fdiv (gcdI a b) = v := by
      have : ∀ g : Int, b.fdiv g = (gcdI a b * v).fdiv g := fun g => by rw [← hv]
      rw [this, Int.mul_fdiv_cancel_left _ (by omega)]
    have hcom := common_ok (k := k) (a := a) (S := S) hC hF hb
    have hv2 : numV a b = if big (u * sg b) v.natAbs then vBig else .tup [wNum, .int (u * sg b), .int v.natAbs] := by
      unfold numV; rw [if_neg h0, hq, hp]
    rw [hv2]
    by_cases hn : v < 0
    · have hsg : sg b = -1 := by unfold sg; rw [if_neg]; rw [← hs]; omega
      rw [hsg, show u * -1 = -u by omega, show ((v.natAbs : Nat) : Int) = -v by omega]
      by_cases hbig : big (-u) (-v) = true
      · have hbig2 := hbig
        simp only [big, Bool.or_eq_true, decide_eq_true_eq] at hbig2
        rw [if_pos hbig]
        by_cases hb1 : most ≤ ((-u).natAbs : Int)
        · have hb1' := hb1
          rw [← abs_eq] at hb1'
          simp only [most] at hb1'
          try simp at hb1'
          simp [dNumber, startEnv, execSs, execS, evT, evalT, evalE, evalEs, evalTs, store, stores, setV, truthR, truth, bl, cmpR, cmpV, op2, biV, ixV, pureO, alloc, itV, itemsOf, listOf, still, fin, gc_same, eqD_int, error_ok hE, setAll, h0, hcom, hg, e1, e2, hn, hb1', vBig]
        · have hb2 := hbig2.resolve_left hb1
          have hb1' := hb1
          rw [← abs_eq] at hb1'
          simp only [most] at hb1' hb2
          simp at hb1'
          have hb1' := Int.not_le.mpr hb1'
          simp [dNumber, startEnv, execSs, execS, evT, evalT, evalE, evalEs, evalTs, store, stores, setV, truthR, truth, bl, cmpR, cmpV, op2, biV, ixV, pureO, alloc, itV, itemsOf, listOf, still, fin, gc_same, eqD_int, error_ok hE, setAll, h0, hcom, hg, e1, e2, hn, hb1', hb2, vBig]
      · rw [if_neg hbig]
        simp only [big, Bool.or_eq_true, decide_eq_true_eq, not_or] at hbig
        obtain ⟨hb1, hb2⟩ := hbig
        rw [← abs_eq] at hb1
        simp only [most] at hb1 hb2
        have hb1 := hb1
        simp at hb1
        have hb1 := Int.not_le.mpr hb1
        simp [dNumber, startEnv, execSs, execS, evT, evalT, evalE, evalEs, evalTs, store, stores, setV, truthR, truth, bl, cmpR, cmpV, op2, biV, ixV, pureO, alloc, itV, itemsOf, listOf, still, fin, gc_same, eqD_int, error_ok hE, setAll, h0, hcom, hg, e1, e2, hn, hb1, hb2, wNum, line]
    · have hsg : sg b = 1 := by unfold sg; rw [if_pos]; rw [← hs]; omega
      rw [hsg, Int.mul_one, show ((v.natAbs : Nat) : Int) = v by omega]
      by_cases hbig : big u v = true
      · have hbig2 := hbig
        simp only [big, Bool.or_eq_true, decide_eq_true_eq] at hbig2
        rw [if_pos hbig]
        by_cases hb1 : most ≤ (u.natAbs : Int)
        · have hb1' := hb1
          rw [← abs_eq] at hb1'
          simp only [most] at hb1'
          try simp at hb1'
          simp [dNumber, startEnv, execSs, execS, evT, evalT, evalE, evalEs, evalTs, store, stores, setV, truthR, truth, bl, cmpR, cmpV, op2, biV, ixV, pureO, alloc, itV, itemsOf, listOf, still, fin, gc_same, eqD_int, error_ok hE, setAll, h0, hcom, hg, e1, e2, hn, hb1', vBig]
        · have hb2 := hbig2.resolve_left hb1
          have hb1' := hb1
          rw [← abs_eq] at hb1'
          simp only [most] at hb1' hb2
          simp at hb1'
          have hb1' := Int.not_le.mpr hb1'
          simp [dNumber, startEnv, execSs, execS, evT, evalT, evalE, evalEs, evalTs, store, stores, setV, truthR, truth, bl, cmpR, cmpV, op2, biV, ixV, pureO, alloc, itV, itemsOf, listOf, still, fin, gc_same, eqD_int, error_ok hE, setAll, h0, hcom, hg, e1, e2, hn, hb1', hb2, vBig]
      · rw [if_neg hbig]
        simp only [big, Bool.or_eq_true, decide_eq_true_eq, not_or] at hbig
        obtain ⟨hb1, hb2⟩ := hbig
        rw [← abs_eq] at hb1
        simp only [most] at hb1 hb2
        have hb1 := hb1
        simp at hb1
        have hb1 := Int.not_le.mpr hb1
        simp [dNumber, startEnv, execSs, execS, evT, evalT, evalE, evalEs, evalTs, store, stores, setV, truthR, truth, bl, cmpR, cmpV, op2, biV, ixV, pureO, alloc, itV, itemsOf, listOf, still, fin, gc_same, eqD_int, error_ok hE, setAll, h0, hcom, hg, e1, e2, hn, hb1, hb2, wNum, line]
def dLNumber (fp : Nat) : IDef := ⟨2, 4, [(.ife (.cmp .eq (.loc 1) (.con (.int 0))) [(.ret (.tup [(.con (.str [101, 114, 114, 111, 114])), (.con (.str [122, 101, 114, 111]))]))] []),
  (.asg (.name 2) (.bin .mul (.call fp [(.loc 0), (.loc 1)]) (.ife (.cmp .gt (.loc 1) (.con (.int 0))) (.con (.int 1)) (.neg (.con (.int 1)))))),
  (.par [0, 1] [(.bin .fdiv (.loc 0) (.loc 2)), (.bin .fdiv (.loc 1) (.loc 2))]),
  (.asg (.name 3) (.con (.int 115792089237316195423570985008687907853269984665640564039457584007913129639936))),
  (.ret (.ife (.or_ (.cmp .ge (.bi .abs (.loc 0)) (.loc 3)) (.cmp .ge (.loc 1) (.loc 3))) (.tup [(.con (.str [101, 114, 114, 111, 114])), (.con (.str [98, 105, 103]))]) (.tup [(.con (.str [110, 117, 109])), (.loc 0), (.loc 1)])))]⟩
theorem lnumber_ok {P : Pg} {k f fp : Nat} {a b : Int} {S : St} (hP : P.defs[f]? = some (dLNumber fp)) (hC : P.defs[fp]? = some dPart) (hb : b.natAbs < 2 ^ 1000) : callK P (k + 2) f [.int a, .int b] S = .ok (numV a b) S := by
  rw [call_eq hP rfl]
  by_cases h0 : b = 0
  · subst h0
    simp [dLNumber, startEnv, execSs, execS, evT, evalT, evalE, evalEs, evalTs, store, stores, setV, truthR, truth, bl, cmpR, cmpV, op2, biV, ixV, pureO, alloc, itV, itemsOf, listOf, still, fin, gc_same, eqD_int, numV, vZero, errV, wErr, line]
  · have g0 := gcd_pos (a := a) h0
    have hgl : (gcdI a b).natAbs < 2 ^ 4000 := Nat.lt_of_le_of_lt (gcd_le h0) (Nat.lt_of_lt_of_le hb (Nat.pow_le_pow_right (by decide) (by decide)))
    have hs1 : sg b = 1 ∨ sg b = -1 := by unfold sg; split <;> simp
    have s1 : (sg b).natAbs = 1 := by rcases hs1 with e | e <;> rw [e] <;> rfl
    have hm : mulOk (gcdI a b) (sg b) = true := mulOk_of hgl (by rw [s1]; exact Nat.one_lt_two_pow (by decide))
    have hne : gcdI a b * sg b ≠ 0 := by rcases hs1 with e | e <;> rw [e] <;> omega
    have hg : divOk (gcdI a b * sg b) = true := divOk_of hne (by rw [Int.natAbs_mul, s1, Nat.mul_one]; exact hgl)
    have hcom := part_ok (k := k) (a := a) (S := S) hC hb
    have hv2 : numV a b = if big (numQ a b) (numP a b) then vBig else .tup [wNum, .int (numQ a b), .int (numP a b)] := by
      unfold numV; rw [if_neg h0]
    rw [hv2]
    have q1 : a.fdiv (gcdI a b * sg b) = numQ a b := rfl
    have q2 : b.fdiv (gcdI a b * sg b) = numP a b := rfl
    have es : (if 0 < b then (R.ok (D.int 1) S) else (R.ok (D.int (-1)) S)) = R.ok (D.int (sg b)) S := by unfold sg; split <;> rfl
    have tail : ∀ (A B : Int), execSs P (callK P (k + 1)) (mkK P (k + 1)) ((dLNumber fp).body.drop 3) [some (.int A), some (.int B), some (.int (gcdI a b * sg b)), none] S = .fl (.ret (if big A B then vBig else .tup [wNum, .int A, .int B])) [some (.int A), some (.int B), some (.int (gcdI a b * sg b)), some (.int most)] S := by
      intro A B
      by_cases hbig : big A B = true
      · have hbig2 := hbig
        simp only [big, Bool.or_eq_true, decide_eq_true_eq] at hbig2
        rw [if_pos hbig]
        by_cases hb1 : most ≤ (A.natAbs : Int)
        · have hb1' := hb1
          rw [← abs_eq] at hb1'
          simp only [most] at hb1'
          try simp at hb1'
          simp [dLNumber, execSs, execS, evT, evalT, evalE, evalEs, evalTs, store, stores, setV, truthR, truth, bl, cmpR, cmpV, op2, biV, ixV, pureO, alloc, itV, itemsOf, listOf, still, hb1', vBig, errV, wErr, line, most]
        · have hb2 := hbig2.resolve_left hb1
          have hb1' := hb1
          rw [← abs_eq] at hb1'
          simp only [most] at hb1' hb2
          simp at hb1'
          have hb1' := Int.not_le.mpr hb1'
          simp [dLNumber, execSs, execS, evT, evalT, evalE, evalEs, evalTs, store, stores, setV, truthR, truth, bl, cmpR, cmpV, op2, biV, ixV, pureO, alloc, itV, itemsOf, listOf, still, hb1', hb2, vBig, errV, wErr, line, most]
      · rw [if_neg hbig]
        simp only [big, Bool.or_eq_true, decide_eq_true_eq, not_or] at hbig
        obtain ⟨hb1, hb2⟩ := hbig
        rw [← abs_eq] at hb1
        simp only [most] at hb1 hb2
        have hb1 := hb1
        simp at hb1
        have hb1 := Int.not_le.mpr hb1
        simp [dLNumber, execSs, execS, evT, evalT, evalE, evalEs, evalTs, store, stores, setV, truthR, truth, bl, cmpR, cmpV, op2, biV, ixV, pureO, alloc, itV, itemsOf, listOf, still, hb1, hb2, wNum, line, most]
    have whole : execSs P (callK P (k + 1)) (mkK P (k + 1)) (dLNumber fp).body (startEnv (dLNumber fp) [.int a, .int b]) S = execSs P (callK P (k + 1)) (mkK P (k + 1)) ((dLNumber fp).body.drop 3) [some (.int (numQ a b)), some (.int (numP a b)), some (.int (gcdI a b * sg b)), none] S := by
      have t1 : execS P (callK P (k + 1)) (mkK P (k + 1)) (.ife (.cmp .eq (.loc 1) (.con (.int 0))) [(.ret (.tup [(.con (.str [101, 114, 114, 111, 114])), (.con (.str [122, 101, 114, 111]))]))] []) (startEnv (dLNumber fp) [.int a, .int b]) S = .fl .nx [some (.int a), some (.int b), none, none] S := by
        simp [dLNumber, startEnv, execSs, execS, evT, evalT, evalE, evalEs, evalTs, store, stores, setV, truthR, truth, bl, cmpR, cmpV, op2, biV, ixV, pureO, alloc, itV, itemsOf, listOf, still, eqD_int, h0]
      have t2 : execS P (callK P (k + 1)) (mkK P (k + 1)) (.asg (.name 2) (.bin .mul (.call fp [(.loc 0), (.loc 1)]) (.ife (.cmp .gt (.loc 1) (.con (.int 0))) (.con (.int 1)) (.neg (.con (.int 1)))))) [some (.int a), some (.int b), none, none] S = .fl .nx [some (.int a), some (.int b), some (.int (gcdI a b * sg b)), none] S := by
        by_cases hbp : 0 < b
        · have hsg : sg b = 1 := by unfold sg; rw [if_pos hbp]
          rw [hsg] at hm ⊢
          simp [execSs, execS, evT, evalT, evalE, evalEs, evalTs, store, stores, setV, truthR, truth, bl, cmpR, cmpV, op2, biV, ixV, pureO, alloc, itV, itemsOf, listOf, still, hcom, hbp, hm]
        · have hsg : sg b = -1 := by unfold sg; rw [if_neg hbp]
          rw [hsg] at hm ⊢
          simp [execSs, execS, evT, evalT, evalE, evalEs, evalTs, store, stores, setV, truthR, truth, bl, cmpR, cmpV, op2, biV, ixV, pureO, alloc, itV, itemsOf, listOf, still, hcom, hbp, hm]
      have t3 : execS P (callK P (k + 1)) (mkK P (k + 1)) (.par [0, 1] [(.bin .fdiv (.loc 0) (.loc 2)), (.bin .fdiv (.loc 1) (.loc 2))]) [some (.int a), some (.int b), some (.int (gcdI a b * sg b)), none] S = .fl .nx [some (.int (numQ a b)), some (.int (numP a b)), some (.int (gcdI a b * sg b)), none] S := by
        simp [execSs, execS, evT, evalT, evalE, evalEs, evalTs, store, stores, setV, truthR, truth, bl, cmpR, cmpV, op2, biV, ixV, pureO, alloc, itV, itemsOf, listOf, still, setAll, hg, q1, q2]
      show execSs P (callK P (k + 1)) (mkK P (k + 1)) (_ :: _ :: _ :: (dLNumber fp).body.drop 3) _ S = _
      rw [execSs, t1]
      simp only
      rw [execSs, t2]
      simp only
      rw [execSs, t3]
    rw [whole, tail]
    show R.ok _ (gc _ _ _) = _
    rw [gc_same]
end Mi.Ev
namespace Mi.Ev
open PySem
section
variable {P : Pg} {cl mk : Cl} {a b c : IE} {es : List IE} {σ : Env} {S S1 S2 S3 : St} {x y z d : D} {xs : List D}
theorem e_loc {i : Nat} (h : σ[i]? = some (some x)) (n : ∀ c vs, x ≠ .exc c vs) : evalE P cl mk (.loc i) σ S = .ok x S := by
  rw [evalE, h]
  cases x <;> first | rfl | exact absurd rfl (n _ _)
theorem e_con : evalE P cl mk (.con d) σ S = .ok d S := by rw [evalE]
theorem e_bin {o : Op} (h1 : evalE P cl mk a σ S = .ok x S1) (h2 : evalE P cl mk b σ S1 = .ok y S2) : evalE P cl mk (.bin o a b) σ S = op2 o x y S2 := by
  rw [evalE, h1]; simp only [R.bind, h2]
theorem e_ix (h1 : evalE P cl mk a σ S = .ok x S1) (h2 : evalE P cl mk b σ S1 = .ok y S2) (h : ixV S2 x y = some d) : evalE P cl mk (.ix a b) σ S = .ok d S2 := by
  rw [evalE, h1]; simp only [R.bind, h2, h, pureO]
theorem es_nil : evalEs P cl mk [] σ S = .ok [] S := by rw [evalEs]
theorem es_cons (h1 : evalE P cl mk a σ S = .ok x S1) (h2 : evalEs P cl mk es σ S1 = .ok xs S2) : evalEs P cl mk (a :: es) σ S = .ok (x :: xs) S2 := by
  rw [evalEs, h1]; simp only [R.bind, h2]
theorem e_call {f : Nat} (h : evalEs P cl mk es σ S = .ok xs S1) : evalE P cl mk (.call f es) σ S = cl f xs S1 := by
  rw [evalE, h]; rfl
theorem e_cmp {o : Cm} (h1 : evalE P cl mk a σ S = .ok x S1) (h2 : evalE P cl mk b σ S1 = .ok y S2) {q : Bool} (h : cmpV o x y S2 = some q) : evalE P cl mk (.cmp o a b) σ S = .ok (.bl q) S2 := by
  rw [evalE, h1]; simp only [R.bind, h2, cmpR, h, bl]
theorem t_cmp {o : Cm} (h1 : evalE P cl mk a σ S = .ok x S1) (h2 : evalE P cl mk b σ S1 = .ok y S2) {q : Bool} (h : cmpV o x y S2 = some q) : evT P cl mk (.cmp o a b) σ S = .ok q S2 := by
  rw [evT, evalT, h1]; simp only [R.bind, h2, cmpR, h]
theorem e_bi {o : Bi} (h1 : evalE P cl mk a σ S = .ok x S1) : evalE P cl mk (.bi o a) σ S = biV o x S1 := by
  rw [evalE, h1]; rfl
theorem e_not (h1 : evalE P cl mk a σ S = .ok x S1) {q : Bool} (h : truth S1 x = some q) : evalE P cl mk (.not_ a) σ S = .ok (.bl (!q)) S1 := by
  rw [evalE, h1]; simp only [R.bind, truthR, h, bl]
theorem t_not {q : Bool} (h : evT P cl mk a σ S = .ok q S1) : evT P cl mk (.not_ a) σ S = .ok (!q) S1 := by
  rw [evT, evalT]; rw [evT] at h; rw [h]; rfl
theorem t_call {f : Nat} {q : Bool} (h : evalE P cl mk (.call f es) σ S = .ok (.bl q) S1) : evT P cl mk (.call f es) σ S = .ok q S1 := by
  rw [evT, evalT, h]
  · rfl
  all_goals (intros; simp_all)
theorem ts_one {q : Bool} (h : evT P cl mk a σ S = .ok q S1) : evalTs P cl mk [a] σ S = .ok q S1 := by
  rw [evalTs]
  rw [evT] at h
  rw [h]
  cases q <;> simp [evalTs]
theorem ss_nx {s : IS} {ss : List IS} {σ' : Env} (h : execS P cl mk s σ S = .fl .nx σ' S1) : execSs P cl mk (s :: ss) σ S = execSs P cl mk ss σ' S1 := by
  rw [execSs, h]
theorem ss_ret {s : IS} {ss : List IS} {σ' : Env} (h : execS P cl mk s σ S = .fl (.ret d) σ' S1) : execSs P cl mk (s :: ss) σ S = .fl (.ret d) σ' S1 := by
  rw [execSs, h]
theorem s_ifT {c : IE} {a b : List IS} (h : evT P cl mk c σ S = .ok true S1) : execS P cl mk (.ife c a b) σ S = execSs P cl mk a σ S1 := by
  rw [execS, h]; rfl
theorem s_ifF {c : IE} {a b : List IS} (h : evT P cl mk c σ S = .ok false S1) : execS P cl mk (.ife c a b) σ S = execSs P cl mk b σ S1 := by
  rw [execS, h]; rfl
theorem s_retE {e : IE} (h : evalE P cl mk e σ S = .ok d S1) : execS P cl mk (.ret e) σ S = .fl (.ret d) σ S1 := by
  rw [execS, h]; rfl
theorem s_asgE {i : Nat} {e : IE} (h : evalE P cl mk e σ S = .ok d S1) : execS P cl mk (.asg (.name i) e) σ S = .fl .nx (σ.set i (some d)) S1 := by
  rw [execS, h]; simp only [R.bindS, store]
theorem ss_nil : execSs P cl mk [] σ S = .fl .nx σ S := by
  rw [execSs]
end
theorem compL_map {xs : List D} {o : Option Nat} {turn : D → St → R (Option D)} {S : St} (F : D → Option D) (hs : still xs o S = true) : ∀ {ds : List D} {acc : List D}, (∀ d ∈ ds, turn d S = .ok (F d) S) → acc.length + ds.length ≤ line → compL xs o turn ds acc S = .ok (acc ++ ds.filterMap F) S
  | [], acc, _, _ => by rw [compL, if_pos hs]; simp
  | d :: ds, acc, h, hl => by
    have ih := fun acc hl => compL_map (turn := turn) F hs (ds := ds) (acc := acc) (fun e he => h e (List.mem_cons_of_mem _ he)) hl
    rw [compL, if_pos hs, h d List.mem_cons_self]
    rw [List.length_cons] at hl
    cases hF : F d with
    | none =>
      show compL xs o turn ds acc S = _
      rw [ih acc (by omega), List.filterMap_cons_none hF]
    | some y =>
      show (if acc.length < line then compL xs o turn ds (acc ++ [y]) S else .bad) = _
      rw [if_pos (by omega), ih (acc ++ [y]) (by rw [List.length_append, List.length_singleton]; omega), List.filterMap_cons_some hF, List.append_assoc]
      rfl
theorem e_comp {P : Pg} {cl mk : Cl} {k : It} {args : List IE} {tg : Pat} {ws : List Nat} {ifs : List IE} {elt : IE} {σ : Env} {S S1 : St} {xs ds : List D} {o : Option Nat} (F : D → Option D) (h1 : evalEs P cl mk args σ S = .ok xs S1) (h2 : itV k xs S1 = some (ds, o)) (hs : still ds o S1 = true)
    (ht : ∀ d ∈ ds, ∃ σ', tg.put d (wipe σ ws) = some σ' ∧ ((F d = none ∧ evalTs P cl mk ifs σ' S1 = .ok false S1) ∨ ∃ y, F d = some y ∧ evalTs P cl mk ifs σ' S1 = .ok true S1 ∧ evalE P cl mk elt σ' S1 = .ok y S1)) (hl : ds.length ≤ line) :
    evalE P cl mk (.comp k args tg ws ifs elt) σ S = .ok (.ref S1.length) (S1 ++ [.lst (ds.filterMap F)]) := by
  rw [evalE, h1]
  simp only [R.bind, h2]
  rw [compL_map F hs (acc := []) ?_ (by simpa using hl)]
  · rfl
  · intro d hd
    obtain ⟨σ', hp, h⟩ := ht d hd
    simp only [hp]
    rcases h with ⟨h3, h4⟩ | ⟨y, h3, h4, h5⟩
    · simp only [h3, h4, R.nox, Bool.false_eq_true, if_false]
    · simp only [h3, h4, h5, R.nox, if_true]
/-! ### the law's own comparison -/
def Sm (S : St) : Nat → D → D → Prop
  | _, .non, .non => True
  | _, .int i, .int j => i = j
  | _, .bl a, .bl b => a = b
  | _, .str a, .str b => a = b ∧ okS a = true
  | n + 1, .tup xs, .tup ys => xs.length = ys.length ∧ xs.length < 1000000 ∧ ∀ (i : Nat) x y, xs[i]? = some x → ys[i]? = some y → Sm S n x y
  | n + 1, .ref i, .ref j => ∃ xs ys, S[i]? = some (.lst xs) ∧ S[j]? = some (.lst ys) ∧ xs.length = ys.length ∧ xs.length < 1000000 ∧ ∀ (i : Nat) x y, xs[i]? = some x → ys[i]? = some y → Sm S n x y
  | _, _, _ => False
def dSame (f : Nat) : IDef := ⟨2, 3, [(.ife (.or_ (.isi (.loc 1) (.tup)) (.isi (.loc 1) (.lst))) [(.ife (.or_ (.cmp .ne (.isi (.loc 1) (.tup)) (.isi (.loc 0) (.tup))) (.cmp .ne (.isi (.loc 1) (.lst)) (.isi (.loc 0) (.lst)))) [(.ret (.con (.bl false)))] []),
  (.ife (.cmp .ne (.bi .len (.loc 0)) (.bi .len (.loc 1))) [(.ret (.con (.bl false)))] []),
  (.ret (.cmp .eq (.bi .len (.comp .range1 [(.bi .len (.loc 1))] (.name 2) [2] [(.not_ (.call f [(.ix (.loc 0) (.loc 2)), (.ix (.loc 1) (.loc 2))]))] (.loc 2))) (.con (.int 0))))] []),
  (.ife (.isi (.loc 1) (.str)) [(.ret (.and_ (.isi (.loc 0) (.str)) (.cmp .eq (.loc 0) (.loc 1))))] []),
  (.ife (.isN (.loc 1)) [(.ret (.isN (.loc 0)))] []),
  (.ife (.or_ (.isi (.loc 1) (.bool)) (.isi (.loc 0) (.bool))) [(.ret (.and_ (.isi (.loc 1) (.bool)) (.and_ (.isi (.loc 0) (.bool)) (.cmp .eq (.loc 0) (.loc 1)))))] []),
  (.ret (.and_ (.isi (.loc 0) (.int)) (.and_ (.isi (.loc 1) (.int)) (.cmp .eq (.loc 0) (.loc 1)))))]⟩
theorem itV_r1 {n : Int} {S : St} : itV .range1 [.int n] S = if (decide (-big62 ≤ n) && decide (n < big62)) = true then some ((List.range n.toNat).map fun i => .int (i : Nat), none) else none := by
  simp only [itV]
theorem r1_hc {n : Nat} (h : n < 1000000) : (decide (-big62 ≤ (n : Int)) && decide ((n : Int) < big62)) = true := by
  rw [Bool.and_eq_true]
  exact ⟨decide_eq_true (Int.le_trans (by decide) (Int.natCast_nonneg n)), decide_eq_true (Int.lt_of_lt_of_le (Int.ofNat_lt.mpr h) (by decide))⟩
theorem itV_len {n : Nat} {S : St} (h : n < 1000000) : itV .range1 [.int n] S = some ((List.range n).map fun i => .int (i : Nat), none) := by
  rw [itV_r1, if_pos (r1_hc h), Int.toNat_natCast]
theorem same_cmp {P : Pg} {k f : Nat} {S : St} {x y : D} {xs ys : List D} (hl : xs.length = ys.length) (hs : xs.length < 1000000) (hx : ∀ i : Int, ixV S x (.int i) = atI xs i) (hy : ∀ i : Int, ixV S y (.int i) = atI ys i) (ylen : biV .len y S = .ok (.int ys.length) S) (nx : ∀ c vs, x ≠ .exc c vs) (ny : ∀ c vs, y ≠ .exc c vs)
    (h : ∀ (i : Nat) a b, xs[i]? = some a → ys[i]? = some b → callK P k f [a, b] S = .ok (.bl true) S) (w : Option D) :
    evalE P (callK P k) (mkK P k) (.cmp .eq (.bi .len (.comp .range1 [(.bi .len (.loc 1))] (.name 2) [2] [(.not_ (.call f [(.ix (.loc 0) (.loc 2)), (.ix (.loc 1) (.loc 2))]))] (.loc 2))) (.con (.int 0))) [some x, some y, w] S = .ok (.bl true) (S ++ [.lst []]) := by
  have l1 : evalE P (callK P k) (mkK P k) (.loc 1) [some x, some y, w] S = .ok y S := e_loc rfl ny
  have hr : itV .range1 [.int ys.length] S = some ((List.range ys.length).map fun i => .int (i : Nat), none) := itV_len (by omega)
  have lc : evalE P (callK P k) (mkK P k) (.comp .range1 [(.bi .len (.loc 1))] (.name 2) [2] [(.not_ (.call f [(.ix (.loc 0) (.loc 2)), (.ix (.loc 1) (.loc 2))]))] (.loc 2)) [some x, some y, w] S = .ok (.ref S.length) (S ++ [.lst []]) := by
    refine (e_comp (fun _ => none) (es_cons ((e_bi l1).trans ylen) es_nil) hr rfl (fun d hd => ?_) (by rw [List.length_map, List.length_range]; show _ ≤ 16777216; omega)).trans (by simp)
    obtain ⟨i, hi, rfl⟩ := List.mem_map.mp hd
    rw [List.mem_range] at hi
    refine ⟨[some x, some y, some (.int i)], rfl, .inl ⟨rfl, ?_⟩⟩
    have a1 : atI xs (i : Int) = xs[i]? := by rw [atI_nat (by omega) (by omega)]; simp
    have a2 : atI ys (i : Int) = ys[i]? := by rw [atI_nat (by omega) (by omega)]; simp
    have g1 : xs[i]? = some xs[i] := List.getElem?_eq_getElem (by omega)
    have g2 : ys[i]? = some ys[i] := List.getElem?_eq_getElem hi
    have hc := h i _ _ g1 g2
    have ex : evalE P (callK P k) (mkK P k) (.loc 0) [some x, some y, some (.int i)] S = .ok x S := e_loc rfl nx
    have ey : evalE P (callK P k) (mkK P k) (.loc 1) [some x, some y, some (.int i)] S = .ok y S := e_loc rfl ny
    have e2 : evalE P (callK P k) (mkK P k) (.loc 2) [some x, some y, some (.int i)] S = .ok (.int i) S := e_loc rfl (fun _ _ e => by cases e)
    have et : evalE P (callK P k) (mkK P k) (.call f [(.ix (.loc 0) (.loc 2)), (.ix (.loc 1) (.loc 2))]) [some x, some y, some (.int i)] S = .ok (.bl true) S :=
      (e_call (es_cons (e_ix ex e2 (by rw [hx, a1, g1])) (es_cons (e_ix ey e2 (by rw [hy, a2, g2])) es_nil))).trans hc
    exact ts_one (t_not (t_call et))
  refine e_cmp ((e_bi lc).trans (show biV .len (.ref S.length) (S ++ [.lst []]) = R.ok (.int (0 : Nat)) (S ++ [.lst []]) from by simp [biV, listOf])) e_con ?_
  simp [cmpV, eqD_int]
theorem same_tup {P : Pg} {cl mk : Cl} {f : Nat} {S S' : St} {xs ys : List D} (hl : xs.length = ys.length) (key : evalE P cl mk (.cmp .eq (.bi .len (.comp .range1 [(.bi .len (.loc 1))] (.name 2) [2] [(.not_ (.call f [(.ix (.loc 0) (.loc 2)), (.ix (.loc 1) (.loc 2))]))] (.loc 2))) (.con (.int 0))) [some (.tup xs), some (.tup ys), none] S = .ok (.bl true) S') :
    execSs P cl mk (dSame f).body (startEnv (dSame f) [.tup xs, .tup ys]) S = .fl (.ret (.bl true)) [some (.tup xs), some (.tup ys), none] S' := by
  refine ss_ret ((s_ifT (S1 := S) (by simp [execSs, execS, evT, evalT, evalE, evalEs, evalTs, store, stores, setV, truthR, truth, bl, cmpR, cmpV, op2, biV, ixV, pureO, alloc, itV, itemsOf, listOf, still, isiV, startEnv, dSame])).trans ?_)
  refine (ss_nx ((s_ifF (S1 := S) (by simp [execSs, execS, evT, evalT, evalE, evalEs, evalTs, store, stores, setV, truthR, truth, bl, cmpR, cmpV, op2, biV, ixV, pureO, alloc, itV, itemsOf, listOf, still, isiV, startEnv, dSame, eqD_bl])).trans ss_nil)).trans ?_
  refine (ss_nx ((s_ifF (S1 := S) (by simp [execSs, execS, evT, evalT, evalE, evalEs, evalTs, store, stores, setV, truthR, truth, bl, cmpR, cmpV, op2, biV, ixV, pureO, alloc, itV, itemsOf, listOf, still, isiV, startEnv, dSame, eqD_int, hl])).trans ss_nil)).trans ?_
  exact ss_ret (s_retE key)
theorem same_lst {P : Pg} {cl mk : Cl} {f i j : Nat} {S S' : St} {xs ys : List D} (g1 : S[i]? = some (.lst xs)) (g2 : S[j]? = some (.lst ys)) (hl : xs.length = ys.length) (key : evalE P cl mk (.cmp .eq (.bi .len (.comp .range1 [(.bi .len (.loc 1))] (.name 2) [2] [(.not_ (.call f [(.ix (.loc 0) (.loc 2)), (.ix (.loc 1) (.loc 2))]))] (.loc 2))) (.con (.int 0))) [some (.ref i), some (.ref j), none] S = .ok (.bl true) S') :
    execSs P cl mk (dSame f).body (startEnv (dSame f) [.ref i, .ref j]) S = .fl (.ret (.bl true)) [some (.ref i), some (.ref j), none] S' := by
  refine ss_ret ((s_ifT (S1 := S) (by simp [execSs, execS, evT, evalT, evalE, evalEs, evalTs, store, stores, setV, truthR, truth, bl, cmpR, cmpV, op2, biV, ixV, pureO, alloc, itV, itemsOf, listOf, still, isiV, startEnv, dSame, g1, g2])).trans ?_)
  refine (ss_nx ((s_ifF (S1 := S) (by simp [execSs, execS, evT, evalT, evalE, evalEs, evalTs, store, stores, setV, truthR, truth, bl, cmpR, cmpV, op2, biV, ixV, pureO, alloc, itV, itemsOf, listOf, still, isiV, startEnv, dSame, eqD_bl, g1, g2])).trans ss_nil)).trans ?_
  refine (ss_nx ((s_ifF (S1 := S) (by simp [execSs, execS, evT, evalT, evalE, evalEs, evalTs, store, stores, setV, truthR, truth, bl, cmpR, cmpV, op2, biV, ixV, pureO, alloc, itV, itemsOf, listOf, still, isiV, startEnv, dSame, eqD_int, hl, g1, g2])).trans ss_nil)).trans ?_
  exact ss_ret (s_retE key)
theorem same_ok {P : Pg} {f : Nat} (hP : P.defs[f]? = some (dSame f)) : ∀ (n k : Nat) (x y : D) (S : St), Sm S n x y → callK P (k + n + 1) f [x, y] S = .ok (.bl true) S := by
  intro n
  induction n with
  | zero =>
    intro k x y S h
    rw [call_eq hP rfl]
    cases x <;> cases y <;> first | exact False.elim h | skip
    · simp [dSame, startEnv, execSs, execS, evT, evalT, evalE, evalEs, evalTs, store, stores, setV, truthR, truth, bl, cmpR, cmpV, op2, biV, ixV, pureO, alloc, itV, itemsOf, listOf, still, fin, gc_same, isiV]
    · obtain rfl := h
      simp [dSame, startEnv, execSs, execS, evT, evalT, evalE, evalEs, evalTs, store, stores, setV, truthR, truth, bl, cmpR, cmpV, op2, biV, ixV, pureO, alloc, itV, itemsOf, listOf, still, fin, gc_same, isiV, eqD_bl]
    · obtain rfl := h
      simp [dSame, startEnv, execSs, execS, evT, evalT, evalE, evalEs, evalTs, store, stores, setV, truthR, truth, bl, cmpR, cmpV, op2, biV, ixV, pureO, alloc, itV, itemsOf, listOf, still, fin, gc_same, isiV, eqD_int]
    · obtain ⟨rfl, ho⟩ := h
      simp [dSame, startEnv, execSs, execS, evT, evalT, evalE, evalEs, evalTs, store, stores, setV, truthR, truth, bl, cmpR, cmpV, op2, biV, ixV, pureO, alloc, itV, itemsOf, listOf, still, fin, gc_same, isiV, eqD_str ho ho]
  | succ n ih =>
    intro k x y S h
    rw [call_eq hP rfl]
    cases x <;> cases y <;> first | exact False.elim h | skip
    · simp [dSame, startEnv, execSs, execS, evT, evalT, evalE, evalEs, evalTs, store, stores, setV, truthR, truth, bl, cmpR, cmpV, op2, biV, ixV, pureO, alloc, itV, itemsOf, listOf, still, fin, gc_same, isiV]
    · obtain rfl := h
      simp [dSame, startEnv, execSs, execS, evT, evalT, evalE, evalEs, evalTs, store, stores, setV, truthR, truth, bl, cmpR, cmpV, op2, biV, ixV, pureO, alloc, itV, itemsOf, listOf, still, fin, gc_same, isiV, eqD_bl]
    · obtain rfl := h
      simp [dSame, startEnv, execSs, execS, evT, evalT, evalE, evalEs, evalTs, store, stores, setV, truthR, truth, bl, cmpR, cmpV, op2, biV, ixV, pureO, alloc, itV, itemsOf, listOf, still, fin, gc_same, isiV, eqD_int]
    · obtain ⟨rfl, ho⟩ := h
      simp [dSame, startEnv, execSs, execS, evT, evalT, evalE, evalEs, evalTs, store, stores, setV, truthR, truth, bl, cmpR, cmpV, op2, biV, ixV, pureO, alloc, itV, itemsOf, listOf, still, fin, gc_same, isiV, eqD_str ho ho]
    · rename_i xs ys
      obtain ⟨h1, h2, h3⟩ := h
      have key := same_cmp (P := P) (k := k + (n + 1)) (f := f) (S := S) (x := .tup xs) (y := .tup ys) h1 h2 (fun i => rfl) (fun i => rfl) rfl (fun _ _ e => by cases e) (fun _ _ e => by cases e) (fun i a b ha hb => ih k a b S (h3 i a b ha hb)) none
      have e := same_tup (P := P) (cl := callK P (k + (n + 1))) (mk := mkK P (k + (n + 1))) (f := f) h1 key
      rw [e]
      show R.ok _ (gc _ _ _) = _
      rw [gc_app rfl]
    · rename_i i j
      obtain ⟨xs, ys, g1, g2, h1, h2, h3⟩ := h
      have key := same_cmp (P := P) (k := k + (n + 1)) (f := f) (S := S) (x := .ref i) (y := .ref j) h1 h2 (fun i => by simp only [ixV, g1]) (fun i => by simp only [ixV, g2]) (by simp [biV, listOf, g2]) (fun _ _ e => by cases e) (fun _ _ e => by cases e) (fun i a b ha hb => ih k a b S (h3 i a b ha hb)) none
      have e := same_lst (P := P) (cl := callK P (k + (n + 1))) (mk := mkK P (k + (n + 1))) (f := f) g1 g2 h1 key
      rw [e]
      show R.ok _ (gc _ _ _) = _
      rw [gc_app rfl]
end Mi.Ev
namespace Mi.Ev
open PySem
section
variable {P : Pg} {cl mk : Cl} {a b c : IE} {es : List IE} {σ : Env} {S S1 S2 S3 : St} {x y z d : D} {xs : List D}
theorem t_orT (h : evT P cl mk a σ S = .ok true S1) : evT P cl mk (.or_ a b) σ S = .ok true S1 := by
  rw [evT, evalT]; rw [evT] at h; rw [h]; rfl
theorem t_orF {q : Bool} (h : evT P cl mk a σ S = .ok false S1) (h2 : evT P cl mk b σ S1 = .ok q S2) : evT P cl mk (.or_ a b) σ S = .ok q S2 := by
  rw [evT, evalT]; rw [evT] at h h2; rw [h]; exact h2
theorem t_andF (h : evT P cl mk a σ S = .ok false S1) : evT P cl mk (.and_ a b) σ S = .ok false S1 := by
  rw [evT, evalT]; rw [evT] at h; rw [h]; rfl
theorem t_andT {q : Bool} (h : evT P cl mk a σ S = .ok true S1) (h2 : evT P cl mk b σ S1 = .ok q S2) : evT P cl mk (.and_ a b) σ S = .ok q S2 := by
  rw [evT, evalT]; rw [evT] at h h2; rw [h]; exact h2
theorem e_andT (h : evalE P cl mk a σ S = .ok (.bl true) S1) : evalE P cl mk (.and_ a b) σ S = evalE P cl mk b σ S1 := by
  rw [evalE, h]; rfl
theorem e_andF (h : evalE P cl mk a σ S = .ok (.bl false) S1) : evalE P cl mk (.and_ a b) σ S = .ok (.bl false) S1 := by
  rw [evalE, h]; rfl
end
theorem py_str {rf : Nat → Option PyData} {s : List Nat} : D.py rf (.str s) = some (.str ⟨s.toArray⟩) := by rw [D.py]
/-! ### a text among texts -/
def pyS (s : List Nat) : PyData := .str ⟨s.toArray⟩
theorem pys_strs {rf : Nat → Option PyData} : ∀ ys : List (List Nat), D.pys rf (ys.map .str) = some (ys.map pyS)
  | [] => by simp only [List.map_nil, D.pys]
  | y :: ys => by
    simp only [List.map_cons, D.pys, py_str, pys_strs ys, Option.bind_some, Option.map_some]
    rfl
theorem lay_strs : ∀ ys : List (List Nat), (∀ y ∈ ys, okS y = true) → PyData.canLayAll0 (ys.map pyS) = true ∧ PyData.depthAll (ys.map pyS) = 0
  | [], _ => by simp [PyData.canLayAll0, PyData.depthAll]
  | y :: ys, h => by
    obtain ⟨h1, h2⟩ := lay_strs ys fun z hz => h z (List.mem_cons_of_mem _ hz)
    have h3 := strOk_of (h y List.mem_cons_self)
    constructor
    · simp only [List.map_cons, PyData.canLayAll0, h1, Bool.and_true]
      simp only [pyS, PyData.canLay0]
      exact h3
    · simp only [List.map_cons, PyData.depthAll, h2]
      simp [pyS, PyData.depth]
theorem shaped_tups {ys : List (List Nat)} (h : ∀ y ∈ ys, okS y = true) : SeqAt.shaped (.tuple (ys.map pyS)) = true := by
  obtain ⟨h1, h2⟩ := lay_strs ys h
  unfold SeqAt.shaped
  rw [Bool.and_eq_true]
  refine ⟨?_, ?_⟩
  · simp only [PyData.canLay0]; exact h1
  · simp [PyData.depth, h2]
theorem eqv_strs {x y : List Nat} : PyData.eqv (pyS y) (pyS x) = decide (y = x) := by
  simp only [pyS, PyData.eqv]
  by_cases h : y = x
  · subst h; simp
  · rw [decide_eq_false h]
    simp only [beq_eq_false_iff_ne, ne_eq]
    intro e; apply h; simpa using e
theorem isIn_strs {S : St} {x : List Nat} {ys : List (List Nat)} (hx : okS x = true) (h : ∀ y ∈ ys, okS y = true) : isIn S (.str x) (.tup (ys.map .str)) = some (decide (x ∈ ys)) := by
  simp only [isIn, toPy_str hx, Option.bind_some, pys_strs]
  rw [if_pos (shaped_tups h)]
  congr 1
  rw [List.any_map]
  have : ∀ ys : List (List Nat), (ys.any ((fun z => PyData.eqv z (.str ⟨x.toArray⟩)) ∘ pyS)) = decide (x ∈ ys) := by
    intro ys
    induction ys with
    | nil => rfl
    | cons y ys ih =>
      rw [List.any_cons, ih]
      show (PyData.eqv (pyS y) (pyS x) || _) = _
      rw [eqv_strs]
      by_cases e : y = x
      · subst e; simp
      · have e2 : ¬ x = y := fun z => e z.symm
        simp [e, e2]
  exact this ys
def dIsWhole : IDef := ⟨1, 1, [(.ret (.and_ (.isi (.loc 0) (.int)) (.not_ (.isi (.loc 0) (.bool)))))]⟩
def isWholeV : D → Bool
  | .int _ => true
  | _ => false
theorem whole_ok {P : Pg} {k f : Nat} {x : D} {S : St} (hP : P.defs[f]? = some dIsWhole) (hx : match x with
    | .frz _ => False
    | .exc _ _ => False
    | .ref i => ∃ xs, S[i]? = some (.lst xs)
    | _ => True) : callK P (k + 1) f [x] S = .ok (.bl (isWholeV x)) S := by
  rw [call_eq hP rfl]
  cases x with
  | ref i =>
    obtain ⟨xs, e⟩ := hx
    simp [dIsWhole, startEnv, execSs, execS, evT, evalT, evalE, evalEs, evalTs, store, stores, setV, truthR, truth, bl, cmpR, cmpV, op2, biV, ixV, pureO, alloc, itV, itemsOf, listOf, still, fin, gc_same, isiV, isWholeV, e]
  | frz _ => exact hx.elim
  | exc _ _ => exact hx.elim
  | _ => simp [dIsWhole, startEnv, execSs, execS, evT, evalT, evalE, evalEs, evalTs, store, stores, setV, truthR, truth, bl, cmpR, cmpV, op2, biV, ixV, pureO, alloc, itV, itemsOf, listOf, still, fin, gc_same, isiV, isWholeV]
def dIsValue (fw fc ft : Nat) : IDef := ⟨1, 1, [(.ife (.isN (.loc 0)) [(.ret (.con (.bl true)))] []),
  (.ife (.or_ (.not_ (.isi (.loc 0) (.tup))) (.or_ (.cmp .eq (.bi .len (.loc 0)) (.con (.int 0))) (.not_ (.isi (.ix (.loc 0) (.con (.int 0))) (.str))))) [(.ret (.con (.bl false)))] []),
  (.ife (.cmp .isin (.ix (.loc 0) (.con (.int 0))) (.tup [(.con (.str [121, 101, 115])), (.con (.str [110, 111]))])) [(.ret (.cmp .eq (.bi .len (.loc 0)) (.con (.int 1))))] []),
  (.ife (.cmp .eq (.ix (.loc 0) (.con (.int 0))) (.con (.str [116, 101, 120, 116]))) [(.ret (.and_ (.cmp .eq (.bi .len (.loc 0)) (.con (.int 2))) (.call ft [(.ix (.loc 0) (.con (.int 1)))])))] []),
  (.ife (.cmp .eq (.ix (.loc 0) (.con (.int 0))) (.con (.str [101, 114, 114, 111, 114]))) [(.ret (.and_ (.cmp .eq (.bi .len (.loc 0)) (.con (.int 2))) (.and_ (.isi (.ix (.loc 0) (.con (.int 1))) (.str)) (.cmp .isin (.ix (.loc 0) (.con (.int 1))) (.con (.tup [(.str [122, 101, 114, 111]), (.str [107, 105, 110, 100]), (.str [103, 111, 110, 101]), (.str [114, 105, 110, 103]), (.str [98, 105, 103]), (.str [110, 111, 110, 101])]))))))] []),
  (.ife (.or_ (.cmp .ne (.ix (.loc 0) (.con (.int 0))) (.con (.str [110, 117, 109]))) (.or_ (.cmp .ne (.bi .len (.loc 0)) (.con (.int 3))) (.or_ (.not_ (.call fw [(.ix (.loc 0) (.con (.int 1)))])) (.not_ (.call fw [(.ix (.loc 0) (.con (.int 2)))]))))) [(.ret (.con (.bl false)))] []),
  (.ret (.and_ (.cmp2 .lt .lt (.con (.int 0)) (.ix (.loc 0) (.con (.int 2))) (.con (.int 115792089237316195423570985008687907853269984665640564039457584007913129639936))) (.and_ (.cmp .lt (.bi .abs (.ix (.loc 0) (.con (.int 1)))) (.con (.int 115792089237316195423570985008687907853269984665640564039457584007913129639936))) (.cmp .eq (.call fc [(.ix (.loc 0) (.con (.int 1))), (.ix (.loc 0) (.con (.int 2)))]) (.con (.int 1))))))]⟩
theorem atI0 {α : Type} {a : α} {l : List α} : atI (a :: l) 0 = some a := by
  unfold atI L2.atI L2.ixN
  simp
/-- is_value of a row whose first is a text -/
theorem isv_word {P : Pg} {k f fw fc ft : Nat} {S : St} {w : List Nat} {ds : List D} (hP : P.defs[f]? = some (dIsValue fw fc ft)) (hw : okS w = true) (h1 : w ≠ [121, 101, 115]) (h2 : w ≠ [110, 111]) (h3 : w ≠ [116, 101, 120, 116]) (h4 : w ≠ [101, 114, 114, 111, 114]) :
    execSs P (callK P k) (mkK P k) (dIsValue fw fc ft).body (startEnv (dIsValue fw fc ft) [.tup (.str w :: ds)]) S = execSs P (callK P k) (mkK P k) ((dIsValue fw fc ft).body.drop 5) [some (.tup (.str w :: ds))] S := by
  show execSs P (callK P k) (mkK P k) (dIsValue fw fc ft).body [some (.tup (.str w :: ds))] S = _
  have l0 : evalE P (callK P k) (mkK P k) (.loc 0) [some (.tup (.str w :: ds))] S = .ok (.tup (.str w :: ds)) S := e_loc rfl (fun _ _ e => by cases e)
  have ix : evalE P (callK P k) (mkK P k) (.ix (.loc 0) (.con (.int 0))) [some (.tup (.str w :: ds))] S = .ok (.str w) S := e_ix l0 e_con atI0
  have len : ((ds.length : Int) + 1 = 0) = False := by simp; omega
  have t1 : evT P (callK P k) (mkK P k) (.isN (.loc 0)) [some (.tup (.str w :: ds))] S = .ok false S := by simp [execSs, execS, evT, evalT, evalE, evalEs, evalTs, store, stores, setV, truthR, truth, bl, cmpR, cmpV, op2, biV, ixV, pureO, alloc, itV, itemsOf, listOf, still]
  refine (ss_nx ((s_ifF t1).trans ss_nil)).trans ?_
  have t2 : evT P (callK P k) (mkK P k) (.or_ (.not_ (.isi (.loc 0) (.tup))) (.or_ (.cmp .eq (.bi .len (.loc 0)) (.con (.int 0))) (.not_ (.isi (.ix (.loc 0) (.con (.int 0))) (.str))))) [some (.tup (.str w :: ds))] S = .ok false S := by
    simp [execSs, execS, evT, evalT, evalE, evalEs, evalTs, store, stores, setV, truthR, truth, bl, cmpR, cmpV, op2, biV, ixV, pureO, alloc, itV, itemsOf, listOf, still, isiV, eqD_int, atI0, len]
  refine (ss_nx ((s_ifF t2).trans ss_nil)).trans ?_
  have o1 : okS [121, 101, 115] = true := rfl
  have o2 : okS [110, 111] = true := rfl
  have t3 : evT P (callK P k) (mkK P k) (.cmp .isin (.ix (.loc 0) (.con (.int 0))) (.tup [(.con (.str [121, 101, 115])), (.con (.str [110, 111]))])) [some (.tup (.str w :: ds))] S = .ok false S := by
    refine t_cmp ix (y := .tup [.str [121, 101, 115], .str [110, 111]]) (by simp [execSs, execS, evT, evalT, evalE, evalEs, evalTs, store, stores, setV, truthR, truth, bl, cmpR, cmpV, op2, biV, ixV, pureO, alloc, itV, itemsOf, listOf, still, line]) ?_
    refine (isIn_strs (ys := [[121, 101, 115], [110, 111]]) hw (by decide)).trans ?_
    rw [decide_eq_false]
    simp [h1, h2]
  refine (ss_nx ((s_ifF t3).trans ss_nil)).trans ?_
  have t4 : evT P (callK P k) (mkK P k) (.cmp .eq (.ix (.loc 0) (.con (.int 0))) (.con (.str [116, 101, 120, 116]))) [some (.tup (.str w :: ds))] S = .ok false S := t_cmp ix e_con ((eqD_str hw rfl).trans (by rw [decide_eq_false h3]))
  refine (ss_nx ((s_ifF t4).trans ss_nil)).trans ?_
  have t5 : evT P (callK P k) (mkK P k) (.cmp .eq (.ix (.loc 0) (.con (.int 0))) (.con (.str [101, 114, 114, 111, 114]))) [some (.tup (.str w :: ds))] S = .ok false S := t_cmp ix e_con ((eqD_str hw rfl).trans (by rw [decide_eq_false h4]))
  exact ss_nx ((s_ifF t5).trans ss_nil)
/-- is_value of what is no row, of an empty row, of a row whose first is no text -/
theorem isv_none {P : Pg} {k f fw fc ft : Nat} {S : St} (hP : P.defs[f]? = some (dIsValue fw fc ft)) : callK P (k + 1) f [.non] S = .ok (.bl true) S := by
  rw [call_eq hP rfl]
  have t1 : evT P (callK P k) (mkK P k) (.isN (.loc 0)) [some .non] S = .ok true S := by simp [execSs, execS, evT, evalT, evalE, evalEs, evalTs, store, stores, setV, truthR, truth, bl, cmpR, cmpV, op2, biV, ixV, pureO, alloc, itV, itemsOf, listOf, still]
  have e : execSs P (callK P k) (mkK P k) (dIsValue fw fc ft).body (startEnv (dIsValue fw fc ft) [.non]) S = .fl (.ret (.bl true)) [some .non] S := ss_ret ((s_ifT t1).trans (ss_ret (s_retE e_con)))
  rw [e]
  show R.ok _ (gc _ _ _) = _
  rw [gc_same]
theorem isv_no {P : Pg} {k f fw fc ft : Nat} {S : St} {x : D} (hP : P.defs[f]? = some (dIsValue fw fc ft))
    (h1 : evT P (callK P k) (mkK P k) (.isN (.loc 0)) [some x] S = .ok false S)
    (h2 : evT P (callK P k) (mkK P k) (.or_ (.not_ (.isi (.loc 0) (.tup))) (.or_ (.cmp .eq (.bi .len (.loc 0)) (.con (.int 0))) (.not_ (.isi (.ix (.loc 0) (.con (.int 0))) (.str))))) [some x] S = .ok true S) : callK P (k + 1) f [x] S = .ok (.bl false) S := by
  rw [call_eq hP rfl]
  have e : execSs P (callK P k) (mkK P k) (dIsValue fw fc ft).body (startEnv (dIsValue fw fc ft) [x]) S = .fl (.ret (.bl false)) [some x] S := (ss_nx ((s_ifF h1).trans ss_nil)).trans (ss_ret ((s_ifT h2).trans (ss_ret (s_retE e_con))))
  rw [e]
  show R.ok _ (gc _ _ _) = _
  rw [gc_same]
theorem isv_int {P : Pg} {k f fw fc ft : Nat} {S : St} {i : Int} (hP : P.defs[f]? = some (dIsValue fw fc ft)) : callK P (k + 1) f [.int i] S = .ok (.bl false) S :=
  isv_no hP (by simp [execSs, execS, evT, evalT, evalE, evalEs, evalTs, store, stores, setV, truthR, truth, bl, cmpR, cmpV, op2, biV, ixV, pureO, alloc, itV, itemsOf, listOf, still]) (by simp [execSs, execS, evT, evalT, evalE, evalEs, evalTs, store, stores, setV, truthR, truth, bl, cmpR, cmpV, op2, biV, ixV, pureO, alloc, itV, itemsOf, listOf, still, isiV])
theorem isv_bl {P : Pg} {k f fw fc ft : Nat} {S : St} {i : Bool} (hP : P.defs[f]? = some (dIsValue fw fc ft)) : callK P (k + 1) f [.bl i] S = .ok (.bl false) S :=
  isv_no hP (by simp [execSs, execS, evT, evalT, evalE, evalEs, evalTs, store, stores, setV, truthR, truth, bl, cmpR, cmpV, op2, biV, ixV, pureO, alloc, itV, itemsOf, listOf, still]) (by simp [execSs, execS, evT, evalT, evalE, evalEs, evalTs, store, stores, setV, truthR, truth, bl, cmpR, cmpV, op2, biV, ixV, pureO, alloc, itV, itemsOf, listOf, still, isiV])
theorem isv_lst {P : Pg} {k f fw fc ft i : Nat} {S : St} {xs : List D} (hP : P.defs[f]? = some (dIsValue fw fc ft)) (h : S[i]? = some (.lst xs)) : callK P (k + 1) f [.ref i] S = .ok (.bl false) S :=
  isv_no hP (by simp [execSs, execS, evT, evalT, evalE, evalEs, evalTs, store, stores, setV, truthR, truth, bl, cmpR, cmpV, op2, biV, ixV, pureO, alloc, itV, itemsOf, listOf, still]) (by simp [execSs, execS, evT, evalT, evalE, evalEs, evalTs, store, stores, setV, truthR, truth, bl, cmpR, cmpV, op2, biV, ixV, pureO, alloc, itV, itemsOf, listOf, still, isiV, h])
theorem isv_nil {P : Pg} {k f fw fc ft : Nat} {S : St} (hP : P.defs[f]? = some (dIsValue fw fc ft)) : callK P (k + 1) f [.tup []] S = .ok (.bl false) S :=
  isv_no hP (by simp [execSs, execS, evT, evalT, evalE, evalEs, evalTs, store, stores, setV, truthR, truth, bl, cmpR, cmpV, op2, biV, ixV, pureO, alloc, itV, itemsOf, listOf, still]) (by simp [execSs, execS, evT, evalT, evalE, evalEs, evalTs, store, stores, setV, truthR, truth, bl, cmpR, cmpV, op2, biV, ixV, pureO, alloc, itV, itemsOf, listOf, still, isiV, eqD_int])
theorem isv_tint {P : Pg} {k f fw fc ft : Nat} {S : St} {i : Int} {ds : List D} (hP : P.defs[f]? = some (dIsValue fw fc ft)) : callK P (k + 1) f [.tup (.int i :: ds)] S = .ok (.bl false) S :=
  isv_no hP (by simp [execSs, execS, evT, evalT, evalE, evalEs, evalTs, store, stores, setV, truthR, truth, bl, cmpR, cmpV, op2, biV, ixV, pureO, alloc, itV, itemsOf, listOf, still]) (by
    have len : ((ds.length : Int) + 1 = 0) = False := by simp; omega
    simp [execSs, execS, evT, evalT, evalE, evalEs, evalTs, store, stores, setV, truthR, truth, bl, cmpR, cmpV, op2, biV, ixV, pureO, alloc, itV, itemsOf, listOf, still, isiV, eqD_int, atI0, len])
section
variable {P : Pg} {k f fw fc ft : Nat} {S : St} {w : List Nat} {ds : List D}
theorem isv_ix {x : D} (h : ds[0]? = some x) : evalE P (callK P k) (mkK P k) (.ix (.loc 0) (.con (.int 1))) [some (.tup (.str w :: ds))] S = .ok x S := by
  cases ds with
  | nil => cases h
  | cons d ds =>
    cases h
    exact e_ix (e_loc rfl (fun _ _ e => by cases e)) e_con (by
      show atI _ _ = _
      unfold atI L2.atI L2.ixN
      rw [if_pos (by decide), if_pos (by simp only [List.length_cons]; omega)]; rfl)
theorem isv_ix2 {x y : D} {r : List D} (h : ds = x :: y :: r) : evalE P (callK P k) (mkK P k) (.ix (.loc 0) (.con (.int 2))) [some (.tup (.str w :: ds))] S = .ok y S := by
  subst h
  exact e_ix (e_loc rfl (fun _ _ e => by cases e)) e_con (by
      show atI _ _ = _
      unfold atI L2.atI L2.ixN
      rw [if_pos (by decide), if_pos (by simp only [List.length_cons]; omega)]; rfl)
theorem isv_len : evalE P (callK P k) (mkK P k) (.bi .len (.loc 0)) [some (.tup (.str w :: ds))] S = .ok (.int (ds.length + 1 : Nat)) S :=
  (e_bi (e_loc rfl (fun _ _ e => by cases e))).trans (by simp [biV, listOf])
/-- a word that is no sign of a value -/
theorem isv_other (hP : P.defs[f]? = some (dIsValue fw fc ft)) (hw : okS w = true) (h1 : w ≠ [121, 101, 115]) (h2 : w ≠ [110, 111]) (h3 : w ≠ [116, 101, 120, 116]) (h4 : w ≠ [101, 114, 114, 111, 114]) (h5 : w ≠ [110, 117, 109]) : callK P (k + 1) f [.tup (.str w :: ds)] S = .ok (.bl false) S := by
  rw [call_eq hP rfl, isv_word hP hw h1 h2 h3 h4]
  have ix : evalE P (callK P k) (mkK P k) (.ix (.loc 0) (.con (.int 0))) [some (.tup (.str w :: ds))] S = .ok (.str w) S := e_ix (e_loc rfl (fun _ _ e => by cases e)) e_con atI0
  have c1 : evT P (callK P k) (mkK P k) (.cmp .ne (.ix (.loc 0) (.con (.int 0))) (.con (.str [110, 117, 109]))) [some (.tup (.str w :: ds))] S = .ok true S := t_cmp ix e_con (by simp only [cmpV]; rw [eqD_str hw rfl, decide_eq_false h5]; rfl)
  have e : execSs P (callK P k) (mkK P k) ((dIsValue fw fc ft).body.drop 5) [some (.tup (.str w :: ds))] S = .fl (.ret (.bl false)) [some (.tup (.str w :: ds))] S := ss_ret ((s_ifT (t_orT c1)).trans (ss_ret (s_retE e_con)))
  rw [e]
  show R.ok _ (gc _ _ _) = _
  rw [gc_same]
/-- a fraction's row -/
theorem isv_num {q p : Int} (hP : P.defs[f]? = some (dIsValue fw fc ft)) (hW : P.defs[fw]? = some dIsWhole) (hC : P.defs[fc]? = some dCommon) (hF : P.fuel = 3000) :
    callK P (k + 2) f [.tup [wNum, .int q, .int p]] S = .ok (.bl (decide (0 < p) && (decide (p < most) && (decide ((q.natAbs : Int) < most) && decide (gcdI q p = 1))))) S := by
  rw [call_eq hP rfl]
  have hw : okS [110, 117, 109] = true := rfl
  rw [show wNum = .str [110, 117, 109] from rfl, isv_word hP hw (by decide) (by decide) (by decide) (by decide)]
  generalize hds : [D.int q, D.int p] = ds
  have ix : evalE P (callK P (k + 1)) (mkK P (k + 1)) (.ix (.loc 0) (.con (.int 0))) [some (.tup (.str [110, 117, 109] :: ds))] S = .ok (.str [110, 117, 109]) S := e_ix (e_loc rfl (fun _ _ e => by cases e)) e_con atI0
  have i1 : evalE P (callK P (k + 1)) (mkK P (k + 1)) (.ix (.loc 0) (.con (.int 1))) [some (.tup (.str [110, 117, 109] :: ds))] S = .ok (.int q) S := isv_ix (by rw [← hds]; rfl)
  have i2 : evalE P (callK P (k + 1)) (mkK P (k + 1)) (.ix (.loc 0) (.con (.int 2))) [some (.tup (.str [110, 117, 109] :: ds))] S = .ok (.int p) S := isv_ix2 hds.symm
  have c1 : evT P (callK P (k + 1)) (mkK P (k + 1)) (.cmp .ne (.ix (.loc 0) (.con (.int 0))) (.con (.str [110, 117, 109]))) [some (.tup (.str [110, 117, 109] :: ds))] S = .ok false S := t_cmp ix e_con (by simp only [cmpV]; rw [eqD_str rfl rfl]; rfl)
  have c2 : evT P (callK P (k + 1)) (mkK P (k + 1)) (.cmp .ne (.bi .len (.loc 0)) (.con (.int 3))) [some (.tup (.str [110, 117, 109] :: ds))] S = .ok false S := t_cmp isv_len e_con (by simp only [cmpV]; rw [eqD_int, ← hds]; rfl)
  have w1 := (e_call (cl := callK P (k + 1)) (mk := mkK P (k + 1)) (f := fw) (es_cons i1 es_nil)).trans (whole_ok (k := k) (S := S) hW (x := .int q) True.intro)
  have w2 := (e_call (cl := callK P (k + 1)) (mk := mkK P (k + 1)) (f := fw) (es_cons i2 es_nil)).trans (whole_ok (k := k) (S := S) hW (x := .int p) True.intro)
  have c3 := t_not (t_call w1)
  have c4 := t_not (t_call w2)
  have cc := t_orF c1 (t_orF c2 (t_orF c3 c4))
  have a1 : evalE P (callK P (k + 1)) (mkK P (k + 1)) (.bi .abs (.ix (.loc 0) (.con (.int 1)))) [some (.tup (.str [110, 117, 109] :: ds))] S = .ok (.int (q.natAbs : Int)) S := (e_bi i1).trans (by simp only [biV, abs_eq])
  have hr : evalE P (callK P (k + 1)) (mkK P (k + 1)) (.and_ (.cmp2 .lt .lt (.con (.int 0)) (.ix (.loc 0) (.con (.int 2))) (.con (.int 115792089237316195423570985008687907853269984665640564039457584007913129639936))) (.and_ (.cmp .lt (.bi .abs (.ix (.loc 0) (.con (.int 1)))) (.con (.int 115792089237316195423570985008687907853269984665640564039457584007913129639936))) (.cmp .eq (.call fc [(.ix (.loc 0) (.con (.int 1))), (.ix (.loc 0) (.con (.int 2)))]) (.con (.int 1))))) [some (.tup (.str [110, 117, 109] :: ds))] S =
      .ok (.bl (decide (0 < p) && (decide (p < most) && (decide ((q.natAbs : Int) < most) && decide (gcdI q p = 1))))) S := by
    have q1 : evalE P (callK P (k + 1)) (mkK P (k + 1)) (.cmp2 .lt .lt (.con (.int 0)) (.ix (.loc 0) (.con (.int 2))) (.con (.int 115792089237316195423570985008687907853269984665640564039457584007913129639936))) [some (.tup (.str [110, 117, 109] :: ds))] S = .ok (.bl (decide (0 < p) && decide (p < most))) S := by
      rw [evalE, e_con]
      simp only [R.bind, i2, cmpR, cmpV, e_con, bl]
      by_cases h : 0 < p
      · rw [decide_eq_true h]; rfl
      · rw [decide_eq_false h]; rfl
    have q2 : evalE P (callK P (k + 1)) (mkK P (k + 1)) (.cmp .lt (.bi .abs (.ix (.loc 0) (.con (.int 1)))) (.con (.int 115792089237316195423570985008687907853269984665640564039457584007913129639936))) [some (.tup (.str [110, 117, 109] :: ds))] S = .ok (.bl (decide ((q.natAbs : Int) < most))) S := e_cmp a1 e_con rfl
    by_cases h1 : (decide (0 < p) && decide (p < most)) = true
    · rw [h1] at q1
      simp only [Bool.and_eq_true, decide_eq_true_eq] at h1
      have q3 := common_ok (k := k) (a := q) (b := p) (S := S) hC hF (by
        have : p.natAbs < 2 ^ 256 := by have := h1.2; unfold most at this; omega
        exact Nat.lt_of_lt_of_le this (Nat.pow_le_pow_right (by decide) (by decide)))
      have q4 : evalE P (callK P (k + 1)) (mkK P (k + 1)) (.cmp .eq (.call fc [(.ix (.loc 0) (.con (.int 1))), (.ix (.loc 0) (.con (.int 2)))]) (.con (.int 1))) [some (.tup (.str [110, 117, 109] :: ds))] S = .ok (.bl (decide (gcdI q p = 1))) S :=
        e_cmp ((e_call (es_cons i1 (es_cons i2 es_nil))).trans q3) e_con eqD_int
      rw [e_andT q1, decide_eq_true h1.1, decide_eq_true h1.2]
      by_cases h2 : (q.natAbs : Int) < most
      · rw [decide_eq_true h2] at q2
        rw [e_andT q2, q4, decide_eq_true h2]; rfl
      · rw [decide_eq_false h2] at q2
        rw [e_andF q2, decide_eq_false h2]; rfl
    · have h1' : (decide (0 < p) && decide (p < most)) = false := by simpa using h1
      rw [h1'] at q1
      rw [e_andF q1, ← Bool.and_assoc, h1']; rfl
  have e : execSs P (callK P (k + 1)) (mkK P (k + 1)) ((dIsValue fw fc ft).body.drop 5) [some (.tup (.str [110, 117, 109] :: ds))] S = .fl (.ret (.bl (decide (0 < p) && (decide (p < most) && (decide ((q.natAbs : Int) < most) && decide (gcdI q p = 1)))))) [some (.tup (.str [110, 117, 109] :: ds))] S :=
    (ss_nx ((s_ifF cc).trans ss_nil)).trans (ss_ret (s_retE hr))
  rw [e]
  show R.ok _ (gc _ _ _) = _
  rw [gc_same]
end
end Mi.Ev
namespace Mi.Ev
open PySem
/-! ### texts -/
def signs : List Nat := [97, 98, 99, 100, 101, 102, 103, 104, 105, 106, 107, 108, 109, 110, 111, 112, 113, 114, 115, 116, 117, 118, 119, 120, 121, 122, 65, 66, 67, 68, 69, 70, 71, 72, 73, 74, 75, 76, 77, 78, 79, 80, 81, 82, 83, 84, 85, 86, 87, 88, 89, 90, 48, 49, 50, 51, 52, 53, 54, 55, 56, 57, 32, 46, 44, 58, 59, 33, 63, 43, 45, 42, 47, 40, 41, 95]
def isText (s : List Nat) : Bool := decide (s.length ≤ 60) && s.all fun c => decide (c ∈ signs)
def dIsText : IDef := ⟨1, 2, [(.ret (.and_ (.isi (.loc 0) (.str)) (.and_ (.cmp .le (.bi .len (.loc 0)) (.con (.int 60))) (.bi .all (.comp .val [(.loc 0)] (.name 1) [1] [] (.cmp .isin (.loc 1) (.con (.str [97, 98, 99, 100, 101, 102, 103, 104, 105, 106, 107, 108, 109, 110, 111, 112, 113, 114, 115, 116, 117, 118, 119, 120, 121, 122, 65, 66, 67, 68, 69, 70, 71, 72, 73, 74, 75, 76, 77, 78, 79, 80, 81, 82, 83, 84, 85, 86, 87, 88, 89, 90, 48, 49, 50, 51, 52, 53, 54, 55, 56, 57, 32, 46, 44, 58, 59, 33, 63, 43, 45, 42, 47, 40, 41, 95]))))))))]⟩
theorem line_eq : line = 16777216 := rfl
def oneC (g : Nat → D) : D → Option D
  | .str [c] => some (g c)
  | _ => none
theorem fm_one {g : Nat → D} : ∀ s : List Nat, (s.map fun c => D.str [c]).filterMap (oneC g) = s.map g
  | [] => rfl
  | c :: s => by
    rw [List.map_cons, List.filterMap_cons_some (f := oneC g) (b := g c) rfl, fm_one s]; rfl
theorem allBl_map {g : Nat → Bool} : ∀ s : List Nat, allBl (s.map fun c => .bl (g c)) = some (s.map g)
  | [] => rfl
  | c :: s => by rw [List.map_cons, allBl, allBl_map s]; rfl
/-- a row made sign by sign -/
theorem e_signs {P : Pg} {cl mk : Cl} {a elt : IE} {i : Nat} {σ : Env} {S : St} {s : List Nat} (g : Nat → D) (h1 : evalE P cl mk a σ S = .ok (.str s) S) (h2 : ∀ c ∈ s, evalE P cl mk elt ((σ.set i none).set i (some (.str [c]))) S = .ok (g c) S) (hl : s.length ≤ line) :
    evalE P cl mk (.comp .val [a] (.name i) [i] [] elt) σ S = .ok (.ref S.length) (S ++ [.lst (s.map g)]) := by
  rw [← fm_one s]
  refine e_comp (oneC g) (es_cons h1 es_nil) rfl rfl (fun d hd => ?_) (by rw [List.length_map]; exact hl)
  obtain ⟨c, hc, rfl⟩ := List.mem_map.mp hd
  exact ⟨_, rfl, .inr ⟨g c, rfl, by rw [evalTs], h2 c hc⟩⟩
theorem text_ok {P : Pg} {k f : Nat} {s : List Nat} {S : St} (hP : P.defs[f]? = some dIsText) (hl : s.length ≤ line) : callK P (k + 1) f [.str s] S = .ok (.bl (isText s)) S := by
  rw [call_eq hP rfl]
  have l0 : evalE P (callK P k) (mkK P k) (.loc 0) [some (.str s), none] S = .ok (.str s) S := e_loc rfl (fun _ _ e => by cases e)
  have q0 : evalE P (callK P k) (mkK P k) (.isi (.loc 0) (.str)) [some (.str s), none] S = .ok (.bl true) S := by simp [execSs, execS, evT, evalT, evalE, evalEs, evalTs, store, stores, setV, truthR, truth, bl, cmpR, cmpV, op2, biV, ixV, pureO, alloc, itV, itemsOf, listOf, still, isiV]
  have q1 : evalE P (callK P k) (mkK P k) (.cmp .le (.bi .len (.loc 0)) (.con (.int 60))) [some (.str s), none] S = .ok (.bl (decide ((s.length : Int) ≤ 60))) S := e_cmp ((e_bi l0).trans (show biV .len (.str s) S = .ok (.int s.length) S by simp only [biV, if_pos hl])) e_con rfl
  have h : ∃ X, execSs P (callK P k) (mkK P k) dIsText.body (startEnv dIsText [.str s]) S = .fl (.ret (.bl (isText s))) [some (.str s), none] (S ++ X) := by
    by_cases hs : s.length ≤ 60
    · rw [decide_eq_true (by omega)] at q1
      refine ⟨[.lst (s.map fun c => .bl (decide (c ∈ signs)))], ss_ret (s_retE ((e_andT q0).trans ((e_andT q1).trans ?_)))⟩
      have hc := e_signs (P := P) (cl := callK P k) (mk := mkK P k) (a := .loc 0) (elt := .cmp .isin (.loc 1) (.con (.str signs))) (i := 1) (S := S) (fun c => .bl (decide (c ∈ signs))) l0 (fun c _ => e_cmp (e_loc rfl (fun _ _ e => by cases e)) e_con rfl) hl
      refine (e_bi hc).trans ?_
      simp only [biV, List.getElem?_append_right (Nat.le_refl _), Nat.sub_self, List.getElem?_cons_zero, allBl_map]
      unfold isText
      rw [decide_eq_true hs, Bool.true_and, List.all_map]
      rfl
    · rw [decide_eq_false (by omega)] at q1
      refine ⟨[], ss_ret (s_retE ((e_andT q0).trans ((e_andF q1).trans ?_)))⟩
      unfold isText
      rw [decide_eq_false hs, List.append_nil]; rfl
  obtain ⟨X, e⟩ := h
  rw [e]
  show R.ok _ (gc _ _ _) = _
  rw [gc_app rfl]
theorem text_no {P : Pg} {k f : Nat} {S : St} {x : D} (hP : P.defs[f]? = some dIsText) (q0 : evalE P (callK P k) (mkK P k) (.isi (.loc 0) (.str)) [some x, none] S = .ok (.bl false) S) : callK P (k + 1) f [x] S = .ok (.bl false) S := by
  rw [call_eq hP rfl]
  have e : execSs P (callK P k) (mkK P k) dIsText.body (startEnv dIsText [x]) S = .fl (.ret (.bl false)) [some x, none] S := ss_ret (s_retE (e_andF q0))
  rw [e]
  show R.ok _ (gc _ _ _) = _
  rw [gc_same]
section
variable {P : Pg} {k f fw fc ft : Nat} {S : St} {w : List Nat} {ds : List D}
theorem isv_t1 {σ : Env} (h : σ = [some (.tup (.str w :: ds))]) : evT P (callK P k) (mkK P k) (.isN (.loc 0)) σ S = .ok false S ∧ evT P (callK P k) (mkK P k) (.or_ (.not_ (.isi (.loc 0) (.tup))) (.or_ (.cmp .eq (.bi .len (.loc 0)) (.con (.int 0))) (.not_ (.isi (.ix (.loc 0) (.con (.int 0))) (.str))))) σ S = .ok false S := by
  subst h
  have len : ((ds.length : Int) + 1 = 0) = False := by simp; omega
  exact ⟨by simp [execSs, execS, evT, evalT, evalE, evalEs, evalTs, store, stores, setV, truthR, truth, bl, cmpR, cmpV, op2, biV, ixV, pureO, alloc, itV, itemsOf, listOf, still], by simp [execSs, execS, evT, evalT, evalE, evalEs, evalTs, store, stores, setV, truthR, truth, bl, cmpR, cmpV, op2, biV, ixV, pureO, alloc, itV, itemsOf, listOf, still, isiV, eqD_int, atI0, len]⟩
theorem isv_i0 : evalE P (callK P k) (mkK P k) (.ix (.loc 0) (.con (.int 0))) [some (.tup (.str w :: ds))] S = .ok (.str w) S := e_ix (e_loc rfl (fun _ _ e => by cases e)) e_con atI0
theorem isv_in (hw : okS w = true) : evT P (callK P k) (mkK P k) (.cmp .isin (.ix (.loc 0) (.con (.int 0))) (.tup [(.con (.str [121, 101, 115])), (.con (.str [110, 111]))])) [some (.tup (.str w :: ds))] S = .ok (decide (w ∈ [[121, 101, 115], [110, 111]])) S :=
  t_cmp isv_i0 (y := .tup [.str [121, 101, 115], .str [110, 111]]) (by simp [execSs, execS, evT, evalT, evalE, evalEs, evalTs, store, stores, setV, truthR, truth, bl, cmpR, cmpV, op2, biV, ixV, pureO, alloc, itV, itemsOf, listOf, still, line]) (isIn_strs (ys := [[121, 101, 115], [110, 111]]) hw (by decide))
theorem isv_yn (hP : P.defs[f]? = some (dIsValue fw fc ft)) (hw : w = [121, 101, 115] ∨ w = [110, 111]) : callK P (k + 1) f [.tup (.str w :: ds)] S = .ok (.bl (decide (ds = []))) S := by
  rw [call_eq hP rfl]
  have ho : okS w = true := by rcases hw with rfl | rfl <;> rfl
  have t3 := isv_in (P := P) (k := k) (S := S) (ds := ds) ho
  rw [decide_eq_true (by rcases hw with rfl | rfl <;> decide)] at t3
  have q : evalE P (callK P k) (mkK P k) (.cmp .eq (.bi .len (.loc 0)) (.con (.int 1))) [some (.tup (.str w :: ds))] S = .ok (.bl (decide (ds = []))) S := e_cmp isv_len e_con (by
    simp only [cmpV, eqD_int]
    cases ds with
    | nil => rfl
    | cons d ds => rw [decide_eq_false (by simp; omega), decide_eq_false (by simp)])
  have e : execSs P (callK P k) (mkK P k) (dIsValue fw fc ft).body (startEnv (dIsValue fw fc ft) [.tup (.str w :: ds)]) S = .fl (.ret (.bl (decide (ds = [])))) [some (.tup (.str w :: ds))] S :=
    (ss_nx ((s_ifF (isv_t1 rfl).1).trans ss_nil)).trans ((ss_nx ((s_ifF (isv_t1 rfl).2).trans ss_nil)).trans (ss_ret ((s_ifT t3).trans (ss_ret (s_retE q)))))
  rw [e]
  show R.ok _ (gc _ _ _) = _
  rw [gc_same]
theorem isv_text {x : D} (hP : P.defs[f]? = some (dIsValue fw fc ft)) {b : Bool} (hT : callK P (k + 1) ft [x] S = .ok (.bl b) S) : callK P (k + 2) f [.tup [.str [116, 101, 120, 116], x]] S = .ok (.bl b) S := by
  rw [call_eq hP rfl]
  generalize hds : [x] = ds
  have t3 := isv_in (P := P) (k := k + 1) (S := S) (ds := ds) (w := [116, 101, 120, 116]) rfl
  rw [decide_eq_false (by decide)] at t3
  have t4 : evT P (callK P (k + 1)) (mkK P (k + 1)) (.cmp .eq (.ix (.loc 0) (.con (.int 0))) (.con (.str [116, 101, 120, 116]))) [some (.tup (.str [116, 101, 120, 116] :: ds))] S = .ok true S := t_cmp isv_i0 e_con (by simp only [cmpV]; rw [eqD_str rfl rfl]; rfl)
  have q1 : evalE P (callK P (k + 1)) (mkK P (k + 1)) (.cmp .eq (.bi .len (.loc 0)) (.con (.int 2))) [some (.tup (.str [116, 101, 120, 116] :: ds))] S = .ok (.bl true) S := e_cmp isv_len e_con (by simp only [cmpV, eqD_int, ← hds]; rfl)
  have q2 := (e_call (cl := callK P (k + 1)) (mk := mkK P (k + 1)) (f := ft) (es_cons (isv_ix (P := P) (k := k + 1) (S := S) (w := [116, 101, 120, 116]) (ds := ds) (x := x) (by rw [← hds]; rfl)) es_nil)).trans hT
  have e : execSs P (callK P (k + 1)) (mkK P (k + 1)) (dIsValue fw fc ft).body (startEnv (dIsValue fw fc ft) [.tup (.str [116, 101, 120, 116] :: ds)]) S = .fl (.ret (.bl b)) [some (.tup (.str [116, 101, 120, 116] :: ds))] S :=
    (ss_nx ((s_ifF (isv_t1 rfl).1).trans ss_nil)).trans ((ss_nx ((s_ifF (isv_t1 rfl).2).trans ss_nil)).trans ((ss_nx ((s_ifF t3).trans ss_nil)).trans (ss_ret ((s_ifT t4).trans (ss_ret (s_retE ((e_andT q1).trans q2)))))))
  rw [e]
  show R.ok _ (gc _ _ _) = _
  rw [gc_same]
def wordsL : List (List Nat) := [[122, 101, 114, 111], [107, 105, 110, 100], [103, 111, 110, 101], [114, 105, 110, 103], [98, 105, 103], [110, 111, 110, 101]]
theorem isv_errs (hP : P.defs[f]? = some (dIsValue fw fc ft)) {b : Bool}
    (hq : evalE P (callK P k) (mkK P k) (.and_ (.cmp .eq (.bi .len (.loc 0)) (.con (.int 2))) (.and_ (.isi (.ix (.loc 0) (.con (.int 1))) (.str)) (.cmp .isin (.ix (.loc 0) (.con (.int 1))) (.con (.tup [(.str [122, 101, 114, 111]), (.str [107, 105, 110, 100]), (.str [103, 111, 110, 101]), (.str [114, 105, 110, 103]), (.str [98, 105, 103]), (.str [110, 111, 110, 101])]))))) [some (.tup (.str [101, 114, 114, 111, 114] :: ds))] S = .ok (.bl b) S) :
    callK P (k + 1) f [.tup (.str [101, 114, 114, 111, 114] :: ds)] S = .ok (.bl b) S := by
  rw [call_eq hP rfl]
  have t3 := isv_in (P := P) (k := k) (S := S) (ds := ds) (w := [101, 114, 114, 111, 114]) rfl
  rw [decide_eq_false (by decide)] at t3
  have t4 : evT P (callK P k) (mkK P k) (.cmp .eq (.ix (.loc 0) (.con (.int 0))) (.con (.str [116, 101, 120, 116]))) [some (.tup (.str [101, 114, 114, 111, 114] :: ds))] S = .ok false S := t_cmp isv_i0 e_con (by simp only [cmpV]; rw [eqD_str rfl rfl]; rfl)
  have t5 : evT P (callK P k) (mkK P k) (.cmp .eq (.ix (.loc 0) (.con (.int 0))) (.con (.str [101, 114, 114, 111, 114]))) [some (.tup (.str [101, 114, 114, 111, 114] :: ds))] S = .ok true S := t_cmp isv_i0 e_con (by simp only [cmpV]; rw [eqD_str rfl rfl]; rfl)
  have e : execSs P (callK P k) (mkK P k) (dIsValue fw fc ft).body (startEnv (dIsValue fw fc ft) [.tup (.str [101, 114, 114, 111, 114] :: ds)]) S = .fl (.ret (.bl b)) [some (.tup (.str [101, 114, 114, 111, 114] :: ds))] S :=
    (ss_nx ((s_ifF (isv_t1 rfl).1).trans ss_nil)).trans ((ss_nx ((s_ifF (isv_t1 rfl).2).trans ss_nil)).trans ((ss_nx ((s_ifF t3).trans ss_nil)).trans ((ss_nx ((s_ifF t4).trans ss_nil)).trans (ss_ret ((s_ifT t5).trans (ss_ret (s_retE hq)))))))
  rw [e]
  show R.ok _ (gc _ _ _) = _
  rw [gc_same]
theorem isv_err {u : List Nat} (hP : P.defs[f]? = some (dIsValue fw fc ft)) (hu : okS u = true) : callK P (k + 1) f [errV u] S = .ok (.bl (decide (u ∈ wordsL))) S := by
  show callK P (k + 1) f [.tup (.str [101, 114, 114, 111, 114] :: [.str u])] S = _
  generalize hds : [D.str u] = ds
  have i1 := isv_ix (P := P) (k := k) (S := S) (w := [101, 114, 114, 111, 114]) (ds := ds) (x := .str u) (by rw [← hds]; rfl)
  have q1 : evalE P (callK P k) (mkK P k) (.cmp .eq (.bi .len (.loc 0)) (.con (.int 2))) [some (.tup (.str [101, 114, 114, 111, 114] :: ds))] S = .ok (.bl true) S := e_cmp isv_len e_con (by simp only [cmpV, eqD_int, ← hds]; rfl)
  have q2 : evalE P (callK P k) (mkK P k) (.isi (.ix (.loc 0) (.con (.int 1))) (.str)) [some (.tup (.str [101, 114, 114, 111, 114] :: ds))] S = .ok (.bl true) S := by rw [evalE, i1]; rfl
  exact isv_errs hP ((e_andT q1).trans ((e_andT q2).trans (e_cmp i1 e_con (isIn_strs (ys := wordsL) hu (by decide)))))
theorem isv_err1 (hP : P.defs[f]? = some (dIsValue fw fc ft)) : callK P (k + 1) f [.tup [.str [101, 114, 114, 111, 114]]] S = .ok (.bl false) S := by
  refine isv_errs hP ?_
  have q1 : evalE P (callK P k) (mkK P k) (.cmp .eq (.bi .len (.loc 0)) (.con (.int 2))) [some (.tup (.str [101, 114, 114, 111, 114] :: []))] S = .ok (.bl false) S := e_cmp isv_len e_con (by simp only [cmpV, eqD_int]; rfl)
  exact e_andF q1
theorem isv_errN (hP : P.defs[f]? = some (dIsValue fw fc ft)) : callK P (k + 1) f [.tup [.str [101, 114, 114, 111, 114], .non]] S = .ok (.bl false) S := by
  generalize hds : [D.non] = ds
  refine isv_errs hP ?_
  have i1 := isv_ix (P := P) (k := k) (S := S) (w := [101, 114, 114, 111, 114]) (ds := ds) (x := .non) (by rw [← hds]; rfl)
  have q1 : evalE P (callK P k) (mkK P k) (.cmp .eq (.bi .len (.loc 0)) (.con (.int 2))) [some (.tup (.str [101, 114, 114, 111, 114] :: ds))] S = .ok (.bl true) S := e_cmp isv_len e_con (by simp only [cmpV, eqD_int, ← hds]; rfl)
  have q2 : evalE P (callK P k) (mkK P k) (.isi (.ix (.loc 0) (.con (.int 1))) (.str)) [some (.tup (.str [101, 114, 114, 111, 114] :: ds))] S = .ok (.bl false) S := by rw [evalE, i1]; rfl
  exact (e_andT q1).trans (e_andF q2)
end
end Mi.Ev
namespace Mi.Ev
open PySem
/-! ### what is shown -/
theorem t_bool {P : Pg} {cl mk : Cl} {e : IE} {σ : Env} {S S1 : St} {q : Bool} (hp : (match e with
    | .not_ _ => false
    | .and_ _ _ => false
    | .or_ _ _ => false
    | .ife _ _ _ => false
    | .cmp _ _ _ => false
    | _ => true) = true) (h : evalE P cl mk e σ S = .ok (.bl q) S1) : evT P cl mk e σ S = .ok q S1 := by
  rw [evT]
  cases e <;> first | (cases hp; done) | (rw [evalT, h]; rfl; all_goals (intros; contradiction)) | skip
  all_goals (rw [evalT, h] <;> first | rfl | (intros; contradiction))
theorem char_lt (c : Char) : c.toNat < 0x110000 := by
  have h := c.valid
  rcases h with h | h
  · have : c.toNat < 0xd800 := h
    omega
  · exact h.2
theorem digits_eq (i : Int) : digits i = (toString i).toList.map Char.toNat := by
  unfold digits
  rw [Str.ofString_eq_toList]
theorem digits_ok (i : Int) : okS (digits i) = true := by
  unfold okS
  rw [digits_eq, List.all_eq_true]
  intro n hn
  obtain ⟨c, _, rfl⟩ := List.mem_map.mp hn
  exact decide_eq_true (char_lt c)
theorem digits_len (i : Int) (h : i.natAbs < 2 ^ 256) : (digits i).length ≤ 100 := by
  rw [digits_eq, List.length_map]
  have hb : (2 : Nat) ^ 256 < 10 ^ 99 := by decide
  cases i with
  | ofNat n =>
    have e : toString (Int.ofNat n) = n.repr := rfl
    rw [e]
    have := (Nat.length_repr_le_iff (n := n) (k := 99) (by decide)).mpr (Nat.lt_trans h hb)
    rw [String.length_toList]
    omega
  | negSucc n =>
    have e : toString (Int.negSucc n) = "-" ++ (n + 1).repr := rfl
    rw [e]
    have := (Nat.length_repr_le_iff (n := n + 1) (k := 99) (by decide)).mpr (Nat.lt_trans h hb)
    rw [String.length_toList, String.length_append]
    have : ("-" : String).length = 1 := rfl
    omega
def dLook (fv : Nat) : IDef := ⟨1, 1, [(.ife (.not_ (.call fv [(.loc 0)])) [(.raise 1 [])] [])]⟩
section
variable {P : Pg} {k f fv fl : Nat} {S : St} {x : D}
theorem look_ok (hP : P.defs[f]? = some (dLook fv)) (hx : ∀ c vs, x ≠ .exc c vs) (h : callK P k fv [x] S = .ok (.bl true) S) : callK P (k + 1) f [x] S = .ok .non S := by
  rw [call_eq hP rfl]
  have c := t_not (t_call ((e_call (mk := mkK P k) (es_cons (e_loc (P := P) (σ := [some x]) (i := 0) rfl hx) es_nil)).trans h))
  have e : execSs P (callK P k) (mkK P k) (dLook fv).body (startEnv (dLook fv) [x]) S = .fl .nx [some x] S := (ss_nx ((s_ifF c).trans ss_nil)).trans ss_nil
  rw [e]
  show R.ok _ (gc _ _ _) = _
  rw [gc_same]
theorem look_no (hP : P.defs[f]? = some (dLook fv)) (hx : ∀ c vs, x ≠ .exc c vs) (h : callK P k fv [x] S = .ok (.bl false) S) : callK P (k + 1) f [x] S = .exc 1 [] S := by
  rw [call_eq hP rfl]
  have c := t_not (t_call ((e_call (mk := mkK P k) (es_cons (e_loc (P := P) (σ := [some x]) (i := 0) rfl hx) es_nil)).trans h))
  have e : execSs P (callK P k) (mkK P k) (dLook fv).body (startEnv (dLook fv) [x]) S = .exc 1 [] [some x] S := by
    show execSs P (callK P k) (mkK P k) [(.ife (.not_ (.call fv [(.loc 0)])) [(.raise 1 [])] [])] [some x] S = _
    rw [execSs, s_ifT c, execSs, execS, evalEs]
    rfl
  rw [e]
  show R.exc _ _ (gcs _ _ _) = _
  rw [gcs_same]
def dShown (fl : Nat) : IDef := ⟨1, 1, [(.ex (.call fl [(.loc 0)])),
  (.ife (.isN (.loc 0)) [(.ret (.con (.str [])))] []),
  (.ife (.cmp .eq (.ix (.loc 0) (.con (.int 0))) (.con (.str [110, 117, 109]))) [(.ret (.ife (.cmp .eq (.ix (.loc 0) (.con (.int 2))) (.con (.int 1))) (.bi .str (.ix (.loc 0) (.con (.int 1)))) (.bin .add (.bin .add (.bi .str (.ix (.loc 0) (.con (.int 1)))) (.con (.str [47]))) (.bi .str (.ix (.loc 0) (.con (.int 2)))))))] []),
  (.ife (.cmp .eq (.ix (.loc 0) (.con (.int 0))) (.con (.str [101, 114, 114, 111, 114]))) [(.ret (.bin .add (.con (.str [35])) (.ix (.loc 0) (.con (.int 1)))))] []),
  (.ret (.ife (.cmp .eq (.ix (.loc 0) (.con (.int 0))) (.con (.str [116, 101, 120, 116]))) (.ix (.loc 0) (.con (.int 1))) (.ix (.loc 0) (.con (.int 0)))))]⟩
def dLShown : IDef := ⟨1, 1, [(.ife (.isN (.loc 0)) [(.ret (.con (.str [])))] []),
  (.ife (.cmp .eq (.ix (.loc 0) (.con (.int 0))) (.con (.str [110, 117, 109]))) [(.ret (.bin .add (.bi .str (.ix (.loc 0) (.con (.int 1)))) (.ife (.cmp .eq (.ix (.loc 0) (.con (.int 2))) (.con (.int 1))) (.con (.str [])) (.bin .add (.con (.str [47])) (.bi .str (.ix (.loc 0) (.con (.int 2))))))))] []),
  (.ret (.ife (.cmp .eq (.ix (.loc 0) (.con (.int 0))) (.con (.str [116, 101, 120, 116]))) (.ix (.loc 0) (.con (.int 1))) (.ife (.cmp .eq (.ix (.loc 0) (.con (.int 0))) (.con (.str [101, 114, 114, 111, 114]))) (.bin .add (.con (.str [35])) (.ix (.loc 0) (.con (.int 1)))) (.ix (.loc 0) (.con (.int 0))))))]⟩
/-- a good value: nothing, a fraction, a text, yes, no -/
inductive Gd : D → Prop
  | non : Gd .non
  | num (q p : Int) (h0 : 0 < p) (h1 : p < most) (h2 : (q.natAbs : Int) < most) (h3 : gcdI q p = 1) : Gd (.tup [wNum, .int q, .int p])
  | text (s : List Nat) (h : isText s = true) : Gd (.tup [.str [116, 101, 120, 116], .str s])
  | yes : Gd (.tup [.str [121, 101, 115]])
  | no : Gd (.tup [.str [110, 111]])
theorem Gd.nx (h : Gd x) : ∀ c vs, x ≠ .exc c vs := by cases h <;> exact fun _ _ e => by cases e
def shV : D → List Nat
  | .tup [_, .int q, .int p] => if p = 1 then digits q else digits q ++ [47] ++ digits p
  | .tup [_, .str s] => s
  | .tup [.str s] => s
  | _ => []
theorem ex_nx {e : IE} {cl mk : Cl} {σ : Env} {S1 : St} {d : D} (h : evalE P cl mk e σ S = .ok d S1) : execS P cl mk (.ex e) σ S = .fl .nx σ S1 := by
  rw [execS, h]; rfl
theorem e_ifeT {cl mk : Cl} {a b c : IE} {σ : Env} {S1 : St} (h : evT P cl mk c σ S = .ok true S1) : evalE P cl mk (.ife c a b) σ S = evalE P cl mk a σ S1 := by
  rw [evalE]; rw [evT] at h; rw [h]; rfl
theorem e_ifeF {cl mk : Cl} {a b c : IE} {σ : Env} {S1 : St} (h : evT P cl mk c σ S = .ok false S1) : evalE P cl mk (.ife c a b) σ S = evalE P cl mk b σ S1 := by
  rw [evalE]; rw [evT] at h; rw [h]; rfl
theorem isText_small {s : List Nat} (h : isText s = true) : s.length ≤ 60 ∧ okS s = true := by
  unfold isText at h
  rw [Bool.and_eq_true, decide_eq_true_eq, List.all_eq_true] at h
  refine ⟨h.1, ?_⟩
  unfold okS
  rw [List.all_eq_true]
  intro c hc
  have := h.2 c hc
  rw [decide_eq_true_eq] at this
  have big : ∀ c ∈ signs, c < 0x110000 := by decide
  exact decide_eq_true (big c this)
theorem big256 {q : Int} (h : (q.natAbs : Int) < most) : q.natAbs < 2 ^ 256 := by unfold most at h; omega
theorem str_ok {q : Int} (h : (q.natAbs : Int) < most) : biV .str (.int q) S = .ok (.str (digits q)) S := by
  have := log_le (n := 255) (big256 h)
  simp only [biV]
  rw [if_pos (by omega)]
theorem sh_isN {w : List Nat} {ds : List D} {cl mk : Cl} : evT P cl mk (.isN (.loc 0)) [some (.tup (.str w :: ds))] S = .ok false S := by simp [execSs, execS, evT, evalT, evalE, evalEs, evalTs, store, stores, setV, truthR, truth, bl, cmpR, cmpV, op2, biV, ixV, pureO, alloc, itV, itemsOf, listOf, still]
theorem sh_c {w u : List Nat} {ds : List D} (hw : okS w = true) (hu : okS u = true) : evT P (callK P k) (mkK P k) (.cmp .eq (.ix (.loc 0) (.con (.int 0))) (.con (.str u))) [some (.tup (.str w :: ds))] S = .ok (decide (w = u)) S :=
  t_cmp isv_i0 e_con (by simp only [cmpV]; rw [eqD_str hw hu])
theorem add_str {a b : List Nat} (h : a.length + b.length ≤ line) : op2 .add (.str a) (.str b) S = .ok (.str (a ++ b)) S := by
  simp only [op2]; rw [if_pos h]
theorem shown_body (hx : Gd x) : execSs P (callK P k) (mkK P k) ((dShown fl).body.drop 1) [some x] S = .fl (.ret (.str (shV x))) [some x] S := by
  cases hx with
  | non => exact ss_ret ((s_ifT (by simp [execSs, execS, evT, evalT, evalE, evalEs, evalTs, store, stores, setV, truthR, truth, bl, cmpR, cmpV, op2, biV, ixV, pureO, alloc, itV, itemsOf, listOf, still])).trans (ss_ret (s_retE e_con)))
  | num q p h0 h1 h2 h3 =>
    have hp : (p.natAbs : Int) < most := by omega
    generalize hds : [D.int q, D.int p] = ds
    have i1 := isv_ix (P := P) (k := k) (S := S) (w := [110, 117, 109]) (ds := ds) (x := .int q) (by rw [← hds]; rfl)
    have i2 := isv_ix2 (P := P) (k := k) (S := S) (w := [110, 117, 109]) (ds := ds) (x := .int q) (y := .int p) hds.symm
    have c1 := sh_c (P := P) (k := k) (S := S) (w := [110, 117, 109]) (u := [110, 117, 109]) (ds := ds) rfl rfl
    have l1 := digits_len q (big256 h2)
    have l2 := digits_len p (big256 hp)
    have s1 := (e_bi (o := Bi.str) i1).trans (str_ok h2)
    have s2 := (e_bi (o := Bi.str) i2).trans (str_ok hp)
    refine (ss_nx ((s_ifF sh_isN).trans ss_nil)).trans (ss_ret ((s_ifT c1).trans (ss_ret (s_retE ?_))))
    have c2 : evT P (callK P k) (mkK P k) (.cmp .eq (.ix (.loc 0) (.con (.int 2))) (.con (.int 1))) [some (.tup (.str [110, 117, 109] :: ds))] S = .ok (decide (p = 1)) S := t_cmp i2 e_con eqD_int
    rw [show shV (.tup (wNum :: ds)) = (if p = 1 then digits q else digits q ++ [47] ++ digits p) by rw [← hds]; rfl]
    by_cases hp1 : p = 1
    · rw [decide_eq_true hp1] at c2
      rw [if_pos hp1]
      exact (e_ifeT c2).trans s1
    · rw [decide_eq_false hp1] at c2
      rw [if_neg hp1]
      refine (e_ifeF c2).trans ((e_bin ((e_bin s1 e_con).trans (add_str ?_)) s2).trans (add_str ?_))
      · rw [line_eq]; simp only [List.length_cons, List.length_nil]; omega
      · rw [line_eq]; simp only [List.length_append, List.length_cons, List.length_nil]; omega
  | text s h =>
    have c1 := sh_c (P := P) (k := k) (S := S) (w := [116, 101, 120, 116]) (u := [110, 117, 109]) (ds := [.str s]) rfl rfl
    have c2 := sh_c (P := P) (k := k) (S := S) (w := [116, 101, 120, 116]) (u := [101, 114, 114, 111, 114]) (ds := [.str s]) rfl rfl
    have c3 := sh_c (P := P) (k := k) (S := S) (w := [116, 101, 120, 116]) (u := [116, 101, 120, 116]) (ds := [.str s]) rfl rfl
    exact (ss_nx ((s_ifF sh_isN).trans ss_nil)).trans ((ss_nx ((s_ifF c1).trans ss_nil)).trans ((ss_nx ((s_ifF c2).trans ss_nil)).trans (ss_ret (s_retE ((e_ifeT c3).trans (isv_ix rfl))))))
  | yes =>
    have c1 := sh_c (P := P) (k := k) (S := S) (w := [121, 101, 115]) (u := [110, 117, 109]) (ds := []) rfl rfl
    have c2 := sh_c (P := P) (k := k) (S := S) (w := [121, 101, 115]) (u := [101, 114, 114, 111, 114]) (ds := []) rfl rfl
    have c3 := sh_c (P := P) (k := k) (S := S) (w := [121, 101, 115]) (u := [116, 101, 120, 116]) (ds := []) rfl rfl
    exact (ss_nx ((s_ifF sh_isN).trans ss_nil)).trans ((ss_nx ((s_ifF c1).trans ss_nil)).trans ((ss_nx ((s_ifF c2).trans ss_nil)).trans (ss_ret (s_retE ((e_ifeF c3).trans isv_i0)))))
  | no =>
    have c1 := sh_c (P := P) (k := k) (S := S) (w := [110, 111]) (u := [110, 117, 109]) (ds := []) rfl rfl
    have c2 := sh_c (P := P) (k := k) (S := S) (w := [110, 111]) (u := [101, 114, 114, 111, 114]) (ds := []) rfl rfl
    have c3 := sh_c (P := P) (k := k) (S := S) (w := [110, 111]) (u := [116, 101, 120, 116]) (ds := []) rfl rfl
    exact (ss_nx ((s_ifF sh_isN).trans ss_nil)).trans ((ss_nx ((s_ifF c1).trans ss_nil)).trans ((ss_nx ((s_ifF c2).trans ss_nil)).trans (ss_ret (s_retE ((e_ifeF c3).trans isv_i0)))))
theorem shown_ok (hP : P.defs[f]? = some (dShown fl)) (hx : Gd x) (h : callK P k fl [x] S = .ok .non S) : callK P (k + 1) f [x] S = .ok (.str (shV x)) S := by
  rw [call_eq hP rfl]
  have e : execSs P (callK P k) (mkK P k) (dShown fl).body (startEnv (dShown fl) [x]) S = .fl (.ret (.str (shV x))) [some x] S :=
    (ss_nx (ex_nx ((e_call (mk := mkK P k) (es_cons (e_loc (P := P) (σ := [some x]) (i := 0) rfl hx.nx) es_nil)).trans h))).trans (shown_body (fl := fl) hx)
  rw [e]
  show R.ok _ (gc _ _ _) = _
  rw [gc_same]
theorem shown_no {c : Nat} {vs : List D} (hP : P.defs[f]? = some (dShown fl)) (hx : ∀ c vs, x ≠ .exc c vs) (h : callK P k fl [x] S = .exc c vs S) : callK P (k + 1) f [x] S = .exc c vs S := by
  rw [call_eq hP rfl]
  have e : execSs P (callK P k) (mkK P k) (dShown fl).body (startEnv (dShown fl) [x]) S = .exc c vs [some x] S := by
    show execSs P (callK P k) (mkK P k) ((.ex (.call fl [(.loc 0)])) :: (dShown fl).body.drop 1) [some x] S = _
    rw [execSs, execS, e_call (es_cons (e_loc (P := P) (σ := [some x]) (i := 0) rfl hx) es_nil), h]
    rfl
  rw [e]
  show R.exc _ _ (gcs _ _ _) = _
  rw [gcs_same]
theorem lshown_ok (hP : P.defs[f]? = some dLShown) (hx : Gd x) : callK P (k + 1) f [x] S = .ok (.str (shV x)) S := by
  rw [call_eq hP rfl]
  have e : execSs P (callK P k) (mkK P k) dLShown.body (startEnv dLShown [x]) S = .fl (.ret (.str (shV x))) [some x] S := by
    show execSs P (callK P k) (mkK P k) dLShown.body [some x] S = _
    cases hx with
    | non => exact ss_ret ((s_ifT (by simp [execSs, execS, evT, evalT, evalE, evalEs, evalTs, store, stores, setV, truthR, truth, bl, cmpR, cmpV, op2, biV, ixV, pureO, alloc, itV, itemsOf, listOf, still])).trans (ss_ret (s_retE e_con)))
    | num q p h0 h1 h2 h3 =>
      have hp : (p.natAbs : Int) < most := by omega
      generalize hds : [D.int q, D.int p] = ds
      have i1 := isv_ix (P := P) (k := k) (S := S) (w := [110, 117, 109]) (ds := ds) (x := .int q) (by rw [← hds]; rfl)
      have i2 := isv_ix2 (P := P) (k := k) (S := S) (w := [110, 117, 109]) (ds := ds) (x := .int q) (y := .int p) hds.symm
      have c1 := sh_c (P := P) (k := k) (S := S) (w := [110, 117, 109]) (u := [110, 117, 109]) (ds := ds) rfl rfl
      have l1 := digits_len q (big256 h2)
      have l2 := digits_len p (big256 hp)
      have s1 := (e_bi (o := Bi.str) i1).trans (str_ok h2)
      have s2 := (e_bi (o := Bi.str) i2).trans (str_ok hp)
      refine (ss_nx ((s_ifF sh_isN).trans ss_nil)).trans (ss_ret ((s_ifT c1).trans (ss_ret (s_retE ?_))))
      have c2 : evT P (callK P k) (mkK P k) (.cmp .eq (.ix (.loc 0) (.con (.int 2))) (.con (.int 1))) [some (.tup (.str [110, 117, 109] :: ds))] S = .ok (decide (p = 1)) S := t_cmp i2 e_con eqD_int
      rw [show shV (.tup (wNum :: ds)) = (if p = 1 then digits q else digits q ++ [47] ++ digits p) by rw [← hds]; rfl]
      by_cases hp1 : p = 1
      · rw [decide_eq_true hp1] at c2
        rw [if_pos hp1]
        refine (e_bin s1 ((e_ifeT c2).trans e_con)).trans ((add_str ?_).trans (by rw [List.append_nil]))
        rw [line_eq]; simp only [List.length_nil]; omega
      · rw [decide_eq_false hp1] at c2
        rw [if_neg hp1]
        refine (e_bin s1 ((e_ifeF c2).trans ((e_bin e_con s2).trans (add_str ?_)))).trans ((add_str ?_).trans (by rw [List.append_assoc]))
        · rw [line_eq]; simp only [List.length_cons, List.length_nil]; omega
        · rw [line_eq]; simp only [List.length_append, List.length_cons, List.length_nil]; omega
    | text s h =>
      have c1 := sh_c (P := P) (k := k) (S := S) (w := [116, 101, 120, 116]) (u := [110, 117, 109]) (ds := [.str s]) rfl rfl
      have c3 := sh_c (P := P) (k := k) (S := S) (w := [116, 101, 120, 116]) (u := [116, 101, 120, 116]) (ds := [.str s]) rfl rfl
      exact (ss_nx ((s_ifF sh_isN).trans ss_nil)).trans ((ss_nx ((s_ifF c1).trans ss_nil)).trans (ss_ret (s_retE ((e_ifeT c3).trans (isv_ix rfl)))))
    | yes =>
      have c1 := sh_c (P := P) (k := k) (S := S) (w := [121, 101, 115]) (u := [110, 117, 109]) (ds := []) rfl rfl
      have c2 := sh_c (P := P) (k := k) (S := S) (w := [121, 101, 115]) (u := [101, 114, 114, 111, 114]) (ds := []) rfl rfl
      have c3 := sh_c (P := P) (k := k) (S := S) (w := [121, 101, 115]) (u := [116, 101, 120, 116]) (ds := []) rfl rfl
      exact (ss_nx ((s_ifF sh_isN).trans ss_nil)).trans ((ss_nx ((s_ifF c1).trans ss_nil)).trans (ss_ret (s_retE ((e_ifeF c3).trans ((e_ifeF c2).trans isv_i0)))))
    | no =>
      have c1 := sh_c (P := P) (k := k) (S := S) (w := [110, 111]) (u := [110, 117, 109]) (ds := []) rfl rfl
      have c2 := sh_c (P := P) (k := k) (S := S) (w := [110, 111]) (u := [101, 114, 114, 111, 114]) (ds := []) rfl rfl
      have c3 := sh_c (P := P) (k := k) (S := S) (w := [110, 111]) (u := [116, 101, 120, 116]) (ds := []) rfl rfl
      exact (ss_nx ((s_ifF sh_isN).trans ss_nil)).trans ((ss_nx ((s_ifF c1).trans ss_nil)).trans (ss_ret (s_retE ((e_ifeF c3).trans ((e_ifeF c2).trans isv_i0)))))
  rw [e]
  show R.ok _ (gc _ _ _) = _
  rw [gc_same]
end
end Mi.Ev
namespace Mi.Ev
open PySem
/-! ### the order -/
def idxs (s : List Nat) : List Int := s.map fun c => ((idx c signs).getD 0 : Nat)
def rkV : D → Int
  | .tup [_, .int _, .int _] => 1
  | .tup [_, .str _] => 2
  | .tup [.str [110, 111]] => 3
  | .tup [.str [121, 101, 115]] => 4
  | _ => 0
def idV : D → List Int
  | .tup [_, .str s] => idxs s
  | _ => []
def pyI (l : List Int) : PyData := .list (l.map .int)
def lessV (x y : D) : Bool := match x, y with
  | .tup [_, .int q, .int p], .tup [_, .int q', .int p'] => decide (q * p' < q' * p)
  | x, y => decide (rkV x < rkV y) || (decide (rkV x = rkV y) && W.dataLt (pyI (idV x)) (pyI (idV y)))
theorem pys_ints {rf : Nat → Option PyData} : ∀ l : List Int, D.pys rf (l.map .int) = some (l.map .int)
  | [] => by simp only [List.map_nil, D.pys]
  | y :: ys => by simp only [List.map_cons, D.pys, D.py, pys_ints ys, Option.bind_some, Option.map_some]
theorem lay_ints : ∀ l : List Int, PyData.canLayAll0 (l.map .int) = true ∧ PyData.depthAll (l.map .int) = 0
  | [] => by simp [PyData.canLayAll0, PyData.depthAll]
  | y :: ys => by
    obtain ⟨h1, h2⟩ := lay_ints ys
    simp [PyData.canLayAll0, PyData.depthAll, PyData.canLay0, PyData.depth, h1, h2]
theorem alike_ints : ∀ l m : List Int, W.alikeAll (l.map .int) (m.map .int) = true
  | [], m => by simp [W.alikeAll]
  | a :: l, [] => by simp [W.alikeAll]
  | a :: l, b :: m => by simp [W.alikeAll, W.alike, alike_ints l m]
theorem shaped_ints (l : List Int) : SeqAt.shaped (pyI l) = true := by
  obtain ⟨h1, h2⟩ := lay_ints l
  unfold SeqAt.shaped pyI
  rw [Bool.and_eq_true]
  exact ⟨by simp only [PyData.canLay0]; exact h1, by simp [PyData.depth, h2]⟩
theorem py_ref {S : St} {i n : Nat} {l : List Int} (h : S[i]? = some (.lst (l.map .int))) : D.py (pyRef (n + 1) S) (.ref i) = some (pyI l) := by
  rw [D.py, pyRef, h]
  simp only [pys_ints, Option.map_some]
  rfl
theorem toPy_ints {S : St} {i : Nat} {l : List Int} (h : S[i]? = some (.lst (l.map .int))) : toPy S (.ref i) = some (pyI l) := by
  unfold toPy
  rw [py_ref h]
  simp only [Option.bind_some]
  rw [if_pos (shaped_ints l)]
theorem lt_ints {S : St} {i j : Nat} {l m : List Int} (h : S[i]? = some (.lst (l.map .int))) (g : S[j]? = some (.lst (m.map .int))) : cmpV .lt (.ref i) (.ref j) S = some (W.dataLt (pyI l) (pyI m)) := by
  show ltD S (.ref i) (.ref j) = _
  unfold ltD
  rw [toPy_ints h, toPy_ints g]
  show (if W.alike (pyI l) (pyI m) = true then _ else _) = _
  rw [if_pos (by simp only [pyI, W.alike]; exact alike_ints l m)]
theorem toPy_pair {S : St} {i : Nat} {l : List Int} {r : Int} (h : S[i]? = some (.lst (l.map .int))) : toPy S (.tup [.int r, .ref i]) = some (.tuple [.int r, pyI l]) := by
  unfold toPy
  simp only [D.py, D.pys]
  rw [show pyRef 6 S i = some (pyI l) from py_ref (n := 5) h]
  simp only [Option.bind_some, Option.map_some]
  rw [if_pos]
  obtain ⟨h1, h2⟩ := lay_ints l
  unfold SeqAt.shaped
  rw [Bool.and_eq_true]
  exact ⟨by simp [PyData.canLay0, PyData.canLayAll0, pyI, h1], by simp [PyData.depth, PyData.depthAll, pyI, h2]⟩
theorem lt_irr (t : List (Int ⊕ List Nat)) : PyProof.Rows.lexLt PyProof.Rows.itemOrd t t = false := by
  have := W.lex_pre t [] []
  rw [List.append_nil] at this
  rw [this]; rfl
theorem lt_pair {r r' : Int} {l m : List Int} : W.dataLt (.tuple [.int r, pyI l]) (.tuple [.int r', pyI m]) = (decide (r < r') || (decide (r = r') && W.dataLt (pyI l) (pyI m))) := by
  have tk : ∀ (r : Int) (L : PyData), W.keyToks (.tuple [.int r, L]) = [.inl 1] ++ (.inl r :: (.inl 1 :: (W.keyToks L ++ [.inl 0]))) := by
    intro r L
    simp only [W.keyToks, W.keyToksAll]
    rfl
  unfold W.dataLt
  rw [tk, tk, W.lex_pre]
  by_cases h : r = r'
  · subst h
    rw [show (Sum.inl r :: (Sum.inl 1 :: (W.keyToks (pyI l) ++ [.inl 0])) : List (Int ⊕ List Nat)) = [.inl r, .inl 1] ++ (W.keyToks (pyI l) ++ [.inl 0]) from rfl,
      show (Sum.inl r :: (Sum.inl 1 :: (W.keyToks (pyI m) ++ [.inl 0])) : List (Int ⊕ List Nat)) = [.inl r, .inl 1] ++ (W.keyToks (pyI m) ++ [.inl 0]) from rfl, W.lex_pre]
    simp only [Int.lt_irrefl, decide_false, Bool.false_or, decide_true, Bool.true_and]
    obtain ⟨h1, h2⟩ := W.toks_eqv (pyI l) (pyI m) (by simp only [pyI, W.alike]; exact alike_ints l m)
    cases e : PyData.eqv (pyI l) (pyI m) with
    | true => rw [h1 e, lt_irr, lt_irr]
    | false => exact h2 e _ _
  · rw [W.lex_atom (by simpa using h), W.lex_one, decide_eq_false h, Bool.false_and, Bool.or_false]
    rfl
theorem lt_pairs {S : St} {i j : Nat} {l m : List Int} {r r' : Int} (h : S[i]? = some (.lst (l.map .int))) (g : S[j]? = some (.lst (m.map .int))) : cmpV .lt (.tup [.int r, .ref i]) (.tup [.int r', .ref j]) S = some (decide (r < r') || (decide (r = r') && W.dataLt (pyI l) (pyI m))) := by
  show ltD S (.tup [.int r, .ref i]) (.tup [.int r', .ref j]) = _
  unfold ltD
  rw [toPy_pair h, toPy_pair g]
  show (if W.alike (.tuple [.int r, pyI l]) (.tuple [.int r', pyI m]) = true then _ else _) = _
  rw [if_pos (by simp [pyI, W.alike, W.alikeAll, alike_ints l m]), lt_pair]
theorem idx_some {c : Nat} : ∀ {l : List Nat}, c ∈ l → ∃ k, idx c l = some k
  | a :: l, h => by
    unfold idx
    by_cases e : a = c
    · exact ⟨0, if_pos e⟩
    · rcases List.mem_cons.mp h with z | z
      · exact absurd z.symm e
      · obtain ⟨k, hk⟩ := idx_some z
        exact ⟨k + 1, by rw [if_neg e, hk]; rfl⟩
/-- the places of a text's signs -/
theorem e_idxs {P : Pg} {cl mk : Cl} {a b : IE} {i : Nat} {σ : Env} {S : St} {s : List Nat} (hs : isText s = true) (h1 : evalE P cl mk a σ S = .ok (.str s) S) (hi : i < σ.length) (hb : ∀ c, evalE P cl mk b ((σ.set i none).set i (some (.str [c]))) S = .ok (.str signs) S) :
    evalE P cl mk (.comp .val [a] (.name i) [i] [] (.bm .sindex b [.loc i])) σ S = .ok (.ref S.length) (S ++ [.lst ((idxs s).map .int)]) := by
  have e : (idxs s).map D.int = s.map fun c => .int ((idx c signs).getD 0 : Nat) := by unfold idxs; rw [List.map_map]; rfl
  rw [e]
  have hl := (isText_small hs).1
  refine e_signs _ h1 (fun c hc => ?_) (by rw [line_eq]; omega)
  have hm : c ∈ signs := by
    unfold isText at hs
    rw [Bool.and_eq_true, List.all_eq_true] at hs
    exact of_decide_eq_true (hs.2 c hc)
  obtain ⟨k, hk⟩ := idx_some hm
  rw [evalE, hb]
  have l1 : evalE P cl mk (.loc i) ((σ.set i none).set i (some (.str [c]))) S = .ok (.str [c]) S := e_loc (by rw [List.getElem?_set_self (by simpa using hi)]) (fun _ _ e => by cases e)
  simp only [R.bind, bmT, if_true, es_cons l1 es_nil, bmV, hk, Option.getD_some]
def dRank : IDef := ⟨1, 1, [(.ife (.isN (.loc 0)) [(.ret (.con (.int 0)))] []),
  (.ret (.ix (.dic [(.con (.str [110, 117, 109])), (.con (.int 1)), (.con (.str [116, 101, 120, 116])), (.con (.int 2)), (.con (.str [110, 111])), (.con (.int 3)), (.con (.str [121, 101, 115])), (.con (.int 4))]) (.ix (.loc 0) (.con (.int 0)))))]⟩
section
variable {P : Pg} {k f fr : Nat} {S : St} {x y : D}
theorem isv_i0' {T : St} {w : List Nat} {ds : List D} {r : List (Option D)} : evalE P (callK P k) (mkK P k) (.ix (.loc 0) (.con (.int 0))) (some (.tup (.str w :: ds)) :: r) T = .ok (.str w) T := e_ix (e_loc rfl (fun _ _ e => by cases e)) e_con atI0
theorem look_dct {T : St} {m : List (D × D)} {w : List Nat} {d : D} (h : look (.str w) m = some d) : ixV (T ++ [.dct m]) (.ref T.length) (.str w) = some d := by
  simp only [ixV, List.getElem?_append_right (Nat.le_refl _), Nat.sub_self, List.getElem?_cons_zero, isKey, if_true, h]
def m4 : List (D × D) := [(.str [110, 117, 109], .int 1), (.str [116, 101, 120, 116], .int 2), (.str [110, 111], .int 3), (.str [121, 101, 115], .int 4)]
def m3 : List (D × D) := [(.str [110, 117, 109], .int 1), (.str [110, 111], .int 3), (.str [121, 101, 115], .int 4)]
theorem e_m4 {σ : Env} : evalE P (callK P k) (mkK P k) (.dic [(.con (.str [110, 117, 109])), (.con (.int 1)), (.con (.str [116, 101, 120, 116])), (.con (.int 2)), (.con (.str [110, 111])), (.con (.int 3)), (.con (.str [121, 101, 115])), (.con (.int 4))]) σ S = .ok (.ref S.length) (S ++ [.dct m4]) := by
  rw [evalE, es_cons e_con (es_cons e_con (es_cons e_con (es_cons e_con (es_cons e_con (es_cons e_con (es_cons e_con (es_cons e_con es_nil)))))))]
  rfl
theorem e_m3 {σ : Env} : evalE P (callK P k) (mkK P k) (.dic [(.con (.str [110, 117, 109])), (.con (.int 1)), (.con (.str [110, 111])), (.con (.int 3)), (.con (.str [121, 101, 115])), (.con (.int 4))]) σ S = .ok (.ref S.length) (S ++ [.dct m3]) := by
  rw [evalE, es_cons e_con (es_cons e_con (es_cons e_con (es_cons e_con (es_cons e_con (es_cons e_con es_nil)))))]
  rfl
theorem e_notN {e : IE} {σ : Env} {cl mk : Cl} {S1 : St} (h : evalE P cl mk e σ S = .ok x S1) : evalE P cl mk (.notN e) σ S = .ok (.bl (!decide (x = .non))) S1 := by
  rw [evalE, h]; rfl
theorem t_notN {e : IE} {σ : Env} {cl mk : Cl} {S1 : St} (h : evalE P cl mk e σ S = .ok x S1) : evT P cl mk (.notN e) σ S = .ok (!decide (x = .non)) S1 := t_bool rfl (e_notN h)
theorem t_isN {e : IE} {σ : Env} {cl mk : Cl} {S1 : St} (h : evalE P cl mk e σ S = .ok x S1) : evT P cl mk (.isN e) σ S = .ok (decide (x = .non)) S1 := t_bool rfl (by rw [evalE, h]; rfl)
theorem rank_ok (hP : P.defs[f]? = some dRank) (hx : Gd x) : callK P (k + 1) f [x] S = .ok (.int (rkV x)) S := by
  rw [call_eq hP rfl]
  have h : ∃ X, execSs P (callK P k) (mkK P k) dRank.body (startEnv dRank [x]) S = .fl (.ret (.int (rkV x))) [some x] (S ++ X) := by
    have l0 : evalE P (callK P k) (mkK P k) (.loc 0) [some x] S = .ok x S := e_loc rfl hx.nx
    have c0 := t_isN l0
    cases hx with
    | non => exact ⟨[], by rw [List.append_nil]; exact ss_ret ((s_ifT c0).trans (ss_ret (s_retE e_con)))⟩
    | num q p h0 h1 h2 h3 => exact ⟨[.dct m4], (ss_nx ((s_ifF c0).trans ss_nil)).trans (ss_ret (s_retE (e_ix e_m4 isv_i0' (look_dct rfl))))⟩
    | text s h => exact ⟨[.dct m4], (ss_nx ((s_ifF c0).trans ss_nil)).trans (ss_ret (s_retE (e_ix e_m4 isv_i0' (look_dct rfl))))⟩
    | yes => exact ⟨[.dct m4], (ss_nx ((s_ifF c0).trans ss_nil)).trans (ss_ret (s_retE (e_ix e_m4 isv_i0' (look_dct rfl))))⟩
    | no => exact ⟨[.dct m4], (ss_nx ((s_ifF c0).trans ss_nil)).trans (ss_ret (s_retE (e_ix e_m4 isv_i0' (look_dct rfl))))⟩
  obtain ⟨X, e⟩ := h
  rw [e]
  show R.ok _ (gc _ _ _) = _
  rw [gc_app rfl]
def dLRank : IDef := ⟨1, 3, [(.asg (.name 1) (.con (.str [97, 98, 99, 100, 101, 102, 103, 104, 105, 106, 107, 108, 109, 110, 111, 112, 113, 114, 115, 116, 117, 118, 119, 120, 121, 122, 65, 66, 67, 68, 69, 70, 71, 72, 73, 74, 75, 76, 77, 78, 79, 80, 81, 82, 83, 84, 85, 86, 87, 88, 89, 90, 48, 49, 50, 51, 52, 53, 54, 55, 56, 57, 32, 46, 44, 58, 59, 33, 63, 43, 45, 42, 47, 40, 41, 95]))),
  (.ife (.isN (.loc 0)) [(.ret (.tup [(.con (.int 0)), (.lst [])]))] []),
  (.ife (.cmp .eq (.ix (.loc 0) (.con (.int 0))) (.con (.str [116, 101, 120, 116]))) [(.ret (.tup [(.con (.int 2)), (.comp .val [(.ix (.loc 0) (.con (.int 1)))] (.name 2) [2] [] (.bm .sindex (.loc 1) [(.loc 2)]))]))] []),
  (.ret (.tup [(.ix (.dic [(.con (.str [110, 117, 109])), (.con (.int 1)), (.con (.str [110, 111])), (.con (.int 3)), (.con (.str [121, 101, 115])), (.con (.int 4))]) (.ix (.loc 0) (.con (.int 0)))), (.lst [])]))]⟩
theorem e_lst0 {σ : Env} : evalE P (callK P k) (mkK P k) (.lst []) σ S = .ok (.ref S.length) (S ++ [.lst []]) := by
  rw [evalE, es_nil]; rfl
theorem e_tup2 {a b : IE} {σ : Env} {cl mk : Cl} {S1 S2 : St} (h1 : evalE P cl mk a σ S = .ok x S1) (h2 : evalE P cl mk b σ S1 = .ok y S2) : evalE P cl mk (.tup [a, b]) σ S = .ok (.tup [x, y]) S2 := by
  rw [evalE, es_cons h1 (es_cons h2 es_nil)]; rfl
theorem lrank_ok (hP : P.defs[f]? = some dLRank) (hx : Gd x) : ∃ X i, callK P (k + 1) f [x] S = .ok (.tup [.int (rkV x), .ref i]) (S ++ X) ∧ (S ++ X)[i]? = some (.lst ((idV x).map .int)) := by
  rw [call_eq hP rfl]
  have h : ∃ X i σ', execSs P (callK P k) (mkK P k) dLRank.body (startEnv dLRank [x]) S = .fl (.ret (.tup [.int (rkV x), .ref i])) σ' (S ++ X) ∧ S.length ≤ i ∧ (S ++ X)[i]? = some (.lst ((idV x).map .int)) := by
    have l0 : ∀ (w : Option D), evalE P (callK P k) (mkK P k) (.loc 0) [some x, some (.str signs), w] S = .ok x S := fun w => e_loc rfl hx.nx
    have c0 := t_isN (l0 none)
    have s0 : execS P (callK P k) (mkK P k) (.asg (.name 1) (.con (.str signs))) [some x, none, none] S = .fl .nx [some x, some (.str signs), none] S := s_asgE e_con
    have fin3 : ∀ (w : List Nat) (ds : List D) (r : Int), okS w = true → w ≠ [116, 101, 120, 116] → look (.str w) m3 = some (.int r) → x = .tup (.str w :: ds) → execSs P (callK P k) (mkK P k) dLRank.body (startEnv dLRank [x]) S = .fl (.ret (.tup [.int r, .ref (S.length + 1)])) [some x, some (.str signs), none] (S ++ [.dct m3, .lst []]) := by
      intro w ds r ho hw hl hx'
      rw [decide_eq_false (by rw [hx']; intro z; cases z)] at c0
      subst hx'
      have c1 : evT P (callK P k) (mkK P k) (.cmp .eq (.ix (.loc 0) (.con (.int 0))) (.con (.str [116, 101, 120, 116]))) [some (.tup (.str w :: ds)), some (.str signs), none] S = .ok false S := t_cmp isv_i0' e_con (by simp only [cmpV]; rw [eqD_str ho rfl, decide_eq_false hw])
      refine (ss_nx s0).trans ((ss_nx ((s_ifF c0).trans ss_nil)).trans ((ss_nx ((s_ifF c1).trans ss_nil)).trans (ss_ret (s_retE ?_))))
      refine (e_tup2 (e_ix e_m3 isv_i0' (look_dct hl)) e_lst0).trans ?_
      simp [List.append_assoc]
    have at3 : (S ++ [MO.dct m3, .lst []])[S.length + 1]? = some (.lst []) := by
      rw [List.getElem?_append_right (by omega), show S.length + 1 - S.length = 1 by omega]; rfl
    cases hx with
    | non =>
      refine ⟨[.lst []], S.length, _, (ss_nx s0).trans (ss_ret ((s_ifT c0).trans (ss_ret (s_retE (e_tup2 e_con e_lst0))))), Nat.le_refl _, ?_⟩
      simp [idV]
    | num q p h0 h1 h2 h3 => exact ⟨_, _, _, fin3 _ _ 1 rfl (by decide) rfl rfl, by omega, at3⟩
    | yes => exact ⟨_, _, _, fin3 _ _ 4 rfl (by decide) rfl rfl, by omega, at3⟩
    | no => exact ⟨_, _, _, fin3 _ _ 3 rfl (by decide) rfl rfl, by omega, at3⟩
    | text s h =>
      have c1 : evT P (callK P k) (mkK P k) (.cmp .eq (.ix (.loc 0) (.con (.int 0))) (.con (.str [116, 101, 120, 116]))) [some (.tup [.str [116, 101, 120, 116], .str s]), some (.str signs), none] S = .ok true S := t_cmp isv_i0' e_con (by simp only [cmpV]; rw [eqD_str rfl rfl]; rfl)
      have i1 : evalE P (callK P k) (mkK P k) (.ix (.loc 0) (.con (.int 1))) [some (.tup [.str [116, 101, 120, 116], .str s]), some (.str signs), none] S = .ok (.str s) S := e_ix (e_loc rfl (fun _ _ e => by cases e)) e_con rfl
      refine ⟨[.lst ((idxs s).map .int)], S.length, _, (ss_nx s0).trans ((ss_nx ((s_ifF c0).trans ss_nil)).trans (ss_ret ((s_ifT c1).trans (ss_ret (s_retE (e_tup2 e_con (e_idxs h i1 (by simp) (fun c => e_loc rfl (fun _ _ e => by cases e))))))))), Nat.le_refl _, ?_⟩
      simp [idV]
  obtain ⟨X, i, σ', e, hi, h⟩ := h
  refine ⟨X, i, ?_, h⟩
  rw [e]
  show R.ok _ (gc _ _ _) = _
  unfold gc
  rw [if_neg]
  have : D.under S.length (.tup [.int (rkV x), .ref i]) = false := by
    simp only [D.under, D.unders, Bool.true_and, Bool.and_true, decide_eq_false_iff_not]
    omega
  rw [this]; simp
end
end Mi.Ev
namespace Mi.Ev
open PySem
/-! ### is_less -/
def dIsLess (fr : Nat) : IDef := ⟨2, 3, [(.ife (.cmp .ne (.call fr [(.loc 0)]) (.call fr [(.loc 1)])) [(.ret (.cmp .lt (.call fr [(.loc 0)]) (.call fr [(.loc 1)])))] []),
  (.ife (.and_ (.notN (.loc 0)) (.cmp .eq (.ix (.loc 0) (.con (.int 0))) (.con (.str [110, 117, 109])))) [(.ret (.cmp .lt (.bin .mul (.ix (.loc 0) (.con (.int 1))) (.ix (.loc 1) (.con (.int 2)))) (.bin .mul (.ix (.loc 1) (.con (.int 1))) (.ix (.loc 0) (.con (.int 2))))))] []),
  (.ife (.and_ (.notN (.loc 0)) (.cmp .eq (.ix (.loc 0) (.con (.int 0))) (.con (.str [116, 101, 120, 116])))) [(.ret (.cmp .lt (.comp .val [(.ix (.loc 0) (.con (.int 1)))] (.name 2) [2] [] (.bm .sindex (.con (.str [97, 98, 99, 100, 101, 102, 103, 104, 105, 106, 107, 108, 109, 110, 111, 112, 113, 114, 115, 116, 117, 118, 119, 120, 121, 122, 65, 66, 67, 68, 69, 70, 71, 72, 73, 74, 75, 76, 77, 78, 79, 80, 81, 82, 83, 84, 85, 86, 87, 88, 89, 90, 48, 49, 50, 51, 52, 53, 54, 55, 56, 57, 32, 46, 44, 58, 59, 33, 63, 43, 45, 42, 47, 40, 41, 95])) [(.loc 2)])) (.comp .val [(.ix (.loc 1) (.con (.int 1)))] (.name 2) [2] [] (.bm .sindex (.con (.str [97, 98, 99, 100, 101, 102, 103, 104, 105, 106, 107, 108, 109, 110, 111, 112, 113, 114, 115, 116, 117, 118, 119, 120, 121, 122, 65, 66, 67, 68, 69, 70, 71, 72, 73, 74, 75, 76, 77, 78, 79, 80, 81, 82, 83, 84, 85, 86, 87, 88, 89, 90, 48, 49, 50, 51, 52, 53, 54, 55, 56, 57, 32, 46, 44, 58, 59, 33, 63, 43, 45, 42, 47, 40, 41, 95])) [(.loc 2)]))))] []),
  (.ret (.con (.bl false)))]⟩
def dLLess (fr : Nat) : IDef := ⟨2, 2, [(.ife (.and_ (.notN (.loc 0)) (.and_ (.notN (.loc 1)) (.and_ (.cmp .eq (.ix (.loc 0) (.con (.int 0))) (.con (.str [110, 117, 109]))) (.cmp .eq (.ix (.loc 1) (.con (.int 0))) (.con (.str [110, 117, 109])))))) [(.ret (.cmp .lt (.bin .mul (.ix (.loc 0) (.con (.int 1))) (.ix (.loc 1) (.con (.int 2)))) (.bin .mul (.ix (.loc 1) (.con (.int 1))) (.ix (.loc 0) (.con (.int 2))))))] []),
  (.ret (.cmp .lt (.call fr [(.loc 0)]) (.call fr [(.loc 1)])))]⟩
section
variable {P : Pg} {k f fr : Nat} {S : St} {x y : D}
/-- the first sign of a value, its tests -/
def hdV (x : D) (u : List Nat) : Bool := match x with
  | .tup (.str w :: _) => decide (w = u)
  | _ => false
theorem t_hd {cl mk : Cl} {e : IE} {u w : List Nat} {ds : List D} {σ : Env} (hw : okS w = true) (hu : okS u = true) (h : evalE P cl mk e σ S = .ok (.tup (.str w :: ds)) S) : evT P cl mk (.cmp .eq (.ix e (.con (.int 0))) (.con (.str u))) σ S = .ok (decide (w = u)) S :=
  t_cmp (y := .str u) (e_ix (y := .int 0) (d := .str w) h e_con atI0) e_con (by simp only [cmpV]; rw [eqD_str hw hu])
theorem t_head1 {cl mk : Cl} {i : Nat} {u : List Nat} {σ : Env} (hx : Gd x) (hn : x ≠ .non) (hu : okS u = true) (h : evalE P cl mk (.loc i) σ S = .ok x S) : evT P cl mk (.cmp .eq (.ix (.loc i) (.con (.int 0))) (.con (.str u))) σ S = .ok (hdV x u) S := by
  cases hx with
  | non => exact absurd rfl hn
  | num q p h0 h1 h2 h3 => exact t_hd (w := [110, 117, 109]) rfl hu h
  | text s h4 => exact t_hd rfl hu h
  | yes => exact t_hd rfl hu h
  | no => exact t_hd rfl hu h
theorem t_head {cl mk : Cl} {i : Nat} {u : List Nat} {σ : Env} (hx : Gd x) (hu : okS u = true) (h : evalE P cl mk (.loc i) σ S = .ok x S) : evT P cl mk (.and_ (.notN (.loc i)) (.cmp .eq (.ix (.loc i) (.con (.int 0))) (.con (.str u)))) σ S = .ok (hdV x u) S := by
  have c := t_notN (x := x) h
  by_cases hn : x = .non
  · rw [decide_eq_true hn] at c
    subst hn
    exact t_andF c
  · rw [decide_eq_false hn] at c
    exact t_andT c (t_head1 hx hn hu h)
theorem mul_of {a b : Int} (ha : (a.natAbs : Int) < most) (hb : (b.natAbs : Int) < most) : op2 .mul (.int a) (.int b) S = .ok (.int (a * b)) S := by
  simp only [op2]
  rw [if_pos (mulOk_of (Nat.lt_of_lt_of_le (big256 ha) (Nat.pow_le_pow_right (by decide) (by decide))) (Nat.lt_of_lt_of_le (big256 hb) (Nat.pow_le_pow_right (by decide) (by decide))))]
theorem less_num {cl mk : Cl} {q p q' p' : Int} {r : List (Option D)} (h0 : 0 < p) (h1 : p < most) (h2 : (q.natAbs : Int) < most) (g0 : 0 < p') (g1 : p' < most) (g2 : (q'.natAbs : Int) < most) :
    evalE P cl mk (.cmp .lt (.bin .mul (.ix (.loc 0) (.con (.int 1))) (.ix (.loc 1) (.con (.int 2)))) (.bin .mul (.ix (.loc 1) (.con (.int 1))) (.ix (.loc 0) (.con (.int 2))))) (some (.tup [wNum, .int q, .int p]) :: some (.tup [wNum, .int q', .int p']) :: r) S = .ok (.bl (decide (q * p' < q' * p))) S := by
  have a0 : evalE P cl mk (.loc 0) (some (.tup [wNum, .int q, .int p]) :: some (.tup [wNum, .int q', .int p']) :: r) S = .ok (.tup [wNum, .int q, .int p]) S := e_loc rfl (fun _ _ e => by cases e)
  have a1 : evalE P cl mk (.loc 1) (some (.tup [wNum, .int q, .int p]) :: some (.tup [wNum, .int q', .int p']) :: r) S = .ok (.tup [wNum, .int q', .int p']) S := e_loc rfl (fun _ _ e => by cases e)
  have hp : (p.natAbs : Int) < most := by omega
  have hp' : (p'.natAbs : Int) < most := by omega
  exact e_cmp ((e_bin (e_ix a0 e_con rfl) (e_ix a1 e_con rfl)).trans (mul_of h2 hp')) ((e_bin (e_ix a1 e_con rfl) (e_ix a0 e_con rfl)).trans (mul_of g2 hp)) rfl
theorem less_ok (hP : P.defs[f]? = some (dIsLess fr)) (hR : P.defs[fr]? = some dRank) (hx : Gd x) (hy : Gd y) : callK P (k + 2) f [x, y] S = .ok (.bl (lessV x y)) S := by
  rw [call_eq hP rfl]
  have a0 : ∀ T, evalE P (callK P (k + 1)) (mkK P (k + 1)) (.loc 0) [some x, some y, none] T = .ok x T := fun T => e_loc rfl hx.nx
  have a1 : ∀ T, evalE P (callK P (k + 1)) (mkK P (k + 1)) (.loc 1) [some x, some y, none] T = .ok y T := fun T => e_loc rfl hy.nx
  have r0 := (e_call (f := fr) (es_cons (a0 S) es_nil)).trans (rank_ok (k := k) (S := S) hR hx)
  have r1 := (e_call (f := fr) (es_cons (a1 S) es_nil)).trans (rank_ok (k := k) (S := S) hR hy)
  have c0 : evT P (callK P (k + 1)) (mkK P (k + 1)) (.cmp .ne (.call fr [(.loc 0)]) (.call fr [(.loc 1)])) [some x, some y, none] S = .ok (!decide (rkV x = rkV y)) S := t_cmp r0 r1 (by simp only [cmpV, eqD_int]; rfl)
  have e0 : evalE P (callK P (k + 1)) (mkK P (k + 1)) (.cmp .lt (.call fr [(.loc 0)]) (.call fr [(.loc 1)])) [some x, some y, none] S = .ok (.bl (decide (rkV x < rkV y))) S := e_cmp r0 r1 rfl
  have h : ∃ X, execSs P (callK P (k + 1)) (mkK P (k + 1)) (dIsLess fr).body (startEnv (dIsLess fr) [x, y]) S = .fl (.ret (.bl (lessV x y))) [some x, some y, none] (S ++ X) := by
    by_cases hr : rkV x = rkV y
    · rw [decide_eq_true hr] at c0
      have s0 : execS P (callK P (k + 1)) (mkK P (k + 1)) (.ife (.cmp .ne (.call fr [(.loc 0)]) (.call fr [(.loc 1)])) [(.ret (.cmp .lt (.call fr [(.loc 0)]) (.call fr [(.loc 1)])))] []) [some x, some y, none] S = .fl .nx [some x, some y, none] S := (s_ifF c0).trans ss_nil
      have tn := t_head (P := P) (cl := callK P (k + 1)) (mk := mkK P (k + 1)) (i := 0) (u := [110, 117, 109]) hx rfl (a0 S)
      have tt := t_head (P := P) (cl := callK P (k + 1)) (mk := mkK P (k + 1)) (i := 0) (u := [116, 101, 120, 116]) hx rfl (a0 S)
      have last : ∀ b : Bool, lessV x y = false → execSs P (callK P (k + 1)) (mkK P (k + 1)) [(.ret (.con (.bl false)))] [some x, some y, none] S = .fl (.ret (.bl (lessV x y))) [some x, some y, none] S := fun _ e => by rw [e]; exact ss_ret (s_retE e_con)
      cases hx with
      | non =>
        cases hy with
        | non => exact ⟨[], by rw [List.append_nil]; exact (ss_nx s0).trans ((ss_nx ((s_ifF tn).trans ss_nil)).trans ((ss_nx ((s_ifF tt).trans ss_nil)).trans (last true (by decide))))⟩
        | _ => exact absurd hr (by simp [rkV, wNum])
      | yes =>
        cases hy with
        | yes => exact ⟨[], by rw [List.append_nil]; exact (ss_nx s0).trans ((ss_nx ((s_ifF tn).trans ss_nil)).trans ((ss_nx ((s_ifF tt).trans ss_nil)).trans (last true (by decide))))⟩
        | _ => exact absurd hr (by simp [rkV, wNum])
      | no =>
        cases hy with
        | no => exact ⟨[], by rw [List.append_nil]; exact (ss_nx s0).trans ((ss_nx ((s_ifF tn).trans ss_nil)).trans ((ss_nx ((s_ifF tt).trans ss_nil)).trans (last true (by decide))))⟩
        | _ => exact absurd hr (by simp [rkV, wNum])
      | num q p h0 h1 h2 h3 =>
        cases hy with
        | num q' p' g0 g1 g2 g3 => exact ⟨[], by rw [List.append_nil]; exact (ss_nx s0).trans (ss_ret ((s_ifT tn).trans (ss_ret (s_retE (less_num h0 h1 h2 g0 g1 g2)))))⟩
        | _ => exact absurd hr (by simp [rkV, wNum])
      | text s hs =>
        cases hy with
        | text s' hs' =>
          have i0 := e_idxs (P := P) (cl := callK P (k + 1)) (mk := mkK P (k + 1)) (a := .ix (.loc 0) (.con (.int 1))) (b := .con (.str signs)) (i := 2) hs (e_ix (a0 S) e_con rfl) (by simp) (fun c => e_con)
          have i1 := e_idxs (P := P) (cl := callK P (k + 1)) (mk := mkK P (k + 1)) (a := .ix (.loc 1) (.con (.int 1))) (b := .con (.str signs)) (i := 2) hs' (e_ix (a1 (S ++ [.lst ((idxs s).map .int)])) e_con rfl) (by simp) (fun c => e_con)
          refine ⟨[.lst ((idxs s).map .int), .lst ((idxs s').map .int)], (ss_nx s0).trans ((ss_nx ((s_ifF tn).trans ss_nil)).trans (ss_ret ((s_ifT tt).trans (ss_ret (s_retE ((e_cmp i0 i1 (lt_ints (l := idxs s) (m := idxs s') ?_ ?_)).trans ?_))))))⟩
          · rw [List.append_assoc, List.getElem?_append_right (Nat.le_refl _), Nat.sub_self]; rfl
          · rw [List.getElem?_append_right (Nat.le_refl _), Nat.sub_self]; rfl
          · rw [List.append_assoc]
            show _ = R.ok (D.bl (decide ((2 : Int) < 2) || (decide ((2 : Int) = 2) && W.dataLt (pyI (idxs s)) (pyI (idxs s'))))) _
            simp
        | _ => exact absurd hr (by simp [rkV, wNum])
    · rw [decide_eq_false hr] at c0
      refine ⟨[], ?_⟩
      rw [List.append_nil]
      refine ss_ret ((s_ifT c0).trans (ss_ret (s_retE (e0.trans ?_))))
      congr 2
      cases hx <;> cases hy <;> first | exact absurd rfl hr | (simp [lessV, rkV]; done) | simp_all [lessV, rkV, idV]
  obtain ⟨X, e⟩ := h
  rw [e]
  show R.ok _ (gc _ _ _) = _
  rw [gc_app rfl]
theorem lless_ok (hP : P.defs[f]? = some (dLLess fr)) (hR : P.defs[fr]? = some dLRank) (hx : Gd x) (hy : Gd y) : callK P (k + 2) f [x, y] S = .ok (.bl (lessV x y)) S := by
  rw [call_eq hP rfl]
  have a0 : ∀ T, evalE P (callK P (k + 1)) (mkK P (k + 1)) (.loc 0) [some x, some y] T = .ok x T := fun T => e_loc rfl hx.nx
  have a1 : ∀ T, evalE P (callK P (k + 1)) (mkK P (k + 1)) (.loc 1) [some x, some y] T = .ok y T := fun T => e_loc rfl hy.nx
  obtain ⟨X, i, l0, e0⟩ := lrank_ok (k := k) (S := S) hR hx
  obtain ⟨Y, j, l1, e1⟩ := lrank_ok (k := k) (S := S ++ X) hR hy
  have r0 := (e_call (f := fr) (es_cons (a0 S) es_nil)).trans l0
  have r1 := (e_call (f := fr) (es_cons (a1 (S ++ X)) es_nil)).trans l1
  have e0' : (S ++ X ++ Y)[i]? = some (.lst ((idV x).map .int)) := by
    rw [List.getElem?_append_left (List.getElem?_eq_some_iff.mp e0).1]; exact e0
  have cmp : evalE P (callK P (k + 1)) (mkK P (k + 1)) (.cmp .lt (.call fr [(.loc 0)]) (.call fr [(.loc 1)])) [some x, some y] S = .ok (.bl (decide (rkV x < rkV y) || (decide (rkV x = rkV y) && W.dataLt (pyI (idV x)) (pyI (idV y))))) (S ++ X ++ Y) := e_cmp r0 r1 (lt_pairs e0' e1)
  have n0 := t_notN (a0 S)
  have n1 := t_notN (a1 S)
  have eb : ∀ b : Bool, ∀ h : evT P (callK P (k + 1)) (mkK P (k + 1)) (.and_ (.notN (.loc 0)) (.and_ (.notN (.loc 1)) (.and_ (.cmp .eq (.ix (.loc 0) (.con (.int 0))) (.con (.str [110, 117, 109]))) (.cmp .eq (.ix (.loc 1) (.con (.int 0))) (.con (.str [110, 117, 109])))))) [some x, some y] S = .ok false S, lessV x y = (decide (rkV x < rkV y) || (decide (rkV x = rkV y) && W.dataLt (pyI (idV x)) (pyI (idV y)))) →
      ∃ Z, execSs P (callK P (k + 1)) (mkK P (k + 1)) (dLLess fr).body (startEnv (dLLess fr) [x, y]) S = .fl (.ret (.bl (lessV x y))) [some x, some y] (S ++ Z) := fun _ h e => ⟨X ++ Y, by
    rw [e, ← List.append_assoc]
    exact (ss_nx ((s_ifF h).trans ss_nil)).trans (ss_ret (s_retE cmp))⟩
  have h : ∃ Z, execSs P (callK P (k + 1)) (mkK P (k + 1)) (dLLess fr).body (startEnv (dLLess fr) [x, y]) S = .fl (.ret (.bl (lessV x y))) [some x, some y] (S ++ Z) := by
    have hd : ∀ {z : D} {i : Nat} (hz : Gd z), evalE P (callK P (k + 1)) (mkK P (k + 1)) (.loc i) [some x, some y] S = .ok z S → z ≠ .non → evT P (callK P (k + 1)) (mkK P (k + 1)) (.cmp .eq (.ix (.loc i) (.con (.int 0))) (.con (.str [110, 117, 109]))) [some x, some y] S = .ok (hdV z [110, 117, 109]) S := fun hz h hn => t_head1 hz hn rfl h
    cases hx with
    | non => exact eb true (t_andF n0) (by cases hy <;> rfl)
    | yes =>
      cases hy with
      | non => exact eb true (t_andT n0 (t_andF n1)) rfl
      | _ => exact eb true (t_andT n0 (t_andT n1 (t_andF (hd .yes (a0 S) (by intro e; cases e))))) rfl
    | no =>
      cases hy with
      | non => exact eb true (t_andT n0 (t_andF n1)) rfl
      | _ => exact eb true (t_andT n0 (t_andT n1 (t_andF (hd .no (a0 S) (by intro e; cases e))))) rfl
    | text s hs =>
      cases hy with
      | non => exact eb true (t_andT n0 (t_andF n1)) rfl
      | _ => exact eb true (t_andT n0 (t_andT n1 (t_andF (hd (.text s hs) (a0 S) (by intro e; cases e))))) rfl
    | num q p h0 h1 h2 h3 =>
      cases hy with
      | non => exact eb true (t_andT n0 (t_andF n1)) rfl
      | yes => exact eb true (t_andT n0 (t_andT n1 (t_andT (hd (.num q p h0 h1 h2 h3) (a0 S) (by intro e; cases e)) (hd .yes (a1 S) (by intro e; cases e))))) rfl
      | no => exact eb true (t_andT n0 (t_andT n1 (t_andT (hd (.num q p h0 h1 h2 h3) (a0 S) (by intro e; cases e)) (hd .no (a1 S) (by intro e; cases e))))) rfl
      | text s hs => exact eb true (t_andT n0 (t_andT n1 (t_andT (hd (.num q p h0 h1 h2 h3) (a0 S) (by intro e; cases e)) (hd (.text s hs) (a1 S) (by intro e; cases e))))) rfl
      | num q' p' g0 g1 g2 g3 =>
        refine ⟨[], ?_⟩
        rw [List.append_nil]
        exact ss_ret ((s_ifT (t_andT n0 (t_andT n1 (t_andT (hd (.num q p h0 h1 h2 h3) (a0 S) (by intro e; cases e)) (hd (.num q' p' g0 g1 g2 g3) (a1 S) (by intro e; cases e)))))).trans (ss_ret (s_retE (less_num h0 h1 h2 g0 g1 g2))))
  obtain ⟨Z, e⟩ := h
  rw [e]
  show R.ok _ (gc _ _ _) = _
  rw [gc_app rfl]
end
end Mi.Ev
namespace Mi.Ev
open PySem
/-! ### numbers are values -/
theorem gcd_one {a b u v : Int} (h : b ≠ 0) (ha : a = gcdI a b * u) (hb : b = gcdI a b * v) : gcdI u v = 1 := by
  have g0 := gcd_pos (a := a) h
  have e : gcdI a b = gcdI a b * gcdI u v := by
    have : ∀ g : Int, 0 < g → gcdI (g * u) (g * v) = g * gcdI u v := by
      intro g hg
      unfold gcdI
      rw [Int.natAbs_mul, Int.natAbs_mul, Nat.gcd_mul_left, Int.natCast_mul, Int.natAbs_of_nonneg (by omega)]
    have h1 := this (gcdI a b) g0
    rw [← ha, ← hb] at h1
    exact h1
  have : gcdI a b * 1 = gcdI a b * gcdI u v := by rw [Int.mul_one]; exact e
  exact (Int.eq_of_mul_eq_mul_left (by omega) this).symm
theorem gcdI_sg {u v b : Int} : gcdI (u * sg b) (v.natAbs : Int) = gcdI u v := by
  unfold gcdI
  have : (sg b).natAbs = 1 := by unfold sg; split <;> rfl
  rw [Int.natAbs_mul, this, Nat.mul_one, Int.natAbs_natCast]
/-- a number is an error of one of two words, or a good value -/
theorem num_cases (a b : Int) : numV a b = vZero ∨ numV a b = vBig ∨ Gd (numV a b) := by
  by_cases h0 : b = 0
  · exact .inl (by unfold numV; rw [if_pos h0])
  · right
    by_cases hb : big (numQ a b) (numP a b) = true
    · exact .inl (by unfold numV; rw [if_neg h0, if_pos hb])
    · right
      have e : numV a b = .tup [wNum, .int (numQ a b), .int (numP a b)] := by unfold numV; rw [if_neg h0, if_neg hb]
      rw [e]
      obtain ⟨u, v, hu, hv, v0, hq, hp, hs⟩ := num_split (a := a) h0
      simp only [big, Bool.or_eq_true, decide_eq_true_eq, not_or] at hb
      refine .num _ _ (by rw [hp]; omega) (by omega) (by omega) ?_
      rw [hq, hp, gcdI_sg]
      exact gcd_one h0 hu hv
/-- data without lists -/
theorem sm_non {S : St} {n : Nat} : Sm S n .non .non := by cases n <;> exact True.intro
theorem sm_int {S : St} {n : Nat} {i : Int} : Sm S n (.int i) (.int i) := by cases n <;> exact (rfl : i = i)
theorem sm_bl {S : St} {n : Nat} {i : Bool} : Sm S n (.bl i) (.bl i) := by cases n <;> exact (rfl : i = i)
theorem sm_str {S : St} {n : Nat} {s : List Nat} (h : okS s = true) : Sm S n (.str s) (.str s) := by cases n <;> exact ⟨rfl, h⟩
def SmL (S : St) (n : Nat) : List D → List D → Prop
  | [], [] => True
  | x :: xs, y :: ys => Sm S n x y ∧ SmL S n xs ys
  | _, _ => False
theorem SmL.len {S : St} {n : Nat} : ∀ {xs ys : List D}, SmL S n xs ys → xs.length = ys.length ∧ ∀ (i : Nat) x y, xs[i]? = some x → ys[i]? = some y → Sm S n x y
  | [], [], _ => ⟨rfl, fun i x y e => by simp at e⟩
  | x :: xs, y :: ys, h => by
    obtain ⟨h1, h2⟩ := SmL.len h.2
    refine ⟨by rw [List.length_cons, List.length_cons, h1], fun i a b e1 e2 => ?_⟩
    cases i with
    | zero => simp at e1 e2; subst e1 e2; exact h.1
    | succ i => exact h2 i a b (by simpa using e1) (by simpa using e2)
theorem sm_tupL {S : St} {n : Nat} {xs ys : List D} (h : SmL S n xs ys) (hl : xs.length < 1000000) : Sm S (n + 1) (.tup xs) (.tup ys) := ⟨h.len.1, hl, h.len.2⟩
theorem sm_lstL {S : St} {n i j : Nat} {xs ys : List D} (h1 : S[i]? = some (.lst xs)) (h2 : S[j]? = some (.lst ys)) (h : SmL S n xs ys) (hl : xs.length < 1000000) : Sm S (n + 1) (.ref i) (.ref j) := ⟨xs, ys, h1, h2, h.len.1, hl, h.len.2⟩
theorem sm_gd {S : St} {x : D} {n : Nat} (h : Gd x) : Sm S (n + 1) x x := by
  cases h with
  | non => exact sm_non
  | num q p h0 h1 h2 h3 => exact sm_tupL ⟨sm_str rfl, sm_int, sm_int, True.intro⟩ (by simp)
  | text s h => exact sm_tupL ⟨sm_str rfl, sm_str (isText_small h).2, True.intro⟩ (by simp)
  | yes => exact sm_tupL ⟨sm_str rfl, True.intro⟩ (by simp)
  | no => exact sm_tupL ⟨sm_str rfl, True.intro⟩ (by simp)
theorem sm_err {S : St} {u : List Nat} {n : Nat} (h : okS u = true) : Sm S (n + 1) (errV u) (errV u) := sm_tupL ⟨sm_str rfl, sm_str h, True.intro⟩ (by simp)
theorem sm_num {S : St} {a b : Int} {n : Nat} : Sm S (n + 1) (numV a b) (numV a b) := by
  rcases num_cases a b with e | e | e
  · rw [e]; exact sm_err rfl
  · rw [e]; exact sm_err rfl
  · exact sm_gd e
section
variable {P : Pg} {k f fw fc ft fs fl fv : Nat} {S : St} {x : D}
theorem isv_gd (hP : P.defs[f]? = some (dIsValue fw fc ft)) (hW : P.defs[fw]? = some dIsWhole) (hC : P.defs[fc]? = some dCommon) (hT : P.defs[ft]? = some dIsText) (hF : P.fuel = 3000) (h : Gd x) : callK P (k + 2) f [x] S = .ok (.bl true) S := by
  cases h with
  | non => exact isv_none hP
  | num q p h0 h1 h2 h3 =>
    rw [isv_num hP hW hC hF, decide_eq_true h0, decide_eq_true h1, decide_eq_true h2, decide_eq_true h3]; rfl
  | text s h => exact isv_text hP (by rw [text_ok hT (by have := (isText_small h).1; rw [line_eq]; omega), h])
  | yes => exact isv_yn hP (.inl rfl)
  | no => exact isv_yn hP (.inr rfl)
theorem isv_numV {a b : Int} (hP : P.defs[f]? = some (dIsValue fw fc ft)) (hW : P.defs[fw]? = some dIsWhole) (hC : P.defs[fc]? = some dCommon) (hT : P.defs[ft]? = some dIsText) (hF : P.fuel = 3000) : callK P (k + 2) f [numV a b] S = .ok (.bl true) S := by
  rcases num_cases a b with e | e | e
  · rw [e]; exact isv_err hP rfl
  · rw [e]; exact isv_err hP rfl
  · exact isv_gd hP hW hC hT hF e
/-- errors -/
def dLError : IDef := ⟨1, 1, [(.ret (.and_ (.notN (.loc 0)) (.cmp .eq (.ix (.loc 0) (.con (.int 0))) (.con (.str [101, 114, 114, 111, 114])))))]⟩
theorem e_of_t {cl mk : Cl} {o : Cm} {a b : IE} {σ : Env} {q : Bool} {S1 : St} (h : evT P cl mk (.cmp o a b) σ S = .ok q S1) : evalE P cl mk (.cmp o a b) σ S = .ok (.bl q) S1 := by
  rw [evT, evalT] at h
  rw [evalE]
  cases h1 : evalE P cl mk a σ S with
  | ok x T =>
    rw [h1] at h
    simp only [R.bind] at h ⊢
    cases h2 : evalE P cl mk b σ T with
    | ok y U =>
      rw [h2] at h
      simp only at h ⊢
      rw [h]; rfl
    | exc _ _ _ => rw [h2] at h; cases h
    | bad => rw [h2] at h; cases h
  | exc _ _ _ => rw [h1] at h; cases h
  | bad => rw [h1] at h; cases h
theorem lerr_gd (hP : P.defs[f]? = some dLError) (h : Gd x) : callK P (k + 1) f [x] S = .ok (.bl false) S := by
  rw [call_eq hP rfl]
  have l0 : evalE P (callK P k) (mkK P k) (.loc 0) [some x] S = .ok x S := e_loc rfl h.nx
  have n0 := e_notN l0
  have e : execSs P (callK P k) (mkK P k) dLError.body (startEnv dLError [x]) S = .fl (.ret (.bl false)) [some x] S := by
    refine ss_ret (s_retE ?_)
    by_cases hn : x = .non
    · rw [decide_eq_true hn] at n0; exact e_andF n0
    · rw [decide_eq_false hn] at n0
      refine (e_andT n0).trans ((e_of_t (t_head1 h hn rfl l0)).trans ?_)
      cases h <;> first | exact absurd rfl hn | rfl
  rw [e]
  show R.ok _ (gc _ _ _) = _
  rw [gc_same]
theorem lerr_err {u : List Nat} (hP : P.defs[f]? = some dLError) : callK P (k + 1) f [errV u] S = .ok (.bl true) S := by
  rw [call_eq hP rfl]
  have l0 : evalE P (callK P k) (mkK P k) (.loc 0) [some (errV u)] S = .ok (errV u) S := e_loc rfl (fun _ _ e => by cases e)
  have e : execSs P (callK P k) (mkK P k) dLError.body (startEnv dLError [errV u]) S = .fl (.ret (.bl true)) [some (errV u)] S :=
    ss_ret (s_retE ((e_andT (e_notN l0)).trans (e_of_t (t_hd (w := [101, 114, 114, 111, 114]) rfl rfl l0))))
  rw [e]
  show R.ok _ (gc _ _ _) = _
  rw [gc_same]
/-- one list more -/
theorem gc_new {d : D} {X : St} (h : D.under S.length d = false) : gc S d (S ++ X) = S ++ X := by
  unfold gc
  rw [h]; rfl
theorem e_lst1 {cl mk : Cl} {a : IE} {σ : Env} {d : D} {S1 : St} (h : evalE P cl mk a σ S = .ok d S1) : evalE P cl mk (.lst [a]) σ S = .ok (.ref S1.length) (S1 ++ [.lst [d]]) := by
  rw [evalE, es_cons h es_nil]; rfl
def dAsked (fs : Nat) : IDef := ⟨1, 2, [(.try_ [(.ret (.lst [(.call fs [(.loc 0)])]))] 0 (some 1) [(.ret (.ife (.xisi 1 1) (.con (.str [118, 97, 108, 117, 101])) (.con (.str [111, 116, 104, 101, 114]))))])]⟩
theorem asked_ok {s : List Nat} (hP : P.defs[f]? = some (dAsked fs)) (hx : ∀ c vs, x ≠ .exc c vs) (h : callK P k fs [x] S = .ok (.str s) S) : callK P (k + 1) f [x] S = .ok (.ref S.length) (S ++ [.lst [.str s]]) := by
  rw [call_eq hP rfl]
  have l0 : evalE P (callK P k) (mkK P k) (.loc 0) [some x, none] S = .ok x S := e_loc rfl hx
  have b : execSs P (callK P k) (mkK P k) [(.ret (.lst [(.call fs [(.loc 0)])]))] [some x, none] S = .fl (.ret (.ref S.length)) [some x, none] (S ++ [.lst [.str s]]) := ss_ret (s_retE (e_lst1 ((e_call (es_cons l0 es_nil)).trans h)))
  have e : execSs P (callK P k) (mkK P k) (dAsked fs).body (startEnv (dAsked fs) [x]) S = .fl (.ret (.ref S.length)) [some x, none] (S ++ [.lst [.str s]]) := by
    show execSs P (callK P k) (mkK P k) [.try_ [(.ret (.lst [(.call fs [(.loc 0)])]))] 0 (some 1) _] [some x, none] S = _
    rw [execSs, execS, b]
  rw [e]
  show R.ok _ (gc _ _ _) = _
  rw [gc_new (by simp [D.under])]
theorem asked_no (hP : P.defs[f]? = some (dAsked fs)) (h10 : P.sub 1 0 = true) (h11 : P.sub 1 1 = true) (hx : ∀ c vs, x ≠ .exc c vs) (h : callK P k fs [x] S = .exc 1 [] S) : callK P (k + 1) f [x] S = .ok (.str [118, 97, 108, 117, 101]) S := by
  rw [call_eq hP rfl]
  have l0 : evalE P (callK P k) (mkK P k) (.loc 0) [some x, none] S = .ok x S := e_loc rfl hx
  have b : execSs P (callK P k) (mkK P k) [(.ret (.lst [(.call fs [(.loc 0)])]))] [some x, none] S = .exc 1 [] [some x, none] S := by
    rw [execSs, execS, evalE, evalEs, e_call (es_cons l0 es_nil), h]; rfl
  have c : evT P (callK P k) (mkK P k) (.xisi 1 1) [some x, some (.exc 1 [])] S = .ok true S := t_bool rfl (by rw [evalE]; show bl (P.sub 1 1) S = _; rw [h11]; rfl)
  have d : execSs P (callK P k) (mkK P k) [(.ret (.ife (.xisi 1 1) (.con (.str [118, 97, 108, 117, 101])) (.con (.str [111, 116, 104, 101, 114]))))] [some x, some (.exc 1 [])] S = .fl (.ret (.str [118, 97, 108, 117, 101])) [some x, some (.exc 1 [])] S := ss_ret (s_retE ((e_ifeT c).trans e_con))
  have e : execSs P (callK P k) (mkK P k) (dAsked fs).body (startEnv (dAsked fs) [x]) S = .fl (.ret (.str [118, 97, 108, 117, 101])) [some x, some (.exc 1 [])] S := by
    show execSs P (callK P k) (mkK P k) [.try_ [(.ret (.lst [(.call fs [(.loc 0)])]))] 0 (some 1) _] [some x, none] S = _
    rw [execSs, execS, b]
    simp only [h10, if_true, List.set_cons_succ, List.set_cons_zero, d]
  rw [e]
  show R.ok _ (gc _ _ _) = _
  rw [gc_same]
end
/-! ### loops, draws -/
theorem forL_inv {xs : List D} {turn : D → Env → St → RS} (I : Env → St → Prop) : ∀ (ds : List D) (σ : Env) (S : St), I σ S → (∀ d ∈ ds, ∀ σ S, I σ S → ∃ σ' S', turn d σ S = .fl .nx σ' S' ∧ I σ' S') → ∃ σ' S', forL xs none turn ds σ S = .fl .nx σ' S' ∧ I σ' S'
  | [], σ, S, h, _ => ⟨σ, S, by rw [forL, if_pos still_none], h⟩
  | d :: ds, σ, S, h, ht => by
    obtain ⟨σ1, S1, e, h1⟩ := ht d List.mem_cons_self σ S h
    obtain ⟨σ2, S2, e2, h2⟩ := forL_inv I ds σ1 S1 h1 fun d hd => ht d (List.mem_cons_of_mem _ hd)
    exact ⟨σ2, S2, by rw [forL, if_pos still_none, e]; exact e2, h2⟩
section
variable {P : Pg} {k f g : Nat} {ns : List Int} {p c s : Int} {T : St} {σ : Env}
theorem e_draw {cl mk : Cl} {lim : Int} (hcl : cl = callK P (k + 1)) (hP : P.defs[f]? = some dDraw) (h1 : σ[1]? = some (some (.ref 1))) (h : DOk ns p c s) (hl : 0 < lim) (hl2 : lim.natAbs < 2 ^ 4000) :
    ∃ v p' c' s', evalE P cl mk (.call f [(.loc 1), (.con (.int lim))]) σ (dst ns p c s T) = .ok (.int v) (dst ns p' c' s' T) ∧ 0 ≤ v ∧ v < lim ∧ DOk ns p' c' s' := by
  obtain ⟨v, p', c', s', e, r⟩ := draw_ok (k := k) (T := T) hP h hl hl2
  refine ⟨v, p', c', s', ?_, r⟩
  subst hcl
  exact (e_call (es_cons (e_loc h1 (fun _ _ e => by cases e)) (es_cons e_con es_nil))).trans e
theorem e_pick {cl mk : Cl} {es : List IE} {xs : List D} (hcl : cl = callK P (k + 2)) (hP : P.defs[g]? = some (dPick f)) (hD : P.defs[f]? = some dDraw) (h1 : σ[1]? = some (some (.ref 1))) (h : DOk ns p c s) (he : evalEs P cl mk es σ (dst ns p c s T) = .ok xs (dst ns p c s T)) (hx : xs ≠ []) (hl : xs.length < 1000000) :
    ∃ d ∈ xs, ∃ p' c' s', evalE P cl mk (.call g [(.loc 1), (.lst es)]) σ (dst ns p c s T) = .ok d (dst ns p' c' s' (T ++ [.lst xs])) ∧ DOk ns p' c' s' := by
  obtain ⟨d, hd, p', c', s', e, r⟩ := pick_ok (k := k) (T := T ++ [.lst xs]) (j := T.length) hP hD h (by simp) hx hl
  refine ⟨d, hd, p', c', s', ?_, r⟩
  have el : evalE P cl mk (.lst es) σ (dst ns p c s T) = .ok (.ref (T.length + 2)) (dst ns p c s (T ++ [.lst xs])) := by
    rw [evalE, he]
    simp only [R.bind]
    rw [if_pos (by rw [line_eq]; omega)]
    rfl
  subst hcl
  exact (e_call (es_cons (e_loc h1 (fun _ _ e => by cases e)) (es_cons el es_nil))).trans e
theorem e_pickL {cl mk : Cl} {i j : Nat} {xs : List D} (hcl : cl = callK P (k + 2)) (hP : P.defs[g]? = some (dPick f)) (hD : P.defs[f]? = some dDraw) (h1 : σ[1]? = some (some (.ref 1))) (h2 : σ[i]? = some (some (.ref (j + 2)))) (h : DOk ns p c s) (hT : T[j]? = some (.lst xs)) (hx : xs ≠ []) (hl : xs.length < 1000000) :
    ∃ d ∈ xs, ∃ p' c' s', evalE P cl mk (.call g [(.loc 1), (.loc i)]) σ (dst ns p c s T) = .ok d (dst ns p' c' s' T) ∧ DOk ns p' c' s' := by
  obtain ⟨d, hd, p', c', s', e, r⟩ := pick_ok (k := k) (T := T) (j := j) hP hD h hT hx hl
  refine ⟨d, hd, p', c', s', ?_, r⟩
  subst hcl
  exact (e_call (es_cons (e_loc h1 (fun _ _ e => by cases e)) (es_cons (e_loc h2 (fun _ _ e => by cases e)) es_nil))).trans e
end
end Mi.Ev
namespace Mi
open PySem PySem.Spec PyProof.Rows L2
namespace K00
def top (i : Nat) : PySem.Stmt := PySem.Challenge.pw_cellsmeant_k00_whole_values.main.body.getD i (.Pass ⟨0, 0, 0, 0⟩)
/-- 0 is_whole(0 value) -/
abbrev i_is_whole : Nat := 0
def d_is_whole : IDef := ⟨1, 1, [(.ret (.and_ (.isi (.loc 0) (.int)) (.not_ (.isi (.loc 0) (.bool)))))]⟩
/-- 1 common(0 one, 1 other) -/
abbrev i_common : Nat := 1
def d_common : IDef := ⟨2, 2, [(.par [0, 1] [(.bi .abs (.loc 0)), (.bi .abs (.loc 1))]),
  (.whl (.cmp .gt (.loc 1) (.con (.int 0))) [(.par [0, 1] [(.loc 1), (.bin .mod (.loc 0) (.loc 1))])]),
  (.ret (.loc 0))]⟩
/-- 2 error(0 word) -/
abbrev i_error : Nat := 2
def d_error : IDef := ⟨1, 1, [(.ret (.tup [(.con (.str [101, 114, 114, 111, 114])), (.loc 0)]))]⟩
/-- 3 number(0 above, 1 below, 2 part) -/
abbrev i_number : Nat := 3
def d_number : IDef := ⟨2, 3, [(.ife (.cmp .eq (.loc 1) (.con (.int 0))) [(.ret (.call 2 [(.con (.str [122, 101, 114, 111]))]))] []),
  (.asg (.name 2) (.call 1 [(.loc 0), (.loc 1)])),
  (.par [0, 1] [(.bin .fdiv (.loc 0) (.loc 2)), (.bin .fdiv (.loc 1) (.loc 2))]),
  (.ife (.cmp .lt (.loc 1) (.con (.int 0))) [(.par [0, 1] [(.neg (.loc 0)), (.neg (.loc 1))])] []),
  (.ife (.or_ (.cmp .ge (.bi .abs (.loc 0)) (.con (.int 115792089237316195423570985008687907853269984665640564039457584007913129639936))) (.cmp .ge (.loc 1) (.con (.int 115792089237316195423570985008687907853269984665640564039457584007913129639936)))) [(.ret (.call 2 [(.con (.str [98, 105, 103]))]))] []),
  (.ret (.tup [(.con (.str [110, 117, 109])), (.loc 0), (.loc 1)]))]⟩
/-- 4 is_text(0 value, 1 sign) -/
abbrev i_is_text : Nat := 4
def d_is_text : IDef := ⟨1, 2, [(.ret (.and_ (.isi (.loc 0) (.str)) (.and_ (.cmp .le (.bi .len (.loc 0)) (.con (.int 60))) (.bi .all (.comp .val [(.loc 0)] (.name 1) [1] [] (.cmp .isin (.loc 1) (.con (.str [97, 98, 99, 100, 101, 102, 103, 104, 105, 106, 107, 108, 109, 110, 111, 112, 113, 114, 115, 116, 117, 118, 119, 120, 121, 122, 65, 66, 67, 68, 69, 70, 71, 72, 73, 74, 75, 76, 77, 78, 79, 80, 81, 82, 83, 84, 85, 86, 87, 88, 89, 90, 48, 49, 50, 51, 52, 53, 54, 55, 56, 57, 32, 46, 44, 58, 59, 33, 63, 43, 45, 42, 47, 40, 41, 95]))))))))]⟩
/-- 5 is_value(0 value) -/
abbrev i_is_value : Nat := 5
def d_is_value : IDef := ⟨1, 1, [(.ife (.isN (.loc 0)) [(.ret (.con (.bl true)))] []),
  (.ife (.or_ (.not_ (.isi (.loc 0) (.tup))) (.or_ (.cmp .eq (.bi .len (.loc 0)) (.con (.int 0))) (.not_ (.isi (.ix (.loc 0) (.con (.int 0))) (.str))))) [(.ret (.con (.bl false)))] []),
  (.ife (.cmp .isin (.ix (.loc 0) (.con (.int 0))) (.tup [(.con (.str [121, 101, 115])), (.con (.str [110, 111]))])) [(.ret (.cmp .eq (.bi .len (.loc 0)) (.con (.int 1))))] []),
  (.ife (.cmp .eq (.ix (.loc 0) (.con (.int 0))) (.con (.str [116, 101, 120, 116]))) [(.ret (.and_ (.cmp .eq (.bi .len (.loc 0)) (.con (.int 2))) (.call 4 [(.ix (.loc 0) (.con (.int 1)))])))] []),
  (.ife (.cmp .eq (.ix (.loc 0) (.con (.int 0))) (.con (.str [101, 114, 114, 111, 114]))) [(.ret (.and_ (.cmp .eq (.bi .len (.loc 0)) (.con (.int 2))) (.and_ (.isi (.ix (.loc 0) (.con (.int 1))) (.str)) (.cmp .isin (.ix (.loc 0) (.con (.int 1))) (.con (.tup [(.str [122, 101, 114, 111]), (.str [107, 105, 110, 100]), (.str [103, 111, 110, 101]), (.str [114, 105, 110, 103]), (.str [98, 105, 103]), (.str [110, 111, 110, 101])]))))))] []),
  (.ife (.or_ (.cmp .ne (.ix (.loc 0) (.con (.int 0))) (.con (.str [110, 117, 109]))) (.or_ (.cmp .ne (.bi .len (.loc 0)) (.con (.int 3))) (.or_ (.not_ (.call 0 [(.ix (.loc 0) (.con (.int 1)))])) (.not_ (.call 0 [(.ix (.loc 0) (.con (.int 2)))]))))) [(.ret (.con (.bl false)))] []),
  (.ret (.and_ (.cmp2 .lt .lt (.con (.int 0)) (.ix (.loc 0) (.con (.int 2))) (.con (.int 115792089237316195423570985008687907853269984665640564039457584007913129639936))) (.and_ (.cmp .lt (.bi .abs (.ix (.loc 0) (.con (.int 1)))) (.con (.int 115792089237316195423570985008687907853269984665640564039457584007913129639936))) (.cmp .eq (.call 1 [(.ix (.loc 0) (.con (.int 1))), (.ix (.loc 0) (.con (.int 2)))]) (.con (.int 1))))))]⟩
/-- 6 look_at_value(0 value) -/
abbrev i_look_at_value : Nat := 6
def d_look_at_value : IDef := ⟨1, 1, [(.ife (.not_ (.call 5 [(.loc 0)])) [(.raise 1 [])] [])]⟩
/-- 7 shown(0 value) -/
abbrev i_shown : Nat := 7
def d_shown : IDef := ⟨1, 1, [(.ex (.call 6 [(.loc 0)])),
  (.ife (.isN (.loc 0)) [(.ret (.con (.str [])))] []),
  (.ife (.cmp .eq (.ix (.loc 0) (.con (.int 0))) (.con (.str [110, 117, 109]))) [(.ret (.ife (.cmp .eq (.ix (.loc 0) (.con (.int 2))) (.con (.int 1))) (.bi .str (.ix (.loc 0) (.con (.int 1)))) (.bin .add (.bin .add (.bi .str (.ix (.loc 0) (.con (.int 1)))) (.con (.str [47]))) (.bi .str (.ix (.loc 0) (.con (.int 2)))))))] []),
  (.ife (.cmp .eq (.ix (.loc 0) (.con (.int 0))) (.con (.str [101, 114, 114, 111, 114]))) [(.ret (.bin .add (.con (.str [35])) (.ix (.loc 0) (.con (.int 1)))))] []),
  (.ret (.ife (.cmp .eq (.ix (.loc 0) (.con (.int 0))) (.con (.str [116, 101, 120, 116]))) (.ix (.loc 0) (.con (.int 1))) (.ix (.loc 0) (.con (.int 0)))))]⟩
/-- 8 rank(0 value) -/
abbrev i_rank : Nat := 8
def d_rank : IDef := ⟨1, 1, [(.ife (.isN (.loc 0)) [(.ret (.con (.int 0)))] []),
  (.ret (.ix (.dic [(.con (.str [110, 117, 109])), (.con (.int 1)), (.con (.str [116, 101, 120, 116])), (.con (.int 2)), (.con (.str [110, 111])), (.con (.int 3)), (.con (.str [121, 101, 115])), (.con (.int 4))]) (.ix (.loc 0) (.con (.int 0)))))]⟩
/-- 9 is_less(0 one, 1 other, 2 sign) -/
abbrev i_is_less : Nat := 9
def d_is_less : IDef := ⟨2, 3, [(.ife (.cmp .ne (.call 8 [(.loc 0)]) (.call 8 [(.loc 1)])) [(.ret (.cmp .lt (.call 8 [(.loc 0)]) (.call 8 [(.loc 1)])))] []),
  (.ife (.and_ (.notN (.loc 0)) (.cmp .eq (.ix (.loc 0) (.con (.int 0))) (.con (.str [110, 117, 109])))) [(.ret (.cmp .lt (.bin .mul (.ix (.loc 0) (.con (.int 1))) (.ix (.loc 1) (.con (.int 2)))) (.bin .mul (.ix (.loc 1) (.con (.int 1))) (.ix (.loc 0) (.con (.int 2))))))] []),
  (.ife (.and_ (.notN (.loc 0)) (.cmp .eq (.ix (.loc 0) (.con (.int 0))) (.con (.str [116, 101, 120, 116])))) [(.ret (.cmp .lt (.comp .val [(.ix (.loc 0) (.con (.int 1)))] (.name 2) [2] [] (.bm .sindex (.con (.str [97, 98, 99, 100, 101, 102, 103, 104, 105, 106, 107, 108, 109, 110, 111, 112, 113, 114, 115, 116, 117, 118, 119, 120, 121, 122, 65, 66, 67, 68, 69, 70, 71, 72, 73, 74, 75, 76, 77, 78, 79, 80, 81, 82, 83, 84, 85, 86, 87, 88, 89, 90, 48, 49, 50, 51, 52, 53, 54, 55, 56, 57, 32, 46, 44, 58, 59, 33, 63, 43, 45, 42, 47, 40, 41, 95])) [(.loc 2)])) (.comp .val [(.ix (.loc 1) (.con (.int 1)))] (.name 2) [2] [] (.bm .sindex (.con (.str [97, 98, 99, 100, 101, 102, 103, 104, 105, 106, 107, 108, 109, 110, 111, 112, 113, 114, 115, 116, 117, 118, 119, 120, 121, 122, 65, 66, 67, 68, 69, 70, 71, 72, 73, 74, 75, 76, 77, 78, 79, 80, 81, 82, 83, 84, 85, 86, 87, 88, 89, 90, 48, 49, 50, 51, 52, 53, 54, 55, 56, 57, 32, 46, 44, 58, 59, 33, 63, 43, 45, 42, 47, 40, 41, 95])) [(.loc 2)]))))] []),
  (.ret (.con (.bl false)))]⟩
/-- 10 _law_draws(0 script) -/
abbrev i__law_draws : Nat := 10
def d__law_draws : IDef := ⟨1, 1, [(.ret (.lst [(.bi .list (.loc 0)), (.con (.int 0)), (.con (.int 0)), (.con (.int 1))]))]⟩
/-- 11 _law_draw(0 draws, 1 limit, 2 cell, 3 value) -/
abbrev i__law_draw : Nat := 11
def d__law_draw : IDef := ⟨2, 4, [(.ife (.and_ (.cmp .eq (.ix (.loc 0) (.con (.int 2))) (.con (.int 0))) (.cmp .lt (.ix (.loc 0) (.con (.int 1))) (.bi .len (.ix (.loc 0) (.con (.int 0)))))) [(.asg (.name 2) (.ix (.ix (.loc 0) (.con (.int 0))) (.ix (.loc 0) (.con (.int 1))))),
  (.asg (.sub (.loc 0) (.con (.int 1))) (.bin .add (.ix (.loc 0) (.con (.int 1))) (.con (.int 1)))),
  (.ife (.cmp .ge (.loc 2) (.bin .pow (.con (.int 10)) (.con (.int 18)))) [(.asg (.sub (.loc 0) (.con (.int 2))) (.loc 2))] []),
  (.asg (.sub (.loc 0) (.con (.int 3))) (.bin .mod (.bi .int (.bin .add (.bin .add (.bin .mul (.ix (.loc 0) (.con (.int 3))) (.con (.int 48271))) (.loc 2)) (.con (.int 13)))) (.con (.int 2147483647))))] []),
  (.ife (.cmp .gt (.ix (.loc 0) (.con (.int 2))) (.con (.int 0))) [(.asg (.name 3) (.bin .mod (.bi .int (.ix (.loc 0) (.con (.int 2)))) (.loc 1))),
  (.asg (.sub (.loc 0) (.con (.int 2))) (.bin .fdiv (.ix (.loc 0) (.con (.int 2))) (.loc 1))),
  (.ret (.loc 3))] []),
  (.asg (.sub (.loc 0) (.con (.int 3))) (.bin .mod (.bi .int (.bin .add (.bin .mul (.ix (.loc 0) (.con (.int 3))) (.con (.int 69621))) (.con (.int 7)))) (.con (.int 2147483629)))),
  (.ret (.bin .mod (.bi .int (.bin .fdiv (.ix (.loc 0) (.con (.int 3))) (.con (.int 11)))) (.loc 1)))]⟩
/-- 12 _law_same(0 actual, 1 expected, 2 k) -/
abbrev i__law_same : Nat := 12
def d__law_same : IDef := ⟨2, 3, [(.ife (.or_ (.isi (.loc 1) (.tup)) (.isi (.loc 1) (.lst))) [(.ife (.or_ (.cmp .ne (.isi (.loc 1) (.tup)) (.isi (.loc 0) (.tup))) (.cmp .ne (.isi (.loc 1) (.lst)) (.isi (.loc 0) (.lst)))) [(.ret (.con (.bl false)))] []),
  (.ife (.cmp .ne (.bi .len (.loc 0)) (.bi .len (.loc 1))) [(.ret (.con (.bl false)))] []),
  (.ret (.cmp .eq (.bi .len (.comp .range1 [(.bi .len (.loc 1))] (.name 2) [2] [(.not_ (.call 12 [(.ix (.loc 0) (.loc 2)), (.ix (.loc 1) (.loc 2))]))] (.loc 2))) (.con (.int 0))))] []),
  (.ife (.isi (.loc 1) (.str)) [(.ret (.and_ (.isi (.loc 0) (.str)) (.cmp .eq (.loc 0) (.loc 1))))] []),
  (.ife (.isN (.loc 1)) [(.ret (.isN (.loc 0)))] []),
  (.ife (.or_ (.isi (.loc 1) (.bool)) (.isi (.loc 0) (.bool))) [(.ret (.and_ (.isi (.loc 1) (.bool)) (.and_ (.isi (.loc 0) (.bool)) (.cmp .eq (.loc 0) (.loc 1)))))] []),
  (.ret (.and_ (.isi (.loc 0) (.int)) (.and_ (.isi (.loc 1) (.int)) (.cmp .eq (.loc 0) (.loc 1)))))]⟩
/-- 13 _law_pick(0 draws, 1 things) -/
abbrev i__law_pick : Nat := 13
def d__law_pick : IDef := ⟨2, 2, [(.ret (.ix (.loc 1) (.call 11 [(.loc 0), (.bi .len (.loc 1))])))]⟩
/-- 14 _law_part(0 one, 1 other, 2 turn) -/
abbrev i__law_part : Nat := 14
def d__law_part : IDef := ⟨2, 3, [(.par [0, 1] [(.bi .abs (.loc 0)), (.bi .abs (.loc 1))]),
  (.for_ .range1 [(.con (.int 2000))] (.name 2) [(.ife (.cmp .gt (.loc 1) (.con (.int 0))) [(.par [0, 1] [(.loc 1), (.bin .mod (.loc 0) (.loc 1))])] [])]),
  (.ret (.loc 0))]⟩
/-- 15 _law_number(0 above, 1 below, 2 part, 3 most) -/
abbrev i__law_number : Nat := 15
def d__law_number : IDef := ⟨2, 4, [(.ife (.cmp .eq (.loc 1) (.con (.int 0))) [(.ret (.tup [(.con (.str [101, 114, 114, 111, 114])), (.con (.str [122, 101, 114, 111]))]))] []),
  (.asg (.name 2) (.bin .mul (.call 14 [(.loc 0), (.loc 1)]) (.ife (.cmp .gt (.loc 1) (.con (.int 0))) (.con (.int 1)) (.neg (.con (.int 1)))))),
  (.par [0, 1] [(.bin .fdiv (.loc 0) (.loc 2)), (.bin .fdiv (.loc 1) (.loc 2))]),
  (.asg (.name 3) (.con (.int 115792089237316195423570985008687907853269984665640564039457584007913129639936))),
  (.ret (.ife (.or_ (.cmp .ge (.bi .abs (.loc 0)) (.loc 3)) (.cmp .ge (.loc 1) (.loc 3))) (.tup [(.con (.str [101, 114, 114, 111, 114])), (.con (.str [98, 105, 103]))]) (.tup [(.con (.str [110, 117, 109])), (.loc 0), (.loc 1)])))]⟩
/-- 16 _law_error(0 value) -/
abbrev i__law_error : Nat := 16
def d__law_error : IDef := ⟨1, 1, [(.ret (.and_ (.notN (.loc 0)) (.cmp .eq (.ix (.loc 0) (.con (.int 0))) (.con (.str [101, 114, 114, 111, 114])))))]⟩
/-- 17 _law_shown(0 value) -/
abbrev i__law_shown : Nat := 17
def d__law_shown : IDef := ⟨1, 1, [(.ife (.isN (.loc 0)) [(.ret (.con (.str [])))] []),
  (.ife (.cmp .eq (.ix (.loc 0) (.con (.int 0))) (.con (.str [110, 117, 109]))) [(.ret (.bin .add (.bi .str (.ix (.loc 0) (.con (.int 1)))) (.ife (.cmp .eq (.ix (.loc 0) (.con (.int 2))) (.con (.int 1))) (.con (.str [])) (.bin .add (.con (.str [47])) (.bi .str (.ix (.loc 0) (.con (.int 2))))))))] []),
  (.ret (.ife (.cmp .eq (.ix (.loc 0) (.con (.int 0))) (.con (.str [116, 101, 120, 116]))) (.ix (.loc 0) (.con (.int 1))) (.ife (.cmp .eq (.ix (.loc 0) (.con (.int 0))) (.con (.str [101, 114, 114, 111, 114]))) (.bin .add (.con (.str [35])) (.ix (.loc 0) (.con (.int 1)))) (.ix (.loc 0) (.con (.int 0))))))]⟩
/-- 18 _law_rank(0 value, 1 signs, 2 sign) -/
abbrev i__law_rank : Nat := 18
def d__law_rank : IDef := ⟨1, 3, [(.asg (.name 1) (.con (.str [97, 98, 99, 100, 101, 102, 103, 104, 105, 106, 107, 108, 109, 110, 111, 112, 113, 114, 115, 116, 117, 118, 119, 120, 121, 122, 65, 66, 67, 68, 69, 70, 71, 72, 73, 74, 75, 76, 77, 78, 79, 80, 81, 82, 83, 84, 85, 86, 87, 88, 89, 90, 48, 49, 50, 51, 52, 53, 54, 55, 56, 57, 32, 46, 44, 58, 59, 33, 63, 43, 45, 42, 47, 40, 41, 95]))),
  (.ife (.isN (.loc 0)) [(.ret (.tup [(.con (.int 0)), (.lst [])]))] []),
  (.ife (.cmp .eq (.ix (.loc 0) (.con (.int 0))) (.con (.str [116, 101, 120, 116]))) [(.ret (.tup [(.con (.int 2)), (.comp .val [(.ix (.loc 0) (.con (.int 1)))] (.name 2) [2] [] (.bm .sindex (.loc 1) [(.loc 2)]))]))] []),
  (.ret (.tup [(.ix (.dic [(.con (.str [110, 117, 109])), (.con (.int 1)), (.con (.str [110, 111])), (.con (.int 3)), (.con (.str [121, 101, 115])), (.con (.int 4))]) (.ix (.loc 0) (.con (.int 0)))), (.lst [])]))]⟩
/-- 19 _law_less(0 one, 1 two) -/
abbrev i__law_less : Nat := 19
def d__law_less : IDef := ⟨2, 2, [(.ife (.and_ (.notN (.loc 0)) (.and_ (.notN (.loc 1)) (.and_ (.cmp .eq (.ix (.loc 0) (.con (.int 0))) (.con (.str [110, 117, 109]))) (.cmp .eq (.ix (.loc 1) (.con (.int 0))) (.con (.str [110, 117, 109])))))) [(.ret (.cmp .lt (.bin .mul (.ix (.loc 0) (.con (.int 1))) (.ix (.loc 1) (.con (.int 2)))) (.bin .mul (.ix (.loc 1) (.con (.int 1))) (.ix (.loc 0) (.con (.int 2))))))] []),
  (.ret (.cmp .lt (.call 18 [(.loc 0)]) (.call 18 [(.loc 1)])))]⟩
/-- 20 _law_asked(0 value, 1 e) -/
abbrev i__law_asked : Nat := 20
def d__law_asked : IDef := ⟨1, 2, [(.try_ [(.ret (.lst [(.call 7 [(.loc 0)])]))] 0 (some 1) [(.ret (.ife (.xisi 1 1) (.con (.str [118, 97, 108, 117, 101])) (.con (.str [111, 116, 104, 101, 114]))))])]⟩
/-- 21 law(0 script, 1 draws, 2 half, 3 most, 4 turn, 5 above, 6 below, 7 told, 8 values, 9 good, 10 one, 11 two, 12 again, 13 edges, 14 bad, 15 value) -/
abbrev i_law : Nat := 21
def d_law : IDef := ⟨1, 16, [(.asg (.name 1) (.call 10 [(.loc 0)])),
  (.asg (.name 2) (.con (.int 340282366920938463463374607431768211456))),
  (.asg (.name 3) (.bin .mul (.loc 2) (.loc 2))),
  (.for_ .range1 [(.con (.int 12))] (.name 4) [(.asg (.name 5) (.bin .mul (.bin .sub (.call 11 [(.loc 1), (.con (.int 2000))]) (.con (.int 1000))) (.call 13 [(.loc 1), (.lst [(.con (.int 1)), (.con (.int 1)), (.con (.int 6)), (.loc 2)])]))),
  (.asg (.name 6) (.bin .mul (.bin .sub (.call 11 [(.loc 1), (.con (.int 40))]) (.con (.int 20))) (.call 13 [(.loc 1), (.lst [(.con (.int 1)), (.con (.int 1)), (.con (.int 6)), (.loc 2)])]))),
  (.asg (.name 7) (.call 3 [(.loc 5), (.loc 6)])),
  (.ife (.or_ (.not_ (.call 12 [(.loc 7), (.call 15 [(.loc 5), (.loc 6)])])) (.not_ (.call 12 [(.call 5 [(.loc 7)]), (.con (.bl true))]))) [(.ret (.con (.bl false)))] []),
  (.asg (.name 8) (.lst [(.con .non), (.loc 7), (.call 15 [(.bin .sub (.call 11 [(.loc 1), (.con (.int 50))]) (.con (.int 25))), (.bin .add (.con (.int 1)) (.call 11 [(.loc 1), (.con (.int 9))]))]), (.tup [(.con (.str [116, 101, 120, 116])), (.call 13 [(.loc 1), (.lst [(.con (.str [])), (.con (.str [97])), (.con (.str [97, 98])), (.con (.str [65])), (.con (.str [98, 32, 99])), (.con (.str [122, 95])), (.con (.str [57]))])])]), (.tup [(.con (.str [121, 101, 115]))]), (.tup [(.con (.str [110, 111]))])])),
  (.asg (.name 9) (.comp .val [(.loc 8)] (.name 15) [15] [(.not_ (.call 16 [(.loc 15)]))] (.loc 15))),
  (.par [10, 11] [(.call 13 [(.loc 1), (.loc 9)]), (.call 13 [(.loc 1), (.loc 9)])]),
  (.for_ .range1 [(.con (.int 2))] (.name 12) [(.ife (.not_ (.call 12 [(.lst [(.call 9 [(.loc 10), (.loc 11)]), (.call 9 [(.loc 11), (.loc 10)]), (.call 20 [(.loc 10)])]), (.lst [(.call 19 [(.loc 10), (.loc 11)]), (.call 19 [(.loc 11), (.loc 10)]), (.lst [(.call 17 [(.loc 10)])])])])) [(.ret (.con (.bl false)))] [])])]),
  (.asg (.name 13) (.lst [(.call 3 [(.loc 3), (.con (.int 1))]), (.call 3 [(.bin .sub (.loc 3) (.con (.int 1))), (.con (.int 1))]), (.call 3 [(.con (.int 1)), (.loc 3)]), (.call 3 [(.con (.int 5)), (.con (.int 0))]), (.call 3 [(.con (.int 0)), (.neg (.con (.int 7)))])])),
  (.ife (.not_ (.call 12 [(.loc 13), (.lst [(.tup [(.con (.str [101, 114, 114, 111, 114])), (.con (.str [98, 105, 103]))]), (.tup [(.con (.str [110, 117, 109])), (.bin .sub (.loc 3) (.con (.int 1))), (.con (.int 1))]), (.tup [(.con (.str [101, 114, 114, 111, 114])), (.con (.str [98, 105, 103]))]), (.tup [(.con (.str [101, 114, 114, 111, 114])), (.con (.str [122, 101, 114, 111]))]), (.tup [(.con (.str [110, 117, 109])), (.con (.int 0)), (.con (.int 1))])])])) [(.ret (.con (.bl false)))] []),
  (.asg (.name 9) (.lst [(.con .non), (.tup [(.con (.str [110, 117, 109])), (.neg (.con (.int 3))), (.con (.int 4))]), (.tup [(.con (.str [116, 101, 120, 116])), (.bin .mul (.con (.str [97])) (.con (.int 60)))]), (.tup [(.con (.str [116, 101, 120, 116])), (.con (.str []))]), (.tup [(.con (.str [121, 101, 115]))]), (.tup [(.con (.str [110, 111]))]), (.tup [(.con (.str [101, 114, 114, 111, 114])), (.con (.str [114, 105, 110, 103]))]), (.tup [(.con (.str [101, 114, 114, 111, 114])), (.con (.str [110, 111, 110, 101]))])])),
  (.asg (.name 14) (.lst [(.con (.int 5)), (.tup []), (.tup [(.con (.str [110, 117, 109])), (.con (.int 2)), (.con (.int 4))]), (.tup [(.con (.str [110, 117, 109])), (.con (.int 1)), (.con (.int 0))]), (.tup [(.con (.str [110, 117, 109])), (.con (.int 1)), (.neg (.con (.int 2)))]), (.tup [(.con (.str [110, 117, 109])), (.con (.bl true)), (.con (.int 1))]), (.tup [(.con (.str [110, 117, 109])), (.loc 3), (.con (.int 1))]), (.tup [(.con (.str [110, 117, 109])), (.con (.int 1)), (.loc 3)]), (.tup [(.con (.str [110, 117, 109])), (.con (.int 1))]), (.tup [(.con (.str [116, 101, 120, 116])), (.bin .mul (.con (.str [97])) (.con (.int 61)))]), (.tup [(.con (.str [116, 101, 120, 116])), (.con (.str [35]))]), (.tup [(.con (.str [116, 101, 120, 116])), (.con (.int 5))])])),
  (.asg (.name 14) (.bin .add (.loc 14) (.lst [(.tup [(.con (.str [121, 101, 115])), (.con (.int 1))]), (.tup [(.con (.str [101, 114, 114, 111, 114])), (.con (.str [102, 97, 114]))]), (.tup [(.con (.str [101, 114, 114, 111, 114]))]), (.tup [(.con (.str [101, 114, 114, 111, 114])), (.con .non)]), (.lst [(.con (.str [121, 101, 115]))]), (.tup [(.con (.str [102, 97, 114]))]), (.tup [(.con (.int 5))]), (.con (.bl true))]))),
  (.ife (.or_ (.cmp .ne (.comp .val [(.bin .add (.loc 9) (.loc 14))] (.name 10) [10] [] (.call 5 [(.loc 10)])) (.bin .add (.bin .mul (.lst [(.con (.bl true))]) (.bi .len (.loc 9))) (.bin .mul (.lst [(.con (.bl false))]) (.bi .len (.loc 14))))) (.cmp .ne (.call 20 [(.call 13 [(.loc 1), (.loc 14)])]) (.con (.str [118, 97, 108, 117, 101])))) [(.ret (.con (.bl false)))] []),
  (.ife (.cmp .ne (.comp .val [(.lst [(.con (.str [])), (.con (.str [97, 45, 90, 32, 57, 40, 41])), (.bin .mul (.con (.str [97])) (.con (.int 60))), (.bin .mul (.con (.str [97])) (.con (.int 61))), (.con (.str [35])), (.con .non), (.con (.int 5))])] (.name 10) [10] [] (.call 4 [(.loc 10)])) (.lst [(.con (.bl true)), (.con (.bl true)), (.con (.bl true)), (.con (.bl false)), (.con (.bl false)), (.con (.bl false)), (.con (.bl false))])) [(.ret (.con (.bl false)))] []),
  (.ret (.cmp .eq (.comp .val [(.lst [(.con (.int 0)), (.neg (.con (.int 5))), (.con (.bl true)), (.con .non), (.con (.str [49]))])] (.name 10) [10] [] (.call 0 [(.loc 10)])) (.lst [(.con (.bl true)), (.con (.bl true)), (.con (.bl false)), (.con (.bl false)), (.con (.bl false))])))]⟩
def defs : List IDef := [d_is_whole, d_common, d_error, d_number, d_is_text, d_is_value, d_look_at_value, d_shown, d_rank, d_is_less, d__law_draws, d__law_draw, d__law_same, d__law_pick, d__law_part, d__law_number, d__law_error, d__law_shown, d__law_rank, d__law_less, d__law_asked, d_law]
def subs : List (Nat × Nat) := [(0, 0), (1, 0), (1, 1)]
def classes : List Cls := []
def pg : Pg := ⟨defs, classes, fun a b => decide ((a, b) ∈ subs), 3000⟩
def t_is_whole : DT := ⟨"is_whole", "is_whole", top 9, ["value"], ["value"]⟩
theorem b_is_whole : BindOk t_is_whole := fun _ _ _ _ _ _ us hl => match us, hl with | [_], _ => rfl
def t_common : DT := ⟨"common", "common", top 10, ["one", "other"], ["one", "other"]⟩
theorem b_common : BindOk t_common := fun _ _ _ _ _ _ us hl => match us, hl with | [_, _], _ => rfl
def t_error : DT := ⟨"error", "error", top 11, ["word"], ["word"]⟩
theorem b_error : BindOk t_error := fun _ _ _ _ _ _ us hl => match us, hl with | [_], _ => rfl
def t_number : DT := ⟨"number", "number", top 12, ["above", "below", "part"], ["above", "below"]⟩
theorem b_number : BindOk t_number := fun _ _ _ _ _ _ us hl => match us, hl with | [_, _], _ => rfl
def t_is_text : DT := ⟨"is_text", "is_text", top 13, ["value", "sign"], ["value"]⟩
theorem b_is_text : BindOk t_is_text := fun _ _ _ _ _ _ us hl => match us, hl with | [_], _ => rfl
def t_is_value : DT := ⟨"is_value", "is_value", top 14, ["value"], ["value"]⟩
theorem b_is_value : BindOk t_is_value := fun _ _ _ _ _ _ us hl => match us, hl with | [_], _ => rfl
def t_look_at_value : DT := ⟨"look_at_value", "look_at_value", top 15, ["value"], ["value"]⟩
theorem b_look_at_value : BindOk t_look_at_value := fun _ _ _ _ _ _ us hl => match us, hl with | [_], _ => rfl
def t_shown : DT := ⟨"shown", "shown", top 16, ["value"], ["value"]⟩
theorem b_shown : BindOk t_shown := fun _ _ _ _ _ _ us hl => match us, hl with | [_], _ => rfl
def t_rank : DT := ⟨"rank", "rank", top 17, ["value"], ["value"]⟩
theorem b_rank : BindOk t_rank := fun _ _ _ _ _ _ us hl => match us, hl with | [_], _ => rfl
def t_is_less : DT := ⟨"is_less", "is_less", top 18, ["one", "other", "sign"], ["one", "other"]⟩
theorem b_is_less : BindOk t_is_less := fun _ _ _ _ _ _ us hl => match us, hl with | [_, _], _ => rfl
def t__law_draws : DT := ⟨"_law_draws", "_law_draws", top 20, ["script"], ["script"]⟩
theorem b__law_draws : BindOk t__law_draws := fun _ _ _ _ _ _ us hl => match us, hl with | [_], _ => rfl
def t__law_draw : DT := ⟨"_law_draw", "_law_draw", top 21, ["draws", "limit", "cell", "value"], ["draws", "limit"]⟩
theorem b__law_draw : BindOk t__law_draw := fun _ _ _ _ _ _ us hl => match us, hl with | [_, _], _ => rfl
def t__law_same : DT := ⟨"_law_same", "_law_same", top 22, ["actual", "expected", "k"], ["actual", "expected"]⟩
theorem b__law_same : BindOk t__law_same := fun _ _ _ _ _ _ us hl => match us, hl with | [_, _], _ => rfl
def t__law_pick : DT := ⟨"_law_pick", "_law_pick", top 23, ["draws", "things"], ["draws", "things"]⟩
theorem b__law_pick : BindOk t__law_pick := fun _ _ _ _ _ _ us hl => match us, hl with | [_, _], _ => rfl
def t__law_part : DT := ⟨"_law_part", "_law_part", top 24, ["one", "other", "turn"], ["one", "other"]⟩
theorem b__law_part : BindOk t__law_part := fun _ _ _ _ _ _ us hl => match us, hl with | [_, _], _ => rfl
def t__law_number : DT := ⟨"_law_number", "_law_number", top 25, ["above", "below", "part", "most"], ["above", "below"]⟩
theorem b__law_number : BindOk t__law_number := fun _ _ _ _ _ _ us hl => match us, hl with | [_, _], _ => rfl
def t__law_error : DT := ⟨"_law_error", "_law_error", top 26, ["value"], ["value"]⟩
theorem b__law_error : BindOk t__law_error := fun _ _ _ _ _ _ us hl => match us, hl with | [_], _ => rfl
def t__law_shown : DT := ⟨"_law_shown", "_law_shown", top 27, ["value"], ["value"]⟩
theorem b__law_shown : BindOk t__law_shown := fun _ _ _ _ _ _ us hl => match us, hl with | [_], _ => rfl
def t__law_rank : DT := ⟨"_law_rank", "_law_rank", top 28, ["value", "signs", "sign"], ["value"]⟩
theorem b__law_rank : BindOk t__law_rank := fun _ _ _ _ _ _ us hl => match us, hl with | [_], _ => rfl
def t__law_less : DT := ⟨"_law_less", "_law_less", top 29, ["one", "two"], ["one", "two"]⟩
theorem b__law_less : BindOk t__law_less := fun _ _ _ _ _ _ us hl => match us, hl with | [_, _], _ => rfl
def t__law_asked : DT := ⟨"_law_asked", "_law_asked", top 30, ["value", "e"], ["value"]⟩
theorem b__law_asked : BindOk t__law_asked := fun _ _ _ _ _ _ us hl => match us, hl with | [_], _ => rfl
def t_law : DT := ⟨"law", "law", top 31, ["script", "draws", "half", "most", "turn", "above", "below", "told", "values", "good", "one", "two", "again", "edges", "bad", "value"], ["script"]⟩
theorem b_law : BindOk t_law := fun _ _ _ _ _ _ us hl => match us, hl with | [_], _ => rfl
def fns : List DT := [t_is_whole, t_common, t_error, t_number, t_is_text, t_is_value, t_look_at_value, t_shown, t_rank, t_is_less, t__law_draws, t__law_draw, t__law_same, t__law_pick, t__law_part, t__law_number, t__law_error, t__law_shown, t__law_rank, t__law_less, t__law_asked, t_law]
def excs : List Str := ["SheetError", "BadValue"]
def glob : List (Str × GB) := [("is_whole", .fn 0 1),
  ("common", .fn 1 2),
  ("error", .fn 2 1),
  ("number", .fn 3 2),
  ("is_text", .fn 4 1),
  ("is_value", .fn 5 1),
  ("look_at_value", .fn 6 1),
  ("shown", .fn 7 1),
  ("rank", .fn 8 1),
  ("is_less", .fn 9 2),
  ("_law_draws", .fn 10 1),
  ("_law_draw", .fn 11 2),
  ("_law_same", .fn 12 2),
  ("_law_pick", .fn 13 2),
  ("_law_part", .fn 14 2),
  ("_law_number", .fn 15 2),
  ("_law_error", .fn 16 1),
  ("_law_shown", .fn 17 1),
  ("_law_rank", .fn 18 1),
  ("_law_less", .fn 19 2),
  ("_law_asked", .fn 20 1),
  ("law", .fn 21 1),
  ("SheetError", .exc 0),
  ("BadValue", .exc 1),
  ("WIDE", .con (.int 18446744073709551616)),
  ("MOST", .con (.int 115792089237316195423570985008687907853269984665640564039457584007913129639936)),
  ("MOST_TEXT", .con (.int 60)),
  ("SIGNS", .con (.str [97, 98, 99, 100, 101, 102, 103, 104, 105, 106, 107, 108, 109, 110, 111, 112, 113, 114, 115, 116, 117, 118, 119, 120, 121, 122, 65, 66, 67, 68, 69, 70, 71, 72, 73, 74, 75, 76, 77, 78, 79, 80, 81, 82, 83, 84, 85, 86, 87, 88, 89, 90, 48, 49, 50, 51, 52, 53, 54, 55, 56, 57, 32, 46, 44, 58, 59, 33, 63, 43, 45, 42, 47, 40, 41, 95])),
  ("WORDS", .con (.tup [(.str [122, 101, 114, 111]), (.str [107, 105, 110, 100]), (.str [103, 111, 110, 101]), (.str [114, 105, 110, 103]), (.str [98, 105, 103]), (.str [110, 111, 110, 101])]))]
def blts : List Str := ["abs", "all", "int", "len", "list", "tuple", "str", "isinstance", "range", "bool"]
def tab : Tab := ⟨pg, ⟨glob, blts⟩, fns, excs, 60⟩
theorem tab_chk : tab.chk = true := by decide +kernel
end K00
end Mi
namespace Mi
open Ev
open PySem
namespace K00
theorem hSame : pg.defs[12]? = some (dSame 12) := rfl
theorem hDraws : pg.defs[10]? = some dDraws := rfl
theorem hDraw : pg.defs[11]? = some dDraw := rfl
theorem hPick : pg.defs[13]? = some (dPick 11) := rfl
theorem hPart : pg.defs[14]? = some dPart := rfl
theorem hLNum : pg.defs[15]? = some (dLNumber 14) := rfl
theorem hNum : pg.defs[3]? = some (dNumber 2 1) := rfl
theorem hCom : pg.defs[1]? = some dCommon := rfl
theorem hErr : pg.defs[2]? = some dError := rfl
theorem hWho : pg.defs[0]? = some dIsWhole := rfl
theorem hTxt : pg.defs[4]? = some dIsText := rfl
theorem hVal : pg.defs[5]? = some (dIsValue 0 1 4) := rfl
theorem hLok : pg.defs[6]? = some (dLook 5) := rfl
theorem hSho : pg.defs[7]? = some (dShown 6) := rfl
theorem hRan : pg.defs[8]? = some dRank := rfl
theorem hLes : pg.defs[9]? = some (dIsLess 8) := rfl
theorem hLEr : pg.defs[16]? = some dLError := rfl
theorem hLSh : pg.defs[17]? = some dLShown := rfl
theorem hLRa : pg.defs[18]? = some dLRank := rfl
theorem hLLe : pg.defs[19]? = some (dLLess 18) := rfl
theorem hAsk : pg.defs[20]? = some (dAsked 7) := rfl
theorem hFue : pg.fuel = 3000 := rfl
def half : Int := 340282366920938463463374607431768211456
abbrev cl : Cl := callK pg 29
abbrev mk : Cl := mkK pg 29
def loopB : List IS := match d_law.body with
  | _ :: _ :: _ :: .for_ _ _ _ b :: _ => b
  | _ => []
variable {ns : List Int} {p c s : Int} {T : St} {σ : Env}
def scal : List IE := [(.con (.int 1)), (.con (.int 1)), (.con (.int 6)), (.loc 2)]
theorem s_num {i : Nat} {L H : Int} (h1 : σ[1]? = some (some (.ref 1))) (h2 : σ[2]? = some (some (.int half))) (h : DOk ns p c s) (l0 : 0 < L) (l1 : L ≤ 2000) (g0 : 0 ≤ H) (g1 : H ≤ 1000) :
    ∃ a p' c' s' T', execS pg cl mk (.asg (.name i) (.bin .mul (.bin .sub (.call 11 [(.loc 1), (.con (.int L))]) (.con (.int H))) (.call 13 [(.loc 1), (.lst scal)]))) σ (dst ns p c s T) = .fl .nx (σ.set i (some (.int a))) (dst ns p' c' s' T') ∧ DOk ns p' c' s' ∧ a.natAbs < 2 ^ 200 := by
  obtain ⟨v, p1, c1, s1, e1, v0, v1, D1⟩ := e_draw (P := pg) (k := 28) (cl := cl) (mk := mk) (T := T) (σ := σ) (lim := L) rfl hDraw h1 h l0 (Nat.lt_of_lt_of_le (show L.natAbs < 2 ^ 12 by omega) (Nat.pow_le_pow_right (by decide) (by decide)))
  obtain ⟨d, hd, p2, c2, s2, e2, D2⟩ := e_pick (P := pg) (k := 27) (cl := cl) (mk := mk) (T := T) (σ := σ) (es := scal) (xs := [.int 1, .int 1, .int 6, .int half]) rfl hPick hDraw h1 D1 (es_cons e_con (es_cons e_con (es_cons e_con (es_cons (e_loc h2 (fun _ _ e => by cases e)) es_nil)))) (by simp) (by simp)
  have hd2 : ∃ m : Int, d = .int m ∧ m.natAbs ≤ 2 ^ 128 := by
    simp only [List.mem_cons, List.not_mem_nil, or_false] at hd
    rcases hd with rfl | rfl | rfl | rfl
    · exact ⟨1, rfl, by decide⟩
    · exact ⟨1, rfl, by decide⟩
    · exact ⟨6, rfl, by decide⟩
    · exact ⟨half, rfl, by decide⟩
  obtain ⟨m, rfl, hm⟩ := hd2
  have hv : (v - H).natAbs ≤ 3000 := by omega
  refine ⟨(v - H) * m, p2, c2, s2, T ++ [.lst [.int 1, .int 1, .int 6, .int half]], s_asgE ((e_bin ((e_bin e1 e_con).trans rfl) e2).trans ?_), D2, ?_⟩
  · simp only [op2]
    rw [if_pos (mulOk_of (Nat.lt_of_le_of_lt hv (Nat.lt_of_lt_of_le (by decide : 3000 < 2 ^ 12) (Nat.pow_le_pow_right (by decide) (by decide)))) (Nat.lt_of_le_of_lt hm (Nat.pow_lt_pow_right (by decide) (by decide))))]
  · rw [Int.natAbs_mul]
    exact Nat.lt_of_le_of_lt (Nat.mul_le_mul hv hm) (by decide)
/-- what may stand among the values -/
def Vv (d : D) : Prop := Gd d ∨ d = vZero ∨ d = vBig
theorem vv_num (a b : Int) : Vv (numV a b) := by
  rcases num_cases a b with e | e | e
  · exact .inr (.inl e)
  · exact .inr (.inr e)
  · exact .inl e
def good (d : D) : Option D := if d = vZero ∨ d = vBig then none else some d
theorem good_gd {d : D} (h : Vv d) (hn : ¬ (d = vZero ∨ d = vBig)) : Gd d := h.resolve_right hn
theorem Vv.nx {d : D} (h : Vv d) : ∀ c vs, d ≠ .exc c vs := by
  rcases h with h | h | h
  · exact h.nx
  · rw [h]; exact fun _ _ e => by cases e
  · rw [h]; exact fun _ _ e => by cases e
theorem lerr_vv {k : Nat} {d : D} {S : St} (h : Vv d) : callK pg (k + 1) 16 [d] S = .ok (.bl (decide (d = vZero ∨ d = vBig))) S := by
  by_cases hn : d = vZero ∨ d = vBig
  · rw [decide_eq_true hn]
    rcases hn with rfl | rfl
    · exact lerr_err hLEr
    · exact lerr_err hLEr
  · rw [decide_eq_false hn]
    exact lerr_gd hLEr (good_gd h hn)
/-- the good ones of the values -/
theorem s_good {j : Nat} {xs : List D} (hσ : σ.length = 16) (h8 : σ[8]? = some (some (.ref (j + 2)))) (hT : T[j]? = some (.lst xs)) (hx : ∀ d ∈ xs, Vv d) (hl : xs.length < 1000) :
    execS pg cl mk (.asg (.name 9) (.comp .val [(.loc 8)] (.name 15) [15] [(.not_ (.call 16 [(.loc 15)]))] (.loc 15))) σ (dst ns p c s T) = .fl .nx (σ.set 9 (some (.ref (T.length + 2)))) (dst ns p c s (T ++ [.lst (xs.filterMap good)])) := by
  have hit : itV .val [.ref (j + 2)] (dst ns p c s T) = some (xs, some (j + 2)) := by
    show itemsOf (dst ns p c s T) (.ref (j + 2)) = _
    simp only [itemsOf, dst_at, hT]
  refine s_asgE ((e_comp good (es_cons (e_loc h8 (fun _ _ e => by cases e)) es_nil) hit (by simp only [still, dst_at, hT, decide_true]) (fun d hd => ?_) (by rw [line_eq]; omega)).trans rfl)
  refine ⟨(wipe σ [15]).set 15 (some d), rfl, ?_⟩
  have l15 : evalE pg cl mk (.loc 15) ((wipe σ [15]).set 15 (some d)) (dst ns p c s T) = .ok d (dst ns p c s T) := e_loc (List.getElem?_set_self (by simp [wipe, hσ])) (hx d hd).nx
  have t := ts_one (t_not (t_call ((e_call (cl := cl) (mk := mk) (es_cons l15 es_nil)).trans (lerr_vv (k := 28) (hx d hd)))))
  by_cases hn : d = vZero ∨ d = vBig
  · rw [decide_eq_true hn] at t
    exact .inl ⟨by unfold good; rw [if_pos hn], t⟩
  · rw [decide_eq_false hn] at t
    exact .inr ⟨d, by unfold good; rw [if_neg hn], t, l15⟩
theorem s_par2 {P : Pg} {cl mk : Cl} {i j : Nat} {a b : IE} {σ : Env} {S S1 S2 : St} {x y : D} (h1 : evalE P cl mk a σ S = .ok x S1) (h2 : evalE P cl mk b σ S1 = .ok y S2) : execS P cl mk (.par [i, j] [a, b]) σ S = .fl .nx ((σ.set i (some x)).set j (some y)) S2 := by
  rw [execS, es_cons h1 (es_cons h2 es_nil)]; rfl
/-- the two sides of the comparison -/
theorem turn2 {x y : D} (hx : Gd x) (hy : Gd y) (h10 : σ[10]? = some (some x)) (h11 : σ[11]? = some (some y)) :
    ∃ T', execS pg cl mk (.ife (.not_ (.call 12 [(.lst [(.call 9 [(.loc 10), (.loc 11)]), (.call 9 [(.loc 11), (.loc 10)]), (.call 20 [(.loc 10)])]), (.lst [(.call 19 [(.loc 10), (.loc 11)]), (.call 19 [(.loc 11), (.loc 10)]), (.lst [(.call 17 [(.loc 10)])])])])) [(.ret (.con (.bl false)))] []) σ (dst ns p c s T) = .fl .nx σ (dst ns p c s T') := by
  have l10 : ∀ S, evalE pg cl mk (.loc 10) σ S = .ok x S := fun S => e_loc h10 hx.nx
  have l11 : ∀ S, evalE pg cl mk (.loc 11) σ S = .ok y S := fun S => e_loc h11 hy.nx
  have a1 : ∀ S, evalE pg cl mk (.call 9 [(.loc 10), (.loc 11)]) σ S = .ok (.bl (lessV x y)) S := fun S => (e_call (es_cons (l10 S) (es_cons (l11 S) es_nil))).trans (less_ok (k := 27) hLes hRan hx hy)
  have a2 : ∀ S, evalE pg cl mk (.call 9 [(.loc 11), (.loc 10)]) σ S = .ok (.bl (lessV y x)) S := fun S => (e_call (es_cons (l11 S) (es_cons (l10 S) es_nil))).trans (less_ok (k := 27) hLes hRan hy hx)
  have b1 : ∀ S, evalE pg cl mk (.call 19 [(.loc 10), (.loc 11)]) σ S = .ok (.bl (lessV x y)) S := fun S => (e_call (es_cons (l10 S) (es_cons (l11 S) es_nil))).trans (lless_ok (k := 27) hLLe hLRa hx hy)
  have b2 : ∀ S, evalE pg cl mk (.call 19 [(.loc 11), (.loc 10)]) σ S = .ok (.bl (lessV y x)) S := fun S => (e_call (es_cons (l11 S) (es_cons (l10 S) es_nil))).trans (lless_ok (k := 27) hLLe hLRa hy hx)
  have lk : ∀ S, callK pg 27 6 [x] S = .ok .non S := fun S => look_ok (k := 26) hLok hx.nx (isv_gd (k := 24) hVal hWho hCom hTxt hFue hx)
  have sh : ∀ S, callK pg 28 7 [x] S = .ok (.str (shV x)) S := fun S => shown_ok (k := 27) hSho hx (lk S)
  have a3 : ∀ S, evalE pg cl mk (.call 20 [(.loc 10)]) σ S = .ok (.ref S.length) (S ++ [MO.lst [.str (shV x)]]) := fun S => (e_call (es_cons (l10 S) es_nil)).trans (asked_ok (k := 28) hAsk hx.nx (sh S))
  have b3 : ∀ S, evalE pg cl mk (.lst [(.call 17 [(.loc 10)])]) σ S = .ok (.ref S.length) (S ++ [MO.lst [.str (shV x)]]) := fun S => e_lst1 ((e_call (es_cons (l10 S) es_nil)).trans (lshown_ok (k := 28) hLSh hx))
  have e_lst3 : ∀ {a b d : IE} {S S1 : St} {u v w : D}, evalE pg cl mk a σ S = .ok u S → evalE pg cl mk b σ S = .ok v S → evalE pg cl mk d σ S = .ok w S1 → evalE pg cl mk (.lst [a, b, d]) σ S = .ok (.ref S1.length) (S1 ++ [.lst [u, v, w]]) := fun h1 h2 h3 => by
    rw [evalE, es_cons h1 (es_cons h2 (es_cons h3 es_nil))]; rfl
  have w1 := e_lst3 (a1 (dst ns p c s T)) (a2 _) (a3 _)
  have w2 := e_lst3 (b1 (dst ns p c s T ++ [MO.lst [.str (shV x)]] ++ [MO.lst [.bl (lessV x y), .bl (lessV y x), .ref (dst ns p c s T).length]])) (b2 _) (b3 _)
  generalize hS : dst ns p c s T = S at w1 w2
  have sm : Sm (S ++ [MO.lst [.str (shV x)]] ++ [MO.lst [.bl (lessV x y), .bl (lessV y x), .ref S.length]] ++ [MO.lst [.str (shV x)]] ++ [MO.lst [.bl (lessV x y), .bl (lessV y x), .ref (S ++ [MO.lst [.str (shV x)]] ++ [MO.lst [.bl (lessV x y), .bl (lessV y x), .ref S.length]]).length]]) 2 (.ref (S ++ [MO.lst [.str (shV x)]]).length) (.ref (S ++ [MO.lst [.str (shV x)]] ++ [MO.lst [.bl (lessV x y), .bl (lessV y x), .ref S.length]] ++ [MO.lst [.str (shV x)]]).length) := by
    have ok : okS (shV x) = true := by
      cases hx with
      | non => rfl
      | yes => rfl
      | no => rfl
      | text s h => exact (isText_small h).2
      | num q p h0 h1 h2 h3 =>
        show okS (if p = 1 then digits q else digits q ++ [47] ++ digits p) = true
        have d1 := digits_ok q
        have d2 := digits_ok p
        unfold okS at *
        split
        · exact d1
        · rw [List.all_append, List.all_append, d1, d2]; rfl
    have at_ : ∀ (A B : St) (m : MO), (A ++ [m] ++ B)[A.length]? = some m := fun A B m => by
      rw [List.append_assoc, List.getElem?_append_right (Nat.le_refl _), Nat.sub_self]; rfl
    refine sm_lstL (xs := [.bl (lessV x y), .bl (lessV y x), .ref S.length]) (ys := [.bl (lessV x y), .bl (lessV y x), .ref (S ++ [MO.lst [.str (shV x)]] ++ [MO.lst [.bl (lessV x y), .bl (lessV y x), .ref S.length]]).length]) ?_ ?_ ⟨sm_bl, sm_bl, sm_lstL (xs := [.str (shV x)]) (ys := [.str (shV x)]) ?_ ?_ ⟨sm_str ok, True.intro⟩ (by simp), True.intro⟩ (by simp)
    · rw [List.append_assoc _ _ [MO.lst [D.bl (lessV x y), D.bl (lessV y x), D.ref _]]]
      exact at_ _ _ _
    · have := at_ (S ++ [MO.lst [.str (shV x)]] ++ [MO.lst [.bl (lessV x y), .bl (lessV y x), .ref S.length]] ++ [MO.lst [.str (shV x)]]) [] (MO.lst [.bl (lessV x y), .bl (lessV y x), .ref (S ++ [MO.lst [.str (shV x)]] ++ [MO.lst [.bl (lessV x y), .bl (lessV y x), .ref S.length]]).length])
      rw [List.append_nil] at this
      exact this
    · have := at_ S ([MO.lst [.bl (lessV x y), .bl (lessV y x), .ref S.length]] ++ [MO.lst [.str (shV x)]] ++ [MO.lst [.bl (lessV x y), .bl (lessV y x), .ref (S ++ [MO.lst [.str (shV x)]] ++ [MO.lst [.bl (lessV x y), .bl (lessV y x), .ref S.length]]).length]]) (MO.lst [.str (shV x)])
      simp only [List.append_assoc] at this ⊢
      exact this
    · have := at_ (S ++ [MO.lst [.str (shV x)]] ++ [MO.lst [.bl (lessV x y), .bl (lessV y x), .ref S.length]]) [MO.lst [.bl (lessV x y), .bl (lessV y x), .ref (S ++ [MO.lst [.str (shV x)]] ++ [MO.lst [.bl (lessV x y), .bl (lessV y x), .ref S.length]]).length]] (MO.lst [.str (shV x)])
      exact this
  have sok := same_ok hSame 2 26 _ _ _ sm
  have e := (s_ifF (P := pg) (cl := cl) (mk := mk) (a := [(.ret (.con (.bl false)))]) (b := []) (t_not (t_call ((e_call (es_cons w1 (es_cons w2 es_nil))).trans sok)))).trans ss_nil
  refine ⟨T ++ [MO.lst [.str (shV x)]] ++ [MO.lst [.bl (lessV x y), .bl (lessV y x), .ref S.length]] ++ [MO.lst [.str (shV x)]] ++ [MO.lst [.bl (lessV x y), .bl (lessV y x), .ref (S ++ [MO.lst [.str (shV x)]] ++ [MO.lst [.bl (lessV x y), .bl (lessV y x), .ref S.length]]).length]], ?_⟩
  refine e.trans ?_
  subst hS
  rfl
end K00
end Mi
namespace Mi
open Ev
open PySem
namespace K00
structure E0 (σ : Env) : Prop where
  len : σ.length = 16
  e1 : σ[1]? = some (some (.ref 1))
  e2 : σ[2]? = some (some (.int half))
  e3 : σ[3]? = some (some (.int most))
theorem E0.set {σ : Env} (h : E0 σ) {i : Nat} {x : Option D} (hi : 4 ≤ i) : E0 (σ.set i x) :=
  ⟨by rw [List.length_set]; exact h.len, by rw [List.getElem?_set_ne (by omega)]; exact h.e1, by rw [List.getElem?_set_ne (by omega)]; exact h.e2, by rw [List.getElem?_set_ne (by omega)]; exact h.e3⟩
theorem E0.at_ {σ : Env} (h : E0 σ) {i : Nat} {x : Option D} (hi : i < 16) : (σ.set i x)[i]? = some x := List.getElem?_set_self (by rw [h.len]; exact hi)
theorem set_ne {σ : Env} {i j : Nat} {x : Option D} {y : Option (Option D)} (h : i ≠ j) (e : σ[j]? = y) : (σ.set i x)[j]? = y := by rw [List.getElem?_set_ne h]; exact e
theorem e_tup1 {P : Pg} {cl mk : Cl} {a : IE} {σ : Env} {S S1 : St} {x : D} (h1 : evalE P cl mk a σ S = .ok x S1) : evalE P cl mk (.tup [a]) σ S = .ok (.tup [x]) S1 := by
  rw [evalE, es_cons h1 es_nil]; rfl
def texts : List (List Nat) := [[], [97], [97, 98], [65], [98, 32, 99], [122, 95], [57]]
def textsE : List IE := [(.con (.str [])), (.con (.str [97])), (.con (.str [97, 98])), (.con (.str [65])), (.con (.str [98, 32, 99])), (.con (.str [122, 95])), (.con (.str [57]))]
theorem e_texts {P : Pg} {cl mk : Cl} {σ : Env} {S : St} : evalEs P cl mk textsE σ S = .ok (texts.map .str) S := es_cons e_con (es_cons e_con (es_cons e_con (es_cons e_con (es_cons e_con (es_cons e_con (es_cons e_con es_nil))))))
theorem gd_text {d : D} (h : d ∈ texts.map D.str) : Gd (.tup [.str [116, 101, 120, 116], d]) := by
  obtain ⟨s, hs, rfl⟩ := List.mem_map.mp h
  refine .text s ?_
  have : ∀ s ∈ texts, isText s = true := by decide
  exact this s hs
variable {ns : List Int} {p c s : Int} {T : St} {σ : Env}
theorem pow_mono {a m n : Nat} (h : a < 2 ^ m) (hm : m ≤ n) : a < 2 ^ n := Nat.lt_of_lt_of_le h (Nat.pow_le_pow_right (by decide) hm)
theorem turn_ok (hE : E0 σ) (hD : DOk ns p c s) : ∃ σ' p' c' s' T', execSs pg cl mk loopB σ (dst ns p c s T) = .fl .nx σ' (dst ns p' c' s' T') ∧ E0 σ' ∧ DOk ns p' c' s' := by
  obtain ⟨a, p1, c1, s1, T1, st1, D1, ha⟩ := s_num (T := T) (i := 5) (L := 2000) (H := 1000) hE.e1 hE.e2 hD (by decide) (by decide) (by decide) (by decide)
  have E1 := hE.set (i := 5) (x := some (.int a)) (by decide)
  have g5 := hE.at_ (i := 5) (x := some (.int a)) (by decide)
  generalize σ.set 5 (some (.int a)) = σ1 at st1 E1 g5
  obtain ⟨b, p2, c2, s2, T2, st2, D2, hb⟩ := s_num (T := T1) (i := 6) (L := 40) (H := 20) E1.e1 E1.e2 D1 (by decide) (by decide) (by decide) (by decide)
  have E2 := E1.set (i := 6) (x := some (.int b)) (by decide)
  have g6 := E1.at_ (i := 6) (x := some (.int b)) (by decide)
  have g5 := set_ne (i := 6) (x := some (.int b)) (by decide) g5
  generalize σ1.set 6 (some (.int b)) = σ2 at st2 E2 g5 g6
  -- told
  have l5 : ∀ S, evalE pg cl mk (.loc 5) σ2 S = .ok (.int a) S := fun S => e_loc g5 (fun _ _ e => by cases e)
  have l6 : ∀ S, evalE pg cl mk (.loc 6) σ2 S = .ok (.int b) S := fun S => e_loc g6 (fun _ _ e => by cases e)
  have st3 : execS pg cl mk (.asg (.name 7) (.call 3 [(.loc 5), (.loc 6)])) σ2 (dst ns p2 c2 s2 T2) = .fl .nx (σ2.set 7 (some (numV a b))) (dst ns p2 c2 s2 T2) :=
    s_asgE ((e_call (es_cons (l5 _) (es_cons (l6 _) es_nil))).trans (number_ok (k := 27) hNum hErr hCom hFue (pow_mono hb (by decide))))
  have E3 := E2.set (i := 7) (x := some (numV a b)) (by decide)
  have g7 := E2.at_ (i := 7) (x := some (numV a b)) (by decide)
  have g5 := set_ne (i := 7) (x := some (numV a b)) (by decide) g5
  have g6 := set_ne (i := 7) (x := some (numV a b)) (by decide) g6
  generalize σ2.set 7 (some (numV a b)) = σ3 at st3 E3 g5 g6 g7
  have l5 : ∀ S, evalE pg cl mk (.loc 5) σ3 S = .ok (.int a) S := fun S => e_loc g5 (fun _ _ e => by cases e)
  have l6 : ∀ S, evalE pg cl mk (.loc 6) σ3 S = .ok (.int b) S := fun S => e_loc g6 (fun _ _ e => by cases e)
  have l7 : ∀ S, evalE pg cl mk (.loc 7) σ3 S = .ok (numV a b) S := fun S => e_loc g7 (vv_num a b).nx
  -- the checks of told
  have q1 : evalE pg cl mk (.call 12 [(.loc 7), (.call 15 [(.loc 5), (.loc 6)])]) σ3 (dst ns p2 c2 s2 T2) = .ok (.bl true) (dst ns p2 c2 s2 T2) :=
    (e_call (es_cons (l7 _) (es_cons ((e_call (es_cons (l5 _) (es_cons (l6 _) es_nil))).trans (lnumber_ok (k := 27) hLNum hPart (pow_mono hb (by decide)))) es_nil))).trans (same_ok hSame 1 27 _ _ _ sm_num)
  have q2 : evalE pg cl mk (.call 12 [(.call 5 [(.loc 7)]), (.con (.bl true))]) σ3 (dst ns p2 c2 s2 T2) = .ok (.bl true) (dst ns p2 c2 s2 T2) :=
    (e_call (es_cons ((e_call (es_cons (l7 _) es_nil)).trans (isv_numV (k := 27) hVal hWho hCom hTxt hFue)) (es_cons e_con es_nil))).trans (same_ok hSame 0 28 _ _ _ sm_bl)
  have st4 : execS pg cl mk (.ife (.or_ (.not_ (.call 12 [(.loc 7), (.call 15 [(.loc 5), (.loc 6)])])) (.not_ (.call 12 [(.call 5 [(.loc 7)]), (.con (.bl true))]))) [(.ret (.con (.bl false)))] []) σ3 (dst ns p2 c2 s2 T2) = .fl .nx σ3 (dst ns p2 c2 s2 T2) :=
    (s_ifF (t_orF (t_not (t_call q1)) (t_not (t_call q2)))).trans ss_nil
  -- the values
  obtain ⟨u, p3, c3, s3, e3, u0, u1, D3⟩ := e_draw (P := pg) (k := 28) (cl := cl) (mk := mk) (T := T2) (σ := σ3) (lim := 50) rfl hDraw E3.e1 D2 (by decide) (by decide)
  obtain ⟨v, p4, c4, s4, e4, v0, v1, D4⟩ := e_draw (P := pg) (k := 28) (cl := cl) (mk := mk) (T := T2) (σ := σ3) (lim := 9) rfl hDraw E3.e1 D3 (by decide) (by decide)
  obtain ⟨tx, htx, p5, c5, s5, e5, D5⟩ := e_pick (P := pg) (k := 27) (cl := cl) (mk := mk) (T := T2) (σ := σ3) (es := textsE) (xs := texts.map .str) rfl hPick hDraw E3.e1 D4 e_texts (by simp [texts]) (by simp [texts])
  have ex : evalE pg cl mk (.call 15 [(.bin .sub (.call 11 [(.loc 1), (.con (.int 50))]) (.con (.int 25))), (.bin .add (.con (.int 1)) (.call 11 [(.loc 1), (.con (.int 9))]))]) σ3 (dst ns p2 c2 s2 T2) = .ok (numV (u - 25) (1 + v)) (dst ns p4 c4 s4 T2) :=
    (e_call (es_cons ((e_bin e3 e_con).trans rfl) (es_cons ((e_bin e_con e4).trans rfl) es_nil))).trans (lnumber_ok (k := 27) hLNum hPart (Nat.lt_of_lt_of_le (show (1 + v).natAbs < 2 ^ 12 by omega) (Nat.pow_le_pow_right (by decide) (by decide))))
  have et : evalE pg cl mk (.tup [(.con (.str [116, 101, 120, 116])), (.call 13 [(.loc 1), (.lst textsE)])]) σ3 (dst ns p4 c4 s4 T2) = .ok (.tup [.str [116, 101, 120, 116], tx]) (dst ns p5 c5 s5 (T2 ++ [.lst (texts.map .str)])) := e_tup2 e_con e5
  let xs : List D := [.non, numV a b, numV (u - 25) (1 + v), .tup [.str [116, 101, 120, 116], tx], .tup [.str [121, 101, 115]], .tup [.str [110, 111]]]
  let T5 : St := T2 ++ [.lst (texts.map .str)]
  have st5 : execS pg cl mk (.asg (.name 8) (.lst [(.con .non), (.loc 7), (.call 15 [(.bin .sub (.call 11 [(.loc 1), (.con (.int 50))]) (.con (.int 25))), (.bin .add (.con (.int 1)) (.call 11 [(.loc 1), (.con (.int 9))]))]), (.tup [(.con (.str [116, 101, 120, 116])), (.call 13 [(.loc 1), (.lst textsE)])]), (.tup [(.con (.str [121, 101, 115]))]), (.tup [(.con (.str [110, 111]))])])) σ3 (dst ns p2 c2 s2 T2) = .fl .nx (σ3.set 8 (some (.ref (T5.length + 2)))) (dst ns p5 c5 s5 (T5 ++ [.lst xs])) := by
    refine s_asgE ?_
    rw [evalE, es_cons e_con (es_cons (l7 _) (es_cons ex (es_cons et (es_cons (e_tup1 e_con) (es_cons (e_tup1 e_con) es_nil)))))]
    rfl
  have E5 := E3.set (i := 8) (x := some (.ref (T5.length + 2))) (by decide)
  have g8 := E3.at_ (i := 8) (x := some (.ref (T5.length + 2))) (by decide)
  generalize σ3.set 8 (some (.ref (T5.length + 2))) = σ5 at st5 E5 g8
  have hxs : ∀ d ∈ xs, Vv d := by
    intro d hd
    simp only [xs, List.mem_cons, List.not_mem_nil, or_false] at hd
    rcases hd with rfl | rfl | rfl | rfl | rfl | rfl
    · exact .inl .non
    · exact vv_num a b
    · exact vv_num _ _
    · exact .inl (gd_text htx)
    · exact .inl .yes
    · exact .inl .no
  have st6 := s_good (ns := ns) (p := p5) (c := c5) (s := s5) (T := T5 ++ [.lst xs]) (σ := σ5) (j := T5.length) E5.len g8 (by rw [List.getElem?_append_right (Nat.le_refl _), Nat.sub_self]; rfl) hxs (by simp [xs])
  let T6 : St := T5 ++ [.lst xs]
  have E6 := E5.set (i := 9) (x := some (.ref (T6.length + 2))) (by decide)
  have g9 := E5.at_ (i := 9) (x := some (.ref (T6.length + 2))) (by decide)
  have hg : ∀ d ∈ xs.filterMap good, Gd d := by
    intro d hd
    obtain ⟨e, he, h⟩ := List.mem_filterMap.mp hd
    unfold good at h
    split at h
    · cases h
    · rename_i hn
      cases h
      exact good_gd (hxs _ he) hn
  have hne : xs.filterMap good ≠ [] := by
    have : D.non ∈ xs.filterMap good := List.mem_filterMap.mpr ⟨.non, by simp [xs], rfl⟩
    intro e; rw [e] at this; cases this
  have hlen : (xs.filterMap good).length < 1000000 := Nat.lt_of_le_of_lt (List.length_filterMap_le _ _) (by simp [xs])
  have st6' : execS pg cl mk (.asg (.name 9) (.comp .val [(.loc 8)] (.name 15) [15] [(.not_ (.call 16 [(.loc 15)]))] (.loc 15))) σ5 (dst ns p5 c5 s5 (T5 ++ [.lst xs])) = .fl .nx (σ5.set 9 (some (.ref (T6.length + 2)))) (dst ns p5 c5 s5 (T6 ++ [.lst (xs.filterMap good)])) := st6
  clear st6
  generalize σ5.set 9 (some (.ref (T6.length + 2))) = σ6 at st6' E6 g9
  have hT6 : (T6 ++ [MO.lst (xs.filterMap good)])[T6.length]? = some (.lst (xs.filterMap good)) := by rw [List.getElem?_append_right (Nat.le_refl _), Nat.sub_self]; rfl
  generalize hys : xs.filterMap good = ys at hg hne hlen st6' hT6
  obtain ⟨x, hx, p7, c7, s7, e7, D7⟩ := e_pickL (P := pg) (k := 27) (cl := cl) (mk := mk) (σ := σ6) (i := 9) (j := T6.length) rfl hPick hDraw E6.e1 g9 D5 hT6 hne hlen
  obtain ⟨y, hy, p8, c8, s8, e8, D8⟩ := e_pickL (P := pg) (k := 27) (cl := cl) (mk := mk) (σ := σ6) (i := 9) (j := T6.length) rfl hPick hDraw E6.e1 g9 D7 hT6 hne hlen
  have st7 : execS pg cl mk (.par [10, 11] [(.call 13 [(.loc 1), (.loc 9)]), (.call 13 [(.loc 1), (.loc 9)])]) σ6 (dst ns p5 c5 s5 (T6 ++ [.lst ys])) = .fl .nx ((σ6.set 10 (some x)).set 11 (some y)) (dst ns p8 c8 s8 (T6 ++ [.lst ys])) := s_par2 e7 e8
  have E7 := (E6.set (i := 10) (x := some x) (by decide)).set (i := 11) (x := some y) (by decide)
  have g11 := (E6.set (i := 10) (x := some x) (by decide)).at_ (i := 11) (x := some y) (by decide)
  have g10 := set_ne (i := 11) (x := some y) (by decide) (E6.at_ (i := 10) (x := some x) (by decide))
  generalize (σ6.set 10 (some x)).set 11 (some y) = σ7 at st7 E7 g10 g11
  have hgx := hg x hx
  have hgy := hg y hy
  -- the second loop
  have lp := forL_inv (xs := (List.range 2).map fun i => D.int (i : Nat)) (turn := fun d σ S => (store pg cl mk (.name 12) d σ S).bindS σ fun σ S => execSs pg cl mk [(.ife (.not_ (.call 12 [(.lst [(.call 9 [(.loc 10), (.loc 11)]), (.call 9 [(.loc 11), (.loc 10)]), (.call 20 [(.loc 10)])]), (.lst [(.call 19 [(.loc 10), (.loc 11)]), (.call 19 [(.loc 11), (.loc 10)]), (.lst [(.call 17 [(.loc 10)])])])])) [(.ret (.con (.bl false)))] [])] σ S)
    (fun σ S => E0 σ ∧ σ[10]? = some (some x) ∧ σ[11]? = some (some y) ∧ ∃ T', S = dst ns p8 c8 s8 T') ((List.range 2).map fun i => D.int (i : Nat)) σ7 (dst ns p8 c8 s8 (T6 ++ [.lst ys])) ⟨E7, g10, g11, _, rfl⟩ (fun d hd σ S ⟨hE, h10, h11, T', hS⟩ => by
      subst hS
      have h10' := set_ne (i := 12) (x := some d) (by decide) h10
      have h11' := set_ne (i := 12) (x := some d) (by decide) h11
      obtain ⟨T'', e⟩ := turn2 (ns := ns) (p := p8) (c := c8) (s := s8) (T := T') hgx hgy h10' h11'
      refine ⟨σ.set 12 (some d), dst ns p8 c8 s8 T'', ?_, hE.set (by decide), h10', h11', T'', rfl⟩
      show execSs pg cl mk [_] (σ.set 12 (some d)) (dst ns p8 c8 s8 T') = _
      exact (ss_nx e).trans ss_nil)
  obtain ⟨σ8, S8, e9, E8, _, _, T8, hS8⟩ := lp
  subst hS8
  have st8 : execS pg cl mk (.for_ .range1 [(.con (.int 2))] (.name 12) [(.ife (.not_ (.call 12 [(.lst [(.call 9 [(.loc 10), (.loc 11)]), (.call 9 [(.loc 11), (.loc 10)]), (.call 20 [(.loc 10)])]), (.lst [(.call 19 [(.loc 10), (.loc 11)]), (.call 19 [(.loc 11), (.loc 10)]), (.lst [(.call 17 [(.loc 10)])])])])) [(.ret (.con (.bl false)))] [])]) σ7 (dst ns p8 c8 s8 (T6 ++ [.lst ys])) = .fl .nx σ8 (dst ns p8 c8 s8 T8) := by
    rw [← e9, execS, es_cons e_con es_nil]
    rfl
  exact ⟨σ8, p8, c8, s8, T8, (ss_nx st1).trans ((ss_nx st2).trans ((ss_nx st3).trans ((ss_nx st4).trans ((ss_nx st5).trans ((ss_nx st6').trans ((ss_nx st7).trans ((ss_nx st8).trans ss_nil))))))), E8, D8⟩
/-- the loop -/
theorem loop_ok (hE : E0 σ) (hD : DOk ns p c s) : ∃ σ' p' c' s' T', execS pg cl mk (.for_ .range1 [(.con (.int 12))] (.name 4) loopB) σ (dst ns p c s T) = .fl .nx σ' (dst ns p' c' s' T') ∧ E0 σ' ∧ DOk ns p' c' s' := by
  obtain ⟨σ', S', e, E', p', c', s', T', hS, D'⟩ := forL_inv (xs := (List.range 12).map fun i => D.int (i : Nat)) (turn := fun d σ S => (store pg cl mk (.name 4) d σ S).bindS σ fun σ S => execSs pg cl mk loopB σ S)
    (fun σ S => E0 σ ∧ ∃ p c s T, S = dst ns p c s T ∧ DOk ns p c s) ((List.range 12).map fun i => D.int (i : Nat)) σ (dst ns p c s T) ⟨hE, _, _, _, _, rfl, hD⟩ (fun d hd σ S ⟨hE, p, c, s, T, hS, hD⟩ => by
      subst hS
      obtain ⟨σ', p', c', s', T', e, E', D'⟩ := turn_ok (T := T) (hE.set (i := 4) (x := some d) (by decide)) hD
      exact ⟨σ', _, e, E', p', c', s', T', rfl, D'⟩)
  subst hS
  refine ⟨σ', p', c', s', T', ?_, E', D'⟩
  rw [← e, execS, es_cons e_con es_nil]
  rfl
end K00
end Mi
namespace Mi
open Ev
open PySem
namespace K00
variable {ns : List Int} {p c s : Int} {T : St} {σ : Env}
def tailB : List IS := d_law.body.drop 4
theorem last_at (A : St) (m : MO) : (A ++ [m])[A.length]? = some m := by rw [List.getElem?_append_right (Nat.le_refl _), Nat.sub_self]; rfl
theorem more_at {A B : St} {j : Nat} {m : MO} (h : A[j]? = some m) : (A ++ B)[j]? = some m := by
  rw [List.getElem?_append_left (List.getElem?_eq_some_iff.mp h).1]; exact h
/-! ### the edges -/
def e1V : D := .tup [wNum, .int (most - 1), .int 1]
def e2V : D := .tup [wNum, .int 0, .int 1]
theorem nv1 : numV most 1 = vBig := by decide +kernel
theorem nv2 : numV (most - 1) 1 = e1V := by decide +kernel
theorem nv3 : numV 1 most = vBig := by decide +kernel
theorem nv4 : numV 5 0 = vZero := by decide +kernel
theorem nv5 : numV 0 (-7) = e2V := by decide +kernel
theorem e_neg {P : Pg} {cl mk : Cl} {a : IE} {σ : Env} {S S1 : St} {i : Int} (h : evalE P cl mk a σ S = .ok (.int i) S1) : evalE P cl mk (.neg a) σ S = .ok (.int (-i)) S1 := by
  rw [evalE, h]; rfl
theorem e_numC {a b : IE} {S : St} {i j : Int} {v : D} (h1 : evalE pg cl mk a σ S = .ok (.int i) S) (h2 : evalE pg cl mk b σ S = .ok (.int j) S) (hj : j.natAbs < 2 ^ 300) (hv : numV i j = v) : evalE pg cl mk (.call 3 [a, b]) σ S = .ok v S := by
  subst hv
  exact (e_call (es_cons h1 (es_cons h2 es_nil))).trans (number_ok (k := 27) hNum hErr hCom hFue (pow_mono hj (by decide)))
theorem edges_ok (hE : E0 σ) : ∃ T', execSs pg cl mk tailB σ (dst ns p c s T) = execSs pg cl mk (tailB.drop 2) (σ.set 13 (some (.ref (T.length + 2)))) (dst ns p c s T') := by
  have l3 : ∀ S, evalE pg cl mk (.loc 3) σ S = .ok (.int most) S := fun S => e_loc hE.e3 (fun _ _ e => by cases e)
  have st1 : execS pg cl mk (.asg (.name 13) (.lst [(.call 3 [(.loc 3), (.con (.int 1))]), (.call 3 [(.bin .sub (.loc 3) (.con (.int 1))), (.con (.int 1))]), (.call 3 [(.con (.int 1)), (.loc 3)]), (.call 3 [(.con (.int 5)), (.con (.int 0))]), (.call 3 [(.con (.int 0)), (.neg (.con (.int 7)))])])) σ (dst ns p c s T) = .fl .nx (σ.set 13 (some (.ref (T.length + 2)))) (dst ns p c s (T ++ [.lst [vBig, e1V, vBig, vZero, e2V]])) := by
    refine s_asgE ?_
    rw [evalE, es_cons (e_numC (l3 _) e_con (by decide) nv1) (es_cons (e_numC ((e_bin (l3 _) e_con).trans rfl) e_con (by decide) nv2) (es_cons (e_numC e_con (l3 _) (by decide) nv3) (es_cons (e_numC e_con e_con (by decide) nv4) (es_cons (e_numC e_con (e_neg e_con) (by decide) nv5) es_nil))))]
    rfl
  have E1 := hE.set (i := 13) (x := some (.ref (T.length + 2))) (by decide)
  have g13 := hE.at_ (i := 13) (x := some (.ref (T.length + 2))) (by decide)
  generalize σ.set 13 (some (.ref (T.length + 2))) = σ1 at st1 E1 g13
  have l3 : ∀ S, evalE pg cl mk (.loc 3) σ1 S = .ok (.int most) S := fun S => e_loc E1.e3 (fun _ _ e => by cases e)
  have l13 : ∀ S, evalE pg cl mk (.loc 13) σ1 S = .ok (.ref (T.length + 2)) S := fun S => e_loc g13 (fun _ _ e => by cases e)
  let T1 : St := T ++ [.lst [vBig, e1V, vBig, vZero, e2V]]
  let T2 : St := T1 ++ [.lst [vBig, e1V, vBig, vZero, e2V]]
  have e2 : evalE pg cl mk (.lst [(.tup [(.con (.str [101, 114, 114, 111, 114])), (.con (.str [98, 105, 103]))]), (.tup [(.con (.str [110, 117, 109])), (.bin .sub (.loc 3) (.con (.int 1))), (.con (.int 1))]), (.tup [(.con (.str [101, 114, 114, 111, 114])), (.con (.str [98, 105, 103]))]), (.tup [(.con (.str [101, 114, 114, 111, 114])), (.con (.str [122, 101, 114, 111]))]), (.tup [(.con (.str [110, 117, 109])), (.con (.int 0)), (.con (.int 1))])]) σ1 (dst ns p c s T1) = .ok (.ref (T1.length + 2)) (dst ns p c s T2) := by
    have t3 : ∀ {a b d : IE} {x y z : D} {S : St}, evalE pg cl mk a σ1 S = .ok x S → evalE pg cl mk b σ1 S = .ok y S → evalE pg cl mk d σ1 S = .ok z S → evalE pg cl mk (.tup [a, b, d]) σ1 S = .ok (.tup [x, y, z]) S := fun h1 h2 h3 => by
      rw [evalE, es_cons h1 (es_cons h2 (es_cons h3 es_nil))]; rfl
    rw [evalE, es_cons (e_tup2 e_con e_con) (es_cons (t3 e_con ((e_bin (l3 _) e_con).trans rfl) e_con) (es_cons (e_tup2 e_con e_con) (es_cons (e_tup2 e_con e_con) (es_cons (t3 e_con e_con e_con) es_nil))))]
    rfl
  have sm : Sm (dst ns p c s T2) 2 (.ref (T.length + 2)) (.ref (T1.length + 2)) := by
    refine sm_lstL (xs := [vBig, e1V, vBig, vZero, e2V]) (ys := [vBig, e1V, vBig, vZero, e2V]) ?_ ?_ ⟨sm_err rfl, sm_tupL ⟨sm_str rfl, sm_int, sm_int, True.intro⟩ (by simp), sm_err rfl, sm_err rfl, sm_tupL ⟨sm_str rfl, sm_int, sm_int, True.intro⟩ (by simp), True.intro⟩ (by simp)
    · exact more_at (last_at T _)
    · exact last_at T1 _
  have st2 := (s_ifF (P := pg) (cl := cl) (mk := mk) (a := [(.ret (.con (.bl false)))]) (b := []) (t_not (t_call ((e_call (es_cons (l13 _) (es_cons e2 es_nil))).trans (same_ok hSame 2 26 _ _ _ sm))))).trans ss_nil
  exact ⟨T2, (ss_nx st1).trans (ss_nx st2)⟩
/-! ### rows of answers -/
def CallsB (S : St) (f : Nat) : List D → List Bool → Prop
  | [], [] => True
  | d :: ds, b :: bs => (∀ c vs, d ≠ .exc c vs) ∧ cl f [d] S = .ok (.bl b) S ∧ CallsB S f ds bs
  | _, _ => False
theorem CallsB.app {S : St} {f : Nat} : ∀ {xs ys : List D} {as bs : List Bool}, CallsB S f xs as → CallsB S f ys bs → CallsB S f (xs ++ ys) (as ++ bs)
  | [], _, [], _, _, h => h
  | x :: xs, _, a :: as, _, h, g => ⟨h.1, h.2.1, CallsB.app h.2.2 g⟩
def GV (S : St) (f : Nat) (d : D) : Option D := match cl f [d] S with
  | .ok v _ => some v
  | _ => none
theorem CallsB.map {S : St} {f : Nat} : ∀ {xs : List D} {bs : List Bool}, CallsB S f xs bs → xs.filterMap (GV S f) = bs.map .bl ∧ ∀ d ∈ xs, (∀ c vs, d ≠ .exc c vs) ∧ ∃ b, cl f [d] S = .ok (.bl b) S
  | [], [], _ => ⟨rfl, fun d h => by cases h⟩
  | x :: xs, b :: bs, h => by
    obtain ⟨h1, h2⟩ := CallsB.map h.2.2
    have e : GV S f x = some (.bl b) := by unfold GV; rw [h.2.1]
    refine ⟨by rw [List.filterMap_cons_some (f := GV S f) e, h1]; rfl, fun d hd => ?_⟩
    rcases List.mem_cons.mp hd with rfl | hd
    · exact ⟨h.1, b, h.2.1⟩
    · exact h2 d hd
/-- a row of answers, one for each item of a list -/
theorem e_compB {a : IE} {i f n : Nat} {S S1 : St} {xs : List D} {bs : List Bool} (hi : i < σ.length) (h1 : evalE pg cl mk a σ S = .ok (.ref n) S1) (hn : S1[n]? = some (.lst xs)) (h : CallsB S1 f xs bs) (hl : xs.length ≤ 1000) :
    evalE pg cl mk (.comp .val [a] (.name i) [i] [] (.call f [(.loc i)])) σ S = .ok (.ref S1.length) (S1 ++ [.lst (bs.map .bl)]) := by
  rw [← h.map.1]
  refine e_comp (GV S1 f) (es_cons h1 es_nil) (o := some n) (ds := xs) (by show itemsOf S1 (.ref n) = _; simp only [itemsOf, hn]) (by simp only [still, hn, decide_true]) (fun d hd => ?_) (by rw [line_eq]; omega)
  obtain ⟨nx, b, e⟩ := h.map.2 d hd
  have l : evalE pg cl mk (.loc i) ((wipe σ [i]).set i (some d)) S1 = .ok d S1 := e_loc (List.getElem?_set_self (by simpa [wipe] using hi)) nx
  exact ⟨_, rfl, .inr ⟨.bl b, by unfold GV; rw [e], by rw [evalTs], (e_call (es_cons l es_nil)).trans e⟩⟩
theorem pys_bls {rf : Nat → Option PyData} : ∀ l : List Bool, D.pys rf (l.map .bl) = some (l.map .bool)
  | [] => by simp only [List.map_nil, D.pys]
  | y :: ys => by simp only [List.map_cons, D.pys, D.py, pys_bls ys, Option.bind_some, Option.map_some]
theorem lay_bls : ∀ l : List Bool, PyData.canLayAll0 (l.map .bool) = true ∧ PyData.depthAll (l.map .bool) = 0
  | [] => by simp [PyData.canLayAll0, PyData.depthAll]
  | y :: ys => by
    obtain ⟨h1, h2⟩ := lay_bls ys
    simp [PyData.canLayAll0, PyData.depthAll, PyData.canLay0, PyData.depth, h1, h2]
theorem eqv_bls : ∀ l : List Bool, PyData.eqvAll (l.map .bool) (l.map .bool) = true
  | [] => by simp [PyData.eqvAll]
  | y :: ys => by simp [PyData.eqvAll, PyData.eqv, eqv_bls ys]
theorem eq_bls {S : St} {i j : Nat} {l : List Bool} (h : S[i]? = some (.lst (l.map .bl))) (g : S[j]? = some (.lst (l.map .bl))) : eqD S (.ref i) (.ref j) = some true := by
  have tp : ∀ {i : Nat}, S[i]? = some (.lst (l.map .bl)) → toPy S (.ref i) = some (.list (l.map .bool)) := by
    intro i h
    unfold toPy
    rw [D.py, show pyRef 6 S i = some (.list (l.map .bool)) from by rw [pyRef, h]; simp only [pys_bls, Option.map_some]]
    simp only [Option.bind_some]
    rw [if_pos]
    obtain ⟨h1, h2⟩ := lay_bls l
    unfold SeqAt.shaped
    rw [Bool.and_eq_true]
    exact ⟨by simp only [PyData.canLay0]; exact h1, by simp [PyData.depth, h2]⟩
  unfold eqD
  rw [tp h, tp g]
  simp only [Option.bind_some, Option.map_some, PyData.eqv, eqv_bls]
end K00
end Mi
namespace Mi
open Ev
open PySem
namespace K00
variable {ns : List Int} {p c s : Int} {T : St} {σ : Env}
def a60 : List Nat := (List.replicate 60 [97]).flatten
def a61 : List Nat := (List.replicate 61 [97]).flatten
def sText : D := .str [116, 101, 120, 116]
def goodL : List D := [.non, .tup [wNum, .int (-3), .int 4], .tup [sText, .str a60], .tup [sText, .str []], .tup [.str [121, 101, 115]], .tup [.str [110, 111]], errV [114, 105, 110, 103], errV [110, 111, 110, 101]]
def bad1 : List D := [.int 5, .tup [], .tup [wNum, .int 2, .int 4], .tup [wNum, .int 1, .int 0], .tup [wNum, .int 1, .int (-2)], .tup [wNum, .bl true, .int 1], .tup [wNum, .int most, .int 1], .tup [wNum, .int 1, .int most], .tup [wNum, .int 1], .tup [sText, .str a61], .tup [sText, .str [35]], .tup [sText, .int 5]]
def bad2 (y : Nat) : List D := [.tup [.str [121, 101, 115], .int 1], errV [102, 97, 114], .tup [wErr], .tup [wErr, .non], .ref y, .tup [.str [102, 97, 114]], .tup [.int 5], .bl true]
theorem good_val {k : Nat} {S : St} : ∀ d ∈ goodL, (∀ c vs, d ≠ .exc c vs) ∧ callK pg (k + 2) 5 [d] S = .ok (.bl true) S := by
  intro d hd
  have g : ∀ {d : D}, Gd d → (∀ c vs, d ≠ .exc c vs) ∧ callK pg (k + 2) 5 [d] S = .ok (.bl true) S := fun h => ⟨h.nx, isv_gd hVal hWho hCom hTxt hFue h⟩
  simp only [goodL, List.mem_cons, List.not_mem_nil, or_false] at hd
  rcases hd with rfl | rfl | rfl | rfl | rfl | rfl | rfl | rfl
  · exact g .non
  · exact g (.num _ _ (by decide) (by decide) (by decide) (by decide))
  · exact g (.text _ (by decide +kernel))
  · exact g (.text _ (by decide))
  · exact g .yes
  · exact g .no
  · exact ⟨(fun _ _ e => by cases e), isv_err hVal rfl⟩
  · exact ⟨(fun _ _ e => by cases e), isv_err hVal rfl⟩
section
variable {P : Pg} {k f fw fc ft : Nat} {S : St} {ds : List D}
theorem isv_numX (hP : P.defs[f]? = some (dIsValue fw fc ft))
    (hq : evT P (callK P k) (mkK P k) (.or_ (.cmp .ne (.ix (.loc 0) (.con (.int 0))) (.con (.str [110, 117, 109]))) (.or_ (.cmp .ne (.bi .len (.loc 0)) (.con (.int 3))) (.or_ (.not_ (.call fw [(.ix (.loc 0) (.con (.int 1)))])) (.not_ (.call fw [(.ix (.loc 0) (.con (.int 2)))]))))) [some (.tup (.str [110, 117, 109] :: ds))] S = .ok true S) :
    callK P (k + 1) f [.tup (.str [110, 117, 109] :: ds)] S = .ok (.bl false) S := by
  rw [call_eq hP rfl, isv_word hP rfl (by decide) (by decide) (by decide) (by decide)]
  have e : execSs P (callK P k) (mkK P k) ((dIsValue fw fc ft).body.drop 5) [some (.tup (.str [110, 117, 109] :: ds))] S = .fl (.ret (.bl false)) [some (.tup (.str [110, 117, 109] :: ds))] S := ss_ret ((s_ifT hq).trans (ss_ret (s_retE e_con)))
  rw [e]
  show R.ok _ (gc _ _ _) = _
  rw [gc_same]
theorem isv_c1 : evT P (callK P k) (mkK P k) (.cmp .ne (.ix (.loc 0) (.con (.int 0))) (.con (.str [110, 117, 109]))) [some (.tup (.str [110, 117, 109] :: ds))] S = .ok false S := t_cmp isv_i0 e_con (by simp only [cmpV]; rw [eqD_str rfl rfl]; rfl)
theorem isv_num2 {x : D} (hP : P.defs[f]? = some (dIsValue fw fc ft)) : callK P (k + 1) f [.tup [wNum, x]] S = .ok (.bl false) S := by
  show callK P (k + 1) f [.tup (.str [110, 117, 109] :: [x])] S = _
  generalize hds : [x] = ds
  refine isv_numX hP (t_orF isv_c1 (t_orT (t_cmp isv_len e_con (q := true) ?_)))
  simp only [cmpV, eqD_int, ← hds]; rfl
theorem isv_numB {b : Bool} {x : D} (hP : P.defs[f]? = some (dIsValue fw fc ft)) (hW : P.defs[fw]? = some dIsWhole) : callK P (k + 2) f [.tup [wNum, .bl b, x]] S = .ok (.bl false) S := by
  show callK P (k + 2) f [.tup (.str [110, 117, 109] :: [.bl b, x])] S = _
  generalize hds : [D.bl b, x] = ds
  have i1 := isv_ix (P := P) (k := k + 1) (S := S) (w := [110, 117, 109]) (ds := ds) (x := .bl b) (by rw [← hds]; rfl)
  have w1 := (e_call (cl := callK P (k + 1)) (mk := mkK P (k + 1)) (f := fw) (es_cons i1 es_nil)).trans (whole_ok (k := k) (S := S) hW (x := .bl b) True.intro)
  refine isv_numX hP (t_orF isv_c1 (t_orF (t_cmp isv_len e_con (q := false) ?_) (t_orT (t_not (t_call w1)))))
  simp only [cmpV, eqD_int, ← hds]; rfl
end
theorem bad_val1 {k : Nat} {S : St} : ∀ d ∈ bad1, (∀ c vs, d ≠ .exc c vs) ∧ callK pg (k + 2) 5 [d] S = .ok (.bl false) S := by
  intro d hd
  have nm : ∀ {q p : Int}, (decide (0 < p) && (decide (p < most) && (decide ((q.natAbs : Int) < most) && decide (gcdI q p = 1)))) = false → callK pg (k + 2) 5 [.tup [wNum, .int q, .int p]] S = .ok (.bl false) S := fun h => by
    rw [isv_num hVal hWho hCom hFue, h]
  simp only [bad1, List.mem_cons, List.not_mem_nil, or_false] at hd
  rcases hd with rfl | rfl | rfl | rfl | rfl | rfl | rfl | rfl | rfl | rfl | rfl | rfl
  · exact ⟨(fun _ _ e => by cases e), isv_int hVal⟩
  · exact ⟨(fun _ _ e => by cases e), isv_nil hVal⟩
  · exact ⟨(fun _ _ e => by cases e), nm (by decide)⟩
  · exact ⟨(fun _ _ e => by cases e), nm (by decide)⟩
  · exact ⟨(fun _ _ e => by cases e), nm (by decide)⟩
  · exact ⟨(fun _ _ e => by cases e), isv_numB hVal hWho⟩
  · exact ⟨(fun _ _ e => by cases e), nm (by decide)⟩
  · exact ⟨(fun _ _ e => by cases e), nm (by decide)⟩
  · exact ⟨(fun _ _ e => by cases e), isv_num2 hVal⟩
  · exact ⟨(fun _ _ e => by cases e), isv_text hVal (text_ok hTxt (by decide))⟩
  · exact ⟨(fun _ _ e => by cases e), isv_text hVal (text_ok hTxt (by decide))⟩
  · exact ⟨(fun _ _ e => by cases e), isv_text hVal (text_no hTxt (by rw [evalE, e_loc rfl (fun _ _ e => by cases e)]; rfl))⟩
theorem bad_val2 {k y : Nat} {S : St} {l : List D} (hS : S[y]? = some (.lst l)) : ∀ d ∈ bad2 y, (∀ c vs, d ≠ .exc c vs) ∧ callK pg (k + 2) 5 [d] S = .ok (.bl false) S := by
  intro d hd
  simp only [bad2, List.mem_cons, List.not_mem_nil, or_false] at hd
  rcases hd with rfl | rfl | rfl | rfl | rfl | rfl | rfl | rfl
  · exact ⟨(fun _ _ e => by cases e), isv_yn hVal (.inl rfl)⟩
  · exact ⟨(fun _ _ e => by cases e), isv_err hVal rfl⟩
  · exact ⟨(fun _ _ e => by cases e), isv_err1 hVal⟩
  · exact ⟨(fun _ _ e => by cases e), isv_errN hVal⟩
  · exact ⟨(fun _ _ e => by cases e), isv_lst hVal hS⟩
  · exact ⟨(fun _ _ e => by cases e), isv_other hVal rfl (by decide) (by decide) (by decide) (by decide) (by decide)⟩
  · exact ⟨(fun _ _ e => by cases e), isv_tint hVal⟩
  · exact ⟨(fun _ _ e => by cases e), isv_bl hVal⟩
theorem callsB_all {S : St} {f : Nat} {b : Bool} : ∀ {xs : List D}, (∀ d ∈ xs, (∀ c vs, d ≠ .exc c vs) ∧ cl f [d] S = .ok (.bl b) S) → CallsB S f xs (List.replicate xs.length b)
  | [], _ => True.intro
  | x :: xs, h => ⟨(h x List.mem_cons_self).1, (h x List.mem_cons_self).2, callsB_all fun d hd => h d (List.mem_cons_of_mem _ hd)⟩
/-! ### lists of the law's end -/
theorem e_tup3 {cl mk : Cl} {a b d : IE} {x y z : D} {S : St} (h1 : evalE pg cl mk a σ S = .ok x S) (h2 : evalE pg cl mk b σ S = .ok y S) (h3 : evalE pg cl mk d σ S = .ok z S) : evalE pg cl mk (.tup [a, b, d]) σ S = .ok (.tup [x, y, z]) S := by
  rw [evalE, es_cons h1 (es_cons h2 (es_cons h3 es_nil))]; rfl
theorem e_lstN {cl mk : Cl} {es : List IE} {xs : List D} {S S1 : St} (h : evalEs pg cl mk es σ S = .ok xs S1) (hl : xs.length ≤ 1000) : evalE pg cl mk (.lst es) σ S = .ok (.ref S1.length) (S1 ++ [.lst xs]) := by
  rw [evalE, h]
  simp only [R.bind]
  rw [if_pos (by rw [line_eq]; omega)]
  rfl
theorem e_nil0 {cl mk : Cl} {S : St} : evalE pg cl mk (.tup []) σ S = .ok (.tup []) S := by
  rw [evalE, es_nil]; rfl
theorem e_aN {cl mk : Cl} {S : St} : evalE pg cl mk (.bin .mul (.con (.str [97])) (.con (.int 60))) σ S = .ok (.str a60) S ∧ evalE pg cl mk (.bin .mul (.con (.str [97])) (.con (.int 61))) σ S = .ok (.str a61) S := ⟨(e_bin e_con e_con).trans rfl, (e_bin e_con e_con).trans rfl⟩
theorem st_good {cl mk : Cl} {S : St} : execS pg cl mk (.asg (.name 9) (.lst [(.con .non), (.tup [(.con (.str [110, 117, 109])), (.neg (.con (.int 3))), (.con (.int 4))]), (.tup [(.con (.str [116, 101, 120, 116])), (.bin .mul (.con (.str [97])) (.con (.int 60)))]), (.tup [(.con (.str [116, 101, 120, 116])), (.con (.str []))]), (.tup [(.con (.str [121, 101, 115]))]), (.tup [(.con (.str [110, 111]))]), (.tup [(.con (.str [101, 114, 114, 111, 114])), (.con (.str [114, 105, 110, 103]))]), (.tup [(.con (.str [101, 114, 114, 111, 114])), (.con (.str [110, 111, 110, 101]))])])) σ S = .fl .nx (σ.set 9 (some (.ref S.length))) (S ++ [.lst goodL]) :=
  s_asgE (e_lstN (xs := goodL) (es_cons e_con (es_cons (e_tup3 e_con (e_neg e_con) e_con) (es_cons (e_tup2 e_con e_aN.1) (es_cons (e_tup2 e_con e_con) (es_cons (e_tup1 e_con) (es_cons (e_tup1 e_con) (es_cons (e_tup2 e_con e_con) (es_cons (e_tup2 e_con e_con) es_nil)))))))) (by simp [goodL]))
theorem st_bad1 {cl mk : Cl} {S : St} (h3 : σ[3]? = some (some (.int most))) : execS pg cl mk (.asg (.name 14) (.lst [(.con (.int 5)), (.tup []), (.tup [(.con (.str [110, 117, 109])), (.con (.int 2)), (.con (.int 4))]), (.tup [(.con (.str [110, 117, 109])), (.con (.int 1)), (.con (.int 0))]), (.tup [(.con (.str [110, 117, 109])), (.con (.int 1)), (.neg (.con (.int 2)))]), (.tup [(.con (.str [110, 117, 109])), (.con (.bl true)), (.con (.int 1))]), (.tup [(.con (.str [110, 117, 109])), (.loc 3), (.con (.int 1))]), (.tup [(.con (.str [110, 117, 109])), (.con (.int 1)), (.loc 3)]), (.tup [(.con (.str [110, 117, 109])), (.con (.int 1))]), (.tup [(.con (.str [116, 101, 120, 116])), (.bin .mul (.con (.str [97])) (.con (.int 61)))]), (.tup [(.con (.str [116, 101, 120, 116])), (.con (.str [35]))]), (.tup [(.con (.str [116, 101, 120, 116])), (.con (.int 5))])])) σ S = .fl .nx (σ.set 14 (some (.ref S.length))) (S ++ [.lst bad1]) := by
  have l3 : ∀ S, evalE pg cl mk (.loc 3) σ S = .ok (.int most) S := fun S => e_loc h3 (fun _ _ e => by cases e)
  exact s_asgE (e_lstN (xs := bad1) (es_cons e_con (es_cons e_nil0 (es_cons (e_tup3 e_con e_con e_con) (es_cons (e_tup3 e_con e_con e_con) (es_cons (e_tup3 e_con e_con (e_neg e_con)) (es_cons (e_tup3 e_con e_con e_con) (es_cons (e_tup3 e_con (l3 _) e_con) (es_cons (e_tup3 e_con e_con (l3 _)) (es_cons (e_tup2 e_con e_con) (es_cons (e_tup2 e_con e_aN.2) (es_cons (e_tup2 e_con e_con) (es_cons (e_tup2 e_con e_con) es_nil)))))))))))) (by simp [bad1]))
theorem add_lst {S : St} {a b : Nat} {xs ys : List D} (h1 : S[a]? = some (.lst xs)) (h2 : S[b]? = some (.lst ys)) (hl : xs.length + ys.length ≤ 1000) : op2 .add (.ref a) (.ref b) S = .ok (.ref S.length) (S ++ [.lst (xs ++ ys)]) := by
  simp only [op2, h1, h2]
  rw [if_pos (by rw [line_eq]; omega)]
  rfl
theorem st_bad2 {cl mk : Cl} {S : St} {j : Nat} (h14 : σ[14]? = some (some (.ref j))) (hj : S[j]? = some (.lst bad1)) : execS pg cl mk (.asg (.name 14) (.bin .add (.loc 14) (.lst [(.tup [(.con (.str [121, 101, 115])), (.con (.int 1))]), (.tup [(.con (.str [101, 114, 114, 111, 114])), (.con (.str [102, 97, 114]))]), (.tup [(.con (.str [101, 114, 114, 111, 114]))]), (.tup [(.con (.str [101, 114, 114, 111, 114])), (.con .non)]), (.lst [(.con (.str [121, 101, 115]))]), (.tup [(.con (.str [102, 97, 114]))]), (.tup [(.con (.int 5))]), (.con (.bl true))]))) σ S =
    .fl .nx (σ.set 14 (some (.ref (S ++ [MO.lst [.str [121, 101, 115]]] ++ [MO.lst (bad2 S.length)]).length))) (S ++ [MO.lst [.str [121, 101, 115]]] ++ [.lst (bad2 S.length)] ++ [.lst (bad1 ++ bad2 S.length)]) := by
  refine s_asgE ((e_bin (e_loc h14 (fun _ _ e => by cases e)) (e_lstN (xs := bad2 S.length) (es_cons (e_tup2 e_con e_con) (es_cons (e_tup2 e_con e_con) (es_cons (e_tup1 e_con) (es_cons (e_tup2 e_con e_con) (es_cons (e_lst1 e_con) (es_cons (e_tup1 e_con) (es_cons (e_tup1 e_con) (es_cons e_con es_nil)))))))) (by simp [bad2]))).trans (add_lst (more_at (more_at hj)) (last_at _ _) (by simp [bad1, bad2])))
end K00
end Mi
namespace Mi
open Ev
open PySem
namespace K00
variable {ns : List Int} {p c s : Int} {T : St} {σ : Env}
theorem mul_lst {S : St} {a n : Nat} {xs : List D} (h : S[a]? = some (.lst xs)) (hn : n ≤ 1000) (hl : xs.length ≤ 1000) : op2 .mul (.ref a) (.int (n : Nat)) S = .ok (.ref S.length) (S ++ [.lst (List.replicate n xs).flatten]) := by
  simp only [op2, h]
  rw [if_pos (by simp; omega)]
  rfl
theorem len_lst {S : St} {a : Nat} {xs : List D} (h : S[a]? = some (.lst xs)) : biV .len (.ref a) S = .ok (.int (xs.length : Nat)) S := by
  simp only [biV, listOf, h]
theorem t_ne_bls {e1 e2 : IE} {S S1 S2 : St} {i j : Nat} {l : List Bool} (h1 : evalE pg cl mk e1 σ S = .ok (.ref i) S1) (h2 : evalE pg cl mk e2 σ S1 = .ok (.ref j) S2) (g1 : S2[i]? = some (.lst (l.map .bl))) (g2 : S2[j]? = some (.lst (l.map .bl))) : evT pg cl mk (.cmp .ne e1 e2) σ S = .ok false S2 :=
  t_cmp h1 h2 (by simp only [cmpV]; rw [eq_bls g1 g2]; rfl)
theorem tail_ok (hE : E0 σ) (hD : DOk ns p c s) : ∃ σ' S', execSs pg cl mk tailB σ (dst ns p c s T) = .fl (.ret (.bl true)) σ' S' := by
  obtain ⟨T2, e1⟩ := edges_ok (ns := ns) (p := p) (c := c) (s := s) (T := T) hE
  rw [e1]
  have E1 := hE.set (i := 13) (x := some (.ref (T.length + 2))) (by decide)
  generalize σ.set 13 (some (.ref (T.length + 2))) = σ1 at E1
  have st3 := st_good (σ := σ1) (cl := cl) (mk := mk) (S := dst ns p c s T2)
  have E2 := E1.set (i := 9) (x := some (.ref (dst ns p c s T2).length)) (by decide)
  have g9 := E1.at_ (i := 9) (x := some (.ref (dst ns p c s T2).length)) (by decide)
  generalize σ1.set 9 (some (.ref (dst ns p c s T2).length)) = σ2 at st3 E2 g9
  have st4 := st_bad1 (σ := σ2) (cl := cl) (mk := mk) (S := dst ns p c s T2 ++ [.lst goodL]) E2.e3
  have E3 := E2.set (i := 14) (x := some (.ref (dst ns p c s T2 ++ [MO.lst goodL]).length)) (by decide)
  have g14 := E2.at_ (i := 14) (x := some (.ref (dst ns p c s T2 ++ [MO.lst goodL]).length)) (by decide)
  have g9 := set_ne (i := 14) (x := some (.ref (dst ns p c s T2 ++ [MO.lst goodL]).length)) (by decide) g9
  generalize σ2.set 14 (some (.ref (dst ns p c s T2 ++ [MO.lst goodL]).length)) = σ3 at st4 E3 g9 g14
  let S4 : St := dst ns p c s T2 ++ [.lst goodL] ++ [.lst bad1]
  have st5 := st_bad2 (σ := σ3) (cl := cl) (mk := mk) (S := S4) g14 (last_at (dst ns p c s T2 ++ [.lst goodL]) (.lst bad1))
  let y : Nat := S4.length
  let T6 : St := T2 ++ [.lst goodL] ++ [.lst bad1] ++ [.lst [.str [121, 101, 115]]] ++ [.lst (bad2 y)]
  let badL : List D := bad1 ++ bad2 y
  let T7 : St := T6 ++ [.lst badL]
  have E5 := E3.set (i := 14) (x := some (.ref (T6.length + 2))) (by decide)
  have h14 := E3.at_ (i := 14) (x := some (.ref (T6.length + 2))) (by decide)
  have h9 := set_ne (i := 14) (x := some (.ref (T6.length + 2))) (by decide) g9
  have st5' : execS pg cl mk (.asg (.name 14) (.bin .add (.loc 14) (.lst [(.tup [(.con (.str [121, 101, 115])), (.con (.int 1))]), (.tup [(.con (.str [101, 114, 114, 111, 114])), (.con (.str [102, 97, 114]))]), (.tup [(.con (.str [101, 114, 114, 111, 114]))]), (.tup [(.con (.str [101, 114, 114, 111, 114])), (.con .non)]), (.lst [(.con (.str [121, 101, 115]))]), (.tup [(.con (.str [102, 97, 114]))]), (.tup [(.con (.int 5))]), (.con (.bl true))]))) σ3 S4 = .fl .nx (σ3.set 14 (some (.ref (T6.length + 2)))) (dst ns p c s T7) := st5
  clear st5
  generalize σ3.set 14 (some (.ref (T6.length + 2))) = σ5 at st5' E5 h14 h9
  -- the store at the tests
  have a9 : (dst ns p c s T7)[(dst ns p c s T2).length]? = some (.lst goodL) := by
    have : (dst ns p c s T2 ++ [MO.lst goodL] ++ ([.lst bad1] ++ [.lst [.str [121, 101, 115]]] ++ [.lst (bad2 y)] ++ [.lst badL]))[(dst ns p c s T2).length]? = some (.lst goodL) := more_at (last_at _ _)
    refine Eq.trans (congrArg (fun Z : St => Z[(dst ns p c s T2).length]?) ?_) this
    simp only [T7, T6, dst, List.append_assoc, List.cons_append]
  have aT : T7[T6.length]? = some (.lst badL) := last_at T6 _
  have a14 : (dst ns p c s T7)[T6.length + 2]? = some (.lst badL) := aT
  have aY : (dst ns p c s T7)[y]? = some (.lst [.str [121, 101, 115]]) := by
    have : (S4 ++ [MO.lst [.str [121, 101, 115]]] ++ ([.lst (bad2 y)] ++ [.lst badL]))[y]? = some (.lst [.str [121, 101, 115]]) := more_at (last_at S4 _)
    refine Eq.trans (congrArg (fun Z : St => Z[y]?) ?_) this
    simp only [T7, T6, S4, dst, List.append_assoc, List.cons_append]
  have hbad : ∀ {k : Nat} {S : St}, S[y]? = some (.lst [.str [121, 101, 115]]) → ∀ d ∈ badL, (∀ c vs, d ≠ .exc c vs) ∧ callK pg (k + 2) 5 [d] S = .ok (.bl false) S := by
    intro k S hS d hd
    rcases List.mem_append.mp hd with h | h
    · exact bad_val1 d h
    · exact bad_val2 hS d h
  have hbl : badL.length = 20 := rfl
  obtain ⟨S2, hS2⟩ : ∃ S2, S2 = dst ns p c s T2 := ⟨_, rfl⟩
  rw [← hS2] at a9 h9
  clear_value T7 badL
  have l9 : ∀ S, evalE pg cl mk (.loc 9) σ5 S = .ok (.ref S2.length) S := fun S => e_loc h9 (fun _ _ e => by cases e)
  have l14 : ∀ S, evalE pg cl mk (.loc 14) σ5 S = .ok (.ref (T6.length + 2)) S := fun S => e_loc h14 (fun _ _ e => by cases e)
  -- the first test
  let bs : List Bool := List.replicate goodL.length true ++ List.replicate badL.length false
  let S8 : St := dst ns p c s T7 ++ [.lst (goodL ++ badL)]
  have cA : evalE pg cl mk (.comp .val [(.bin .add (.loc 9) (.loc 14))] (.name 10) [10] [] (.call 5 [(.loc 10)])) σ5 (dst ns p c s T7) = .ok (.ref S8.length) (S8 ++ [.lst (bs.map .bl)]) :=
    e_compB (by rw [E5.len]; decide) ((e_bin (l9 _) (l14 _)).trans (add_lst a9 a14 (by rw [hbl]; decide))) (last_at _ _) ((callsB_all fun d hd => good_val (k := 27) d hd).app (callsB_all fun d hd => hbad (k := 27) (more_at aY) d hd)) (by rw [List.length_append, hbl]; decide)
  let S9 : St := S8 ++ [.lst (bs.map .bl)]
  have b9 : S9[S2.length]? = some (.lst goodL) := more_at (more_at a9)
  have b14 : S9[T6.length + 2]? = some (.lst badL) := more_at (more_at a14)
  have m1 : evalE pg cl mk (.bin .mul (.lst [(.con (.bl true))]) (.bi .len (.loc 9))) σ5 S9 = .ok (.ref (S9 ++ [MO.lst [.bl true]]).length) (S9 ++ [.lst [.bl true]] ++ [.lst (List.replicate goodL.length [D.bl true]).flatten]) :=
    (e_bin (e_lst1 e_con) ((e_bi (l9 _)).trans (len_lst (more_at b9)))).trans (mul_lst (last_at _ _) (by decide) (by simp))
  let S11 : St := S9 ++ [.lst [.bl true]] ++ [.lst (List.replicate goodL.length [D.bl true]).flatten]
  have m2 : evalE pg cl mk (.bin .mul (.lst [(.con (.bl false))]) (.bi .len (.loc 14))) σ5 S11 = .ok (.ref (S11 ++ [MO.lst [.bl false]]).length) (S11 ++ [.lst [.bl false]] ++ [.lst (List.replicate badL.length [D.bl false]).flatten]) :=
    (e_bin (e_lst1 e_con) ((e_bi (l14 _)).trans (len_lst (more_at (more_at (more_at b14)))))).trans (mul_lst (last_at _ _) (by rw [hbl]; decide) (by simp))
  let S13 : St := S11 ++ [.lst [.bl false]] ++ [.lst (List.replicate badL.length [D.bl false]).flatten]
  have cB : evalE pg cl mk (.bin .add (.bin .mul (.lst [(.con (.bl true))]) (.bi .len (.loc 9))) (.bin .mul (.lst [(.con (.bl false))]) (.bi .len (.loc 14)))) σ5 S9 = .ok (.ref S13.length) (S13 ++ [.lst ((List.replicate goodL.length [D.bl true]).flatten ++ (List.replicate badL.length [D.bl false]).flatten)]) :=
    (e_bin m1 m2).trans (add_lst (more_at (more_at (last_at _ _))) (last_at _ _) (by rw [hbl]; decide))
  have eB : (List.replicate goodL.length [D.bl true]).flatten ++ (List.replicate badL.length [D.bl false]).flatten = bs.map .bl := by
    show _ = (List.replicate goodL.length true ++ List.replicate badL.length false).map D.bl
    rw [hbl]; rfl
  rw [eB] at cB
  have c1 := t_ne_bls (l := bs) cA cB (more_at (more_at (more_at (more_at (more_at (last_at S8 _)))))) (last_at S13 _)
  -- the second
  let X : St := [.lst (goodL ++ badL)] ++ [.lst (bs.map .bl)] ++ [.lst [.bl true]] ++ [.lst (List.replicate goodL.length [D.bl true]).flatten] ++ [.lst [.bl false]] ++ [.lst (List.replicate badL.length [D.bl false]).flatten] ++ [.lst (bs.map .bl)]
  have eX : S13 ++ [.lst (bs.map .bl)] = dst ns p c s (T7 ++ X) := by
    simp only [S13, S11, S9, S8, X, dst, List.append_assoc, List.cons_append]
  rw [eX] at c1
  clear_value X
  obtain ⟨d, hd, p2, c2, s2, ep, D2⟩ := e_pickL (P := pg) (k := 27) (cl := cl) (mk := mk) (σ := σ5) (i := 14) (j := T6.length) (T := T7 ++ X) rfl hPick hDraw E5.e1 h14 hD (more_at aT) (by intro e; rw [e] at hbl; cases hbl) (by rw [hbl]; decide)
  have yS : (dst ns p2 c2 s2 (T7 ++ X))[y]? = some (.lst [.str [121, 101, 115]]) := by
    have h2 : 2 ≤ y := by
      show 2 ≤ (dst ns p c s T2 ++ [MO.lst goodL] ++ [MO.lst bad1]).length
      simp [dst]
    obtain ⟨z, hz⟩ : ∃ z, y = z + 2 := ⟨y - 2, by omega⟩
    rw [hz] at aY ⊢
    exact more_at (A := T7) aY
  have sh := shown_no (P := pg) (k := 27) (f := 7) hSho (hbad (k := 0) aY d hd).1 (look_no (P := pg) (k := 26) (f := 6) hLok (hbad (k := 0) aY d hd).1 (hbad (k := 24) yS d hd).2)
  have ask := asked_no (P := pg) (k := 28) (f := 20) hAsk rfl rfl (hbad (k := 0) aY d hd).1 sh
  have c2' : evT pg cl mk (.cmp .ne (.call 20 [(.call 13 [(.loc 1), (.loc 14)])]) (.con (.str [118, 97, 108, 117, 101]))) σ5 (dst ns p c s (T7 ++ X)) = .ok false (dst ns p2 c2 s2 (T7 ++ X)) := t_cmp ((e_call (es_cons ep es_nil)).trans ask) e_con (by simp only [cmpV]; rw [eqD_str rfl rfl]; rfl)
  have st6 := (s_ifF (P := pg) (cl := cl) (mk := mk) (a := [(.ret (.con (.bl false)))]) (b := []) (t_orF c1 c2')).trans ss_nil
  generalize dst ns p2 c2 s2 (T7 ++ X) = S15 at st6
  -- texts
  let tx : List D := [.str [], .str [97, 45, 90, 32, 57, 40, 41], .str a60, .str a61, .str [35], .non, .int 5]
  let tb : List Bool := [true, true, true, false, false, false, false]
  have ct : CallsB (S15 ++ [.lst tx]) 4 tx tb := by
    have tn : ∀ {x : D} {S : St}, (∀ c vs, x ≠ .exc c vs) → isiV pg S x .str = some false → cl 4 [x] S = .ok (.bl false) S := fun nx h => text_no (P := pg) (k := 28) hTxt (by rw [evalE, e_loc rfl nx]; simp only [R.bind, h, bl])
    exact ⟨(fun _ _ e => by cases e), text_ok (k := 28) hTxt (by decide), (fun _ _ e => by cases e), text_ok (k := 28) hTxt (by decide), (fun _ _ e => by cases e), text_ok (k := 28) hTxt (by decide), (fun _ _ e => by cases e), text_ok (k := 28) hTxt (by decide), (fun _ _ e => by cases e), text_ok (k := 28) hTxt (by decide),
      (fun _ _ e => by cases e), tn (fun _ _ e => by cases e) rfl, (fun _ _ e => by cases e), tn (fun _ _ e => by cases e) rfl, True.intro⟩
  have cT := e_compB (σ := σ5) (i := 10) (f := 4) (bs := tb) (a := .lst [(.con (.str [])), (.con (.str [97, 45, 90, 32, 57, 40, 41])), (.bin .mul (.con (.str [97])) (.con (.int 60))), (.bin .mul (.con (.str [97])) (.con (.int 61))), (.con (.str [35])), (.con .non), (.con (.int 5))]) (by rw [E5.len]; decide) (e_lstN (S := S15) (xs := tx) (es_cons e_con (es_cons e_con (es_cons e_aN.1 (es_cons e_aN.2 (es_cons e_con (es_cons e_con (es_cons e_con es_nil))))))) (by simp [tx])) (last_at _ _) ct (by simp [tx])
  have cL := e_lstN (σ := σ5) (cl := cl) (mk := mk) (S := S15 ++ [.lst tx] ++ [.lst (tb.map .bl)]) (es := [(.con (.bl true)), (.con (.bl true)), (.con (.bl true)), (.con (.bl false)), (.con (.bl false)), (.con (.bl false)), (.con (.bl false))]) (xs := tb.map .bl) (es_cons e_con (es_cons e_con (es_cons e_con (es_cons e_con (es_cons e_con (es_cons e_con (es_cons e_con es_nil))))))) (by simp [tb])
  have c3 := t_ne_bls (l := tb) cT cL (more_at (last_at (S15 ++ [MO.lst tx]) _)) (last_at _ _)
  have st7 := (s_ifF (P := pg) (cl := cl) (mk := mk) (a := [(.ret (.con (.bl false)))]) (b := []) c3).trans ss_nil
  generalize S15 ++ [MO.lst tx] ++ [MO.lst (tb.map .bl)] ++ [MO.lst (tb.map .bl)] = S18 at st7
  -- whole numbers
  let wx : List D := [.int 0, .int (-5), .bl true, .non, .str [49]]
  let wb : List Bool := [true, true, false, false, false]
  have cw : CallsB (S18 ++ [.lst wx]) 0 wx wb := ⟨(fun _ _ e => by cases e), whole_ok (k := 28) hWho True.intro, (fun _ _ e => by cases e), whole_ok (k := 28) hWho True.intro, (fun _ _ e => by cases e), whole_ok (k := 28) hWho True.intro, (fun _ _ e => by cases e), whole_ok (k := 28) hWho True.intro, (fun _ _ e => by cases e), whole_ok (k := 28) hWho True.intro, True.intro⟩
  have cW := e_compB (σ := σ5) (i := 10) (f := 0) (bs := wb) (a := .lst [(.con (.int 0)), (.neg (.con (.int 5))), (.con (.bl true)), (.con .non), (.con (.str [49]))]) (by rw [E5.len]; decide) (e_lstN (S := S18) (xs := wx) (es_cons e_con (es_cons (e_neg e_con) (es_cons e_con (es_cons e_con (es_cons e_con es_nil))))) (by simp [wx])) (last_at _ _) cw (by simp [wx])
  have cV := e_lstN (σ := σ5) (cl := cl) (mk := mk) (S := S18 ++ [.lst wx] ++ [.lst (wb.map .bl)]) (es := [(.con (.bl true)), (.con (.bl true)), (.con (.bl false)), (.con (.bl false)), (.con (.bl false))]) (xs := wb.map .bl) (es_cons e_con (es_cons e_con (es_cons e_con (es_cons e_con (es_cons e_con es_nil))))) (by simp [wb])
  have c4 := e_cmp (o := .eq) cW cV (q := true) (eq_bls (l := wb) (more_at (last_at (S18 ++ [.lst wx]) _)) (last_at _ _))
  exact ⟨_, _, (ss_nx st3).trans ((ss_nx st4).trans ((ss_nx st5').trans ((ss_nx st6).trans ((ss_nx st7).trans (ss_ret (s_retE c4))))))⟩
/-- the law -/
theorem law_ok (ns : List Int) (h : ns.length ≤ 63) : ∃ S, callK pg 30 i_law [.frz (ns.map .int)] [] = .ok (.bl true) S := by
  rw [call_eq (k := 29) (d := d_law) rfl rfl]
  have l0 : evalE pg cl mk (.loc 0) (startEnv d_law [.frz (ns.map .int)]) [] = .ok (.frz (ns.map .int)) [] := e_loc rfl (fun _ _ e => by cases e)
  have st1 : execS pg cl mk (.asg (.name 1) (.call 10 [(.loc 0)])) (startEnv d_law [.frz (ns.map .int)]) [] = .fl .nx ((startEnv d_law [.frz (ns.map .int)]).set 1 (some (.ref 1))) (dst ns 0 0 1 []) := s_asgE ((e_call (es_cons l0 es_nil)).trans (draws_ok (k := 28) hDraws))
  have st2 : execS pg cl mk (.asg (.name 2) (.con (.int 340282366920938463463374607431768211456))) ((startEnv d_law [.frz (ns.map .int)]).set 1 (some (.ref 1))) (dst ns 0 0 1 []) = .fl .nx (((startEnv d_law [.frz (ns.map .int)]).set 1 (some (.ref 1))).set 2 (some (.int half))) (dst ns 0 0 1 []) := s_asgE e_con
  have l2 : evalE pg cl mk (.loc 2) (((startEnv d_law [.frz (ns.map .int)]).set 1 (some (.ref 1))).set 2 (some (.int half))) (dst ns 0 0 1 []) = .ok (.int half) (dst ns 0 0 1 []) := e_loc rfl (fun _ _ e => by cases e)
  have st3 : execS pg cl mk (.asg (.name 3) (.bin .mul (.loc 2) (.loc 2))) (((startEnv d_law [.frz (ns.map .int)]).set 1 (some (.ref 1))).set 2 (some (.int half))) (dst ns 0 0 1 []) = .fl .nx ((((startEnv d_law [.frz (ns.map .int)]).set 1 (some (.ref 1))).set 2 (some (.int half))).set 3 (some (.int most))) (dst ns 0 0 1 []) := by
    refine s_asgE ((e_bin l2 l2).trans ?_)
    simp only [op2]
    rw [if_pos (mulOk_of (Nat.lt_of_lt_of_le (show half.natAbs < 2 ^ 200 by decide) (Nat.pow_le_pow_right (by decide) (by decide))) (Nat.lt_of_lt_of_le (show half.natAbs < 2 ^ 200 by decide) (Nat.pow_le_pow_right (by decide) (by decide))))]
    rfl
  have E : E0 ((((startEnv d_law [.frz (ns.map .int)]).set 1 (some (.ref 1))).set 2 (some (.int half))).set 3 (some (.int most))) := ⟨rfl, rfl, rfl, rfl⟩
  generalize (((startEnv d_law [.frz (ns.map .int)]).set 1 (some (.ref 1))).set 2 (some (.int half))).set 3 (some (.int most)) = σ3 at st3 E
  obtain ⟨σ4, p, c, s, T, st4, E4, D4⟩ := loop_ok (T := []) E (DOk.start (ns := ns))
  obtain ⟨σ5, S5, e5⟩ := tail_ok (T := T) E4 D4
  have e : execSs pg cl mk d_law.body (startEnv d_law [.frz (ns.map .int)]) [] = .fl (.ret (.bl true)) σ5 S5 := (ss_nx st1).trans ((ss_nx st2).trans ((ss_nx st3).trans ((ss_nx st4).trans e5)))
  refine ⟨gc [] (.bl true) S5, ?_⟩
  have e' : execSs pg (callK pg 29) (mkK pg 29) d_law.body (startEnv d_law [.frz (ns.map .int)]) [] = .fl (.ret (.bl true)) σ5 S5 := e
  rw [e']
  rfl
end K00
end Mi

open PySem PySem.W PyProof.Rows Mi Mi.K00 in
set_option maxRecDepth 100000 in
set_option maxHeartbeats 0 in
theorem PySem.Challenge.cw_cellsmeant_k00_whole_values_holds : PySem.Challenge.rw_cellsmeant_k00_whole_values.Holds := by
  w_on; o_law; k_head; (case hw => w_witness2)
  k_fill
  refine Mi.walk (l := PySem.Challenge.rw_cellsmeant_k00_whole_values) (T := tab) (xs := [?_, ?_]) (n := 63) (k := 30) (i := i_law) (t := t_law) rfl (by decide) rfl ⟨rfl, by decide, by decide⟩ (fun w h Y => PySem.W.kIn_of Y) tab_chk rfl rfl rfl ?K law_ok
  case K =>
    intro w
    refine' topK_mk ?X rfl ?S ?F ?C ?B
    case X =>
      refine' ⟨xat_mk PySem.F.excBase_ValueError ?y1_0 ?y1_1 ?y1_2 ?y1_3 ?y1_4 ?y1_5 ?y1_6 ?y1_7 ?y1_8 ?y1_9 ?y1_10 ?y1_11 , ?_⟩; (case y1_0 => k_is); (case y1_1 => k_exc); (case y1_2 => k_is); (case y1_3 => k_is); (case y1_4 => k_is); (case y1_5 => k_is); (case y1_6 => k_is); (case y1_7 => k_is); (case y1_8 => k_is); (case y1_9 => k_is); (case y1_10 => k_is); (case y1_11 => k_is)
      refine' ⟨xat_mk PySem.F.excBase_ValueError ?y2_0 ?y2_1 ?y2_2 ?y2_3 ?y2_4 ?y2_5 ?y2_6 ?y2_7 ?y2_8 ?y2_9 ?y2_10 ?y2_11 , ?_⟩; (case y2_0 => k_is); (case y2_1 => k_exc); (case y2_2 => k_is); (case y2_3 => k_is); (case y2_4 => k_is); (case y2_5 => k_is); (case y2_6 => k_is); (case y2_7 => k_is); (case y2_8 => k_is); (case y2_9 => k_is); (case y2_10 => k_is); (case y2_11 => k_is)
      exact True.intro
    case S =>
      refine' ⟨?_, ?_⟩
      · refine' ⟨?_, ?_⟩; k_is; refine' ⟨?_, ?_⟩; k_is; exact True.intro
      refine' ⟨?_, ?_⟩
      · refine' ⟨?_, ?_⟩; k_is; refine' ⟨?_, ?_⟩; k_is; exact True.intro
      exact True.intro
    case F =>
      refine' all_cons (Q := Mi.FnAt _) ?_ ?_; (refine' fnAt_mk b_is_whole ?y3_0 ?y3_1 ?y3_2 ?y3_3; (case y3_0 => k_is); (case y3_1 => k_is); (case y3_2 => k_is); (case y3_3 => k_is))
      refine' all_cons (Q := Mi.FnAt _) ?_ ?_; (refine' fnAt_mk b_common ?y4_0 ?y4_1 ?y4_2 ?y4_3; (case y4_0 => k_is); (case y4_1 => k_is); (case y4_2 => k_is); (case y4_3 => k_is))
      refine' all_cons (Q := Mi.FnAt _) ?_ ?_; (refine' fnAt_mk b_error ?y5_0 ?y5_1 ?y5_2 ?y5_3; (case y5_0 => k_is); (case y5_1 => k_is); (case y5_2 => k_is); (case y5_3 => k_is))
      refine' all_cons (Q := Mi.FnAt _) ?_ ?_; (refine' fnAt_mk b_number ?y6_0 ?y6_1 ?y6_2 ?y6_3; (case y6_0 => k_is); (case y6_1 => k_is); (case y6_2 => k_is); (case y6_3 => k_is))
      refine' all_cons (Q := Mi.FnAt _) ?_ ?_; (refine' fnAt_mk b_is_text ?y7_0 ?y7_1 ?y7_2 ?y7_3; (case y7_0 => k_is); (case y7_1 => k_is); (case y7_2 => k_is); (case y7_3 => k_is))
      refine' all_cons (Q := Mi.FnAt _) ?_ ?_; (refine' fnAt_mk b_is_value ?y8_0 ?y8_1 ?y8_2 ?y8_3; (case y8_0 => k_is); (case y8_1 => k_is); (case y8_2 => k_is); (case y8_3 => k_is))
      refine' all_cons (Q := Mi.FnAt _) ?_ ?_; (refine' fnAt_mk b_look_at_value ?y9_0 ?y9_1 ?y9_2 ?y9_3; (case y9_0 => k_is); (case y9_1 => k_is); (case y9_2 => k_is); (case y9_3 => k_is))
      refine' all_cons (Q := Mi.FnAt _) ?_ ?_; (refine' fnAt_mk b_shown ?y10_0 ?y10_1 ?y10_2 ?y10_3; (case y10_0 => k_is); (case y10_1 => k_is); (case y10_2 => k_is); (case y10_3 => k_is))
      refine' all_cons (Q := Mi.FnAt _) ?_ ?_; (refine' fnAt_mk b_rank ?y11_0 ?y11_1 ?y11_2 ?y11_3; (case y11_0 => k_is); (case y11_1 => k_is); (case y11_2 => k_is); (case y11_3 => k_is))
      refine' all_cons (Q := Mi.FnAt _) ?_ ?_; (refine' fnAt_mk b_is_less ?y12_0 ?y12_1 ?y12_2 ?y12_3; (case y12_0 => k_is); (case y12_1 => k_is); (case y12_2 => k_is); (case y12_3 => k_is))
      refine' all_cons (Q := Mi.FnAt _) ?_ ?_; (refine' fnAt_mk b__law_draws ?y13_0 ?y13_1 ?y13_2 ?y13_3; (case y13_0 => k_is); (case y13_1 => k_is); (case y13_2 => k_is); (case y13_3 => k_is))
      refine' all_cons (Q := Mi.FnAt _) ?_ ?_; (refine' fnAt_mk b__law_draw ?y14_0 ?y14_1 ?y14_2 ?y14_3; (case y14_0 => k_is); (case y14_1 => k_is); (case y14_2 => k_is); (case y14_3 => k_is))
      refine' all_cons (Q := Mi.FnAt _) ?_ ?_; (refine' fnAt_mk b__law_same ?y15_0 ?y15_1 ?y15_2 ?y15_3; (case y15_0 => k_is); (case y15_1 => k_is); (case y15_2 => k_is); (case y15_3 => k_is))
      refine' all_cons (Q := Mi.FnAt _) ?_ ?_; (refine' fnAt_mk b__law_pick ?y16_0 ?y16_1 ?y16_2 ?y16_3; (case y16_0 => k_is); (case y16_1 => k_is); (case y16_2 => k_is); (case y16_3 => k_is))
      refine' all_cons (Q := Mi.FnAt _) ?_ ?_; (refine' fnAt_mk b__law_part ?y17_0 ?y17_1 ?y17_2 ?y17_3; (case y17_0 => k_is); (case y17_1 => k_is); (case y17_2 => k_is); (case y17_3 => k_is))
      refine' all_cons (Q := Mi.FnAt _) ?_ ?_; (refine' fnAt_mk b__law_number ?y18_0 ?y18_1 ?y18_2 ?y18_3; (case y18_0 => k_is); (case y18_1 => k_is); (case y18_2 => k_is); (case y18_3 => k_is))
      refine' all_cons (Q := Mi.FnAt _) ?_ ?_; (refine' fnAt_mk b__law_error ?y19_0 ?y19_1 ?y19_2 ?y19_3; (case y19_0 => k_is); (case y19_1 => k_is); (case y19_2 => k_is); (case y19_3 => k_is))
      refine' all_cons (Q := Mi.FnAt _) ?_ ?_; (refine' fnAt_mk b__law_shown ?y20_0 ?y20_1 ?y20_2 ?y20_3; (case y20_0 => k_is); (case y20_1 => k_is); (case y20_2 => k_is); (case y20_3 => k_is))
      refine' all_cons (Q := Mi.FnAt _) ?_ ?_; (refine' fnAt_mk b__law_rank ?y21_0 ?y21_1 ?y21_2 ?y21_3; (case y21_0 => k_is); (case y21_1 => k_is); (case y21_2 => k_is); (case y21_3 => k_is))
      refine' all_cons (Q := Mi.FnAt _) ?_ ?_; (refine' fnAt_mk b__law_less ?y22_0 ?y22_1 ?y22_2 ?y22_3; (case y22_0 => k_is); (case y22_1 => k_is); (case y22_2 => k_is); (case y22_3 => k_is))
      refine' all_cons (Q := Mi.FnAt _) ?_ ?_; (refine' fnAt_mk b__law_asked ?y23_0 ?y23_1 ?y23_2 ?y23_3; (case y23_0 => k_is); (case y23_1 => k_is); (case y23_2 => k_is); (case y23_3 => k_is))
      refine' all_cons (Q := Mi.FnAt _) ?_ ?_; (refine' fnAt_mk b_law ?y24_0 ?y24_1 ?y24_2 ?y24_3; (case y24_0 => k_is); (case y24_1 => k_is); (case y24_2 => k_is); (case y24_3 => k_is))
      exact all_nil
    case C =>
      refine' all_cons ?_ ?_; (exact True.intro)
      refine' all_cons ?_ ?_; (exact True.intro)
      refine' all_cons ?_ ?_; (exact True.intro)
      refine' all_cons ?_ ?_; (exact True.intro)
      refine' all_cons ?_ ?_; (exact True.intro)
      refine' all_cons ?_ ?_; (exact True.intro)
      refine' all_cons ?_ ?_; (exact True.intro)
      refine' all_cons ?_ ?_; (exact True.intro)
      refine' all_cons ?_ ?_; (exact True.intro)
      refine' all_cons ?_ ?_; (exact True.intro)
      refine' all_cons ?_ ?_; (exact True.intro)
      refine' all_cons ?_ ?_; (exact True.intro)
      refine' all_cons ?_ ?_; (exact True.intro)
      refine' all_cons ?_ ?_; (exact True.intro)
      refine' all_cons ?_ ?_; (exact True.intro)
      refine' all_cons ?_ ?_; (exact True.intro)
      refine' all_cons ?_ ?_; (exact True.intro)
      refine' all_cons ?_ ?_; (exact True.intro)
      refine' all_cons ?_ ?_; (exact True.intro)
      refine' all_cons ?_ ?_; (exact True.intro)
      refine' all_cons ?_ ?_; (exact True.intro)
      refine' all_cons ?_ ?_; (exact True.intro)
      refine' all_cons ?_ ?_; (exact True.intro)
      refine' all_cons ?_ ?_; (exact True.intro)
      refine' all_cons ?_ ?_; (refine' con_mk ?y25_0 val_int; (case y25_0 => k_is))
      refine' all_cons ?_ ?_; (refine' con_mk ?y26_0 val_int; (case y26_0 => k_is))
      refine' all_cons ?_ ?_; (refine' con_mk ?y27_0 val_int; (case y27_0 => k_is))
      refine' all_cons ?_ ?_; (refine' con_mk ?y28_0 (val_str ?y28_1); (case y28_0 => k_is); (case y28_1 => decide +kernel))
      refine' all_cons ?_ ?_; (refine' con_tup ?y35_0 ?y35_1 ?y35_2 ?y35_3; (case y35_0 => k_is); (case y35_1 => k_is); (case y35_2 => decide); (case y35_3 => refine' vals_cons (val_str ?y34_0) ?_; (case y34_0 => decide +kernel); refine' vals_cons (val_str ?y33_0) ?_; (case y33_0 => decide +kernel); refine' vals_cons (val_str ?y32_0) ?_; (case y32_0 => decide +kernel); refine' vals_cons (val_str ?y31_0) ?_; (case y31_0 => decide +kernel); refine' vals_cons (val_str ?y30_0) ?_; (case y30_0 => decide +kernel); refine' vals_cons (val_str ?y29_0) ?_; (case y29_0 => decide +kernel); exact vals_nil))
      exact all_nil
    case B =>
      refine' all_cons ?_ ?_; k_is
      refine' all_cons ?_ ?_; k_is
      refine' all_cons ?_ ?_; k_is
      refine' all_cons ?_ ?_; k_is
      refine' all_cons ?_ ?_; k_is
      refine' all_cons ?_ ?_; k_is
      refine' all_cons ?_ ?_; k_is
      refine' all_cons ?_ ?_; k_is
      refine' all_cons ?_ ?_; k_is
      refine' all_cons ?_ ?_; k_is
      exact all_nil
