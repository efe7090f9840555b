import PyProof.Rows.All
import PySem.Str
import Wide.All
import OpenK.AllK
import Wide.FinOn
import HandS.ForExc
import HandS.More
import HandS.Comp
import HandS.IsInst
import HandS.Style
import HandS.TupAny
import HandS.Text
import HandS.TupLe
import HandS.Wide
import HandS.EndBits
import HandS.ExcIs
import HandS.Iter
import HandS.TryOnly
import HandS.ExcOwn
import HandS.Words
import HandS.WideBits
import PyProof.NeKinds
import PyProof.NeData
import PyProof.StrOps2
import HandS.Deep
import HandS.Dict
import PyProof.Rows.SeqMore
import PySem.Challenge.RW_typeshold_k01_whole_terms_and_their_boun
set_option Elab.async false
set_option autoImplicit false
set_option linter.all false
set_option maxRecDepth 100000
set_option maxHeartbeats 4000000
/-! YSem: a small language over data (no heap), and what a run of it must reach (weakest preconditions). -/
namespace Y
abbrev Str := PySem.Str
abbrev Ky := Sum Int Str
theorem ky_eq (a b : Ky) : (a == b) = true ↔ a = b := by
  cases a with
  | inl i => cases b with
    | inl j => show (i == j) = true ↔ _; simp
    | inr y => show false = true ↔ _; simp
  | inr x => cases b with
    | inl j => show false = true ↔ _; simp
    | inr y => show (x == y) = true ↔ _; simp
instance kyLaw : LawfulBEq Ky where
  eq_of_beq h := (ky_eq _ _).mp h
  rfl := (ky_eq _ _).mpr rfl

/-- data: lists and dicts here are frozen (never changed again); loc: a changeable object of the store -/
inductive D where
  | non | bl (b : Bool) | int (i : Int) | str (x : Str)
  | tup (xs : List D) | lst (xs : List D)
  | dK (ks : List Ky) (vs : List D) | dT (ks : List (List Ky)) (vs : List D)
  | loc (i : Nat)

/-- a changeable object; its items hold no loc -/
inductive O where
  | lst (xs : List D) | dK (ks : List Ky) (vs : List D) | dT (ks : List (List Ky)) (vs : List D)
abbrev Store := List O
abbrev En := List (Option D)

mutual
def D.free : D → Bool
  | .tup xs => frees xs
  | .lst xs => frees xs
  | .dK _ vs => frees vs
  | .dT _ vs => frees vs
  | .loc _ => false
  | .non => true
  | .bl _ => true
  | .int _ => true
  | .str _ => true
def frees : List D → Bool
  | [] => true
  | d :: r => d.free && frees r
end

def frz : O → D
  | .lst xs => .lst xs
  | .dK ks vs => .dK ks vs
  | .dT ks vs => .dT ks vs

/-! what a def hands back: its own objects frozen -/
mutual
def inl (S : Store) (n : Nat) : D → D
  | .loc i => if i < n then .loc i else match S[i]? with
    | some o => frz o
    | none => .loc i
  | .tup xs => .tup (inls S n xs)
  | .non => .non
  | .bl b => .bl b
  | .int i => .int i
  | .str x => .str x
  | .lst xs => .lst xs
  | .dK ks vs => .dK ks vs
  | .dT ks vs => .dT ks vs
def inls (S : Store) (n : Nat) : List D → List D
  | [] => []
  | d :: r => inl S n d :: inls S n r
end

/-- == as Python has it on such data (a bool is as the int 1 or 0) -/
def b2i (b : Bool) : Int := if b then 1 else 0
mutual
def eqD : D → D → Bool
  | .non, .non => true
  | .bl a, .bl b => a == b
  | .bl a, .int j => b2i a == j
  | .int i, .bl b => i == b2i b
  | .int i, .int j => i == j
  | .str x, .str y => decide (x = y)
  | .tup xs, .tup ys => eqDs xs ys
  | .lst xs, .lst ys => eqDs xs ys
  | _, _ => false
def eqDs : List D → List D → Bool
  | [], [] => true
  | x :: xs, y :: ys => eqD x y && eqDs xs ys
  | _, _ => false
end

/-! ### values -/
/-- the items of a list or a tuple -/
def seqOf (S : Store) : D → Option (List D)
  | .lst xs => some xs
  | .tup xs => some xs
  | .loc i => match S[i]? with
    | some (.lst xs) => some xs
    | _ => none
  | _ => none
def lstOf (S : Store) : D → Option (List D)
  | .lst xs => some xs
  | .loc i => match S[i]? with
    | some (.lst xs) => some xs
    | _ => none
  | _ => none
/-- ints of a list -/
def intsOf : List D → Option (List Int)
  | [] => some []
  | .int i :: r => (intsOf r).map (i :: ·)
  | _ :: _ => none
def boolsOf : List D → Option (List Bool)
  | [] => some []
  | .bl i :: r => (boolsOf r).map (i :: ·)
  | _ :: _ => none
/-- an index, from either end -/
def ixOf {α : Type} (xs : List α) (i : Int) : Option α :=
  if 0 ≤ i then xs[i.toNat]? else if -(xs.length : Int) ≤ i then xs[(i + xs.length).toNat]? else none
/-- where a slice begins or ends -/
def cutIx (n : Nat) (dflt : Nat) : D → Option Nat
  | .non => some dflt
  | .int i => some (if 0 ≤ i then min i.toNat n else (i + n).toNat)
  | _ => none
def cutOf {α : Type} (xs : List α) (lo hi : Nat) : List α := (xs.drop lo).take (hi - lo)
/-- plain things, whose == needs no look inside -/
def plain : D → Bool
  | .non => true
  | .bl _ => true
  | .int _ => true
  | .str _ => true
  | _ => false
/-- a bool and an int are not told apart by ==: such pairs are left out -/
def plainPair : D → D → Bool
  | .bl _, .int _ => false
  | .int _, .bl _ => false
  | x, y => plain x && plain y
mutual
def D.depth : D → Nat
  | .tup xs => depths xs + 1
  | .lst xs => depths xs + 1
  | .non => 0
  | .bl _ => 0
  | .int _ => 0
  | .str _ => 0
  | .dK _ _ => 0
  | .dT _ _ => 0
  | .loc _ => 0
def depths : List D → Nat
  | [] => 0
  | d :: r => max d.depth (depths r)
end
/-! data of bools, ints, texts, lists and tuples alone, their texts well said -/
mutual
def D.dat : D → Bool
  | .non => true
  | .bl _ => true
  | .int _ => true
  | .str x => x.cps.toList.all fun c => decide (c < 0x110000)
  | .tup xs => dats xs
  | .lst xs => dats xs
  | .dK _ _ => false
  | .dT _ _ => false
  | .loc _ => false
def dats : List D → Bool
  | [] => true
  | d :: r => d.dat && dats r
end

/-! ### operations -/
inductive Ty where
  | int | bool | str | list | tuple | dict
  deriving DecidableEq
def isTy (S : Store) : Ty → D → Bool
  | .int, .int _ => true
  | .int, .bl _ => true
  | .bool, .bl _ => true
  | .str, .str _ => true
  | .list, .lst _ => true
  | .list, .loc i => (match S[i]? with | some (.lst _) => true | _ => false)
  | .tuple, .tup _ => true
  | .dict, .dK _ _ => true
  | .dict, .dT _ _ => true
  | .dict, .loc i => (match S[i]? with | some (.dK _ _) => true | some (.dT _ _) => true | _ => false)
  | _, _ => false
inductive Op where
  | add (fz : Bool) | addI | sub | mul (fz : Bool) | pow | fdiv | mod | neg
  | lt | le | gt | ge | eq | ne | isN | notN | isB | notB | inn (neg : Bool)
  | ix | cut (fz lo hi : Bool)
  | len | max2 | min2 | int1 | str1 | sum | maxL | minL | all | any | list1 (fz : Bool) | tuple1 | isi (t : Ty) | isis (ts : List Ty)
  | pop | append | extend | upper
  deriving DecidableEq

abbrev Q1 := D → Store → Prop
def mulOk (i j : Int) : Prop := i.natAbs.log2 + j.natAbs.log2 < 134000000
def line : Nat := 16777216
/-- a new list -/
def newL (fz : Bool) (xs : List D) (S : Store) (Q : Q1) : Prop :=
  xs.length ≤ line ∧ frees xs = true ∧ (if fz then Q (.lst xs) S else Q (.loc S.length) (S ++ [.lst xs]))
def wII (f : Int → Int → D) : List D → Store → Q1 → Prop
  | [.int i, .int j], S, Q => Q (f i j) S
  | _, _, _ => False
def wIIc (c : Int → Int → Prop) (f : Int → Int → D) : List D → Store → Q1 → Prop
  | [.int i, .int j], S, Q => c i j ∧ Q (f i j) S
  | _, _, _ => False
def wAdd (fz : Bool) : D → D → Store → Q1 → Prop
  | .int i, .int j, S, Q => Q (.int (i + j)) S
  | .str x, .str y, S, Q => x.length + y.length ≤ line ∧ Q (.str (x ++ y)) S
  | .tup xs, .tup ys, S, Q => xs ≠ [] ∧ xs.length + ys.length ≤ line ∧ Q (.tup (xs ++ ys)) S
  | x, y, S, Q => match lstOf S x, lstOf S y with
    | some xs, some ys => newL fz (xs ++ ys) S Q
    | _, _ => False
def repS (j : Int) (x : Str) : Str := ⟨((List.replicate j.toNat x.cps.toList).flatten).toArray⟩
def wMul (fz : Bool) : D → D → Store → Q1 → Prop
  | .int i, .int j, S, Q => mulOk i j ∧ Q (.int (i * j)) S
  | .str x, .int j, S, Q => x.length * j.toNat ≤ line ∧ j < 4611686018427387904 ∧ -4611686018427387904 < j ∧ Q (.str (repS j x)) S
  | _, _, _, _ => False
/-- == of the items of two lists, of two tuples -/
def wEqs (f : Bool → Bool) (xs ys : List D) (S : Store) (Q : Q1) : Prop :=
  if xs.isEmpty || ys.isEmpty then Q (.bl (f (xs.isEmpty && ys.isEmpty))) S
  else dats xs = true ∧ dats ys = true ∧ depths xs < 64 ∧ depths ys < 64 ∧ Q (.bl (f (eqDs xs ys))) S
def wEq (f : Bool → Bool) (x y : D) (S : Store) (Q : Q1) : Prop :=
  if plainPair x y then Q (.bl (f (eqD x y))) S
  else match x, y with
    | .tup xs, .tup ys => wEqs f xs ys S Q
    | x, y => match lstOf S x, lstOf S y with
      | some xs, some ys => wEqs f xs ys S Q
      | _, _ => False
def negB (neg b : Bool) : Bool := if neg then !b else b
def wIn (neg : Bool) (x y : D) (S : Store) (Q : Q1) : Prop :=
  match x, y with
  | .str a, .str b => (match a.cps.toList with
    | [c] => Q (.bl (negB neg (b.cps.toList.contains c))) S
    | _ => False)
  | .str a, .dK ks _ => Q (.bl (negB neg (ks.contains (.inr a)))) S
  | x, y => match seqOf S y with
    | some ys =>
      if plain x then ys.all plain = true ∧ ys.all (fun z => plainPair x z) = true ∧ Q (.bl (negB neg (ys.any fun z => eqD z x))) S
      else (lstOf S y).isSome ∧ x.dat = true ∧ dats ys = true ∧ x.depth ≤ 64 ∧ depths ys < 64 ∧ Q (.bl (negB neg (ys.any fun z => eqD z x))) S
    | none => False
def wIx (x i : D) (S : Store) (Q : Q1) : Prop :=
  match x, i with
  | .str x, .int i => x.length ≤ line ∧ (match ixOf x.cps.toList i with
      | some c => Q (.str ⟨#[c]⟩) S
      | none => False)
  | .dK ks vs, .str k => (match (ks.zip vs).lookup (.inr k) with
      | some v => Q v S
      | none => False)
  | x, .int i => (match seqOf S x with
      | some xs => (match ixOf xs i with
        | some v => Q v S
        | none => False)
      | none => False)
  | _, _ => False
def wCut (fz : Bool) (x lo hi : D) (S : Store) (Q : Q1) : Prop :=
  match x with
  | .str x => (match cutIx x.cps.size 0 lo, cutIx x.cps.size x.cps.size hi with
        | some a, some b => x.length ≤ line ∧ Q (.str ⟨(cutOf x.cps.toList a b).toArray⟩) S
        | _, _ => False)
  | .tup xs => (match cutIx xs.length 0 lo, cutIx xs.length xs.length hi with
        | some a, some b => Q (.tup (cutOf xs a b)) S
        | _, _ => False)
  | x => (match lstOf S x with
      | some xs => (match cutIx xs.length 0 lo, cutIx xs.length xs.length hi with
        | some a, some b => newL fz (cutOf xs a b) S Q
        | _, _ => False)
      | none => False)
def wCutA (fz : Bool) : Bool → Bool → List D → Store → Q1 → Prop
  | false, false, [x], S, Q => wCut fz x .non .non S Q
  | true, false, [x, .int a], S, Q => wCut fz x (.int a) .non S Q
  | false, true, [x, .int b], S, Q => wCut fz x .non (.int b) S Q
  | _, _, _, _, _ => False
def wLen (x : D) (S : Store) (Q : Q1) : Prop :=
  match x with
  | .str x => x.length ≤ line ∧ Q (.int x.length) S
  | x => (match seqOf S x with
      | some xs => Q (.int xs.length) S
      | none => False)
def wInts (x : D) (S : Store) (K : List Int → Prop) : Prop :=
  match lstOf S x with
  | some xs => (match intsOf xs with
    | some ns => K ns
    | none => False)
  | none => False
def wBools (x : D) (S : Store) (K : List Bool → Prop) : Prop :=
  match lstOf S x with
  | some xs => (match boolsOf xs with
    | some ns => K ns
    | none => False)
  | none => False
def wSeq (x : D) (S : Store) (K : List D → Prop) : Prop :=
  match seqOf S x with
  | some xs => K xs
  | none => False
def wObj (x : D) (S : Store) (K : Nat → List D → Prop) : Prop :=
  match x with
  | .loc i => (match S[i]? with
    | some (.lst xs) => K i xs
    | _ => False)
  | _ => False
def w1 (K : D → Prop) : List D → Prop
  | [x] => K x
  | _ => False
def w2 (K : D → D → Prop) : List D → Prop
  | [x, y] => K x y
  | _ => False
def w3 (K : D → D → D → Prop) : List D → Prop
  | [x, y, z] => K x y z
  | _ => False
def isNone : D → Bool
  | .non => true
  | _ => false
def wBB (f : Bool → Bool → Bool) : List D → Store → Q1 → Prop
  | [.bl a, .bl b], S, Q => Q (.bl (f a b)) S
  | _, _, _ => False
def wInt1 : List D → Store → Q1 → Prop
  | [.int i], S, Q => Q (.int i) S
  | [.bl b], S, Q => Q (.int (b2i b)) S
  | _, _, _ => False
def wNeg : List D → Store → Q1 → Prop
  | [.int i], S, Q => Q (.int (-i)) S
  | _, _, _ => False
def wStr1 : List D → Store → Q1 → Prop
  | [.int i], S, Q => i.natAbs.log2 < 1920 ∧ Q (.str (toString i : String)) S
  | _, _, _ => False
def wUpper : List D → Store → Q1 → Prop
  | [.str x], S, Q => x.length ≤ 5592405 ∧ ∀ z : Str, z.length ≤ 3 * x.length → Q (.str z) S
  | _, _, _ => False
def opW (o : Op) (ds : List D) (S : Store) (Q : Q1) : Prop :=
  match o with
  | .add fz => w2 (fun x y => wAdd fz x y S Q) ds
  | .addI => wII (fun i j => .int (i + j)) ds S Q
  | .sub => wII (fun i j => .int (i - j)) ds S Q
  | .mul fz => w2 (fun x y => wMul fz x y S Q) ds
  | .pow => wIIc (fun i j => 0 ≤ j ∧ j ≤ 1000000 ∧ i.natAbs < 2 ^ 64) (fun i j => .int (i ^ j.toNat)) ds S Q
  | .fdiv => wIIc (fun _ j => 0 < j ∧ j.natAbs.log2 < 9000) (fun i j => .int (i / j)) ds S Q
  | .mod => wIIc (fun _ j => 0 < j) (fun i j => .int (i % j)) ds S Q
  | .neg => wNeg ds S Q
  | .lt => wII (fun i j => .bl (decide (i < j))) ds S Q
  | .le => wII (fun i j => .bl (decide (i ≤ j))) ds S Q
  | .gt => wII (fun i j => .bl (decide (j < i))) ds S Q
  | .ge => wII (fun i j => .bl (decide (j ≤ i))) ds S Q
  | .eq => w2 (fun x y => wEq (fun b => b) x y S Q) ds
  | .ne => w2 (fun x y => wEq (fun b => !b) x y S Q) ds
  | .isN => w1 (fun x => Q (.bl (isNone x)) S) ds
  | .notN => w1 (fun x => Q (.bl (!isNone x)) S) ds
  | .isB => wBB (fun a b => a == b) ds S Q
  | .notB => wBB (fun a b => !(a == b)) ds S Q
  | .inn neg => w2 (fun x y => wIn neg x y S Q) ds
  | .ix => w2 (fun x i => wIx x i S Q) ds
  | .cut fz lo hi => wCutA fz lo hi ds S Q
  | .len => w1 (fun x => wLen x S Q) ds
  | .max2 => wII (fun i j => .int (if j > i then j else i)) ds S Q
  | .min2 => wII (fun i j => .int (if j < i then j else i)) ds S Q
  | .int1 => wInt1 ds S Q
  | .str1 => wStr1 ds S Q
  | .sum => w1 (fun x => wInts x S fun ns => Q (.int ns.sum) S) ds
  | .maxL => w1 (fun x => wInts x S fun ns => 0 < ns.length ∧ ∀ m, m ∈ ns → (∀ y, y ∈ ns → y ≤ m) → Q (.int m) S) ds
  | .minL => w1 (fun x => wInts x S fun ns => 0 < ns.length ∧ ∀ m, m ∈ ns → (∀ y, y ∈ ns → m ≤ y) → Q (.int m) S) ds
  | .all => w1 (fun x => wBools x S fun bs => Q (.bl (bs.all id)) S) ds
  | .any => w1 (fun x => wBools x S fun bs => Q (.bl (bs.any id)) S) ds
  | .list1 fz => w1 (fun x => wSeq x S fun xs => newL fz xs S Q) ds
  | .tuple1 => w1 (fun x => wSeq x S fun xs => Q (.tup xs) S) ds
  | .isi t => w1 (fun x => Q (.bl (isTy S t x)) S) ds
  | .isis ts => w1 (fun x => Q (.bl (ts.any fun t => isTy S t x)) S) ds
  | .pop => w1 (fun x => wObj x S fun i xs => match xs.getLast? with
        | some y => Q y (S.set i (.lst xs.dropLast))
        | none => False) ds
  | .append => w2 (fun x y => wObj x S fun i xs => y.free = true ∧ xs.length < line ∧ Q .non (S.set i (.lst (xs ++ [y])))) ds
  | .extend => w2 (fun x y => wObj x S fun i xs => match lstOf S y with
        | some ys => xs.length + ys.length ≤ line ∧ Q .non (S.set i (.lst (xs ++ ys)))
        | none => False) ds
  | .upper => wUpper ds S Q

/-! ### expressions, statements -/
inductive Tg where
  | n (i : Nat) | t (ts : List Tg)
inductive E where
  | v (i : Nat) | k (d : D) | g (x : Str)
  | tup (es : List E) | lst (fz : Bool) (es : List E)
  | op (o : Op) (es : List E)
  | chain (o1 o2 : Op) (a b c : E)
  | and (a b : E) | or (a b : E) | not (a : E) | ife (t a b : E)
  | call (f : Str) (es : List E)
  | callp (f : Str) (es ks : List E) (perm : List Nat)
  | comp (fz : Bool) (ws : List Nat) (t : Tg) (it : E) (kd : Nat) (c : Option E) (e : E)
  -- what a loop walks: a list, a tuple; a text; range(n), range(a, b); enumerate; zip
  | isx (i : Nat) (c : Str)
  | met (t : Ty) (o : Op) (a : E) (es : List E)
  | dk (ks : List Ky) (ds : List D)
  | cut2 (fz : Bool) (a l h : E)
inductive St where
  | asg (t : Tg) (e : E) | par (ts : List Nat) (es : List E) | put (a i e : E)
  | aug (i : Nat) (o : Op) (e : E)
  | ex (e : E) | ret (e : E) | retN
  | ife (t : E) (a b : List St) | whl (t : E) (b : List St)
  | for (t : Tg) (it : E) (kd : Nat) (b : List St)
  | raise (c : Str) | tryx (b : List St) (c : Str) (i : Option Nat) (h : List St)
  | brk | cnt | pass

structure Nd where
  nx : En → Store → Prop
  rt : Q1
  bk : En → Store → Prop
  ct : En → Store → Prop
  xx : Str → En → Store → Prop
abbrev Calls := Str → List D → Store → Q1 → (Str → Store → Prop) → Prop
structure Prog where
  glob : Str → Option D
  subs : Str → Str → Bool        -- whether an error of the first class is one of the second
  cur : Option (Nat × Str)       -- the caught error that a name holds, in a suite

mutual
/-- a target takes a value -/
def putT : Tg → D → En → Option En
  | .n i, d, σ => if i < σ.length then some (σ.set i (some d)) else none
  | .t ts, .tup xs, σ => putTs ts xs σ
  | .t _, _, _ => none
def putTs : List Tg → List D → En → Option En
  | [], [], σ => some σ
  | t :: ts, x :: xs, σ => match putT t x σ with
    | some σ' => putTs ts xs σ'
    | none => none
  | _, _, _ => none
end
def big : Int := 4611686018427387904
/-- what a walk gives, item by item; what must stay true while it goes -/
def walkOf (kd : Nat) (d : D) (S : Store) : Option (List D × (Store → Prop)) :=
  match kd, d with
  | 0, .lst xs => some (xs, fun _ => True)
  | 0, .tup xs => some (xs, fun _ => True)
  | 0, .loc i => (match S[i]? with
    | some (.lst xs) => some (xs, fun S' => S'[i]? = some (.lst xs))
    | _ => none)
  | 0, .str x => if x.length ≤ line then some (x.cps.toList.map fun c => .str ⟨#[c]⟩, fun _ => True) else none
  | 2, .tup [.int n] => if -big ≤ n ∧ n < big then some ((List.range n.toNat).map fun i => .int (i : Nat), fun _ => True) else none
  | 3, .tup [.int a, .int b] => if -big ≤ a ∧ a < big ∧ -big ≤ b ∧ b < big then some ((List.range (b - a).toNat).map fun i => .int (a + (i : Nat)), fun _ => True) else none
  | _, _ => none
def wipe (σ : En) : List Nat → En
  | [] => σ
  | i :: r => (wipe σ r).set i none

/-- a loop over items: each turn from what the turn ahead left -/
def forW (G : Store → Prop) (body : D → En → Store → Nd → Prop) : List D → En → Store → Nd → Prop
  | [], σ, S, D => G S ∧ D.nx σ S
  | x :: r, σ, S, D => G S ∧ body x σ S { D with nx := fun σ' S' => forW G body r σ' S' D, ct := fun σ' S' => forW G body r σ' S' D, bk := D.nx }
/-- a while: at most so many turns -/
def whlW (test : En → Store → (Bool → Store → Prop) → Prop) (body : En → Store → Nd → Prop) : Nat → En → Store → Nd → Prop
  | 0, _, _, _ => False
  | n + 1, σ, S, D => test σ S fun b S' => if b then body σ S' { D with nx := fun σ' S'' => whlW test body n σ' S'' D, ct := fun σ' S'' => whlW test body n σ' S'' D, bk := D.nx } else D.nx σ S'
/-- a comprehension's turns: an item or none -/
def compW (G : Store → Prop) (f : D → Store → (Option D → Store → Prop) → Prop) : List D → List D → Store → (List D → Store → Prop) → Prop
  | [], acc, S, Q => G S ∧ Q acc S
  | x :: r, acc, S, Q => G S ∧ f x S fun o S' => match o with
    | some d => d.free = true ∧ acc.length < line ∧ compW G f r (acc ++ [d]) S' Q
    | none => compW G f r acc S' Q
def asB (Q : Bool → Store → Prop) : Q1 := fun d S => match d with
  | .bl b => Q b S
  | _ => False
def asI (Q : Int → Store → Prop) : Q1 := fun d S => match d with
  | .int i => Q i S
  | _ => False
def pick (ds : List D) (perm : List Nat) : List D := perm.filterMap fun i => ds[i]?

/-- an exception x meets a clause -/
def catchW (P : Prog) (c : Str) (i : Option Nat) (x : Str) (h : Prog → En → Store → Nd → Prop) (σ : En) (S : Store) (D : Nd) : Prop :=
  if P.subs x c then
    match i with
    | none => h { P with cur := none } σ S { D with xx := fun _ _ _ => False }
    | some j => h { P with cur := some (j, x) } (σ.set j none) S { nx := fun σ2 S2 => D.nx (σ2.set j none) S2, rt := D.rt, bk := fun σ2 S2 => D.bk (σ2.set j none) S2, ct := fun σ2 S2 => D.ct (σ2.set j none) S2, xx := fun _ _ _ => False }
  else D.xx x σ S
section
variable (P : Prog) (C : Calls)
mutual
def wE : E → En → Store → Q1 → (Str → Store → Prop) → Prop
  | .v i, σ, S, Q, _ => match σ[i]? with
    | some (some d) => Q d S
    | _ => False
  | .k d, _, S, Q, _ => Q d S
  | .g x, _, S, Q, _ => match P.glob x with
    | some d => Q d S
    | none => False
  | .tup es, σ, S, Q, W => wEs es σ S (fun ds S' => ds.length ≤ line ∧ Q (.tup ds) S') W
  | .lst fz es, σ, S, Q, W => wEs es σ S (fun ds S' => newL fz ds S' Q) W
  | .op o es, σ, S, Q, W => wEs es σ S (fun ds S' => opW o ds S' Q) W
  | .chain o1 o2 a b c, σ, S, Q, W => wE a σ S (fun x S1 => wE b σ S1 (fun y S2 => opW o1 [x, y] S2 (asB fun t S3 => if t then wE c σ S3 (fun z S4 => opW o2 [y, z] S4 Q) W else Q (.bl false) S3)) W) W
  | .and a b, σ, S, Q, W => wE a σ S (asB fun t S1 => if t then wE b σ S1 Q W else Q (.bl false) S1) W
  | .or a b, σ, S, Q, W => wE a σ S (asB fun t S1 => if t then Q (.bl true) S1 else wE b σ S1 Q W) W
  | .not a, σ, S, Q, W => wE a σ S (asB fun t S1 => Q (.bl (!t)) S1) W
  | .ife t a b, σ, S, Q, W => wE t σ S (asB fun c S1 => if c then wE a σ S1 Q W else wE b σ S1 Q W) W
  | .call f es, σ, S, Q, W => wEs es σ S (fun ds S' => C f ds S' Q W) W
  | .callp f es ks perm, σ, S, Q, W => wEs es σ S (fun ds S1 => wEs ks σ S1 (fun zs S2 => ds.length = es.length ∧ zs.length = ks.length ∧ C f (pick (ds ++ zs) perm) S2 Q W) W) W
  | .comp fz ws t it kd c e, σ, S, Q, W => wE it σ S (fun d S1 => match walkOf kd d S1 with
    | some (xs, G) => compW G (fun x S2 R => match putT t x (wipe σ ws) with
        | some σ' => wC c σ' S2 (fun b S3 => if b then wE e σ' S3 (fun y S4 => R (some y) S4) (fun _ _ => False) else R none S3)
        | none => False) xs [] S1 (fun ys S5 => newL fz ys S5 Q)
    | none => False) W
  | .isx i c, σ, S, Q, _ => match P.cur with
    | some (j, d) => i = j ∧ σ[i]? = some none ∧ Q (.bl (P.subs d c)) S
    | none => False
  | .met t o a es, σ, S, Q, W => wE a σ S (fun x S1 => isTy S1 t x = true ∧ wEs es σ S1 (fun ds S2 => opW o (x :: ds) S2 Q) W) W
  | .cut2 fz a l h, σ, S, Q, W => wE a σ S (fun x S1 => wE l σ S1 (asI fun i S2 => wE h σ S2 (asI fun j S3 => wCut fz x (.int i) (.int j) S3 Q) W) W) W
  | .dk ks ds, _, S, Q, _ => Q (.dK ks ds) S
def wC : Option E → En → Store → (Bool → Store → Prop) → Prop
  | none, _, S, Q => Q true S
  | some c, σ, S, Q => wE c σ S (asB Q) (fun _ _ => False)
def wEs : List E → En → Store → (List D → Store → Prop) → (Str → Store → Prop) → Prop
  | [], _, S, Q, _ => Q [] S
  | e :: es, σ, S, Q, W => wE e σ S (fun d S1 => wEs es σ S1 (fun ds S2 => Q (d :: ds) S2) W) W
end
end
section
variable (C : Calls)
mutual
def wS : St → Prog → En → Store → Nd → Prop
  | .asg t e, P, σ, S, D => wE P C e σ S (fun d S1 => match putT t d σ with
    | some σ' => D.nx σ' S1
    | none => False) (fun c S1 => D.xx c σ S1)
  | .par ts es, P, σ, S, D => wEs P C es σ S (fun ds S1 => match putTs (ts.map .n) ds σ with
    | some σ' => D.nx σ' S1
    | none => False) (fun c S1 => D.xx c σ S1)
  | .put a i e, P, σ, S, D => wE P C e σ S (fun d S1 => wE P C a σ S1 (fun x S2 => wE P C i σ S2 (fun j S3 => match x, j with
      | .loc l, .int k => (match S3[l]? with
        | some (.lst xs) => 0 ≤ k ∧ k < xs.length ∧ d.free = true ∧ D.nx σ (S3.set l (.lst (xs.set k.toNat d)))
        | _ => False)
      | _, _ => False) (fun c S1 => D.xx c σ S1)) (fun c S1 => D.xx c σ S1)) (fun c S1 => D.xx c σ S1)
  | .aug i o e, P, σ, S, D => match σ[i]? with
    | some (some x) => wE P C e σ S (fun y S1 => opW o [x, y] S1 fun z S2 => D.nx (σ.set i (some z)) S2) (fun c S1 => D.xx c σ S1)
    | _ => False
  | .ex e, P, σ, S, D => wE P C e σ S (fun _ S1 => D.nx σ S1) (fun c S1 => D.xx c σ S1)
  | .ret e, P, σ, S, D => wE P C e σ S (fun d S1 => D.rt d S1) (fun c S1 => D.xx c σ S1)
  | .retN, P, _, S, D => D.rt .non S
  | .ife t a b, P, σ, S, D => wE P C t σ S (asB fun c S1 => if c then wSs a P σ S1 D else wSs b P σ S1 D) (fun c S1 => D.xx c σ S1)
  | .whl t b, P, σ, S, D => ∃ n, whlW (fun σ' S' Q => wE P C t σ' S' (asB Q) (fun c S1 => D.xx c σ' S1)) (fun σ' S' D' => wSs b P σ' S' D') n σ S D
  | .for t it kd b, P, σ, S, D => wE P C it σ S (fun d S1 => match walkOf kd d S1 with
    | some (xs, G) => forW G (fun x σ' S' D' => match putT t x σ' with
        | some σ2 => wSs b P σ2 S' D'
        | none => False) xs σ S1 D
    | none => False) (fun c S1 => D.xx c σ S1)
  | .raise c, P, σ, S, D => D.xx c σ S
  | .tryx b c i h, P, σ, S, D => wSs b P σ S { D with xx := fun x σ' S' => catchW P c i x (fun P2 σ2 S2 D2 => wSs h P2 σ2 S2 D2) σ' S' D }
  | .brk, P, σ, S, D => D.bk σ S
  | .cnt, P, σ, S, D => D.ct σ S
  | .pass, P, σ, S, D => D.nx σ S
def wSs : List St → Prog → En → Store → Nd → Prop
  | [], P, σ, S, D => D.nx σ S
  | s :: r, P, σ, S, D => wS s P σ S { D with nx := fun σ' S' => wSs r P σ' S' D }
end
end

/-- a def: how many parameters, how many names, its body -/
structure Fn where
  np : Nat
  ns : Nat
  keep : Bool
  body : List St
structure Text extends Prog where
  fn : Str → Option Fn
def fresh (np ns : Nat) (ds : List D) : En := ds.map some ++ List.replicate (ns - np) none
/-- what comes back of a call: the store of its caller; its own new object, if it hands back just that and is to keep it -/
def back (keep : Bool) (n : Nat) (d : D) (S : Store) (Q : Q1) : Prop :=
  match keep, d with
  | true, .loc i => (match S[i]? with
    | some o => if n ≤ i then Q (.loc n) (S.take n ++ [o]) else Q (.loc i) (S.take n)
    | none => False)
  | _, d => Q (inl S n d) (S.take n)
/-- what a call must reach, by at most n calls in one another -/
def Wp (T : Text) : Nat → Calls
  | 0, _, _, _, _, _ => False
  | n + 1, f, ds, S, Q, W => match T.fn f with
    | none => False
    | some F => ds.length = F.np ∧ wSs (Wp T n) F.body T.toProg (fresh F.np F.ns ds) S
        { nx := fun _ S' => Q .non (S'.take S.length), rt := fun d S' => back F.keep S.length d S' Q, bk := fun _ _ => False, ct := fun _ _ => False, xx := fun c _ S' => W c (S'.take S.length) }
end Y
/-! YRep: how data of YSem stand in the abstract heap. -/
namespace YL
open PySem L2
open Y (D O Store En Ky)

/-- a list of the text's own top -/
def KLst (K : PySem.W.Frag) (a : Addr) (vs : List V) : Prop :=
  ∃ (o : Obj) (its : Array Value) (n : Nat), K.lookup a = some o ∧ o.cls = .type "list" ∧ o.dict = none ∧ o.data = .seq its n ∧ its.size ≤ sizeLine ∧ Vals vs its.toList
/-- the objects of the store; lists that are being made -/
structure Ms where
  l : List Addr
  r : List Addr
def Ms.all (m : Ms) : List Addr := m.l ++ m.r
def Ms.add (m : Ms) (p : Addr) : Ms := ⟨m.l ++ [p], m.r⟩
/-- a frozen list: no object of the store -/
def LAt (K : PySem.W.Frag) (m : Ms) (H : Hp) (a : Addr) (vs : List V) : Prop := (a ∉ m.all ∧ Rd H a (.lst vs)) ∨ KLst K a vs
theorem LAt.sq {K : PySem.W.Frag} {m : Ms} {H : Hp} {a : Addr} {vs : List V} (h : LAt K m H a vs) : SqL K H a vs := h.elim (fun z => .inl z.2) .inr
/-- plain values -/
def repP : D → V → Prop
  | .non, v => v = .non
  | .bl b, v => v = .bl b
  | .int i, v => v = .int i
  | .str x, v => v = .str x
  | _, _ => False
/-- a dict of the text's own top, its keys texts, its values plain -/
def KDat (K : PySem.W.Frag) (w : World) (a : Addr) (ks : List Ky) (ds : List D) : Prop :=
  ∃ es n, KDict K w a es n ∧ ∀ z : Str, ∃ r, PySem.W.nsIn K a z = some r ∧
    (match (ks.zip ds).lookup (.inr z) with
      | some d => ∃ u v, r = some u ∧ RelV v u ∧ repP d v
      | none => r = none) ∧ r.isSome = ks.contains (.inr z)
mutual
def Rep (K : PySem.W.Frag) (w : World) (m : Ms) (H : Hp) : D → V → Prop
  | .non, v => v = .non
  | .bl b, v => v = .bl b
  | .int i, v => v = .int i
  | .str x, v => v = .str x
  | .tup ds, v => ∃ a vs, v = .ref a ∧ SqT K H a vs ∧ RepL K w m H ds vs
  | .lst ds, v => Y.frees ds = true ∧ ∃ a vs, v = .ref a ∧ LAt K m H a vs ∧ RepL K w m H ds vs
  | .dK ks ds, v => Y.frees ds = true ∧ ∃ a, v = .ref a ∧ ((a ∉ m.all ∧ ∃ kvs : List (Ky × V), H a = some (.dK kvs) ∧ kvs.map (·.1) = ks ∧ RepL K w m H ds (kvs.map (·.2))) ∨ KDat K w a ks ds)
  | .dT ks ds, v => Y.frees ds = true ∧ ∃ a, v = .ref a ∧ a ∉ m.all ∧ ∃ kvs : List (List Ky × V), H a = some (.dT kvs) ∧ kvs.map (·.1) = ks ∧ RepL K w m H ds (kvs.map (·.2))
  | .loc i, v => ∃ a, v = .ref a ∧ m.l[i]? = some a
def RepL (K : PySem.W.Frag) (w : World) (m : Ms) (H : Hp) : List D → List V → Prop
  | [], vs => vs = []
  | d :: ds, vs => ∃ v r, vs = v :: r ∧ Rep K w m H d v ∧ RepL K w m H ds r
end
def RepO (K : PySem.W.Frag) (w : World) (m : Ms) (H : Hp) : O → HO → Prop
  | .lst ds, .lst vs => RepL K w m H ds vs
  | .dK ks ds, .dK kvs => kvs.map (·.1) = ks ∧ RepL K w m H ds (kvs.map (·.2))
  | .dT ks ds, .dT kvs => kvs.map (·.1) = ks ∧ RepL K w m H ds (kvs.map (·.2))
  | _, _ => False
def O.its : O → List D
  | .lst ds => ds
  | .dK _ ds => ds
  | .dT _ ds => ds
/-- the store, the names -/
structure Mt (K : PySem.W.Frag) (w : World) (xp : Nat → Option (Option V) → Prop) (m : Ms) (S : Store) (env : En) (σ : L2.St) (H : Hp) : Prop where
  len : m.l.length = S.length
  nd : m.l.Nodup
  rs : ∀ a ∈ m.r, a ∉ m.l ∧ ∃ xs, H a = some (.lst xs)
  obj : ∀ (i : Nat) (o : O), S[i]? = some o → ∃ a ho, m.l[i]? = some a ∧ H a = some ho ∧ RepO K w m H o ho
  free : ∀ o ∈ S, Y.frees (O.its o) = true
  nam : ∀ (i : Nat) (d : D), env[i]? = some (some d) → ∃ v, σ[i]? = some (some v) ∧ Rep K w m H d v
  slen : env.length = σ.length
  xs : ∀ i : Nat, env[i]? = some none → xp i σ[i]?
/-- a tuple that is tracked -/
abbrev SqT0 (H : Hp) (a : Addr) (vs : List V) : Prop := Rd H a (.tup vs)
/-- what a run leaves of what it does not know: all else is kept -/
structure Kp (m : Ms) (H : Hp) (m' : Ms) (H' : Hp) : Prop where
  pre : ∃ t, m'.l = m.l ++ t
  res : m'.r = m.r
  keep : ∀ a o, a ∉ m.l → H a = some o → H' a = some o
  new : ∀ a, a ∈ m'.l → a ∈ m.l ∨ H a = none
/-- the least of it, for what data stand at -/
structure Kq (m : Ms) (H : Hp) (m' : Ms) (H' : Hp) : Prop where
  pre : ∃ t, m'.l = m.l ++ t
  keep : ∀ a o, a ∉ m.all → H a = some o → H' a = some o ∧ a ∉ m'.all
  tup : ∀ a vs, SqT0 H a vs → SqT0 H' a vs
section
variable {K : PySem.W.Frag} {w : World} {m m' m2 : Ms} {H H' H2 : Hp}
theorem mem_all {a : Addr} : a ∈ m.all ↔ a ∈ m.l ∨ a ∈ m.r := List.mem_append
theorem not_all {a : Addr} : a ∉ m.all ↔ a ∉ m.l ∧ a ∉ m.r := by rw [mem_all, not_or]
theorem Kp.refl (m : Ms) (H : Hp) : Kp m H m H := ⟨⟨[], by simp⟩, rfl, fun _ _ _ h => h, fun _ h => .inl h⟩
theorem Kp.off (k : Kp m H m' H') {a : Addr} {o : HO} (h : a ∉ m.l) (e : H a = some o) : a ∉ m'.l := fun z => (k.new a z).elim h fun q => by rw [e] at q; cases q
theorem Kp.trans (k : Kp m H m' H') (l : Kp m' H' m2 H2) : Kp m H m2 H2 := by
  refine ⟨?_, l.res.trans k.res, fun a o h e => l.keep a o (k.off h e) (k.keep a o h e), fun a h => ?_⟩
  · obtain ⟨t, e⟩ := k.pre
    obtain ⟨u, e2⟩ := l.pre
    exact ⟨t ++ u, by rw [e2, e, List.append_assoc]⟩
  · rcases l.new a h with z | z
    · exact k.new a z
    · by_cases q : a ∈ m.l
      · exact .inl q
      · refine .inr ?_
        cases e : H a with
        | none => rfl
        | some o => rw [k.keep a o q e] at z; cases z
/-- the objects of the store are no tuples -/
def NoTup (m : Ms) (H : Hp) : Prop := ∀ a ∈ m.l, ∀ vs, ¬ Rd H a (.tup vs)
theorem Kp.q (k : Kp m H m' H') (n : NoTup m H) : Kq m H m' H' := by
  refine ⟨k.pre, fun a o h e => ?_, fun a vs h => ?_⟩
  · obtain ⟨h1, h2⟩ := not_all.mp h
    exact ⟨k.keep a o h1 e, not_all.mpr ⟨k.off h1 e, by rw [k.res]; exact h2⟩⟩
  · have hm : a ∉ m.l := fun z => n a z vs h
    rcases h with h | ⟨o, h⟩
    · exact .inl (k.keep a _ hm h)
    · exact .inr ⟨o, k.keep a _ hm h⟩
theorem Kq.get (k : Kq m H m' H') {i : Nat} {a : Addr} (h : m.l[i]? = some a) : m'.l[i]? = some a := by
  obtain ⟨t, e⟩ := k.pre
  have hi : i < m.l.length := (List.getElem?_eq_some_iff.mp h).1
  rw [e, List.getElem?_append_left hi]
  exact h
theorem Kq.st (k : Kq m H m' H') {a : Addr} {vs : List V} (h : SqT K H a vs) : SqT K H' a vs := by
  rcases h with h | h
  · exact .inl (k.tup a vs h)
  · exact .inr h
theorem Kq.lst (k : Kq m H m' H') {a : Addr} {vs : List V} (h : LAt K m H a vs) : LAt K m' H' a vs := by
  rcases h with ⟨h1, h2⟩ | h
  · rcases h2 with h2 | ⟨o, h2⟩
    · exact .inl ⟨(k.keep a _ h1 h2).2, .inl (k.keep a _ h1 h2).1⟩
    · exact .inl ⟨(k.keep a _ h1 h2).2, .inr ⟨o, (k.keep a _ h1 h2).1⟩⟩
  · exact .inr h
mutual
theorem Kq.rep (k : Kq m H m' H') : ∀ {d : D} {v : V}, Rep K w m H d v → Rep K w m' H' d v
  | .non, _, h => h
  | .bl _, _, h => h
  | .int _, _, h => h
  | .str _, _, h => h
  | .tup _, _, ⟨a, vs, e, h, r⟩ => ⟨a, vs, e, k.st h, k.repL r⟩
  | .lst _, _, ⟨f, a, vs, e, h, r⟩ => ⟨f, a, vs, e, k.lst h, k.repL r⟩
  | .dK _ _, _, ⟨f, a, e, h⟩ => ⟨f, a, e, h.elim (fun ⟨h1, kvs, h2, h3, h4⟩ => .inl ⟨(k.keep a _ h1 h2).2, kvs, (k.keep a _ h1 h2).1, h3, k.repL h4⟩) .inr⟩
  | .dT _ _, _, ⟨f, a, e, h1, kvs, h2, h3, h4⟩ => ⟨f, a, e, (k.keep a _ h1 h2).2, kvs, (k.keep a _ h1 h2).1, h3, k.repL h4⟩
  | .loc _, _, ⟨a, e, h⟩ => ⟨a, e, k.get h⟩
theorem Kq.repL (k : Kq m H m' H') : ∀ {ds : List D} {vs : List V}, RepL K w m H ds vs → RepL K w m' H' ds vs
  | [], _, h => h
  | _ :: _, _, ⟨v, r, e, h, t⟩ => ⟨v, r, e, k.rep h, k.repL t⟩
end
theorem Kp.rep (k : Kp m H m' H') (n : NoTup m H) {d : D} {v : V} (h : Rep K w m H d v) : Rep K w m' H' d v := (k.q n).rep h
theorem Kp.repL (k : Kp m H m' H') (n : NoTup m H) {ds : List D} {vs : List V} (h : RepL K w m H ds vs) : RepL K w m' H' ds vs := (k.q n).repL h
theorem Mt.noTup {xp : Nat → Option (Option V) → Prop} {S : Store} {env : En} {σ : L2.St} (M : Mt K w xp m S env σ H) : NoTup m H := fun a ha vs r => by
  obtain ⟨i, hi, e⟩ := List.getElem_of_mem ha
  have hs : i < S.length := by rw [← M.len]; exact hi
  obtain ⟨b, ho, h1, h2, h3⟩ := M.obj i S[i] (List.getElem?_eq_getElem hs)
  rw [List.getElem?_eq_getElem hi] at h1
  have eb : a = b := by rw [← e]; exact Option.some.inj h1
  subst eb
  rcases r with r | ⟨o, r⟩
  · rw [r] at h2; cases h2; cases q : S[i] <;> rw [q] at h3 <;> exact h3
  · rw [r] at h2; cases h2; cases q : S[i] <;> rw [q] at h3 <;> exact h3
theorem RepL.length : ∀ {ds : List D} {vs : List V}, RepL K w m H ds vs → vs.length = ds.length
  | [], _, h => by rw [show _ = [] from h]; rfl
  | _ :: _, _, ⟨v, r, e, _, t⟩ => by rw [e, List.length_cons, List.length_cons, RepL.length t]
theorem RepL.get : ∀ {ds : List D} {vs : List V} {i : Nat} {d : D}, RepL K w m H ds vs → ds[i]? = some d → ∃ v, vs[i]? = some v ∧ Rep K w m H d v
  | d :: ds, vs, 0, d', ⟨v, r, e, h, _⟩, q => by
    have : d = d' := by simpa using q
    subst this
    exact ⟨v, by rw [e]; rfl, h⟩
  | d :: ds, vs, i + 1, d', ⟨v, r, e, _, t⟩, q => by
    obtain ⟨u, h1, h2⟩ := RepL.get (i := i) t (by simpa using q)
    exact ⟨u, by rw [e]; simpa using h1, h2⟩
theorem RepL.append : ∀ {ds es : List D} {vs us : List V}, RepL K w m H ds vs → RepL K w m H es us → RepL K w m H (ds ++ es) (vs ++ us)
  | [], _, vs, _, h, g => by rw [show vs = [] from h]; exact g
  | _ :: _, _, _, _, ⟨v, r, e, h, t⟩, g => ⟨v, _, by rw [e]; rfl, h, RepL.append t g⟩
theorem RepL.take : ∀ {ds : List D} {vs : List V} (n : Nat), RepL K w m H ds vs → RepL K w m H (ds.take n) (vs.take n)
  | _, _, 0, _ => rfl
  | [], vs, n + 1, h => by rw [show vs = [] from h]; rfl
  | _ :: _, _, n + 1, ⟨v, r, e, h, t⟩ => ⟨v, _, by rw [e]; rfl, h, RepL.take n t⟩
theorem RepL.drop : ∀ {ds : List D} {vs : List V} (n : Nat), RepL K w m H ds vs → RepL K w m H (ds.drop n) (vs.drop n)
  | _, _, 0, h => h
  | [], vs, n + 1, h => by rw [show vs = [] from h]; rfl
  | _ :: _, _, n + 1, ⟨v, r, e, h, t⟩ => by rw [e]; exact RepL.drop n t
theorem RepL.set {d : D} {v : V} (r : Rep K w m H d v) : ∀ {ds : List D} {vs : List V} (i : Nat), RepL K w m H ds vs → RepL K w m H (ds.set i d) (vs.set i v)
  | [], vs, i, h => by rw [show vs = [] from h]; rfl
  | _ :: _, _, 0, ⟨u, r', e, h, t⟩ => ⟨v, r', by rw [e]; rfl, r, t⟩
  | _ :: _, _, i + 1, ⟨u, r', e, h, t⟩ => ⟨u, _, by rw [e]; rfl, h, RepL.set r i t⟩
theorem RepL.dropLast : ∀ {ds : List D} {vs : List V}, RepL K w m H ds vs → RepL K w m H ds.dropLast vs.dropLast
  | [], vs, h => by rw [show vs = [] from h]; rfl
  | [_], vs, ⟨v, r, e, h, t⟩ => by rw [e, show r = [] from t]; rfl
  | _ :: d :: ds, vs, ⟨v, r, e, h, t⟩ => by
    obtain ⟨v2, r2, e2, h2, t2⟩ := t
    subst e2
    rw [e]
    exact ⟨v, (v2 :: r2).dropLast, rfl, h, RepL.dropLast (ds := d :: ds) ⟨v2, r2, rfl, h2, t2⟩⟩
end
/-! ### steps of the heap -/
section
variable {K : PySem.W.Frag} {w : World} {m m' : Ms} {H H' : Hp} {xp : Nat → Option (Option V) → Prop} {S : Store} {env : En} {σ : L2.St} {p : Addr} {o : HO}
theorem Mt.mem (M : Mt K w xp m S env σ H) {a : Addr} (h : a ∈ m.l) : ∃ u, H a = some u := by
  obtain ⟨i, hi, e⟩ := List.getElem_of_mem h
  have hs : i < S.length := by rw [← M.len]; exact hi
  obtain ⟨b, ho, h1, h2, h3⟩ := M.obj i S[i] (List.getElem?_eq_getElem hs)
  rw [List.getElem?_eq_getElem hi] at h1
  exact ⟨ho, by rw [← e, Option.some.inj h1]; exact h2⟩
theorem Mt.notMem (M : Mt K w xp m S env σ H) (hp : H p = none) : p ∉ m.all := by
  refine not_all.mpr ⟨fun z => ?_, fun z => ?_⟩
  · obtain ⟨u, e⟩ := M.mem z
    rw [hp] at e; cases e
  · obtain ⟨_, u, e⟩ := M.rs p z
    rw [hp] at e; cases e
theorem RepO.mono (k : Kq m H m' H') {o : O} {ho : HO} (h : RepO K w m H o ho) : RepO K w m' H' o ho := by
  cases o <;> cases ho <;> first
    | exact k.repL h
    | exact ⟨h.1, k.repL h.2⟩
    | exact h.elim
/-- a new object that no store knows -/
theorem Kp.laid (_ : Mt K w xp m S env σ H) (hp : H p = none) : Kp m H m (upd H p o) := by
  refine ⟨⟨[], by simp⟩, rfl, fun a u _ e => ?_, fun a h => .inl h⟩
  rw [upd_ne (ne_of_none e hp)]
  exact e
/-- the names and the store carried along -/
theorem Mt.move (M : Mt K w xp m S env σ H) (k : Kq m H m' H') (hl : m'.l = m.l) (hr : ∀ a ∈ m'.r, a ∉ m'.l ∧ ∃ xs, H' a = some (.lst xs)) (ho : ∀ a ∈ m.l, ∀ u, H a = some u → H' a = some u) : Mt K w xp m' S env σ H' := by
  refine ⟨by rw [hl]; exact M.len, by rw [hl]; exact M.nd, hr, fun i ob e => ?_, M.free, fun i d e => ?_, M.slen, M.xs⟩
  · obtain ⟨a, u, h1, h2, h3⟩ := M.obj i ob e
    exact ⟨a, u, by rw [hl]; exact h1, ho a (List.mem_of_getElem? h1) u h2, h3.mono k⟩
  · obtain ⟨v, h1, h2⟩ := M.nam i d e
    exact ⟨v, h1, k.rep h2⟩
theorem Mt.laid (M : Mt K w xp m S env σ H) (hp : H p = none) : Mt K w xp m S env σ (upd H p o) := by
  refine M.move ((Kp.laid (o := o) M hp).q M.noTup) rfl (fun a ha => ?_) fun a _ u e => by rw [upd_ne (ne_of_none e hp)]; exact e
  obtain ⟨h1, xs, h2⟩ := M.rs a ha
  exact ⟨h1, xs, by rw [upd_ne (ne_of_none h2 hp)]; exact h2⟩
/-- a new object of the store -/
theorem Kp.more (_ : Mt K w xp m S env σ H) (hp : H p = none) : Kp m H (m.add p) (upd H p o) := by
  refine ⟨⟨[p], rfl⟩, rfl, fun a u _ e => ?_, fun a h => ?_⟩
  · rw [upd_ne (ne_of_none e hp)]
    exact e
  · rcases List.mem_append.mp h with z | z
    · exact .inl z
    · rw [List.mem_singleton.mp z]; exact .inr hp
theorem Mt.more (M : Mt K w xp m S env σ H) (hp : H p = none) {ob : O} (r : RepO K w m H ob o) (hf : Y.frees (O.its ob) = true) : Mt K w xp (m.add p) (S ++ [ob]) env σ (upd H p o) := by
  have k := (Kp.more (o := o) M hp).q M.noTup
  have hpm := not_all.mp (M.notMem hp)
  refine ⟨by show (m.l ++ [p]).length = _; simp [M.len], ?_, fun a ha => ?_, fun i u e => ?_, fun u hu => ?_, fun i d e => ?_, M.slen, M.xs⟩
  · refine List.nodup_append.mpr ⟨M.nd, by simp, fun a ha b hb => ?_⟩
    rw [List.mem_singleton.mp hb]
    exact fun z => hpm.1 (z ▸ ha)
  · obtain ⟨h1, xs, h2⟩ := M.rs a ha
    refine ⟨fun z => ?_, xs, by rw [upd_ne (ne_of_none h2 hp)]; exact h2⟩
    rcases List.mem_append.mp z with z | z
    · exact h1 z
    · rw [List.mem_singleton.mp z] at ha
      exact hpm.2 ha
  · by_cases hi : i < S.length
    · rw [List.getElem?_append_left hi] at e
      obtain ⟨a, ho, h1, h2, h3⟩ := M.obj i u e
      exact ⟨a, ho, k.get h1, by rw [upd_ne (ne_of_none h2 hp)]; exact h2, h3.mono k⟩
    · have hi' : i = S.length := by
        have h := (List.getElem?_eq_some_iff.mp e).1
        rw [List.length_append, List.length_singleton] at h
        omega
      subst hi'
      rw [List.getElem?_concat_length] at e
      cases e
      refine ⟨p, o, ?_, upd_same, r.mono k⟩
      show (m.l ++ [p])[S.length]? = _
      rw [← M.len, List.getElem?_concat_length]
  · rcases List.mem_append.mp hu with z | z
    · exact M.free u z
    · rw [List.mem_singleton.mp z]; exact hf
  · obtain ⟨v, h1, h2⟩ := M.nam i d e
    exact ⟨v, h1, k.rep h2⟩
/-- an object of the store is changed -/
theorem Kp.write (hp : p ∈ m.l) : Kp m H m (upd H p o) := by
  refine ⟨⟨[], by simp⟩, rfl, fun a u h e => ?_, fun a h => .inl h⟩
  rw [upd_ne (fun z => h (by rw [z]; exact hp))]
  exact e
theorem Mt.write (M : Mt K w xp m S env σ H) {i : Nat} {ob : O} (hi : m.l[i]? = some p) (r : RepO K w m H ob o) (hf : Y.frees (O.its ob) = true) : Mt K w xp m (S.set i ob) env σ (upd H p o) := by
  have hp : p ∈ m.l := List.mem_of_getElem? hi
  have k := (Kp.write (o := o) (H := H) hp).q M.noTup
  refine ⟨by rw [List.length_set]; exact M.len, M.nd, fun a ha => ?_, fun j u e => ?_, fun u hu => ?_, fun j d e => ?_, M.slen, M.xs⟩
  · obtain ⟨h1, xs, h2⟩ := M.rs a ha
    exact ⟨h1, xs, by rw [upd_ne (fun z => h1 (by rw [z]; exact hp))]; exact h2⟩
  · by_cases hj : j = i
    · subst hj
      have hl : j < S.length := by
        have := (List.getElem?_eq_some_iff.mp hi).1
        rw [← M.len]; exact this
      rw [List.getElem?_set_self hl] at e
      cases e
      exact ⟨p, o, hi, upd_same, r.mono k⟩
    · rw [List.getElem?_set_ne (Ne.symm hj)] at e
      obtain ⟨a, ho, h1, h2, h3⟩ := M.obj j u e
      refine ⟨a, ho, h1, ?_, h3.mono k⟩
      rw [upd_ne ?_]
      · exact h2
      · intro z
        subst z
        have := (List.getElem?_inj (List.getElem?_eq_some_iff.mp h1).1 M.nd).mp (h1.trans hi.symm)
        exact hj this
  · rcases List.mem_or_eq_of_mem_set hu with z | z
    · exact M.free u z
    · rw [z]; exact hf
  · obtain ⟨v, h1, h2⟩ := M.nam j d e
    exact ⟨v, h1, k.rep h2⟩

/-! ### a list in the making -/
def Ms.res (m : Ms) (p : Addr) : Ms := ⟨m.l, p :: m.r⟩
theorem Kq.open (M : Mt K w xp m S env σ H) (hp : H p = none) : Kq m H (m.res p) (upd H p o) := by
  refine ⟨⟨[], by simp [Ms.res]⟩, fun a u h e => ⟨by rw [upd_ne (ne_of_none e hp)]; exact e, ?_⟩, fun a vs h => ?_⟩
  · obtain ⟨h1, h2⟩ := not_all.mp h
    refine not_all.mpr ⟨h1, fun z => ?_⟩
    rcases List.mem_cons.mp z with z | z
    · exact ne_of_none e hp z
    · exact h2 z
  · rcases h with h | ⟨u, h⟩
    · exact .inl (by rw [upd_ne (ne_of_none h hp)]; exact h)
    · exact .inr ⟨u, by rw [upd_ne (ne_of_none h hp)]; exact h⟩
theorem Mt.open (M : Mt K w xp m S env σ H) (hp : H p = none) : Mt K w xp (m.res p) S env σ (upd H p (.lst [])) := by
  refine M.move (Kq.open M hp) rfl (fun a ha => ?_) fun a _ u e => by rw [upd_ne (ne_of_none e hp)]; exact e
  rcases List.mem_cons.mp ha with e | ha
  · rw [e]
    exact ⟨(not_all.mp (M.notMem hp)).1, [], upd_same⟩
  · obtain ⟨h1, xs, h2⟩ := M.rs a ha
    exact ⟨h1, xs, by rw [upd_ne (ne_of_none h2 hp)]; exact h2⟩
/-- the list in the making grows -/
theorem Kq.grow {xs ys : List V} (M : Mt K w xp m S env σ H) (hp : p ∈ m.r) (h0 : H p = some (.lst xs)) : Kq m H m (upd H p (.lst ys)) := by
  refine ⟨⟨[], by simp⟩, fun a u h e => ⟨by rw [upd_ne (fun z => (not_all.mp h).2 (by rw [z]; exact hp))]; exact e, h⟩, fun a vs h => ?_⟩
  have ne : a ≠ p := fun z => by
    subst z
    rcases h with h | ⟨u, h⟩ <;> rw [h0] at h <;> cases h
  rcases h with h | ⟨u, h⟩
  · exact .inl (by rw [upd_ne ne]; exact h)
  · exact .inr ⟨u, by rw [upd_ne ne]; exact h⟩
theorem Mt.grow {xs ys : List V} (M : Mt K w xp m S env σ H) (hp : p ∈ m.r) (h0 : H p = some (.lst xs)) : Mt K w xp m S env σ (upd H p (.lst ys)) := by
  have npl := (M.rs p hp).1
  refine M.move (Kq.grow M hp h0) rfl (fun a ha => ?_) fun a ha u e => by rw [upd_ne (fun z => npl (by rw [← z]; exact ha))]; exact e
  obtain ⟨h1, zs, h2⟩ := M.rs a ha
  by_cases q : a = p
  · subst q
    exact ⟨h1, ys, upd_same⟩
  · exact ⟨h1, zs, by rw [upd_ne q]; exact h2⟩
/-- the making is over -/
theorem Kq.shut : Kq (m.res p) H m H := ⟨⟨[], by simp [Ms.res]⟩, fun a u h e => ⟨e, by
  obtain ⟨h1, h2⟩ := not_all.mp h
  exact not_all.mpr ⟨h1, fun z => h2 (List.mem_cons_of_mem _ z)⟩⟩, fun _ _ h => h⟩
theorem Mt.shut (M : Mt K w xp (m.res p) S env σ H) : Mt K w xp m S env σ H :=
  M.move Kq.shut rfl (fun a ha => M.rs a (List.mem_cons_of_mem _ ha)) fun _ _ _ e => e
theorem Kp.late {m1 : Ms} {H1 : Hp} (k : Kp m1 H1 m H) (hp : H1 p = none) : Kp m1 H1 m (upd H p o) :=
  ⟨k.pre, k.res, fun a u h e => by rw [upd_ne (ne_of_none e hp)]; exact k.keep a u h e, k.new⟩
/-- a name takes a value -/
theorem Mt.put (M : Mt K w xp m S env σ H) {i : Nat} {d : D} {v : V} (r : Rep K w m H d v) (hi : i < env.length) : Mt K w xp m S (env.set i (some d)) (σ.set i (some v)) H := by
  refine ⟨M.len, M.nd, M.rs, M.obj, M.free, fun j e h => ?_, by rw [List.length_set, List.length_set]; exact M.slen, fun j h => ?_⟩
  · by_cases hj : j = i
    · subst hj
      rw [List.getElem?_set_self hi] at h
      cases h
      exact ⟨v, by rw [List.getElem?_set_self (by rw [← M.slen]; exact hi)], r⟩
    · rw [List.getElem?_set_ne (Ne.symm hj)] at h ⊢
      exact M.nam j e h
  · by_cases hj : j = i
    · subst hj
      rw [List.getElem?_set_self hi] at h
      cases h
    · rw [List.getElem?_set_ne (Ne.symm hj)] at h ⊢
      exact M.xs j h
/-- a name is forgotten -/
theorem Mt.drop (M : Mt K w xp m S env σ H) {i : Nat} {o : Option V} (hx : ∀ i o, xp i o) : Mt K w xp m S (env.set i none) (σ.set i o) H := by
  refine ⟨M.len, M.nd, M.rs, M.obj, M.free, fun j e h => ?_, by rw [List.length_set, List.length_set]; exact M.slen, fun j h => hx _ _⟩
  by_cases hj : j = i
  · subst hj
    by_cases hi : j < env.length
    · rw [List.getElem?_set_self hi] at h
      cases h
    · rw [List.getElem?_eq_none (by rw [List.length_set]; omega)] at h
      cases h
  · rw [List.getElem?_set_ne (Ne.symm hj)] at h ⊢
    exact M.nam j e h
end
end YL
/-! YLink: the text's expressions and statements do what YSem says. -/
namespace YL
open PySem L2
open Y (D O Store En Ky)

/-- what is called, what is wished of exceptions -/
structure Jb where
  P : Y.Prog
  C : Y.Calls
  W : WX
  xp : Nat → Option (Option V) → Prop
def XW (X : Cx) (J : Jb) (m : Ms) (H : Hp) (env : En) (σ : L2.St) (Wa : Str → Store → Prop) : Prop :=
  ∀ (c : Str) (S' : Store) (H' : Hp) (m' : Ms) (C : Addr), Mt X.K X.w J.xp m' S' env σ H' → Kp m H m' H' → Wa c S' → J.P.subs c c = true → X.mg c = some (.ref C) → J.W (.ref C) none σ H'
def tq (X : Cx) (J : Jb) (ir : Y.E) : TE := fun σ H Q => ∃ (m : Ms) (S : Store) (env : En) (Qa : Y.Q1) (Wa : Str → Store → Prop), Mt X.K X.w J.xp m S env σ H ∧ Y.wE J.P J.C ir env S Qa Wa ∧
  (∀ (v : V) (H' : Hp) (m' : Ms) (S' : Store) (d : D), Mt X.K X.w J.xp m' S' env σ H' → Kp m H m' H' → Rep X.K X.w m' H' d v → Qa d S' → Q v H') ∧ XW X J m H env σ Wa
def tqT (X : Cx) (J : Jb) (ir : Y.E) : TT := fun σ H Q => ∃ (m : Ms) (S : Store) (env : En) (Qa : Bool → Store → Prop) (Wa : Str → Store → Prop), Mt X.K X.w J.xp m S env σ H ∧ Y.wE J.P J.C ir env S (Y.asB Qa) Wa ∧
  (∀ (b : Bool) (H' : Hp) (m' : Ms) (S' : Store), Mt X.K X.w J.xp m' S' env σ H' → Kp m H m' H' → Qa b S' → Q b H') ∧ XW X J m H env σ Wa
def tqA (X : Cx) (J : Jb) (irs : List Y.E) : TA := fun σ H Q => ∃ (m : Ms) (S : Store) (env : En) (Qa : List D → Store → Prop) (Wa : Str → Store → Prop), Mt X.K X.w J.xp m S env σ H ∧ Y.wEs J.P J.C irs env S Qa Wa ∧
  (∀ (vs : List V) (H' : Hp) (m' : Ms) (S' : Store) (ds : List D), Mt X.K X.w J.xp m' S' env σ H' → Kp m H m' H' → RepL X.K X.w m' H' ds vs → Qa ds S' → Q vs H') ∧ XW X J m H env σ Wa
abbrev QE (X : Cx) (J : Jb) (e : Expr) (ir : Y.E) : Prop := PE X e (tq X J ir)
abbrev QT (X : Cx) (J : Jb) (e : Expr) (ir : Y.E) : Prop := PT X e (tqT X J ir)
abbrev QW (X : Cx) (J : Jb) (e : Expr) (ir : Y.E) : Prop := PW X e (tqT X J ir)
abbrev QA (X : Cx) (J : Jb) (es : List Expr) (irs : List Y.E) : Prop := PA X es (tqA X J irs)
abbrev QK (X : Cx) (J : Jb) (ks : List Keyword) (irs : List Y.E) : Prop := PK X ks (tqA X J irs)
section
variable {X : Cx} {e : Expr} {es : List Expr} {st : Stmt} {sts : List Stmt} {ks : List Keyword}
theorem peImp {t t' : TE} (h : PE X e t) (hi : ∀ σ H Q, t' σ H Q → t σ H Q) : PE X e t' := ⟨fun pins s σ H Q I q => h.run pins s σ H Q I (hi σ H Q q)⟩
theorem ptImp {t t' : TT} (h : PT X e t) (hi : ∀ σ H Q, t' σ H Q → t σ H Q) : PT X e t' := ⟨fun pins s σ H Q I q => h.run pins s σ H Q I (hi σ H Q q)⟩
theorem pwImp {t t' : TT} (h : PW X e t) (hi : ∀ σ H Q, t' σ H Q → t σ H Q) : PW X e t' := ⟨fun wh pins s σ H Q I q => h.run wh pins s σ H Q I (hi σ H Q q)⟩
theorem paImp {t t' : TA} (h : PA X es t) (hi : ∀ σ H Q, t' σ H Q → t σ H Q) : PA X es t' := ⟨fun pos pins s σ H Q I q => h.run pos pins s σ H Q I (hi σ H Q q)⟩
theorem pkImp {t t' : TA} (h : PK X ks t) (hi : ∀ σ H Q, t' σ H Q → t σ H Q) : PK X ks t' := ⟨fun pos pins s σ H Q I q => h.run pos pins s σ H Q I (hi σ H Q q)⟩
theorem psImp {t t' : TS} (h : PS X st t) (hi : ∀ D σ H, t' D σ H → t D σ H) : PS X st t' := ⟨fun pins s σ H D I q => h.run pins s σ H D I (hi D σ H q)⟩
theorem pssImp {t t' : TS} (h : PSs X sts t) (hi : ∀ D σ H, t' D σ H → t D σ H) : PSs X sts t' := ⟨fun pins s σ H D I q => h.run pins s σ H D I (hi D σ H q)⟩
end
section
variable {X : Cx} {J : Jb} {m m' : Ms} {H H' : Hp} {S S' : Store} {env : En} {σ : L2.St}
theorem XW.mono {Wa : Str → Store → Prop} (h : XW X J m H env σ Wa) (k : Kp m H m' H') : XW X J m' H' env σ Wa := fun c S2 H2 m2 C M2 k2 w2 s2 e2 => h c S2 H2 m2 C M2 (k.trans k2) w2 s2 e2
theorem XW.none : XW X J m H env σ (fun _ _ => False) := fun _ _ _ _ _ _ _ z _ _ => z.elim
theorem asB_inv {Q : Bool → Store → Prop} {d : D} (h : Y.asB Q d S) : ∃ b, d = .bl b ∧ Q b S := by
  cases d with
  | bl b => exact ⟨b, rfl, h⟩
  | _ => exact h.elim
end

/-! ### names, constants, displays -/
section
variable {X : Cx} {J : Jb} {e a b c : Expr} {es : List Expr} {pos : Pos} {ia ib ic : Y.E} {ias : List Y.E}
theorem qe_v (i : Nat) {x : Str} (hN : X.N[i]? = some x := by rfl) (hv : Vis X.env.scope x := by first | exact Or.inl rfl | exact Or.inr (Or.inl rfl) | exact Or.inr (Or.inr rfl)) (hd : (x == ("__debug__" : Str)) = false := by decide)
    (hcd : (x == ("__classdict__" : Str)) = false := by decide) : QE X J (.Name x pos) (.v i) := by
  refine peImp (pe_var hN hv hd hcd) ?_
  rintro σ H Q ⟨m, S, env, Qa, Wa, M, hw, hq, _⟩
  have hw : (match env[i]? with | some (some d) => Qa d S | _ => False) := hw
  cases h1 : env[i]? with
  | none => rw [h1] at hw; exact hw.elim
  | some o =>
    cases o with
    | none => rw [h1] at hw; exact hw.elim
    | some d =>
      rw [h1] at hw
      obtain ⟨v, h2, h3⟩ := M.nam i d h1
      exact ⟨v, h2, hq v H m S d M (Kp.refl m H) h3 hw⟩
theorem qe_c {v : V} {d : D} (h : PE X e (tC v)) (r : ∀ m H, Rep X.K X.w m H d v) : QE X J e (.k d) :=
  peImp h fun _ H _ ⟨m, S, _, _, _, M, hw, hq, _⟩ => hq v H m S d M (Kp.refl m H) (r m H) hw
theorem qe_int {i : Int} {j : Nat} : QE X J (.Constant (.int i) j pos) (.k (.int i)) := qe_c pe_int fun _ _ => rfl
theorem qe_bl {i : Bool} {j : Nat} : QE X J (.Constant (.bool i) j pos) (.k (.bl i)) := qe_c pe_bl fun _ _ => rfl
theorem qe_non {j : Nat} : QE X J (.Constant .none j pos) (.k .non) := qe_c pe_non fun _ _ => rfl
theorem qe_str {x : Str} {j : Nat} : QE X J (.Constant (.str x) j pos) (.k (.str x)) := qe_c pe_str fun _ _ => rfl
/-- a module's constant -/
theorem qe_g {x : Str} {d : D} {v : V} {u : Value} (hg : Gl X x) (hP : J.P.glob x = some d) (hm : X.mg x = some u) (r : RelV v u) (hr : ∀ m H, Rep X.K X.w m H d v) (hd : (x == ("__debug__" : Str)) = false := by decide) : QE X J (.Name x pos) (.g x) := by
  refine peImp (pe_glob hg hm r hd) ?_
  rintro σ H Q ⟨m, S, env, Qa, Wa, M, hw, hq, _⟩
  have hw : (match J.P.glob x with | some d => Qa d S | none => False) := hw
  rw [hP] at hw
  exact hq v H m S d M (Kp.refl m H) (hr m H) hw
theorem qa_nil : QA X J [] [] := paImp pa_nil fun _ H _ ⟨m, S, _, _, _, M, hw, hq, _⟩ => hq [] H m S [] M (Kp.refl m H) rfl hw
theorem qa_cons (ha : QE X J e ia) (hr : QA X J es ias) (hs : starEach (e :: es) X.env = (false, eval e X.env) :: starEach es X.env := by rfl) : QA X J (e :: es) (ia :: ias) := by
  refine paImp (pa_cons ha hr hs) ?_
  rintro σ H Q ⟨m, S, env, Qa, Wa, M, hw, hq, hx⟩
  refine ⟨m, S, env, _, Wa, M, hw, fun v H1 m1 S1 d M1 k1 r1 q1 => ?_, hx⟩
  refine ⟨m1, S1, env, _, Wa, M1, q1, fun vs H2 m2 S2 ds M2 k2 r2 q2 => ?_, hx.mono k1⟩
  exact hq (v :: vs) H2 m2 S2 (d :: ds) M2 (k1.trans k2) ⟨v, vs, rfl, k2.rep M1.noTup r1, r2⟩ q2
theorem qk_nil : QK X J [] [] := pkImp pk_nil fun _ H _ ⟨m, S, _, _, _, M, hw, hq, _⟩ => hq [] H m S [] M (Kp.refl m H) rfl hw
theorem qk_cons {ks : List Keyword} {nm : Option Str} {kpos : Pos} (ha : QE X J e ia) (hr : QK X J ks ias) : QK X J (⟨nm, e, kpos⟩ :: ks) (ia :: ias) := by
  refine pkImp (pk_cons ha hr) ?_
  rintro σ H Q ⟨m, S, env, Qa, Wa, M, hw, hq, hx⟩
  refine ⟨m, S, env, _, Wa, M, hw, fun v H1 m1 S1 d M1 k1 r1 q1 => ?_, hx⟩
  refine ⟨m1, S1, env, _, Wa, M1, q1, fun vs H2 m2 S2 ds M2 k2 r2 q2 => ?_, hx.mono k1⟩
  exact hq (v :: vs) H2 m2 S2 (d :: ds) M2 (k1.trans k2) ⟨v, vs, rfl, k2.rep M1.noTup r1, r2⟩ q2
theorem line_eq : Y.line = sizeLine := by decide
/-- a new list -/
theorem newL_use {xp : Nat → Option (Option V) → Prop} {m : Ms} {H : Hp} {S : Store} {env : En} {σ : L2.St} {fz : Bool} {xs : List D} {Qa : Y.Q1} {Q : VK} {vs : List V} {p : Addr} (M : Mt X.K X.w xp m S env σ H) (r : RepL X.K X.w m H xs vs) (h : Y.newL fz xs S Qa) (hp : H p = none)
    (hq : ∀ (v : V) (H' : Hp) (m' : Ms) (S' : Store) (d : D), Mt X.K X.w xp m' S' env σ H' → Kp m H m' H' → Rep X.K X.w m' H' d v → Qa d S' → Q v H') : Q (.ref p) (upd H p (.lst vs)) := by
  obtain ⟨hl, hf, h⟩ := h
  cases fz with
  | true =>
    have k := Kp.laid (o := .lst vs) M hp
    exact hq _ _ m S (.lst xs) (M.laid hp) k ⟨hf, p, vs, rfl, .inl ⟨M.notMem hp, .inl upd_same⟩, k.repL M.noTup r⟩ h
  | false =>
    have h2 : Qa (.loc S.length) (S ++ [O.lst xs]) := h
    have M2 : Mt X.K X.w xp (m.add p) (S ++ [O.lst xs]) env σ (upd H p (.lst vs)) := Mt.more (ob := .lst xs) (o := .lst vs) M hp (show RepO X.K X.w m H (.lst xs) (.lst vs) from r) hf
    refine hq _ _ (m.add p) (S ++ [O.lst xs]) (.loc S.length) M2 (Kp.more M hp) ⟨p, rfl, ?_⟩ h2
    show (m.l ++ [p])[S.length]? = _
    rw [← M.len, List.getElem?_concat_length]
theorem newL_len {fz : Bool} {xs : List D} {S : Store} {Qa : Y.Q1} (h : Y.newL fz xs S Qa) : xs.length ≤ sizeLine := by rw [← line_eq]; exact h.1
/-- a new tuple -/
theorem newT_use {xp : Nat → Option (Option V) → Prop} {m : Ms} {H : Hp} {S : Store} {env : En} {σ : L2.St} {xs : List D} {Qa : Y.Q1} {Q : VK} {vs : List V} {p : Addr} (M : Mt X.K X.w xp m S env σ H) (r : RepL X.K X.w m H xs vs) (h : Qa (.tup xs) S) (hp : H p = none)
    (hq : ∀ (v : V) (H' : Hp) (m' : Ms) (S' : Store) (d : D), Mt X.K X.w xp m' S' env σ H' → Kp m H m' H' → Rep X.K X.w m' H' d v → Qa d S' → Q v H') : Q (.ref p) (upd H p (.tup vs)) := by
  have k := Kp.laid (o := .tup vs) M hp
  exact hq _ _ m S (.tup xs) (M.laid hp) k ⟨p, vs, rfl, SqT.of upd_same, k.repL M.noTup r⟩ h
theorem qe_tup {j : Nat} (h : QA X J es ias) : QE X J (.Tuple es j pos) (.tup ias) := by
  refine peImp (pe_tup h) ?_
  rintro σ H Q ⟨m, S, env, Qa, Wa, M, hw, hq, hx⟩
  refine ⟨m, S, env, _, Wa, M, hw, fun vs H1 m1 S1 ds M1 k1 r1 q1 => ?_, hx⟩
  obtain ⟨hl, q1⟩ := q1
  refine ⟨by rw [r1.length, ← line_eq]; exact hl, fun p hp => ?_⟩
  exact newT_use M1 r1 q1 hp fun v H' m' S' d M' k' r' q' => hq v H' m' S' d M' (k1.trans k') r' q'
theorem qe_lst {fz : Bool} (h : QA X J es ias) : QE X J (.List es pos) (.lst fz ias) := by
  refine peImp (pe_lst h) ?_
  rintro σ H Q ⟨m, S, env, Qa, Wa, M, hw, hq, hx⟩
  refine ⟨m, S, env, _, Wa, M, hw, fun vs H1 m1 S1 ds M1 k1 r1 q1 => ?_, hx⟩
  refine ⟨by rw [r1.length]; exact newL_len q1, fun p hp => ?_⟩
  exact newL_use M1 r1 q1 hp fun v H' m' S' d M' k' r' q' => hq v H' m' S' d M' (k1.trans k') r' q'

/-! ### operations by values -/
/-- what comes of an operation at the values ds, standing at vs -/
abbrev Got (X : Cx) (xp : Nat → Option (Option V) → Prop) (m : Ms) (H : Hp) (env : En) (σ : L2.St) (Qa : Y.Q1) (Q : VK) : Prop :=
  ∀ (v : V) (H' : Hp) (m' : Ms) (S' : Store) (d : D), Mt X.K X.w xp m' S' env σ H' → Kp m H m' H' → Rep X.K X.w m' H' d v → Qa d S' → Q v H'
def OpS2 (X : Cx) (o : Y.Op) (r : R2) : Prop := ∀ (xp : Nat → Option (Option V) → Prop) (m : Ms) (S : Store) (env : En) (σ : L2.St) (H : Hp) (x y : D) (v u : V) (Qa : Y.Q1) (Q : VK),
  Mt X.K X.w xp m S env σ H → Rep X.K X.w m H x v → Rep X.K X.w m H y u → Y.opW o [x, y] S Qa → Got X xp m H env σ Qa Q → r v u H Q
def OpS1 (X : Cx) (o : Y.Op) (r : V → Hp → VK → Prop) : Prop := ∀ (xp : Nat → Option (Option V) → Prop) (m : Ms) (S : Store) (env : En) (σ : L2.St) (H : Hp) (x : D) (v : V) (Qa : Y.Q1) (Q : VK),
  Mt X.K X.w xp m S env σ H → Rep X.K X.w m H x v → Y.opW o [x] S Qa → Got X xp m H env σ Qa Q → r v H Q
def OpSn (X : Cx) (o : Y.Op) (r : List V → Hp → VK → Prop) : Prop := ∀ (xp : Nat → Option (Option V) → Prop) (m : Ms) (S : Store) (env : En) (σ : L2.St) (H : Hp) (xs : List D) (vs : List V) (Qa : Y.Q1) (Q : VK),
  Mt X.K X.w xp m S env σ H → RepL X.K X.w m H xs vs → Y.opW o xs S Qa → Got X xp m H env σ Qa Q → r vs H Q
theorem Got.step {xp : Nat → Option (Option V) → Prop} {m m' : Ms} {H H' : Hp} {env : En} {σ : L2.St} {Qa : Y.Q1} {Q : VK} (g : Got X xp m H env σ Qa Q) (k : Kp m H m' H') : Got X xp m' H' env σ Qa Q :=
  fun v H2 m2 S2 d M2 k2 r2 q2 => g v H2 m2 S2 d M2 (k.trans k2) r2 q2
/-- the same heap, the same store -/
theorem Got.here {xp : Nat → Option (Option V) → Prop} {m : Ms} {H : Hp} {S : Store} {env : En} {σ : L2.St} {Qa : Y.Q1} {Q : VK} (g : Got X xp m H env σ Qa Q) (M : Mt X.K X.w xp m S env σ H) {d : D} {v : V} (r : Rep X.K X.w m H d v) (q : Qa d S) : Q v H :=
  g v H m S d M (Kp.refl m H) r q
theorem q2 {o : Y.Op} {r : R2} (hs : OpS2 X o r) (σ : L2.St) (H : Hp) (Q : VK) (h : tq X J (.op o [ia, ib]) σ H Q) : tOp r (tq X J ia) (tq X J ib) σ H Q := by
  obtain ⟨m, S, env, Qa, Wa, M, hw, hq, hx⟩ := h
  refine ⟨m, S, env, _, Wa, M, hw, fun x H1 m1 S1 d1 M1 k1 r1 q1 => ?_, hx⟩
  refine ⟨m1, S1, env, _, Wa, M1, q1, fun y H2 m2 S2 d2 M2 k2 r2 q2 => ?_, hx.mono k1⟩
  exact hs J.xp m2 S2 env σ H2 d1 d2 x y Qa Q M2 (k2.rep M1.noTup r1) r2 q2 (Got.step hq (k1.trans k2))
theorem qe_bin {op : Operator} {o : Y.Op} {r : R2} (ho : OpR X (binaryOp op) r) (hs : OpS2 X o r) (ha : QE X J a ia) (hb : QE X J b ib) : QE X J (.BinOp a op b pos) (.op o [ia, ib]) :=
  peImp (pe_op ho ha hb) (q2 hs)
theorem qe_cmp {op : CmpOp} {o : Y.Op} {r : R2} (ho : OpR X (compareOp op) r) (hs : OpS2 X o r) (ha : QE X J a ia) (hb : QE X J b ib) (hm : behindInMarks op b = false) : QE X J (.Compare a [op] [b] pos) (.op o [ia, ib]) :=
  peImp (pe_cmpR ho ha hb hm) (q2 hs)
theorem qe_ix {o : Y.Op} {r : R2} (ho : IxR X r) (hs : OpS2 X o r) (ha : QE X J a ia) (hb : QE X J b ib) (hp : PlainIx b) : QE X J (.Subscript a b pos) (.op o [ia, ib]) :=
  peImp (pe_ix ho ha hb hp) (q2 hs)
theorem qt_val (h : QE X J e ia) (he : ∀ whole, isTrue e X.env whole = (do let v ← whole; standAt e.pos; holding [v] (truthy v)) := by intro _; rfl) : QT X J e ia := by
  refine ptImp (pt_val h he) ?_
  rintro σ H Q ⟨m, S, env, Qa, Wa, M, hw, hq, hx⟩
  refine ⟨m, S, env, _, Wa, M, hw, fun v H1 m1 S1 d M1 k1 r1 q1 => ?_, hx⟩
  obtain ⟨b, rfl, q1⟩ := asB_inv q1
  exact ⟨b, r1, hq b H1 m1 S1 M1 k1 q1⟩
theorem qt_cmp {op : CmpOp} {o : Y.Op} {r : R2} (ho : OpR X (compareOp op) r) (hs : OpS2 X o r) (ha : QE X J a ia) (hb : QE X J b ib) (hm : behindInMarks op b = false) : QT X J (.Compare a [op] [b] pos) (.op o [ia, ib]) := by
  refine ptImp (pt_cmpR ho ha hb hm) ?_
  rintro σ H Q ⟨m, S, env, Qa, Wa, M, hw, hq, hx⟩
  refine q2 hs σ H _ ⟨m, S, env, _, Wa, M, hw, fun v H1 m1 S1 d M1 k1 r1 q1 => ?_, hx⟩
  obtain ⟨b, rfl, q1⟩ := asB_inv q1
  exact ⟨b, r1, hq b H1 m1 S1 M1 k1 q1⟩
theorem q3 {o o' : Y.Op} {r r' : R2} (hs : OpS2 X o r) (hs' : OpS2 X o' r') (σ : L2.St) (H : Hp) (Q : VK) (h : tq X J (.chain o o' ia ib ic) σ H Q) : tChain r r' (tq X J ia) (tq X J ib) (tq X J ic) σ H Q := by
  obtain ⟨m, S, env, Qa, Wa, M, hw, hq, hx⟩ := h
  refine ⟨m, S, env, _, Wa, M, hw, fun x H1 m1 S1 d1 M1 k1 r1 q1 => ?_, hx⟩
  refine ⟨m1, S1, env, _, Wa, M1, q1, fun y H2 m2 S2 d2 M2 k2 r2 q2 => ?_, hx.mono k1⟩
  refine hs J.xp m2 S2 env σ H2 d1 d2 x y _ _ M2 (k2.rep M1.noTup r1) r2 q2 fun z H3 m3 S3 d3 M3 k3 r3 q3 => ?_
  obtain ⟨b, rfl, q3⟩ := asB_inv q3
  refine ⟨b, r3, ?_⟩
  have k13 := k1.trans (k2.trans k3)
  cases b with
  | true =>
    refine ⟨m3, S3, env, _, Wa, M3, q3, fun z' H4 m4 S4 d4 M4 k4 r4 q4 => ?_, hx.mono k13⟩
    exact hs' J.xp m4 S4 env σ H4 d2 d4 y z' Qa Q M4 (k4.rep M3.noTup (k3.rep M2.noTup r2)) r4 q4 (Got.step hq (k13.trans k4))
  | false => exact hq _ H3 m3 S3 (.bl false) M3 k13 rfl q3
theorem qe_chain {op op' : CmpOp} {o o' : Y.Op} {r r' : R2} (ho : OpR X (compareOp op) r) (ho' : OpR X (compareOp op') r') (hs : OpS2 X o r) (hs' : OpS2 X o' r') (ha : QE X J a ia) (hb : QE X J b ib) (hc : QE X J c ic)
    (hm : lastMarks [op, op'] [b, c] = false := by with_unfolding_all rfl) : QE X J (.Compare a [op, op'] [b, c] pos) (.chain o o' ia ib ic) := peImp (pe_chain ho ho' ha hb hc hm) (q3 hs hs')
theorem qt_chain {op op' : CmpOp} {o o' : Y.Op} {r r' : R2} (ho : OpR X (compareOp op) r) (ho' : OpR X (compareOp op') r') (hs : OpS2 X o r) (hs' : OpS2 X o' r') (ha : QE X J a ia) (hb : QE X J b ib) (hc : QE X J c ic)
    (hm : lastMarks [op, op'] [b, c] = false := by with_unfolding_all rfl) : QT X J (.Compare a [op, op'] [b, c] pos) (.chain o o' ia ib ic) := by
  refine ptImp (pt_chain ho ho' ha hb hc hm) ?_
  rintro σ H Q ⟨m, S, env, Qa, Wa, M, hw, hq, hx⟩
  refine q3 hs hs' σ H _ ⟨m, S, env, _, Wa, M, hw, fun v H1 m1 S1 d M1 k1 r1 q1 => ?_, hx⟩
  obtain ⟨b, rfl, q1⟩ := asB_inv q1
  exact ⟨b, r1, hq b H1 m1 S1 M1 k1 q1⟩
theorem qe_un {op : UnaryOp} {o : Y.Op} {r : V → Hp → VK → Prop} (ho : UnR X (unaryOp op) r) (hs : OpS1 X o r) (ha : QE X J a ia) : QE X J (.UnaryOp op a pos) (.op o [ia]) := by
  refine peImp (pe_un ho ha) ?_
  rintro σ H Q ⟨m, S, env, Qa, Wa, M, hw, hq, hx⟩
  refine ⟨m, S, env, _, Wa, M, hw, fun x H1 m1 S1 d1 M1 k1 r1 q1 => ?_, hx⟩
  exact hs J.xp m1 S1 env σ H1 d1 x Qa Q M1 r1 q1 (Got.step hq k1)
theorem qn {o : Y.Op} {r : List V → Hp → VK → Prop} (hs : OpSn X o r) (σ : L2.St) (H : Hp) (Q : VK) (h : tq X J (.op o ias) σ H Q) : tCB r (tqA X J ias) σ H Q := by
  obtain ⟨m, S, env, Qa, Wa, M, hw, hq, hx⟩ := h
  refine ⟨m, S, env, _, Wa, M, hw, fun xs H1 m1 S1 d1 M1 k1 r1 q1 => ?_, hx⟩
  exact hs J.xp m1 S1 env σ H1 d1 xs Qa Q M1 r1 q1 (Got.step hq k1)
theorem qe_B {x : Str} {p : Pos} {id : String} {o : Y.Op} {r : List V → Hp → VK → Prop} (hc : CallR X (.builtin id) r) (hs : OpSn X o r) (hg : Gl X x) (hm : X.mg x = none) (hv : bootBuiltins x = some (.builtin id)) (ha : QA X J (e :: es) ias) (hn : x ≠ "__name__" := by decide) (hdb : (x == ("__debug__" : Str)) = false := by decide)
    (he : starEach (e :: es) X.env = (false, eval e X.env) :: starEach es X.env := by rfl) (hpl : (backTo pos (starEach es X.env)).any (·.1) = false := by rfl) : QE X J (.Call (.Name x p) (e :: es) [] pos) (.op o ias) :=
  peImp (pe_callB hc hg hm hv ha hn hdb he hpl) (qn hs)
theorem qe_Ty {x : Str} {p : Pos} {T : String} {o : Y.Op} {r : List V → Hp → VK → Prop} (hc : CallR X (.type T) r) (hs : OpSn X o r) (hg : Gl X x) (hm : X.mg x = none) (hv : bootBuiltins x = some (.type T)) (ha : QA X J (e :: es) ias) (hn : x ≠ "__name__" := by decide) (hdb : (x == ("__debug__" : Str)) = false := by decide)
    (he : starEach (e :: es) X.env = (false, eval e X.env) :: starEach es X.env := by rfl) (hpl : (backTo pos (starEach es X.env)).any (·.1) = false := by rfl) : QE X J (.Call (.Name x p) (e :: es) [] pos) (.op o ias) :=
  peImp (pe_callTy hc hg hm hv ha hn hdb he hpl) (qn hs)

/-! ### and, or, not, if -/
theorem qe_and1 (h : QE X J a ia) {op : BoolOp} : QE X J (.BoolOp op [a] pos) ia := pe_one h
theorem qe_and (ha : QE X J a ia) (hb : QE X J (.BoolOp .And (b :: es) pos) ib) : QE X J (.BoolOp .And (a :: b :: es) pos) (.and ia ib) := by
  refine peImp (pe_and ha hb) ?_
  rintro σ H Q ⟨m, S, env, Qa, Wa, M, hw, hq, hx⟩
  refine ⟨m, S, env, _, Wa, M, hw, fun v H1 m1 S1 d M1 k1 r1 q1 => ?_, hx⟩
  obtain ⟨t, rfl, q1⟩ := asB_inv q1
  refine ⟨t, r1, ?_⟩
  cases t with
  | true => exact ⟨m1, S1, env, Qa, Wa, M1, q1, Got.step hq k1, hx.mono k1⟩
  | false => exact hq _ H1 m1 S1 (.bl false) M1 k1 rfl q1
theorem qe_or (ha : QE X J a ia) (hb : QE X J (.BoolOp .Or (b :: es) pos) ib) : QE X J (.BoolOp .Or (a :: b :: es) pos) (.or ia ib) := by
  refine peImp (pe_or ha hb) ?_
  rintro σ H Q ⟨m, S, env, Qa, Wa, M, hw, hq, hx⟩
  refine ⟨m, S, env, _, Wa, M, hw, fun v H1 m1 S1 d M1 k1 r1 q1 => ?_, hx⟩
  obtain ⟨t, rfl, q1⟩ := asB_inv q1
  refine ⟨t, r1, ?_⟩
  cases t with
  | true => exact hq _ H1 m1 S1 (.bl true) M1 k1 rfl q1
  | false => exact ⟨m1, S1, env, Qa, Wa, M1, q1, Got.step hq k1, hx.mono k1⟩
theorem qe_not (ha : QE X J a ia) : QE X J (.UnaryOp .Not a pos) (.not ia) := by
  refine peImp (pe_not ha) ?_
  rintro σ H Q ⟨m, S, env, Qa, Wa, M, hw, hq, hx⟩
  refine ⟨m, S, env, _, Wa, M, hw, fun v H1 m1 S1 d M1 k1 r1 q1 => ?_, hx⟩
  obtain ⟨t, rfl, q1⟩ := asB_inv q1
  exact ⟨t, r1, hq _ H1 m1 S1 (.bl (!t)) M1 k1 rfl q1⟩
theorem qt_not (ha : QT X J a ia) : QT X J (.UnaryOp .Not a pos) (.not ia) := by
  refine ptImp (pt_not ha) ?_
  rintro σ H Q ⟨m, S, env, Qa, Wa, M, hw, hq, hx⟩
  exact ⟨m, S, env, _, Wa, M, hw, fun t H1 m1 S1 M1 k1 q1 => hq (!t) H1 m1 S1 M1 k1 q1, hx⟩
theorem qw_and1 (h : QT X J a ia) : QW X J (.BoolOp .And [a] pos) ia := pw_and1 h
theorem qw_or1 (h : QT X J a ia) : QW X J (.BoolOp .Or [a] pos) ia := pw_or1 h
theorem qw_and (ha : QT X J a ia) (hb : QW X J (.BoolOp .And (b :: es) pos) ib) : QW X J (.BoolOp .And (a :: b :: es) pos) (.and ia ib) := by
  refine pwImp (pw_and ha hb) ?_
  rintro σ H Q ⟨m, S, env, Qa, Wa, M, hw, hq, hx⟩
  refine ⟨m, S, env, _, Wa, M, hw, fun t H1 m1 S1 M1 k1 q1 => ?_, hx⟩
  cases t with
  | true => exact ⟨m1, S1, env, Qa, Wa, M1, q1, fun b H2 m2 S2 M2 k2 q2 => hq b H2 m2 S2 M2 (k1.trans k2) q2, hx.mono k1⟩
  | false => exact hq false H1 m1 S1 M1 k1 q1
theorem qw_or (ha : QT X J a ia) (hb : QW X J (.BoolOp .Or (b :: es) pos) ib) : QW X J (.BoolOp .Or (a :: b :: es) pos) (.or ia ib) := by
  refine pwImp (pw_or ha hb) ?_
  rintro σ H Q ⟨m, S, env, Qa, Wa, M, hw, hq, hx⟩
  refine ⟨m, S, env, _, Wa, M, hw, fun t H1 m1 S1 M1 k1 q1 => ?_, hx⟩
  cases t with
  | true => exact hq true H1 m1 S1 M1 k1 q1
  | false => exact ⟨m1, S1, env, Qa, Wa, M1, q1, fun b H2 m2 S2 M2 k2 q2 => hq b H2 m2 S2 M2 (k1.trans k2) q2, hx.mono k1⟩
theorem qe_ife (hc : QT X J c ic) (ha : QE X J a ia) (hb : QE X J b ib) : QE X J (.IfExp c a b pos) (.ife ic ia ib) := by
  refine peImp (pe_ifExp hc ha hb) ?_
  rintro σ H Q ⟨m, S, env, Qa, Wa, M, hw, hq, hx⟩
  refine ⟨m, S, env, _, Wa, M, hw, fun t H1 m1 S1 M1 k1 q1 => ?_, hx⟩
  cases t with
  | true => exact ⟨m1, S1, env, Qa, Wa, M1, q1, Got.step hq k1, hx.mono k1⟩
  | false => exact ⟨m1, S1, env, Qa, Wa, M1, q1, Got.step hq k1, hx.mono k1⟩
end
end YL
/-! YCall: defs and their calls, over the data language. -/
namespace YL
open PySem L2
open Y (D O Store En Ky)

/-- as FnOk, where no guard runs around -/
structure FnG (P : Program) (w : World) (K : PySem.W.Frag) (mg : Str → Option Value) (base : Heap) (k : Nat) (f : Addr) (fd : FuncData) (ps : List Str) (sp : Sp) : Prop where
  len : ∀ vs H Q E, sp vs H Q E → vs.length = ps.length
  run : ∀ (A : Around) (outer : List Env) (s : Shared) (H : Hp) (args : Args) (us : List Value) (vs : List V) (Q : VK) (E : XK), Room k A → A.guards = some [] → Env0 P w K mg base A outer s H → BindsTo s fd args (ps.zip us) → Vals vs us → sp vs H Q E →
    codeAny (model P w) A (.call (.ref f) args) (CR (L2.CX P w) outer P w H s Q E) s
/-- the store alone -/
structure So (K : PySem.W.Frag) (w : World) (m : Ms) (S : Store) (H : Hp) : Prop where
  len : m.l.length = S.length
  nd : m.l.Nodup
  rs : ∀ a ∈ m.r, a ∉ m.l ∧ ∃ xs, H a = some (.lst xs)
  obj : ∀ (i : Nat) (o : O), S[i]? = some o → ∃ a ho, m.l[i]? = some a ∧ H a = some ho ∧ RepO K w m H o ho
  free : ∀ o ∈ S, Y.frees (O.its o) = true
section
variable {X : Cx} {xp : Nat → Option (Option V) → Prop} {m m' : Ms} {S S' : Store} {env : En} {σ : L2.St} {H H' : Hp}
theorem Mt.so (M : Mt X.K X.w xp m S env σ H) : So X.K X.w m S H := ⟨M.len, M.nd, M.rs, M.obj, M.free⟩
theorem So.noTup {K : PySem.W.Frag} {w : World} (M : So K w m S H) : NoTup m H := fun a ha vs r => by
  obtain ⟨i, hi, e⟩ := List.getElem_of_mem ha
  have hs : i < S.length := by rw [← M.len]; exact hi
  obtain ⟨b, ho, h1, h2, h3⟩ := M.obj i S[i] (List.getElem?_eq_getElem hs)
  rw [List.getElem?_eq_getElem hi] at h1
  have eb : a = b := by rw [← e]; exact Option.some.inj h1
  subst eb
  rcases r with r | ⟨o, r⟩
  · rw [r] at h2; cases h2; cases q : S[i] <;> rw [q] at h3 <;> exact h3
  · rw [r] at h2; cases h2; cases q : S[i] <;> rw [q] at h3 <;> exact h3
/-- the names stand as they stood, the store is what came back -/
theorem Mt.after (M : Mt X.K X.w xp m S env σ H) (k : Kp m H m' H') (M' : So X.K X.w m' S' H') : Mt X.K X.w xp m' S' env σ H' :=
  ⟨M'.len, M'.nd, M'.rs, M'.obj, M'.free, fun i d e => by
    obtain ⟨v, h1, h2⟩ := M.nam i d e
    exact ⟨v, h1, k.rep M.noTup h2⟩, M.slen, M.xs⟩
end
/-- what a def of the text promises -/
def spOf (T : Y.Text) (n : Nat) (f : Str) (K : PySem.W.Frag) (w : World) (mg : Str → Option Value) (np : Nat) : Sp := fun vs H Q E =>
  vs.length = np ∧ ∃ (m : Ms) (S : Store) (ds : List D) (Qa : Y.Q1) (Wa : Str → Store → Prop), So K w m S H ∧ RepL K w m H ds vs ∧ Y.Wp T n f ds S Qa Wa ∧
    (∀ (v : V) (H' : Hp) (m' : Ms) (S' : Store) (d : D), So K w m' S' H' → Kp m H m' H' → Rep K w m' H' d v → Qa d S' → Q v H') ∧
    (∀ (c : Str) (S' : Store) (H' : Hp) (m' : Ms) (C : Addr), So K w m' S' H' → Kp m H m' H' → Wa c S' → T.subs c c = true → mg c = some (.ref C) → E (.ref C) none H')
/-- where a def stands -/
structure At where
  a : Addr
  fd : FuncData
  ps : List Str
structure HasFn (P : Program) (w : World) (K : PySem.W.Frag) (mg : Str → Option Value) (base : Heap) (T : Y.Text) (n : Nat) (f : Str) (t : At) : Prop where
  fg : FnG P w K mg base n t.a t.fd t.ps (spOf T n f K w mg t.ps.length)
  at_ : mg f = some (.ref t.a)
  kp : PySem.W.keepIn K (.ref t.a) = true
  bd : Binds K t.fd t.ps []
/-- the facts of a body's context: calls are of level n -/
structure Ctx (X : Cx) (J : Jb) (T : Y.Text) (n : Nat) (tab : Str → At) : Prop where
  hC : J.C = Y.Wp T n
  hP : J.P.subs = T.subs
  hG : J.P.glob = T.glob
  hp : PassesOwn (model X.prog X.w) X.A X.env X.xe
  np : ∀ f F, T.fn f = some F → F.np = (tab f).ps.length
  room : Room n X.A
  grd : X.A.guards = some []
  calm : X.calm = true
  nd : X.N.Nodup
  tk : Takes X J.W
  xp : ∀ i o, J.xp i o
  funs : ∀ f F, T.fn f = some F → HasFn X.prog X.w X.K X.mg X.base T n f (tab f)
theorem Wp_def {T : Y.Text} {n : Nat} {f : Str} {ds : List D} {S : Store} {Q : Y.Q1} {W : Str → Store → Prop} (h : Y.Wp T n f ds S Q W) : ∃ F, T.fn f = some F ∧ ds.length = F.np := by
  cases n with
  | zero => exact h.elim
  | succ n =>
    have h : (match T.fn f with | none => False | some F => ds.length = F.np ∧ _) := h
    cases q : T.fn f with
    | none => rw [q] at h; exact h.elim
    | some F => rw [q] at h; exact ⟨F, rfl, h.1⟩
section
variable {X : Cx} {J : Jb} {T : Y.Text} {n : Nat} {tab : Str → At} {e : Expr} {es : List Expr} {x : Str} {p pos : Pos} {ias : List Y.E}
theorem run_g {pins : List (Addr × Obj)} {σ : L2.St} {H : Hp} {s : Shared} {Q : VK} {args : Args} {us : List Value} {vs : List V} {t : At} {sp : Sp} {E : XK} (G : Ctx X J T n tab) (F : FnG X.prog X.w X.K X.mg X.base n t.a t.fd t.ps sp)
    (hx : PassesAt (L2.CX X.prog X.w) X σ E) (I : Inv X pins σ H s) (b : BindsTo s t.fd args (t.ps.zip us)) (r : Vals vs us) (h : sp vs H Q E) :
    codeAny (model X.prog X.w) X.A (.call (.ref t.a) args) (fun r s' => match r with | .ok (.ret v) => EP X pins σ Q v s' | .ok _ => False | .error e => X.xe e s') s := by
  refine codeAny_mono (F.run X.A X.stack s H args us vs Q E G.room G.grd I.env0 b r h) fun r s' hq => ?_
  cases r with
  | error e => exact hx pins H s e s' I hq
  | ok fl =>
    cases fl with
    | ret u => exact I.after hq
    | next => exact False.elim hq
    | brk => exact False.elim hq
    | cont => exact False.elim hq
/-- from the wish of a call in the data language to the def's promise -/
theorem call_sp {m : Ms} {S : Store} {env : En} {σ : L2.St} {H : Hp} {Qa : Y.Q1} {Wa : Str → Store → Prop} {Q : VK} {ds : List D} {vs : List V} (G : Ctx X J T n tab) (M : Mt X.K X.w J.xp m S env σ H) (r : RepL X.K X.w m H ds vs) (hw : J.C x ds S Qa Wa)
    (hq : Got X J.xp m H env σ Qa Q) (hx : XW X J m H env σ Wa) : ∃ F, T.fn x = some F ∧ spOf T n x X.K X.w X.mg (tab x).ps.length vs H Q (WE J.W σ) := by
  rw [G.hC] at hw
  obtain ⟨F, hF, hl⟩ := Wp_def hw
  refine ⟨F, hF, by rw [r.length, hl, G.np x F hF], m, S, ds, Qa, Wa, M.so, r, hw, fun v H' m' S' d M' k' r' q' => hq v H' m' S' d (M.after k' M') k' r' q', fun c S' H' m' C M' k' w' s' e' => hx c S' H' m' C (M.after k' M') k' w' (by rw [G.hP]; exact s') e'⟩
theorem qe_call {F : Y.Fn} (G : Ctx X J T n tab) (hF : T.fn x = some F) (hg : Gl X x) (ha : QA X J (e :: es) ias) (hdb : (x == ("__debug__" : Str)) = false := by decide)
    (he : starEach (e :: es) X.env = (false, eval e X.env) :: starEach es X.env := by rfl) (hpl : (backTo pos (starEach es X.env)).any (·.1) = false := by rfl) : QE X J (.Call (.Name x p) (e :: es) [] pos) (.call x ias) := by
  refine ⟨fun pins s σ H Q I h => ?_⟩
  obtain ⟨m, S, env, Qa, Wa, M, hw, hq, hx⟩ := h
  have B := G.funs x F hF
  refine wpAny_Call_Name_kw (ld_glob I hg B.at_ ?_ hdb)
  refine PySem.W.callWith_K (h₀ := X.base) I.ok.mod.kin B.kp (thn (ha.run pos pins s σ H (fun vs H1 => ∃ F, T.fn x = some F ∧ spOf T n x X.K X.w X.mg (tab x).ps.length vs H1 Q (WE J.W σ)) I
    ⟨m, S, env, _, Wa, M, hw, fun vs H1 m1 S1 ds M1 k1 r1 q1 => call_sp G M1 r1 q1 (Got.step hq k1) (hx.mono k1), hx⟩) fun us s1 ⟨vs, H1, I1, r, F', hF', q⟩ => ⟨I1.kIn, ?_⟩) he hpl
  have b := B.bd s1 us I1.kIn (by rw [List.append_nil, ← r.length]; exact q.1)
  rw [List.append_nil] at b
  exact wpAny_call (run_g G B.fg (passAt G.tk σ) I1 b r q)
/-- f() -/
theorem qe_call0 {F : Y.Fn} (G : Ctx X J T n tab) (hF : T.fn x = some F) (hg : Gl X x) (hdb : (x == ("__debug__" : Str)) = false := by decide) : QE X J (.Call (.Name x p) [] [] pos) (.call x []) := by
  refine ⟨fun pins s σ H Q I h => ?_⟩
  obtain ⟨m, S, env, Qa, Wa, M, hw, hq, hx⟩ := h
  have B := G.funs x F hF
  have hw' : J.C x [] S Qa Wa := hw
  obtain ⟨F', hF', q⟩ := call_sp (ds := []) (vs := []) G M rfl hw' hq hx
  refine wpAny_Call_Name_kw (ld_glob I hg B.at_ ?_ hdb)
  refine PySem.W.callWith_K0 I.kIn B.kp ?_
  have b := B.bd s [] I.kIn (by exact q.1)
  exact wpAny_call (run_g (us := []) (vs := []) G B.fg (passAt G.tk σ) I b .nil q)
/-- f(a, .., k = b, ..) -/
def gK {α : Type} (np nk : Nat) (perm : List Nat) (us ws : List α) : List α := if us.length = np ∧ ws.length = nk then perm.filterMap fun i => (us ++ ws)[i]? else []
theorem repL_pick {K : PySem.W.Frag} {w : World} {m : Ms} {H : Hp} {ds : List D} {vs : List V} (r : RepL K w m H ds vs) : ∀ perm : List Nat, RepL K w m H (Y.pick ds perm) (perm.filterMap fun i => vs[i]?)
  | [] => rfl
  | i :: p => by
    have ih := repL_pick r p
    unfold Y.pick at ih ⊢
    rw [List.filterMap_cons, List.filterMap_cons]
    cases e : ds[i]? with
    | none =>
      have : vs[i]? = none := by
        rw [List.getElem?_eq_none_iff] at e ⊢
        rw [r.length]
        exact e
      rw [this]
      exact ih
    | some d =>
      obtain ⟨v, h1, h2⟩ := r.get e
      rw [h1]
      exact ⟨v, _, rfl, h2, ih⟩
theorem qe_callk {F : Y.Fn} {kws : List Keyword} {iks : List Y.E} {ks : List Str} {perm : List Nat} {np nk : Nat} {gV : List V → List V → List V} (G : Ctx X J T n tab) (hF : T.fn x = some F) (hg : Gl X x) (hb : KBinds X.K (tab x).fd (tab x).ps ks (gK np nk perm) (gK np nk perm))
    (ha : QA X J (e :: es) ias) (hkw : QK X J kws iks) (hnp : ias.length = np := by rfl) (hnk : iks.length = nk := by rfl) (hall : (backToKw pos (keywordEach kws X.env)).all (·.1.isSome) = true := by rfl) (hks : (backToKw pos (keywordEach kws X.env)).filterMap (·.1) = ks := by rfl)
    (hdb : (x == ("__debug__" : Str)) = false := by decide) (he : starEach (e :: es) X.env = (false, eval e X.env) :: starEach es X.env := by rfl)
    (hpl : ((backTo pos (starEach (e :: es) X.env)).any (·.1) || (backToKw pos (keywordEach kws X.env)).any (·.1.isNone)) = false := by rfl) : QE X J (.Call (.Name x p) (e :: es) kws pos) (.callp x ias iks perm) := by
  refine ⟨fun pins s σ H Q I h => ?_⟩
  obtain ⟨m, S, env, Qa, Wa, M, hw, hq, hx⟩ := h
  have B := G.funs x F hF
  refine wpAny_Call_Name_kw (ld_glob I hg B.at_ ?_ hdb)
  refine PySem.W.callWith_KW (h₀ := X.base) I.ok.mod.kin B.kp hall (thn (ha.run pos pins s σ H (fun vs H1 => tqA X J iks σ H1 fun zs H2 => ∃ F, T.fn x = some F ∧ spOf T n x X.K X.w X.mg (tab x).ps.length (gK np nk perm vs zs) H2 Q (WE J.W σ)) I
    ⟨m, S, env, _, Wa, M, hw, fun vs H1 m1 S1 ds M1 k1 r1 q1 => ⟨m1, S1, env, _, Wa, M1, q1, fun zs H2 m2 S2 fs M2 k2 r2 q2 => ?_, hx.mono k1⟩, hx⟩) fun us s1 ⟨vs, H1, I1, r, q⟩ => ?_) hpl he
  · obtain ⟨l1, l2, q2⟩ := q2
    have r12 := RepL.append (k2.repL M1.noTup r1) r2
    have e1 : gK np nk perm vs zs = perm.filterMap fun i => (vs ++ zs)[i]? := if_pos ⟨by rw [r1.length, l1, hnp], by rw [r2.length, l2, hnk]⟩
    rw [e1]
    exact call_sp G M2 (repL_pick r12 perm) q2 (Got.step hq (k1.trans k2)) (hx.mono (k1.trans k2))
  · refine thn (hkw.run pos pins s1 σ H1 _ I1 q) fun ws s2 ⟨zs, H2, I2, rz, F', hF', q2⟩ => ⟨I2.kIn, ?_⟩
    rw [hks]
    have rg := hb.rel r rz
    have b := hb.to s2 us ws I2.kIn (by rw [← rg.length]; exact q2.1)
    exact wpAny_call (run_g G B.fg (passAt G.tk σ) I2 b rg q2)
/-- f(k = b, ..) with no argument by its place -/
theorem qe_callk0 {F : Y.Fn} {kw : Keyword} {kws : List Keyword} {iks : List Y.E} {ks : List Str} {perm : List Nat} {nk : Nat} (G : Ctx X J T n tab) (hF : T.fn x = some F) (hg : Gl X x) (hb : KBinds X.K (tab x).fd (tab x).ps ks (gK 0 nk perm) (gK 0 nk perm))
    (hkw : QK X J (kw :: kws) iks) (hnk : iks.length = nk := by rfl) (hks : (backToKw pos (keywordEach (kw :: kws) X.env)).filterMap (·.1) = ks := by rfl)
    (hall : (backToKw pos (keywordEach (kw :: kws) X.env)).all (·.1.isSome) = true := by rfl) (hdb : (x == ("__debug__" : Str)) = false := by decide)
    (hpl : ((backTo pos (starEach [] X.env)).any (·.1) || (backToKw pos (keywordEach (kw :: kws) X.env)).any (·.1.isNone)) = false := by rfl) : QE X J (.Call (.Name x p) [] (kw :: kws) pos) (.callp x [] iks perm) := by
  refine ⟨fun pins s σ H Q I h => ?_⟩
  obtain ⟨m, S, env, Qa, Wa, M, hw, hq, hx⟩ := h
  have B := G.funs x F hF
  refine wpAny_Call_Name_kw (ld_glob I hg B.at_ ?_ hdb)
  have hw' : Y.wEs J.P J.C iks env S (fun zs S2 => ([] : List D).length = ([] : List Y.E).length ∧ zs.length = iks.length ∧ J.C x (Y.pick ([] ++ zs) perm) S2 Qa Wa) Wa := hw
  refine PySem.W.callWith_KW0 (h₀ := X.base) I.ok.mod.kin B.kp hall (thn (hkw.run pos pins s σ H (fun zs H2 => ∃ F, T.fn x = some F ∧ spOf T n x X.K X.w X.mg (tab x).ps.length (gK 0 nk perm [] zs) H2 Q (WE J.W σ)) I
    ⟨m, S, env, _, Wa, M, hw', fun zs H2 m2 S2 fs M2 k2 r2 q2 => ?_, hx⟩) fun ws s2 ⟨zs, H2, I2, rz, F', hF', q2⟩ => ⟨I2.kIn, ?_⟩) hpl
  · obtain ⟨l1, l2, q2⟩ := q2
    have e1 : gK 0 nk perm [] zs = perm.filterMap fun i => zs[i]? := if_pos ⟨rfl, by rw [r2.length, l2, hnk]⟩
    rw [e1]
    exact call_sp G M2 (repL_pick r2 perm) q2 (Got.step hq k2) (hx.mono k2)
  · rw [hks]
    have rg := hb.rel .nil rz
    have b := hb.to s2 [] ws I2.kIn (by rw [← rg.length]; exact q2.1)
    exact wpAny_call (run_g G B.fg (passAt G.tk σ) I2 b rg q2)
end

/-! ### a def by its body -/
open PyProof.Rows in
theorem fn_ofG {P : Program} {w : World} {K : PySem.W.Frag} {mg : Str → Option Value} {base : Heap} {k : Nat} {f : Addr} {name qual : Str} {params : Arguments} {body : List Stmt} {scope : Scope} {dV kV doc pm cdv ct oc : Value} {an od : Option Addr}
    {osl : Array (Option Value)} {N ps : List Str} {sp : Sp} (lk : K.lookup f = some ⟨oc, od, .func (PySem.W.fnOf name qual params body scope dV kV doc pm an cdv ct), osl⟩) (hcd : PySem.W.codeIn K cdv qual = true) (S : FnScope N ps scope)
    (len : ∀ vs H Q E, sp vs H Q E → vs.length = ps.length)
    (hbody : ∀ (A : Around) (outer : List Env) (s : Shared) (H : Hp) (vs : List V) (Q : VK) (E : XK), Room k (A.deeper (envOfC qual scope s.heap.objs.size f cdv)) → A.guards = some [] → sp vs H Q E →
      ∃ t, PSs (cxOf (L2.CX P w) P w K mg base N qual scope f cdv A outer s H E) body t ∧ t { nx := fun _ H' => Q .non H', rt := Q } (start N vs) H) :
    FnG P w K mg base (k + 1) f (PySem.W.fnOf name qual params body scope dV kV doc pm an cdv ct) ps sp := by
  refine ⟨len, fun A outer s H args us vs Q E hr hgd e0 hb r hsp => ?_⟩
  have hl := len _ _ _ _ hsp
  have KX : K.In s.heap := e0.mod.kin.keeps fun b o e => (e0.bs b o e).1
  have lim : s.heap.NoLimit := e0.mod.nolimit.keeps fun b o e => (e0.bs b o e).1
  have hkind : ∀ y ∈ ps.zip us, scope.names.lookup y.1 = some .local ∨ (scope.names.lookup y.1 = some .cell ∧ ((cellsFrom (s.heap.objs.size + 1) scope.names []).lookup y.1).isSome = true) := fun ⟨n, v⟩ hy => by
    rcases S.par n (List.of_mem_zip hy).1 with q | q
    · exact .inl q
    · exact .inr ⟨q, PySem.W.cellsFrom_some _ _ _ (.inl q)⟩
  refine codeAny_call_function hr.depth (KX _ _ lk) rfl S.co S.gen rfl (PySem.W.codeRec_of KX hcd) (hb _ _ _ _ ?_)
  refine wpAny_newFunctionEnv_cells S.kind hkind fun env he s1 x => ?_
  subst he
  refine ⟨lim.keeps x.toInCall.keep, codeAny_func ?_⟩
  obtain ⟨t, ht, hq⟩ := hbody A outer s H vs Q E (hr.deeper _) hgd hsp
  have I : Inv (cxOf (L2.CX P w) P w K mg base N qual scope f cdv A outer s H E) [] (start N vs) H s1 := inv_start S hr.hd e0 hl r x
  refine wpAny_mono (ht.run [] s1 (start N vs) H _ I hq) (fun fl s' hs => ?_) fun e s' hs => hs
  have fin : ∀ {σ' : L2.St} {H' : Hp} {v : V} {u : Value}, Inv (cxOf (L2.CX P w) P w K mg base N qual scope f cdv A outer s H E) [] σ' H' s' → RelV v u → Q v H' → CE outer P w H s Q u s' :=
    fun {σ' H' v u} J rv q => ⟨v, H', J.os, J.bare, J.base, J.hok, rv, q⟩
  cases fl with
  | ret u =>
    obtain ⟨v, σ', H', J, rv, q⟩ := hs
    exact fin J rv q
  | next =>
    obtain ⟨σ', H', J, q⟩ := hs
    exact fin (v := V.non) (u := Value.none) J rfl q
  | brk =>
    obtain ⟨_, _, _, q⟩ := hs
    exact False.elim q
  | cont =>
    obtain ⟨_, _, _, q⟩ := hs
    exact False.elim q
end YL
/-! YStm: statements, loops, comprehensions. -/
namespace YL
open PySem L2
open Y (D O Store En Ky)

structure Lk (K : PySem.W.Frag) (w : World) (mg : Str → Option Value) (J : Jb) (m : Ms) (H : Hp) (Da : Y.Nd) (Dx : L2.Ends) : Prop where
  nx : ∀ (σ' : L2.St) (H' : Hp) (m' : Ms) (S' : Store) (env' : En), Mt K w J.xp m' S' env' σ' H' → Kp m H m' H' → Da.nx env' S' → Dx.nx σ' H'
  bk : ∀ (σ' : L2.St) (H' : Hp) (m' : Ms) (S' : Store) (env' : En), Mt K w J.xp m' S' env' σ' H' → Kp m H m' H' → Da.bk env' S' → Dx.bk σ' H'
  ct : ∀ (σ' : L2.St) (H' : Hp) (m' : Ms) (S' : Store) (env' : En), Mt K w J.xp m' S' env' σ' H' → Kp m H m' H' → Da.ct env' S' → Dx.ct σ' H'
  rt : ∀ (v : V) (H' : Hp) (m' : Ms) (S' : Store) (d : D), So K w m' S' H' → Kp m H m' H' → Rep K w m' H' d v → Da.rt d S' → Dx.rt v H'
  xx : ∀ (c : Str) (σ' : L2.St) (H' : Hp) (m' : Ms) (S' : Store) (env' : En) (C : Addr), Mt K w J.xp m' S' env' σ' H' → Kp m H m' H' → Da.xx c env' S' → J.P.subs c c = true → mg c = some (.ref C) → J.W (.ref C) none σ' H'
def tqS (X : Cx) (J : Jb) (ir : Y.St) : TS := fun Dx σ H => ∃ (m : Ms) (S : Store) (env : En) (Da : Y.Nd), Mt X.K X.w J.xp m S env σ H ∧ Y.wS J.C ir J.P env S Da ∧ Lk X.K X.w X.mg J m H Da Dx
def tqSs (X : Cx) (J : Jb) (irs : List Y.St) : TS := fun Dx σ H => ∃ (m : Ms) (S : Store) (env : En) (Da : Y.Nd), Mt X.K X.w J.xp m S env σ H ∧ Y.wSs J.C irs J.P env S Da ∧ Lk X.K X.w X.mg J m H Da Dx
abbrev QS (X : Cx) (J : Jb) (st : Stmt) (ir : Y.St) : Prop := PS X st (tqS X J ir)
abbrev QSs (X : Cx) (J : Jb) (sts : List Stmt) (irs : List Y.St) : Prop := PSs X sts (tqSs X J irs)
/-- a target -/
def tqG (X : Cx) (J : Jb) (t : Y.Tg) (ws : List Nat) : TG := fun v σ H Q => ∃ (m : Ms) (S : Store) (env : En) (d : D) (env' : En), Mt X.K X.w J.xp m S env σ H ∧ Rep X.K X.w m H d v ∧ Y.putT t d env = some env' ∧
  ∀ σ', Mt X.K X.w J.xp m S env' σ' H → (∀ vs, (∀ i ∈ ws, i ∈ vs) → wipe σ' vs = wipe σ vs) → Q σ' H
def tqGs (X : Cx) (J : Jb) (ts : List Y.Tg) (ws : List Nat) : TGs := fun us σ H Q => ∃ (m : Ms) (S : Store) (env : En) (ds : List D) (env' : En), Mt X.K X.w J.xp m S env σ H ∧ RepL X.K X.w m H ds us ∧ Y.putTs ts ds env = some env' ∧
  ∀ σ', Mt X.K X.w J.xp m S env' σ' H → (∀ vs, (∀ i ∈ ws, i ∈ vs) → wipe σ' vs = wipe σ vs) → Q σ' H
abbrev QG (X : Cx) (J : Jb) (tg : Expr) (t : Y.Tg) (ws : List Nat) : Prop := PG X tg (tqG X J t ws)
abbrev QGs (X : Cx) (J : Jb) (tgs : List Expr) (ts : List Y.Tg) (ws : List Nat) : Prop := PGs X tgs (tqGs X J ts ws)
section
variable {X : Cx} {J : Jb} {m m' : Ms} {H H' : Hp} {S S' : Store} {env : En} {σ : L2.St} {Da : Y.Nd} {Dx : L2.Ends}
theorem Lk.mono (L : Lk X.K X.w X.mg J m H Da Dx) (k : Kp m H m' H') : Lk X.K X.w X.mg J m' H' Da Dx :=
  ⟨fun σ' H2 m2 S2 e2 M2 k2 => L.nx σ' H2 m2 S2 e2 M2 (k.trans k2), fun σ' H2 m2 S2 e2 M2 k2 => L.bk σ' H2 m2 S2 e2 M2 (k.trans k2), fun σ' H2 m2 S2 e2 M2 k2 => L.ct σ' H2 m2 S2 e2 M2 (k.trans k2),
    fun v H2 m2 S2 d M2 k2 => L.rt v H2 m2 S2 d M2 (k.trans k2), fun c σ' H2 m2 S2 e2 C M2 k2 => L.xx c σ' H2 m2 S2 e2 C M2 (k.trans k2)⟩
/-- the wish of an expression within a statement -/
theorem Lk.ew (L : Lk X.K X.w X.mg J m H Da Dx) : XW X J m H env σ (fun c S1 => Da.xx c env S1) := fun c S' H' m' C M k w s e => L.xx c σ H' m' S' env C M k w s e
theorem psImp2 {st : Stmt} {t t' : TS} (h : PS X st t) (hi : ∀ D σ H, t' D σ H → t D σ H) : PS X st t' := psImp h hi
theorem wipe_set (σ : L2.St) (i : Nat) (o : Option V) : ∀ vs : List Nat, i ∈ vs → wipe (σ.set i o) vs = wipe σ vs
  | [], h => by simp at h
  | v :: vs, h => by
    show (wipe (σ.set i o) vs).set v none = (wipe σ vs).set v none
    by_cases e : i ∈ vs
    · rw [wipe_set σ i o vs e]
    · have hv : i = v := by
        rcases List.mem_cons.mp h with z | z
        · exact z
        · exact absurd z e
      subst hv
      have go : ∀ us : List Nat, i ∉ us → wipe (σ.set i o) us = (wipe σ us).set i o := fun us => by
        induction us with
        | nil => intro _; rfl
        | cons u us ih =>
          intro hu
          show (wipe (σ.set i o) us).set u none = ((wipe σ us).set u none).set i o
          rw [ih (fun z => hu (List.mem_cons_of_mem _ z)), List.set_comm]
          intro z
          exact hu (by rw [z]; exact List.mem_cons_self)
      rw [go vs e, List.set_set]
theorem wipe_wipe (σ : L2.St) : ∀ (us vs : List Nat), (∀ i ∈ us, i ∈ vs) → wipe (wipe σ us) vs = wipe σ vs
  | [], _, _ => rfl
  | u :: us, vs, h => by
    show wipe ((wipe σ us).set u none) vs = _
    rw [wipe_set _ _ _ _ (h u List.mem_cons_self), wipe_wipe σ us vs fun i hi => h i (List.mem_cons_of_mem _ hi)]
theorem Mt.wipe (M : Mt X.K X.w J.xp m S env σ H) (hx : ∀ i o, J.xp i o) : ∀ ws : List Nat, Mt X.K X.w J.xp m S (Y.wipe env ws) (L2.wipe σ ws) H
  | [] => M
  | _ :: ws => (Mt.wipe M hx ws).drop hx
end
/-! ### targets -/
section
variable {X : Cx} {J : Jb} {pos : Pos} {tgs : List Expr} {tg : Expr}
theorem qg_n {i : Nat} {x : Str} (hN : X.N.Nodup) (hi : X.N[i]? = some x) (hx : Loc X.env.scope x) (hf : X.fn x = true ∨ X.env.scope.names.lookup x = some .local := by first | exact .inl rfl | exact .inr rfl | assumption) : QG X J (.Name x pos) (.n i) [i] := by
  refine ⟨fun pins s σ H v u Q I r h => (pg_name hN hi hx hf).run pins s σ H v u Q I r ?_⟩
  obtain ⟨m, S, env, d, env', M, rd, hp, hq⟩ := h
  have hp : (if i < env.length then some (env.set i (some d)) else none) = some env' := hp
  by_cases hl : i < env.length
  · rw [if_pos hl] at hp
    cases hp
    exact hq _ (M.put rd hl) fun vs hv => wipe_set σ i _ vs (hv i (by simp))
  · rw [if_neg hl] at hp
    cases hp
theorem qgs_nil : QGs X J [] [] [] := by
  refine ⟨fun pins s σ H vs us Q I r h => pgs_nil.run pins s σ H vs us Q I r ?_⟩
  obtain ⟨m, S, env, ds, env', M, rd, hp, hq⟩ := h
  cases ds with
  | nil =>
    have hp : some env = some env' := hp
    cases hp
    exact ⟨rd, hq σ M fun _ _ => rfl⟩
  | cons d ds =>
    have hp : none = some env' := hp
    cases hp
theorem qgs_cons {t : Y.Tg} {ts : List Y.Tg} {w1 w2 : List Nat} (h1 : QG X J tg t w1) (h2 : QGs X J tgs ts w2) (hs : (assignEach (tg :: tgs) X.env).map (·.2) = assign tg X.env :: (assignEach tgs X.env).map (·.2) := by rfl) : QGs X J (tg :: tgs) (t :: ts) (w1 ++ w2) := by
  refine ⟨fun pins s σ H vs us Q I r h => (pgs_cons h1 h2 hs).run pins s σ H vs us Q I r ?_⟩
  obtain ⟨m, S, env, ds, env', M, rd, hp, hq⟩ := h
  cases ds with
  | nil =>
    have hp : none = some env' := hp
    cases hp
  | cons d ds =>
    obtain ⟨v, r', e, r1, r2⟩ := rd
    have hp : (match Y.putT t d env with | some σ' => Y.putTs ts ds σ' | none => none) = some env' := hp
    cases q : Y.putT t d env with
    | none => rw [q] at hp; cases hp
    | some env1 =>
      rw [q] at hp
      refine ⟨v, r', e, m, S, env, d, env1, M, r1, q, fun σ1 M1 f1 => ?_⟩
      refine ⟨m, S, env1, ds, env', M1, r2, hp, fun σ2 M2 f2 => hq σ2 M2 fun vs hv => ?_⟩
      rw [f2 vs fun i hi => hv i (List.mem_append_right _ hi), f1 vs fun i hi => hv i (List.mem_append_left _ hi)]
theorem putTs_len : ∀ {ts : List Y.Tg} {ds : List D} {env env' : En}, Y.putTs ts ds env = some env' → ds.length = ts.length
  | [], [], _, _, _ => rfl
  | [], _ :: _, _, _, h => by cases h
  | _ :: _, [], _, _, h => by cases h
  | t :: ts, d :: ds, env, env', h => by
    have h : (match Y.putT t d env with | some σ' => Y.putTs ts ds σ' | none => none) = some env' := h
    cases q : Y.putT t d env with
    | none => rw [q] at h; cases h
    | some e => rw [q] at h; rw [List.length_cons, List.length_cons, putTs_len h]
theorem qg_t {ts : List Y.Tg} {ws : List Nat} {k : Nat} (hc : X.calm = true) (h : QGs X J tgs ts ws) (hl : ts.length = tgs.length := by rfl) (hn : (assignEach tgs X.env).length = tgs.length := by rfl) (hst : (assignEach tgs X.env).findIdx? (·.1) = none := by rfl) : QG X J (.Tuple tgs k pos) (.t ts) ws := by
  refine ⟨fun pins s σ H v u Q I r h' => (pg_tup hc h hn hst).run pins s σ H v u Q I r ?_⟩
  obtain ⟨m, S, env, d, env', M, rd, hp, hq⟩ := h'
  cases d with
  | tup ds =>
    obtain ⟨a, vs, e, hs, rl⟩ := rd
    have hp : Y.putTs ts ds env = some env' := hp
    exact ⟨a, vs, e, hs, by rw [rl.length, putTs_len hp, hl], m, S, env, ds, env', M, rl, hp, hq⟩
  | _ =>
    have hp : none = some env' := hp
    cases hp
end
/-! ### plain statements -/
section
variable {X : Cx} {J : Jb} {T : Y.Text} {n : Nat} {tab : Str → At} {e o i tg : Expr} {es : List Expr} {pos : Pos} {ie io ii : Y.E} {ies : List Y.E} {st : Stmt} {sts : List Stmt} {ir : Y.St} {irs : List Y.St}
theorem qss_nil : QSs X J [] [] := pssImp pss_nil fun _ σ H ⟨m, S, env, _, M, hw, L⟩ => L.nx σ H m S env M (Kp.refl m H) hw
theorem qss_cons (h1 : QS X J st ir) (h2 : QSs X J sts irs) : QSs X J (st :: sts) (ir :: irs) := by
  refine pssImp (pss_cons h1 h2) ?_
  rintro Dx σ H ⟨m, S, env, Da, M, hw, L⟩
  exact ⟨m, S, env, _, M, hw, ⟨fun σ' H' m' S' env' M' k' w' => ⟨m', S', env', Da, M', w', L.mono k'⟩, L.bk, L.ct, L.rt, L.xx⟩⟩
theorem qs_pass : QS X J (.Pass pos) .pass := psImp ps_pass fun _ σ H ⟨m, S, env, _, M, hw, L⟩ => L.nx σ H m S env M (Kp.refl m H) hw
theorem qs_brk : QS X J (.Break pos) .brk := psImp ps_break fun _ σ H ⟨m, S, env, _, M, hw, L⟩ => L.bk σ H m S env M (Kp.refl m H) hw
theorem qs_cnt : QS X J (.Continue pos) .cnt := psImp ps_continue fun _ σ H ⟨m, S, env, _, M, hw, L⟩ => L.ct σ H m S env M (Kp.refl m H) hw
theorem qs_ex (he : QE X J e ie) (hs : swapsWith e none pos.line X.env = pure false := by rfl) : QS X J (.Expr e pos) (.ex ie) := by
  refine psImp (ps_expr he hs) ?_
  rintro Dx σ H ⟨m, S, env, Da, M, hw, L⟩
  exact ⟨m, S, env, _, _, M, hw, fun v H' m' S' d M' k' _ q' => L.nx σ H' m' S' env M' k' q', L.ew⟩
theorem qs_ret (he : QE X J e ie) : QS X J (.Return (some e) pos) (.ret ie) := by
  refine psImp (ps_ret he) ?_
  rintro Dx σ H ⟨m, S, env, Da, M, hw, L⟩
  exact ⟨m, S, env, _, _, M, hw, fun v H' m' S' d M' k' r' q' => L.rt v H' m' S' d M'.so k' r' q', L.ew⟩
theorem qs_retN : QS X J (.Return none pos) .retN := psImp ps_retN fun _ σ H ⟨m, S, env, _, M, hw, L⟩ => L.rt .non H m S .non M.so (Kp.refl m H) rfl hw
theorem qs_if {c : Expr} {a b : List Stmt} {ic : Y.E} {ia ib : List Y.St} (hc : QT X J c ic) (ha : QSs X J a ia) (hb : QSs X J b ib) : QS X J (.If c a b pos) (.ife ic ia ib) := by
  refine psImp (ps_if hc ha hb) ?_
  rintro Dx σ H ⟨m, S, env, Da, M, hw, L⟩
  refine ⟨m, S, env, _, _, M, hw, fun t H1 m1 S1 M1 k1 q1 => ?_, L.ew⟩
  cases t with
  | true => exact ⟨m1, S1, env, Da, M1, q1, L.mono k1⟩
  | false => exact ⟨m1, S1, env, Da, M1, q1, L.mono k1⟩
/-- behind an expression: a target -/
theorem qs_to {t : Y.Tg} {ws : List Nat} {Dx : L2.Ends} {σ : L2.St} {H : Hp} (h : tqS X J (.asg t ie) Dx σ H) : tAsg (tq X J ie) (tqG X J t ws) Dx σ H := by
  obtain ⟨m, S, env, Da, M, hw, L⟩ := h
  refine ⟨m, S, env, _, _, M, hw, fun v H1 m1 S1 d M1 k1 r1 q1 => ?_, L.ew⟩
  have q1 : (match Y.putT t d env with | some σ' => Da.nx σ' S1 | none => False) := q1
  cases q : Y.putT t d env with
  | none => rw [q] at q1; exact q1.elim
  | some env' =>
    rw [q] at q1
    exact ⟨m1, S1, env, d, env', M1, r1, q, fun σ' M' _ => L.nx σ' H1 m1 S1 env' M' k1 q1⟩
theorem qs_asg {t : Y.Tg} {ws : List Nat} (he : QE X J e ie) (hg : QG X J tg t ws) (hs : swapsWithSole [tg] e pos.line X.env = pure false := by rfl) (hw : swappedStores [tg] e X.env = pure none := by rfl)
    (h1 : (assignEach [tg] X.env).map (·.2) = [assign tg X.env] := by rfl) : QS X J (.Assign [tg] e pos) (.asg t ie) :=
  psImp (ps_asg he hg hs hw h1) fun _ _ _ h => qs_to h
theorem qs_set {j : Nat} {x : Str} {pos' : Pos} (hN : X.N.Nodup) (hi : X.N[j]? = some x) (hx : Loc X.env.scope x) (he : QE X J e ie) (hs : swapsWith e (some (.Name x pos')) pos.line X.env = pure false := by rfl) (hf : X.fn x = true ∨ X.env.scope.names.lookup x = some .local := by first | exact .inl rfl | exact .inr rfl | assumption) :
    QS X J (.Assign [.Name x pos'] e pos) (.asg (.n j) ie) := by
  refine psImp (ps_set hN hi hx he hs hf) ?_
  rintro Dx σ H ⟨m, S, env, Da, M, hw, L⟩
  refine ⟨m, S, env, _, _, M, hw, fun v H1 m1 S1 d M1 k1 r1 q1 => ?_, L.ew⟩
  have q1 : (match (if j < env.length then some (env.set j (some d)) else none) with | some σ' => Da.nx σ' S1 | none => False) := q1
  by_cases hl : j < env.length
  · rw [if_pos hl] at q1
    exact L.nx _ H1 m1 S1 _ (M1.put r1 hl) k1 q1
  · rw [if_neg hl] at q1
    exact q1.elim
theorem put2 {i j : Nat} {ds : List D} {env env' : En} (h : Y.putTs [.n i, .n j] ds env = some env') : ∃ a b, ds = [a, b] ∧ i < env.length ∧ j < env.length ∧ env' = (env.set i (some a)).set j (some b) := by
  have hl := putTs_len h
  match ds, hl, h with
  | [a, b], _, h =>
    have h : (match (if i < env.length then some (env.set i (some a)) else none) with | some σ' => Y.putTs [.n j] [b] σ' | none => none) = some env' := h
    by_cases h1 : i < env.length
    · rw [if_pos h1] at h
      have h : (match (if j < (env.set i (some a)).length then some ((env.set i (some a)).set j (some b)) else none) with | some σ' => Y.putTs [] [] σ' | none => none) = some env' := h
      by_cases h2 : j < (env.set i (some a)).length
      · rw [if_pos h2] at h
        have h : some _ = some env' := h
        cases h
        exact ⟨a, b, rfl, h1, by rw [List.length_set] at h2; exact h2, rfl⟩
      · rw [if_neg h2] at h; cases h
    · rw [if_neg h1] at h; cases h
theorem qs_par2 {i j : Nat} {x y : Str} {a b : Expr} {px py pt : Pos} {kt : Nat} {k2 : Nat} {pt2 : Pos} (hc : X.calm = true) (hN : X.N.Nodup) (hi : X.N[i]? = some x) (hj : X.N[j]? = some y) (hij : i ≠ j)
    (hx : X.env.scope.names.lookup x = some .local) (hy : X.env.scope.names.lookup y = some .local) (ha : QA X J [a, b] ies)
    (hw : swappedStores [.Tuple [.Name x px, .Name y py] kt pt] (.Tuple [a, b] k2 pt2) X.env = pure (some [x, y]))
    (hs : swapsWithSole [.Tuple [.Name x px, .Name y py] kt pt] (.Tuple [a, b] k2 pt2) pos.line X.env = pure false := by rfl) :
    QS X J (.Assign [.Tuple [.Name x px, .Name y py] kt pt] (.Tuple [a, b] k2 pt2) pos) (.par [i, j] ies) := by
  refine psImp (ps_par hc hN hi hj hij hx hy ha hw hs) ?_
  rintro Dx σ H ⟨m, S, env, Da, M, hw, L⟩
  refine ⟨m, S, env, _, _, M, hw, fun vs H1 m1 S1 ds M1 k1 r1 q1 => ?_, L.ew⟩
  have q1 : (match Y.putTs [.n i, .n j] ds env with | some σ' => Da.nx σ' S1 | none => False) := q1
  cases q : Y.putTs [.n i, .n j] ds env with
  | none => rw [q] at q1; exact q1.elim
  | some env' =>
    rw [q] at q1
    have qq : Da.nx env' S1 := q1
    clear q1
    obtain ⟨d1, d2, e, l1, l2, e'⟩ := put2 q
    subst e
    obtain ⟨v, r, e1, ra, u, r', e2, rb, e3⟩ := r1
    subst e2
    rw [show r' = [] from e3] at e1
    rw [e'] at qq
    exact ⟨v, u, e1, L.nx _ H1 m1 S1 _ ((M1.put ra l1).put rb (by rw [List.length_set]; exact l2)) k1 qq⟩
theorem put3 {i j l : Nat} {ds : List D} {env env' : En} (h : Y.putTs [.n i, .n j, .n l] ds env = some env') : ∃ a b c, ds = [a, b, c] ∧ i < env.length ∧ j < env.length ∧ l < env.length ∧ env' = ((env.set i (some a)).set j (some b)).set l (some c) := by
  have hl := putTs_len h
  match ds, hl, h with
  | [a, b, c], _, h =>
    have h : (match (if i < env.length then some (env.set i (some a)) else none) with | some σ' => Y.putTs [.n j, .n l] [b, c] σ' | none => none) = some env' := h
    by_cases h1 : i < env.length
    · rw [if_pos h1] at h
      obtain ⟨b', c', e, l1, l2, e'⟩ := put2 h
      cases e
      rw [List.length_set] at l1 l2
      exact ⟨a, b, c, rfl, h1, l1, l2, e'⟩
    · rw [if_neg h1] at h; cases h
theorem qs_par3 {i j l : Nat} {x y z : Str} {a b c : Expr} {px py pz pt : Pos} {kt : Nat} {k2 : Nat} {pt2 : Pos} (hc : X.calm = true) (hN : X.N.Nodup) (hi : X.N[i]? = some x) (hj : X.N[j]? = some y) (hl : X.N[l]? = some z) (hij : i ≠ j) (hil : i ≠ l) (hjl : j ≠ l)
    (hx : X.env.scope.names.lookup x = some .local) (hy : X.env.scope.names.lookup y = some .local) (hz : X.env.scope.names.lookup z = some .local) (ha : QA X J [a, b, c] ies)
    (hw : swappedStores [.Tuple [.Name x px, .Name y py, .Name z pz] kt pt] (.Tuple [a, b, c] k2 pt2) X.env = pure (some [x, y, z]))
    (hs : swapsWithSole [.Tuple [.Name x px, .Name y py, .Name z pz] kt pt] (.Tuple [a, b, c] k2 pt2) pos.line X.env = pure false := by rfl) :
    QS X J (.Assign [.Tuple [.Name x px, .Name y py, .Name z pz] kt pt] (.Tuple [a, b, c] k2 pt2) pos) (.par [i, j, l] ies) := by
  refine psImp (ps_par3 hc hN hi hj hl hij hil hjl hx hy hz ha hw hs) ?_
  rintro Dx σ H ⟨m, S, env, Da, M, hw, L⟩
  refine ⟨m, S, env, _, _, M, hw, fun vs H1 m1 S1 ds M1 k1 r1 q1 => ?_, L.ew⟩
  have q1 : (match Y.putTs [.n i, .n j, .n l] ds env with | some σ' => Da.nx σ' S1 | none => False) := q1
  cases q : Y.putTs [.n i, .n j, .n l] ds env with
  | none => rw [q] at q1; exact q1.elim
  | some env' =>
    rw [q] at q1
    have qq : Da.nx env' S1 := q1
    clear q1
    obtain ⟨d1, d2, d3, e, l1, l2, l3, e'⟩ := put3 q
    subst e
    obtain ⟨v, r, e1, ra, u, r', e2, rb, z', r'', e3, rc, e4⟩ := r1
    subst e3
    rw [show r'' = [] from e4] at e2
    subst e2
    rw [e'] at qq
    exact ⟨v, u, z', e1, L.nx _ H1 m1 S1 _ (((M1.put ra l1).put rb (by rw [List.length_set]; exact l2)).put rc (by rw [List.length_set, List.length_set]; exact l3)) k1 qq⟩
theorem ixN_of {n : Nat} {k : Int} (h0 : 0 ≤ k) (h1 : k < n) : ixN n k = some k.toNat := by
  unfold ixN
  rw [if_pos h0, if_pos h1]
/-- o[i] = e -/
theorem qs_put {tpos : Pos} (he : QE X J e ie) (ho : QE X J o io) (hi : QE X J i ii) (hs : swapsWithSole [.Subscript o i tpos] e pos.line X.env = pure false := by rfl) (hw : swappedStores [.Subscript o i tpos] e X.env = pure none := by rfl)
    (h1 : (assignEach [.Subscript o i tpos] X.env).map (·.2) = [assign (.Subscript o i tpos) X.env] := by rfl)
    (ha : ∀ v, assign (.Subscript o i tpos) X.env v = (do
      let ov ← holding [v] (eval o X.env)
      let iv ← holding [v, ov] (eval i X.env)
      standAt tpos
      holding [v, ov, iv] (setItem ov iv v)
      release [v, ov, iv] []) := by intro _; rfl) : QS X J (.Assign [.Subscript o i tpos] e pos) (.put io ii ie) := by
  refine psImp (ps_asg he (pg_sub ho hi set_list ha) hs hw h1) ?_
  rintro Dx σ H ⟨m, S, env, Da, M, hw, L⟩
  refine ⟨m, S, env, _, _, M, hw, fun v H1 m1 S1 d M1 k1 r1 q1 => ?_, L.ew⟩
  refine ⟨m1, S1, env, _, _, M1, q1, fun x H2 m2 S2 dx M2 k2 r2 q2 => ?_, L.ew.mono k1⟩
  refine ⟨m2, S2, env, _, _, M2, q2, fun y H3 m3 S3 dy M3 k3 r3 q3 => ?_, L.ew.mono (k1.trans k2)⟩
  have rv := k3.rep M2.noTup (k2.rep M1.noTup r1)
  have rx := k3.rep M2.noTup r2
  cases dx with
  | loc l =>
    cases dy with
    | int k =>
      have q3 : (match S3[l]? with | some (.lst xs) => 0 ≤ k ∧ k < xs.length ∧ d.free = true ∧ Da.nx env (S3.set l (.lst (xs.set k.toNat d))) | _ => False) := q3
      cases hS : S3[l]? with
      | none => rw [hS] at q3; exact q3.elim
      | some ob =>
        cases ob with
        | lst xs =>
          rw [hS] at q3
          obtain ⟨h0, hl, hf, q3⟩ := q3
          obtain ⟨a, e1, e2⟩ := rx
          obtain ⟨a', u, h2, h3, h4⟩ := M3.obj l _ hS
          rw [e2] at h2; cases h2
          cases u with
          | lst vs =>
            have h4 : RepL X.K X.w m3 H3 xs vs := h4
            refine ⟨a, vs, k, k.toNat, e1, r3, h3, ixN_of h0 (by rw [h4.length]; exact hl), ?_⟩
            have ff : Y.frees (xs.set k.toNat d) = true := by
              have fx := M3.free _ (List.mem_of_getElem? hS)
              have go : ∀ (zs : List D) (j : Nat), Y.frees zs = true → Y.frees (zs.set j d) = true := fun zs => by
                induction zs with
                | nil => intro j h; exact h
                | cons z zs ih =>
                  intro j h
                  have h : (z.free && Y.frees zs) = true := h
                  rw [Bool.and_eq_true] at h
                  cases j with
                  | zero => show (d.free && Y.frees zs) = true; rw [hf, h.2]; rfl
                  | succ j => show (z.free && Y.frees (zs.set j d)) = true; rw [h.1, ih j h.2]; rfl
              exact go xs _ fx
            exact L.nx σ _ m3 _ env (M3.write (ob := .lst (xs.set k.toNat d)) e2 (show RepL X.K X.w m3 H3 _ _ from RepL.set rv _ h4) ff) ((k1.trans (k2.trans k3)).trans (Kp.write (List.mem_of_getElem? e2))) q3
          | _ => exact h4.elim
        | _ => rw [hS] at q3; exact q3.elim
    | _ => exact q3.elim
  | _ => exact q3.elim
def OpIp (X : Cx) (o : Y.Op) (r : TIp) : Prop := ∀ (xp : Nat → Option (Option V) → Prop) (m : Ms) (S : Store) (env : En) (σ : L2.St) (H : Hp) (x y : D) (v u : V) (Qa : Y.Q1) (Q : VK),
  Mt X.K X.w xp m S env σ H → Rep X.K X.w m H x v → Rep X.K X.w m H y u → Y.opW o [x, y] S Qa → Got X xp m H env σ Qa Q → r v u H Q
theorem qs_aug {j : Nat} {x : Str} {op : Operator} {ti : TIp} {oo : Y.Op} {pos' : Pos} (hp : PIp X op ti) (hs : OpIp X oo ti) (hN : X.N.Nodup) (hi : X.N[j]? = some x) (hx : Loc X.env.scope x) (he : QE X J e ie) (hf : X.fn x = true ∨ X.env.scope.names.lookup x = some .local := by first | exact .inl rfl | exact .inr rfl | assumption) :
    QS X J (.AugAssign (.Name x pos') op e pos) (.aug j oo ie) := by
  refine psImp (ps_aug hN hi hx he hp hf) ?_
  rintro Dx σ H ⟨m, S, env, Da, M, hw, L⟩
  have hw : (match env[j]? with | some (some x) => Y.wE J.P J.C ie env S (fun y S1 => Y.opW oo [x, y] S1 fun z S2 => Da.nx (env.set j (some z)) S2) (fun c S1 => Da.xx c env S1) | _ => False) := hw
  cases hj : env[j]? with
  | none => rw [hj] at hw; exact hw.elim
  | some od =>
    cases od with
    | none => rw [hj] at hw; exact hw.elim
    | some d0 =>
      rw [hj] at hw
      obtain ⟨v0, h1, h2⟩ := M.nam j d0 hj
      have hl : j < env.length := (List.getElem?_eq_some_iff.mp hj).1
      refine ⟨v0, h1, m, S, env, _, _, M, hw, fun y H1 m1 S1 d M1 k1 r1 q1 => ?_, L.ew⟩
      exact hs J.xp m1 S1 env σ H1 d0 d v0 y _ _ M1 (k1.rep M.noTup h2) r1 q1 fun z H2 m2 S2 dz M2 k2 r2 q2 => L.nx _ H2 m2 S2 _ (M2.put r2 hl) (k1.trans k2) q2
theorem ip_addI : OpIp X .addI (ipI fun i j => i + j) := by
  intro xp m S env σ H x y v u Qa Q M rx ry hw hq
  cases x <;> cases y <;> first
    | exact hw.elim
    | exact ⟨_, _, rx, ry, Got.here hq M (d := .int _) rfl hw⟩
theorem ip_subI : OpIp X .sub (ipI fun i j => i - j) := by
  intro xp m S env σ H x y v u Qa Q M rx ry hw hq
  cases x <;> cases y <;> first
    | exact hw.elim
    | exact ⟨_, _, rx, ry, Got.here hq M (d := .int _) rfl hw⟩
end
end YL
/-! YLoop: loops, comprehensions, raise and try. -/
namespace YL
open PySem L2
open Y (D O Store En Ky)
theorem Kq.trans {m m1 m2 : Ms} {H H1 H2 : Hp} (a : Kq m H m1 H1) (b : Kq m1 H1 m2 H2) : Kq m H m2 H2 := by
  refine ⟨?_, fun x o h e => ?_, fun x vs h => b.tup x vs (a.tup x vs h)⟩
  · obtain ⟨t, e⟩ := a.pre
    obtain ⟨u, e2⟩ := b.pre
    exact ⟨t ++ u, by rw [e2, e, List.append_assoc]⟩
  · obtain ⟨e1, h1⟩ := a.keep x o h e
    exact b.keep x o h1 e1
theorem Kq.refl (m : Ms) (H : Hp) : Kq m H m H := ⟨⟨[], by simp⟩, fun _ _ h e => ⟨e, h⟩, fun _ _ h => h⟩
section
variable {X : Cx} {J : Jb} {T : Y.Text} {n : Nat} {tab : Str → At} {e c it tg elt : Expr} {es ifs : List Expr} {b : List Stmt} {pos : Pos} {ic ie iit : Y.E} {ib : List Y.St}
/-! ### while -/
theorem qs_while (G : Ctx X J T n tab) (hc : QT X J c ic) (hb : QSs X J b ib) : QS X J (.While c b [] pos) (.whl ic ib) := by
  refine psImp (ps_while G.hp hc hb) ?_
  rintro Dx σ H ⟨m, S, env, Da, M, ⟨k, hw⟩, L⟩
  refine ⟨fun k σ' H' => ∃ (m' : Ms) (S' : Store) (env' : En), Mt X.K X.w J.xp m' S' env' σ' H' ∧ Kp m H m' H' ∧
    Y.whlW (fun σ' S' Q => Y.wE J.P J.C ic σ' S' (Y.asB Q) (fun c S1 => Da.xx c σ' S1)) (fun σ' S' D' => Y.wSs J.C ib J.P σ' S' D') k env' S' Da, ⟨k, m, S, env, M, Kp.refl m H, hw⟩, ?_⟩
  rintro k σ1 H1 ⟨m1, S1, env1, M1, k1, hw1⟩
  cases k with
  | zero => exact hw1.elim
  | succ k =>
    have L1 := L.mono k1
    refine ⟨m1, S1, env1, _, _, M1, hw1, fun t H2 m2 S2 M2 k2 q2 => ?_, L1.ew⟩
    have L2 := L1.mono k2
    cases t with
    | true =>
      refine ⟨_, fun σ' H' h => ⟨k, Nat.lt_succ_self k, h⟩, m2, S2, env1, _, M2, q2, ?_⟩
      exact ⟨fun σ' H' m' S' env' M' k' w' => ⟨m', S', env', M', (k1.trans k2).trans k', w'⟩, L2.nx, fun σ' H' m' S' env' M' k' w' => ⟨m', S', env', M', (k1.trans k2).trans k', w'⟩, L2.rt, L2.xx⟩
    | false => exact L2.nx σ1 H2 m2 S2 env1 M2 (Kp.refl m2 H2) q2
/-! ### for -/
structure ItOk (K : PySem.W.Frag) (w : World) (xp : Nat → Option (Option V) → Prop) (m1 : Ms) (H1 : Hp) (Jt : It) (xs : List D) (Gd : Store → Prop) : Prop where
  go : ∀ (i : Nat) (m : Ms) (S : Store) (env : En) (σ : L2.St) (H : Hp), Mt K w xp m S env σ H → Kq m1 H1 m H → Gd S → i < xs.length → Jt.go i H ∧ ∀ v H', Jt.yld i H v H' → Mt K w xp m S env σ H' ∧ Kp m H m H' ∧ ∃ d, xs[i]? = some d ∧ Rep K w m H' d v
  stop : ∀ (i : Nat) (m : Ms) (S : Store) (env : En) (σ : L2.St) (H : Hp), Mt K w xp m S env σ H → Kq m1 H1 m H → Gd S → xs.length ≤ i → Jt.stop i H
def walkK (kd : Nat) (Qi : List D → (Store → Prop) → Store → Prop) : Y.Q1 := fun d S1 => match Y.walkOf kd d S1 with
  | some (xs, G) => Qi xs G S1
  | none => False
def tqI (X : Cx) (J : Jb) (ir : Y.E) (kd : Nat) : TI := fun σ H R => ∃ (m : Ms) (S : Store) (env : En) (Qi : List D → (Store → Prop) → Store → Prop) (Wa : Str → Store → Prop), Mt X.K X.w J.xp m S env σ H ∧ Y.wE J.P J.C ir env S (walkK kd Qi) Wa ∧
  (∀ (Jt : It) (H' : Hp) (m' : Ms) (S' : Store) (xs : List D) (Gd : Store → Prop), Mt X.K X.w J.xp m' S' env σ H' → Kp m H m' H' → ItOk X.K X.w J.xp m' H' Jt xs Gd → Qi xs Gd S' → R Jt H') ∧ XW X J m H env σ Wa
abbrev QI (X : Cx) (J : Jb) (tg it : Expr) (ir : Y.E) (kd : Nat) : Prop := PI X tg it (tqI X J ir kd)
theorem qs_for {t : Y.Tg} {ws : List Nat} {kd : Nat} (G : Ctx X J T n tab) (hi : QI X J tg it iit kd) (hg : QG X J tg t ws) (hb : QSs X J b ib) (hs : ∀ x, foldedSetIterable it X.env x = pure x := by intro _; rfl) : QS X J (.For tg it b [] pos) (.for t iit kd ib) := by
  refine psImp (ps_for G.hp G.calm hi hg hb hs) ?_
  rintro Dx σ H ⟨m, S, env, Da, M, hw, L⟩
  refine ⟨m, S, env, fun xs Gd S1 => Y.forW Gd (fun x σ' S' D' => match Y.putT t x σ' with
        | some σ2 => Y.wSs J.C ib J.P σ2 S' D'
        | none => False) xs env S1 Da, _, M, hw, fun Jt H1 m1 S1 xs Gd M1 k1 ok q1 => ?_, L.ew⟩
  refine ⟨fun i k σ' H' => k = xs.length - i ∧ i ≤ xs.length ∧ ∃ (m' : Ms) (S' : Store) (env' : En), Mt X.K X.w J.xp m' S' env' σ' H' ∧ Kp m1 H1 m' H' ∧ Y.forW Gd (fun x σ' S' D' => match Y.putT t x σ' with
        | some σ2 => Y.wSs J.C ib J.P σ2 S' D'
        | none => False) (xs.drop i) env' S' Da, ⟨xs.length, rfl, Nat.zero_le _, m1, S1, env, M1, Kp.refl m1 H1, q1⟩, ?_⟩
  rintro i k σ' H' ⟨rfl, hi, m', S', env', M', k', w'⟩
  have kq := k'.q M1.noTup
  by_cases hlt : i < xs.length
  · rw [List.drop_eq_getElem_cons hlt] at w'
    obtain ⟨g', w'⟩ := w'
    obtain ⟨go, y⟩ := ok.go i m' S' env' σ' H' M' kq g' hlt
    have L' := L.mono (k1.trans k')
    refine .inr ⟨go, _, fun σ2 H2 h => ⟨xs.length - (i + 1), by omega, h⟩, fun v H2 hy => ?_⟩
    obtain ⟨M2, k2, d, hd, r2⟩ := y v H2 hy
    rw [List.getElem?_eq_getElem hlt] at hd
    cases hd
    cases q : Y.putT t xs[i] env' with
    | none => rw [q] at w'; exact w'.elim
    | some env2 =>
      rw [q] at w'
      refine ⟨m', S', env', xs[i], env2, M2, r2, q, fun σ2 M3 _ => ⟨m', S', env2, _, M3, w', ?_⟩⟩
      have L2 := L'.mono k2
      exact ⟨fun σ3 H3 m3 S3 env3 M3 k3 w3 => ⟨rfl, hlt, m3, S3, env3, M3, (k'.trans k2).trans k3, w3⟩, L2.nx, fun σ3 H3 m3 S3 env3 M3 k3 w3 => ⟨rfl, hlt, m3, S3, env3, M3, (k'.trans k2).trans k3, w3⟩, L2.rt, L2.xx⟩
  · have e : i = xs.length := by omega
    subst e
    rw [List.drop_eq_nil_of_le (Nat.le_refl _)] at w'
    obtain ⟨g', w'⟩ := w'
    exact .inl ⟨ok.stop _ m' S' env' σ' H' M' kq g' (Nat.le_refl _), (L.mono (k1.trans k')).nx σ' H' m' S' env' M' (Kp.refl m' H') w'⟩
/-! ### what is walked -/
theorem ok_lst {m1 : Ms} {H1 : Hp} {a : Addr} {vs : List V} {xs : List D} (h : LAt X.K m1 H1 a vs) (r : RepL X.K X.w m1 H1 xs vs) : ItOk X.K X.w J.xp m1 H1 (Itl X.K a) xs (fun _ => True) := by
  refine ⟨fun i m S env σ H M k _ hi => ?_, fun i m S env σ H M k _ hi => ?_⟩
  · have hs := (k.lst h).sq
    have rl := k.repL r
    obtain ⟨v, h1, h2⟩ := rl.get (List.getElem?_eq_getElem hi)
    refine ⟨⟨vs, v, hs, h1⟩, fun v' H' y => ?_⟩
    obtain ⟨e, y⟩ := y
    subst e
    have h3 := y vs hs
    rw [h1] at h3; cases h3
    exact ⟨M, Kp.refl _ _, _, List.getElem?_eq_getElem hi, h2⟩
  · exact ⟨vs, (k.lst h).sq, by rw [r.length]; exact hi⟩
theorem ok_tup {m1 : Ms} {H1 : Hp} {a : Addr} {vs : List V} {xs : List D} (h : SqT X.K H1 a vs) (r : RepL X.K X.w m1 H1 xs vs) : ItOk X.K X.w J.xp m1 H1 (Itt X.K a) xs (fun _ => True) := by
  refine ⟨fun i m S env σ H M k _ hi => ?_, fun i m S env σ H M k _ hi => ?_⟩
  · have hs := k.st h
    have rl := k.repL r
    obtain ⟨v, h1, h2⟩ := rl.get (List.getElem?_eq_getElem hi)
    refine ⟨⟨vs, v, hs, h1⟩, fun v' H' y => ?_⟩
    obtain ⟨e, y⟩ := y
    subst e
    have h3 := y vs hs
    rw [h1] at h3; cases h3
    exact ⟨M, Kp.refl _ _, _, List.getElem?_eq_getElem hi, h2⟩
  · exact ⟨vs, k.st h, by rw [r.length]; exact hi⟩
theorem ok_loc {m1 : Ms} {H1 : Hp} {l : Nat} {a : Addr} {xs : List D} (hl : m1.l[l]? = some a) : ItOk X.K X.w J.xp m1 H1 (Itl X.K a) xs (fun S => S[l]? = some (.lst xs)) := by
  have get : ∀ (m : Ms) (S : Store) (env : En) (σ : L2.St) (H : Hp), Mt X.K X.w J.xp m S env σ H → Kq m1 H1 m H → S[l]? = some (.lst xs) → ∃ vs, SqL X.K H a vs ∧ RepL X.K X.w m H xs vs := fun m S env σ H M k g => by
    obtain ⟨a', ho, h1, h2, h3⟩ := M.obj l _ g
    rw [k.get hl] at h1; cases h1
    cases ho with
    | lst vs => exact ⟨vs, SqL.of h2, h3⟩
    | _ => exact h3.elim
  refine ⟨fun i m S env σ H M k g hi => ?_, fun i m S env σ H M k g hi => ?_⟩
  · obtain ⟨vs, hs, rl⟩ := get m S env σ H M k g
    obtain ⟨v, h1, h2⟩ := rl.get (List.getElem?_eq_getElem hi)
    refine ⟨⟨vs, v, hs, h1⟩, fun v' H' y => ?_⟩
    obtain ⟨e, y⟩ := y
    subst e
    have h3 := y vs hs
    rw [h1] at h3; cases h3
    exact ⟨M, Kp.refl _ _, _, List.getElem?_eq_getElem hi, h2⟩
  · obtain ⟨vs, hs, rl⟩ := get m S env σ H M k g
    exact ⟨vs, hs, by rw [rl.length]; exact hi⟩
theorem ok_str {m1 : Ms} {H1 : Hp} {x : Str} : ItOk X.K X.w J.xp m1 H1 (Its x) (x.cps.toList.map fun c => D.str ⟨#[c]⟩) (fun _ => True) := by
  refine ⟨fun i m S env σ H M k _ hi => ?_, fun i m S env σ H M k _ hi => ?_⟩
  · rw [List.length_map, Array.length_toList] at hi
    refine ⟨hi, fun v' H' y => ?_⟩
    obtain ⟨e, c, hc, y⟩ := y
    subst e
    subst y
    refine ⟨M, Kp.refl _ _, .str ⟨#[c]⟩, ?_, rfl⟩
    rw [List.getElem?_map, Array.getElem?_toList, hc]
    rfl
  · rw [List.length_map, Array.length_toList] at hi
    exact hi
theorem ok_rng {m1 : Ms} {H1 : Hp} {lo : Int} {k : Nat} : ItOk X.K X.w J.xp m1 H1 (Itr lo k) ((List.range k).map fun i => D.int (lo + (i : Nat))) (fun _ => True) := by
  refine ⟨fun i m S env σ H M _ _ hi => ?_, fun i m S env σ H M _ _ hi => ?_⟩
  · rw [List.length_map, List.length_range] at hi
    refine ⟨hi, fun v' H' y => ?_⟩
    obtain ⟨e, y⟩ := y
    subst e
    subst y
    refine ⟨M, Kp.refl _ _, .int (lo + (i : Nat)), ?_, rfl⟩
    rw [List.getElem?_map, List.getElem?_range hi]
    rfl
  · rw [List.length_map, List.length_range] at hi
    exact hi
/-- a list, a tuple, a text by its value -/
theorem qi_seq (hl : QE X J it ie) : QI X J tg it ie 0 := by
  refine ⟨fun pins s σ H R I h => ?_⟩
  obtain ⟨m, S, env, Qi, Wa, M, hw, hq, hx⟩ := h
  refine thn (hl.run pins s σ H (fun x H1 => (∃ a, x = .ref a ∧ (∃ xs, SqL X.K H1 a xs) ∧ R (Itl X.K a) H1) ∨ (∃ a, x = .ref a ∧ (∃ xs, SqT X.K H1 a xs) ∧ R (Itt X.K a) H1) ∨ ∃ z, x = .str z ∧ R (Its z) H1) I
    ⟨m, S, env, _, Wa, M, hw, fun v H1 m1 S1 d M1 k1 r1 q1 => ?_, hx⟩) fun v s1 ⟨x, H1, I1, r1, q1⟩ => ?_
  · have q1 : (match Y.walkOf 0 d S1 with | some (xs, Gd) => Qi xs Gd S1 | none => False) := q1
    cases d with
    | lst xs =>
      obtain ⟨_, a, vs, e, h1, h2⟩ := r1
      exact .inl ⟨a, e, ⟨vs, h1.sq⟩, hq _ H1 m1 S1 xs _ M1 k1 (ok_lst h1 h2) q1⟩
    | tup xs =>
      obtain ⟨a, vs, e, h1, h2⟩ := r1
      exact .inr (.inl ⟨a, e, ⟨vs, h1⟩, hq _ H1 m1 S1 xs _ M1 k1 (ok_tup h1 h2) q1⟩)
    | str x =>
      have q1 : (match (if x.length ≤ Y.line then some (x.cps.toList.map fun c => D.str ⟨#[c]⟩, fun _ => True) else none : Option (List D × (Store → Prop))) with | some (xs, Gd) => Qi xs Gd S1 | none => False) := q1
      by_cases hz : x.length ≤ Y.line
      · rw [if_pos hz] at q1
        exact .inr (.inr ⟨x, r1, hq _ H1 m1 S1 _ _ M1 k1 ok_str q1⟩)
      · rw [if_neg hz] at q1
        exact q1.elim
    | loc l =>
      have q1 : (match (match S1[l]? with | some (.lst xs) => some (xs, fun S' => S'[l]? = some (.lst xs)) | _ => none : Option (List D × (Store → Prop))) with | some (xs, Gd) => Qi xs Gd S1 | none => False) := q1
      obtain ⟨a, e, h1⟩ := r1
      cases hS : S1[l]? with
      | none => rw [hS] at q1; exact q1.elim
      | some ob =>
        cases ob with
        | lst xs =>
          rw [hS] at q1
          obtain ⟨a', ho, h2, h3, h4⟩ := M1.obj l _ hS
          rw [h1] at h2; cases h2
          cases ho with
          | lst vs => exact .inl ⟨a, e, ⟨vs, SqL.of h3⟩, hq _ H1 m1 S1 xs _ M1 k1 (ok_loc h1) q1⟩
          | _ => exact h4.elim
        | _ => rw [hS] at q1; exact q1.elim
    | _ => exact q1.elim
  · rcases q1 with ⟨a, e, ⟨xs, hq⟩, q⟩ | ⟨a, e, ⟨xs, hq⟩, q⟩ | ⟨z, e, q⟩
    · subst e
      cases r1
      obtain ⟨its, rv, p, hz⟩ := I1.list hq
      refine wpAny_pyIter_list p.isList ?_
      refine ⟨s1.heap.objs.size, [s1.heap.objs.size], _, _, H1, rfl, I1.kept (t' := s1.toks) fun b o e => Heap.get?_push_of_some _ e, turn_list a _, ⟨_, Heap.get?_push_size _ rfl, rfl, rfl⟩, fun b hb => ?_, q⟩
      have e : b = s1.heap.objs.size := by simpa using hb
      subst e
      exact I1.fpOk (Nat.le_refl _) (I1.hok.fresh (Nat.le_refl _))
    · subst e
      cases r1
      obtain ⟨its, rv, p, hz⟩ := I1.tuple hq
      refine wpAny_pyIter_tuple (show s1.heap.IsTuple a its.toArray from p) ?_
      refine ⟨s1.heap.objs.size, [s1.heap.objs.size], _, _, H1, rfl, I1.kept (t' := s1.toks) fun b o e => Heap.get?_push_of_some _ e, turn_tuple a _, ⟨_, Heap.get?_push_size _ rfl, rfl, rfl⟩, fun b hb => ?_, q⟩
      have e : b = s1.heap.objs.size := by simpa using hb
      subst e
      exact I1.fpOk (Nat.le_refl _) (I1.hok.fresh (Nat.le_refl _))
    · subst e
      obtain ⟨t, rfl⟩ := r1
      cases ha : z.cps.all (· < 128)
      · exact wpAny_pyIter_wide ha (pi_one (tk := s1.toks) I1 _ (turn_str _ z t "str_iterator" (.inr rfl)) ⟨_, Heap.get?_push_size _ rfl, rfl, rfl⟩ q)
      · exact wpAny_pyIter_ascii ha (pi_one (tk := s1.toks) I1 _ (turn_str _ z t "str_ascii_iterator" (.inl rfl)) ⟨_, Heap.get?_push_size _ rfl, rfl, rfl⟩ q)
theorem big_eq : Y.big = 2 ^ 62 := by decide
theorem walk2 {Qi : List D → (Store → Prop) → Store → Prop} {ds : List D} {S1 : Store} (h : walkK 2 Qi (.tup ds) S1) : ∃ k : Int, ds = [.int k] ∧ (-(2 ^ 62) ≤ k ∧ k < 2 ^ 62) ∧ Qi ((List.range k.toNat).map fun i => D.int (i : Nat)) (fun _ => True) S1 := by
  rcases ds with _ | ⟨d, _ | ⟨d2, r⟩⟩
  · exact h.elim
  · cases d with
    | int k =>
      have h : (match (if -Y.big ≤ k ∧ k < Y.big then some ((List.range k.toNat).map fun i => D.int (i : Nat), fun _ => True) else none : Option (List D × (Store → Prop))) with | some (xs, Gd) => Qi xs Gd S1 | none => False) := h
      by_cases hz : -Y.big ≤ k ∧ k < Y.big
      · rw [if_pos hz] at h
        rw [big_eq] at hz
        exact ⟨k, rfl, hz, h⟩
      · rw [if_neg hz] at h
        exact h.elim
    | _ => exact h.elim
  · cases d <;> exact h.elim
theorem qi_rng1 {a : Expr} {ia : Y.E} {p : Pos} (hg : Gl X "range") (hm : X.mg "range" = none) (ha : QA X J [a] [ia]) (hs : starEach [a] X.env = [(false, eval a X.env)] := by rfl) : QI X J tg (.Call (.Name "range" p) [a] [] pos) (.tup [ia]) 2 := by
  refine ⟨fun pins s σ H R I h => (pi_range1 hg hm ha hs).run pins s σ H R I ?_⟩
  obtain ⟨m, S, env, Qi, Wa, M, hw, hq, hx⟩ := h
  refine ⟨m, S, env, _, Wa, M, hw, fun vs H1 m1 S1 ds M1 k1 r1 q1 => ?_, hx⟩
  obtain ⟨k, e0, hz, q9⟩ := walk2 q1.2
  clear q1
  subst e0
  obtain ⟨v, r, e, r1, e2⟩ := r1
  have r1 : v = .int k := r1
  refine ⟨k, by rw [e, r1, show r = [] from e2], hz.1, hz.2, hq _ H1 m1 S1 _ _ M1 k1 (ok_rng (lo := 0) (k := k.toNat)) ?_⟩
  have e3 : ((List.range k.toNat).map fun i => D.int ((0 : Int) + (i : Nat))) = ((List.range k.toNat).map fun i => D.int (i : Nat)) := by
    congr 1
    funext i
    rw [Int.zero_add]
  rw [e3]
  exact q9
theorem walk3 {Qi : List D → (Store → Prop) → Store → Prop} {ds : List D} {S1 : Store} (h : walkK 3 Qi (.tup ds) S1) : ∃ k l : Int, ds = [.int k, .int l] ∧ (-(2 ^ 62) ≤ k ∧ k < 2 ^ 62 ∧ -(2 ^ 62) ≤ l ∧ l < 2 ^ 62) ∧ Qi ((List.range (l - k).toNat).map fun i => D.int (k + (i : Nat))) (fun _ => True) S1 := by
  rcases ds with _ | ⟨d, _ | ⟨d2, _ | ⟨d3, r⟩⟩⟩
  · exact h.elim
  · cases d <;> exact h.elim
  · cases d with
    | int k =>
      cases d2 with
      | int l =>
        have h : (match (if -Y.big ≤ k ∧ k < Y.big ∧ -Y.big ≤ l ∧ l < Y.big then some ((List.range (l - k).toNat).map fun i => D.int (k + (i : Nat)), fun _ => True) else none : Option (List D × (Store → Prop))) with | some (xs, Gd) => Qi xs Gd S1 | none => False) := h
        by_cases hz : -Y.big ≤ k ∧ k < Y.big ∧ -Y.big ≤ l ∧ l < Y.big
        · rw [if_pos hz] at h
          rw [big_eq] at hz
          exact ⟨k, l, rfl, hz, h⟩
        · rw [if_neg hz] at h
          exact h.elim
      | _ => exact h.elim
    | _ => cases d2 <;> exact h.elim
  · cases d <;> cases d2 <;> exact h.elim
theorem qi_rng2 {a b : Expr} {ia ib : Y.E} {p : Pos} (hg : Gl X "range") (hm : X.mg "range" = none) (ha : QA X J [a, b] [ia, ib]) (hs : starEach [a, b] X.env = [(false, eval a X.env), (false, eval b X.env)] := by rfl) (hs2 : starEach [b] X.env = [(false, eval b X.env)] := by rfl) : QI X J tg (.Call (.Name "range" p) [a, b] [] pos) (.tup [ia, ib]) 3 := by
  refine ⟨fun pins s σ H R I h => (pi_range2 hg hm ha hs hs2).run pins s σ H R I ?_⟩
  obtain ⟨m, S, env, Qi, Wa, M, hw, hq, hx⟩ := h
  refine ⟨m, S, env, _, Wa, M, hw, fun vs H1 m1 S1 ds M1 k1 r1 q1 => ?_, hx⟩
  obtain ⟨k, l, e0, hz, q9⟩ := walk3 q1.2
  clear q1
  subst e0
  obtain ⟨v, r, e, r1, u, r', e2, r2, e3⟩ := r1
  have r1 : v = .int k := r1
  have r2 : u = .int l := r2
  exact ⟨k, l, by rw [e, r1, e2, r2, show r' = [] from e3], hz, hq _ H1 m1 S1 _ _ M1 k1 ok_rng q9⟩
end
end YL
/-! YDef: comprehensions; a def by its body. -/
namespace YL
open PySem L2
open Y (D O Store En Ky)
/-- in a block no exception leaves -/
abbrev Jb.blk (J : Jb) : Jb := { J with W := fun _ _ _ _ => False }
section
variable {X : Cx} {J : Jb} {T : Y.Text} {n : Nat} {tab : Str → At} {e c it tg elt : Expr} {es ifs : List Expr} {b : List Stmt} {pos : Pos} {ic ie iit : Y.E} {ib : List Y.St}
theorem Ctx.blk (G : Ctx X J T n tab) (s : Shared) (H : Hp) (scope : Scope) (cenv : Env) (fp : List Addr) : Ctx (X.blk s H scope cenv fp) J.blk T n tab :=
  ⟨G.hC, G.hP, G.hG, PassesOwn.never, G.np, G.room, G.grd, G.calm, G.nd, takes0, G.xp, G.funs⟩
/-- a clause's tests -/
def tqC (X : Cx) (J : Jb) (o : Option Y.E) : TT := fun σ H Q => ∃ (m : Ms) (S : Store) (env : En) (Qa : Bool → Store → Prop), Mt X.K X.w J.xp m S env σ H ∧ Y.wC J.P J.C o env S Qa ∧
  (∀ (b : Bool) (H' : Hp) (m' : Ms) (S' : Store), Mt X.K X.w J.xp m' S' env σ H' → Kp m H m' H' → Qa b S' → Q b H')
abbrev QC (X : Cx) (J : Jb) (ifs : List Expr) (o : Option Y.E) : Prop := PTs X ifs (tqC X J o)
theorem qc_nil : QC X J [] none := ⟨fun pins s σ H Q I ⟨m, S, env, Qa, M, hw, hq⟩ => pts_nil.run pins s σ H Q I (hq true H m S M (Kp.refl m H) hw)⟩
theorem qc_one (h : QT X J c ic) : QC X J [c] (some ic) := ⟨fun pins s σ H Q I ⟨m, S, env, Qa, M, hw, hq⟩ => (pts_one h).run pins s σ H Q I ⟨m, S, env, Qa, _, M, hw, hq, XW.none⟩⟩
theorem Kp.unres {m m' : Ms} {H H' : Hp} {p : Addr} (k : Kp (m.res p) H m' H') : ∃ l, m' = Ms.res ⟨l, m.r⟩ p ∧ Kp m H ⟨l, m.r⟩ H' := by
  obtain ⟨l, r⟩ := m'
  have e : r = p :: m.r := k.res
  subst e
  exact ⟨l, rfl, k.pre, rfl, k.keep, k.new⟩
/-- the list is made: an object of the store -/
theorem Mt.adopt {K : PySem.W.Frag} {w : World} {xp : Nat → Option (Option V) → Prop} {m : Ms} {S : Store} {env : En} {σ : L2.St} {H : Hp} {p : Addr} {ys : List D} {vs : List V} (M : Mt K w xp (m.res p) S env σ H) (hp : H p = some (.lst vs)) (hr : p ∉ m.r) (r : RepL K w (m.res p) H ys vs) (hf : Y.frees ys = true) :
    Mt K w xp (m.add p) (S ++ [O.lst ys]) env σ H := by
  have np : p ∉ m.l := (M.rs p List.mem_cons_self).1
  have k : Kq (m.res p) H (m.add p) H := ⟨⟨[p], rfl⟩, fun a u h e => ⟨e, by
    obtain ⟨h1, h2⟩ := not_all.mp h
    refine not_all.mpr ⟨fun z => ?_, fun z => h2 (List.mem_cons_of_mem _ z)⟩
    rcases List.mem_append.mp z with z | z
    · exact h1 z
    · exact h2 (by rw [List.mem_singleton.mp z]; exact List.mem_cons_self)⟩, fun _ _ h => h⟩
  refine ⟨by show (m.l ++ [p]).length = _; rw [List.length_append, List.length_append, show m.l.length = S.length from M.len]; rfl, ?_, fun a ha => ?_, fun i u e => ?_, fun u hu => ?_, fun i d e => ?_, M.slen, M.xs⟩
  · refine List.nodup_append.mpr ⟨M.nd, by simp, fun a ha b hb => ?_⟩
    rw [List.mem_singleton.mp hb]
    exact fun z => np (z ▸ ha)
  · obtain ⟨h1, xs, h2⟩ := M.rs a (List.mem_cons_of_mem _ ha)
    refine ⟨fun z => ?_, xs, h2⟩
    rcases List.mem_append.mp z with z | z
    · exact h1 z
    · rw [List.mem_singleton.mp z] at ha
      exact hr ha
  · by_cases hi : i < S.length
    · rw [List.getElem?_append_left hi] at e
      obtain ⟨a, ho, h1, h2, h3⟩ := M.obj i u e
      exact ⟨a, ho, k.get h1, h2, h3.mono k⟩
    · have hi' : i = S.length := by
        have h := (List.getElem?_eq_some_iff.mp e).1
        rw [List.length_append, List.length_singleton] at h
        omega
      subst hi'
      rw [List.getElem?_concat_length] at e
      cases e
      refine ⟨p, .lst vs, ?_, hp, k.repL r⟩
      show (m.l ++ [p])[S.length]? = _
      rw [← show m.l.length = S.length from M.len, List.getElem?_concat_length]
  · rcases List.mem_append.mp hu with z | z
    · exact M.free u z
    · rw [List.mem_singleton.mp z]; exact hf
  · obtain ⟨v, h1, h2⟩ := M.nam i d e
    exact ⟨v, h1, k.rep h2⟩
theorem lc_read {fz : Bool} {ws vs : List Nat} {t : Y.Tg} {kd : Nat} {co : Option Y.E} (xpT : ∀ i o, J.xp i o) (hws : ∀ i ∈ ws, i ∈ vs) (σ : L2.St) (H : Hp) (Q : VK) (h : tq X J (.comp fz vs t iit kd co ie) σ H Q) :
    tLc (tqI X J iit kd) (tqG X J.blk t ws) (tqC X J.blk co) (tq X J.blk ie) vs σ H Q := by
  obtain ⟨m, S, env, Qa, Wa, M, hw, hq, hx⟩ := h
  refine ⟨m, S, env, fun xs Gd S1 => Y.compW Gd (fun x S2 R => match Y.putT t x (Y.wipe env vs) with
        | some σ' => Y.wC J.P J.C co σ' S2 (fun b S3 => if b then Y.wE J.P J.C ie σ' S3 (fun y S4 => R (some y) S4) (fun _ _ => False) else R none S3)
        | none => False) xs [] S1 (fun ys S5 => Y.newL fz ys S5 Qa), Wa, M, hw, fun Jt H1 m1 S1 xs Gd M1 k1 ok q1 => ?_, hx⟩
  intro p hp
  have hpm := not_all.mp (M1.notMem hp)
  refine ⟨fun i k H' => k = xs.length - i ∧ i ≤ xs.length ∧ ∃ (m' : Ms) (S' : Store) (ys : List D) (us : List V), Mt X.K X.w J.xp (m'.res p) S' env σ H' ∧ H' p = some (.lst us) ∧ RepL X.K X.w (m'.res p) H' ys us ∧ Kp m1 H1 m' H' ∧ Kq m1 H1 (m'.res p) H' ∧
    Y.compW Gd (fun x S2 R => match Y.putT t x (Y.wipe env vs) with
        | some σ' => Y.wC J.P J.C co σ' S2 (fun b S3 => if b then Y.wE J.P J.C ie σ' S3 (fun y S4 => R (some y) S4) (fun _ _ => False) else R none S3)
        | none => False) (xs.drop i) ys S' (fun ys S5 => Y.newL fz ys S5 Qa),
    ⟨xs.length, rfl, Nat.zero_le _, m1, S1, [], [], M1.open hp, upd_same, rfl, Kp.laid M1 hp, Kq.open M1 hp, q1⟩, ?_⟩
  rintro i k H' ⟨rfl, hi, m', S', ys, us, M', hu, ru, kp', kq', w'⟩
  have rr : m'.r = m1.r := kp'.res
  have npr : p ∉ m'.r := by rw [rr]; exact hpm.2
  have npl : p ∉ m'.l := (M'.rs p List.mem_cons_self).1
  by_cases hlt : i < xs.length
  · rw [List.drop_eq_getElem_cons hlt] at w'
    obtain ⟨g', w'⟩ := w'
    obtain ⟨go, y⟩ := ok.go i (m'.res p) S' env σ H' M' kq' g' hlt
    refine .inr ⟨go, fun H2 => (fun i k H' => k = xs.length - i ∧ i ≤ xs.length ∧ ∃ (m' : Ms) (S' : Store) (ys : List D) (us : List V), Mt X.K X.w J.xp (m'.res p) S' env σ H' ∧ H' p = some (.lst us) ∧ RepL X.K X.w (m'.res p) H' ys us ∧ Kp m1 H1 m' H' ∧ Kq m1 H1 (m'.res p) H' ∧
      Y.compW Gd (fun x S2 R => match Y.putT t x (Y.wipe env vs) with
        | some σ' => Y.wC J.P J.C co σ' S2 (fun b S3 => if b then Y.wE J.P J.C ie σ' S3 (fun y S4 => R (some y) S4) (fun _ _ => False) else R none S3)
        | none => False) (xs.drop i) ys S' (fun ys S5 => Y.newL fz ys S5 Qa)) (i + 1) (xs.length - (i + 1)) H2, fun H2 h => ⟨xs.length - (i + 1), by omega, h⟩, fun v H2 hy => ?_⟩
    obtain ⟨M2, k2, d, hd, r2⟩ := y v H2 hy
    rw [List.getElem?_eq_getElem hlt] at hd
    cases hd
    obtain ⟨l2, e2, kp2⟩ := k2.unres
    have kq2 := kq'.trans (k2.q M'.noTup)
    have hu2 : H2 p = some (.lst us) := k2.keep p _ npl hu
    have ru2 := (k2.q M'.noTup).repL ru
    cases q : Y.putT t xs[i] (Y.wipe env vs) with
    | none => rw [q] at w'; exact w'.elim
    | some env2 =>
      rw [q] at w'
      refine ⟨m'.res p, S', Y.wipe env vs, xs[i], env2, Mt.wipe (X := X) (J := J) M2 xpT vs, r2, q, fun σ2 M3 f3 => ⟨?_, m'.res p, S', env2, _, M3, w', fun t H3 m3 S3 M4 k3 q3 => ?_⟩⟩
      · rw [f3 vs hws, wipe_wipe σ vs vs fun _ h => h]
      · obtain ⟨l3, e3, kp3⟩ := k3.unres
        subst e3
        have M3' : Mt X.K X.w J.xp (Ms.res ⟨l3, m'.r⟩ p) S3 env σ H3 := Mt.after (X := X) M2 k3 M4.so
        have hu3 : H3 p = some (.lst us) := k3.keep p _ npl hu2
        have kq3 := kq2.trans (k3.q M2.noTup)
        have ru3 := (k3.q M2.noTup).repL ru2
        have kp13 : Kp m1 H1 ⟨l3, m'.r⟩ H3 := (kp'.trans (show Kp m' H' m' H2 from ⟨⟨[], by simp⟩, rfl, k2.keep, fun a h => .inl h⟩)).trans kp3
        cases t with
        | true =>
          refine ⟨Ms.res ⟨l3, m'.r⟩ p, S3, env2, _, _, M4, q3, fun y H4 m4 S4 dy M5 k4 r4 q4 => ?_, XW.none⟩
          obtain ⟨l4, e4, kp4⟩ := k4.unres
          subst e4
          obtain ⟨hf, hz, q4⟩ := q4
          have npl3 : p ∉ l3 := (M3'.rs p List.mem_cons_self).1
          have hu4 : H4 p = some (.lst us) := k4.keep p _ npl3 hu3
          have M5' : Mt X.K X.w J.xp (Ms.res ⟨l4, m'.r⟩ p) S4 env σ H4 := Mt.after (X := X) M3' k4 M5.so
          have ru4 := (k4.q M3'.noTup).repL ru3
          have kq4 := kq3.trans (k4.q M3'.noTup)
          have pin : p ∈ (Ms.res ⟨l4, m'.r⟩ p).r := List.mem_cons_self
          have gq := Kq.grow (ys := us ++ [y]) M5' pin hu4
          refine ⟨us, hu4, by rw [ru.length, ← line_eq]; exact hz, rfl, hlt, ⟨l4, m'.r⟩, S4, ys ++ [dy], us ++ [y], M5'.grow pin hu4, upd_same, RepL.append (gq.repL ru4) ⟨y, [], rfl, gq.rep r4, rfl⟩, (kp13.trans kp4).late hp, kq4.trans gq, q4⟩
        | false => exact ⟨rfl, hlt, ⟨l3, m'.r⟩, S3, ys, us, M3', hu3, ru3, kp13, kq3, q3⟩
  · have e : i = xs.length := by omega
    subst e
    rw [List.drop_eq_nil_of_le (Nat.le_refl _)] at w'
    obtain ⟨g', hz, hf, w'⟩ := w'
    refine .inl ⟨ok.stop _ (m'.res p) S' env σ H' M' kq' g' (Nat.le_refl _), ?_⟩
    have kk := k1.trans kp'
    cases fz with
    | true => exact hq _ H' m' S' (.lst ys) M'.shut kk ⟨hf, p, us, rfl, .inl ⟨not_all.mpr ⟨npl, npr⟩, .inl hu⟩, Kq.shut.repL ru⟩ w'
    | false =>
      refine hq _ H' (m'.add p) (S' ++ [O.lst ys]) (.loc S'.length) (Mt.adopt M' hu npr ru hf) ⟨?_, kk.res, kk.keep, fun a h => ?_⟩ ⟨p, rfl, ?_⟩ w'
      · obtain ⟨t, e⟩ := kk.pre
        exact ⟨t ++ [p], by show m'.l ++ [p] = _; rw [e, List.append_assoc]⟩
      · rcases List.mem_append.mp h with z | z
        · exact kk.new a z
        · rw [List.mem_singleton.mp z]
          by_cases q : p ∈ m.l
          · exact .inl q
          · refine .inr ?_
            cases e : H p with
            | none => rfl
            | some o => have := k1.keep p o q e; rw [hp] at this; cases this
      · show (m'.l ++ [p])[S'.length]? = _
        rw [← show m'.l.length = S'.length from M'.len, List.getElem?_concat_length]
theorem qe_comp {fz : Bool} {scope : Scope} {own : List (Str × Nat)} {ws : List Nat} {t : Y.Tg} {kd : Nat} {co : Option Y.E} (G : Ctx X J T n tab) (hi : QI X J tg it iit kd) (ok : BlkOk X.N X.env.scope scope own)
    (hg : ∀ (s : Shared) (H : Hp) (C : Addr) (cl : List (Str × Addr)) (fp : List Addr), QG (X.blk s H scope (compEnvC scope cl C X.env) fp) J.blk tg t ws) (ht : ∀ (s : Shared) (H : Hp) (C : Addr) (cl : List (Str × Addr)) (fp : List Addr), QC (X.blk s H scope (compEnvC scope cl C X.env) fp) J.blk ifs co)
    (he : ∀ (s : Shared) (H : Hp) (C : Addr) (cl : List (Str × Addr)) (fp : List Addr), QE (X.blk s H scope (compEnvC scope cl C X.env) fp) J.blk elt ie) (hws : ∀ i ∈ ws, i ∈ own.map (·.2)) (hs : ∀ x, foldedSetIterable it X.env x = pure x := by intro _; rfl) :
    QE X J (.ListComp elt [⟨tg, it, ifs, 0⟩] scope pos) (.comp fz (own.map (·.2)) t iit kd co ie) :=
  peImp (pe_lc G.calm G.nd hi ok hg ht he hs) (lc_read G.xp hws)
/-- name = [..] on one line, the name a local -/
theorem qs_setLc {fz : Bool} {scope : Scope} {own : List (Str × Nat)} {ws : List Nat} {t : Y.Tg} {kd : Nat} {co : Option Y.E} {i : Nat} {y : Str} {py spos : Pos} (G : Ctx X J T n tab) (hy : X.N[i]? = some y) (hyl : X.env.scope.names.lookup y = some .local)
    (hsw : swapsWith (.ListComp elt [⟨tg, it, ifs, 0⟩] scope pos) (some (.Name y py)) spos.line X.env = pure true) (hi : QI X J tg it iit kd) (ok : BlkOk X.N X.env.scope scope own)
    (hg : ∀ (s : Shared) (H : Hp) (C : Addr) (cl : List (Str × Addr)) (fp : List Addr), QG (X.blk s H scope (compEnvC scope cl C X.env) fp) J.blk tg t ws) (ht : ∀ (s : Shared) (H : Hp) (C : Addr) (cl : List (Str × Addr)) (fp : List Addr), QC (X.blk s H scope (compEnvC scope cl C X.env) fp) J.blk ifs co)
    (he : ∀ (s : Shared) (H : Hp) (C : Addr) (cl : List (Str × Addr)) (fp : List Addr), QE (X.blk s H scope (compEnvC scope cl C X.env) fp) J.blk elt ie) (hws : ∀ i ∈ ws, i ∈ own.map (·.2)) (hs : ∀ x, foldedSetIterable it X.env x = pure x := by intro _; rfl) :
    QS X J (.Assign [.Name y py] (.ListComp elt [⟨tg, it, ifs, 0⟩] scope pos) spos) (.asg (.n i) (.comp fz (own.map (·.2)) t iit kd co ie)) := by
  refine psImp (ps_setLc (wi := tqI X J iit kd) (g := tqG X J.blk t ws) (tt := tqC X J.blk co) (te := tq X J.blk ie) G.calm G.nd hy hyl hsw hi ok hg ht he hs) ?_
  rintro Dx σ H ⟨m, S, env, Da, M, hw, L⟩
  refine lc_read G.xp hws σ H _ ⟨m, S, env, _, _, M, hw, fun v H1 m1 S1 d M1 k1 r1 q1 => ?_, L.ew⟩
  have q1 : (match (if i < env.length then some (env.set i (some d)) else none) with | some σ' => Da.nx σ' S1 | none => False) := q1
  by_cases hl : i < env.length
  · rw [if_pos hl] at q1
    exact L.nx _ H1 m1 S1 _ (M1.put r1 hl) k1 q1
  · rw [if_neg hl] at q1
    exact q1.elim
end
/-! ### what comes back of a def -/
section
variable {K : PySem.W.Frag} {w : World} {m m' : Ms} {H H' : Hp} {S S' : Store}
theorem Kp.sub (k : Kp m H m' H') : ∀ b, b ∈ m.l → b ∈ m'.l := fun b h => by
  obtain ⟨t, e⟩ := k.pre
  rw [e]
  exact List.mem_append_left _ h
mutual
theorem rep_down (hl : ∀ b, b ∈ m.l → b ∈ m'.l) (hr : m'.r = m.r) : ∀ {d : D} {v : V}, d.free = true → Rep K w m' H d v → Rep K w m H d v
  | .non, _, _, h => h
  | .bl _, _, _, h => h
  | .int _, _, _, h => h
  | .str _, _, _, h => h
  | .tup _, _, f, ⟨a, vs, e, h, r⟩ => ⟨a, vs, e, h, repL_down hl hr f r⟩
  | .lst _, _, f, ⟨f', a, vs, e, h, r⟩ => ⟨f', a, vs, e, h.elim (fun ⟨h1, h2⟩ => .inl ⟨by
      obtain ⟨z1, z2⟩ := not_all.mp h1
      exact not_all.mpr ⟨fun q => z1 (hl _ q), by rw [← hr]; exact z2⟩, h2⟩) .inr, repL_down hl hr f r⟩
  | .dK _ _, _, f, ⟨f', a, e, h⟩ => ⟨f', a, e, h.elim (fun ⟨h1, kvs, h2, h3, h4⟩ => .inl ⟨by
      obtain ⟨z1, z2⟩ := not_all.mp h1
      exact not_all.mpr ⟨fun q => z1 (hl _ q), by rw [← hr]; exact z2⟩, kvs, h2, h3, repL_down hl hr f h4⟩) .inr⟩
  | .dT _ _, _, f, ⟨f', a, e, h1, kvs, h2, h3, h4⟩ => ⟨f', a, e, by
      obtain ⟨z1, z2⟩ := not_all.mp h1
      exact not_all.mpr ⟨fun q => z1 (hl _ q), by rw [← hr]; exact z2⟩, kvs, h2, h3, repL_down hl hr f h4⟩
  | .loc _, _, f, _ => nomatch f
theorem repL_down (hl : ∀ b, b ∈ m.l → b ∈ m'.l) (hr : m'.r = m.r) : ∀ {ds : List D} {vs : List V}, Y.frees ds = true → RepL K w m' H ds vs → RepL K w m H ds vs
  | [], _, _, h => h
  | d :: ds, _, f, ⟨v, r, e, h, t⟩ => by
    have f : (d.free && Y.frees ds) = true := f
    rw [Bool.and_eq_true] at f
    exact ⟨v, r, e, rep_down hl hr f.1 h, repL_down hl hr f.2 t⟩
end
theorem repO_down (hl : ∀ b, b ∈ m.l → b ∈ m'.l) (hr : m'.r = m.r) {o : O} {ho : HO} (f : Y.frees (O.its o) = true) (h : RepO K w m' H o ho) : RepO K w m H o ho := by
  cases o <;> cases ho <;> first
    | exact repL_down hl hr f h
    | exact ⟨h.1, repL_down hl hr f h.2⟩
    | exact h.elim
theorem So.back (M : So K w m' S' H') (k : Kp m H m' H') (M0 : So K w m S H) : So K w m (S'.take S.length) H' := by
  obtain ⟨t, e⟩ := k.pre
  have ln := M.len
  rw [e, List.length_append, M0.len] at ln
  refine ⟨by rw [List.length_take, M0.len]; omega, M0.nd, fun a ha => ?_, fun i o q => ?_, fun o ho => M.free o (List.mem_of_mem_take ho)⟩
  · obtain ⟨h1, xs, h2⟩ := M0.rs a ha
    exact ⟨h1, xs, k.keep a _ h1 h2⟩
  · have hi : i < S.length := by
      have := (List.getElem?_eq_some_iff.mp q).1
      rw [List.length_take] at this
      omega
    rw [List.getElem?_take_of_lt hi] at q
    obtain ⟨a, ho, h1, h2, h3⟩ := M.obj i o q
    refine ⟨a, ho, ?_, h2, repO_down k.sub k.res (M.free o (List.mem_of_getElem? q)) h3⟩
    rw [e, List.getElem?_append_left (by rw [M0.len]; exact hi)] at h1
    exact h1
theorem Kp.back (k : Kp m H m' H') : Kp m H m H' := ⟨⟨[], by simp⟩, rfl, k.keep, fun a h => .inl h⟩
/-- what stands at a place of the callee's own store -/
theorem off_of (M : So K w m' S' H') (k : Kp m H m' H') (M0 : So K w m S H) {i : Nat} {a : Addr} (hi : ¬ i < S.length) (ha : m'.l[i]? = some a) : a ∉ m.l ∧ a ∉ m.r := by
  obtain ⟨t, e⟩ := k.pre
  have nd := M.nd
  rw [e] at nd ha
  rw [List.getElem?_append_right (by rw [M0.len]; omega)] at ha
  have ht : a ∈ t := List.mem_of_getElem? ha
  refine ⟨fun z => (List.nodup_append.mp nd).2.2 a z a ht rfl, fun z => (M.rs a (by rw [k.res]; exact z)).1 (by rw [e]; exact List.mem_append_right _ ht)⟩
mutual
theorem rep_inl (M : So K w m' S' H') (k : Kp m H m' H') (M0 : So K w m S H) : ∀ {d : D} {v : V}, Rep K w m' H' d v → Rep K w m H' (Y.inl S' S.length d) v
  | .non, _, h => h
  | .bl _, _, h => h
  | .int _, _, h => h
  | .str _, _, h => h
  | .tup _, _, ⟨a, vs, e, h, r⟩ => ⟨a, vs, e, h, repL_inl M k M0 r⟩
  | .lst _, _, h => rep_down (d := .lst _) k.sub k.res h.1 h
  | .dK _ _, _, h => rep_down (d := .dK _ _) k.sub k.res h.1 h
  | .dT _ _, _, h => rep_down (d := .dT _ _) k.sub k.res h.1 h
  | .loc i, v, ⟨a, e, h⟩ => by
    show Rep K w m H' (if i < S.length then .loc i else match S'[i]? with | some o => Y.frz o | none => .loc i) v
    by_cases hi : i < S.length
    · rw [if_pos hi]
      obtain ⟨t, e2⟩ := k.pre
      rw [e2, List.getElem?_append_left (by rw [M0.len]; exact hi)] at h
      exact ⟨a, e, h⟩
    · rw [if_neg hi]
      have hl : i < S'.length := by
        have := (List.getElem?_eq_some_iff.mp h).1
        rw [M.len] at this
        exact this
      have q := List.getElem?_eq_getElem hl
      rw [q]
      obtain ⟨a', ho, h1, h2, h3⟩ := M.obj i _ q
      rw [h] at h1; cases h1
      have hf := M.free _ (List.mem_of_getElem? q)
      have h3 := repO_down k.sub k.res hf h3
      obtain ⟨o1, o2⟩ := off_of M k M0 hi h
      show Rep K w m H' (Y.frz S'[i]) v
      cases hS : S'[i] with
      | lst xs =>
        rw [hS] at h3 hf
        cases ho with
        | lst vs => exact ⟨hf, a, vs, e, .inl ⟨not_all.mpr ⟨o1, o2⟩, .inl h2⟩, h3⟩
        | _ => exact h3.elim
      | dK ks xs =>
        rw [hS] at h3 hf
        cases ho with
        | dK kvs => exact ⟨hf, a, e, .inl ⟨not_all.mpr ⟨o1, o2⟩, kvs, h2, h3.1, h3.2⟩⟩
        | _ => exact h3.elim
      | dT ks xs =>
        rw [hS] at h3 hf
        cases ho with
        | dT kvs => exact ⟨hf, a, e, not_all.mpr ⟨o1, o2⟩, kvs, h2, h3.1, h3.2⟩
        | _ => exact h3.elim
theorem repL_inl (M : So K w m' S' H') (k : Kp m H m' H') (M0 : So K w m S H) : ∀ {ds : List D} {vs : List V}, RepL K w m' H' ds vs → RepL K w m H' (Y.inls S' S.length ds) vs
  | [], _, h => h
  | _ :: _, _, ⟨v, r, e, h, t⟩ => ⟨v, r, e, rep_inl M k M0 h, repL_inl M k M0 t⟩
end
end
end YL
/-! YExc: raise, try. -/
namespace YL
open PySem L2
open Y (D O Store En Ky)
/-- the job of a try's body -/
abbrev Jb.wi (J : Jb) (W : WX) : Jb := { J with W := W }
/-- the job of a suite: the caught error c stands at slot i -/
abbrev Jb.sui (J : Jb) (i : Nat) (c : Str) (a : Addr) : Jb := { J with P := { J.P with cur := some (i, c) }, W := fun _ _ _ _ => False, xp := fun j o => j = i → o = some (some (.ref a)) }
abbrev Jb.sui0 (J : Jb) : Jb := { J with P := { J.P with cur := none }, W := fun _ _ _ _ => False }
section
variable {X : Cx} {J : Jb} {T : Y.Text} {n : Nat} {tab : Str → At} {x m y : Str} {j i : Nat} {p p2 pos pos' np : Pos} {body suite : List Stmt} {b₀ : Stmt} {ib ih : List Y.St}
theorem Ctx.wi (G : Ctx X J T n tab) {W : WX} {pn : List (Addr × Obj)} {xe : Value → Shared → Prop} (tk : Takes (X.tr pn xe) W) (hp : PassesOwn (model X.prog X.w) X.A X.env xe) : Ctx (X.tr pn xe) (J.wi W) T n tab :=
  ⟨G.hC, G.hP, G.hG, hp, G.np, G.room, G.grd, G.calm, G.nd, tk, G.xp, G.funs⟩
theorem qs_raise {C : Addr} {bmB : List Value} {B newId initId : String} (G : Ctx X J T n tab) (F : ExcBaseFacts B newId initId bmB) (q : PySem.W.excIn X.K C bmB newId = true) (gC : X.mg x = some (.ref C)) (kC : PySem.W.keepIn X.K (.ref C) = true) (r : Raises X (.ref C)) (hg : Gl X x) (hs : J.P.subs x x = true)
    (hdb : (x == ("__debug__" : Str)) = false := by decide) : QS X J (.Raise (some (.Call (.Name x p) [.Constant (.str m) j p2] [] pos)) none pos') (.raise x) := by
  refine psImp (ps_raise G.calm G.tk (pmk_own F q gC kC r hg hdb)) ?_
  rintro Dx σ H ⟨m, S, env, Da, M, hw, L⟩
  exact L.xx x σ H m S env C M (Kp.refl m H) hw hs gC
/-- the facts of the classes: what a clause x says of an own error c -/
def SubOk (X : Cx) (J : Jb) (x : Str) (cv : Value) : Prop := ∀ (c : Str) (C : Addr), J.P.subs c c = true → X.mg c = some (.ref C) → PySem.W.exmOne X.K (.ref C) cv = some (J.P.subs c x)
theorem Mt.xpT {K : PySem.W.Frag} {w : World} {xp xp' : Nat → Option (Option V) → Prop} {m : Ms} {S : Store} {env : En} {σ : L2.St} {H : Hp} (M : Mt K w xp m S env σ H) (h : ∀ i, env[i]? = some none → xp' i σ[i]?) : Mt K w xp' m S env σ H :=
  ⟨M.len, M.nd, M.rs, M.obj, M.free, M.nam, M.slen, h⟩
/-- a suite's own data: what the text says of the error that stands there -/
def tqH (X : Cx) (J : Jb) (mg : Str → Option Value) (i : Nat) (ih : List Y.St) (pn : List (Addr × Obj)) (a : Addr) (cls : Value) (d : Option Addr) : TS := fun Dx σ H =>
  ∃ (c : Str) (C : Addr), cls = .ref C ∧ d = none ∧ mg c = some (.ref C) ∧ J.P.subs c c = true ∧ tqSs (X.suite a pn) (J.sui i c a) ih Dx σ H
theorem tqSs_pn {X : Cx} {J : Jb} {a : Addr} {pn pn' : List (Addr × Obj)} {irs : List Y.St} {Dx : L2.Ends} {σ : L2.St} {H : Hp} (h : tqSs (X.suite a pn) J irs Dx σ H) : tqSs (X.suite a pn') J irs Dx σ H := h
theorem qs_tryAs {cv : Value} (G : Ctx X J T n tab) (hst : X.stack = X.env :: X.outer) (hf : X.env.frame = some X.env.locals) (hi : X.N[i]? = some y) (hln : X.env.kindOf y = some .local) (hc : Names X x cv) (hsub : SubOk X J x cv)
    (hb : ∀ (W : WX) (pn : List (Addr × Obj)) (xe : Value → Shared → Prop), Ctx (X.tr pn xe) (J.wi W) T n tab → QSs (X.tr pn xe) (J.wi W) body ib)
    (hsu : ∀ (a : Addr) (oe : Obj) (c : Str) (C : Addr) (pn : List (Addr × Obj)), Zc (.ref C) none oe → (∃ vs, oe.data = .fields vs) → X.mg c = some (.ref C) → J.P.subs c c = true → QSs (X.suite a ((a, oe) :: pn)) (J.sui i c a) (b₀ :: suite) ih) :
    QS X J (.Try body [.ExceptHandler (some (.Name x np)) (some y) (b₀ :: suite) pos'] [] [] pos) (.tryx ib x (some i) ih) := by
  refine psImp (ps_try_as (ts := fun a cls d => tqH X J X.mg i ih [] a cls d) (tb := fun W => tqSs X (J.wi W) ib) hst hf G.nd hi hln hc G.tk (fun W pn xe tk hp => ?_) fun a oe cls d pn hz hv => ?_) ?_
  · exact hb W pn xe (G.wi tk hp)
  · refine ⟨fun pins s σ H Dx I h => ?_⟩
    obtain ⟨c, C, rfl, rfl, h1, h2, h⟩ := h
    exact (hsu a oe c C pn hz hv h1 h2).run pins s σ H Dx I h
  · rintro Dx σ H ⟨m, S, env, Da, M, hw, L⟩
    refine ⟨m, S, env, _, M, hw, ⟨L.nx, L.bk, L.ct, L.rt, fun c σ' H' m' S' env' C M' k' w' s' e' => ?_⟩⟩
    refine ⟨J.P.subs c x, hsub c C s' e', fun hb1 a ha => ?_, fun hb0 => ?_⟩
    · have w' : Y.catchW J.P x (some i) c (fun P2 σ2 S2 D2 => Y.wSs J.C ih P2 σ2 S2 D2) env' S' Da := w'
      rw [Y.catchW, if_pos hb1] at w'
      refine ⟨c, C, rfl, rfl, e', s', m', S', env'.set i none, _, (M'.drop (i := i) (o := some (.ref a)) G.xp).xpT fun j hj hji => ?_, w', ⟨fun σ2 H2 m2 S2 env2 M2 k2 q2 => ?_, fun σ2 H2 m2 S2 env2 M2 k2 q2 => ?_, fun σ2 H2 m2 S2 env2 M2 k2 q2 => ?_, fun v H2 m2 S2 d M2 k2 r2 q2 => L.rt v H2 m2 S2 d M2 (k'.trans k2) r2 q2, fun _ _ _ _ _ _ _ _ _ z _ _ => z.elim⟩⟩
      · subst hji
        by_cases hl : j < σ'.length
        · rw [List.getElem?_set_self hl]
        · rw [List.getElem?_eq_none (by rw [List.length_set, M'.slen]; omega)] at hj
          cases hj
      · exact L.nx _ H2 m2 S2 _ ((M2.xpT (xp' := J.xp) fun i _ => G.xp i _).drop G.xp) (k'.trans k2) q2
      · exact L.bk _ H2 m2 S2 _ ((M2.xpT (xp' := J.xp) fun i _ => G.xp i _).drop G.xp) (k'.trans k2) q2
      · exact L.ct _ H2 m2 S2 _ ((M2.xpT (xp' := J.xp) fun i _ => G.xp i _).drop G.xp) (k'.trans k2) q2
    · have w' : Y.catchW J.P x (some i) c (fun P2 σ2 S2 D2 => Y.wSs J.C ih P2 σ2 S2 D2) env' S' Da := w'
      rw [Y.catchW, if_neg (by rw [hb0]; decide)] at w'
      exact L.xx c σ' H' m' S' env' C M' k' w' s' e'
/-- isinstance(e, C) of the caught error -/
theorem qe_isx {t : Str} {a D : Addr} {oe : Obj} {pn : List (Addr × Obj)} {c : Str} {cV : V} {cv : Value} {pi pt pa : Pos} (hc : ExcC X.K D) (hz : Zc (.ref D) none oe) (hv : ∃ vs, oe.data = .fields vs) (hi : X.N[i]? = some y) (hvis : Vis X.env.scope y)
    (hgi : Gl X "isinstance") (hmi : X.mg "isinstance" = none) (ht : PE (X.suite a ((a, oe) :: pn)) (.Name t pt) (tC cV)) (hcv : ∀ u, RelV cV u → u = cv) (hk : PySem.W.kitOne X.K (.ref D) cv = some (J.P.subs c t))
    (hd : (y == ("__debug__" : Str)) = false := by decide) (hcd : (y == ("__classdict__" : Str)) = false := by decide) (he : starEach [.Name y pa, .Name t pt] X.env = (false, eval (.Name y pa) X.env) :: starEach [.Name t pt] X.env := by rfl) (hpl : (backTo pos (starEach [.Name t pt] X.env)).any (·.1) = false := by rfl) :
    QE (X.suite a ((a, oe) :: pn)) (J.sui i c a) (.Call (.Name "isinstance" pi) [.Name y pa, .Name t pt] [] pos) (.isx i t) := by
  have hx : PE (X.suite a ((a, oe) :: pn)) (.Name y pa) (tVar i) := pe_var hi hvis hd hcd
  refine peImp (pe_callB (call_isE hc hz hv) hgi hmi (by rfl) (pa_cons hx (pa_cons ht pa_nil)) (by decide) (by decide) he hpl) ?_
  rintro σ H Q ⟨m, S, env, Qa, Wa, M, hw, hq, hx⟩
  have hw : i = i ∧ env[i]? = some none ∧ Qa (.bl (J.P.subs c t)) S := hw
  have hs := M.xs i hw.2.1 rfl
  refine ⟨.ref a, hs, cV, _, _, rfl, hcv, hk, ?_⟩
  exact hq _ H m S (.bl (J.P.subs c t)) M (Kp.refl m H) rfl hw.2.2
end
end YL
/-! YFun: a def keeps its promise if its body is linked; all defs at once; the law's end. -/
namespace YL
open PySem L2
open Y (D O Store En Ky)
section
variable {K : PySem.W.Frag} {w : World} {m m' : Ms} {H H' : Hp} {S S' : Store}
/-- a kept object comes back -/
theorem So.keep1 (M : So K w m' S' H') (k : Kp m H m' H') (M0 : So K w m S H) {i : Nat} {a : Addr} {o : O} (hi : ¬ i < S.length) (ha : m'.l[i]? = some a) (ho : S'[i]? = some o) : So K w (m.add a) (S'.take S.length ++ [o]) H' ∧ Kp m H (m.add a) H' := by
  obtain ⟨o1, o2⟩ := off_of M k M0 hi ha
  have sub : ∀ b, b ∈ (m.add a).l → b ∈ m'.l := fun b hb => by
    rcases List.mem_append.mp hb with z | z
    · exact k.sub b z
    · rw [List.mem_singleton.mp z]; exact List.mem_of_getElem? ha
  have res : m'.r = (m.add a).r := k.res
  have B := M.back k M0
  have ltk : (S'.take S.length).length = S.length := by rw [← B.len, M0.len]
  refine ⟨⟨by show (m.l ++ [a]).length = _; rw [List.length_append, List.length_append, ltk, M0.len]; rfl, List.nodup_append.mpr ⟨M0.nd, by simp, fun x hx y hy z => o1 (by rw [← List.mem_singleton.mp hy, ← z]; exact hx)⟩, fun b hb => ?_, fun j u q => ?_, fun u hu => ?_⟩, ⟨⟨[a], rfl⟩, rfl, k.keep, fun b hb => k.new b (sub b hb)⟩⟩
  · obtain ⟨h1, xs, h2⟩ := B.rs b hb
    refine ⟨fun z => ?_, xs, h2⟩
    rcases List.mem_append.mp z with z | z
    · exact h1 z
    · rw [List.mem_singleton.mp z] at hb; exact o2 hb
  · by_cases hj : j < S.length
    · rw [List.getElem?_append_left (by rw [ltk]; exact hj), List.getElem?_take_of_lt hj] at q
      obtain ⟨b, hb, h1, h2, h3⟩ := M.obj j u q
      refine ⟨b, hb, ?_, h2, repO_down sub res (M.free u (List.mem_of_getElem? q)) h3⟩
      obtain ⟨t, e⟩ := k.pre
      rw [e, List.getElem?_append_left (by rw [M0.len]; exact hj)] at h1
      show (m.l ++ [a])[j]? = _
      rw [List.getElem?_append_left (by rw [M0.len]; exact hj)]
      exact h1
    · have hj' : j = S.length := by
        have h := (List.getElem?_eq_some_iff.mp q).1
        rw [List.length_append, List.length_singleton, ltk] at h
        omega
      subst hj'
      have e2 : (S'.take S.length ++ [o])[S.length]? = some o := by
        have h := List.getElem?_concat_length (l := S'.take S.length) (a := o)
        rw [ltk] at h
        exact h
      rw [e2] at q
      cases q
      obtain ⟨b, hb, h1, h2, h3⟩ := M.obj i o ho
      rw [ha] at h1
      cases h1
      refine ⟨a, hb, ?_, h2, repO_down sub res (M.free o (List.mem_of_getElem? ho)) h3⟩
      show (m.l ++ [a])[S.length]? = _
      have h := List.getElem?_concat_length (l := m.l) (a := a)
      rw [M0.len] at h
      exact h
  · rcases List.mem_append.mp hu with z | z
    · exact M.free u (List.mem_of_mem_take z)
    · rw [List.mem_singleton.mp z]; exact M.free o (List.mem_of_getElem? ho)
end
abbrev cxY (P : Program) (w : World) (K : PySem.W.Frag) (mg : Str → Option Value) (base : Heap) (N : List Str) (qual : Str) (scope : Scope) (f : Addr) (cdv : Value) (A : Around) (outer : List Env) (s : Shared) (H : Hp) (E : XK) : Cx := cxOf (L2.CX P w) P w K mg base N qual scope f cdv A outer s H E
theorem back_inv {keep : Bool} {n : Nat} {d : D} {S : Store} {Q : Y.Q1} (h : Y.back keep n d S Q) : Q (Y.inl S n d) (S.take n) ∨ ∃ i o, d = .loc i ∧ S[i]? = some o ∧ ((n ≤ i ∧ Q (.loc n) (S.take n ++ [o])) ∨ (i < n ∧ Q (.loc i) (S.take n))) := by
  cases keep with
  | false => exact .inl h
  | true =>
    cases d with
    | loc i =>
      have h : (match S[i]? with | some o => if n ≤ i then Q (.loc n) (S.take n ++ [o]) else Q (.loc i) (S.take n) | none => False) := h
      cases e : S[i]? with
      | none => rw [e] at h; exact h.elim
      | some o =>
        rw [e] at h
        by_cases hi : n ≤ i
        · exact .inr ⟨i, o, rfl, e, .inl ⟨hi, by rw [← if_pos (c := n ≤ i) hi (t := Q (.loc n) (S.take n ++ [o])) (e := Q (.loc i) (S.take n))]; exact h⟩⟩
        · exact .inr ⟨i, o, rfl, e, .inr ⟨by omega, by rw [← if_neg (c := n ≤ i) hi (t := Q (.loc n) (S.take n ++ [o])) (e := Q (.loc i) (S.take n))]; exact h⟩⟩
    | _ => exact .inl h
/-- a def of the text is linked to its data language form -/
def Linked (P : Program) (w : World) (K : PySem.W.Frag) (mg : Str → Option Value) (base : Heap) (T : Y.Text) (tab : Str → At) (N : List Str) (qual : Str) (st : Stmt) (b : List Y.St) : Prop :=
  ∀ (f : Addr) (cdv : Value) (A : Around) (outer : List Env) (s : Shared) (H : Hp) (E : XK) (J : Jb) (n : Nat), J.P.cur = none → Ctx (cxY P w K mg base N qual (defScope st) f cdv A outer s H E) J T n tab →
    QSs (cxY P w K mg base N qual (defScope st) f cdv A outer s H E) J (defBody st) b
section
variable {P : Program} {w : World} {K : PySem.W.Frag} {mg : Str → Option Value} {base : Heap} {T : Y.Text} {tab : Str → At}
theorem fresh_start {m : Ms} {H : Hp} {N : List Str} {ds : List D} {vs : List V} {np ns i : Nat} {d : D} (r : RepL K w m H ds vs) (h : (Y.fresh np ns ds)[i]? = some (some d)) : ∃ v, (L2.start N vs)[i]? = some (some v) ∧ Rep K w m H d v := by
  unfold Y.fresh at h
  by_cases hi : i < ds.length
  · rw [List.getElem?_append_left (by rw [List.length_map]; exact hi), List.getElem?_map] at h
    cases e : ds[i]? with
    | none => rw [e] at h; cases h
    | some d' =>
      rw [e] at h
      cases h
      obtain ⟨v, h1, h2⟩ := r.get e
      refine ⟨v, ?_, h2⟩
      unfold L2.start
      rw [List.getElem?_append_left (by rw [List.length_map, r.length]; exact hi), List.getElem?_map, h1]
      rfl
  · rw [List.getElem?_append_right (by rw [List.length_map]; omega), List.getElem?_replicate] at h
    split at h <;> cases h
theorem def_ok {x qual : Str} {st : Stmt} {N : List Str} {F : Y.Fn} {n : Nat} (Fu : Fun K x qual st (tab x).a (tab x).fd) (Sc : FnScope N (tab x).ps (defScope st)) (hF : T.fn x = some F) (hnp : F.np = (tab x).ps.length) (hns : F.ns = N.length)
    (L : Linked P w K mg base T tab N qual st F.body) (np : ∀ f F, T.fn f = some F → F.np = (tab f).ps.length) (ih : ∀ f F, T.fn f = some F → HasFn P w K mg base T n f (tab f)) (hcur : T.cur = none) :
    FnG P w K mg base (n + 1) (tab x).a (tab x).fd (tab x).ps (spOf T (n + 1) x K w mg (tab x).ps.length) := by
  obtain ⟨oc, od, kV, doc, pm, an, cdv, ct, osl, efd, lk, hcd⟩ := Fu.ex
  rw [efd] at lk ⊢
  refine fn_ofG lk hcd Sc (fun vs H Q E h => h.1) fun A outer s H vs Q E hr hgd hsp => ?_
  obtain ⟨hl, m, S, ds, Qa, Wa, M0, r, hw, hq, hx⟩ := hsp
  have hw : (match T.fn x with | none => False | some F => ds.length = F.np ∧ Y.wSs (Y.Wp T n) F.body T.toProg (Y.fresh F.np F.ns ds) S (⟨fun _ S' => Qa .non (S'.take S.length), fun d S' => Y.back F.keep S.length d S' Qa, fun _ _ => False, fun _ _ => False, fun c _ S' => Wa c (S'.take S.length)⟩ : Y.Nd)) := hw
  rw [hF] at hw
  obtain ⟨hdl, hw⟩ := hw
  refine ⟨tqSs (cxY P w K mg base N qual (defScope st) (tab x).a cdv A outer s H E) ⟨T.toProg, Y.Wp T n, fun cls d _ H => E cls d H, fun _ _ => True⟩ F.body, ?_, ?_⟩
  · refine L _ cdv A outer s H E ⟨T.toProg, Y.Wp T n, fun cls d _ H => E cls d H, fun _ _ => True⟩ n hcur ⟨rfl, rfl, rfl, passes_of rfl, np, hr, ?_, rfl, Sc.nd, takes_of rfl rfl rfl rfl, fun _ _ => trivial, ih⟩
    exact hgd
  · refine ⟨m, S, Y.fresh F.np F.ns ds, _, ⟨M0.len, M0.nd, M0.rs, M0.obj, M0.free, fun i d e => fresh_start r e, ?_, fun _ _ => trivial⟩, hw, ⟨fun σ' H' m' S' env' M' k' q' => ?_, fun σ' H' m' S' env' M' k' q' => False.elim q', fun σ' H' m' S' env' M' k' q' => False.elim q', fun v H' m' S' d M' k' r' q' => ?_, fun c σ' H' m' S' env' C M' k' w' s' e' => ?_⟩⟩
    · unfold Y.fresh L2.start
      rw [List.length_append, List.length_append, List.length_map, List.length_map, List.length_replicate, List.length_replicate, r.length, hns, hdl]
    · exact hq .non H' m _ .non (M'.so.back k' M0) k'.back rfl q'
    · have go : Qa (Y.inl S' S.length d) (S'.take S.length) → Q v H' := fun q => hq v H' m _ _ (M'.back k' M0) k'.back (rep_inl M' k' M0 r') q
      have q' : Y.back F.keep S.length d S' Qa := q'
      show Q v H'
      rcases back_inv q' with q | ⟨i, o, rfl, ho, q⟩
      · exact go q
      · obtain ⟨a, rfl, ha⟩ := r'
        rcases q with ⟨hi, q⟩ | ⟨hi, q⟩
        · obtain ⟨k1, k2⟩ := M'.keep1 k' M0 (by omega) ha ho
          refine hq _ H' (m.add a) _ (.loc S.length) k1 k2 ⟨a, rfl, ?_⟩ q
          have h := List.getElem?_concat_length (l := m.l) (a := a)
          rw [M0.len] at h
          exact h
        · refine hq _ H' m _ (.loc i) (M'.back k' M0) k'.back ⟨a, rfl, ?_⟩ q
          obtain ⟨t, e⟩ := k'.pre
          rw [e, List.getElem?_append_left (by rw [M0.len]; omega)] at ha
          exact ha
    · exact hx c _ H' m C (M'.so.back k' M0) k'.back w' s' e'
/-- all defs, by levels -/
theorem all_fns {N : Str → List Str} {qual : Str → Str} {st : Str → Stmt} (hcur : T.cur = none)
    (fu : ∀ x F, T.fn x = some F → Fun K x (qual x) (st x) (tab x).a (tab x).fd ∧ mg x = some (.ref (tab x).a) ∧ Binds K (tab x).fd (tab x).ps [])
    (sc : ∀ x F, T.fn x = some F → FnScope (N x) (tab x).ps (defScope (st x)) ∧ F.np = (tab x).ps.length ∧ F.ns = (N x).length ∧ Linked P w K mg base T tab (N x) (qual x) (st x) F.body) :
    ∀ (n : Nat) (x : Str) (F : Y.Fn), T.fn x = some F → HasFn P w K mg base T n x (tab x)
  | 0, x, F, h => ⟨⟨fun vs H Q E h => h.1, fun A outer s H args us vs Q E _ _ _ _ _ q => by
      obtain ⟨_, m, S, ds, Qa, Wa, _, _, hw, _⟩ := q
      exact False.elim hw⟩, (fu x F h).2.1, (fu x F h).1.kp, (fu x F h).2.2⟩
  | n + 1, x, F, h => ⟨def_ok (fu x F h).1 (sc x F h).1 h (sc x F h).2.1 (sc x F h).2.2.1 (sc x F h).2.2.2 (fun f F h => (sc f F h).2.1) (all_fns hcur fu sc n) hcur, (fu x F h).2.1, (fu x F h).1.kp, (fu x F h).2.2⟩
end
end YL
/-! YEnd: from the law's def in the data language to the row. -/
namespace YL
open PySem PySem.Spec PySem.Calls PyProof.Rows L2
open Y (D O Store En Ky)
theorem repInts {K : PySem.W.Frag} {w : World} {m : Ms} {H : Hp} : ∀ ns : List Int, RepL K w m H (ns.map Y.D.int) (ns.map V.int)
  | [] => rfl
  | n :: ns => ⟨.int n, ns.map V.int, rfl, rfl, repInts ns⟩
theorem freeInts : ∀ ns : List Int, Y.frees (ns.map Y.D.int) = true
  | [] => rfl
  | n :: ns => by
    show (true && Y.frees (ns.map Y.D.int)) = true
    rw [freeInts ns]
    rfl
/-- the script is data -/
theorem sp_script {T : Y.Text} {k : Nat} {f : Str} {K : PySem.W.Frag} {w : World} {mg : Str → Option Value} {H : Hp} {a : Addr} {ns : List Int} (hS : SqL K H a (ns.map V.int))
    (h : Y.Wp T k f [.lst (ns.map .int)] [] (fun d _ => d = .bl true) (fun _ _ => False)) : spOf T k f K w mg 1 [.ref a] H (fun v _ => v = .bl true) (fun _ _ _ => False) := by
  refine ⟨rfl, ⟨[], []⟩, [], [.lst (ns.map .int)], _, _, ⟨rfl, List.nodup_nil, fun _ z => absurd z (by simp), fun i o e => by simp at e, fun _ z => absurd z (by simp)⟩, ⟨.ref a, [], rfl, ⟨freeInts ns, a, ns.map V.int, rfl, hS.elim (fun z => .inl ⟨by simp [Ms.all], z⟩) .inr, repInts ns⟩, rfl⟩, h, ?_, ?_⟩
  · rintro v H' m' S' d _ _ r rfl
    exact r
  · rintro c S' H' m' C _ _ z _ _
    exact z
/-- the law's call, where no guard runs around: F stands for every base, the script alone is tracked -/
theorem callerCall {P : Program} {w : World} {K : PySem.W.Frag} {mg mb : Str → Option Value} {k : Nat} {fa a : Addr} {fd : FuncData} {x : Str} {sp : Sp} {s : Shared} {vs : List Value} {ns : List Int} (kin : K.In s.heap) (gns : s.heap.Ns mainGlobals mg) (bns : s.heap.Ns builtinsNs mb)
    (bb : ∀ y : Str, y ≠ "__name__" → mb y = bootBuiltins y) (nl : s.heap.NoLimit) (ge : s.gens = #[]) (ob : s.heap.get? a = some { cls := .type "list", data := .seq vs.toArray }) (ia : IntsAre vs ns) (ln : ns.length ≤ sizeLine) (rm : Room k callerA)
    (Fg : ∀ b : Heap, K.In b → b.Ns mainGlobals mg → FnG P w K mg b k fa fd [x] sp) (bd : ∀ (t : Shared) (u : Value), BindsTo t fd ⟨[u], []⟩ [(x, u)])
    (wish : ∀ H : Hp, SqL K H a (ns.map V.int) → sp [.ref a] H (fun v _ => v = .bl true) fun _ _ _ => False) :
    codeAny (model P w) callerA (.call (.ref fa) ⟨[.ref a], []⟩) (fun r t => r = .ok (.ret (.bool true)) ∧ OldK s.heap t.heap ∧ t.os = s.os ∧ AllBare t.gens) s := by
  have nob : ∀ b : Addr, b ∉ ([] : List Addr) := fun b z => nomatch z
  have lst : ∀ {b : Addr} {o : Obj}, s.heap.get? b = some o → b = a → o = { cls := .type "list", data := .seq vs.toArray } := fun {b o} e q => by
    rw [q, ob] at e
    exact (Option.some.inj e).symm
  obtain ⟨H, hS, hok, frzn, offK⟩ : ∃ H : Hp, SqL K H a (ns.map V.int) ∧ HOk P w H s.heap ∧ (∀ b u, H b = some u → b = a ∧ ∃ o xs, u = .frz o (.lst xs)) ∧ (∀ b o, K.lookup b = some o → H b = none) := by
    cases kl : K.lookup a with
    | some o =>
      have eo := lst (kin a o kl) rfl
      subst eo
      exact ⟨fun _ => none, .inr ⟨_, vs.toArray, _, kl, rfl, rfl, rfl, by rw [List.size_toArray, ia.length]; exact ln, by simpa using vals_ints ia⟩, fun _ u z => absurd (show (none : Option HO) = some u from z) (by simp), fun _ u z => absurd (show (none : Option HO) = some u from z) (by simp), fun _ _ _ => rfl⟩
    | none =>
      have at_ : ∀ b u, (if b = a then some (HO.frz { cls := .type "list", data := .seq vs.toArray } (.lst (ns.map V.int))) else none) = some u → b = a ∧ u = HO.frz { cls := .type "list", data := .seq vs.toArray } (.lst (ns.map V.int)) := fun b u z => by
        split at z
        · rename_i q; exact ⟨q, (Option.some.inj z).symm⟩
        · cases z
      refine ⟨fun b => if b = a then some (.frz { cls := .type "list", data := .seq vs.toArray } (.lst (ns.map V.int))) else none, .inl (.inr ⟨_, if_pos rfl⟩), fun b u z => ?_, fun b u z => ?_, fun b o z => ?_⟩
      · obtain ⟨rfl, rfl⟩ := at_ b u z
        exact ⟨ob, by rw [List.length_map]; exact ln, vs, _, vals_ints ia, ob⟩
      · obtain ⟨q, e⟩ := at_ b u z
        exact ⟨q, _, _, e⟩
      · exact if_neg fun q => by rw [q, kl] at z; cases z
  have off : ∀ {b : Addr} {o : Obj} {es : Array DictEntry} {ep : Nat}, s.heap.get? b = some o → o.data = .dict es ep → H b = none := fun {b o es ep} e d => by
    cases q : H b with
    | none => rfl
    | some u =>
      rw [lst e (frzn b u q).1] at d
      cases d
  have low : ∀ {b : Addr} {f : Str → Option Value}, s.heap.Ns b f → (hidT s.heap H).Ns b f := fun ⟨o, es, ep, e, d, r⟩ => ⟨o, es, ep, hidT_get e (off e d), d, r⟩
  have kinB : K.In (hidT s.heap H) := fun b o e => hidT_get (kin b o e) (offK b o e)
  obtain ⟨mc, c1, c2⟩ := nl
  have env : Env0 P w K mg (hidT s.heap H) callerA [] s H := ⟨rfl, ⟨kinB, low gns, ⟨mb, low bns, bb⟩, ⟨mc, low c1, c2⟩⟩, fun b o e => of_hidT e, Nat.le_of_eq (hidT_size _ _), trivial, fun b z => (nob b z).elim, hok, .of_eq ge⟩
  refine codeAny_mono ((Fg _ kinB (low gns)).run callerA [] s H ⟨[.ref a], []⟩ [.ref a] [.ref a] _ _ rm rfl env (bd s (.ref a)) (.cons rfl .nil) (wish H hS)) fun r t q => ?_
  match r, q with
  | .error e, q => exact (show False from by simpa [CR, L2.CX] using q).elim
  | .ok (.ret u), q =>
    obtain ⟨v, H', os, bare, un, hok', r', qv⟩ := q
    obtain rfl : v = .bl true := qv
    obtain rfl : u = Value.bool true := r'
    refine ⟨rfl, OldK.of_keep fun b o e => ?_, os, bare⟩
    cases q : H b with
    | none => exact un.keep b o e q (nob b) (by simp)
    | some u =>
      obtain ⟨_, oo, xs, eu⟩ := frzn b u q
      subst eu
      have g1 := (hok b _ q).1
      rw [e] at g1
      cases g1
      exact (hok' b _ (un.frzs b _ _ q)).1
/-- the row, from the text of the law in the data language -/
theorem walk_Y {l : PySem.W.OpenLaw} {n k : Nat} {q : Program} {loose : List Str} {XP : (Str → Option Value) → Heap → Prop} {YP : World → Heap → Prop} {d : DefRec} {K : Params → PySem.W.Frag} {T : Y.Text} {x f : Str} (hn : l.most = some n) (hn2 : n ≤ sizeLine) (hdf : d.params.defaults = []) (hr : Room k callerA)
    (hY : ∀ (w : World) (h : Heap), YP w h → (K w.params).In h)
    (F : ∀ (w : World) (mg : Str → Option Value) (fa : Addr) (h : Heap), (K w.params).In h → h.Ns mainGlobals mg → mg d.name = some (.ref fa) →
      ∃ fd : FuncData, (∀ (s : Shared) (u : Value), BindsTo s fd ⟨[u], []⟩ [(x, u)]) ∧ ∀ base : Heap, (K w.params).In base → base.Ns mainGlobals mg → FnG l.prog w (K w.params) mg base k fa fd [x] (spOf T k f (K w.params) w mg 1))
    (law : ∀ ns : List Int, ns.length ≤ n → (∀ z ∈ ns, Builtin.Int.intBits z ≤ 1048576) → Y.Wp T k f [.lst (ns.map .int)] [] (fun d _ => d = .bl true) (fun _ _ => False)) :
    PySem.W.WalkO q loose XP YP l.row.toRowW d [] (fun f vs => PySem.call f vs) := by
  refine Att.attach_callB hn hdf fun ww sa sb gm bm fad _ _ _ _ ad us zs Gr Yh _ _ _ nm lob il len bits gens => ?_
  have kin := hY ww _ Yh; obtain ⟨fd, bind, promise⟩ := F ww gm fad _ kin Gr.T.g nm
  exact callerCall kin Gr.T.g Gr.T.b Gr.T.builtins Gr.T.nolimit gens lob il (Nat.le_trans len hn2) hr promise bind fun H sq => sp_script sq (law zs len bits)
end YL
/-! YOps1: arithmetic, comparisons, == and != of data. -/
namespace YL
open PySem PySem.Spec PySem.Calls PyProof.Rows L2
open Y (D O Store En Ky)
/-- an operation of two values, as the data language says it -/
def rD (X : Cx) (o : Y.Op) : R2 := fun v u H Q => ∃ (xp : Nat → Option (Option V) → Prop) (m : Ms) (S : Store) (env : En) (σ : L2.St) (x y : D) (Qa : Y.Q1),
  Mt X.K X.w xp m S env σ H ∧ Rep X.K X.w m H x v ∧ Rep X.K X.w m H y u ∧ Y.opW o [x, y] S Qa ∧ Got X xp m H env σ Qa Q
def rD1 (X : Cx) (o : Y.Op) : V → Hp → VK → Prop := fun v H Q => ∃ (xp : Nat → Option (Option V) → Prop) (m : Ms) (S : Store) (env : En) (σ : L2.St) (x : D) (Qa : Y.Q1),
  Mt X.K X.w xp m S env σ H ∧ Rep X.K X.w m H x v ∧ Y.opW o [x] S Qa ∧ Got X xp m H env σ Qa Q
def rDn (X : Cx) (o : Y.Op) : List V → Hp → VK → Prop := fun vs H Q => ∃ (xp : Nat → Option (Option V) → Prop) (m : Ms) (S : Store) (env : En) (σ : L2.St) (xs : List D) (Qa : Y.Q1),
  Mt X.K X.w xp m S env σ H ∧ RepL X.K X.w m H xs vs ∧ Y.opW o xs S Qa ∧ Got X xp m H env σ Qa Q
theorem s2 {X : Cx} {o : Y.Op} : OpS2 X o (rD X o) := fun xp m S env σ H x y v u Qa Q M r1 r2 h g => ⟨xp, m, S, env, σ, x, y, Qa, M, r1, r2, h, g⟩
theorem s1 {X : Cx} {o : Y.Op} : OpS1 X o (rD1 X o) := fun xp m S env σ H x v Qa Q M r1 h g => ⟨xp, m, S, env, σ, x, Qa, M, r1, h, g⟩
theorem sn {X : Cx} {o : Y.Op} : OpSn X o (rDn X o) := fun xp m S env σ H xs vs Qa Q M r1 h g => ⟨xp, m, S, env, σ, xs, Qa, M, r1, h, g⟩
/-! ### what a list, a tuple of the data stands at -/
section
variable {K : PySem.W.Frag} {w : World} {xp : Nat → Option (Option V) → Prop} {m : Ms} {S : Store} {env : En} {σ : L2.St} {H : Hp} {d : D} {v : V} {xs : List D}
theorem Mt.obL (M : Mt K w xp m S env σ H) {i : Nat} (e : S[i]? = some (.lst xs)) : ∃ a vs, m.l[i]? = some a ∧ H a = some (.lst vs) ∧ RepL K w m H xs vs := by
  obtain ⟨a, ho, h1, h2, h3⟩ := M.obj i _ e
  cases ho with
  | lst vs => exact ⟨a, vs, h1, h2, h3⟩
  | _ => exact h3.elim
theorem lstOf_loc {i : Nat} (h : Y.lstOf S (.loc i) = some xs) : S[i]? = some (.lst xs) := by
  have h : (match S[i]? with | some (.lst xs) => some xs | _ => none) = some xs := h
  split at h
  · rename_i e; rw [e]; cases h; rfl
  · cases h
theorem rep_lst (M : Mt K w xp m S env σ H) (r : Rep K w m H d v) (h : Y.lstOf S d = some xs) : ∃ a vs, v = .ref a ∧ SqL K H a vs ∧ RepL K w m H xs vs := by
  cases d with
  | lst ys =>
    have e : ys = xs := Option.some.inj h
    subst e
    obtain ⟨_, a, vs, rfl, h1, h2⟩ := r
    exact ⟨a, vs, rfl, h1.sq, h2⟩
  | loc i =>
    obtain ⟨a, rfl, ha⟩ := r
    obtain ⟨b, vs, h1, h2, h3⟩ := M.obL (lstOf_loc h)
    rw [ha] at h1
    cases h1
    exact ⟨a, vs, rfl, .inl (.inl h2), h3⟩
  | _ => cases h
theorem seq_lst {d : D} (h : Y.seqOf S d = some xs) : (∃ ys, d = .tup ys ∧ ys = xs) ∨ Y.lstOf S d = some xs := by
  cases d with
  | tup ys => exact .inl ⟨ys, rfl, Option.some.inj h⟩
  | lst ys => exact .inr h
  | loc i => exact .inr h
  | _ => cases h
theorem rep_seq (M : Mt K w xp m S env σ H) (r : Rep K w m H d v) (h : Y.seqOf S d = some xs) : ∃ a vs, v = .ref a ∧ (SqL K H a vs ∨ SqT K H a vs) ∧ RepL K w m H xs vs := by
  rcases seq_lst h with ⟨ys, rfl, rfl⟩ | h
  · obtain ⟨a, vs, rfl, h1, h2⟩ := r
    exact ⟨a, vs, rfl, .inr h1, h2⟩
  · obtain ⟨a, vs, rfl, h1, h2⟩ := rep_lst M r h
    exact ⟨a, vs, rfl, .inl h1, h2⟩
theorem rep_int {i : Int} (r : Rep K w m H (.int i) v) : v = .int i := r
theorem rep_bl {i : Bool} (r : Rep K w m H (.bl i) v) : v = .bl i := r
theorem rep_str {i : Str} (r : Rep K w m H (.str i) v) : v = .str i := r
end
theorem wII_inv {f : Int → Int → D} {ds : List D} {S : Store} {Q : Y.Q1} (h : Y.wII f ds S Q) : ∃ i j, ds = [.int i, .int j] ∧ Q (f i j) S := by
  unfold Y.wII at h
  split at h
  · exact ⟨_, _, rfl, h⟩
  · exact h.elim
theorem wIIc_inv {c : Int → Int → Prop} {f : Int → Int → D} {ds : List D} {S : Store} {Q : Y.Q1} (h : Y.wIIc c f ds S Q) : ∃ i j, ds = [.int i, .int j] ∧ c i j ∧ Q (f i j) S := by
  unfold Y.wIIc at h
  split at h
  · exact ⟨_, _, rfl, h⟩
  · exact h.elim
section
variable {X : Cx}
/-- an operation of two ints -/
theorem o_II {f : Value → Value → Sem Value} {o : Y.Op} {g : Int → Int → D} {gv : Int → Int → V} (ho : OpR X f (rI0 gv)) (hg : ∀ i j m H, Rep X.K X.w m H (g i j) (gv i j)) (hw : ∀ ds S Q, Y.opW o ds S Q = Y.wII g ds S Q) : OpR X f (rD X o) := by
  rintro pins s σ0 H a b v u Q I ra rb ⟨xp, m, S, env, σ, x, y, Qa, M, rx, ry, h, g'⟩
  rw [hw] at h
  obtain ⟨i, j, e, q⟩ := wII_inv h
  cases e
  cases rep_int rx
  cases rep_int ry
  exact ho pins s σ0 H _ _ v u Q I ra rb ⟨i, j, rfl, rfl, g'.here M (hg i j m H) q⟩
theorem o_IIc {f : Value → Value → Sem Value} {o : Y.Op} {c : Int → Int → Prop} {g : Int → Int → D} {gv : Int → Int → V} (ho : OpR X f (rI c gv)) (hg : ∀ i j m H, Rep X.K X.w m H (g i j) (gv i j)) (hw : ∀ ds S Q, Y.opW o ds S Q = Y.wIIc c g ds S Q) : OpR X f (rD X o) := by
  rintro pins s σ0 H a b v u Q I ra rb ⟨xp, m, S, env, σ, x, y, Qa, M, rx, ry, h, g'⟩
  rw [hw] at h
  obtain ⟨i, j, e, hc, q⟩ := wIIc_inv h
  cases e
  cases rep_int rx
  cases rep_int ry
  exact ho pins s σ0 H _ _ v u Q I ra rb ⟨i, j, rfl, rfl, hc, g'.here M (hg i j m H) q⟩
theorem o_sub : OpR X (binaryOp .Sub) (rD X .sub) := o_II (g := fun i j => .int (i - j)) op_sub (fun _ _ _ _ => rfl) fun _ _ _ => rfl
theorem o_lt : OpR X (compareOp .Lt) (rD X .lt) := o_II (g := fun i j => .bl (decide (i < j))) op_lt (fun _ _ _ _ => rfl) fun _ _ _ => rfl
theorem o_le : OpR X (compareOp .LtE) (rD X .le) := o_II (g := fun i j => .bl (decide (i ≤ j))) op_le (fun _ _ _ _ => rfl) fun _ _ _ => rfl
theorem o_gt : OpR X (compareOp .Gt) (rD X .gt) := o_II (g := fun i j => .bl (decide (j < i))) op_gt (fun _ _ _ _ => rfl) fun _ _ _ => rfl
theorem o_ge : OpR X (compareOp .GtE) (rD X .ge) := o_II (g := fun i j => .bl (decide (j ≤ i))) op_ge (fun _ _ _ _ => rfl) fun _ _ _ => rfl
theorem o_pow : OpR X (binaryOp .Pow) (rD X .pow) := o_IIc (g := fun i j => .int (i ^ j.toNat)) op_pow (fun _ _ _ _ => rfl) fun _ _ _ => rfl
theorem o_fdiv : OpR X (binaryOp .FloorDiv) (rD X .fdiv) := o_IIc (g := fun i j => .int (i / j)) op_fdivW (fun _ _ _ _ => rfl) fun _ _ _ => rfl
theorem o_mod : OpR X (binaryOp .Mod) (rD X .mod) := o_IIc (g := fun i j => .int (i % j)) op_mod (fun _ _ _ _ => rfl) fun _ _ _ => rfl
theorem wNeg_inv {ds : List D} {S : Store} {Q : Y.Q1} (h : Y.wNeg ds S Q) : ∃ i, ds = [.int i] ∧ Q (.int (-i)) S := by
  unfold Y.wNeg at h
  split at h
  · exact ⟨_, rfl, h⟩
  · exact h.elim
theorem o_neg : UnR X (unaryOp .USub) (rD1 X .neg) := by
  rintro pins s σ0 H a v Q I ra ⟨xp, m, S, env, σ, x, Qa, M, rx, h, g'⟩
  obtain ⟨i, e, h⟩ := wNeg_inv h
  cases e
  cases rep_int rx
  exact un_neg pins s σ0 H _ v Q I ra ⟨i, rfl, g'.here M (d := .int (-i)) rfl h⟩
/-- list + list, of any kind of standing -/
theorem op_catA : OpR X (binaryOp .Add) (fun x y H Q => ∃ a b xs ys, x = .ref a ∧ y = .ref b ∧ SqL X.K H a xs ∧ SqL X.K H b ys ∧ xs.length + ys.length ≤ sizeLine ∧ ∀ p, H p = none → Q (.ref p) (upd H p (.lst (xs ++ ys)))) := by
  rintro pins s σ H x y v u Q I rx ry ⟨a, b, xs, ys, rfl, rfl, ha, hb, hz, q⟩
  cases rx
  cases ry
  obtain ⟨its, r1, ⟨⟨c1, d1, dat1, sl1⟩, n1, g1, e1, e2, e3⟩, _⟩ := I.list ha
  obtain ⟨its2, r2, ⟨⟨c2, d2, dat2, sl2⟩, n2, g2, f1, f2, f3⟩, _⟩ := I.list hb
  simp only at e1 e2 e3 f1 f2 f3
  subst e1 e2 e3 f1 f2 f3
  have l1 := r1.length
  have l2 := r2.length
  refine concat_meets ⟨_, g1, rfl⟩ ⟨_, g2, rfl⟩ noFill_list_add seq_list_add PySem.F.slot_list_add PySem.F.entry_list_add (PySem.F.args_list_add_2 _ _) (PyProof.Rows.list_addW a b its.toArray its2.toArray n1 n2 none none sl1 sl2 (by rw [List.size_toArray, List.size_toArray]; omega)) ⟨g1, g2, ?_⟩
  rw [show its.toArray ++ its2.toArray = (its ++ its2).toArray by simp]
  exact ⟨.ref _, _, I.lnew (t' := s.toks) (r1.append r2) (by rw [List.length_append]; exact hz), rfl, q _ I.fresh⟩
theorem wAdd_inv {fz : Bool} {x y : D} {S : Store} {Q : Y.Q1} (h : Y.wAdd fz x y S Q) : (∃ i j, x = .int i ∧ y = .int j ∧ Q (.int (i + j)) S) ∨ (∃ a b, x = .str a ∧ y = .str b ∧ a.length + b.length ≤ Y.line ∧ Q (.str (a ++ b)) S) ∨
    (∃ xs ys, x = .tup xs ∧ y = .tup ys ∧ xs ≠ [] ∧ xs.length + ys.length ≤ Y.line ∧ Q (.tup (xs ++ ys)) S) ∨ (∃ xs ys, Y.lstOf S x = some xs ∧ Y.lstOf S y = some ys ∧ Y.newL fz (xs ++ ys) S Q) := by
  unfold Y.wAdd at h
  split at h
  · exact .inl ⟨_, _, rfl, rfl, h⟩
  · exact .inr (.inl ⟨_, _, rfl, rfl, h.1, h.2⟩)
  · exact .inr (.inr (.inl ⟨_, _, rfl, rfl, h.1, h.2.1, h.2.2⟩))
  · split at h
    · rename_i e1 e2
      exact .inr (.inr (.inr ⟨_, _, e1, e2, h⟩))
    · exact h.elim
theorem o_add {fz : Bool} : OpR X (binaryOp .Add) (rD X (.add fz)) := by
  rintro pins s σ0 H a b v u Q I ra rb ⟨xp, m, S, env, σ, x, y, Qa, M, rx, ry, h, g⟩
  rcases wAdd_inv (show Y.wAdd fz x y S Qa from h) with ⟨i, j, rfl, rfl, q⟩ | ⟨i, j, rfl, rfl, hl, q⟩ | ⟨xs, ys, rfl, rfl, hne, hl, q⟩ | ⟨xs, ys, h1, h2, q⟩
  · cases rep_int rx
    cases rep_int ry
    exact op_add pins s σ0 H _ _ v u Q I ra rb ⟨i, j, rfl, rfl, g.here M (d := .int (i + j)) rfl q⟩
  · cases rep_str rx
    cases rep_str ry
    exact op_add_str pins s σ0 H _ _ v u Q I ra rb ⟨i, j, rfl, rfl, by rw [← line_eq]; exact hl, g.here M (d := .str (i ++ j)) rfl q⟩
  · obtain ⟨p, vs, rfl, k1, l1⟩ := rx
    obtain ⟨p2, vs2, rfl, k2, l2⟩ := ry
    have hl2 : vs.length + vs2.length ≤ sizeLine := by rw [l1.length, l2.length, ← line_eq]; exact hl
    refine op_catT pins s σ0 H _ _ v u Q I ra rb ⟨p, p2, vs, vs2, rfl, rfl, k1, k2, fun z => ?_, hl2, fun z => ?_, fun z p3 hp => ?_⟩
    · subst z
      have := l1.length
      exact hne (List.length_eq_zero_iff.mp this.symm)
    · subst z
      have e : ys = [] := List.length_eq_zero_iff.mp l2.length.symm
      subst e
      exact g.here M (d := .tup (xs ++ [])) ⟨p, vs, rfl, k1, by rw [List.append_nil]; exact l1⟩ q
    · exact newT_use (X := X) M (l1.append l2) q hp g
  · obtain ⟨p, vs, rfl, k1, l1⟩ := rep_lst M rx h1
    obtain ⟨p2, vs2, rfl, k2, l2⟩ := rep_lst M ry h2
    have hn := newL_len q
    rw [List.length_append] at hn
    exact op_catA pins s σ0 H _ _ v u Q I ra rb ⟨p, p2, vs, vs2, rfl, rfl, k1, k2, by rw [l1.length, l2.length]; exact hn, fun p3 hp => newL_use (X := X) M (l1.append l2) q hp g⟩
theorem foldl_push (x : Array Nat) : ∀ (n : Nat) (acc : Array Nat), ((List.replicate n x).foldl (· ++ ·) acc).toList = acc.toList ++ (List.replicate n x.toList).flatten
  | 0, acc => by simp
  | n + 1, acc => by
    rw [List.replicate_succ, List.foldl_cons, foldl_push x n, List.replicate_succ, List.flatten_cons, Array.toList_append, List.append_assoc]
theorem repS_eq (j : Int) (z : Str) : (⟨(List.replicate j.toNat z.cps).foldl (· ++ ·) #[]⟩ : Str) = Y.repS j z := by
  unfold Y.repS
  congr 1
  refine Array.toList_inj.mp ?_
  rw [foldl_push]
  simp
theorem repS_length (j : Int) (z : Str) : (Y.repS j z).length = j.toNat * z.length := by
  unfold Y.repS Str.length
  simp
theorem op_mulS : OpR X (binaryOp .Mult) (fun x y H Q => ∃ z j, x = .str z ∧ y = .int j ∧ z.length * j.toNat ≤ sizeLine ∧ j < 4611686018427387904 ∧ -4611686018427387904 < j ∧ Q (.str (Y.repS j z)) H) := by
  rintro pins s σ H x y v u Q I rx ry ⟨z, j, rfl, rfl, hl, h1, h2, q⟩
  obtain ⟨t, rfl⟩ := rx
  obtain ⟨t2, rfl⟩ := ry
  have sl : sizeLine = 16777216 := by decide
  have fit : (decide (j < -(2 ^ 63 : Int)) || decide (j ≥ 2 ^ 63)) = false := by
    have a1 : ¬ j < -(2 ^ 63 : Int) := by omega
    have a2 : ¬ j ≥ (2 ^ 63 : Int) := by omega
    rw [decide_eq_false a1, decide_eq_false a2]
    rfl
  refine PySem.P.mul_str fit (fun a b => ?_) (fun a b => ?_) ?_
  · have hj : 0 < j := by omega
    have hz : 0 < z.length := by
      rcases Nat.eq_zero_or_pos z.length with e | e
      · rw [e] at b
        simp at b
      · exact e
    have hp : (z.length : Int) * j ≤ 16777216 := by
      have e : ((z.length * j.toNat : Nat) : Int) = (z.length : Int) * j := by rw [Int.natCast_mul, Int.toNat_of_nonneg (by omega)]
      omega
    have hh : (z.length : Int) ≤ (2 ^ 63 - 1) / j := by
      rw [Int.le_ediv_iff_mul_le hj]
      omega
    omega
  · unfold Builtin.Str.tooLong
    exact decide_eq_false (by rw [sl] at hl; omega)
  · by_cases hn : j < 1
    · rw [if_pos hn]
      refine ⟨by decide, .str (Y.repS j z), H, I.tok _, ⟨s.toks, ?_⟩, q⟩
      have : Y.repS j z = Str.empty := by
        unfold Y.repS
        rw [show j.toNat = 0 by omega]
        rfl
      rw [this]
    · rw [if_neg hn]
      by_cases h3 : (j == 1 || z.length == 0) = true
      · rw [if_pos h3]
        refine ⟨.str (Y.repS j z), H, I.tok _, ⟨t, ?_⟩, q⟩
        have : Y.repS j z = z := by
          unfold Y.repS
          rcases Bool.or_eq_true_iff.mp h3 with e | e
          · have e := beq_iff_eq.mp e
            subst e
            simp [List.replicate_one]
          · have e := beq_iff_eq.mp e
            have e2 : z.cps.toList = [] := List.length_eq_zero_iff.mp (by simpa [Str.length] using e)
            have e3 : z.cps = #[] := Array.toList_inj.mp (by rw [e2])
            rw [e2]
            simp
            cases z
            simp_all
        rw [this]
      · rw [if_neg h3]
        refine ⟨?_, .str (Y.repS j z), H, I.tok _, ⟨s.toks, ?_⟩, q⟩
        · rw [repS_eq, repS_length, Nat.mul_comm]
          exact hl
        · rw [repS_eq]
theorem mulOk_x {i j : Int} (h : Y.mulOk i j) : CMulX i j := by
  have b : ∀ x : Int, Builtin.Int.intBits x ≤ x.natAbs.log2 + 1 := fun x => by
    unfold Builtin.Int.intBits
    split <;> omega
  have h1 := b i
  have h2 := b j
  have h3 : i.natAbs.log2 + j.natAbs.log2 < 134000000 := h
  unfold CMulX
  omega
theorem wMul_inv {fz : Bool} {x y : D} {S : Store} {Q : Y.Q1} (h : Y.wMul fz x y S Q) : (∃ i j, x = .int i ∧ y = .int j ∧ Y.mulOk i j ∧ Q (.int (i * j)) S) ∨
    (∃ z j, x = .str z ∧ y = .int j ∧ z.length * j.toNat ≤ Y.line ∧ j < 4611686018427387904 ∧ -4611686018427387904 < j ∧ Q (.str (Y.repS j z)) S) := by
  unfold Y.wMul at h
  split at h
  · exact .inl ⟨_, _, rfl, rfl, h.1, h.2⟩
  · exact .inr ⟨_, _, rfl, rfl, h.1, h.2.1, h.2.2.1, h.2.2.2⟩
  · exact h.elim
theorem o_mul {fz : Bool} : OpR X (binaryOp .Mult) (rD X (.mul fz)) := by
  rintro pins s σ0 H a b v u Q I ra rb ⟨xp, m, S, env, σ, x, y, Qa, M, rx, ry, h, g⟩
  rcases wMul_inv (show Y.wMul fz x y S Qa from h) with ⟨i, j, rfl, rfl, hc, q⟩ | ⟨z, j, rfl, rfl, hl, h1, h2, q⟩
  · cases rep_int rx
    cases rep_int ry
    exact op_mulX pins s σ0 H _ _ v u Q I ra rb ⟨i, j, rfl, rfl, mulOk_x hc, g.here M (d := .int (i * j)) rfl q⟩
  · cases rep_str rx
    cases rep_int ry
    exact op_mulS pins s σ0 H _ _ v u Q I ra rb ⟨z, j, rfl, rfl, by rw [← line_eq]; exact hl, h1, h2, g.here M (d := .str (Y.repS j z)) rfl q⟩
end
end YL
/-! YOps2: is, == and != of data, in. -/
namespace YL
open PySem PySem.Spec PySem.Calls PyProof.Rows L2
open Y (D O Store En Ky)
/-! ### data as the library's data -/
mutual
def toPy : D → PyData
  | .non => .none
  | .bl b => .bool b
  | .int i => .int i
  | .str x => .str x
  | .tup xs => .tuple (toPys xs)
  | .lst xs => .list (toPys xs)
  | .dK _ _ => .none
  | .dT _ _ => .none
  | .loc _ => .none
def toPys : List D → List PyData
  | [] => []
  | d :: r => toPy d :: toPys r
end
mutual
theorem toPy_lay : ∀ d : D, d.dat = true → (toPy d).canLay0 = true
  | .non, _ => rfl
  | .bl _, _ => rfl
  | .int _, _ => rfl
  | .str x, h => by
    show PyData.strOk x = true
    unfold PyData.strOk
    rw [← Array.all_toList]
    exact h
  | .tup xs, h => toPys_lay xs h
  | .lst xs, h => toPys_lay xs h
  | .dK _ _, h => by cases h
  | .dT _ _, h => by cases h
  | .loc _, h => by cases h
theorem toPys_lay : ∀ ds : List D, Y.dats ds = true → PyData.canLayAll0 (toPys ds) = true
  | [], _ => rfl
  | d :: r, h => by
    have h : (d.dat && Y.dats r) = true := h
    rw [Bool.and_eq_true] at h
    show ((toPy d).canLay0 && PyData.canLayAll0 (toPys r)) = true
    rw [toPy_lay d h.1, toPys_lay r h.2]
    rfl
end
mutual
theorem toPy_depth : ∀ d : D, (toPy d).depth = d.depth
  | .non => rfl
  | .bl _ => rfl
  | .int _ => rfl
  | .str _ => rfl
  | .tup xs => congrArg (· + 1) (toPys_depth xs)
  | .lst xs => congrArg (· + 1) (toPys_depth xs)
  | .dK _ _ => rfl
  | .dT _ _ => rfl
  | .loc _ => rfl
theorem toPys_depth : ∀ ds : List D, PyData.depthAll (toPys ds) = Y.depths ds
  | [] => rfl
  | d :: r => by
    show max (toPy d).depth (PyData.depthAll (toPys r)) = max d.depth (Y.depths r)
    rw [toPy_depth d, toPys_depth r]
end
mutual
theorem toPy_eq : ∀ x y : D, x.dat = true → y.dat = true → PyData.eqv (toPy x) (toPy y) = Y.eqD x y := by
  intro x y hx hy
  cases x with
  | tup xs =>
    cases y with
    | tup ys => exact toPys_eq xs ys hx hy
    | dK _ _ => cases hy
    | dT _ _ => cases hy
    | loc _ => cases hy
    | _ => rfl
  | lst xs =>
    cases y with
    | lst ys => exact toPys_eq xs ys hx hy
    | dK _ _ => cases hy
    | dT _ _ => cases hy
    | loc _ => cases hy
    | _ => rfl
  | dK _ _ => cases hx
  | dT _ _ => cases hx
  | loc _ => cases hx
  | str a =>
    cases y with
    | str b =>
      show (a == b) = decide (a = b)
      by_cases h : a = b
      · rw [h]; simp
      · rw [decide_eq_false h]; simpa using h
    | dK _ _ => cases hy
    | dT _ _ => cases hy
    | loc _ => cases hy
    | _ => rfl
  | _ =>
    cases y with
    | dK _ _ => cases hy
    | dT _ _ => cases hy
    | loc _ => cases hy
    | _ => rfl
theorem toPys_eq : ∀ xs ys : List D, Y.dats xs = true → Y.dats ys = true → PyData.eqvAll (toPys xs) (toPys ys) = Y.eqDs xs ys
  | [], [], _, _ => rfl
  | [], _ :: _, _, _ => rfl
  | _ :: _, [], _, _ => rfl
  | x :: xs, y :: ys, hx, hy => by
    have hx : (x.dat && Y.dats xs) = true := hx
    have hy : (y.dat && Y.dats ys) = true := hy
    rw [Bool.and_eq_true] at hx hy
    show (PyData.eqv (toPy x) (toPy y) && PyData.eqvAll (toPys xs) (toPys ys)) = (Y.eqD x y && Y.eqDs xs ys)
    rw [toPy_eq x y hx.1 hy.1, toPys_eq xs ys hx.2 hy.2]
end
theorem shaped_of {d : D} (h : d.dat = true) (hd : d.depth ≤ 64) : SeqAt.shaped (toPy d) = true := by
  unfold SeqAt.shaped
  rw [toPy_lay d h, toPy_depth d, decide_eq_true hd]
  rfl
section
variable {K : PySem.W.Frag} {w : World} {m : Ms} {H : Hp}
mutual
theorem rep_dp : ∀ {d : D} {v : V}, d.dat = true → Rep K w m H d v → Dp K H v (toPy d)
  | .non, v, _, r => by cases (show v = .non from r); exact .non
  | .bl b, v, _, r => by cases (show v = .bl b from r); exact .bl b
  | .int i, v, _, r => by cases (show v = .int i from r); exact .int i
  | .str x, v, _, r => by cases (show v = .str x from r); exact .str x
  | .tup xs, _, h, ⟨a, vs, rfl, h1, h2⟩ => .tup h1 (repL_dp h h2)
  | .lst xs, _, h, ⟨_, a, vs, rfl, h1, h2⟩ => .lst h1.sq (repL_dp h h2)
  | .dK _ _, _, h, _ => by cases h
  | .dT _ _, _, h, _ => by cases h
  | .loc _, _, h, _ => by cases h
theorem repL_dp : ∀ {ds : List D} {vs : List V}, Y.dats ds = true → RepL K w m H ds vs → DpAll K H vs (toPys ds)
  | [], vs, _, r => by cases (show vs = [] from r); exact .nil
  | d :: ds, _, h, ⟨v, t, rfl, r1, r2⟩ => by
    have h : (d.dat && Y.dats ds) = true := h
    rw [Bool.and_eq_true] at h
    exact .cons (rep_dp h.1 r1) (repL_dp h.2 r2)
end
end
section
variable {X : Cx}
/-- the two answers of == and != in one -/
structure EqOp (X : Cx) (op : CmpOp) (f : Bool → Bool) : Prop where
  pl : OpR X (compareOp op) (fun x y H Q => scal x y = true ∧ Q (.bl (f (decide (x = y)))) H)
  deep : OpR X (compareOp op) (fun x y H Q => ∃ d e, Dp X.K H x d ∧ Dp X.K H y e ∧ SeqAt.shaped d = true ∧ SeqAt.shaped e = true ∧ Q (.bl (f (PyData.eqv d e))) H)
  lst : ∀ {s : Shared} {l b : Addr} {i1 i2 : Array Value} {Q : Value → Shared → Prop}, s.heap.IsList l i1 → s.heap.IsList b i2 → (i1.size = 0 ∨ i2.size = 0) → Q (.bool (f (i1.isEmpty && i2.isEmpty))) s → wpAny (model X.prog X.w) X.A (compareOp op (.ref l) (.ref b)) Q X.xe s
  tup : ∀ {s : Shared} {l b : Addr} {i1 i2 : Array Value} {Q : Value → Shared → Prop}, s.heap.IsTuple l i1 → s.heap.IsTuple b i2 → (i1.size = 0 ∨ i2.size = 0) → Q (.bool (f (i1.isEmpty && i2.isEmpty))) s → wpAny (model X.prog X.w) X.A (compareOp op (.ref l) (.ref b)) Q X.xe s
theorem sz0 {i1 i2 : Array Value} (h : i1.size = 0 ∨ i2.size = 0) (e : i1.size ≠ i2.size) : (i1.isEmpty && i2.isEmpty) = false := by
  unfold Array.isEmpty
  rcases h with h | h
  · rw [decide_eq_false (p := i2.size = 0) (by omega), Bool.and_false]
  · rw [decide_eq_false (p := i1.size = 0) (by omega), Bool.false_and]
theorem sz1 {i1 i2 : Array Value} (h : i1.size = 0 ∨ i2.size = 0) (e : i1.size = i2.size) : (i1.isEmpty && i2.isEmpty) = true ∧ i1.size = 0 := by
  unfold Array.isEmpty
  have h1 : i1.size = 0 := by omega
  have h2 : i2.size = 0 := by omega
  rw [h1, h2]
  exact ⟨rfl, rfl⟩
theorem eqop (hu : X.A.units + 64 < cLine) : EqOp X .Eq fun b => b where
  pl := op_eq
  deep := op_eqD hu
  lst := fun {s l b i1 i2 Q} h1 h2 h q => by
    by_cases e : i1.size = i2.size
    · obtain ⟨e1, e2⟩ := sz1 h e
      rw [e1] at q
      exact SeqAt.eq_listAt (e := fun _ => true) h1 h2 e (by omega) (fun j j1 _ => by omega) (by rw [e2]; exact q)
    · rw [sz0 h e] at q
      exact SeqAt.eq_list_lengthsAt h1 h2 (by simpa using e) (by omega) q
  tup := fun {s l b i1 i2 Q} h1 h2 h q => by
    refine SeqAt.eq_tupleAt (e := fun _ => true) h1 h2 (by omega) (fun j j1 j2 => by omega) ?_
    rw [show min i1.size i2.size = 0 by omega]
    by_cases e : i1.size = i2.size
    · obtain ⟨e1, e2⟩ := sz1 h e
      rw [e1] at q
      rw [e]
      simpa using q
    · rw [sz0 h e] at q
      rw [show (i1.size == i2.size) = false by simpa using e]
      simpa using q
theorem neop (hu : X.A.units + 64 < cLine) : EqOp X .NotEq fun b => !b where
  pl := op_ne
  deep := op_neD hu
  lst := fun {s l b i1 i2 Q} h1 h2 h q => by
    by_cases e : i1.size = i2.size
    · obtain ⟨e1, e2⟩ := sz1 h e
      rw [e1] at q
      exact SeqAt.RcNeAt.lists (e := fun _ => true) h1 h2 e (by omega) (fun j j1 _ => by omega) _ _ _ _ (by rw [e2]; exact q)
    · rw [sz0 h e] at q
      exact SeqAt.RcNeAt.lists_lengths h1 h2 (by simpa using e) (by omega) _ _ _ _ q
  tup := fun {s l b i1 i2 Q} h1 h2 h q => by
    refine SeqAt.RcNeAt.tuples (e := fun _ => true) h1 h2 (by omega) (fun j j1 j2 => by omega) _ _ _ _ ?_
    rw [show min i1.size i2.size = 0 by omega]
    by_cases e : i1.size = i2.size
    · obtain ⟨e1, e2⟩ := sz1 h e
      rw [e1] at q
      rw [e]
      simpa using q
    · rw [sz0 h e] at q
      rw [show (i1.size == i2.size) = false by simpa using e]
      simpa using q
theorem dec_strD {i j : Str} : decide (V.str i = V.str j) = decide (i = j) := by
  by_cases h : i = j
  · rw [h, decide_eq_true rfl, decide_eq_true rfl]
  · rw [decide_eq_false h, decide_eq_false fun z => h (V.str.inj z)]
theorem plainPair_scal {x y : D} {v u : V} {m : Ms} {H : Hp} (h : Y.plainPair x y = true) (rx : Rep X.K X.w m H x v) (ry : Rep X.K X.w m H y u) : scal v u = true ∧ decide (v = u) = Y.eqD x y := by
  cases x <;> cases y <;> first
    | exact absurd (show false = true from h) Bool.false_ne_true
    | (cases (show v = _ from rx); cases (show u = _ from ry); refine ⟨rfl, ?_⟩; first | rfl | exact dec_int | exact dec_bl | exact dec_strD)
theorem wEqs_inv {f : Bool → Bool} {xs ys : List D} {S : Store} {Q : Y.Q1} (h : Y.wEqs f xs ys S Q) : ((xs = [] ∨ ys = []) ∧ Q (.bl (f (xs.isEmpty && ys.isEmpty))) S) ∨ (Y.dats xs = true ∧ Y.dats ys = true ∧ Y.depths xs < 64 ∧ Y.depths ys < 64 ∧ Q (.bl (f (Y.eqDs xs ys))) S) := by
  unfold Y.wEqs at h
  split at h
  · rename_i e
    refine .inl ⟨?_, h⟩
    rcases Bool.or_eq_true_iff.mp e with e | e
    · exact .inl (by simpa using e)
    · exact .inr (by simpa using e)
  · exact .inr h
theorem wEq_inv {f : Bool → Bool} {x y : D} {S : Store} {Q : Y.Q1} (h : Y.wEq f x y S Q) : (Y.plainPair x y = true ∧ Q (.bl (f (Y.eqD x y))) S) ∨ (∃ xs ys, x = .tup xs ∧ y = .tup ys ∧ Y.wEqs f xs ys S Q) ∨ (∃ xs ys, Y.lstOf S x = some xs ∧ Y.lstOf S y = some ys ∧ Y.wEqs f xs ys S Q) := by
  unfold Y.wEq at h
  split at h
  · rename_i e
    exact .inl ⟨e, h⟩
  · split at h
    · exact .inr (.inl ⟨_, _, rfl, rfl, h⟩)
    · split at h
      · rename_i e1 e2
        exact .inr (.inr ⟨_, _, e1, e2, h⟩)
      · exact h.elim
theorem emp_len {xs : List D} {vs : List V} {us : List Value} {m : Ms} {H : Hp} (r : RepL X.K X.w m H xs vs) (rv : Vals vs us) : us.toArray.isEmpty = xs.isEmpty ∧ (xs = [] → us.toArray.size = 0) := by
  have e : us.length = xs.length := rv.length.symm.trans r.length
  refine ⟨?_, fun z => by rw [z] at e; simpa using e⟩
  cases xs with
  | nil => cases us with
    | nil => rfl
    | cons _ _ => simp at e
  | cons _ _ => cases us with
    | nil => simp at e
    | cons _ _ => rfl
theorem o_eqop {op : CmpOp} {f : Bool → Bool} {o : Y.Op} (E : EqOp X op f) (hw : ∀ x y S Q, Y.opW o [x, y] S Q = Y.wEq f x y S Q) : OpR X (compareOp op) (rD X o) := by
  rintro pins s σ0 H a b v u Q I ra rb ⟨xp, m, S, env, σ, x, y, Qa, M, rx, ry, h, g⟩
  rw [hw] at h
  rcases wEq_inv h with ⟨hp, q⟩ | ⟨xs, ys, rfl, rfl, h⟩ | ⟨xs, ys, h1, h2, h⟩
  · obtain ⟨e1, e2⟩ := plainPair_scal hp rx ry
    exact E.pl pins s σ0 H _ _ v u Q I ra rb ⟨e1, by rw [e2]; exact g.here M (d := .bl _) rfl q⟩
  · rcases wEqs_inv h with ⟨e, q⟩ | ⟨d1, d2, z1, z2, q⟩
    · obtain ⟨p, vs, rfl, k1, l1⟩ := rx
      obtain ⟨p2, vs2, rfl, k2, l2⟩ := ry
      cases ra
      cases rb
      obtain ⟨its, r1, t1, _⟩ := I.tuple k1
      obtain ⟨its2, r2, t2, _⟩ := I.tuple k2
      refine E.tup t1 t2 (e.imp (emp_len l1 r1).2 (emp_len l2 r2).2) ⟨.bl _, H, I, rfl, ?_⟩
      rw [(emp_len l1 r1).1, (emp_len l2 r2).1]
      exact g.here M (d := .bl _) rfl q
    · refine E.deep pins s σ0 H _ _ v u Q I ra rb ⟨toPy (.tup xs), toPy (.tup ys), rep_dp (d := .tup xs) d1 rx, rep_dp (d := .tup ys) d2 ry, shaped_of (d := .tup xs) d1 (by show Y.depths xs + 1 ≤ 64; omega), shaped_of (d := .tup ys) d2 (by show Y.depths ys + 1 ≤ 64; omega), ?_⟩
      rw [toPy_eq (.tup xs) (.tup ys) d1 d2]
      exact g.here M (d := .bl _) rfl q
  · obtain ⟨p, vs, rfl, k1, l1⟩ := rep_lst M rx h1
    obtain ⟨p2, vs2, rfl, k2, l2⟩ := rep_lst M ry h2
    rcases wEqs_inv h with ⟨e, q⟩ | ⟨d1, d2, z1, z2, q⟩
    · cases ra
      cases rb
      obtain ⟨its, r1, t1, _⟩ := I.list k1
      obtain ⟨its2, r2, t2, _⟩ := I.list k2
      refine E.lst t1.isList t2.isList (e.imp (emp_len l1 r1).2 (emp_len l2 r2).2) ⟨.bl _, H, I, rfl, ?_⟩
      rw [(emp_len l1 r1).1, (emp_len l2 r2).1]
      exact g.here M (d := .bl _) rfl q
    · refine E.deep pins s σ0 H _ _ v u Q I ra rb ⟨.list (toPys xs), .list (toPys ys), .lst k1 (repL_dp d1 l1), .lst k2 (repL_dp d2 l2), shaped_of (d := .lst xs) d1 (by show Y.depths xs + 1 ≤ 64; omega), shaped_of (d := .lst ys) d2 (by show Y.depths ys + 1 ≤ 64; omega), ?_⟩
      rw [show PyData.eqv (.list (toPys xs)) (.list (toPys ys)) = Y.eqDs xs ys from toPys_eq xs ys d1 d2]
      exact g.here M (d := .bl _) rfl q
theorem hu_room {n : Nat} {A : Around} (r : Room n A) : A.units + 65 < cLine := by
  have := r.un
  omega
end
end YL
/-! YOps3: in, subscripts, slices, calls of builtins. -/
namespace YL
open PySem PySem.Spec PySem.Calls PyProof.Rows L2
open Y (D O Store En Ky)
section
variable {X : Cx}
theorem plain_flat {K : PySem.W.Frag} {w : World} {m : Ms} {H : Hp} {d : D} {v : V} (h : Y.plain d = true) (r : Rep K w m H d v) : flatV v = true := by
  cases d <;> first
    | exact absurd (show false = true from h) Bool.false_ne_true
    | (cases (show v = _ from r); rfl)
theorem plains_flat {K : PySem.W.Frag} {w : World} {m : Ms} {H : Hp} : ∀ {ds : List D} {vs : List V}, ds.all Y.plain = true → RepL K w m H ds vs → vs.all flatV = true
  | [], vs, _, r => by cases (show vs = [] from r); rfl
  | d :: ds, _, h, ⟨v, t, rfl, r1, r2⟩ => by
    rw [List.all_cons, Bool.and_eq_true] at h
    rw [List.all_cons, plain_flat h.1 r1, plains_flat h.2 r2]
    rfl
theorem strD {i j : Str} : (i == j) = decide (i = j) := by
  by_cases h : i = j
  · rw [h]; simp
  · rw [decide_eq_false h]; simpa using h
theorem plain_eqV {K : PySem.W.Frag} {w : World} {m : Ms} {H : Hp} {x y : D} {v u : V} (hx : Y.plain x = true) (hy : Y.plain y = true) (rx : Rep K w m H x v) (ry : Rep K w m H y u) : eqV v u = Y.eqD x y := by
  cases x <;> first
    | exact absurd (show false = true from hx) Bool.false_ne_true
    | (cases y <;> first
        | exact absurd (show false = true from hy) Bool.false_ne_true
        | (cases (show v = _ from rx); cases (show u = _ from ry); first | rfl | exact strD))
theorem plain_inV {K : PySem.W.Frag} {w : World} {m : Ms} {H : Hp} {x : D} {v : V} (hx : Y.plain x = true) (rx : Rep K w m H x v) : ∀ {ds : List D} {vs : List V}, ds.all Y.plain = true → RepL K w m H ds vs → inV v vs = ds.any fun z => Y.eqD z x
  | [], vs, _, r => by cases (show vs = [] from r); rfl
  | d :: ds, _, h, ⟨u, t, rfl, r1, r2⟩ => by
    rw [List.all_cons, Bool.and_eq_true] at h
    show (eqV u v || inV v t) = _
    rw [List.any_cons, plain_eqV h.1 hx r1 rx, plain_inV hx rx h.2 r2]
/-- the two answers of in and not in in one -/
structure InOpS (X : Cx) (op : CmpOp) (neg : Bool) : Prop where
  seq : OpR X (compareOp op) (fun x y H Q => ∃ p xs, y = .ref p ∧ (SqL X.K H p xs ∨ SqT X.K H p xs) ∧ flatV x = true ∧ xs.all flatV = true ∧ Q (.bl (Y.negB neg (inV x xs))) H)
  deep : OpR X (compareOp op) (fun x y H Q => ∃ d ds, Dp X.K H x d ∧ Dp X.K H y (.list ds) ∧ SeqAt.shaped d = true ∧ SeqAt.shaped (.list ds) = true ∧ Q (.bl (Y.negB neg (ds.any fun z => PyData.eqv z d))) H)
  str : OpR X (compareOp op) (fun x y H Q => ∃ i j, x = .str i ∧ y = .str j ∧ Q (.bl (Y.negB neg (!(Builtin.Str.occurrences j i 0 j.length 1).isEmpty))) H)
  kd : ∀ {d es n}, KDict X.K X.w d es n → OpR X (compareOp op) (fun x y H Q => ∃ (z : Str) (r : Option Value), x = .str z ∧ y = .ref d ∧ PySem.W.nsIn X.K d z = some r ∧ Q (.bl (Y.negB neg r.isSome)) H)
  hd : ∀ {pins : List (Addr × Obj)} {s : Shared} {σ : L2.St} {H : Hp} {a : Addr} {y : V} {u : Value} {o : Option V} {Q : Value → Shared → Prop}, Inv X pins σ H s → DGet H a y o → RelV y u → (∀ s', Inv X pins σ H s' → Q (.bool (Y.negB neg o.isSome)) s') → wpAny (model X.prog X.w) X.A (compareOp op u (.ref a)) Q X.xe s
theorem inop (hu : X.A.units + 65 < cLine) : InOpS X .In false := ⟨op_in_seq, op_inD hu, op_in_str, fun D => op_in_kd D, fun I g r h => d_in (by omega) I g r h⟩
theorem ninop (hu : X.A.units + 65 < cLine) : InOpS X .NotIn true := ⟨op_notIn_seq, op_notInD hu, op_notin_str, fun D => op_notIn_kd D, fun I g r h => d_notIn (by omega) I g r h⟩
theorem wIn_inv {neg : Bool} {x y : D} {S : Store} {Q : Y.Q1} (h : Y.wIn neg x y S Q) : (∃ a b c, x = .str a ∧ y = .str b ∧ a.cps.toList = [c] ∧ Q (.bl (Y.negB neg (b.cps.toList.contains c))) S) ∨
    (∃ a ks vs, x = .str a ∧ y = .dK ks vs ∧ Q (.bl (Y.negB neg (ks.contains (.inr a)))) S) ∨ (∃ ys, Y.seqOf S y = some ys ∧
      ((Y.plain x = true ∧ ys.all Y.plain = true ∧ Q (.bl (Y.negB neg (ys.any fun z => Y.eqD z x))) S) ∨
       ((Y.lstOf S y).isSome = true ∧ x.dat = true ∧ Y.dats ys = true ∧ x.depth ≤ 64 ∧ Y.depths ys < 64 ∧ Q (.bl (Y.negB neg (ys.any fun z => Y.eqD z x))) S))) := by
  unfold Y.wIn at h
  split at h
  · split at h
    · rename_i e
      exact .inl ⟨_, _, _, rfl, rfl, e, h⟩
    · exact h.elim
  · exact .inr (.inl ⟨_, _, _, rfl, rfl, h⟩)
  · split at h
    · rename_i e
      split at h
      · rename_i p
        exact .inr (.inr ⟨_, e, .inl ⟨p, h.1, h.2.2⟩⟩)
      · exact .inr (.inr ⟨_, e, .inr h⟩)
    · exact h.elim
theorem any_py {x : D} (hx : x.dat = true) : ∀ ys : List D, Y.dats ys = true → ((toPys ys).any fun z => PyData.eqv z (toPy x)) = ys.any fun z => Y.eqD z x
  | [], _ => rfl
  | y :: ys, h => by
    have h : (y.dat && Y.dats ys) = true := h
    rw [Bool.and_eq_true] at h
    show (PyData.eqv (toPy y) (toPy x) || _) = _
    rw [List.any_cons, toPy_eq y x h.1 hx, ← any_py hx ys h.2]
theorem contains_valV {kvs : List (Ky × V)} {ks : List Ky} {k : Ky} (e : kvs.map (·.1) = ks) : (valV kvs k).isSome = ks.contains k := by
  subst e
  rw [← valV_any, List.contains_eq_any_beq, List.any_map]
  congr 1
  funext p
  show decide (p.1 = k) = (k == p.1)
  by_cases h : p.1 = k
  · rw [decide_eq_true h, h]; simp
  · rw [decide_eq_false h]
    exact (beq_eq_false_iff_ne.mpr fun z => h z.symm).symm
theorem o_in {op : CmpOp} {neg : Bool} (E : InOpS X op neg) : OpR X (compareOp op) (rD X (.inn neg)) := by
  rintro pins s σ0 H a b v u Q I ra rb ⟨xp, m, S, env, σ, x, y, Qa, M, rx, ry, h, g⟩
  rcases wIn_inv (show Y.wIn neg x y S Qa from h) with ⟨i, j, c, rfl, rfl, e, q⟩ | ⟨i, ks, vs, rfl, rfl, q⟩ | ⟨ys, e, ⟨hx, hy, q⟩ | ⟨hl, d1, d2, z1, z2, q⟩⟩
  · cases rep_str rx
    cases rep_str ry
    refine E.str pins s σ0 H _ _ v u Q I ra rb ⟨i, j, rfl, rfl, ?_⟩
    have ei : i = ⟨#[c]⟩ := by
      cases i
      simp only at e
      congr 1
      exact Array.toList_inj.mp e
    rw [ei, StrLaws.found_one, ← List.contains_eq_mem]
    exact g.here M (d := .bl _) rfl q
  · cases rep_str rx
    obtain ⟨_, p, rfl, ry⟩ := ry
    cases rb
    rcases ry with ⟨_, kvs, h1, h2, _⟩ | ⟨es, n, D, hd⟩
    · refine E.hd I (DGet.k (k := .inr i) h1) ra fun s' I' => ⟨.bl _, H, I', rfl, ?_⟩
      rw [contains_valV h2]
      exact g.here M (d := .bl _) rfl q
    · obtain ⟨r, e1, _, e3⟩ := hd i
      refine E.kd D pins s σ0 H _ (.ref p) v _ Q I ra rfl ⟨i, r, rfl, rfl, e1, ?_⟩
      rw [e3]
      exact g.here M (d := .bl _) rfl q
  · obtain ⟨p, vs, rfl, k1, l1⟩ := rep_seq M ry e
    refine E.seq pins s σ0 H _ _ v u Q I ra rb ⟨p, vs, rfl, k1, plain_flat hx rx, plains_flat hy l1, ?_⟩
    rw [plain_inV hx rx hy l1]
    exact g.here M (d := .bl _) rfl q
  · obtain ⟨zs, ez⟩ := Option.isSome_iff_exists.mp hl
    have : zs = ys := by
      cases y with
      | lst _ => cases ez; cases e; rfl
      | loc _ => exact Option.some.inj (ez.symm.trans e)
      | _ => cases ez
    subst this
    obtain ⟨p, vs, rfl, k1, l1⟩ := rep_lst M ry ez
    refine E.deep pins s σ0 H _ _ v u Q I ra rb ⟨toPy x, toPys zs, rep_dp d1 rx, .lst k1 (repL_dp d2 l1), shaped_of d1 z1, shaped_of (d := .lst zs) d2 (by show Y.depths zs + 1 ≤ 64; omega), ?_⟩
    rw [any_py d1 zs d2]
    exact g.here M (d := .bl _) rfl q
/-! ### subscripts -/
theorem ixOf_at {α : Type} {xs : List α} {i : Int} : Y.ixOf xs i = atI xs i := by
  unfold Y.ixOf atI ixN
  by_cases h : 0 ≤ i
  · rw [if_pos h, if_pos h]
    by_cases h2 : i < xs.length
    · rw [if_pos h2]; rfl
    · rw [if_neg h2]
      exact List.getElem?_eq_none (by omega)
  · rw [if_neg h, if_neg h]
    by_cases h2 : -(xs.length : Int) ≤ i
    · rw [if_pos h2, if_pos h2]; rfl
    · rw [if_neg h2, if_neg h2]; rfl
theorem repL_at {K : PySem.W.Frag} {w : World} {m : Ms} {H : Hp} {ds : List D} {vs : List V} {i : Int} {d : D} (r : RepL K w m H ds vs) (h : atI ds i = some d) : ∃ v, atI vs i = some v ∧ Rep K w m H d v := by
  unfold atI at h ⊢
  rw [r.length]
  cases e : ixN ds.length i with
  | none => rw [e] at h; cases h
  | some j =>
    rw [e] at h
    exact r.get h
theorem wIx_inv {x i : D} {S : Store} {Q : Y.Q1} (h : Y.wIx x i S Q) : (∃ z j c, x = .str z ∧ i = .int j ∧ z.length ≤ Y.line ∧ Y.ixOf z.cps.toList j = some c ∧ Q (.str ⟨#[c]⟩) S) ∨
    (∃ ks vs k v, x = .dK ks vs ∧ i = .str k ∧ (ks.zip vs).lookup (.inr k) = some v ∧ Q v S) ∨ (∃ j xs v, i = .int j ∧ Y.seqOf S x = some xs ∧ Y.ixOf xs j = some v ∧ Q v S) := by
  unfold Y.wIx at h
  split at h
  · obtain ⟨h1, h⟩ := h
    split at h
    · rename_i e
      exact .inl ⟨_, _, _, rfl, rfl, h1, e, h⟩
    · exact h.elim
  · split at h
    · rename_i e
      exact .inr (.inl ⟨_, _, _, _, rfl, rfl, e, h⟩)
    · exact h.elim
  · split at h
    · rename_i e
      split at h
      · rename_i e2
        exact .inr (.inr ⟨_, _, _, rfl, e, e2, h⟩)
      · exact h.elim
    · exact h.elim
  · exact h.elim
theorem rep_of_P {K : PySem.W.Frag} {w : World} {m : Ms} {H : Hp} {d : D} {v : V} (h : repP d v) : Rep K w m H d v := by
  cases d <;> first
    | exact h
    | exact h.elim
theorem lookup_valV {K : PySem.W.Frag} {w : World} {m : Ms} {H : Hp} {k : Ky} {d : D} : ∀ {kvs : List (Ky × V)} {ds : List D}, RepL K w m H ds (kvs.map (·.2)) → ((kvs.map (·.1)).zip ds).lookup k = some d → ∃ v, valV kvs k = some v ∧ Rep K w m H d v
  | [], ds, r, h => by cases h
  | (k2, v2) :: kvs, [], r, h => by cases h
  | (k2, v2) :: kvs, d2 :: ds, ⟨v, t, e, r1, r2⟩, h => by
    cases e
    rw [List.map_cons, List.zip_cons_cons, List.lookup_cons] at h
    by_cases hk : k = k2
    · subst hk
      rw [beq_self_eq_true] at h
      have h : some d2 = some d := h
      cases h
      exact ⟨_, valV_pos rfl, r1⟩
    · rw [beq_eq_false_iff_ne.mpr hk] at h
      obtain ⟨v', h1, h2⟩ := lookup_valV (kvs := kvs) (ds := ds) r2 h
      exact ⟨v', (valV_neg fun z => hk z.symm).trans h1, h2⟩
/-- d[key] of a tracked dict, as a rule of subscripts -/
theorem ix_dk (hu : X.A.units + 1 < cLine) : IxR X (fun x y H Q => ∃ a v, x = .ref a ∧ DGet H a y (some v) ∧ Q v H) := by
  rintro value slice pins s σ H x y v u Q I rx ry ⟨a, z, rfl, g, q⟩ hs
  cases rx
  exact tail_any (dict_typeIs I g) PySem.F.slot_dict_getitem.lookup (d_getItem hu I g ry fun w' s' I' r' => ⟨z, H, I', r', q⟩) hs
theorem o_ix (hu : X.A.units + 1 < cLine) : IxR X (rD X .ix) := by
  rintro value slice pins s σ0 H a b v u Q I ra rb ⟨xp, m, S, env, σ, x, y, Qa, M, rx, ry, h, g⟩ hs
  rcases wIx_inv (show Y.wIx x y S Qa from h) with ⟨z, j, c, rfl, rfl, hl, e, q⟩ | ⟨ks, vs, k, d, rfl, rfl, e, q⟩ | ⟨j, xs, d, rfl, e1, e2, q⟩
  · cases rep_str rx
    cases rep_int ry
    exact ix_str value slice pins s σ0 H _ _ v u Q I ra rb ⟨z, j, c, rfl, rfl, by rw [← line_eq]; exact hl, by rw [← ixOf_at]; exact e, g.here M (d := .str ⟨#[c]⟩) rfl q⟩ hs
  · cases rep_str ry
    obtain ⟨_, p, rfl, rx⟩ := rx
    rcases rx with ⟨_, kvs, h1, h2, h3⟩ | ⟨es, n, D, hd⟩
    · subst h2
      obtain ⟨v', e1, e2⟩ := lookup_valV h3 e
      exact ix_dk hu value slice pins s σ0 H _ _ v u Q I ra rb ⟨p, v', rfl, by rw [← e1]; exact DGet.k (k := .inr k) h1, g.here M e2 q⟩ hs
    · obtain ⟨r, e1, e2, _⟩ := hd k
      rw [e] at e2
      obtain ⟨u0, v0, rfl, r0, p0⟩ := e2
      exact ix_kdict value slice pins s σ0 H _ _ v u Q I ra rb ⟨p, k, v0, rfl, rfl, ⟨es, n, u0, D.at_, D.lit, e1, r0⟩, g.here M (rep_of_P p0) q⟩ hs
  · cases rep_int ry
    obtain ⟨p, vs, rfl, k1, l1⟩ := rep_seq M rx e1
    rw [ixOf_at] at e2
    obtain ⟨v', a1, a2⟩ := repL_at l1 e2
    rcases k1 with k1 | k1
    · exact ix_list value slice pins s σ0 H _ _ v u Q I ra rb ⟨p, vs, j, v', rfl, rfl, k1, a1, g.here M a2 q⟩ hs
    · exact ix_tup value slice pins s σ0 H _ _ v u Q I ra rb ⟨p, vs, j, v', rfl, rfl, k1, a1, g.here M a2 q⟩ hs
end
end YL
/-! YOps4: slices, calls of builtins, isinstance, is None, methods. -/
namespace YL
open PySem PySem.Spec PySem.Calls PyProof.Rows L2
open Y (D O Store En Ky)
/-! ### slices -/
section
variable {X : Cx} {J : Jb} {e a b c : Expr} {es : List Expr} {pos p2 : Pos} {ia ib ic il ih : Y.E} {ias : List Y.E}
def dOf : Option Int → D
  | none => .non
  | some i => .int i
def rSlD (X : Cx) (fz : Bool) : V → Option Int → Option Int → Hp → VK → Prop := fun v lo hi H Q => ∃ (xp : Nat → Option (Option V) → Prop) (m : Ms) (S : Store) (env : En) (σ : L2.St) (x : D) (Qa : Y.Q1),
  Mt X.K X.w xp m S env σ H ∧ Rep X.K X.w m H x v ∧ Y.wCut fz x (dOf lo) (dOf hi) S Qa ∧ Got X xp m H env σ Qa Q
theorem cutIx_some {n k : Nat} {o : Option Int} : Y.cutIx n k (dOf o) = some (HT.sIx n k o) := by
  cases o with
  | none => rfl
  | some i =>
    show some (if 0 ≤ i then min i.toNat n else (i + n).toNat) = some (if i < 0 then (i + (n : Int)).toNat else min i.toNat n)
    by_cases h : 0 ≤ i
    · rw [if_pos h, if_neg (by omega)]
    · rw [if_neg h, if_pos (by omega)]
theorem wCut_inv {fz : Bool} {x : D} {lo hi : Option Int} {S : Store} {Q : Y.Q1} (h : Y.wCut fz x (dOf lo) (dOf hi) S Q) : (∃ z, x = .str z ∧ z.length ≤ Y.line ∧ Q (.str ⟨(Y.cutOf z.cps.toList (HT.sIx z.cps.size 0 lo) (HT.sIx z.cps.size z.cps.size hi)).toArray⟩) S) ∨
    (∃ xs, x = .tup xs ∧ Q (.tup (Y.cutOf xs (HT.sIx xs.length 0 lo) (HT.sIx xs.length xs.length hi))) S) ∨ (∃ xs, Y.lstOf S x = some xs ∧ Y.newL fz (Y.cutOf xs (HT.sIx xs.length 0 lo) (HT.sIx xs.length xs.length hi)) S Q) := by
  unfold Y.wCut at h
  split at h
  · rw [cutIx_some, cutIx_some] at h
    exact .inl ⟨_, rfl, h.1, h.2⟩
  · rw [cutIx_some, cutIx_some] at h
    exact .inr (.inl ⟨_, rfl, h⟩)
  · split at h
    · rename_i e
      rw [cutIx_some, cutIx_some] at h
      exact .inr (.inr ⟨_, e, h⟩)
    · exact h.elim
theorem repL_cut {K : PySem.W.Frag} {w : World} {m : Ms} {H : Hp} {ds : List D} {vs : List V} (r : RepL K w m H ds vs) (lo hi : Option Int) : RepL K w m H (Y.cutOf ds (HT.sIx ds.length 0 lo) (HT.sIx ds.length ds.length hi)) (cutV vs lo hi) := by
  unfold Y.cutOf cutV
  rw [r.length]
  exact (r.drop _).take _
theorem sl_D {fz : Bool} : SlR X (rSlD X fz) := by
  rintro pins s σ0 H a v vl vu lo hi sl Q I ra hs pl pu ⟨xp, m, S, env, σ, x, Qa, M, rx, h, g⟩
  rcases wCut_inv h with ⟨z, rfl, hl, q⟩ | ⟨xs, rfl, q⟩ | ⟨xs, e, q⟩
  · cases rep_str rx
    exact sl_str pins s σ0 H _ v vl vu lo hi sl Q I ra hs pl pu ⟨z, rfl, by rw [← line_eq]; exact hl, g.here M (d := .str (cutS z lo hi)) rfl q⟩
  · obtain ⟨p, vs, rfl, k1, l1⟩ := rx
    have lc := repL_cut l1 lo hi
    refine sl_tupA pins s σ0 H _ v vl vu lo hi sl Q I ra hs pl pu ⟨p, vs, rfl, k1, fun z => ?_, fun _ p2 hp => newT_use (X := X) M lc q hp g⟩
    have e : cutV vs lo hi = vs := by
      unfold cutV
      rw [z.1, z.2, List.drop_zero, Nat.sub_zero, List.take_length]
    rw [e] at lc
    exact g.here M (d := .tup _) ⟨p, vs, rfl, k1, lc⟩ q
  · obtain ⟨p, vs, rfl, k1, l1⟩ := rep_lst M rx e
    exact sl_list pins s σ0 H _ v vl vu lo hi sl Q I ra hs pl pu ⟨p, vs, rfl, k1, fun p2 hp => newL_use (X := X) M (repL_cut l1 lo hi) q hp g⟩
theorem cutL_inv {fz : Bool} {x y : D} {S : Store} {Q : Y.Q1} (h : Y.wCutA fz true false [x, y] S Q) : ∃ i, y = .int i ∧ Y.wCut fz x (.int i) .non S Q := by
  cases y with
  | int i => exact ⟨i, rfl, h⟩
  | _ => exact h.elim
theorem cutR_inv {fz : Bool} {x y : D} {S : Store} {Q : Y.Q1} (h : Y.wCutA fz false true [x, y] S Q) : ∃ i, y = .int i ∧ Y.wCut fz x .non (.int i) S Q := by
  cases y with
  | int i => exact ⟨i, rfl, h⟩
  | _ => exact h.elim
theorem qe_cut0 {fz : Bool} (ha : QE X J a ia) : QE X J (.Subscript a (.Slice none none none p2) pos) (.op (.cut fz false false) [ia]) := by
  refine peImp (pe_slice (sl_D (fz := fz)) ha po_none po_none) ?_
  rintro σ H Q ⟨m, S, env, Qa, Wa, M, hw, hq, hx⟩
  refine ⟨m, S, env, _, Wa, M, hw, fun x H1 m1 S1 d1 M1 k1 r1 q1 => ?_, hx⟩
  exact ⟨J.xp, m1, S1, env, σ, d1, Qa, M1, r1, q1, Got.step hq k1⟩
theorem qe_cutL {fz : Bool} (ha : QE X J a ia) (hl : QE X J b il) : QE X J (.Subscript a (.Slice (some b) none none p2) pos) (.op (.cut fz true false) [ia, il]) := by
  refine peImp (pe_slice (sl_D (fz := fz)) ha (po_some hl) po_none) ?_
  rintro σ H Q ⟨m, S, env, Qa, Wa, M, hw, hq, hx⟩
  refine ⟨m, S, env, _, Wa, M, hw, fun x H1 m1 S1 d1 M1 k1 r1 q1 => ?_, hx⟩
  refine ⟨m1, S1, env, _, Wa, M1, q1, fun y H2 m2 S2 d2 M2 k2 r2 q2 => ?_, hx.mono k1⟩
  obtain ⟨i, rfl, q2⟩ := cutL_inv q2
  cases rep_int r2
  exact ⟨i, rfl, J.xp, m2, S2, env, σ, d1, Qa, M2, k2.rep M1.noTup r1, q2, Got.step hq (k1.trans k2)⟩
theorem qe_cutR {fz : Bool} (ha : QE X J a ia) (hl : QE X J b il) : QE X J (.Subscript a (.Slice none (some b) none p2) pos) (.op (.cut fz false true) [ia, il]) := by
  refine peImp (pe_slice (sl_D (fz := fz)) ha po_none (po_some hl)) ?_
  rintro σ H Q ⟨m, S, env, Qa, Wa, M, hw, hq, hx⟩
  refine ⟨m, S, env, _, Wa, M, hw, fun x H1 m1 S1 d1 M1 k1 r1 q1 => ?_, hx⟩
  refine ⟨m1, S1, env, _, Wa, M1, q1, fun y H2 m2 S2 d2 M2 k2 r2 q2 => ?_, hx.mono k1⟩
  obtain ⟨i, rfl, q2⟩ := cutR_inv q2
  cases rep_int r2
  exact ⟨i, rfl, J.xp, m2, S2, env, σ, d1, Qa, M2, k2.rep M1.noTup r1, q2, Got.step hq (k1.trans k2)⟩
theorem asI_inv {Q : Int → Store → Prop} {d : D} {S : Store} (h : Y.asI Q d S) : ∃ i, d = .int i ∧ Q i S := by
  cases d with
  | int i => exact ⟨i, rfl, h⟩
  | _ => exact h.elim
theorem qe_cutB {fz : Bool} (ha : QE X J a ia) (hl : QE X J b il) (hu : QE X J c ic) : QE X J (.Subscript a (.Slice (some b) (some c) none p2) pos) (.cut2 fz ia il ic) := by
  refine peImp (pe_slice (sl_D (fz := fz)) ha (po_some hl) (po_some hu)) ?_
  rintro σ H Q ⟨m, S, env, Qa, Wa, M, hw, hq, hx⟩
  refine ⟨m, S, env, _, Wa, M, hw, fun x H1 m1 S1 d1 M1 k1 r1 q1 => ?_, hx⟩
  refine ⟨m1, S1, env, _, Wa, M1, q1, fun y H2 m2 S2 d2 M2 k2 r2 q2 => ?_, hx.mono k1⟩
  obtain ⟨i, rfl, q2⟩ := asI_inv q2
  cases rep_int r2
  refine ⟨i, rfl, m2, S2, env, _, Wa, M2, q2, fun z H3 m3 S3 d3 M3 k3 r3 q3 => ?_, hx.mono (k1.trans k2)⟩
  obtain ⟨j, rfl, q3⟩ := asI_inv q3
  cases rep_int r3
  exact ⟨j, rfl, J.xp, m3, S3, env, σ, d1, Qa, M3, k3.rep M2.noTup (k2.rep M1.noTup r1), q3, Got.step hq ((k1.trans k2).trans k3)⟩
/-! ### is None -/
theorem isN_dec {K : PySem.W.Frag} {w : World} {m : Ms} {H : Hp} {d : D} {v : V} (r : Rep K w m H d v) : decide (v = .non) = Y.isNone d := by
  cases d with
  | non => cases (show v = .non from r); rfl
  | bl b => cases (show v = .bl b from r); rfl
  | int b => cases (show v = .int b from r); rfl
  | str b => cases (show v = .str b from r); rfl
  | tup _ => obtain ⟨_, _, rfl, _⟩ := r; rfl
  | lst _ => obtain ⟨_, _, _, rfl, _⟩ := r; rfl
  | dK _ _ => obtain ⟨_, _, rfl, _⟩ := r; rfl
  | dT _ _ => obtain ⟨_, _, rfl, _⟩ := r; rfl
  | loc _ => obtain ⟨_, rfl, _⟩ := r; rfl
theorem qe_isN {j : Nat} {p : Pos} (ha : QE X J a ia) : QE X J (.Compare a [.Is] [.Constant .none j p] pos) (.op .isN [ia]) := by
  refine peImp (pe_cmpR op_isN ha pe_non (by rfl)) ?_
  rintro σ H Q ⟨m, S, env, Qa, Wa, M, hw, hq, hx⟩
  refine ⟨m, S, env, _, Wa, M, hw, fun x H1 m1 S1 d1 M1 k1 r1 q1 => ?_, hx⟩
  refine ⟨rfl, ?_⟩
  rw [isN_dec r1]
  exact hq _ H1 m1 S1 (.bl _) M1 k1 rfl q1
theorem qe_notN {j : Nat} {p : Pos} (ha : QE X J a ia) : QE X J (.Compare a [.IsNot] [.Constant .none j p] pos) (.op .notN [ia]) := by
  refine peImp (pe_cmpR op_notN ha pe_non (by rfl)) ?_
  rintro σ H Q ⟨m, S, env, Qa, Wa, M, hw, hq, hx⟩
  refine ⟨m, S, env, _, Wa, M, hw, fun x H1 m1 S1 d1 M1 k1 r1 q1 => ?_, hx⟩
  refine ⟨rfl, ?_⟩
  rw [isN_dec r1]
  exact hq _ H1 m1 S1 (.bl _) M1 k1 rfl q1
theorem qt_isN {j : Nat} {p : Pos} (ha : QE X J a ia) : QT X J (.Compare a [.Is] [.Constant .none j p] pos) (.op .isN [ia]) := by
  refine ptImp (pt_cmpR op_isN ha pe_non (by rfl)) ?_
  rintro σ H Q ⟨m, S, env, Qa, Wa, M, hw, hq, hx⟩
  refine ⟨m, S, env, _, Wa, M, hw, fun x H1 m1 S1 d1 M1 k1 r1 q1 => ?_, hx⟩
  refine ⟨rfl, _, rfl, ?_⟩
  rw [isN_dec r1]
  exact hq _ H1 m1 S1 M1 k1 (show Qa (Y.isNone d1) S1 from q1)
theorem qt_notN {j : Nat} {p : Pos} (ha : QE X J a ia) : QT X J (.Compare a [.IsNot] [.Constant .none j p] pos) (.op .notN [ia]) := by
  refine ptImp (pt_cmpR op_notN ha pe_non (by rfl)) ?_
  rintro σ H Q ⟨m, S, env, Qa, Wa, M, hw, hq, hx⟩
  refine ⟨m, S, env, _, Wa, M, hw, fun x H1 m1 S1 d1 M1 k1 r1 q1 => ?_, hx⟩
  refine ⟨rfl, _, rfl, ?_⟩
  rw [isN_dec r1]
  exact hq _ H1 m1 S1 M1 k1 (show Qa (!Y.isNone d1) S1 from q1)
/-! ### is True, is False -/
theorem wBB_inv {f : Bool → Bool → Bool} {ds : List D} {S : Store} {Q : Y.Q1} (h : Y.wBB f ds S Q) : ∃ i j, ds = [.bl i, .bl j] ∧ Q (.bl (f i j)) S := by
  unfold Y.wBB at h
  split at h
  · exact ⟨_, _, rfl, h⟩
  · exact h.elim
theorem o_isB : OpR X (compareOp .Is) (rD X .isB) := by
  rintro pins s σ0 H a b v u Q I ra rb ⟨xp, m, S, env, σ, x, y, Qa, M, rx, ry, h, g⟩
  obtain ⟨i, j, e, q⟩ := wBB_inv h
  cases e
  cases rep_bl rx
  cases rep_bl ry
  refine op_isBl pins s σ0 H _ _ v u Q I ra rb ⟨i, j, rfl, rfl, ?_⟩
  rw [show decide (i = j) = (i == j) by cases i <;> cases j <;> rfl]
  exact g.here M (d := .bl _) rfl q
theorem o_notB : OpR X (compareOp .IsNot) (rD X .notB) := by
  rintro pins s σ0 H a b v u Q I ra rb ⟨xp, m, S, env, σ, x, y, Qa, M, rx, ry, h, g⟩
  obtain ⟨i, j, e, q⟩ := wBB_inv h
  cases e
  cases rep_bl rx
  cases rep_bl ry
  refine op_notBl pins s σ0 H _ _ v u Q I ra rb ⟨i, j, rfl, rfl, ?_⟩
  rw [show decide (i = j) = (i == j) by cases i <;> cases j <;> rfl]
  exact g.here M (d := .bl _) rfl q
/-! ### builtins -/
theorem wLen_inv {x : D} {S : Store} {Q : Y.Q1} (h : Y.wLen x S Q) : (∃ z, x = .str z ∧ z.length ≤ Y.line ∧ Q (.int z.length) S) ∨ (∃ xs, Y.seqOf S x = some xs ∧ Q (.int xs.length) S) := by
  unfold Y.wLen at h
  split at h
  · exact .inl ⟨_, rfl, h.1, h.2⟩
  · split at h
    · rename_i e
      exact .inr ⟨_, e, h⟩
    · exact h.elim
theorem w1_inv {K : D → Prop} {ds : List D} (h : Y.w1 K ds) : ∃ x, ds = [x] ∧ K x := by
  match ds, h with
  | [x], h => exact ⟨x, rfl, h⟩
theorem w2_inv {K : D → D → Prop} {ds : List D} (h : Y.w2 K ds) : ∃ x y, ds = [x, y] ∧ K x y := by
  match ds, h with
  | [x, y], h => exact ⟨x, y, rfl, h⟩
theorem c_len : CallR X (.builtin "len") (rDn X .len) := by
  rintro pins s σ0 H vs us Q I r ⟨xp, m, S, env, σ, ds, Qa, M, rs, h, g⟩
  obtain ⟨x, rfl, h⟩ := w1_inv h
  obtain ⟨v, t, rfl, rx, et⟩ := rs
  cases (show t = [] from et)
  rcases wLen_inv h with ⟨z, rfl, hl, q⟩ | ⟨xs, e, q⟩
  · cases rep_str rx
    exact call_len pins s σ0 H _ us Q I r ⟨_, z.length, rfl, ⟨by rw [← line_eq]; exact hl, rfl⟩, g.here M (d := .int _) rfl q⟩
  · obtain ⟨p, vs, rfl, k1, l1⟩ := rep_seq M rx e
    refine call_len pins s σ0 H _ us Q I r ⟨_, vs.length, rfl, k1.imp (fun k => ⟨vs, k, rfl⟩) (fun k => ⟨vs, k, rfl⟩), ?_⟩
    rw [l1.length]
    exact g.here M (d := .int _) rfl q
theorem c_max2 (hc : X.calm = true) : CallR X (.builtin "max") (rDn X .max2) := by
  rintro pins s σ0 H vs us Q I r ⟨xp, m, S, env, σ, ds, Qa, M, rs, h, g⟩
  obtain ⟨i, j, rfl, q⟩ := wII_inv h
  obtain ⟨v, t, rfl, rx, v2, t2, rfl, ry, et⟩ := rs
  cases (show t2 = [] from et)
  cases rep_int rx
  cases rep_int ry
  exact call_max2 hc pins s σ0 H _ us Q I r ⟨i, j, rfl, g.here M (d := .int _) rfl q⟩
theorem c_min2 (hc : X.calm = true) : CallR X (.builtin "min") (rDn X .min2) := by
  rintro pins s σ0 H vs us Q I r ⟨xp, m, S, env, σ, ds, Qa, M, rs, h, g⟩
  obtain ⟨i, j, rfl, q⟩ := wII_inv h
  obtain ⟨v, t, rfl, rx, v2, t2, rfl, ry, et⟩ := rs
  cases (show t2 = [] from et)
  cases rep_int rx
  cases rep_int ry
  exact call_min2 hc pins s σ0 H _ us Q I r ⟨i, j, rfl, g.here M (d := .int _) rfl q⟩
theorem wInt1_inv {ds : List D} {S : Store} {Q : Y.Q1} (h : Y.wInt1 ds S Q) : (∃ i, ds = [.int i] ∧ Q (.int i) S) ∨ (∃ b, ds = [.bl b] ∧ Q (.int (Y.b2i b)) S) := by
  unfold Y.wInt1 at h
  split at h
  · exact .inl ⟨_, rfl, h⟩
  · exact .inr ⟨_, rfl, h⟩
  · exact h.elim
theorem c_int1 : CallR X (.type "int") (rDn X .int1) := by
  rintro pins s σ0 H vs us Q I r ⟨xp, m, S, env, σ, ds, Qa, M, rs, h, g⟩
  rcases wInt1_inv h with ⟨i, rfl, q⟩ | ⟨i, rfl, q⟩
  · obtain ⟨v, t, rfl, rx, et⟩ := rs
    cases (show t = [] from et)
    cases rep_int rx
    exact call_int1 pins s σ0 H _ us Q I r (.inl ⟨i, rfl, g.here M (d := .int _) rfl q⟩)
  · obtain ⟨v, t, rfl, rx, et⟩ := rs
    cases (show t = [] from et)
    cases rep_bl rx
    exact call_int1 pins s σ0 H _ us Q I r (.inr ⟨i, rfl, g.here M (d := .int (Y.b2i i)) rfl q⟩)
theorem wStr1_inv {ds : List D} {S : Store} {Q : Y.Q1} (h : Y.wStr1 ds S Q) : ∃ i, ds = [.int i] ∧ i.natAbs.log2 < 1920 ∧ Q (.str (toString i : String)) S := by
  unfold Y.wStr1 at h
  split at h
  · exact ⟨_, rfl, h.1, h.2⟩
  · exact h.elim
theorem c_str1 : CallR X (.type "str") (rDn X .str1) := by
  rintro pins s σ0 H vs us Q I r ⟨xp, m, S, env, σ, ds, Qa, M, rs, h, g⟩
  obtain ⟨i, rfl, hb, q⟩ := wStr1_inv h
  obtain ⟨v, t, rfl, rx, et⟩ := rs
  cases (show t = [] from et)
  cases rep_int rx
  exact call_str_int pins s σ0 H _ us Q I r ⟨i, rfl, hb, g.here M (d := .str _) rfl q⟩
theorem repL_ints {K : PySem.W.Frag} {w : World} {m : Ms} {H : Hp} : ∀ {ds : List D} {vs : List V} {ns : List Int}, RepL K w m H ds vs → Y.intsOf ds = some ns → vs = ns.map V.int
  | [], vs, ns, r, h => by cases h; exact r
  | d :: ds, _, ns, ⟨v, t, rfl, r1, r2⟩, h => by
    cases d with
    | int i =>
      have h : (Y.intsOf ds).map (i :: ·) = some ns := h
      cases e : Y.intsOf ds with
      | none => rw [e] at h; cases h
      | some ms =>
        rw [e] at h
        cases h
        cases rep_int r1
        rw [repL_ints r2 e]
        rfl
    | _ => cases h
theorem repL_bools {K : PySem.W.Frag} {w : World} {m : Ms} {H : Hp} : ∀ {ds : List D} {vs : List V} {ns : List Bool}, RepL K w m H ds vs → Y.boolsOf ds = some ns → vs = ns.map V.bl
  | [], vs, ns, r, h => by cases h; exact r
  | d :: ds, _, ns, ⟨v, t, rfl, r1, r2⟩, h => by
    cases d with
    | bl i =>
      have h : (Y.boolsOf ds).map (i :: ·) = some ns := h
      cases e : Y.boolsOf ds with
      | none => rw [e] at h; cases h
      | some ms =>
        rw [e] at h
        cases h
        cases rep_bl r1
        rw [repL_bools r2 e]
        rfl
    | _ => cases h
theorem wInts_use {K : PySem.W.Frag} {w : World} {xp : Nat → Option (Option V) → Prop} {m : Ms} {S : Store} {env : En} {σ : L2.St} {H : Hp} {x : D} {v : V} {P : List Int → Prop} (M : Mt K w xp m S env σ H) (r : Rep K w m H x v) (h : Y.wInts x S P) : ∃ a ns, v = .ref a ∧ SqL K H a (ns.map V.int) ∧ P ns := by
  unfold Y.wInts at h
  split at h
  · rename_i e
    split at h
    · rename_i e2
      obtain ⟨a, vs, rfl, k, l⟩ := rep_lst M r e
      rw [repL_ints l e2] at k
      exact ⟨a, _, rfl, k, h⟩
    · exact h.elim
  · exact h.elim
theorem wBools_use {K : PySem.W.Frag} {w : World} {xp : Nat → Option (Option V) → Prop} {m : Ms} {S : Store} {env : En} {σ : L2.St} {H : Hp} {x : D} {v : V} {P : List Bool → Prop} (M : Mt K w xp m S env σ H) (r : Rep K w m H x v) (h : Y.wBools x S P) : ∃ a ns, v = .ref a ∧ SqL K H a (ns.map V.bl) ∧ P ns := by
  unfold Y.wBools at h
  split at h
  · rename_i e
    split at h
    · rename_i e2
      obtain ⟨a, vs, rfl, k, l⟩ := rep_lst M r e
      rw [repL_bools l e2] at k
      exact ⟨a, _, rfl, k, h⟩
    · exact h.elim
  · exact h.elim
theorem c_sum (hc : X.calm = true) : CallR X (.builtin "sum") (rDn X .sum) := by
  rintro pins s σ0 H vs us Q I r ⟨xp, m, S, env, σ, ds, Qa, M, rs, h, g⟩
  obtain ⟨x, rfl, h⟩ := w1_inv h
  obtain ⟨v, t, rfl, rx, et⟩ := rs
  cases (show t = [] from et)
  obtain ⟨a, ns, rfl, k, q⟩ := wInts_use M rx h
  exact cr_sum hc pins s σ0 H _ us Q I r ⟨a, ns, rfl, k, g.here M (d := .int _) rfl q⟩
theorem c_maxL (hc : X.calm = true) : CallR X (.builtin "max") (rDn X .maxL) := by
  rintro pins s σ0 H vs us Q I r ⟨xp, m, S, env, σ, ds, Qa, M, rs, h, g⟩
  obtain ⟨x, rfl, h⟩ := w1_inv h
  obtain ⟨v, t, rfl, rx, et⟩ := rs
  cases (show t = [] from et)
  obtain ⟨a, ns, rfl, k, hl, q⟩ := wInts_use M rx h
  exact cr_max hc pins s σ0 H _ us Q I r ⟨a, ns, rfl, k, hl, fun mm h1 h2 => g.here M (d := .int mm) rfl (q mm h1 h2)⟩
theorem c_minL (hc : X.calm = true) : CallR X (.builtin "min") (rDn X .minL) := by
  rintro pins s σ0 H vs us Q I r ⟨xp, m, S, env, σ, ds, Qa, M, rs, h, g⟩
  obtain ⟨x, rfl, h⟩ := w1_inv h
  obtain ⟨v, t, rfl, rx, et⟩ := rs
  cases (show t = [] from et)
  obtain ⟨a, ns, rfl, k, hl, q⟩ := wInts_use M rx h
  exact cr_min hc pins s σ0 H _ us Q I r ⟨a, ns, rfl, k, hl, fun mm h1 h2 => g.here M (d := .int mm) rfl (q mm h1 h2)⟩
theorem c_all (hc : X.calm = true) : CallR X (.builtin "all") (rDn X .all) := by
  rintro pins s σ0 H vs us Q I r ⟨xp, m, S, env, σ, ds, Qa, M, rs, h, g⟩
  obtain ⟨x, rfl, h⟩ := w1_inv h
  obtain ⟨v, t, rfl, rx, et⟩ := rs
  cases (show t = [] from et)
  obtain ⟨a, ns, rfl, k, q⟩ := wBools_use M rx h
  exact cr_all hc pins s σ0 H _ us Q I r ⟨a, ns, rfl, k, g.here M (d := .bl _) rfl q⟩
theorem c_any (hc : X.calm = true) : CallR X (.builtin "any") (rDn X .any) := by
  rintro pins s σ0 H vs us Q I r ⟨xp, m, S, env, σ, ds, Qa, M, rs, h, g⟩
  obtain ⟨x, rfl, h⟩ := w1_inv h
  obtain ⟨v, t, rfl, rx, et⟩ := rs
  cases (show t = [] from et)
  obtain ⟨a, ns, rfl, k, q⟩ := wBools_use M rx h
  exact cr_any hc pins s σ0 H _ us Q I r ⟨a, ns, rfl, k, g.here M (d := .bl _) rfl q⟩
theorem wSeq_inv {x : D} {S : Store} {P : List D → Prop} (h : Y.wSeq x S P) : ∃ xs, Y.seqOf S x = some xs ∧ P xs := by
  unfold Y.wSeq at h
  split at h
  · rename_i e
    exact ⟨_, e, h⟩
  · exact h.elim
theorem c_list1 {fz : Bool} : CallR X (.type "list") (rDn X (.list1 fz)) := by
  rintro pins s σ0 H vs us Q I r ⟨xp, m, S, env, σ, ds, Qa, M, rs, h, g⟩
  obtain ⟨x, rfl, h⟩ := w1_inv h
  obtain ⟨v, t, rfl, rx, et⟩ := rs
  cases (show t = [] from et)
  obtain ⟨xs, e, q⟩ := wSeq_inv h
  obtain ⟨p, ws, rfl, k, l⟩ := rep_seq M rx e
  exact call_list_of pins s σ0 H _ us Q I r ⟨p, ws, rfl, k, fun p2 hp => newL_use (X := X) M l q hp g⟩
theorem c_tuple1 : CallR X (.type "tuple") (rDn X .tuple1) := by
  rintro pins s σ0 H vs us Q I r ⟨xp, m, S, env, σ, ds, Qa, M, rs, h, g⟩
  obtain ⟨x, rfl, h⟩ := w1_inv h
  obtain ⟨v, t, rfl, rx, et⟩ := rs
  cases (show t = [] from et)
  obtain ⟨xs, e, q⟩ := wSeq_inv h
  rcases seq_lst e with ⟨ys, rfl, rfl⟩ | e
  · obtain ⟨p, ws, rfl, k, l⟩ := rx
    exact call_tuple_of pins s σ0 H _ us Q I r ⟨p, ws, rfl, .inr ⟨k, g.here M (d := .tup ys) ⟨p, ws, rfl, k, l⟩ q⟩⟩
  · obtain ⟨p, ws, rfl, k, l⟩ := rep_lst M rx e
    exact call_tuple_of pins s σ0 H _ us Q I r ⟨p, ws, rfl, .inl ⟨k, fun p2 hp => newT_use (X := X) M l q hp g⟩⟩
end
end YL
/-! YOps5: isinstance, methods, displays of dicts. -/
namespace YL
open PySem PySem.Spec PySem.Calls PyProof.Rows L2
open Y (D O Store En Ky)
/-! ### isinstance -/
inductive TN where
  | non | bool | int | str | list | tuple | dict
def TN.s : TN → String
  | .non => "NoneType"
  | .bool => "bool"
  | .int => "int"
  | .str => "str"
  | .list => "list"
  | .tuple => "tuple"
  | .dict => "dict"
def tyS : Y.Ty → String
  | .int => "int"
  | .bool => "bool"
  | .str => "str"
  | .list => "list"
  | .tuple => "tuple"
  | .dict => "dict"
def tnO : O → TN
  | .lst _ => .list
  | .dK _ _ => .dict
  | .dT _ _ => .dict
def tnOf (S : Store) : D → TN
  | .non => .non
  | .bl _ => .bool
  | .int _ => .int
  | .str _ => .str
  | .tup _ => .tuple
  | .lst _ => .list
  | .dK _ _ => .dict
  | .dT _ _ => .dict
  | .loc i => match S[i]? with
    | some o => tnO o
    | none => .non
def tnIs : TN → Y.Ty → Bool
  | .bool, .bool => true
  | .bool, .int => true
  | .int, .int => true
  | .str, .str => true
  | .list, .list => true
  | .tuple, .tuple => true
  | .dict, .dict => true
  | _, _ => false
theorem kit_tab (a : TN) (t : Y.Ty) : kitB a.s (tyS t) = some (tnIs a t) := by cases a <;> cases t <;> decide +kernel
theorem isTy_tn {S : Store} {t : Y.Ty} {d : D} (h : ∀ i, d = .loc i → ∃ o, S[i]? = some o) : Y.isTy S t d = tnIs (tnOf S d) t := by
  cases d with
  | loc i =>
    obtain ⟨o, e⟩ := h i rfl
    have e2 : tnOf S (.loc i) = tnO o := by show (match S[i]? with | some o => tnO o | none => .non) = _; rw [e]
    rw [e2]
    cases t <;> cases o <;> first
      | rfl
      | (show (match S[i]? with | some (.lst _) => true | _ => false) = _; rw [e]; rfl)
      | (show (match S[i]? with | some (.dK _ _) => true | some (.dT _ _) => true | _ => false) = _; rw [e]; rfl)
  | _ => cases t <;> rfl
section
variable {X : Cx} {J : Jb} {e a b c : Expr} {es : List Expr} {pos p2 : Pos} {ia ib ic : Y.E} {ias : List Y.E}
theorem rep_ty {xp : Nat → Option (Option V) → Prop} {m : Ms} {S : Store} {env : En} {σ : L2.St} {H : Hp} {d : D} {v : V} (M : Mt X.K X.w xp m S env σ H) (r : Rep X.K X.w m H d v) : TyX X.K H v (.type (tnOf S d).s) ∧ ∀ i, d = .loc i → ∃ o, S[i]? = some o := by
  cases d with
  | non => cases (show v = .non from r); exact ⟨.base .non, fun _ z => by cases z⟩
  | bl b => cases (show v = .bl b from r); exact ⟨.base (.bl b), fun _ z => by cases z⟩
  | int i => cases (show v = .int i from r); exact ⟨.base (.int i), fun _ z => by cases z⟩
  | str x => cases (show v = .str x from r); exact ⟨.base (.str x), fun _ z => by cases z⟩
  | tup xs =>
    obtain ⟨p, vs, rfl, k, _⟩ := r
    refine ⟨?_, fun _ z => by cases z⟩
    rcases k with (k | ⟨o, k⟩) | ⟨o, its, n, k, hc, _⟩
    · exact .base (.tup k)
    · exact .fTuple k
    · exact .kTuple k hc
  | lst xs =>
    obtain ⟨_, p, vs, rfl, k, _⟩ := r
    refine ⟨?_, fun _ z => by cases z⟩
    rcases k with ⟨_, k | ⟨o, k⟩⟩ | ⟨o, its, n, k, hc, _⟩
    · exact .base (.lst k)
    · exact .base (.frz k)
    · exact .kList k hc
  | dK ks xs =>
    obtain ⟨_, p, rfl, k⟩ := r
    refine ⟨?_, fun _ z => by cases z⟩
    rcases k with ⟨_, kvs, k, _⟩ | ⟨es, n, D, _⟩
    · exact .base (.dK k)
    · exact .kDict D.at_ rfl
  | dT ks xs =>
    obtain ⟨_, p, rfl, _, kvs, k, _⟩ := r
    exact ⟨.base (.dT k), fun _ z => by cases z⟩
  | loc i =>
    obtain ⟨p, rfl, hp⟩ := r
    have hi : i < S.length := by
      rw [← M.len]
      exact (List.getElem?_eq_some_iff.mp hp).1
    obtain ⟨p', ho, h1, h2, h3⟩ := M.obj i _ (List.getElem?_eq_getElem hi)
    rw [hp] at h1
    cases h1
    refine ⟨?_, fun j z => by cases z; exact ⟨_, List.getElem?_eq_getElem hi⟩⟩
    have e2 : tnOf S (.loc i) = tnO S[i] := by show (match S[i]? with | some o => tnO o | none => .non) = _; rw [List.getElem?_eq_getElem hi]
    rw [e2]
    cases q : S[i] <;> rw [q] at h3 <;> cases ho <;> first
      | exact h3.elim
      | exact .base (.lst h2)
      | exact .base (.dK h2)
      | exact .base (.dT h2)
theorem qe_isi {t : Y.Ty} {y : Str} {p1 pt : Pos} (hx : Gl X "isinstance") (hm : X.mg "isinstance" = none) (hy : Gl X y) (hmy : X.mg y = none) (ha : QE X J a ia) (hv : bootBuiltins y = some (.type (tyS t)) := by rfl) (hny : y ≠ "__name__" := by decide) (hdy : (y == ("__debug__" : Str)) = false := by decide)
    (he : starEach [a, .Name y pt] X.env = (false, eval a X.env) :: starEach [.Name y pt] X.env := by rfl) (hpl : (backTo pos (starEach [.Name y pt] X.env)).any (·.1) = false := by rfl) :
    QE X J (.Call (.Name "isinstance" p1) [a, .Name y pt] [] pos) (.op (.isi t) [ia]) := by
  refine peImp (pe_callB call_isi hx hm (by rfl) (pa_cons ha (pa_cons (pe_bltn (v := .ty (tyS t)) hy hmy hv rfl hny hdy) pa_nil) he) (by decide) (by decide) he hpl) ?_
  rintro σ H Q ⟨m, S, env, Qa, Wa, M, hw, hq, hx⟩
  refine ⟨m, S, env, _, Wa, M, hw, fun x H1 m1 S1 d1 M1 k1 r1 q1 => ?_, hx⟩
  obtain ⟨ty, hl⟩ := rep_ty M1 r1
  have q1 : Qa (.bl (Y.isTy S1 t d1)) S1 := q1
  rw [isTy_tn hl] at q1
  exact ⟨x, .ty (tyS t), _, _, _, rfl, .ty _, ty, kit_ty (kit_tab _ t), hq _ H1 m1 S1 (.bl _) M1 k1 rfl q1⟩
/-! ### methods -/
theorem isTy_tyV {xp : Nat → Option (Option V) → Prop} {m : Ms} {S : Store} {env : En} {σ : L2.St} {H : Hp} {d : D} {v : V} (M : Mt X.K X.w xp m S env σ H) (r : Rep X.K X.w m H d v) :
    (Y.isTy S .str d = true → tyV X.K "str" v H) ∧ (Y.isTy S .list d = true → tyV X.K "list" v H) := by
  refine ⟨fun h => ?_, fun h => ?_⟩
  · cases d with
    | str x => cases rep_str r; rfl
    | loc i => cases h
    | _ => cases h
  · cases d with
    | lst xs =>
      obtain ⟨_, p, vs, rfl, k, _⟩ := r
      exact .inl ⟨rfl, vs, k.sq⟩
    | loc i =>
      obtain ⟨p, rfl, hp⟩ := r
      have h : (match S[i]? with | some (.lst _) => true | _ => false) = true := h
      split at h
      · rename_i e
        obtain ⟨p', vs, h1, h2, h3⟩ := M.obL e
        rw [hp] at h1
        cases h1
        exact .inl ⟨rfl, vs, .inl (.inl h2)⟩
      · cases h
    | _ => cases h
/-- a method of a text, of a list -/
def tyB : Bool → Y.Ty
  | true => .list
  | false => .str
def tyN : Bool → String
  | true => "list"
  | false => "str"
theorem tyB_use {k : Bool} {xp : Nat → Option (Option V) → Prop} {m : Ms} {S : Store} {env : En} {σ : L2.St} {H : Hp} {d : D} {v : V} (M : Mt X.K X.w xp m S env σ H) (r : Rep X.K X.w m H d v) (h : Y.isTy S (tyB k) d = true) : tyV X.K (tyN k) v H := by
  cases k with
  | true => exact (isTy_tyV M r).2 h
  | false => exact (isTy_tyV M r).1 h
theorem qe_m0 {k : Bool} {o : Y.Op} {name : Str} {id : String} {apos : Pos} (pa : PlainAttrs (tyN k)) (slot : Slot (tyN k) name id) (hty : typeOf (.builtin id) = pure (.type "method_descriptor")) (hm : MtR X id fun v vs H Q => rDn X o (v :: vs) H Q) (ha : QE X J a ia)
    (hbase : attributeBase a name X.env (eval a X.env) = eval a X.env := by rfl) (hline : (apos.endLine == pos.line) = true := by rfl) : QE X J (.Call (.Attribute a name apos) [] [] pos) (.met (tyB k) o ia []) := by
  refine peImp (pe_bm0 pa slot hty hm ha hbase hline) ?_
  rintro σ H Q ⟨m, S, env, Qa, Wa, M, hw, hq, hx⟩
  refine ⟨m, S, env, _, Wa, M, hw, fun x H1 m1 S1 d1 M1 k1 r1 q1 => ?_, hx⟩
  obtain ⟨h1, q1⟩ := q1
  exact ⟨tyB_use M1 r1 h1, J.xp, m1, S1, env, σ, [d1], Qa, M1, ⟨x, [], rfl, r1, rfl⟩, q1, Got.step hq k1⟩
theorem qe_m {k : Bool} {o : Y.Op} {name : Str} {id : String} {apos : Pos} (pa : PlainAttrs (tyN k)) (slot : Slot (tyN k) name id) (hty : typeOf (.builtin id) = pure (.type "method_descriptor")) (hm : MtR X id fun v vs H Q => rDn X o (v :: vs) H Q) (ha : QE X J a ia) (has : QA X J (e :: es) ias)
    (hbase : attributeBase a name X.env (eval a X.env) = eval a X.env := by rfl)
    (hfew : ((backTo pos (starEach (e :: es) X.env)).all (fun x => !x.1) && (backToKw pos (keywordEach [] X.env)).all (fun x => x.1.isSome) && decide ((e :: es).length + ([] : List Keyword).length + (if ([] : List Keyword).isEmpty then 0 else 1) < 30)) = true := by rfl)
    (hline : (apos.endLine == pos.line) = true := by rfl) (hs : starEach (e :: es) X.env = (false, eval e X.env) :: starEach es X.env := by rfl) (hplain : (backTo pos (starEach es X.env)).any (·.1) = false := by rfl) :
    QE X J (.Call (.Attribute a name apos) (e :: es) [] pos) (.met (tyB k) o ia ias) := by
  refine peImp (pe_bm pa slot hty hm ha has hbase hfew hline hs hplain) ?_
  rintro σ H Q ⟨m, S, env, Qa, Wa, M, hw, hq, hx⟩
  refine ⟨m, S, env, _, Wa, M, hw, fun x H1 m1 S1 d1 M1 k1 r1 q1 => ?_, hx⟩
  obtain ⟨h1, q1⟩ := q1
  refine ⟨tyB_use M1 r1 h1, m1, S1, env, _, Wa, M1, q1, fun vs H2 m2 S2 ds M2 k2 r2 q2 => ?_, hx.mono k1⟩
  exact ⟨J.xp, m2, S2, env, σ, d1 :: ds, Qa, M2, ⟨x, vs, rfl, k2.rep M1.noTup r1, r2⟩, q2, Got.step hq (k1.trans k2)⟩
theorem wUpper_inv {ds : List D} {S : Store} {Q : Y.Q1} (h : Y.wUpper ds S Q) : ∃ z, ds = [.str z] ∧ z.length ≤ 5592405 ∧ ∀ y : Str, y.length ≤ 3 * z.length → Q (.str y) S := by
  unfold Y.wUpper at h
  split at h
  · exact ⟨_, rfl, h.1, h.2⟩
  · exact h.elim
theorem m_upper : MtR X "str.upper" fun v vs H Q => rDn X .upper (v :: vs) H Q := by
  rintro pins s σ0 H x vs v us Q I rx rv ⟨xp, m, S, env, σ, ds, Qa, M, rs, h, g⟩
  obtain ⟨z, rfl, hl, q⟩ := wUpper_inv h
  obtain ⟨v1, t, e, r1, et⟩ := rs
  cases e
  cases (show vs = [] from et)
  cases rep_str r1
  exact mt_upper pins s σ0 H _ _ v us Q I rx rv ⟨z, rfl, rfl, hl, g.here M (d := .str _) rfl (q _ (PyProof.Rows.len_upper z))⟩
theorem wObj_inv {x : D} {S : Store} {K : Nat → List D → Prop} (h : Y.wObj x S K) : ∃ i xs, x = .loc i ∧ S[i]? = some (.lst xs) ∧ K i xs := by
  unfold Y.wObj at h
  split at h
  · split at h
    · rename_i e
      exact ⟨_, _, rfl, e, h⟩
    · exact h.elim
  · exact h.elim
theorem frees_app : ∀ xs ys : List D, Y.frees xs = true → Y.frees ys = true → Y.frees (xs ++ ys) = true
  | [], _, _, h => h
  | x :: xs, ys, h, h2 => by
    have h : (x.free && Y.frees xs) = true := h
    rw [Bool.and_eq_true] at h
    show (x.free && Y.frees (xs ++ ys)) = true
    rw [h.1, frees_app xs ys h.2 h2]
    rfl
theorem frees_last : ∀ xs : List D, Y.frees xs = true → Y.frees xs.dropLast = true
  | [], _ => rfl
  | [_], _ => rfl
  | x :: y :: xs, h => by
    have h : (x.free && Y.frees (y :: xs)) = true := h
    rw [Bool.and_eq_true] at h
    show (x.free && Y.frees (y :: xs).dropLast) = true
    rw [h.1, frees_last (y :: xs) h.2]
    rfl
theorem free_mem {S : Store} {i : Nat} {xs : List D} {K : PySem.W.Frag} {w : World} {xp : Nat → Option (Option V) → Prop} {m : Ms} {env : En} {σ : L2.St} {H : Hp} (M : Mt K w xp m S env σ H) (e : S[i]? = some (.lst xs)) : Y.frees xs = true := M.free _ (List.mem_of_getElem? e)
theorem frees_get : ∀ {xs : List D} {y : D}, Y.frees xs = true → y ∈ xs → y.free = true
  | x :: xs, y, h, hm => by
    have h : (x.free && Y.frees xs) = true := h
    rw [Bool.and_eq_true] at h
    rcases List.mem_cons.mp hm with e | e
    · rw [e]; exact h.1
    · exact frees_get h.2 e
/-- the store's list l has become vs -/
theorem wrote {xp : Nat → Option (Option V) → Prop} {m : Ms} {S : Store} {env : En} {σ : L2.St} {H : Hp} {i : Nat} {l : Addr} {xs : List D} {vs : List V} (M : Mt X.K X.w xp m S env σ H) (hl : m.l[i]? = some l) (r : RepL X.K X.w m H xs vs) (hf : Y.frees xs = true) :
    Mt X.K X.w xp m (S.set i (.lst xs)) env σ (upd H l (.lst vs)) ∧ Kp m H m (upd H l (.lst vs)) := ⟨M.write (ob := .lst xs) (o := .lst vs) hl r hf, Kp.write (List.mem_of_getElem? hl)⟩
theorem m_append : MtR X "list.append" fun v vs H Q => rDn X .append (v :: vs) H Q := by
  rintro pins s σ0 H x vs v us Q I rx rv ⟨xp, m, S, env, σ, ds, Qa, M, rs, h, g⟩
  obtain ⟨x1, x2, rfl, h⟩ := w2_inv h
  obtain ⟨i, xs, rfl, e, hf, hl, q⟩ := wObj_inv h
  obtain ⟨v1, t, et, r1, v2, t2, et2, r2, et3⟩ := rs
  cases et
  cases et2
  cases (show t2 = [] from et3)
  obtain ⟨p, rfl, hp⟩ := r1
  obtain ⟨p', ws, h1, h2, h3⟩ := M.obL e
  rw [hp] at h1
  cases h1
  obtain ⟨M', k'⟩ := wrote (xs := xs ++ [x2]) (vs := ws ++ [v2]) M hp (RepL.append (es := [x2]) (us := [v2]) h3 ⟨v2, [], rfl, r2, rfl⟩) (frees_app xs [x2] (free_mem M e) (by show (x2.free && true) = true; rw [hf]; rfl))
  exact mt_append pins s σ0 H _ _ v us Q I rx rv ⟨p, ws, v2, rfl, rfl, h2, by rw [h3.length, ← line_eq]; exact hl, g _ _ m _ .non M' k' rfl q⟩
theorem m_pop : MtR X "list.pop" fun v vs H Q => rDn X .pop (v :: vs) H Q := by
  rintro pins s σ0 H x vs v us Q I rx rv ⟨xp, m, S, env, σ, ds, Qa, M, rs, h, g⟩
  obtain ⟨x1, rfl, h⟩ := w1_inv h
  obtain ⟨i, xs, rfl, e, h⟩ := wObj_inv h
  obtain ⟨v1, t, et, r1, et3⟩ := rs
  cases et
  cases (show vs = [] from et3)
  obtain ⟨p, rfl, hp⟩ := r1
  obtain ⟨p', ws, h1, h2, h3⟩ := M.obL e
  rw [hp] at h1
  cases h1
  cases ey : xs.getLast? with
  | none => rw [ey] at h; exact h.elim
  | some y =>
    rw [ey] at h
    have el : xs[xs.length - 1]? = some y := by rw [← List.getLast?_eq_getElem?]; exact ey
    obtain ⟨vy, e1, e2⟩ := h3.get el
    have hd := free_mem M e
    obtain ⟨M', k'⟩ := wrote M hp h3.dropLast (frees_last xs hd)
    refine mt_pop pins s σ0 H _ _ v us Q I rx rv ⟨p, ws, vy, rfl, rfl, h2, by rw [h3.length]; exact e1, ?_⟩
    refine g vy _ m _ y M' k' ?_ h
    exact k'.rep M.noTup e2
theorem list_extendW (l b : Addr) (items items2 : Array Value) (n n2 : Nat) (dd2 : Option Addr) (sl2 : Array (Option Value)) (hc0 : ¬(!items.isEmpty && Builtin.List.listTooLong (items.size + items2.size)) = true) (hc1 : items.size ≤ sizeLine) (hs2 : items.size + items2.size ≤ sizeLine + 1) :
    Meets (Builtin.«list.extend» ⟨[.ref l, .ref b], []⟩) (fun _ R s => s.heap.get? l = some { cls := .type "list", dict := none, data := .seq items n, slots := #[] } ∧ s.heap.get? b = some { cls := .type "list", dict := dd2, data := .seq items2 n2, slots := sl2 } ∧ R (.ok (.ret Value.none)) { s with heap := s.heap.update l (Obj.mapSeq fun x => x ++ items2), toks := s.toks }) :=
  .of_wp fun prog w A R s h => by
    obtain ⟨hp, g, d, tk, os⟩ := s
    obtain ⟨hl, hb, h⟩ := h
    have f1 := AutoSeq1.idx_int
    have f2 := AutoSeq1.sub_tuple_tuple
    have f3 := AutoSeq1.sub_list_list
    have f4 := AutoSeq1.sub_tuple_list
    have f5 := AutoSeq1.sub_list_tuple
    have hz' : (items ++ items2).size ≤ sizeLine + 1 := by rw [Array.size_append]; exact hs2
    wp_walk using (wpAny_updateSeq hl rfl (hz := hc1) (_hz' := hz')), wpAny_loadPart' hl, wpAny_loadPart' hb
    exact ⟨_, rfl, h⟩
/-- l.extend(b), b of any standing -/
theorem mt_extendA : MtM X "list.extend" fun x vs H Q => ∃ l b xs zs, x = .ref l ∧ vs = [.ref b] ∧ H l = some (.lst xs) ∧ SqL X.K H b zs ∧ xs.length + zs.length ≤ sizeLine ∧ Q .non (upd H l (.lst (xs ++ zs))) := by
  rintro pins s σ H x vs v us Q I rx rv ⟨l, b, xs, zs, rfl, rfl, hH, hB, hz, q⟩
  cases rx
  obtain ⟨u, rfl, ru⟩ := rv.one
  cases ru
  obtain ⟨z, its, n, r, hl, e⟩ := I.lstM hH
  obtain ⟨its2, r2, ⟨⟨c2, d2, dat2, sl2⟩, n2, g2, f1, f2, f3⟩, _⟩ := I.list hB
  simp only at f1 f2 f3
  subst f1 f2 f3
  have hl2 := r2.length
  have hsz : its.toArray.size + its2.toArray.size ≤ sizeLine := by rw [List.size_toArray, List.size_toArray]; omega
  have hlong : ¬ (!its.toArray.isEmpty && Builtin.List.listTooLong (its.toArray.size + its2.toArray.size)) = true := by
    rw [notLongL hsz, Bool.and_false]
    exact Bool.false_ne_true
  refine call_meets PySem.F.slot_list_extend ⟨_, e, rfl⟩ PySem.F.entry_list_extend (PySem.F.args_list_extend_2 _ _) (list_extendW l b its.toArray its2.toArray n n2 none sl2 hlong (by rw [List.size_toArray]; omega) (by omega)) ⟨e, g2, ?_⟩
  refine ⟨.non, _, I.lset (its' := its ++ its2) hH e (by simp) (r.append r2) ?_, rfl, q⟩
  rw [List.length_append]
  exact hz
theorem m_extend : MtR X "list.extend" fun v vs H Q => rDn X .extend (v :: vs) H Q := by
  rintro pins s σ0 H x vs v us Q I rx rv ⟨xp, m, S, env, σ, ds, Qa, M, rs, h, g⟩
  obtain ⟨x1, x2, rfl, h⟩ := w2_inv h
  obtain ⟨i, xs, rfl, e, h⟩ := wObj_inv h
  obtain ⟨v1, t, et, r1, v2, t2, et2, r2, et3⟩ := rs
  cases et
  cases et2
  cases (show t2 = [] from et3)
  obtain ⟨p, rfl, hp⟩ := r1
  obtain ⟨p', ws, h1, h2, h3⟩ := M.obL e
  rw [hp] at h1
  cases h1
  cases ey : Y.lstOf S x2 with
  | none => rw [ey] at h; exact h.elim
  | some ys =>
    rw [ey] at h
    obtain ⟨hl, q⟩ := h
    obtain ⟨p2, zs, rfl, k2, l2⟩ := rep_lst M r2 ey
    have fy : Y.frees ys = true := by
      cases x2 with
      | lst _ => cases ey; exact r2.1
      | loc j => exact free_mem M (lstOf_loc ey)
      | _ => cases ey
    obtain ⟨M', k'⟩ := wrote M hp (RepL.append h3 l2) (frees_app xs ys (free_mem M e) fy)
    exact mt_extendA pins s σ0 H _ _ v us Q I rx rv ⟨p, p2, ws, zs, rfl, rfl, h2, k2, by rw [h3.length, l2.length, ← line_eq]; exact hl, g _ _ m _ .non M' k' rfl q⟩
/-! ### a display of a dict of constants -/
theorem pairs_consts {σ : L2.St} {H : Hp} {R : List (V × V) → Hp → Prop} : ∀ {kvs : List (Ky × V)}, R (kvs.map fun kv => (kV kv.1, kv.2)) H → tPairs (kvs.map fun kv => (tC (kV kv.1), tC kv.2)) σ H R
  | [], h => h
  | kv :: kvs, h => pairs_consts (R := fun ps H3 => R ((kV kv.1, kv.2) :: ps) H3) (kvs := kvs) h
theorem qe_dk {keys : List (Option Expr)} {values : List Expr} {kvs : List (Ky × V)} {ds : List D} (h : PPs X pos keys values (kvs.map fun kv => (tC (kV kv.1), tC kv.2))) (hr : ∀ m H, RepL X.K X.w m H ds (kvs.map (·.2))) (hf : Y.frees ds = true := by rfl) (hm : mergeK [] kvs = kvs := by rfl) (hz : kvs.length ≤ 15 := by decide)
    (hall : keys.all (·.isSome) = true := by rfl) (hl : keys.length = values.length := by rfl) (h0 : keys ≠ [] := by simp) (h15 : keys.length ≤ 15 := by decide) : QE X J (.Dict keys values pos) (.dk (kvs.map (·.1)) ds) := by
  refine peImp (pe_disp h hall hl h0 h15) ?_
  rintro σ H Q ⟨m, S, env, Qa, Wa, M, hw, hq, _⟩ p hp
  refine pairs_consts ⟨upd_same, kvs, rfl, hz, ?_⟩
  rw [hm]
  have e : upd (upd H p (.dK [])) p (.dK kvs) = upd H p (.dK kvs) := by
    funext b
    by_cases hb : b = p
    · rw [hb, upd_same, upd_same]
    · rw [upd_ne hb, upd_ne hb, upd_ne hb]
  rw [e]
  have k := Kp.laid (o := .dK kvs) M hp
  have hw : Qa (.dK (kvs.map (·.1)) ds) S := hw
  exact hq _ _ m S (.dK (kvs.map (·.1)) ds) (M.laid hp) k ⟨hf, p, rfl, .inl ⟨M.notMem hp, kvs, upd_same, rfl, hr _ _⟩⟩ hw
end
end YL
/-! YGen: what printed links name. -/
namespace YL
open PySem PySem.Spec PySem.Calls PyProof.Rows L2
open Y (D O Store En Ky)
/-- a constant of the module -/
structure CG (K : PySem.W.Frag) (w : World) (mg : Str → Option Value) (T : Y.Text) (x : Str) (d : D) : Prop where
  ex : ∃ v u, mg x = some u ∧ RelV v u ∧ ∀ m H, Rep K w m H d v
  gl : T.glob x = some d
/-- an own error class that is raised with a text -/
structure XG (K : PySem.W.Frag) (mg : Str → Option Value) (C : Addr) (bm : List Value) (nw : String) (x : Str) : Prop where
  q : PySem.W.excIn K C bm nw = true
  g : mg x = some (.ref C)
  k : PySem.W.keepIn K (.ref C) = true
  r1 : PySem.W.subIn K (.ref C) (.type "BaseException") = some true
  r2 : PySem.W.typeIn K (.ref C) = some (.type "type")
section
variable {X : Cx} {J : Jb} {T : Y.Text} {n : Nat} {tab : Str → At} {e : Expr} {es : List Expr} {x : Str} {p pos : Pos} {ias : List Y.E}
theorem qe_gc {d : D} (G : Ctx X J T n tab) (c : CG X.K X.w X.mg T x d) (hg : Gl X x) (hd : (x == ("__debug__" : Str)) = false := by decide) : QE X J (.Name x pos) (.g x) := by
  obtain ⟨v, u, h1, h2, h3⟩ := c.ex
  exact qe_g hg (by rw [G.hG]; exact c.gl) h1 h2 h3 hd
theorem Ctx.sG (G : Ctx X J T n tab) {c d : Str} (h : J.P.subs c d = true) : T.subs c d = true := by rw [← G.hP]; exact h
theorem Ctx.kG (G : Ctx X J T n tab) {c d : Str} {t : Option Bool} (h : t = some (T.subs c d)) : t = some (J.P.subs c d) := by rw [G.hP]; exact h
theorem Ctx.hu (G : Ctx X J T n tab) : X.A.units + 65 < cLine := hu_room G.room
theorem Ctx.hu64 (G : Ctx X J T n tab) : X.A.units + 64 < cLine := by
  have := G.hu
  omega
theorem Ctx.hu1 (G : Ctx X J T n tab) : X.A.units + 1 < cLine := by
  have := G.hu
  omega
theorem Vals.pick {vs : List V} {us : List Value} (r : Vals vs us) : ∀ perm : List Nat, Vals (perm.filterMap fun i => vs[i]?) (perm.filterMap fun i => us[i]?)
  | [] => .nil
  | i :: p => by
    have ih := Vals.pick r p
    rw [List.filterMap_cons, List.filterMap_cons]
    cases e : vs[i]? with
    | none =>
      have : us[i]? = none := by
        rw [List.getElem?_eq_none_iff] at e ⊢
        rw [← r.length]
        exact e
      rw [this]
      exact ih
    | some v =>
      obtain ⟨u, h1, h2⟩ := r.get e
      rw [h1]
      exact .cons h2 ih
theorem Vals.app : ∀ {vs zs : List V} {us ws : List Value}, Vals vs us → Vals zs ws → Vals (vs ++ zs) (us ++ ws)
  | _, _, _, _, .nil, h => h
  | _, _, _, _, .cons r t, h => .cons r (Vals.app t h)
theorem kb_of {K : PySem.W.Frag} {qual : Str} {st : Stmt} {f : Addr} {fd : FuncData} {ps ks : List Str} {np nk : Nat} {perm : List Nat} (F : Fun K x qual st f fd) (hps : ps.isEmpty = false)
    (h : ∀ (kV doc pm : Value) (an : Option Addr) (cdv ct : Value) (us ws : List Value), us.length = np → ws.length = nk → bindArgs (PySem.W.fnOf x qual (defArgs st) (defBody st) (defScope st) .none kV doc pm an cdv ct) ⟨us, ks.zip ws⟩ = pure (ps.zip (perm.filterMap fun i => (us ++ ws)[i]?))) :
    KBinds K fd ps ks (gK np nk perm) (gK np nk perm) := by
  obtain ⟨oc, od, kV, doc, pm, an, cdv, ct, osl, efd, lk, hcd⟩ := F.ex
  refine ⟨fun s us ws _ hl => ?_, fun {vs us zs ws} r1 r2 => ?_⟩
  · unfold gK at hl ⊢
    split
    · rename_i c
      rw [efd]
      exact .of_eq (h kV doc pm an cdv ct us ws c.1 c.2)
    · rename_i c
      rw [if_neg c] at hl
      cases ps with
      | nil => cases hps
      | cons _ _ => cases hl
  · unfold gK
    rw [← r1.length, ← r2.length]
    split
    · exact Vals.pick (Vals.app r1 r2) perm
    · exact .nil
theorem qs_raiseG {C : Addr} {bmB : List Value} {B newId initId : String} {mm : Str} {j : Nat} {p2 pos' : Pos} (G : Ctx X J T n tab) (F : ExcBaseFacts B newId initId bmB) (h : XG X.K X.mg C bmB newId x) (hg : Gl X x) (hs : T.subs x x = true)
    (hdb : (x == ("__debug__" : Str)) = false := by decide) : QS X J (.Raise (some (.Call (.Name x p) [.Constant (.str mm) j p2] [] pos)) none pos') (.raise x) :=
  qs_raise G F h.q h.g h.k (raises_own h.r1 h.r2) hg (by rw [G.hP]; exact hs) hdb
end
section
variable {K : PySem.W.Frag} {w : World} {mg : Str → Option Value} {T : Y.Text} {x : Str}
theorem cg_str {z : Str} {t : Tok} (h : mg x = some (.str z t)) (g : T.glob x = some (.str z)) : CG K w mg T x (.str z) := ⟨⟨.str z, _, h, ⟨t, rfl⟩, fun _ _ => rfl⟩, g⟩
theorem cg_int {z : Int} {t : Tok} (h : mg x = some (.int z t)) (g : T.glob x = some (.int z)) : CG K w mg T x (.int z) := ⟨⟨.int z, _, h, ⟨t, rfl⟩, fun _ _ => rfl⟩, g⟩
/-- a tuple of plain values -/
theorem cg_tup {a : Addr} {o : Obj} {its : Array Value} {n : Nat} {ds : List D} {vs : List V} (h : mg x = some (.ref a)) (hl : K.lookup a = some o) (hc : o.cls = .type "tuple") (hd : o.data = .seq its n) (hz : its.size ≤ sizeLine) (hv : Vals vs its.toList) (hr : ∀ m H, RepL K w m H ds vs) (g : T.glob x = some (.tup ds)) : CG K w mg T x (.tup ds) :=
  ⟨⟨.ref a, _, h, rfl, fun m H => ⟨a, vs, rfl, .inr ⟨o, its, n, hl, hc, hd, hz, hv⟩, hr m H⟩⟩, g⟩
/-- entries of a dict of the module: texts and what stands by them -/
inductive Ents (P : Params) : List DictEntry → List Ky → List D → Prop
  | nil : Ents P [] [] []
  | cons {k : Str} {t : Tok} {u : Value} {v : V} {d : D} {es : List DictEntry} {ks : List Ky} {ds : List D} (rv : RelV v u) (rp : repP d v) (r : Ents P es ks ds) : Ents P (⟨PyData.keyHash P k, .str k t, u⟩ :: es) (.inr k :: ks) (d :: ds)
theorem Ents.lit {P : Params} : ∀ {es : List DictEntry} {ks : List Ky} {ds : List D}, Ents P es ks ds → PySem.W.KeysLit P es
  | _, _, _, .nil => trivial
  | _, _, _, .cons _ _ r => ⟨⟨_, _, rfl, rfl⟩, r.lit⟩
theorem Ents.find {P : Params} (z : Str) : ∀ {es : List DictEntry} {ks : List Ky} {ds : List D}, Ents P es ks ds → es.any (·.refKey) = false ∧ ((match (ks.zip ds).lookup (.inr z) with
      | some d => ∃ e v, es.find? (·.key.isStr z) = some e ∧ RelV v e.val ∧ repP d v
      | none => es.find? (·.key.isStr z) = none) ∧ (es.find? (·.key.isStr z)).isSome = ks.contains (.inr z))
  | _, _, _, .nil => ⟨rfl, rfl, rfl⟩
  | _, _, _, @Ents.cons _ k t u v d es ks ds rv rp r => by
    obtain ⟨h1, h2, h3⟩ := Ents.find z r
    have e0 : (⟨PyData.keyHash P k, .str k t, u⟩ : DictEntry).key.isStr z = decide (k = z) := by
      rw [PySem.W.isStr_of]
      show (k == z) = _
      exact strD
    refine ⟨?_, ?_⟩
    · rw [List.any_cons, h1]
      rfl
    · rw [List.zip_cons_cons, List.lookup_cons, List.find?_cons, e0, List.contains_cons]
      by_cases hk : k = z
      · subst hk
        rw [decide_eq_true rfl, beq_self_eq_true]
        exact ⟨⟨_, v, rfl, rv, rp⟩, rfl⟩
      · have n1 : ((.inr z : Ky) == .inr k) = false := beq_eq_false_iff_ne.mpr fun q => hk (Sum.inr.inj q).symm
        rw [decide_eq_false hk, n1]
        exact ⟨h2, by rw [h3]; rfl⟩
theorem cg_dict {a : Addr} {es : Array DictEntry} {n : Nat} {ks : List Ky} {ds : List D} (h : mg x = some (.ref a)) (hl : K.lookup a = some ⟨.type "dict", none, .dict es n, #[]⟩) (hlow : (a == sysModules) = false) (E : Ents w.params es.toList ks ds) (hf : Y.frees ds = true) (g : T.glob x = some (.dK ks ds)) : CG K w mg T x (.dK ks ds) := by
  refine ⟨⟨.ref a, _, h, rfl, fun m H => ⟨hf, a, rfl, .inr ⟨es, n, ⟨hl, E.lit, hlow⟩, fun z => ?_⟩⟩⟩, g⟩
  obtain ⟨h1, h2, h3⟩ := E.find z
  have e : PySem.W.nsIn K a z = match es.toList.find? (·.key.isStr z) with
      | some e => some (some e.val)
      | none => if es.toList.any (·.refKey) then none else some none := by
    unfold PySem.W.nsIn
    rw [hl]
    rfl
  rw [e, h1]
  cases q : es.toList.find? (·.key.isStr z) with
  | some en =>
    rw [q] at h2 h3
    refine ⟨some en.val, rfl, ?_, h3⟩
    cases hh : (ks.zip ds).lookup (.inr z) with
    | some d =>
      rw [hh] at h2
      obtain ⟨e', v, e1, e2, e3⟩ := h2
      cases e1
      exact ⟨_, v, rfl, e2, e3⟩
    | none =>
      rw [hh] at h2
      cases h2
  | none =>
    rw [q] at h2 h3
    refine ⟨none, rfl, ?_, h3⟩
    cases hh : (ks.zip ds).lookup (.inr z) with
    | some d =>
      rw [hh] at h2
      obtain ⟨e', v, e1, e2, e3⟩ := h2
      cases e1
    | none => rfl
end
/-- BlkOk, asked by evaluation -/
def blkOk (N : List Str) (sc scope : Scope) (own : List (Str × Nat)) : Bool :=
  decide (scope.kind = .function) && scope.names.all (fun y => decide (scope.names.lookup y.1 = some y.2)) && own.all (fun p => decide (N[p.2]? = some p.1)) &&
    scope.names.all (fun y => !decide (y.2 = .free) || decide (sc.names.lookup y.1 = some .cell) || decide (sc.names.lookup y.1 = some .free)) &&
    scope.names.all (fun y => !(decide (y.2 = .local) || decide (y.2 = .cell)) || decide (y.1 ∈ own.map (·.1)) || decide (y.1 ∉ N))
theorem blk_of {N : List Str} {sc scope : Scope} {own : List (Str × Nat)} (h : blkOk N sc scope own = true) : BlkOk N sc scope own := by
  unfold blkOk at h
  simp only [Bool.and_eq_true, List.all_eq_true, decide_eq_true_eq, Bool.or_eq_true, Bool.not_eq_true', decide_eq_false_iff_not, Bool.or_eq_false_iff] at h
  obtain ⟨⟨⟨⟨h1, h2⟩, h3⟩, h4⟩, h5⟩ := h
  refine ⟨h1, h2, h3, fun y hy e => ?_, fun y hy e => ?_⟩
  · rcases h4 y hy with (z | z) | z
    · exact absurd e z
    · exact .inl z
    · exact .inr z
  · rcases h5 y hy with (z | z) | z
    · exact absurd e (fun q => q.elim z.1 z.2)
    · exact .inl z
    · exact .inr z
/-! ### tables -/
theorem all_nil {α : Type} {P : α → Prop} : ∀ p ∈ ([] : List α), P p := fun _ h => by cases h
theorem all_cons {α : Type} {P : α → Prop} {a : α} {l : List α} (h : P a) (t : ∀ p ∈ l, P p) : ∀ p ∈ a :: l, P p := fun p hp => by
  rcases List.mem_cons.mp hp with e | e
  · rw [e]; exact h
  · exact t p e
theorem each {α : Type} {P : Str → α → Prop} {l : List (Str × α)} (h : ∀ p ∈ l, P p.1 p.2) (x : Str) (F : α) (e : l.lookup x = some F) : P x F := h (x, F) (PySem.mem_of_lookup e)
theorem subs_each {P : Str → Prop} {l : List (Str × Str)} (h : ∀ p ∈ l, p.1 = p.2 → P p.1) (c : Str) (e : l.contains (c, c) = true) : P c := h (c, c) (by simpa using e) rfl
def tabOf (l : List (Str × At)) (d : At) (x : Str) : At := (l.lookup x).getD d
theorem qual_id {x : Str} : x = x := rfl
end YL
namespace K01
open Y

/- is_integer: 0 thing -/
def b_is_integer : List St :=
  [.ret (.and (.op (.isi .int) [.v 0]) (.not (.op (.isi .bool) [.v 0])))]
def f_is_integer : Fn := ⟨1, 1, false, b_is_integer⟩
/- is_within: 0 thing, 1 least, 2 most -/
def b_is_within : List St :=
  [.ret (.and (.call "is_integer" [.v 0]) (.chain .le .le (.v 1) (.v 0) (.v 2)))]
def f_is_within : Fn := ⟨3, 3, false, b_is_within⟩
/- is_word: 0 thing, 1 sign -/
def ce0_is_word : E :=
  .or (.op (.inn false) [.v 1, .g "LETTERS"]) (.op (.inn false) [.v 1, .g "FIGURES"])
def b_is_word : List St :=
  [.ife (.or (.not (.op (.isi .str) [.v 0])) (.or (.not (.chain .le .le (.k (.int 1)) (.op .len [.v 0]) (.g "MOST_SIGNS"))) (.op (.inn true) [.op .ix [.v 0, .k (.int 0)], .g "LETTERS"])))
     [.ret (.k (.bl false))]
     [],
   .ret (.op .all [.comp true [1] (.n 1) (.v 0) 0 none ce0_is_word])]
def f_is_word : Fn := ⟨1, 2, false, b_is_word⟩
/- is_leaf_form: 0 thing, 1 word -/
def b_is_leaf_form : List St :=
  [.asg (.n 1) (.op .ix [.v 0, .k (.int 0)]),
   .ife (.op (.inn false) [.v 1, .g "PLAIN"])
     [.ret (.op .eq [.op .len [.v 0], .k (.int 1)])]
     [],
   .ife (.op .eq [.v 1, .k (.str "var")])
     [.ret (.and (.op .eq [.op .len [.v 0], .k (.int 2)]) (.call "is_within" [.op .ix [.v 0, .k (.int 1)], .k (.int 0), .g "MOST_VARIABLE"]))]
     [],
   .ife (.op .eq [.v 1, .k (.str "sort")])
     [.ret (.and (.op .eq [.op .len [.v 0], .k (.int 2)]) (.call "is_within" [.op .ix [.v 0, .k (.int 1)], .k (.int 0), .g "MOST_SORT"]))]
     [],
   .ife (.op .eq [.v 1, .k (.str "name")])
     [.ret (.and (.op .eq [.op .len [.v 0], .k (.int 2)]) (.call "is_word" [.op .ix [.v 0, .k (.int 1)]]))]
     [],
   .ret (.and (.op .eq [.v 1, .k (.str "rec")]) (.and (.op .eq [.op .len [.v 0], .k (.int 3)]) (.and (.call "is_word" [.op .ix [.v 0, .k (.int 1)]]) (.call "is_within" [.op .ix [.v 0, .k (.int 2)], .k (.int 0), .g "MOST_RAISED"]))))]
def f_is_leaf_form : Fn := ⟨1, 2, false, b_is_leaf_form⟩
/- is_node_form: 0 thing -/
def b_is_node_form : List St :=
  [.ife (.or (.not (.op (.isi .tuple) [.v 0])) (.or (.op .eq [.op .len [.v 0], .k (.int 0)]) (.not (.op (.isi .str) [.op .ix [.v 0, .k (.int 0)]]))))
     [.ret (.k (.bl false))]
     [],
   .ret (.ife (.op (.inn false) [.op .ix [.v 0, .k (.int 0)], .g "MANY"]) (.op .eq [.op .len [.v 0], .op (.add true) [.op .ix [.g "MANY", .op .ix [.v 0, .k (.int 0)]], .k (.int 1)]]) (.call "is_leaf_form" [.v 0]))]
def f_is_node_form : Fn := ⟨1, 1, false, b_is_node_form⟩
/- is_term_form: 0 thing, 1 waiting, 2 many, 3 here, 4 deep, 5 part; cells deep -/
def wt0_is_term_form : E :=
  .op .ne [.v 1, .lst true []]
def ce0_is_term_form : E :=
  .tup [.v 5, .op (.add true) [.v 4, .k (.int 1)]]
def lp0_is_term_form : List St :=
  [.asg (.t [(.n 3), (.n 4)]) (.met .list .pop (.v 1) []),
   .aug 2 .addI (.k (.int 1)),
   .ife (.or (.op .gt [.v 2, .g "MOST_NODES"]) (.or (.op .gt [.v 4, .g "MOST_DEEP"]) (.not (.call "is_node_form" [.v 3]))))
     [.ret (.k (.bl false))]
     [],
   .ife (.op (.inn false) [.op .ix [.v 3, .k (.int 0)], .g "MANY"])
     [.ex (.met .list .extend (.v 1) [.comp true [5] (.n 5) (.op (.cut true true false) [.v 3, .k (.int 1)]) 0 none ce0_is_term_form])]
     []]
def b_is_term_form : List St :=
  [.par [1, 2] [.lst false [.tup [.v 0, .k (.int 1)]], .k (.int 0)],
   .whl wt0_is_term_form lp0_is_term_form,
   .ret (.k (.bl true))]
def f_is_term_form : Fn := ⟨1, 6, false, b_is_term_form⟩
/- need_term: 0 term -/
def b_need_term : List St :=
  [.ife (.not (.call "is_term_form" [.v 0]))
     [.raise "BadTerm"]
     []]
def f_need_term : Fn := ⟨1, 1, false, b_need_term⟩
/- parts_of: 0 term -/
def b_parts_of : List St :=
  [.ret (.ife (.op (.inn false) [.op .ix [.v 0, .k (.int 0)], .g "MANY"]) (.op (.cut true true false) [.v 0, .k (.int 1)]) (.tup []))]
def f_parts_of : Fn := ⟨1, 1, false, b_parts_of⟩
/- size_of: 0 term, 1 part -/
def ce0_size_of : E :=
  .call "size_of" [.v 1]
def b_size_of : List St :=
  [.ret (.op (.add true) [.k (.int 1), .op .sum [.comp true [1] (.n 1) (.call "parts_of" [.v 0]) 0 none ce0_size_of]])]
def f_size_of : Fn := ⟨1, 2, false, b_size_of⟩
/- depth_of: 0 term, 1 part -/
def ce0_depth_of : E :=
  .call "depth_of" [.v 1]
def b_depth_of : List St :=
  [.ret (.op (.add true) [.k (.int 1), .op .maxL [.op (.add true) [.lst true [.k (.int 0)], .comp true [1] (.n 1) (.call "parts_of" [.v 0]) 0 none ce0_depth_of]]])]
def f_depth_of : Fn := ⟨1, 2, false, b_depth_of⟩
/- is_term: 0 thing -/
def b_is_term : List St :=
  [.ret (.call "is_term_form" [.v 0])]
def f_is_term : Fn := ⟨1, 1, false, b_is_term⟩
/- size: 0 term -/
def b_size : List St :=
  [.ex (.call "need_term" [.v 0]),
   .ret (.call "size_of" [.v 0])]
def f_size : Fn := ⟨1, 1, false, b_size⟩
/- depth: 0 term -/
def b_depth : List St :=
  [.ex (.call "need_term" [.v 0]),
   .ret (.call "depth_of" [.v 0])]
def f_depth : Fn := ⟨1, 1, false, b_depth⟩
/- _law_feed: 0 script, 1 k, 2 cell -/
def b__law_feed : List St :=
  [.asg (.n 2) (.op (.add true) [.op (.mul true) [.k (.int 4093), .v 1], .op (.mul true) [.k (.int 17), .op .sum [.op (.cut true false true) [.v 0, .k (.int 4)]]]]),
   .ife (.op .lt [.v 1, .op .len [.v 0]])
     [.asg (.n 2) (.op .ix [.v 0, .v 1])]
     [],
   .ret (.lst false [.op .max2 [.k (.int 0), .op .sub [.v 2, .op .pow [.k (.int 10), .k (.int 18)]]], .op .mod [.op .int1 [.op (.mul true) [.op (.add true) [.op (.add true) [.op (.mul true) [.v 2, .k (.int 1013)], .op (.mul true) [.k (.int 91), .v 1]], .k (.int 7)], .op (.add true) [.op .pow [.k (.int 10), .k (.int 31)], .k (.int 33)]]], .op (.add true) [.op .pow [.k (.int 10), .k (.int 39)], .k (.int 3)]], .k (.int 0)])]
def f__law_feed : Fn := ⟨2, 3, true, b__law_feed⟩
/- _law_draw: 0 feed, 1 many, 2 got -/
def b__law_draw : List St :=
  [.ife (.op .gt [.op .ix [.v 0, .k (.int 0)], .k (.int 0)])
     [.asg (.n 2) (.op .mod [.op .int1 [.op .ix [.v 0, .k (.int 0)]], .v 1]),
      .put (.v 0) (.k (.int 0)) (.op .fdiv [.op .ix [.v 0, .k (.int 0)], .v 1]),
      .ret (.v 2)]
     [],
   .put (.v 0) (.k (.int 2)) (.op (.add true) [.op .ix [.v 0, .k (.int 2)], .k (.int 1)]),
   .put (.v 0) (.k (.int 1)) (.op .mod [.op .int1 [.op (.add true) [.op (.add true) [.op (.add true) [.op (.mul true) [.op .ix [.v 0, .k (.int 1)], .op .ix [.v 0, .k (.int 1)]], .op (.mul true) [.k (.int 8191), .op .ix [.v 0, .k (.int 1)]]], .op (.mul true) [.op (.mul true) [.k (.int 104729), .op .ix [.v 0, .k (.int 2)]], .op .ix [.v 0, .k (.int 2)]]], .k (.int 13)]], .op (.add true) [.op .pow [.k (.int 10), .k (.int 41)], .k (.int 9)]]),
   .ret (.op .mod [.op .int1 [.op .fdiv [.op .ix [.v 0, .k (.int 1)], .op .pow [.k (.int 10), .k (.int 9)]]], .v 1])]
def f__law_draw : Fn := ⟨2, 3, false, b__law_draw⟩
/- _law_one: 0 feed, 1 things -/
def b__law_one : List St :=
  [.ret (.op .ix [.v 1, .call "_law_draw" [.v 0, .op .len [.v 1]]])]
def f__law_one : Fn := ⟨2, 2, false, b__law_one⟩
/- _law_word: 0 feed, 1 letters, 2 word, 3 turn -/
def lp0__law_word : List St :=
  [.asg (.n 2) (.op (.add true) [.v 2, .call "_law_one" [.v 0, .op (.add true) [.v 1, .k (.str "0123456789")]]])]
def b__law_word : List St :=
  [.asg (.n 1) (.k (.str "abcdefghijklmnopqrstuvwxyz")),
   .asg (.n 2) (.call "_law_one" [.v 0, .v 1]),
   .for (.n 3) (.tup [.call "_law_one" [.v 0, .lst true [.k (.int 0), .k (.int 1), .k (.int 2), .k (.int 4), .k (.int 10), .k (.int 11)]]]) 2 lp0__law_word,
   .ret (.v 2)]
def f__law_word : Fn := ⟨1, 4, false, b__law_word⟩
/- _law_leaf: 0 feed, 1 way -/
def b__law_leaf : List St :=
  [.asg (.n 1) (.call "_law_draw" [.v 0, .k (.int 7)]),
   .ife (.op .lt [.v 1, .k (.int 2)])
     [.ret (.tup [.k (.str "var"), .call "_law_one" [.v 0, .lst true [.k (.int 0), .k (.int 1), .k (.int 9), .k (.int 998), .k (.int 999), .call "_law_draw" [.v 0, .k (.int 1000)]]]])]
     [],
   .ife (.op .eq [.v 1, .k (.int 2)])
     [.ret (.tup [.k (.str "sort"), .call "_law_draw" [.v 0, .k (.int 10)]])]
     [],
   .ife (.op .lt [.v 1, .k (.int 5)])
     [.ret (.tup [.k (.str "name"), .call "_law_word" [.v 0]])]
     [],
   .ret (.ife (.op .eq [.v 1, .k (.int 5)]) (.tup [.k (.str "rec"), .call "_law_word" [.v 0], .call "_law_draw" [.v 0, .k (.int 9)]]) (.call "_law_one" [.v 0, .lst true [.tup [.k (.str "unit")], .tup [.k (.str "star")]]]))]
def f__law_leaf : Fn := ⟨1, 2, false, b__law_leaf⟩
/- _law_drawn: 0 feed, 1 deep, 2 way, 3 word, 4 many, 5 rows, 6 turn, 7 row; cells deep feed -/
def ce0__law_drawn : E :=
  .call "_law_drawn" [.v 0, .op .sub [.v 1, .k (.int 1)]]
def ce1__law_drawn : E :=
  .op .ix [.v 7, .k (.int 0)]
def ce2__law_drawn : E :=
  .op .ix [.v 7, .k (.int 1)]
def ce3__law_drawn : E :=
  .op .ix [.v 7, .k (.int 2)]
def b__law_drawn : List St :=
  [.asg (.n 2) (.ife (.op .gt [.v 1, .k (.int 1)]) (.call "_law_draw" [.v 0, .k (.int 11)]) (.k (.int 9))),
   .ife (.op .gt [.v 2, .k (.int 6)])
     [.ret (.tup [.call "_law_leaf" [.v 0], .k (.int 1), .k (.int 1)])]
     [],
   .asg (.t [(.n 3), (.n 4)]) (.op .ix [.lst true [.tup [.k (.str "pi"), .k (.int 2)], .tup [.k (.str "fun"), .k (.int 2)], .tup [.k (.str "app"), .k (.int 2)], .tup [.k (.str "sig"), .k (.int 2)], .tup [.k (.str "pair"), .k (.int 4)], .tup [.k (.str "fst"), .k (.int 1)], .tup [.k (.str "snd"), .k (.int 1)]], .v 2]),
   .asg (.n 5) (.comp true [6] (.n 6) (.tup [.v 4]) 2 none ce0__law_drawn),
   .ret (.tup [.op (.add true) [.tup [.v 3], .op .tuple1 [.comp true [7] (.n 7) (.v 5) 0 none ce1__law_drawn]], .op (.add true) [.k (.int 1), .op .sum [.comp true [7] (.n 7) (.v 5) 0 none ce2__law_drawn]], .op (.add true) [.k (.int 1), .op .maxL [.comp true [7] (.n 7) (.v 5) 0 none ce3__law_drawn]]])]
def f__law_drawn : Fn := ⟨2, 8, false, b__law_drawn⟩
/- _law_flat: 0 feed, 1 many, 2 leaf, 3 one, 4 two -/
def b__law_flat : List St :=
  [.ife (.op .lt [.v 1, .k (.int 3)])
     [.asg (.n 2) (.call "_law_leaf" [.v 0]),
      .ret (.ife (.op .eq [.v 1, .k (.int 1)]) (.tup [.v 2, .k (.int 1)]) (.tup [.tup [.call "_law_one" [.v 0, .lst true [.k (.str "fst"), .k (.str "snd")]], .v 2], .k (.int 2)]))]
     [],
   .par [3, 4] [.call "_law_flat" [.v 0, .op .fdiv [.op .sub [.v 1, .k (.int 1)], .k (.int 2)]], .call "_law_flat" [.v 0, .op .sub [.op .sub [.v 1, .k (.int 1)], .op .fdiv [.op .sub [.v 1, .k (.int 1)], .k (.int 2)]]]],
   .ret (.tup [.tup [.call "_law_one" [.v 0, .lst true [.k (.str "pi"), .k (.str "fun"), .k (.str "app"), .k (.str "sig")]], .op .ix [.v 3, .k (.int 0)], .op .ix [.v 4, .k (.int 0)]], .op (.add true) [.k (.int 1), .op .max2 [.op .ix [.v 3, .k (.int 1)], .op .ix [.v 4, .k (.int 1)]]]])]
def f__law_flat : Fn := ⟨2, 5, false, b__law_flat⟩
/- _law_thin: 0 feed, 1 deep, 2 term, 3 many, 4 turn, 5 word, 6 wide, 7 row, 8 part; cells feed -/
def ce0__law_thin : E :=
  .call "_law_leaf" [.v 0]
def lp0__law_thin : List St :=
  [.asg (.t [(.n 5), (.n 6)]) (.call "_law_one" [.v 0, .lst true [.tup [.k (.str "pi"), .k (.int 2)], .tup [.k (.str "fun"), .k (.int 2)], .tup [.k (.str "app"), .k (.int 2)], .tup [.k (.str "sig"), .k (.int 2)], .tup [.k (.str "pair"), .k (.int 4)], .tup [.k (.str "fst"), .k (.int 1)], .tup [.k (.str "snd"), .k (.int 1)]]]),
   .asg (.n 7) (.comp false [8] (.n 8) (.tup [.v 6]) 2 none ce0__law_thin),
   .put (.v 7) (.call "_law_draw" [.v 0, .v 6]) (.v 2),
   .par [2, 3] [.op (.add true) [.tup [.v 5], .op .tuple1 [.v 7]], .op (.add true) [.v 3, .v 6]]]
def b__law_thin : List St :=
  [.par [2, 3] [.call "_law_leaf" [.v 0], .k (.int 1)],
   .for (.n 4) (.tup [.op .sub [.v 1, .k (.int 1)]]) 2 lp0__law_thin,
   .ret (.tup [.v 2, .v 3])]
def f__law_thin : Fn := ⟨2, 9, false, b__law_thin⟩
/- _law_bad_word: 0 feed, 1 word, 2 spot, 3 sign, 4 some -/
def b__law_bad_word : List St :=
  [.asg (.n 1) (.call "_law_word" [.v 0]),
   .asg (.n 2) (.call "_law_draw" [.v 0, .op .len [.v 1]]),
   .asg (.n 3) (.call "_law_one" [.v 0, .k (.str "AZ_ -.'/:\x40[{`~\n\t!")]),
   .asg (.n 4) (.lst true [.op (.add true) [.op (.add true) [.op (.cut true false true) [.v 1, .v 2], .v 3], .op (.cut true true false) [.v 1, .op (.add true) [.v 2, .k (.int 1)]]], .op (.add true) [.call "_law_one" [.v 0, .k (.str "0123456789")], .op (.cut true true false) [.v 1, .k (.int 1)]], .k (.str ""), .op (.add true) [.v 1, .op (.mul true) [.k (.str "a"), .op .sub [.k (.int 13), .op .len [.v 1]]]]]),
   .ret (.call "_law_one" [.v 0, .op (.add true) [.v 4, .lst true [.op (.add true) [.op (.add true) [.op (.add true) [.op (.cut true false true) [.v 1, .v 2], .met .str .upper (.op .ix [.v 1, .v 2]) []], .op (.cut true true false) [.v 1, .op (.add true) [.v 2, .k (.int 1)]]], .k (.str "A")], .lst true [.v 1], .tup [.v 1], .k .non, .k (.bl true), .k (.int 3)]]])]
def f__law_bad_word : Fn := ⟨1, 5, false, b__law_bad_word⟩
/- _law_bad: 0 feed, 1 term, 2 word, 3 number, 4 far, 5 way -/
def b__law_bad : List St :=
  [.par [2, 3] [.call "_law_word" [.v 0], .call "_law_draw" [.v 0, .k (.int 10)]],
   .asg (.n 4) (.lst true [.op .neg [.k (.int 1)], .op .sub [.op .neg [.k (.int 1)], .v 3], .k (.bl true), .k (.bl false), .k .non, .op .str1 [.v 3], .tup [.v 3], .lst true [.v 3]]),
   .asg (.n 5) (.call "_law_draw" [.v 0, .k (.int 10)]),
   .ife (.op .lt [.v 5, .k (.int 2)])
     [.ret (.tup [.k (.str "var"), .call "_law_one" [.v 0, .op (.add true) [.v 4, .lst true [.k (.int 1000), .op (.add true) [.k (.int 1001), .call "_law_draw" [.v 0, .op .pow [.k (.int 10), .k (.int 20)]]]]]]])]
     [],
   .ife (.op .eq [.v 5, .k (.int 2)])
     [.ret (.tup [.k (.str "sort"), .call "_law_one" [.v 0, .op (.add true) [.v 4, .lst true [.k (.int 10), .op (.add true) [.k (.int 11), .v 3], .tup [.k (.str "sort"), .v 3]]]]])]
     [],
   .ife (.op .eq [.v 5, .k (.int 3)])
     [.ret (.ife (.op .eq [.call "_law_draw" [.v 0, .k (.int 2)], .k (.int 0)]) (.tup [.k (.str "rec"), .v 2, .call "_law_one" [.v 0, .op (.add true) [.v 4, .lst true [.k (.int 9), .op (.add true) [.k (.int 10), .v 3]]]]]) (.tup [.k (.str "rec"), .call "_law_bad_word" [.v 0], .op .sub [.v 3, .op .fdiv [.v 3, .k (.int 9)]]]))]
     [],
   .ife (.op .lt [.v 5, .k (.int 6)])
     [.ret (.tup [.k (.str "name"), .call "_law_bad_word" [.v 0]])]
     [],
   .ife (.op .eq [.v 5, .k (.int 6)])
     [.ret (.op (.add true) [.v 1, .tup [.tup [.k (.str "star")]]])]
     [],
   .ife (.op .eq [.v 5, .k (.int 7)])
     [.ret (.op (.cut true false true) [.v 1, .op .sub [.op .len [.v 1], .k (.int 1)]])]
     [],
   .ife (.op .eq [.v 5, .k (.int 8)])
     [.ret (.call "_law_one" [.v 0, .lst true [.op (.list1 true) [.v 1], .op .ix [.v 1, .k (.int 0)], .tup [.v 1], .dk [.inr "var"] [.int 0], .v 3, .k .non, .k (.bl true), .k (.str ""), .tup [], .lst true [], .op (.cut true true false) [.tup [.k (.str "star"), .k (.int 0)], .k (.int 1)]]])]
     [],
   .ret (.op (.add true) [.tup [.call "_law_one" [.v 0, .lst true [.k (.str "free"), .k (.str "lam"), .k (.str "hole"), .k (.str "Pi"), .k (.str "VAR"), .k (.str ""), .k (.str "app "), .k (.str "units"), .op (.add true) [.v 2, .k (.str "0")], .k (.int 0), .k .non, .tup [.k (.str "var")], .k (.bl true)]]], .op (.cut true true false) [.v 1, .k (.int 1)]])]
def f__law_bad : Fn := ⟨2, 6, false, b__law_bad⟩
/- _law_with: 0 feed, 1 term, 2 parts, 3 spot -/
def b__law_with : List St :=
  [.asg (.n 2) (.ife (.op (.inn false) [.op .ix [.v 1, .k (.int 0)], .tup [.k (.str "pi"), .k (.str "fun"), .k (.str "app"), .k (.str "sig"), .k (.str "pair"), .k (.str "fst"), .k (.str "snd")]]) (.op (.cut true true false) [.v 1, .k (.int 1)]) (.tup [])),
   .ife (.or (.op .eq [.v 2, .tup []]) (.op .eq [.call "_law_draw" [.v 0, .k (.int 5)], .k (.int 0)]))
     [.ret (.call "_law_bad" [.v 0, .v 1])]
     [],
   .asg (.n 3) (.call "_law_draw" [.v 0, .op .len [.v 2]]),
   .ret (.op (.add true) [.op (.add true) [.op (.cut true false true) [.v 1, .op (.add true) [.v 3, .k (.int 1)]], .tup [.call "_law_with" [.v 0, .op .ix [.v 2, .v 3]]]], .op (.cut true true false) [.v 1, .op (.add true) [.v 3, .k (.int 2)]]])]
def f__law_with : Fn := ⟨2, 4, false, b__law_with⟩
/- _law_refused: 0 thing, 1 words, 2 e -/
def b__law_refused : List St :=
  [.asg (.n 1) (.lst false []),
   .tryx [.ex (.met .list .append (.v 1) [.call "size" [.v 0]])] "BadTerm" (some 2)
     [.ex (.met .list .append (.v 1) [.ife (.isx 2 "ValueError") (.k (.str "one")) (.k (.str "no"))])],
   .tryx [.ex (.met .list .append (.v 1) [.call "depth" [.v 0]])] "BadTerm" (some 2)
     [.ex (.met .list .append (.v 1) [.ife (.isx 2 "ValueError") (.k (.str "two")) (.k (.str "no"))])],
   .ret (.op .eq [.v 1, .lst true [.k (.str "one"), .k (.str "two")]])]
def f__law_refused : Fn := ⟨1, 3, false, b__law_refused⟩
/- _law_right: 0 made, 1 many, 2 deep, 3 told, 4 one -/
def cc0__law_right : E :=
  .or (.not (.op (.isi .int) [.v 4])) (.op (.isi .bool) [.v 4])
def ce0__law_right : E :=
  .k (.int 1)
def b__law_right : List St :=
  [.ife (.or (.op .gt [.v 1, .k (.int 2000)]) (.op .gt [.v 2, .k (.int 60)]))
     [.ret (.and (.op .isB [.call "is_term" [.v 0], .k (.bl false)]) (.call "_law_refused" [.v 0]))]
     [],
   .asg (.n 3) (.lst true [.call "size" [.v 0], .callp "depth" [] [.v 0] [0]]),
   .ife (.op .lt [.v 1, .k (.int 400)])
     [.asg (.n 3) (.op (.add true) [.v 3, .lst true [.callp "size" [] [.v 0] [0], .call "depth" [.v 0]]])]
     [],
   .ife (.op .ne [.comp true [4] (.n 4) (.v 3) 0 (some cc0__law_right) ce0__law_right, .lst true []])
     [.ret (.k (.bl false))]
     [],
   .ret (.and (.op (.inn false) [.v 3, .lst true [.lst true [.v 1, .v 2], .lst true [.v 1, .v 2, .v 1, .v 2]]]) (.op .isB [.callp "is_term" [] [.v 0] [0], .k (.bl true)]))]
def f__law_right : Fn := ⟨3, 5, false, b__law_right⟩
/- _law_cell: 0 feed, 1 great, 2 made, 3 many, 4 deep, 5 rows, 6 one, 7 turn, 8 bad -/
def lp0__law_cell : List St :=
  [.asg (.n 8) (.call "_law_with" [.v 0, .op .ix [.v 6, .k (.int 0)]]),
   .ife (.or (.op .notB [.call "is_term" [.v 8], .k (.bl false)]) (.or (.op .notB [.callp "is_term" [] [.v 8] [0], .k (.bl false)]) (.and (.op .eq [.v 7, .k (.int 0)]) (.not (.call "_law_refused" [.v 8])))))
     [.ret (.k (.bl false))]
     []]
def lp1__law_cell : List St :=
  [.ife (.not (.call "_law_right" [.op .ix [.v 6, .k (.int 0)], .op .ix [.v 6, .k (.int 1)], .op .ix [.v 6, .k (.int 2)]]))
     [.ret (.k (.bl false))]
     [],
   .for (.n 7) (.tup [.ife (.op .lt [.op .ix [.v 6, .k (.int 1)], .k (.int 400)]) (.k (.int 3)) (.k (.int 1))]) 2 lp0__law_cell,
   .ife (.and (.op .lt [.op .ix [.v 6, .k (.int 1)], .k (.int 400)]) (.op .ne [.call "is_term" [.op .ix [.v 6, .k (.int 0)]], .op .lt [.op .ix [.v 6, .k (.int 2)], .k (.int 61)]]))
     [.ret (.k (.bl false))]
     []]
def b__law_cell : List St :=
  [.asg (.t [(.n 2), (.n 3), (.n 4)]) (.call "_law_drawn" [.v 0, .ife (.op .eq [.call "_law_draw" [.v 0, .k (.int 3)], .k (.int 0)]) (.k (.int 6)) (.k (.int 4))]),
   .asg (.n 5) (.lst false [.tup [.v 2, .v 3, .v 4]]),
   .asg (.n 4) (.call "_law_one" [.v 0, .lst true [.k (.int 60), .k (.int 60), .k (.int 61), .k (.int 62), .k (.int 59), .op (.add true) [.k (.int 1), .call "_law_draw" [.v 0, .k (.int 59)]]]]),
   .asg (.t [(.n 2), (.n 3)]) (.call "_law_thin" [.v 0, .v 4]),
   .ex (.met .list .append (.v 5) [.tup [.v 2, .v 3, .v 4]]),
   .asg (.n 3) (.ife (.v 1) (.call "_law_one" [.v 0, .lst true [.k (.int 2000), .k (.int 2001), .k (.int 2002), .k (.int 1999), .op (.add true) [.k (.int 1), .call "_law_draw" [.v 0, .k (.int 1900)]]]]) (.op (.add true) [.k (.int 1), .call "_law_draw" [.v 0, .k (.int 200)]])),
   .asg (.t [(.n 2), (.n 4)]) (.call "_law_flat" [.v 0, .v 3]),
   .ex (.met .list .append (.v 5) [.tup [.v 2, .v 3, .v 4]]),
   .for (.n 6) (.v 5) 0 lp1__law_cell,
   .ret (.k (.bl true))]
def f__law_cell : Fn := ⟨2, 9, false, b__law_cell⟩
/- law: 0 script, 1 k, 2 feed -/
def lp0_law : List St :=
  [.asg (.n 2) (.call "_law_feed" [.v 0, .v 1]),
   .ife (.not (.call "_law_cell" [.v 2, .and (.op .eq [.v 1, .k (.int 0)]) (.op .eq [.call "_law_draw" [.v 2, .k (.int 2)], .k (.int 0)])]))
     [.ret (.k (.bl false))]
     []]
def b_law : List St :=
  [.for (.n 1) (.tup [.op .max2 [.k (.int 1), .op .min2 [.op .len [.v 0], .k (.int 4)]]]) 2 lp0_law,
   .ret (.k (.bl true))]
def f_law : Fn := ⟨1, 3, false, b_law⟩
def c_LETTERS : D := .str "abcdefghijklmnopqrstuvwxyz"
def c_FIGURES : D := .str "0123456789"
def c_MOST_SIGNS : D := .int 12
def c_MOST_NODES : D := .int 2000
def c_MOST_DEEP : D := .int 60
def c_MOST_SORT : D := .int 9
def c_MOST_VARIABLE : D := .int 999
def c_MOST_RAISED : D := .int 8
def c_MANY : D := .dK [.inr "pi", .inr "fun", .inr "app", .inr "sig", .inr "pair", .inr "fst", .inr "snd"] [.int 2, .int 2, .int 2, .int 2, .int 4, .int 1, .int 1]
def c_PLAIN : D := .tup [.str "unit", .str "star"]
def globs : List (Str × D) := [("LETTERS", c_LETTERS), ("FIGURES", c_FIGURES), ("MOST_SIGNS", c_MOST_SIGNS), ("MOST_NODES", c_MOST_NODES), ("MOST_DEEP", c_MOST_DEEP), ("MOST_SORT", c_MOST_SORT), ("MOST_VARIABLE", c_MOST_VARIABLE), ("MOST_RAISED", c_MOST_RAISED), ("MANY", c_MANY), ("PLAIN", c_PLAIN)]
def fns : List (Str × Fn) := [("is_integer", f_is_integer), ("is_within", f_is_within), ("is_word", f_is_word), ("is_leaf_form", f_is_leaf_form), ("is_node_form", f_is_node_form), ("is_term_form", f_is_term_form), ("need_term", f_need_term), ("parts_of", f_parts_of), ("size_of", f_size_of), ("depth_of", f_depth_of), ("is_term", f_is_term), ("size", f_size), ("depth", f_depth), ("_law_feed", f__law_feed), ("_law_draw", f__law_draw), ("_law_one", f__law_one), ("_law_word", f__law_word), ("_law_leaf", f__law_leaf), ("_law_drawn", f__law_drawn), ("_law_flat", f__law_flat), ("_law_thin", f__law_thin), ("_law_bad_word", f__law_bad_word), ("_law_bad", f__law_bad), ("_law_with", f__law_with), ("_law_refused", f__law_refused), ("_law_right", f__law_right), ("_law_cell", f__law_cell), ("law", f_law)]
def subs : List (Str × Str) := [("HoldError", "HoldError"), ("HoldError", "ValueError"), ("HoldError", "Exception"), ("HoldError", "BaseException"), ("BadTerm", "BadTerm"), ("BadTerm", "HoldError"), ("BadTerm", "ValueError"), ("BadTerm", "Exception"), ("BadTerm", "BaseException")]
def T : Text := { glob := fun x => globs.lookup x, subs := fun a b => subs.contains (a, b), cur := none, fn := fun x => fns.lookup x }
theorem fn_is_integer : T.fn "is_integer" = some f_is_integer := by rfl
theorem fn_is_within : T.fn "is_within" = some f_is_within := by rfl
theorem fn_is_word : T.fn "is_word" = some f_is_word := by rfl
theorem fn_is_leaf_form : T.fn "is_leaf_form" = some f_is_leaf_form := by rfl
theorem fn_is_node_form : T.fn "is_node_form" = some f_is_node_form := by rfl
theorem fn_is_term_form : T.fn "is_term_form" = some f_is_term_form := by rfl
theorem fn_need_term : T.fn "need_term" = some f_need_term := by rfl
theorem fn_parts_of : T.fn "parts_of" = some f_parts_of := by rfl
theorem fn_size_of : T.fn "size_of" = some f_size_of := by rfl
theorem fn_depth_of : T.fn "depth_of" = some f_depth_of := by rfl
theorem fn_is_term : T.fn "is_term" = some f_is_term := by rfl
theorem fn_size : T.fn "size" = some f_size := by rfl
theorem fn_depth : T.fn "depth" = some f_depth := by rfl
theorem fn__law_feed : T.fn "_law_feed" = some f__law_feed := by rfl
theorem fn__law_draw : T.fn "_law_draw" = some f__law_draw := by rfl
theorem fn__law_one : T.fn "_law_one" = some f__law_one := by rfl
theorem fn__law_word : T.fn "_law_word" = some f__law_word := by rfl
theorem fn__law_leaf : T.fn "_law_leaf" = some f__law_leaf := by rfl
theorem fn__law_drawn : T.fn "_law_drawn" = some f__law_drawn := by rfl
theorem fn__law_flat : T.fn "_law_flat" = some f__law_flat := by rfl
theorem fn__law_thin : T.fn "_law_thin" = some f__law_thin := by rfl
theorem fn__law_bad_word : T.fn "_law_bad_word" = some f__law_bad_word := by rfl
theorem fn__law_bad : T.fn "_law_bad" = some f__law_bad := by rfl
theorem fn__law_with : T.fn "_law_with" = some f__law_with := by rfl
theorem fn__law_refused : T.fn "_law_refused" = some f__law_refused := by rfl
theorem fn__law_right : T.fn "_law_right" = some f__law_right := by rfl
theorem fn__law_cell : T.fn "_law_cell" = some f__law_cell := by rfl
theorem fn_law : T.fn "law" = some f_law := by rfl
end K01
/-! YPure: runs of the data language: defs, loops, the feed of draws. -/
namespace Y
/-- a run by at most n calls in one another: Wp, shut to the unifier -/
@[irreducible] def Run (T : Text) (n : Nat) : Calls := Wp T n
theorem run_eq {T : Text} {n : Nat} : Run T n = Wp T n := by unfold Run; rfl
theorem wp_of {T : Text} {n : Nat} {f : Str} {F : Fn} {ds : List D} {S : Store} {Q : Q1} {W : Str → Store → Prop} (hF : T.fn f = some F) (hl : ds.length = F.np)
    (h : wSs (Run T n) F.body T.toProg (fresh F.np F.ns ds) S ⟨fun _ S' => Q .non (S'.take S.length), fun d S' => back F.keep S.length d S' Q, fun _ _ => False, fun _ _ => False, fun c _ S' => W c (S'.take S.length)⟩) : Run T (n + 1) f ds S Q W := by
  rw [run_eq] at h ⊢
  show (match T.fn f with | none => False | some F => _)
  rw [hF]
  exact ⟨hl, h⟩
theorem putT_n {i : Nat} {d : D} {σ : En} : putT (.n i) d σ = if i < σ.length then some (σ.set i (some d)) else none := rfl
theorem putT_t {ts : List Tg} {xs : List D} {σ : En} : putT (.t ts) (.tup xs) σ = putTs ts xs σ := rfl
theorem putTs_n {σ : En} : putTs [] [] σ = some σ := rfl
theorem putTs_c {t : Tg} {ts : List Tg} {x : D} {xs : List D} {σ : En} : putTs (t :: ts) (x :: xs) σ = match putT t x σ with | some σ' => putTs ts xs σ' | none => none := rfl
theorem take_set_length {α : Type} (S : List α) (i : Nat) (o : α) : (S.set i o).take S.length = S.set i o := by
  rw [List.take_of_length_le (by rw [List.length_set]; exact Nat.le_refl _)]
section
variable {fz : Bool} {i j : Int} {a b : Str} {xs ys : List D} {S : Store} {Q : Q1}
theorem oAddI : opW (.add fz) [.int i, .int j] S Q = Q (.int (i + j)) S := rfl
theorem oAddA : opW .addI [.int i, .int j] S Q = Q (.int (i + j)) S := rfl
theorem oAddS : opW (.add fz) [.str a, .str b] S Q = (a.length + b.length ≤ line ∧ Q (.str (a ++ b)) S) := rfl
theorem oAddT : opW (.add fz) [.tup xs, .tup ys] S Q = (xs ≠ [] ∧ xs.length + ys.length ≤ line ∧ Q (.tup (xs ++ ys)) S) := rfl
theorem oAddL : opW (.add fz) [.lst xs, .lst ys] S Q = newL fz (xs ++ ys) S Q := rfl
theorem oSub : opW .sub [.int i, .int j] S Q = Q (.int (i - j)) S := rfl
theorem oMulI : opW (.mul fz) [.int i, .int j] S Q = (mulOk i j ∧ Q (.int (i * j)) S) := rfl
theorem oMulS : opW (.mul fz) [.str a, .int j] S Q = (a.length * j.toNat ≤ line ∧ j < 4611686018427387904 ∧ -4611686018427387904 < j ∧ Q (.str (repS j a)) S) := rfl
theorem oPow : opW .pow [.int i, .int j] S Q = ((0 ≤ j ∧ j ≤ 1000000 ∧ i.natAbs < 2 ^ 64) ∧ Q (.int (i ^ j.toNat)) S) := rfl
theorem oFdiv : opW .fdiv [.int i, .int j] S Q = ((0 < j ∧ j.natAbs.log2 < 9000) ∧ Q (.int (i / j)) S) := rfl
theorem oMod : opW .mod [.int i, .int j] S Q = (0 < j ∧ Q (.int (i % j)) S) := rfl
theorem oNeg : opW .neg [.int i] S Q = Q (.int (-i)) S := rfl
theorem oLt : opW .lt [.int i, .int j] S Q = Q (.bl (decide (i < j))) S := rfl
theorem oLe : opW .le [.int i, .int j] S Q = Q (.bl (decide (i ≤ j))) S := rfl
theorem oGt : opW .gt [.int i, .int j] S Q = Q (.bl (decide (j < i))) S := rfl
theorem oGe : opW .ge [.int i, .int j] S Q = Q (.bl (decide (j ≤ i))) S := rfl
theorem oIsN {x : D} : opW .isN [x] S Q = Q (.bl (isNone x)) S := rfl
theorem oNotN {x : D} : opW .notN [x] S Q = Q (.bl (!isNone x)) S := rfl
theorem oIsB {x y : Bool} : opW .isB [.bl x, .bl y] S Q = Q (.bl (x == y)) S := rfl
theorem oNotB {x y : Bool} : opW .notB [.bl x, .bl y] S Q = Q (.bl (!(x == y))) S := rfl
theorem oIxT : opW .ix [.tup xs, .int i] S Q = (match ixOf xs i with | some v => Q v S | none => False) := rfl
theorem oIxL : opW .ix [.lst xs, .int i] S Q = (match ixOf xs i with | some v => Q v S | none => False) := rfl
theorem oIxS : opW .ix [.str a, .int i] S Q = (a.length ≤ line ∧ (match ixOf a.cps.toList i with | some c => Q (.str ⟨#[c]⟩) S | none => False)) := rfl
theorem oIxO {l : Nat} (e : S[l]? = some (.lst xs)) : opW .ix [.loc l, .int i] S Q = (match ixOf xs i with | some v => Q v S | none => False) := by
  show (match (match S[l]? with | some (.lst xs) => some xs | _ => none) with | some xs => (match ixOf xs i with | some v => Q v S | none => False) | none => False) = _
  rw [e]
def cutLo (n : Nat) (i : Int) : Nat := if 0 ≤ i then min i.toNat n else (i + n).toNat
theorem oCutT_L : opW (.cut fz true false) [.tup xs, .int i] S Q = Q (.tup (cutOf xs (cutLo xs.length i) xs.length)) S := rfl
theorem oCutT_R : opW (.cut fz false true) [.tup xs, .int i] S Q = Q (.tup (cutOf xs 0 (cutLo xs.length i))) S := rfl
theorem oCutL_R : opW (.cut fz false true) [.lst xs, .int i] S Q = newL fz (cutOf xs 0 (cutLo xs.length i)) S Q := rfl
theorem oCutS_L : opW (.cut fz true false) [.str a, .int i] S Q = (a.length ≤ line ∧ Q (.str ⟨(cutOf a.cps.toList (cutLo a.cps.size i) a.cps.size).toArray⟩) S) := rfl
theorem oCutS_R : opW (.cut fz false true) [.str a, .int i] S Q = (a.length ≤ line ∧ Q (.str ⟨(cutOf a.cps.toList 0 (cutLo a.cps.size i)).toArray⟩) S) := rfl
theorem oUpper : opW .upper [.str a] S Q = (a.length ≤ 5592405 ∧ ∀ z : Str, z.length ≤ 3 * a.length → Q (.str z) S) := rfl
theorem cut_lo {α : Type} {zs : List α} (n : Nat) : cutOf zs (cutLo zs.length (n : Int)) zs.length = zs.drop n := by
  have e : cutLo zs.length (n : Int) = min n zs.length := by
    show (if (0 : Int) ≤ n then min (Int.toNat n) zs.length else _) = _
    rw [if_pos (by omega), Int.toNat_natCast]
  unfold cutOf
  rw [e]
  by_cases h : n ≤ zs.length
  · rw [Nat.min_eq_left h, List.take_of_length_le (by rw [List.length_drop]; exact Nat.le_refl _)]
  · rw [Nat.min_eq_right (by omega), Nat.sub_self, List.take_zero, List.drop_eq_nil_of_le (by omega)]
theorem cut_hi {α : Type} {zs : List α} (n : Nat) : cutOf zs 0 (cutLo zs.length (n : Int)) = zs.take n := by
  have e : cutLo zs.length (n : Int) = min n zs.length := by
    show (if (0 : Int) ≤ n then min (Int.toNat n) zs.length else _) = _
    rw [if_pos (by omega), Int.toNat_natCast]
  unfold cutOf
  rw [e, List.drop_zero, Nat.sub_zero]
  by_cases h : n ≤ zs.length
  · rw [Nat.min_eq_left h]
  · rw [Nat.min_eq_right (by omega), List.take_length, List.take_of_length_le (by omega)]
theorem oLenT : opW .len [.tup xs] S Q = Q (.int xs.length) S := rfl
theorem oLenL : opW .len [.lst xs] S Q = Q (.int xs.length) S := rfl
theorem oLenS : opW .len [.str a] S Q = (a.length ≤ line ∧ Q (.int a.length) S) := rfl
theorem oMax2 : opW .max2 [.int i, .int j] S Q = Q (.int (if j > i then j else i)) S := rfl
theorem oMin2 : opW .min2 [.int i, .int j] S Q = Q (.int (if j < i then j else i)) S := rfl
theorem oInt1 : opW .int1 [.int i] S Q = Q (.int i) S := rfl
theorem oStr1 : opW .str1 [.int i] S Q = (i.natAbs.log2 < 1920 ∧ Q (.str (toString i : String)) S) := rfl
theorem oInS {neg : Bool} {c : Nat} : opW (.inn neg) [.str ⟨#[c]⟩, .str b] S Q = Q (.bl (negB neg (b.cps.toList.contains c))) S := rfl
theorem oIn2 {neg : Bool} {c : Str} : opW (.inn neg) [.str c, .tup [.str a, .str b]] S Q = Q (.bl (negB neg (decide (a = c) || (decide (b = c) || false)))) S := propext ⟨fun h => h.2.2, fun h => ⟨rfl, rfl, h⟩⟩
theorem oInK {neg : Bool} {ks : List Ky} : opW (.inn neg) [.str a, .dK ks xs] S Q = Q (.bl (negB neg (ks.contains (.inr a)))) S := rfl
theorem oIxK {ks : List Ky} : opW .ix [.dK ks xs, .str a] S Q = (match (ks.zip xs).lookup (.inr a) with | some v => Q v S | none => False) := rfl
theorem oEqI : opW .eq [.int i, .int j] S Q = Q (.bl (i == j)) S := rfl
theorem oEqS : opW .eq [.str a, .str b] S Q = Q (.bl (decide (a = b))) S := rfl
theorem oEqB {x y : Bool} : opW .eq [.bl x, .bl y] S Q = Q (.bl (x == y)) S := rfl
theorem oNeB {x y : Bool} : opW .ne [.bl x, .bl y] S Q = Q (.bl (!(x == y))) S := rfl
theorem oNeI : opW .ne [.int i, .int j] S Q = Q (.bl (!(i == j))) S := rfl
theorem oNeE {l : Nat} (e : S[l]? = some (.lst xs)) : opW .ne [.loc l, .lst []] S Q = Q (.bl (!(xs.isEmpty))) S := by
  show (match (match S[l]? with | some (.lst xs) => some xs | _ => none), some [] with | some xs, some ys => wEqs (fun b => !b) xs ys S Q | _, _ => False) = _
  rw [e]
  show (if (xs.isEmpty || true) = true then Q (.bl (!(xs.isEmpty && true))) S else _) = _
  rw [Bool.or_true, Bool.and_true, if_pos rfl]
theorem oNeE2 : opW .ne [.lst xs, .lst []] S Q = Q (.bl (!(xs.isEmpty))) S := by
  show (if (xs.isEmpty || true) = true then Q (.bl (!(xs.isEmpty && true))) S else _) = _
  rw [Bool.or_true, Bool.and_true, if_pos rfl]
theorem oEqTE : opW .eq [.tup xs, .tup []] S Q = Q (.bl (xs.isEmpty)) S := by
  show (if (xs.isEmpty || true) = true then Q (.bl (xs.isEmpty && true)) S else _) = _
  rw [Bool.or_true, Bool.and_true, if_pos rfl]
theorem oAll : opW .all [.lst xs] S Q = wBools (.lst xs) S fun bs => Q (.bl (bs.all id)) S := rfl
theorem oSum : opW .sum [.lst xs] S Q = wInts (.lst xs) S fun ns => Q (.int ns.sum) S := rfl
theorem oTuple : opW .tuple1 [.lst xs] S Q = Q (.tup xs) S := rfl
theorem walkL : walkOf 0 (.lst xs) S = some (xs, fun _ => True) := rfl
theorem walkT : walkOf 0 (.tup xs) S = some (xs, fun _ => True) := rfl
theorem walkS (h : a.length ≤ line) : walkOf 0 (.str a) S = some (a.cps.toList.map fun c => .str ⟨#[c]⟩, fun _ => True) := by
  show (if a.length ≤ line then _ else _) = _
  rw [if_pos h]
theorem walkO {l : Nat} (e : S[l]? = some (.lst xs)) : walkOf 0 (.loc l) S = some (xs, fun S' => S'[l]? = some (.lst xs)) := by
  show (match S[l]? with | some (O.lst xs) => some (xs, fun (S' : Store) => S'[l]? = some (O.lst xs)) | _ => none) = _
  rw [e]
theorem walk2 (h : 0 ≤ i) (h2 : i < 4611686018427387904) : walkOf 2 (.tup [.int i]) S = some ((List.range i.toNat).map fun j => .int (j : Nat), fun _ => True) := by
  show (if -big ≤ i ∧ i < big then _ else _) = _
  rw [if_pos ⟨by unfold big; omega, by unfold big; omega⟩]
theorem walk2' (h : i ≤ 0) (h2 : -4611686018427387904 < i) : walkOf 2 (.tup [.int i]) S = some ([], fun _ => True) := by
  show (if -big ≤ i ∧ i < big then some ((List.range i.toNat).map fun j => D.int (j : Nat), fun _ => True) else _) = _
  rw [if_pos ⟨by unfold big; omega, by unfold big; omega⟩, show i.toNat = 0 by omega]
  rfl
theorem oEqO {l : Nat} (e : S[l]? = some (.lst xs)) : opW .eq [.loc l, .lst ys] S Q = wEqs (fun b => b) xs ys S Q := by
  show (match (match S[l]? with | some (.lst xs) => some xs | _ => none), some ys with | some xs, some ys => wEqs (fun b => b) xs ys S Q | _, _ => False) = _
  rw [e]
theorem oInL {neg : Bool} : opW (.inn neg) [.lst xs, .lst ys] S Q = ((lstOf S (.lst ys)).isSome = true ∧ (D.lst xs).dat = true ∧ dats ys = true ∧ (D.lst xs).depth ≤ 64 ∧ depths ys < 64 ∧ Q (.bl (negB neg (ys.any fun z => eqD z (.lst xs)))) S) := rfl
theorem isInt_int {k : Int} : isTy S .int (.int k) = true := rfl
theorem isBool_int {k : Int} : isTy S .bool (.int k) = false := rfl
theorem oPop {l : Nat} {y : D} (e : S[l]? = some (.lst xs)) (hy : xs.getLast? = some y) : opW .pop [.loc l] S Q = Q y (S.set l (.lst xs.dropLast)) := by
  show (match S[l]? with | some (.lst xs) => (match xs.getLast? with | some y => Q y (S.set l (.lst xs.dropLast)) | none => False) | _ => False) = _
  rw [e]
  show (match xs.getLast? with | some y => Q y (S.set l (.lst xs.dropLast)) | none => False) = _
  rw [hy]
theorem oApp {l : Nat} {y : D} (e : S[l]? = some (.lst xs)) : opW .append [.loc l, y] S Q = (y.free = true ∧ xs.length < line ∧ Q .non (S.set l (.lst (xs ++ [y])))) := by
  show (match S[l]? with | some (.lst xs) => (y.free = true ∧ xs.length < line ∧ Q .non (S.set l (.lst (xs ++ [y])))) | _ => False) = _
  rw [e]
theorem oExt {l : Nat} (e : S[l]? = some (.lst xs)) : opW .extend [.loc l, .lst ys] S Q = (xs.length + ys.length ≤ line ∧ Q .non (S.set l (.lst (xs ++ ys)))) := by
  show (match S[l]? with | some (.lst xs) => (xs.length + ys.length ≤ line ∧ Q .non (S.set l (.lst (xs ++ ys)))) | _ => False) = _
  rw [e]
theorem oTupleO {l : Nat} (e : S[l]? = some (.lst xs)) : opW .tuple1 [.loc l] S Q = Q (.tup xs) S := by
  show (match (match S[l]? with | some (.lst xs) => some xs | _ => none) with | some xs => Q (.tup xs) S | none => False) = _
  rw [e]
theorem isTyO {l : Nat} (e : S[l]? = some (.lst xs)) : isTy S .list (.loc l) = true := by
  show (match S[l]? with | some (.lst _) => true | _ => false) = true
  rw [e]
theorem getApp {o : O} : (S ++ [o])[S.length]? = some o := List.getElem?_concat_length
theorem setApp {o o' : O} : (S ++ [o]).set S.length o' = S ++ [o'] := by
  rw [List.set_append_right _ _ (Nat.le_refl _), Nat.sub_self]
  rfl
theorem cut1 {x : D} : cutOf (x :: xs) (cutLo (xs.length + 1) 1) (xs.length + 1) = xs := by
  have e : cutLo (xs.length + 1) 1 = 1 := by
    show (if (0 : Int) ≤ 1 then min (Int.toNat 1) (xs.length + 1) else _) = 1
    rw [if_pos (by decide)]
    show min 1 (xs.length + 1) = 1
    omega
  unfold cutOf
  rw [e]
  show (xs.take (xs.length + 1 - 1)) = xs
  rw [Nat.add_sub_cancel, List.take_length]
theorem bools_map {α : Type} (g : α → Bool) : ∀ l : List α, boolsOf (l.map fun x => .bl (g x)) = some (l.map g)
  | [] => rfl
  | x :: r => by
    show (boolsOf (r.map fun x => .bl (g x))).map (g x :: ·) = _
    rw [bools_map g r]
    rfl
theorem ints_map {α : Type} (g : α → Int) : ∀ l : List α, intsOf (l.map fun x => .int (g x)) = some (l.map g)
  | [] => rfl
  | x :: r => by
    show (intsOf (r.map fun x => .int (g x))).map (g x :: ·) = _
    rw [ints_map g r]
    rfl
theorem oList1T : opW (.list1 fz) [.tup xs] S Q = newL fz xs S Q := rfl
theorem oList1L : opW (.list1 fz) [.lst xs] S Q = newL fz xs S Q := rfl
theorem oIsi {t : Ty} {x : D} : opW (.isi t) [x] S Q = Q (.bl (isTy S t x)) S := rfl
theorem ix0 {α : Type} {zs : List α} : ixOf zs 0 = zs[0]? := rfl
theorem ix1 {α : Type} {zs : List α} : ixOf zs 1 = zs[1]? := rfl
theorem ix2 {α : Type} {zs : List α} : ixOf zs 2 = zs[2]? := rfl
theorem ix3 {α : Type} {zs : List α} : ixOf zs 3 = zs[3]? := rfl
theorem ix4 {α : Type} {zs : List α} : ixOf zs 4 = zs[4]? := rfl
end
theorem forW_inv {G : Store → Prop} {body : D → En → Store → Nd → Prop} {E : Nd} (I : List D → En → Store → Prop) (hG : ∀ r σ S, I r σ S → G S) (he : ∀ σ S, I [] σ S → E.nx σ S)
    (hs : ∀ (x : D) (r : List D) (σ : En) (S : Store) (K : En → Store → Prop), I (x :: r) σ S → (∀ σ' S', I r σ' S' → K σ' S') → body x σ S { E with nx := K, ct := K, bk := E.nx }) : ∀ (xs : List D) (σ : En) (S : Store), I xs σ S → forW G body xs σ S E
  | [], σ, S, h => ⟨hG _ _ _ h, he _ _ h⟩
  | x :: r, σ, S, h => ⟨hG _ _ _ h, hs x r σ S _ h fun σ' S' h' => forW_inv I hG he hs r σ' S' h'⟩
theorem whlW_inv {test : En → Store → (Bool → Store → Prop) → Prop} {body : En → Store → Nd → Prop} {E : Nd} (I : Nat → En → Store → Prop) (h0 : ∀ σ S, ¬ I 0 σ S)
    (hs : ∀ (m : Nat) (σ : En) (S : Store) (K : En → Store → Prop), I (m + 1) σ S → (∀ σ' S', I m σ' S' → K σ' S') → test σ S fun b S' => if b then body σ S' { E with nx := K, ct := K, bk := E.nx } else E.nx σ S') : ∀ (m : Nat) (σ : En) (S : Store), I m σ S → whlW test body m σ S E
  | 0, σ, S, h => (h0 σ S h).elim
  | m + 1, σ, S, h => hs m σ S _ h fun σ' S' h' => whlW_inv I h0 hs m σ' S' h'
theorem compW_inv {G : Store → Prop} {f : D → Store → (Option D → Store → Prop) → Prop} {Q : List D → Store → Prop} (I : List D → List D → Store → Prop) (hG : ∀ r a S, I r a S → G S) (he : ∀ a S, I [] a S → Q a S)
    (hs : ∀ (x : D) (r a : List D) (S : Store) (R : Option D → Store → Prop), I (x :: r) a S → (∀ d S', d.free = true → a.length < line → I r (a ++ [d]) S' → R (some d) S') → (∀ S', I r a S' → R none S') → f x S R) : ∀ (xs a : List D) (S : Store), I xs a S → compW G f xs a S Q
  | [], a, S, h => ⟨hG _ _ _ h, he _ _ h⟩
  | x :: r, a, S, h => ⟨hG _ _ _ h, hs x r a S _ h (fun d S' h1 h2 h3 => ⟨h1, h2, compW_inv I hG he hs r (a ++ [d]) S' h3⟩) fun S' h' => compW_inv I hG he hs r a S' h'⟩
/-- a comprehension that changes nothing and keeps every item -/
theorem compW_map {G : Store → Prop} {f : D → Store → (Option D → Store → Prop) → Prop} {Q : List D → Store → Prop} {S : Store} (g : D → D) (hG : G S) : ∀ (xs a : List D), (∀ x ∈ xs, ∀ R : Option D → Store → Prop, R (some (g x)) S → f x S R) → (∀ x ∈ xs, (g x).free = true) → a.length + xs.length ≤ line → Q (a ++ xs.map g) S → compW G f xs a S Q
  | [], a, _, _, _, q => ⟨hG, by simpa using q⟩
  | x :: r, a, hf, hg, hl, q => by
    refine ⟨hG, hf x List.mem_cons_self _ ⟨hg x List.mem_cons_self, ?_, ?_⟩⟩
    · rw [List.length_cons] at hl; omega
    · refine compW_map g hG r (a ++ [g x]) (fun y hy => hf y (List.mem_cons_of_mem _ hy)) (fun y hy => hg y (List.mem_cons_of_mem _ hy)) ?_ ?_
      · rw [List.length_append, List.length_cons, List.length_nil]; rw [List.length_cons] at hl; omega
      · rw [List.append_assoc]; exact q
mutual
theorem inl_free {S : Store} {n : Nat} : ∀ {d : D}, d.free = true → inl S n d = d
  | .non, _ => rfl
  | .bl _, _ => rfl
  | .int _, _ => rfl
  | .str _, _ => rfl
  | .lst _, _ => rfl
  | .dK _ _, _ => rfl
  | .dT _ _, _ => rfl
  | .loc _, h => by cases h
  | .tup xs, h => congrArg D.tup (inls_free (ds := xs) h)
theorem inls_free {S : Store} {n : Nat} : ∀ {ds : List D}, frees ds = true → inls S n ds = ds
  | [], _ => rfl
  | d :: r, h => by
    have h : (d.free && frees r) = true := h
    rw [Bool.and_eq_true] at h
    show inl S n d :: inls S n r = _
    rw [inl_free h.1, inls_free h.2]
end
theorem frees_mem : ∀ {xs : List D} {y : D}, frees xs = true → y ∈ xs → y.free = true
  | x :: xs, y, h, hm => by
    have h : (x.free && frees xs) = true := h
    rw [Bool.and_eq_true] at h
    rcases List.mem_cons.mp hm with e | e
    · rw [e]; exact h.1
    · exact frees_mem h.2 e
theorem frees_of : ∀ {xs : List D}, (∀ y ∈ xs, y.free = true) → frees xs = true
  | [], _ => rfl
  | x :: xs, h => by
    show (x.free && frees xs) = true
    rw [h x List.mem_cons_self, frees_of fun y hy => h y (List.mem_cons_of_mem _ hy)]
    rfl
theorem frees_append {xs ys : List D} (h1 : frees xs = true) (h2 : frees ys = true) : frees (xs ++ ys) = true :=
  frees_of fun y hy => (List.mem_append.mp hy).elim (frees_mem h1) (frees_mem h2)
theorem frees_sub {xs ys : List D} (h : frees ys = true) (hs : ∀ y ∈ xs, y ∈ ys) : frees xs = true := frees_of fun y hy => frees_mem h (hs y hy)
/-! ### the feed -/
/-- three ints: the second below the mark, the third has room for N more draws -/
def feedO (N : Nat) (o : O) : Prop := ∃ a b c : Int, o = .lst [.int a, .int b, .int c] ∧ 0 ≤ a ∧ 0 ≤ b ∧ b < 10 ^ 41 + 9 ∧ 0 ≤ c ∧ c + (N : Int) ≤ 18446744073709551616
def FeedAt (S : Store) (i N : Nat) : Prop := ∃ o, S[i]? = some o ∧ feedO N o
theorem feedO.mono {N M : Nat} {o : O} (h : feedO N o) (l : M ≤ N) : feedO M o := by
  obtain ⟨a, b, c, e, h1, h2, h3, h4, h5⟩ := h
  exact ⟨a, b, c, e, h1, h2, h3, h4, by omega⟩
theorem FeedAt.mono {S : Store} {i N M : Nat} (h : FeedAt S i N) (l : M ≤ N) : FeedAt S i M := let ⟨o, e, k⟩ := h; ⟨o, e, k.mono l⟩
theorem FeedAt.lt {S : Store} {i N : Nat} (h : FeedAt S i N) : i < S.length := let ⟨_, e, _⟩ := h; (List.getElem?_eq_some_iff.mp e).1
theorem FeedAt.set {S : Store} {i N M : Nat} {o : O} (h : FeedAt S i N) (k : feedO M o) : FeedAt (S.set i o) i M := ⟨o, List.getElem?_set_self h.lt, k⟩
theorem log2_lt {n k : Nat} (h : n < 2 ^ k) (hk : 0 < k) : n.log2 < k := by
  by_cases h0 : n = 0
  · subst h0; simpa using hk
  · exact (Nat.log2_lt h0).mpr h
theorem mulOk_of {i j : Int} {a b : Nat} (h1 : i.natAbs < 2 ^ a) (h2 : j.natAbs < 2 ^ b) (ha : 0 < a) (hb : 0 < b) (h : a + b ≤ 134000000) : mulOk i j := by
  have := log2_lt h1 ha
  have := log2_lt h2 hb
  unfold mulOk
  omega
theorem mul_bits {i j : Int} {a b : Nat} (h1 : i.natAbs < 2 ^ a) (h2 : j.natAbs < 2 ^ b) : (i * j).natAbs < 2 ^ (a + b) := by
  rw [Int.natAbs_mul, Nat.pow_add]
  exact Nat.mul_lt_mul'' h1 h2
def bDraw : List St :=
  [.ife (.op .gt [.op .ix [.v 0, .k (.int 0)], .k (.int 0)])
     [.asg (.n 2) (.op .mod [.op .int1 [.op .ix [.v 0, .k (.int 0)]], .v 1]),
      .put (.v 0) (.k (.int 0)) (.op .fdiv [.op .ix [.v 0, .k (.int 0)], .v 1]),
      .ret (.v 2)]
     [],
   .put (.v 0) (.k (.int 2)) (.op (.add true) [.op .ix [.v 0, .k (.int 2)], .k (.int 1)]),
   .put (.v 0) (.k (.int 1)) (.op .mod [.op .int1 [.op (.add true) [.op (.add true) [.op (.add true) [.op (.mul true) [.op .ix [.v 0, .k (.int 1)], .op .ix [.v 0, .k (.int 1)]], .op (.mul true) [.k (.int 8191), .op .ix [.v 0, .k (.int 1)]]], .op (.mul true) [.op (.mul true) [.k (.int 104729), .op .ix [.v 0, .k (.int 2)]], .op .ix [.v 0, .k (.int 2)]]], .k (.int 13)]], .op (.add true) [.op .pow [.k (.int 10), .k (.int 41)], .k (.int 9)]]),
   .ret (.op .mod [.op .int1 [.op .fdiv [.op .ix [.v 0, .k (.int 1)], .op .pow [.k (.int 10), .k (.int 9)]]], .v 1])]
theorem w_draw {T : Text} (hT : T.fn "_law_draw" = some ⟨2, 3, false, bDraw⟩) {n i N : Nat} {k : Int} {S : Store} {Q : Q1} {W : Str → Store → Prop} (hf : FeedAt S i (N + 1)) (hk : 0 < k) (hk2 : k < 340282366920938463463374607431768211456)
    (h : ∀ (r : Int) (o : O), 0 ≤ r → r < k → feedO N o → Q (.int r) (S.set i o)) : Run T (n + 1) "_law_draw" [.loc i, .int k] S Q W := by
  obtain ⟨o, e, a, b, c, rfl, h1, h2, h3, h4, h5⟩ := hf
  have hi : i < S.length := (List.getElem?_eq_some_iff.mp e).1
  refine wp_of hT rfl ?_
  have g : ∀ o : O, (S.set i o)[i]? = some o := fun o => List.getElem?_set_self hi
  try simp only [fresh, wSs, wS, wE, wEs, wC, asB, asI, List.map_cons, List.map_nil, List.replicate_succ, List.replicate_zero, List.append_nil, List.getElem?_cons_zero, List.getElem?_cons_succ, List.getElem?_nil, List.cons_append, List.nil_append, putT_n, putT_t, putTs_n, putTs_c, List.set_cons_zero, List.set_cons_succ, List.length_cons, List.length_nil, List.length_set, List.length_replicate, back, inl, inls, reduceIte, Nat.reduceAdd, Nat.reduceSub, Nat.reduceLT, Nat.reduceLeDiff, Nat.zero_add, wipe, true_and, and_true, Bool.true_eq_false, Bool.false_eq_true, List.set_set, List.take_length, take_set_length, Bool.not_true, Bool.not_false, Int.reduceToNat, Int.reduceLE, Int.reduceLT, Int.reduceNeg, D.free, frees, Bool.and_true, Bool.true_and, Bool.and_self, Nat.reduceLeDiff, decide_true, decide_false, oAddI, oAddS, oAddT, oAddL, oAddA, oSub, oMulI, oMulS, oPow, oFdiv, oMod, oNeg, oLt, oLe, oGt, oGe, oIsN, oNotN, oIsB, oNotB, oIxT, oIxL, oIxS, oCutT_L, oCutT_R, oCutL_R, oCutS_L, oCutS_R, oUpper, oLenT, oLenL, oLenS, oMax2, oMin2, oInt1, oStr1, oIsi, oInS, oIn2, oInK, oIxK, oEqI, oEqS, oEqB, oNeB, oNeI, oNeE2, oEqTE, oAll, oSum, oTuple, oList1T, oList1L, walkL, walkT, newL, ix0, ix1, ix2, ix3, ix4, bDraw, oIxO e, oIxO (g _), e, g]
  have kl : k.natAbs.log2 < 9000 := Nat.lt_trans (log2_lt (k := 128) (show k.natAbs < 2 ^ 128 by omega) (by decide)) (by decide)
  have kp : k ≠ 0 := by omega
  split
  · rename_i ha
    have ha := of_decide_eq_true ha
    refine ⟨hk, ⟨hk, kl⟩, by decide, ?_⟩
    exact h _ _ (Int.emod_nonneg _ kp) (Int.emod_lt_of_pos _ hk) ⟨a / k, b, c, rfl, Int.ediv_nonneg h1 (by omega), h2, h3, h4, by omega⟩
  · have hb : b.natAbs < 2 ^ 140 := by omega
    have hc : (c + 1).natAbs < 2 ^ 70 := by omega
    refine ⟨by decide, mulOk_of hb hb (by decide) (by decide) (by decide), mulOk_of (a := 20) (b := 140) (by decide) hb (by decide) (by decide) (by decide), mulOk_of (a := 20) (b := 70) (by decide) hc (by decide) (by decide) (by decide),
      mulOk_of (a := 20 + 70) (b := 70) (mul_bits (by decide) hc) hc (by decide) (by decide) (by decide), by decide, by decide, by decide, by decide, ⟨by decide, by decide⟩, hk, ?_⟩
    exact h _ _ (Int.emod_nonneg _ kp) (Int.emod_lt_of_pos _ hk) ⟨a, _, c + 1, rfl, h1, Int.emod_nonneg _ (by decide), Int.emod_lt_of_pos _ (by decide), by omega, by omega⟩
def bOne : List St := [.ret (.op .ix [.v 1, .call "_law_draw" [.v 0, .op .len [.v 1]]])]
/-- _law_one of a list, of a text -/
theorem w_oneL {T : Text} (hT : T.fn "_law_draw" = some ⟨2, 3, false, bDraw⟩) (hO : T.fn "_law_one" = some ⟨2, 2, false, bOne⟩) {n i N : Nat} {xs : List D} {S : Store} {Q : Q1} {W : Str → Store → Prop} (hf : FeedAt S i (N + 1)) (hk : 0 < xs.length) (hk2 : xs.length < 100000) (hfr : frees xs = true)
    (h : ∀ (x : D) (o : O), x ∈ xs → feedO N o → Q x (S.set i o)) : Run T (n + 2) "_law_one" [.loc i, .lst xs] S Q W := by
  refine wp_of hO rfl ?_
  try simp only [fresh, wSs, wS, wE, wEs, wC, asB, asI, List.map_cons, List.map_nil, List.replicate_succ, List.replicate_zero, List.append_nil, List.getElem?_cons_zero, List.getElem?_cons_succ, List.getElem?_nil, List.cons_append, List.nil_append, putT_n, putT_t, putTs_n, putTs_c, List.set_cons_zero, List.set_cons_succ, List.length_cons, List.length_nil, List.length_set, List.length_replicate, back, inl, inls, reduceIte, Nat.reduceAdd, Nat.reduceSub, Nat.reduceLT, Nat.reduceLeDiff, Nat.zero_add, wipe, true_and, and_true, Bool.true_eq_false, Bool.false_eq_true, List.set_set, List.take_length, take_set_length, Bool.not_true, Bool.not_false, Int.reduceToNat, Int.reduceLE, Int.reduceLT, Int.reduceNeg, D.free, frees, Bool.and_true, Bool.true_and, Bool.and_self, Nat.reduceLeDiff, decide_true, decide_false, oAddI, oAddS, oAddT, oAddL, oAddA, oSub, oMulI, oMulS, oPow, oFdiv, oMod, oNeg, oLt, oLe, oGt, oGe, oIsN, oNotN, oIsB, oNotB, oIxT, oIxL, oIxS, oCutT_L, oCutT_R, oCutL_R, oCutS_L, oCutS_R, oUpper, oLenT, oLenL, oLenS, oMax2, oMin2, oInt1, oStr1, oIsi, oInS, oIn2, oInK, oIxK, oEqI, oEqS, oEqB, oNeB, oNeI, oNeE2, oEqTE, oAll, oSum, oTuple, oList1T, oList1L, walkL, walkT, newL, ix0, ix1, ix2, ix3, ix4, bOne]
  refine w_draw hT hf (by omega) (by omega) fun r o h1 h2 ho => ?_
  try simp only [fresh, wSs, wS, wE, wEs, wC, asB, asI, List.map_cons, List.map_nil, List.replicate_succ, List.replicate_zero, List.append_nil, List.getElem?_cons_zero, List.getElem?_cons_succ, List.getElem?_nil, List.cons_append, List.nil_append, putT_n, putT_t, putTs_n, putTs_c, List.set_cons_zero, List.set_cons_succ, List.length_cons, List.length_nil, List.length_set, List.length_replicate, back, inl, inls, reduceIte, Nat.reduceAdd, Nat.reduceSub, Nat.reduceLT, Nat.reduceLeDiff, Nat.zero_add, wipe, true_and, and_true, Bool.true_eq_false, Bool.false_eq_true, List.set_set, List.take_length, take_set_length, Bool.not_true, Bool.not_false, Int.reduceToNat, Int.reduceLE, Int.reduceLT, Int.reduceNeg, D.free, frees, Bool.and_true, Bool.true_and, Bool.and_self, Nat.reduceLeDiff, decide_true, decide_false, oAddI, oAddS, oAddT, oAddL, oAddA, oSub, oMulI, oMulS, oPow, oFdiv, oMod, oNeg, oLt, oLe, oGt, oGe, oIsN, oNotN, oIsB, oNotB, oIxT, oIxL, oIxS, oCutT_L, oCutT_R, oCutL_R, oCutS_L, oCutS_R, oUpper, oLenT, oLenL, oLenS, oMax2, oMin2, oInt1, oStr1, oIsi, oInS, oIn2, oInK, oIxK, oEqI, oEqS, oEqB, oNeB, oNeI, oNeE2, oEqTE, oAll, oSum, oTuple, oList1T, oList1L, walkL, walkT, newL, ix0, ix1, ix2, ix3, ix4, ixOf, if_pos h1]
  have hr : r.toNat < xs.length := by omega
  rw [List.getElem?_eq_getElem hr]
  have := h xs[r.toNat] o (List.getElem_mem hr) ho
  try simp only [fresh, wSs, wS, wE, wEs, wC, asB, asI, List.map_cons, List.map_nil, List.replicate_succ, List.replicate_zero, List.append_nil, List.getElem?_cons_zero, List.getElem?_cons_succ, List.getElem?_nil, List.cons_append, List.nil_append, putT_n, putT_t, putTs_n, putTs_c, List.set_cons_zero, List.set_cons_succ, List.length_cons, List.length_nil, List.length_set, List.length_replicate, back, inl, inls, reduceIte, Nat.reduceAdd, Nat.reduceSub, Nat.reduceLT, Nat.reduceLeDiff, Nat.zero_add, wipe, true_and, and_true, Bool.true_eq_false, Bool.false_eq_true, List.set_set, List.take_length, take_set_length, Bool.not_true, Bool.not_false, Int.reduceToNat, Int.reduceLE, Int.reduceLT, Int.reduceNeg, D.free, frees, Bool.and_true, Bool.true_and, Bool.and_self, Nat.reduceLeDiff, decide_true, decide_false, oAddI, oAddS, oAddT, oAddL, oAddA, oSub, oMulI, oMulS, oPow, oFdiv, oMod, oNeg, oLt, oLe, oGt, oGe, oIsN, oNotN, oIsB, oNotB, oIxT, oIxL, oIxS, oCutT_L, oCutT_R, oCutL_R, oCutS_L, oCutS_R, oUpper, oLenT, oLenL, oLenS, oMax2, oMin2, oInt1, oStr1, oIsi, oInS, oIn2, oInK, oIxK, oEqI, oEqS, oEqB, oNeB, oNeI, oNeE2, oEqTE, oAll, oSum, oTuple, oList1T, oList1L, walkL, walkT, newL, ix0, ix1, ix2, ix3, ix4]
  rw [inl_free (frees_mem hfr (List.getElem_mem hr))]
  exact this
theorem w_oneS {T : Text} (hT : T.fn "_law_draw" = some ⟨2, 3, false, bDraw⟩) (hO : T.fn "_law_one" = some ⟨2, 2, false, bOne⟩) {n i N : Nat} {x : Str} {S : Store} {Q : Q1} {W : Str → Store → Prop} (hf : FeedAt S i (N + 1)) (hk : 0 < x.length) (hk2 : x.length < 100000)
    (h : ∀ (c : Nat) (o : O), c ∈ x.cps.toList → feedO N o → Q (.str ⟨#[c]⟩) (S.set i o)) : Run T (n + 2) "_law_one" [.loc i, .str x] S Q W := by
  refine wp_of hO rfl ?_
  try simp only [fresh, wSs, wS, wE, wEs, wC, asB, asI, List.map_cons, List.map_nil, List.replicate_succ, List.replicate_zero, List.append_nil, List.getElem?_cons_zero, List.getElem?_cons_succ, List.getElem?_nil, List.cons_append, List.nil_append, putT_n, putT_t, putTs_n, putTs_c, List.set_cons_zero, List.set_cons_succ, List.length_cons, List.length_nil, List.length_set, List.length_replicate, back, inl, inls, reduceIte, Nat.reduceAdd, Nat.reduceSub, Nat.reduceLT, Nat.reduceLeDiff, Nat.zero_add, wipe, true_and, and_true, Bool.true_eq_false, Bool.false_eq_true, List.set_set, List.take_length, take_set_length, Bool.not_true, Bool.not_false, Int.reduceToNat, Int.reduceLE, Int.reduceLT, Int.reduceNeg, D.free, frees, Bool.and_true, Bool.true_and, Bool.and_self, Nat.reduceLeDiff, decide_true, decide_false, oAddI, oAddS, oAddT, oAddL, oAddA, oSub, oMulI, oMulS, oPow, oFdiv, oMod, oNeg, oLt, oLe, oGt, oGe, oIsN, oNotN, oIsB, oNotB, oIxT, oIxL, oIxS, oCutT_L, oCutT_R, oCutL_R, oCutS_L, oCutS_R, oUpper, oLenT, oLenL, oLenS, oMax2, oMin2, oInt1, oStr1, oIsi, oInS, oIn2, oInK, oIxK, oEqI, oEqS, oEqB, oNeB, oNeI, oNeE2, oEqTE, oAll, oSum, oTuple, oList1T, oList1L, walkL, walkT, newL, ix0, ix1, ix2, ix3, ix4, bOne]
  have lx : x.length = x.cps.toList.length := by simp [PySem.Str.length]
  refine ⟨by show x.length ≤ 16777216; omega, w_draw hT hf (by omega) (by omega) fun r o h1 h2 ho => ?_⟩
  try simp only [fresh, wSs, wS, wE, wEs, wC, asB, asI, List.map_cons, List.map_nil, List.replicate_succ, List.replicate_zero, List.append_nil, List.getElem?_cons_zero, List.getElem?_cons_succ, List.getElem?_nil, List.cons_append, List.nil_append, putT_n, putT_t, putTs_n, putTs_c, List.set_cons_zero, List.set_cons_succ, List.length_cons, List.length_nil, List.length_set, List.length_replicate, back, inl, inls, reduceIte, Nat.reduceAdd, Nat.reduceSub, Nat.reduceLT, Nat.reduceLeDiff, Nat.zero_add, wipe, true_and, and_true, Bool.true_eq_false, Bool.false_eq_true, List.set_set, List.take_length, take_set_length, Bool.not_true, Bool.not_false, Int.reduceToNat, Int.reduceLE, Int.reduceLT, Int.reduceNeg, D.free, frees, Bool.and_true, Bool.true_and, Bool.and_self, Nat.reduceLeDiff, decide_true, decide_false, oAddI, oAddS, oAddT, oAddL, oAddA, oSub, oMulI, oMulS, oPow, oFdiv, oMod, oNeg, oLt, oLe, oGt, oGe, oIsN, oNotN, oIsB, oNotB, oIxT, oIxL, oIxS, oCutT_L, oCutT_R, oCutL_R, oCutS_L, oCutS_R, oUpper, oLenT, oLenL, oLenS, oMax2, oMin2, oInt1, oStr1, oIsi, oInS, oIn2, oInK, oIxK, oEqI, oEqS, oEqB, oNeB, oNeI, oNeE2, oEqTE, oAll, oSum, oTuple, oList1T, oList1L, walkL, walkT, newL, ix0, ix1, ix2, ix3, ix4, ixOf, if_pos h1]
  have hr : r.toNat < x.cps.toList.length := by omega
  rw [List.getElem?_eq_getElem hr]
  refine ⟨by show x.length ≤ 16777216; omega, ?_⟩
  have := h x.cps.toList[r.toNat] o (List.getElem_mem hr) ho
  try simp only [fresh, wSs, wS, wE, wEs, wC, asB, asI, List.map_cons, List.map_nil, List.replicate_succ, List.replicate_zero, List.append_nil, List.getElem?_cons_zero, List.getElem?_cons_succ, List.getElem?_nil, List.cons_append, List.nil_append, putT_n, putT_t, putTs_n, putTs_c, List.set_cons_zero, List.set_cons_succ, List.length_cons, List.length_nil, List.length_set, List.length_replicate, back, inl, inls, reduceIte, Nat.reduceAdd, Nat.reduceSub, Nat.reduceLT, Nat.reduceLeDiff, Nat.zero_add, wipe, true_and, and_true, Bool.true_eq_false, Bool.false_eq_true, List.set_set, List.take_length, take_set_length, Bool.not_true, Bool.not_false, Int.reduceToNat, Int.reduceLE, Int.reduceLT, Int.reduceNeg, D.free, frees, Bool.and_true, Bool.true_and, Bool.and_self, Nat.reduceLeDiff, decide_true, decide_false, oAddI, oAddS, oAddT, oAddL, oAddA, oSub, oMulI, oMulS, oPow, oFdiv, oMod, oNeg, oLt, oLe, oGt, oGe, oIsN, oNotN, oIsB, oNotB, oIxT, oIxL, oIxS, oCutT_L, oCutT_R, oCutL_R, oCutS_L, oCutS_R, oUpper, oLenT, oLenL, oLenS, oMax2, oMin2, oInt1, oStr1, oIsi, oInS, oIn2, oInK, oIxK, oEqI, oEqS, oEqB, oNeB, oNeI, oNeE2, oEqTE, oAll, oSum, oTuple, oList1T, oList1L, walkL, walkT, newL, ix0, ix1, ix2, ix3, ix4]
  exact this
theorem feedAt {S : Store} {i M : Nat} {o : O} (h : i < S.length) (k : feedO M o) : FeedAt (S.set i o) i M := ⟨o, List.getElem?_set_self h, k⟩
theorem feedG {S G : Store} {i M : Nat} {o : O} (h : i < S.length) (k : feedO M o) : FeedAt (S.set i o ++ G) i M := ⟨o, by rw [List.getElem?_append_left (by rw [List.length_set]; exact h), List.getElem?_set_self h], k⟩
theorem setG {S G : Store} {i : Nat} {o o' : O} (h : i < S.length) : (S.set i o ++ G).set i o' = S.set i o' ++ G := by
  rw [List.set_append_left _ _ (by rw [List.length_set]; exact h), List.set_set]
theorem takeG {S G : Store} {i : Nat} {o : O} : (S.set i o ++ G).take S.length = S.set i o := by
  rw [List.take_append_of_le_length (by rw [List.length_set]; exact Nat.le_refl _)]
  exact take_set_length S i o
end Y
/-! K01pf: the law of whole terms and their bounds, in the data language. -/
namespace K01
open Y
/-! ### data that are handed about: no changeable objects, texts of fair length -/
mutual
def tidy : D → Bool
  | .str x => decide (x.length ≤ line)
  | .tup xs => tidys xs
  | .loc _ => false
  | .non => true
  | .bl _ => true
  | .int _ => true
  | .lst xs => frees xs
  | .dK _ xs => frees xs
  | .dT _ xs => frees xs
def tidys : List D → Bool
  | [] => true
  | d :: r => tidy d && tidys r
end
mutual
theorem tidy_free : ∀ {d : D}, tidy d = true → d.free = true
  | .str _, _ => rfl
  | .tup xs, h => tidys_free (xs := xs) h
  | .loc _, h => by cases h
  | .non, _ => rfl
  | .bl _, _ => rfl
  | .int _, _ => rfl
  | .lst _, h => h
  | .dK _ _, h => h
  | .dT _ _, h => h
theorem tidys_free : ∀ {xs : List D}, tidys xs = true → frees xs = true
  | [], _ => rfl
  | d :: r, h => by
    have h : (tidy d && tidys r) = true := h
    rw [Bool.and_eq_true] at h
    show (d.free && frees r) = true
    rw [tidy_free h.1, tidys_free h.2]
    rfl
end
/-! ### what the small tests answer -/
def isInt : D → Bool
  | .int _ => true
  | _ => false
theorem w_is_integer {n : Nat} {x : D} {S : Store} {Q : Q1} {W : Str → Store → Prop} (hx : x.free = true) (h : Q (.bl (isInt x)) S) : Run T (n + 1) "is_integer" [x] S Q W := by
  refine wp_of fn_is_integer rfl ?_
  try simp only [fresh, wSs, wS, wE, wEs, wC, asB, asI, List.map_cons, List.map_nil, List.replicate_succ, List.replicate_zero, List.append_nil, List.getElem?_cons_zero, List.getElem?_cons_succ, List.getElem?_nil, List.cons_append, List.nil_append, putT_n, putT_t, putTs_n, putTs_c, List.set_cons_zero, List.set_cons_succ, List.length_cons, List.length_nil, List.length_set, List.length_replicate, back, inl, inls, reduceIte, Nat.reduceAdd, Nat.reduceSub, Nat.reduceLT, Nat.reduceLeDiff, Nat.zero_add, wipe, true_and, and_true, Bool.true_eq_false, Bool.false_eq_true, List.set_set, List.take_length, take_set_length, Bool.not_true, Bool.not_false, Int.reduceToNat, Int.reduceLE, Int.reduceLT, Int.reduceNeg, D.free, frees, Bool.and_true, Bool.true_and, Bool.and_self, Nat.reduceLeDiff, decide_true, decide_false, oAddI, oAddS, oAddT, oAddL, oAddA, oSub, oMulI, oMulS, oPow, oFdiv, oMod, oNeg, oLt, oLe, oGt, oGe, oIsN, oNotN, oIsB, oNotB, oIxT, oIxL, oIxS, oCutT_L, oCutT_R, oCutL_R, oLenT, oLenL, oLenS, oMax2, oMin2, oInt1, oStr1, oIsi, oInS, oIn2, oInK, oIxK, oEqI, oEqS, oEqB, oNeB, oNeI, oNeE2, oEqTE, oAll, oSum, oTuple, walkL, walkT, newL, ix0, ix1, ix2, ix3, ix4, f_is_integer, b_is_integer]
  cases x with
  | loc i => cases hx
  | _ => simp_all [isTy, isInt]
def within (a b : Int) : D → Bool
  | .int i => decide (a ≤ i) && decide (i ≤ b)
  | _ => false
theorem w_is_within {n : Nat} {x : D} {a b : Int} {S : Store} {Q : Q1} {W : Str → Store → Prop} (hx : x.free = true) (h : Q (.bl (within a b x)) S) : Run T (n + 2) "is_within" [x, .int a, .int b] S Q W := by
  refine wp_of fn_is_within rfl ?_
  try simp only [fresh, wSs, wS, wE, wEs, wC, asB, asI, List.map_cons, List.map_nil, List.replicate_succ, List.replicate_zero, List.append_nil, List.getElem?_cons_zero, List.getElem?_cons_succ, List.getElem?_nil, List.cons_append, List.nil_append, putT_n, putT_t, putTs_n, putTs_c, List.set_cons_zero, List.set_cons_succ, List.length_cons, List.length_nil, List.length_set, List.length_replicate, back, inl, inls, reduceIte, Nat.reduceAdd, Nat.reduceSub, Nat.reduceLT, Nat.reduceLeDiff, Nat.zero_add, wipe, true_and, and_true, Bool.true_eq_false, Bool.false_eq_true, List.set_set, List.take_length, take_set_length, Bool.not_true, Bool.not_false, Int.reduceToNat, Int.reduceLE, Int.reduceLT, Int.reduceNeg, D.free, frees, Bool.and_true, Bool.true_and, Bool.and_self, Nat.reduceLeDiff, decide_true, decide_false, oAddI, oAddS, oAddT, oAddL, oAddA, oSub, oMulI, oMulS, oPow, oFdiv, oMod, oNeg, oLt, oLe, oGt, oGe, oIsN, oNotN, oIsB, oNotB, oIxT, oIxL, oIxS, oCutT_L, oCutT_R, oCutL_R, oLenT, oLenL, oLenS, oMax2, oMin2, oInt1, oStr1, oIsi, oInS, oIn2, oInK, oIxK, oEqI, oEqS, oEqB, oNeB, oNeI, oNeE2, oEqTE, oAll, oSum, oTuple, walkL, walkT, newL, ix0, ix1, ix2, ix3, ix4, f_is_within, b_is_within]
  refine w_is_integer hx ?_
  cases x with
  | int i =>
    try simp only [fresh, wSs, wS, wE, wEs, wC, asB, asI, List.map_cons, List.map_nil, List.replicate_succ, List.replicate_zero, List.append_nil, List.getElem?_cons_zero, List.getElem?_cons_succ, List.getElem?_nil, List.cons_append, List.nil_append, putT_n, putT_t, putTs_n, putTs_c, List.set_cons_zero, List.set_cons_succ, List.length_cons, List.length_nil, List.length_set, List.length_replicate, back, inl, inls, reduceIte, Nat.reduceAdd, Nat.reduceSub, Nat.reduceLT, Nat.reduceLeDiff, Nat.zero_add, wipe, true_and, and_true, Bool.true_eq_false, Bool.false_eq_true, List.set_set, List.take_length, take_set_length, Bool.not_true, Bool.not_false, Int.reduceToNat, Int.reduceLE, Int.reduceLT, Int.reduceNeg, D.free, frees, Bool.and_true, Bool.true_and, Bool.and_self, Nat.reduceLeDiff, decide_true, decide_false, oAddI, oAddS, oAddT, oAddL, oAddA, oSub, oMulI, oMulS, oPow, oFdiv, oMod, oNeg, oLt, oLe, oGt, oGe, oIsN, oNotN, oIsB, oNotB, oIxT, oIxL, oIxS, oCutT_L, oCutT_R, oCutL_R, oLenT, oLenL, oLenS, oMax2, oMin2, oInt1, oStr1, oIsi, oInS, oIn2, oInK, oIxK, oEqI, oEqS, oEqB, oNeB, oNeI, oNeE2, oEqTE, oAll, oSum, oTuple, walkL, walkT, newL, ix0, ix1, ix2, ix3, ix4, isInt]
    have h : Q (.bl (decide (a ≤ i) && decide (i ≤ b))) S := h
    by_cases ha : a ≤ i
    · simp only [ha, decide_true, Bool.true_and, if_true] at h ⊢
      exact h
    · simp only [ha, decide_false, Bool.false_and] at h ⊢
      simpa using h
  | _ => try simp only [fresh, wSs, wS, wE, wEs, wC, asB, asI, List.map_cons, List.map_nil, List.replicate_succ, List.replicate_zero, List.append_nil, List.getElem?_cons_zero, List.getElem?_cons_succ, List.getElem?_nil, List.cons_append, List.nil_append, putT_n, putT_t, putTs_n, putTs_c, List.set_cons_zero, List.set_cons_succ, List.length_cons, List.length_nil, List.length_set, List.length_replicate, back, inl, inls, reduceIte, Nat.reduceAdd, Nat.reduceSub, Nat.reduceLT, Nat.reduceLeDiff, Nat.zero_add, wipe, true_and, and_true, Bool.true_eq_false, Bool.false_eq_true, List.set_set, List.take_length, take_set_length, Bool.not_true, Bool.not_false, Int.reduceToNat, Int.reduceLE, Int.reduceLT, Int.reduceNeg, D.free, frees, Bool.and_true, Bool.true_and, Bool.and_self, Nat.reduceLeDiff, decide_true, decide_false, oAddI, oAddS, oAddT, oAddL, oAddA, oSub, oMulI, oMulS, oPow, oFdiv, oMod, oNeg, oLt, oLe, oGt, oGe, oIsN, oNotN, oIsB, oNotB, oIxT, oIxL, oIxS, oCutT_L, oCutT_R, oCutL_R, oLenT, oLenL, oLenS, oMax2, oMin2, oInt1, oStr1, oIsi, oInS, oIn2, oInK, oIxK, oEqI, oEqS, oEqB, oNeB, oNeI, oNeE2, oEqTE, oAll, oSum, oTuple, walkL, walkT, newL, ix0, ix1, ix2, ix3, ix4, isInt]; simpa [within] using h
def lets : List Nat := ("abcdefghijklmnopqrstuvwxyz" : Str).cps.toList
def figs : List Nat := ("0123456789" : Str).cps.toList
def sgn (s : Nat) : Bool := lets.contains s || figs.contains s
def wordL : List Nat → Bool
  | [] => false
  | c :: r => decide (r.length + 1 ≤ 12) && lets.contains c && (c :: r).all sgn
def wordB : D → Bool
  | .str x => wordL x.cps.toList
  | _ => false
theorem len_cps (x : Str) : x.length = x.cps.toList.length := by simp [PySem.Str.length]
theorem g_MOST_SIGNS : T.glob "MOST_SIGNS" = some (.int 12) := by rfl
theorem g_LETTERS : T.glob "LETTERS" = some (.str "abcdefghijklmnopqrstuvwxyz") := by rfl
theorem g_FIGURES : T.glob "FIGURES" = some (.str "0123456789") := by rfl
def sgnD : D → D
  | .str z => .bl (match z.cps.toList with | [c] => sgn c | _ => false)
  | _ => .non
theorem w_is_word {n : Nat} {x : D} {S : Store} {Q : Q1} {W : Str → Store → Prop} (hx : tidy x = true) (h : Q (.bl (wordB x)) S) : Run T (n + 1) "is_word" [x] S Q W := by
  refine wp_of fn_is_word rfl ?_
  try simp only [fresh, wSs, wS, wE, wEs, wC, asB, asI, List.map_cons, List.map_nil, List.replicate_succ, List.replicate_zero, List.append_nil, List.getElem?_cons_zero, List.getElem?_cons_succ, List.getElem?_nil, List.cons_append, List.nil_append, putT_n, putT_t, putTs_n, putTs_c, List.set_cons_zero, List.set_cons_succ, List.length_cons, List.length_nil, List.length_set, List.length_replicate, back, inl, inls, reduceIte, Nat.reduceAdd, Nat.reduceSub, Nat.reduceLT, Nat.reduceLeDiff, Nat.zero_add, wipe, true_and, and_true, Bool.true_eq_false, Bool.false_eq_true, List.set_set, List.take_length, take_set_length, Bool.not_true, Bool.not_false, Int.reduceToNat, Int.reduceLE, Int.reduceLT, Int.reduceNeg, D.free, frees, Bool.and_true, Bool.true_and, Bool.and_self, Nat.reduceLeDiff, decide_true, decide_false, oAddI, oAddS, oAddT, oAddL, oAddA, oSub, oMulI, oMulS, oPow, oFdiv, oMod, oNeg, oLt, oLe, oGt, oGe, oIsN, oNotN, oIsB, oNotB, oIxT, oIxL, oIxS, oCutT_L, oCutT_R, oCutL_R, oLenT, oLenL, oLenS, oMax2, oMin2, oInt1, oStr1, oIsi, oInS, oIn2, oInK, oIxK, oEqI, oEqS, oEqB, oNeB, oNeI, oNeE2, oEqTE, oAll, oSum, oTuple, walkL, walkT, newL, ix0, ix1, ix2, ix3, ix4, f_is_word, b_is_word, ce0_is_word, g_MOST_SIGNS, g_LETTERS, g_FIGURES]
  cases x with
  | str x =>
    have hl : x.length ≤ line := of_decide_eq_true hx
    have e0 : isTy S .str (.str x) = true := rfl
    try simp only [fresh, wSs, wS, wE, wEs, wC, asB, asI, List.map_cons, List.map_nil, List.replicate_succ, List.replicate_zero, List.append_nil, List.getElem?_cons_zero, List.getElem?_cons_succ, List.getElem?_nil, List.cons_append, List.nil_append, putT_n, putT_t, putTs_n, putTs_c, List.set_cons_zero, List.set_cons_succ, List.length_cons, List.length_nil, List.length_set, List.length_replicate, back, inl, inls, reduceIte, Nat.reduceAdd, Nat.reduceSub, Nat.reduceLT, Nat.reduceLeDiff, Nat.zero_add, wipe, true_and, and_true, Bool.true_eq_false, Bool.false_eq_true, List.set_set, List.take_length, take_set_length, Bool.not_true, Bool.not_false, Int.reduceToNat, Int.reduceLE, Int.reduceLT, Int.reduceNeg, D.free, frees, Bool.and_true, Bool.true_and, Bool.and_self, Nat.reduceLeDiff, decide_true, decide_false, oAddI, oAddS, oAddT, oAddL, oAddA, oSub, oMulI, oMulS, oPow, oFdiv, oMod, oNeg, oLt, oLe, oGt, oGe, oIsN, oNotN, oIsB, oNotB, oIxT, oIxL, oIxS, oCutT_L, oCutT_R, oCutL_R, oLenT, oLenL, oLenS, oMax2, oMin2, oInt1, oStr1, oIsi, oInS, oIn2, oInK, oIxK, oEqI, oEqS, oEqB, oNeB, oNeI, oNeE2, oEqTE, oAll, oSum, oTuple, walkL, walkT, newL, ix0, ix1, ix2, ix3, ix4, e0, walkS hl]
    refine ⟨hl, ?_⟩
    have h : Q (.bl (wordL x.cps.toList)) S := h
    rw [len_cps] at hl ⊢
    generalize hz : x.cps.toList = l at *
    cases l with
    | nil => simpa [wordL] using h
    | cons c r =>
      have e1 : decide ((1 : Int) ≤ ((r.length + 1 : Nat) : Int)) = true := decide_eq_true (by omega)
      by_cases h12 : r.length + 1 ≤ 12
      · have e2 : decide (((r.length + 1 : Nat) : Int) ≤ 12) = true := decide_eq_true (by omega)
        try simp only [fresh, wSs, wS, wE, wEs, wC, asB, asI, List.map_cons, List.map_nil, List.replicate_succ, List.replicate_zero, List.append_nil, List.getElem?_cons_zero, List.getElem?_cons_succ, List.getElem?_nil, List.cons_append, List.nil_append, putT_n, putT_t, putTs_n, putTs_c, List.set_cons_zero, List.set_cons_succ, List.length_cons, List.length_nil, List.length_set, List.length_replicate, back, inl, inls, reduceIte, Nat.reduceAdd, Nat.reduceSub, Nat.reduceLT, Nat.reduceLeDiff, Nat.zero_add, wipe, true_and, and_true, Bool.true_eq_false, Bool.false_eq_true, List.set_set, List.take_length, take_set_length, Bool.not_true, Bool.not_false, Int.reduceToNat, Int.reduceLE, Int.reduceLT, Int.reduceNeg, D.free, frees, Bool.and_true, Bool.true_and, Bool.and_self, Nat.reduceLeDiff, decide_true, decide_false, oAddI, oAddS, oAddT, oAddL, oAddA, oSub, oMulI, oMulS, oPow, oFdiv, oMod, oNeg, oLt, oLe, oGt, oGe, oIsN, oNotN, oIsB, oNotB, oIxT, oIxL, oIxS, oCutT_L, oCutT_R, oCutL_R, oLenT, oLenL, oLenS, oMax2, oMin2, oInt1, oStr1, oIsi, oInS, oIn2, oInK, oIxK, oEqI, oEqS, oEqB, oNeB, oNeI, oNeE2, oEqTE, oAll, oSum, oTuple, walkL, walkT, newL, ix0, ix1, ix2, ix3, ix4, e1, e2]
        refine ⟨hl, ?_⟩
        show if (!(lets.contains c)) = true then _ else _
        cases hc : lets.contains c with
        | false =>
          have : wordL (c :: r) = false := by
            show (decide (r.length + 1 ≤ 12) && lets.contains c && (c :: r).all sgn) = _
            rw [hc, Bool.and_false, Bool.false_and]
          rw [this] at h
          simpa using h
        | true =>
          have ew : wordL (c :: r) = (c :: r).all sgn := by
            show (decide (r.length + 1 ≤ 12) && lets.contains c && (c :: r).all sgn) = _
            rw [hc, decide_eq_true h12]
            rfl
          rw [ew] at h
          rw [if_neg (by decide)]
          refine compW_map sgnD trivial _ [] (fun y hy R hR => ?_) (fun y hy => ?_) ?_ ?_
          · obtain ⟨s, hs, rfl⟩ := List.mem_map.mp (show y ∈ (c :: r).map (fun c => D.str ⟨#[c]⟩) from hy)
            try simp only [fresh, wSs, wS, wE, wEs, wC, asB, asI, List.map_cons, List.map_nil, List.replicate_succ, List.replicate_zero, List.append_nil, List.getElem?_cons_zero, List.getElem?_cons_succ, List.getElem?_nil, List.cons_append, List.nil_append, putT_n, putT_t, putTs_n, putTs_c, List.set_cons_zero, List.set_cons_succ, List.length_cons, List.length_nil, List.length_set, List.length_replicate, back, inl, inls, reduceIte, Nat.reduceAdd, Nat.reduceSub, Nat.reduceLT, Nat.reduceLeDiff, Nat.zero_add, wipe, true_and, and_true, Bool.true_eq_false, Bool.false_eq_true, List.set_set, List.take_length, take_set_length, Bool.not_true, Bool.not_false, Int.reduceToNat, Int.reduceLE, Int.reduceLT, Int.reduceNeg, D.free, frees, Bool.and_true, Bool.true_and, Bool.and_self, Nat.reduceLeDiff, decide_true, decide_false, oAddI, oAddS, oAddT, oAddL, oAddA, oSub, oMulI, oMulS, oPow, oFdiv, oMod, oNeg, oLt, oLe, oGt, oGe, oIsN, oNotN, oIsB, oNotB, oIxT, oIxL, oIxS, oCutT_L, oCutT_R, oCutL_R, oLenT, oLenL, oLenS, oMax2, oMin2, oInt1, oStr1, oIsi, oInS, oIn2, oInK, oIxK, oEqI, oEqS, oEqB, oNeB, oNeI, oNeE2, oEqTE, oAll, oSum, oTuple, walkL, walkT, newL, ix0, ix1, ix2, ix3, ix4]
            show if lets.contains s = true then _ else _
            have hR : R (some (.bl (sgn s))) S := hR
            unfold sgn at hR
            cases hb : lets.contains s with
            | true => rw [hb] at hR; exact hR
            | false => rw [hb] at hR; exact hR
          · obtain ⟨s, hs, rfl⟩ := List.mem_map.mp (show y ∈ (c :: r).map (fun c => D.str ⟨#[c]⟩) from hy)
            rfl
          · show 0 + ((c :: r).map (fun c => D.str ⟨#[c]⟩)).length ≤ line
            rw [List.length_map, Nat.zero_add]; exact hl
          · have em : ([] : List D) ++ List.map sgnD (D.str ⟨#[c]⟩ :: List.map (fun c => D.str ⟨#[c]⟩) r) = (c :: r).map fun s => D.bl (sgn s) := by
              show sgnD _ :: _ = _
              rw [List.map_map]
              rfl
            rw [em]
            refine ⟨by rw [List.length_map]; exact hl, frees_of fun y hy => ?_, ?_⟩
            · obtain ⟨s, _, rfl⟩ := List.mem_map.mp hy
              rfl
            · show (match boolsOf ((c :: r).map fun s => D.bl (sgn s)) with | some ns => Q (.bl (ns.all id)) (S.take S.length) | none => False)
              rw [bools_map, List.take_length]
              show Q (.bl (((c :: r).map sgn).all id)) S
              rw [List.all_map]
              exact h
      · have e2 : decide (((r.length + 1 : Nat) : Int) ≤ 12) = false := decide_eq_false (by omega)
        try simp only [fresh, wSs, wS, wE, wEs, wC, asB, asI, List.map_cons, List.map_nil, List.replicate_succ, List.replicate_zero, List.append_nil, List.getElem?_cons_zero, List.getElem?_cons_succ, List.getElem?_nil, List.cons_append, List.nil_append, putT_n, putT_t, putTs_n, putTs_c, List.set_cons_zero, List.set_cons_succ, List.length_cons, List.length_nil, List.length_set, List.length_replicate, back, inl, inls, reduceIte, Nat.reduceAdd, Nat.reduceSub, Nat.reduceLT, Nat.reduceLeDiff, Nat.zero_add, wipe, true_and, and_true, Bool.true_eq_false, Bool.false_eq_true, List.set_set, List.take_length, take_set_length, Bool.not_true, Bool.not_false, Int.reduceToNat, Int.reduceLE, Int.reduceLT, Int.reduceNeg, D.free, frees, Bool.and_true, Bool.true_and, Bool.and_self, Nat.reduceLeDiff, decide_true, decide_false, oAddI, oAddS, oAddT, oAddL, oAddA, oSub, oMulI, oMulS, oPow, oFdiv, oMod, oNeg, oLt, oLe, oGt, oGe, oIsN, oNotN, oIsB, oNotB, oIxT, oIxL, oIxS, oCutT_L, oCutT_R, oCutL_R, oLenT, oLenL, oLenS, oMax2, oMin2, oInt1, oStr1, oIsi, oInS, oIn2, oInK, oIxK, oEqI, oEqS, oEqB, oNeB, oNeI, oNeE2, oEqTE, oAll, oSum, oTuple, walkL, walkT, newL, ix0, ix1, ix2, ix3, ix4, e1, e2]
        have : wordL (c :: r) = false := by
          show (decide (r.length + 1 ≤ 12) && lets.contains c && (c :: r).all sgn) = _
          rw [decide_eq_false h12]
          rfl
        rw [this] at h
        exact h
  | loc i => cases hx
  | _ => simpa [isTy, wordB] using h
theorem g_PLAIN : T.glob "PLAIN" = some (.tup [.str "unit", .str "star"]) := by rfl
theorem g_MOST_VARIABLE : T.glob "MOST_VARIABLE" = some (.int 999) := by rfl
theorem g_MOST_SORT : T.glob "MOST_SORT" = some (.int 9) := by rfl
theorem g_MOST_RAISED : T.glob "MOST_RAISED" = some (.int 8) := by rfl
def one (f : D → Bool) : List D → Bool
  | [x] => f x
  | _ => false
def both (f g : D → Bool) : List D → Bool
  | [x, y] => f x && g y
  | _ => false
def leafForm (h : Str) (ps : List D) : Bool :=
  if (decide ("unit" = h) || (decide ("star" = h) || false)) = true then ps.isEmpty
  else if decide (h = "var") = true then one (within 0 999) ps
  else if decide (h = "sort") = true then one (within 0 9) ps
  else if decide (h = "name") = true then one wordB ps
  else if decide (h = "rec") = true then both wordB (within 0 8) ps else false
theorem tidys_mem : ∀ {ps : List D} {x : D}, tidys ps = true → x ∈ ps → tidy x = true
  | p :: r, x, h, hx => by
    have h : (tidy p && tidys r) = true := h
    rw [Bool.and_eq_true] at h
    rcases List.mem_cons.mp hx with e | e
    · rw [e]; exact h.1
    · exact tidys_mem h.2 e
theorem one_use {ps : List D} (P : D → Prop) (B : Bool → Prop) (f : D → Bool) (hP : ∀ x, x ∈ ps → B (f x) → P x) (hB : B (one f ps)) : if (((ps.length + 1 : Nat) : Int) == 2) = true then (match ps[0]? with | some x => P x | none => False) else B false := by
  match ps, hP, hB with
  | [], hP, hB => exact hB
  | [x], hP, hB => exact hP x (by simp) hB
  | _ :: _ :: r, hP, hB =>
    have e : (((r.length + 1 + 1 + 1 : Nat) : Int) == 2) = false := beq_eq_false_iff_ne.mpr (by omega)
    show if (((r.length + 1 + 1 + 1 : Nat) : Int) == 2) = true then _ else _
    rw [e]
    exact hB
theorem w_is_leaf_form {n : Nat} {h : Str} {ps : List D} {S : Store} {Q : Q1} {W : Str → Store → Prop} (hp : tidys ps = true) (hq : Q (.bl (leafForm h ps)) S) : Run T (n + 3) "is_leaf_form" [.tup (.str h :: ps)] S Q W := by
  refine wp_of fn_is_leaf_form rfl ?_
  try simp only [fresh, wSs, wS, wE, wEs, wC, asB, asI, List.map_cons, List.map_nil, List.replicate_succ, List.replicate_zero, List.append_nil, List.getElem?_cons_zero, List.getElem?_cons_succ, List.getElem?_nil, List.cons_append, List.nil_append, putT_n, putT_t, putTs_n, putTs_c, List.set_cons_zero, List.set_cons_succ, List.length_cons, List.length_nil, List.length_set, List.length_replicate, back, inl, inls, reduceIte, Nat.reduceAdd, Nat.reduceSub, Nat.reduceLT, Nat.reduceLeDiff, Nat.zero_add, wipe, true_and, and_true, Bool.true_eq_false, Bool.false_eq_true, List.set_set, List.take_length, take_set_length, Bool.not_true, Bool.not_false, Int.reduceToNat, Int.reduceLE, Int.reduceLT, Int.reduceNeg, D.free, frees, Bool.and_true, Bool.true_and, Bool.and_self, Nat.reduceLeDiff, decide_true, decide_false, oAddI, oAddS, oAddT, oAddL, oAddA, oSub, oMulI, oMulS, oPow, oFdiv, oMod, oNeg, oLt, oLe, oGt, oGe, oIsN, oNotN, oIsB, oNotB, oIxT, oIxL, oIxS, oCutT_L, oCutT_R, oCutL_R, oLenT, oLenL, oLenS, oMax2, oMin2, oInt1, oStr1, oIsi, oInS, oIn2, oInK, oIxK, oEqI, oEqS, oEqB, oNeB, oNeI, oNeE2, oEqTE, oAll, oSum, oTuple, walkL, walkT, newL, ix0, ix1, ix2, ix3, ix4, f_is_leaf_form, b_is_leaf_form, g_PLAIN, g_MOST_VARIABLE, g_MOST_SORT, g_MOST_RAISED, negB]
  unfold leafForm at hq
  split
  · rename_i c
    rw [if_pos c] at hq
    cases ps with
    | nil => exact hq
    | cons p r =>
      have e : (((r.length + 1 + 1 : Nat) : Int) == 1) = false := beq_eq_false_iff_ne.mpr (by omega)
      try simp only [fresh, wSs, wS, wE, wEs, wC, asB, asI, List.map_cons, List.map_nil, List.replicate_succ, List.replicate_zero, List.append_nil, List.getElem?_cons_zero, List.getElem?_cons_succ, List.getElem?_nil, List.cons_append, List.nil_append, putT_n, putT_t, putTs_n, putTs_c, List.set_cons_zero, List.set_cons_succ, List.length_cons, List.length_nil, List.length_set, List.length_replicate, back, inl, inls, reduceIte, Nat.reduceAdd, Nat.reduceSub, Nat.reduceLT, Nat.reduceLeDiff, Nat.zero_add, wipe, true_and, and_true, Bool.true_eq_false, Bool.false_eq_true, List.set_set, List.take_length, take_set_length, Bool.not_true, Bool.not_false, Int.reduceToNat, Int.reduceLE, Int.reduceLT, Int.reduceNeg, D.free, frees, Bool.and_true, Bool.true_and, Bool.and_self, Nat.reduceLeDiff, decide_true, decide_false, oAddI, oAddS, oAddT, oAddL, oAddA, oSub, oMulI, oMulS, oPow, oFdiv, oMod, oNeg, oLt, oLe, oGt, oGe, oIsN, oNotN, oIsB, oNotB, oIxT, oIxL, oIxS, oCutT_L, oCutT_R, oCutL_R, oLenT, oLenL, oLenS, oMax2, oMin2, oInt1, oStr1, oIsi, oInS, oIn2, oInK, oIxK, oEqI, oEqS, oEqB, oNeB, oNeI, oNeE2, oEqTE, oAll, oSum, oTuple, walkL, walkT, newL, ix0, ix1, ix2, ix3, ix4, e]
      exact hq
  · rename_i c
    rw [if_neg c] at hq
    split
    · rename_i c
      rw [if_pos c] at hq
      refine one_use _ (fun b => Q (.bl b) S) (within 0 999) (fun x hx hb => ?_) hq
      refine w_is_within (tidy_free (tidys_mem hp hx)) ?_
      try simp only [fresh, wSs, wS, wE, wEs, wC, asB, asI, List.map_cons, List.map_nil, List.replicate_succ, List.replicate_zero, List.append_nil, List.getElem?_cons_zero, List.getElem?_cons_succ, List.getElem?_nil, List.cons_append, List.nil_append, putT_n, putT_t, putTs_n, putTs_c, List.set_cons_zero, List.set_cons_succ, List.length_cons, List.length_nil, List.length_set, List.length_replicate, back, inl, inls, reduceIte, Nat.reduceAdd, Nat.reduceSub, Nat.reduceLT, Nat.reduceLeDiff, Nat.zero_add, wipe, true_and, and_true, Bool.true_eq_false, Bool.false_eq_true, List.set_set, List.take_length, take_set_length, Bool.not_true, Bool.not_false, Int.reduceToNat, Int.reduceLE, Int.reduceLT, Int.reduceNeg, D.free, frees, Bool.and_true, Bool.true_and, Bool.and_self, Nat.reduceLeDiff, decide_true, decide_false, oAddI, oAddS, oAddT, oAddL, oAddA, oSub, oMulI, oMulS, oPow, oFdiv, oMod, oNeg, oLt, oLe, oGt, oGe, oIsN, oNotN, oIsB, oNotB, oIxT, oIxL, oIxS, oCutT_L, oCutT_R, oCutL_R, oLenT, oLenL, oLenS, oMax2, oMin2, oInt1, oStr1, oIsi, oInS, oIn2, oInK, oIxK, oEqI, oEqS, oEqB, oNeB, oNeI, oNeE2, oEqTE, oAll, oSum, oTuple, walkL, walkT, newL, ix0, ix1, ix2, ix3, ix4]
      exact hb
    · rename_i c
      rw [if_neg c] at hq
      split
      · rename_i c
        rw [if_pos c] at hq
        refine one_use _ (fun b => Q (.bl b) S) (within 0 9) (fun x hx hb => ?_) hq
        refine w_is_within (tidy_free (tidys_mem hp hx)) ?_
        try simp only [fresh, wSs, wS, wE, wEs, wC, asB, asI, List.map_cons, List.map_nil, List.replicate_succ, List.replicate_zero, List.append_nil, List.getElem?_cons_zero, List.getElem?_cons_succ, List.getElem?_nil, List.cons_append, List.nil_append, putT_n, putT_t, putTs_n, putTs_c, List.set_cons_zero, List.set_cons_succ, List.length_cons, List.length_nil, List.length_set, List.length_replicate, back, inl, inls, reduceIte, Nat.reduceAdd, Nat.reduceSub, Nat.reduceLT, Nat.reduceLeDiff, Nat.zero_add, wipe, true_and, and_true, Bool.true_eq_false, Bool.false_eq_true, List.set_set, List.take_length, take_set_length, Bool.not_true, Bool.not_false, Int.reduceToNat, Int.reduceLE, Int.reduceLT, Int.reduceNeg, D.free, frees, Bool.and_true, Bool.true_and, Bool.and_self, Nat.reduceLeDiff, decide_true, decide_false, oAddI, oAddS, oAddT, oAddL, oAddA, oSub, oMulI, oMulS, oPow, oFdiv, oMod, oNeg, oLt, oLe, oGt, oGe, oIsN, oNotN, oIsB, oNotB, oIxT, oIxL, oIxS, oCutT_L, oCutT_R, oCutL_R, oLenT, oLenL, oLenS, oMax2, oMin2, oInt1, oStr1, oIsi, oInS, oIn2, oInK, oIxK, oEqI, oEqS, oEqB, oNeB, oNeI, oNeE2, oEqTE, oAll, oSum, oTuple, walkL, walkT, newL, ix0, ix1, ix2, ix3, ix4]
        exact hb
      · rename_i c
        rw [if_neg c] at hq
        split
        · rename_i c
          rw [if_pos c] at hq
          refine one_use _ (fun b => Q (.bl b) S) wordB (fun x hx hb => ?_) hq
          refine w_is_word (n := n + 1) (tidys_mem hp hx) ?_
          try simp only [fresh, wSs, wS, wE, wEs, wC, asB, asI, List.map_cons, List.map_nil, List.replicate_succ, List.replicate_zero, List.append_nil, List.getElem?_cons_zero, List.getElem?_cons_succ, List.getElem?_nil, List.cons_append, List.nil_append, putT_n, putT_t, putTs_n, putTs_c, List.set_cons_zero, List.set_cons_succ, List.length_cons, List.length_nil, List.length_set, List.length_replicate, back, inl, inls, reduceIte, Nat.reduceAdd, Nat.reduceSub, Nat.reduceLT, Nat.reduceLeDiff, Nat.zero_add, wipe, true_and, and_true, Bool.true_eq_false, Bool.false_eq_true, List.set_set, List.take_length, take_set_length, Bool.not_true, Bool.not_false, Int.reduceToNat, Int.reduceLE, Int.reduceLT, Int.reduceNeg, D.free, frees, Bool.and_true, Bool.true_and, Bool.and_self, Nat.reduceLeDiff, decide_true, decide_false, oAddI, oAddS, oAddT, oAddL, oAddA, oSub, oMulI, oMulS, oPow, oFdiv, oMod, oNeg, oLt, oLe, oGt, oGe, oIsN, oNotN, oIsB, oNotB, oIxT, oIxL, oIxS, oCutT_L, oCutT_R, oCutL_R, oLenT, oLenL, oLenS, oMax2, oMin2, oInt1, oStr1, oIsi, oInS, oIn2, oInK, oIxK, oEqI, oEqS, oEqB, oNeB, oNeI, oNeE2, oEqTE, oAll, oSum, oTuple, walkL, walkT, newL, ix0, ix1, ix2, ix3, ix4]
          exact hb
        · rename_i c
          rw [if_neg c] at hq
          split
          · rename_i c
            rw [if_pos c] at hq
            match ps, hp, hq with
            | [], _, hq => exact hq
            | [x], _, hq => exact hq
            | [x, y], hp, hq =>
              show Run T (n + 1 + 1) "is_word" [x] S _ _
              refine w_is_word (tidys_mem hp (by simp)) ?_
              have hq : Q (.bl (wordB x && within 0 8 y)) S := hq
              cases hb : wordB x with
              | true =>
                rw [hb, Bool.true_and] at hq
                show Run T (n + 2) "is_within" [y, .int 0, .int 8] S _ _
                refine w_is_within (tidy_free (tidys_mem hp (by simp))) ?_
                try simp only [fresh, wSs, wS, wE, wEs, wC, asB, asI, List.map_cons, List.map_nil, List.replicate_succ, List.replicate_zero, List.append_nil, List.getElem?_cons_zero, List.getElem?_cons_succ, List.getElem?_nil, List.cons_append, List.nil_append, putT_n, putT_t, putTs_n, putTs_c, List.set_cons_zero, List.set_cons_succ, List.length_cons, List.length_nil, List.length_set, List.length_replicate, back, inl, inls, reduceIte, Nat.reduceAdd, Nat.reduceSub, Nat.reduceLT, Nat.reduceLeDiff, Nat.zero_add, wipe, true_and, and_true, Bool.true_eq_false, Bool.false_eq_true, List.set_set, List.take_length, take_set_length, Bool.not_true, Bool.not_false, Int.reduceToNat, Int.reduceLE, Int.reduceLT, Int.reduceNeg, D.free, frees, Bool.and_true, Bool.true_and, Bool.and_self, Nat.reduceLeDiff, decide_true, decide_false, oAddI, oAddS, oAddT, oAddL, oAddA, oSub, oMulI, oMulS, oPow, oFdiv, oMod, oNeg, oLt, oLe, oGt, oGe, oIsN, oNotN, oIsB, oNotB, oIxT, oIxL, oIxS, oCutT_L, oCutT_R, oCutL_R, oLenT, oLenL, oLenS, oMax2, oMin2, oInt1, oStr1, oIsi, oInS, oIn2, oInK, oIxK, oEqI, oEqS, oEqB, oNeB, oNeI, oNeE2, oEqTE, oAll, oSum, oTuple, walkL, walkT, newL, ix0, ix1, ix2, ix3, ix4]
                exact hq
              | false =>
                rw [hb, Bool.false_and] at hq
                try simp only [fresh, wSs, wS, wE, wEs, wC, asB, asI, List.map_cons, List.map_nil, List.replicate_succ, List.replicate_zero, List.append_nil, List.getElem?_cons_zero, List.getElem?_cons_succ, List.getElem?_nil, List.cons_append, List.nil_append, putT_n, putT_t, putTs_n, putTs_c, List.set_cons_zero, List.set_cons_succ, List.length_cons, List.length_nil, List.length_set, List.length_replicate, back, inl, inls, reduceIte, Nat.reduceAdd, Nat.reduceSub, Nat.reduceLT, Nat.reduceLeDiff, Nat.zero_add, wipe, true_and, and_true, Bool.true_eq_false, Bool.false_eq_true, List.set_set, List.take_length, take_set_length, Bool.not_true, Bool.not_false, Int.reduceToNat, Int.reduceLE, Int.reduceLT, Int.reduceNeg, D.free, frees, Bool.and_true, Bool.true_and, Bool.and_self, Nat.reduceLeDiff, decide_true, decide_false, oAddI, oAddS, oAddT, oAddL, oAddA, oSub, oMulI, oMulS, oPow, oFdiv, oMod, oNeg, oLt, oLe, oGt, oGe, oIsN, oNotN, oIsB, oNotB, oIxT, oIxL, oIxS, oCutT_L, oCutT_R, oCutL_R, oLenT, oLenL, oLenS, oMax2, oMin2, oInt1, oStr1, oIsi, oInS, oIn2, oInK, oIxK, oEqI, oEqS, oEqB, oNeB, oNeI, oNeE2, oEqTE, oAll, oSum, oTuple, walkL, walkT, newL, ix0, ix1, ix2, ix3, ix4]
                exact hq
            | _ :: _ :: _ :: r, _, hq =>
              have e : (((r.length + 1 + 1 + 1 + 1 : Nat) : Int) == 3) = false := beq_eq_false_iff_ne.mpr (by omega)
              show if (((r.length + 1 + 1 + 1 + 1 : Nat) : Int) == 3) = true then _ else _
              rw [e]
              exact hq
          · rename_i c
            rw [if_neg c] at hq
            exact hq
/-! ### nodes -/
def mk : List Ky := [.inr "pi", .inr "fun", .inr "app", .inr "sig", .inr "pair", .inr "fst", .inr "snd"]
def mv : List D := [.int 2, .int 2, .int 2, .int 2, .int 4, .int 1, .int 1]
theorem g_MANY : T.glob "MANY" = some (.dK mk mv) := by rfl
def isNode (h : Str) : Bool := mk.contains (.inr h)
def ar (h : Str) : Nat := if h = "pair" then 4 else if h = "fst" ∨ h = "snd" then 1 else 2
theorem ar_of {h : Str} (e : isNode h = true) : (mk.zip mv).lookup (.inr h) = some (.int (ar h)) ∧ 1 ≤ ar h ∧ ar h ≤ 4 := by
  have : h = "pi" ∨ h = "fun" ∨ h = "app" ∨ h = "sig" ∨ h = "pair" ∨ h = "fst" ∨ h = "snd" := by
    unfold isNode mk at e
    simpa using e
  rcases this with rfl | rfl | rfl | rfl | rfl | rfl | rfl <;> exact ⟨by rfl, by decide, by decide⟩
def nodeForm : List D → Bool
  | .str h :: ps => if isNode h = true then decide (ps.length = ar h) else leafForm h ps
  | _ => false
def nodeB : D → Bool
  | .tup xs => nodeForm xs
  | _ => false
theorem w_is_node_form {n : Nat} {x : D} {S : Store} {Q : Q1} {W : Str → Store → Prop} (hp : tidy x = true) (hq : Q (.bl (nodeB x)) S) : Run T (n + 4) "is_node_form" [x] S Q W := by
  refine wp_of fn_is_node_form rfl ?_
  try simp only [fresh, wSs, wS, wE, wEs, wC, asB, asI, List.map_cons, List.map_nil, List.replicate_succ, List.replicate_zero, List.append_nil, List.getElem?_cons_zero, List.getElem?_cons_succ, List.getElem?_nil, List.cons_append, List.nil_append, putT_n, putT_t, putTs_n, putTs_c, List.set_cons_zero, List.set_cons_succ, List.length_cons, List.length_nil, List.length_set, List.length_replicate, back, inl, inls, reduceIte, Nat.reduceAdd, Nat.reduceSub, Nat.reduceLT, Nat.reduceLeDiff, Nat.zero_add, wipe, true_and, and_true, Bool.true_eq_false, Bool.false_eq_true, List.set_set, List.take_length, take_set_length, Bool.not_true, Bool.not_false, Int.reduceToNat, Int.reduceLE, Int.reduceLT, Int.reduceNeg, D.free, frees, Bool.and_true, Bool.true_and, Bool.and_self, Nat.reduceLeDiff, decide_true, decide_false, oAddI, oAddS, oAddT, oAddL, oAddA, oSub, oMulI, oMulS, oPow, oFdiv, oMod, oNeg, oLt, oLe, oGt, oGe, oIsN, oNotN, oIsB, oNotB, oIxT, oIxL, oIxS, oCutT_L, oCutT_R, oCutL_R, oLenT, oLenL, oLenS, oMax2, oMin2, oInt1, oStr1, oIsi, oInS, oIn2, oInK, oIxK, oEqI, oEqS, oEqB, oNeB, oNeI, oNeE2, oEqTE, oAll, oSum, oTuple, walkL, walkT, newL, ix0, ix1, ix2, ix3, ix4, f_is_node_form, b_is_node_form, g_MANY, negB]
  cases x with
  | tup xs =>
    have e0 : isTy S .tuple (.tup xs) = true := rfl
    cases xs with
    | nil =>
      have e0 : isTy S .tuple (.tup []) = true := rfl
      try simp only [fresh, wSs, wS, wE, wEs, wC, asB, asI, List.map_cons, List.map_nil, List.replicate_succ, List.replicate_zero, List.append_nil, List.getElem?_cons_zero, List.getElem?_cons_succ, List.getElem?_nil, List.cons_append, List.nil_append, putT_n, putT_t, putTs_n, putTs_c, List.set_cons_zero, List.set_cons_succ, List.length_cons, List.length_nil, List.length_set, List.length_replicate, back, inl, inls, reduceIte, Nat.reduceAdd, Nat.reduceSub, Nat.reduceLT, Nat.reduceLeDiff, Nat.zero_add, wipe, true_and, and_true, Bool.true_eq_false, Bool.false_eq_true, List.set_set, List.take_length, take_set_length, Bool.not_true, Bool.not_false, Int.reduceToNat, Int.reduceLE, Int.reduceLT, Int.reduceNeg, D.free, frees, Bool.and_true, Bool.true_and, Bool.and_self, Nat.reduceLeDiff, decide_true, decide_false, oAddI, oAddS, oAddT, oAddL, oAddA, oSub, oMulI, oMulS, oPow, oFdiv, oMod, oNeg, oLt, oLe, oGt, oGe, oIsN, oNotN, oIsB, oNotB, oIxT, oIxL, oIxS, oCutT_L, oCutT_R, oCutL_R, oLenT, oLenL, oLenS, oMax2, oMin2, oInt1, oStr1, oIsi, oInS, oIn2, oInK, oIxK, oEqI, oEqS, oEqB, oNeB, oNeI, oNeE2, oEqTE, oAll, oSum, oTuple, walkL, walkT, newL, ix0, ix1, ix2, ix3, ix4, e0]
      exact hq
    | cons x ps =>
      have e1 : (((ps.length + 1 : Nat) : Int) == 0) = false := beq_eq_false_iff_ne.mpr (by omega)
      try simp only [fresh, wSs, wS, wE, wEs, wC, asB, asI, List.map_cons, List.map_nil, List.replicate_succ, List.replicate_zero, List.append_nil, List.getElem?_cons_zero, List.getElem?_cons_succ, List.getElem?_nil, List.cons_append, List.nil_append, putT_n, putT_t, putTs_n, putTs_c, List.set_cons_zero, List.set_cons_succ, List.length_cons, List.length_nil, List.length_set, List.length_replicate, back, inl, inls, reduceIte, Nat.reduceAdd, Nat.reduceSub, Nat.reduceLT, Nat.reduceLeDiff, Nat.zero_add, wipe, true_and, and_true, Bool.true_eq_false, Bool.false_eq_true, List.set_set, List.take_length, take_set_length, Bool.not_true, Bool.not_false, Int.reduceToNat, Int.reduceLE, Int.reduceLT, Int.reduceNeg, D.free, frees, Bool.and_true, Bool.true_and, Bool.and_self, Nat.reduceLeDiff, decide_true, decide_false, oAddI, oAddS, oAddT, oAddL, oAddA, oSub, oMulI, oMulS, oPow, oFdiv, oMod, oNeg, oLt, oLe, oGt, oGe, oIsN, oNotN, oIsB, oNotB, oIxT, oIxL, oIxS, oCutT_L, oCutT_R, oCutL_R, oLenT, oLenL, oLenS, oMax2, oMin2, oInt1, oStr1, oIsi, oInS, oIn2, oInK, oIxK, oEqI, oEqS, oEqB, oNeB, oNeI, oNeE2, oEqTE, oAll, oSum, oTuple, walkL, walkT, newL, ix0, ix1, ix2, ix3, ix4, e0, e1]
      cases x with
      | str h =>
        have e2 : isTy S .str (.str h) = true := rfl
        try simp only [fresh, wSs, wS, wE, wEs, wC, asB, asI, List.map_cons, List.map_nil, List.replicate_succ, List.replicate_zero, List.append_nil, List.getElem?_cons_zero, List.getElem?_cons_succ, List.getElem?_nil, List.cons_append, List.nil_append, putT_n, putT_t, putTs_n, putTs_c, List.set_cons_zero, List.set_cons_succ, List.length_cons, List.length_nil, List.length_set, List.length_replicate, back, inl, inls, reduceIte, Nat.reduceAdd, Nat.reduceSub, Nat.reduceLT, Nat.reduceLeDiff, Nat.zero_add, wipe, true_and, and_true, Bool.true_eq_false, Bool.false_eq_true, List.set_set, List.take_length, take_set_length, Bool.not_true, Bool.not_false, Int.reduceToNat, Int.reduceLE, Int.reduceLT, Int.reduceNeg, D.free, frees, Bool.and_true, Bool.true_and, Bool.and_self, Nat.reduceLeDiff, decide_true, decide_false, oAddI, oAddS, oAddT, oAddL, oAddA, oSub, oMulI, oMulS, oPow, oFdiv, oMod, oNeg, oLt, oLe, oGt, oGe, oIsN, oNotN, oIsB, oNotB, oIxT, oIxL, oIxS, oCutT_L, oCutT_R, oCutL_R, oLenT, oLenL, oLenS, oMax2, oMin2, oInt1, oStr1, oIsi, oInS, oIn2, oInK, oIxK, oEqI, oEqS, oEqB, oNeB, oNeI, oNeE2, oEqTE, oAll, oSum, oTuple, walkL, walkT, newL, ix0, ix1, ix2, ix3, ix4, e2]
        have hp : (tidy (.str h) && tidys ps) = true := hp
        rw [Bool.and_eq_true] at hp
        have hq : Q (.bl (if isNode h = true then decide (ps.length = ar h) else leafForm h ps)) S := hq
        show if isNode h = true then _ else _
        split
        · rename_i c
          rw [if_pos c] at hq
          obtain ⟨a1, a2, a3⟩ := ar_of c
          rw [a1]
          try simp only [fresh, wSs, wS, wE, wEs, wC, asB, asI, List.map_cons, List.map_nil, List.replicate_succ, List.replicate_zero, List.append_nil, List.getElem?_cons_zero, List.getElem?_cons_succ, List.getElem?_nil, List.cons_append, List.nil_append, putT_n, putT_t, putTs_n, putTs_c, List.set_cons_zero, List.set_cons_succ, List.length_cons, List.length_nil, List.length_set, List.length_replicate, back, inl, inls, reduceIte, Nat.reduceAdd, Nat.reduceSub, Nat.reduceLT, Nat.reduceLeDiff, Nat.zero_add, wipe, true_and, and_true, Bool.true_eq_false, Bool.false_eq_true, List.set_set, List.take_length, take_set_length, Bool.not_true, Bool.not_false, Int.reduceToNat, Int.reduceLE, Int.reduceLT, Int.reduceNeg, D.free, frees, Bool.and_true, Bool.true_and, Bool.and_self, Nat.reduceLeDiff, decide_true, decide_false, oAddI, oAddS, oAddT, oAddL, oAddA, oSub, oMulI, oMulS, oPow, oFdiv, oMod, oNeg, oLt, oLe, oGt, oGe, oIsN, oNotN, oIsB, oNotB, oIxT, oIxL, oIxS, oCutT_L, oCutT_R, oCutL_R, oLenT, oLenL, oLenS, oMax2, oMin2, oInt1, oStr1, oIsi, oInS, oIn2, oInK, oIxK, oEqI, oEqS, oEqB, oNeB, oNeI, oNeE2, oEqTE, oAll, oSum, oTuple, walkL, walkT, newL, ix0, ix1, ix2, ix3, ix4]
          have e3 : (((ps.length + 1 : Nat) : Int) == ((ar h : Nat) : Int) + 1) = decide (ps.length = ar h) := by
            by_cases k : ps.length = ar h
            · rw [decide_eq_true k, k]; simp
            · rw [decide_eq_false k]; exact beq_eq_false_iff_ne.mpr (by omega)
          rw [e3]
          exact hq
        · rename_i c
          rw [if_neg c] at hq
          refine w_is_leaf_form hp.2 ?_
          try simp only [fresh, wSs, wS, wE, wEs, wC, asB, asI, List.map_cons, List.map_nil, List.replicate_succ, List.replicate_zero, List.append_nil, List.getElem?_cons_zero, List.getElem?_cons_succ, List.getElem?_nil, List.cons_append, List.nil_append, putT_n, putT_t, putTs_n, putTs_c, List.set_cons_zero, List.set_cons_succ, List.length_cons, List.length_nil, List.length_set, List.length_replicate, back, inl, inls, reduceIte, Nat.reduceAdd, Nat.reduceSub, Nat.reduceLT, Nat.reduceLeDiff, Nat.zero_add, wipe, true_and, and_true, Bool.true_eq_false, Bool.false_eq_true, List.set_set, List.take_length, take_set_length, Bool.not_true, Bool.not_false, Int.reduceToNat, Int.reduceLE, Int.reduceLT, Int.reduceNeg, D.free, frees, Bool.and_true, Bool.true_and, Bool.and_self, Nat.reduceLeDiff, decide_true, decide_false, oAddI, oAddS, oAddT, oAddL, oAddA, oSub, oMulI, oMulS, oPow, oFdiv, oMod, oNeg, oLt, oLe, oGt, oGe, oIsN, oNotN, oIsB, oNotB, oIxT, oIxL, oIxS, oCutT_L, oCutT_R, oCutL_R, oLenT, oLenL, oLenS, oMax2, oMin2, oInt1, oStr1, oIsi, oInS, oIn2, oInK, oIxK, oEqI, oEqS, oEqB, oNeB, oNeI, oNeE2, oEqTE, oAll, oSum, oTuple, walkL, walkT, newL, ix0, ix1, ix2, ix3, ix4]
          exact hq
      | loc i => cases hp
      | _ => exact hq
  | loc i => cases hp
  | _ => exact hq
/-! ### terms: well formed, their size, their depth -/
def isNodeD : D → Bool
  | .str h => isNode h
  | _ => false
mutual
def okT : D → Bool
  | .tup xs => nodeForm xs && okP xs
  | .str _ => false
  | .lst _ => false
  | .dK _ _ => false
  | .dT _ _ => false
  | .loc _ => false
  | .non => false
  | .bl _ => false
  | .int _ => false
def okP : List D → Bool
  | [] => true
  | h :: ps => if isNodeD h then okTs ps else true
def okTs : List D → Bool
  | [] => true
  | d :: r => okT d && okTs r
end
mutual
def sz : D → Nat
  | .tup xs => 1 + szP xs
  | .str _ => 1
  | .lst _ => 1
  | .dK _ _ => 1
  | .dT _ _ => 1
  | .loc _ => 1
  | .non => 1
  | .bl _ => 1
  | .int _ => 1
def szP : List D → Nat
  | [] => 0
  | h :: ps => if isNodeD h then szs ps else 0
def szs : List D → Nat
  | [] => 0
  | d :: r => sz d + szs r
end
mutual
def dp : D → Nat
  | .tup xs => 1 + dpP xs
  | .str _ => 1
  | .lst _ => 1
  | .dK _ _ => 1
  | .dT _ _ => 1
  | .loc _ => 1
  | .non => 1
  | .bl _ => 1
  | .int _ => 1
def dpP : List D → Nat
  | [] => 0
  | h :: ps => if isNodeD h then dps ps else 0
def dps : List D → Nat
  | [] => 0
  | d :: r => max (dp d) (dps r)
end
theorem sz_pos : ∀ d : D, 1 ≤ sz d := fun d => by cases d <;> (unfold sz; omega)
theorem dp_pos : ∀ d : D, 1 ≤ dp d := fun d => by cases d <;> (unfold dp; omega)
def good (k : Nat) (ps : List (D × Nat)) : Bool := ps.all (fun p => okT p.1 && decide (p.2 - 1 + dp p.1 ≤ 60)) && decide (k + (ps.map fun p => sz p.1).sum ≤ 2000)
def enc (p : D × Nat) : D := .tup [p.1, .int p.2]
theorem szs_sum : ∀ ps : List D, szs ps = (ps.map sz).sum
  | [] => rfl
  | d :: r => by
    show sz d + szs r = _
    rw [List.map_cons, List.sum_cons, szs_sum r]
theorem okTs_all : ∀ ps : List D, okTs ps = ps.all okT
  | [] => rfl
  | d :: r => by
    show (okT d && okTs r) = _
    rw [List.all_cons, okTs_all r]
theorem dps_le : ∀ (ps : List D) (m : Nat), dps ps ≤ m ↔ ∀ p ∈ ps, dp p ≤ m
  | [], m => ⟨fun _ p hp => absurd hp (by simp), fun _ => Nat.zero_le m⟩
  | d :: r, m => by
    show max (dp d) (dps r) ≤ m ↔ _
    rw [Nat.max_le, dps_le r m]
    simp
/-- one turn at a node -/
theorem good_node {h : Str} {ps : List D} {d k : Nat} {rest : List (D × Nat)} (hn : isNode h = true) (ha : ps.length = ar h) (hd : 1 ≤ d) : good k (rest ++ [(.tup (.str h :: ps), d)]) = good (k + 1) (rest ++ ps.map fun p => (p, d + 1)) := by
  have e1 : okT (.tup (.str h :: ps)) = ps.all okT := by
    show (nodeForm (.str h :: ps) && okP (.str h :: ps)) = _
    have : nodeForm (.str h :: ps) = true := by
      show (if isNode h = true then decide (ps.length = ar h) else leafForm h ps) = true
      rw [if_pos hn, decide_eq_true ha]
    rw [this, Bool.true_and]
    show (if isNode h = true then okTs ps else true) = _
    rw [if_pos hn, okTs_all]
  have e2 : sz (.tup (.str h :: ps)) = 1 + (ps.map sz).sum := by
    show 1 + (if isNode h = true then szs ps else 0) = _
    rw [if_pos hn, szs_sum]
  have e3 : dp (.tup (.str h :: ps)) = 1 + dps ps := by
    show 1 + (if isNode h = true then dps ps else 0) = _
    rw [if_pos hn]
  unfold good
  rw [List.all_append, List.all_append, List.map_append, List.map_append, List.sum_append, List.sum_append]
  rw [show ([(D.tup (.str h :: ps), d)].map fun p => sz p.1).sum = 1 + (ps.map sz).sum by simp [e2]]
  rw [show ((ps.map fun p => (p, d + 1)).map fun p => sz p.1).sum = (ps.map sz).sum by rw [List.map_map]; rfl]
  have e4 : ([(D.tup (.str h :: ps), d)].all fun p => okT p.1 && decide (p.2 - 1 + dp p.1 ≤ 60)) = ((ps.map fun p => (p, d + 1)).all fun p => okT p.1 && decide (p.2 - 1 + dp p.1 ≤ 60)) := by
    rw [Bool.eq_iff_iff]
    simp only [List.all_cons, List.all_nil, Bool.and_true, Bool.and_eq_true, decide_eq_true_eq, List.all_map, List.all_eq_true, Function.comp, e1, e3]
    constructor
    · rintro ⟨h1, h2⟩ p hp
      have := (dps_le ps (dps ps)).mp (Nat.le_refl _) p hp
      exact ⟨h1 p hp, by omega⟩
    · intro hh
      refine ⟨fun p hp => (hh p hp).1, ?_⟩
      by_cases hps : ps = []
      · have := ar_of hn
        rw [hps] at ha
        simp at ha
        omega
      · have hb : dps ps ≤ 60 - d := (dps_le ps _).mpr fun p hp => by
          have := (hh p hp).2
          omega
        obtain ⟨p, hp⟩ := List.exists_mem_of_ne_nil ps hps
        have := (hh p hp).2
        have := dp_pos p
        omega
  rw [e4]
  congr 2
  refine propext ⟨fun _ => ?_, fun _ => ?_⟩ <;> omega
/-- one turn at a leaf -/
theorem good_leaf {h : Str} {ps : List D} {d k : Nat} {rest : List (D × Nat)} (hn : isNode h = false) (hl : leafForm h ps = true) (hd : 1 ≤ d) (hd2 : d ≤ 60) : good k (rest ++ [(.tup (.str h :: ps), d)]) = good (k + 1) rest := by
  have hn' : ¬ isNode h = true := by rw [hn]; decide
  have e1 : okT (.tup (.str h :: ps)) = true := by
    show (nodeForm (.str h :: ps) && okP (.str h :: ps)) = _
    have : nodeForm (.str h :: ps) = true := by
      show (if isNode h = true then decide (ps.length = ar h) else leafForm h ps) = true
      rw [if_neg hn', hl]
    rw [this, Bool.true_and]
    show (if isNode h = true then okTs ps else true) = _
    rw [if_neg hn']
  have e2 : sz (.tup (.str h :: ps)) = 1 := by
    show 1 + (if isNode h = true then szs ps else 0) = _
    rw [if_neg hn']
  have e3 : dp (.tup (.str h :: ps)) = 1 := by
    show 1 + (if isNode h = true then dps ps else 0) = _
    rw [if_neg hn']
  unfold good
  rw [List.all_append, List.map_append, List.sum_append]
  rw [show ([(D.tup (.str h :: ps), d)].map fun p => sz p.1).sum = 1 by simp [e2]]
  rw [show ([(D.tup (.str h :: ps), d)].all fun p => okT p.1 && decide (p.2 - 1 + dp p.1 ≤ 60)) = true by simp [e1, e3]; omega, Bool.and_true]
  congr 2
  refine propext ⟨fun _ => ?_, fun _ => ?_⟩ <;> omega
theorem good_bad {x : D} {d k : Nat} {rest : List (D × Nat)} (h : 2000 < k + 1 ∨ 60 < d ∨ nodeB x = false) : good k (rest ++ [(x, d)]) = false := by
  unfold good
  rw [List.all_append, List.map_append, List.sum_append]
  have := sz_pos x
  have := dp_pos x
  rw [Bool.eq_false_iff]
  intro z
  simp only [Bool.and_eq_true, decide_eq_true_eq, List.all_cons, List.all_nil, List.map_cons, List.map_nil, List.sum_cons, List.sum_nil] at z
  obtain ⟨⟨_, ⟨z1, z2⟩, _⟩, z3⟩ := z
  rcases h with h | h | h
  · omega
  · omega
  · cases x with
    | tup xs =>
      have z1 : (nodeForm xs && okP xs) = true := z1
      have h : nodeForm xs = false := h
      rw [h] at z1
      cases z1
    | _ => cases z1
theorem g_MOST_NODES : T.glob "MOST_NODES" = some (.int 2000) := by rfl
theorem g_MOST_DEEP : T.glob "MOST_DEEP" = some (.int 60) := by rfl
def goodT (x : D) : Bool := okT x && decide (sz x ≤ 2000) && decide (dp x ≤ 60)
theorem goodT_eq (x : D) : goodT x = good 0 [(x, 1)] := by
  unfold goodT good
  simp only [List.all_cons, List.all_nil, Bool.and_true, List.map_cons, List.map_nil, List.sum_cons, List.sum_nil, Nat.zero_add, Nat.add_zero, Nat.sub_self]
  cases okT x <;> simp
  rw [Bool.and_comm]
theorem enc_frees {ps : List (D × Nat)} (h : ∀ p ∈ ps, tidy p.1 = true) : frees (ps.map enc) = true := frees_of fun y hy => by
  obtain ⟨p, hp, rfl⟩ := List.mem_map.mp hy
  show (p.1.free && true) = true
  rw [tidy_free (h p hp)]
  rfl
theorem w_is_term_form {n : Nat} {x : D} {S : Store} {Q : Q1} {W : Str → Store → Prop} (hp : tidy x = true) (hq : Q (.bl (goodT x)) S) : Run T (n + 5) "is_term_form" [x] S Q W := by
  refine wp_of fn_is_term_form rfl ?_
  try simp only [fresh, wSs, wS, wE, wEs, wC, asB, asI, List.map_cons, List.map_nil, List.replicate_succ, List.replicate_zero, List.append_nil, List.getElem?_cons_zero, List.getElem?_cons_succ, List.getElem?_nil, List.cons_append, List.nil_append, putT_n, putT_t, putTs_n, putTs_c, List.set_cons_zero, List.set_cons_succ, List.length_cons, List.length_nil, List.length_set, List.length_replicate, back, inl, inls, reduceIte, Nat.reduceAdd, Nat.reduceSub, Nat.reduceLT, Nat.reduceLeDiff, Nat.zero_add, wipe, true_and, and_true, Bool.true_eq_false, Bool.false_eq_true, List.set_set, List.take_length, take_set_length, Bool.not_true, Bool.not_false, Int.reduceToNat, Int.reduceLE, Int.reduceLT, Int.reduceNeg, D.free, frees, Bool.and_true, Bool.true_and, Bool.and_self, Nat.reduceLeDiff, decide_true, decide_false, oAddI, oAddS, oAddT, oAddL, oAddA, oSub, oMulI, oMulS, oPow, oFdiv, oMod, oNeg, oLt, oLe, oGt, oGe, oIsN, oNotN, oIsB, oNotB, oIxT, oIxL, oIxS, oCutT_L, oCutT_R, oCutL_R, oLenT, oLenL, oLenS, oMax2, oMin2, oInt1, oStr1, oIsi, oInS, oIn2, oInK, oIxK, oEqI, oEqS, oEqB, oNeB, oNeI, oNeE2, oEqTE, oAll, oSum, oTuple, walkL, walkT, newL, ix0, ix1, ix2, ix3, ix4, f_is_term_form, b_is_term_form, tidy_free hp]
  refine ⟨by decide, by decide, 2002, ?_⟩
  refine whlW_inv (fun m σ S' => ∃ (ps : List (D × Nat)) (k : Nat) (a b : Option D), m = 2002 - k ∧ k ≤ 2000 ∧ σ = [some x, some (.loc S.length), some (.int k), a, b, none] ∧ S' = S ++ [.lst (ps.map enc)] ∧ ps.length ≤ 4 * k + 1 ∧ (∀ p ∈ ps, tidy p.1 = true ∧ 1 ≤ p.2) ∧ goodT x = good k ps) (fun σ S' h => ?_) (fun m σ S' K h hK => ?_) 2002 _ _ ⟨[(x, 1)], 0, none, none, rfl, by decide, rfl, rfl, (show 1 ≤ 1 from Nat.le_refl _), fun p hp' => ?_, goodT_eq x⟩
  · obtain ⟨ps, k, a, b, h1, h2, _⟩ := h
    omega
  · obtain ⟨ps, k, a, b, h1, h2, rfl, rfl, h5, h6, h7⟩ := h
    have fr := enc_frees fun p hp => (h6 p hp).1
    try simp only [fresh, wSs, wS, wE, wEs, wC, asB, asI, List.map_cons, List.map_nil, List.replicate_succ, List.replicate_zero, List.append_nil, List.getElem?_cons_zero, List.getElem?_cons_succ, List.getElem?_nil, List.cons_append, List.nil_append, putT_n, putT_t, putTs_n, putTs_c, List.set_cons_zero, List.set_cons_succ, List.length_cons, List.length_nil, List.length_set, List.length_replicate, back, inl, inls, reduceIte, Nat.reduceAdd, Nat.reduceSub, Nat.reduceLT, Nat.reduceLeDiff, Nat.zero_add, wipe, true_and, and_true, Bool.true_eq_false, Bool.false_eq_true, List.set_set, List.take_length, take_set_length, Bool.not_true, Bool.not_false, Int.reduceToNat, Int.reduceLE, Int.reduceLT, Int.reduceNeg, D.free, frees, Bool.and_true, Bool.true_and, Bool.and_self, Nat.reduceLeDiff, decide_true, decide_false, oAddI, oAddS, oAddT, oAddL, oAddA, oSub, oMulI, oMulS, oPow, oFdiv, oMod, oNeg, oLt, oLe, oGt, oGe, oIsN, oNotN, oIsB, oNotB, oIxT, oIxL, oIxS, oCutT_L, oCutT_R, oCutL_R, oLenT, oLenL, oLenS, oMax2, oMin2, oInt1, oStr1, oIsi, oInS, oIn2, oInK, oIxK, oEqI, oEqS, oEqB, oNeB, oNeI, oNeE2, oEqTE, oAll, oSum, oTuple, walkL, walkT, newL, ix0, ix1, ix2, ix3, ix4, wt0_is_term_form, oNeE getApp]
    refine ⟨Nat.zero_le _, ?_⟩
    rcases List.eq_nil_or_concat ps with rfl | ⟨rest, ⟨y, d⟩, rfl⟩
    · try simp only [fresh, wSs, wS, wE, wEs, wC, asB, asI, List.map_cons, List.map_nil, List.replicate_succ, List.replicate_zero, List.append_nil, List.getElem?_cons_zero, List.getElem?_cons_succ, List.getElem?_nil, List.cons_append, List.nil_append, putT_n, putT_t, putTs_n, putTs_c, List.set_cons_zero, List.set_cons_succ, List.length_cons, List.length_nil, List.length_set, List.length_replicate, back, inl, inls, reduceIte, Nat.reduceAdd, Nat.reduceSub, Nat.reduceLT, Nat.reduceLeDiff, Nat.zero_add, wipe, true_and, and_true, Bool.true_eq_false, Bool.false_eq_true, List.set_set, List.take_length, take_set_length, Bool.not_true, Bool.not_false, Int.reduceToNat, Int.reduceLE, Int.reduceLT, Int.reduceNeg, D.free, frees, Bool.and_true, Bool.true_and, Bool.and_self, Nat.reduceLeDiff, decide_true, decide_false, oAddI, oAddS, oAddT, oAddL, oAddA, oSub, oMulI, oMulS, oPow, oFdiv, oMod, oNeg, oLt, oLe, oGt, oGe, oIsN, oNotN, oIsB, oNotB, oIxT, oIxL, oIxS, oCutT_L, oCutT_R, oCutL_R, oLenT, oLenL, oLenS, oMax2, oMin2, oInt1, oStr1, oIsi, oInS, oIn2, oInK, oIxK, oEqI, oEqS, oEqB, oNeB, oNeI, oNeE2, oEqTE, oAll, oSum, oTuple, walkL, walkT, newL, ix0, ix1, ix2, ix3, ix4, List.isEmpty_nil, List.take_left]
      have : good k [] = true := by unfold good; simp; omega
      rw [h7, this] at hq
      exact hq
    · have em : ((rest ++ [(y, d)]).map enc).isEmpty = false := by simp
      have el : ((rest ++ [(y, d)]).map enc).getLast? = some (enc (y, d)) := by simp
      have ed : ((rest ++ [(y, d)]).map enc).dropLast = rest.map enc := by simp
      obtain ⟨hy, hd⟩ := h6 (y, d) (by simp)
      rw [List.concat_eq_append] at *
      try simp only [fresh, wSs, wS, wE, wEs, wC, asB, asI, List.map_cons, List.map_nil, List.replicate_succ, List.replicate_zero, List.append_nil, List.getElem?_cons_zero, List.getElem?_cons_succ, List.getElem?_nil, List.cons_append, List.nil_append, putT_n, putT_t, putTs_n, putTs_c, List.set_cons_zero, List.set_cons_succ, List.length_cons, List.length_nil, List.length_set, List.length_replicate, back, inl, inls, reduceIte, Nat.reduceAdd, Nat.reduceSub, Nat.reduceLT, Nat.reduceLeDiff, Nat.zero_add, wipe, true_and, and_true, Bool.true_eq_false, Bool.false_eq_true, List.set_set, List.take_length, take_set_length, Bool.not_true, Bool.not_false, Int.reduceToNat, Int.reduceLE, Int.reduceLT, Int.reduceNeg, D.free, frees, Bool.and_true, Bool.true_and, Bool.and_self, Nat.reduceLeDiff, decide_true, decide_false, oAddI, oAddS, oAddT, oAddL, oAddA, oSub, oMulI, oMulS, oPow, oFdiv, oMod, oNeg, oLt, oLe, oGt, oGe, oIsN, oNotN, oIsB, oNotB, oIxT, oIxL, oIxS, oCutT_L, oCutT_R, oCutL_R, oLenT, oLenL, oLenS, oMax2, oMin2, oInt1, oStr1, oIsi, oInS, oIn2, oInK, oIxK, oEqI, oEqS, oEqB, oNeB, oNeI, oNeE2, oEqTE, oAll, oSum, oTuple, walkL, walkT, newL, ix0, ix1, ix2, ix3, ix4, lp0_is_term_form, ce0_is_term_form, g_MOST_NODES, g_MOST_DEEP, g_MANY, em, isTyO getApp, oPop getApp el, ed, setApp, enc]
      have tk : ∀ o : O, List.take S.length (S ++ [o]) = S := fun o => List.take_left
      simp only [tk]
      have hb : (2000 < k + 1 ∨ 60 < d ∨ nodeB y = false) → Q (.bl false) S := fun h => by
        rw [h7, good_bad h] at hq
        exact hq
      split
      · rename_i c
        exact hb (.inl (by have := of_decide_eq_true c; omega))
      · rename_i c1
        split
        · rename_i c
          exact hb (.inr (.inl (by have := of_decide_eq_true c; omega)))
        · rename_i c2
          have d60 : d ≤ 60 := by
            have := of_decide_eq_false (Bool.eq_false_iff.mpr c2)
            omega
          have k1 : k + 1 ≤ 2000 := by
            have := of_decide_eq_false (Bool.eq_false_iff.mpr c1)
            omega
          refine w_is_node_form hy ?_
          cases hn : nodeB y with
          | false =>
            try simp only [fresh, wSs, wS, wE, wEs, wC, asB, asI, List.map_cons, List.map_nil, List.replicate_succ, List.replicate_zero, List.append_nil, List.getElem?_cons_zero, List.getElem?_cons_succ, List.getElem?_nil, List.cons_append, List.nil_append, putT_n, putT_t, putTs_n, putTs_c, List.set_cons_zero, List.set_cons_succ, List.length_cons, List.length_nil, List.length_set, List.length_replicate, back, inl, inls, reduceIte, Nat.reduceAdd, Nat.reduceSub, Nat.reduceLT, Nat.reduceLeDiff, Nat.zero_add, wipe, true_and, and_true, Bool.true_eq_false, Bool.false_eq_true, List.set_set, List.take_length, take_set_length, Bool.not_true, Bool.not_false, Int.reduceToNat, Int.reduceLE, Int.reduceLT, Int.reduceNeg, D.free, frees, Bool.and_true, Bool.true_and, Bool.and_self, Nat.reduceLeDiff, decide_true, decide_false, oAddI, oAddS, oAddT, oAddL, oAddA, oSub, oMulI, oMulS, oPow, oFdiv, oMod, oNeg, oLt, oLe, oGt, oGe, oIsN, oNotN, oIsB, oNotB, oIxT, oIxL, oIxS, oCutT_L, oCutT_R, oCutL_R, oLenT, oLenL, oLenS, oMax2, oMin2, oInt1, oStr1, oIsi, oInS, oIn2, oInK, oIxK, oEqI, oEqS, oEqB, oNeB, oNeI, oNeE2, oEqTE, oAll, oSum, oTuple, walkL, walkT, newL, ix0, ix1, ix2, ix3, ix4]
            simp only [tk]
            exact hb (.inr (.inr hn))
          | true =>
            cases y with
            | tup xs =>
              cases xs with
              | nil => cases hn
              | cons hd' ps =>
                cases hd' with
                | str h =>
                  have hf : (if isNode h = true then decide (ps.length = ar h) else leafForm h ps) = true := hn
                  have tp : tidys ps = true := by
                    have hy : (tidy (.str h) && tidys ps) = true := hy
                    rw [Bool.and_eq_true] at hy
                    exact hy.2
                  try simp only [fresh, wSs, wS, wE, wEs, wC, asB, asI, List.map_cons, List.map_nil, List.replicate_succ, List.replicate_zero, List.append_nil, List.getElem?_cons_zero, List.getElem?_cons_succ, List.getElem?_nil, List.cons_append, List.nil_append, putT_n, putT_t, putTs_n, putTs_c, List.set_cons_zero, List.set_cons_succ, List.length_cons, List.length_nil, List.length_set, List.length_replicate, back, inl, inls, reduceIte, Nat.reduceAdd, Nat.reduceSub, Nat.reduceLT, Nat.reduceLeDiff, Nat.zero_add, wipe, true_and, and_true, Bool.true_eq_false, Bool.false_eq_true, List.set_set, List.take_length, take_set_length, Bool.not_true, Bool.not_false, Int.reduceToNat, Int.reduceLE, Int.reduceLT, Int.reduceNeg, D.free, frees, Bool.and_true, Bool.true_and, Bool.and_self, Nat.reduceLeDiff, decide_true, decide_false, oAddI, oAddS, oAddT, oAddL, oAddA, oSub, oMulI, oMulS, oPow, oFdiv, oMod, oNeg, oLt, oLe, oGt, oGe, oIsN, oNotN, oIsB, oNotB, oIxT, oIxL, oIxS, oCutT_L, oCutT_R, oCutL_R, oLenT, oLenL, oLenS, oMax2, oMin2, oInt1, oStr1, oIsi, oInS, oIn2, oInK, oIxK, oEqI, oEqS, oEqB, oNeB, oNeI, oNeE2, oEqTE, oAll, oSum, oTuple, walkL, walkT, newL, ix0, ix1, ix2, ix3, ix4, negB]
                  show if isNode h = true then _ else _
                  split
                  · rename_i c
                    rw [if_pos c] at hf
                    have hf := of_decide_eq_true hf
                    obtain ⟨_, ar1, ar2⟩ := ar_of c
                    try simp only [fresh, wSs, wS, wE, wEs, wC, asB, asI, List.map_cons, List.map_nil, List.replicate_succ, List.replicate_zero, List.append_nil, List.getElem?_cons_zero, List.getElem?_cons_succ, List.getElem?_nil, List.cons_append, List.nil_append, putT_n, putT_t, putTs_n, putTs_c, List.set_cons_zero, List.set_cons_succ, List.length_cons, List.length_nil, List.length_set, List.length_replicate, back, inl, inls, reduceIte, Nat.reduceAdd, Nat.reduceSub, Nat.reduceLT, Nat.reduceLeDiff, Nat.zero_add, wipe, true_and, and_true, Bool.true_eq_false, Bool.false_eq_true, List.set_set, List.take_length, take_set_length, Bool.not_true, Bool.not_false, Int.reduceToNat, Int.reduceLE, Int.reduceLT, Int.reduceNeg, D.free, frees, Bool.and_true, Bool.true_and, Bool.and_self, Nat.reduceLeDiff, decide_true, decide_false, oAddI, oAddS, oAddT, oAddL, oAddA, oSub, oMulI, oMulS, oPow, oFdiv, oMod, oNeg, oLt, oLe, oGt, oGe, oIsN, oNotN, oIsB, oNotB, oIxT, oIxL, oIxS, oCutT_L, oCutT_R, oCutL_R, oLenT, oLenL, oLenS, oMax2, oMin2, oInt1, oStr1, oIsi, oInS, oIn2, oInK, oIxK, oEqI, oEqS, oEqB, oNeB, oNeI, oNeE2, oEqTE, oAll, oSum, oTuple, walkL, walkT, newL, ix0, ix1, ix2, ix3, ix4, isTyO getApp, cut1, walkL]
                    refine compW_map (fun x => .tup [x, .int ((d : Int) + 1)]) trivial ps [] (fun x hx R hR => ⟨by decide, hR⟩) (fun x hx => ?_) ?_ ?_
                    · show (x.free && true) = true
                      rw [tidy_free (tidys_mem tp hx)]
                      rfl
                    · show 0 + ps.length ≤ 16777216
                      omega
                    · rw [List.nil_append]
                      refine ⟨by rw [List.length_map]; show ps.length ≤ 16777216; omega, ?_, ?_⟩
                      · refine frees_of fun z hz => ?_
                        obtain ⟨x, hx, rfl⟩ := List.mem_map.mp hz
                        show (x.free && true) = true
                        rw [tidy_free (tidys_mem tp hx)]
                        rfl
                      · try simp only [fresh, wSs, wS, wE, wEs, wC, asB, asI, List.map_cons, List.map_nil, List.replicate_succ, List.replicate_zero, List.append_nil, List.getElem?_cons_zero, List.getElem?_cons_succ, List.getElem?_nil, List.cons_append, List.nil_append, putT_n, putT_t, putTs_n, putTs_c, List.set_cons_zero, List.set_cons_succ, List.length_cons, List.length_nil, List.length_set, List.length_replicate, back, inl, inls, reduceIte, Nat.reduceAdd, Nat.reduceSub, Nat.reduceLT, Nat.reduceLeDiff, Nat.zero_add, wipe, true_and, and_true, Bool.true_eq_false, Bool.false_eq_true, List.set_set, List.take_length, take_set_length, Bool.not_true, Bool.not_false, Int.reduceToNat, Int.reduceLE, Int.reduceLT, Int.reduceNeg, D.free, frees, Bool.and_true, Bool.true_and, Bool.and_self, Nat.reduceLeDiff, decide_true, decide_false, oAddI, oAddS, oAddT, oAddL, oAddA, oSub, oMulI, oMulS, oPow, oFdiv, oMod, oNeg, oLt, oLe, oGt, oGe, oIsN, oNotN, oIsB, oNotB, oIxT, oIxL, oIxS, oCutT_L, oCutT_R, oCutL_R, oLenT, oLenL, oLenS, oMax2, oMin2, oInt1, oStr1, oIsi, oInS, oIn2, oInK, oIxK, oEqI, oEqS, oEqB, oNeB, oNeI, oNeE2, oEqTE, oAll, oSum, oTuple, walkL, walkT, newL, ix0, ix1, ix2, ix3, ix4, oExt getApp, setApp]
                        rw [List.length_append, List.length_singleton] at h5
                        refine ⟨by rw [List.length_map, List.length_map]; show _ ≤ 16777216; omega, hK _ _ ⟨rest ++ ps.map fun p => (p, d + 1), k + 1, some (.tup (.str h :: ps)), some (.int d), by omega, k1, by simp, ?_, ?_, ?_, ?_⟩⟩
                        · rw [List.map_append, List.map_map]
                          rfl
                        · rw [List.length_append, List.length_map]; omega
                        · intro p hp
                          rcases List.mem_append.mp hp with hp | hp
                          · exact h6 p (List.mem_append_left _ hp)
                          · obtain ⟨x, hx, rfl⟩ := List.mem_map.mp hp
                            exact ⟨tidys_mem tp hx, by show 1 ≤ d + 1; omega⟩
                        · rw [h7]
                          exact good_node c hf hd
                  · rename_i c
                    rw [if_neg c] at hf
                    rw [List.length_append, List.length_singleton] at h5
                    refine hK _ _ ⟨rest, k + 1, some (.tup (.str h :: ps)), some (.int d), by omega, k1, by simp, rfl, by omega, fun p hp => h6 p (List.mem_append_left _ hp), ?_⟩
                    rw [h7]
                    exact good_leaf (Bool.eq_false_iff.mpr c) hf hd d60
                | _ => cases hn
            | _ => cases hn
  · rw [List.mem_singleton.mp hp']
    exact ⟨hp, Nat.le_refl _⟩
/-! ### parts, size, depth -/
def partsOf : D → List D
  | .tup (h :: ps) => if isNodeD h then ps else []
  | _ => []
theorem okT_inv {x : D} (h : okT x = true) : ∃ hd ps, x = .tup (.str hd :: ps) ∧ (isNode hd = true → ps.length = ar hd ∧ okTs ps = true) ∧ (isNode hd = false → leafForm hd ps = true) := by
  cases x with
  | tup xs =>
    have h : (nodeForm xs && okP xs) = true := h
    rw [Bool.and_eq_true] at h
    cases xs with
    | nil => cases h.1
    | cons x ps =>
      cases x with
      | str hd =>
        have h1 : (if isNode hd = true then decide (ps.length = ar hd) else leafForm hd ps) = true := h.1
        have h2 : (if isNode hd = true then okTs ps else true) = true := h.2
        refine ⟨hd, ps, rfl, fun e => ?_, fun e => ?_⟩
        · rw [if_pos e] at h1 h2
          exact ⟨of_decide_eq_true h1, h2⟩
        · rw [if_neg (by rw [e]; decide)] at h1
          exact h1
      | _ => cases h.1
  | _ => cases h
theorem okT_node {hd : Str} {ps : List D} (e : isNode hd = true) (ha : ps.length = ar hd) (h : okTs ps = true) : okT (.tup (.str hd :: ps)) = true := by
  show ((if isNode hd = true then decide (ps.length = ar hd) else leafForm hd ps) && (if isNode hd = true then okTs ps else true)) = true
  rw [if_pos e, if_pos e, decide_eq_true ha, h]
  rfl
theorem okT_leaf {hd : Str} {ps : List D} (e : isNode hd = false) (h : leafForm hd ps = true) : okT (.tup (.str hd :: ps)) = true := by
  show ((if isNode hd = true then decide (ps.length = ar hd) else leafForm hd ps) && (if isNode hd = true then okTs ps else true)) = true
  rw [if_neg (by rw [e]; decide), if_neg (by rw [e]; decide), h]
  rfl
theorem parts_facts {x : D} (h : okT x = true) (ht : tidy x = true) : (∀ p ∈ partsOf x, okT p = true ∧ tidy p = true ∧ dp p + 1 ≤ dp x) ∧ sz x = 1 + ((partsOf x).map sz).sum ∧ dp x = 1 + dps (partsOf x) ∧ (partsOf x).length ≤ 4 := by
  obtain ⟨hd, ps, rfl, h1, h2⟩ := okT_inv h
  have ht : (tidy (.str hd) && tidys ps) = true := ht
  rw [Bool.and_eq_true] at ht
  show (∀ p ∈ (if isNode hd = true then ps else []), _) ∧ 1 + (if isNode hd = true then szs ps else 0) = 1 + ((if isNode hd = true then ps else []).map sz).sum ∧ 1 + (if isNode hd = true then dps ps else 0) = 1 + dps (if isNode hd = true then ps else []) ∧ (if isNode hd = true then ps else []).length ≤ 4
  cases e : isNode hd with
  | true =>
    obtain ⟨ha, ho⟩ := h1 e
    obtain ⟨_, _, a3⟩ := ar_of e
    simp only [if_true]
    refine ⟨fun p hp => ⟨?_, tidys_mem ht.2 hp, ?_⟩, by rw [szs_sum], by first | trivial | rfl, by omega⟩
    · rw [okTs_all] at ho
      exact List.all_eq_true.mp ho p hp
    · have := (dps_le ps (dps ps)).mp (Nat.le_refl _) p hp
      show _ ≤ 1 + (if isNode hd = true then dps ps else 0)
      rw [if_pos e]
      omega
  | false =>
    simp only [Bool.false_eq_true, if_false]
    exact ⟨fun p hp => absurd hp (by simp), by first | trivial | rfl, by first | trivial | rfl, by first | trivial | decide⟩
theorem parts_free {x : D} (h : okT x = true) (ht : tidy x = true) : frees (partsOf x) = true := frees_of fun p hp => tidy_free ((parts_facts h ht).1 p hp).2.1
theorem w_parts_of {n : Nat} {x : D} {S : Store} {Q : Q1} {W : Str → Store → Prop} (h : okT x = true) (ht : tidy x = true) (hq : Q (.tup (partsOf x)) S) : Run T (n + 1) "parts_of" [x] S Q W := by
  have fr := parts_free h ht
  obtain ⟨hd, ps, rfl, h1, h2⟩ := okT_inv h
  refine wp_of fn_parts_of rfl ?_
  try simp only [fresh, wSs, wS, wE, wEs, wC, asB, asI, List.map_cons, List.map_nil, List.replicate_succ, List.replicate_zero, List.append_nil, List.getElem?_cons_zero, List.getElem?_cons_succ, List.getElem?_nil, List.cons_append, List.nil_append, putT_n, putT_t, putTs_n, putTs_c, List.set_cons_zero, List.set_cons_succ, List.length_cons, List.length_nil, List.length_set, List.length_replicate, back, inl, inls, reduceIte, Nat.reduceAdd, Nat.reduceSub, Nat.reduceLT, Nat.reduceLeDiff, Nat.zero_add, wipe, true_and, and_true, Bool.true_eq_false, Bool.false_eq_true, List.set_set, List.take_length, take_set_length, Bool.not_true, Bool.not_false, Int.reduceToNat, Int.reduceLE, Int.reduceLT, Int.reduceNeg, D.free, frees, Bool.and_true, Bool.true_and, Bool.and_self, Nat.reduceLeDiff, decide_true, decide_false, oAddI, oAddS, oAddT, oAddL, oAddA, oSub, oMulI, oMulS, oPow, oFdiv, oMod, oNeg, oLt, oLe, oGt, oGe, oIsN, oNotN, oIsB, oNotB, oIxT, oIxL, oIxS, oCutT_L, oCutT_R, oCutL_R, oLenT, oLenL, oLenS, oMax2, oMin2, oInt1, oStr1, oIsi, oInS, oIn2, oInK, oIxK, oEqI, oEqS, oEqB, oNeB, oNeI, oNeE2, oEqTE, oAll, oSum, oTuple, walkL, walkT, newL, ix0, ix1, ix2, ix3, ix4, f_parts_of, b_parts_of, g_MANY, negB]
  show if isNode hd = true then _ else _
  have hq : Q (.tup (if isNode hd = true then ps else [])) S := hq
  split
  · rename_i e
    rw [if_pos e] at hq
    have fr : frees (if isNode hd = true then ps else []) = true := fr
    rw [if_pos e] at fr
    try simp only [fresh, wSs, wS, wE, wEs, wC, asB, asI, List.map_cons, List.map_nil, List.replicate_succ, List.replicate_zero, List.append_nil, List.getElem?_cons_zero, List.getElem?_cons_succ, List.getElem?_nil, List.cons_append, List.nil_append, putT_n, putT_t, putTs_n, putTs_c, List.set_cons_zero, List.set_cons_succ, List.length_cons, List.length_nil, List.length_set, List.length_replicate, back, inl, inls, reduceIte, Nat.reduceAdd, Nat.reduceSub, Nat.reduceLT, Nat.reduceLeDiff, Nat.zero_add, wipe, true_and, and_true, Bool.true_eq_false, Bool.false_eq_true, List.set_set, List.take_length, take_set_length, Bool.not_true, Bool.not_false, Int.reduceToNat, Int.reduceLE, Int.reduceLT, Int.reduceNeg, D.free, frees, Bool.and_true, Bool.true_and, Bool.and_self, Nat.reduceLeDiff, decide_true, decide_false, oAddI, oAddS, oAddT, oAddL, oAddA, oSub, oMulI, oMulS, oPow, oFdiv, oMod, oNeg, oLt, oLe, oGt, oGe, oIsN, oNotN, oIsB, oNotB, oIxT, oIxL, oIxS, oCutT_L, oCutT_R, oCutL_R, oLenT, oLenL, oLenS, oMax2, oMin2, oInt1, oStr1, oIsi, oInS, oIn2, oInK, oIxK, oEqI, oEqS, oEqB, oNeB, oNeI, oNeE2, oEqTE, oAll, oSum, oTuple, walkL, walkT, newL, ix0, ix1, ix2, ix3, ix4, cut1, inls_free fr]
    exact hq
  · rename_i e
    rw [if_neg e] at hq
    exact ⟨Nat.zero_le _, hq⟩
theorem w_size_of : ∀ (k : Nat) {n : Nat} {x : D} {S : Store} {Q : Q1} {W : Str → Store → Prop}, okT x = true → tidy x = true → dp x ≤ k → Q (.int (sz x)) S → Run T (n + k + 1) "size_of" [x] S Q W
  | 0, n, x, S, Q, W, h, ht, hd, hq => by
    have := dp_pos x
    omega
  | k + 1, n, x, S, Q, W, h, ht, hd, hq => by
    obtain ⟨p1, p2, p3, p4⟩ := parts_facts h ht
    refine wp_of fn_size_of rfl ?_
    try simp only [fresh, wSs, wS, wE, wEs, wC, asB, asI, List.map_cons, List.map_nil, List.replicate_succ, List.replicate_zero, List.append_nil, List.getElem?_cons_zero, List.getElem?_cons_succ, List.getElem?_nil, List.cons_append, List.nil_append, putT_n, putT_t, putTs_n, putTs_c, List.set_cons_zero, List.set_cons_succ, List.length_cons, List.length_nil, List.length_set, List.length_replicate, back, inl, inls, reduceIte, Nat.reduceAdd, Nat.reduceSub, Nat.reduceLT, Nat.reduceLeDiff, Nat.zero_add, wipe, true_and, and_true, Bool.true_eq_false, Bool.false_eq_true, List.set_set, List.take_length, take_set_length, Bool.not_true, Bool.not_false, Int.reduceToNat, Int.reduceLE, Int.reduceLT, Int.reduceNeg, D.free, frees, Bool.and_true, Bool.true_and, Bool.and_self, Nat.reduceLeDiff, decide_true, decide_false, oAddI, oAddS, oAddT, oAddL, oAddA, oSub, oMulI, oMulS, oPow, oFdiv, oMod, oNeg, oLt, oLe, oGt, oGe, oIsN, oNotN, oIsB, oNotB, oIxT, oIxL, oIxS, oCutT_L, oCutT_R, oCutL_R, oLenT, oLenL, oLenS, oMax2, oMin2, oInt1, oStr1, oIsi, oInS, oIn2, oInK, oIxK, oEqI, oEqS, oEqB, oNeB, oNeI, oNeE2, oEqTE, oAll, oSum, oTuple, walkL, walkT, newL, ix0, ix1, ix2, ix3, ix4, f_size_of, b_size_of]
    refine w_parts_of (n := n + k) h ht ?_
    try simp only [fresh, wSs, wS, wE, wEs, wC, asB, asI, List.map_cons, List.map_nil, List.replicate_succ, List.replicate_zero, List.append_nil, List.getElem?_cons_zero, List.getElem?_cons_succ, List.getElem?_nil, List.cons_append, List.nil_append, putT_n, putT_t, putTs_n, putTs_c, List.set_cons_zero, List.set_cons_succ, List.length_cons, List.length_nil, List.length_set, List.length_replicate, back, inl, inls, reduceIte, Nat.reduceAdd, Nat.reduceSub, Nat.reduceLT, Nat.reduceLeDiff, Nat.zero_add, wipe, true_and, and_true, Bool.true_eq_false, Bool.false_eq_true, List.set_set, List.take_length, take_set_length, Bool.not_true, Bool.not_false, Int.reduceToNat, Int.reduceLE, Int.reduceLT, Int.reduceNeg, D.free, frees, Bool.and_true, Bool.true_and, Bool.and_self, Nat.reduceLeDiff, decide_true, decide_false, oAddI, oAddS, oAddT, oAddL, oAddA, oSub, oMulI, oMulS, oPow, oFdiv, oMod, oNeg, oLt, oLe, oGt, oGe, oIsN, oNotN, oIsB, oNotB, oIxT, oIxL, oIxS, oCutT_L, oCutT_R, oCutL_R, oLenT, oLenL, oLenS, oMax2, oMin2, oInt1, oStr1, oIsi, oInS, oIn2, oInK, oIxK, oEqI, oEqS, oEqB, oNeB, oNeI, oNeE2, oEqTE, oAll, oSum, oTuple, walkL, walkT, newL, ix0, ix1, ix2, ix3, ix4, walkT]
    refine compW_map (fun p => .int (sz p)) trivial (partsOf x) [] (fun p hp R hR => ?_) (fun p hp => rfl) (by show 0 + _ ≤ 16777216; omega) ?_
    · try simp only [fresh, wSs, wS, wE, wEs, wC, asB, asI, List.map_cons, List.map_nil, List.replicate_succ, List.replicate_zero, List.append_nil, List.getElem?_cons_zero, List.getElem?_cons_succ, List.getElem?_nil, List.cons_append, List.nil_append, putT_n, putT_t, putTs_n, putTs_c, List.set_cons_zero, List.set_cons_succ, List.length_cons, List.length_nil, List.length_set, List.length_replicate, back, inl, inls, reduceIte, Nat.reduceAdd, Nat.reduceSub, Nat.reduceLT, Nat.reduceLeDiff, Nat.zero_add, wipe, true_and, and_true, Bool.true_eq_false, Bool.false_eq_true, List.set_set, List.take_length, take_set_length, Bool.not_true, Bool.not_false, Int.reduceToNat, Int.reduceLE, Int.reduceLT, Int.reduceNeg, D.free, frees, Bool.and_true, Bool.true_and, Bool.and_self, Nat.reduceLeDiff, decide_true, decide_false, oAddI, oAddS, oAddT, oAddL, oAddA, oSub, oMulI, oMulS, oPow, oFdiv, oMod, oNeg, oLt, oLe, oGt, oGe, oIsN, oNotN, oIsB, oNotB, oIxT, oIxL, oIxS, oCutT_L, oCutT_R, oCutL_R, oLenT, oLenL, oLenS, oMax2, oMin2, oInt1, oStr1, oIsi, oInS, oIn2, oInK, oIxK, oEqI, oEqS, oEqB, oNeB, oNeI, oNeE2, oEqTE, oAll, oSum, oTuple, walkL, walkT, newL, ix0, ix1, ix2, ix3, ix4, ce0_size_of]
      obtain ⟨q1, q2, q3⟩ := p1 p hp
      exact w_size_of k q1 q2 (by omega) hR
    · rw [List.nil_append]
      refine ⟨by rw [List.length_map]; show _ ≤ 16777216; omega, frees_of fun y hy => ?_, ?_⟩
      · obtain ⟨p, _, rfl⟩ := List.mem_map.mp hy
        rfl
      · try simp only [fresh, wSs, wS, wE, wEs, wC, asB, asI, List.map_cons, List.map_nil, List.replicate_succ, List.replicate_zero, List.append_nil, List.getElem?_cons_zero, List.getElem?_cons_succ, List.getElem?_nil, List.cons_append, List.nil_append, putT_n, putT_t, putTs_n, putTs_c, List.set_cons_zero, List.set_cons_succ, List.length_cons, List.length_nil, List.length_set, List.length_replicate, back, inl, inls, reduceIte, Nat.reduceAdd, Nat.reduceSub, Nat.reduceLT, Nat.reduceLeDiff, Nat.zero_add, wipe, true_and, and_true, Bool.true_eq_false, Bool.false_eq_true, List.set_set, List.take_length, take_set_length, Bool.not_true, Bool.not_false, Int.reduceToNat, Int.reduceLE, Int.reduceLT, Int.reduceNeg, D.free, frees, Bool.and_true, Bool.true_and, Bool.and_self, Nat.reduceLeDiff, decide_true, decide_false, oAddI, oAddS, oAddT, oAddL, oAddA, oSub, oMulI, oMulS, oPow, oFdiv, oMod, oNeg, oLt, oLe, oGt, oGe, oIsN, oNotN, oIsB, oNotB, oIxT, oIxL, oIxS, oCutT_L, oCutT_R, oCutL_R, oLenT, oLenL, oLenS, oMax2, oMin2, oInt1, oStr1, oIsi, oInS, oIn2, oInK, oIxK, oEqI, oEqS, oEqB, oNeB, oNeI, oNeE2, oEqTE, oAll, oSum, oTuple, walkL, walkT, newL, ix0, ix1, ix2, ix3, ix4]
        show (match intsOf ((partsOf x).map fun p => D.int (sz p)) with | some ns => _ | none => False)
        rw [ints_map (fun p => (sz p : Int))]
        try simp only [fresh, wSs, wS, wE, wEs, wC, asB, asI, List.map_cons, List.map_nil, List.replicate_succ, List.replicate_zero, List.append_nil, List.getElem?_cons_zero, List.getElem?_cons_succ, List.getElem?_nil, List.cons_append, List.nil_append, putT_n, putT_t, putTs_n, putTs_c, List.set_cons_zero, List.set_cons_succ, List.length_cons, List.length_nil, List.length_set, List.length_replicate, back, inl, inls, reduceIte, Nat.reduceAdd, Nat.reduceSub, Nat.reduceLT, Nat.reduceLeDiff, Nat.zero_add, wipe, true_and, and_true, Bool.true_eq_false, Bool.false_eq_true, List.set_set, List.take_length, take_set_length, Bool.not_true, Bool.not_false, Int.reduceToNat, Int.reduceLE, Int.reduceLT, Int.reduceNeg, D.free, frees, Bool.and_true, Bool.true_and, Bool.and_self, Nat.reduceLeDiff, decide_true, decide_false, oAddI, oAddS, oAddT, oAddL, oAddA, oSub, oMulI, oMulS, oPow, oFdiv, oMod, oNeg, oLt, oLe, oGt, oGe, oIsN, oNotN, oIsB, oNotB, oIxT, oIxL, oIxS, oCutT_L, oCutT_R, oCutL_R, oLenT, oLenL, oLenS, oMax2, oMin2, oInt1, oStr1, oIsi, oInS, oIn2, oInK, oIxK, oEqI, oEqS, oEqB, oNeB, oNeI, oNeE2, oEqTE, oAll, oSum, oTuple, walkL, walkT, newL, ix0, ix1, ix2, ix3, ix4]
        have e : ((partsOf x).map fun p => (sz p : Int)).sum = (((partsOf x).map sz).sum : Nat) := by
          generalize partsOf x = l
          induction l with
          | nil => rfl
          | cons p r ih => simp [ih]
        rw [e, show (1 : Int) + (((partsOf x).map sz).sum : Nat) = (sz x : Nat) by rw [p2]; omega]
        exact hq
theorem w_depth_of : ∀ (k : Nat) {n : Nat} {x : D} {S : Store} {Q : Q1} {W : Str → Store → Prop}, okT x = true → tidy x = true → dp x ≤ k → Q (.int (dp x)) S → Run T (n + k + 1) "depth_of" [x] S Q W
  | 0, n, x, S, Q, W, h, ht, hd, hq => by
    have := dp_pos x
    omega
  | k + 1, n, x, S, Q, W, h, ht, hd, hq => by
    obtain ⟨p1, p2, p3, p4⟩ := parts_facts h ht
    refine wp_of fn_depth_of rfl ?_
    try simp only [fresh, wSs, wS, wE, wEs, wC, asB, asI, List.map_cons, List.map_nil, List.replicate_succ, List.replicate_zero, List.append_nil, List.getElem?_cons_zero, List.getElem?_cons_succ, List.getElem?_nil, List.cons_append, List.nil_append, putT_n, putT_t, putTs_n, putTs_c, List.set_cons_zero, List.set_cons_succ, List.length_cons, List.length_nil, List.length_set, List.length_replicate, back, inl, inls, reduceIte, Nat.reduceAdd, Nat.reduceSub, Nat.reduceLT, Nat.reduceLeDiff, Nat.zero_add, wipe, true_and, and_true, Bool.true_eq_false, Bool.false_eq_true, List.set_set, List.take_length, take_set_length, Bool.not_true, Bool.not_false, Int.reduceToNat, Int.reduceLE, Int.reduceLT, Int.reduceNeg, D.free, frees, Bool.and_true, Bool.true_and, Bool.and_self, Nat.reduceLeDiff, decide_true, decide_false, oAddI, oAddS, oAddT, oAddL, oAddA, oSub, oMulI, oMulS, oPow, oFdiv, oMod, oNeg, oLt, oLe, oGt, oGe, oIsN, oNotN, oIsB, oNotB, oIxT, oIxL, oIxS, oCutT_L, oCutT_R, oCutL_R, oLenT, oLenL, oLenS, oMax2, oMin2, oInt1, oStr1, oIsi, oInS, oIn2, oInK, oIxK, oEqI, oEqS, oEqB, oNeB, oNeI, oNeE2, oEqTE, oAll, oSum, oTuple, walkL, walkT, newL, ix0, ix1, ix2, ix3, ix4, f_depth_of, b_depth_of]
    refine ⟨by decide, w_parts_of (n := n + k) h ht ?_⟩
    try simp only [fresh, wSs, wS, wE, wEs, wC, asB, asI, List.map_cons, List.map_nil, List.replicate_succ, List.replicate_zero, List.append_nil, List.getElem?_cons_zero, List.getElem?_cons_succ, List.getElem?_nil, List.cons_append, List.nil_append, putT_n, putT_t, putTs_n, putTs_c, List.set_cons_zero, List.set_cons_succ, List.length_cons, List.length_nil, List.length_set, List.length_replicate, back, inl, inls, reduceIte, Nat.reduceAdd, Nat.reduceSub, Nat.reduceLT, Nat.reduceLeDiff, Nat.zero_add, wipe, true_and, and_true, Bool.true_eq_false, Bool.false_eq_true, List.set_set, List.take_length, take_set_length, Bool.not_true, Bool.not_false, Int.reduceToNat, Int.reduceLE, Int.reduceLT, Int.reduceNeg, D.free, frees, Bool.and_true, Bool.true_and, Bool.and_self, Nat.reduceLeDiff, decide_true, decide_false, oAddI, oAddS, oAddT, oAddL, oAddA, oSub, oMulI, oMulS, oPow, oFdiv, oMod, oNeg, oLt, oLe, oGt, oGe, oIsN, oNotN, oIsB, oNotB, oIxT, oIxL, oIxS, oCutT_L, oCutT_R, oCutL_R, oLenT, oLenL, oLenS, oMax2, oMin2, oInt1, oStr1, oIsi, oInS, oIn2, oInK, oIxK, oEqI, oEqS, oEqB, oNeB, oNeI, oNeE2, oEqTE, oAll, oSum, oTuple, walkL, walkT, newL, ix0, ix1, ix2, ix3, ix4, walkT]
    refine compW_map (fun p => .int (dp p)) trivial (partsOf x) [] (fun p hp R hR => ?_) (fun p hp => rfl) (by show 0 + _ ≤ 16777216; omega) ?_
    · try simp only [fresh, wSs, wS, wE, wEs, wC, asB, asI, List.map_cons, List.map_nil, List.replicate_succ, List.replicate_zero, List.append_nil, List.getElem?_cons_zero, List.getElem?_cons_succ, List.getElem?_nil, List.cons_append, List.nil_append, putT_n, putT_t, putTs_n, putTs_c, List.set_cons_zero, List.set_cons_succ, List.length_cons, List.length_nil, List.length_set, List.length_replicate, back, inl, inls, reduceIte, Nat.reduceAdd, Nat.reduceSub, Nat.reduceLT, Nat.reduceLeDiff, Nat.zero_add, wipe, true_and, and_true, Bool.true_eq_false, Bool.false_eq_true, List.set_set, List.take_length, take_set_length, Bool.not_true, Bool.not_false, Int.reduceToNat, Int.reduceLE, Int.reduceLT, Int.reduceNeg, D.free, frees, Bool.and_true, Bool.true_and, Bool.and_self, Nat.reduceLeDiff, decide_true, decide_false, oAddI, oAddS, oAddT, oAddL, oAddA, oSub, oMulI, oMulS, oPow, oFdiv, oMod, oNeg, oLt, oLe, oGt, oGe, oIsN, oNotN, oIsB, oNotB, oIxT, oIxL, oIxS, oCutT_L, oCutT_R, oCutL_R, oLenT, oLenL, oLenS, oMax2, oMin2, oInt1, oStr1, oIsi, oInS, oIn2, oInK, oIxK, oEqI, oEqS, oEqB, oNeB, oNeI, oNeE2, oEqTE, oAll, oSum, oTuple, walkL, walkT, newL, ix0, ix1, ix2, ix3, ix4, ce0_depth_of]
      obtain ⟨q1, q2, q3⟩ := p1 p hp
      exact w_depth_of k q1 q2 (by omega) hR
    · rw [List.nil_append]
      have fr : frees ((partsOf x).map fun p => D.int (dp p)) = true := frees_of fun y hy => by
        obtain ⟨p, _, rfl⟩ := List.mem_map.mp hy
        rfl
      refine ⟨by rw [List.length_map]; show _ ≤ 16777216; omega, fr, ?_⟩
      refine ⟨by rw [List.length_map]; show _ ≤ 16777216; omega, fr, ?_⟩
      show (match intsOf (D.int 0 :: (partsOf x).map fun p => D.int (dp p)) with | some ns => _ | none => False)
      have e : intsOf (D.int 0 :: (partsOf x).map fun p => D.int (dp p)) = some (0 :: (partsOf x).map fun p => (dp p : Int)) := by
        show (intsOf ((partsOf x).map fun p => D.int (dp p))).map (0 :: ·) = _
        rw [ints_map (fun p => (dp p : Int))]
        rfl
      rw [e]
      refine ⟨by rw [List.length_cons]; omega, fun m hm hle => ?_⟩
      try simp only [fresh, wSs, wS, wE, wEs, wC, asB, asI, List.map_cons, List.map_nil, List.replicate_succ, List.replicate_zero, List.append_nil, List.getElem?_cons_zero, List.getElem?_cons_succ, List.getElem?_nil, List.cons_append, List.nil_append, putT_n, putT_t, putTs_n, putTs_c, List.set_cons_zero, List.set_cons_succ, List.length_cons, List.length_nil, List.length_set, List.length_replicate, back, inl, inls, reduceIte, Nat.reduceAdd, Nat.reduceSub, Nat.reduceLT, Nat.reduceLeDiff, Nat.zero_add, wipe, true_and, and_true, Bool.true_eq_false, Bool.false_eq_true, List.set_set, List.take_length, take_set_length, Bool.not_true, Bool.not_false, Int.reduceToNat, Int.reduceLE, Int.reduceLT, Int.reduceNeg, D.free, frees, Bool.and_true, Bool.true_and, Bool.and_self, Nat.reduceLeDiff, decide_true, decide_false, oAddI, oAddS, oAddT, oAddL, oAddA, oSub, oMulI, oMulS, oPow, oFdiv, oMod, oNeg, oLt, oLe, oGt, oGe, oIsN, oNotN, oIsB, oNotB, oIxT, oIxL, oIxS, oCutT_L, oCutT_R, oCutL_R, oLenT, oLenL, oLenS, oMax2, oMin2, oInt1, oStr1, oIsi, oInS, oIn2, oInK, oIxK, oEqI, oEqS, oEqB, oNeB, oNeI, oNeE2, oEqTE, oAll, oSum, oTuple, walkL, walkT, newL, ix0, ix1, ix2, ix3, ix4]
      have em : (1 : Int) + m = (dp x : Nat) := by
        rw [p3]
        have up : dps (partsOf x) ≤ m.toNat := (dps_le _ _).mpr fun p hp => by
          have := hle (dp p : Int) (List.mem_cons_of_mem _ (List.mem_map.mpr ⟨p, hp, rfl⟩))
          omega
        have m0 : 0 ≤ m := hle 0 List.mem_cons_self
        have lo : m.toNat ≤ dps (partsOf x) := by
          rcases List.mem_cons.mp hm with rfl | hm
          · exact Nat.zero_le _
          · obtain ⟨p, hp, rfl⟩ := List.mem_map.mp hm
            have := (dps_le (partsOf x) (dps (partsOf x))).mp (Nat.le_refl _) p hp
            simpa using this
        omega
      rw [em]
      exact hq
theorem w_is_term {n : Nat} {x : D} {S : Store} {Q : Q1} {W : Str → Store → Prop} (hp : tidy x = true) (hq : Q (.bl (goodT x)) S) : Run T (n + 6) "is_term" [x] S Q W := by
  refine wp_of fn_is_term rfl ?_
  try simp only [fresh, wSs, wS, wE, wEs, wC, asB, asI, List.map_cons, List.map_nil, List.replicate_succ, List.replicate_zero, List.append_nil, List.getElem?_cons_zero, List.getElem?_cons_succ, List.getElem?_nil, List.cons_append, List.nil_append, putT_n, putT_t, putTs_n, putTs_c, List.set_cons_zero, List.set_cons_succ, List.length_cons, List.length_nil, List.length_set, List.length_replicate, back, inl, inls, reduceIte, Nat.reduceAdd, Nat.reduceSub, Nat.reduceLT, Nat.reduceLeDiff, Nat.zero_add, wipe, true_and, and_true, Bool.true_eq_false, Bool.false_eq_true, List.set_set, List.take_length, take_set_length, Bool.not_true, Bool.not_false, Int.reduceToNat, Int.reduceLE, Int.reduceLT, Int.reduceNeg, D.free, frees, Bool.and_true, Bool.true_and, Bool.and_self, Nat.reduceLeDiff, decide_true, decide_false, oAddI, oAddS, oAddT, oAddL, oAddA, oSub, oMulI, oMulS, oPow, oFdiv, oMod, oNeg, oLt, oLe, oGt, oGe, oIsN, oNotN, oIsB, oNotB, oIxT, oIxL, oIxS, oCutT_L, oCutT_R, oCutL_R, oLenT, oLenL, oLenS, oMax2, oMin2, oInt1, oStr1, oIsi, oInS, oIn2, oInK, oIxK, oEqI, oEqS, oEqB, oNeB, oNeI, oNeE2, oEqTE, oAll, oSum, oTuple, walkL, walkT, newL, ix0, ix1, ix2, ix3, ix4, f_is_term, b_is_term]
  refine w_is_term_form hp ?_
  try simp only [fresh, wSs, wS, wE, wEs, wC, asB, asI, List.map_cons, List.map_nil, List.replicate_succ, List.replicate_zero, List.append_nil, List.getElem?_cons_zero, List.getElem?_cons_succ, List.getElem?_nil, List.cons_append, List.nil_append, putT_n, putT_t, putTs_n, putTs_c, List.set_cons_zero, List.set_cons_succ, List.length_cons, List.length_nil, List.length_set, List.length_replicate, back, inl, inls, reduceIte, Nat.reduceAdd, Nat.reduceSub, Nat.reduceLT, Nat.reduceLeDiff, Nat.zero_add, wipe, true_and, and_true, Bool.true_eq_false, Bool.false_eq_true, List.set_set, List.take_length, take_set_length, Bool.not_true, Bool.not_false, Int.reduceToNat, Int.reduceLE, Int.reduceLT, Int.reduceNeg, D.free, frees, Bool.and_true, Bool.true_and, Bool.and_self, Nat.reduceLeDiff, decide_true, decide_false, oAddI, oAddS, oAddT, oAddL, oAddA, oSub, oMulI, oMulS, oPow, oFdiv, oMod, oNeg, oLt, oLe, oGt, oGe, oIsN, oNotN, oIsB, oNotB, oIxT, oIxL, oIxS, oCutT_L, oCutT_R, oCutL_R, oLenT, oLenL, oLenS, oMax2, oMin2, oInt1, oStr1, oIsi, oInS, oIn2, oInK, oIxK, oEqI, oEqS, oEqB, oNeB, oNeI, oNeE2, oEqTE, oAll, oSum, oTuple, walkL, walkT, newL, ix0, ix1, ix2, ix3, ix4]
  exact hq
theorem w_need_term {n : Nat} {x : D} {S : Store} {Q : Q1} {W : Str → Store → Prop} (hp : tidy x = true) (hq : goodT x = true → Q .non S) (hw : goodT x = false → W "BadTerm" S) : Run T (n + 6) "need_term" [x] S Q W := by
  refine wp_of fn_need_term rfl ?_
  try simp only [fresh, wSs, wS, wE, wEs, wC, asB, asI, List.map_cons, List.map_nil, List.replicate_succ, List.replicate_zero, List.append_nil, List.getElem?_cons_zero, List.getElem?_cons_succ, List.getElem?_nil, List.cons_append, List.nil_append, putT_n, putT_t, putTs_n, putTs_c, List.set_cons_zero, List.set_cons_succ, List.length_cons, List.length_nil, List.length_set, List.length_replicate, back, inl, inls, reduceIte, Nat.reduceAdd, Nat.reduceSub, Nat.reduceLT, Nat.reduceLeDiff, Nat.zero_add, wipe, true_and, and_true, Bool.true_eq_false, Bool.false_eq_true, List.set_set, List.take_length, take_set_length, Bool.not_true, Bool.not_false, Int.reduceToNat, Int.reduceLE, Int.reduceLT, Int.reduceNeg, D.free, frees, Bool.and_true, Bool.true_and, Bool.and_self, Nat.reduceLeDiff, decide_true, decide_false, oAddI, oAddS, oAddT, oAddL, oAddA, oSub, oMulI, oMulS, oPow, oFdiv, oMod, oNeg, oLt, oLe, oGt, oGe, oIsN, oNotN, oIsB, oNotB, oIxT, oIxL, oIxS, oCutT_L, oCutT_R, oCutL_R, oLenT, oLenL, oLenS, oMax2, oMin2, oInt1, oStr1, oIsi, oInS, oIn2, oInK, oIxK, oEqI, oEqS, oEqB, oNeB, oNeI, oNeE2, oEqTE, oAll, oSum, oTuple, walkL, walkT, newL, ix0, ix1, ix2, ix3, ix4, f_need_term, b_need_term]
  refine w_is_term_form hp ?_
  try simp only [fresh, wSs, wS, wE, wEs, wC, asB, asI, List.map_cons, List.map_nil, List.replicate_succ, List.replicate_zero, List.append_nil, List.getElem?_cons_zero, List.getElem?_cons_succ, List.getElem?_nil, List.cons_append, List.nil_append, putT_n, putT_t, putTs_n, putTs_c, List.set_cons_zero, List.set_cons_succ, List.length_cons, List.length_nil, List.length_set, List.length_replicate, back, inl, inls, reduceIte, Nat.reduceAdd, Nat.reduceSub, Nat.reduceLT, Nat.reduceLeDiff, Nat.zero_add, wipe, true_and, and_true, Bool.true_eq_false, Bool.false_eq_true, List.set_set, List.take_length, take_set_length, Bool.not_true, Bool.not_false, Int.reduceToNat, Int.reduceLE, Int.reduceLT, Int.reduceNeg, D.free, frees, Bool.and_true, Bool.true_and, Bool.and_self, Nat.reduceLeDiff, decide_true, decide_false, oAddI, oAddS, oAddT, oAddL, oAddA, oSub, oMulI, oMulS, oPow, oFdiv, oMod, oNeg, oLt, oLe, oGt, oGe, oIsN, oNotN, oIsB, oNotB, oIxT, oIxL, oIxS, oCutT_L, oCutT_R, oCutL_R, oLenT, oLenL, oLenS, oMax2, oMin2, oInt1, oStr1, oIsi, oInS, oIn2, oInK, oIxK, oEqI, oEqS, oEqB, oNeB, oNeI, oNeE2, oEqTE, oAll, oSum, oTuple, walkL, walkT, newL, ix0, ix1, ix2, ix3, ix4]
  cases e : goodT x with
  | true => exact hq e
  | false => exact hw e
theorem goodT_ok {x : D} (h : goodT x = true) : okT x = true ∧ sz x ≤ 2000 ∧ dp x ≤ 60 := by
  unfold goodT at h
  simpa [and_assoc] using h
theorem w_size {n : Nat} {x : D} {S : Store} {Q : Q1} {W : Str → Store → Prop} (hp : tidy x = true) (hq : goodT x = true → Q (.int (sz x)) S) (hw : goodT x = false → W "BadTerm" S) : Run T (n + 70) "size" [x] S Q W := by
  refine wp_of fn_size rfl ?_
  try simp only [fresh, wSs, wS, wE, wEs, wC, asB, asI, List.map_cons, List.map_nil, List.replicate_succ, List.replicate_zero, List.append_nil, List.getElem?_cons_zero, List.getElem?_cons_succ, List.getElem?_nil, List.cons_append, List.nil_append, putT_n, putT_t, putTs_n, putTs_c, List.set_cons_zero, List.set_cons_succ, List.length_cons, List.length_nil, List.length_set, List.length_replicate, back, inl, inls, reduceIte, Nat.reduceAdd, Nat.reduceSub, Nat.reduceLT, Nat.reduceLeDiff, Nat.zero_add, wipe, true_and, and_true, Bool.true_eq_false, Bool.false_eq_true, List.set_set, List.take_length, take_set_length, Bool.not_true, Bool.not_false, Int.reduceToNat, Int.reduceLE, Int.reduceLT, Int.reduceNeg, D.free, frees, Bool.and_true, Bool.true_and, Bool.and_self, Nat.reduceLeDiff, decide_true, decide_false, oAddI, oAddS, oAddT, oAddL, oAddA, oSub, oMulI, oMulS, oPow, oFdiv, oMod, oNeg, oLt, oLe, oGt, oGe, oIsN, oNotN, oIsB, oNotB, oIxT, oIxL, oIxS, oCutT_L, oCutT_R, oCutL_R, oLenT, oLenL, oLenS, oMax2, oMin2, oInt1, oStr1, oIsi, oInS, oIn2, oInK, oIxK, oEqI, oEqS, oEqB, oNeB, oNeI, oNeE2, oEqTE, oAll, oSum, oTuple, walkL, walkT, newL, ix0, ix1, ix2, ix3, ix4, f_size, b_size]
  refine w_need_term (n := n + 63) hp (fun h => ?_) (fun h => ?_)
  · obtain ⟨h1, h2, h3⟩ := goodT_ok h
    refine w_size_of (n := n + 8) 60 h1 hp h3 ?_
    try simp only [fresh, wSs, wS, wE, wEs, wC, asB, asI, List.map_cons, List.map_nil, List.replicate_succ, List.replicate_zero, List.append_nil, List.getElem?_cons_zero, List.getElem?_cons_succ, List.getElem?_nil, List.cons_append, List.nil_append, putT_n, putT_t, putTs_n, putTs_c, List.set_cons_zero, List.set_cons_succ, List.length_cons, List.length_nil, List.length_set, List.length_replicate, back, inl, inls, reduceIte, Nat.reduceAdd, Nat.reduceSub, Nat.reduceLT, Nat.reduceLeDiff, Nat.zero_add, wipe, true_and, and_true, Bool.true_eq_false, Bool.false_eq_true, List.set_set, List.take_length, take_set_length, Bool.not_true, Bool.not_false, Int.reduceToNat, Int.reduceLE, Int.reduceLT, Int.reduceNeg, D.free, frees, Bool.and_true, Bool.true_and, Bool.and_self, Nat.reduceLeDiff, decide_true, decide_false, oAddI, oAddS, oAddT, oAddL, oAddA, oSub, oMulI, oMulS, oPow, oFdiv, oMod, oNeg, oLt, oLe, oGt, oGe, oIsN, oNotN, oIsB, oNotB, oIxT, oIxL, oIxS, oCutT_L, oCutT_R, oCutL_R, oLenT, oLenL, oLenS, oMax2, oMin2, oInt1, oStr1, oIsi, oInS, oIn2, oInK, oIxK, oEqI, oEqS, oEqB, oNeB, oNeI, oNeE2, oEqTE, oAll, oSum, oTuple, walkL, walkT, newL, ix0, ix1, ix2, ix3, ix4]
    exact hq h
  · try simp only [fresh, wSs, wS, wE, wEs, wC, asB, asI, List.map_cons, List.map_nil, List.replicate_succ, List.replicate_zero, List.append_nil, List.getElem?_cons_zero, List.getElem?_cons_succ, List.getElem?_nil, List.cons_append, List.nil_append, putT_n, putT_t, putTs_n, putTs_c, List.set_cons_zero, List.set_cons_succ, List.length_cons, List.length_nil, List.length_set, List.length_replicate, back, inl, inls, reduceIte, Nat.reduceAdd, Nat.reduceSub, Nat.reduceLT, Nat.reduceLeDiff, Nat.zero_add, wipe, true_and, and_true, Bool.true_eq_false, Bool.false_eq_true, List.set_set, List.take_length, take_set_length, Bool.not_true, Bool.not_false, Int.reduceToNat, Int.reduceLE, Int.reduceLT, Int.reduceNeg, D.free, frees, Bool.and_true, Bool.true_and, Bool.and_self, Nat.reduceLeDiff, decide_true, decide_false, oAddI, oAddS, oAddT, oAddL, oAddA, oSub, oMulI, oMulS, oPow, oFdiv, oMod, oNeg, oLt, oLe, oGt, oGe, oIsN, oNotN, oIsB, oNotB, oIxT, oIxL, oIxS, oCutT_L, oCutT_R, oCutL_R, oLenT, oLenL, oLenS, oMax2, oMin2, oInt1, oStr1, oIsi, oInS, oIn2, oInK, oIxK, oEqI, oEqS, oEqB, oNeB, oNeI, oNeE2, oEqTE, oAll, oSum, oTuple, walkL, walkT, newL, ix0, ix1, ix2, ix3, ix4]
    exact hw h
theorem w_depth {n : Nat} {x : D} {S : Store} {Q : Q1} {W : Str → Store → Prop} (hp : tidy x = true) (hq : goodT x = true → Q (.int (dp x)) S) (hw : goodT x = false → W "BadTerm" S) : Run T (n + 70) "depth" [x] S Q W := by
  refine wp_of fn_depth rfl ?_
  try simp only [fresh, wSs, wS, wE, wEs, wC, asB, asI, List.map_cons, List.map_nil, List.replicate_succ, List.replicate_zero, List.append_nil, List.getElem?_cons_zero, List.getElem?_cons_succ, List.getElem?_nil, List.cons_append, List.nil_append, putT_n, putT_t, putTs_n, putTs_c, List.set_cons_zero, List.set_cons_succ, List.length_cons, List.length_nil, List.length_set, List.length_replicate, back, inl, inls, reduceIte, Nat.reduceAdd, Nat.reduceSub, Nat.reduceLT, Nat.reduceLeDiff, Nat.zero_add, wipe, true_and, and_true, Bool.true_eq_false, Bool.false_eq_true, List.set_set, List.take_length, take_set_length, Bool.not_true, Bool.not_false, Int.reduceToNat, Int.reduceLE, Int.reduceLT, Int.reduceNeg, D.free, frees, Bool.and_true, Bool.true_and, Bool.and_self, Nat.reduceLeDiff, decide_true, decide_false, oAddI, oAddS, oAddT, oAddL, oAddA, oSub, oMulI, oMulS, oPow, oFdiv, oMod, oNeg, oLt, oLe, oGt, oGe, oIsN, oNotN, oIsB, oNotB, oIxT, oIxL, oIxS, oCutT_L, oCutT_R, oCutL_R, oLenT, oLenL, oLenS, oMax2, oMin2, oInt1, oStr1, oIsi, oInS, oIn2, oInK, oIxK, oEqI, oEqS, oEqB, oNeB, oNeI, oNeE2, oEqTE, oAll, oSum, oTuple, walkL, walkT, newL, ix0, ix1, ix2, ix3, ix4, f_depth, b_depth]
  refine w_need_term (n := n + 63) hp (fun h => ?_) (fun h => ?_)
  · obtain ⟨h1, h2, h3⟩ := goodT_ok h
    refine w_depth_of (n := n + 8) 60 h1 hp h3 ?_
    try simp only [fresh, wSs, wS, wE, wEs, wC, asB, asI, List.map_cons, List.map_nil, List.replicate_succ, List.replicate_zero, List.append_nil, List.getElem?_cons_zero, List.getElem?_cons_succ, List.getElem?_nil, List.cons_append, List.nil_append, putT_n, putT_t, putTs_n, putTs_c, List.set_cons_zero, List.set_cons_succ, List.length_cons, List.length_nil, List.length_set, List.length_replicate, back, inl, inls, reduceIte, Nat.reduceAdd, Nat.reduceSub, Nat.reduceLT, Nat.reduceLeDiff, Nat.zero_add, wipe, true_and, and_true, Bool.true_eq_false, Bool.false_eq_true, List.set_set, List.take_length, take_set_length, Bool.not_true, Bool.not_false, Int.reduceToNat, Int.reduceLE, Int.reduceLT, Int.reduceNeg, D.free, frees, Bool.and_true, Bool.true_and, Bool.and_self, Nat.reduceLeDiff, decide_true, decide_false, oAddI, oAddS, oAddT, oAddL, oAddA, oSub, oMulI, oMulS, oPow, oFdiv, oMod, oNeg, oLt, oLe, oGt, oGe, oIsN, oNotN, oIsB, oNotB, oIxT, oIxL, oIxS, oCutT_L, oCutT_R, oCutL_R, oLenT, oLenL, oLenS, oMax2, oMin2, oInt1, oStr1, oIsi, oInS, oIn2, oInK, oIxK, oEqI, oEqS, oEqB, oNeB, oNeI, oNeE2, oEqTE, oAll, oSum, oTuple, walkL, walkT, newL, ix0, ix1, ix2, ix3, ix4]
    exact hq h
  · try simp only [fresh, wSs, wS, wE, wEs, wC, asB, asI, List.map_cons, List.map_nil, List.replicate_succ, List.replicate_zero, List.append_nil, List.getElem?_cons_zero, List.getElem?_cons_succ, List.getElem?_nil, List.cons_append, List.nil_append, putT_n, putT_t, putTs_n, putTs_c, List.set_cons_zero, List.set_cons_succ, List.length_cons, List.length_nil, List.length_set, List.length_replicate, back, inl, inls, reduceIte, Nat.reduceAdd, Nat.reduceSub, Nat.reduceLT, Nat.reduceLeDiff, Nat.zero_add, wipe, true_and, and_true, Bool.true_eq_false, Bool.false_eq_true, List.set_set, List.take_length, take_set_length, Bool.not_true, Bool.not_false, Int.reduceToNat, Int.reduceLE, Int.reduceLT, Int.reduceNeg, D.free, frees, Bool.and_true, Bool.true_and, Bool.and_self, Nat.reduceLeDiff, decide_true, decide_false, oAddI, oAddS, oAddT, oAddL, oAddA, oSub, oMulI, oMulS, oPow, oFdiv, oMod, oNeg, oLt, oLe, oGt, oGe, oIsN, oNotN, oIsB, oNotB, oIxT, oIxL, oIxS, oCutT_L, oCutT_R, oCutL_R, oLenT, oLenL, oLenS, oMax2, oMin2, oInt1, oStr1, oIsi, oInS, oIn2, oInK, oIxK, oEqI, oEqS, oEqB, oNeB, oNeI, oNeE2, oEqTE, oAll, oSum, oTuple, walkL, walkT, newL, ix0, ix1, ix2, ix3, ix4]
    exact hw h
end K01
/-! K01pg: what the law draws. -/
namespace K01
open Y
section
variable {n i N : Nat} {S : Store} {Q : Q1} {W : Str → Store → Prop}
theorem dr {k : Int} (hf : FeedAt S i (N + 1)) (hk : 0 < k) (hk2 : k < 340282366920938463463374607431768211456) (h : ∀ (r : Int) (o : O), 0 ≤ r → r < k → feedO N o → Q (.int r) (S.set i o)) : Run T (n + 1) "_law_draw" [.loc i, .int k] S Q W := w_draw (by rfl) hf hk hk2 h
theorem oneL {xs : List D} (hf : FeedAt S i (N + 1)) (hk : 0 < xs.length) (hk2 : xs.length < 100000) (hfr : frees xs = true) (h : ∀ (x : D) (o : O), x ∈ xs → feedO N o → Q x (S.set i o)) : Run T (n + 2) "_law_one" [.loc i, .lst xs] S Q W := w_oneL (by rfl) (by rfl) hf hk hk2 hfr h
theorem oneS {x : Str} (hf : FeedAt S i (N + 1)) (hk : 0 < x.length) (hk2 : x.length < 100000) (h : ∀ (c : Nat) (o : O), c ∈ x.cps.toList → feedO N o → Q (.str ⟨#[c]⟩) (S.set i o)) : Run T (n + 2) "_law_one" [.loc i, .str x] S Q W := w_oneS (by rfl) (by rfl) hf hk hk2 h
theorem str_app (a b : Str) : (a ++ b).cps.toList = a.cps.toList ++ b.cps.toList := by
  show (a.cps ++ b.cps).toList = _
  simp
theorem str_len_app (a b : Str) : (a ++ b).length = a.length + b.length := by
  rw [len_cps, len_cps, len_cps, str_app, List.length_append]
theorem sgn_of {c : Nat} (h : c ∈ ("abcdefghijklmnopqrstuvwxyz" ++ "0123456789" : Str).cps.toList) : sgn c = true := by
  rw [str_app] at h
  unfold sgn
  rcases List.mem_append.mp h with h | h
  · rw [show lets.contains c = true from List.contains_iff_mem.mpr h]; rfl
  · rw [show figs.contains c = true from List.contains_iff_mem.mpr h]; exact Bool.or_true _
theorem wordL_app {l : List Nat} {c : Nat} (h : wordL l = true) (hl : l.length < 12) (hc : sgn c = true) : wordL (l ++ [c]) = true := by
  cases l with
  | nil => cases h
  | cons a r =>
    have h : (decide (r.length + 1 ≤ 12) && lets.contains a && (a :: r).all sgn) = true := h
    simp only [Bool.and_eq_true] at h
    show (decide ((r ++ [c]).length + 1 ≤ 12) && lets.contains a && (a :: (r ++ [c])).all sgn) = true
    rw [List.length_cons] at hl
    rw [decide_eq_true (by rw [List.length_append, List.length_singleton]; omega), h.1.2, ← List.cons_append, List.all_append, h.2]
    simp [hc]
theorem w_word (hf : FeedAt S i (N + 13)) (hq : ∀ (w : Str) (o : O), wordL w.cps.toList = true → w.length ≤ 12 → feedO N o → Q (.str w) (S.set i o)) : Run T (n + 3) "_law_word" [.loc i] S Q W := by
  have hi := hf.lt
  refine wp_of fn__law_word rfl ?_
  try simp only [fresh, wSs, wS, wE, wEs, wC, asB, asI, List.map_cons, List.map_nil, List.replicate_succ, List.replicate_zero, List.append_nil, List.getElem?_cons_zero, List.getElem?_cons_succ, List.getElem?_nil, List.cons_append, List.nil_append, putT_n, putT_t, putTs_n, putTs_c, List.set_cons_zero, List.set_cons_succ, List.length_cons, List.length_nil, List.length_set, List.length_replicate, back, inl, inls, reduceIte, Nat.reduceAdd, Nat.reduceSub, Nat.reduceLT, Nat.reduceLeDiff, Nat.zero_add, wipe, true_and, and_true, Bool.true_eq_false, Bool.false_eq_true, List.set_set, List.take_length, take_set_length, Bool.not_true, Bool.not_false, Int.reduceToNat, Int.reduceLE, Int.reduceLT, Int.reduceNeg, D.free, frees, Bool.and_true, Bool.true_and, Bool.and_self, Nat.reduceLeDiff, decide_true, decide_false, oAddI, oAddS, oAddT, oAddL, oAddA, oSub, oMulI, oMulS, oPow, oFdiv, oMod, oNeg, oLt, oLe, oGt, oGe, oIsN, oNotN, oIsB, oNotB, oIxT, oIxL, oIxS, oCutT_L, oCutT_R, oCutL_R, oLenT, oLenL, oLenS, oMax2, oMin2, oInt1, oStr1, oIsi, oInS, oIn2, oInK, oIxK, oEqI, oEqS, oEqB, oNeB, oNeI, oNeE2, oEqTE, oAll, oSum, oTuple, walkL, walkT, newL, ix0, ix1, ix2, ix3, ix4, f__law_word, b__law_word]
  refine oneS (N := N + 12) hf (by decide) (by decide) fun c o hc ho => ?_
  try simp only [fresh, wSs, wS, wE, wEs, wC, asB, asI, List.map_cons, List.map_nil, List.replicate_succ, List.replicate_zero, List.append_nil, List.getElem?_cons_zero, List.getElem?_cons_succ, List.getElem?_nil, List.cons_append, List.nil_append, putT_n, putT_t, putTs_n, putTs_c, List.set_cons_zero, List.set_cons_succ, List.length_cons, List.length_nil, List.length_set, List.length_replicate, back, inl, inls, reduceIte, Nat.reduceAdd, Nat.reduceSub, Nat.reduceLT, Nat.reduceLeDiff, Nat.zero_add, wipe, true_and, and_true, Bool.true_eq_false, Bool.false_eq_true, List.set_set, List.take_length, take_set_length, Bool.not_true, Bool.not_false, Int.reduceToNat, Int.reduceLE, Int.reduceLT, Int.reduceNeg, D.free, frees, Bool.and_true, Bool.true_and, Bool.and_self, Nat.reduceLeDiff, decide_true, decide_false, oAddI, oAddS, oAddT, oAddL, oAddA, oSub, oMulI, oMulS, oPow, oFdiv, oMod, oNeg, oLt, oLe, oGt, oGe, oIsN, oNotN, oIsB, oNotB, oIxT, oIxL, oIxS, oCutT_L, oCutT_R, oCutL_R, oLenT, oLenL, oLenS, oMax2, oMin2, oInt1, oStr1, oIsi, oInS, oIn2, oInK, oIxK, oEqI, oEqS, oEqB, oNeB, oNeI, oNeE2, oEqTE, oAll, oSum, oTuple, walkL, walkT, newL, ix0, ix1, ix2, ix3, ix4]
  refine ⟨by decide, oneL (N := N + 11) (feedAt hi ho) (by decide) (by decide) (by rfl) fun x o2 hx ho2 => ?_⟩
  obtain ⟨r, rfl, hr⟩ : ∃ r : Nat, x = .int r ∧ r ≤ 11 := by
    simp at hx
    rcases hx with rfl | rfl | rfl | rfl | rfl | rfl
    · exact ⟨0, rfl, by decide⟩
    · exact ⟨1, rfl, by decide⟩
    · exact ⟨2, rfl, by decide⟩
    · exact ⟨4, rfl, by decide⟩
    · exact ⟨10, rfl, by decide⟩
    · exact ⟨11, rfl, by decide⟩
  try simp only [fresh, wSs, wS, wE, wEs, wC, asB, asI, List.map_cons, List.map_nil, List.replicate_succ, List.replicate_zero, List.append_nil, List.getElem?_cons_zero, List.getElem?_cons_succ, List.getElem?_nil, List.cons_append, List.nil_append, putT_n, putT_t, putTs_n, putTs_c, List.set_cons_zero, List.set_cons_succ, List.length_cons, List.length_nil, List.length_set, List.length_replicate, back, inl, inls, reduceIte, Nat.reduceAdd, Nat.reduceSub, Nat.reduceLT, Nat.reduceLeDiff, Nat.zero_add, wipe, true_and, and_true, Bool.true_eq_false, Bool.false_eq_true, List.set_set, List.take_length, take_set_length, Bool.not_true, Bool.not_false, Int.reduceToNat, Int.reduceLE, Int.reduceLT, Int.reduceNeg, D.free, frees, Bool.and_true, Bool.true_and, Bool.and_self, Nat.reduceLeDiff, decide_true, decide_false, oAddI, oAddS, oAddT, oAddL, oAddA, oSub, oMulI, oMulS, oPow, oFdiv, oMod, oNeg, oLt, oLe, oGt, oGe, oIsN, oNotN, oIsB, oNotB, oIxT, oIxL, oIxS, oCutT_L, oCutT_R, oCutL_R, oLenT, oLenL, oLenS, oMax2, oMin2, oInt1, oStr1, oIsi, oInS, oIn2, oInK, oIxK, oEqI, oEqS, oEqB, oNeB, oNeI, oNeE2, oEqTE, oAll, oSum, oTuple, walkL, walkT, newL, ix0, ix1, ix2, ix3, ix4, walk2 (show (0 : Int) ≤ (r : Int) by omega) (show (r : Int) < 4611686018427387904 by omega)]
  refine ⟨by decide, forW_inv (fun rest σ S' => ∃ (w : Str) (x3 : Option D) (o : O), σ = [some (.loc i), some (.str "abcdefghijklmnopqrstuvwxyz"), some (.str w), x3] ∧ S' = S.set i o ∧ feedO (N + rest.length) o ∧ wordL w.cps.toList = true ∧ w.length + rest.length ≤ 12) (fun _ _ _ _ => trivial) (fun σ S' h => ?_) (fun x rest σ S' K h hK => ?_) _ _ _ ⟨⟨#[c]⟩, none, o2, rfl, rfl, ?_, ?_, ?_⟩⟩
  · obtain ⟨w, x3, o3, rfl, rfl, h1, h2, h3⟩ := h
    try simp only [fresh, wSs, wS, wE, wEs, wC, asB, asI, List.map_cons, List.map_nil, List.replicate_succ, List.replicate_zero, List.append_nil, List.getElem?_cons_zero, List.getElem?_cons_succ, List.getElem?_nil, List.cons_append, List.nil_append, putT_n, putT_t, putTs_n, putTs_c, List.set_cons_zero, List.set_cons_succ, List.length_cons, List.length_nil, List.length_set, List.length_replicate, back, inl, inls, reduceIte, Nat.reduceAdd, Nat.reduceSub, Nat.reduceLT, Nat.reduceLeDiff, Nat.zero_add, wipe, true_and, and_true, Bool.true_eq_false, Bool.false_eq_true, List.set_set, List.take_length, take_set_length, Bool.not_true, Bool.not_false, Int.reduceToNat, Int.reduceLE, Int.reduceLT, Int.reduceNeg, D.free, frees, Bool.and_true, Bool.true_and, Bool.and_self, Nat.reduceLeDiff, decide_true, decide_false, oAddI, oAddS, oAddT, oAddL, oAddA, oSub, oMulI, oMulS, oPow, oFdiv, oMod, oNeg, oLt, oLe, oGt, oGe, oIsN, oNotN, oIsB, oNotB, oIxT, oIxL, oIxS, oCutT_L, oCutT_R, oCutL_R, oLenT, oLenL, oLenS, oMax2, oMin2, oInt1, oStr1, oIsi, oInS, oIn2, oInK, oIxK, oEqI, oEqS, oEqB, oNeB, oNeI, oNeE2, oEqTE, oAll, oSum, oTuple, walkL, walkT, newL, ix0, ix1, ix2, ix3, ix4]
    exact hq w o3 h2 (by simpa using h3) h1
  · obtain ⟨w, x3, o3, rfl, rfl, h1, h2, h3⟩ := h
    rw [List.length_cons] at h1 h3
    try simp only [fresh, wSs, wS, wE, wEs, wC, asB, asI, List.map_cons, List.map_nil, List.replicate_succ, List.replicate_zero, List.append_nil, List.getElem?_cons_zero, List.getElem?_cons_succ, List.getElem?_nil, List.cons_append, List.nil_append, putT_n, putT_t, putTs_n, putTs_c, List.set_cons_zero, List.set_cons_succ, List.length_cons, List.length_nil, List.length_set, List.length_replicate, back, inl, inls, reduceIte, Nat.reduceAdd, Nat.reduceSub, Nat.reduceLT, Nat.reduceLeDiff, Nat.zero_add, wipe, true_and, and_true, Bool.true_eq_false, Bool.false_eq_true, List.set_set, List.take_length, take_set_length, Bool.not_true, Bool.not_false, Int.reduceToNat, Int.reduceLE, Int.reduceLT, Int.reduceNeg, D.free, frees, Bool.and_true, Bool.true_and, Bool.and_self, Nat.reduceLeDiff, decide_true, decide_false, oAddI, oAddS, oAddT, oAddL, oAddA, oSub, oMulI, oMulS, oPow, oFdiv, oMod, oNeg, oLt, oLe, oGt, oGe, oIsN, oNotN, oIsB, oNotB, oIxT, oIxL, oIxS, oCutT_L, oCutT_R, oCutL_R, oLenT, oLenL, oLenS, oMax2, oMin2, oInt1, oStr1, oIsi, oInS, oIn2, oInK, oIxK, oEqI, oEqS, oEqB, oNeB, oNeI, oNeE2, oEqTE, oAll, oSum, oTuple, walkL, walkT, newL, ix0, ix1, ix2, ix3, ix4, lp0__law_word]
    refine ⟨by decide, oneS (N := N + rest.length) (feedAt hi h1) (by decide) (by decide) fun c o4 hc ho4 => ?_⟩
    try simp only [fresh, wSs, wS, wE, wEs, wC, asB, asI, List.map_cons, List.map_nil, List.replicate_succ, List.replicate_zero, List.append_nil, List.getElem?_cons_zero, List.getElem?_cons_succ, List.getElem?_nil, List.cons_append, List.nil_append, putT_n, putT_t, putTs_n, putTs_c, List.set_cons_zero, List.set_cons_succ, List.length_cons, List.length_nil, List.length_set, List.length_replicate, back, inl, inls, reduceIte, Nat.reduceAdd, Nat.reduceSub, Nat.reduceLT, Nat.reduceLeDiff, Nat.zero_add, wipe, true_and, and_true, Bool.true_eq_false, Bool.false_eq_true, List.set_set, List.take_length, take_set_length, Bool.not_true, Bool.not_false, Int.reduceToNat, Int.reduceLE, Int.reduceLT, Int.reduceNeg, D.free, frees, Bool.and_true, Bool.true_and, Bool.and_self, Nat.reduceLeDiff, decide_true, decide_false, oAddI, oAddS, oAddT, oAddL, oAddA, oSub, oMulI, oMulS, oPow, oFdiv, oMod, oNeg, oLt, oLe, oGt, oGe, oIsN, oNotN, oIsB, oNotB, oIxT, oIxL, oIxS, oCutT_L, oCutT_R, oCutL_R, oLenT, oLenL, oLenS, oMax2, oMin2, oInt1, oStr1, oIsi, oInS, oIn2, oInK, oIxK, oEqI, oEqS, oEqB, oNeB, oNeI, oNeE2, oEqTE, oAll, oSum, oTuple, walkL, walkT, newL, ix0, ix1, ix2, ix3, ix4]
    have hl := len_cps w
    refine ⟨by show w.length + 1 ≤ 16777216; omega, hK _ _ ⟨w ++ ⟨#[c]⟩, some x, o4, rfl, rfl, ho4, ?_, ?_⟩⟩
    · rw [str_app]
      exact wordL_app h2 (by omega) (sgn_of hc)
    · rw [str_len_app]
      show w.length + 1 + rest.length ≤ 12
      omega
  · rw [List.length_map, List.length_range]
    exact ho2.mono (by omega)
  · show (decide (0 + 1 ≤ 12) && lets.contains c && [c].all sgn) = true
    have hc2 : lets.contains c = true := List.contains_iff_mem.mpr hc
    rw [hc2]
    show (true && true && (sgn c && true)) = true
    unfold sgn
    rw [hc2]
    rfl
  · rw [List.length_map, List.length_range]
    show 1 + (Int.toNat r) ≤ 12
    omega
/-- well formed, tidy -/
def fine (d : D) : Prop := okT d = true ∧ tidy d = true
theorem f_var {v : Int} (h : 0 ≤ v) (h2 : v < 1000) : fine (.tup [.str "var", .int v]) ∧ sz (.tup [.str "var", .int v]) = 1 ∧ dp (.tup [.str "var", .int v]) = 1 := by
  refine ⟨⟨okT_leaf (by decide) ?_, by rfl⟩, by rfl, by rfl⟩
  show (decide (0 ≤ v) && decide (v ≤ 999)) = true
  rw [decide_eq_true h, decide_eq_true (show v ≤ 999 by omega)]
  rfl
theorem f_sort {v : Int} (h : 0 ≤ v) (h2 : v < 10) : fine (.tup [.str "sort", .int v]) ∧ sz (.tup [.str "sort", .int v]) = 1 ∧ dp (.tup [.str "sort", .int v]) = 1 := by
  refine ⟨⟨okT_leaf (by decide) ?_, by rfl⟩, by rfl, by rfl⟩
  show (decide (0 ≤ v) && decide (v ≤ 9)) = true
  rw [decide_eq_true h, decide_eq_true (show v ≤ 9 by omega)]
  rfl
theorem tidy_str {w : Str} (h : w.length ≤ 12) : tidy (.str w) = true := decide_eq_true (by show w.length ≤ 16777216; omega)
theorem f_name {w : Str} (h : wordL w.cps.toList = true) (h2 : w.length ≤ 12) : fine (.tup [.str "name", .str w]) ∧ sz (.tup [.str "name", .str w]) = 1 ∧ dp (.tup [.str "name", .str w]) = 1 := by
  refine ⟨⟨okT_leaf (by decide) h, ?_⟩, by rfl, by rfl⟩
  show (true && (tidy (.str w) && true)) = true
  rw [tidy_str h2]
  rfl
theorem f_rec {w : Str} {v : Int} (h : wordL w.cps.toList = true) (h2 : w.length ≤ 12) (h3 : 0 ≤ v) (h4 : v < 9) : fine (.tup [.str "rec", .str w, .int v]) ∧ sz (.tup [.str "rec", .str w, .int v]) = 1 ∧ dp (.tup [.str "rec", .str w, .int v]) = 1 := by
  refine ⟨⟨okT_leaf (by decide) ?_, ?_⟩, by rfl, by rfl⟩
  · show (wordL w.cps.toList && (decide (0 ≤ v) && decide (v ≤ 8))) = true
    rw [h, decide_eq_true h3, decide_eq_true (show v ≤ 8 by omega)]
    rfl
  · show (true && (tidy (.str w) && (true && true))) = true
    rw [tidy_str h2]
    rfl
theorem w_leaf (hf : FeedAt S i (N + 15)) (hq : ∀ (d : D) (o : O), fine d → sz d = 1 → dp d = 1 → feedO N o → Q d (S.set i o)) : Run T (n + 4) "_law_leaf" [.loc i] S Q W := by
  have hi := hf.lt
  refine wp_of fn__law_leaf rfl ?_
  try simp only [fresh, wSs, wS, wE, wEs, wC, asB, asI, List.map_cons, List.map_nil, List.replicate_succ, List.replicate_zero, List.append_nil, List.getElem?_cons_zero, List.getElem?_cons_succ, List.getElem?_nil, List.cons_append, List.nil_append, putT_n, putT_t, putTs_n, putTs_c, List.set_cons_zero, List.set_cons_succ, List.length_cons, List.length_nil, List.length_set, List.length_replicate, back, inl, inls, reduceIte, Nat.reduceAdd, Nat.reduceSub, Nat.reduceLT, Nat.reduceLeDiff, Nat.zero_add, wipe, true_and, and_true, Bool.true_eq_false, Bool.false_eq_true, List.set_set, List.take_length, take_set_length, Bool.not_true, Bool.not_false, Int.reduceToNat, Int.reduceLE, Int.reduceLT, Int.reduceNeg, D.free, frees, Bool.and_true, Bool.true_and, Bool.and_self, Nat.reduceLeDiff, decide_true, decide_false, oAddI, oAddS, oAddT, oAddL, oAddA, oSub, oMulI, oMulS, oPow, oFdiv, oMod, oNeg, oLt, oLe, oGt, oGe, oIsN, oNotN, oIsB, oNotB, oIxT, oIxL, oIxS, oCutT_L, oCutT_R, oCutL_R, oLenT, oLenL, oLenS, oMax2, oMin2, oInt1, oStr1, oIsi, oInS, oIn2, oInK, oIxK, oEqI, oEqS, oEqB, oNeB, oNeI, oNeE2, oEqTE, oAll, oSum, oTuple, walkL, walkT, newL, ix0, ix1, ix2, ix3, ix4, f__law_leaf, b__law_leaf]
  refine dr (n := n + 2) (N := N + 14) hf (by decide) (by decide) fun way o h0 h1 ho => ?_
  have hq : ∀ (d : D) (o : O), fine d ∧ sz d = 1 ∧ dp d = 1 → feedO N o → Q d (S.set i o) := fun d o h k => hq d o h.1 h.2.1 h.2.2 k
  try simp only [fresh, wSs, wS, wE, wEs, wC, asB, asI, List.map_cons, List.map_nil, List.replicate_succ, List.replicate_zero, List.append_nil, List.getElem?_cons_zero, List.getElem?_cons_succ, List.getElem?_nil, List.cons_append, List.nil_append, putT_n, putT_t, putTs_n, putTs_c, List.set_cons_zero, List.set_cons_succ, List.length_cons, List.length_nil, List.length_set, List.length_replicate, back, inl, inls, reduceIte, Nat.reduceAdd, Nat.reduceSub, Nat.reduceLT, Nat.reduceLeDiff, Nat.zero_add, wipe, true_and, and_true, Bool.true_eq_false, Bool.false_eq_true, List.set_set, List.take_length, take_set_length, Bool.not_true, Bool.not_false, Int.reduceToNat, Int.reduceLE, Int.reduceLT, Int.reduceNeg, D.free, frees, Bool.and_true, Bool.true_and, Bool.and_self, Nat.reduceLeDiff, decide_true, decide_false, oAddI, oAddS, oAddT, oAddL, oAddA, oSub, oMulI, oMulS, oPow, oFdiv, oMod, oNeg, oLt, oLe, oGt, oGe, oIsN, oNotN, oIsB, oNotB, oIxT, oIxL, oIxS, oCutT_L, oCutT_R, oCutL_R, oLenT, oLenL, oLenS, oMax2, oMin2, oInt1, oStr1, oIsi, oInS, oIn2, oInK, oIxK, oEqI, oEqS, oEqB, oNeB, oNeI, oNeE2, oEqTE, oAll, oSum, oTuple, walkL, walkT, newL, ix0, ix1, ix2, ix3, ix4]
  split
  · refine dr (n := n + 2) (N := N + 13) (feedAt hi ho) (by decide) (by decide) fun v o2 v0 v1 ho2 => ?_
    try simp only [fresh, wSs, wS, wE, wEs, wC, asB, asI, List.map_cons, List.map_nil, List.replicate_succ, List.replicate_zero, List.append_nil, List.getElem?_cons_zero, List.getElem?_cons_succ, List.getElem?_nil, List.cons_append, List.nil_append, putT_n, putT_t, putTs_n, putTs_c, List.set_cons_zero, List.set_cons_succ, List.length_cons, List.length_nil, List.length_set, List.length_replicate, back, inl, inls, reduceIte, Nat.reduceAdd, Nat.reduceSub, Nat.reduceLT, Nat.reduceLeDiff, Nat.zero_add, wipe, true_and, and_true, Bool.true_eq_false, Bool.false_eq_true, List.set_set, List.take_length, take_set_length, Bool.not_true, Bool.not_false, Int.reduceToNat, Int.reduceLE, Int.reduceLT, Int.reduceNeg, D.free, frees, Bool.and_true, Bool.true_and, Bool.and_self, Nat.reduceLeDiff, decide_true, decide_false, oAddI, oAddS, oAddT, oAddL, oAddA, oSub, oMulI, oMulS, oPow, oFdiv, oMod, oNeg, oLt, oLe, oGt, oGe, oIsN, oNotN, oIsB, oNotB, oIxT, oIxL, oIxS, oCutT_L, oCutT_R, oCutL_R, oLenT, oLenL, oLenS, oMax2, oMin2, oInt1, oStr1, oIsi, oInS, oIn2, oInK, oIxK, oEqI, oEqS, oEqB, oNeB, oNeI, oNeE2, oEqTE, oAll, oSum, oTuple, walkL, walkT, newL, ix0, ix1, ix2, ix3, ix4]
    refine ⟨by decide, oneL (n := n + 1) (N := N + 12) (feedAt hi ho2) (by simp) (by simp) (by rfl) fun x o3 hx ho3 => ?_⟩
    obtain ⟨z, rfl, z0, z1⟩ : ∃ z : Int, x = .int z ∧ 0 ≤ z ∧ z < 1000 := by
      simp at hx
      rcases hx with rfl | rfl | rfl | rfl | rfl | rfl
      · exact ⟨0, rfl, by decide, by decide⟩
      · exact ⟨1, rfl, by decide, by decide⟩
      · exact ⟨9, rfl, by decide, by decide⟩
      · exact ⟨998, rfl, by decide, by decide⟩
      · exact ⟨999, rfl, by decide, by decide⟩
      · exact ⟨v, rfl, v0, v1⟩
    try simp only [fresh, wSs, wS, wE, wEs, wC, asB, asI, List.map_cons, List.map_nil, List.replicate_succ, List.replicate_zero, List.append_nil, List.getElem?_cons_zero, List.getElem?_cons_succ, List.getElem?_nil, List.cons_append, List.nil_append, putT_n, putT_t, putTs_n, putTs_c, List.set_cons_zero, List.set_cons_succ, List.length_cons, List.length_nil, List.length_set, List.length_replicate, back, inl, inls, reduceIte, Nat.reduceAdd, Nat.reduceSub, Nat.reduceLT, Nat.reduceLeDiff, Nat.zero_add, wipe, true_and, and_true, Bool.true_eq_false, Bool.false_eq_true, List.set_set, List.take_length, take_set_length, Bool.not_true, Bool.not_false, Int.reduceToNat, Int.reduceLE, Int.reduceLT, Int.reduceNeg, D.free, frees, Bool.and_true, Bool.true_and, Bool.and_self, Nat.reduceLeDiff, decide_true, decide_false, oAddI, oAddS, oAddT, oAddL, oAddA, oSub, oMulI, oMulS, oPow, oFdiv, oMod, oNeg, oLt, oLe, oGt, oGe, oIsN, oNotN, oIsB, oNotB, oIxT, oIxL, oIxS, oCutT_L, oCutT_R, oCutL_R, oLenT, oLenL, oLenS, oMax2, oMin2, oInt1, oStr1, oIsi, oInS, oIn2, oInK, oIxK, oEqI, oEqS, oEqB, oNeB, oNeI, oNeE2, oEqTE, oAll, oSum, oTuple, walkL, walkT, newL, ix0, ix1, ix2, ix3, ix4]
    exact ⟨by decide, hq _ o3 (f_var z0 z1) (ho3.mono (by omega))⟩
  · split
    · refine dr (n := n + 2) (N := N + 13) (feedAt hi ho) (by decide) (by decide) fun v o2 v0 v1 ho2 => ?_
      try simp only [fresh, wSs, wS, wE, wEs, wC, asB, asI, List.map_cons, List.map_nil, List.replicate_succ, List.replicate_zero, List.append_nil, List.getElem?_cons_zero, List.getElem?_cons_succ, List.getElem?_nil, List.cons_append, List.nil_append, putT_n, putT_t, putTs_n, putTs_c, List.set_cons_zero, List.set_cons_succ, List.length_cons, List.length_nil, List.length_set, List.length_replicate, back, inl, inls, reduceIte, Nat.reduceAdd, Nat.reduceSub, Nat.reduceLT, Nat.reduceLeDiff, Nat.zero_add, wipe, true_and, and_true, Bool.true_eq_false, Bool.false_eq_true, List.set_set, List.take_length, take_set_length, Bool.not_true, Bool.not_false, Int.reduceToNat, Int.reduceLE, Int.reduceLT, Int.reduceNeg, D.free, frees, Bool.and_true, Bool.true_and, Bool.and_self, Nat.reduceLeDiff, decide_true, decide_false, oAddI, oAddS, oAddT, oAddL, oAddA, oSub, oMulI, oMulS, oPow, oFdiv, oMod, oNeg, oLt, oLe, oGt, oGe, oIsN, oNotN, oIsB, oNotB, oIxT, oIxL, oIxS, oCutT_L, oCutT_R, oCutL_R, oLenT, oLenL, oLenS, oMax2, oMin2, oInt1, oStr1, oIsi, oInS, oIn2, oInK, oIxK, oEqI, oEqS, oEqB, oNeB, oNeI, oNeE2, oEqTE, oAll, oSum, oTuple, walkL, walkT, newL, ix0, ix1, ix2, ix3, ix4]
      exact ⟨by decide, hq _ o2 (f_sort v0 v1) (ho2.mono (by omega))⟩
    · split
      · refine w_word (N := N + 1) (feedAt hi ho) fun w o2 hw hl ho2 => ?_
        try simp only [fresh, wSs, wS, wE, wEs, wC, asB, asI, List.map_cons, List.map_nil, List.replicate_succ, List.replicate_zero, List.append_nil, List.getElem?_cons_zero, List.getElem?_cons_succ, List.getElem?_nil, List.cons_append, List.nil_append, putT_n, putT_t, putTs_n, putTs_c, List.set_cons_zero, List.set_cons_succ, List.length_cons, List.length_nil, List.length_set, List.length_replicate, back, inl, inls, reduceIte, Nat.reduceAdd, Nat.reduceSub, Nat.reduceLT, Nat.reduceLeDiff, Nat.zero_add, wipe, true_and, and_true, Bool.true_eq_false, Bool.false_eq_true, List.set_set, List.take_length, take_set_length, Bool.not_true, Bool.not_false, Int.reduceToNat, Int.reduceLE, Int.reduceLT, Int.reduceNeg, D.free, frees, Bool.and_true, Bool.true_and, Bool.and_self, Nat.reduceLeDiff, decide_true, decide_false, oAddI, oAddS, oAddT, oAddL, oAddA, oSub, oMulI, oMulS, oPow, oFdiv, oMod, oNeg, oLt, oLe, oGt, oGe, oIsN, oNotN, oIsB, oNotB, oIxT, oIxL, oIxS, oCutT_L, oCutT_R, oCutL_R, oLenT, oLenL, oLenS, oMax2, oMin2, oInt1, oStr1, oIsi, oInS, oIn2, oInK, oIxK, oEqI, oEqS, oEqB, oNeB, oNeI, oNeE2, oEqTE, oAll, oSum, oTuple, walkL, walkT, newL, ix0, ix1, ix2, ix3, ix4]
        exact ⟨by decide, hq _ o2 (f_name hw hl) (ho2.mono (by omega))⟩
      · split
        · refine w_word (N := N + 1) (feedAt hi ho) fun w o2 hw hl ho2 => ?_
          try simp only [fresh, wSs, wS, wE, wEs, wC, asB, asI, List.map_cons, List.map_nil, List.replicate_succ, List.replicate_zero, List.append_nil, List.getElem?_cons_zero, List.getElem?_cons_succ, List.getElem?_nil, List.cons_append, List.nil_append, putT_n, putT_t, putTs_n, putTs_c, List.set_cons_zero, List.set_cons_succ, List.length_cons, List.length_nil, List.length_set, List.length_replicate, back, inl, inls, reduceIte, Nat.reduceAdd, Nat.reduceSub, Nat.reduceLT, Nat.reduceLeDiff, Nat.zero_add, wipe, true_and, and_true, Bool.true_eq_false, Bool.false_eq_true, List.set_set, List.take_length, take_set_length, Bool.not_true, Bool.not_false, Int.reduceToNat, Int.reduceLE, Int.reduceLT, Int.reduceNeg, D.free, frees, Bool.and_true, Bool.true_and, Bool.and_self, Nat.reduceLeDiff, decide_true, decide_false, oAddI, oAddS, oAddT, oAddL, oAddA, oSub, oMulI, oMulS, oPow, oFdiv, oMod, oNeg, oLt, oLe, oGt, oGe, oIsN, oNotN, oIsB, oNotB, oIxT, oIxL, oIxS, oCutT_L, oCutT_R, oCutL_R, oLenT, oLenL, oLenS, oMax2, oMin2, oInt1, oStr1, oIsi, oInS, oIn2, oInK, oIxK, oEqI, oEqS, oEqB, oNeB, oNeI, oNeE2, oEqTE, oAll, oSum, oTuple, walkL, walkT, newL, ix0, ix1, ix2, ix3, ix4]
          refine dr (n := n + 2) (N := N) (feedAt hi ho2) (by decide) (by decide) fun v o3 v0 v1 ho3 => ?_
          try simp only [fresh, wSs, wS, wE, wEs, wC, asB, asI, List.map_cons, List.map_nil, List.replicate_succ, List.replicate_zero, List.append_nil, List.getElem?_cons_zero, List.getElem?_cons_succ, List.getElem?_nil, List.cons_append, List.nil_append, putT_n, putT_t, putTs_n, putTs_c, List.set_cons_zero, List.set_cons_succ, List.length_cons, List.length_nil, List.length_set, List.length_replicate, back, inl, inls, reduceIte, Nat.reduceAdd, Nat.reduceSub, Nat.reduceLT, Nat.reduceLeDiff, Nat.zero_add, wipe, true_and, and_true, Bool.true_eq_false, Bool.false_eq_true, List.set_set, List.take_length, take_set_length, Bool.not_true, Bool.not_false, Int.reduceToNat, Int.reduceLE, Int.reduceLT, Int.reduceNeg, D.free, frees, Bool.and_true, Bool.true_and, Bool.and_self, Nat.reduceLeDiff, decide_true, decide_false, oAddI, oAddS, oAddT, oAddL, oAddA, oSub, oMulI, oMulS, oPow, oFdiv, oMod, oNeg, oLt, oLe, oGt, oGe, oIsN, oNotN, oIsB, oNotB, oIxT, oIxL, oIxS, oCutT_L, oCutT_R, oCutL_R, oLenT, oLenL, oLenS, oMax2, oMin2, oInt1, oStr1, oIsi, oInS, oIn2, oInK, oIxK, oEqI, oEqS, oEqB, oNeB, oNeI, oNeE2, oEqTE, oAll, oSum, oTuple, walkL, walkT, newL, ix0, ix1, ix2, ix3, ix4]
          exact ⟨by decide, hq _ o3 (f_rec hw hl v0 v1) ho3⟩
        · refine ⟨by decide, by decide, by decide, oneL (n := n + 1) (N := N + 13) (feedAt hi ho) (by simp) (by simp) (by rfl) fun x o3 hx ho3 => ?_⟩
          simp at hx
          rcases hx with rfl | rfl
          · try simp only [fresh, wSs, wS, wE, wEs, wC, asB, asI, List.map_cons, List.map_nil, List.replicate_succ, List.replicate_zero, List.append_nil, List.getElem?_cons_zero, List.getElem?_cons_succ, List.getElem?_nil, List.cons_append, List.nil_append, putT_n, putT_t, putTs_n, putTs_c, List.set_cons_zero, List.set_cons_succ, List.length_cons, List.length_nil, List.length_set, List.length_replicate, back, inl, inls, reduceIte, Nat.reduceAdd, Nat.reduceSub, Nat.reduceLT, Nat.reduceLeDiff, Nat.zero_add, wipe, true_and, and_true, Bool.true_eq_false, Bool.false_eq_true, List.set_set, List.take_length, take_set_length, Bool.not_true, Bool.not_false, Int.reduceToNat, Int.reduceLE, Int.reduceLT, Int.reduceNeg, D.free, frees, Bool.and_true, Bool.true_and, Bool.and_self, Nat.reduceLeDiff, decide_true, decide_false, oAddI, oAddS, oAddT, oAddL, oAddA, oSub, oMulI, oMulS, oPow, oFdiv, oMod, oNeg, oLt, oLe, oGt, oGe, oIsN, oNotN, oIsB, oNotB, oIxT, oIxL, oIxS, oCutT_L, oCutT_R, oCutL_R, oLenT, oLenL, oLenS, oMax2, oMin2, oInt1, oStr1, oIsi, oInS, oIn2, oInK, oIxK, oEqI, oEqS, oEqB, oNeB, oNeI, oNeE2, oEqTE, oAll, oSum, oTuple, walkL, walkT, newL, ix0, ix1, ix2, ix3, ix4]
            exact hq _ o3 ⟨⟨okT_leaf (by decide) (by rfl), by rfl⟩, by rfl, by rfl⟩ (ho3.mono (by omega))
          · try simp only [fresh, wSs, wS, wE, wEs, wC, asB, asI, List.map_cons, List.map_nil, List.replicate_succ, List.replicate_zero, List.append_nil, List.getElem?_cons_zero, List.getElem?_cons_succ, List.getElem?_nil, List.cons_append, List.nil_append, putT_n, putT_t, putTs_n, putTs_c, List.set_cons_zero, List.set_cons_succ, List.length_cons, List.length_nil, List.length_set, List.length_replicate, back, inl, inls, reduceIte, Nat.reduceAdd, Nat.reduceSub, Nat.reduceLT, Nat.reduceLeDiff, Nat.zero_add, wipe, true_and, and_true, Bool.true_eq_false, Bool.false_eq_true, List.set_set, List.take_length, take_set_length, Bool.not_true, Bool.not_false, Int.reduceToNat, Int.reduceLE, Int.reduceLT, Int.reduceNeg, D.free, frees, Bool.and_true, Bool.true_and, Bool.and_self, Nat.reduceLeDiff, decide_true, decide_false, oAddI, oAddS, oAddT, oAddL, oAddA, oSub, oMulI, oMulS, oPow, oFdiv, oMod, oNeg, oLt, oLe, oGt, oGe, oIsN, oNotN, oIsB, oNotB, oIxT, oIxL, oIxS, oCutT_L, oCutT_R, oCutL_R, oLenT, oLenL, oLenS, oMax2, oMin2, oInt1, oStr1, oIsi, oInS, oIn2, oInK, oIxK, oEqI, oEqS, oEqB, oNeB, oNeI, oNeE2, oEqTE, oAll, oSum, oTuple, walkL, walkT, newL, ix0, ix1, ix2, ix3, ix4]
            exact hq _ o3 ⟨⟨okT_leaf (by decide) (by rfl), by rfl⟩, by rfl, by rfl⟩ (ho3.mono (by omega))
/-! ### terms drawn -/
def menu : List D := [.tup [.str "pi", .int 2], .tup [.str "fun", .int 2], .tup [.str "app", .int 2], .tup [.str "sig", .int 2], .tup [.str "pair", .int 4], .tup [.str "fst", .int 1], .tup [.str "snd", .int 1]]
theorem menu_mem {x : D} (h : x ∈ menu) : ∃ w : Str, x = .tup [.str w, .int (ar w)] ∧ isNode w = true ∧ 1 ≤ ar w ∧ ar w ≤ 4 ∧ w.length ≤ 12 := by
  unfold menu at h
  simp at h
  rcases h with rfl | rfl | rfl | rfl | rfl | rfl | rfl <;> exact ⟨_, rfl, by decide, by decide, by decide, by decide⟩
theorem node_fine {w : Str} {l : List D} (hw : isNode w = true) (hl : l.length = ar w) (hf : ∀ t ∈ l, fine t) (hw2 : w.length ≤ 12) : fine (.tup (.str w :: l)) ∧ sz (.tup (.str w :: l)) = 1 + (l.map sz).sum ∧ dp (.tup (.str w :: l)) = 1 + dps l := by
  have t1 : tidys l = true := by
    clear hl
    induction l with
    | nil => rfl
    | cons t r ih =>
      show (tidy t && tidys r) = true
      rw [(hf t List.mem_cons_self).2, ih fun y hy => hf y (List.mem_cons_of_mem _ hy)]
      rfl
  refine ⟨⟨okT_node hw hl ?_, ?_⟩, ?_, ?_⟩
  · rw [okTs_all]
    exact List.all_eq_true.mpr fun t ht => (hf t ht).1
  · show (tidy (.str w) && tidys l) = true
    rw [tidy_str hw2, t1]
    rfl
  · show 1 + (if isNode w = true then szs l else 0) = _
    rw [if_pos hw, szs_sum]
  · show 1 + (if isNode w = true then dps l else 0) = _
    rw [if_pos hw]
def rowD (t : D) : D := .tup [t, .int (sz t), .int (dp t)]
theorem rows_free {l : List D} (h : ∀ t ∈ l, fine t) : frees (l.map rowD) = true := frees_of fun y hy => by
  obtain ⟨t, ht, rfl⟩ := List.mem_map.mp hy
  show (t.free && true) = true
  rw [tidy_free (h t ht).2]
  rfl
theorem drM {m : Nat} {k : Int} (hm : 1 ≤ m) (hf : FeedAt S i (N + 1)) (hk : 0 < k) (hk2 : k < 340282366920938463463374607431768211456) (h : ∀ (r : Int) (o : O), 0 ≤ r → r < k → feedO N o → Q (.int r) (S.set i o)) : Run T m "_law_draw" [.loc i, .int k] S Q W := by
  obtain ⟨n, rfl⟩ : ∃ n, m = n + 1 := ⟨m - 1, by omega⟩
  exact dr hf hk hk2 h
theorem leafM {m : Nat} (hm : 4 ≤ m) (hf : FeedAt S i (N + 15)) (hq : ∀ (d : D) (o : O), fine d → sz d = 1 → dp d = 1 → feedO N o → Q d (S.set i o)) : Run T m "_law_leaf" [.loc i] S Q W := by
  obtain ⟨n, rfl⟩ : ∃ n, m = n + 4 := ⟨m - 4, by omega⟩
  exact w_leaf hf hq
theorem oneLM {m : Nat} {xs : List D} (hm : 2 ≤ m) (hf : FeedAt S i (N + 1)) (hk : 0 < xs.length) (hk2 : xs.length < 100000) (hfr : frees xs = true) (h : ∀ (x : D) (o : O), x ∈ xs → feedO N o → Q x (S.set i o)) : Run T m "_law_one" [.loc i, .lst xs] S Q W := by
  obtain ⟨n, rfl⟩ : ∃ n, m = n + 2 := ⟨m - 2, by omega⟩
  exact oneL hf hk hk2 hfr h
/-- the rows are taken apart -/
theorem rows_get {S : Store} {l : List D} {G : Store → Prop} {Q : List D → Store → Prop} {f : D → Store → (Option D → Store → Prop) → Prop} (j : D → D) (hG : G S) (hl : l.length ≤ 4) (hf : ∀ t ∈ l, ∀ R : Option D → Store → Prop, R (some (j t)) S → f (rowD t) S R) (hj : ∀ t ∈ l, (j t).free = true) (hq : Q (l.map j) S) : compW G f (l.map rowD) [] S Q := by
  refine compW_inv (fun r a S' => ∃ u v, l = u ++ v ∧ r = v.map rowD ∧ a = u.map j ∧ S' = S) (fun _ _ _ h => ?_) (fun a S' h => ?_) (fun x r a S' R h h1 h2 => ?_) _ _ _ ⟨[], l, rfl, rfl, rfl, rfl⟩
  · obtain ⟨_, _, _, _, _, rfl⟩ := h
    exact hG
  · obtain ⟨u, v, rfl, e2, rfl, rfl⟩ := h
    have : v = [] := by
      cases v with
      | nil => rfl
      | cons _ _ => cases e2
    subst this
    rw [List.append_nil] at hq
    exact hq
  · obtain ⟨u, v, rfl, e2, rfl, rfl⟩ := h
    cases v with
    | nil => cases e2
    | cons t v =>
      rw [List.map_cons] at e2
      cases e2
      refine hf t (by simp) R (h1 (j t) S' (hj t (by simp)) ?_ ⟨u ++ [t], v, by simp, rfl, by simp, rfl⟩)
      rw [List.length_append, List.length_cons] at hl
      rw [List.length_map]
      show u.length < 16777216
      omega
theorem dps_max {l : List D} {m : Int} (hm : m ∈ l.map fun t => (dp t : Int)) (hle : ∀ y ∈ l.map fun t => (dp t : Int), y ≤ m) : m = (dps l : Nat) := by
  obtain ⟨t, ht, rfl⟩ := List.mem_map.mp hm
  have up : dps l ≤ dp t := (dps_le l (dp t)).mpr fun p hp => by
    have := hle (dp p : Int) (List.mem_map.mpr ⟨p, hp, rfl⟩)
    omega
  have lo : dp t ≤ dps l := (dps_le l (dps l)).mp (Nat.le_refl _) t ht
  have : dp t = dps l := by omega
  rw [this]
theorem sum_cast (l : List D) : (l.map fun t => (sz t : Int)).sum = ((l.map sz).sum : Nat) := by
  induction l with
  | nil => rfl
  | cons p r ih => simp [ih]
theorem w_drawn : ∀ (k : Nat) {n i N : Nat} {S : Store} {Q : Q1} {W : Str → Store → Prop}, FeedAt S i (N + 20 * 5 ^ k) → (∀ (t : D) (o : O), fine t → dp t ≤ k + 1 → feedO N o → Q (rowD t) (S.set i o)) → Run T (n + 5 + k) "_law_drawn" [.loc i, .int (k + 1 : Nat)] S Q W
  | 0, n, i, N, S, Q, W, hf, hq => by
    have hi := hf.lt
    refine wp_of fn__law_drawn rfl ?_
    try simp only [fresh, wSs, wS, wE, wEs, wC, asB, asI, List.map_cons, List.map_nil, List.replicate_succ, List.replicate_zero, List.append_nil, List.getElem?_cons_zero, List.getElem?_cons_succ, List.getElem?_nil, List.cons_append, List.nil_append, putT_n, putT_t, putTs_n, putTs_c, List.set_cons_zero, List.set_cons_succ, List.length_cons, List.length_nil, List.length_set, List.length_replicate, back, inl, inls, reduceIte, Nat.reduceAdd, Nat.reduceSub, Nat.reduceLT, Nat.reduceLeDiff, Nat.zero_add, wipe, true_and, and_true, Bool.true_eq_false, Bool.false_eq_true, List.set_set, List.take_length, take_set_length, Bool.not_true, Bool.not_false, Int.reduceToNat, Int.reduceLE, Int.reduceLT, Int.reduceNeg, D.free, frees, Bool.and_true, Bool.true_and, Bool.and_self, Nat.reduceLeDiff, decide_true, decide_false, oAddI, oAddS, oAddT, oAddL, oAddA, oSub, oMulI, oMulS, oPow, oFdiv, oMod, oNeg, oLt, oLe, oGt, oGe, oIsN, oNotN, oIsB, oNotB, oIxT, oIxL, oIxS, oCutT_L, oCutT_R, oCutL_R, oLenT, oLenL, oLenS, oMax2, oMin2, oInt1, oStr1, oIsi, oInS, oIn2, oInK, oIxK, oEqI, oEqS, oEqB, oNeB, oNeI, oNeE2, oEqTE, oAll, oSum, oTuple, walkL, walkT, newL, ix0, ix1, ix2, ix3, ix4, f__law_drawn, b__law_drawn]
    show if decide ((1 : Int) < (1 : Nat)) = true then _ else _
    rw [if_neg (by decide)]
    try simp only [fresh, wSs, wS, wE, wEs, wC, asB, asI, List.map_cons, List.map_nil, List.replicate_succ, List.replicate_zero, List.append_nil, List.getElem?_cons_zero, List.getElem?_cons_succ, List.getElem?_nil, List.cons_append, List.nil_append, putT_n, putT_t, putTs_n, putTs_c, List.set_cons_zero, List.set_cons_succ, List.length_cons, List.length_nil, List.length_set, List.length_replicate, back, inl, inls, reduceIte, Nat.reduceAdd, Nat.reduceSub, Nat.reduceLT, Nat.reduceLeDiff, Nat.zero_add, wipe, true_and, and_true, Bool.true_eq_false, Bool.false_eq_true, List.set_set, List.take_length, take_set_length, Bool.not_true, Bool.not_false, Int.reduceToNat, Int.reduceLE, Int.reduceLT, Int.reduceNeg, D.free, frees, Bool.and_true, Bool.true_and, Bool.and_self, Nat.reduceLeDiff, decide_true, decide_false, oAddI, oAddS, oAddT, oAddL, oAddA, oSub, oMulI, oMulS, oPow, oFdiv, oMod, oNeg, oLt, oLe, oGt, oGe, oIsN, oNotN, oIsB, oNotB, oIxT, oIxL, oIxS, oCutT_L, oCutT_R, oCutL_R, oLenT, oLenL, oLenS, oMax2, oMin2, oInt1, oStr1, oIsi, oInS, oIn2, oInK, oIxK, oEqI, oEqS, oEqB, oNeB, oNeI, oNeE2, oEqTE, oAll, oSum, oTuple, walkL, walkT, newL, ix0, ix1, ix2, ix3, ix4]
    refine w_leaf (N := N + 5) hf fun d o hd h1 h2 ho => ?_
    try simp only [fresh, wSs, wS, wE, wEs, wC, asB, asI, List.map_cons, List.map_nil, List.replicate_succ, List.replicate_zero, List.append_nil, List.getElem?_cons_zero, List.getElem?_cons_succ, List.getElem?_nil, List.cons_append, List.nil_append, putT_n, putT_t, putTs_n, putTs_c, List.set_cons_zero, List.set_cons_succ, List.length_cons, List.length_nil, List.length_set, List.length_replicate, back, inl, inls, reduceIte, Nat.reduceAdd, Nat.reduceSub, Nat.reduceLT, Nat.reduceLeDiff, Nat.zero_add, wipe, true_and, and_true, Bool.true_eq_false, Bool.false_eq_true, List.set_set, List.take_length, take_set_length, Bool.not_true, Bool.not_false, Int.reduceToNat, Int.reduceLE, Int.reduceLT, Int.reduceNeg, D.free, frees, Bool.and_true, Bool.true_and, Bool.and_self, Nat.reduceLeDiff, decide_true, decide_false, oAddI, oAddS, oAddT, oAddL, oAddA, oSub, oMulI, oMulS, oPow, oFdiv, oMod, oNeg, oLt, oLe, oGt, oGe, oIsN, oNotN, oIsB, oNotB, oIxT, oIxL, oIxS, oCutT_L, oCutT_R, oCutL_R, oLenT, oLenL, oLenS, oMax2, oMin2, oInt1, oStr1, oIsi, oInS, oIn2, oInK, oIxK, oEqI, oEqS, oEqB, oNeB, oNeI, oNeE2, oEqTE, oAll, oSum, oTuple, walkL, walkT, newL, ix0, ix1, ix2, ix3, ix4]
    have := hq d o hd (by omega) (ho.mono (by omega))
    unfold rowD at this
    rw [h1, h2] at this
    refine ⟨by decide, ?_⟩
    rw [inl_free (tidy_free hd.2)]
    exact this
  | k + 1, n, i, N, S, Q, W, hf, hq => by
    have hi := hf.lt
    have p5 : 1 ≤ 5 ^ k := Nat.pos_of_ne_zero (by simp)
    have e5 : 20 * 5 ^ (k + 1) = 100 * 5 ^ k := by rw [Nat.pow_succ]; omega
    rw [e5] at hf
    refine wp_of (n := n + 5 + k) fn__law_drawn rfl ?_
    try simp only [fresh, wSs, wS, wE, wEs, wC, asB, asI, List.map_cons, List.map_nil, List.replicate_succ, List.replicate_zero, List.append_nil, List.getElem?_cons_zero, List.getElem?_cons_succ, List.getElem?_nil, List.cons_append, List.nil_append, putT_n, putT_t, putTs_n, putTs_c, List.set_cons_zero, List.set_cons_succ, List.length_cons, List.length_nil, List.length_set, List.length_replicate, back, inl, inls, reduceIte, Nat.reduceAdd, Nat.reduceSub, Nat.reduceLT, Nat.reduceLeDiff, Nat.zero_add, wipe, true_and, and_true, Bool.true_eq_false, Bool.false_eq_true, List.set_set, List.take_length, take_set_length, Bool.not_true, Bool.not_false, Int.reduceToNat, Int.reduceLE, Int.reduceLT, Int.reduceNeg, D.free, frees, Bool.and_true, Bool.true_and, Bool.and_self, Nat.reduceLeDiff, decide_true, decide_false, oAddI, oAddS, oAddT, oAddL, oAddA, oSub, oMulI, oMulS, oPow, oFdiv, oMod, oNeg, oLt, oLe, oGt, oGe, oIsN, oNotN, oIsB, oNotB, oIxT, oIxL, oIxS, oCutT_L, oCutT_R, oCutL_R, oLenT, oLenL, oLenS, oMax2, oMin2, oInt1, oStr1, oIsi, oInS, oIn2, oInK, oIxK, oEqI, oEqS, oEqB, oNeB, oNeI, oNeE2, oEqTE, oAll, oSum, oTuple, walkL, walkT, newL, ix0, ix1, ix2, ix3, ix4, f__law_drawn, b__law_drawn]
    rw [if_pos (show decide ((1 : Int) < (k + 1 + 1 : Nat)) = true from decide_eq_true (by omega))]
    refine drM (N := N + 90 * 5 ^ k) (by omega) (hf.mono (by omega)) (by decide) (by decide) fun way o h0 h1 ho => ?_
    try simp only [fresh, wSs, wS, wE, wEs, wC, asB, asI, List.map_cons, List.map_nil, List.replicate_succ, List.replicate_zero, List.append_nil, List.getElem?_cons_zero, List.getElem?_cons_succ, List.getElem?_nil, List.cons_append, List.nil_append, putT_n, putT_t, putTs_n, putTs_c, List.set_cons_zero, List.set_cons_succ, List.length_cons, List.length_nil, List.length_set, List.length_replicate, back, inl, inls, reduceIte, Nat.reduceAdd, Nat.reduceSub, Nat.reduceLT, Nat.reduceLeDiff, Nat.zero_add, wipe, true_and, and_true, Bool.true_eq_false, Bool.false_eq_true, List.set_set, List.take_length, take_set_length, Bool.not_true, Bool.not_false, Int.reduceToNat, Int.reduceLE, Int.reduceLT, Int.reduceNeg, D.free, frees, Bool.and_true, Bool.true_and, Bool.and_self, Nat.reduceLeDiff, decide_true, decide_false, oAddI, oAddS, oAddT, oAddL, oAddA, oSub, oMulI, oMulS, oPow, oFdiv, oMod, oNeg, oLt, oLe, oGt, oGe, oIsN, oNotN, oIsB, oNotB, oIxT, oIxL, oIxS, oCutT_L, oCutT_R, oCutL_R, oLenT, oLenL, oLenS, oMax2, oMin2, oInt1, oStr1, oIsi, oInS, oIn2, oInK, oIxK, oEqI, oEqS, oEqB, oNeB, oNeI, oNeE2, oEqTE, oAll, oSum, oTuple, walkL, walkT, newL, ix0, ix1, ix2, ix3, ix4]
    split
    · refine leafM (N := N) (by omega) (feedAt hi (ho.mono (by omega))) fun d o hd h1 h2 ho => ?_
      try simp only [fresh, wSs, wS, wE, wEs, wC, asB, asI, List.map_cons, List.map_nil, List.replicate_succ, List.replicate_zero, List.append_nil, List.getElem?_cons_zero, List.getElem?_cons_succ, List.getElem?_nil, List.cons_append, List.nil_append, putT_n, putT_t, putTs_n, putTs_c, List.set_cons_zero, List.set_cons_succ, List.length_cons, List.length_nil, List.length_set, List.length_replicate, back, inl, inls, reduceIte, Nat.reduceAdd, Nat.reduceSub, Nat.reduceLT, Nat.reduceLeDiff, Nat.zero_add, wipe, true_and, and_true, Bool.true_eq_false, Bool.false_eq_true, List.set_set, List.take_length, take_set_length, Bool.not_true, Bool.not_false, Int.reduceToNat, Int.reduceLE, Int.reduceLT, Int.reduceNeg, D.free, frees, Bool.and_true, Bool.true_and, Bool.and_self, Nat.reduceLeDiff, decide_true, decide_false, oAddI, oAddS, oAddT, oAddL, oAddA, oSub, oMulI, oMulS, oPow, oFdiv, oMod, oNeg, oLt, oLe, oGt, oGe, oIsN, oNotN, oIsB, oNotB, oIxT, oIxL, oIxS, oCutT_L, oCutT_R, oCutL_R, oLenT, oLenL, oLenS, oMax2, oMin2, oInt1, oStr1, oIsi, oInS, oIn2, oInK, oIxK, oEqI, oEqS, oEqB, oNeB, oNeI, oNeE2, oEqTE, oAll, oSum, oTuple, walkL, walkT, newL, ix0, ix1, ix2, ix3, ix4]
      have := hq d o hd (by omega) ho
      unfold rowD at this
      rw [h1, h2] at this
      refine ⟨by decide, ?_⟩
      rw [inl_free (tidy_free hd.2)]
      exact this
    · rename_i c
      have w6 : way < 7 := by
        have := of_decide_eq_false (Bool.eq_false_iff.mpr c)
        omega
      refine ⟨by decide, by decide, by decide, by decide, by decide, by decide, by decide, by decide, ?_⟩
      obtain ⟨w, e1, hw, a1, a4, w12⟩ : ∃ w : Str, ixOf menu way = some (.tup [.str w, .int (ar w)]) ∧ isNode w = true ∧ 1 ≤ ar w ∧ ar w ≤ 4 ∧ w.length ≤ 12 := by
        have e : ixOf menu way = menu[way.toNat]? := if_pos h0
        have hl : way.toNat < menu.length := by show way.toNat < 7; omega
        rw [e, List.getElem?_eq_getElem hl]
        obtain ⟨w, e, r⟩ := menu_mem (List.getElem_mem hl)
        exact ⟨w, congrArg some e, r⟩
      show (match ixOf menu way with | some v => _ | none => False)
      rw [e1]
      try simp only [fresh, wSs, wS, wE, wEs, wC, asB, asI, List.map_cons, List.map_nil, List.replicate_succ, List.replicate_zero, List.append_nil, List.getElem?_cons_zero, List.getElem?_cons_succ, List.getElem?_nil, List.cons_append, List.nil_append, putT_n, putT_t, putTs_n, putTs_c, List.set_cons_zero, List.set_cons_succ, List.length_cons, List.length_nil, List.length_set, List.length_replicate, back, inl, inls, reduceIte, Nat.reduceAdd, Nat.reduceSub, Nat.reduceLT, Nat.reduceLeDiff, Nat.zero_add, wipe, true_and, and_true, Bool.true_eq_false, Bool.false_eq_true, List.set_set, List.take_length, take_set_length, Bool.not_true, Bool.not_false, Int.reduceToNat, Int.reduceLE, Int.reduceLT, Int.reduceNeg, D.free, frees, Bool.and_true, Bool.true_and, Bool.and_self, Nat.reduceLeDiff, decide_true, decide_false, oAddI, oAddS, oAddT, oAddL, oAddA, oSub, oMulI, oMulS, oPow, oFdiv, oMod, oNeg, oLt, oLe, oGt, oGe, oIsN, oNotN, oIsB, oNotB, oIxT, oIxL, oIxS, oCutT_L, oCutT_R, oCutL_R, oLenT, oLenL, oLenS, oMax2, oMin2, oInt1, oStr1, oIsi, oInS, oIn2, oInK, oIxK, oEqI, oEqS, oEqB, oNeB, oNeI, oNeE2, oEqTE, oAll, oSum, oTuple, walkL, walkT, newL, ix0, ix1, ix2, ix3, ix4, walk2 (show (0 : Int) ≤ (ar w : Nat) by omega) (show ((ar w : Nat) : Int) < 4611686018427387904 by omega)]
      refine ⟨by decide, ?_⟩
      refine compW_inv (fun r a S' => ∃ (l : List D) (o : O), a = l.map rowD ∧ l.length + r.length = ar w ∧ (∀ t ∈ l, fine t ∧ dp t ≤ k + 1) ∧ S' = S.set i o ∧ feedO (N + r.length * (20 * 5 ^ k)) o) (fun _ _ _ _ => trivial) (fun a S' h => ?_) (fun x r a S' R h k1 k2 => ?_) _ _ _ ⟨[], o, rfl, by rw [List.length_map, List.length_range]; show 0 + (Int.toNat (ar w : Nat)) = ar w; omega, fun _ h => absurd h (by simp), rfl, ?_⟩
      · obtain ⟨l, o, rfl, e2, e3, rfl, e5⟩ := h
        have hl : l.length = ar w := by simpa using e2
        have fr := rows_free (l := l) fun t ht => (e3 t ht).1
        have frl : frees l = true := frees_of fun t ht => tidy_free (e3 t ht).1.2
        have frI : ∀ f : D → Int, frees (l.map fun t => D.int (f t)) = true := fun f => frees_of fun y hy => by
          obtain ⟨t, _, rfl⟩ := List.mem_map.mp hy
          rfl
        have l4 : ∀ {α : Type} (j : D → α), (l.map j).length ≤ line := fun j => by
          rw [List.length_map]
          show l.length ≤ 16777216
          omega
        try simp only [fresh, wSs, wS, wE, wEs, wC, asB, asI, List.map_cons, List.map_nil, List.replicate_succ, List.replicate_zero, List.append_nil, List.getElem?_cons_zero, List.getElem?_cons_succ, List.getElem?_nil, List.cons_append, List.nil_append, putT_n, putT_t, putTs_n, putTs_c, List.set_cons_zero, List.set_cons_succ, List.length_cons, List.length_nil, List.length_set, List.length_replicate, back, inl, inls, reduceIte, Nat.reduceAdd, Nat.reduceSub, Nat.reduceLT, Nat.reduceLeDiff, Nat.zero_add, wipe, true_and, and_true, Bool.true_eq_false, Bool.false_eq_true, List.set_set, List.take_length, take_set_length, Bool.not_true, Bool.not_false, Int.reduceToNat, Int.reduceLE, Int.reduceLT, Int.reduceNeg, D.free, frees, Bool.and_true, Bool.true_and, Bool.and_self, Nat.reduceLeDiff, decide_true, decide_false, oAddI, oAddS, oAddT, oAddL, oAddA, oSub, oMulI, oMulS, oPow, oFdiv, oMod, oNeg, oLt, oLe, oGt, oGe, oIsN, oNotN, oIsB, oNotB, oIxT, oIxL, oIxS, oCutT_L, oCutT_R, oCutL_R, oLenT, oLenL, oLenS, oMax2, oMin2, oInt1, oStr1, oIsi, oInS, oIn2, oInK, oIxK, oEqI, oEqS, oEqB, oNeB, oNeI, oNeE2, oEqTE, oAll, oSum, oTuple, walkL, walkT, newL, ix0, ix1, ix2, ix3, ix4]
        refine ⟨l4 _, fr, by decide, rows_get (fun t => t) trivial (by omega) (fun t ht R hR => ?_) (fun t ht => tidy_free (e3 t ht).1.2) ?_⟩
        · try simp only [fresh, wSs, wS, wE, wEs, wC, asB, asI, List.map_cons, List.map_nil, List.replicate_succ, List.replicate_zero, List.append_nil, List.getElem?_cons_zero, List.getElem?_cons_succ, List.getElem?_nil, List.cons_append, List.nil_append, putT_n, putT_t, putTs_n, putTs_c, List.set_cons_zero, List.set_cons_succ, List.length_cons, List.length_nil, List.length_set, List.length_replicate, back, inl, inls, reduceIte, Nat.reduceAdd, Nat.reduceSub, Nat.reduceLT, Nat.reduceLeDiff, Nat.zero_add, wipe, true_and, and_true, Bool.true_eq_false, Bool.false_eq_true, List.set_set, List.take_length, take_set_length, Bool.not_true, Bool.not_false, Int.reduceToNat, Int.reduceLE, Int.reduceLT, Int.reduceNeg, D.free, frees, Bool.and_true, Bool.true_and, Bool.and_self, Nat.reduceLeDiff, decide_true, decide_false, oAddI, oAddS, oAddT, oAddL, oAddA, oSub, oMulI, oMulS, oPow, oFdiv, oMod, oNeg, oLt, oLe, oGt, oGe, oIsN, oNotN, oIsB, oNotB, oIxT, oIxL, oIxS, oCutT_L, oCutT_R, oCutL_R, oLenT, oLenL, oLenS, oMax2, oMin2, oInt1, oStr1, oIsi, oInS, oIn2, oInK, oIxK, oEqI, oEqS, oEqB, oNeB, oNeI, oNeE2, oEqTE, oAll, oSum, oTuple, walkL, walkT, newL, ix0, ix1, ix2, ix3, ix4, ce1__law_drawn, rowD]
          exact hR
        · rw [List.map_id']
          refine ⟨by show l.length ≤ 16777216; omega, frl, by simp, by show 1 + l.length ≤ 16777216; omega, rows_get (fun t => .int (sz t)) trivial (by omega) (fun t ht R hR => ?_) (fun t ht => rfl) ?_⟩
          · try simp only [fresh, wSs, wS, wE, wEs, wC, asB, asI, List.map_cons, List.map_nil, List.replicate_succ, List.replicate_zero, List.append_nil, List.getElem?_cons_zero, List.getElem?_cons_succ, List.getElem?_nil, List.cons_append, List.nil_append, putT_n, putT_t, putTs_n, putTs_c, List.set_cons_zero, List.set_cons_succ, List.length_cons, List.length_nil, List.length_set, List.length_replicate, back, inl, inls, reduceIte, Nat.reduceAdd, Nat.reduceSub, Nat.reduceLT, Nat.reduceLeDiff, Nat.zero_add, wipe, true_and, and_true, Bool.true_eq_false, Bool.false_eq_true, List.set_set, List.take_length, take_set_length, Bool.not_true, Bool.not_false, Int.reduceToNat, Int.reduceLE, Int.reduceLT, Int.reduceNeg, D.free, frees, Bool.and_true, Bool.true_and, Bool.and_self, Nat.reduceLeDiff, decide_true, decide_false, oAddI, oAddS, oAddT, oAddL, oAddA, oSub, oMulI, oMulS, oPow, oFdiv, oMod, oNeg, oLt, oLe, oGt, oGe, oIsN, oNotN, oIsB, oNotB, oIxT, oIxL, oIxS, oCutT_L, oCutT_R, oCutL_R, oLenT, oLenL, oLenS, oMax2, oMin2, oInt1, oStr1, oIsi, oInS, oIn2, oInK, oIxK, oEqI, oEqS, oEqB, oNeB, oNeI, oNeE2, oEqTE, oAll, oSum, oTuple, walkL, walkT, newL, ix0, ix1, ix2, ix3, ix4, ce2__law_drawn, rowD]
            exact hR
          · refine ⟨l4 _, frI _, ?_⟩
            show (match intsOf (l.map fun t => D.int (sz t)) with | some ns => _ | none => False)
            rw [ints_map (fun t => (sz t : Int))]
            refine rows_get (fun t => .int (dp t)) trivial (by omega) (fun t ht R hR => ?_) (fun t ht => rfl) ?_
            · try simp only [fresh, wSs, wS, wE, wEs, wC, asB, asI, List.map_cons, List.map_nil, List.replicate_succ, List.replicate_zero, List.append_nil, List.getElem?_cons_zero, List.getElem?_cons_succ, List.getElem?_nil, List.cons_append, List.nil_append, putT_n, putT_t, putTs_n, putTs_c, List.set_cons_zero, List.set_cons_succ, List.length_cons, List.length_nil, List.length_set, List.length_replicate, back, inl, inls, reduceIte, Nat.reduceAdd, Nat.reduceSub, Nat.reduceLT, Nat.reduceLeDiff, Nat.zero_add, wipe, true_and, and_true, Bool.true_eq_false, Bool.false_eq_true, List.set_set, List.take_length, take_set_length, Bool.not_true, Bool.not_false, Int.reduceToNat, Int.reduceLE, Int.reduceLT, Int.reduceNeg, D.free, frees, Bool.and_true, Bool.true_and, Bool.and_self, Nat.reduceLeDiff, decide_true, decide_false, oAddI, oAddS, oAddT, oAddL, oAddA, oSub, oMulI, oMulS, oPow, oFdiv, oMod, oNeg, oLt, oLe, oGt, oGe, oIsN, oNotN, oIsB, oNotB, oIxT, oIxL, oIxS, oCutT_L, oCutT_R, oCutL_R, oLenT, oLenL, oLenS, oMax2, oMin2, oInt1, oStr1, oIsi, oInS, oIn2, oInK, oIxK, oEqI, oEqS, oEqB, oNeB, oNeI, oNeE2, oEqTE, oAll, oSum, oTuple, walkL, walkT, newL, ix0, ix1, ix2, ix3, ix4, ce3__law_drawn, rowD]
              exact hR
            · refine ⟨l4 _, frI _, ?_⟩
              show (match intsOf (l.map fun t => D.int (dp t)) with | some ns => _ | none => False)
              rw [ints_map (fun t => (dp t : Int))]
              refine ⟨by rw [List.length_map]; omega, fun m hm hle => ?_⟩
              have em := dps_max hm hle
              subst em
              try simp only [fresh, wSs, wS, wE, wEs, wC, asB, asI, List.map_cons, List.map_nil, List.replicate_succ, List.replicate_zero, List.append_nil, List.getElem?_cons_zero, List.getElem?_cons_succ, List.getElem?_nil, List.cons_append, List.nil_append, putT_n, putT_t, putTs_n, putTs_c, List.set_cons_zero, List.set_cons_succ, List.length_cons, List.length_nil, List.length_set, List.length_replicate, back, inl, inls, reduceIte, Nat.reduceAdd, Nat.reduceSub, Nat.reduceLT, Nat.reduceLeDiff, Nat.zero_add, wipe, true_and, and_true, Bool.true_eq_false, Bool.false_eq_true, List.set_set, List.take_length, take_set_length, Bool.not_true, Bool.not_false, Int.reduceToNat, Int.reduceLE, Int.reduceLT, Int.reduceNeg, D.free, frees, Bool.and_true, Bool.true_and, Bool.and_self, Nat.reduceLeDiff, decide_true, decide_false, oAddI, oAddS, oAddT, oAddL, oAddA, oSub, oMulI, oMulS, oPow, oFdiv, oMod, oNeg, oLt, oLe, oGt, oGe, oIsN, oNotN, oIsB, oNotB, oIxT, oIxL, oIxS, oCutT_L, oCutT_R, oCutL_R, oLenT, oLenL, oLenS, oMax2, oMin2, oInt1, oStr1, oIsi, oInS, oIn2, oInK, oIxK, oEqI, oEqS, oEqB, oNeB, oNeI, oNeE2, oEqTE, oAll, oSum, oTuple, walkL, walkT, newL, ix0, ix1, ix2, ix3, ix4, inls_free frl]
              obtain ⟨f1, f2, f3⟩ := node_fine hw hl (fun t ht => (e3 t ht).1) w12
              have := hq (.tup (.str w :: l)) o f1 (by
                rw [f3]
                have := (dps_le l (k + 1)).mpr fun t ht => (e3 t ht).2
                omega) (e5.mono (by omega))
              unfold rowD at this
              rw [f2, f3] at this
              rw [sum_cast]
              refine ⟨by decide, ?_⟩
              simpa using this
      · obtain ⟨l, o, rfl, e2, e3, rfl, e5⟩ := h
        rw [List.length_cons] at e2 e5
        try simp only [fresh, wSs, wS, wE, wEs, wC, asB, asI, List.map_cons, List.map_nil, List.replicate_succ, List.replicate_zero, List.append_nil, List.getElem?_cons_zero, List.getElem?_cons_succ, List.getElem?_nil, List.cons_append, List.nil_append, putT_n, putT_t, putTs_n, putTs_c, List.set_cons_zero, List.set_cons_succ, List.length_cons, List.length_nil, List.length_set, List.length_replicate, back, inl, inls, reduceIte, Nat.reduceAdd, Nat.reduceSub, Nat.reduceLT, Nat.reduceLeDiff, Nat.zero_add, wipe, true_and, and_true, Bool.true_eq_false, Bool.false_eq_true, List.set_set, List.take_length, take_set_length, Bool.not_true, Bool.not_false, Int.reduceToNat, Int.reduceLE, Int.reduceLT, Int.reduceNeg, D.free, frees, Bool.and_true, Bool.true_and, Bool.and_self, Nat.reduceLeDiff, decide_true, decide_false, oAddI, oAddS, oAddT, oAddL, oAddA, oSub, oMulI, oMulS, oPow, oFdiv, oMod, oNeg, oLt, oLe, oGt, oGe, oIsN, oNotN, oIsB, oNotB, oIxT, oIxL, oIxS, oCutT_L, oCutT_R, oCutL_R, oLenT, oLenL, oLenS, oMax2, oMin2, oInt1, oStr1, oIsi, oInS, oIn2, oInK, oIxK, oEqI, oEqS, oEqB, oNeB, oNeI, oNeE2, oEqTE, oAll, oSum, oTuple, walkL, walkT, newL, ix0, ix1, ix2, ix3, ix4, ce0__law_drawn]
        rw [show ((k + 1 + 1 : Nat) : Int) - 1 = (k + 1 : Nat) by omega]
        refine w_drawn k (N := N + r.length * (20 * 5 ^ k)) (feedAt hi (by rw [Nat.succ_mul] at e5; exact e5.mono (by omega))) fun t o2 ft dt ho2 => ?_
        try simp only [fresh, wSs, wS, wE, wEs, wC, asB, asI, List.map_cons, List.map_nil, List.replicate_succ, List.replicate_zero, List.append_nil, List.getElem?_cons_zero, List.getElem?_cons_succ, List.getElem?_nil, List.cons_append, List.nil_append, putT_n, putT_t, putTs_n, putTs_c, List.set_cons_zero, List.set_cons_succ, List.length_cons, List.length_nil, List.length_set, List.length_replicate, back, inl, inls, reduceIte, Nat.reduceAdd, Nat.reduceSub, Nat.reduceLT, Nat.reduceLeDiff, Nat.zero_add, wipe, true_and, and_true, Bool.true_eq_false, Bool.false_eq_true, List.set_set, List.take_length, take_set_length, Bool.not_true, Bool.not_false, Int.reduceToNat, Int.reduceLE, Int.reduceLT, Int.reduceNeg, D.free, frees, Bool.and_true, Bool.true_and, Bool.and_self, Nat.reduceLeDiff, decide_true, decide_false, oAddI, oAddS, oAddT, oAddL, oAddA, oSub, oMulI, oMulS, oPow, oFdiv, oMod, oNeg, oLt, oLe, oGt, oGe, oIsN, oNotN, oIsB, oNotB, oIxT, oIxL, oIxS, oCutT_L, oCutT_R, oCutL_R, oLenT, oLenL, oLenS, oMax2, oMin2, oInt1, oStr1, oIsi, oInS, oIn2, oInK, oIxK, oEqI, oEqS, oEqB, oNeB, oNeI, oNeE2, oEqTE, oAll, oSum, oTuple, walkL, walkT, newL, ix0, ix1, ix2, ix3, ix4]
        refine k1 _ _ ?_ ?_ ⟨l ++ [t], o2, by simp, by rw [List.length_append, List.length_singleton]; omega, fun y hy => ?_, rfl, ho2⟩
        · show (t.free && true) = true
          rw [tidy_free ft.2]
          rfl
        · rw [List.length_map]; show l.length < 16777216; omega
        · rcases List.mem_append.mp hy with h | h
          · exact e3 y h
          · rw [List.mem_singleton.mp h]; exact ⟨ft, dt⟩
      · rw [List.length_map, List.length_range]
        show feedO (N + (Int.toNat (ar w : Nat)) * (20 * 5 ^ k)) o
        have : (Int.toNat (ar w : Nat)) * (20 * 5 ^ k) ≤ 4 * (20 * 5 ^ k) := Nat.mul_le_mul_right _ (by omega)
        exact ho.mono (by omega)
theorem kind2 {x : D} (h : x ∈ [D.str "fst", D.str "snd"]) : ∃ w : Str, x = .str w ∧ isNode w = true ∧ ar w = 1 ∧ w.length ≤ 12 := by
  simp at h
  rcases h with rfl | rfl <;> exact ⟨_, rfl, by decide, by decide, by decide⟩
theorem kind4 {x : D} (h : x ∈ [D.str "pi", D.str "fun", D.str "app", D.str "sig"]) : ∃ w : Str, x = .str w ∧ isNode w = true ∧ ar w = 2 ∧ w.length ≤ 12 := by
  simp at h
  rcases h with rfl | rfl | rfl | rfl <;> exact ⟨_, rfl, by decide, by decide, by decide⟩
theorem w_flat : ∀ (k : Nat) {n i N : Nat} {S : Store} {Q : Q1} {W : Str → Store → Prop} (m : Nat), 1 ≤ m → m < 2 ^ (k + 1) → FeedAt S i (N + 17 * m) → (∀ (t : D) (o : O), fine t → sz t = m → dp t ≤ k + 1 → feedO N o → Q (.tup [t, .int (dp t)]) (S.set i o)) → Run T (n + 5 + k) "_law_flat" [.loc i, .int m] S Q W := by
  intro k
  induction k with
  | zero =>
    intro n i N S Q W m h1 h2 hf hq
    have hi := hf.lt
    obtain rfl : m = 1 := by omega
    refine wp_of (n := n + 4) fn__law_flat rfl ?_
    try simp only [fresh, wSs, wS, wE, wEs, wC, asB, asI, List.map_cons, List.map_nil, List.replicate_succ, List.replicate_zero, List.append_nil, List.getElem?_cons_zero, List.getElem?_cons_succ, List.getElem?_nil, List.cons_append, List.nil_append, putT_n, putT_t, putTs_n, putTs_c, List.set_cons_zero, List.set_cons_succ, List.length_cons, List.length_nil, List.length_set, List.length_replicate, back, inl, inls, reduceIte, Nat.reduceAdd, Nat.reduceSub, Nat.reduceLT, Nat.reduceLeDiff, Nat.zero_add, wipe, true_and, and_true, Bool.true_eq_false, Bool.false_eq_true, List.set_set, List.take_length, take_set_length, Bool.not_true, Bool.not_false, Int.reduceToNat, Int.reduceLE, Int.reduceLT, Int.reduceNeg, D.free, frees, Bool.and_true, Bool.true_and, Bool.and_self, Nat.reduceLeDiff, decide_true, decide_false, oAddI, oAddS, oAddT, oAddL, oAddA, oSub, oMulI, oMulS, oPow, oFdiv, oMod, oNeg, oLt, oLe, oGt, oGe, oIsN, oNotN, oIsB, oNotB, oIxT, oIxL, oIxS, oCutT_L, oCutT_R, oCutL_R, oLenT, oLenL, oLenS, oMax2, oMin2, oInt1, oStr1, oIsi, oInS, oIn2, oInK, oIxK, oEqI, oEqS, oEqB, oNeB, oNeI, oNeE2, oEqTE, oAll, oSum, oTuple, walkL, walkT, newL, ix0, ix1, ix2, ix3, ix4, f__law_flat, b__law_flat]
    rw [if_pos (show decide (((1 : Nat) : Int) < 3) = true by decide)]
    refine leafM (N := N + 2) (by omega) hf fun d o hd e1 e2 ho => ?_
    try simp only [fresh, wSs, wS, wE, wEs, wC, asB, asI, List.map_cons, List.map_nil, List.replicate_succ, List.replicate_zero, List.append_nil, List.getElem?_cons_zero, List.getElem?_cons_succ, List.getElem?_nil, List.cons_append, List.nil_append, putT_n, putT_t, putTs_n, putTs_c, List.set_cons_zero, List.set_cons_succ, List.length_cons, List.length_nil, List.length_set, List.length_replicate, back, inl, inls, reduceIte, Nat.reduceAdd, Nat.reduceSub, Nat.reduceLT, Nat.reduceLeDiff, Nat.zero_add, wipe, true_and, and_true, Bool.true_eq_false, Bool.false_eq_true, List.set_set, List.take_length, take_set_length, Bool.not_true, Bool.not_false, Int.reduceToNat, Int.reduceLE, Int.reduceLT, Int.reduceNeg, D.free, frees, Bool.and_true, Bool.true_and, Bool.and_self, Nat.reduceLeDiff, decide_true, decide_false, oAddI, oAddS, oAddT, oAddL, oAddA, oSub, oMulI, oMulS, oPow, oFdiv, oMod, oNeg, oLt, oLe, oGt, oGe, oIsN, oNotN, oIsB, oNotB, oIxT, oIxL, oIxS, oCutT_L, oCutT_R, oCutL_R, oLenT, oLenL, oLenS, oMax2, oMin2, oInt1, oStr1, oIsi, oInS, oIn2, oInK, oIxK, oEqI, oEqS, oEqB, oNeB, oNeI, oNeE2, oEqTE, oAll, oSum, oTuple, walkL, walkT, newL, ix0, ix1, ix2, ix3, ix4]
    rw [if_pos (show (((1 : Nat) : Int) == 1) = true by decide)]
    have := hq d o hd e1 (by omega) (ho.mono (by omega))
    rw [e2] at this
    refine ⟨by decide, ?_⟩
    rw [inl_free (tidy_free hd.2)]
    exact this
  | succ k ih =>
    intro n i N S Q W m h1 h2 hf hq
    have hi := hf.lt
    refine wp_of (n := n + 5 + k) fn__law_flat rfl ?_
    try simp only [fresh, wSs, wS, wE, wEs, wC, asB, asI, List.map_cons, List.map_nil, List.replicate_succ, List.replicate_zero, List.append_nil, List.getElem?_cons_zero, List.getElem?_cons_succ, List.getElem?_nil, List.cons_append, List.nil_append, putT_n, putT_t, putTs_n, putTs_c, List.set_cons_zero, List.set_cons_succ, List.length_cons, List.length_nil, List.length_set, List.length_replicate, back, inl, inls, reduceIte, Nat.reduceAdd, Nat.reduceSub, Nat.reduceLT, Nat.reduceLeDiff, Nat.zero_add, wipe, true_and, and_true, Bool.true_eq_false, Bool.false_eq_true, List.set_set, List.take_length, take_set_length, Bool.not_true, Bool.not_false, Int.reduceToNat, Int.reduceLE, Int.reduceLT, Int.reduceNeg, D.free, frees, Bool.and_true, Bool.true_and, Bool.and_self, Nat.reduceLeDiff, decide_true, decide_false, oAddI, oAddS, oAddT, oAddL, oAddA, oSub, oMulI, oMulS, oPow, oFdiv, oMod, oNeg, oLt, oLe, oGt, oGe, oIsN, oNotN, oIsB, oNotB, oIxT, oIxL, oIxS, oCutT_L, oCutT_R, oCutL_R, oLenT, oLenL, oLenS, oMax2, oMin2, oInt1, oStr1, oIsi, oInS, oIn2, oInK, oIxK, oEqI, oEqS, oEqB, oNeB, oNeI, oNeE2, oEqTE, oAll, oSum, oTuple, walkL, walkT, newL, ix0, ix1, ix2, ix3, ix4, f__law_flat, b__law_flat]
    split
    · rename_i c
      have c := of_decide_eq_true c
      refine leafM (N := N + 2) (by omega) (hf.mono (by omega)) fun d o hd e1 e2 ho => ?_
      try simp only [fresh, wSs, wS, wE, wEs, wC, asB, asI, List.map_cons, List.map_nil, List.replicate_succ, List.replicate_zero, List.append_nil, List.getElem?_cons_zero, List.getElem?_cons_succ, List.getElem?_nil, List.cons_append, List.nil_append, putT_n, putT_t, putTs_n, putTs_c, List.set_cons_zero, List.set_cons_succ, List.length_cons, List.length_nil, List.length_set, List.length_replicate, back, inl, inls, reduceIte, Nat.reduceAdd, Nat.reduceSub, Nat.reduceLT, Nat.reduceLeDiff, Nat.zero_add, wipe, true_and, and_true, Bool.true_eq_false, Bool.false_eq_true, List.set_set, List.take_length, take_set_length, Bool.not_true, Bool.not_false, Int.reduceToNat, Int.reduceLE, Int.reduceLT, Int.reduceNeg, D.free, frees, Bool.and_true, Bool.true_and, Bool.and_self, Nat.reduceLeDiff, decide_true, decide_false, oAddI, oAddS, oAddT, oAddL, oAddA, oSub, oMulI, oMulS, oPow, oFdiv, oMod, oNeg, oLt, oLe, oGt, oGe, oIsN, oNotN, oIsB, oNotB, oIxT, oIxL, oIxS, oCutT_L, oCutT_R, oCutL_R, oLenT, oLenL, oLenS, oMax2, oMin2, oInt1, oStr1, oIsi, oInS, oIn2, oInK, oIxK, oEqI, oEqS, oEqB, oNeB, oNeI, oNeE2, oEqTE, oAll, oSum, oTuple, walkL, walkT, newL, ix0, ix1, ix2, ix3, ix4]
      split
      · rename_i c2
        obtain rfl : m = 1 := by have := beq_iff_eq.mp c2; omega
        have := hq d o hd e1 (by omega) (ho.mono (by omega))
        rw [e2] at this
        refine ⟨by decide, ?_⟩
        rw [inl_free (tidy_free hd.2)]
        exact this
      · rename_i c2
        obtain rfl : m = 2 := by
          have : (m : Int) ≠ 1 := fun z => c2 (beq_iff_eq.mpr z)
          omega
        refine ⟨by decide, oneLM (N := N + 1) (by omega) (feedAt hi ho) (by simp) (by simp) (by rfl) fun x o2 hx ho2 => ?_⟩
        obtain ⟨w, rfl, w1, w2, w3⟩ := kind2 hx
        try simp only [fresh, wSs, wS, wE, wEs, wC, asB, asI, List.map_cons, List.map_nil, List.replicate_succ, List.replicate_zero, List.append_nil, List.getElem?_cons_zero, List.getElem?_cons_succ, List.getElem?_nil, List.cons_append, List.nil_append, putT_n, putT_t, putTs_n, putTs_c, List.set_cons_zero, List.set_cons_succ, List.length_cons, List.length_nil, List.length_set, List.length_replicate, back, inl, inls, reduceIte, Nat.reduceAdd, Nat.reduceSub, Nat.reduceLT, Nat.reduceLeDiff, Nat.zero_add, wipe, true_and, and_true, Bool.true_eq_false, Bool.false_eq_true, List.set_set, List.take_length, take_set_length, Bool.not_true, Bool.not_false, Int.reduceToNat, Int.reduceLE, Int.reduceLT, Int.reduceNeg, D.free, frees, Bool.and_true, Bool.true_and, Bool.and_self, Nat.reduceLeDiff, decide_true, decide_false, oAddI, oAddS, oAddT, oAddL, oAddA, oSub, oMulI, oMulS, oPow, oFdiv, oMod, oNeg, oLt, oLe, oGt, oGe, oIsN, oNotN, oIsB, oNotB, oIxT, oIxL, oIxS, oCutT_L, oCutT_R, oCutL_R, oLenT, oLenL, oLenS, oMax2, oMin2, oInt1, oStr1, oIsi, oInS, oIn2, oInK, oIxK, oEqI, oEqS, oEqB, oNeB, oNeI, oNeE2, oEqTE, oAll, oSum, oTuple, walkL, walkT, newL, ix0, ix1, ix2, ix3, ix4, inl_free (tidy_free hd.2)]
        obtain ⟨f1, f2, f3⟩ := node_fine (l := [d]) w1 (by rw [w2]; rfl) (fun t ht => by rw [List.mem_singleton.mp ht]; exact hd) w3
        have d2 : dp (.tup [.str w, d]) = 2 := by rw [f3]; show 1 + max (dp d) 0 = 2; omega
        have := hq (.tup [.str w, d]) o2 f1 (by rw [f2]; simp [e1]) (by omega) (ho2.mono (by omega))
        rw [d2] at this
        exact ⟨by decide, by decide, this⟩
    · rename_i c
      have c : 3 ≤ m := by
        have := of_decide_eq_false (Bool.eq_false_iff.mpr c)
        omega
      have p2 : 2 ^ (k + 1 + 1) = 2 * 2 ^ (k + 1) := by rw [Nat.pow_succ 2 (k + 1)]; omega
      rw [show ((m : Int) - 1) / 2 = (((m - 1) / 2 : Nat) : Int) by omega]
      refine ⟨by decide, ih (N := N + 1 + 17 * (m - 1 - (m - 1) / 2)) ((m - 1) / 2) (by omega) (by omega) (hf.mono (by omega)) fun t o ft st dt ho => ?_⟩
      try simp only [fresh, wSs, wS, wE, wEs, wC, asB, asI, List.map_cons, List.map_nil, List.replicate_succ, List.replicate_zero, List.append_nil, List.getElem?_cons_zero, List.getElem?_cons_succ, List.getElem?_nil, List.cons_append, List.nil_append, putT_n, putT_t, putTs_n, putTs_c, List.set_cons_zero, List.set_cons_succ, List.length_cons, List.length_nil, List.length_set, List.length_replicate, back, inl, inls, reduceIte, Nat.reduceAdd, Nat.reduceSub, Nat.reduceLT, Nat.reduceLeDiff, Nat.zero_add, wipe, true_and, and_true, Bool.true_eq_false, Bool.false_eq_true, List.set_set, List.take_length, take_set_length, Bool.not_true, Bool.not_false, Int.reduceToNat, Int.reduceLE, Int.reduceLT, Int.reduceNeg, D.free, frees, Bool.and_true, Bool.true_and, Bool.and_self, Nat.reduceLeDiff, decide_true, decide_false, oAddI, oAddS, oAddT, oAddL, oAddA, oSub, oMulI, oMulS, oPow, oFdiv, oMod, oNeg, oLt, oLe, oGt, oGe, oIsN, oNotN, oIsB, oNotB, oIxT, oIxL, oIxS, oCutT_L, oCutT_R, oCutL_R, oLenT, oLenL, oLenS, oMax2, oMin2, oInt1, oStr1, oIsi, oInS, oIn2, oInK, oIxK, oEqI, oEqS, oEqB, oNeB, oNeI, oNeE2, oEqTE, oAll, oSum, oTuple, walkL, walkT, newL, ix0, ix1, ix2, ix3, ix4]
      rw [show ((m : Int) - 1) - (((m - 1) / 2 : Nat) : Int) = ((m - 1 - (m - 1) / 2 : Nat) : Int) by omega]
      refine ⟨by decide, ih (N := N + 1) (m - 1 - (m - 1) / 2) (by omega) (by omega) (feedAt hi ho) fun t2 o2 ft2 st2 dt2 ho2 => ?_⟩
      try simp only [fresh, wSs, wS, wE, wEs, wC, asB, asI, List.map_cons, List.map_nil, List.replicate_succ, List.replicate_zero, List.append_nil, List.getElem?_cons_zero, List.getElem?_cons_succ, List.getElem?_nil, List.cons_append, List.nil_append, putT_n, putT_t, putTs_n, putTs_c, List.set_cons_zero, List.set_cons_succ, List.length_cons, List.length_nil, List.length_set, List.length_replicate, back, inl, inls, reduceIte, Nat.reduceAdd, Nat.reduceSub, Nat.reduceLT, Nat.reduceLeDiff, Nat.zero_add, wipe, true_and, and_true, Bool.true_eq_false, Bool.false_eq_true, List.set_set, List.take_length, take_set_length, Bool.not_true, Bool.not_false, Int.reduceToNat, Int.reduceLE, Int.reduceLT, Int.reduceNeg, D.free, frees, Bool.and_true, Bool.true_and, Bool.and_self, Nat.reduceLeDiff, decide_true, decide_false, oAddI, oAddS, oAddT, oAddL, oAddA, oSub, oMulI, oMulS, oPow, oFdiv, oMod, oNeg, oLt, oLe, oGt, oGe, oIsN, oNotN, oIsB, oNotB, oIxT, oIxL, oIxS, oCutT_L, oCutT_R, oCutL_R, oLenT, oLenL, oLenS, oMax2, oMin2, oInt1, oStr1, oIsi, oInS, oIn2, oInK, oIxK, oEqI, oEqS, oEqB, oNeB, oNeI, oNeE2, oEqTE, oAll, oSum, oTuple, walkL, walkT, newL, ix0, ix1, ix2, ix3, ix4]
      refine ⟨by decide, oneLM (N := N) (by omega) (feedAt hi ho2) (by simp) (by simp) (by rfl) fun x o3 hx ho3 => ?_⟩
      obtain ⟨w, rfl, w1, w2, w3⟩ := kind4 hx
      try simp only [fresh, wSs, wS, wE, wEs, wC, asB, asI, List.map_cons, List.map_nil, List.replicate_succ, List.replicate_zero, List.append_nil, List.getElem?_cons_zero, List.getElem?_cons_succ, List.getElem?_nil, List.cons_append, List.nil_append, putT_n, putT_t, putTs_n, putTs_c, List.set_cons_zero, List.set_cons_succ, List.length_cons, List.length_nil, List.length_set, List.length_replicate, back, inl, inls, reduceIte, Nat.reduceAdd, Nat.reduceSub, Nat.reduceLT, Nat.reduceLeDiff, Nat.zero_add, wipe, true_and, and_true, Bool.true_eq_false, Bool.false_eq_true, List.set_set, List.take_length, take_set_length, Bool.not_true, Bool.not_false, Int.reduceToNat, Int.reduceLE, Int.reduceLT, Int.reduceNeg, D.free, frees, Bool.and_true, Bool.true_and, Bool.and_self, Nat.reduceLeDiff, decide_true, decide_false, oAddI, oAddS, oAddT, oAddL, oAddA, oSub, oMulI, oMulS, oPow, oFdiv, oMod, oNeg, oLt, oLe, oGt, oGe, oIsN, oNotN, oIsB, oNotB, oIxT, oIxL, oIxS, oCutT_L, oCutT_R, oCutL_R, oLenT, oLenL, oLenS, oMax2, oMin2, oInt1, oStr1, oIsi, oInS, oIn2, oInK, oIxK, oEqI, oEqS, oEqB, oNeB, oNeI, oNeE2, oEqTE, oAll, oSum, oTuple, walkL, walkT, newL, ix0, ix1, ix2, ix3, ix4, inl_free (tidy_free ft.2), inl_free (tidy_free ft2.2)]
      obtain ⟨f1, f2, f3⟩ := node_fine (l := [t, t2]) w1 (by rw [w2]; rfl) (fun y hy => by
        rcases List.mem_cons.mp hy with e | e
        · rw [e]; exact ft
        · rw [List.mem_singleton.mp e]; exact ft2) w3
      have d3 : dp (.tup [.str w, t, t2]) = 1 + max (dp t) (dp t2) := by rw [f3]; show 1 + max (dp t) (max (dp t2) 0) = _; omega
      have := hq (.tup [.str w, t, t2]) o3 f1 (by rw [f2]; simp; omega) (by omega) ho3
      rw [d3] at this
      refine ⟨by decide, by decide, ?_⟩
      rw [show (1 : Int) + (if (dp t2 : Int) > (dp t : Int) then (dp t2 : Int) else (dp t : Int)) = ((1 + max (dp t) (dp t2) : Nat) : Int) by split <;> omega]
      exact this
theorem w_thin {m : Nat} (h1 : 1 ≤ m) (h2 : m ≤ 100) (hf : FeedAt S i (N + 15 + 62 * m)) (hq : ∀ (t : D) (o : O), fine t → dp t = m → feedO N o → Q (.tup [t, .int (sz t)]) (S.set i o)) : Run T (n + 6) "_law_thin" [.loc i, .int m] S Q W := by
  have hi := hf.lt
  refine wp_of fn__law_thin rfl ?_
  try simp only [fresh, wSs, wS, wE, wEs, wC, asB, asI, List.map_cons, List.map_nil, List.replicate_succ, List.replicate_zero, List.append_nil, List.getElem?_cons_zero, List.getElem?_cons_succ, List.getElem?_nil, List.cons_append, List.nil_append, putT_n, putT_t, putTs_n, putTs_c, List.set_cons_zero, List.set_cons_succ, List.length_cons, List.length_nil, List.length_set, List.length_replicate, back, inl, inls, reduceIte, Nat.reduceAdd, Nat.reduceSub, Nat.reduceLT, Nat.reduceLeDiff, Nat.zero_add, wipe, true_and, and_true, Bool.true_eq_false, Bool.false_eq_true, List.set_set, List.take_length, take_set_length, Bool.not_true, Bool.not_false, Int.reduceToNat, Int.reduceLE, Int.reduceLT, Int.reduceNeg, D.free, frees, Bool.and_true, Bool.true_and, Bool.and_self, Nat.reduceLeDiff, decide_true, decide_false, oAddI, oAddS, oAddT, oAddL, oAddA, oSub, oMulI, oMulS, oPow, oFdiv, oMod, oNeg, oLt, oLe, oGt, oGe, oIsN, oNotN, oIsB, oNotB, oIxT, oIxL, oIxS, oCutT_L, oCutT_R, oCutL_R, oLenT, oLenL, oLenS, oMax2, oMin2, oInt1, oStr1, oIsi, oInS, oIn2, oInK, oIxK, oEqI, oEqS, oEqB, oNeB, oNeI, oNeE2, oEqTE, oAll, oSum, oTuple, walkL, walkT, newL, ix0, ix1, ix2, ix3, ix4, f__law_thin, b__law_thin]
  refine leafM (N := N + 62 * m) (by omega) (hf.mono (by omega)) fun d o hd e1 e2 ho => ?_
  try simp only [fresh, wSs, wS, wE, wEs, wC, asB, asI, List.map_cons, List.map_nil, List.replicate_succ, List.replicate_zero, List.append_nil, List.getElem?_cons_zero, List.getElem?_cons_succ, List.getElem?_nil, List.cons_append, List.nil_append, putT_n, putT_t, putTs_n, putTs_c, List.set_cons_zero, List.set_cons_succ, List.length_cons, List.length_nil, List.length_set, List.length_replicate, back, inl, inls, reduceIte, Nat.reduceAdd, Nat.reduceSub, Nat.reduceLT, Nat.reduceLeDiff, Nat.zero_add, wipe, true_and, and_true, Bool.true_eq_false, Bool.false_eq_true, List.set_set, List.take_length, take_set_length, Bool.not_true, Bool.not_false, Int.reduceToNat, Int.reduceLE, Int.reduceLT, Int.reduceNeg, D.free, frees, Bool.and_true, Bool.true_and, Bool.and_self, Nat.reduceLeDiff, decide_true, decide_false, oAddI, oAddS, oAddT, oAddL, oAddA, oSub, oMulI, oMulS, oPow, oFdiv, oMod, oNeg, oLt, oLe, oGt, oGe, oIsN, oNotN, oIsB, oNotB, oIxT, oIxL, oIxS, oCutT_L, oCutT_R, oCutL_R, oLenT, oLenL, oLenS, oMax2, oMin2, oInt1, oStr1, oIsi, oInS, oIn2, oInK, oIxK, oEqI, oEqS, oEqB, oNeB, oNeI, oNeE2, oEqTE, oAll, oSum, oTuple, walkL, walkT, newL, ix0, ix1, ix2, ix3, ix4, walk2 (show (0 : Int) ≤ (m : Int) - 1 by omega) (show (m : Int) - 1 < 4611686018427387904 by omega)]
  refine ⟨by decide, forW_inv (fun rest σ S' => ∃ (t : D) (x4 x5 x6 x7 : Option D) (o : O) (G : Store), σ = [some (.loc i), some (.int m), some t, some (.int (sz t)), x4, x5, x6, x7, none] ∧ S' = S.set i o ++ G ∧ fine t ∧ dp t + rest.length = m ∧ feedO (N + rest.length * 62) o) (fun _ _ _ _ => trivial) (fun σ S' h => ?_) (fun x rest σ S' K h hK => ?_) _ _ _ ⟨d, none, none, none, none, o, [], by rw [e1]; rfl, by rw [List.append_nil], hd, ?_, ?_⟩⟩
  · obtain ⟨t, x4, x5, x6, x7, o, G, rfl, rfl, ft, dt, ho⟩ := h
    try simp only [fresh, wSs, wS, wE, wEs, wC, asB, asI, List.map_cons, List.map_nil, List.replicate_succ, List.replicate_zero, List.append_nil, List.getElem?_cons_zero, List.getElem?_cons_succ, List.getElem?_nil, List.cons_append, List.nil_append, putT_n, putT_t, putTs_n, putTs_c, List.set_cons_zero, List.set_cons_succ, List.length_cons, List.length_nil, List.length_set, List.length_replicate, back, inl, inls, reduceIte, Nat.reduceAdd, Nat.reduceSub, Nat.reduceLT, Nat.reduceLeDiff, Nat.zero_add, wipe, true_and, and_true, Bool.true_eq_false, Bool.false_eq_true, List.set_set, List.take_length, take_set_length, Bool.not_true, Bool.not_false, Int.reduceToNat, Int.reduceLE, Int.reduceLT, Int.reduceNeg, D.free, frees, Bool.and_true, Bool.true_and, Bool.and_self, Nat.reduceLeDiff, decide_true, decide_false, oAddI, oAddS, oAddT, oAddL, oAddA, oSub, oMulI, oMulS, oPow, oFdiv, oMod, oNeg, oLt, oLe, oGt, oGe, oIsN, oNotN, oIsB, oNotB, oIxT, oIxL, oIxS, oCutT_L, oCutT_R, oCutL_R, oLenT, oLenL, oLenS, oMax2, oMin2, oInt1, oStr1, oIsi, oInS, oIn2, oInK, oIxK, oEqI, oEqS, oEqB, oNeB, oNeI, oNeE2, oEqTE, oAll, oSum, oTuple, walkL, walkT, newL, ix0, ix1, ix2, ix3, ix4, takeG, inl_free (tidy_free ft.2)]
    exact ⟨by decide, hq t o ft (by simpa using dt) (by simpa using ho)⟩
  · obtain ⟨t, x4, x5, x6, x7, o, G, rfl, rfl, ft, dt, ho⟩ := h
    rw [List.length_cons] at dt ho
    try simp only [fresh, wSs, wS, wE, wEs, wC, asB, asI, List.map_cons, List.map_nil, List.replicate_succ, List.replicate_zero, List.append_nil, List.getElem?_cons_zero, List.getElem?_cons_succ, List.getElem?_nil, List.cons_append, List.nil_append, putT_n, putT_t, putTs_n, putTs_c, List.set_cons_zero, List.set_cons_succ, List.length_cons, List.length_nil, List.length_set, List.length_replicate, back, inl, inls, reduceIte, Nat.reduceAdd, Nat.reduceSub, Nat.reduceLT, Nat.reduceLeDiff, Nat.zero_add, wipe, true_and, and_true, Bool.true_eq_false, Bool.false_eq_true, List.set_set, List.take_length, take_set_length, Bool.not_true, Bool.not_false, Int.reduceToNat, Int.reduceLE, Int.reduceLT, Int.reduceNeg, D.free, frees, Bool.and_true, Bool.true_and, Bool.and_self, Nat.reduceLeDiff, decide_true, decide_false, oAddI, oAddS, oAddT, oAddL, oAddA, oSub, oMulI, oMulS, oPow, oFdiv, oMod, oNeg, oLt, oLe, oGt, oGe, oIsN, oNotN, oIsB, oNotB, oIxT, oIxL, oIxS, oCutT_L, oCutT_R, oCutL_R, oLenT, oLenL, oLenS, oMax2, oMin2, oInt1, oStr1, oIsi, oInS, oIn2, oInK, oIxK, oEqI, oEqS, oEqB, oNeB, oNeI, oNeE2, oEqTE, oAll, oSum, oTuple, walkL, walkT, newL, ix0, ix1, ix2, ix3, ix4, lp0__law_thin]
    refine ⟨by decide, by decide, by decide, by decide, by decide, by decide, by decide, by decide, oneLM (xs := menu) (N := N + rest.length * 62 + 61) (by omega) (feedG hi (ho.mono (by omega))) (by decide) (by decide) (by rfl) fun x o2 hx ho2 => ?_⟩
    obtain ⟨w, rfl, hw, a1, a4, w12⟩ := menu_mem hx
    try simp only [fresh, wSs, wS, wE, wEs, wC, asB, asI, List.map_cons, List.map_nil, List.replicate_succ, List.replicate_zero, List.append_nil, List.getElem?_cons_zero, List.getElem?_cons_succ, List.getElem?_nil, List.cons_append, List.nil_append, putT_n, putT_t, putTs_n, putTs_c, List.set_cons_zero, List.set_cons_succ, List.length_cons, List.length_nil, List.length_set, List.length_replicate, back, inl, inls, reduceIte, Nat.reduceAdd, Nat.reduceSub, Nat.reduceLT, Nat.reduceLeDiff, Nat.zero_add, wipe, true_and, and_true, Bool.true_eq_false, Bool.false_eq_true, List.set_set, List.take_length, take_set_length, Bool.not_true, Bool.not_false, Int.reduceToNat, Int.reduceLE, Int.reduceLT, Int.reduceNeg, D.free, frees, Bool.and_true, Bool.true_and, Bool.and_self, Nat.reduceLeDiff, decide_true, decide_false, oAddI, oAddS, oAddT, oAddL, oAddA, oSub, oMulI, oMulS, oPow, oFdiv, oMod, oNeg, oLt, oLe, oGt, oGe, oIsN, oNotN, oIsB, oNotB, oIxT, oIxL, oIxS, oCutT_L, oCutT_R, oCutL_R, oLenT, oLenL, oLenS, oMax2, oMin2, oInt1, oStr1, oIsi, oInS, oIn2, oInK, oIxK, oEqI, oEqS, oEqB, oNeB, oNeI, oNeE2, oEqTE, oAll, oSum, oTuple, walkL, walkT, newL, ix0, ix1, ix2, ix3, ix4, setG hi, walk2 (show (0 : Int) ≤ (ar w : Nat) by omega) (show ((ar w : Nat) : Int) < 4611686018427387904 by omega)]
    refine ⟨by decide, compW_inv (fun r a S' => ∃ (l : List D) (o : O), l = a ∧ l.length + r.length = ar w ∧ (∀ t ∈ l, fine t ∧ sz t = 1 ∧ dp t = 1) ∧ S' = S.set i o ++ G ∧ feedO (N + rest.length * 62 + 1 + r.length * 15) o) (fun _ _ _ _ => trivial) (fun a S' h => ?_) (fun x r a S' R h k1 k2 => ?_) _ _ _ ⟨[], o2, rfl, by rw [List.length_map, List.length_range]; show 0 + (Int.toNat (ar w : Nat)) = ar w; omega, fun _ h => absurd h (by simp), rfl, ?_⟩⟩
    · obtain ⟨l, o3, rfl, g2, g3, rfl, g5⟩ := h
      have hl : l.length = ar w := by simpa using g2
      have frl : frees l = true := frees_of fun t ht => tidy_free (g3 t ht).1.2
      try simp only [fresh, wSs, wS, wE, wEs, wC, asB, asI, List.map_cons, List.map_nil, List.replicate_succ, List.replicate_zero, List.append_nil, List.getElem?_cons_zero, List.getElem?_cons_succ, List.getElem?_nil, List.cons_append, List.nil_append, putT_n, putT_t, putTs_n, putTs_c, List.set_cons_zero, List.set_cons_succ, List.length_cons, List.length_nil, List.length_set, List.length_replicate, back, inl, inls, reduceIte, Nat.reduceAdd, Nat.reduceSub, Nat.reduceLT, Nat.reduceLeDiff, Nat.zero_add, wipe, true_and, and_true, Bool.true_eq_false, Bool.false_eq_true, List.set_set, List.take_length, take_set_length, Bool.not_true, Bool.not_false, Int.reduceToNat, Int.reduceLE, Int.reduceLT, Int.reduceNeg, D.free, frees, Bool.and_true, Bool.true_and, Bool.and_self, Nat.reduceLeDiff, decide_true, decide_false, oAddI, oAddS, oAddT, oAddL, oAddA, oSub, oMulI, oMulS, oPow, oFdiv, oMod, oNeg, oLt, oLe, oGt, oGe, oIsN, oNotN, oIsB, oNotB, oIxT, oIxL, oIxS, oCutT_L, oCutT_R, oCutL_R, oLenT, oLenL, oLenS, oMax2, oMin2, oInt1, oStr1, oIsi, oInS, oIn2, oInK, oIxK, oEqI, oEqS, oEqB, oNeB, oNeI, oNeE2, oEqTE, oAll, oSum, oTuple, walkL, walkT, newL, ix0, ix1, ix2, ix3, ix4]
      refine ⟨by show l.length ≤ 16777216; omega, frl, ?_⟩
      rw [List.append_assoc]
      refine drM (N := N + rest.length * 62) (by omega) (feedG hi (g5.mono (by simp))) (by omega) (by omega) fun r o4 r0 r1 ho4 => ?_
      rw [setG hi, ← List.append_assoc]
      have eg : ((S.set i o4 ++ G) ++ [O.lst l])[(S.set i o3 ++ G).length]? = some (O.lst l) := by
        rw [show (S.set i o3 ++ G).length = (S.set i o4 ++ G).length by simp]
        exact getApp
      have el : (S.set i o3 ++ G).length = (S.set i o4 ++ G).length := by simp
      rw [el] at eg ⊢
      have hr : r.toNat < l.length := by omega
      try simp only [fresh, wSs, wS, wE, wEs, wC, asB, asI, List.map_cons, List.map_nil, List.replicate_succ, List.replicate_zero, List.append_nil, List.getElem?_cons_zero, List.getElem?_cons_succ, List.getElem?_nil, List.cons_append, List.nil_append, putT_n, putT_t, putTs_n, putTs_c, List.set_cons_zero, List.set_cons_succ, List.length_cons, List.length_nil, List.length_set, List.length_replicate, back, inl, inls, reduceIte, Nat.reduceAdd, Nat.reduceSub, Nat.reduceLT, Nat.reduceLeDiff, Nat.zero_add, wipe, true_and, and_true, Bool.true_eq_false, Bool.false_eq_true, List.set_set, List.take_length, take_set_length, Bool.not_true, Bool.not_false, Int.reduceToNat, Int.reduceLE, Int.reduceLT, Int.reduceNeg, D.free, frees, Bool.and_true, Bool.true_and, Bool.and_self, Nat.reduceLeDiff, decide_true, decide_false, oAddI, oAddS, oAddT, oAddL, oAddA, oSub, oMulI, oMulS, oPow, oFdiv, oMod, oNeg, oLt, oLe, oGt, oGe, oIsN, oNotN, oIsB, oNotB, oIxT, oIxL, oIxS, oCutT_L, oCutT_R, oCutL_R, oLenT, oLenL, oLenS, oMax2, oMin2, oInt1, oStr1, oIsi, oInS, oIn2, oInK, oIxK, oEqI, oEqS, oEqB, oNeB, oNeI, oNeE2, oEqTE, oAll, oSum, oTuple, walkL, walkT, newL, ix0, ix1, ix2, ix3, ix4, eg, tidy_free ft.2]
      rw [setApp]
      refine ⟨r0, by omega, ?_⟩
      try simp only [fresh, wSs, wS, wE, wEs, wC, asB, asI, List.map_cons, List.map_nil, List.replicate_succ, List.replicate_zero, List.append_nil, List.getElem?_cons_zero, List.getElem?_cons_succ, List.getElem?_nil, List.cons_append, List.nil_append, putT_n, putT_t, putTs_n, putTs_c, List.set_cons_zero, List.set_cons_succ, List.length_cons, List.length_nil, List.length_set, List.length_replicate, back, inl, inls, reduceIte, Nat.reduceAdd, Nat.reduceSub, Nat.reduceLT, Nat.reduceLeDiff, Nat.zero_add, wipe, true_and, and_true, Bool.true_eq_false, Bool.false_eq_true, List.set_set, List.take_length, take_set_length, Bool.not_true, Bool.not_false, Int.reduceToNat, Int.reduceLE, Int.reduceLT, Int.reduceNeg, D.free, frees, Bool.and_true, Bool.true_and, Bool.and_self, Nat.reduceLeDiff, decide_true, decide_false, oAddI, oAddS, oAddT, oAddL, oAddA, oSub, oMulI, oMulS, oPow, oFdiv, oMod, oNeg, oLt, oLe, oGt, oGe, oIsN, oNotN, oIsB, oNotB, oIxT, oIxL, oIxS, oCutT_L, oCutT_R, oCutL_R, oLenT, oLenL, oLenS, oMax2, oMin2, oInt1, oStr1, oIsi, oInS, oIn2, oInK, oIxK, oEqI, oEqS, oEqB, oNeB, oNeI, oNeE2, oEqTE, oAll, oSum, oTuple, walkL, walkT, newL, ix0, ix1, ix2, ix3, ix4, oTupleO getApp]
      refine ⟨by decide, by simp, by show 1 + l.length ≤ 16777216; omega, ?_⟩
      have hall : ∀ y ∈ l.set r.toNat t, fine y := fun y hy => by
        rcases List.mem_or_eq_of_mem_set hy with h | h
        · exact (g3 y h).1
        · rw [h]; exact ft
      obtain ⟨f1, f2, f3⟩ := node_fine hw (l := l.set r.toNat t) (by rw [List.length_set]; exact hl) hall w12
      have sums : ∀ (l : List D) (j : Nat), j < l.length → (∀ t ∈ l, sz t = 1 ∧ dp t = 1) → ((l.set j t).map sz).sum + 1 = l.length + sz t ∧ dps (l.set j t) = dp t := by
        intro l
        induction l with
        | nil => intro j hj; simp at hj
        | cons y ys ih =>
          intro j hj h
          obtain ⟨y1, y2⟩ := h y List.mem_cons_self
          have hs : (ys.map sz).sum = ys.length ∧ dps ys ≤ 1 := by
            clear ih hj
            have h := fun t ht => h t (List.mem_cons_of_mem _ ht)
            induction ys with
            | nil => exact ⟨rfl, by decide⟩
            | cons z zs ih2 =>
              obtain ⟨z1, z2⟩ := h z List.mem_cons_self
              obtain ⟨i1, i2⟩ := ih2 (fun q hq => by
                rcases List.mem_cons.mp hq with e | e
                · rw [e]; exact ⟨y1, y2⟩
                · exact h q (List.mem_cons_of_mem _ e)) fun q hq => h q (List.mem_cons_of_mem _ hq)
              refine ⟨by rw [List.map_cons, List.sum_cons, List.length_cons, i1, z1]; omega, ?_⟩
              show max (dp z) (dps zs) ≤ 1
              omega
          cases j with
          | zero =>
            refine ⟨?_, ?_⟩
            · show ((t :: ys).map sz).sum + 1 = _
              rw [List.map_cons, List.sum_cons, List.length_cons, hs.1]
              omega
            · show max (dp t) (dps ys) = dp t
              have := dp_pos t
              omega
          | succ j =>
            obtain ⟨i1, i2⟩ := ih j (by rw [List.length_cons] at hj; omega) fun q hq => h q (List.mem_cons_of_mem _ hq)
            refine ⟨?_, ?_⟩
            · show ((y :: ys.set j t).map sz).sum + 1 = _
              rw [List.map_cons, List.sum_cons, List.length_cons, y1]
              omega
            · show max (dp y) (dps (ys.set j t)) = dp t
              have := dp_pos t
              omega
      obtain ⟨q1, q2⟩ := sums l r.toNat hr fun t ht => (g3 t ht).2
      refine hK _ (S.set i o4 ++ G ++ [O.lst (l.set r.toNat t)]) ⟨.tup (.str w :: l.set r.toNat t), some x, some (.str w), some (.int (ar w)), some (.loc (S.set i o4 ++ G).length), o4, G ++ [O.lst (l.set r.toNat t)], ?_, List.append_assoc _ _ _, f1, by rw [f3, q2]; omega, ho4⟩
      rw [f2, show ((1 + ((l.set r.toNat t).map sz).sum : Nat) : Int) = (sz t : Int) + (ar w : Int) by omega]
    · obtain ⟨l, o3, rfl, g2, g3, rfl, g5⟩ := h
      rw [List.length_cons] at g2 g5
      try simp only [fresh, wSs, wS, wE, wEs, wC, asB, asI, List.map_cons, List.map_nil, List.replicate_succ, List.replicate_zero, List.append_nil, List.getElem?_cons_zero, List.getElem?_cons_succ, List.getElem?_nil, List.cons_append, List.nil_append, putT_n, putT_t, putTs_n, putTs_c, List.set_cons_zero, List.set_cons_succ, List.length_cons, List.length_nil, List.length_set, List.length_replicate, back, inl, inls, reduceIte, Nat.reduceAdd, Nat.reduceSub, Nat.reduceLT, Nat.reduceLeDiff, Nat.zero_add, wipe, true_and, and_true, Bool.true_eq_false, Bool.false_eq_true, List.set_set, List.take_length, take_set_length, Bool.not_true, Bool.not_false, Int.reduceToNat, Int.reduceLE, Int.reduceLT, Int.reduceNeg, D.free, frees, Bool.and_true, Bool.true_and, Bool.and_self, Nat.reduceLeDiff, decide_true, decide_false, oAddI, oAddS, oAddT, oAddL, oAddA, oSub, oMulI, oMulS, oPow, oFdiv, oMod, oNeg, oLt, oLe, oGt, oGe, oIsN, oNotN, oIsB, oNotB, oIxT, oIxL, oIxS, oCutT_L, oCutT_R, oCutL_R, oLenT, oLenL, oLenS, oMax2, oMin2, oInt1, oStr1, oIsi, oInS, oIn2, oInK, oIxK, oEqI, oEqS, oEqB, oNeB, oNeI, oNeE2, oEqTE, oAll, oSum, oTuple, walkL, walkT, newL, ix0, ix1, ix2, ix3, ix4, ce0__law_thin]
      refine leafM (N := N + rest.length * 62 + 1 + r.length * 15) (by omega) (feedG hi (g5.mono (by omega))) fun y o4 fy y1 y2 ho4 => ?_
      rw [setG hi]
      refine k1 _ _ (tidy_free fy.2) (by show l.length < 16777216; omega) ⟨l ++ [y], o4, rfl, by rw [List.length_append, List.length_singleton]; omega, fun z hz => ?_, rfl, ho4⟩
      rcases List.mem_append.mp hz with h | h
      · exact g3 z h
      · rw [List.mem_singleton.mp h]; exact ⟨fy, y1, y2⟩
    · rw [List.length_map, List.length_range]
      show feedO (N + rest.length * 62 + 1 + (Int.toNat (ar w : Nat)) * 15) o2
      exact ho2.mono (by omega)
  · rw [List.length_map, List.length_range]
    omega
  · rw [List.length_map, List.length_range]
    exact ho.mono (by omega)
end
end K01
/-! K01ph: what the law bends. -/
namespace K01
open Y
section
variable {n i N : Nat} {S : Store} {Q : Q1} {W : Str → Store → Prop}
theorem wordL_all {l : List Nat} (h : wordL l = true) : ∀ c ∈ l, sgn c = true := by
  cases l with
  | nil => cases h
  | cons a r =>
    have h : (decide (r.length + 1 ≤ 12) && lets.contains a && (a :: r).all sgn) = true := h
    rw [Bool.and_eq_true] at h
    exact List.all_eq_true.mp h.2
theorem wordL_not {l : List Nat} {c : Nat} (hc : c ∈ l) (h : sgn c = false) : wordL l = false := by
  cases e : wordL l with
  | false => rfl
  | true => rw [wordL_all e c hc] at h; cases h
theorem wordL_head {c : Nat} {l : List Nat} (h : lets.contains c = false) : wordL (c :: l) = false := by
  show (decide (l.length + 1 ≤ 12) && lets.contains c && (c :: l).all sgn) = false
  rw [h, Bool.and_false]
  rfl
theorem wordL_long {l : List Nat} (h : 12 < l.length) : wordL l = false := by
  cases l with
  | nil => rfl
  | cons a r =>
    rw [List.length_cons] at h
    show (decide (r.length + 1 ≤ 12) && lets.contains a && (a :: r).all sgn) = false
    rw [decide_eq_false (by omega)]
    rfl
theorem wordL_pos {l : List Nat} (h : wordL l = true) : 0 < l.length ∧ l.length ≤ 12 := by
  cases l with
  | nil => cases h
  | cons a r =>
    have h : (decide (r.length + 1 ≤ 12) && lets.contains a && (a :: r).all sgn) = true := h
    simp only [Bool.and_eq_true] at h
    have := of_decide_eq_true h.1.1
    rw [List.length_cons]
    omega
def offs : Str := "AZ_ -.'/:\x40[{`~\n\t!"
theorem off_sgn : ∀ c ∈ offs.cps.toList, sgn c = false := by decide
theorem fig_let : ∀ c ∈ figs, lets.contains c = false := by decide
theorem len_mk (l : List Nat) : (⟨l.toArray⟩ : Str).length = l.length := by simp [PySem.Str.length]
def notWord (d : D) : Prop := wordB d = false ∧ tidy d = true
theorem nw_str {x : Str} (h : wordL x.cps.toList = false) (hl : x.length ≤ 100) : notWord (.str x) := ⟨h, decide_eq_true (by show x.length ≤ 16777216; omega)⟩
theorem w_bad_word (hf : FeedAt S i (N + 17)) (hq : ∀ (d : D) (o : O), notWord d → feedO N o → Q d (S.set i o)) : Run T (n + 4) "_law_bad_word" [.loc i] S Q W := by
  have hi := hf.lt
  refine wp_of fn__law_bad_word rfl ?_
  try simp only [fresh, wSs, wS, wE, wEs, wC, asB, asI, List.map_cons, List.map_nil, List.replicate_succ, List.replicate_zero, List.append_nil, List.getElem?_cons_zero, List.getElem?_cons_succ, List.getElem?_nil, List.cons_append, List.nil_append, putT_n, putT_t, putTs_n, putTs_c, List.set_cons_zero, List.set_cons_succ, List.length_cons, List.length_nil, List.length_set, List.length_replicate, back, inl, inls, reduceIte, Nat.reduceAdd, Nat.reduceSub, Nat.reduceLT, Nat.reduceLeDiff, Nat.zero_add, wipe, true_and, and_true, Bool.true_eq_false, Bool.false_eq_true, List.set_set, List.take_length, take_set_length, Bool.not_true, Bool.not_false, Int.reduceToNat, Int.reduceLE, Int.reduceLT, Int.reduceNeg, D.free, frees, Bool.and_true, Bool.true_and, Bool.and_self, Nat.reduceLeDiff, decide_true, decide_false, oAddI, oAddS, oAddT, oAddL, oAddA, oSub, oMulI, oMulS, oPow, oFdiv, oMod, oNeg, oLt, oLe, oGt, oGe, oIsN, oNotN, oIsB, oNotB, oIxT, oIxL, oIxS, oCutT_L, oCutT_R, oCutL_R, oCutS_L, oCutS_R, oUpper, oLenT, oLenL, oLenS, oMax2, oMin2, oInt1, oStr1, oIsi, oInS, oIn2, oInK, oIxK, oEqI, oEqS, oEqB, oNeB, oNeI, oNeE2, oEqTE, oAll, oSum, oTuple, oList1T, oList1L, walkL, walkT, newL, ix0, ix1, ix2, ix3, ix4, f__law_bad_word, b__law_bad_word]
  refine w_word (N := N + 4) hf fun w o hw hl ho => ?_
  obtain ⟨l0, l12⟩ := wordL_pos hw
  have lw := len_cps w
  try simp only [fresh, wSs, wS, wE, wEs, wC, asB, asI, List.map_cons, List.map_nil, List.replicate_succ, List.replicate_zero, List.append_nil, List.getElem?_cons_zero, List.getElem?_cons_succ, List.getElem?_nil, List.cons_append, List.nil_append, putT_n, putT_t, putTs_n, putTs_c, List.set_cons_zero, List.set_cons_succ, List.length_cons, List.length_nil, List.length_set, List.length_replicate, back, inl, inls, reduceIte, Nat.reduceAdd, Nat.reduceSub, Nat.reduceLT, Nat.reduceLeDiff, Nat.zero_add, wipe, true_and, and_true, Bool.true_eq_false, Bool.false_eq_true, List.set_set, List.take_length, take_set_length, Bool.not_true, Bool.not_false, Int.reduceToNat, Int.reduceLE, Int.reduceLT, Int.reduceNeg, D.free, frees, Bool.and_true, Bool.true_and, Bool.and_self, Nat.reduceLeDiff, decide_true, decide_false, oAddI, oAddS, oAddT, oAddL, oAddA, oSub, oMulI, oMulS, oPow, oFdiv, oMod, oNeg, oLt, oLe, oGt, oGe, oIsN, oNotN, oIsB, oNotB, oIxT, oIxL, oIxS, oCutT_L, oCutT_R, oCutL_R, oCutS_L, oCutS_R, oUpper, oLenT, oLenL, oLenS, oMax2, oMin2, oInt1, oStr1, oIsi, oInS, oIn2, oInK, oIxK, oEqI, oEqS, oEqB, oNeB, oNeI, oNeE2, oEqTE, oAll, oSum, oTuple, oList1T, oList1L, walkL, walkT, newL, ix0, ix1, ix2, ix3, ix4]
  refine ⟨by show w.length ≤ 16777216; omega, drM (N := N + 3) (by omega) (feedAt hi ho) (by omega) (by omega) fun r o2 r0 r1 ho2 => ?_⟩
  obtain ⟨s, rfl⟩ : ∃ s : Nat, r = s := ⟨r.toNat, by omega⟩
  try simp only [fresh, wSs, wS, wE, wEs, wC, asB, asI, List.map_cons, List.map_nil, List.replicate_succ, List.replicate_zero, List.append_nil, List.getElem?_cons_zero, List.getElem?_cons_succ, List.getElem?_nil, List.cons_append, List.nil_append, putT_n, putT_t, putTs_n, putTs_c, List.set_cons_zero, List.set_cons_succ, List.length_cons, List.length_nil, List.length_set, List.length_replicate, back, inl, inls, reduceIte, Nat.reduceAdd, Nat.reduceSub, Nat.reduceLT, Nat.reduceLeDiff, Nat.zero_add, wipe, true_and, and_true, Bool.true_eq_false, Bool.false_eq_true, List.set_set, List.take_length, take_set_length, Bool.not_true, Bool.not_false, Int.reduceToNat, Int.reduceLE, Int.reduceLT, Int.reduceNeg, D.free, frees, Bool.and_true, Bool.true_and, Bool.and_self, Nat.reduceLeDiff, decide_true, decide_false, oAddI, oAddS, oAddT, oAddL, oAddA, oSub, oMulI, oMulS, oPow, oFdiv, oMod, oNeg, oLt, oLe, oGt, oGe, oIsN, oNotN, oIsB, oNotB, oIxT, oIxL, oIxS, oCutT_L, oCutT_R, oCutL_R, oCutS_L, oCutS_R, oUpper, oLenT, oLenL, oLenS, oMax2, oMin2, oInt1, oStr1, oIsi, oInS, oIn2, oInK, oIxK, oEqI, oEqS, oEqB, oNeB, oNeI, oNeE2, oEqTE, oAll, oSum, oTuple, oList1T, oList1L, walkL, walkT, newL, ix0, ix1, ix2, ix3, ix4]
  refine oneS (n := n + 1) (x := offs) (N := N + 2) (feedAt hi ho2) (by decide) (by decide) fun c o3 hc ho3 => ?_
  have hc := off_sgn c hc
  have es : w.cps.size = w.cps.toList.length := by simp
  have cr : cutOf w.cps.toList 0 (cutLo w.cps.size (s : Int)) = w.cps.toList.take s := by rw [es, cut_hi]
  have cl : cutOf w.cps.toList (cutLo w.cps.size ((s : Int) + 1)) w.cps.size = w.cps.toList.drop (s + 1) := by rw [es, show ((s : Int) + 1) = ((s + 1 : Nat) : Int) by omega, cut_lo]
  have c1 : cutOf w.cps.toList (cutLo w.cps.size 1) w.cps.size = w.cps.toList.drop 1 := by rw [es, show (1 : Int) = ((1 : Nat) : Int) by rfl, cut_lo]
  try simp only [fresh, wSs, wS, wE, wEs, wC, asB, asI, List.map_cons, List.map_nil, List.replicate_succ, List.replicate_zero, List.append_nil, List.getElem?_cons_zero, List.getElem?_cons_succ, List.getElem?_nil, List.cons_append, List.nil_append, putT_n, putT_t, putTs_n, putTs_c, List.set_cons_zero, List.set_cons_succ, List.length_cons, List.length_nil, List.length_set, List.length_replicate, back, inl, inls, reduceIte, Nat.reduceAdd, Nat.reduceSub, Nat.reduceLT, Nat.reduceLeDiff, Nat.zero_add, wipe, true_and, and_true, Bool.true_eq_false, Bool.false_eq_true, List.set_set, List.take_length, take_set_length, Bool.not_true, Bool.not_false, Int.reduceToNat, Int.reduceLE, Int.reduceLT, Int.reduceNeg, D.free, frees, Bool.and_true, Bool.true_and, Bool.and_self, Nat.reduceLeDiff, decide_true, decide_false, oAddI, oAddS, oAddT, oAddL, oAddA, oSub, oMulI, oMulS, oPow, oFdiv, oMod, oNeg, oLt, oLe, oGt, oGe, oIsN, oNotN, oIsB, oNotB, oIxT, oIxL, oIxS, oCutT_L, oCutT_R, oCutL_R, oCutS_L, oCutS_R, oUpper, oLenT, oLenL, oLenS, oMax2, oMin2, oInt1, oStr1, oIsi, oInS, oIn2, oInK, oIxK, oEqI, oEqS, oEqB, oNeB, oNeI, oNeE2, oEqTE, oAll, oSum, oTuple, oList1T, oList1L, walkL, walkT, newL, ix0, ix1, ix2, ix3, ix4, cr, cl, c1]
  have lA : (⟨(w.cps.toList.take s).toArray⟩ : Str).length ≤ 12 := by rw [len_mk, List.length_take]; omega
  have lB : (⟨(w.cps.toList.drop (s + 1)).toArray⟩ : Str).length ≤ 12 := by rw [len_mk, List.length_drop]; omega
  have lC : (⟨(w.cps.toList.drop 1).toArray⟩ : Str).length ≤ 12 := by rw [len_mk, List.length_drop]; omega
  generalize (⟨(w.cps.toList.take s).toArray⟩ : Str) = A at lA ⊢
  generalize (⟨(w.cps.toList.drop (s + 1)).toArray⟩ : Str) = B at lB ⊢
  generalize (⟨(w.cps.toList.drop 1).toArray⟩ : Str) = C at lC ⊢
  have ll : ∀ {k : Nat}, k ≤ 1000 → k ≤ line := fun h => by show _ ≤ 16777216; omega
  have lc1 : ∀ c : Nat, (⟨#[c]⟩ : Str).length = 1 := fun _ => rfl
  have lrep : (repS (13 - (w.length : Int)) "a").length = 13 - w.length := by
    have : (repS (13 - (w.length : Int)) "a").length = (13 - (w.length : Int)).toNat * ("a" : Str).length := by
      unfold repS PySem.Str.length
      simp
    rw [this, show ("a" : Str).length = 1 by rfl]
    omega
  refine ⟨ll (by omega), ll (by rw [lc1]; omega), ll (by omega), ll (by rw [str_len_app, lc1]; omega), oneS (n := n + 1) (N := N + 1) (feedAt hi ho3) (by decide) (by decide) fun g o4 hg ho4 => ?_⟩
  have hg := fig_let g hg
  have hs : s < w.cps.toList.length := by omega
  try simp only [fresh, wSs, wS, wE, wEs, wC, asB, asI, List.map_cons, List.map_nil, List.replicate_succ, List.replicate_zero, List.append_nil, List.getElem?_cons_zero, List.getElem?_cons_succ, List.getElem?_nil, List.cons_append, List.nil_append, putT_n, putT_t, putTs_n, putTs_c, List.set_cons_zero, List.set_cons_succ, List.length_cons, List.length_nil, List.length_set, List.length_replicate, back, inl, inls, reduceIte, Nat.reduceAdd, Nat.reduceSub, Nat.reduceLT, Nat.reduceLeDiff, Nat.zero_add, wipe, true_and, and_true, Bool.true_eq_false, Bool.false_eq_true, List.set_set, List.take_length, take_set_length, Bool.not_true, Bool.not_false, Int.reduceToNat, Int.reduceLE, Int.reduceLT, Int.reduceNeg, D.free, frees, Bool.and_true, Bool.true_and, Bool.and_self, Nat.reduceLeDiff, decide_true, decide_false, oAddI, oAddS, oAddT, oAddL, oAddA, oSub, oMulI, oMulS, oPow, oFdiv, oMod, oNeg, oLt, oLe, oGt, oGe, oIsN, oNotN, oIsB, oNotB, oIxT, oIxL, oIxS, oCutT_L, oCutT_R, oCutL_R, oCutS_L, oCutS_R, oUpper, oLenT, oLenL, oLenS, oMax2, oMin2, oInt1, oStr1, oIsi, oInS, oIn2, oInK, oIxK, oEqI, oEqS, oEqB, oNeB, oNeI, oNeE2, oEqTE, oAll, oSum, oTuple, oList1T, oList1L, walkL, walkT, newL, ix0, ix1, ix2, ix3, ix4, ixOf, if_pos r0, Int.toNat_natCast, List.getElem?_eq_getElem hs]
  refine ⟨ll (by omega), ll (by rw [lc1]; omega), ll (by omega), ?_, by omega, by omega, ll (by omega), by decide, ll (by omega), ll (by omega), rfl, by rw [lc1]; decide, fun z hz => ?_⟩
  · rw [show ("a" : Str).length = 1 by rfl]
    exact ll (by omega)
  rw [lc1] at hz
  refine ⟨ll (by omega), ll (by omega), ll (by rw [str_len_app]; omega), ll (by rw [str_len_app, str_len_app]; show _ + 1 ≤ 1000; omega), by decide, by decide, by decide, by decide, oneL (n := n + 1) (N := N) (feedAt hi ho4) (by simp) (by simp) (by rfl) fun x o5 hx ho5 => ?_⟩
  have fin : notWord x := by
    simp only [List.mem_cons, List.not_mem_nil, or_false] at hx
    rcases hx with rfl | rfl | rfl | rfl | rfl | rfl | rfl | rfl | rfl | rfl
    · refine nw_str (wordL_not (c := c) (by rw [str_app, str_app]; simp) hc) (by rw [str_len_app, str_len_app, lc1]; omega)
    · refine nw_str ?_ (by rw [str_len_app, lc1]; omega)
      rw [str_app]
      exact wordL_head hg
    · exact nw_str (by rfl) (by decide)
    · refine nw_str (wordL_long ?_) (by rw [str_len_app, lrep]; omega)
      rw [← len_cps, str_len_app, lrep]
      omega
    · refine nw_str (wordL_not (c := 65) (by rw [str_app]; exact List.mem_append_right _ (by decide)) (by decide)) (by rw [str_len_app, str_len_app, str_len_app]; show _ + 1 ≤ 100; omega)
    · exact ⟨rfl, rfl⟩
    · exact ⟨rfl, by show (tidy (.str w) && true) = true; rw [tidy_str hl]; rfl⟩
    · exact ⟨rfl, rfl⟩
    · exact ⟨rfl, rfl⟩
    · exact ⟨rfl, rfl⟩
  try simp only [fresh, wSs, wS, wE, wEs, wC, asB, asI, List.map_cons, List.map_nil, List.replicate_succ, List.replicate_zero, List.append_nil, List.getElem?_cons_zero, List.getElem?_cons_succ, List.getElem?_nil, List.cons_append, List.nil_append, putT_n, putT_t, putTs_n, putTs_c, List.set_cons_zero, List.set_cons_succ, List.length_cons, List.length_nil, List.length_set, List.length_replicate, back, inl, inls, reduceIte, Nat.reduceAdd, Nat.reduceSub, Nat.reduceLT, Nat.reduceLeDiff, Nat.zero_add, wipe, true_and, and_true, Bool.true_eq_false, Bool.false_eq_true, List.set_set, List.take_length, take_set_length, Bool.not_true, Bool.not_false, Int.reduceToNat, Int.reduceLE, Int.reduceLT, Int.reduceNeg, D.free, frees, Bool.and_true, Bool.true_and, Bool.and_self, Nat.reduceLeDiff, decide_true, decide_false, oAddI, oAddS, oAddT, oAddL, oAddA, oSub, oMulI, oMulS, oPow, oFdiv, oMod, oNeg, oLt, oLe, oGt, oGe, oIsN, oNotN, oIsB, oNotB, oIxT, oIxL, oIxS, oCutT_L, oCutT_R, oCutL_R, oCutS_L, oCutS_R, oUpper, oLenT, oLenL, oLenS, oMax2, oMin2, oInt1, oStr1, oIsi, oInS, oIn2, oInK, oIxK, oEqI, oEqS, oEqB, oNeB, oNeI, oNeE2, oEqTE, oAll, oSum, oTuple, oList1T, oList1L, walkL, walkT, newL, ix0, ix1, ix2, ix3, ix4, inl_free (tidy_free fin.2)]
  exact hq x o5 fin ho5
/-! ### terms that are none -/
def notTerm (d : D) : Prop := okT d = false ∧ tidy d = true
theorem ok_leaf {h : Str} {ps : List D} (e : isNode h = false) : okT (.tup (.str h :: ps)) = leafForm h ps := by
  show ((if isNode h = true then decide (ps.length = ar h) else leafForm h ps) && (if isNode h = true then okTs ps else true)) = _
  rw [if_neg (by rw [e]; decide), if_neg (by rw [e]; decide), Bool.and_true]
theorem tidy_app : ∀ {a b : List D}, tidys a = true → tidys b = true → tidys (a ++ b) = true
  | [], _, _, h => h
  | x :: a, b, h, h2 => by
    have h : (tidy x && tidys a) = true := h
    rw [Bool.and_eq_true] at h
    show (tidy x && tidys (a ++ b)) = true
    rw [h.1, tidy_app h.2 h2]
    rfl
theorem tidys_of : ∀ {a : List D}, (∀ x ∈ a, tidy x = true) → tidys a = true
  | [], _ => rfl
  | x :: a, h => by
    show (tidy x && tidys a) = true
    rw [h x List.mem_cons_self, tidys_of fun y hy => h y (List.mem_cons_of_mem _ hy)]
    rfl
theorem leaf_len {h : Str} {ps : List D} (e : leafForm h ps = true) : ps.length = (if (decide ("unit" = h) || (decide ("star" = h) || false)) = true then 0 else if decide (h = "rec") = true then 2 else 1) := by
  unfold leafForm at e
  split at e
  · rename_i c
    rw [if_pos c]
    simpa using e
  · rename_i c
    rw [if_neg c]
    have one1 : ∀ f, one f ps = true → ps.length = 1 := fun f hh => by
      match ps, hh with
      | [x], _ => rfl
    have nr : ∀ k : Str, k ≠ "rec" → decide (h = k) = true → ¬ decide (h = "rec") = true := fun k hk h1 h2 => hk ((of_decide_eq_true h1).symm.trans (of_decide_eq_true h2))
    split at e
    · rename_i c; rw [if_neg (nr _ (by decide) c)]; exact one1 _ e
    · split at e
      · rename_i c; rw [if_neg (nr _ (by decide) c)]; exact one1 _ e
      · split at e
        · rename_i c; rw [if_neg (nr _ (by decide) c)]; exact one1 _ e
        · split at e
          · rename_i c
            rw [if_pos c]
            match ps, e with
            | [x, y], _ => rfl
          · cases e
theorem ok_len {h : Str} {ps qs : List D} (e : okT (.tup (.str h :: ps)) = true) (hl : qs.length ≠ ps.length) : okT (.tup (.str h :: qs)) = false := by
  cases n : isNode h with
  | true =>
    have e : ((if isNode h = true then decide (ps.length = ar h) else leafForm h ps) && (if isNode h = true then okTs ps else true)) = true := e
    rw [if_pos n, Bool.and_eq_true] at e
    have e1 := of_decide_eq_true e.1
    show ((if isNode h = true then decide (qs.length = ar h) else leafForm h qs) && (if isNode h = true then okTs qs else true)) = false
    rw [if_pos n, decide_eq_false (by omega)]
    rfl
  | false =>
    rw [ok_leaf n] at e ⊢
    cases q : leafForm h qs with
    | false => rfl
    | true => exact absurd ((leaf_len q).trans (leaf_len e).symm) hl
def kws : List Str := ["pi", "fun", "app", "sig", "pair", "fst", "snd", "unit", "star", "var", "sort", "name", "rec"]
theorem head_bad {h : Str} {ps : List D} (hk : ∀ k ∈ kws, h ≠ k) : okT (.tup (.str h :: ps)) = false := by
  have n : isNode h = false := by
    cases e : isNode h with
    | false => rfl
    | true =>
      have : h = "pi" ∨ h = "fun" ∨ h = "app" ∨ h = "sig" ∨ h = "pair" ∨ h = "fst" ∨ h = "snd" := by
        unfold isNode mk at e
        simpa using e
      rcases this with e | e | e | e | e | e | e <;> exact absurd e (hk _ (by decide))
  rw [ok_leaf n]
  unfold leafForm
  rw [if_neg (by
    rw [decide_eq_false (fun z => hk "unit" (by decide) z.symm), decide_eq_false (fun z => hk "star" (by decide) z.symm)]
    decide), if_neg (by rw [decide_eq_false (hk "var" (by decide))]; decide), if_neg (by rw [decide_eq_false (hk "sort" (by decide))]; decide), if_neg (by rw [decide_eq_false (hk "name" (by decide))]; decide), if_neg (by rw [decide_eq_false (hk "rec" (by decide))]; decide)]
theorem zero_kw (w : Str) : ∀ k ∈ kws, w ++ "0" ≠ k := by
  intro k hk e
  have h1 : (w ++ "0").cps.toList.getLast? = some 48 := by
    rw [str_app, show ("0" : Str).cps.toList = [48] by rfl, List.getLast?_concat]
  rw [e] at h1
  have : ∀ k ∈ kws, k.cps.toList.getLast? ≠ some 48 := by decide
  exact this k hk h1
theorem num_str {k : Int} (h0 : 0 ≤ k) (h1 : k < 10) : ((toString k : String) : Str).length ≤ 100 := by
  have : ∀ j : Fin 10, ((toString ((j.val : Nat) : Int) : String) : Str).length ≤ 100 := by decide
  obtain ⟨j, rfl⟩ : ∃ j : Nat, k = j := ⟨k.toNat, by omega⟩
  exact this ⟨j, by omega⟩
/-- none of the numbers from 0 on up to m -/
def notIn (m : Int) (d : D) : Prop := within 0 m d = false ∧ tidy d = true
def far (k : Int) : List D := [.int (-1), .int (-1 - k), .bl true, .bl false, .non, .str (toString k : String), .tup [.int k], .lst [.int k]]
theorem far_not {k m : Int} (h0 : 0 ≤ k) (h1 : k < 10) {x : D} (hx : x ∈ far k) : notIn m x := by
  unfold far at hx
  simp only [List.mem_cons, List.not_mem_nil, or_false] at hx
  rcases hx with rfl | rfl | rfl | rfl | rfl | rfl | rfl | rfl
  · refine ⟨?_, rfl⟩
    show (decide ((0 : Int) ≤ -1) && decide ((-1 : Int) ≤ m)) = false
    rw [decide_eq_false (by omega)]
    rfl
  · refine ⟨?_, rfl⟩
    show (decide ((0 : Int) ≤ -1 - k) && decide (-1 - k ≤ m)) = false
    rw [decide_eq_false (by omega)]
    rfl
  · exact ⟨rfl, rfl⟩
  · exact ⟨rfl, rfl⟩
  · exact ⟨rfl, rfl⟩
  · exact ⟨rfl, decide_eq_true (by have := num_str h0 h1; show _ ≤ 16777216; omega)⟩
  · exact ⟨rfl, rfl⟩
  · exact ⟨rfl, rfl⟩
theorem int_not {m v : Int} (h : m < v) : notIn m (.int v) := by
  refine ⟨?_, rfl⟩
  show (decide ((0 : Int) ≤ v) && decide (v ≤ m)) = false
  rw [decide_eq_false (show ¬ v ≤ m by omega), Bool.and_false]
theorem far_free {k : Int} : frees (far k) = true := by rfl
theorem w_bad {t : D} (ft : fine t) (hf : FeedAt S i (N + 40)) (hq : ∀ (d : D) (o : O), notTerm d → feedO N o → Q d (S.set i o)) : Run T (n + 5) "_law_bad" [.loc i, t] S Q W := by
  have hi := hf.lt
  obtain ⟨ot, tt⟩ := ft
  obtain ⟨h, ps, rfl, _, _⟩ := okT_inv ot
  have tt2 := tt
  have tt2 : (tidy (.str h) && tidys ps) = true := tt2
  rw [Bool.and_eq_true] at tt2
  have fps := tidys_free tt2.2
  refine wp_of fn__law_bad rfl ?_
  try simp only [fresh, wSs, wS, wE, wEs, wC, asB, asI, List.map_cons, List.map_nil, List.replicate_succ, List.replicate_zero, List.append_nil, List.getElem?_cons_zero, List.getElem?_cons_succ, List.getElem?_nil, List.cons_append, List.nil_append, putT_n, putT_t, putTs_n, putTs_c, List.set_cons_zero, List.set_cons_succ, List.length_cons, List.length_nil, List.length_set, List.length_replicate, back, inl, inls, reduceIte, Nat.reduceAdd, Nat.reduceSub, Nat.reduceLT, Nat.reduceLeDiff, Nat.zero_add, wipe, true_and, and_true, Bool.true_eq_false, Bool.false_eq_true, List.set_set, List.take_length, take_set_length, Bool.not_true, Bool.not_false, Int.reduceToNat, Int.reduceLE, Int.reduceLT, Int.reduceNeg, D.free, frees, Bool.and_true, Bool.true_and, Bool.and_self, Nat.reduceLeDiff, decide_true, decide_false, oAddI, oAddS, oAddT, oAddL, oAddA, oSub, oMulI, oMulS, oPow, oFdiv, oMod, oNeg, oLt, oLe, oGt, oGe, oIsN, oNotN, oIsB, oNotB, oIxT, oIxL, oIxS, oCutT_L, oCutT_R, oCutL_R, oCutS_L, oCutS_R, oUpper, oLenT, oLenL, oLenS, oMax2, oMin2, oInt1, oStr1, oIsi, oInS, oIn2, oInK, oIxK, oEqI, oEqS, oEqB, oNeB, oNeI, oNeE2, oEqTE, oAll, oSum, oTuple, oList1T, oList1L, walkL, walkT, newL, ix0, ix1, ix2, ix3, ix4, f__law_bad, b__law_bad]
  refine w_word (n := n + 1) (N := N + 27) hf fun w o hw hl ho => ?_
  try simp only [fresh, wSs, wS, wE, wEs, wC, asB, asI, List.map_cons, List.map_nil, List.replicate_succ, List.replicate_zero, List.append_nil, List.getElem?_cons_zero, List.getElem?_cons_succ, List.getElem?_nil, List.cons_append, List.nil_append, putT_n, putT_t, putTs_n, putTs_c, List.set_cons_zero, List.set_cons_succ, List.length_cons, List.length_nil, List.length_set, List.length_replicate, back, inl, inls, reduceIte, Nat.reduceAdd, Nat.reduceSub, Nat.reduceLT, Nat.reduceLeDiff, Nat.zero_add, wipe, true_and, and_true, Bool.true_eq_false, Bool.false_eq_true, List.set_set, List.take_length, take_set_length, Bool.not_true, Bool.not_false, Int.reduceToNat, Int.reduceLE, Int.reduceLT, Int.reduceNeg, D.free, frees, Bool.and_true, Bool.true_and, Bool.and_self, Nat.reduceLeDiff, decide_true, decide_false, oAddI, oAddS, oAddT, oAddL, oAddA, oSub, oMulI, oMulS, oPow, oFdiv, oMod, oNeg, oLt, oLe, oGt, oGe, oIsN, oNotN, oIsB, oNotB, oIxT, oIxL, oIxS, oCutT_L, oCutT_R, oCutL_R, oCutS_L, oCutS_R, oUpper, oLenT, oLenL, oLenS, oMax2, oMin2, oInt1, oStr1, oIsi, oInS, oIn2, oInK, oIxK, oEqI, oEqS, oEqB, oNeB, oNeI, oNeE2, oEqTE, oAll, oSum, oTuple, oList1T, oList1L, walkL, walkT, newL, ix0, ix1, ix2, ix3, ix4]
  refine drM (N := N + 26) (by omega) (feedAt hi ho) (by decide) (by decide) fun k o2 k0 k1 ho2 => ?_
  try simp only [fresh, wSs, wS, wE, wEs, wC, asB, asI, List.map_cons, List.map_nil, List.replicate_succ, List.replicate_zero, List.append_nil, List.getElem?_cons_zero, List.getElem?_cons_succ, List.getElem?_nil, List.cons_append, List.nil_append, putT_n, putT_t, putTs_n, putTs_c, List.set_cons_zero, List.set_cons_succ, List.length_cons, List.length_nil, List.length_set, List.length_replicate, back, inl, inls, reduceIte, Nat.reduceAdd, Nat.reduceSub, Nat.reduceLT, Nat.reduceLeDiff, Nat.zero_add, wipe, true_and, and_true, Bool.true_eq_false, Bool.false_eq_true, List.set_set, List.take_length, take_set_length, Bool.not_true, Bool.not_false, Int.reduceToNat, Int.reduceLE, Int.reduceLT, Int.reduceNeg, D.free, frees, Bool.and_true, Bool.true_and, Bool.and_self, Nat.reduceLeDiff, decide_true, decide_false, oAddI, oAddS, oAddT, oAddL, oAddA, oSub, oMulI, oMulS, oPow, oFdiv, oMod, oNeg, oLt, oLe, oGt, oGe, oIsN, oNotN, oIsB, oNotB, oIxT, oIxL, oIxS, oCutT_L, oCutT_R, oCutL_R, oCutS_L, oCutS_R, oUpper, oLenT, oLenL, oLenS, oMax2, oMin2, oInt1, oStr1, oIsi, oInS, oIn2, oInK, oIxK, oEqI, oEqS, oEqB, oNeB, oNeI, oNeE2, oEqTE, oAll, oSum, oTuple, oList1T, oList1L, walkL, walkT, newL, ix0, ix1, ix2, ix3, ix4, fps]
  have hq : ∀ (d : D) (o : O) (M : Nat), notTerm d → feedO M o → N ≤ M → Q d (S.set i o) := fun d o M h1 h2 h3 => hq d o h1 (h2.mono h3)
  have pick : ∀ {m : Nat} {M : Nat} {o : O} {xs : List D} {Q : Q1} {W : Str → Store → Prop} (P : D → Prop), 2 ≤ m → feedO (M + 1) o → 0 < xs.length → xs.length < 1000 → (∀ x ∈ xs, P x ∧ tidy x = true) → (∀ x o', P x → tidy x = true → feedO M o' → Q x (S.set i o')) → Run T m "_law_one" [.loc i, .lst xs] (S.set i o) Q W := by
    intro m M o xs Q W P hm ho h1 h2 hP hh
    refine oneLM hm (feedAt hi ho) h1 (by omega) (frees_of fun y hy => tidy_free (hP y hy).2) fun x o' hx ho' => ?_
    rw [List.set_set]
    exact hh x o' (hP x hx).1 (hP x hx).2 ho'
  refine ⟨Nat.lt_trans (log2_lt (k := 4) (show k.natAbs < 2 ^ 4 by omega) (by decide)) (by decide), by decide, by decide, by decide, drM (N := N + 25) (by omega) (feedAt hi ho2) (by decide) (by decide) fun way o3 w0 w1 ho3 => ?_⟩
  try simp only [fresh, wSs, wS, wE, wEs, wC, asB, asI, List.map_cons, List.map_nil, List.replicate_succ, List.replicate_zero, List.append_nil, List.getElem?_cons_zero, List.getElem?_cons_succ, List.getElem?_nil, List.cons_append, List.nil_append, putT_n, putT_t, putTs_n, putTs_c, List.set_cons_zero, List.set_cons_succ, List.length_cons, List.length_nil, List.length_set, List.length_replicate, back, inl, inls, reduceIte, Nat.reduceAdd, Nat.reduceSub, Nat.reduceLT, Nat.reduceLeDiff, Nat.zero_add, wipe, true_and, and_true, Bool.true_eq_false, Bool.false_eq_true, List.set_set, List.take_length, take_set_length, Bool.not_true, Bool.not_false, Int.reduceToNat, Int.reduceLE, Int.reduceLT, Int.reduceNeg, D.free, frees, Bool.and_true, Bool.true_and, Bool.and_self, Nat.reduceLeDiff, decide_true, decide_false, oAddI, oAddS, oAddT, oAddL, oAddA, oSub, oMulI, oMulS, oPow, oFdiv, oMod, oNeg, oLt, oLe, oGt, oGe, oIsN, oNotN, oIsB, oNotB, oIxT, oIxL, oIxS, oCutT_L, oCutT_R, oCutL_R, oCutS_L, oCutS_R, oUpper, oLenT, oLenL, oLenS, oMax2, oMin2, oInt1, oStr1, oIsi, oInS, oIn2, oInK, oIxK, oEqI, oEqS, oEqB, oNeB, oNeI, oNeE2, oEqTE, oAll, oSum, oTuple, oList1T, oList1L, walkL, walkT, newL, ix0, ix1, ix2, ix3, ix4]
  split
  · refine ⟨by decide, drM (N := N + 24) (by omega) (feedAt hi ho3) (by decide) (by decide) fun v o4 v0 v1 ho4 => ?_⟩
    try simp only [fresh, wSs, wS, wE, wEs, wC, asB, asI, List.map_cons, List.map_nil, List.replicate_succ, List.replicate_zero, List.append_nil, List.getElem?_cons_zero, List.getElem?_cons_succ, List.getElem?_nil, List.cons_append, List.nil_append, putT_n, putT_t, putTs_n, putTs_c, List.set_cons_zero, List.set_cons_succ, List.length_cons, List.length_nil, List.length_set, List.length_replicate, back, inl, inls, reduceIte, Nat.reduceAdd, Nat.reduceSub, Nat.reduceLT, Nat.reduceLeDiff, Nat.zero_add, wipe, true_and, and_true, Bool.true_eq_false, Bool.false_eq_true, List.set_set, List.take_length, take_set_length, Bool.not_true, Bool.not_false, Int.reduceToNat, Int.reduceLE, Int.reduceLT, Int.reduceNeg, D.free, frees, Bool.and_true, Bool.true_and, Bool.and_self, Nat.reduceLeDiff, decide_true, decide_false, oAddI, oAddS, oAddT, oAddL, oAddA, oSub, oMulI, oMulS, oPow, oFdiv, oMod, oNeg, oLt, oLe, oGt, oGe, oIsN, oNotN, oIsB, oNotB, oIxT, oIxL, oIxS, oCutT_L, oCutT_R, oCutL_R, oCutS_L, oCutS_R, oUpper, oLenT, oLenL, oLenS, oMax2, oMin2, oInt1, oStr1, oIsi, oInS, oIn2, oInK, oIxK, oEqI, oEqS, oEqB, oNeB, oNeI, oNeE2, oEqTE, oAll, oSum, oTuple, oList1T, oList1L, walkL, walkT, newL, ix0, ix1, ix2, ix3, ix4]
    refine ⟨by decide, by decide, pick (xs := far k ++ [.int 1000, .int (1001 + v)]) (M := N + 23) (fun x => within 0 999 x = false) (by omega) ho4 (by simp) (by simp [far]) (fun x hx => ?_) fun x o5 hx tx ho5 => ?_⟩
    · rcases List.mem_append.mp hx with hx | hx
      · exact far_not k0 k1 hx
      · simp at hx
        rcases hx with rfl | rfl
        · exact int_not (by decide)
        · exact int_not (by omega)
    · try simp only [fresh, wSs, wS, wE, wEs, wC, asB, asI, List.map_cons, List.map_nil, List.replicate_succ, List.replicate_zero, List.append_nil, List.getElem?_cons_zero, List.getElem?_cons_succ, List.getElem?_nil, List.cons_append, List.nil_append, putT_n, putT_t, putTs_n, putTs_c, List.set_cons_zero, List.set_cons_succ, List.length_cons, List.length_nil, List.length_set, List.length_replicate, back, inl, inls, reduceIte, Nat.reduceAdd, Nat.reduceSub, Nat.reduceLT, Nat.reduceLeDiff, Nat.zero_add, wipe, true_and, and_true, Bool.true_eq_false, Bool.false_eq_true, List.set_set, List.take_length, take_set_length, Bool.not_true, Bool.not_false, Int.reduceToNat, Int.reduceLE, Int.reduceLT, Int.reduceNeg, D.free, frees, Bool.and_true, Bool.true_and, Bool.and_self, Nat.reduceLeDiff, decide_true, decide_false, oAddI, oAddS, oAddT, oAddL, oAddA, oSub, oMulI, oMulS, oPow, oFdiv, oMod, oNeg, oLt, oLe, oGt, oGe, oIsN, oNotN, oIsB, oNotB, oIxT, oIxL, oIxS, oCutT_L, oCutT_R, oCutL_R, oCutS_L, oCutS_R, oUpper, oLenT, oLenL, oLenS, oMax2, oMin2, oInt1, oStr1, oIsi, oInS, oIn2, oInK, oIxK, oEqI, oEqS, oEqB, oNeB, oNeI, oNeE2, oEqTE, oAll, oSum, oTuple, oList1T, oList1L, walkL, walkT, newL, ix0, ix1, ix2, ix3, ix4, inl_free (tidy_free tx)]
      refine ⟨by decide, hq _ o5 _ ⟨?_, ?_⟩ ho5 (by omega)⟩
      · rw [ok_leaf (by decide)]; exact hx
      · show (true && (tidy x && true)) = true
        rw [tx]; rfl
  · split
    · refine ⟨by decide, by decide, by decide, pick (xs := far k ++ [.int 10, .int (11 + k), .tup [.str "sort", .int k]]) (M := N + 24) (fun x => within 0 9 x = false) (by omega) ho3 (by simp) (by simp [far]) (fun x hx => ?_) fun x o5 hx tx ho5 => ?_⟩
      · rcases List.mem_append.mp hx with hx | hx
        · exact far_not k0 k1 hx
        · simp at hx
          rcases hx with rfl | rfl | rfl
          · exact int_not (by decide)
          · exact int_not (by omega)
          · exact ⟨rfl, rfl⟩
      · try simp only [fresh, wSs, wS, wE, wEs, wC, asB, asI, List.map_cons, List.map_nil, List.replicate_succ, List.replicate_zero, List.append_nil, List.getElem?_cons_zero, List.getElem?_cons_succ, List.getElem?_nil, List.cons_append, List.nil_append, putT_n, putT_t, putTs_n, putTs_c, List.set_cons_zero, List.set_cons_succ, List.length_cons, List.length_nil, List.length_set, List.length_replicate, back, inl, inls, reduceIte, Nat.reduceAdd, Nat.reduceSub, Nat.reduceLT, Nat.reduceLeDiff, Nat.zero_add, wipe, true_and, and_true, Bool.true_eq_false, Bool.false_eq_true, List.set_set, List.take_length, take_set_length, Bool.not_true, Bool.not_false, Int.reduceToNat, Int.reduceLE, Int.reduceLT, Int.reduceNeg, D.free, frees, Bool.and_true, Bool.true_and, Bool.and_self, Nat.reduceLeDiff, decide_true, decide_false, oAddI, oAddS, oAddT, oAddL, oAddA, oSub, oMulI, oMulS, oPow, oFdiv, oMod, oNeg, oLt, oLe, oGt, oGe, oIsN, oNotN, oIsB, oNotB, oIxT, oIxL, oIxS, oCutT_L, oCutT_R, oCutL_R, oCutS_L, oCutS_R, oUpper, oLenT, oLenL, oLenS, oMax2, oMin2, oInt1, oStr1, oIsi, oInS, oIn2, oInK, oIxK, oEqI, oEqS, oEqB, oNeB, oNeI, oNeE2, oEqTE, oAll, oSum, oTuple, oList1T, oList1L, walkL, walkT, newL, ix0, ix1, ix2, ix3, ix4, inl_free (tidy_free tx)]
        refine ⟨by decide, hq _ o5 _ ⟨?_, ?_⟩ ho5 (by omega)⟩
        · rw [ok_leaf (by decide)]; exact hx
        · show (true && (tidy x && true)) = true
          rw [tx]; rfl
    · split
      · refine drM (N := N + 24) (by omega) (feedAt hi ho3) (by decide) (by decide) fun v o4 v0 v1 ho4 => ?_
        try simp only [fresh, wSs, wS, wE, wEs, wC, asB, asI, List.map_cons, List.map_nil, List.replicate_succ, List.replicate_zero, List.append_nil, List.getElem?_cons_zero, List.getElem?_cons_succ, List.getElem?_nil, List.cons_append, List.nil_append, putT_n, putT_t, putTs_n, putTs_c, List.set_cons_zero, List.set_cons_succ, List.length_cons, List.length_nil, List.length_set, List.length_replicate, back, inl, inls, reduceIte, Nat.reduceAdd, Nat.reduceSub, Nat.reduceLT, Nat.reduceLeDiff, Nat.zero_add, wipe, true_and, and_true, Bool.true_eq_false, Bool.false_eq_true, List.set_set, List.take_length, take_set_length, Bool.not_true, Bool.not_false, Int.reduceToNat, Int.reduceLE, Int.reduceLT, Int.reduceNeg, D.free, frees, Bool.and_true, Bool.true_and, Bool.and_self, Nat.reduceLeDiff, decide_true, decide_false, oAddI, oAddS, oAddT, oAddL, oAddA, oSub, oMulI, oMulS, oPow, oFdiv, oMod, oNeg, oLt, oLe, oGt, oGe, oIsN, oNotN, oIsB, oNotB, oIxT, oIxL, oIxS, oCutT_L, oCutT_R, oCutL_R, oCutS_L, oCutS_R, oUpper, oLenT, oLenL, oLenS, oMax2, oMin2, oInt1, oStr1, oIsi, oInS, oIn2, oInK, oIxK, oEqI, oEqS, oEqB, oNeB, oNeI, oNeE2, oEqTE, oAll, oSum, oTuple, oList1T, oList1L, walkL, walkT, newL, ix0, ix1, ix2, ix3, ix4]
        split
        · refine ⟨by decide, by decide, pick (xs := far k ++ [.int 9, .int (10 + k)]) (M := N + 23) (fun x => within 0 8 x = false) (by omega) ho4 (by simp) (by simp [far]) (fun x hx => ?_) fun x o5 hx tx ho5 => ?_⟩
          · rcases List.mem_append.mp hx with hx | hx
            · exact far_not k0 k1 hx
            · simp at hx
              rcases hx with rfl | rfl
              · exact int_not (by decide)
              · exact int_not (by omega)
          · try simp only [fresh, wSs, wS, wE, wEs, wC, asB, asI, List.map_cons, List.map_nil, List.replicate_succ, List.replicate_zero, List.append_nil, List.getElem?_cons_zero, List.getElem?_cons_succ, List.getElem?_nil, List.cons_append, List.nil_append, putT_n, putT_t, putTs_n, putTs_c, List.set_cons_zero, List.set_cons_succ, List.length_cons, List.length_nil, List.length_set, List.length_replicate, back, inl, inls, reduceIte, Nat.reduceAdd, Nat.reduceSub, Nat.reduceLT, Nat.reduceLeDiff, Nat.zero_add, wipe, true_and, and_true, Bool.true_eq_false, Bool.false_eq_true, List.set_set, List.take_length, take_set_length, Bool.not_true, Bool.not_false, Int.reduceToNat, Int.reduceLE, Int.reduceLT, Int.reduceNeg, D.free, frees, Bool.and_true, Bool.true_and, Bool.and_self, Nat.reduceLeDiff, decide_true, decide_false, oAddI, oAddS, oAddT, oAddL, oAddA, oSub, oMulI, oMulS, oPow, oFdiv, oMod, oNeg, oLt, oLe, oGt, oGe, oIsN, oNotN, oIsB, oNotB, oIxT, oIxL, oIxS, oCutT_L, oCutT_R, oCutL_R, oCutS_L, oCutS_R, oUpper, oLenT, oLenL, oLenS, oMax2, oMin2, oInt1, oStr1, oIsi, oInS, oIn2, oInK, oIxK, oEqI, oEqS, oEqB, oNeB, oNeI, oNeE2, oEqTE, oAll, oSum, oTuple, oList1T, oList1L, walkL, walkT, newL, ix0, ix1, ix2, ix3, ix4, inl_free (tidy_free tx)]
            refine ⟨by decide, hq _ o5 _ ⟨?_, ?_⟩ ho5 (by omega)⟩
            · rw [ok_leaf (by decide)]
              show (wordL w.cps.toList && within 0 8 x) = false
              rw [hx, Bool.and_false]
            · show (true && (tidy (.str w) && (tidy x && true))) = true
              rw [tx, tidy_str hl]; rfl
        · refine w_bad_word (N := N + 7) (feedAt hi ho4) fun d o5 hd ho5 => ?_
          try simp only [fresh, wSs, wS, wE, wEs, wC, asB, asI, List.map_cons, List.map_nil, List.replicate_succ, List.replicate_zero, List.append_nil, List.getElem?_cons_zero, List.getElem?_cons_succ, List.getElem?_nil, List.cons_append, List.nil_append, putT_n, putT_t, putTs_n, putTs_c, List.set_cons_zero, List.set_cons_succ, List.length_cons, List.length_nil, List.length_set, List.length_replicate, back, inl, inls, reduceIte, Nat.reduceAdd, Nat.reduceSub, Nat.reduceLT, Nat.reduceLeDiff, Nat.zero_add, wipe, true_and, and_true, Bool.true_eq_false, Bool.false_eq_true, List.set_set, List.take_length, take_set_length, Bool.not_true, Bool.not_false, Int.reduceToNat, Int.reduceLE, Int.reduceLT, Int.reduceNeg, D.free, frees, Bool.and_true, Bool.true_and, Bool.and_self, Nat.reduceLeDiff, decide_true, decide_false, oAddI, oAddS, oAddT, oAddL, oAddA, oSub, oMulI, oMulS, oPow, oFdiv, oMod, oNeg, oLt, oLe, oGt, oGe, oIsN, oNotN, oIsB, oNotB, oIxT, oIxL, oIxS, oCutT_L, oCutT_R, oCutL_R, oCutS_L, oCutS_R, oUpper, oLenT, oLenL, oLenS, oMax2, oMin2, oInt1, oStr1, oIsi, oInS, oIn2, oInK, oIxK, oEqI, oEqS, oEqB, oNeB, oNeI, oNeE2, oEqTE, oAll, oSum, oTuple, oList1T, oList1L, walkL, walkT, newL, ix0, ix1, ix2, ix3, ix4, inl_free (tidy_free hd.2)]
          refine ⟨by decide, by decide, hq _ o5 _ ⟨?_, ?_⟩ ho5 (by omega)⟩
          · rw [ok_leaf (by decide)]
            show (wordB d && _) = false
            rw [hd.1]; rfl
          · show (true && (tidy d && (true && true))) = true
            rw [hd.2]; rfl
      · split
        · refine w_bad_word (N := N + 8) (feedAt hi ho3) fun d o5 hd ho5 => ?_
          try simp only [fresh, wSs, wS, wE, wEs, wC, asB, asI, List.map_cons, List.map_nil, List.replicate_succ, List.replicate_zero, List.append_nil, List.getElem?_cons_zero, List.getElem?_cons_succ, List.getElem?_nil, List.cons_append, List.nil_append, putT_n, putT_t, putTs_n, putTs_c, List.set_cons_zero, List.set_cons_succ, List.length_cons, List.length_nil, List.length_set, List.length_replicate, back, inl, inls, reduceIte, Nat.reduceAdd, Nat.reduceSub, Nat.reduceLT, Nat.reduceLeDiff, Nat.zero_add, wipe, true_and, and_true, Bool.true_eq_false, Bool.false_eq_true, List.set_set, List.take_length, take_set_length, Bool.not_true, Bool.not_false, Int.reduceToNat, Int.reduceLE, Int.reduceLT, Int.reduceNeg, D.free, frees, Bool.and_true, Bool.true_and, Bool.and_self, Nat.reduceLeDiff, decide_true, decide_false, oAddI, oAddS, oAddT, oAddL, oAddA, oSub, oMulI, oMulS, oPow, oFdiv, oMod, oNeg, oLt, oLe, oGt, oGe, oIsN, oNotN, oIsB, oNotB, oIxT, oIxL, oIxS, oCutT_L, oCutT_R, oCutL_R, oCutS_L, oCutS_R, oUpper, oLenT, oLenL, oLenS, oMax2, oMin2, oInt1, oStr1, oIsi, oInS, oIn2, oInK, oIxK, oEqI, oEqS, oEqB, oNeB, oNeI, oNeE2, oEqTE, oAll, oSum, oTuple, oList1T, oList1L, walkL, walkT, newL, ix0, ix1, ix2, ix3, ix4, inl_free (tidy_free hd.2)]
          refine ⟨by decide, hq _ o5 _ ⟨?_, ?_⟩ ho5 (by omega)⟩
          · rw [ok_leaf (by decide)]; exact hd.1
          · show (true && (tidy d && true)) = true
            rw [hd.2]; rfl
        · have pl : ps.length ≤ 4 := by
            cases n : isNode h with
            | true =>
              have := (okT_inv ot)
              obtain ⟨h', ps', e, e1, _⟩ := this
              cases e
              obtain ⟨_, _, z⟩ := ar_of n
              rw [(e1 n).1]
              exact z
            | false =>
              rw [ok_leaf n] at ot
              rw [leaf_len ot]
              split
              · decide
              · split <;> decide
          split
          · have pt : tidys (ps ++ [.tup [.str "star"]]) = true := tidy_app tt2.2 rfl
            refine ⟨by decide, by decide, by simp, by show ps.length + 1 + 1 ≤ 16777216; omega, ?_⟩
            try simp only [fresh, wSs, wS, wE, wEs, wC, asB, asI, List.map_cons, List.map_nil, List.replicate_succ, List.replicate_zero, List.append_nil, List.getElem?_cons_zero, List.getElem?_cons_succ, List.getElem?_nil, List.cons_append, List.nil_append, putT_n, putT_t, putTs_n, putTs_c, List.set_cons_zero, List.set_cons_succ, List.length_cons, List.length_nil, List.length_set, List.length_replicate, back, inl, inls, reduceIte, Nat.reduceAdd, Nat.reduceSub, Nat.reduceLT, Nat.reduceLeDiff, Nat.zero_add, wipe, true_and, and_true, Bool.true_eq_false, Bool.false_eq_true, List.set_set, List.take_length, take_set_length, Bool.not_true, Bool.not_false, Int.reduceToNat, Int.reduceLE, Int.reduceLT, Int.reduceNeg, D.free, frees, Bool.and_true, Bool.true_and, Bool.and_self, Nat.reduceLeDiff, decide_true, decide_false, oAddI, oAddS, oAddT, oAddL, oAddA, oSub, oMulI, oMulS, oPow, oFdiv, oMod, oNeg, oLt, oLe, oGt, oGe, oIsN, oNotN, oIsB, oNotB, oIxT, oIxL, oIxS, oCutT_L, oCutT_R, oCutL_R, oCutS_L, oCutS_R, oUpper, oLenT, oLenL, oLenS, oMax2, oMin2, oInt1, oStr1, oIsi, oInS, oIn2, oInK, oIxK, oEqI, oEqS, oEqB, oNeB, oNeI, oNeE2, oEqTE, oAll, oSum, oTuple, oList1T, oList1L, walkL, walkT, newL, ix0, ix1, ix2, ix3, ix4, inls_free (tidys_free pt)]
            exact hq _ o3 _ ⟨ok_len ot (by simp), by show (tidy (.str h) && tidys _) = true; rw [tt2.1, pt]; rfl⟩ ho3 (by omega)
          · split
            · have e : cutOf (.str h :: ps) 0 (cutLo (ps.length + 1) (((ps.length + 1 : Nat) : Int) - 1)) = (.str h :: ps).take ps.length := by
                rw [show (((ps.length + 1 : Nat) : Int) - 1) = ((ps.length : Nat) : Int) by omega]
                exact cut_hi (zs := D.str h :: ps) ps.length
              rw [e]
              have tk : tidys ((D.str h :: ps).take ps.length) = true := tidys_of fun y hy => tidys_mem (ps := .str h :: ps) tt (List.mem_of_mem_take hy)
              rw [inls_free (tidys_free tk)]
              refine hq _ o3 _ ⟨?_, tk⟩ ho3 (by omega)
              cases ps with
              | nil => rfl
              | cons p r => exact ok_len ot (by rw [List.length_take, List.length_cons, Nat.min_eq_left (Nat.le_succ _)]; omega)
            · split
              · refine ⟨by show ps.length + 1 ≤ 16777216; omega, by decide, by decide, by decide, by decide, ?_⟩
                try simp only [fresh, wSs, wS, wE, wEs, wC, asB, asI, List.map_cons, List.map_nil, List.replicate_succ, List.replicate_zero, List.append_nil, List.getElem?_cons_zero, List.getElem?_cons_succ, List.getElem?_nil, List.cons_append, List.nil_append, putT_n, putT_t, putTs_n, putTs_c, List.set_cons_zero, List.set_cons_succ, List.length_cons, List.length_nil, List.length_set, List.length_replicate, back, inl, inls, reduceIte, Nat.reduceAdd, Nat.reduceSub, Nat.reduceLT, Nat.reduceLeDiff, Nat.zero_add, wipe, true_and, and_true, Bool.true_eq_false, Bool.false_eq_true, List.set_set, List.take_length, take_set_length, Bool.not_true, Bool.not_false, Int.reduceToNat, Int.reduceLE, Int.reduceLT, Int.reduceNeg, D.free, frees, Bool.and_true, Bool.true_and, Bool.and_self, Nat.reduceLeDiff, decide_true, decide_false, oAddI, oAddS, oAddT, oAddL, oAddA, oSub, oMulI, oMulS, oPow, oFdiv, oMod, oNeg, oLt, oLe, oGt, oGe, oIsN, oNotN, oIsB, oNotB, oIxT, oIxL, oIxS, oCutT_L, oCutT_R, oCutL_R, oCutS_L, oCutS_R, oUpper, oLenT, oLenL, oLenS, oMax2, oMin2, oInt1, oStr1, oIsi, oInS, oIn2, oInK, oIxK, oEqI, oEqS, oEqB, oNeB, oNeI, oNeE2, oEqTE, oAll, oSum, oTuple, oList1T, oList1L, walkL, walkT, newL, ix0, ix1, ix2, ix3, ix4]
                rw [show cutOf [D.str "star", D.int 0] (cutLo 2 1) 2 = [.int 0] from cut1 (xs := [.int 0])]
                refine ⟨by decide, rfl, pick (M := N + 24) (fun x => okT x = false) (by omega) ho3 (by simp) (by simp) (fun x hx => ?_) fun x o5 hx tx ho5 => ?_⟩
                · simp only [List.mem_cons, List.not_mem_nil, or_false] at hx
                  rcases hx with rfl | rfl | rfl | rfl | rfl | rfl | rfl | rfl | rfl | rfl | rfl
                  · exact ⟨rfl, by show (true && frees ps) = true; rw [fps]; rfl⟩
                  · exact ⟨rfl, tt2.1⟩
                  · exact ⟨rfl, by show (tidy (.tup (.str h :: ps)) && true) = true; rw [tt]; rfl⟩
                  · exact ⟨rfl, rfl⟩
                  · exact ⟨rfl, rfl⟩
                  · exact ⟨rfl, rfl⟩
                  · exact ⟨rfl, rfl⟩
                  · exact ⟨rfl, rfl⟩
                  · exact ⟨rfl, rfl⟩
                  · exact ⟨rfl, rfl⟩
                  · exact ⟨rfl, rfl⟩
                · try simp only [fresh, wSs, wS, wE, wEs, wC, asB, asI, List.map_cons, List.map_nil, List.replicate_succ, List.replicate_zero, List.append_nil, List.getElem?_cons_zero, List.getElem?_cons_succ, List.getElem?_nil, List.cons_append, List.nil_append, putT_n, putT_t, putTs_n, putTs_c, List.set_cons_zero, List.set_cons_succ, List.length_cons, List.length_nil, List.length_set, List.length_replicate, back, inl, inls, reduceIte, Nat.reduceAdd, Nat.reduceSub, Nat.reduceLT, Nat.reduceLeDiff, Nat.zero_add, wipe, true_and, and_true, Bool.true_eq_false, Bool.false_eq_true, List.set_set, List.take_length, take_set_length, Bool.not_true, Bool.not_false, Int.reduceToNat, Int.reduceLE, Int.reduceLT, Int.reduceNeg, D.free, frees, Bool.and_true, Bool.true_and, Bool.and_self, Nat.reduceLeDiff, decide_true, decide_false, oAddI, oAddS, oAddT, oAddL, oAddA, oSub, oMulI, oMulS, oPow, oFdiv, oMod, oNeg, oLt, oLe, oGt, oGe, oIsN, oNotN, oIsB, oNotB, oIxT, oIxL, oIxS, oCutT_L, oCutT_R, oCutL_R, oCutS_L, oCutS_R, oUpper, oLenT, oLenL, oLenS, oMax2, oMin2, oInt1, oStr1, oIsi, oInS, oIn2, oInK, oIxK, oEqI, oEqS, oEqB, oNeB, oNeI, oNeE2, oEqTE, oAll, oSum, oTuple, oList1T, oList1L, walkL, walkT, newL, ix0, ix1, ix2, ix3, ix4, inl_free (tidy_free tx)]
                  exact hq _ o5 _ ⟨hx, tx⟩ ho5 (by omega)
              · have lw : (w ++ "0").length ≤ 13 := by rw [str_len_app]; show w.length + 1 ≤ 13; omega
                refine ⟨?_, by decide, by decide, pick (M := N + 24) (fun x => ∀ qs, okT (.tup (x :: qs)) = false) (by omega) ho3 (by simp) (by simp) (fun x hx => ?_) fun x o5 hx tx ho5 => ?_⟩
                · show w.length + 1 ≤ 16777216
                  omega
                · simp only [List.mem_cons, List.not_mem_nil, or_false] at hx
                  rcases hx with rfl | rfl | rfl | rfl | rfl | rfl | rfl | rfl | rfl | rfl | rfl | rfl | rfl
                  · exact ⟨fun qs => head_bad (by decide), rfl⟩
                  · exact ⟨fun qs => head_bad (by decide), rfl⟩
                  · exact ⟨fun qs => head_bad (by decide), rfl⟩
                  · exact ⟨fun qs => head_bad (by decide), rfl⟩
                  · exact ⟨fun qs => head_bad (by decide), rfl⟩
                  · exact ⟨fun qs => head_bad (by decide), rfl⟩
                  · exact ⟨fun qs => head_bad (by decide), rfl⟩
                  · exact ⟨fun qs => head_bad (by decide), rfl⟩
                  · exact ⟨fun qs => head_bad (zero_kw w), decide_eq_true (by show _ ≤ 16777216; omega)⟩
                  · exact ⟨fun qs => rfl, rfl⟩
                  · exact ⟨fun qs => rfl, rfl⟩
                  · exact ⟨fun qs => rfl, rfl⟩
                  · exact ⟨fun qs => rfl, rfl⟩
                · try simp only [fresh, wSs, wS, wE, wEs, wC, asB, asI, List.map_cons, List.map_nil, List.replicate_succ, List.replicate_zero, List.append_nil, List.getElem?_cons_zero, List.getElem?_cons_succ, List.getElem?_nil, List.cons_append, List.nil_append, putT_n, putT_t, putTs_n, putTs_c, List.set_cons_zero, List.set_cons_succ, List.length_cons, List.length_nil, List.length_set, List.length_replicate, back, inl, inls, reduceIte, Nat.reduceAdd, Nat.reduceSub, Nat.reduceLT, Nat.reduceLeDiff, Nat.zero_add, wipe, true_and, and_true, Bool.true_eq_false, Bool.false_eq_true, List.set_set, List.take_length, take_set_length, Bool.not_true, Bool.not_false, Int.reduceToNat, Int.reduceLE, Int.reduceLT, Int.reduceNeg, D.free, frees, Bool.and_true, Bool.true_and, Bool.and_self, Nat.reduceLeDiff, decide_true, decide_false, oAddI, oAddS, oAddT, oAddL, oAddA, oSub, oMulI, oMulS, oPow, oFdiv, oMod, oNeg, oLt, oLe, oGt, oGe, oIsN, oNotN, oIsB, oNotB, oIxT, oIxL, oIxS, oCutT_L, oCutT_R, oCutL_R, oCutS_L, oCutS_R, oUpper, oLenT, oLenL, oLenS, oMax2, oMin2, oInt1, oStr1, oIsi, oInS, oIn2, oInK, oIxK, oEqI, oEqS, oEqB, oNeB, oNeI, oNeE2, oEqTE, oAll, oSum, oTuple, oList1T, oList1L, walkL, walkT, newL, ix0, ix1, ix2, ix3, ix4, cut1, inl_free (tidy_free tx), inls_free fps]
                  refine ⟨by decide, by simp, by show 1 + ps.length ≤ 16777216; omega, hq _ o5 _ ⟨hx ps, ?_⟩ ho5 (by omega)⟩
                  show (tidy x && tidys ps) = true
                  rw [tx, tt2.2]; rfl
theorem any_node (h : Str) : ([D.str "pi", D.str "fun", D.str "app", D.str "sig", D.str "pair", D.str "fst", D.str "snd"].any fun z => eqD z (.str h)) = isNode h := by
  have k : ∀ a : Str, ((Sum.inr h : Ky) == .inr a) = decide (a = h) := fun a => by
    show (h == a) = decide (a = h)
    by_cases e : a = h
    · rw [decide_eq_true e, e]; simp
    · rw [decide_eq_false e]; exact beq_eq_false_iff_ne.mpr fun z => e z.symm
  show (decide ("pi" = h) || (decide ("fun" = h) || (decide ("app" = h) || (decide ("sig" = h) || (decide ("pair" = h) || (decide ("fst" = h) || (decide ("snd" = h) || false))))))) = mk.contains (.inr h)
  unfold mk
  simp only [List.contains_cons, k, List.contains_nil]
theorem oIn7 {S : Store} {Q : Q1} {h : Str} : opW (.inn false) [.str h, .tup [.str "pi", .str "fun", .str "app", .str "sig", .str "pair", .str "fst", .str "snd"]] S Q = Q (.bl (isNode h)) S := by
  rw [← any_node h]
  exact propext ⟨fun h => h.2.2, fun h => ⟨rfl, rfl, h⟩⟩
theorem badM {m : Nat} {t : D} (hm : 5 ≤ m) (ft : fine t) (hf : FeedAt S i (N + 40)) (hq : ∀ (d : D) (o : O), notTerm d → feedO N o → Q d (S.set i o)) : Run T m "_law_bad" [.loc i, t] S Q W := by
  obtain ⟨n, rfl⟩ : ∃ n, m = n + 5 := ⟨m - 5, by omega⟩
  exact w_bad ft hf hq
theorem w_with : ∀ (k : Nat) {n i N : Nat} {S : Store} {Q : Q1} {W : Str → Store → Prop} {t : D}, fine t → dp t ≤ k → FeedAt S i (N + 40 + 2 * k) → (∀ (d : D) (o : O), notTerm d → feedO N o → Q d (S.set i o)) → Run T (n + 6 + k) "_law_with" [.loc i, t] S Q W
  | 0, n, i, N, S, Q, W, t, ft, hd, hf, hq => by
    have := dp_pos t
    omega
  | k + 1, n, i, N, S, Q, W, t, ft, hd, hf, hq => by
    have hi := hf.lt
    obtain ⟨p1, _, p3, p4⟩ := parts_facts ft.1 ft.2
    obtain ⟨h, ps, rfl, hn, hl⟩ := okT_inv ft.1
    have tt2 : (tidy (.str h) && tidys ps) = true := ft.2
    rw [Bool.and_eq_true] at tt2
    have fps := tidys_free tt2.2
    refine wp_of (n := n + 6 + k) fn__law_with rfl ?_
    try simp only [fresh, wSs, wS, wE, wEs, wC, asB, asI, List.map_cons, List.map_nil, List.replicate_succ, List.replicate_zero, List.append_nil, List.getElem?_cons_zero, List.getElem?_cons_succ, List.getElem?_nil, List.cons_append, List.nil_append, putT_n, putT_t, putTs_n, putTs_c, List.set_cons_zero, List.set_cons_succ, List.length_cons, List.length_nil, List.length_set, List.length_replicate, back, inl, inls, reduceIte, Nat.reduceAdd, Nat.reduceSub, Nat.reduceLT, Nat.reduceLeDiff, Nat.zero_add, wipe, true_and, and_true, Bool.true_eq_false, Bool.false_eq_true, List.set_set, List.take_length, take_set_length, Bool.not_true, Bool.not_false, Int.reduceToNat, Int.reduceLE, Int.reduceLT, Int.reduceNeg, D.free, frees, Bool.and_true, Bool.true_and, Bool.and_self, Nat.reduceLeDiff, decide_true, decide_false, oAddI, oAddS, oAddT, oAddL, oAddA, oSub, oMulI, oMulS, oPow, oFdiv, oMod, oNeg, oLt, oLe, oGt, oGe, oIsN, oNotN, oIsB, oNotB, oIxT, oIxL, oIxS, oCutT_L, oCutT_R, oCutL_R, oCutS_L, oCutS_R, oUpper, oLenT, oLenL, oLenS, oMax2, oMin2, oInt1, oStr1, oIsi, oInS, oIn2, oInK, oIxK, oEqI, oEqS, oEqB, oNeB, oNeI, oNeE2, oEqTE, oAll, oSum, oTuple, oList1T, oList1L, walkL, walkT, newL, ix0, ix1, ix2, ix3, ix4, f__law_with, b__law_with, oIn7]
    refine ⟨by decide, ?_⟩
    have go : ∀ (qs : List D) (M : Nat) (o' : O) (S' : Store), S' = S → FeedAt S' i (N + 40) → Run T (n + 6 + k) "_law_bad" [.loc i, .tup (.str h :: ps)] S' (fun d S' => Q (inl S' S.length d) (S'.take S.length)) fun c S1 => W c (S1.take S.length) := by
      intro qs M o' S' e hf'
      subst e
      refine badM (N := N) (by omega) ft hf' fun d o hd ho => ?_
      try simp only [fresh, wSs, wS, wE, wEs, wC, asB, asI, List.map_cons, List.map_nil, List.replicate_succ, List.replicate_zero, List.append_nil, List.getElem?_cons_zero, List.getElem?_cons_succ, List.getElem?_nil, List.cons_append, List.nil_append, putT_n, putT_t, putTs_n, putTs_c, List.set_cons_zero, List.set_cons_succ, List.length_cons, List.length_nil, List.length_set, List.length_replicate, back, inl, inls, reduceIte, Nat.reduceAdd, Nat.reduceSub, Nat.reduceLT, Nat.reduceLeDiff, Nat.zero_add, wipe, true_and, and_true, Bool.true_eq_false, Bool.false_eq_true, List.set_set, List.take_length, take_set_length, Bool.not_true, Bool.not_false, Int.reduceToNat, Int.reduceLE, Int.reduceLT, Int.reduceNeg, D.free, frees, Bool.and_true, Bool.true_and, Bool.and_self, Nat.reduceLeDiff, decide_true, decide_false, oAddI, oAddS, oAddT, oAddL, oAddA, oSub, oMulI, oMulS, oPow, oFdiv, oMod, oNeg, oLt, oLe, oGt, oGe, oIsN, oNotN, oIsB, oNotB, oIxT, oIxL, oIxS, oCutT_L, oCutT_R, oCutL_R, oCutS_L, oCutS_R, oUpper, oLenT, oLenL, oLenS, oMax2, oMin2, oInt1, oStr1, oIsi, oInS, oIn2, oInK, oIxK, oEqI, oEqS, oEqB, oNeB, oNeI, oNeE2, oEqTE, oAll, oSum, oTuple, oList1T, oList1L, walkL, walkT, newL, ix0, ix1, ix2, ix3, ix4, inl_free (tidy_free hd.2)]
      exact hq d o hd ho
    cases e : isNode h with
    | false =>
      try simp only [fresh, wSs, wS, wE, wEs, wC, asB, asI, List.map_cons, List.map_nil, List.replicate_succ, List.replicate_zero, List.append_nil, List.getElem?_cons_zero, List.getElem?_cons_succ, List.getElem?_nil, List.cons_append, List.nil_append, putT_n, putT_t, putTs_n, putTs_c, List.set_cons_zero, List.set_cons_succ, List.length_cons, List.length_nil, List.length_set, List.length_replicate, back, inl, inls, reduceIte, Nat.reduceAdd, Nat.reduceSub, Nat.reduceLT, Nat.reduceLeDiff, Nat.zero_add, wipe, true_and, and_true, Bool.true_eq_false, Bool.false_eq_true, List.set_set, List.take_length, take_set_length, Bool.not_true, Bool.not_false, Int.reduceToNat, Int.reduceLE, Int.reduceLT, Int.reduceNeg, D.free, frees, Bool.and_true, Bool.true_and, Bool.and_self, Nat.reduceLeDiff, decide_true, decide_false, oAddI, oAddS, oAddT, oAddL, oAddA, oSub, oMulI, oMulS, oPow, oFdiv, oMod, oNeg, oLt, oLe, oGt, oGe, oIsN, oNotN, oIsB, oNotB, oIxT, oIxL, oIxS, oCutT_L, oCutT_R, oCutL_R, oCutS_L, oCutS_R, oUpper, oLenT, oLenL, oLenS, oMax2, oMin2, oInt1, oStr1, oIsi, oInS, oIn2, oInK, oIxK, oEqI, oEqS, oEqB, oNeB, oNeI, oNeE2, oEqTE, oAll, oSum, oTuple, oList1T, oList1L, walkL, walkT, newL, ix0, ix1, ix2, ix3, ix4]
      refine ⟨Nat.zero_le _, ?_⟩
      rw [if_pos (show ([] : List D).isEmpty = true by rfl)]
      exact ⟨Nat.zero_le _, go [] 0 (.lst []) S rfl (hf.mono (by omega))⟩
    | true =>
      have pe : partsOf (.tup (.str h :: ps)) = ps := by
        show (if isNode h = true then ps else []) = ps
        rw [if_pos e]
      rw [pe] at p1 p4
      obtain ⟨ha, ho⟩ := hn e
      obtain ⟨_, a1, a4⟩ := ar_of e
      try simp only [fresh, wSs, wS, wE, wEs, wC, asB, asI, List.map_cons, List.map_nil, List.replicate_succ, List.replicate_zero, List.append_nil, List.getElem?_cons_zero, List.getElem?_cons_succ, List.getElem?_nil, List.cons_append, List.nil_append, putT_n, putT_t, putTs_n, putTs_c, List.set_cons_zero, List.set_cons_succ, List.length_cons, List.length_nil, List.length_set, List.length_replicate, back, inl, inls, reduceIte, Nat.reduceAdd, Nat.reduceSub, Nat.reduceLT, Nat.reduceLeDiff, Nat.zero_add, wipe, true_and, and_true, Bool.true_eq_false, Bool.false_eq_true, List.set_set, List.take_length, take_set_length, Bool.not_true, Bool.not_false, Int.reduceToNat, Int.reduceLE, Int.reduceLT, Int.reduceNeg, D.free, frees, Bool.and_true, Bool.true_and, Bool.and_self, Nat.reduceLeDiff, decide_true, decide_false, oAddI, oAddS, oAddT, oAddL, oAddA, oSub, oMulI, oMulS, oPow, oFdiv, oMod, oNeg, oLt, oLe, oGt, oGe, oIsN, oNotN, oIsB, oNotB, oIxT, oIxL, oIxS, oCutT_L, oCutT_R, oCutL_R, oCutS_L, oCutS_R, oUpper, oLenT, oLenL, oLenS, oMax2, oMin2, oInt1, oStr1, oIsi, oInS, oIn2, oInK, oIxK, oEqI, oEqS, oEqB, oNeB, oNeI, oNeE2, oEqTE, oAll, oSum, oTuple, oList1T, oList1L, walkL, walkT, newL, ix0, ix1, ix2, ix3, ix4, cut1]
      refine ⟨Nat.zero_le _, ?_⟩
      rw [if_neg (show ¬ ps.isEmpty = true by intro z; rw [List.isEmpty_iff.mp z] at ha; simp at ha; omega)]
      refine drM (N := N + 41 + 2 * k) (by omega) (hf.mono (by omega)) (by decide) (by decide) fun v o2 v0 v1 ho2 => ?_
      try simp only [fresh, wSs, wS, wE, wEs, wC, asB, asI, List.map_cons, List.map_nil, List.replicate_succ, List.replicate_zero, List.append_nil, List.getElem?_cons_zero, List.getElem?_cons_succ, List.getElem?_nil, List.cons_append, List.nil_append, putT_n, putT_t, putTs_n, putTs_c, List.set_cons_zero, List.set_cons_succ, List.length_cons, List.length_nil, List.length_set, List.length_replicate, back, inl, inls, reduceIte, Nat.reduceAdd, Nat.reduceSub, Nat.reduceLT, Nat.reduceLeDiff, Nat.zero_add, wipe, true_and, and_true, Bool.true_eq_false, Bool.false_eq_true, List.set_set, List.take_length, take_set_length, Bool.not_true, Bool.not_false, Int.reduceToNat, Int.reduceLE, Int.reduceLT, Int.reduceNeg, D.free, frees, Bool.and_true, Bool.true_and, Bool.and_self, Nat.reduceLeDiff, decide_true, decide_false, oAddI, oAddS, oAddT, oAddL, oAddA, oSub, oMulI, oMulS, oPow, oFdiv, oMod, oNeg, oLt, oLe, oGt, oGe, oIsN, oNotN, oIsB, oNotB, oIxT, oIxL, oIxS, oCutT_L, oCutT_R, oCutL_R, oCutS_L, oCutS_R, oUpper, oLenT, oLenL, oLenS, oMax2, oMin2, oInt1, oStr1, oIsi, oInS, oIn2, oInK, oIxK, oEqI, oEqS, oEqB, oNeB, oNeI, oNeE2, oEqTE, oAll, oSum, oTuple, oList1T, oList1L, walkL, walkT, newL, ix0, ix1, ix2, ix3, ix4]
      split
      · refine badM (N := N + 1 + 2 * k) (by omega) ft (feedAt hi (ho2.mono (by omega))) fun d o hd ho => ?_
        try simp only [fresh, wSs, wS, wE, wEs, wC, asB, asI, List.map_cons, List.map_nil, List.replicate_succ, List.replicate_zero, List.append_nil, List.getElem?_cons_zero, List.getElem?_cons_succ, List.getElem?_nil, List.cons_append, List.nil_append, putT_n, putT_t, putTs_n, putTs_c, List.set_cons_zero, List.set_cons_succ, List.length_cons, List.length_nil, List.length_set, List.length_replicate, back, inl, inls, reduceIte, Nat.reduceAdd, Nat.reduceSub, Nat.reduceLT, Nat.reduceLeDiff, Nat.zero_add, wipe, true_and, and_true, Bool.true_eq_false, Bool.false_eq_true, List.set_set, List.take_length, take_set_length, Bool.not_true, Bool.not_false, Int.reduceToNat, Int.reduceLE, Int.reduceLT, Int.reduceNeg, D.free, frees, Bool.and_true, Bool.true_and, Bool.and_self, Nat.reduceLeDiff, decide_true, decide_false, oAddI, oAddS, oAddT, oAddL, oAddA, oSub, oMulI, oMulS, oPow, oFdiv, oMod, oNeg, oLt, oLe, oGt, oGe, oIsN, oNotN, oIsB, oNotB, oIxT, oIxL, oIxS, oCutT_L, oCutT_R, oCutL_R, oCutS_L, oCutS_R, oUpper, oLenT, oLenL, oLenS, oMax2, oMin2, oInt1, oStr1, oIsi, oInS, oIn2, oInK, oIxK, oEqI, oEqS, oEqB, oNeB, oNeI, oNeE2, oEqTE, oAll, oSum, oTuple, oList1T, oList1L, walkL, walkT, newL, ix0, ix1, ix2, ix3, ix4, inl_free (tidy_free hd.2)]
        exact hq d o hd (ho.mono (by omega))
      · refine drM (N := N + 40 + 2 * k) (by omega) (feedAt hi (ho2.mono (by omega))) (by omega) (by omega) fun r o3 r0 r1 ho3 => ?_
        obtain ⟨s, rfl⟩ : ∃ s : Nat, r = s := ⟨r.toNat, by omega⟩
        have hs : s < ps.length := by omega
        have c1 : cutOf (D.str h :: ps) 0 (cutLo (ps.length + 1) ((s : Int) + 1)) = .str h :: ps.take s := by
          rw [show ((s : Int) + 1) = ((s + 1 : Nat) : Int) by omega]
          exact cut_hi (zs := D.str h :: ps) (s + 1)
        have c2 : cutOf (D.str h :: ps) (cutLo (ps.length + 1) ((s : Int) + 2)) (ps.length + 1) = ps.drop (s + 1) := by
          rw [show ((s : Int) + 2) = ((s + 2 : Nat) : Int) by omega]
          exact cut_lo (zs := D.str h :: ps) (s + 2)
        have ix : ixOf ps (s : Int) = some ps[s] := by
          have : ixOf ps (s : Int) = ps[(s : Int).toNat]? := if_pos (by omega)
          rw [this, Int.toNat_natCast, List.getElem?_eq_getElem hs]
        try simp only [fresh, wSs, wS, wE, wEs, wC, asB, asI, List.map_cons, List.map_nil, List.replicate_succ, List.replicate_zero, List.append_nil, List.getElem?_cons_zero, List.getElem?_cons_succ, List.getElem?_nil, List.cons_append, List.nil_append, putT_n, putT_t, putTs_n, putTs_c, List.set_cons_zero, List.set_cons_succ, List.length_cons, List.length_nil, List.length_set, List.length_replicate, back, inl, inls, reduceIte, Nat.reduceAdd, Nat.reduceSub, Nat.reduceLT, Nat.reduceLeDiff, Nat.zero_add, wipe, true_and, and_true, Bool.true_eq_false, Bool.false_eq_true, List.set_set, List.take_length, take_set_length, Bool.not_true, Bool.not_false, Int.reduceToNat, Int.reduceLE, Int.reduceLT, Int.reduceNeg, D.free, frees, Bool.and_true, Bool.true_and, Bool.and_self, Nat.reduceLeDiff, decide_true, decide_false, oAddI, oAddS, oAddT, oAddL, oAddA, oSub, oMulI, oMulS, oPow, oFdiv, oMod, oNeg, oLt, oLe, oGt, oGe, oIsN, oNotN, oIsB, oNotB, oIxT, oIxL, oIxS, oCutT_L, oCutT_R, oCutL_R, oCutS_L, oCutS_R, oUpper, oLenT, oLenL, oLenS, oMax2, oMin2, oInt1, oStr1, oIsi, oInS, oIn2, oInK, oIxK, oEqI, oEqS, oEqB, oNeB, oNeI, oNeE2, oEqTE, oAll, oSum, oTuple, oList1T, oList1L, walkL, walkT, newL, ix0, ix1, ix2, ix3, ix4, c1, c2, ix]
        obtain ⟨q1, q2, q3⟩ := p1 ps[s] (List.getElem_mem hs)
        refine w_with k (N := N) ⟨q1, q2⟩ (by omega) (feedAt hi ho3) fun d o4 hd ho4 => ?_
        have tr : tidys (ps.take s ++ [d] ++ ps.drop (s + 1)) = true := tidys_of fun y hy => by
          rcases List.mem_append.mp hy with hy | hy
          · rcases List.mem_append.mp hy with hy | hy
            · exact tidys_mem tt2.2 (List.mem_of_mem_take hy)
            · rw [List.mem_singleton.mp hy]; exact hd.2
          · exact tidys_mem tt2.2 (List.mem_of_mem_drop hy)
        try simp only [fresh, wSs, wS, wE, wEs, wC, asB, asI, List.map_cons, List.map_nil, List.replicate_succ, List.replicate_zero, List.append_nil, List.getElem?_cons_zero, List.getElem?_cons_succ, List.getElem?_nil, List.cons_append, List.nil_append, putT_n, putT_t, putTs_n, putTs_c, List.set_cons_zero, List.set_cons_succ, List.length_cons, List.length_nil, List.length_set, List.length_replicate, back, inl, inls, reduceIte, Nat.reduceAdd, Nat.reduceSub, Nat.reduceLT, Nat.reduceLeDiff, Nat.zero_add, wipe, true_and, and_true, Bool.true_eq_false, Bool.false_eq_true, List.set_set, List.take_length, take_set_length, Bool.not_true, Bool.not_false, Int.reduceToNat, Int.reduceLE, Int.reduceLT, Int.reduceNeg, D.free, frees, Bool.and_true, Bool.true_and, Bool.and_self, Nat.reduceLeDiff, decide_true, decide_false, oAddI, oAddS, oAddT, oAddL, oAddA, oSub, oMulI, oMulS, oPow, oFdiv, oMod, oNeg, oLt, oLe, oGt, oGe, oIsN, oNotN, oIsB, oNotB, oIxT, oIxL, oIxS, oCutT_L, oCutT_R, oCutL_R, oCutS_L, oCutS_R, oUpper, oLenT, oLenL, oLenS, oMax2, oMin2, oInt1, oStr1, oIsi, oInS, oIn2, oInK, oIxK, oEqI, oEqS, oEqB, oNeB, oNeI, oNeE2, oEqTE, oAll, oSum, oTuple, oList1T, oList1L, walkL, walkT, newL, ix0, ix1, ix2, ix3, ix4]
        refine ⟨by decide, by simp, ?_, by simp, ?_, ?_⟩
        · rw [List.length_take]; show _ ≤ 16777216; omega
        · simp only [List.length_append, List.length_take, List.length_drop, List.length_cons, List.length_nil]; show _ ≤ 16777216; omega
        · rw [inls_free (tidys_free tr)]
          refine hq _ o4 ⟨?_, ?_⟩ ho4
          · show ((if isNode h = true then decide ((ps.take s ++ [d] ++ ps.drop (s + 1)).length = ar h) else leafForm h (ps.take s ++ [d] ++ ps.drop (s + 1))) && (if isNode h = true then okTs (ps.take s ++ [d] ++ ps.drop (s + 1)) else true)) = false
            rw [if_pos e, if_pos e, okTs_all, List.all_append, List.all_append]
            simp [hd.1]
          · show (tidy (.str h) && tidys (ps.take s ++ [d] ++ ps.drop (s + 1))) = true
            rw [tt2.1, tr]
            rfl
end
end K01
/-! K01pi: the law is true. -/
namespace K01
open Y
section
variable {n i N : Nat} {S : Store} {Q : Q1} {W : Str → Store → Prop}
theorem sb1 : T.subs "BadTerm" "BadTerm" = true := by rfl
theorem sb2 : T.subs "BadTerm" "ValueError" = true := by rfl
theorem w_refused {x : D} (hx : tidy x = true) (hg : goodT x = false) (hq : Q (.bl true) S) : Run T (n + 71) "_law_refused" [x] S Q W := by
  refine wp_of fn__law_refused rfl ?_
  try simp only [fresh, wSs, wS, wE, wEs, wC, asB, asI, List.map_cons, List.map_nil, List.replicate_succ, List.replicate_zero, List.append_nil, List.getElem?_cons_zero, List.getElem?_cons_succ, List.getElem?_nil, List.cons_append, List.nil_append, putT_n, putT_t, putTs_n, putTs_c, List.set_cons_zero, List.set_cons_succ, List.length_cons, List.length_nil, List.length_set, List.length_replicate, back, inl, inls, reduceIte, Nat.reduceAdd, Nat.reduceSub, Nat.reduceLT, Nat.reduceLeDiff, Nat.zero_add, wipe, true_and, and_true, Bool.true_eq_false, Bool.false_eq_true, List.set_set, List.take_length, take_set_length, Bool.not_true, Bool.not_false, Int.reduceToNat, Int.reduceLE, Int.reduceLT, Int.reduceNeg, D.free, frees, Bool.and_true, Bool.true_and, Bool.and_self, Nat.reduceLeDiff, decide_true, decide_false, oAddI, oAddS, oAddT, oAddL, oAddA, oSub, oMulI, oMulS, oPow, oFdiv, oMod, oNeg, oLt, oLe, oGt, oGe, oIsN, oNotN, oIsB, oNotB, oIxT, oIxL, oIxS, oCutT_L, oCutT_R, oCutL_R, oCutS_L, oCutS_R, oUpper, oLenT, oLenL, oLenS, oMax2, oMin2, oInt1, oStr1, oIsi, oInS, oIn2, oInK, oIxK, oEqI, oEqS, oEqB, oNeB, oNeI, oNeE2, oEqTE, oAll, oSum, oTuple, oList1T, oList1L, walkL, walkT, newL, ix0, ix1, ix2, ix3, ix4, f__law_refused, b__law_refused, isTyO getApp]
  refine ⟨by decide, w_size (n := n) hx (fun h => by rw [hg] at h; cases h) fun _ => ?_⟩
  try simp only [fresh, wSs, wS, wE, wEs, wC, asB, asI, List.map_cons, List.map_nil, List.replicate_succ, List.replicate_zero, List.append_nil, List.getElem?_cons_zero, List.getElem?_cons_succ, List.getElem?_nil, List.cons_append, List.nil_append, putT_n, putT_t, putTs_n, putTs_c, List.set_cons_zero, List.set_cons_succ, List.length_cons, List.length_nil, List.length_set, List.length_replicate, back, inl, inls, reduceIte, Nat.reduceAdd, Nat.reduceSub, Nat.reduceLT, Nat.reduceLeDiff, Nat.zero_add, wipe, true_and, and_true, Bool.true_eq_false, Bool.false_eq_true, List.set_set, List.take_length, take_set_length, Bool.not_true, Bool.not_false, Int.reduceToNat, Int.reduceLE, Int.reduceLT, Int.reduceNeg, D.free, frees, Bool.and_true, Bool.true_and, Bool.and_self, Nat.reduceLeDiff, decide_true, decide_false, oAddI, oAddS, oAddT, oAddL, oAddA, oSub, oMulI, oMulS, oPow, oFdiv, oMod, oNeg, oLt, oLe, oGt, oGe, oIsN, oNotN, oIsB, oNotB, oIxT, oIxL, oIxS, oCutT_L, oCutT_R, oCutL_R, oCutS_L, oCutS_R, oUpper, oLenT, oLenL, oLenS, oMax2, oMin2, oInt1, oStr1, oIsi, oInS, oIn2, oInK, oIxK, oEqI, oEqS, oEqB, oNeB, oNeI, oNeE2, oEqTE, oAll, oSum, oTuple, oList1T, oList1L, walkL, walkT, newL, ix0, ix1, ix2, ix3, ix4, catchW, sb1, sb2, isTyO getApp, oApp getApp, setApp]
  refine ⟨by decide, w_depth (n := n) hx (fun h => by rw [hg] at h; cases h) fun _ => ?_⟩
  try simp only [fresh, wSs, wS, wE, wEs, wC, asB, asI, List.map_cons, List.map_nil, List.replicate_succ, List.replicate_zero, List.append_nil, List.getElem?_cons_zero, List.getElem?_cons_succ, List.getElem?_nil, List.cons_append, List.nil_append, putT_n, putT_t, putTs_n, putTs_c, List.set_cons_zero, List.set_cons_succ, List.length_cons, List.length_nil, List.length_set, List.length_replicate, back, inl, inls, reduceIte, Nat.reduceAdd, Nat.reduceSub, Nat.reduceLT, Nat.reduceLeDiff, Nat.zero_add, wipe, true_and, and_true, Bool.true_eq_false, Bool.false_eq_true, List.set_set, List.take_length, take_set_length, Bool.not_true, Bool.not_false, Int.reduceToNat, Int.reduceLE, Int.reduceLT, Int.reduceNeg, D.free, frees, Bool.and_true, Bool.true_and, Bool.and_self, Nat.reduceLeDiff, decide_true, decide_false, oAddI, oAddS, oAddT, oAddL, oAddA, oSub, oMulI, oMulS, oPow, oFdiv, oMod, oNeg, oLt, oLe, oGt, oGe, oIsN, oNotN, oIsB, oNotB, oIxT, oIxL, oIxS, oCutT_L, oCutT_R, oCutL_R, oCutS_L, oCutS_R, oUpper, oLenT, oLenL, oLenS, oMax2, oMin2, oInt1, oStr1, oIsi, oInS, oIn2, oInK, oIxK, oEqI, oEqS, oEqB, oNeB, oNeI, oNeE2, oEqTE, oAll, oSum, oTuple, oList1T, oList1L, walkL, walkT, newL, ix0, ix1, ix2, ix3, ix4, catchW, sb1, sb2, isTyO getApp, oApp getApp, setApp, oEqO getApp]
  refine ⟨by decide, by decide, ?_⟩
  unfold wEqs
  rw [if_neg (by decide)]
  refine ⟨rfl, rfl, by decide, by decide, ?_⟩
  try simp only [fresh, wSs, wS, wE, wEs, wC, asB, asI, List.map_cons, List.map_nil, List.replicate_succ, List.replicate_zero, List.append_nil, List.getElem?_cons_zero, List.getElem?_cons_succ, List.getElem?_nil, List.cons_append, List.nil_append, putT_n, putT_t, putTs_n, putTs_c, List.set_cons_zero, List.set_cons_succ, List.length_cons, List.length_nil, List.length_set, List.length_replicate, back, inl, inls, reduceIte, Nat.reduceAdd, Nat.reduceSub, Nat.reduceLT, Nat.reduceLeDiff, Nat.zero_add, wipe, true_and, and_true, Bool.true_eq_false, Bool.false_eq_true, List.set_set, List.take_length, take_set_length, Bool.not_true, Bool.not_false, Int.reduceToNat, Int.reduceLE, Int.reduceLT, Int.reduceNeg, D.free, frees, Bool.and_true, Bool.true_and, Bool.and_self, Nat.reduceLeDiff, decide_true, decide_false, oAddI, oAddS, oAddT, oAddL, oAddA, oSub, oMulI, oMulS, oPow, oFdiv, oMod, oNeg, oLt, oLe, oGt, oGe, oIsN, oNotN, oIsB, oNotB, oIxT, oIxL, oIxS, oCutT_L, oCutT_R, oCutL_R, oCutS_L, oCutS_R, oUpper, oLenT, oLenL, oLenS, oMax2, oMin2, oInt1, oStr1, oIsi, oInS, oIn2, oInK, oIxK, oEqI, oEqS, oEqB, oNeB, oNeI, oNeE2, oEqTE, oAll, oSum, oTuple, oList1T, oList1L, walkL, walkT, newL, ix0, ix1, ix2, ix3, ix4]
  rw [List.take_left]
  exact hq
theorem w_right {x : D} {m d : Nat} (fx : fine x) (em : sz x = m) (ed : dp x = d) (hq : Q (.bl true) S) : Run T (n + 72) "_law_right" [x, .int m, .int d] S Q W := by
  have fr := tidy_free fx.2
  refine wp_of fn__law_right rfl ?_
  try simp only [fresh, wSs, wS, wE, wEs, wC, asB, asI, List.map_cons, List.map_nil, List.replicate_succ, List.replicate_zero, List.append_nil, List.getElem?_cons_zero, List.getElem?_cons_succ, List.getElem?_nil, List.cons_append, List.nil_append, putT_n, putT_t, putTs_n, putTs_c, List.set_cons_zero, List.set_cons_succ, List.length_cons, List.length_nil, List.length_set, List.length_replicate, back, inl, inls, reduceIte, Nat.reduceAdd, Nat.reduceSub, Nat.reduceLT, Nat.reduceLeDiff, Nat.zero_add, wipe, true_and, and_true, Bool.true_eq_false, Bool.false_eq_true, List.set_set, List.take_length, take_set_length, Bool.not_true, Bool.not_false, Int.reduceToNat, Int.reduceLE, Int.reduceLT, Int.reduceNeg, D.free, frees, Bool.and_true, Bool.true_and, Bool.and_self, Nat.reduceLeDiff, decide_true, decide_false, oAddI, oAddS, oAddT, oAddL, oAddA, oSub, oMulI, oMulS, oPow, oFdiv, oMod, oNeg, oLt, oLe, oGt, oGe, oIsN, oNotN, oIsB, oNotB, oIxT, oIxL, oIxS, oCutT_L, oCutT_R, oCutL_R, oCutS_L, oCutS_R, oUpper, oLenT, oLenL, oLenS, oMax2, oMin2, oInt1, oStr1, oIsi, oInS, oIn2, oInK, oIxK, oEqI, oEqS, oEqB, oNeB, oNeI, oNeE2, oEqTE, oAll, oSum, oTuple, oList1T, oList1L, walkL, walkT, newL, ix0, ix1, ix2, ix3, ix4, f__law_right, b__law_right]
  have bad : goodT x = false → Run T (n + 71) "is_term" [x] S (fun d S1 => opW Op.isB [d, D.bl false] S1 (asB fun t S1 => if t = true then Run T (n + 71) "_law_refused" [x] S1 (fun d S' => Q (inl S' S.length d) (S'.take S.length)) fun c S1 => W c (S1.take S.length) else Q (.bl false) (S1.take S.length))) fun c S1 => W c (S1.take S.length) := fun hg => by
    refine w_is_term (n := n + 65) fx.2 ?_
    try simp only [fresh, wSs, wS, wE, wEs, wC, asB, asI, List.map_cons, List.map_nil, List.replicate_succ, List.replicate_zero, List.append_nil, List.getElem?_cons_zero, List.getElem?_cons_succ, List.getElem?_nil, List.cons_append, List.nil_append, putT_n, putT_t, putTs_n, putTs_c, List.set_cons_zero, List.set_cons_succ, List.length_cons, List.length_nil, List.length_set, List.length_replicate, back, inl, inls, reduceIte, Nat.reduceAdd, Nat.reduceSub, Nat.reduceLT, Nat.reduceLeDiff, Nat.zero_add, wipe, true_and, and_true, Bool.true_eq_false, Bool.false_eq_true, List.set_set, List.take_length, take_set_length, Bool.not_true, Bool.not_false, Int.reduceToNat, Int.reduceLE, Int.reduceLT, Int.reduceNeg, D.free, frees, Bool.and_true, Bool.true_and, Bool.and_self, Nat.reduceLeDiff, decide_true, decide_false, oAddI, oAddS, oAddT, oAddL, oAddA, oSub, oMulI, oMulS, oPow, oFdiv, oMod, oNeg, oLt, oLe, oGt, oGe, oIsN, oNotN, oIsB, oNotB, oIxT, oIxL, oIxS, oCutT_L, oCutT_R, oCutL_R, oCutS_L, oCutS_R, oUpper, oLenT, oLenL, oLenS, oMax2, oMin2, oInt1, oStr1, oIsi, oInS, oIn2, oInK, oIxK, oEqI, oEqS, oEqB, oNeB, oNeI, oNeE2, oEqTE, oAll, oSum, oTuple, oList1T, oList1L, walkL, walkT, newL, ix0, ix1, ix2, ix3, ix4, hg]
    rw [if_pos (show (false == false) = true by rfl)]
    refine w_refused fx.2 hg ?_
    try simp only [fresh, wSs, wS, wE, wEs, wC, asB, asI, List.map_cons, List.map_nil, List.replicate_succ, List.replicate_zero, List.append_nil, List.getElem?_cons_zero, List.getElem?_cons_succ, List.getElem?_nil, List.cons_append, List.nil_append, putT_n, putT_t, putTs_n, putTs_c, List.set_cons_zero, List.set_cons_succ, List.length_cons, List.length_nil, List.length_set, List.length_replicate, back, inl, inls, reduceIte, Nat.reduceAdd, Nat.reduceSub, Nat.reduceLT, Nat.reduceLeDiff, Nat.zero_add, wipe, true_and, and_true, Bool.true_eq_false, Bool.false_eq_true, List.set_set, List.take_length, take_set_length, Bool.not_true, Bool.not_false, Int.reduceToNat, Int.reduceLE, Int.reduceLT, Int.reduceNeg, D.free, frees, Bool.and_true, Bool.true_and, Bool.and_self, Nat.reduceLeDiff, decide_true, decide_false, oAddI, oAddS, oAddT, oAddL, oAddA, oSub, oMulI, oMulS, oPow, oFdiv, oMod, oNeg, oLt, oLe, oGt, oGe, oIsN, oNotN, oIsB, oNotB, oIxT, oIxL, oIxS, oCutT_L, oCutT_R, oCutL_R, oCutS_L, oCutS_R, oUpper, oLenT, oLenL, oLenS, oMax2, oMin2, oInt1, oStr1, oIsi, oInS, oIn2, oInK, oIxK, oEqI, oEqS, oEqB, oNeB, oNeI, oNeE2, oEqTE, oAll, oSum, oTuple, oList1T, oList1L, walkL, walkT, newL, ix0, ix1, ix2, ix3, ix4]
    exact hq
  by_cases c1 : m ≤ 2000
  · rw [if_neg (show ¬ decide ((2000 : Int) < (m : Int)) = true by rw [decide_eq_false (by omega)]; decide)]
    by_cases c2 : d ≤ 60
    · rw [if_neg (show ¬ decide ((60 : Int) < (d : Int)) = true by rw [decide_eq_false (by omega)]; decide)]
      have hg : goodT x = true := by
        unfold goodT
        rw [fx.1, em, ed, decide_eq_true c1, decide_eq_true c2]
        rfl
      refine w_size (n := n + 1) fx.2 (fun _ => ?_) fun h => by rw [hg] at h; cases h
      rw [em]
      try simp only [fresh, wSs, wS, wE, wEs, wC, asB, asI, List.map_cons, List.map_nil, List.replicate_succ, List.replicate_zero, List.append_nil, List.getElem?_cons_zero, List.getElem?_cons_succ, List.getElem?_nil, List.cons_append, List.nil_append, putT_n, putT_t, putTs_n, putTs_c, List.set_cons_zero, List.set_cons_succ, List.length_cons, List.length_nil, List.length_set, List.length_replicate, back, inl, inls, reduceIte, Nat.reduceAdd, Nat.reduceSub, Nat.reduceLT, Nat.reduceLeDiff, Nat.zero_add, wipe, true_and, and_true, Bool.true_eq_false, Bool.false_eq_true, List.set_set, List.take_length, take_set_length, Bool.not_true, Bool.not_false, Int.reduceToNat, Int.reduceLE, Int.reduceLT, Int.reduceNeg, D.free, frees, Bool.and_true, Bool.true_and, Bool.and_self, Nat.reduceLeDiff, decide_true, decide_false, oAddI, oAddS, oAddT, oAddL, oAddA, oSub, oMulI, oMulS, oPow, oFdiv, oMod, oNeg, oLt, oLe, oGt, oGe, oIsN, oNotN, oIsB, oNotB, oIxT, oIxL, oIxS, oCutT_L, oCutT_R, oCutL_R, oCutS_L, oCutS_R, oUpper, oLenT, oLenL, oLenS, oMax2, oMin2, oInt1, oStr1, oIsi, oInS, oIn2, oInK, oIxK, oEqI, oEqS, oEqB, oNeB, oNeI, oNeE2, oEqTE, oAll, oSum, oTuple, oList1T, oList1L, walkL, walkT, newL, ix0, ix1, ix2, ix3, ix4, pick, List.filterMap_cons, List.filterMap_nil]
      refine w_depth (n := n + 1) fx.2 (fun _ => ?_) fun h => by rw [hg] at h; cases h
      rw [ed]
      try simp only [fresh, wSs, wS, wE, wEs, wC, asB, asI, List.map_cons, List.map_nil, List.replicate_succ, List.replicate_zero, List.append_nil, List.getElem?_cons_zero, List.getElem?_cons_succ, List.getElem?_nil, List.cons_append, List.nil_append, putT_n, putT_t, putTs_n, putTs_c, List.set_cons_zero, List.set_cons_succ, List.length_cons, List.length_nil, List.length_set, List.length_replicate, back, inl, inls, reduceIte, Nat.reduceAdd, Nat.reduceSub, Nat.reduceLT, Nat.reduceLeDiff, Nat.zero_add, wipe, true_and, and_true, Bool.true_eq_false, Bool.false_eq_true, List.set_set, List.take_length, take_set_length, Bool.not_true, Bool.not_false, Int.reduceToNat, Int.reduceLE, Int.reduceLT, Int.reduceNeg, D.free, frees, Bool.and_true, Bool.true_and, Bool.and_self, Nat.reduceLeDiff, decide_true, decide_false, oAddI, oAddS, oAddT, oAddL, oAddA, oSub, oMulI, oMulS, oPow, oFdiv, oMod, oNeg, oLt, oLe, oGt, oGe, oIsN, oNotN, oIsB, oNotB, oIxT, oIxL, oIxS, oCutT_L, oCutT_R, oCutL_R, oCutS_L, oCutS_R, oUpper, oLenT, oLenL, oLenS, oMax2, oMin2, oInt1, oStr1, oIsi, oInS, oIn2, oInK, oIxK, oEqI, oEqS, oEqB, oNeB, oNeI, oNeE2, oEqTE, oAll, oSum, oTuple, oList1T, oList1L, walkL, walkT, newL, ix0, ix1, ix2, ix3, ix4, pick, List.filterMap_cons, List.filterMap_nil]
      have tl : Run T (n + 71) "is_term" [x] S (fun d S1 => opW Op.isB [d, D.bl true] S1 fun d S' => Q (inl S' S.length d) (S'.take S.length)) fun c S1 => W c (S1.take S.length) := by
        refine w_is_term (n := n + 65) fx.2 ?_
        try simp only [fresh, wSs, wS, wE, wEs, wC, asB, asI, List.map_cons, List.map_nil, List.replicate_succ, List.replicate_zero, List.append_nil, List.getElem?_cons_zero, List.getElem?_cons_succ, List.getElem?_nil, List.cons_append, List.nil_append, putT_n, putT_t, putTs_n, putTs_c, List.set_cons_zero, List.set_cons_succ, List.length_cons, List.length_nil, List.length_set, List.length_replicate, back, inl, inls, reduceIte, Nat.reduceAdd, Nat.reduceSub, Nat.reduceLT, Nat.reduceLeDiff, Nat.zero_add, wipe, true_and, and_true, Bool.true_eq_false, Bool.false_eq_true, List.set_set, List.take_length, take_set_length, Bool.not_true, Bool.not_false, Int.reduceToNat, Int.reduceLE, Int.reduceLT, Int.reduceNeg, D.free, frees, Bool.and_true, Bool.true_and, Bool.and_self, Nat.reduceLeDiff, decide_true, decide_false, oAddI, oAddS, oAddT, oAddL, oAddA, oSub, oMulI, oMulS, oPow, oFdiv, oMod, oNeg, oLt, oLe, oGt, oGe, oIsN, oNotN, oIsB, oNotB, oIxT, oIxL, oIxS, oCutT_L, oCutT_R, oCutL_R, oCutS_L, oCutS_R, oUpper, oLenT, oLenL, oLenS, oMax2, oMin2, oInt1, oStr1, oIsi, oInS, oIn2, oInK, oIxK, oEqI, oEqS, oEqB, oNeB, oNeI, oNeE2, oEqTE, oAll, oSum, oTuple, oList1T, oList1L, walkL, walkT, newL, ix0, ix1, ix2, ix3, ix4, hg]
        exact hq
      refine ⟨by decide, ?_⟩
      split
      · refine w_size (n := n + 1) fx.2 (fun _ => ?_) fun h => by rw [hg] at h; cases h
        rw [em]
        try simp only [fresh, wSs, wS, wE, wEs, wC, asB, asI, List.map_cons, List.map_nil, List.replicate_succ, List.replicate_zero, List.append_nil, List.getElem?_cons_zero, List.getElem?_cons_succ, List.getElem?_nil, List.cons_append, List.nil_append, putT_n, putT_t, putTs_n, putTs_c, List.set_cons_zero, List.set_cons_succ, List.length_cons, List.length_nil, List.length_set, List.length_replicate, back, inl, inls, reduceIte, Nat.reduceAdd, Nat.reduceSub, Nat.reduceLT, Nat.reduceLeDiff, Nat.zero_add, wipe, true_and, and_true, Bool.true_eq_false, Bool.false_eq_true, List.set_set, List.take_length, take_set_length, Bool.not_true, Bool.not_false, Int.reduceToNat, Int.reduceLE, Int.reduceLT, Int.reduceNeg, D.free, frees, Bool.and_true, Bool.true_and, Bool.and_self, Nat.reduceLeDiff, decide_true, decide_false, oAddI, oAddS, oAddT, oAddL, oAddA, oSub, oMulI, oMulS, oPow, oFdiv, oMod, oNeg, oLt, oLe, oGt, oGe, oIsN, oNotN, oIsB, oNotB, oIxT, oIxL, oIxS, oCutT_L, oCutT_R, oCutL_R, oCutS_L, oCutS_R, oUpper, oLenT, oLenL, oLenS, oMax2, oMin2, oInt1, oStr1, oIsi, oInS, oIn2, oInK, oIxK, oEqI, oEqS, oEqB, oNeB, oNeI, oNeE2, oEqTE, oAll, oSum, oTuple, oList1T, oList1L, walkL, walkT, newL, ix0, ix1, ix2, ix3, ix4]
        refine w_depth (n := n + 1) fx.2 (fun _ => ?_) fun h => by rw [hg] at h; cases h
        rw [ed]
        try simp only [fresh, wSs, wS, wE, wEs, wC, asB, asI, List.map_cons, List.map_nil, List.replicate_succ, List.replicate_zero, List.append_nil, List.getElem?_cons_zero, List.getElem?_cons_succ, List.getElem?_nil, List.cons_append, List.nil_append, putT_n, putT_t, putTs_n, putTs_c, List.set_cons_zero, List.set_cons_succ, List.length_cons, List.length_nil, List.length_set, List.length_replicate, back, inl, inls, reduceIte, Nat.reduceAdd, Nat.reduceSub, Nat.reduceLT, Nat.reduceLeDiff, Nat.zero_add, wipe, true_and, and_true, Bool.true_eq_false, Bool.false_eq_true, List.set_set, List.take_length, take_set_length, Bool.not_true, Bool.not_false, Int.reduceToNat, Int.reduceLE, Int.reduceLT, Int.reduceNeg, D.free, frees, Bool.and_true, Bool.true_and, Bool.and_self, Nat.reduceLeDiff, decide_true, decide_false, oAddI, oAddS, oAddT, oAddL, oAddA, oSub, oMulI, oMulS, oPow, oFdiv, oMod, oNeg, oLt, oLe, oGt, oGe, oIsN, oNotN, oIsB, oNotB, oIxT, oIxL, oIxS, oCutT_L, oCutT_R, oCutL_R, oCutS_L, oCutS_R, oUpper, oLenT, oLenL, oLenS, oMax2, oMin2, oInt1, oStr1, oIsi, oInS, oIn2, oInK, oIxK, oEqI, oEqS, oEqB, oNeB, oNeI, oNeE2, oEqTE, oAll, oSum, oTuple, oList1T, oList1L, walkL, walkT, newL, ix0, ix1, ix2, ix3, ix4, compW, cc0__law_right, isInt_int, isBool_int, List.isEmpty_nil, oInL]
        refine ⟨by decide, by decide, Nat.zero_le _, Nat.zero_le _, by decide, by decide, by decide, rfl, rfl, rfl, by simp [D.depth, depths], by simp [D.depth, depths], ?_⟩
        rw [show ([D.lst [.int (m : Int), .int (d : Int)], D.lst [.int (m : Int), .int (d : Int), .int (m : Int), .int (d : Int)]].any fun z => eqD z (.lst [.int (m : Int), .int (d : Int), .int (m : Int), .int (d : Int)])) = true by simp [eqD, eqDs]]
        exact tl
      · try simp only [fresh, wSs, wS, wE, wEs, wC, asB, asI, List.map_cons, List.map_nil, List.replicate_succ, List.replicate_zero, List.append_nil, List.getElem?_cons_zero, List.getElem?_cons_succ, List.getElem?_nil, List.cons_append, List.nil_append, putT_n, putT_t, putTs_n, putTs_c, List.set_cons_zero, List.set_cons_succ, List.length_cons, List.length_nil, List.length_set, List.length_replicate, back, inl, inls, reduceIte, Nat.reduceAdd, Nat.reduceSub, Nat.reduceLT, Nat.reduceLeDiff, Nat.zero_add, wipe, true_and, and_true, Bool.true_eq_false, Bool.false_eq_true, List.set_set, List.take_length, take_set_length, Bool.not_true, Bool.not_false, Int.reduceToNat, Int.reduceLE, Int.reduceLT, Int.reduceNeg, D.free, frees, Bool.and_true, Bool.true_and, Bool.and_self, Nat.reduceLeDiff, decide_true, decide_false, oAddI, oAddS, oAddT, oAddL, oAddA, oSub, oMulI, oMulS, oPow, oFdiv, oMod, oNeg, oLt, oLe, oGt, oGe, oIsN, oNotN, oIsB, oNotB, oIxT, oIxL, oIxS, oCutT_L, oCutT_R, oCutL_R, oCutS_L, oCutS_R, oUpper, oLenT, oLenL, oLenS, oMax2, oMin2, oInt1, oStr1, oIsi, oInS, oIn2, oInK, oIxK, oEqI, oEqS, oEqB, oNeB, oNeI, oNeE2, oEqTE, oAll, oSum, oTuple, oList1T, oList1L, walkL, walkT, newL, ix0, ix1, ix2, ix3, ix4, compW, cc0__law_right, isInt_int, isBool_int, List.isEmpty_nil, oInL]
        refine ⟨Nat.zero_le _, Nat.zero_le _, by decide, by decide, by decide, rfl, rfl, rfl, by simp [D.depth, depths], by simp [D.depth, depths], ?_⟩
        rw [show ([D.lst [.int (m : Int), .int (d : Int)], D.lst [.int (m : Int), .int (d : Int), .int (m : Int), .int (d : Int)]].any fun z => eqD z (.lst [.int (m : Int), .int (d : Int)])) = true by simp [eqD, eqDs]]
        exact tl
    · rw [if_pos (show decide ((60 : Int) < (d : Int)) = true from decide_eq_true (by omega))]
      refine bad ?_
      unfold goodT
      rw [ed, decide_eq_false c2, Bool.and_false]
  · rw [if_pos (show decide ((2000 : Int) < (m : Int)) = true from decide_eq_true (by omega))]
    refine bad ?_
    unfold goodT
    rw [em, decide_eq_false c1]
    simp
/-! ### the feed -/
theorem bits_mono {i : Int} {a b : Nat} (h : i.natAbs < 2 ^ a) (l : a ≤ b) : i.natAbs < 2 ^ b := Nat.lt_of_lt_of_le h (Nat.pow_le_pow_right (by decide) l)
theorem bits_add {i j : Int} {a : Nat} (h1 : i.natAbs < 2 ^ a) (h2 : j.natAbs < 2 ^ a) : (i + j).natAbs < 2 ^ (a + 1) := by
  have e : 2 ^ (a + 1) = 2 * 2 ^ a := by rw [Nat.pow_succ]; omega
  rw [e]
  generalize 2 ^ a = x at *
  omega
theorem bits_sum {B : Nat} : ∀ {l : List Int}, (∀ z ∈ l, z.natAbs < 2 ^ B) → l.sum.natAbs < 2 ^ (B + l.length)
  | [], _ => by
    show 0 < 2 ^ (B + 0)
    exact Nat.pow_pos (by decide)
  | z :: r, h => by
    rw [List.sum_cons, List.length_cons]
    exact bits_add (bits_mono (h z List.mem_cons_self) (Nat.le_add_right _ _)) (bits_sum fun y hy => h y (List.mem_cons_of_mem _ hy))
theorem w_feed {ns : List Int} {B k : Nat} (hB : 1 ≤ B) (hB2 : B ≤ 1048577) (hns : ∀ z ∈ ns, z.natAbs < 2 ^ B) (hl : ns.length ≤ 63) (hk : k ≤ 3) (hq : ∀ o : O, feedO 9223372036854775808 o → Q (.loc S.length) (S ++ [o])) : Run T (n + 1) "_law_feed" [.lst (ns.map .int), .int k] S Q W := by
  refine wp_of fn__law_feed rfl ?_
  try simp only [fresh, wSs, wS, wE, wEs, wC, asB, asI, List.map_cons, List.map_nil, List.replicate_succ, List.replicate_zero, List.append_nil, List.getElem?_cons_zero, List.getElem?_cons_succ, List.getElem?_nil, List.cons_append, List.nil_append, putT_n, putT_t, putTs_n, putTs_c, List.set_cons_zero, List.set_cons_succ, List.length_cons, List.length_nil, List.length_set, List.length_replicate, back, inl, inls, reduceIte, Nat.reduceAdd, Nat.reduceSub, Nat.reduceLT, Nat.reduceLeDiff, Nat.zero_add, wipe, true_and, and_true, Bool.true_eq_false, Bool.false_eq_true, List.set_set, List.take_length, take_set_length, Bool.not_true, Bool.not_false, Int.reduceToNat, Int.reduceLE, Int.reduceLT, Int.reduceNeg, D.free, frees, Bool.and_true, Bool.true_and, Bool.and_self, Nat.reduceLeDiff, decide_true, decide_false, oAddI, oAddS, oAddT, oAddL, oAddA, oSub, oMulI, oMulS, oPow, oFdiv, oMod, oNeg, oLt, oLe, oGt, oGe, oIsN, oNotN, oIsB, oNotB, oIxT, oIxL, oIxS, oCutT_L, oCutT_R, oCutL_R, oCutS_L, oCutS_R, oUpper, oLenT, oLenL, oLenS, oMax2, oMin2, oInt1, oStr1, oIsi, oInS, oIn2, oInK, oIxK, oEqI, oEqS, oEqB, oNeB, oNeI, oNeE2, oEqTE, oAll, oSum, oTuple, oList1T, oList1L, walkL, walkT, newL, ix0, ix1, ix2, ix3, ix4, f__law_feed, b__law_feed]
  have ec : cutOf (ns.map D.int) 0 (cutLo (ns.map D.int).length 4) = (ns.take 4).map D.int := by
    have := cut_hi (zs := ns.map D.int) 4
    rw [List.map_take]
    exact this
  rw [ec]
  have ei : intsOf ((ns.take 4).map D.int) = some (ns.take 4) := by
    have := ints_map (fun z : Int => z) (ns.take 4)
    rw [List.map_id'] at this
    exact this
  have kb : (k : Int).natAbs < 2 ^ 2 := by omega
  have sb : (ns.take 4).sum.natAbs < 2 ^ (B + 4) := bits_mono (bits_sum (B := B) fun z hz => hns z (List.mem_of_mem_take hz)) (by rw [List.length_take]; omega)
  refine ⟨mulOk_of (a := 12) (by decide) kb (by decide) (by decide) (by decide), by rw [List.length_map, List.length_take]; show _ ≤ 16777216; omega, frees_of fun y hy => ?_, ?_⟩
  · obtain ⟨z, _, rfl⟩ := List.mem_map.mp hy
    rfl
  show (match intsOf ((ns.take 4).map D.int) with | some ns => _ | none => False)
  rw [ei]
  try simp only [fresh, wSs, wS, wE, wEs, wC, asB, asI, List.map_cons, List.map_nil, List.replicate_succ, List.replicate_zero, List.append_nil, List.getElem?_cons_zero, List.getElem?_cons_succ, List.getElem?_nil, List.cons_append, List.nil_append, putT_n, putT_t, putTs_n, putTs_c, List.set_cons_zero, List.set_cons_succ, List.length_cons, List.length_nil, List.length_set, List.length_replicate, back, inl, inls, reduceIte, Nat.reduceAdd, Nat.reduceSub, Nat.reduceLT, Nat.reduceLeDiff, Nat.zero_add, wipe, true_and, and_true, Bool.true_eq_false, Bool.false_eq_true, List.set_set, List.take_length, take_set_length, Bool.not_true, Bool.not_false, Int.reduceToNat, Int.reduceLE, Int.reduceLT, Int.reduceNeg, D.free, frees, Bool.and_true, Bool.true_and, Bool.and_self, Nat.reduceLeDiff, decide_true, decide_false, oAddI, oAddS, oAddT, oAddL, oAddA, oSub, oMulI, oMulS, oPow, oFdiv, oMod, oNeg, oLt, oLe, oGt, oGe, oIsN, oNotN, oIsB, oNotB, oIxT, oIxL, oIxS, oCutT_L, oCutT_R, oCutL_R, oCutS_L, oCutS_R, oUpper, oLenT, oLenL, oLenS, oMax2, oMin2, oInt1, oStr1, oIsi, oInS, oIn2, oInK, oIxK, oEqI, oEqS, oEqB, oNeB, oNeI, oNeE2, oEqTE, oAll, oSum, oTuple, oList1T, oList1L, walkL, walkT, newL, ix0, ix1, ix2, ix3, ix4]
  have last : ∀ cell : Int, cell.natAbs < 2 ^ (B + 20) → 10 ≤ 20 → mulOk cell 1013 ∧ mulOk 91 k ∧ mulOk (cell * 1013 + 91 * k + 7) (10 ^ 31 + 33) := by
    intro cell hc _
    have h1 : (cell * 1013).natAbs < 2 ^ (B + 30) := mul_bits (b := 10) hc (by decide)
    have h2 : (91 * (k : Int)).natAbs < 2 ^ (B + 30) := bits_mono (a := 9) (by omega) (by omega)
    have h3 := bits_add h1 h2
    have h4 : (cell * 1013 + 91 * k + 7).natAbs < 2 ^ (B + 30 + 1 + 1) := bits_add h3 (bits_mono (a := 3) (by decide) (by omega))
    exact ⟨mulOk_of (b := 10) hc (by decide) (by omega) (by decide) (by omega), mulOk_of (a := 7) (by decide) kb (by decide) (by decide) (by decide), mulOk_of (b := 110) h4 (by decide) (by omega) (by decide) (by omega)⟩
  have c1 : (4093 * (k : Int) + 17 * (ns.take 4).sum).natAbs < 2 ^ (B + 20) := by
    refine bits_add (a := B + 19) (bits_mono (a := 14) (by omega) (by omega)) ?_
    exact bits_mono (mul_bits (a := 5) (by decide) sb) (by omega)
  refine ⟨mulOk_of (a := 5) (by decide) sb (by decide) (by omega) (by omega), ?_⟩
  have fin : ∀ cell : Int, feedO 9223372036854775808 (.lst [.int (if cell - 10 ^ 18 > 0 then cell - 10 ^ 18 else 0), .int ((cell * 1013 + 91 * k + 7) * (10 ^ 31 + 33) % (10 ^ 39 + 3)), .int 0]) := fun cell => by
    refine ⟨_, _, 0, rfl, ?_, Int.emod_nonneg _ (by decide), ?_, by decide, by decide⟩
    · split <;> omega
    · exact Int.lt_trans (Int.emod_lt_of_pos _ (by decide)) (by decide)
  split
  · rename_i c
    have c := of_decide_eq_true c
    rw [List.length_map] at c
    have hk' : k < ns.length := by omega
    have ix : ixOf (ns.map D.int) (k : Int) = some (.int ns[k]) := by
      have : ixOf (ns.map D.int) (k : Int) = (ns.map D.int)[(k : Int).toNat]? := if_pos (by omega)
      rw [this, Int.toNat_natCast, List.getElem?_map, List.getElem?_eq_getElem hk']
      rfl
    obtain ⟨l1, l2, l3⟩ := last ns[k] (bits_mono (hns _ (List.getElem_mem hk')) (by omega)) (by decide)
    rw [ix]
    try simp only [fresh, wSs, wS, wE, wEs, wC, asB, asI, List.map_cons, List.map_nil, List.replicate_succ, List.replicate_zero, List.append_nil, List.getElem?_cons_zero, List.getElem?_cons_succ, List.getElem?_nil, List.cons_append, List.nil_append, putT_n, putT_t, putTs_n, putTs_c, List.set_cons_zero, List.set_cons_succ, List.length_cons, List.length_nil, List.length_set, List.length_replicate, back, inl, inls, reduceIte, Nat.reduceAdd, Nat.reduceSub, Nat.reduceLT, Nat.reduceLeDiff, Nat.zero_add, wipe, true_and, and_true, Bool.true_eq_false, Bool.false_eq_true, List.set_set, List.take_length, take_set_length, Bool.not_true, Bool.not_false, Int.reduceToNat, Int.reduceLE, Int.reduceLT, Int.reduceNeg, D.free, frees, Bool.and_true, Bool.true_and, Bool.and_self, Nat.reduceLeDiff, decide_true, decide_false, oAddI, oAddS, oAddT, oAddL, oAddA, oSub, oMulI, oMulS, oPow, oFdiv, oMod, oNeg, oLt, oLe, oGt, oGe, oIsN, oNotN, oIsB, oNotB, oIxT, oIxL, oIxS, oCutT_L, oCutT_R, oCutL_R, oCutS_L, oCutS_R, oUpper, oLenT, oLenL, oLenS, oMax2, oMin2, oInt1, oStr1, oIsi, oInS, oIn2, oInK, oIxK, oEqI, oEqS, oEqB, oNeB, oNeI, oNeE2, oEqTE, oAll, oSum, oTuple, oList1T, oList1L, walkL, walkT, newL, ix0, ix1, ix2, ix3, ix4, getApp, List.take_left, Nat.le_refl, if_true]
    exact ⟨by decide, l1, l2, by decide, l3, by decide, by decide, by decide, hq _ (fin ns[k])⟩
  · obtain ⟨l1, l2, l3⟩ := last _ c1 (by decide)
    try simp only [fresh, wSs, wS, wE, wEs, wC, asB, asI, List.map_cons, List.map_nil, List.replicate_succ, List.replicate_zero, List.append_nil, List.getElem?_cons_zero, List.getElem?_cons_succ, List.getElem?_nil, List.cons_append, List.nil_append, putT_n, putT_t, putTs_n, putTs_c, List.set_cons_zero, List.set_cons_succ, List.length_cons, List.length_nil, List.length_set, List.length_replicate, back, inl, inls, reduceIte, Nat.reduceAdd, Nat.reduceSub, Nat.reduceLT, Nat.reduceLeDiff, Nat.zero_add, wipe, true_and, and_true, Bool.true_eq_false, Bool.false_eq_true, List.set_set, List.take_length, take_set_length, Bool.not_true, Bool.not_false, Int.reduceToNat, Int.reduceLE, Int.reduceLT, Int.reduceNeg, D.free, frees, Bool.and_true, Bool.true_and, Bool.and_self, Nat.reduceLeDiff, decide_true, decide_false, oAddI, oAddS, oAddT, oAddL, oAddA, oSub, oMulI, oMulS, oPow, oFdiv, oMod, oNeg, oLt, oLe, oGt, oGe, oIsN, oNotN, oIsB, oNotB, oIxT, oIxL, oIxS, oCutT_L, oCutT_R, oCutL_R, oCutS_L, oCutS_R, oUpper, oLenT, oLenL, oLenS, oMax2, oMin2, oInt1, oStr1, oIsi, oInS, oIn2, oInK, oIxK, oEqI, oEqS, oEqB, oNeB, oNeI, oNeE2, oEqTE, oAll, oSum, oTuple, oList1T, oList1L, walkL, walkT, newL, ix0, ix1, ix2, ix3, ix4, getApp, List.take_left, Nat.le_refl, if_true]
    exact ⟨by decide, l1, l2, by decide, l3, by decide, by decide, by decide, hq _ (fin _)⟩
/-! ### a cell -/
theorem draw_size {m : Nat} {c : Prop} [Decidable c] {K : Q1} {Wa : Str → Store → Prop} {S : Store} {i N : Nat} (hm : 10 ≤ m) (hf : FeedAt S i (N + 62500)) (h : ∀ (t : D) (o : O), fine t → dp t ≤ 6 → feedO N o → K (rowD t) (S.set i o)) :
    if c then Run T m "_law_drawn" [.loc i, .int 6] S K Wa else Run T m "_law_drawn" [.loc i, .int 4] S K Wa := by
  split
  · obtain ⟨n, rfl⟩ : ∃ n, m = n + 5 + 5 := ⟨m - 10, by omega⟩
    exact w_drawn 5 (N := N) hf fun t o h1 h2 h3 => h t o h1 (by omega) h3
  · obtain ⟨n, rfl⟩ : ∃ n, m = n + 5 + 3 := ⟨m - 8, by omega⟩
    exact w_drawn 3 (N := N) (hf.mono (show N + 2500 ≤ N + 62500 by omega)) fun t o h1 h2 h3 => h t o h1 (by omega) h3
theorem goodT_bad {d : D} (h : notTerm d) : goodT d = false := by
  unfold goodT
  rw [h.1]
  rfl
theorem turn_ok {t : D} {a1 a2 a3 a4 a5 a7 a8 : Option D} {G : Store} {o : O} {E : Nd} (hi : i < S.length) (ft : fine t) (hd : dp t ≤ 62) (ho : feedO (N + 700) o)
    (hK : ∀ (x7 x8 : Option D) (o' : O), feedO N o' → E.nx [some (.loc i), a1, a2, a3, a4, a5, some (rowD t), x7, x8] (S.set i o' ++ G)) :
    wSs (Run T (n + 72)) lp1__law_cell T.toProg [some (.loc i), a1, a2, a3, a4, a5, some (rowD t), a7, a8] (S.set i o ++ G) E := by
  try simp only [fresh, wSs, wS, wE, wEs, wC, asB, asI, List.map_cons, List.map_nil, List.replicate_succ, List.replicate_zero, List.append_nil, List.getElem?_cons_zero, List.getElem?_cons_succ, List.getElem?_nil, List.cons_append, List.nil_append, putT_n, putT_t, putTs_n, putTs_c, List.set_cons_zero, List.set_cons_succ, List.length_cons, List.length_nil, List.length_set, List.length_replicate, back, inl, inls, reduceIte, Nat.reduceAdd, Nat.reduceSub, Nat.reduceLT, Nat.reduceLeDiff, Nat.zero_add, wipe, true_and, and_true, Bool.true_eq_false, Bool.false_eq_true, List.set_set, List.take_length, take_set_length, Bool.not_true, Bool.not_false, Int.reduceToNat, Int.reduceLE, Int.reduceLT, Int.reduceNeg, D.free, frees, Bool.and_true, Bool.true_and, Bool.and_self, Nat.reduceLeDiff, decide_true, decide_false, oAddI, oAddS, oAddT, oAddL, oAddA, oSub, oMulI, oMulS, oPow, oFdiv, oMod, oNeg, oLt, oLe, oGt, oGe, oIsN, oNotN, oIsB, oNotB, oIxT, oIxL, oIxS, oCutT_L, oCutT_R, oCutL_R, oCutS_L, oCutS_R, oUpper, oLenT, oLenL, oLenS, oMax2, oMin2, oInt1, oStr1, oIsi, oInS, oIn2, oInK, oIxK, oEqI, oEqS, oEqB, oNeB, oNeI, oNeE2, oEqTE, oAll, oSum, oTuple, oList1T, oList1L, walkL, walkT, newL, ix0, ix1, ix2, ix3, ix4, lp1__law_cell, rowD]
  refine w_right (n := n) ft rfl rfl ?_
  try simp only [fresh, wSs, wS, wE, wEs, wC, asB, asI, List.map_cons, List.map_nil, List.replicate_succ, List.replicate_zero, List.append_nil, List.getElem?_cons_zero, List.getElem?_cons_succ, List.getElem?_nil, List.cons_append, List.nil_append, putT_n, putT_t, putTs_n, putTs_c, List.set_cons_zero, List.set_cons_succ, List.length_cons, List.length_nil, List.length_set, List.length_replicate, back, inl, inls, reduceIte, Nat.reduceAdd, Nat.reduceSub, Nat.reduceLT, Nat.reduceLeDiff, Nat.zero_add, wipe, true_and, and_true, Bool.true_eq_false, Bool.false_eq_true, List.set_set, List.take_length, take_set_length, Bool.not_true, Bool.not_false, Int.reduceToNat, Int.reduceLE, Int.reduceLT, Int.reduceNeg, D.free, frees, Bool.and_true, Bool.true_and, Bool.and_self, Nat.reduceLeDiff, decide_true, decide_false, oAddI, oAddS, oAddT, oAddL, oAddA, oSub, oMulI, oMulS, oPow, oFdiv, oMod, oNeg, oLt, oLe, oGt, oGe, oIsN, oNotN, oIsB, oNotB, oIxT, oIxL, oIxS, oCutT_L, oCutT_R, oCutL_R, oCutS_L, oCutS_R, oUpper, oLenT, oLenL, oLenS, oMax2, oMin2, oInt1, oStr1, oIsi, oInS, oIn2, oInK, oIxK, oEqI, oEqS, oEqB, oNeB, oNeI, oNeE2, oEqTE, oAll, oSum, oTuple, oList1T, oList1L, walkL, walkT, newL, ix0, ix1, ix2, ix3, ix4]
  have inner : ∀ (k : Nat), k ≤ 3 → ∀ E' : Nd, (∀ (x7 x8 : Option D) (o' : O), feedO N o' → E'.nx [some (.loc i), a1, a2, a3, a4, a5, some (.tup [t, .int (sz t), .int (dp t)]), x7, x8] (S.set i o' ++ G)) →
      forW (fun _ => True) (fun x σ' S' D' => match (if 7 < σ'.length then some (σ'.set 7 (some x)) else none) with | some σ2 => wSs (Run T (n + 72)) lp0__law_cell T.toProg σ2 S' D' | none => False) ((List.range k).map fun j => D.int (j : Nat)) [some (.loc i), a1, a2, a3, a4, a5, some (.tup [t, .int (sz t), .int (dp t)]), a7, a8] (S.set i o ++ G) E' := by
    intro k hk E' hE
    refine forW_inv (fun r σ S' => ∃ (x7 x8 : Option D) (o' : O), (∀ y ∈ r, ∃ j : Nat, y = .int j) ∧ σ = [some (.loc i), a1, a2, a3, a4, a5, some (.tup [t, .int (sz t), .int (dp t)]), x7, x8] ∧ S' = S.set i o' ++ G ∧ feedO (N + r.length * 200) o') (fun _ _ _ _ => trivial) (fun σ S' h => ?_) (fun x r σ S' K h hK' => ?_) _ _ _ ⟨a7, a8, o, fun y hy => ?_, rfl, rfl, ?_⟩
    · obtain ⟨x7, x8, o', _, rfl, rfl, h4⟩ := h
      exact hE x7 x8 o' (by simpa using h4)
    · obtain ⟨x7, x8, o', h1, rfl, rfl, h4⟩ := h
      obtain ⟨j, rfl⟩ := h1 x List.mem_cons_self
      rw [List.length_cons] at h4
      try simp only [fresh, wSs, wS, wE, wEs, wC, asB, asI, List.map_cons, List.map_nil, List.replicate_succ, List.replicate_zero, List.append_nil, List.getElem?_cons_zero, List.getElem?_cons_succ, List.getElem?_nil, List.cons_append, List.nil_append, putT_n, putT_t, putTs_n, putTs_c, List.set_cons_zero, List.set_cons_succ, List.length_cons, List.length_nil, List.length_set, List.length_replicate, back, inl, inls, reduceIte, Nat.reduceAdd, Nat.reduceSub, Nat.reduceLT, Nat.reduceLeDiff, Nat.zero_add, wipe, true_and, and_true, Bool.true_eq_false, Bool.false_eq_true, List.set_set, List.take_length, take_set_length, Bool.not_true, Bool.not_false, Int.reduceToNat, Int.reduceLE, Int.reduceLT, Int.reduceNeg, D.free, frees, Bool.and_true, Bool.true_and, Bool.and_self, Nat.reduceLeDiff, decide_true, decide_false, oAddI, oAddS, oAddT, oAddL, oAddA, oSub, oMulI, oMulS, oPow, oFdiv, oMod, oNeg, oLt, oLe, oGt, oGe, oIsN, oNotN, oIsB, oNotB, oIxT, oIxL, oIxS, oCutT_L, oCutT_R, oCutL_R, oCutS_L, oCutS_R, oUpper, oLenT, oLenL, oLenS, oMax2, oMin2, oInt1, oStr1, oIsi, oInS, oIn2, oInK, oIxK, oEqI, oEqS, oEqB, oNeB, oNeI, oNeE2, oEqTE, oAll, oSum, oTuple, oList1T, oList1L, walkL, walkT, newL, ix0, ix1, ix2, ix3, ix4, lp0__law_cell]
      refine w_with 62 (n := n + 4) (N := N + r.length * 200) ft hd (feedG hi (h4.mono (by omega))) fun d o2 hd2 ho2 => ?_
      rw [setG hi]
      have hg := goodT_bad hd2
      have fin := hK' [some (.loc i), a1, a2, a3, a4, a5, some (.tup [t, .int (sz t), .int (dp t)]), some (.int j), some d] (S.set i o2 ++ G) ⟨_, _, o2, fun y hy => h1 y (List.mem_cons_of_mem _ hy), rfl, rfl, ho2⟩
      try simp only [fresh, wSs, wS, wE, wEs, wC, asB, asI, List.map_cons, List.map_nil, List.replicate_succ, List.replicate_zero, List.append_nil, List.getElem?_cons_zero, List.getElem?_cons_succ, List.getElem?_nil, List.cons_append, List.nil_append, putT_n, putT_t, putTs_n, putTs_c, List.set_cons_zero, List.set_cons_succ, List.length_cons, List.length_nil, List.length_set, List.length_replicate, back, inl, inls, reduceIte, Nat.reduceAdd, Nat.reduceSub, Nat.reduceLT, Nat.reduceLeDiff, Nat.zero_add, wipe, true_and, and_true, Bool.true_eq_false, Bool.false_eq_true, List.set_set, List.take_length, take_set_length, Bool.not_true, Bool.not_false, Int.reduceToNat, Int.reduceLE, Int.reduceLT, Int.reduceNeg, D.free, frees, Bool.and_true, Bool.true_and, Bool.and_self, Nat.reduceLeDiff, decide_true, decide_false, oAddI, oAddS, oAddT, oAddL, oAddA, oSub, oMulI, oMulS, oPow, oFdiv, oMod, oNeg, oLt, oLe, oGt, oGe, oIsN, oNotN, oIsB, oNotB, oIxT, oIxL, oIxS, oCutT_L, oCutT_R, oCutL_R, oCutS_L, oCutS_R, oUpper, oLenT, oLenL, oLenS, oMax2, oMin2, oInt1, oStr1, oIsi, oInS, oIn2, oInK, oIxK, oEqI, oEqS, oEqB, oNeB, oNeI, oNeE2, oEqTE, oAll, oSum, oTuple, oList1T, oList1L, walkL, walkT, newL, ix0, ix1, ix2, ix3, ix4]
      refine w_is_term (n := n + 66) hd2.2 ?_
      try simp only [fresh, wSs, wS, wE, wEs, wC, asB, asI, List.map_cons, List.map_nil, List.replicate_succ, List.replicate_zero, List.append_nil, List.getElem?_cons_zero, List.getElem?_cons_succ, List.getElem?_nil, List.cons_append, List.nil_append, putT_n, putT_t, putTs_n, putTs_c, List.set_cons_zero, List.set_cons_succ, List.length_cons, List.length_nil, List.length_set, List.length_replicate, back, inl, inls, reduceIte, Nat.reduceAdd, Nat.reduceSub, Nat.reduceLT, Nat.reduceLeDiff, Nat.zero_add, wipe, true_and, and_true, Bool.true_eq_false, Bool.false_eq_true, List.set_set, List.take_length, take_set_length, Bool.not_true, Bool.not_false, Int.reduceToNat, Int.reduceLE, Int.reduceLT, Int.reduceNeg, D.free, frees, Bool.and_true, Bool.true_and, Bool.and_self, Nat.reduceLeDiff, decide_true, decide_false, oAddI, oAddS, oAddT, oAddL, oAddA, oSub, oMulI, oMulS, oPow, oFdiv, oMod, oNeg, oLt, oLe, oGt, oGe, oIsN, oNotN, oIsB, oNotB, oIxT, oIxL, oIxS, oCutT_L, oCutT_R, oCutL_R, oCutS_L, oCutS_R, oUpper, oLenT, oLenL, oLenS, oMax2, oMin2, oInt1, oStr1, oIsi, oInS, oIn2, oInK, oIxK, oEqI, oEqS, oEqB, oNeB, oNeI, oNeE2, oEqTE, oAll, oSum, oTuple, oList1T, oList1L, walkL, walkT, newL, ix0, ix1, ix2, ix3, ix4, hg]
      rw [if_neg (show ¬ (!(false == false)) = true by decide)]
      try simp only [fresh, wSs, wS, wE, wEs, wC, asB, asI, List.map_cons, List.map_nil, List.replicate_succ, List.replicate_zero, List.append_nil, List.getElem?_cons_zero, List.getElem?_cons_succ, List.getElem?_nil, List.cons_append, List.nil_append, putT_n, putT_t, putTs_n, putTs_c, List.set_cons_zero, List.set_cons_succ, List.length_cons, List.length_nil, List.length_set, List.length_replicate, back, inl, inls, reduceIte, Nat.reduceAdd, Nat.reduceSub, Nat.reduceLT, Nat.reduceLeDiff, Nat.zero_add, wipe, true_and, and_true, Bool.true_eq_false, Bool.false_eq_true, List.set_set, List.take_length, take_set_length, Bool.not_true, Bool.not_false, Int.reduceToNat, Int.reduceLE, Int.reduceLT, Int.reduceNeg, D.free, frees, Bool.and_true, Bool.true_and, Bool.and_self, Nat.reduceLeDiff, decide_true, decide_false, oAddI, oAddS, oAddT, oAddL, oAddA, oSub, oMulI, oMulS, oPow, oFdiv, oMod, oNeg, oLt, oLe, oGt, oGe, oIsN, oNotN, oIsB, oNotB, oIxT, oIxL, oIxS, oCutT_L, oCutT_R, oCutL_R, oCutS_L, oCutS_R, oUpper, oLenT, oLenL, oLenS, oMax2, oMin2, oInt1, oStr1, oIsi, oInS, oIn2, oInK, oIxK, oEqI, oEqS, oEqB, oNeB, oNeI, oNeE2, oEqTE, oAll, oSum, oTuple, oList1T, oList1L, walkL, walkT, newL, ix0, ix1, ix2, ix3, ix4, pick, List.filterMap_cons, List.filterMap_nil]
      refine w_is_term (n := n + 66) hd2.2 ?_
      try simp only [fresh, wSs, wS, wE, wEs, wC, asB, asI, List.map_cons, List.map_nil, List.replicate_succ, List.replicate_zero, List.append_nil, List.getElem?_cons_zero, List.getElem?_cons_succ, List.getElem?_nil, List.cons_append, List.nil_append, putT_n, putT_t, putTs_n, putTs_c, List.set_cons_zero, List.set_cons_succ, List.length_cons, List.length_nil, List.length_set, List.length_replicate, back, inl, inls, reduceIte, Nat.reduceAdd, Nat.reduceSub, Nat.reduceLT, Nat.reduceLeDiff, Nat.zero_add, wipe, true_and, and_true, Bool.true_eq_false, Bool.false_eq_true, List.set_set, List.take_length, take_set_length, Bool.not_true, Bool.not_false, Int.reduceToNat, Int.reduceLE, Int.reduceLT, Int.reduceNeg, D.free, frees, Bool.and_true, Bool.true_and, Bool.and_self, Nat.reduceLeDiff, decide_true, decide_false, oAddI, oAddS, oAddT, oAddL, oAddA, oSub, oMulI, oMulS, oPow, oFdiv, oMod, oNeg, oLt, oLe, oGt, oGe, oIsN, oNotN, oIsB, oNotB, oIxT, oIxL, oIxS, oCutT_L, oCutT_R, oCutL_R, oCutS_L, oCutS_R, oUpper, oLenT, oLenL, oLenS, oMax2, oMin2, oInt1, oStr1, oIsi, oInS, oIn2, oInK, oIxK, oEqI, oEqS, oEqB, oNeB, oNeI, oNeE2, oEqTE, oAll, oSum, oTuple, oList1T, oList1L, walkL, walkT, newL, ix0, ix1, ix2, ix3, ix4, hg]
      rw [if_neg (show ¬ (!(false == false)) = true by decide)]
      split
      · refine w_refused (n := n + 1) hd2.2 hg ?_
        try simp only [fresh, wSs, wS, wE, wEs, wC, asB, asI, List.map_cons, List.map_nil, List.replicate_succ, List.replicate_zero, List.append_nil, List.getElem?_cons_zero, List.getElem?_cons_succ, List.getElem?_nil, List.cons_append, List.nil_append, putT_n, putT_t, putTs_n, putTs_c, List.set_cons_zero, List.set_cons_succ, List.length_cons, List.length_nil, List.length_set, List.length_replicate, back, inl, inls, reduceIte, Nat.reduceAdd, Nat.reduceSub, Nat.reduceLT, Nat.reduceLeDiff, Nat.zero_add, wipe, true_and, and_true, Bool.true_eq_false, Bool.false_eq_true, List.set_set, List.take_length, take_set_length, Bool.not_true, Bool.not_false, Int.reduceToNat, Int.reduceLE, Int.reduceLT, Int.reduceNeg, D.free, frees, Bool.and_true, Bool.true_and, Bool.and_self, Nat.reduceLeDiff, decide_true, decide_false, oAddI, oAddS, oAddT, oAddL, oAddA, oSub, oMulI, oMulS, oPow, oFdiv, oMod, oNeg, oLt, oLe, oGt, oGe, oIsN, oNotN, oIsB, oNotB, oIxT, oIxL, oIxS, oCutT_L, oCutT_R, oCutL_R, oCutS_L, oCutS_R, oUpper, oLenT, oLenL, oLenS, oMax2, oMin2, oInt1, oStr1, oIsi, oInS, oIn2, oInK, oIxK, oEqI, oEqS, oEqB, oNeB, oNeI, oNeE2, oEqTE, oAll, oSum, oTuple, oList1T, oList1L, walkL, walkT, newL, ix0, ix1, ix2, ix3, ix4]
        exact fin
      · try simp only [fresh, wSs, wS, wE, wEs, wC, asB, asI, List.map_cons, List.map_nil, List.replicate_succ, List.replicate_zero, List.append_nil, List.getElem?_cons_zero, List.getElem?_cons_succ, List.getElem?_nil, List.cons_append, List.nil_append, putT_n, putT_t, putTs_n, putTs_c, List.set_cons_zero, List.set_cons_succ, List.length_cons, List.length_nil, List.length_set, List.length_replicate, back, inl, inls, reduceIte, Nat.reduceAdd, Nat.reduceSub, Nat.reduceLT, Nat.reduceLeDiff, Nat.zero_add, wipe, true_and, and_true, Bool.true_eq_false, Bool.false_eq_true, List.set_set, List.take_length, take_set_length, Bool.not_true, Bool.not_false, Int.reduceToNat, Int.reduceLE, Int.reduceLT, Int.reduceNeg, D.free, frees, Bool.and_true, Bool.true_and, Bool.and_self, Nat.reduceLeDiff, decide_true, decide_false, oAddI, oAddS, oAddT, oAddL, oAddA, oSub, oMulI, oMulS, oPow, oFdiv, oMod, oNeg, oLt, oLe, oGt, oGe, oIsN, oNotN, oIsB, oNotB, oIxT, oIxL, oIxS, oCutT_L, oCutT_R, oCutL_R, oCutS_L, oCutS_R, oUpper, oLenT, oLenL, oLenS, oMax2, oMin2, oInt1, oStr1, oIsi, oInS, oIn2, oInK, oIxK, oEqI, oEqS, oEqB, oNeB, oNeI, oNeE2, oEqTE, oAll, oSum, oTuple, oList1T, oList1L, walkL, walkT, newL, ix0, ix1, ix2, ix3, ix4]
        exact fin
    · obtain ⟨j, _, rfl⟩ := List.mem_map.mp hy
      exact ⟨j, rfl⟩
    · rw [List.length_map, List.length_range]
      exact ho.mono (by have : k * 200 ≤ 3 * 200 := Nat.mul_le_mul_right _ hk; omega)
  split
  · rename_i c
    have c4 : sz t < 400 := by have := of_decide_eq_true c; omega
    rw [walk2 (show (0 : Int) ≤ 3 by decide) (by decide)]
    refine ⟨by decide, inner 3 (by decide) _ fun x7 x8 o' ho' => ?_⟩
    try simp only [fresh, wSs, wS, wE, wEs, wC, asB, asI, List.map_cons, List.map_nil, List.replicate_succ, List.replicate_zero, List.append_nil, List.getElem?_cons_zero, List.getElem?_cons_succ, List.getElem?_nil, List.cons_append, List.nil_append, putT_n, putT_t, putTs_n, putTs_c, List.set_cons_zero, List.set_cons_succ, List.length_cons, List.length_nil, List.length_set, List.length_replicate, back, inl, inls, reduceIte, Nat.reduceAdd, Nat.reduceSub, Nat.reduceLT, Nat.reduceLeDiff, Nat.zero_add, wipe, true_and, and_true, Bool.true_eq_false, Bool.false_eq_true, List.set_set, List.take_length, take_set_length, Bool.not_true, Bool.not_false, Int.reduceToNat, Int.reduceLE, Int.reduceLT, Int.reduceNeg, D.free, frees, Bool.and_true, Bool.true_and, Bool.and_self, Nat.reduceLeDiff, decide_true, decide_false, oAddI, oAddS, oAddT, oAddL, oAddA, oSub, oMulI, oMulS, oPow, oFdiv, oMod, oNeg, oLt, oLe, oGt, oGe, oIsN, oNotN, oIsB, oNotB, oIxT, oIxL, oIxS, oCutT_L, oCutT_R, oCutL_R, oCutS_L, oCutS_R, oUpper, oLenT, oLenL, oLenS, oMax2, oMin2, oInt1, oStr1, oIsi, oInS, oIn2, oInK, oIxK, oEqI, oEqS, oEqB, oNeB, oNeI, oNeE2, oEqTE, oAll, oSum, oTuple, oList1T, oList1L, walkL, walkT, newL, ix0, ix1, ix2, ix3, ix4]
    rw [if_pos c]
    refine w_is_term (n := n + 66) ft.2 ?_
    try simp only [fresh, wSs, wS, wE, wEs, wC, asB, asI, List.map_cons, List.map_nil, List.replicate_succ, List.replicate_zero, List.append_nil, List.getElem?_cons_zero, List.getElem?_cons_succ, List.getElem?_nil, List.cons_append, List.nil_append, putT_n, putT_t, putTs_n, putTs_c, List.set_cons_zero, List.set_cons_succ, List.length_cons, List.length_nil, List.length_set, List.length_replicate, back, inl, inls, reduceIte, Nat.reduceAdd, Nat.reduceSub, Nat.reduceLT, Nat.reduceLeDiff, Nat.zero_add, wipe, true_and, and_true, Bool.true_eq_false, Bool.false_eq_true, List.set_set, List.take_length, take_set_length, Bool.not_true, Bool.not_false, Int.reduceToNat, Int.reduceLE, Int.reduceLT, Int.reduceNeg, D.free, frees, Bool.and_true, Bool.true_and, Bool.and_self, Nat.reduceLeDiff, decide_true, decide_false, oAddI, oAddS, oAddT, oAddL, oAddA, oSub, oMulI, oMulS, oPow, oFdiv, oMod, oNeg, oLt, oLe, oGt, oGe, oIsN, oNotN, oIsB, oNotB, oIxT, oIxL, oIxS, oCutT_L, oCutT_R, oCutL_R, oCutS_L, oCutS_R, oUpper, oLenT, oLenL, oLenS, oMax2, oMin2, oInt1, oStr1, oIsi, oInS, oIn2, oInK, oIxK, oEqI, oEqS, oEqB, oNeB, oNeI, oNeE2, oEqTE, oAll, oSum, oTuple, oList1T, oList1L, walkL, walkT, newL, ix0, ix1, ix2, ix3, ix4]
    have eg : goodT t = decide ((dp t : Int) < 61) := by
      unfold goodT
      rw [ft.1, decide_eq_true (show sz t ≤ 2000 by omega)]
      show decide (dp t ≤ 60) = _
      rw [decide_eq_decide]
      omega
    rw [eg, if_neg (show ¬ (!(decide ((dp t : Int) < 61) == decide ((dp t : Int) < 61))) = true by simp)]
    exact hK x7 x8 o' ho'
  · rename_i c
    rw [walk2 (show (0 : Int) ≤ 1 by decide) (by decide)]
    refine ⟨by decide, inner 1 (by decide) _ fun x7 x8 o' ho' => ?_⟩
    try simp only [fresh, wSs, wS, wE, wEs, wC, asB, asI, List.map_cons, List.map_nil, List.replicate_succ, List.replicate_zero, List.append_nil, List.getElem?_cons_zero, List.getElem?_cons_succ, List.getElem?_nil, List.cons_append, List.nil_append, putT_n, putT_t, putTs_n, putTs_c, List.set_cons_zero, List.set_cons_succ, List.length_cons, List.length_nil, List.length_set, List.length_replicate, back, inl, inls, reduceIte, Nat.reduceAdd, Nat.reduceSub, Nat.reduceLT, Nat.reduceLeDiff, Nat.zero_add, wipe, true_and, and_true, Bool.true_eq_false, Bool.false_eq_true, List.set_set, List.take_length, take_set_length, Bool.not_true, Bool.not_false, Int.reduceToNat, Int.reduceLE, Int.reduceLT, Int.reduceNeg, D.free, frees, Bool.and_true, Bool.true_and, Bool.and_self, Nat.reduceLeDiff, decide_true, decide_false, oAddI, oAddS, oAddT, oAddL, oAddA, oSub, oMulI, oMulS, oPow, oFdiv, oMod, oNeg, oLt, oLe, oGt, oGe, oIsN, oNotN, oIsB, oNotB, oIxT, oIxL, oIxS, oCutT_L, oCutT_R, oCutL_R, oCutS_L, oCutS_R, oUpper, oLenT, oLenL, oLenS, oMax2, oMin2, oInt1, oStr1, oIsi, oInS, oIn2, oInK, oIxK, oEqI, oEqS, oEqB, oNeB, oNeI, oNeE2, oEqTE, oAll, oSum, oTuple, oList1T, oList1L, walkL, walkT, newL, ix0, ix1, ix2, ix3, ix4]
    rw [if_neg c]
    exact hK x7 x8 o' ho'
theorem w_cell {g : Bool} (hf : FeedAt S i (N + 200000)) (hq : ∀ o : O, Q (.bl true) (S.set i o)) : Run T (n + 73) "_law_cell" [.loc i, .bl g] S Q W := by
  have hi := hf.lt
  refine wp_of fn__law_cell rfl ?_
  try simp only [fresh, wSs, wS, wE, wEs, wC, asB, asI, List.map_cons, List.map_nil, List.replicate_succ, List.replicate_zero, List.append_nil, List.getElem?_cons_zero, List.getElem?_cons_succ, List.getElem?_nil, List.cons_append, List.nil_append, putT_n, putT_t, putTs_n, putTs_c, List.set_cons_zero, List.set_cons_succ, List.length_cons, List.length_nil, List.length_set, List.length_replicate, back, inl, inls, reduceIte, Nat.reduceAdd, Nat.reduceSub, Nat.reduceLT, Nat.reduceLeDiff, Nat.zero_add, wipe, true_and, and_true, Bool.true_eq_false, Bool.false_eq_true, List.set_set, List.take_length, take_set_length, Bool.not_true, Bool.not_false, Int.reduceToNat, Int.reduceLE, Int.reduceLT, Int.reduceNeg, D.free, frees, Bool.and_true, Bool.true_and, Bool.and_self, Nat.reduceLeDiff, decide_true, decide_false, oAddI, oAddS, oAddT, oAddL, oAddA, oSub, oMulI, oMulS, oPow, oFdiv, oMod, oNeg, oLt, oLe, oGt, oGe, oIsN, oNotN, oIsB, oNotB, oIxT, oIxL, oIxS, oCutT_L, oCutT_R, oCutL_R, oCutS_L, oCutS_R, oUpper, oLenT, oLenL, oLenS, oMax2, oMin2, oInt1, oStr1, oIsi, oInS, oIn2, oInK, oIxK, oEqI, oEqS, oEqB, oNeB, oNeI, oNeE2, oEqTE, oAll, oSum, oTuple, oList1T, oList1L, walkL, walkT, newL, ix0, ix1, ix2, ix3, ix4, f__law_cell, b__law_cell]
  refine drM (N := N + 199999) (by omega) hf (by decide) (by decide) fun r o r0 r1 ho => ?_
  try simp only [fresh, wSs, wS, wE, wEs, wC, asB, asI, List.map_cons, List.map_nil, List.replicate_succ, List.replicate_zero, List.append_nil, List.getElem?_cons_zero, List.getElem?_cons_succ, List.getElem?_nil, List.cons_append, List.nil_append, putT_n, putT_t, putTs_n, putTs_c, List.set_cons_zero, List.set_cons_succ, List.length_cons, List.length_nil, List.length_set, List.length_replicate, back, inl, inls, reduceIte, Nat.reduceAdd, Nat.reduceSub, Nat.reduceLT, Nat.reduceLeDiff, Nat.zero_add, wipe, true_and, and_true, Bool.true_eq_false, Bool.false_eq_true, List.set_set, List.take_length, take_set_length, Bool.not_true, Bool.not_false, Int.reduceToNat, Int.reduceLE, Int.reduceLT, Int.reduceNeg, D.free, frees, Bool.and_true, Bool.true_and, Bool.and_self, Nat.reduceLeDiff, decide_true, decide_false, oAddI, oAddS, oAddT, oAddL, oAddA, oSub, oMulI, oMulS, oPow, oFdiv, oMod, oNeg, oLt, oLe, oGt, oGe, oIsN, oNotN, oIsB, oNotB, oIxT, oIxL, oIxS, oCutT_L, oCutT_R, oCutL_R, oCutS_L, oCutS_R, oUpper, oLenT, oLenL, oLenS, oMax2, oMin2, oInt1, oStr1, oIsi, oInS, oIn2, oInK, oIxK, oEqI, oEqS, oEqB, oNeB, oNeI, oNeE2, oEqTE, oAll, oSum, oTuple, oList1T, oList1L, walkL, walkT, newL, ix0, ix1, ix2, ix3, ix4]
  refine draw_size (N := N + 137000) (by omega) (feedAt hi (ho.mono (by omega))) fun t1 o1 f1 d1 ho1 => ?_
  have gG : ∀ (o x : O), (S.set i o ++ [x])[S.length]? = some x := fun o x => by
    have := getApp (S := S.set i o) (o := x)
    rw [List.length_set] at this
    exact this
  have sG : ∀ (o x y : O), (S.set i o ++ [x]).set S.length y = S.set i o ++ [y] := fun o x y => by
    have := setApp (S := S.set i o) (o := x) (o' := y)
    rw [List.length_set] at this
    exact this
  try simp only [fresh, wSs, wS, wE, wEs, wC, asB, asI, List.map_cons, List.map_nil, List.replicate_succ, List.replicate_zero, List.append_nil, List.getElem?_cons_zero, List.getElem?_cons_succ, List.getElem?_nil, List.cons_append, List.nil_append, putT_n, putT_t, putTs_n, putTs_c, List.set_cons_zero, List.set_cons_succ, List.length_cons, List.length_nil, List.length_set, List.length_replicate, back, inl, inls, reduceIte, Nat.reduceAdd, Nat.reduceSub, Nat.reduceLT, Nat.reduceLeDiff, Nat.zero_add, wipe, true_and, and_true, Bool.true_eq_false, Bool.false_eq_true, List.set_set, List.take_length, take_set_length, Bool.not_true, Bool.not_false, Int.reduceToNat, Int.reduceLE, Int.reduceLT, Int.reduceNeg, D.free, frees, Bool.and_true, Bool.true_and, Bool.and_self, Nat.reduceLeDiff, decide_true, decide_false, oAddI, oAddS, oAddT, oAddL, oAddA, oSub, oMulI, oMulS, oPow, oFdiv, oMod, oNeg, oLt, oLe, oGt, oGe, oIsN, oNotN, oIsB, oNotB, oIxT, oIxL, oIxS, oCutT_L, oCutT_R, oCutL_R, oCutS_L, oCutS_R, oUpper, oLenT, oLenL, oLenS, oMax2, oMin2, oInt1, oStr1, oIsi, oInS, oIn2, oInK, oIxK, oEqI, oEqS, oEqB, oNeB, oNeI, oNeE2, oEqTE, oAll, oSum, oTuple, oList1T, oList1L, walkL, walkT, newL, ix0, ix1, ix2, ix3, ix4, rowD, tidy_free f1.2]
  refine ⟨by decide, by decide, drM (N := N + 136999) (by omega) (feedG hi ho1) (by decide) (by decide) fun v o2 v0 v1 ho2 => ?_⟩
  rw [setG hi]
  try simp only [fresh, wSs, wS, wE, wEs, wC, asB, asI, List.map_cons, List.map_nil, List.replicate_succ, List.replicate_zero, List.append_nil, List.getElem?_cons_zero, List.getElem?_cons_succ, List.getElem?_nil, List.cons_append, List.nil_append, putT_n, putT_t, putTs_n, putTs_c, List.set_cons_zero, List.set_cons_succ, List.length_cons, List.length_nil, List.length_set, List.length_replicate, back, inl, inls, reduceIte, Nat.reduceAdd, Nat.reduceSub, Nat.reduceLT, Nat.reduceLeDiff, Nat.zero_add, wipe, true_and, and_true, Bool.true_eq_false, Bool.false_eq_true, List.set_set, List.take_length, take_set_length, Bool.not_true, Bool.not_false, Int.reduceToNat, Int.reduceLE, Int.reduceLT, Int.reduceNeg, D.free, frees, Bool.and_true, Bool.true_and, Bool.and_self, Nat.reduceLeDiff, decide_true, decide_false, oAddI, oAddS, oAddT, oAddL, oAddA, oSub, oMulI, oMulS, oPow, oFdiv, oMod, oNeg, oLt, oLe, oGt, oGe, oIsN, oNotN, oIsB, oNotB, oIxT, oIxL, oIxS, oCutT_L, oCutT_R, oCutL_R, oCutS_L, oCutS_R, oUpper, oLenT, oLenL, oLenS, oMax2, oMin2, oInt1, oStr1, oIsi, oInS, oIn2, oInK, oIxK, oEqI, oEqS, oEqB, oNeB, oNeI, oNeE2, oEqTE, oAll, oSum, oTuple, oList1T, oList1L, walkL, walkT, newL, ix0, ix1, ix2, ix3, ix4]
  refine ⟨by decide, oneLM (N := N + 136998) (by omega) (feedG hi ho2) (by simp) (by simp) (by rfl) fun x o3 hx ho3 => ?_⟩
  rw [setG hi]
  obtain ⟨m2, rfl, m0, m1⟩ : ∃ m : Nat, x = .int m ∧ 1 ≤ m ∧ m ≤ 62 := by
    simp at hx
    rcases hx with rfl | rfl | rfl | rfl | rfl
    · exact ⟨60, rfl, by decide, by decide⟩
    · exact ⟨61, rfl, by decide, by decide⟩
    · exact ⟨62, rfl, by decide, by decide⟩
    · exact ⟨59, rfl, by decide, by decide⟩
    · exact ⟨(1 + v).toNat, by rw [Int.toNat_of_nonneg (by omega)], by omega, by omega⟩
  try simp only [fresh, wSs, wS, wE, wEs, wC, asB, asI, List.map_cons, List.map_nil, List.replicate_succ, List.replicate_zero, List.append_nil, List.getElem?_cons_zero, List.getElem?_cons_succ, List.getElem?_nil, List.cons_append, List.nil_append, putT_n, putT_t, putTs_n, putTs_c, List.set_cons_zero, List.set_cons_succ, List.length_cons, List.length_nil, List.length_set, List.length_replicate, back, inl, inls, reduceIte, Nat.reduceAdd, Nat.reduceSub, Nat.reduceLT, Nat.reduceLeDiff, Nat.zero_add, wipe, true_and, and_true, Bool.true_eq_false, Bool.false_eq_true, List.set_set, List.take_length, take_set_length, Bool.not_true, Bool.not_false, Int.reduceToNat, Int.reduceLE, Int.reduceLT, Int.reduceNeg, D.free, frees, Bool.and_true, Bool.true_and, Bool.and_self, Nat.reduceLeDiff, decide_true, decide_false, oAddI, oAddS, oAddT, oAddL, oAddA, oSub, oMulI, oMulS, oPow, oFdiv, oMod, oNeg, oLt, oLe, oGt, oGe, oIsN, oNotN, oIsB, oNotB, oIxT, oIxL, oIxS, oCutT_L, oCutT_R, oCutL_R, oCutS_L, oCutS_R, oUpper, oLenT, oLenL, oLenS, oMax2, oMin2, oInt1, oStr1, oIsi, oInS, oIn2, oInK, oIxK, oEqI, oEqS, oEqB, oNeB, oNeI, oNeE2, oEqTE, oAll, oSum, oTuple, oList1T, oList1L, walkL, walkT, newL, ix0, ix1, ix2, ix3, ix4]
  refine w_thin (n := n + 66) (N := N + 130000) m0 (by omega) (feedG hi (ho3.mono (by omega))) fun t2 o4 f2 d2 ho4 => ?_
  subst d2
  rw [setG hi]
  try simp only [fresh, wSs, wS, wE, wEs, wC, asB, asI, List.map_cons, List.map_nil, List.replicate_succ, List.replicate_zero, List.append_nil, List.getElem?_cons_zero, List.getElem?_cons_succ, List.getElem?_nil, List.cons_append, List.nil_append, putT_n, putT_t, putTs_n, putTs_c, List.set_cons_zero, List.set_cons_succ, List.length_cons, List.length_nil, List.length_set, List.length_replicate, back, inl, inls, reduceIte, Nat.reduceAdd, Nat.reduceSub, Nat.reduceLT, Nat.reduceLeDiff, Nat.zero_add, wipe, true_and, and_true, Bool.true_eq_false, Bool.false_eq_true, List.set_set, List.take_length, take_set_length, Bool.not_true, Bool.not_false, Int.reduceToNat, Int.reduceLE, Int.reduceLT, Int.reduceNeg, D.free, frees, Bool.and_true, Bool.true_and, Bool.and_self, Nat.reduceLeDiff, decide_true, decide_false, oAddI, oAddS, oAddT, oAddL, oAddA, oSub, oMulI, oMulS, oPow, oFdiv, oMod, oNeg, oLt, oLe, oGt, oGe, oIsN, oNotN, oIsB, oNotB, oIxT, oIxL, oIxS, oCutT_L, oCutT_R, oCutL_R, oCutS_L, oCutS_R, oUpper, oLenT, oLenL, oLenS, oMax2, oMin2, oInt1, oStr1, oIsi, oInS, oIn2, oInK, oIxK, oEqI, oEqS, oEqB, oNeB, oNeI, oNeE2, oEqTE, oAll, oSum, oTuple, oList1T, oList1L, walkL, walkT, newL, ix0, ix1, ix2, ix3, ix4, isTyO (gG _ _), oApp (gG _ _), sG, tidy_free f2.2]
  refine ⟨by decide, by decide, ?_⟩
  have flat : ∀ (m3 : Nat) (o5 : O) (K : Q1) (Wa : Str → Store → Prop), 1 ≤ m3 → m3 ≤ 2002 → feedO (N + 120000) o5 → (∀ (t3 : D) (o6 : O), fine t3 → sz t3 = m3 → dp t3 ≤ 11 → feedO (N + 80000) o6 → K (.tup [t3, .int (dp t3)]) (S.set i o6 ++ [O.lst [rowD t1, rowD t2]])) →
      Run T (n + 72) "_law_flat" [.loc i, .int m3] (S.set i o5 ++ [O.lst [rowD t1, rowD t2]]) K Wa := by
    intro m3 o5 K Wa h1 h2 h3 hh
    refine w_flat 10 (n := n + 57) (N := N + 80000) m3 h1 (show m3 < 2048 by omega) (feedG hi (h3.mono (by omega))) fun t3 o6 k1 k2 k3 k4 => ?_
    rw [setG hi]
    exact hh t3 o6 k1 k2 (by omega) k4
  have loop : ∀ (a1 a2 a3 a4 a5 : Option D) (t3 : D) (o6 : O) (E : Nd), fine t3 → dp t3 ≤ 62 → feedO (N + 80000) o6 → (∀ (x6 x7 x8 : Option D) (o' : O), E.nx [some (.loc i), a1, a2, a3, a4, a5, x6, x7, x8] (S.set i o' ++ [O.lst [rowD t1, rowD t2, rowD t3]])) →
      forW (fun S' => S'[S.length]? = some (.lst [rowD t1, rowD t2, rowD t3])) (fun x σ' S' D' => match (if 6 < σ'.length then some (σ'.set 6 (some x)) else none) with | some σ2 => wSs (Run T (n + 72)) lp1__law_cell T.toProg σ2 S' D' | none => False) [rowD t1, rowD t2, rowD t3] [some (.loc i), a1, a2, a3, a4, a5, none, none, none] (S.set i o6 ++ [O.lst [rowD t1, rowD t2, rowD t3]]) E := by
    intro a1 a2 a3 a4 a5 t3 o6 E h3 h4 h5 hE
    refine forW_inv (fun r σ S' => ∃ (x6 x7 x8 : Option D) (o' : O), (∀ y ∈ r, ∃ t, y = rowD t ∧ fine t ∧ dp t ≤ 62) ∧ σ = [some (.loc i), a1, a2, a3, a4, a5, x6, x7, x8] ∧ S' = S.set i o' ++ [O.lst [rowD t1, rowD t2, rowD t3]] ∧ feedO (N + r.length * 700) o') (fun r σ S' h => ?_) (fun σ S' h => ?_) (fun x r σ S' K h hK => ?_) _ _ _ ⟨none, none, none, o6, fun y hy => ?_, rfl, rfl, h5.mono (by show N + 3 * 700 ≤ _; omega)⟩
    · obtain ⟨_, _, _, o', _, _, rfl, _⟩ := h
      exact gG _ _
    · obtain ⟨x6, x7, x8, o', _, rfl, rfl, _⟩ := h
      exact hE x6 x7 x8 o'
    · obtain ⟨x6, x7, x8, o', h1, rfl, rfl, h6⟩ := h
      obtain ⟨t, rfl, ft, dt⟩ := h1 x List.mem_cons_self
      rw [List.length_cons] at h6
      try simp only [fresh, wSs, wS, wE, wEs, wC, asB, asI, List.map_cons, List.map_nil, List.replicate_succ, List.replicate_zero, List.append_nil, List.getElem?_cons_zero, List.getElem?_cons_succ, List.getElem?_nil, List.cons_append, List.nil_append, putT_n, putT_t, putTs_n, putTs_c, List.set_cons_zero, List.set_cons_succ, List.length_cons, List.length_nil, List.length_set, List.length_replicate, back, inl, inls, reduceIte, Nat.reduceAdd, Nat.reduceSub, Nat.reduceLT, Nat.reduceLeDiff, Nat.zero_add, wipe, true_and, and_true, Bool.true_eq_false, Bool.false_eq_true, List.set_set, List.take_length, take_set_length, Bool.not_true, Bool.not_false, Int.reduceToNat, Int.reduceLE, Int.reduceLT, Int.reduceNeg, D.free, frees, Bool.and_true, Bool.true_and, Bool.and_self, Nat.reduceLeDiff, decide_true, decide_false, oAddI, oAddS, oAddT, oAddL, oAddA, oSub, oMulI, oMulS, oPow, oFdiv, oMod, oNeg, oLt, oLe, oGt, oGe, oIsN, oNotN, oIsB, oNotB, oIxT, oIxL, oIxS, oCutT_L, oCutT_R, oCutL_R, oCutS_L, oCutS_R, oUpper, oLenT, oLenL, oLenS, oMax2, oMin2, oInt1, oStr1, oIsi, oInS, oIn2, oInK, oIxK, oEqI, oEqS, oEqB, oNeB, oNeI, oNeE2, oEqTE, oAll, oSum, oTuple, oList1T, oList1L, walkL, walkT, newL, ix0, ix1, ix2, ix3, ix4]
      exact turn_ok (N := N + r.length * 700) hi ft dt (h6.mono (by omega)) fun x7 x8 o7 ho7 => hK _ _ ⟨_, x7, x8, o7, fun y hy => h1 y (List.mem_cons_of_mem _ hy), rfl, rfl, ho7⟩
    · simp only [List.mem_cons, List.not_mem_nil, or_false] at hy
      rcases hy with rfl | rfl | rfl
      · exact ⟨t1, rfl, f1, by omega⟩
      · exact ⟨t2, rfl, f2, by omega⟩
      · exact ⟨t3, rfl, h3, h4⟩
  cases g with
  | true =>
    try simp only [fresh, wSs, wS, wE, wEs, wC, asB, asI, List.map_cons, List.map_nil, List.replicate_succ, List.replicate_zero, List.append_nil, List.getElem?_cons_zero, List.getElem?_cons_succ, List.getElem?_nil, List.cons_append, List.nil_append, putT_n, putT_t, putTs_n, putTs_c, List.set_cons_zero, List.set_cons_succ, List.length_cons, List.length_nil, List.length_set, List.length_replicate, back, inl, inls, reduceIte, Nat.reduceAdd, Nat.reduceSub, Nat.reduceLT, Nat.reduceLeDiff, Nat.zero_add, wipe, true_and, and_true, Bool.true_eq_false, Bool.false_eq_true, List.set_set, List.take_length, take_set_length, Bool.not_true, Bool.not_false, Int.reduceToNat, Int.reduceLE, Int.reduceLT, Int.reduceNeg, D.free, frees, Bool.and_true, Bool.true_and, Bool.and_self, Nat.reduceLeDiff, decide_true, decide_false, oAddI, oAddS, oAddT, oAddL, oAddA, oSub, oMulI, oMulS, oPow, oFdiv, oMod, oNeg, oLt, oLe, oGt, oGe, oIsN, oNotN, oIsB, oNotB, oIxT, oIxL, oIxS, oCutT_L, oCutT_R, oCutL_R, oCutS_L, oCutS_R, oUpper, oLenT, oLenL, oLenS, oMax2, oMin2, oInt1, oStr1, oIsi, oInS, oIn2, oInK, oIxK, oEqI, oEqS, oEqB, oNeB, oNeI, oNeE2, oEqTE, oAll, oSum, oTuple, oList1T, oList1L, walkL, walkT, newL, ix0, ix1, ix2, ix3, ix4]
    refine drM (N := N + 120001) (by omega) (feedG hi (ho4.mono (by omega))) (by decide) (by decide) fun v3 o5 v30 v31 ho5 => ?_
    rw [setG hi]
    try simp only [fresh, wSs, wS, wE, wEs, wC, asB, asI, List.map_cons, List.map_nil, List.replicate_succ, List.replicate_zero, List.append_nil, List.getElem?_cons_zero, List.getElem?_cons_succ, List.getElem?_nil, List.cons_append, List.nil_append, putT_n, putT_t, putTs_n, putTs_c, List.set_cons_zero, List.set_cons_succ, List.length_cons, List.length_nil, List.length_set, List.length_replicate, back, inl, inls, reduceIte, Nat.reduceAdd, Nat.reduceSub, Nat.reduceLT, Nat.reduceLeDiff, Nat.zero_add, wipe, true_and, and_true, Bool.true_eq_false, Bool.false_eq_true, List.set_set, List.take_length, take_set_length, Bool.not_true, Bool.not_false, Int.reduceToNat, Int.reduceLE, Int.reduceLT, Int.reduceNeg, D.free, frees, Bool.and_true, Bool.true_and, Bool.and_self, Nat.reduceLeDiff, decide_true, decide_false, oAddI, oAddS, oAddT, oAddL, oAddA, oSub, oMulI, oMulS, oPow, oFdiv, oMod, oNeg, oLt, oLe, oGt, oGe, oIsN, oNotN, oIsB, oNotB, oIxT, oIxL, oIxS, oCutT_L, oCutT_R, oCutL_R, oCutS_L, oCutS_R, oUpper, oLenT, oLenL, oLenS, oMax2, oMin2, oInt1, oStr1, oIsi, oInS, oIn2, oInK, oIxK, oEqI, oEqS, oEqB, oNeB, oNeI, oNeE2, oEqTE, oAll, oSum, oTuple, oList1T, oList1L, walkL, walkT, newL, ix0, ix1, ix2, ix3, ix4]
    refine ⟨by decide, oneLM (N := N + 120000) (by omega) (feedG hi ho5) (by simp) (by simp) (by rfl) fun x o6 hx ho6 => ?_⟩
    rw [setG hi]
    obtain ⟨m3, rfl, m30, m31⟩ : ∃ m : Nat, x = .int m ∧ 1 ≤ m ∧ m ≤ 2002 := by
      simp at hx
      rcases hx with rfl | rfl | rfl | rfl | rfl
      · exact ⟨2000, rfl, by decide, by decide⟩
      · exact ⟨2001, rfl, by decide, by decide⟩
      · exact ⟨2002, rfl, by decide, by decide⟩
      · exact ⟨1999, rfl, by decide, by decide⟩
      · exact ⟨(1 + v3).toNat, by rw [Int.toNat_of_nonneg (by omega)], by omega, by omega⟩
    try simp only [fresh, wSs, wS, wE, wEs, wC, asB, asI, List.map_cons, List.map_nil, List.replicate_succ, List.replicate_zero, List.append_nil, List.getElem?_cons_zero, List.getElem?_cons_succ, List.getElem?_nil, List.cons_append, List.nil_append, putT_n, putT_t, putTs_n, putTs_c, List.set_cons_zero, List.set_cons_succ, List.length_cons, List.length_nil, List.length_set, List.length_replicate, back, inl, inls, reduceIte, Nat.reduceAdd, Nat.reduceSub, Nat.reduceLT, Nat.reduceLeDiff, Nat.zero_add, wipe, true_and, and_true, Bool.true_eq_false, Bool.false_eq_true, List.set_set, List.take_length, take_set_length, Bool.not_true, Bool.not_false, Int.reduceToNat, Int.reduceLE, Int.reduceLT, Int.reduceNeg, D.free, frees, Bool.and_true, Bool.true_and, Bool.and_self, Nat.reduceLeDiff, decide_true, decide_false, oAddI, oAddS, oAddT, oAddL, oAddA, oSub, oMulI, oMulS, oPow, oFdiv, oMod, oNeg, oLt, oLe, oGt, oGe, oIsN, oNotN, oIsB, oNotB, oIxT, oIxL, oIxS, oCutT_L, oCutT_R, oCutL_R, oCutS_L, oCutS_R, oUpper, oLenT, oLenL, oLenS, oMax2, oMin2, oInt1, oStr1, oIsi, oInS, oIn2, oInK, oIxK, oEqI, oEqS, oEqB, oNeB, oNeI, oNeE2, oEqTE, oAll, oSum, oTuple, oList1T, oList1L, walkL, walkT, newL, ix0, ix1, ix2, ix3, ix4]
    refine flat m3 o6 _ _ m30 m31 ho6 fun t3 o7 k1 k2 k3 k4 => ?_
    subst k2
    try simp only [fresh, wSs, wS, wE, wEs, wC, asB, asI, List.map_cons, List.map_nil, List.replicate_succ, List.replicate_zero, List.append_nil, List.getElem?_cons_zero, List.getElem?_cons_succ, List.getElem?_nil, List.cons_append, List.nil_append, putT_n, putT_t, putTs_n, putTs_c, List.set_cons_zero, List.set_cons_succ, List.length_cons, List.length_nil, List.length_set, List.length_replicate, back, inl, inls, reduceIte, Nat.reduceAdd, Nat.reduceSub, Nat.reduceLT, Nat.reduceLeDiff, Nat.zero_add, wipe, true_and, and_true, Bool.true_eq_false, Bool.false_eq_true, List.set_set, List.take_length, take_set_length, Bool.not_true, Bool.not_false, Int.reduceToNat, Int.reduceLE, Int.reduceLT, Int.reduceNeg, D.free, frees, Bool.and_true, Bool.true_and, Bool.and_self, Nat.reduceLeDiff, decide_true, decide_false, oAddI, oAddS, oAddT, oAddL, oAddA, oSub, oMulI, oMulS, oPow, oFdiv, oMod, oNeg, oLt, oLe, oGt, oGe, oIsN, oNotN, oIsB, oNotB, oIxT, oIxL, oIxS, oCutT_L, oCutT_R, oCutL_R, oCutS_L, oCutS_R, oUpper, oLenT, oLenL, oLenS, oMax2, oMin2, oInt1, oStr1, oIsi, oInS, oIn2, oInK, oIxK, oEqI, oEqS, oEqB, oNeB, oNeI, oNeE2, oEqTE, oAll, oSum, oTuple, oList1T, oList1L, walkL, walkT, newL, ix0, ix1, ix2, ix3, ix4, rowD, isTyO (gG _ _), oApp (gG _ _), sG, tidy_free k1.2, walkO (gG _ _)]
    refine ⟨by decide, by decide, loop _ _ _ _ _ t3 o7 _ k1 (by omega) k4 fun x6 x7 x8 o' => ?_⟩
    try simp only [fresh, wSs, wS, wE, wEs, wC, asB, asI, List.map_cons, List.map_nil, List.replicate_succ, List.replicate_zero, List.append_nil, List.getElem?_cons_zero, List.getElem?_cons_succ, List.getElem?_nil, List.cons_append, List.nil_append, putT_n, putT_t, putTs_n, putTs_c, List.set_cons_zero, List.set_cons_succ, List.length_cons, List.length_nil, List.length_set, List.length_replicate, back, inl, inls, reduceIte, Nat.reduceAdd, Nat.reduceSub, Nat.reduceLT, Nat.reduceLeDiff, Nat.zero_add, wipe, true_and, and_true, Bool.true_eq_false, Bool.false_eq_true, List.set_set, List.take_length, take_set_length, Bool.not_true, Bool.not_false, Int.reduceToNat, Int.reduceLE, Int.reduceLT, Int.reduceNeg, D.free, frees, Bool.and_true, Bool.true_and, Bool.and_self, Nat.reduceLeDiff, decide_true, decide_false, oAddI, oAddS, oAddT, oAddL, oAddA, oSub, oMulI, oMulS, oPow, oFdiv, oMod, oNeg, oLt, oLe, oGt, oGe, oIsN, oNotN, oIsB, oNotB, oIxT, oIxL, oIxS, oCutT_L, oCutT_R, oCutL_R, oCutS_L, oCutS_R, oUpper, oLenT, oLenL, oLenS, oMax2, oMin2, oInt1, oStr1, oIsi, oInS, oIn2, oInK, oIxK, oEqI, oEqS, oEqB, oNeB, oNeI, oNeE2, oEqTE, oAll, oSum, oTuple, oList1T, oList1L, walkL, walkT, newL, ix0, ix1, ix2, ix3, ix4, takeG]
    exact hq o'
  | false =>
    try simp only [fresh, wSs, wS, wE, wEs, wC, asB, asI, List.map_cons, List.map_nil, List.replicate_succ, List.replicate_zero, List.append_nil, List.getElem?_cons_zero, List.getElem?_cons_succ, List.getElem?_nil, List.cons_append, List.nil_append, putT_n, putT_t, putTs_n, putTs_c, List.set_cons_zero, List.set_cons_succ, List.length_cons, List.length_nil, List.length_set, List.length_replicate, back, inl, inls, reduceIte, Nat.reduceAdd, Nat.reduceSub, Nat.reduceLT, Nat.reduceLeDiff, Nat.zero_add, wipe, true_and, and_true, Bool.true_eq_false, Bool.false_eq_true, List.set_set, List.take_length, take_set_length, Bool.not_true, Bool.not_false, Int.reduceToNat, Int.reduceLE, Int.reduceLT, Int.reduceNeg, D.free, frees, Bool.and_true, Bool.true_and, Bool.and_self, Nat.reduceLeDiff, decide_true, decide_false, oAddI, oAddS, oAddT, oAddL, oAddA, oSub, oMulI, oMulS, oPow, oFdiv, oMod, oNeg, oLt, oLe, oGt, oGe, oIsN, oNotN, oIsB, oNotB, oIxT, oIxL, oIxS, oCutT_L, oCutT_R, oCutL_R, oCutS_L, oCutS_R, oUpper, oLenT, oLenL, oLenS, oMax2, oMin2, oInt1, oStr1, oIsi, oInS, oIn2, oInK, oIxK, oEqI, oEqS, oEqB, oNeB, oNeI, oNeE2, oEqTE, oAll, oSum, oTuple, oList1T, oList1L, walkL, walkT, newL, ix0, ix1, ix2, ix3, ix4]
    refine drM (N := N + 120001) (by omega) (feedG hi (ho4.mono (by omega))) (by decide) (by decide) fun v3 o5 v30 v31 ho5 => ?_
    rw [setG hi]
    try simp only [fresh, wSs, wS, wE, wEs, wC, asB, asI, List.map_cons, List.map_nil, List.replicate_succ, List.replicate_zero, List.append_nil, List.getElem?_cons_zero, List.getElem?_cons_succ, List.getElem?_nil, List.cons_append, List.nil_append, putT_n, putT_t, putTs_n, putTs_c, List.set_cons_zero, List.set_cons_succ, List.length_cons, List.length_nil, List.length_set, List.length_replicate, back, inl, inls, reduceIte, Nat.reduceAdd, Nat.reduceSub, Nat.reduceLT, Nat.reduceLeDiff, Nat.zero_add, wipe, true_and, and_true, Bool.true_eq_false, Bool.false_eq_true, List.set_set, List.take_length, take_set_length, Bool.not_true, Bool.not_false, Int.reduceToNat, Int.reduceLE, Int.reduceLT, Int.reduceNeg, D.free, frees, Bool.and_true, Bool.true_and, Bool.and_self, Nat.reduceLeDiff, decide_true, decide_false, oAddI, oAddS, oAddT, oAddL, oAddA, oSub, oMulI, oMulS, oPow, oFdiv, oMod, oNeg, oLt, oLe, oGt, oGe, oIsN, oNotN, oIsB, oNotB, oIxT, oIxL, oIxS, oCutT_L, oCutT_R, oCutL_R, oCutS_L, oCutS_R, oUpper, oLenT, oLenL, oLenS, oMax2, oMin2, oInt1, oStr1, oIsi, oInS, oIn2, oInK, oIxK, oEqI, oEqS, oEqB, oNeB, oNeI, oNeE2, oEqTE, oAll, oSum, oTuple, oList1T, oList1L, walkL, walkT, newL, ix0, ix1, ix2, ix3, ix4]
    obtain ⟨m3, e3, m30, m31⟩ : ∃ m : Nat, (1 : Int) + v3 = m ∧ 1 ≤ m ∧ m ≤ 2002 := ⟨(1 + v3).toNat, by rw [Int.toNat_of_nonneg (by omega)], by omega, by omega⟩
    rw [e3]
    refine flat m3 o5 _ _ m30 m31 (ho5.mono (by omega)) fun t3 o7 k1 k2 k3 k4 => ?_
    subst k2
    try simp only [fresh, wSs, wS, wE, wEs, wC, asB, asI, List.map_cons, List.map_nil, List.replicate_succ, List.replicate_zero, List.append_nil, List.getElem?_cons_zero, List.getElem?_cons_succ, List.getElem?_nil, List.cons_append, List.nil_append, putT_n, putT_t, putTs_n, putTs_c, List.set_cons_zero, List.set_cons_succ, List.length_cons, List.length_nil, List.length_set, List.length_replicate, back, inl, inls, reduceIte, Nat.reduceAdd, Nat.reduceSub, Nat.reduceLT, Nat.reduceLeDiff, Nat.zero_add, wipe, true_and, and_true, Bool.true_eq_false, Bool.false_eq_true, List.set_set, List.take_length, take_set_length, Bool.not_true, Bool.not_false, Int.reduceToNat, Int.reduceLE, Int.reduceLT, Int.reduceNeg, D.free, frees, Bool.and_true, Bool.true_and, Bool.and_self, Nat.reduceLeDiff, decide_true, decide_false, oAddI, oAddS, oAddT, oAddL, oAddA, oSub, oMulI, oMulS, oPow, oFdiv, oMod, oNeg, oLt, oLe, oGt, oGe, oIsN, oNotN, oIsB, oNotB, oIxT, oIxL, oIxS, oCutT_L, oCutT_R, oCutL_R, oCutS_L, oCutS_R, oUpper, oLenT, oLenL, oLenS, oMax2, oMin2, oInt1, oStr1, oIsi, oInS, oIn2, oInK, oIxK, oEqI, oEqS, oEqB, oNeB, oNeI, oNeE2, oEqTE, oAll, oSum, oTuple, oList1T, oList1L, walkL, walkT, newL, ix0, ix1, ix2, ix3, ix4, rowD, isTyO (gG _ _), oApp (gG _ _), sG, tidy_free k1.2, walkO (gG _ _)]
    refine ⟨by decide, by decide, loop _ _ _ _ _ t3 o7 _ k1 (by omega) k4 fun x6 x7 x8 o' => ?_⟩
    try simp only [fresh, wSs, wS, wE, wEs, wC, asB, asI, List.map_cons, List.map_nil, List.replicate_succ, List.replicate_zero, List.append_nil, List.getElem?_cons_zero, List.getElem?_cons_succ, List.getElem?_nil, List.cons_append, List.nil_append, putT_n, putT_t, putTs_n, putTs_c, List.set_cons_zero, List.set_cons_succ, List.length_cons, List.length_nil, List.length_set, List.length_replicate, back, inl, inls, reduceIte, Nat.reduceAdd, Nat.reduceSub, Nat.reduceLT, Nat.reduceLeDiff, Nat.zero_add, wipe, true_and, and_true, Bool.true_eq_false, Bool.false_eq_true, List.set_set, List.take_length, take_set_length, Bool.not_true, Bool.not_false, Int.reduceToNat, Int.reduceLE, Int.reduceLT, Int.reduceNeg, D.free, frees, Bool.and_true, Bool.true_and, Bool.and_self, Nat.reduceLeDiff, decide_true, decide_false, oAddI, oAddS, oAddT, oAddL, oAddA, oSub, oMulI, oMulS, oPow, oFdiv, oMod, oNeg, oLt, oLe, oGt, oGe, oIsN, oNotN, oIsB, oNotB, oIxT, oIxL, oIxS, oCutT_L, oCutT_R, oCutL_R, oCutS_L, oCutS_R, oUpper, oLenT, oLenL, oLenS, oMax2, oMin2, oInt1, oStr1, oIsi, oInS, oIn2, oInK, oIxK, oEqI, oEqS, oEqB, oNeB, oNeI, oNeE2, oEqTE, oAll, oSum, oTuple, oList1T, oList1L, walkL, walkT, newL, ix0, ix1, ix2, ix3, ix4, takeG]
    exact hq o'
/-! ### the law -/
theorem cellM {m : Nat} {g : Bool} (hm : 73 ≤ m) (hf : FeedAt S i (N + 200000)) (hq : ∀ o : O, Q (.bl true) (S.set i o)) : Run T m "_law_cell" [.loc i, .bl g] S Q W := by
  obtain ⟨n, rfl⟩ : ∃ n, m = n + 73 := ⟨m - 73, by omega⟩
  exact w_cell hf hq
theorem w_law {ns : List Int} {B : Nat} (hB : 1 ≤ B) (hB2 : B ≤ 1048577) (hns : ∀ z ∈ ns, z.natAbs < 2 ^ B) (hl : ns.length ≤ 63) : Run T 200 "law" [.lst (ns.map .int)] [] (fun d _ => d = .bl true) (fun _ _ => False) := by
  refine wp_of (n := 199) fn_law rfl ?_
  try simp only [fresh, wSs, wS, wE, wEs, wC, asB, asI, List.map_cons, List.map_nil, List.replicate_succ, List.replicate_zero, List.append_nil, List.getElem?_cons_zero, List.getElem?_cons_succ, List.getElem?_nil, List.cons_append, List.nil_append, putT_n, putT_t, putTs_n, putTs_c, List.set_cons_zero, List.set_cons_succ, List.length_cons, List.length_nil, List.length_set, List.length_replicate, back, inl, inls, reduceIte, Nat.reduceAdd, Nat.reduceSub, Nat.reduceLT, Nat.reduceLeDiff, Nat.zero_add, wipe, true_and, and_true, Bool.true_eq_false, Bool.false_eq_true, List.set_set, List.take_length, take_set_length, Bool.not_true, Bool.not_false, Int.reduceToNat, Int.reduceLE, Int.reduceLT, Int.reduceNeg, D.free, frees, Bool.and_true, Bool.true_and, Bool.and_self, Nat.reduceLeDiff, decide_true, decide_false, oAddI, oAddS, oAddT, oAddL, oAddA, oSub, oMulI, oMulS, oPow, oFdiv, oMod, oNeg, oLt, oLe, oGt, oGe, oIsN, oNotN, oIsB, oNotB, oIxT, oIxL, oIxS, oCutT_L, oCutT_R, oCutL_R, oCutS_L, oCutS_R, oUpper, oLenT, oLenL, oLenS, oMax2, oMin2, oInt1, oStr1, oIsi, oInS, oIn2, oInK, oIxK, oEqI, oEqS, oEqB, oNeB, oNeI, oNeE2, oEqTE, oAll, oSum, oTuple, oList1T, oList1L, walkL, walkT, newL, ix0, ix1, ix2, ix3, ix4, f_law, b_law, List.length_map]
  obtain ⟨k, ek, hk⟩ : ∃ k : Nat, (if (if (4 : Int) < ((ns.length : Nat) : Int) then (4 : Int) else ((ns.length : Nat) : Int)) > 1 then (if (4 : Int) < ((ns.length : Nat) : Int) then (4 : Int) else ((ns.length : Nat) : Int)) else 1) = (k : Int) ∧ k ≤ 4 := by
    by_cases h4 : (4 : Int) < ((ns.length : Nat) : Int)
    · rw [if_pos h4]
      exact ⟨4, by decide, by decide⟩
    · rw [if_neg h4]
      by_cases h1 : ((ns.length : Nat) : Int) > 1
      · rw [if_pos h1]; exact ⟨ns.length, rfl, by omega⟩
      · rw [if_neg h1]; exact ⟨1, rfl, by decide⟩
  rw [ek, walk2 (by omega) (by omega)]
  refine ⟨by decide, forW_inv (fun r σ S' => (∀ y ∈ r, ∃ j : Nat, y = .int j ∧ j ≤ 3) ∧ ∃ x1 x2, σ = [some (.lst (ns.map .int)), x1, x2]) (fun _ _ _ _ => trivial) (fun σ S' h => ?_) (fun x r σ S' K h hK => ?_) _ _ _ ⟨fun y hy => ?_, none, none, rfl⟩⟩
  · obtain ⟨_, x1, x2, rfl⟩ := h
    try simp only [fresh, wSs, wS, wE, wEs, wC, asB, asI, List.map_cons, List.map_nil, List.replicate_succ, List.replicate_zero, List.append_nil, List.getElem?_cons_zero, List.getElem?_cons_succ, List.getElem?_nil, List.cons_append, List.nil_append, putT_n, putT_t, putTs_n, putTs_c, List.set_cons_zero, List.set_cons_succ, List.length_cons, List.length_nil, List.length_set, List.length_replicate, back, inl, inls, reduceIte, Nat.reduceAdd, Nat.reduceSub, Nat.reduceLT, Nat.reduceLeDiff, Nat.zero_add, wipe, true_and, and_true, Bool.true_eq_false, Bool.false_eq_true, List.set_set, List.take_length, take_set_length, Bool.not_true, Bool.not_false, Int.reduceToNat, Int.reduceLE, Int.reduceLT, Int.reduceNeg, D.free, frees, Bool.and_true, Bool.true_and, Bool.and_self, Nat.reduceLeDiff, decide_true, decide_false, oAddI, oAddS, oAddT, oAddL, oAddA, oSub, oMulI, oMulS, oPow, oFdiv, oMod, oNeg, oLt, oLe, oGt, oGe, oIsN, oNotN, oIsB, oNotB, oIxT, oIxL, oIxS, oCutT_L, oCutT_R, oCutL_R, oCutS_L, oCutS_R, oUpper, oLenT, oLenL, oLenS, oMax2, oMin2, oInt1, oStr1, oIsi, oInS, oIn2, oInK, oIxK, oEqI, oEqS, oEqB, oNeB, oNeI, oNeE2, oEqTE, oAll, oSum, oTuple, oList1T, oList1L, walkL, walkT, newL, ix0, ix1, ix2, ix3, ix4]
  · obtain ⟨h1, x1, x2, rfl⟩ := h
    obtain ⟨j, rfl, hj⟩ := h1 x List.mem_cons_self
    try simp only [fresh, wSs, wS, wE, wEs, wC, asB, asI, List.map_cons, List.map_nil, List.replicate_succ, List.replicate_zero, List.append_nil, List.getElem?_cons_zero, List.getElem?_cons_succ, List.getElem?_nil, List.cons_append, List.nil_append, putT_n, putT_t, putTs_n, putTs_c, List.set_cons_zero, List.set_cons_succ, List.length_cons, List.length_nil, List.length_set, List.length_replicate, back, inl, inls, reduceIte, Nat.reduceAdd, Nat.reduceSub, Nat.reduceLT, Nat.reduceLeDiff, Nat.zero_add, wipe, true_and, and_true, Bool.true_eq_false, Bool.false_eq_true, List.set_set, List.take_length, take_set_length, Bool.not_true, Bool.not_false, Int.reduceToNat, Int.reduceLE, Int.reduceLT, Int.reduceNeg, D.free, frees, Bool.and_true, Bool.true_and, Bool.and_self, Nat.reduceLeDiff, decide_true, decide_false, oAddI, oAddS, oAddT, oAddL, oAddA, oSub, oMulI, oMulS, oPow, oFdiv, oMod, oNeg, oLt, oLe, oGt, oGe, oIsN, oNotN, oIsB, oNotB, oIxT, oIxL, oIxS, oCutT_L, oCutT_R, oCutL_R, oCutS_L, oCutS_R, oUpper, oLenT, oLenL, oLenS, oMax2, oMin2, oInt1, oStr1, oIsi, oInS, oIn2, oInK, oIxK, oEqI, oEqS, oEqB, oNeB, oNeI, oNeE2, oEqTE, oAll, oSum, oTuple, oList1T, oList1L, walkL, walkT, newL, ix0, ix1, ix2, ix3, ix4, lp0_law]
    refine w_feed (n := 198) hB hB2 hns hl hj fun o ho => ?_
    try simp only [fresh, wSs, wS, wE, wEs, wC, asB, asI, List.map_cons, List.map_nil, List.replicate_succ, List.replicate_zero, List.append_nil, List.getElem?_cons_zero, List.getElem?_cons_succ, List.getElem?_nil, List.cons_append, List.nil_append, putT_n, putT_t, putTs_n, putTs_c, List.set_cons_zero, List.set_cons_succ, List.length_cons, List.length_nil, List.length_set, List.length_replicate, back, inl, inls, reduceIte, Nat.reduceAdd, Nat.reduceSub, Nat.reduceLT, Nat.reduceLeDiff, Nat.zero_add, wipe, true_and, and_true, Bool.true_eq_false, Bool.false_eq_true, List.set_set, List.take_length, take_set_length, Bool.not_true, Bool.not_false, Int.reduceToNat, Int.reduceLE, Int.reduceLT, Int.reduceNeg, D.free, frees, Bool.and_true, Bool.true_and, Bool.and_self, Nat.reduceLeDiff, decide_true, decide_false, oAddI, oAddS, oAddT, oAddL, oAddA, oSub, oMulI, oMulS, oPow, oFdiv, oMod, oNeg, oLt, oLe, oGt, oGe, oIsN, oNotN, oIsB, oNotB, oIxT, oIxL, oIxS, oCutT_L, oCutT_R, oCutL_R, oCutS_L, oCutS_R, oUpper, oLenT, oLenL, oLenS, oMax2, oMin2, oInt1, oStr1, oIsi, oInS, oIn2, oInK, oIxK, oEqI, oEqS, oEqB, oNeB, oNeI, oNeE2, oEqTE, oAll, oSum, oTuple, oList1T, oList1L, walkL, walkT, newL, ix0, ix1, ix2, ix3, ix4]
    have fA : FeedAt (S' ++ [o]) S'.length 9223372036854775808 := ⟨o, getApp, ho⟩
    have go : ∀ (g : Bool) (S2 : Store), FeedAt S2 S'.length (1000 + 200000) → Run T 199 "_law_cell" [.loc S'.length, .bl g] S2 (asB fun t S1 => if (!t) = true then D.bl false = D.bl true else K [some (.lst (ns.map .int)), some (.int j), some (.loc S'.length)] S1) fun c S1 => False := by
      intro g S2 hS
      refine cellM (N := 1000) (by decide) hS fun o2 => ?_
      try simp only [fresh, wSs, wS, wE, wEs, wC, asB, asI, List.map_cons, List.map_nil, List.replicate_succ, List.replicate_zero, List.append_nil, List.getElem?_cons_zero, List.getElem?_cons_succ, List.getElem?_nil, List.cons_append, List.nil_append, putT_n, putT_t, putTs_n, putTs_c, List.set_cons_zero, List.set_cons_succ, List.length_cons, List.length_nil, List.length_set, List.length_replicate, back, inl, inls, reduceIte, Nat.reduceAdd, Nat.reduceSub, Nat.reduceLT, Nat.reduceLeDiff, Nat.zero_add, wipe, true_and, and_true, Bool.true_eq_false, Bool.false_eq_true, List.set_set, List.take_length, take_set_length, Bool.not_true, Bool.not_false, Int.reduceToNat, Int.reduceLE, Int.reduceLT, Int.reduceNeg, D.free, frees, Bool.and_true, Bool.true_and, Bool.and_self, Nat.reduceLeDiff, decide_true, decide_false, oAddI, oAddS, oAddT, oAddL, oAddA, oSub, oMulI, oMulS, oPow, oFdiv, oMod, oNeg, oLt, oLe, oGt, oGe, oIsN, oNotN, oIsB, oNotB, oIxT, oIxL, oIxS, oCutT_L, oCutT_R, oCutL_R, oCutS_L, oCutS_R, oUpper, oLenT, oLenL, oLenS, oMax2, oMin2, oInt1, oStr1, oIsi, oInS, oIn2, oInK, oIxK, oEqI, oEqS, oEqB, oNeB, oNeI, oNeE2, oEqTE, oAll, oSum, oTuple, oList1T, oList1L, walkL, walkT, newL, ix0, ix1, ix2, ix3, ix4]
      exact hK _ _ ⟨fun y hy => h1 y (List.mem_cons_of_mem _ hy), _, _, rfl⟩
    split
    · refine drM (N := 201000) (by decide) (fA.mono (by decide)) (by decide) (by decide) fun r o3 r0 r1 ho3 => ?_
      try simp only [fresh, wSs, wS, wE, wEs, wC, asB, asI, List.map_cons, List.map_nil, List.replicate_succ, List.replicate_zero, List.append_nil, List.getElem?_cons_zero, List.getElem?_cons_succ, List.getElem?_nil, List.cons_append, List.nil_append, putT_n, putT_t, putTs_n, putTs_c, List.set_cons_zero, List.set_cons_succ, List.length_cons, List.length_nil, List.length_set, List.length_replicate, back, inl, inls, reduceIte, Nat.reduceAdd, Nat.reduceSub, Nat.reduceLT, Nat.reduceLeDiff, Nat.zero_add, wipe, true_and, and_true, Bool.true_eq_false, Bool.false_eq_true, List.set_set, List.take_length, take_set_length, Bool.not_true, Bool.not_false, Int.reduceToNat, Int.reduceLE, Int.reduceLT, Int.reduceNeg, D.free, frees, Bool.and_true, Bool.true_and, Bool.and_self, Nat.reduceLeDiff, decide_true, decide_false, oAddI, oAddS, oAddT, oAddL, oAddA, oSub, oMulI, oMulS, oPow, oFdiv, oMod, oNeg, oLt, oLe, oGt, oGe, oIsN, oNotN, oIsB, oNotB, oIxT, oIxL, oIxS, oCutT_L, oCutT_R, oCutL_R, oCutS_L, oCutS_R, oUpper, oLenT, oLenL, oLenS, oMax2, oMin2, oInt1, oStr1, oIsi, oInS, oIn2, oInK, oIxK, oEqI, oEqS, oEqB, oNeB, oNeI, oNeE2, oEqTE, oAll, oSum, oTuple, oList1T, oList1L, walkL, walkT, newL, ix0, ix1, ix2, ix3, ix4]
      exact go _ _ ⟨o3, List.getElem?_set_self (by simp), ho3⟩
    · exact go _ _ (fA.mono (by decide))
  · obtain ⟨j, hj, rfl⟩ := List.mem_map.mp hy
    exact ⟨j, rfl, by have := List.mem_range.mp hj; omega⟩
end
end K01
namespace K01
open PySem PySem.Spec PySem.Calls PyProof.Rows L2 YL
open Y (D O Store En Ky)
abbrev PG : Program := PySem.Challenge.rw_typeshold_k01_whole_terms_and_their_boun.prog
def top (i : Nat) : Stmt := PySem.Challenge.pw_typeshold_k01_whole_terms_and_their_boun.main.body.getD i (.Pass ⟨0, 0, 0, 0⟩)
structure Fx (K : PySem.W.Frag) (w : World) (mg : Str → Option Value) (tab : Str → At) (C_HoldError C_BadTerm : Addr) : Prop where
  b_isinstance : mg "isinstance" = none
  b_bool : mg "bool" = none
  b_int : mg "int" = none
  b_str : mg "str" = none
  b_len : mg "len" = none
  b_all : mg "all" = none
  b_tuple : mg "tuple" = none
  b_sum : mg "sum" = none
  b_max : mg "max" = none
  b_range : mg "range" = none
  b_list : mg "list" = none
  b_ValueError : mg "ValueError" = none
  b_min : mg "min" = none
  c_MOST_SIGNS : CG K w mg T "MOST_SIGNS" c_MOST_SIGNS
  c_LETTERS : CG K w mg T "LETTERS" c_LETTERS
  c_FIGURES : CG K w mg T "FIGURES" c_FIGURES
  c_PLAIN : CG K w mg T "PLAIN" c_PLAIN
  c_MOST_VARIABLE : CG K w mg T "MOST_VARIABLE" c_MOST_VARIABLE
  c_MOST_SORT : CG K w mg T "MOST_SORT" c_MOST_SORT
  c_MOST_RAISED : CG K w mg T "MOST_RAISED" c_MOST_RAISED
  c_MANY : CG K w mg T "MANY" c_MANY
  c_MOST_NODES : CG K w mg T "MOST_NODES" c_MOST_NODES
  c_MOST_DEEP : CG K w mg T "MOST_DEEP" c_MOST_DEEP
  x_BadTerm : XG K mg C_BadTerm [.type "ValueError", .type "Exception", .type "BaseException", .type "object"] "ValueError.__new__" "BadTerm"
  g_BadTerm : mg "BadTerm" = some (.ref C_BadTerm)
  xc : ∀ c C, T.subs c c = true → mg c = some (.ref C) → ExcC K C
  ki_ValueError : ∀ c C, T.subs c c = true → mg c = some (.ref C) → PySem.W.kitOne K (.ref C) (.type "ValueError") = some (T.subs c "ValueError")
  se_BadTerm : ∀ c C, T.subs c c = true → mg c = some (.ref C) → PySem.W.exmOne K (.ref C) (.ref C_BadTerm) = some (T.subs c "BadTerm")
  kb_depth_0_term : KBinds K (tab "depth").fd (tab "depth").ps ["term"] (gK 0 1 [0]) (gK 0 1 [0])
  kb_size_0_term : KBinds K (tab "size").fd (tab "size").ps ["term"] (gK 0 1 [0]) (gK 0 1 [0])
  kb_is_term_0_thing : KBinds K (tab "is_term").fd (tab "is_term").ps ["thing"] (gK 0 1 [0]) (gK 0 1 [0])
section
variable {K : PySem.W.Frag} {w : World} {mg : Str → Option Value} {base : Heap} {tab : Str → At} {C_HoldError C_BadTerm : Addr}
theorem sub_BadTerm {X : Cx} {J : Jb} {n : Nat} (F : Fx X.K w X.mg tab C_HoldError C_BadTerm) (G : Ctx X J T n tab) : SubOk X J "BadTerm" (.ref C_BadTerm) := fun c C h1 h2 => by
  rw [G.hP] at h1 ⊢
  exact F.se_BadTerm c C h1 h2
abbrev s_is_integer : Stmt := top 7
def N_is_integer : List Str := ["thing"]
def ps_is_integer : List Str := ["thing"]
theorem sc_is_integer : FnScope N_is_integer ps_is_integer (defScope s_is_integer) := ⟨rfl, rfl, rfl, by decide +kernel, rfl, by decide +kernel, by decide +kernel⟩
theorem l_is_integer (F : Fx K w mg tab C_HoldError C_BadTerm) : Linked PG w K mg base T tab N_is_integer "is_integer" s_is_integer b_is_integer := fun f cdv A outer s H E J n hcur G =>
  (qss_cons (qs_ret (qe_and (qe_isi (t := .int) (by rfl) F.b_isinstance (by rfl) F.b_int (qe_v 0)) (qe_and1 (qe_not (qe_isi (t := .bool) (by rfl) F.b_isinstance (by rfl) F.b_bool (qe_v 0)))))) (qss_nil))
abbrev s_is_within : Stmt := top 8
def N_is_within : List Str := ["thing", "least", "most"]
def ps_is_within : List Str := ["thing", "least", "most"]
theorem sc_is_within : FnScope N_is_within ps_is_within (defScope s_is_within) := ⟨rfl, rfl, rfl, by decide +kernel, rfl, by decide +kernel, by decide +kernel⟩
theorem l_is_within (F : Fx K w mg tab C_HoldError C_BadTerm) : Linked PG w K mg base T tab N_is_within "is_within" s_is_within b_is_within := fun f cdv A outer s H E J n hcur G =>
  (qss_cons (qs_ret (qe_and (qe_call G fn_is_integer (by rfl) (qa_cons (qe_v 0) qa_nil)) (qe_and1 (qe_chain o_le o_le s2 s2 (qe_v 1) (qe_v 0) (qe_v 2))))) (qss_nil))
abbrev s_is_word : Stmt := top 9
def N_is_word : List Str := ["thing", "sign"]
def ps_is_word : List Str := ["thing"]
theorem sc_is_word : FnScope N_is_word ps_is_word (defScope s_is_word) := ⟨rfl, rfl, rfl, by decide +kernel, rfl, by decide +kernel, by decide +kernel⟩
theorem l_is_word (F : Fx K w mg tab C_HoldError C_BadTerm) : Linked PG w K mg base T tab N_is_word "is_word" s_is_word b_is_word := fun f cdv A outer s H E J n hcur G =>
  (qss_cons (qs_if ((qw_or (qt_not (qt_val (qe_isi (t := .str) (by rfl) F.b_isinstance (by rfl) F.b_str (qe_v 0)))) (qw_or (qt_not (qt_chain o_le o_le s2 s2 qe_int (qe_B c_len sn (by rfl) F.b_len (by rfl) (qa_cons (qe_v 0) qa_nil)) (qe_gc G F.c_MOST_SIGNS (by rfl)))) (qw_or1 (qt_cmp (o_in (ninop G.hu)) s2 (qe_ix (o_ix G.hu1) s2 (qe_v 0) qe_int (fun _ _ => by rfl)) (qe_gc G F.c_LETTERS (by rfl)) (by rfl)))))).pt
     (qss_cons (qs_ret qe_bl) (qss_nil))
     (qss_nil)) (
   qss_cons (qs_ret (qe_B (c_all G.calm) sn (by rfl) F.b_all (by rfl) (qa_cons (qe_comp G (qi_seq (qe_v 0)) (blk_of (own := [("sign", 1)]) (by rfl)) (fun _ _ _ _ _ => (qg_n (G.blk _ _ _ _ _).nd (i := 1) (by rfl) (by first | exact .inl rfl | exact .inr rfl))) (fun _ _ _ _ _ => qc_nil) (fun _ _ _ _ _ => (qe_or (qe_cmp (o_in (inop (G.blk _ _ _ _ _).hu)) s2 (qe_v 1) (qe_gc (G.blk _ _ _ _ _) F.c_LETTERS (by rfl)) (by rfl)) (qe_and1 (qe_cmp (o_in (inop (G.blk _ _ _ _ _).hu)) s2 (qe_v 1) (qe_gc (G.blk _ _ _ _ _) F.c_FIGURES (by rfl)) (by rfl))))) (by decide)) qa_nil))) (qss_nil)))
abbrev s_is_leaf_form : Stmt := top 18
def N_is_leaf_form : List Str := ["thing", "word"]
def ps_is_leaf_form : List Str := ["thing"]
theorem sc_is_leaf_form : FnScope N_is_leaf_form ps_is_leaf_form (defScope s_is_leaf_form) := ⟨rfl, rfl, rfl, by decide +kernel, rfl, by decide +kernel, by decide +kernel⟩
theorem l_is_leaf_form (F : Fx K w mg tab C_HoldError C_BadTerm) : Linked PG w K mg base T tab N_is_leaf_form "is_leaf_form" s_is_leaf_form b_is_leaf_form := fun f cdv A outer s H E J n hcur G =>
  (qss_cons (qs_set G.nd (j := 1) (by rfl) (by first | exact .inl rfl | exact .inr rfl) (qe_ix (o_ix G.hu1) s2 (qe_v 0) qe_int (fun _ _ => by rfl))) (
   qss_cons (qs_if (qt_cmp (o_in (inop G.hu)) s2 (qe_v 1) (qe_gc G F.c_PLAIN (by rfl)) (by rfl))
     (qss_cons (qs_ret (qe_cmp (o_eqop (eqop G.hu64) fun _ _ _ _ => rfl) s2 (qe_B c_len sn (by rfl) F.b_len (by rfl) (qa_cons (qe_v 0) qa_nil)) qe_int (by rfl))) (qss_nil))
     (qss_nil)) (
   qss_cons (qs_if (qt_cmp (o_eqop (eqop G.hu64) fun _ _ _ _ => rfl) s2 (qe_v 1) qe_str (by rfl))
     (qss_cons (qs_ret (qe_and (qe_cmp (o_eqop (eqop G.hu64) fun _ _ _ _ => rfl) s2 (qe_B c_len sn (by rfl) F.b_len (by rfl) (qa_cons (qe_v 0) qa_nil)) qe_int (by rfl)) (qe_and1 (qe_call G fn_is_within (by rfl) (qa_cons (qe_ix (o_ix G.hu1) s2 (qe_v 0) qe_int (fun _ _ => by rfl)) (qa_cons qe_int (qa_cons (qe_gc G F.c_MOST_VARIABLE (by rfl)) qa_nil))))))) (qss_nil))
     (qss_nil)) (
   qss_cons (qs_if (qt_cmp (o_eqop (eqop G.hu64) fun _ _ _ _ => rfl) s2 (qe_v 1) qe_str (by rfl))
     (qss_cons (qs_ret (qe_and (qe_cmp (o_eqop (eqop G.hu64) fun _ _ _ _ => rfl) s2 (qe_B c_len sn (by rfl) F.b_len (by rfl) (qa_cons (qe_v 0) qa_nil)) qe_int (by rfl)) (qe_and1 (qe_call G fn_is_within (by rfl) (qa_cons (qe_ix (o_ix G.hu1) s2 (qe_v 0) qe_int (fun _ _ => by rfl)) (qa_cons qe_int (qa_cons (qe_gc G F.c_MOST_SORT (by rfl)) qa_nil))))))) (qss_nil))
     (qss_nil)) (
   qss_cons (qs_if (qt_cmp (o_eqop (eqop G.hu64) fun _ _ _ _ => rfl) s2 (qe_v 1) qe_str (by rfl))
     (qss_cons (qs_ret (qe_and (qe_cmp (o_eqop (eqop G.hu64) fun _ _ _ _ => rfl) s2 (qe_B c_len sn (by rfl) F.b_len (by rfl) (qa_cons (qe_v 0) qa_nil)) qe_int (by rfl)) (qe_and1 (qe_call G fn_is_word (by rfl) (qa_cons (qe_ix (o_ix G.hu1) s2 (qe_v 0) qe_int (fun _ _ => by rfl)) qa_nil))))) (qss_nil))
     (qss_nil)) (
   qss_cons (qs_ret (qe_and (qe_cmp (o_eqop (eqop G.hu64) fun _ _ _ _ => rfl) s2 (qe_v 1) qe_str (by rfl)) (qe_and (qe_cmp (o_eqop (eqop G.hu64) fun _ _ _ _ => rfl) s2 (qe_B c_len sn (by rfl) F.b_len (by rfl) (qa_cons (qe_v 0) qa_nil)) qe_int (by rfl)) (qe_and (qe_call G fn_is_word (by rfl) (qa_cons (qe_ix (o_ix G.hu1) s2 (qe_v 0) qe_int (fun _ _ => by rfl)) qa_nil)) (qe_and1 (qe_call G fn_is_within (by rfl) (qa_cons (qe_ix (o_ix G.hu1) s2 (qe_v 0) qe_int (fun _ _ => by rfl)) (qa_cons qe_int (qa_cons (qe_gc G F.c_MOST_RAISED (by rfl)) qa_nil))))))))) (qss_nil)))))))
abbrev s_is_node_form : Stmt := top 19
def N_is_node_form : List Str := ["thing"]
def ps_is_node_form : List Str := ["thing"]
theorem sc_is_node_form : FnScope N_is_node_form ps_is_node_form (defScope s_is_node_form) := ⟨rfl, rfl, rfl, by decide +kernel, rfl, by decide +kernel, by decide +kernel⟩
theorem l_is_node_form (F : Fx K w mg tab C_HoldError C_BadTerm) : Linked PG w K mg base T tab N_is_node_form "is_node_form" s_is_node_form b_is_node_form := fun f cdv A outer s H E J n hcur G =>
  (qss_cons (qs_if ((qw_or (qt_not (qt_val (qe_isi (t := .tuple) (by rfl) F.b_isinstance (by rfl) F.b_tuple (qe_v 0)))) (qw_or (qt_cmp (o_eqop (eqop G.hu64) fun _ _ _ _ => rfl) s2 (qe_B c_len sn (by rfl) F.b_len (by rfl) (qa_cons (qe_v 0) qa_nil)) qe_int (by rfl)) (qw_or1 (qt_not (qt_val (qe_isi (t := .str) (by rfl) F.b_isinstance (by rfl) F.b_str (qe_ix (o_ix G.hu1) s2 (qe_v 0) qe_int (fun _ _ => by rfl))))))))).pt
     (qss_cons (qs_ret qe_bl) (qss_nil))
     (qss_nil)) (
   qss_cons (qs_ret (qe_ife (qt_cmp (o_in (inop G.hu)) s2 (qe_ix (o_ix G.hu1) s2 (qe_v 0) qe_int (fun _ _ => by rfl)) (qe_gc G F.c_MANY (by rfl)) (by rfl)) (qe_cmp (o_eqop (eqop G.hu64) fun _ _ _ _ => rfl) s2 (qe_B c_len sn (by rfl) F.b_len (by rfl) (qa_cons (qe_v 0) qa_nil)) (qe_bin o_add s2 (qe_ix (o_ix G.hu1) s2 (qe_gc G F.c_MANY (by rfl)) (qe_ix (o_ix G.hu1) s2 (qe_v 0) qe_int (fun _ _ => by rfl)) (fun _ _ => by rfl)) qe_int) (by rfl)) (qe_call G fn_is_leaf_form (by rfl) (qa_cons (qe_v 0) qa_nil)))) (qss_nil)))
abbrev s_is_term_form : Stmt := top 20
def N_is_term_form : List Str := ["thing", "waiting", "many", "here", "deep", "part"]
def ps_is_term_form : List Str := ["thing"]
theorem sc_is_term_form : FnScope N_is_term_form ps_is_term_form (defScope s_is_term_form) := ⟨rfl, rfl, rfl, by decide +kernel, rfl, by decide +kernel, by decide +kernel⟩
theorem l_is_term_form (F : Fx K w mg tab C_HoldError C_BadTerm) : Linked PG w K mg base T tab N_is_term_form "is_term_form" s_is_term_form b_is_term_form := fun f cdv A outer s H E J n hcur G =>
  (qss_cons (qs_par2 G.calm G.nd (by rfl) (by rfl) (by decide) (by rfl) (by rfl) (qa_cons (qe_lst (qa_cons (qe_tup (qa_cons (qe_v 0) (qa_cons qe_int qa_nil))) qa_nil)) (qa_cons qe_int qa_nil)) (by rfl)) (
   qss_cons (qs_while G (qt_cmp (o_eqop (neop G.hu64) fun _ _ _ _ => rfl) s2 (qe_v 1) (qe_lst qa_nil) (by rfl))
     (qss_cons (qs_asg (qe_m0 (k := true) PySem.F.plainAttrs_list PySem.F.slot_list_pop PySem.F.type_list_pop m_pop (qe_v 1)) (qg_t G.calm (qgs_cons (qg_n G.nd (i := 3) (by rfl) (by first | exact .inl rfl | exact .inr rfl)) (qgs_cons (qg_n G.nd (i := 4) (by rfl) (by first | exact .inl rfl | exact .inr rfl)) qgs_nil)))) (
      qss_cons (qs_aug ip_add ip_addI G.nd (by rfl) (by first | exact .inl rfl | exact .inr rfl) qe_int) (
      qss_cons (qs_if ((qw_or (qt_cmp o_gt s2 (qe_v 2) (qe_gc G F.c_MOST_NODES (by rfl)) (by rfl)) (qw_or (qt_cmp o_gt s2 (qe_v 4) (qe_gc G F.c_MOST_DEEP (by rfl)) (by rfl)) (qw_or1 (qt_not (qt_val (qe_call G fn_is_node_form (by rfl) (qa_cons (qe_v 3) qa_nil)))))))).pt
        (qss_cons (qs_ret qe_bl) (qss_nil))
        (qss_nil)) (
      qss_cons (qs_if (qt_cmp (o_in (inop G.hu)) s2 (qe_ix (o_ix G.hu1) s2 (qe_v 3) qe_int (fun _ _ => by rfl)) (qe_gc G F.c_MANY (by rfl)) (by rfl))
        (qss_cons (qs_ex (qe_m (k := true) PySem.F.plainAttrs_list PySem.F.slot_list_extend PySem.F.type_list_extend m_extend (qe_v 1) (qa_cons (qe_comp G (qi_seq (qe_cutL (qe_v 3) qe_int)) (blk_of (own := [("part", 5)]) (by rfl)) (fun _ _ _ _ _ => (qg_n (G.blk _ _ _ _ _).nd (i := 5) (by rfl) (by first | exact .inl rfl | exact .inr rfl))) (fun _ _ _ _ _ => qc_nil) (fun _ _ _ _ _ => (qe_tup (qa_cons (qe_v 5) (qa_cons (qe_bin o_add s2 (qe_v 4) qe_int) qa_nil)))) (by decide)) qa_nil))) (qss_nil))
        (qss_nil)) (qss_nil)))))) (
   qss_cons (qs_ret qe_bl) (qss_nil))))
abbrev s_need_term : Stmt := top 21
def N_need_term : List Str := ["term"]
def ps_need_term : List Str := ["term"]
theorem sc_need_term : FnScope N_need_term ps_need_term (defScope s_need_term) := ⟨rfl, rfl, rfl, by decide +kernel, rfl, by decide +kernel, by decide +kernel⟩
theorem l_need_term (F : Fx K w mg tab C_HoldError C_BadTerm) : Linked PG w K mg base T tab N_need_term "need_term" s_need_term b_need_term := fun f cdv A outer s H E J n hcur G =>
  (qss_cons (qs_if (qt_not (qt_val (qe_call G fn_is_term_form (by rfl) (qa_cons (qe_v 0) qa_nil))))
     (qss_cons (qs_raiseG G PySem.F.excBase_ValueError F.x_BadTerm (by rfl) (by decide)) (qss_nil))
     (qss_nil)) (qss_nil))
abbrev s_parts_of : Stmt := top 22
def N_parts_of : List Str := ["term"]
def ps_parts_of : List Str := ["term"]
theorem sc_parts_of : FnScope N_parts_of ps_parts_of (defScope s_parts_of) := ⟨rfl, rfl, rfl, by decide +kernel, rfl, by decide +kernel, by decide +kernel⟩
theorem l_parts_of (F : Fx K w mg tab C_HoldError C_BadTerm) : Linked PG w K mg base T tab N_parts_of "parts_of" s_parts_of b_parts_of := fun f cdv A outer s H E J n hcur G =>
  (qss_cons (qs_ret (qe_ife (qt_cmp (o_in (inop G.hu)) s2 (qe_ix (o_ix G.hu1) s2 (qe_v 0) qe_int (fun _ _ => by rfl)) (qe_gc G F.c_MANY (by rfl)) (by rfl)) (qe_cutL (qe_v 0) qe_int) (qe_tup qa_nil))) (qss_nil))
abbrev s_size_of : Stmt := top 24
def N_size_of : List Str := ["term", "part"]
def ps_size_of : List Str := ["term"]
theorem sc_size_of : FnScope N_size_of ps_size_of (defScope s_size_of) := ⟨rfl, rfl, rfl, by decide +kernel, rfl, by decide +kernel, by decide +kernel⟩
theorem l_size_of (F : Fx K w mg tab C_HoldError C_BadTerm) : Linked PG w K mg base T tab N_size_of "size_of" s_size_of b_size_of := fun f cdv A outer s H E J n hcur G =>
  (qss_cons (qs_ret (qe_bin o_add s2 qe_int (qe_B (c_sum G.calm) sn (by rfl) F.b_sum (by rfl) (qa_cons (qe_comp G (qi_seq (qe_call G fn_parts_of (by rfl) (qa_cons (qe_v 0) qa_nil))) (blk_of (own := [("part", 1)]) (by rfl)) (fun _ _ _ _ _ => (qg_n (G.blk _ _ _ _ _).nd (i := 1) (by rfl) (by first | exact .inl rfl | exact .inr rfl))) (fun _ _ _ _ _ => qc_nil) (fun _ _ _ _ _ => (qe_call (G.blk _ _ _ _ _) fn_size_of (by rfl) (qa_cons (qe_v 1) qa_nil))) (by decide)) qa_nil)))) (qss_nil))
abbrev s_depth_of : Stmt := top 25
def N_depth_of : List Str := ["term", "part"]
def ps_depth_of : List Str := ["term"]
theorem sc_depth_of : FnScope N_depth_of ps_depth_of (defScope s_depth_of) := ⟨rfl, rfl, rfl, by decide +kernel, rfl, by decide +kernel, by decide +kernel⟩
theorem l_depth_of (F : Fx K w mg tab C_HoldError C_BadTerm) : Linked PG w K mg base T tab N_depth_of "depth_of" s_depth_of b_depth_of := fun f cdv A outer s H E J n hcur G =>
  (qss_cons (qs_ret (qe_bin o_add s2 qe_int (qe_B (c_maxL G.calm) sn (by rfl) F.b_max (by rfl) (qa_cons (qe_bin o_add s2 (qe_lst (qa_cons qe_int qa_nil)) (qe_comp G (qi_seq (qe_call G fn_parts_of (by rfl) (qa_cons (qe_v 0) qa_nil))) (blk_of (own := [("part", 1)]) (by rfl)) (fun _ _ _ _ _ => (qg_n (G.blk _ _ _ _ _).nd (i := 1) (by rfl) (by first | exact .inl rfl | exact .inr rfl))) (fun _ _ _ _ _ => qc_nil) (fun _ _ _ _ _ => (qe_call (G.blk _ _ _ _ _) fn_depth_of (by rfl) (qa_cons (qe_v 1) qa_nil))) (by decide))) qa_nil)))) (qss_nil))
abbrev s_is_term : Stmt := top 27
def N_is_term : List Str := ["thing"]
def ps_is_term : List Str := ["thing"]
theorem sc_is_term : FnScope N_is_term ps_is_term (defScope s_is_term) := ⟨rfl, rfl, rfl, by decide +kernel, rfl, by decide +kernel, by decide +kernel⟩
theorem l_is_term (F : Fx K w mg tab C_HoldError C_BadTerm) : Linked PG w K mg base T tab N_is_term "is_term" s_is_term b_is_term := fun f cdv A outer s H E J n hcur G =>
  (qss_cons (qs_ret (qe_call G fn_is_term_form (by rfl) (qa_cons (qe_v 0) qa_nil))) (qss_nil))
abbrev s_size : Stmt := top 28
def N_size : List Str := ["term"]
def ps_size : List Str := ["term"]
theorem sc_size : FnScope N_size ps_size (defScope s_size) := ⟨rfl, rfl, rfl, by decide +kernel, rfl, by decide +kernel, by decide +kernel⟩
theorem l_size (F : Fx K w mg tab C_HoldError C_BadTerm) : Linked PG w K mg base T tab N_size "size" s_size b_size := fun f cdv A outer s H E J n hcur G =>
  (qss_cons (qs_ex (qe_call G fn_need_term (by rfl) (qa_cons (qe_v 0) qa_nil))) (
   qss_cons (qs_ret (qe_call G fn_size_of (by rfl) (qa_cons (qe_v 0) qa_nil))) (qss_nil)))
abbrev s_depth : Stmt := top 29
def N_depth : List Str := ["term"]
def ps_depth : List Str := ["term"]
theorem sc_depth : FnScope N_depth ps_depth (defScope s_depth) := ⟨rfl, rfl, rfl, by decide +kernel, rfl, by decide +kernel, by decide +kernel⟩
theorem l_depth (F : Fx K w mg tab C_HoldError C_BadTerm) : Linked PG w K mg base T tab N_depth "depth" s_depth b_depth := fun f cdv A outer s H E J n hcur G =>
  (qss_cons (qs_ex (qe_call G fn_need_term (by rfl) (qa_cons (qe_v 0) qa_nil))) (
   qss_cons (qs_ret (qe_call G fn_depth_of (by rfl) (qa_cons (qe_v 0) qa_nil))) (qss_nil)))
abbrev s__law_feed : Stmt := top 31
def N__law_feed : List Str := ["script", "k", "cell"]
def ps__law_feed : List Str := ["script", "k"]
theorem sc__law_feed : FnScope N__law_feed ps__law_feed (defScope s__law_feed) := ⟨rfl, rfl, rfl, by decide +kernel, rfl, by decide +kernel, by decide +kernel⟩
theorem l__law_feed (F : Fx K w mg tab C_HoldError C_BadTerm) : Linked PG w K mg base T tab N__law_feed "_law_feed" s__law_feed b__law_feed := fun f cdv A outer s H E J n hcur G =>
  (qss_cons (qs_set G.nd (j := 2) (by rfl) (by first | exact .inl rfl | exact .inr rfl) (qe_bin o_add s2 (qe_bin o_mul s2 qe_int (qe_v 1)) (qe_bin o_mul s2 qe_int (qe_B (c_sum G.calm) sn (by rfl) F.b_sum (by rfl) (qa_cons (qe_cutR (qe_v 0) qe_int) qa_nil))))) (
   qss_cons (qs_if (qt_cmp o_lt s2 (qe_v 1) (qe_B c_len sn (by rfl) F.b_len (by rfl) (qa_cons (qe_v 0) qa_nil)) (by rfl))
     (qss_cons (qs_set G.nd (j := 2) (by rfl) (by first | exact .inl rfl | exact .inr rfl) (qe_ix (o_ix G.hu1) s2 (qe_v 0) (qe_v 1) (fun _ _ => by rfl))) (qss_nil))
     (qss_nil)) (
   qss_cons (qs_ret (qe_lst (qa_cons (qe_B (c_max2 G.calm) sn (by rfl) F.b_max (by rfl) (qa_cons qe_int (qa_cons (qe_bin o_sub s2 (qe_v 2) (qe_bin o_pow s2 qe_int qe_int)) qa_nil))) (qa_cons (qe_bin o_mod s2 (qe_Ty c_int1 sn (by rfl) F.b_int (by rfl) (qa_cons (qe_bin o_mul s2 (qe_bin o_add s2 (qe_bin o_add s2 (qe_bin o_mul s2 (qe_v 2) qe_int) (qe_bin o_mul s2 qe_int (qe_v 1))) qe_int) (qe_bin o_add s2 (qe_bin o_pow s2 qe_int qe_int) qe_int)) qa_nil)) (qe_bin o_add s2 (qe_bin o_pow s2 qe_int qe_int) qe_int)) (qa_cons qe_int qa_nil))))) (qss_nil))))
abbrev s__law_draw : Stmt := top 32
def N__law_draw : List Str := ["feed", "many", "got"]
def ps__law_draw : List Str := ["feed", "many"]
theorem sc__law_draw : FnScope N__law_draw ps__law_draw (defScope s__law_draw) := ⟨rfl, rfl, rfl, by decide +kernel, rfl, by decide +kernel, by decide +kernel⟩
theorem l__law_draw (F : Fx K w mg tab C_HoldError C_BadTerm) : Linked PG w K mg base T tab N__law_draw "_law_draw" s__law_draw b__law_draw := fun f cdv A outer s H E J n hcur G =>
  (qss_cons (qs_if (qt_cmp o_gt s2 (qe_ix (o_ix G.hu1) s2 (qe_v 0) qe_int (fun _ _ => by rfl)) qe_int (by rfl))
     (qss_cons (qs_set G.nd (j := 2) (by rfl) (by first | exact .inl rfl | exact .inr rfl) (qe_bin o_mod s2 (qe_Ty c_int1 sn (by rfl) F.b_int (by rfl) (qa_cons (qe_ix (o_ix G.hu1) s2 (qe_v 0) qe_int (fun _ _ => by rfl)) qa_nil)) (qe_v 1))) (
      qss_cons (qs_put (qe_bin o_fdiv s2 (qe_ix (o_ix G.hu1) s2 (qe_v 0) qe_int (fun _ _ => by rfl)) (qe_v 1)) (qe_v 0) qe_int) (
      qss_cons (qs_ret (qe_v 2)) (qss_nil))))
     (qss_nil)) (
   qss_cons (qs_put (qe_bin o_add s2 (qe_ix (o_ix G.hu1) s2 (qe_v 0) qe_int (fun _ _ => by rfl)) qe_int) (qe_v 0) qe_int) (
   qss_cons (qs_put (qe_bin o_mod s2 (qe_Ty c_int1 sn (by rfl) F.b_int (by rfl) (qa_cons (qe_bin o_add s2 (qe_bin o_add s2 (qe_bin o_add s2 (qe_bin o_mul s2 (qe_ix (o_ix G.hu1) s2 (qe_v 0) qe_int (fun _ _ => by rfl)) (qe_ix (o_ix G.hu1) s2 (qe_v 0) qe_int (fun _ _ => by rfl))) (qe_bin o_mul s2 qe_int (qe_ix (o_ix G.hu1) s2 (qe_v 0) qe_int (fun _ _ => by rfl)))) (qe_bin o_mul s2 (qe_bin o_mul s2 qe_int (qe_ix (o_ix G.hu1) s2 (qe_v 0) qe_int (fun _ _ => by rfl))) (qe_ix (o_ix G.hu1) s2 (qe_v 0) qe_int (fun _ _ => by rfl)))) qe_int) qa_nil)) (qe_bin o_add s2 (qe_bin o_pow s2 qe_int qe_int) qe_int)) (qe_v 0) qe_int) (
   qss_cons (qs_ret (qe_bin o_mod s2 (qe_Ty c_int1 sn (by rfl) F.b_int (by rfl) (qa_cons (qe_bin o_fdiv s2 (qe_ix (o_ix G.hu1) s2 (qe_v 0) qe_int (fun _ _ => by rfl)) (qe_bin o_pow s2 qe_int qe_int)) qa_nil)) (qe_v 1))) (qss_nil)))))
abbrev s__law_one : Stmt := top 33
def N__law_one : List Str := ["feed", "things"]
def ps__law_one : List Str := ["feed", "things"]
theorem sc__law_one : FnScope N__law_one ps__law_one (defScope s__law_one) := ⟨rfl, rfl, rfl, by decide +kernel, rfl, by decide +kernel, by decide +kernel⟩
theorem l__law_one (F : Fx K w mg tab C_HoldError C_BadTerm) : Linked PG w K mg base T tab N__law_one "_law_one" s__law_one b__law_one := fun f cdv A outer s H E J n hcur G =>
  (qss_cons (qs_ret (qe_ix (o_ix G.hu1) s2 (qe_v 1) (qe_call G fn__law_draw (by rfl) (qa_cons (qe_v 0) (qa_cons (qe_B c_len sn (by rfl) F.b_len (by rfl) (qa_cons (qe_v 1) qa_nil)) qa_nil))) (fun _ _ => by rfl))) (qss_nil))
abbrev s__law_word : Stmt := top 34
def N__law_word : List Str := ["feed", "letters", "word", "turn"]
def ps__law_word : List Str := ["feed"]
theorem sc__law_word : FnScope N__law_word ps__law_word (defScope s__law_word) := ⟨rfl, rfl, rfl, by decide +kernel, rfl, by decide +kernel, by decide +kernel⟩
theorem l__law_word (F : Fx K w mg tab C_HoldError C_BadTerm) : Linked PG w K mg base T tab N__law_word "_law_word" s__law_word b__law_word := fun f cdv A outer s H E J n hcur G =>
  (qss_cons (qs_set G.nd (j := 1) (by rfl) (by first | exact .inl rfl | exact .inr rfl) qe_str) (
   qss_cons (qs_set G.nd (j := 2) (by rfl) (by first | exact .inl rfl | exact .inr rfl) (qe_call G fn__law_one (by rfl) (qa_cons (qe_v 0) (qa_cons (qe_v 1) qa_nil)))) (
   qss_cons (qs_for G (qi_rng1 (by rfl) F.b_range (qa_cons (qe_call G fn__law_one (by rfl) (qa_cons (qe_v 0) (qa_cons (qe_lst (qa_cons qe_int (qa_cons qe_int (qa_cons qe_int (qa_cons qe_int (qa_cons qe_int (qa_cons qe_int qa_nil))))))) qa_nil))) qa_nil)) (qg_n G.nd (i := 3) (by rfl) (by first | exact .inl rfl | exact .inr rfl))
     (qss_cons (qs_set G.nd (j := 2) (by rfl) (by first | exact .inl rfl | exact .inr rfl) (qe_bin o_add s2 (qe_v 2) (qe_call G fn__law_one (by rfl) (qa_cons (qe_v 0) (qa_cons (qe_bin o_add s2 (qe_v 1) qe_str) qa_nil))))) (qss_nil))) (
   qss_cons (qs_ret (qe_v 2)) (qss_nil)))))
abbrev s__law_leaf : Stmt := top 35
def N__law_leaf : List Str := ["feed", "way"]
def ps__law_leaf : List Str := ["feed"]
theorem sc__law_leaf : FnScope N__law_leaf ps__law_leaf (defScope s__law_leaf) := ⟨rfl, rfl, rfl, by decide +kernel, rfl, by decide +kernel, by decide +kernel⟩
theorem l__law_leaf (F : Fx K w mg tab C_HoldError C_BadTerm) : Linked PG w K mg base T tab N__law_leaf "_law_leaf" s__law_leaf b__law_leaf := fun f cdv A outer s H E J n hcur G =>
  (qss_cons (qs_set G.nd (j := 1) (by rfl) (by first | exact .inl rfl | exact .inr rfl) (qe_call G fn__law_draw (by rfl) (qa_cons (qe_v 0) (qa_cons qe_int qa_nil)))) (
   qss_cons (qs_if (qt_cmp o_lt s2 (qe_v 1) qe_int (by rfl))
     (qss_cons (qs_ret (qe_tup (qa_cons qe_str (qa_cons (qe_call G fn__law_one (by rfl) (qa_cons (qe_v 0) (qa_cons (qe_lst (qa_cons qe_int (qa_cons qe_int (qa_cons qe_int (qa_cons qe_int (qa_cons qe_int (qa_cons (qe_call G fn__law_draw (by rfl) (qa_cons (qe_v 0) (qa_cons qe_int qa_nil))) qa_nil))))))) qa_nil))) qa_nil)))) (qss_nil))
     (qss_nil)) (
   qss_cons (qs_if (qt_cmp (o_eqop (eqop G.hu64) fun _ _ _ _ => rfl) s2 (qe_v 1) qe_int (by rfl))
     (qss_cons (qs_ret (qe_tup (qa_cons qe_str (qa_cons (qe_call G fn__law_draw (by rfl) (qa_cons (qe_v 0) (qa_cons qe_int qa_nil))) qa_nil)))) (qss_nil))
     (qss_nil)) (
   qss_cons (qs_if (qt_cmp o_lt s2 (qe_v 1) qe_int (by rfl))
     (qss_cons (qs_ret (qe_tup (qa_cons qe_str (qa_cons (qe_call G fn__law_word (by rfl) (qa_cons (qe_v 0) qa_nil)) qa_nil)))) (qss_nil))
     (qss_nil)) (
   qss_cons (qs_ret (qe_ife (qt_cmp (o_eqop (eqop G.hu64) fun _ _ _ _ => rfl) s2 (qe_v 1) qe_int (by rfl)) (qe_tup (qa_cons qe_str (qa_cons (qe_call G fn__law_word (by rfl) (qa_cons (qe_v 0) qa_nil)) (qa_cons (qe_call G fn__law_draw (by rfl) (qa_cons (qe_v 0) (qa_cons qe_int qa_nil))) qa_nil)))) (qe_call G fn__law_one (by rfl) (qa_cons (qe_v 0) (qa_cons (qe_lst (qa_cons (qe_tup (qa_cons qe_str qa_nil)) (qa_cons (qe_tup (qa_cons qe_str qa_nil)) qa_nil))) qa_nil))))) (qss_nil))))))
abbrev s__law_drawn : Stmt := top 36
def N__law_drawn : List Str := ["feed", "deep", "way", "word", "many", "rows", "turn", "row"]
def ps__law_drawn : List Str := ["feed", "deep"]
theorem sc__law_drawn : FnScope N__law_drawn ps__law_drawn (defScope s__law_drawn) := ⟨rfl, rfl, rfl, by decide +kernel, rfl, by decide +kernel, by decide +kernel⟩
theorem l__law_drawn (F : Fx K w mg tab C_HoldError C_BadTerm) : Linked PG w K mg base T tab N__law_drawn "_law_drawn" s__law_drawn b__law_drawn := fun f cdv A outer s H E J n hcur G =>
  (qss_cons (qs_set G.nd (j := 2) (by rfl) (by first | exact .inl rfl | exact .inr rfl) (qe_ife (qt_cmp o_gt s2 (qe_v 1) qe_int (by rfl)) (qe_call G fn__law_draw (by rfl) (qa_cons (qe_v 0) (qa_cons qe_int qa_nil))) qe_int)) (
   qss_cons (qs_if (qt_cmp o_gt s2 (qe_v 2) qe_int (by rfl))
     (qss_cons (qs_ret (qe_tup (qa_cons (qe_call G fn__law_leaf (by rfl) (qa_cons (qe_v 0) qa_nil)) (qa_cons qe_int (qa_cons qe_int qa_nil))))) (qss_nil))
     (qss_nil)) (
   qss_cons (qs_asg (qe_ix (o_ix G.hu1) s2 (qe_lst (qa_cons (qe_tup (qa_cons qe_str (qa_cons qe_int qa_nil))) (qa_cons (qe_tup (qa_cons qe_str (qa_cons qe_int qa_nil))) (qa_cons (qe_tup (qa_cons qe_str (qa_cons qe_int qa_nil))) (qa_cons (qe_tup (qa_cons qe_str (qa_cons qe_int qa_nil))) (qa_cons (qe_tup (qa_cons qe_str (qa_cons qe_int qa_nil))) (qa_cons (qe_tup (qa_cons qe_str (qa_cons qe_int qa_nil))) (qa_cons (qe_tup (qa_cons qe_str (qa_cons qe_int qa_nil))) qa_nil)))))))) (qe_v 2) (fun _ _ => by rfl)) (qg_t G.calm (qgs_cons (qg_n G.nd (i := 3) (by rfl) (by first | exact .inl rfl | exact .inr rfl)) (qgs_cons (qg_n G.nd (i := 4) (by rfl) (by first | exact .inl rfl | exact .inr rfl)) qgs_nil)))) (
   qss_cons (qs_setLc G (i := 5) (by rfl) (by rfl) (by rfl) (qi_rng1 (by rfl) F.b_range (qa_cons (qe_v 4) qa_nil)) (blk_of (own := [("turn", 6)]) (by rfl)) (fun _ _ _ _ _ => (qg_n (G.blk _ _ _ _ _).nd (i := 6) (by rfl) (by first | exact .inl rfl | exact .inr rfl))) (fun _ _ _ _ _ => qc_nil) (fun _ _ _ _ _ => (qe_call (G.blk _ _ _ _ _) fn__law_drawn (by rfl) (qa_cons (qe_v 0) (qa_cons (qe_bin o_sub s2 (qe_v 1) qe_int) qa_nil)))) (by decide)) (
   qss_cons (qs_ret (qe_tup (qa_cons (qe_bin o_add s2 (qe_tup (qa_cons (qe_v 3) qa_nil)) (qe_Ty c_tuple1 sn (by rfl) F.b_tuple (by rfl) (qa_cons (qe_comp G (qi_seq (qe_v 5)) (blk_of (own := [("row", 7)]) (by rfl)) (fun _ _ _ _ _ => (qg_n (G.blk _ _ _ _ _).nd (i := 7) (by rfl) (by first | exact .inl rfl | exact .inr rfl))) (fun _ _ _ _ _ => qc_nil) (fun _ _ _ _ _ => (qe_ix (o_ix (G.blk _ _ _ _ _).hu1) s2 (qe_v 7) qe_int (fun _ _ => by rfl))) (by decide)) qa_nil))) (qa_cons (qe_bin o_add s2 qe_int (qe_B (c_sum G.calm) sn (by rfl) F.b_sum (by rfl) (qa_cons (qe_comp G (qi_seq (qe_v 5)) (blk_of (own := [("row", 7)]) (by rfl)) (fun _ _ _ _ _ => (qg_n (G.blk _ _ _ _ _).nd (i := 7) (by rfl) (by first | exact .inl rfl | exact .inr rfl))) (fun _ _ _ _ _ => qc_nil) (fun _ _ _ _ _ => (qe_ix (o_ix (G.blk _ _ _ _ _).hu1) s2 (qe_v 7) qe_int (fun _ _ => by rfl))) (by decide)) qa_nil))) (qa_cons (qe_bin o_add s2 qe_int (qe_B (c_maxL G.calm) sn (by rfl) F.b_max (by rfl) (qa_cons (qe_comp G (qi_seq (qe_v 5)) (blk_of (own := [("row", 7)]) (by rfl)) (fun _ _ _ _ _ => (qg_n (G.blk _ _ _ _ _).nd (i := 7) (by rfl) (by first | exact .inl rfl | exact .inr rfl))) (fun _ _ _ _ _ => qc_nil) (fun _ _ _ _ _ => (qe_ix (o_ix (G.blk _ _ _ _ _).hu1) s2 (qe_v 7) qe_int (fun _ _ => by rfl))) (by decide)) qa_nil))) qa_nil))))) (qss_nil))))))
abbrev s__law_flat : Stmt := top 37
def N__law_flat : List Str := ["feed", "many", "leaf", "one", "two"]
def ps__law_flat : List Str := ["feed", "many"]
theorem sc__law_flat : FnScope N__law_flat ps__law_flat (defScope s__law_flat) := ⟨rfl, rfl, rfl, by decide +kernel, rfl, by decide +kernel, by decide +kernel⟩
theorem l__law_flat (F : Fx K w mg tab C_HoldError C_BadTerm) : Linked PG w K mg base T tab N__law_flat "_law_flat" s__law_flat b__law_flat := fun f cdv A outer s H E J n hcur G =>
  (qss_cons (qs_if (qt_cmp o_lt s2 (qe_v 1) qe_int (by rfl))
     (qss_cons (qs_set G.nd (j := 2) (by rfl) (by first | exact .inl rfl | exact .inr rfl) (qe_call G fn__law_leaf (by rfl) (qa_cons (qe_v 0) qa_nil))) (
      qss_cons (qs_ret (qe_ife (qt_cmp (o_eqop (eqop G.hu64) fun _ _ _ _ => rfl) s2 (qe_v 1) qe_int (by rfl)) (qe_tup (qa_cons (qe_v 2) (qa_cons qe_int qa_nil))) (qe_tup (qa_cons (qe_tup (qa_cons (qe_call G fn__law_one (by rfl) (qa_cons (qe_v 0) (qa_cons (qe_lst (qa_cons qe_str (qa_cons qe_str qa_nil))) qa_nil))) (qa_cons (qe_v 2) qa_nil))) (qa_cons qe_int qa_nil))))) (qss_nil)))
     (qss_nil)) (
   qss_cons (qs_par2 G.calm G.nd (by rfl) (by rfl) (by decide) (by rfl) (by rfl) (qa_cons (qe_call G fn__law_flat (by rfl) (qa_cons (qe_v 0) (qa_cons (qe_bin o_fdiv s2 (qe_bin o_sub s2 (qe_v 1) qe_int) qe_int) qa_nil))) (qa_cons (qe_call G fn__law_flat (by rfl) (qa_cons (qe_v 0) (qa_cons (qe_bin o_sub s2 (qe_bin o_sub s2 (qe_v 1) qe_int) (qe_bin o_fdiv s2 (qe_bin o_sub s2 (qe_v 1) qe_int) qe_int)) qa_nil))) qa_nil)) (by rfl)) (
   qss_cons (qs_ret (qe_tup (qa_cons (qe_tup (qa_cons (qe_call G fn__law_one (by rfl) (qa_cons (qe_v 0) (qa_cons (qe_lst (qa_cons qe_str (qa_cons qe_str (qa_cons qe_str (qa_cons qe_str qa_nil))))) qa_nil))) (qa_cons (qe_ix (o_ix G.hu1) s2 (qe_v 3) qe_int (fun _ _ => by rfl)) (qa_cons (qe_ix (o_ix G.hu1) s2 (qe_v 4) qe_int (fun _ _ => by rfl)) qa_nil)))) (qa_cons (qe_bin o_add s2 qe_int (qe_B (c_max2 G.calm) sn (by rfl) F.b_max (by rfl) (qa_cons (qe_ix (o_ix G.hu1) s2 (qe_v 3) qe_int (fun _ _ => by rfl)) (qa_cons (qe_ix (o_ix G.hu1) s2 (qe_v 4) qe_int (fun _ _ => by rfl)) qa_nil)))) qa_nil)))) (qss_nil))))
abbrev s__law_thin : Stmt := top 38
def N__law_thin : List Str := ["feed", "deep", "term", "many", "turn", "word", "wide", "row", "part"]
def ps__law_thin : List Str := ["feed", "deep"]
theorem sc__law_thin : FnScope N__law_thin ps__law_thin (defScope s__law_thin) := ⟨rfl, rfl, rfl, by decide +kernel, rfl, by decide +kernel, by decide +kernel⟩
theorem l__law_thin (F : Fx K w mg tab C_HoldError C_BadTerm) : Linked PG w K mg base T tab N__law_thin "_law_thin" s__law_thin b__law_thin := fun f cdv A outer s H E J n hcur G =>
  (qss_cons (qs_par2 G.calm G.nd (by rfl) (by rfl) (by decide) (by rfl) (by rfl) (qa_cons (qe_call G fn__law_leaf (by rfl) (qa_cons (qe_v 0) qa_nil)) (qa_cons qe_int qa_nil)) (by rfl)) (
   qss_cons (qs_for G (qi_rng1 (by rfl) F.b_range (qa_cons (qe_bin o_sub s2 (qe_v 1) qe_int) qa_nil)) (qg_n G.nd (i := 4) (by rfl) (by first | exact .inl rfl | exact .inr rfl))
     (qss_cons (qs_asg (qe_call G fn__law_one (by rfl) (qa_cons (qe_v 0) (qa_cons (qe_lst (qa_cons (qe_tup (qa_cons qe_str (qa_cons qe_int qa_nil))) (qa_cons (qe_tup (qa_cons qe_str (qa_cons qe_int qa_nil))) (qa_cons (qe_tup (qa_cons qe_str (qa_cons qe_int qa_nil))) (qa_cons (qe_tup (qa_cons qe_str (qa_cons qe_int qa_nil))) (qa_cons (qe_tup (qa_cons qe_str (qa_cons qe_int qa_nil))) (qa_cons (qe_tup (qa_cons qe_str (qa_cons qe_int qa_nil))) (qa_cons (qe_tup (qa_cons qe_str (qa_cons qe_int qa_nil))) qa_nil)))))))) qa_nil))) (qg_t G.calm (qgs_cons (qg_n G.nd (i := 5) (by rfl) (by first | exact .inl rfl | exact .inr rfl)) (qgs_cons (qg_n G.nd (i := 6) (by rfl) (by first | exact .inl rfl | exact .inr rfl)) qgs_nil)))) (
      qss_cons (qs_setLc G (i := 7) (by rfl) (by rfl) (by rfl) (qi_rng1 (by rfl) F.b_range (qa_cons (qe_v 6) qa_nil)) (blk_of (own := [("part", 8)]) (by rfl)) (fun _ _ _ _ _ => (qg_n (G.blk _ _ _ _ _).nd (i := 8) (by rfl) (by first | exact .inl rfl | exact .inr rfl))) (fun _ _ _ _ _ => qc_nil) (fun _ _ _ _ _ => (qe_call (G.blk _ _ _ _ _) fn__law_leaf (by rfl) (qa_cons (qe_v 0) qa_nil))) (by decide)) (
      qss_cons (qs_put (qe_v 2) (qe_v 7) (qe_call G fn__law_draw (by rfl) (qa_cons (qe_v 0) (qa_cons (qe_v 6) qa_nil)))) (
      qss_cons (qs_par2 G.calm G.nd (by rfl) (by rfl) (by decide) (by rfl) (by rfl) (qa_cons (qe_bin o_add s2 (qe_tup (qa_cons (qe_v 5) qa_nil)) (qe_Ty c_tuple1 sn (by rfl) F.b_tuple (by rfl) (qa_cons (qe_v 7) qa_nil))) (qa_cons (qe_bin o_add s2 (qe_v 3) (qe_v 6)) qa_nil)) (by rfl)) (qss_nil)))))) (
   qss_cons (qs_ret (qe_tup (qa_cons (qe_v 2) (qa_cons (qe_v 3) qa_nil)))) (qss_nil))))
abbrev s__law_bad_word : Stmt := top 39
def N__law_bad_word : List Str := ["feed", "word", "spot", "sign", "some"]
def ps__law_bad_word : List Str := ["feed"]
theorem sc__law_bad_word : FnScope N__law_bad_word ps__law_bad_word (defScope s__law_bad_word) := ⟨rfl, rfl, rfl, by decide +kernel, rfl, by decide +kernel, by decide +kernel⟩
theorem l__law_bad_word (F : Fx K w mg tab C_HoldError C_BadTerm) : Linked PG w K mg base T tab N__law_bad_word "_law_bad_word" s__law_bad_word b__law_bad_word := fun f cdv A outer s H E J n hcur G =>
  (qss_cons (qs_set G.nd (j := 1) (by rfl) (by first | exact .inl rfl | exact .inr rfl) (qe_call G fn__law_word (by rfl) (qa_cons (qe_v 0) qa_nil))) (
   qss_cons (qs_set G.nd (j := 2) (by rfl) (by first | exact .inl rfl | exact .inr rfl) (qe_call G fn__law_draw (by rfl) (qa_cons (qe_v 0) (qa_cons (qe_B c_len sn (by rfl) F.b_len (by rfl) (qa_cons (qe_v 1) qa_nil)) qa_nil)))) (
   qss_cons (qs_set G.nd (j := 3) (by rfl) (by first | exact .inl rfl | exact .inr rfl) (qe_call G fn__law_one (by rfl) (qa_cons (qe_v 0) (qa_cons qe_str qa_nil)))) (
   qss_cons (qs_set G.nd (j := 4) (by rfl) (by first | exact .inl rfl | exact .inr rfl) (qe_lst (qa_cons (qe_bin o_add s2 (qe_bin o_add s2 (qe_cutR (qe_v 1) (qe_v 2)) (qe_v 3)) (qe_cutL (qe_v 1) (qe_bin o_add s2 (qe_v 2) qe_int))) (qa_cons (qe_bin o_add s2 (qe_call G fn__law_one (by rfl) (qa_cons (qe_v 0) (qa_cons qe_str qa_nil))) (qe_cutL (qe_v 1) qe_int)) (qa_cons qe_str (qa_cons (qe_bin o_add s2 (qe_v 1) (qe_bin o_mul s2 qe_str (qe_bin o_sub s2 qe_int (qe_B c_len sn (by rfl) F.b_len (by rfl) (qa_cons (qe_v 1) qa_nil))))) qa_nil)))))) (
   qss_cons (qs_ret (qe_call G fn__law_one (by rfl) (qa_cons (qe_v 0) (qa_cons (qe_bin o_add s2 (qe_v 4) (qe_lst (qa_cons (qe_bin o_add s2 (qe_bin o_add s2 (qe_bin o_add s2 (qe_cutR (qe_v 1) (qe_v 2)) (qe_m0 (k := false) PySem.F.plainAttrs_str PySem.F.slot_str_upper PySem.F.type_str_upper m_upper (qe_ix (o_ix G.hu1) s2 (qe_v 1) (qe_v 2) (fun _ _ => by rfl)))) (qe_cutL (qe_v 1) (qe_bin o_add s2 (qe_v 2) qe_int))) qe_str) (qa_cons (qe_lst (qa_cons (qe_v 1) qa_nil)) (qa_cons (qe_tup (qa_cons (qe_v 1) qa_nil)) (qa_cons qe_non (qa_cons qe_bl (qa_cons qe_int qa_nil)))))))) qa_nil)))) (qss_nil))))))
abbrev s__law_bad : Stmt := top 40
def N__law_bad : List Str := ["feed", "term", "word", "number", "far", "way"]
def ps__law_bad : List Str := ["feed", "term"]
theorem sc__law_bad : FnScope N__law_bad ps__law_bad (defScope s__law_bad) := ⟨rfl, rfl, rfl, by decide +kernel, rfl, by decide +kernel, by decide +kernel⟩
theorem l__law_bad (F : Fx K w mg tab C_HoldError C_BadTerm) : Linked PG w K mg base T tab N__law_bad "_law_bad" s__law_bad b__law_bad := fun f cdv A outer s H E J n hcur G =>
  (qss_cons (qs_par2 G.calm G.nd (by rfl) (by rfl) (by decide) (by rfl) (by rfl) (qa_cons (qe_call G fn__law_word (by rfl) (qa_cons (qe_v 0) qa_nil)) (qa_cons (qe_call G fn__law_draw (by rfl) (qa_cons (qe_v 0) (qa_cons qe_int qa_nil))) qa_nil)) (by rfl)) (
   qss_cons (qs_set G.nd (j := 4) (by rfl) (by first | exact .inl rfl | exact .inr rfl) (qe_lst (qa_cons (qe_un o_neg s1 qe_int) (qa_cons (qe_bin o_sub s2 (qe_un o_neg s1 qe_int) (qe_v 3)) (qa_cons qe_bl (qa_cons qe_bl (qa_cons qe_non (qa_cons (qe_Ty c_str1 sn (by rfl) F.b_str (by rfl) (qa_cons (qe_v 3) qa_nil)) (qa_cons (qe_tup (qa_cons (qe_v 3) qa_nil)) (qa_cons (qe_lst (qa_cons (qe_v 3) qa_nil)) qa_nil)))))))))) (
   qss_cons (qs_set G.nd (j := 5) (by rfl) (by first | exact .inl rfl | exact .inr rfl) (qe_call G fn__law_draw (by rfl) (qa_cons (qe_v 0) (qa_cons qe_int qa_nil)))) (
   qss_cons (qs_if (qt_cmp o_lt s2 (qe_v 5) qe_int (by rfl))
     (qss_cons (qs_ret (qe_tup (qa_cons qe_str (qa_cons (qe_call G fn__law_one (by rfl) (qa_cons (qe_v 0) (qa_cons (qe_bin o_add s2 (qe_v 4) (qe_lst (qa_cons qe_int (qa_cons (qe_bin o_add s2 qe_int (qe_call G fn__law_draw (by rfl) (qa_cons (qe_v 0) (qa_cons (qe_bin o_pow s2 qe_int qe_int) qa_nil)))) qa_nil)))) qa_nil))) qa_nil)))) (qss_nil))
     (qss_nil)) (
   qss_cons (qs_if (qt_cmp (o_eqop (eqop G.hu64) fun _ _ _ _ => rfl) s2 (qe_v 5) qe_int (by rfl))
     (qss_cons (qs_ret (qe_tup (qa_cons qe_str (qa_cons (qe_call G fn__law_one (by rfl) (qa_cons (qe_v 0) (qa_cons (qe_bin o_add s2 (qe_v 4) (qe_lst (qa_cons qe_int (qa_cons (qe_bin o_add s2 qe_int (qe_v 3)) (qa_cons (qe_tup (qa_cons qe_str (qa_cons (qe_v 3) qa_nil))) qa_nil))))) qa_nil))) qa_nil)))) (qss_nil))
     (qss_nil)) (
   qss_cons (qs_if (qt_cmp (o_eqop (eqop G.hu64) fun _ _ _ _ => rfl) s2 (qe_v 5) qe_int (by rfl))
     (qss_cons (qs_ret (qe_ife (qt_cmp (o_eqop (eqop G.hu64) fun _ _ _ _ => rfl) s2 (qe_call G fn__law_draw (by rfl) (qa_cons (qe_v 0) (qa_cons qe_int qa_nil))) qe_int (by rfl)) (qe_tup (qa_cons qe_str (qa_cons (qe_v 2) (qa_cons (qe_call G fn__law_one (by rfl) (qa_cons (qe_v 0) (qa_cons (qe_bin o_add s2 (qe_v 4) (qe_lst (qa_cons qe_int (qa_cons (qe_bin o_add s2 qe_int (qe_v 3)) qa_nil)))) qa_nil))) qa_nil)))) (qe_tup (qa_cons qe_str (qa_cons (qe_call G fn__law_bad_word (by rfl) (qa_cons (qe_v 0) qa_nil)) (qa_cons (qe_bin o_sub s2 (qe_v 3) (qe_bin o_fdiv s2 (qe_v 3) qe_int)) qa_nil)))))) (qss_nil))
     (qss_nil)) (
   qss_cons (qs_if (qt_cmp o_lt s2 (qe_v 5) qe_int (by rfl))
     (qss_cons (qs_ret (qe_tup (qa_cons qe_str (qa_cons (qe_call G fn__law_bad_word (by rfl) (qa_cons (qe_v 0) qa_nil)) qa_nil)))) (qss_nil))
     (qss_nil)) (
   qss_cons (qs_if (qt_cmp (o_eqop (eqop G.hu64) fun _ _ _ _ => rfl) s2 (qe_v 5) qe_int (by rfl))
     (qss_cons (qs_ret (qe_bin o_add s2 (qe_v 1) (qe_tup (qa_cons (qe_tup (qa_cons qe_str qa_nil)) qa_nil)))) (qss_nil))
     (qss_nil)) (
   qss_cons (qs_if (qt_cmp (o_eqop (eqop G.hu64) fun _ _ _ _ => rfl) s2 (qe_v 5) qe_int (by rfl))
     (qss_cons (qs_ret (qe_cutR (qe_v 1) (qe_bin o_sub s2 (qe_B c_len sn (by rfl) F.b_len (by rfl) (qa_cons (qe_v 1) qa_nil)) qe_int))) (qss_nil))
     (qss_nil)) (
   qss_cons (qs_if (qt_cmp (o_eqop (eqop G.hu64) fun _ _ _ _ => rfl) s2 (qe_v 5) qe_int (by rfl))
     (qss_cons (qs_ret (qe_call G fn__law_one (by rfl) (qa_cons (qe_v 0) (qa_cons (qe_lst (qa_cons (qe_Ty c_list1 sn (by rfl) F.b_list (by rfl) (qa_cons (qe_v 1) qa_nil)) (qa_cons (qe_ix (o_ix G.hu1) s2 (qe_v 1) qe_int (fun _ _ => by rfl)) (qa_cons (qe_tup (qa_cons (qe_v 1) qa_nil)) (qa_cons (qe_dk (kvs := [(.inr "var", .int 0)]) (pps_cons pe_str pe_int pps_nil) (fun _ _ => ⟨_, _, rfl, rfl, rfl⟩)) (qa_cons (qe_v 3) (qa_cons qe_non (qa_cons qe_bl (qa_cons qe_str (qa_cons (qe_tup qa_nil) (qa_cons (qe_lst qa_nil) (qa_cons (qe_cutL (qe_tup (qa_cons qe_str (qa_cons qe_int qa_nil))) qe_int) qa_nil)))))))))))) qa_nil)))) (qss_nil))
     (qss_nil)) (
   qss_cons (qs_ret (qe_bin o_add s2 (qe_tup (qa_cons (qe_call G fn__law_one (by rfl) (qa_cons (qe_v 0) (qa_cons (qe_lst (qa_cons qe_str (qa_cons qe_str (qa_cons qe_str (qa_cons qe_str (qa_cons qe_str (qa_cons qe_str (qa_cons qe_str (qa_cons qe_str (qa_cons (qe_bin o_add s2 (qe_v 2) qe_str) (qa_cons qe_int (qa_cons qe_non (qa_cons (qe_tup (qa_cons qe_str qa_nil)) (qa_cons qe_bl qa_nil)))))))))))))) qa_nil))) qa_nil)) (qe_cutL (qe_v 1) qe_int))) (qss_nil))))))))))))
abbrev s__law_with : Stmt := top 41
def N__law_with : List Str := ["feed", "term", "parts", "spot"]
def ps__law_with : List Str := ["feed", "term"]
theorem sc__law_with : FnScope N__law_with ps__law_with (defScope s__law_with) := ⟨rfl, rfl, rfl, by decide +kernel, rfl, by decide +kernel, by decide +kernel⟩
theorem l__law_with (F : Fx K w mg tab C_HoldError C_BadTerm) : Linked PG w K mg base T tab N__law_with "_law_with" s__law_with b__law_with := fun f cdv A outer s H E J n hcur G =>
  (qss_cons (qs_set G.nd (j := 2) (by rfl) (by first | exact .inl rfl | exact .inr rfl) (qe_ife (qt_cmp (o_in (inop G.hu)) s2 (qe_ix (o_ix G.hu1) s2 (qe_v 1) qe_int (fun _ _ => by rfl)) (qe_tup (qa_cons qe_str (qa_cons qe_str (qa_cons qe_str (qa_cons qe_str (qa_cons qe_str (qa_cons qe_str (qa_cons qe_str qa_nil)))))))) (by rfl)) (qe_cutL (qe_v 1) qe_int) (qe_tup qa_nil))) (
   qss_cons (qs_if ((qw_or (qt_cmp (o_eqop (eqop G.hu64) fun _ _ _ _ => rfl) s2 (qe_v 2) (qe_tup qa_nil) (by rfl)) (qw_or1 (qt_cmp (o_eqop (eqop G.hu64) fun _ _ _ _ => rfl) s2 (qe_call G fn__law_draw (by rfl) (qa_cons (qe_v 0) (qa_cons qe_int qa_nil))) qe_int (by rfl))))).pt
     (qss_cons (qs_ret (qe_call G fn__law_bad (by rfl) (qa_cons (qe_v 0) (qa_cons (qe_v 1) qa_nil)))) (qss_nil))
     (qss_nil)) (
   qss_cons (qs_set G.nd (j := 3) (by rfl) (by first | exact .inl rfl | exact .inr rfl) (qe_call G fn__law_draw (by rfl) (qa_cons (qe_v 0) (qa_cons (qe_B c_len sn (by rfl) F.b_len (by rfl) (qa_cons (qe_v 2) qa_nil)) qa_nil)))) (
   qss_cons (qs_ret (qe_bin o_add s2 (qe_bin o_add s2 (qe_cutR (qe_v 1) (qe_bin o_add s2 (qe_v 3) qe_int)) (qe_tup (qa_cons (qe_call G fn__law_with (by rfl) (qa_cons (qe_v 0) (qa_cons (qe_ix (o_ix G.hu1) s2 (qe_v 2) (qe_v 3) (fun _ _ => by rfl)) qa_nil))) qa_nil))) (qe_cutL (qe_v 1) (qe_bin o_add s2 (qe_v 3) qe_int)))) (qss_nil)))))
abbrev s__law_refused : Stmt := top 42
def N__law_refused : List Str := ["thing", "words", "e"]
def ps__law_refused : List Str := ["thing"]
theorem sc__law_refused : FnScope N__law_refused ps__law_refused (defScope s__law_refused) := ⟨rfl, rfl, rfl, by decide +kernel, rfl, by decide +kernel, by decide +kernel⟩
theorem l__law_refused (F : Fx K w mg tab C_HoldError C_BadTerm) : Linked PG w K mg base T tab N__law_refused "_law_refused" s__law_refused b__law_refused := fun f cdv A outer s H E J n hcur G =>
  (qss_cons (qs_set G.nd (j := 1) (by rfl) (by first | exact .inl rfl | exact .inr rfl) (qe_lst qa_nil)) (
   qss_cons (qs_tryAs G (by rfl) (by rfl) (i := 2) (by rfl) (by rfl) ⟨by rfl, by decide, .inl F.g_BadTerm⟩ (sub_BadTerm F G)
     (fun _ _ _ G1 => (qss_cons (qs_ex (qe_m (k := true) PySem.F.plainAttrs_list PySem.F.slot_list_append PySem.F.type_list_append m_append (qe_v 1) (qa_cons (qe_call G1 fn_size (by rfl) (qa_cons (qe_v 0) qa_nil)) qa_nil))) (qss_nil)))
     (fun _ _ cx Cx _ hz hv hm hs => (qss_cons (qs_ex (qe_m (k := true) PySem.F.plainAttrs_list PySem.F.slot_list_append PySem.F.type_list_append m_append (qe_v 1) (qa_cons (qe_ife (qt_val (qe_isx (F.xc cx Cx (G.sG hs) hm) hz hv (by rfl) (.inl rfl) (by rfl) F.b_isinstance (pe_bltn (v := .ty "ValueError") (by rfl) F.b_ValueError rfl rfl) (fun _ h => h) (G.kG (F.ki_ValueError cx Cx (G.sG hs) hm)))) qe_str qe_str) qa_nil))) (qss_nil)))) (
   qss_cons (qs_tryAs G (by rfl) (by rfl) (i := 2) (by rfl) (by rfl) ⟨by rfl, by decide, .inl F.g_BadTerm⟩ (sub_BadTerm F G)
     (fun _ _ _ G1 => (qss_cons (qs_ex (qe_m (k := true) PySem.F.plainAttrs_list PySem.F.slot_list_append PySem.F.type_list_append m_append (qe_v 1) (qa_cons (qe_call G1 fn_depth (by rfl) (qa_cons (qe_v 0) qa_nil)) qa_nil))) (qss_nil)))
     (fun _ _ cx Cx _ hz hv hm hs => (qss_cons (qs_ex (qe_m (k := true) PySem.F.plainAttrs_list PySem.F.slot_list_append PySem.F.type_list_append m_append (qe_v 1) (qa_cons (qe_ife (qt_val (qe_isx (F.xc cx Cx (G.sG hs) hm) hz hv (by rfl) (.inl rfl) (by rfl) F.b_isinstance (pe_bltn (v := .ty "ValueError") (by rfl) F.b_ValueError rfl rfl) (fun _ h => h) (G.kG (F.ki_ValueError cx Cx (G.sG hs) hm)))) qe_str qe_str) qa_nil))) (qss_nil)))) (
   qss_cons (qs_ret (qe_cmp (o_eqop (eqop G.hu64) fun _ _ _ _ => rfl) s2 (qe_v 1) (qe_lst (qa_cons qe_str (qa_cons qe_str qa_nil))) (by rfl))) (qss_nil)))))
abbrev s__law_right : Stmt := top 43
def N__law_right : List Str := ["made", "many", "deep", "told", "one"]
def ps__law_right : List Str := ["made", "many", "deep"]
theorem sc__law_right : FnScope N__law_right ps__law_right (defScope s__law_right) := ⟨rfl, rfl, rfl, by decide +kernel, rfl, by decide +kernel, by decide +kernel⟩
theorem l__law_right (F : Fx K w mg tab C_HoldError C_BadTerm) : Linked PG w K mg base T tab N__law_right "_law_right" s__law_right b__law_right := fun f cdv A outer s H E J n hcur G =>
  (qss_cons (qs_if ((qw_or (qt_cmp o_gt s2 (qe_v 1) qe_int (by rfl)) (qw_or1 (qt_cmp o_gt s2 (qe_v 2) qe_int (by rfl))))).pt
     (qss_cons (qs_ret (qe_and (qe_cmp o_isB s2 (qe_call G fn_is_term (by rfl) (qa_cons (qe_v 0) qa_nil)) qe_bl (by rfl)) (qe_and1 (qe_call G fn__law_refused (by rfl) (qa_cons (qe_v 0) qa_nil))))) (qss_nil))
     (qss_nil)) (
   qss_cons (qs_set G.nd (j := 3) (by rfl) (by first | exact .inl rfl | exact .inr rfl) (qe_lst (qa_cons (qe_call G fn_size (by rfl) (qa_cons (qe_v 0) qa_nil)) (qa_cons (qe_callk0 G fn_depth (by rfl) F.kb_depth_0_term (qk_cons (qe_v 0) qk_nil)) qa_nil)))) (
   qss_cons (qs_if (qt_cmp o_lt s2 (qe_v 1) qe_int (by rfl))
     (qss_cons (qs_set G.nd (j := 3) (by rfl) (by first | exact .inl rfl | exact .inr rfl) (qe_bin o_add s2 (qe_v 3) (qe_lst (qa_cons (qe_callk0 G fn_size (by rfl) F.kb_size_0_term (qk_cons (qe_v 0) qk_nil)) (qa_cons (qe_call G fn_depth (by rfl) (qa_cons (qe_v 0) qa_nil)) qa_nil))))) (qss_nil))
     (qss_nil)) (
   qss_cons (qs_if (qt_cmp (o_eqop (neop G.hu64) fun _ _ _ _ => rfl) s2 (qe_comp G (qi_seq (qe_v 3)) (blk_of (own := [("one", 4)]) (by rfl)) (fun _ _ _ _ _ => (qg_n (G.blk _ _ _ _ _).nd (i := 4) (by rfl) (by first | exact .inl rfl | exact .inr rfl))) (fun _ _ _ _ _ => (qc_one ((qw_or (qt_not (qt_val (qe_isi (t := .int) (by rfl) F.b_isinstance (by rfl) F.b_int (qe_v 4)))) (qw_or1 (qt_val (qe_isi (t := .bool) (by rfl) F.b_isinstance (by rfl) F.b_bool (qe_v 4)))))).pt)) (fun _ _ _ _ _ => qe_int) (by decide)) (qe_lst qa_nil) (by rfl))
     (qss_cons (qs_ret qe_bl) (qss_nil))
     (qss_nil)) (
   qss_cons (qs_ret (qe_and (qe_cmp (o_in (inop G.hu)) s2 (qe_v 3) (qe_lst (qa_cons (qe_lst (qa_cons (qe_v 1) (qa_cons (qe_v 2) qa_nil))) (qa_cons (qe_lst (qa_cons (qe_v 1) (qa_cons (qe_v 2) (qa_cons (qe_v 1) (qa_cons (qe_v 2) qa_nil))))) qa_nil))) (by rfl)) (qe_and1 (qe_cmp o_isB s2 (qe_callk0 G fn_is_term (by rfl) F.kb_is_term_0_thing (qk_cons (qe_v 0) qk_nil)) qe_bl (by rfl))))) (qss_nil))))))
abbrev s__law_cell : Stmt := top 44
def N__law_cell : List Str := ["feed", "great", "made", "many", "deep", "rows", "one", "turn", "bad"]
def ps__law_cell : List Str := ["feed", "great"]
theorem sc__law_cell : FnScope N__law_cell ps__law_cell (defScope s__law_cell) := ⟨rfl, rfl, rfl, by decide +kernel, rfl, by decide +kernel, by decide +kernel⟩
theorem l__law_cell (F : Fx K w mg tab C_HoldError C_BadTerm) : Linked PG w K mg base T tab N__law_cell "_law_cell" s__law_cell b__law_cell := fun f cdv A outer s H E J n hcur G =>
  (qss_cons (qs_asg (qe_call G fn__law_drawn (by rfl) (qa_cons (qe_v 0) (qa_cons (qe_ife (qt_cmp (o_eqop (eqop G.hu64) fun _ _ _ _ => rfl) s2 (qe_call G fn__law_draw (by rfl) (qa_cons (qe_v 0) (qa_cons qe_int qa_nil))) qe_int (by rfl)) qe_int qe_int) qa_nil))) (qg_t G.calm (qgs_cons (qg_n G.nd (i := 2) (by rfl) (by first | exact .inl rfl | exact .inr rfl)) (qgs_cons (qg_n G.nd (i := 3) (by rfl) (by first | exact .inl rfl | exact .inr rfl)) (qgs_cons (qg_n G.nd (i := 4) (by rfl) (by first | exact .inl rfl | exact .inr rfl)) qgs_nil))))) (
   qss_cons (qs_set G.nd (j := 5) (by rfl) (by first | exact .inl rfl | exact .inr rfl) (qe_lst (qa_cons (qe_tup (qa_cons (qe_v 2) (qa_cons (qe_v 3) (qa_cons (qe_v 4) qa_nil)))) qa_nil))) (
   qss_cons (qs_set G.nd (j := 4) (by rfl) (by first | exact .inl rfl | exact .inr rfl) (qe_call G fn__law_one (by rfl) (qa_cons (qe_v 0) (qa_cons (qe_lst (qa_cons qe_int (qa_cons qe_int (qa_cons qe_int (qa_cons qe_int (qa_cons qe_int (qa_cons (qe_bin o_add s2 qe_int (qe_call G fn__law_draw (by rfl) (qa_cons (qe_v 0) (qa_cons qe_int qa_nil)))) qa_nil))))))) qa_nil)))) (
   qss_cons (qs_asg (qe_call G fn__law_thin (by rfl) (qa_cons (qe_v 0) (qa_cons (qe_v 4) qa_nil))) (qg_t G.calm (qgs_cons (qg_n G.nd (i := 2) (by rfl) (by first | exact .inl rfl | exact .inr rfl)) (qgs_cons (qg_n G.nd (i := 3) (by rfl) (by first | exact .inl rfl | exact .inr rfl)) qgs_nil)))) (
   qss_cons (qs_ex (qe_m (k := true) PySem.F.plainAttrs_list PySem.F.slot_list_append PySem.F.type_list_append m_append (qe_v 5) (qa_cons (qe_tup (qa_cons (qe_v 2) (qa_cons (qe_v 3) (qa_cons (qe_v 4) qa_nil)))) qa_nil))) (
   qss_cons (qs_set G.nd (j := 3) (by rfl) (by first | exact .inl rfl | exact .inr rfl) (qe_ife (qt_val (qe_v 1)) (qe_call G fn__law_one (by rfl) (qa_cons (qe_v 0) (qa_cons (qe_lst (qa_cons qe_int (qa_cons qe_int (qa_cons qe_int (qa_cons qe_int (qa_cons (qe_bin o_add s2 qe_int (qe_call G fn__law_draw (by rfl) (qa_cons (qe_v 0) (qa_cons qe_int qa_nil)))) qa_nil)))))) qa_nil))) (qe_bin o_add s2 qe_int (qe_call G fn__law_draw (by rfl) (qa_cons (qe_v 0) (qa_cons qe_int qa_nil)))))) (
   qss_cons (qs_asg (qe_call G fn__law_flat (by rfl) (qa_cons (qe_v 0) (qa_cons (qe_v 3) qa_nil))) (qg_t G.calm (qgs_cons (qg_n G.nd (i := 2) (by rfl) (by first | exact .inl rfl | exact .inr rfl)) (qgs_cons (qg_n G.nd (i := 4) (by rfl) (by first | exact .inl rfl | exact .inr rfl)) qgs_nil)))) (
   qss_cons (qs_ex (qe_m (k := true) PySem.F.plainAttrs_list PySem.F.slot_list_append PySem.F.type_list_append m_append (qe_v 5) (qa_cons (qe_tup (qa_cons (qe_v 2) (qa_cons (qe_v 3) (qa_cons (qe_v 4) qa_nil)))) qa_nil))) (
   qss_cons (qs_for G (qi_seq (qe_v 5)) (qg_n G.nd (i := 6) (by rfl) (by first | exact .inl rfl | exact .inr rfl))
     (qss_cons (qs_if (qt_not (qt_val (qe_call G fn__law_right (by rfl) (qa_cons (qe_ix (o_ix G.hu1) s2 (qe_v 6) qe_int (fun _ _ => by rfl)) (qa_cons (qe_ix (o_ix G.hu1) s2 (qe_v 6) qe_int (fun _ _ => by rfl)) (qa_cons (qe_ix (o_ix G.hu1) s2 (qe_v 6) qe_int (fun _ _ => by rfl)) qa_nil))))))
        (qss_cons (qs_ret qe_bl) (qss_nil))
        (qss_nil)) (
      qss_cons (qs_for G (qi_rng1 (by rfl) F.b_range (qa_cons (qe_ife (qt_cmp o_lt s2 (qe_ix (o_ix G.hu1) s2 (qe_v 6) qe_int (fun _ _ => by rfl)) qe_int (by rfl)) qe_int qe_int) qa_nil)) (qg_n G.nd (i := 7) (by rfl) (by first | exact .inl rfl | exact .inr rfl))
        (qss_cons (qs_set G.nd (j := 8) (by rfl) (by first | exact .inl rfl | exact .inr rfl) (qe_call G fn__law_with (by rfl) (qa_cons (qe_v 0) (qa_cons (qe_ix (o_ix G.hu1) s2 (qe_v 6) qe_int (fun _ _ => by rfl)) qa_nil)))) (
         qss_cons (qs_if ((qw_or (qt_cmp o_notB s2 (qe_call G fn_is_term (by rfl) (qa_cons (qe_v 8) qa_nil)) qe_bl (by rfl)) (qw_or (qt_cmp o_notB s2 (qe_callk0 G fn_is_term (by rfl) F.kb_is_term_0_thing (qk_cons (qe_v 8) qk_nil)) qe_bl (by rfl)) (qw_or1 ((qw_and (qt_cmp (o_eqop (eqop G.hu64) fun _ _ _ _ => rfl) s2 (qe_v 7) qe_int (by rfl)) (qw_and1 (qt_not (qt_val (qe_call G fn__law_refused (by rfl) (qa_cons (qe_v 8) qa_nil))))))).pt)))).pt
           (qss_cons (qs_ret qe_bl) (qss_nil))
           (qss_nil)) (qss_nil)))) (
      qss_cons (qs_if ((qw_and (qt_cmp o_lt s2 (qe_ix (o_ix G.hu1) s2 (qe_v 6) qe_int (fun _ _ => by rfl)) qe_int (by rfl)) (qw_and1 (qt_cmp (o_eqop (neop G.hu64) fun _ _ _ _ => rfl) s2 (qe_call G fn_is_term (by rfl) (qa_cons (qe_ix (o_ix G.hu1) s2 (qe_v 6) qe_int (fun _ _ => by rfl)) qa_nil)) (qe_cmp o_lt s2 (qe_ix (o_ix G.hu1) s2 (qe_v 6) qe_int (fun _ _ => by rfl)) qe_int (by rfl)) (by rfl))))).pt
        (qss_cons (qs_ret qe_bl) (qss_nil))
        (qss_nil)) (qss_nil))))) (
   qss_cons (qs_ret qe_bl) (qss_nil)))))))))))
abbrev s_law : Stmt := top 45
def N_law : List Str := ["script", "k", "feed"]
def ps_law : List Str := ["script"]
theorem sc_law : FnScope N_law ps_law (defScope s_law) := ⟨rfl, rfl, rfl, by decide +kernel, rfl, by decide +kernel, by decide +kernel⟩
theorem l_law (F : Fx K w mg tab C_HoldError C_BadTerm) : Linked PG w K mg base T tab N_law "law" s_law b_law := fun f cdv A outer s H E J n hcur G =>
  (qss_cons (qs_for G (qi_rng1 (by rfl) F.b_range (qa_cons (qe_B (c_max2 G.calm) sn (by rfl) F.b_max (by rfl) (qa_cons qe_int (qa_cons (qe_B (c_min2 G.calm) sn (by rfl) F.b_min (by rfl) (qa_cons (qe_B c_len sn (by rfl) F.b_len (by rfl) (qa_cons (qe_v 0) qa_nil)) (qa_cons qe_int qa_nil))) qa_nil))) qa_nil)) (qg_n G.nd (i := 1) (by rfl) (by first | exact .inl rfl | exact .inr rfl))
     (qss_cons (qs_set G.nd (j := 2) (by rfl) (by first | exact .inl rfl | exact .inr rfl) (qe_call G fn__law_feed (by rfl) (qa_cons (qe_v 0) (qa_cons (qe_v 1) qa_nil)))) (
      qss_cons (qs_if (qt_not (qt_val (qe_call G fn__law_cell (by rfl) (qa_cons (qe_v 2) (qa_cons (qe_and (qe_cmp (o_eqop (eqop G.hu64) fun _ _ _ _ => rfl) s2 (qe_v 1) qe_int (by rfl)) (qe_and1 (qe_cmp (o_eqop (eqop G.hu64) fun _ _ _ _ => rfl) s2 (qe_call G fn__law_draw (by rfl) (qa_cons (qe_v 2) (qa_cons qe_int qa_nil))) qe_int (by rfl)))) qa_nil)))))
        (qss_cons (qs_ret qe_bl) (qss_nil))
        (qss_nil)) (qss_nil)))) (
   qss_cons (qs_ret qe_bl) (qss_nil)))
end
end K01
namespace K01
open PySem PySem.Spec PySem.Calls PyProof.Rows L2 YL
open Y (D O Store En Ky)
theorem law_true : ∀ ns : List Int, ns.length ≤ 63 → (∀ z ∈ ns, Builtin.Int.intBits z ≤ 1048576) → Y.Wp T 200 "law" [.lst (ns.map .int)] [] (fun d _ => d = .bl true) (fun _ _ => False) := by
  intro ns hl hb
  obtain ⟨B, e1, e2⟩ : ∃ B, 1048576 ≤ B ∧ B ≤ 1048577 := ⟨1048576, Nat.le_refl _, Nat.le_succ _⟩
  rw [← Y.run_eq]
  refine w_law (B := B) (by omega) e2 (fun z hz => ?_) hl
  have h := hb z hz
  by_cases h0 : z.natAbs = 0
  · rw [h0]; exact Nat.pow_pos (by decide)
  · have h1 : z.natAbs.log2 < B := by
      unfold Builtin.Int.intBits at h
      split at h
      · rename_i c
        have := beq_iff_eq.mp c
        omega
      · omega
    exact (Nat.log2_lt h0).mp h1
def stat : List (Str × (List Str × Stmt)) := [("is_integer", (N_is_integer, s_is_integer)), ("is_within", (N_is_within, s_is_within)), ("is_word", (N_is_word, s_is_word)), ("is_leaf_form", (N_is_leaf_form, s_is_leaf_form)), ("is_node_form", (N_is_node_form, s_is_node_form)), ("is_term_form", (N_is_term_form, s_is_term_form)), ("need_term", (N_need_term, s_need_term)), ("parts_of", (N_parts_of, s_parts_of)), ("size_of", (N_size_of, s_size_of)), ("depth_of", (N_depth_of, s_depth_of)), ("is_term", (N_is_term, s_is_term)), ("size", (N_size, s_size)), ("depth", (N_depth, s_depth)), ("_law_feed", (N__law_feed, s__law_feed)), ("_law_draw", (N__law_draw, s__law_draw)), ("_law_one", (N__law_one, s__law_one)), ("_law_word", (N__law_word, s__law_word)), ("_law_leaf", (N__law_leaf, s__law_leaf)), ("_law_drawn", (N__law_drawn, s__law_drawn)), ("_law_flat", (N__law_flat, s__law_flat)), ("_law_thin", (N__law_thin, s__law_thin)), ("_law_bad_word", (N__law_bad_word, s__law_bad_word)), ("_law_bad", (N__law_bad, s__law_bad)), ("_law_with", (N__law_with, s__law_with)), ("_law_refused", (N__law_refused, s__law_refused)), ("_law_right", (N__law_right, s__law_right)), ("_law_cell", (N__law_cell, s__law_cell)), ("law", (N_law, s_law))]
def NN (x : Str) : List Str := ((stat.lookup x).getD ([], .Pass ⟨0, 0, 0, 0⟩)).1
def SS (x : Str) : Stmt := ((stat.lookup x).getD ([], .Pass ⟨0, 0, 0, 0⟩)).2
theorem nn_is_integer : NN "is_integer" = N_is_integer := by rfl
theorem ss_is_integer : SS "is_integer" = s_is_integer := by rfl
theorem nn_is_within : NN "is_within" = N_is_within := by rfl
theorem ss_is_within : SS "is_within" = s_is_within := by rfl
theorem nn_is_word : NN "is_word" = N_is_word := by rfl
theorem ss_is_word : SS "is_word" = s_is_word := by rfl
theorem nn_is_leaf_form : NN "is_leaf_form" = N_is_leaf_form := by rfl
theorem ss_is_leaf_form : SS "is_leaf_form" = s_is_leaf_form := by rfl
theorem nn_is_node_form : NN "is_node_form" = N_is_node_form := by rfl
theorem ss_is_node_form : SS "is_node_form" = s_is_node_form := by rfl
theorem nn_is_term_form : NN "is_term_form" = N_is_term_form := by rfl
theorem ss_is_term_form : SS "is_term_form" = s_is_term_form := by rfl
theorem nn_need_term : NN "need_term" = N_need_term := by rfl
theorem ss_need_term : SS "need_term" = s_need_term := by rfl
theorem nn_parts_of : NN "parts_of" = N_parts_of := by rfl
theorem ss_parts_of : SS "parts_of" = s_parts_of := by rfl
theorem nn_size_of : NN "size_of" = N_size_of := by rfl
theorem ss_size_of : SS "size_of" = s_size_of := by rfl
theorem nn_depth_of : NN "depth_of" = N_depth_of := by rfl
theorem ss_depth_of : SS "depth_of" = s_depth_of := by rfl
theorem nn_is_term : NN "is_term" = N_is_term := by rfl
theorem ss_is_term : SS "is_term" = s_is_term := by rfl
theorem nn_size : NN "size" = N_size := by rfl
theorem ss_size : SS "size" = s_size := by rfl
theorem nn_depth : NN "depth" = N_depth := by rfl
theorem ss_depth : SS "depth" = s_depth := by rfl
theorem nn__law_feed : NN "_law_feed" = N__law_feed := by rfl
theorem ss__law_feed : SS "_law_feed" = s__law_feed := by rfl
theorem nn__law_draw : NN "_law_draw" = N__law_draw := by rfl
theorem ss__law_draw : SS "_law_draw" = s__law_draw := by rfl
theorem nn__law_one : NN "_law_one" = N__law_one := by rfl
theorem ss__law_one : SS "_law_one" = s__law_one := by rfl
theorem nn__law_word : NN "_law_word" = N__law_word := by rfl
theorem ss__law_word : SS "_law_word" = s__law_word := by rfl
theorem nn__law_leaf : NN "_law_leaf" = N__law_leaf := by rfl
theorem ss__law_leaf : SS "_law_leaf" = s__law_leaf := by rfl
theorem nn__law_drawn : NN "_law_drawn" = N__law_drawn := by rfl
theorem ss__law_drawn : SS "_law_drawn" = s__law_drawn := by rfl
theorem nn__law_flat : NN "_law_flat" = N__law_flat := by rfl
theorem ss__law_flat : SS "_law_flat" = s__law_flat := by rfl
theorem nn__law_thin : NN "_law_thin" = N__law_thin := by rfl
theorem ss__law_thin : SS "_law_thin" = s__law_thin := by rfl
theorem nn__law_bad_word : NN "_law_bad_word" = N__law_bad_word := by rfl
theorem ss__law_bad_word : SS "_law_bad_word" = s__law_bad_word := by rfl
theorem nn__law_bad : NN "_law_bad" = N__law_bad := by rfl
theorem ss__law_bad : SS "_law_bad" = s__law_bad := by rfl
theorem nn__law_with : NN "_law_with" = N__law_with := by rfl
theorem ss__law_with : SS "_law_with" = s__law_with := by rfl
theorem nn__law_refused : NN "_law_refused" = N__law_refused := by rfl
theorem ss__law_refused : SS "_law_refused" = s__law_refused := by rfl
theorem nn__law_right : NN "_law_right" = N__law_right := by rfl
theorem ss__law_right : SS "_law_right" = s__law_right := by rfl
theorem nn__law_cell : NN "_law_cell" = N__law_cell := by rfl
theorem ss__law_cell : SS "_law_cell" = s__law_cell := by rfl
theorem nn_law : NN "law" = N_law := by rfl
theorem ss_law : SS "law" = s_law := by rfl
theorem all_mk {w : World} {K : PySem.W.Frag} {h : Heap} {mg : Str → Option Value} {fa : Addr} (X : K.In h) (G : h.Ns mainGlobals mg) (hfa : mg "law" = some (.ref fa))
    {f0 : Addr} {od0 an0 : Option Addr} {sl0 : Array (Option Value)} {oc0 kV0 dc0 pm0 cd0 ct0 : Value}
    {f1 : Addr} {od1 an1 : Option Addr} {sl1 : Array (Option Value)} {oc1 kV1 dc1 pm1 cd1 ct1 : Value}
    {f2 : Addr} {od2 an2 : Option Addr} {sl2 : Array (Option Value)} {oc2 kV2 dc2 pm2 cd2 ct2 : Value}
    {f3 : Addr} {od3 an3 : Option Addr} {sl3 : Array (Option Value)} {oc3 kV3 dc3 pm3 cd3 ct3 : Value}
    {f4 : Addr} {od4 an4 : Option Addr} {sl4 : Array (Option Value)} {oc4 kV4 dc4 pm4 cd4 ct4 : Value}
    {f5 : Addr} {od5 an5 : Option Addr} {sl5 : Array (Option Value)} {oc5 kV5 dc5 pm5 cd5 ct5 : Value}
    {f6 : Addr} {od6 an6 : Option Addr} {sl6 : Array (Option Value)} {oc6 kV6 dc6 pm6 cd6 ct6 : Value}
    {f7 : Addr} {od7 an7 : Option Addr} {sl7 : Array (Option Value)} {oc7 kV7 dc7 pm7 cd7 ct7 : Value}
    {f8 : Addr} {od8 an8 : Option Addr} {sl8 : Array (Option Value)} {oc8 kV8 dc8 pm8 cd8 ct8 : Value}
    {f9 : Addr} {od9 an9 : Option Addr} {sl9 : Array (Option Value)} {oc9 kV9 dc9 pm9 cd9 ct9 : Value}
    {f10 : Addr} {od10 an10 : Option Addr} {sl10 : Array (Option Value)} {oc10 kV10 dc10 pm10 cd10 ct10 : Value}
    {f11 : Addr} {od11 an11 : Option Addr} {sl11 : Array (Option Value)} {oc11 kV11 dc11 pm11 cd11 ct11 : Value}
    {f12 : Addr} {od12 an12 : Option Addr} {sl12 : Array (Option Value)} {oc12 kV12 dc12 pm12 cd12 ct12 : Value}
    {f13 : Addr} {od13 an13 : Option Addr} {sl13 : Array (Option Value)} {oc13 kV13 dc13 pm13 cd13 ct13 : Value}
    {f14 : Addr} {od14 an14 : Option Addr} {sl14 : Array (Option Value)} {oc14 kV14 dc14 pm14 cd14 ct14 : Value}
    {f15 : Addr} {od15 an15 : Option Addr} {sl15 : Array (Option Value)} {oc15 kV15 dc15 pm15 cd15 ct15 : Value}
    {f16 : Addr} {od16 an16 : Option Addr} {sl16 : Array (Option Value)} {oc16 kV16 dc16 pm16 cd16 ct16 : Value}
    {f17 : Addr} {od17 an17 : Option Addr} {sl17 : Array (Option Value)} {oc17 kV17 dc17 pm17 cd17 ct17 : Value}
    {f18 : Addr} {od18 an18 : Option Addr} {sl18 : Array (Option Value)} {oc18 kV18 dc18 pm18 cd18 ct18 : Value}
    {f19 : Addr} {od19 an19 : Option Addr} {sl19 : Array (Option Value)} {oc19 kV19 dc19 pm19 cd19 ct19 : Value}
    {f20 : Addr} {od20 an20 : Option Addr} {sl20 : Array (Option Value)} {oc20 kV20 dc20 pm20 cd20 ct20 : Value}
    {f21 : Addr} {od21 an21 : Option Addr} {sl21 : Array (Option Value)} {oc21 kV21 dc21 pm21 cd21 ct21 : Value}
    {f22 : Addr} {od22 an22 : Option Addr} {sl22 : Array (Option Value)} {oc22 kV22 dc22 pm22 cd22 ct22 : Value}
    {f23 : Addr} {od23 an23 : Option Addr} {sl23 : Array (Option Value)} {oc23 kV23 dc23 pm23 cd23 ct23 : Value}
    {f24 : Addr} {od24 an24 : Option Addr} {sl24 : Array (Option Value)} {oc24 kV24 dc24 pm24 cd24 ct24 : Value}
    {f25 : Addr} {od25 an25 : Option Addr} {sl25 : Array (Option Value)} {oc25 kV25 dc25 pm25 cd25 ct25 : Value}
    {f26 : Addr} {od26 an26 : Option Addr} {sl26 : Array (Option Value)} {oc26 kV26 dc26 pm26 cd26 ct26 : Value}
    {f27 : Addr} {od27 an27 : Option Addr} {sl27 : Array (Option Value)} {oc27 kV27 dc27 pm27 cd27 ct27 : Value}
    {t0_MOST_SIGNS : Tok}
    {t0_LETTERS : Tok}
    {t0_FIGURES : Tok}
    {A_PLAIN : Addr}
    {od_PLAIN : Option Addr}
    {n_PLAIN : Nat}
    {sl_PLAIN : Array (Option Value)}
    {t0_PLAIN t1_PLAIN : Tok}
    {t0_MOST_VARIABLE : Tok}
    {t0_MOST_SORT : Tok}
    {t0_MOST_RAISED : Tok}
    {A_MANY : Addr}
    {n_MANY : Nat}
    {t0_MANY t1_MANY t2_MANY t3_MANY t4_MANY t5_MANY t6_MANY t7_MANY t8_MANY t9_MANY t10_MANY t11_MANY t12_MANY t13_MANY : Tok}
    {t0_MOST_NODES : Tok}
    {t0_MOST_DEEP : Tok}
    {C_HoldError C_BadTerm : Addr}
    (a0 : PySem.W.nsIn K mainGlobals "is_integer" = some (some (.ref f0)))
    (l0 : K.lookup f0 = some ⟨oc0, od0, .func (PySem.W.fnOf "is_integer" "is_integer" (defArgs s_is_integer) (defBody s_is_integer) (defScope s_is_integer) .none kV0 dc0 pm0 an0 cd0 ct0), sl0⟩)
    (c0 : PySem.W.codeIn K cd0 "is_integer" = true)
    (k0 : PySem.W.keepIn K (.ref f0) = true)
    (a1 : PySem.W.nsIn K mainGlobals "is_within" = some (some (.ref f1)))
    (l1 : K.lookup f1 = some ⟨oc1, od1, .func (PySem.W.fnOf "is_within" "is_within" (defArgs s_is_within) (defBody s_is_within) (defScope s_is_within) .none kV1 dc1 pm1 an1 cd1 ct1), sl1⟩)
    (c1 : PySem.W.codeIn K cd1 "is_within" = true)
    (k1 : PySem.W.keepIn K (.ref f1) = true)
    (a2 : PySem.W.nsIn K mainGlobals "is_word" = some (some (.ref f2)))
    (l2 : K.lookup f2 = some ⟨oc2, od2, .func (PySem.W.fnOf "is_word" "is_word" (defArgs s_is_word) (defBody s_is_word) (defScope s_is_word) .none kV2 dc2 pm2 an2 cd2 ct2), sl2⟩)
    (c2 : PySem.W.codeIn K cd2 "is_word" = true)
    (k2 : PySem.W.keepIn K (.ref f2) = true)
    (a3 : PySem.W.nsIn K mainGlobals "is_leaf_form" = some (some (.ref f3)))
    (l3 : K.lookup f3 = some ⟨oc3, od3, .func (PySem.W.fnOf "is_leaf_form" "is_leaf_form" (defArgs s_is_leaf_form) (defBody s_is_leaf_form) (defScope s_is_leaf_form) .none kV3 dc3 pm3 an3 cd3 ct3), sl3⟩)
    (c3 : PySem.W.codeIn K cd3 "is_leaf_form" = true)
    (k3 : PySem.W.keepIn K (.ref f3) = true)
    (a4 : PySem.W.nsIn K mainGlobals "is_node_form" = some (some (.ref f4)))
    (l4 : K.lookup f4 = some ⟨oc4, od4, .func (PySem.W.fnOf "is_node_form" "is_node_form" (defArgs s_is_node_form) (defBody s_is_node_form) (defScope s_is_node_form) .none kV4 dc4 pm4 an4 cd4 ct4), sl4⟩)
    (c4 : PySem.W.codeIn K cd4 "is_node_form" = true)
    (k4 : PySem.W.keepIn K (.ref f4) = true)
    (a5 : PySem.W.nsIn K mainGlobals "is_term_form" = some (some (.ref f5)))
    (l5 : K.lookup f5 = some ⟨oc5, od5, .func (PySem.W.fnOf "is_term_form" "is_term_form" (defArgs s_is_term_form) (defBody s_is_term_form) (defScope s_is_term_form) .none kV5 dc5 pm5 an5 cd5 ct5), sl5⟩)
    (c5 : PySem.W.codeIn K cd5 "is_term_form" = true)
    (k5 : PySem.W.keepIn K (.ref f5) = true)
    (a6 : PySem.W.nsIn K mainGlobals "need_term" = some (some (.ref f6)))
    (l6 : K.lookup f6 = some ⟨oc6, od6, .func (PySem.W.fnOf "need_term" "need_term" (defArgs s_need_term) (defBody s_need_term) (defScope s_need_term) .none kV6 dc6 pm6 an6 cd6 ct6), sl6⟩)
    (c6 : PySem.W.codeIn K cd6 "need_term" = true)
    (k6 : PySem.W.keepIn K (.ref f6) = true)
    (a7 : PySem.W.nsIn K mainGlobals "parts_of" = some (some (.ref f7)))
    (l7 : K.lookup f7 = some ⟨oc7, od7, .func (PySem.W.fnOf "parts_of" "parts_of" (defArgs s_parts_of) (defBody s_parts_of) (defScope s_parts_of) .none kV7 dc7 pm7 an7 cd7 ct7), sl7⟩)
    (c7 : PySem.W.codeIn K cd7 "parts_of" = true)
    (k7 : PySem.W.keepIn K (.ref f7) = true)
    (a8 : PySem.W.nsIn K mainGlobals "size_of" = some (some (.ref f8)))
    (l8 : K.lookup f8 = some ⟨oc8, od8, .func (PySem.W.fnOf "size_of" "size_of" (defArgs s_size_of) (defBody s_size_of) (defScope s_size_of) .none kV8 dc8 pm8 an8 cd8 ct8), sl8⟩)
    (c8 : PySem.W.codeIn K cd8 "size_of" = true)
    (k8 : PySem.W.keepIn K (.ref f8) = true)
    (a9 : PySem.W.nsIn K mainGlobals "depth_of" = some (some (.ref f9)))
    (l9 : K.lookup f9 = some ⟨oc9, od9, .func (PySem.W.fnOf "depth_of" "depth_of" (defArgs s_depth_of) (defBody s_depth_of) (defScope s_depth_of) .none kV9 dc9 pm9 an9 cd9 ct9), sl9⟩)
    (c9 : PySem.W.codeIn K cd9 "depth_of" = true)
    (k9 : PySem.W.keepIn K (.ref f9) = true)
    (a10 : PySem.W.nsIn K mainGlobals "is_term" = some (some (.ref f10)))
    (l10 : K.lookup f10 = some ⟨oc10, od10, .func (PySem.W.fnOf "is_term" "is_term" (defArgs s_is_term) (defBody s_is_term) (defScope s_is_term) .none kV10 dc10 pm10 an10 cd10 ct10), sl10⟩)
    (c10 : PySem.W.codeIn K cd10 "is_term" = true)
    (k10 : PySem.W.keepIn K (.ref f10) = true)
    (a11 : PySem.W.nsIn K mainGlobals "size" = some (some (.ref f11)))
    (l11 : K.lookup f11 = some ⟨oc11, od11, .func (PySem.W.fnOf "size" "size" (defArgs s_size) (defBody s_size) (defScope s_size) .none kV11 dc11 pm11 an11 cd11 ct11), sl11⟩)
    (c11 : PySem.W.codeIn K cd11 "size" = true)
    (k11 : PySem.W.keepIn K (.ref f11) = true)
    (a12 : PySem.W.nsIn K mainGlobals "depth" = some (some (.ref f12)))
    (l12 : K.lookup f12 = some ⟨oc12, od12, .func (PySem.W.fnOf "depth" "depth" (defArgs s_depth) (defBody s_depth) (defScope s_depth) .none kV12 dc12 pm12 an12 cd12 ct12), sl12⟩)
    (c12 : PySem.W.codeIn K cd12 "depth" = true)
    (k12 : PySem.W.keepIn K (.ref f12) = true)
    (a13 : PySem.W.nsIn K mainGlobals "_law_feed" = some (some (.ref f13)))
    (l13 : K.lookup f13 = some ⟨oc13, od13, .func (PySem.W.fnOf "_law_feed" "_law_feed" (defArgs s__law_feed) (defBody s__law_feed) (defScope s__law_feed) .none kV13 dc13 pm13 an13 cd13 ct13), sl13⟩)
    (c13 : PySem.W.codeIn K cd13 "_law_feed" = true)
    (k13 : PySem.W.keepIn K (.ref f13) = true)
    (a14 : PySem.W.nsIn K mainGlobals "_law_draw" = some (some (.ref f14)))
    (l14 : K.lookup f14 = some ⟨oc14, od14, .func (PySem.W.fnOf "_law_draw" "_law_draw" (defArgs s__law_draw) (defBody s__law_draw) (defScope s__law_draw) .none kV14 dc14 pm14 an14 cd14 ct14), sl14⟩)
    (c14 : PySem.W.codeIn K cd14 "_law_draw" = true)
    (k14 : PySem.W.keepIn K (.ref f14) = true)
    (a15 : PySem.W.nsIn K mainGlobals "_law_one" = some (some (.ref f15)))
    (l15 : K.lookup f15 = some ⟨oc15, od15, .func (PySem.W.fnOf "_law_one" "_law_one" (defArgs s__law_one) (defBody s__law_one) (defScope s__law_one) .none kV15 dc15 pm15 an15 cd15 ct15), sl15⟩)
    (c15 : PySem.W.codeIn K cd15 "_law_one" = true)
    (k15 : PySem.W.keepIn K (.ref f15) = true)
    (a16 : PySem.W.nsIn K mainGlobals "_law_word" = some (some (.ref f16)))
    (l16 : K.lookup f16 = some ⟨oc16, od16, .func (PySem.W.fnOf "_law_word" "_law_word" (defArgs s__law_word) (defBody s__law_word) (defScope s__law_word) .none kV16 dc16 pm16 an16 cd16 ct16), sl16⟩)
    (c16 : PySem.W.codeIn K cd16 "_law_word" = true)
    (k16 : PySem.W.keepIn K (.ref f16) = true)
    (a17 : PySem.W.nsIn K mainGlobals "_law_leaf" = some (some (.ref f17)))
    (l17 : K.lookup f17 = some ⟨oc17, od17, .func (PySem.W.fnOf "_law_leaf" "_law_leaf" (defArgs s__law_leaf) (defBody s__law_leaf) (defScope s__law_leaf) .none kV17 dc17 pm17 an17 cd17 ct17), sl17⟩)
    (c17 : PySem.W.codeIn K cd17 "_law_leaf" = true)
    (k17 : PySem.W.keepIn K (.ref f17) = true)
    (a18 : PySem.W.nsIn K mainGlobals "_law_drawn" = some (some (.ref f18)))
    (l18 : K.lookup f18 = some ⟨oc18, od18, .func (PySem.W.fnOf "_law_drawn" "_law_drawn" (defArgs s__law_drawn) (defBody s__law_drawn) (defScope s__law_drawn) .none kV18 dc18 pm18 an18 cd18 ct18), sl18⟩)
    (c18 : PySem.W.codeIn K cd18 "_law_drawn" = true)
    (k18 : PySem.W.keepIn K (.ref f18) = true)
    (a19 : PySem.W.nsIn K mainGlobals "_law_flat" = some (some (.ref f19)))
    (l19 : K.lookup f19 = some ⟨oc19, od19, .func (PySem.W.fnOf "_law_flat" "_law_flat" (defArgs s__law_flat) (defBody s__law_flat) (defScope s__law_flat) .none kV19 dc19 pm19 an19 cd19 ct19), sl19⟩)
    (c19 : PySem.W.codeIn K cd19 "_law_flat" = true)
    (k19 : PySem.W.keepIn K (.ref f19) = true)
    (a20 : PySem.W.nsIn K mainGlobals "_law_thin" = some (some (.ref f20)))
    (l20 : K.lookup f20 = some ⟨oc20, od20, .func (PySem.W.fnOf "_law_thin" "_law_thin" (defArgs s__law_thin) (defBody s__law_thin) (defScope s__law_thin) .none kV20 dc20 pm20 an20 cd20 ct20), sl20⟩)
    (c20 : PySem.W.codeIn K cd20 "_law_thin" = true)
    (k20 : PySem.W.keepIn K (.ref f20) = true)
    (a21 : PySem.W.nsIn K mainGlobals "_law_bad_word" = some (some (.ref f21)))
    (l21 : K.lookup f21 = some ⟨oc21, od21, .func (PySem.W.fnOf "_law_bad_word" "_law_bad_word" (defArgs s__law_bad_word) (defBody s__law_bad_word) (defScope s__law_bad_word) .none kV21 dc21 pm21 an21 cd21 ct21), sl21⟩)
    (c21 : PySem.W.codeIn K cd21 "_law_bad_word" = true)
    (k21 : PySem.W.keepIn K (.ref f21) = true)
    (a22 : PySem.W.nsIn K mainGlobals "_law_bad" = some (some (.ref f22)))
    (l22 : K.lookup f22 = some ⟨oc22, od22, .func (PySem.W.fnOf "_law_bad" "_law_bad" (defArgs s__law_bad) (defBody s__law_bad) (defScope s__law_bad) .none kV22 dc22 pm22 an22 cd22 ct22), sl22⟩)
    (c22 : PySem.W.codeIn K cd22 "_law_bad" = true)
    (k22 : PySem.W.keepIn K (.ref f22) = true)
    (a23 : PySem.W.nsIn K mainGlobals "_law_with" = some (some (.ref f23)))
    (l23 : K.lookup f23 = some ⟨oc23, od23, .func (PySem.W.fnOf "_law_with" "_law_with" (defArgs s__law_with) (defBody s__law_with) (defScope s__law_with) .none kV23 dc23 pm23 an23 cd23 ct23), sl23⟩)
    (c23 : PySem.W.codeIn K cd23 "_law_with" = true)
    (k23 : PySem.W.keepIn K (.ref f23) = true)
    (a24 : PySem.W.nsIn K mainGlobals "_law_refused" = some (some (.ref f24)))
    (l24 : K.lookup f24 = some ⟨oc24, od24, .func (PySem.W.fnOf "_law_refused" "_law_refused" (defArgs s__law_refused) (defBody s__law_refused) (defScope s__law_refused) .none kV24 dc24 pm24 an24 cd24 ct24), sl24⟩)
    (c24 : PySem.W.codeIn K cd24 "_law_refused" = true)
    (k24 : PySem.W.keepIn K (.ref f24) = true)
    (a25 : PySem.W.nsIn K mainGlobals "_law_right" = some (some (.ref f25)))
    (l25 : K.lookup f25 = some ⟨oc25, od25, .func (PySem.W.fnOf "_law_right" "_law_right" (defArgs s__law_right) (defBody s__law_right) (defScope s__law_right) .none kV25 dc25 pm25 an25 cd25 ct25), sl25⟩)
    (c25 : PySem.W.codeIn K cd25 "_law_right" = true)
    (k25 : PySem.W.keepIn K (.ref f25) = true)
    (a26 : PySem.W.nsIn K mainGlobals "_law_cell" = some (some (.ref f26)))
    (l26 : K.lookup f26 = some ⟨oc26, od26, .func (PySem.W.fnOf "_law_cell" "_law_cell" (defArgs s__law_cell) (defBody s__law_cell) (defScope s__law_cell) .none kV26 dc26 pm26 an26 cd26 ct26), sl26⟩)
    (c26 : PySem.W.codeIn K cd26 "_law_cell" = true)
    (k26 : PySem.W.keepIn K (.ref f26) = true)
    (a27 : PySem.W.nsIn K mainGlobals "law" = some (some (.ref f27)))
    (l27 : K.lookup f27 = some ⟨oc27, od27, .func (PySem.W.fnOf "law" "law" (defArgs s_law) (defBody s_law) (defScope s_law) .none kV27 dc27 pm27 an27 cd27 ct27), sl27⟩)
    (c27 : PySem.W.codeIn K cd27 "law" = true)
    (k27 : PySem.W.keepIn K (.ref f27) = true)
    (z_isinstance : PySem.W.nsIn K mainGlobals "isinstance" = some none)
    (z_bool : PySem.W.nsIn K mainGlobals "bool" = some none)
    (z_int : PySem.W.nsIn K mainGlobals "int" = some none)
    (z_str : PySem.W.nsIn K mainGlobals "str" = some none)
    (z_len : PySem.W.nsIn K mainGlobals "len" = some none)
    (z_all : PySem.W.nsIn K mainGlobals "all" = some none)
    (z_tuple : PySem.W.nsIn K mainGlobals "tuple" = some none)
    (z_sum : PySem.W.nsIn K mainGlobals "sum" = some none)
    (z_max : PySem.W.nsIn K mainGlobals "max" = some none)
    (z_range : PySem.W.nsIn K mainGlobals "range" = some none)
    (z_list : PySem.W.nsIn K mainGlobals "list" = some none)
    (z_ValueError : PySem.W.nsIn K mainGlobals "ValueError" = some none)
    (z_min : PySem.W.nsIn K mainGlobals "min" = some none)
    (g_MOST_SIGNS : PySem.W.nsIn K mainGlobals "MOST_SIGNS" = some (some (.int 12 t0_MOST_SIGNS)))
    (g_LETTERS : PySem.W.nsIn K mainGlobals "LETTERS" = some (some (.str "abcdefghijklmnopqrstuvwxyz" t0_LETTERS)))
    (g_FIGURES : PySem.W.nsIn K mainGlobals "FIGURES" = some (some (.str "0123456789" t0_FIGURES)))
    (g_PLAIN : PySem.W.nsIn K mainGlobals "PLAIN" = some (some (.ref A_PLAIN)))
    (o_PLAIN : K.lookup A_PLAIN = some ⟨.type "tuple", od_PLAIN, .seq #[.str "unit" t0_PLAIN, .str "star" t1_PLAIN] n_PLAIN, sl_PLAIN⟩)
    (g_MOST_VARIABLE : PySem.W.nsIn K mainGlobals "MOST_VARIABLE" = some (some (.int 999 t0_MOST_VARIABLE)))
    (g_MOST_SORT : PySem.W.nsIn K mainGlobals "MOST_SORT" = some (some (.int 9 t0_MOST_SORT)))
    (g_MOST_RAISED : PySem.W.nsIn K mainGlobals "MOST_RAISED" = some (some (.int 8 t0_MOST_RAISED)))
    (g_MANY : PySem.W.nsIn K mainGlobals "MANY" = some (some (.ref A_MANY)))
    (o_MANY : K.lookup A_MANY = some ⟨.type "dict", none, .dict #[⟨PyData.keyHash w.params "pi", .str "pi" t0_MANY, .int 2 t1_MANY⟩, ⟨PyData.keyHash w.params "fun", .str "fun" t2_MANY, .int 2 t3_MANY⟩, ⟨PyData.keyHash w.params "app", .str "app" t4_MANY, .int 2 t5_MANY⟩, ⟨PyData.keyHash w.params "sig", .str "sig" t6_MANY, .int 2 t7_MANY⟩, ⟨PyData.keyHash w.params "pair", .str "pair" t8_MANY, .int 4 t9_MANY⟩, ⟨PyData.keyHash w.params "fst", .str "fst" t10_MANY, .int 1 t11_MANY⟩, ⟨PyData.keyHash w.params "snd", .str "snd" t12_MANY, .int 1 t13_MANY⟩] n_MANY, #[]⟩)
    (w_MANY : (A_MANY == sysModules) = false)
    (g_MOST_NODES : PySem.W.nsIn K mainGlobals "MOST_NODES" = some (some (.int 2000 t0_MOST_NODES)))
    (g_MOST_DEEP : PySem.W.nsIn K mainGlobals "MOST_DEEP" = some (some (.int 60 t0_MOST_DEEP)))
    (g_HoldError : PySem.W.nsIn K mainGlobals "HoldError" = some (some (.ref C_HoldError)))
    (xF_HoldError : PySem.W.excIn K C_HoldError [.type "ValueError", .type "Exception", .type "BaseException", .type "object"] "ValueError.__new__" = true)
    (kF_HoldError : PySem.W.keepIn K (.ref C_HoldError) = true)
    (bF_HoldError : PySem.W.subIn K (.ref C_HoldError) (.type "BaseException") = some true)
    (tF_HoldError : PySem.W.typeIn K (.ref C_HoldError) = some (.type "type"))
    (dF_HoldError : PySem.W.hasDictIn K C_HoldError = true)
    (h1_HoldError : PySem.W.findIn K (.ref C_HoldError) "__getattribute__" = some (some (.builtin "BaseException.__getattribute__")))
    (h2_HoldError : PySem.W.findIn K (.ref C_HoldError) "__getattr__" = some none)
    (h3_HoldError : PySem.W.findIn K (.ref C_HoldError) "__class__" = some (some (.builtin "object.__class__")))
    (h4_HoldError : PySem.W.mroIn K C_HoldError (.type "object") = some true)
    (g_BadTerm : PySem.W.nsIn K mainGlobals "BadTerm" = some (some (.ref C_BadTerm)))
    (xF_BadTerm : PySem.W.excIn K C_BadTerm [.type "ValueError", .type "Exception", .type "BaseException", .type "object"] "ValueError.__new__" = true)
    (kF_BadTerm : PySem.W.keepIn K (.ref C_BadTerm) = true)
    (bF_BadTerm : PySem.W.subIn K (.ref C_BadTerm) (.type "BaseException") = some true)
    (tF_BadTerm : PySem.W.typeIn K (.ref C_BadTerm) = some (.type "type"))
    (dF_BadTerm : PySem.W.hasDictIn K C_BadTerm = true)
    (h1_BadTerm : PySem.W.findIn K (.ref C_BadTerm) "__getattribute__" = some (some (.builtin "BaseException.__getattribute__")))
    (h2_BadTerm : PySem.W.findIn K (.ref C_BadTerm) "__getattr__" = some none)
    (h3_BadTerm : PySem.W.findIn K (.ref C_BadTerm) "__class__" = some (some (.builtin "object.__class__")))
    (h4_BadTerm : PySem.W.mroIn K C_BadTerm (.type "object") = some true)
    (h5 : PySem.W.specialIn K (.builtin "object.__class__") "__get__" = some (some (.builtin "getset_descriptor.__get__")))
    (h6 : PySem.W.takesIn K (.builtin "object.__class__") = some true)
    (q_ValueError_HoldError : PySem.W.kitOne K (.ref C_HoldError) (.type "ValueError") = some true)
    (q_ValueError_BadTerm : PySem.W.kitOne K (.ref C_BadTerm) (.type "ValueError") = some true)
    (e_BadTerm_HoldError : PySem.W.subIn K (.ref C_HoldError) (.ref C_BadTerm) = some false)
    (e_BadTerm_BadTerm : PySem.W.subIn K (.ref C_BadTerm) (.ref C_BadTerm) = some true)
    (k : Nat) : ∃ fd : FuncData, (∀ (s : Shared) (v : Value), BindsTo s fd ⟨[v], []⟩ [("script", v)]) ∧ ∀ bs : Heap, K.In bs → bs.Ns mainGlobals mg → FnG PG w K mg bs k fa fd ["script"] (spOf T k "law" K w mg 1) := by
  have efa : f27 = fa := Value.ref.inj (Option.some.inj ((PySem.W.mg_of X G a27).symm.trans hfa))
  subst efa
  have F0 := fun_mk (st := s_is_integer) l0 c0 k0
  have F1 := fun_mk (st := s_is_within) l1 c1 k1
  have F2 := fun_mk (st := s_is_word) l2 c2 k2
  have F3 := fun_mk (st := s_is_leaf_form) l3 c3 k3
  have F4 := fun_mk (st := s_is_node_form) l4 c4 k4
  have F5 := fun_mk (st := s_is_term_form) l5 c5 k5
  have F6 := fun_mk (st := s_need_term) l6 c6 k6
  have F7 := fun_mk (st := s_parts_of) l7 c7 k7
  have F8 := fun_mk (st := s_size_of) l8 c8 k8
  have F9 := fun_mk (st := s_depth_of) l9 c9 k9
  have F10 := fun_mk (st := s_is_term) l10 c10 k10
  have F11 := fun_mk (st := s_size) l11 c11 k11
  have F12 := fun_mk (st := s_depth) l12 c12 k12
  have F13 := fun_mk (st := s__law_feed) l13 c13 k13
  have F14 := fun_mk (st := s__law_draw) l14 c14 k14
  have F15 := fun_mk (st := s__law_one) l15 c15 k15
  have F16 := fun_mk (st := s__law_word) l16 c16 k16
  have F17 := fun_mk (st := s__law_leaf) l17 c17 k17
  have F18 := fun_mk (st := s__law_drawn) l18 c18 k18
  have F19 := fun_mk (st := s__law_flat) l19 c19 k19
  have F20 := fun_mk (st := s__law_thin) l20 c20 k20
  have F21 := fun_mk (st := s__law_bad_word) l21 c21 k21
  have F22 := fun_mk (st := s__law_bad) l22 c22 k22
  have F23 := fun_mk (st := s__law_with) l23 c23 k23
  have F24 := fun_mk (st := s__law_refused) l24 c24 k24
  have F25 := fun_mk (st := s__law_right) l25 c25 k25
  have F26 := fun_mk (st := s__law_cell) l26 c26 k26
  have F27 := fun_mk (st := s_law) l27 c27 k27
  have b0 := F0.binds (ps := ps_is_integer) fun _ _ _ _ _ _ us hl => match us, hl with | [_], _ => rfl
  have b1 := F1.binds (ps := ps_is_within) fun _ _ _ _ _ _ us hl => match us, hl with | [_, _, _], _ => rfl
  have b2 := F2.binds (ps := ps_is_word) fun _ _ _ _ _ _ us hl => match us, hl with | [_], _ => rfl
  have b3 := F3.binds (ps := ps_is_leaf_form) fun _ _ _ _ _ _ us hl => match us, hl with | [_], _ => rfl
  have b4 := F4.binds (ps := ps_is_node_form) fun _ _ _ _ _ _ us hl => match us, hl with | [_], _ => rfl
  have b5 := F5.binds (ps := ps_is_term_form) fun _ _ _ _ _ _ us hl => match us, hl with | [_], _ => rfl
  have b6 := F6.binds (ps := ps_need_term) fun _ _ _ _ _ _ us hl => match us, hl with | [_], _ => rfl
  have b7 := F7.binds (ps := ps_parts_of) fun _ _ _ _ _ _ us hl => match us, hl with | [_], _ => rfl
  have b8 := F8.binds (ps := ps_size_of) fun _ _ _ _ _ _ us hl => match us, hl with | [_], _ => rfl
  have b9 := F9.binds (ps := ps_depth_of) fun _ _ _ _ _ _ us hl => match us, hl with | [_], _ => rfl
  have b10 := F10.binds (ps := ps_is_term) fun _ _ _ _ _ _ us hl => match us, hl with | [_], _ => rfl
  have b11 := F11.binds (ps := ps_size) fun _ _ _ _ _ _ us hl => match us, hl with | [_], _ => rfl
  have b12 := F12.binds (ps := ps_depth) fun _ _ _ _ _ _ us hl => match us, hl with | [_], _ => rfl
  have b13 := F13.binds (ps := ps__law_feed) fun _ _ _ _ _ _ us hl => match us, hl with | [_, _], _ => rfl
  have b14 := F14.binds (ps := ps__law_draw) fun _ _ _ _ _ _ us hl => match us, hl with | [_, _], _ => rfl
  have b15 := F15.binds (ps := ps__law_one) fun _ _ _ _ _ _ us hl => match us, hl with | [_, _], _ => rfl
  have b16 := F16.binds (ps := ps__law_word) fun _ _ _ _ _ _ us hl => match us, hl with | [_], _ => rfl
  have b17 := F17.binds (ps := ps__law_leaf) fun _ _ _ _ _ _ us hl => match us, hl with | [_], _ => rfl
  have b18 := F18.binds (ps := ps__law_drawn) fun _ _ _ _ _ _ us hl => match us, hl with | [_, _], _ => rfl
  have b19 := F19.binds (ps := ps__law_flat) fun _ _ _ _ _ _ us hl => match us, hl with | [_, _], _ => rfl
  have b20 := F20.binds (ps := ps__law_thin) fun _ _ _ _ _ _ us hl => match us, hl with | [_, _], _ => rfl
  have b21 := F21.binds (ps := ps__law_bad_word) fun _ _ _ _ _ _ us hl => match us, hl with | [_], _ => rfl
  have b22 := F22.binds (ps := ps__law_bad) fun _ _ _ _ _ _ us hl => match us, hl with | [_, _], _ => rfl
  have b23 := F23.binds (ps := ps__law_with) fun _ _ _ _ _ _ us hl => match us, hl with | [_, _], _ => rfl
  have b24 := F24.binds (ps := ps__law_refused) fun _ _ _ _ _ _ us hl => match us, hl with | [_], _ => rfl
  have b25 := F25.binds (ps := ps__law_right) fun _ _ _ _ _ _ us hl => match us, hl with | [_, _, _], _ => rfl
  have b26 := F26.binds (ps := ps__law_cell) fun _ _ _ _ _ _ us hl => match us, hl with | [_, _], _ => rfl
  have b27 := F27.binds (ps := ps_law) fun _ _ _ _ _ _ us hl => match us, hl with | [_], _ => rfl
  let rows : List (Str × At) := [("is_integer", ⟨f0, PySem.W.fnOf "is_integer" "is_integer" (defArgs s_is_integer) (defBody s_is_integer) (defScope s_is_integer) .none kV0 dc0 pm0 an0 cd0 ct0, ps_is_integer⟩), ("is_within", ⟨f1, PySem.W.fnOf "is_within" "is_within" (defArgs s_is_within) (defBody s_is_within) (defScope s_is_within) .none kV1 dc1 pm1 an1 cd1 ct1, ps_is_within⟩), ("is_word", ⟨f2, PySem.W.fnOf "is_word" "is_word" (defArgs s_is_word) (defBody s_is_word) (defScope s_is_word) .none kV2 dc2 pm2 an2 cd2 ct2, ps_is_word⟩), ("is_leaf_form", ⟨f3, PySem.W.fnOf "is_leaf_form" "is_leaf_form" (defArgs s_is_leaf_form) (defBody s_is_leaf_form) (defScope s_is_leaf_form) .none kV3 dc3 pm3 an3 cd3 ct3, ps_is_leaf_form⟩), ("is_node_form", ⟨f4, PySem.W.fnOf "is_node_form" "is_node_form" (defArgs s_is_node_form) (defBody s_is_node_form) (defScope s_is_node_form) .none kV4 dc4 pm4 an4 cd4 ct4, ps_is_node_form⟩), ("is_term_form", ⟨f5, PySem.W.fnOf "is_term_form" "is_term_form" (defArgs s_is_term_form) (defBody s_is_term_form) (defScope s_is_term_form) .none kV5 dc5 pm5 an5 cd5 ct5, ps_is_term_form⟩), ("need_term", ⟨f6, PySem.W.fnOf "need_term" "need_term" (defArgs s_need_term) (defBody s_need_term) (defScope s_need_term) .none kV6 dc6 pm6 an6 cd6 ct6, ps_need_term⟩), ("parts_of", ⟨f7, PySem.W.fnOf "parts_of" "parts_of" (defArgs s_parts_of) (defBody s_parts_of) (defScope s_parts_of) .none kV7 dc7 pm7 an7 cd7 ct7, ps_parts_of⟩), ("size_of", ⟨f8, PySem.W.fnOf "size_of" "size_of" (defArgs s_size_of) (defBody s_size_of) (defScope s_size_of) .none kV8 dc8 pm8 an8 cd8 ct8, ps_size_of⟩), ("depth_of", ⟨f9, PySem.W.fnOf "depth_of" "depth_of" (defArgs s_depth_of) (defBody s_depth_of) (defScope s_depth_of) .none kV9 dc9 pm9 an9 cd9 ct9, ps_depth_of⟩), ("is_term", ⟨f10, PySem.W.fnOf "is_term" "is_term" (defArgs s_is_term) (defBody s_is_term) (defScope s_is_term) .none kV10 dc10 pm10 an10 cd10 ct10, ps_is_term⟩), ("size", ⟨f11, PySem.W.fnOf "size" "size" (defArgs s_size) (defBody s_size) (defScope s_size) .none kV11 dc11 pm11 an11 cd11 ct11, ps_size⟩), ("depth", ⟨f12, PySem.W.fnOf "depth" "depth" (defArgs s_depth) (defBody s_depth) (defScope s_depth) .none kV12 dc12 pm12 an12 cd12 ct12, ps_depth⟩), ("_law_feed", ⟨f13, PySem.W.fnOf "_law_feed" "_law_feed" (defArgs s__law_feed) (defBody s__law_feed) (defScope s__law_feed) .none kV13 dc13 pm13 an13 cd13 ct13, ps__law_feed⟩), ("_law_draw", ⟨f14, PySem.W.fnOf "_law_draw" "_law_draw" (defArgs s__law_draw) (defBody s__law_draw) (defScope s__law_draw) .none kV14 dc14 pm14 an14 cd14 ct14, ps__law_draw⟩), ("_law_one", ⟨f15, PySem.W.fnOf "_law_one" "_law_one" (defArgs s__law_one) (defBody s__law_one) (defScope s__law_one) .none kV15 dc15 pm15 an15 cd15 ct15, ps__law_one⟩), ("_law_word", ⟨f16, PySem.W.fnOf "_law_word" "_law_word" (defArgs s__law_word) (defBody s__law_word) (defScope s__law_word) .none kV16 dc16 pm16 an16 cd16 ct16, ps__law_word⟩), ("_law_leaf", ⟨f17, PySem.W.fnOf "_law_leaf" "_law_leaf" (defArgs s__law_leaf) (defBody s__law_leaf) (defScope s__law_leaf) .none kV17 dc17 pm17 an17 cd17 ct17, ps__law_leaf⟩), ("_law_drawn", ⟨f18, PySem.W.fnOf "_law_drawn" "_law_drawn" (defArgs s__law_drawn) (defBody s__law_drawn) (defScope s__law_drawn) .none kV18 dc18 pm18 an18 cd18 ct18, ps__law_drawn⟩), ("_law_flat", ⟨f19, PySem.W.fnOf "_law_flat" "_law_flat" (defArgs s__law_flat) (defBody s__law_flat) (defScope s__law_flat) .none kV19 dc19 pm19 an19 cd19 ct19, ps__law_flat⟩), ("_law_thin", ⟨f20, PySem.W.fnOf "_law_thin" "_law_thin" (defArgs s__law_thin) (defBody s__law_thin) (defScope s__law_thin) .none kV20 dc20 pm20 an20 cd20 ct20, ps__law_thin⟩), ("_law_bad_word", ⟨f21, PySem.W.fnOf "_law_bad_word" "_law_bad_word" (defArgs s__law_bad_word) (defBody s__law_bad_word) (defScope s__law_bad_word) .none kV21 dc21 pm21 an21 cd21 ct21, ps__law_bad_word⟩), ("_law_bad", ⟨f22, PySem.W.fnOf "_law_bad" "_law_bad" (defArgs s__law_bad) (defBody s__law_bad) (defScope s__law_bad) .none kV22 dc22 pm22 an22 cd22 ct22, ps__law_bad⟩), ("_law_with", ⟨f23, PySem.W.fnOf "_law_with" "_law_with" (defArgs s__law_with) (defBody s__law_with) (defScope s__law_with) .none kV23 dc23 pm23 an23 cd23 ct23, ps__law_with⟩), ("_law_refused", ⟨f24, PySem.W.fnOf "_law_refused" "_law_refused" (defArgs s__law_refused) (defBody s__law_refused) (defScope s__law_refused) .none kV24 dc24 pm24 an24 cd24 ct24, ps__law_refused⟩), ("_law_right", ⟨f25, PySem.W.fnOf "_law_right" "_law_right" (defArgs s__law_right) (defBody s__law_right) (defScope s__law_right) .none kV25 dc25 pm25 an25 cd25 ct25, ps__law_right⟩), ("_law_cell", ⟨f26, PySem.W.fnOf "_law_cell" "_law_cell" (defArgs s__law_cell) (defBody s__law_cell) (defScope s__law_cell) .none kV26 dc26 pm26 an26 cd26 ct26, ps__law_cell⟩), ("law", ⟨f27, PySem.W.fnOf "law" "law" (defArgs s_law) (defBody s_law) (defScope s_law) .none kV27 dc27 pm27 an27 cd27 ct27, ps_law⟩)]
  let tab : Str → At := tabOf rows ⟨f27, PySem.W.fnOf "law" "law" (defArgs s_law) (defBody s_law) (defScope s_law) .none kV27 dc27 pm27 an27 cd27 ct27, ps_law⟩
  have FX : Fx K w mg tab C_HoldError C_BadTerm := {
    b_isinstance := PySem.W.mg_none_of X G z_isinstance
    b_bool := PySem.W.mg_none_of X G z_bool
    b_int := PySem.W.mg_none_of X G z_int
    b_str := PySem.W.mg_none_of X G z_str
    b_len := PySem.W.mg_none_of X G z_len
    b_all := PySem.W.mg_none_of X G z_all
    b_tuple := PySem.W.mg_none_of X G z_tuple
    b_sum := PySem.W.mg_none_of X G z_sum
    b_max := PySem.W.mg_none_of X G z_max
    b_range := PySem.W.mg_none_of X G z_range
    b_list := PySem.W.mg_none_of X G z_list
    b_ValueError := PySem.W.mg_none_of X G z_ValueError
    b_min := PySem.W.mg_none_of X G z_min
    c_MOST_SIGNS := cg_int (PySem.W.mg_of X G g_MOST_SIGNS) (by rfl)
    c_LETTERS := cg_str (PySem.W.mg_of X G g_LETTERS) (by rfl)
    c_FIGURES := cg_str (PySem.W.mg_of X G g_FIGURES) (by rfl)
    c_PLAIN := cg_tup (vs := [.str "unit", .str "star"]) (PySem.W.mg_of X G g_PLAIN) o_PLAIN rfl rfl (show 2 ≤ sizeLine from by decide) (.cons ⟨_, rfl⟩ (.cons ⟨_, rfl⟩ (.nil))) (fun _ _ => ⟨_, _, rfl, rfl, ⟨_, _, rfl, rfl, rfl⟩⟩) (by rfl)
    c_MOST_VARIABLE := cg_int (PySem.W.mg_of X G g_MOST_VARIABLE) (by rfl)
    c_MOST_SORT := cg_int (PySem.W.mg_of X G g_MOST_SORT) (by rfl)
    c_MOST_RAISED := cg_int (PySem.W.mg_of X G g_MOST_RAISED) (by rfl)
    c_MANY := cg_dict (PySem.W.mg_of X G g_MANY) o_MANY w_MANY (.cons (v := .int 2) ⟨_, rfl⟩ rfl (.cons (v := .int 2) ⟨_, rfl⟩ rfl (.cons (v := .int 2) ⟨_, rfl⟩ rfl (.cons (v := .int 2) ⟨_, rfl⟩ rfl (.cons (v := .int 4) ⟨_, rfl⟩ rfl (.cons (v := .int 1) ⟨_, rfl⟩ rfl (.cons (v := .int 1) ⟨_, rfl⟩ rfl (.nil)))))))) (by rfl) (by rfl)
    c_MOST_NODES := cg_int (PySem.W.mg_of X G g_MOST_NODES) (by rfl)
    c_MOST_DEEP := cg_int (PySem.W.mg_of X G g_MOST_DEEP) (by rfl)
    x_BadTerm := ⟨xF_BadTerm, PySem.W.mg_of X G g_BadTerm, kF_BadTerm, bF_BadTerm, tF_BadTerm⟩
    g_BadTerm := PySem.W.mg_of X G g_BadTerm
    xc := fun c C h1 h2 => subs_each (P := fun c => ∀ C, mg c = some (.ref C) → ExcC K C) (all_cons (fun _ C hC => by
        cases (PySem.W.mg_of X G g_HoldError).symm.trans hC
        exact ⟨h1_HoldError, h2_HoldError, bF_HoldError, dF_HoldError, h3_HoldError, h5, h6, h4_HoldError⟩) (all_cons (fun z => absurd z (by decide)) (all_cons (fun z => absurd z (by decide)) (all_cons (fun z => absurd z (by decide)) (all_cons (fun _ C hC => by
        cases (PySem.W.mg_of X G g_BadTerm).symm.trans hC
        exact ⟨h1_BadTerm, h2_BadTerm, bF_BadTerm, dF_BadTerm, h3_BadTerm, h5, h6, h4_BadTerm⟩) (all_cons (fun z => absurd z (by decide)) (all_cons (fun z => absurd z (by decide)) (all_cons (fun z => absurd z (by decide)) (all_cons (fun z => absurd z (by decide)) (all_nil)))))))))) c h1 C h2
    ki_ValueError := fun c C h1 h2 => subs_each (P := fun c => ∀ C, mg c = some (.ref C) → PySem.W.kitOne K (.ref C) (.type "ValueError") = some (T.subs c "ValueError")) (all_cons (fun _ C hC => by
        cases (PySem.W.mg_of X G g_HoldError).symm.trans hC
        exact q_ValueError_HoldError) (all_cons (fun z => absurd z (by decide)) (all_cons (fun z => absurd z (by decide)) (all_cons (fun z => absurd z (by decide)) (all_cons (fun _ C hC => by
        cases (PySem.W.mg_of X G g_BadTerm).symm.trans hC
        exact q_ValueError_BadTerm) (all_cons (fun z => absurd z (by decide)) (all_cons (fun z => absurd z (by decide)) (all_cons (fun z => absurd z (by decide)) (all_cons (fun z => absurd z (by decide)) (all_nil)))))))))) c h1 C h2
    se_BadTerm := fun c C h1 h2 => subs_each (P := fun c => ∀ C, mg c = some (.ref C) → PySem.W.exmOne K (.ref C) (.ref C_BadTerm) = some (T.subs c "BadTerm")) (all_cons (fun _ C hC => by
        cases (PySem.W.mg_of X G g_HoldError).symm.trans hC
        exact PySem.W.exm_ref bF_BadTerm dF_BadTerm tF_BadTerm e_BadTerm_HoldError) (all_cons (fun z => absurd z (by decide)) (all_cons (fun z => absurd z (by decide)) (all_cons (fun z => absurd z (by decide)) (all_cons (fun _ C hC => by
        cases (PySem.W.mg_of X G g_BadTerm).symm.trans hC
        exact PySem.W.exm_ref bF_BadTerm dF_BadTerm tF_BadTerm e_BadTerm_BadTerm) (all_cons (fun z => absurd z (by decide)) (all_cons (fun z => absurd z (by decide)) (all_cons (fun z => absurd z (by decide)) (all_cons (fun z => absurd z (by decide)) (all_nil)))))))))) c h1 C h2
    kb_depth_0_term := kb_of F12 (by rfl) fun _ _ _ _ _ _ us ws h1 h2 => match us, ws, h1, h2 with | [], [_], _, _ => rfl
    kb_size_0_term := kb_of F11 (by rfl) fun _ _ _ _ _ _ us ws h1 h2 => match us, ws, h1, h2 with | [], [_], _, _ => rfl
    kb_is_term_0_thing := kb_of F10 (by rfl) fun _ _ _ _ _ _ us ws h1 h2 => match us, ws, h1, h2 with | [], [_], _, _ => rfl
  }
  have top1 : ∀ x F, T.fn x = some F → Fun K x x (SS x) (tab x).a (tab x).fd ∧ mg x = some (.ref (tab x).a) ∧ Binds K (tab x).fd (tab x).ps [] :=
    each (l := fns) (P := fun (x : Str) (_ : Y.Fn) => Fun K x x (SS x) (tab x).a (tab x).fd ∧ mg x = some (.ref (tab x).a) ∧ Binds K (tab x).fd (tab x).ps []) (all_cons ⟨F0, PySem.W.mg_of X G a0, b0⟩
    (all_cons ⟨F1, PySem.W.mg_of X G a1, b1⟩
    (all_cons ⟨F2, PySem.W.mg_of X G a2, b2⟩
    (all_cons ⟨F3, PySem.W.mg_of X G a3, b3⟩
    (all_cons ⟨F4, PySem.W.mg_of X G a4, b4⟩
    (all_cons ⟨F5, PySem.W.mg_of X G a5, b5⟩
    (all_cons ⟨F6, PySem.W.mg_of X G a6, b6⟩
    (all_cons ⟨F7, PySem.W.mg_of X G a7, b7⟩
    (all_cons ⟨F8, PySem.W.mg_of X G a8, b8⟩
    (all_cons ⟨F9, PySem.W.mg_of X G a9, b9⟩
    (all_cons ⟨F10, PySem.W.mg_of X G a10, b10⟩
    (all_cons ⟨F11, PySem.W.mg_of X G a11, b11⟩
    (all_cons ⟨F12, PySem.W.mg_of X G a12, b12⟩
    (all_cons ⟨F13, PySem.W.mg_of X G a13, b13⟩
    (all_cons ⟨F14, PySem.W.mg_of X G a14, b14⟩
    (all_cons ⟨F15, PySem.W.mg_of X G a15, b15⟩
    (all_cons ⟨F16, PySem.W.mg_of X G a16, b16⟩
    (all_cons ⟨F17, PySem.W.mg_of X G a17, b17⟩
    (all_cons ⟨F18, PySem.W.mg_of X G a18, b18⟩
    (all_cons ⟨F19, PySem.W.mg_of X G a19, b19⟩
    (all_cons ⟨F20, PySem.W.mg_of X G a20, b20⟩
    (all_cons ⟨F21, PySem.W.mg_of X G a21, b21⟩
    (all_cons ⟨F22, PySem.W.mg_of X G a22, b22⟩
    (all_cons ⟨F23, PySem.W.mg_of X G a23, b23⟩
    (all_cons ⟨F24, PySem.W.mg_of X G a24, b24⟩
    (all_cons ⟨F25, PySem.W.mg_of X G a25, b25⟩
    (all_cons ⟨F26, PySem.W.mg_of X G a26, b26⟩
    (all_cons ⟨F27, PySem.W.mg_of X G a27, b27⟩
    all_nil))))))))))))))))))))))))))))
  refine ⟨PySem.W.fnOf "law" "law" (defArgs s_law) (defBody s_law) (defScope s_law) .none kV27 dc27 pm27 an27 cd27 ct27, fun s v => .of_eq rfl, fun bs _ _ => ?_⟩
  have top2 : ∀ x F, T.fn x = some F → FnScope (NN x) (tab x).ps (defScope (SS x)) ∧ F.np = (tab x).ps.length ∧ F.ns = (NN x).length ∧ Linked PG w K mg bs T tab (NN x) x (SS x) F.body :=
    each (l := fns) (P := fun (x : Str) (F : Y.Fn) => FnScope (NN x) (tab x).ps (defScope (SS x)) ∧ F.np = (tab x).ps.length ∧ F.ns = (NN x).length ∧ Linked PG w K mg bs T tab (NN x) x (SS x) F.body) (all_cons ⟨sc_is_integer, rfl, rfl, l_is_integer FX⟩
    (all_cons ⟨sc_is_within, rfl, rfl, l_is_within FX⟩
    (all_cons ⟨sc_is_word, rfl, rfl, l_is_word FX⟩
    (all_cons ⟨sc_is_leaf_form, rfl, rfl, l_is_leaf_form FX⟩
    (all_cons ⟨sc_is_node_form, rfl, rfl, l_is_node_form FX⟩
    (all_cons ⟨sc_is_term_form, rfl, rfl, l_is_term_form FX⟩
    (all_cons ⟨sc_need_term, rfl, rfl, l_need_term FX⟩
    (all_cons ⟨sc_parts_of, rfl, rfl, l_parts_of FX⟩
    (all_cons ⟨sc_size_of, rfl, rfl, l_size_of FX⟩
    (all_cons ⟨sc_depth_of, rfl, rfl, l_depth_of FX⟩
    (all_cons ⟨sc_is_term, rfl, rfl, l_is_term FX⟩
    (all_cons ⟨sc_size, rfl, rfl, l_size FX⟩
    (all_cons ⟨sc_depth, rfl, rfl, l_depth FX⟩
    (all_cons ⟨sc__law_feed, rfl, rfl, l__law_feed FX⟩
    (all_cons ⟨sc__law_draw, rfl, rfl, l__law_draw FX⟩
    (all_cons ⟨sc__law_one, rfl, rfl, l__law_one FX⟩
    (all_cons ⟨sc__law_word, rfl, rfl, l__law_word FX⟩
    (all_cons ⟨sc__law_leaf, rfl, rfl, l__law_leaf FX⟩
    (all_cons ⟨sc__law_drawn, rfl, rfl, l__law_drawn FX⟩
    (all_cons ⟨sc__law_flat, rfl, rfl, l__law_flat FX⟩
    (all_cons ⟨sc__law_thin, rfl, rfl, l__law_thin FX⟩
    (all_cons ⟨sc__law_bad_word, rfl, rfl, l__law_bad_word FX⟩
    (all_cons ⟨sc__law_bad, rfl, rfl, l__law_bad FX⟩
    (all_cons ⟨sc__law_with, rfl, rfl, l__law_with FX⟩
    (all_cons ⟨sc__law_refused, rfl, rfl, l__law_refused FX⟩
    (all_cons ⟨sc__law_right, rfl, rfl, l__law_right FX⟩
    (all_cons ⟨sc__law_cell, rfl, rfl, l__law_cell FX⟩
    (all_cons ⟨sc_law, rfl, rfl, l_law FX⟩
    all_nil))))))))))))))))))))))))))))
  exact (all_fns (N := NN) (qual := fun x => x) (st := SS) rfl top1 top2 k "law" f_law fn_law).fg
end K01
open PySem PySem.W PyProof.Rows
set_option maxRecDepth 100000 in
set_option maxHeartbeats 0 in
theorem PySem.Challenge.cw_typeshold_k01_whole_terms_and_their_boun_holds : PySem.Challenge.rw_typeshold_k01_whole_terms_and_their_boun.Holds := by
  w_on; o_law; k_head; (case hw => w_witness2)
  k_fill
  refine YL.walk_Y (l := PySem.Challenge.rw_typeshold_k01_whole_terms_and_their_boun) (n := 63) (k := 200) (T := K01.T) (x := "script") (f := "law") rfl (by decide) rfl ⟨rfl, by decide, by decide⟩ (fun w h Y => PySem.W.kIn_of Y) ?F K01.law_true
  case F =>
    intro w mg fa h KX G hmg
    refine' K01.all_mk KX G hmg ?a0 ?l0 ?c0 ?k0 ?a1 ?l1 ?c1 ?k1 ?a2 ?l2 ?c2 ?k2 ?a3 ?l3 ?c3 ?k3 ?a4 ?l4 ?c4 ?k4 ?a5 ?l5 ?c5 ?k5 ?a6 ?l6 ?c6 ?k6 ?a7 ?l7 ?c7 ?k7 ?a8 ?l8 ?c8 ?k8 ?a9 ?l9 ?c9 ?k9 ?a10 ?l10 ?c10 ?k10 ?a11 ?l11 ?c11 ?k11 ?a12 ?l12 ?c12 ?k12 ?a13 ?l13 ?c13 ?k13 ?a14 ?l14 ?c14 ?k14 ?a15 ?l15 ?c15 ?k15 ?a16 ?l16 ?c16 ?k16 ?a17 ?l17 ?c17 ?k17 ?a18 ?l18 ?c18 ?k18 ?a19 ?l19 ?c19 ?k19 ?a20 ?l20 ?c20 ?k20 ?a21 ?l21 ?c21 ?k21 ?a22 ?l22 ?c22 ?k22 ?a23 ?l23 ?c23 ?k23 ?a24 ?l24 ?c24 ?k24 ?a25 ?l25 ?c25 ?k25 ?a26 ?l26 ?c26 ?k26 ?a27 ?l27 ?c27 ?k27 ?z_isinstance ?z_bool ?z_int ?z_str ?z_len ?z_all ?z_tuple ?z_sum ?z_max ?z_range ?z_list ?z_ValueError ?z_min ?g_MOST_SIGNS ?g_LETTERS ?g_FIGURES ?g_PLAIN ?o_PLAIN ?g_MOST_VARIABLE ?g_MOST_SORT ?g_MOST_RAISED ?g_MANY ?o_MANY ?w_MANY ?g_MOST_NODES ?g_MOST_DEEP ?g_HoldError ?xF_HoldError ?kF_HoldError ?bF_HoldError ?tF_HoldError ?dF_HoldError ?h1_HoldError ?h2_HoldError ?h3_HoldError ?h4_HoldError ?g_BadTerm ?xF_BadTerm ?kF_BadTerm ?bF_BadTerm ?tF_BadTerm ?dF_BadTerm ?h1_BadTerm ?h2_BadTerm ?h3_BadTerm ?h4_BadTerm ?h5 ?h6 ?q_ValueError_HoldError ?q_ValueError_BadTerm ?e_BadTerm_HoldError ?e_BadTerm_BadTerm 200
    (case a0 => k_is)
    (case l0 => k_is)
    (case c0 => k_is)
    (case k0 => k_is)
    (case a1 => k_is)
    (case l1 => k_is)
    (case c1 => k_is)
    (case k1 => k_is)
    (case a2 => k_is)
    (case l2 => k_is)
    (case c2 => k_is)
    (case k2 => k_is)
    (case a3 => k_is)
    (case l3 => k_is)
    (case c3 => k_is)
    (case k3 => k_is)
    (case a4 => k_is)
    (case l4 => k_is)
    (case c4 => k_is)
    (case k4 => k_is)
    (case a5 => k_is)
    (case l5 => k_is)
    (case c5 => k_is)
    (case k5 => k_is)
    (case a6 => k_is)
    (case l6 => k_is)
    (case c6 => k_is)
    (case k6 => k_is)
    (case a7 => k_is)
    (case l7 => k_is)
    (case c7 => k_is)
    (case k7 => k_is)
    (case a8 => k_is)
    (case l8 => k_is)
    (case c8 => k_is)
    (case k8 => k_is)
    (case a9 => k_is)
    (case l9 => k_is)
    (case c9 => k_is)
    (case k9 => k_is)
    (case a10 => k_is)
    (case l10 => k_is)
    (case c10 => k_is)
    (case k10 => k_is)
    (case a11 => k_is)
    (case l11 => k_is)
    (case c11 => k_is)
    (case k11 => k_is)
    (case a12 => k_is)
    (case l12 => k_is)
    (case c12 => k_is)
    (case k12 => k_is)
    (case a13 => k_is)
    (case l13 => k_is)
    (case c13 => k_is)
    (case k13 => k_is)
    (case a14 => k_is)
    (case l14 => k_is)
    (case c14 => k_is)
    (case k14 => k_is)
    (case a15 => k_is)
    (case l15 => k_is)
    (case c15 => k_is)
    (case k15 => k_is)
    (case a16 => k_is)
    (case l16 => k_is)
    (case c16 => k_is)
    (case k16 => k_is)
    (case a17 => k_is)
    (case l17 => k_is)
    (case c17 => k_is)
    (case k17 => k_is)
    (case a18 => k_is)
    (case l18 => k_is)
    (case c18 => k_is)
    (case k18 => k_is)
    (case a19 => k_is)
    (case l19 => k_is)
    (case c19 => k_is)
    (case k19 => k_is)
    (case a20 => k_is)
    (case l20 => k_is)
    (case c20 => k_is)
    (case k20 => k_is)
    (case a21 => k_is)
    (case l21 => k_is)
    (case c21 => k_is)
    (case k21 => k_is)
    (case a22 => k_is)
    (case l22 => k_is)
    (case c22 => k_is)
    (case k22 => k_is)
    (case a23 => k_is)
    (case l23 => k_is)
    (case c23 => k_is)
    (case k23 => k_is)
    (case a24 => k_is)
    (case l24 => k_is)
    (case c24 => k_is)
    (case k24 => k_is)
    (case a25 => k_is)
    (case l25 => k_is)
    (case c25 => k_is)
    (case k25 => k_is)
    (case a26 => k_is)
    (case l26 => k_is)
    (case c26 => k_is)
    (case k26 => k_is)
    (case a27 => k_is)
    (case l27 => k_is)
    (case c27 => k_is)
    (case k27 => k_is)
    (case z_isinstance => k_is)
    (case z_bool => k_is)
    (case z_int => k_is)
    (case z_str => k_is)
    (case z_len => k_is)
    (case z_all => k_is)
    (case z_tuple => k_is)
    (case z_sum => k_is)
    (case z_max => k_is)
    (case z_range => k_is)
    (case z_list => k_is)
    (case z_ValueError => k_is)
    (case z_min => k_is)
    (case g_MOST_SIGNS => k_is)
    (case g_LETTERS => k_is)
    (case g_FIGURES => k_is)
    (case g_PLAIN => k_is)
    (case o_PLAIN => k_is)
    (case g_MOST_VARIABLE => k_is)
    (case g_MOST_SORT => k_is)
    (case g_MOST_RAISED => k_is)
    (case g_MANY => k_is)
    (case o_MANY => k_is)
    (case w_MANY => first | rfl | decide)
    (case g_MOST_NODES => k_is)
    (case g_MOST_DEEP => k_is)
    (case g_HoldError => k_is)
    (case xF_HoldError => k_exc)
    (case kF_HoldError => k_is)
    (case bF_HoldError => k_is)
    (case tF_HoldError => k_is)
    (case dF_HoldError => k_is)
    (case h1_HoldError => k_is)
    (case h2_HoldError => k_is)
    (case h3_HoldError => k_is)
    (case h4_HoldError => k_is)
    (case g_BadTerm => k_is)
    (case xF_BadTerm => k_exc)
    (case kF_BadTerm => k_is)
    (case bF_BadTerm => k_is)
    (case tF_BadTerm => k_is)
    (case dF_BadTerm => k_is)
    (case h1_BadTerm => k_is)
    (case h2_BadTerm => k_is)
    (case h3_BadTerm => k_is)
    (case h4_BadTerm => k_is)
    (case h5 => k_is)
    (case h6 => k_is)
    (case q_ValueError_HoldError => first | rfl | k_is)
    (case q_ValueError_BadTerm => first | rfl | k_is)
    (case e_BadTerm_HoldError => first | rfl | k_is)
    (case e_BadTerm_BadTerm => first | rfl | k_is)
