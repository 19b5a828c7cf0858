import PyProof.Rows.All
import HandS.ForMost
import HandS.Flow
import HandS.Style
import HandS.Zip
import HandS.IsInst
import HandS.Wide
import HandS.WideBits
import HandS.SortInts
import HandS.TupAny
import HandS.More
import KE.KSortedM
import KE.GoesMore
import HandS.NoneIn
import HandS.ForExc
import HandS.TryOnly
import HandS.Defaults
import HandS.Head0
import HandS.Head1
import HandS.Head2
import HandS.HeadEnd
import HandS.HeadHook1
import HandS.HeadHook2
import PySem.Challenge.RW_longrank_k84_trace_forms
set_option Elab.async false
set_option linter.all false
set_option maxRecDepth 100000
/-! Zev1: data, stores, the IR of the Python subset, its meaning as functions into Bool. -/
namespace Zev
open PySem
noncomputable section

/-- data; ref: an object of the store -/
inductive D where
  | non | bl (b : Bool) | int (i : Int) | str (s : List Nat) | tup (xs : List D) | ref (a : Nat)
/-- objects: a list, a dict with int keys, the law's drawing state -/
inductive O where
  | lst (xs : List D) | dct (kvs : List (Int × D)) | drw
structure Sto where
  n : Nat
  l : List (Nat × O)
abbrev KD := D → Sto → Bool
abbrev KL := List D → Sto → Bool
abbrev Loc := List (Option D)
abbrev KS := Loc → Sto → Bool
abbrev Rec := Nat → List D → Sto → KD → Bool

def lookK (l : List (Nat × O)) (i : Nat) (k : O → Bool) : Bool :=
  @List.rec (Nat × O) (fun _ => Bool) false (fun p _ ih => @Bool.rec (fun _ => Bool) ih (k p.2) (Nat.beq p.1 i)) l
def put (l : List (Nat × O)) (i : Nat) (o : O) : List (Nat × O) :=
  @List.rec (Nat × O) (fun _ => List (Nat × O)) [] (fun p r ih => @Bool.rec (fun _ => List (Nat × O)) (p :: ih) ((i, o) :: r) (Nat.beq p.1 i)) l
def getK (σ : Loc) : Nat → (D → Bool) → Bool :=
  @List.rec (Option D) (fun _ => Nat → (D → Bool) → Bool) (fun _ _ => false)
    (fun o _ ih i k => @Nat.rec (fun _ => Bool) (@Option.rec D (fun _ => Bool) false k o) (fun j _ => ih j k) i) σ
def setN (σ : Loc) : Nat → Option D → Loc :=
  @List.rec (Option D) (fun _ => Nat → Option D → Loc) (fun _ _ => [])
    (fun o r ih i d => @Nat.rec (fun _ => Loc) (d :: r) (fun j _ => o :: ih j d) i) σ
def wipeD (σ : Loc) : List Nat → Loc
  | [] => σ
  | i :: r => setN (wipeD σ r) i none
/-- the item of a list at a place -/
def nthK {α : Type} (xs : List α) : Nat → (α → Bool) → Bool :=
  @List.rec α (fun _ => Nat → (α → Bool) → Bool) (fun _ _ => false)
    (fun x _ ih i k => @Nat.rec (fun _ => Bool) (k x) (fun j _ => ih j k) i) xs

def onI (x : D) (k : Int → Bool) : Bool := D.casesOn (motive_1 := fun _ => Bool) x false (fun _ => false) k (fun _ => false) (fun _ => false) (fun _ => false)
def onB (x : D) (k : Bool → Bool) : Bool := D.casesOn (motive_1 := fun _ => Bool) x false k (fun _ => false) (fun _ => false) (fun _ => false) (fun _ => false)
def onR (x : D) (k : Nat → Bool) : Bool := D.casesOn (motive_1 := fun _ => Bool) x false (fun _ => false) (fun _ => false) (fun _ => false) (fun _ => false) k
def onT (x : D) (k : List D → Bool) : Bool := D.casesOn (motive_1 := fun _ => Bool) x false (fun _ => false) (fun _ => false) (fun _ => false) k (fun _ => false)
def onL (o : O) (k : List D → Bool) : Bool := O.casesOn (motive := fun _ => Bool) o k (fun _ => false) false
def onDc (o : O) (k : List (Int × D) → Bool) : Bool := O.casesOn (motive := fun _ => Bool) o (fun _ => false) k false
/-- a list or a tuple, read -/
def onSeq (x : D) (s : Sto) (k : List D → Bool) : Bool :=
  D.casesOn (motive_1 := fun _ => Bool) x false (fun _ => false) (fun _ => false) (fun _ => false) k (fun a => lookK s.l a fun o => onL o k)
/-- a new list -/
def newL (xs : List D) (s : Sto) (k : KD) : Bool := k (.ref s.n) ⟨Nat.succ s.n, (s.n, .lst xs) :: s.l⟩
/-- without the newest object, if it is this one -/
def pop1 (l : List (Nat × O)) (x : D) : List (Nat × O) := match l, x with
  | (j, o) :: r, .ref a => if Nat.beq j a then r else (j, o) :: r
  | l, _ => l

/-! ints -/
def ltI : Int → Int → Bool
  | .ofNat a, .ofNat b => Nat.blt a b
  | .ofNat _, .negSucc _ => false
  | .negSucc _, .ofNat _ => true
  | .negSucc a, .negSucc b => Nat.blt b a
def leI (a b : Int) : Bool := !ltI b a
def eqI : Int → Int → Bool
  | .ofNat a, .ofNat b => Nat.beq a b
  | .ofNat _, .negSucc _ => false
  | .negSucc _, .ofNat _ => false
  | .negSucc a, .negSucc b => Nat.beq a b
def modI : Int → Int → Int
  | .ofNat a, .ofNat b => .ofNat (Nat.mod a b)
  | i, j => Int.fmod i j
def divI : Int → Int → Int
  | .ofNat a, .ofNat b => .ofNat (Nat.div a b)
  | i, j => Int.fdiv i j
def nz (i : Int) : Bool := !eqI i 0
def eqL : List Nat → List Nat → Bool
  | [], [] => true
  | x :: xs, y :: ys => @Bool.rec (fun _ => Bool) false (eqL xs ys) (Nat.beq x y)
  | _, _ => false
def small64 (i : Int) : Bool := Nat.blt (Int.natAbs i) 18446744073709551616
/-- the list's length -/
def lenN {α : Type} (xs : List α) : Nat := @List.rec α (fun _ => Nat) 0 (fun _ _ ih => Nat.succ ih) xs
/-- an index of any sign, as a place -/
def placeK (n : Nat) (i : Int) (k : Nat → Bool) : Bool :=
  Int.casesOn (motive := fun _ => Bool) i (fun a => k a) (fun b => @Bool.rec (fun _ => Bool) false (k (Nat.sub n (Nat.succ b))) (Nat.blt b n))

/-! data as PyData, for == -/
mutual
def toP : Nat → Sto → D → Option PyData
  | 0, _, _ => none
  | _ + 1, _, .non => some .none
  | _ + 1, _, .bl b => some (.bool b)
  | _ + 1, _, .int i => some (.int i)
  | _ + 1, _, .str s => some (.str ⟨s.toArray⟩)
  | n + 1, s, .tup xs => (toPs n s xs).map .tuple
  | n + 1, s, .ref a => match s.l.lookup a with
    | some (.lst xs) => (toPs n s xs).map .list
    | _ => none
def toPs : Nat → Sto → List D → Option (List PyData)
  | 0, _, _ => none
  | n + 1, _, [] => some []
  | n + 1, s, x :: xs => match toP n s x, toPs n s xs with
    | some p, some ps => some (p :: ps)
    | _, _ => none
end

inductive BOp where
  | add | sub | mul | fdiv | mod | pow | shl
  deriving DecidableEq
inductive COp where
  | eq | ne | lt | le | gt | ge | is | isnot | inn | notin
  deriving DecidableEq
inductive Bi where
  | len | lenD | abs | int | tuple | tupleD | list | any | anyD | all | allD | sorted | sum | sumD
  deriving DecidableEq
inductive Mt where
  | append | extend | pop
  deriving DecidableEq

abbrev Op2 := D → D → Sto → KD → Bool
def opII (f : Int → Int → D) : Op2 := fun x y s k => onI x fun i => onI y fun j => k (f i j) s
def le5 (n : Nat) : Bool := Nat.ble n 100000
def opAdd : Op2 := fun x y s k => match x, y with
  | .int i, .int j => k (.int (Int.add i j)) s
  | .tup xs, .tup ys => @Bool.rec (fun _ => Bool) false (k (.tup (xs ++ ys)) s) (le5 (Nat.add (lenN xs) (lenN ys)))
  | .ref a, .ref b => lookK s.l a fun o => onL o fun xs => lookK s.l b fun o2 => onL o2 fun ys => @Bool.rec (fun _ => Bool) false (newL (xs ++ ys) s k) (le5 (Nat.add (lenN xs) (lenN ys)))
  | _, _ => false
def rep (xs : List D) : Nat → List D
  | 0 => []
  | n + 1 => xs ++ rep xs n
def opMul : Op2 := fun x y s k => match x, y with
  | .int i, .int j => @Bool.rec (fun _ => Bool) (@Bool.rec (fun _ => Bool) false (k (.int (Int.mul i j)) s) (small64 j)) (k (.int (Int.mul i j)) s) (small64 i)
  | .ref a, .int (.ofNat n) => lookK s.l a fun o => onL o fun xs => @Bool.rec (fun _ => Bool) false (newL (rep xs n) s k) (le5 n && le5 (Nat.mul (lenN xs) n))
  | _, _ => false
def opDiv : Op2 := fun x y s k => onI x fun i => onI y fun j => @Bool.rec (fun _ => Bool) false (k (.int (divI i j)) s) (nz j && Nat.blt (Int.natAbs j) 1073741824)
def opMod : Op2 := fun x y s k => onI x fun i => onI y fun j => @Bool.rec (fun _ => Bool) false (k (.int (modI i j)) s) (nz j)
def opPow : Op2 := fun x y s k => onI x fun i => onI y fun j => match j with
  | .ofNat n => @Bool.rec (fun _ => Bool) false (k (.int (i ^ n)) s) (le5 n && small64 i)
  | _ => false
def opMin : Op2 := opII fun i j => .int (@Bool.rec (fun _ => Int) i j (ltI j i))
def opShl : Op2 := fun x y s k => onI x fun i => onI y fun j => match j with
  | .ofNat n => @Bool.rec (fun _ => Bool) false (k (.int (i * 2 ^ n)) s) (le5 n && small64 i)
  | _ => false
def bop : BOp → Op2
  | .add => opAdd | .sub => opII fun i j => .int (Int.sub i j) | .mul => opMul | .fdiv => opDiv | .mod => opMod | .pow => opPow | .shl => opShl
def augop : BOp → Op2
  | .add => opII fun i j => .int (Int.add i j) | .sub => opII fun i j => .int (Int.sub i j) | _ => fun _ _ _ _ => false
/-- ==, whole data -/
def eqDD (x y : D) (s : Sto) (k : Bool → Bool) : Bool := match toP 40 s x, toP 40 s y with
  | some p, some q => k (PyData.eqv p q)
  | _, _ => false
def eqK (x y : D) (s : Sto) (k : Bool → Bool) : Bool := match x, y with
  | .int i, .int j => k (eqI i j)
  | .str a, .str b => k (eqL a b)
  | x, y => eqDD x y s k
def flatD : D → Bool
  | .non => true | .bl _ => true | .int _ => true | .str _ => true | _ => false
def eqF : D → D → Bool
  | .non, .non => true
  | .bl a, .bl b => a == b
  | .bl a, .int b => (if a then 1 else 0) == b
  | .int a, .bl b => a == (if b then 1 else 0)
  | .int a, .int b => eqI a b
  | .str a, .str b => eqL a b
  | _, _ => false
/-- x in xs, of flat things -/
def inK (x y : D) (s : Sto) (k : Bool → Bool) : Bool := match x, y with
  | .int i, .ref a => lookK s.l a fun o => match o with
    | .lst xs => @Bool.rec (fun _ => Bool) false (k (xs.any fun y => eqF y (.int i))) (xs.all flatD)
    | .dct kvs => k (kvs.any fun p => eqI p.1 i)
    | .drw => false
  | x, y => onSeq y s fun xs => @Bool.rec (fun _ => Bool) false (k (xs.any fun y => eqF y x)) (flatD x && xs.all flatD)
def isK (x y : D) (k : Bool → Bool) : Bool := match x, y with
  | .bl a, .bl b => k (a == b)
  | .non, .non => k true
  | .bl _, .non => k false | .int _, .non => k false | .str _, .non => k false | .tup _, .non => k false | .ref _, .non => k false
  | _, _ => false
def cop : COp → Op2
  | .eq => fun x y s k => eqK x y s fun b => k (.bl b) s
  | .ne => fun x y s k => eqK x y s fun b => k (.bl (!b)) s
  | .lt => opII fun i j => .bl (ltI i j)
  | .le => opII fun i j => .bl (leI i j)
  | .gt => opII fun i j => .bl (ltI j i)
  | .ge => opII fun i j => .bl (leI j i)
  | .is => fun x y s k => isK x y fun b => k (.bl b) s
  | .isnot => fun x y s k => isK x y fun b => k (.bl (!b)) s
  | .inn => fun x y s k => inK x y s fun b => k (.bl b) s
  | .notin => fun x y s k => inK x y s fun b => k (.bl (!b)) s
/-- truth -/
def truK (x : D) (s : Sto) (k : Bool → Bool) : Bool := match x with
  | .non => k false
  | .bl b => k b
  | .int i => k (nz i)
  | .str _ => false
  | .tup xs => k (!xs.isEmpty)
  | .ref a => lookK s.l a fun o => match o with
    | .lst xs => k (!xs.isEmpty)
    | .dct kvs => k (!kvs.isEmpty)
    | .drw => false

def boolsK : List D → (List Bool → Bool) → Bool
  | [], k => k []
  | x :: xs, k => onB x fun b => boolsK xs fun bs => k (b :: bs)
def intsK : List D → (List Int → Bool) → Bool
  | [], k => k []
  | x :: xs, k => onI x fun b => intsK xs fun bs => k (b :: bs)
def sumL : List Int → Int
  | [] => 0
  | x :: xs => Int.add x (sumL xs)
def insI (x : Int) : List Int → List Int
  | [] => [x]
  | y :: ys => if ltI y x then y :: insI x ys else x :: y :: ys
def sortI : List Int → List Int
  | [] => []
  | x :: xs => insI x (sortI xs)
def anyB : List Bool → Bool
  | [] => false
  | b :: r => @Bool.rec (fun _ => Bool) (anyB r) true b
def allB : List Bool → Bool
  | [] => true
  | b :: r => @Bool.rec (fun _ => Bool) false (allB r) b

/-- the length of a list, a tuple, a dict -/
def onLn (x : D) (s : Sto) (k : Nat → Bool) : Bool := D.casesOn (motive_1 := fun _ => Bool) x false (fun _ => false) (fun _ => false) (fun _ => false) (fun xs => k (lenN xs))
  (fun a => lookK s.l a fun o => O.casesOn (motive := fun _ => Bool) o (fun xs => k (lenN xs)) (fun kvs => k (lenN kvs)) false)
/-- built-ins with one argument; D: the argument is a new list, let go -/
def bi1 : Bi → D → Sto → KD → Bool
  | .len, x, s, k => onLn x s fun n => k (.int (.ofNat n)) s
  | .lenD, x, s, k => onSeq x s fun xs => k (.int (.ofNat (lenN xs))) ⟨s.n, pop1 s.l x⟩
  | .abs, x, s, k => onI x fun i => k (.int (.ofNat (Int.natAbs i))) s
  | .int, x, s, k => match x with
    | .int i => k (.int i) s
    | .bl b => k (.int (@Bool.rec (fun _ => Int) 0 1 b)) s
    | _ => false
  | .tuple, x, s, k => onSeq x s fun xs => k (.tup xs) s
  | .tupleD, x, s, k => onSeq x s fun xs => k (.tup xs) ⟨s.n, pop1 s.l x⟩
  | .list, x, s, k => onSeq x s fun xs => @Bool.rec (fun _ => Bool) false (newL xs s k) (le5 (lenN xs))
  | .any, x, s, k => onR x fun a => lookK s.l a fun o => onL o fun xs => boolsK xs fun bs => k (.bl (anyB bs)) s
  | .anyD, x, s, k => onR x fun a => lookK s.l a fun o => onL o fun xs => boolsK xs fun bs => k (.bl (anyB bs)) ⟨s.n, pop1 s.l x⟩
  | .all, x, s, k => onR x fun a => lookK s.l a fun o => onL o fun xs => boolsK xs fun bs => k (.bl (allB bs)) s
  | .allD, x, s, k => onR x fun a => lookK s.l a fun o => onL o fun xs => boolsK xs fun bs => k (.bl (allB bs)) ⟨s.n, pop1 s.l x⟩
  | .sum, x, s, k => onR x fun a => lookK s.l a fun o => onL o fun xs => intsK xs fun ns => k (.int (sumL ns)) s
  | .sumD, x, s, k => onR x fun a => lookK s.l a fun o => onL o fun xs => intsK xs fun ns => k (.int (sumL ns)) ⟨s.n, pop1 s.l x⟩
  | .sorted, x, s, k => onR x fun a => lookK s.l a fun o => match o with
    | .lst xs => intsK xs fun ns => newL ((sortI ns).map .int) s k
    | .dct kvs => @Bool.rec (fun _ => Bool) false (newL ((sortI (kvs.map (·.1))).map .int) s k) (Nat.blt (lenN kvs) 64)
    | .drw => false

def isiK (T : Nat) (x : D) (k : Bool → Bool) : Bool := match T, x with
  -- 0 int, 1 tuple, 2 str, 3 bool
  | 0, .int _ => k true | 0, .bl _ => k true | 0, .non => k false | 0, .str _ => k false | 0, .tup _ => k false
  | 1, .int _ => k false | 1, .bl _ => k false | 1, .non => k false | 1, .str _ => k false | 1, .tup _ => k true
  | 2, .int _ => k false | 2, .bl _ => k false | 2, .non => k false | 2, .str _ => k true | 2, .tup _ => k false
  | 3, .int _ => k false | 3, .bl _ => k true | 3, .non => k false | 3, .str _ => k false | 3, .tup _ => k false
  | _, _ => false

/-- an index: a list, a tuple; a dict with int keys -/
def ixK : Op2 := fun x y s k => onI y fun i => match x with
  | .tup xs => Int.casesOn (motive := fun _ => Bool) i (fun a => nthK xs a fun d => k d s) (fun b => placeK (lenN xs) (.negSucc b) fun j => nthK xs j fun d => k d s)
  | .ref a => lookK s.l a fun o => match o with
    | .lst xs => Int.casesOn (motive := fun _ => Bool) i (fun a => nthK xs a fun d => k d s) (fun b => placeK (lenN xs) (.negSucc b) fun j => nthK xs j fun d => k d s)
    | _ => false
  | _ => false
def optI (x : Option D) (k : Option Int → Bool) : Bool := match x with
  | none => k none
  | some d => onI d fun i => k (some i)
def cutD (xs : List D) (lo hi : Option Int) : List D := (xs.drop (HT.sIx xs.length 0 lo)).take (HT.sIx xs.length xs.length hi - HT.sIx xs.length 0 lo)
def slK (x : D) (lo hi : Option Int) (s : Sto) (k : KD) : Bool := match x with
  | .tup xs => k (.tup (cutD xs lo hi)) s
  | .ref a => lookK s.l a fun o => onL o fun xs => newL (cutD xs lo hi) s k
  | _ => false
def setL {α : Type} (xs : List α) : Nat → α → List α :=
  @List.rec α (fun _ => Nat → α → List α) (fun _ _ => [])
    (fun o r ih i d => @Nat.rec (fun _ => List α) (d :: r) (fun j _ => o :: ih j d) i) xs
def putI (kvs : List (Int × D)) (i : Int) (d : D) : List (Int × D) :=
  @Bool.rec (fun _ => List (Int × D)) (kvs ++ [(i, d)]) (kvs.map fun p => @Bool.rec (fun _ => Int × D) p (p.1, d) (eqI p.1 i)) (kvs.any fun p => eqI p.1 i)
def mergeI (a : List (Int × D)) : List (Int × D) → List (Int × D)
  | [] => a
  | p :: r => mergeI (putI a p.1 p.2) r
/-- x[i] = v -/
def setK (x i v : D) (s : Sto) (k : Sto → Bool) : Bool := onR x fun a => onI i fun n => lookK s.l a fun o => match o with
  | .lst xs => placeK (lenN xs) n fun j => @Bool.rec (fun _ => Bool) false (k ⟨s.n, put s.l a (.lst (setL xs j v))⟩) (Nat.blt j (lenN xs))
  | .dct kvs => @Bool.rec (fun _ => Bool) false (k ⟨s.n, put s.l a (.dct (putI kvs n v))⟩) (le5 (lenN kvs))
  | .drw => false
def mtK : Mt → D → List D → Sto → KD → Bool
  | .append, x, [v], s, k => onR x fun a => lookK s.l a fun o => onL o fun xs => @Bool.rec (fun _ => Bool) false (k .non ⟨s.n, put s.l a (.lst (xs ++ [v]))⟩) (le5 (lenN xs))
  | .extend, x, [v], s, k => onR x fun a => lookK s.l a fun o => onL o fun xs => onR v fun b => lookK s.l b fun o2 => onL o2 fun ys =>
      @Bool.rec (fun _ => Bool) false (k .non ⟨s.n, put s.l a (.lst (xs ++ ys))⟩) (le5 (Nat.add (lenN xs) (lenN ys)))
  | .pop, x, [], s, k => onR x fun a => lookK s.l a fun o => onL o fun xs => match xs.getLast? with
    | some y => k y ⟨s.n, put s.l a (.lst xs.dropLast)⟩
    | none => false
  | _, _, _, _, _ => false

/-! ### the IR -/
mutual
inductive E where
  | var (i : Nat) | cst (d : D) | glb (d : D)
  | bin (o : BOp) (a b : E) | cmp (o : COp) (a b : E) | chain (o o' : COp) (a b c : E)
  | neg (a : E) | not (a : E) | and (a b : E) | or (a b : E) | ife (c a b : E)
  | call (f : Nat) (mode : Nat) (es : Es)
  | bi (b : Bi) (a : E) | isi (T : Nat) (a : E) | min2 (a b : E)
  | idx (a i : E) | sl (a : E) (lo hi : Es)
  | tup (es : Es) | lst (es : Es) | dct (kvs : Es)
  | comp (own : List Nat) (t : T) (it : I) (e : E) | compIf (own : List Nat) (t : T) (it : I) (c : E) (e : E)
  | mth (m : Mt) (i : Nat) (es : Es)
inductive Es where
  | nil | cons (e : E) (r : Es)
/-- targets: a name, a tuple, a subscript -/
inductive T where
  | nm (i : Nat) | tp (ts : Ts) | sb (a i : E)
inductive Ts where
  | nil | cons (t : T) (r : Ts)
/-- what is walked -/
inductive I where
  | seq (e : E) | rng (a : E) | rng2 (a b : E) | enum (e : E) | zip (a b : E)
end
mutual
inductive S where
  | asg (t : T) (e : E) | par2 (i j : Nat) (a b : E) | par3 (i j l : Nat) (a b c : E)
  | aug (i : Nat) (o : BOp) (e : E) | ex (e : E)
  | ife (c : E) (a b : Ss) | fr (t : T) (it : I) (b : Ss) | wh (c : E) (b : Ss)
  | ret (e : E) | retN | cont | brk | pass | never | tryB (b : Ss)
inductive Ss where
  | nil | cons (s : S) (r : Ss)
end

/-! ### the meaning -/
abbrev CE := Rec → Loc → Sto → KD → Bool
abbrev CEs := Rec → Loc → Sto → KL → Bool
abbrev CT := Rec → D → Loc → Sto → KS → Bool
abbrev CTs := Rec → List D → Loc → Sto → KS → Bool
/-- a walk: from a place on; stop, or an item -/
abbrev Wk := Nat → Sto → (Sto → Bool) → (D → Sto → Bool) → Bool
abbrev CI := Rec → Loc → Sto → (Wk → Sto → Bool) → Bool

def cVar (i : Nat) : CE := fun _ σ s k => getK σ i fun d => k d s
def cCst (d : D) : CE := fun _ _ s k => k d s
def cOp2 (o : Op2) (a b : CE) : CE := fun R σ s k => a R σ s fun x s1 => b R σ s1 fun y s2 => o x y s2 k
def cChain (o o' : Op2) (a b c : CE) : CE := fun R σ s k => a R σ s fun x s1 => b R σ s1 fun y s2 => o x y s2 fun z s3 => onB z fun t =>
  @Bool.rec (fun _ => Bool) (k (.bl false) s3) (c R σ s3 fun y2 s4 => o' y y2 s4 k) t
def cNeg (a : CE) : CE := fun R σ s k => a R σ s fun x s1 => onI x fun i => k (.int (Int.neg i)) s1
def cTst (a : CE) (R : Rec) (σ : Loc) (s : Sto) (k : Bool → Sto → Bool) : Bool := a R σ s fun x s1 => truK x s1 fun b => k b s1
/-- a test whose value is a bool -/
def cTstB (a : CE) (R : Rec) (σ : Loc) (s : Sto) (k : Bool → Sto → Bool) : Bool := a R σ s fun x s1 => onB x fun b => k b s1
abbrev CB := Rec → Loc → Sto → (Bool → Sto → Bool) → Bool
def bNot (a : CB) : CB := fun R σ s k => a R σ s fun b s1 => k (!b) s1
def bAnd (a b : CB) : CB := fun R σ s k => a R σ s fun t s1 => @Bool.rec (fun _ => Bool) (k false s1) (b R σ s1 k) t
def bOr (a b : CB) : CB := fun R σ s k => a R σ s fun t s1 => @Bool.rec (fun _ => Bool) (b R σ s1 k) (k true s1) t
def bIfe (c a b : CB) : CB := fun R σ s k => c R σ s fun t s1 => @Bool.rec (fun _ => Bool) (b R σ s1 k) (a R σ s1 k) t
def cNot (a : CE) : CE := fun R σ s k => a R σ s fun x s1 => truK x s1 fun b => k (.bl (!b)) s1
def cAnd (a b : CE) : CE := fun R σ s k => a R σ s fun x s1 => truK x s1 fun t => @Bool.rec (fun _ => Bool) (k x s1) (b R σ s1 k) t
def cOr (a b : CE) : CE := fun R σ s k => a R σ s fun x s1 => truK x s1 fun t => @Bool.rec (fun _ => Bool) (b R σ s1 k) (k x s1) t
def cIfe (c : CB) (a b : CE) : CE := fun R σ s k => c R σ s fun t s1 => @Bool.rec (fun _ => Bool) (b R σ s1 k) (a R σ s1 k) t
/-- a call: 0 with the whole store, 1 with an empty one, what it makes is kept, 2 with an empty one, dropped behind -/
def cCall (f : Nat) (mode : Nat) (es : CEs) : CE := fun R σ s k => es R σ s fun ds s1 =>
  @Nat.rec (fun _ => Bool) (R f ds s1 k) (fun m _ => @Nat.rec (fun _ => Bool)
    (R f ds ⟨s1.n, []⟩ fun d s2 => k d ⟨s2.n, s2.l ++ s1.l⟩) (fun _ _ => R f ds ⟨s1.n, []⟩ fun d s2 => k d ⟨s2.n, s1.l⟩) m) mode
def cBi (b : Bi) (a : CE) : CE := fun R σ s k => a R σ s fun x s1 => bi1 b x s1 k
def cIsi (T : Nat) (a : CE) : CE := fun R σ s k => a R σ s fun x s1 => isiK T x fun b => k (.bl b) s1
def cSl (a : CE) (lo hi : Rec → Loc → Sto → (Option Int → Sto → Bool) → Bool) : CE := fun R σ s k => a R σ s fun x s1 => lo R σ s1 fun l s2 => hi R σ s2 fun h s3 => slK x l h s3 k
def cTup (es : CEs) : CE := fun R σ s k => es R σ s fun ds s1 => k (.tup ds) s1
def cLst (es : CEs) : CE := fun R σ s k => es R σ s fun ds s1 => newL ds s1 k
def cNil : CEs := fun _ _ s k => k [] s
def cCons (a : CE) (r : CEs) : CEs := fun R σ s k => a R σ s fun x s1 => r R σ s1 fun xs s2 => k (x :: xs) s2
def isLx (x : D) (s : Sto) : Bool := D.casesOn (motive_1 := fun _ => Bool) x false (fun _ => false) (fun _ => false) (fun _ => false) (fun _ => false) (fun a => lookK s.l a fun o => onL o fun _ => true)
def cMth (m : Mt) (i : Nat) (es : CEs) : CE := fun R σ s k => getK σ i fun x => @Bool.rec (fun _ => Bool) false (es R σ s fun ds s1 => mtK m x ds s1 k) (isLx x s)
/-- targets -/
def gNm (i : Nat) : CT := fun _ x σ s k => k (setN σ i (some x)) s
def gTp (n : Nat) (ts : CTs) : CT := fun R x σ s k => onSeq x s fun xs => @Bool.rec (fun _ => Bool) false (ts R xs σ s k) (Nat.beq (lenN xs) n)
def gNil : CTs := fun _ xs σ s k => @List.rec D (fun _ => Bool) (k σ s) (fun _ _ _ => false) xs
def gCons (t : CT) (r : CTs) : CTs := fun R xs σ s k => @List.rec D (fun _ => Bool) false (fun x xs _ => t R x σ s fun σ1 s1 => r R xs σ1 s1 k) xs
def gSb (a i : CE) : CT := fun R x σ s k => a R σ s fun o s1 => i R σ s1 fun n s2 => setK o n x s2 fun s3 => k σ s3
/-- walks -/
def wTup (xs : List D) : Wk := fun i s st it => @Bool.rec (fun _ => Bool) (st s) (nthK xs i fun x => it x s) (Nat.blt i (lenN xs))
def wLst (a : Nat) : Wk := fun i s st it => lookK s.l a fun o => onL o fun xs => @Bool.rec (fun _ => Bool) (st s) (nthK xs i fun x => it x s) (Nat.blt i (lenN xs))
def wRng (lo : Int) (n : Nat) : Wk := fun i s st it => @Bool.rec (fun _ => Bool) (st s) (it (.int (Int.add lo (.ofNat i))) s) (Nat.blt i n)
def wEnum (w : Wk) : Wk := fun i s st it => w i s st fun x s1 => it (.tup [.int (.ofNat i), x]) s1
def wZipT (xs ys : List D) : Wk := fun i s st it => @Bool.rec (fun _ => Bool) (st s) (nthK xs i fun x => nthK ys i fun y => it (.tup [x, y]) s) (Nat.blt i (lenN xs) && Nat.blt i (lenN ys))
def wZipL (a b : Nat) : Wk := fun i s st it => lookK s.l a fun o => onL o fun xs => lookK s.l b fun o2 => onL o2 fun ys =>
  @Bool.rec (fun _ => Bool) (st s) (nthK xs i fun x => nthK ys i fun y => it (.tup [x, y]) s) (Nat.blt i (lenN xs) && Nat.blt i (lenN ys))
def seqW (x : D) (k : Wk → Bool) : Bool := D.casesOn (motive_1 := fun _ => Bool) x false (fun _ => false) (fun _ => false) (fun _ => false) (fun xs => k (wTup xs)) (fun a => k (wLst a))
/-- a list that is walked is there -/
def hasW (x : D) (s : Sto) : Bool := D.casesOn (motive_1 := fun _ => Bool) x false (fun _ => false) (fun _ => false) (fun _ => false) (fun _ => true) (fun a => lookK s.l a fun o => onL o fun _ => true)
def hasL (s : Sto) (a : Nat) : Bool := lookK s.l a fun o => onL o fun _ => true
def zipW (x y : D) (s : Sto) (k : Wk → Bool) : Bool := match x, y with
  | .tup xs, .tup ys => k (wZipT xs ys)
  | .ref a, .ref b => @Bool.rec (fun _ => Bool) false (k (wZipL a b)) (hasL s a && hasL s b)
  | _, _ => false
def in62 (i : Int) : Bool := Nat.blt (Int.natAbs i) 4611686018427387904
def iSeq (a : CE) : CI := fun R σ s k => a R σ s fun x s1 => seqW x fun w => @Bool.rec (fun _ => Bool) false (k w s1) (hasW x s1)
def iRng (a : CE) : CI := fun R σ s k => a R σ s fun x s1 => onI x fun j => @Bool.rec (fun _ => Bool) false (k (wRng 0 (Int.toNat j)) s1) (in62 j)
def iRng2 (a b : CE) : CI := fun R σ s k => a R σ s fun x s1 => b R σ s1 fun y s2 => onI x fun i => onI y fun j => @Bool.rec (fun _ => Bool) false (k (wRng i (Int.toNat (Int.sub j i))) s2) (in62 i && in62 j)
def iEnum (a : CE) : CI := fun R σ s k => a R σ s fun x s1 => seqW x fun w => @Bool.rec (fun _ => Bool) false (k (wEnum w) s1) (hasW x s1)
def iZip (a b : CE) : CI := fun R σ s k => a R σ s fun x s1 => b R σ s1 fun y s2 => zipW x y s2 fun w => k w s2
/-- the turns of a comprehension; acc: what is made, the newest first -/
def compL (w : Wk) (t : CT) (c : Option CB) (e : CE) (R : Rec) (σ : Loc) (k : List D → Sto → Bool) (m : Nat) : Nat → List D → Sto → Bool :=
  @Nat.rec (fun _ => Nat → List D → Sto → Bool) (fun _ _ _ => false) (fun _ ih i acc s => w i s (fun s1 => k acc s1) fun x s1 => t R x σ s1 fun σ2 s2 =>
    @Option.rec CB (fun _ => Bool) (e R σ2 s2 fun y s3 => ih (Nat.succ i) (y :: acc) s3)
      (fun c => c R σ2 s2 fun b s3 => @Bool.rec (fun _ => Bool) (ih (Nat.succ i) acc s3) (e R σ2 s3 fun y s4 => ih (Nat.succ i) (y :: acc) s4) b) c) m
def revA (acc : List D) : List D → List D := @List.rec D (fun _ => List D → List D) (fun r => r) (fun x _ ih r => ih (x :: r)) acc
def cComp (own : List Nat) (t : CT) (it : CI) (c : Option CB) (e : CE) : CE := fun R σ s k => it R σ s fun w s1 =>
  compL w t c e R (wipeD σ own) (fun acc s2 => k (.ref s1.n) ⟨s2.n, (s1.n, .lst (revA acc [])) :: s2.l⟩) 90000 0 [] ⟨Nat.succ s1.n, s1.l⟩

/-- what is behind a statement -/
structure Ks where
  nx : KS
  rt : KD
  bk : KS
  ct : KS
abbrev CS := Rec → Loc → Sto → Ks → Bool
def sAsg (t : CT) (a : CE) : CS := fun R σ s k => a R σ s fun x s1 => t R x σ s1 k.nx
def sPar2 (i j : Nat) (a b : CE) : CS := fun R σ s k => a R σ s fun x s1 => b R σ s1 fun y s2 => k.nx (setN (setN σ i (some x)) j (some y)) s2
def sPar3 (i j l : Nat) (a b c : CE) : CS := fun R σ s k => a R σ s fun x s1 => b R σ s1 fun y s2 => c R σ s2 fun z s3 => k.nx (setN (setN (setN σ i (some x)) j (some y)) l (some z)) s3
def sAug (i : Nat) (o : Op2) (a : CE) : CS := fun R σ s k => getK σ i fun x => a R σ s fun y s1 => o x y s1 fun z s2 => k.nx (setN σ i (some z)) s2
def sEx (a : CE) : CS := fun R σ s k => a R σ s fun _ s1 => k.nx σ s1
def sIf (c : CB) (a b : CS) : CS := fun R σ s k => c R σ s fun t s1 => @Bool.rec (fun _ => Bool) (b R σ s1 k) (a R σ s1 k) t
def forL (w : Wk) (t : CT) (b : CS) (R : Rec) (k : Ks) (m : Nat) : Nat → Loc → Sto → Bool :=
  @Nat.rec (fun _ => Nat → Loc → Sto → Bool) (fun _ _ _ => false) (fun _ ih i σ s => w i s (fun s1 => k.nx σ s1) fun x s1 => t R x σ s1 fun σ2 s2 =>
    b R σ2 s2 ⟨fun σ3 s3 => ih (Nat.succ i) σ3 s3, k.rt, k.nx, fun σ3 s3 => ih (Nat.succ i) σ3 s3⟩) m
def sFor (t : CT) (it : CI) (b : CS) : CS := fun R σ s k => it R σ s fun w s1 => forL w t b R k 90000 0 σ s1
def whL (c : CB) (b : CS) (R : Rec) (k : Ks) (m : Nat) : Loc → Sto → Bool :=
  @Nat.rec (fun _ => Loc → Sto → Bool) (fun _ _ => false) (fun _ ih σ s => c R σ s fun t s1 => @Bool.rec (fun _ => Bool) (k.nx σ s1)
    (b R σ s1 ⟨fun σ3 s3 => ih σ3 s3, k.rt, k.nx, fun σ3 s3 => ih σ3 s3⟩) t) m
def sWh (c : CB) (b : CS) : CS := fun R σ s k => whL c b R k 90000 σ s
def sRet (a : CE) : CS := fun R σ s k => a R σ s k.rt
def sRetN : CS := fun _ _ s k => k.rt .non s
def sCont : CS := fun _ σ s k => k.ct σ s
def sBrk : CS := fun _ σ s k => k.bk σ s
def sPass : CS := fun _ σ s k => k.nx σ s
def sNever : CS := fun _ _ _ _ => false
def sSeq (a b : CS) : CS := fun R σ s k => a R σ s ⟨fun σ1 s1 => b R σ1 s1 k, k.rt, k.bk, k.ct⟩

def oNil : Rec → Loc → Sto → (Option Int → Sto → Bool) → Bool := fun _ _ s k => k none s
def oSome (e : CE) : Rec → Loc → Sto → (Option Int → Sto → Bool) → Bool := fun R σ s k => e R σ s fun x s1 => onI x fun i => k (some i) s1
abbrev CP := Rec → Loc → Sto → (List (Int × D) → Sto → Bool) → Bool
def pNil : CP := fun _ _ s k => k [] s
def pCons (a b : CE) (r : CP) : CP := fun R σ s k => a R σ s fun x s1 => b R σ s1 fun y s2 => onI x fun i => r R σ s2 fun ps s3 => k ((i, y) :: ps) s3
def pNo : CP := fun _ _ _ _ => false
def cDct (ps : CP) : CE := fun R σ s k => ps R σ ⟨Nat.succ s.n, s.l⟩ fun kvs s2 => k (.ref s.n) ⟨s2.n, (s.n, .dct (mergeI [] kvs)) :: s2.l⟩
def cntTs : Ts → Nat
  | .nil => 0
  | .cons _ r => Nat.succ (cntTs r)
mutual
def den : E → CE
  | .var i => cVar i
  | .cst d => cCst d
  | .glb d => cCst d
  | .bin o a b => cOp2 (bop o) (den a) (den b)
  | .cmp o a b => cOp2 (cop o) (den a) (den b)
  | .chain o o' a b c => cChain (cop o) (cop o') (den a) (den b) (den c)
  | .neg a => cNeg (den a)
  | .not a => cNot (den a)
  | .and a b => cAnd (den a) (den b)
  | .or a b => cOr (den a) (den b)
  | .ife c a b => cIfe (tst c) (den a) (den b)
  | .call f m es => cCall f m (denEs es)
  | .bi b a => cBi b (den a)
  | .isi T a => cIsi T (den a)
  | .min2 a b => cOp2 opMin (den a) (den b)
  | .idx a i => cOp2 ixK (den a) (den i)
  | .sl a lo hi => cSl (den a) (denO lo) (denO hi)
  | .tup es => cTup (denEs es)
  | .lst es => cLst (denEs es)
  | .dct ps => cDct (denP ps)
  | .comp own t it e => cComp own (denT t) (denI it) none (den e)
  | .compIf own t it c e => cComp own (denT t) (denI it) (some (tst c)) (den e)
  | .mth m i es => cMth m i (denEs es)
def tst : E → CB
  | .not a => bNot (tst a)
  | .and a b => bAnd (tst a) (tst b)
  | .or a b => bOr (tst a) (tst b)
  | .ife c a b => bIfe (tst c) (tst a) (tst b)
  | .var i => cTst (cVar i)
  | .cst d => cTst (cCst d)
  | .glb d => cTst (cCst d)
  | .bin o a b => cTst (cOp2 (bop o) (den a) (den b))
  | .cmp o a b => cTstB (cOp2 (cop o) (den a) (den b))
  | .chain o o' a b c => cTstB (cChain (cop o) (cop o') (den a) (den b) (den c))
  | .neg a => cTst (cNeg (den a))
  | .call f m es => cTst (cCall f m (denEs es))
  | .bi b a => cTst (cBi b (den a))
  | .isi T a => cTst (cIsi T (den a))
  | .min2 a b => cTst (cOp2 opMin (den a) (den b))
  | .idx a i => cTst (cOp2 ixK (den a) (den i))
  | .sl a lo hi => cTst (cSl (den a) (denO lo) (denO hi))
  | .tup es => cTst (cTup (denEs es))
  | .lst es => cTst (cLst (denEs es))
  | .dct ps => cTst (cDct (denP ps))
  | .comp own t it e => cTst (cComp own (denT t) (denI it) none (den e))
  | .compIf own t it c e => cTst (cComp own (denT t) (denI it) (some (tst c)) (den e))
  | .mth m i es => cTst (cMth m i (denEs es))
def denEs : Es → CEs
  | .nil => cNil
  | .cons e r => cCons (den e) (denEs r)
def denP : Es → CP
  | .nil => pNil
  | .cons _ .nil => pNo
  | .cons a (.cons b r) => pCons (den a) (den b) (denP r)
def denO : Es → Rec → Loc → Sto → (Option Int → Sto → Bool) → Bool
  | .nil => oNil
  | .cons e _ => oSome (den e)
def denT : T → CT
  | .nm i => gNm i
  | .tp ts => gTp (cntTs ts) (denTs ts)
  | .sb a i => gSb (den a) (den i)
def denTs : Ts → CTs
  | .nil => gNil
  | .cons t r => gCons (denT t) (denTs r)
def denI : I → CI
  | .seq e => iSeq (den e)
  | .rng a => iRng (den a)
  | .rng2 a b => iRng2 (den a) (den b)
  | .enum e => iEnum (den e)
  | .zip a b => iZip (den a) (den b)
end
mutual
def denS : S → CS
  | .asg t e => sAsg (denT t) (den e)
  | .par2 i j a b => sPar2 i j (den a) (den b)
  | .par3 i j l a b c => sPar3 i j l (den a) (den b) (den c)
  | .aug i o e => sAug i (augop o) (den e)
  | .ex e => sEx (den e)
  | .ife c a b => sIf (tst c) (denSs a) (denSs b)
  | .fr t it b => sFor (denT t) (denI it) (denSs b)
  | .wh c b => sWh (tst c) (denSs b)
  | .ret e => sRet (den e)
  | .retN => sRetN
  | .cont => sCont
  | .brk => sBrk
  | .pass => sPass
  | .never => sNever
  | .tryB b => denSs b
def denSs : Ss → CS
  | .nil => sPass
  | .cons s r => sSeq (denS s) (denSs r)
end
/-- a def: a Python body, or a function of data -/
inductive FD where
  | py (np nl : Nat) (b : CS)
  | nat (f : List D → Sto → KD → Bool)
def noneL (nl : Nat) : Loc := @Nat.rec (fun _ => Loc) [] (fun _ ih => none :: ih) nl
/-- the slots at a def's start -/
def initL (ds : List D) (nl : Nat) : Loc := @List.rec D (fun _ => Loc) (noneL nl) (fun x _ ih => some x :: ih) ds
def runFD (R : Rec) (fd : FD) (ds : List D) (s : Sto) (k : KD) : Bool := match fd with
  | .py np nl b => @Bool.rec (fun _ => Bool) false (b R (initL ds nl) s ⟨fun _ s1 => k .non s1, k, fun _ _ => false, fun _ _ => false⟩) (Nat.beq (lenN ds) np)
  | .nat f => f ds s k
def runAt (T : List FD) (R : Rec) (f : Nat) (ds : List D) (s : Sto) (k : KD) : Bool := nthK T f fun fd => runFD R fd ds s k
/-- calls up to a depth -/
def callN (T : List FD) (n : Nat) : Rec := @Nat.rec (fun _ => Rec) (fun _ _ _ _ => false) (fun _ R => runAt T R) n
end
end Zev

set_option Elab.async false
set_option linter.all false
set_option maxRecDepth 100000
/-! Zev2: how data lie in the abstract heap; stores, extensions; the readings of the meanings. -/
namespace Zev
open PySem PySem.Spec PyProof.Rows L2

/-! ### lists of the kernel -/
theorem lookK_some {l : List (Nat × O)} {i : Nat} {k : O → Bool} : lookK l i k = true → ∃ o, (i, o) ∈ l ∧ k o = true := by
  induction l with
  | nil => intro h; cases h
  | cons p r ih =>
    intro h
    have h : @Bool.rec (fun _ => Bool) (lookK r i k) (k p.2) (Nat.beq p.1 i) = true := h
    cases e : Nat.beq p.1 i with
    | false =>
      rw [e] at h
      obtain ⟨o, m, q⟩ := ih h
      exact ⟨o, List.mem_cons_of_mem _ m, q⟩
    | true =>
      rw [e] at h
      have e := Nat.eq_of_beq_eq_true e
      exact ⟨p.2, by rw [← e]; exact List.mem_cons_self, h⟩
theorem put_keys {l : List (Nat × O)} {i : Nat} {o : O} : (put l i o).map (·.1) = l.map (·.1) := by
  induction l with
  | nil => rfl
  | cons p r ih =>
    show (@Bool.rec (fun _ => List (Nat × O)) (p :: put r i o) ((i, o) :: r) (Nat.beq p.1 i)).map (·.1) = _
    cases e : Nat.beq p.1 i with
    | false => show p.1 :: (put r i o).map (·.1) = _; rw [ih]; rfl
    | true => rw [List.map_cons, List.map_cons, Nat.eq_of_beq_eq_true e]
theorem put_mem {l : List (Nat × O)} {i j : Nat} {o u : O} (nd : (l.map (·.1)).Nodup) : (j, u) ∈ put l i o → (j = i ∧ u = o) ∨ (j ≠ i ∧ (j, u) ∈ l) := by
  induction l with
  | nil => intro h; cases h
  | cons p r ih =>
    intro h
    have h : (j, u) ∈ @Bool.rec (fun _ => List (Nat × O)) (p :: put r i o) ((i, o) :: r) (Nat.beq p.1 i) := h
    rw [List.map_cons, List.nodup_cons] at nd
    cases e : Nat.beq p.1 i with
    | false =>
      rw [e] at h
      rcases List.mem_cons.mp h with h | h
      · right
        refine ⟨fun z => ?_, by rw [h]; exact List.mem_cons_self⟩
        have e1 : p.1 = j := by rw [← h]
        rw [e1, z, Nat.beq_refl] at e
        cases e
      · rcases ih nd.2 h with q | ⟨q, m⟩
        · exact .inl q
        · exact .inr ⟨q, List.mem_cons_of_mem _ m⟩
    | true =>
      rw [e] at h
      have e := Nat.eq_of_beq_eq_true e
      rcases List.mem_cons.mp h with h | h
      · cases h
        exact .inl ⟨rfl, rfl⟩
      · refine .inr ⟨fun z => nd.1 ?_, List.mem_cons_of_mem _ h⟩
        rw [e, ← z]
        exact List.mem_map_of_mem (f := (·.1)) h
theorem getK_some {σ : Loc} {i : Nat} {k : D → Bool} : getK σ i k = true → ∃ d, σ[i]? = some (some d) ∧ k d = true := by
  induction σ generalizing i with
  | nil => intro h; cases h
  | cons o r ih =>
    intro h
    cases i with
    | zero =>
      cases o with
      | none => cases h
      | some d => exact ⟨d, rfl, h⟩
    | succ j => exact ih (i := j) h
theorem setN_eq {σ : Loc} {i : Nat} {d : Option D} : setN σ i d = σ.set i d := by
  induction σ generalizing i with
  | nil => rfl
  | cons o r ih =>
    cases i with
    | zero => rfl
    | succ j => show o :: setN r j d = _; rw [ih]; rfl
theorem setL_eq {α : Type} {σ : List α} {i : Nat} {d : α} : setL σ i d = σ.set i d := by
  induction σ generalizing i with
  | nil => rfl
  | cons o r ih =>
    cases i with
    | zero => rfl
    | succ j => show o :: setL r j d = _; rw [ih]; rfl
theorem nthK_some {α : Type} {xs : List α} {i : Nat} {k : α → Bool} : nthK xs i k = true → ∃ d, xs[i]? = some d ∧ k d = true := by
  induction xs generalizing i with
  | nil => intro h; cases h
  | cons o r ih =>
    intro h
    cases i with
    | zero => exact ⟨o, rfl, h⟩
    | succ j => exact ih (i := j) h
theorem lenN_eq {α : Type} {xs : List α} : lenN xs = xs.length := by
  induction xs with
  | nil => rfl
  | cons o r ih => show Nat.succ (lenN r) = _; rw [ih]; rfl
theorem revA_eq {acc r : List D} : revA acc r = acc.reverse ++ r := by
  induction acc generalizing r with
  | nil => rfl
  | cons x a ih => show revA a (x :: r) = _; rw [ih]; simp
theorem brec {p q : Bool} {b : Bool} : @Bool.rec (fun _ => Bool) p q b = true → (b = false ∧ p = true) ∨ (b = true ∧ q = true) := by
  cases b
  · exact fun h => .inl ⟨rfl, h⟩
  · exact fun h => .inr ⟨rfl, h⟩
theorem brecT {q : Bool} {b : Bool} (h : @Bool.rec (fun _ => Bool) false q b = true) : b = true ∧ q = true := by
  rcases brec h with ⟨_, h⟩ | h
  · cases h
  · exact h
theorem onI_some {x : D} {k : Int → Bool} (h : onI x k = true) : ∃ i, x = .int i ∧ k i = true := by
  cases x with
  | int i => exact ⟨i, rfl, h⟩
  | non => cases h
  | bl b => cases h
  | str s => cases h
  | tup xs => cases h
  | ref a => cases h
theorem onB_some {x : D} {k : Bool → Bool} (h : onB x k = true) : ∃ i, x = .bl i ∧ k i = true := by
  cases x with
  | bl i => exact ⟨i, rfl, h⟩
  | non => cases h
  | int b => cases h
  | str s => cases h
  | tup xs => cases h
  | ref a => cases h
theorem onR_some {x : D} {k : Nat → Bool} (h : onR x k = true) : ∃ i, x = .ref i ∧ k i = true := by
  cases x with
  | ref i => exact ⟨i, rfl, h⟩
  | non => cases h
  | int b => cases h
  | str s => cases h
  | tup xs => cases h
  | bl a => cases h
theorem onT_some {x : D} {k : List D → Bool} (h : onT x k = true) : ∃ i, x = .tup i ∧ k i = true := by
  cases x with
  | tup i => exact ⟨i, rfl, h⟩
  | non => cases h
  | int b => cases h
  | str s => cases h
  | ref xs => cases h
  | bl a => cases h
theorem onL_some {x : O} {k : List D → Bool} (h : onL x k = true) : ∃ i, x = .lst i ∧ k i = true := by
  cases x with
  | lst i => exact ⟨i, rfl, h⟩
  | dct _ => cases h
  | drw => cases h
theorem onSeq_some {x : D} {s : Sto} {k : List D → Bool} (h : onSeq x s k = true) : ∃ xs, (x = .tup xs ∨ ∃ a, x = .ref a ∧ (a, .lst xs) ∈ s.l) ∧ k xs = true := by
  cases x with
  | tup i => exact ⟨i, .inl rfl, h⟩
  | ref a =>
    obtain ⟨o, m, q⟩ := lookK_some h
    obtain ⟨xs, rfl, q⟩ := onL_some q
    exact ⟨xs, .inr ⟨a, rfl, m⟩, q⟩
  | non => cases h
  | int b => cases h
  | str s => cases h
  | bl a => cases h
theorem eqI_iff {i j : Int} : eqI i j = decide (i = j) := by
  cases i with
  | ofNat a => cases j with
    | ofNat b =>
      show Nat.beq a b = _
      rw [Bool.eq_iff_iff, Nat.beq_eq, decide_eq_true_eq]
      exact ⟨fun h => by rw [h], fun h => by injection h⟩
    | negSucc b => exact (decide_eq_false (fun h => by cases h)).symm
  | negSucc a => cases j with
    | ofNat b => exact (decide_eq_false (fun h => by cases h)).symm
    | negSucc b =>
      show Nat.beq a b = _
      rw [Bool.eq_iff_iff, Nat.beq_eq, decide_eq_true_eq]
      exact ⟨fun h => by rw [h], fun h => by injection h⟩
theorem ltI_iff {i j : Int} : ltI i j = decide (i < j) := by
  cases i with
  | ofNat a => cases j with
    | ofNat b =>
      show Nat.blt a b = _
      rw [Bool.eq_iff_iff, Nat.blt_eq, decide_eq_true_eq]
      exact ⟨fun h => Int.ofNat_lt.mpr h, fun h => Int.ofNat_lt.mp h⟩
    | negSucc b => exact (decide_eq_false (by simp only [Int.ofNat_eq_natCast]; omega)).symm
  | negSucc a => cases j with
    | ofNat b => exact (decide_eq_true (by simp only [Int.ofNat_eq_natCast]; omega)).symm
    | negSucc b =>
      show Nat.blt b a = _
      rw [Bool.eq_iff_iff, Nat.blt_eq, decide_eq_true_eq]
      omega
theorem leI_iff {i j : Int} : leI i j = decide (i ≤ j) := by
  unfold leI
  rw [ltI_iff, Bool.eq_iff_iff]
  simp
theorem modI_eq {i j : Int} : modI i j = i.fmod j := by
  cases i with
  | ofNat a => cases j with
    | ofNat b => exact (Int.ofNat_fmod a b)
    | negSucc b => rfl
  | negSucc a => cases j <;> rfl
theorem divI_eq {i j : Int} : divI i j = i.fdiv j := by
  cases i with
  | ofNat a => cases j with
    | ofNat b => exact (Int.ofNat_fdiv a b)
    | negSucc b => rfl
  | negSucc a => cases j <;> rfl
theorem nz_iff {i : Int} : nz i = (i != 0) := by
  unfold nz
  rw [eqI_iff]
  rfl
theorem eqL_iff : ∀ {a b : List Nat}, eqL a b = decide (a = b)
  | [], [] => rfl
  | [], y :: ys => rfl
  | x :: xs, [] => rfl
  | x :: xs, y :: ys => by
    show @Bool.rec (fun _ => Bool) false (eqL xs ys) (Nat.beq x y) = _
    cases e : Nat.beq x y with
    | false =>
      refine (decide_eq_false fun z => ?_).symm
      injection z with z _
      rw [z, Nat.beq_refl] at e
      cases e
    | true =>
      rw [Nat.eq_of_beq_eq_true e]
      show eqL xs ys = _
      rw [eqL_iff, Bool.eq_iff_iff]
      simp
end Zev

set_option Elab.async false
set_option linter.all false
set_option maxRecDepth 100000
/-! Zev3: how data lie in the abstract heap; stores, extensions; the readings of the meanings. -/
namespace Zev
open PySem PySem.Spec PyProof.Rows L2

abbrev LSt := L2.St
/-- two lists, place by place -/
inductive L2p {α β : Type} (R : α → β → Prop) : List α → List β → Prop
  | nil : L2p R [] []
  | cons {a b as bs} : R a b → L2p R as bs → L2p R (a :: as) (b :: bs)
section
variable (K : PySem.W.Frag)
mutual
def RD (ρ : List Addr) (H : Hp) : D → V → Prop
  | .non, v => v = .non
  | .bl b, v => v = .bl b
  | .int i, v => v = .int i
  | .str cs, v => ∃ x : Str, v = .str x ∧ x.cps.toList = cs ∧ PyData.strOk x = true
  | .tup ds, v => ∃ a vs, v = .ref a ∧ SqT K H a vs ∧ RDs ρ H ds vs
  | .ref i, v => ∃ a, v = .ref a ∧ ρ[i]? = some a
def RDs (ρ : List Addr) (H : Hp) : List D → List V → Prop
  | [], vs => vs = []
  | d :: ds, vs => ∃ v r, vs = v :: r ∧ RD ρ H d v ∧ RDs ρ H ds r
end
/-- a dict's pairs -/
def RKs (ρ : List Addr) (H : Hp) : List (Int × D) → List (Key × V) → Prop
  | [], vs => vs = []
  | p :: ds, vs => ∃ v r, vs = (Sum.inl p.1, v) :: r ∧ RD K ρ H p.2 v ∧ RKs ρ H ds r
/-- the law's drawing state: the script's copy, a place, a number, a count -/
def Drw (ρ : List Addr) (H : Hp) (o : Option HO) : Prop :=
  ∃ (c : Addr) (ns : List Int) (i : Nat) (n k : Int), o = some (.lst [.ref c, .int i, .int n, .int k, .int 20]) ∧ H c = some (.lst (ns.map V.int)) ∧ c ∉ ρ ∧ ns.length ≤ 63 ∧ i ≤ ns.length
def RO (ρ : List Addr) (H : Hp) : O → Option HO → Prop
  | .lst ds, o => ∃ vs, o = some (.lst vs) ∧ RDs K ρ H ds vs ∧ vs.length ≤ 1000000
  | .dct kvs, o => ∃ us, o = some (.dK us) ∧ RKs K ρ H kvs us ∧ us.length ≤ 1000000
  | .drw, o => Drw ρ H o
structure RS (ρ : List Addr) (s : Sto) (H : Hp) : Prop where
  n : s.n = ρ.length
  nd : ρ.Nodup
  tr : ∀ a ∈ ρ, H a ≠ none
  kd : (s.l.map (·.1)).Nodup
  ob : ∀ (i : Nat) (o : O), (i, o) ∈ s.l → ∃ a : Addr, ρ[i]? = some a ∧ RO K ρ H o (H a)
structure Ext (s : Sto) (ρ : List Addr) (H : Hp) (s' : Sto) (ρ' : List Addr) (H' : Hp) : Prop where
  pre : ρ <+: ρ'
  fr : ∀ (a : Addr) (o : HO), H a = some o → (∀ (i : Nat) (u : O), (i, u) ∈ s.l → ρ[i]? ≠ some a) → H' a = some o
  ky : ∀ (i : Nat) (o : O), (i, o) ∈ s'.l → (∃ u, (i, u) ∈ s.l) ∨ ρ.length ≤ i
  fs : ∀ a ∈ ρ', a ∈ ρ ∨ H a = none
structure RL (ρ : List Addr) (H : Hp) (σd : Loc) (σ : LSt) : Prop where
  len : σd.length ≤ σ.length
  at_ : ∀ (i : Nat) (d : D), σd[i]? = some (some d) → ∃ v, σ[i]? = some (some v) ∧ RD K ρ H d v
end

section
variable {K : PySem.W.Frag} {ρ ρ' ρ1 ρ2 ρ3 : List Addr} {H H' H1 H2 H3 : Hp} {s s' s1 s2 s3 : Sto}
theorem RDs.len : ∀ {ds : List D} {vs : List V}, RDs K ρ H ds vs → vs.length = ds.length
  | [], vs, h => by unfold RDs at h; rw [h]; rfl
  | d :: ds, vs, h => by
    unfold RDs at h
    obtain ⟨v, r, rfl, _, h⟩ := h
    rw [List.length_cons, List.length_cons, RDs.len h]
theorem RDs.nil : RDs K ρ H [] [] := by unfold RDs; rfl
theorem RDs.cons {d : D} {v : V} {ds : List D} {vs : List V} (h : RD K ρ H d v) (t : RDs K ρ H ds vs) : RDs K ρ H (d :: ds) (v :: vs) := by
  unfold RDs; exact ⟨v, vs, rfl, h, t⟩
theorem RDs.get : ∀ {ds : List D} {vs : List V} {i : Nat} {d : D}, RDs K ρ H ds vs → ds[i]? = some d → ∃ v, vs[i]? = some v ∧ RD K ρ H d v
  | [], _, _, _, _, e => by simp at e
  | d :: ds, vs, i, x, h, e => by
    unfold RDs at h
    obtain ⟨v, r, rfl, h1, h⟩ := h
    cases i with
    | zero => simp at e; subst e; exact ⟨v, rfl, h1⟩
    | succ j => exact RDs.get (i := j) h (by simpa using e)
theorem RDs.set : ∀ {ds : List D} {vs : List V} {i : Nat} {d : D} {v : V}, RDs K ρ H ds vs → RD K ρ H d v → RDs K ρ H (ds.set i d) (vs.set i v)
  | [], vs, _, _, _, h, _ => by unfold RDs at h; subst h; exact .nil
  | x :: ds, vs, i, d, v, h, q => by
    unfold RDs at h
    obtain ⟨w, r, rfl, h1, h⟩ := h
    cases i with
    | zero => exact .cons q h
    | succ j => exact .cons h1 (RDs.set h q)
theorem RDs.append : ∀ {ds es : List D} {vs ws : List V}, RDs K ρ H ds vs → RDs K ρ H es ws → RDs K ρ H (ds ++ es) (vs ++ ws)
  | [], _, vs, _, h, q => by unfold RDs at h; subst h; exact q
  | x :: ds, _, vs, _, h, q => by
    unfold RDs at h
    obtain ⟨w, r, rfl, h1, h⟩ := h
    exact .cons h1 (RDs.append h q)
theorem RDs.drop : ∀ {ds : List D} {vs : List V} (n : Nat), RDs K ρ H ds vs → RDs K ρ H (ds.drop n) (vs.drop n)
  | _, _, 0, h => h
  | [], vs, n + 1, h => by unfold RDs at h; subst h; exact .nil
  | x :: ds, vs, n + 1, h => by
    unfold RDs at h
    obtain ⟨w, r, rfl, h1, h⟩ := h
    exact RDs.drop n h
theorem RDs.take : ∀ {ds : List D} {vs : List V} (n : Nat), RDs K ρ H ds vs → RDs K ρ H (ds.take n) (vs.take n)
  | _, _, 0, h => .nil
  | [], vs, n + 1, h => by unfold RDs at h; subst h; exact .nil
  | x :: ds, vs, n + 1, h => by
    unfold RDs at h
    obtain ⟨w, r, rfl, h1, h⟩ := h
    exact .cons h1 (RDs.take n h)
theorem RDs.dropLast : ∀ {ds : List D} {vs : List V}, RDs K ρ H ds vs → RDs K ρ H ds.dropLast vs.dropLast
  | ds, vs, h => by
    rw [List.dropLast_eq_take, List.dropLast_eq_take, h.len]
    exact h.take _
theorem RD.map : ∀ (d : D) (v : V), RD K ρ H d v → (∀ a vs, SqT K H a vs → SqT K H' a vs) → (∀ (i : Nat) (a : Addr), ρ[i]? = some a → ρ'[i]? = some a) → RD K ρ' H' d v := by
  intro d
  refine D.rec (motive_1 := fun d => ∀ v, RD K ρ H d v → (∀ a vs, SqT K H a vs → SqT K H' a vs) → (∀ (i : Nat) (a : Addr), ρ[i]? = some a → ρ'[i]? = some a) → RD K ρ' H' d v)
    (motive_2 := fun ds => ∀ vs, RDs K ρ H ds vs → (∀ a vs, SqT K H a vs → SqT K H' a vs) → (∀ (i : Nat) (a : Addr), ρ[i]? = some a → ρ'[i]? = some a) → RDs K ρ' H' ds vs) ?_ ?_ ?_ ?_ ?_ ?_ ?_ ?_ d
  · intro v h _ _; unfold RD at h ⊢; exact h
  · intro b v h _ _; unfold RD at h ⊢; exact h
  · intro b v h _ _; unfold RD at h ⊢; exact h
  · intro b v h _ _; unfold RD at h ⊢; exact h
  · intro ds ih v h q p
    unfold RD at h ⊢
    obtain ⟨a, vs, e, t, r⟩ := h
    exact ⟨a, vs, e, q _ _ t, ih vs r q p⟩
  · intro i v h q p
    unfold RD at h ⊢
    obtain ⟨a, e, t⟩ := h
    exact ⟨a, e, p _ _ t⟩
  · intro vs h _ _; unfold RDs at h ⊢; exact h
  · intro d ds ih1 ih2 vs h q p
    unfold RDs at h ⊢
    obtain ⟨v, r, e, h1, h2⟩ := h
    exact ⟨v, r, e, ih1 v h1 q p, ih2 r h2 q p⟩
theorem RDs.map : ∀ {ds : List D} {vs : List V}, RDs K ρ H ds vs → (∀ a vs, SqT K H a vs → SqT K H' a vs) → (∀ (i : Nat) (a : Addr), ρ[i]? = some a → ρ'[i]? = some a) → RDs K ρ' H' ds vs
  | [], vs, h, _, _ => by unfold RDs at h ⊢; exact h
  | d :: ds, vs, h, q, p => by
    unfold RDs at h ⊢
    obtain ⟨v, r, e, h1, h2⟩ := h
    exact ⟨v, r, e, RD.map d v h1 q p, RDs.map h2 q p⟩
theorem RKs.map : ∀ {ds : List (Int × D)} {vs : List (Key × V)}, RKs K ρ H ds vs → (∀ a vs, SqT K H a vs → SqT K H' a vs) → (∀ (i : Nat) (a : Addr), ρ[i]? = some a → ρ'[i]? = some a) → RKs K ρ' H' ds vs
  | [], vs, h, _, _ => by unfold RKs at h ⊢; exact h
  | d :: ds, vs, h, q, p => by
    unfold RKs at h ⊢
    obtain ⟨v, r, e, h1, h2⟩ := h
    exact ⟨v, r, e, RD.map d.2 v h1 q p, RKs.map h2 q p⟩
theorem pre_at {i : Nat} {a : Addr} (p : ρ <+: ρ') (h : ρ[i]? = some a) : ρ'[i]? = some a := by
  obtain ⟨t, rfl⟩ := p
  rw [List.getElem?_append_left (List.getElem?_eq_some_iff.mp h).1]
  exact h
theorem at_mem {i : Nat} {a : Addr} (h : ρ[i]? = some a) : a ∈ ρ := List.mem_of_getElem? h
theorem at_inj {i j : Nat} {a : Addr} (nd : ρ.Nodup) (h : ρ[i]? = some a) (q : ρ[j]? = some a) : i = j := by
  obtain ⟨h1, e1⟩ := List.getElem?_eq_some_iff.mp h
  obtain ⟨h2, e2⟩ := List.getElem?_eq_some_iff.mp q
  exact (List.getElem_inj nd).mp (e1.trans e2.symm)
/-- what stands at an owned place is a list or a dict -/
def Own (o : HO) : Prop := (∃ vs, o = .lst vs) ∨ ∃ us, o = .dK us
theorem RO.own {o : O} {u : Option HO} (h : RO K ρ H o u) : ∃ v, u = some v ∧ Own v := by
  cases o with
  | lst ds => obtain ⟨vs, e, _⟩ := h; exact ⟨_, e, .inl ⟨vs, rfl⟩⟩
  | dct ds => obtain ⟨vs, e, _⟩ := h; exact ⟨_, e, .inr ⟨vs, rfl⟩⟩
  | drw => obtain ⟨_, _, _, _, _, e, _⟩ := h; exact ⟨_, e, .inl ⟨_, rfl⟩⟩
/-- an object of another kind is kept -/
theorem Ext.keep {a : Addr} {o : HO} (E : Ext s ρ H s' ρ' H') (S : RS K ρ s H) (h : H a = some o) (n : ¬ Own o) : H' a = some o :=
  E.fr a o h fun i u m z => by
    obtain ⟨b, e, r⟩ := S.ob i u m
    rw [z] at e
    cases e
    obtain ⟨v, e, w⟩ := r.own
    rw [h] at e
    cases e
    exact n w
theorem Ext.sqT {a : Addr} {vs : List V} (E : Ext s ρ H s' ρ' H') (S : RS K ρ s H) (h : SqT K H a vs) : SqT K H' a vs := by
  rcases h with (h | ⟨o, h⟩) | h
  · exact .inl (.inl (E.keep S h (by rintro (⟨_, z⟩ | ⟨_, z⟩) <;> cases z)))
  · exact .inl (.inr ⟨o, E.keep S h (by rintro (⟨_, z⟩ | ⟨_, z⟩) <;> cases z)⟩)
  · exact .inr h
theorem RD.mono {d : D} {v : V} (h : RD K ρ H d v) (E : Ext s ρ H s' ρ' H') (S : RS K ρ s H) : RD K ρ' H' d v :=
  RD.map d v h (fun _ _ q => E.sqT S q) fun _ _ q => pre_at E.pre q
theorem RDs.mono {d : List D} {v : List V} (h : RDs K ρ H d v) (E : Ext s ρ H s' ρ' H') (S : RS K ρ s H) : RDs K ρ' H' d v :=
  RDs.map h (fun _ _ q => E.sqT S q) fun _ _ q => pre_at E.pre q
theorem RKs.mono {d : List (Int × D)} {v : List (Key × V)} (h : RKs K ρ H d v) (E : Ext s ρ H s' ρ' H') (S : RS K ρ s H) : RKs K ρ' H' d v :=
  RKs.map h (fun _ _ q => E.sqT S q) fun _ _ q => pre_at E.pre q
theorem RL.mono {σd : Loc} {σ : LSt} (h : RL K ρ H σd σ) (E : Ext s ρ H s' ρ' H') (S : RS K ρ s H) : RL K ρ' H' σd σ :=
  ⟨h.len, fun i d e => let ⟨v, e1, r⟩ := h.at_ i d e; ⟨v, e1, r.mono E S⟩⟩
theorem Ext.refl : Ext s ρ H s ρ H := ⟨List.prefix_refl _, fun _ _ h _ => h, fun i o m => .inl ⟨o, m⟩, fun _ h => .inl h⟩
theorem Ext.trans (A : Ext s1 ρ1 H1 s2 ρ2 H2) (B : Ext s2 ρ2 H2 s3 ρ3 H3) (S1 : RS K ρ1 s1 H1) (S2 : RS K ρ2 s2 H2) : Ext s1 ρ1 H1 s3 ρ3 H3 where
  pre := A.pre.trans B.pre
  fr := fun a o h n => by
    refine B.fr a o (A.fr a o h n) fun i u m z => ?_
    rcases A.ky i u m with ⟨u', m'⟩ | le
    · obtain ⟨b, e, _⟩ := S1.ob i u' m'
      have e2 := pre_at A.pre e
      rw [z] at e2
      cases e2
      exact n i u' m' e
    · have ma : a ∈ ρ2 := at_mem z
      rcases A.fs a ma with q | q
      · obtain ⟨j, hj⟩ := List.getElem?_of_mem q
        have e2 := at_inj S2.nd z (pre_at A.pre hj)
        have := (List.getElem?_eq_some_iff.mp hj).1
        omega
      · rw [h] at q
        cases q
  ky := fun i o m => by
    rcases B.ky i o m with ⟨u, m'⟩ | le
    · exact A.ky i u m'
    · exact .inr (Nat.le_trans (List.IsPrefix.length_le A.pre) le)
  fs := fun a m => by
    rcases B.fs a m with q | q
    · exact A.fs a q
    · cases e : H1 a with
      | none => exact .inr rfl
      | some o =>
        by_cases c : ∀ (i : Nat) (u : O), (i, u) ∈ s1.l → ρ1[i]? ≠ some a
        · rw [A.fr a o e c] at q
          cases q
        · have c : ∃ (i : Nat) (u : O), (i, u) ∈ s1.l ∧ ρ1[i]? = some a := Classical.byContradiction fun z => c fun i u m e => z ⟨i, u, m, e⟩
          obtain ⟨i, u, _, e⟩ := c
          exact .inl (at_mem e)

/-! ### steps of stores -/
/-- a new object, tracked alone (a tuple) -/
theorem Ext.tuple {p : Addr} {o : HO} (hp : H p = none) : Ext s ρ H s ρ (upd H p o) :=
  ⟨List.prefix_refl _, fun a u h _ => by rw [upd_ne (ne_of_none h hp)]; exact h, fun i o m => .inl ⟨o, m⟩, fun _ h => .inl h⟩
theorem RO.map {o : O} {u : Option HO} (h : RO K ρ H o u) (q : ∀ a vs, SqT K H a vs → SqT K H' a vs) (p : ∀ (i : Nat) (a : Addr), ρ[i]? = some a → ρ'[i]? = some a) (c : ∀ a xs, a ∉ ρ → H a = some (.lst xs) → H' a = some (.lst xs) ∧ a ∉ ρ') : RO K ρ' H' o u := by
  cases o with
  | lst ds => obtain ⟨vs, e, r, l⟩ := h; exact ⟨vs, e, r.map q p, l⟩
  | dct ds => obtain ⟨vs, e, r, l⟩ := h; exact ⟨vs, e, r.map q p, l⟩
  | drw =>
    obtain ⟨a, ns, i, n, k, e, h1, h2, h3⟩ := h
    exact ⟨a, ns, i, n, k, e, (c _ _ h2 h1).1, (c _ _ h2 h1).2, h3⟩
theorem sqT_upd {p a : Addr} {o : HO} {vs : List V} (hp : H p = none) (h : SqT K H a vs) : SqT K (upd H p o) a vs := by
  rcases h with (h | ⟨u, h⟩) | h
  · exact .inl (.inl (by rw [upd_ne (ne_of_none h hp)]; exact h))
  · exact .inl (.inr ⟨u, by rw [upd_ne (ne_of_none h hp)]; exact h⟩)
  · exact .inr h
theorem RS.tuple {p : Addr} {o : HO} (S : RS K ρ s H) (hp : H p = none) : RS K ρ s (upd H p o) where
  n := S.n
  nd := S.nd
  tr := fun a m z => by
    by_cases e : a = p
    · rw [e, upd_same] at z; cases z
    · rw [upd_ne e] at z; exact S.tr a m z
  kd := S.kd
  ob := fun i u m => by
    obtain ⟨a, e, r⟩ := S.ob i u m
    refine ⟨a, e, ?_⟩
    have ne : a ≠ p := fun z => by
      obtain ⟨v, q, _⟩ := r.own
      rw [z, hp] at q
      cases q
    rw [upd_ne ne]
    exact r.map (fun _ _ q => sqT_upd hp q) (fun _ _ q => q) fun b xs nb h => ⟨by rw [upd_ne (ne_of_none h hp)]; exact h, nb⟩
/-- a new object of the store -/
theorem Ext.new {p : Addr} {o : HO} {u : O} {l : List (Nat × O)} (S : RS K ρ s H) (hl : ∀ x ∈ l, x ∈ s.l ∨ x = (s.n, u)) (hp : H p = none) : Ext s ρ H ⟨Nat.succ s.n, l⟩ (ρ ++ [p]) (upd H p o) :=
  ⟨List.prefix_append _ _, fun a v h _ => by rw [upd_ne (ne_of_none h hp)]; exact h, fun i v m => by
    rcases hl _ m with q | q
    · exact .inl ⟨v, q⟩
    · cases q; exact .inr (by rw [S.n]; exact Nat.le_refl _), fun a m => by
    rcases List.mem_append.mp m with q | q
    · exact .inl q
    · rw [List.mem_singleton.mp q]; exact .inr hp⟩
theorem at_new {p : Addr} (S : RS K ρ s H) : (ρ ++ [p])[s.n]? = some p := by
  rw [S.n, List.getElem?_append_right (Nat.le_refl _), Nat.sub_self]
  rfl
theorem at_old {p : Addr} {i : Nat} {a : Addr} (h : ρ[i]? = some a) : (ρ ++ [p])[i]? = some a := pre_at (List.prefix_append _ _) h
theorem RS.fresh {p : Addr} (S : RS K ρ s H) (hp : H p = none) : p ∉ ρ := fun m => S.tr p m hp
/-- the address alone is taken (a list that is being made) -/
theorem RS.res {p : Addr} {o : HO} (S : RS K ρ s H) (hp : H p = none) : RS K (ρ ++ [p]) ⟨Nat.succ s.n, s.l⟩ (upd H p o) where
  n := by rw [List.length_append, ← S.n]; rfl
  nd := by
    rw [List.nodup_append]
    refine ⟨S.nd, by simp, fun a ha b hb e => ?_⟩
    rw [List.mem_singleton.mp hb] at e
    exact S.fresh hp (e ▸ ha)
  tr := fun a m z => by
    by_cases e : a = p
    · rw [e, upd_same] at z; cases z
    · rw [upd_ne e] at z
      rcases List.mem_append.mp m with q | q
      · exact S.tr a q z
      · exact e (List.mem_singleton.mp q)
  kd := S.kd
  ob := fun i u m => by
    obtain ⟨a, e, r⟩ := S.ob i u m
    refine ⟨a, at_old e, ?_⟩
    have ne : a ≠ p := fun z => by
      obtain ⟨v, q, _⟩ := r.own
      rw [z, hp] at q
      cases q
    rw [upd_ne ne]
    refine r.map (fun _ _ q => sqT_upd hp q) (fun _ _ q => at_old q) fun b xs nb h => ⟨by rw [upd_ne (ne_of_none h hp)]; exact h, fun m => ?_⟩
    rcases List.mem_append.mp m with q | q
    · exact nb q
    · rw [List.mem_singleton.mp q, hp] at h
      cases h
/-- what is reserved is put into the store -/
theorem RS.place {p : Addr} {i : Nat} {u : O} (S : RS K ρ s H) (hi : ρ[i]? = some p) (hn : ∀ v, (i, v) ∉ s.l) (r : RO K ρ H u (H p)) : RS K ρ ⟨s.n, (i, u) :: s.l⟩ H where
  n := S.n
  nd := S.nd
  tr := S.tr
  kd := by
    rw [List.map_cons, List.nodup_cons]
    refine ⟨fun m => ?_, S.kd⟩
    obtain ⟨⟨j, v⟩, m2, e⟩ := List.mem_map.mp m
    have e : j = i := e
    exact hn v (by rw [← e]; exact m2)
  ob := fun j v m => by
    rcases List.mem_cons.mp m with q | q
    · cases q; exact ⟨p, hi, r⟩
    · exact S.ob j v q
theorem RS.key_lt {i : Nat} {o : O} (S : RS K ρ s H) (m : (i, o) ∈ s.l) : i < s.n := by
  obtain ⟨a, e, _⟩ := S.ob i o m
  rw [S.n]
  exact (List.getElem?_eq_some_iff.mp e).1
theorem RS.new {p : Addr} {o : HO} {u : O} (S : RS K ρ s H) (hp : H p = none) (r : RO K (ρ ++ [p]) (upd H p o) u (some o)) : RS K (ρ ++ [p]) ⟨Nat.succ s.n, (s.n, u) :: s.l⟩ (upd H p o) := by
  have S1 := S.res (o := o) hp
  exact S1.place (i := s.n) (at_new S) (fun v m => Nat.lt_irrefl _ (S.key_lt m)) (by rw [upd_same]; exact r)
/-- fewer objects -/
theorem RS.sub {l : List (Nat × O)} (S : RS K ρ s H) (h : List.Sublist l s.l) : RS K ρ ⟨s.n, l⟩ H :=
  ⟨S.n, S.nd, S.tr, List.Nodup.sublist (h.map _) S.kd, fun i o m => S.ob i o (h.subset m)⟩
theorem Ext.sub {l : List (Nat × O)} (h : List.Sublist l s.l) : Ext s ρ H ⟨s.n, l⟩ ρ H :=
  ⟨List.prefix_refl _, fun _ _ h _ => h, fun i o m => .inl ⟨o, h.subset m⟩, fun _ h => .inl h⟩
/-- an object is changed -/
theorem RS.at_of {i : Nat} {o : O} (S : RS K ρ s H) (m : (i, o) ∈ s.l) : ∃ a, ρ[i]? = some a ∧ RO K ρ H o (H a) := S.ob i o m
theorem RS.write {i : Nat} {a : Addr} {o o' : O} {u : HO} (S : RS K ρ s H) (m : (i, o) ∈ s.l) (hi : ρ[i]? = some a) (r : RO K ρ (upd H a u) o' (some u)) : RS K ρ ⟨s.n, put s.l i o'⟩ (upd H a u) where
  n := S.n
  nd := S.nd
  tr := fun b mb z => by
    by_cases e : b = a
    · rw [e, upd_same] at z; cases z
    · rw [upd_ne e] at z; exact S.tr b mb z
  kd := by rw [put_keys]; exact S.kd
  ob := fun j v mj => by
    rcases put_mem S.kd mj with ⟨e1, e2⟩ | ⟨ne, mj⟩
    · subst e1; subst e2
      exact ⟨a, hi, by rw [upd_same]; exact r⟩
    · obtain ⟨b, e, rb⟩ := S.ob j v mj
      have nb : b ≠ a := fun z => ne (at_inj S.nd (z ▸ e) hi)
      refine ⟨b, e, ?_⟩
      rw [upd_ne nb]
      obtain ⟨w, ha, ow⟩ := (let ⟨c, ec, rc⟩ := S.ob i o m; (show ∃ w, H a = some w ∧ Own w by
        rw [hi] at ec; cases ec; exact rc.own))
      refine rb.map (fun c vs q => ?_) (fun _ _ q => q) fun c xs nc h => ⟨?_, nc⟩
      · have nt : ∀ o2, H c = some o2 → ¬ Own o2 → c ≠ a := fun o2 h2 n2 z => by
          rw [z, ha] at h2; cases h2; exact n2 ow
        rcases q with (q | ⟨o2, q⟩) | q
        · exact .inl (.inl (by rw [upd_ne (nt _ q (by rintro (⟨_, z⟩ | ⟨_, z⟩) <;> cases z))]; exact q))
        · exact .inl (.inr ⟨o2, by rw [upd_ne (nt _ q (by rintro (⟨_, z⟩ | ⟨_, z⟩) <;> cases z))]; exact q⟩)
        · exact .inr q
      · have : c ≠ a := fun z => nc (z ▸ at_mem hi)
        rw [upd_ne this]; exact h
theorem Ext.write {i : Nat} {a : Addr} {o o' : O} {u : HO} (S : RS K ρ s H) (m : (i, o) ∈ s.l) (hi : ρ[i]? = some a) : Ext s ρ H ⟨s.n, put s.l i o'⟩ ρ (upd H a u) :=
  ⟨List.prefix_refl _, fun b v h n => by
    have : b ≠ a := fun z => n i o m (z ▸ hi)
    rw [upd_ne this]; exact h, fun j v mj => by
    rcases put_mem S.kd mj with ⟨e1, e2⟩ | ⟨_, mj⟩
    · subst e1; exact .inl ⟨o, m⟩
    · exact .inl ⟨v, mj⟩, fun _ h => .inl h⟩
/-- relations are kept where an owned object is changed -/
theorem RDs.write {i : Nat} {a : Addr} {o : O} {u : HO} {ds : List D} {vs : List V} (h : RDs K ρ H ds vs) (S : RS K ρ s H) (m : (i, o) ∈ s.l) (hi : ρ[i]? = some a) : RDs K ρ (upd H a u) ds vs :=
  h.mono (Ext.write (o' := o) S m hi) S
theorem RD.write {i : Nat} {a : Addr} {o : O} {u : HO} {ds : D} {vs : V} (h : RD K ρ H ds vs) (S : RS K ρ s H) (m : (i, o) ∈ s.l) (hi : ρ[i]? = some a) : RD K ρ (upd H a u) ds vs :=
  h.mono (Ext.write (o' := o) S m hi) S
end
end Zev

set_option Elab.async false
set_option linter.all false
set_option maxRecDepth 100000
/-! Zev4: the readings of the meanings, construct by construct. -/
namespace Zev
open PySem PySem.Spec PyProof.Rows L2

theorem PE.imp {X : Cx} {e : Expr} {t t' : TE} (h : PE X e t) (i : ∀ σ H Q, t' σ H Q → t σ H Q) : PE X e t' := ⟨fun pins s σ H Q I q => h.run pins s σ H Q I (i σ H Q q)⟩
theorem PT.imp {X : Cx} {e : Expr} {t t' : TT} (h : PT X e t) (i : ∀ σ H Q, t' σ H Q → t σ H Q) : PT X e t' := ⟨fun pins s σ H Q I q => h.run pins s σ H Q I (i σ H Q q)⟩
theorem PW.imp {X : Cx} {e : Expr} {t t' : TT} (h : PW X e t) (i : ∀ σ H Q, t' σ H Q → t σ H Q) : PW X e t' := ⟨fun wh pins s σ H Q I q => h.run wh pins s σ H Q I (i σ H Q q)⟩
theorem PA.imp {X : Cx} {e : List Expr} {t t' : TA} (h : PA X e t) (i : ∀ σ H Q, t' σ H Q → t σ H Q) : PA X e t' := ⟨fun pos pins s σ H Q I q => h.run pos pins s σ H Q I (i σ H Q q)⟩
theorem PS.imp {X : Cx} {e : Stmt} {t t' : TS} (h : PS X e t) (i : ∀ D σ H, t' D σ H → t D σ H) : PS X e t' := ⟨fun pins s σ H Q I q => h.run pins s σ H Q I (i Q σ H q)⟩
theorem PSs.imp {X : Cx} {e : List Stmt} {t t' : TS} (h : PSs X e t) (i : ∀ D σ H, t' D σ H → t D σ H) : PSs X e t' := ⟨fun pins s σ H Q I q => h.run pins s σ H Q I (i Q σ H q)⟩
theorem PG.imp {X : Cx} {e : Expr} {t t' : TG} (h : PG X e t) (i : ∀ v σ H Q, t' v σ H Q → t v σ H Q) : PG X e t' := ⟨fun pins s σ H v u Q I r q => h.run pins s σ H v u Q I r (i v σ H Q q)⟩
theorem PGs.imp {X : Cx} {e : List Expr} {t t' : TGs} (h : PGs X e t) (i : ∀ v σ H Q, t' v σ H Q → t v σ H Q) : PGs X e t' := ⟨fun pins s σ H v u Q I r q => h.run pins s σ H v u Q I r (i v σ H Q q)⟩
theorem PI.imp {X : Cx} {tg e : Expr} {t t' : TI} (h : PI X tg e t) (i : ∀ σ H Q, t' σ H Q → t σ H Q) : PI X tg e t' := ⟨fun pins s σ H Q I q => h.run pins s σ H Q I (i σ H Q q)⟩

section
variable (K : PySem.W.Frag)
def Ans (ρ : List Addr) (s : Sto) (H : Hp) (k : KD) (Q : VK) : Prop := ∀ (d : D) (s' : Sto) (v : V) (ρ' : List Addr) (H' : Hp), Ext s ρ H s' ρ' H' → RS K ρ' s' H' → RD K ρ' H' d v → k d s' = true → Q v H'
def AnsL (n : Nat) (ρ : List Addr) (s : Sto) (H : Hp) (k : KL) (Q : List V → Hp → Prop) : Prop := ∀ (d : List D) (s' : Sto) (v : List V) (ρ' : List Addr) (H' : Hp), d.length = n → Ext s ρ H s' ρ' H' → RS K ρ' s' H' → RDs K ρ' H' d v → k d s' = true → Q v H'
def AnsB (ρ : List Addr) (s : Sto) (H : Hp) (k : Bool → Sto → Bool) (Q : Bool → Hp → Prop) : Prop := ∀ (b : Bool) (s' : Sto) (ρ' : List Addr) (H' : Hp), Ext s ρ H s' ρ' H' → RS K ρ' s' H' → k b s' = true → Q b H'
/-- only these places are changed -/
def Upd (sl : List Nat) (σ σ' : LSt) : Prop := σ'.length = σ.length ∧ ∀ j, j ∉ sl → σ'[j]? = σ[j]?
def AnsG (sl : List Nat) (σ : LSt) (ρ : List Addr) (s : Sto) (H : Hp) (k : KS) (Q : LSt → Hp → Prop) : Prop := ∀ (σd' : Loc) (s' : Sto) (σ' : LSt) (ρ' : List Addr) (H' : Hp), Ext s ρ H s' ρ' H' → RS K ρ' s' H' → RL K ρ' H' σd' σ' → Upd sl σ σ' → k σd' s' = true → Q σ' H'
def AnsN (ρ : List Addr) (s : Sto) (H : Hp) (k : KS) (Q : LSt → Hp → Prop) : Prop := ∀ (σd' : Loc) (s' : Sto) (σ' : LSt) (ρ' : List Addr) (H' : Hp), Ext s ρ H s' ρ' H' → RS K ρ' s' H' → RL K ρ' H' σd' σ' → k σd' s' = true → Q σ' H'
def tev (c : Loc → Sto → KD → Bool) : TE := fun σ H Q => ∃ ρ s σd k, RS K ρ s H ∧ RL K ρ H σd σ ∧ c σd s k = true ∧ Ans K ρ s H k Q
def tevT (c : Loc → Sto → (Bool → Sto → Bool) → Bool) : TT := fun σ H Q => ∃ ρ s σd k, RS K ρ s H ∧ RL K ρ H σd σ ∧ c σd s k = true ∧ AnsB K ρ s H k Q
def tevA (n : Nat) (c : Loc → Sto → KL → Bool) : TA := fun σ H Q => ∃ ρ s σd k, RS K ρ s H ∧ RL K ρ H σd σ ∧ c σd s k = true ∧ AnsL K n ρ s H k Q
def tevG (sl : List Nat) (t : D → Loc → Sto → KS → Bool) : TG := fun v σ H Q => ∃ ρ s σd d k, RS K ρ s H ∧ RL K ρ H σd σ ∧ RD K ρ H d v ∧ t d σd s k = true ∧ AnsG K sl σ ρ s H k Q
def tevGs (sl : List Nat) (t : List D → Loc → Sto → KS → Bool) : TGs := fun v σ H Q => ∃ ρ s σd d k, RS K ρ s H ∧ RL K ρ H σd σ ∧ RDs K ρ H d v ∧ t d σd s k = true ∧ AnsG K sl σ ρ s H k Q
structure AnsS (ρ : List Addr) (s : Sto) (H : Hp) (k : Ks) (D : Ends) : Prop where
  nx : AnsN K ρ s H k.nx D.nx
  rt : Ans K ρ s H k.rt D.rt
  bk : AnsN K ρ s H k.bk D.bk
  ct : AnsN K ρ s H k.ct D.ct
def tevS (c : Loc → Sto → Ks → Bool) : TS := fun D σ H => ∃ ρ s σd k, RS K ρ s H ∧ RL K ρ H σd σ ∧ c σd s k = true ∧ AnsS K ρ s H k D
/-- a walk of the meaning beside one of the machine, from a state on -/
def WkOk (s0 : Sto) (ρ0 : List Addr) (H0 : Hp) (w : Wk) (J : It) : Prop := ∀ (i : Nat) (ρ : List Addr) (s : Sto) (H : Hp) (st : Sto → Bool) (it : D → Sto → Bool), Ext s0 ρ0 H0 s ρ H → RS K ρ s H → w i s st it = true →
  (J.stop i H ∧ st s = true) ∨ (J.go i H ∧ ∀ x H', J.yld i H x H' → ∃ d ρ' s', Ext s ρ H s' ρ' H' ∧ RS K ρ' s' H' ∧ RD K ρ' H' d x ∧ it d s' = true)
def tevI (c : Loc → Sto → (Wk → Sto → Bool) → Bool) : TI := fun σ H R => ∃ ρ s σd k, RS K ρ s H ∧ RL K ρ H σd σ ∧ c σd s k = true ∧
  ∀ (w : Wk) (s' : Sto) (J : It) (ρ' : List Addr) (H' : Hp), Ext s ρ H s' ρ' H' → RS K ρ' s' H' → WkOk K s' ρ' H' w J → k w s' = true → R J H'
/-- an operation by values -/
def Op2Ok (o : Op2) (r : R2) : Prop := ∀ (ρ : List Addr) (s : Sto) (H : Hp) (x y : D) (v w : V) (k : KD) (Q : VK), RS K ρ s H → RD K ρ H x v → RD K ρ H y w → o x y s k = true → Ans K ρ s H k Q → r v w H Q
def Op1Ok (o : D → Sto → KD → Bool) (r : List V → Hp → VK → Prop) : Prop := ∀ (ρ : List Addr) (s : Sto) (H : Hp) (x : D) (v : V) (k : KD) (Q : VK), RS K ρ s H → RD K ρ H x v → o x s k = true → Ans K ρ s H k Q → r [v] H Q
end

section
variable {K : PySem.W.Frag} {ρ ρ' ρ1 ρ2 ρ3 : List Addr} {H H' H1 H2 H3 : Hp} {s s' s1 s2 s3 : Sto}
theorem Ans.mono {k : KD} {Q : VK} (A : Ans K ρ s H k Q) (E : Ext s ρ H s1 ρ1 H1) (S : RS K ρ s H) (S1 : RS K ρ1 s1 H1) : Ans K ρ1 s1 H1 k Q :=
  fun d s' v ρ' H' e S' r h => A d s' v ρ' H' (E.trans e S S1) S' r h
theorem AnsL.mono {n : Nat} {k : KL} {Q : List V → Hp → Prop} (A : AnsL K n ρ s H k Q) (E : Ext s ρ H s1 ρ1 H1) (S : RS K ρ s H) (S1 : RS K ρ1 s1 H1) : AnsL K n ρ1 s1 H1 k Q :=
  fun d s' v ρ' H' l e S' r h => A d s' v ρ' H' l (E.trans e S S1) S' r h
theorem AnsB.mono {k : Bool → Sto → Bool} {Q : Bool → Hp → Prop} (A : AnsB K ρ s H k Q) (E : Ext s ρ H s1 ρ1 H1) (S : RS K ρ s H) (S1 : RS K ρ1 s1 H1) : AnsB K ρ1 s1 H1 k Q :=
  fun d s' ρ' H' e S' h => A d s' ρ' H' (E.trans e S S1) S' h
theorem AnsN.mono {k : KS} {Q : LSt → Hp → Prop} (A : AnsN K ρ s H k Q) (E : Ext s ρ H s1 ρ1 H1) (S : RS K ρ s H) (S1 : RS K ρ1 s1 H1) : AnsN K ρ1 s1 H1 k Q :=
  fun d s' v ρ' H' e S' r h => A d s' v ρ' H' (E.trans e S S1) S' r h
theorem AnsG.mono {sl : List Nat} {σ : LSt} {k : KS} {Q : LSt → Hp → Prop} (A : AnsG K sl σ ρ s H k Q) (E : Ext s ρ H s1 ρ1 H1) (S : RS K ρ s H) (S1 : RS K ρ1 s1 H1) : AnsG K sl σ ρ1 s1 H1 k Q :=
  fun d s' v ρ' H' e S' r u h => A d s' v ρ' H' (E.trans e S S1) S' r u h
theorem AnsS.mono {k : Ks} {D : Ends} (A : AnsS K ρ s H k D) (E : Ext s ρ H s1 ρ1 H1) (S : RS K ρ s H) (S1 : RS K ρ1 s1 H1) : AnsS K ρ1 s1 H1 k D :=
  ⟨A.nx.mono E S S1, A.rt.mono E S S1, A.bk.mono E S S1, A.ct.mono E S S1⟩
/-- the answer at the state itself -/
theorem Ans.here {k : KD} {Q : VK} (A : Ans K ρ s H k Q) (S : RS K ρ s H) {d : D} {v : V} (r : RD K ρ H d v) (h : k d s = true) : Q v H := A d s v ρ H Ext.refl S r h
/-- a new tuple -/
theorem Ans.tup {k : KD} {Q : VK} (A : Ans K ρ s H k Q) (S : RS K ρ s H) {ds : List D} {vs : List V} (r : RDs K ρ H ds vs) (h : k (.tup ds) s = true) {p : Addr} (hp : H p = none) : Q (.ref p) (upd H p (.tup vs)) :=
  A _ s _ ρ _ (Ext.tuple hp) (S.tuple hp) (by unfold RD; exact ⟨p, vs, rfl, .inl (.inl upd_same), r.mono (Ext.tuple (s := s) hp) S⟩) h
/-- a new list -/
theorem Ans.lst {k : KD} {Q : VK} (A : Ans K ρ s H k Q) (S : RS K ρ s H) {ds : List D} {vs : List V} (r : RDs K ρ H ds vs) (l : vs.length ≤ 1000000) (h : newL ds s k = true) {p : Addr} (hp : H p = none) : Q (.ref p) (upd H p (.lst vs)) := by
  have E : Ext s ρ H ⟨Nat.succ s.n, (s.n, .lst ds) :: s.l⟩ (ρ ++ [p]) (upd H p (.lst vs)) := Ext.new S (fun x m => (List.mem_cons.mp m).elim .inr .inl) hp
  refine A _ _ _ _ _ E (S.new hp ⟨vs, rfl, ?_, l⟩) ?_ h
  · exact RDs.mono r E S
  · unfold RD; exact ⟨p, rfl, at_new S⟩
theorem line1 : (1000000 : Nat) ≤ sizeLine := by rw [sizeLine_eq]; decide

/-! ### expressions -/
theorem var_imp {i : Nat} : ∀ (σ : LSt) (H : Hp) (Q : VK), tev K (fun σ s k => getK σ i fun d => k d s) σ H Q → tVar i σ H Q := fun σ H Q ⟨ρ, s, σd, k, S, L, h, A⟩ => by
  obtain ⟨d, e, h⟩ := getK_some h
  obtain ⟨v, e2, r⟩ := L.at_ i d e
  exact ⟨v, e2, A.here S r h⟩
theorem cst_imp {d : D} {v : V} (r : ∀ ρ H, RD K ρ H d v) : ∀ (σ : LSt) (H : Hp) (Q : VK), tev K (fun _ s k => k d s) σ H Q → tC v σ H Q := fun σ H Q ⟨ρ, s, σd, k, S, L, h, A⟩ => A.here S (r ρ H) h
theorem op2_imp {o : Op2} {r : R2} {a b : Loc → Sto → KD → Bool} (ho : Op2Ok K o r) : ∀ (σ : LSt) (H : Hp) (Q : VK), tev K (fun σ s k => a σ s fun x s1 => b σ s1 fun y s2 => o x y s2 k) σ H Q → tOp r (tev K a) (tev K b) σ H Q := fun σ H Q ⟨ρ, s, σd, k, S, L, h, A⟩ => by
  refine ⟨ρ, s, σd, _, S, L, h, fun x s1 v ρ1 H1 E1 S1 R1 h1 => ?_⟩
  refine ⟨ρ1, s1, σd, _, S1, L.mono E1 S, h1, fun y s2 w ρ2 H2 E2 S2 R2 h2 => ?_⟩
  exact ho _ _ _ _ _ _ _ _ _ S2 (R1.mono E2 S1) R2 h2 (A.mono (E1.trans E2 S S1) S S2)
theorem RD.int {i : Int} {v : V} (h : RD K ρ H (.int i) v) : v = .int i := by unfold RD at h; exact h
theorem RD.bl {i : Bool} {v : V} (h : RD K ρ H (.bl i) v) : v = .bl i := by unfold RD at h; exact h
theorem RD.non {v : V} (h : RD K ρ H .non v) : v = .non := by unfold RD at h; exact h
theorem RD.tup {ds : List D} {v : V} (h : RD K ρ H (.tup ds) v) : ∃ a vs, v = .ref a ∧ SqT K H a vs ∧ RDs K ρ H ds vs := by unfold RD at h; exact h
theorem RD.ref {i : Nat} {v : V} (h : RD K ρ H (.ref i) v) : ∃ a, v = .ref a ∧ ρ[i]? = some a := by unfold RD at h; exact h
theorem RD.str {i : List Nat} {v : V} (h : RD K ρ H (.str i) v) : ∃ x : Str, v = .str x ∧ x.cps.toList = i ∧ PyData.strOk x = true := by unfold RD at h; exact h
theorem rd_int {i : Int} : RD K ρ H (.int i) (.int i) := by unfold RD; rfl
theorem rd_bl {i : Bool} : RD K ρ H (.bl i) (.bl i) := by unfold RD; rfl
theorem rd_non : RD K ρ H .non .non := by unfold RD; rfl
/-- a list of the store, at its address -/
theorem RS.list {i : Nat} {ds : List D} {v : V} (S : RS K ρ s H) (r : RD K ρ H (.ref i) v) (m : (i, .lst ds) ∈ s.l) : ∃ a vs, v = .ref a ∧ ρ[i]? = some a ∧ H a = some (.lst vs) ∧ RDs K ρ H ds vs ∧ vs.length ≤ 1000000 := by
  obtain ⟨a, e, p⟩ := r.ref
  obtain ⟨b, q, vs, h1, h2, h3⟩ := S.ob i _ m
  rw [p] at q
  cases q
  exact ⟨a, vs, e, p, h1, h2, h3⟩
theorem RS.dict {i : Nat} {ds : List (Int × D)} {v : V} (S : RS K ρ s H) (r : RD K ρ H (.ref i) v) (m : (i, .dct ds) ∈ s.l) : ∃ a vs, v = .ref a ∧ ρ[i]? = some a ∧ H a = some (.dK vs) ∧ RKs K ρ H ds vs ∧ vs.length ≤ 1000000 := by
  obtain ⟨a, e, p⟩ := r.ref
  obtain ⟨b, q, vs, h1, h2, h3⟩ := S.ob i _ m
  rw [p] at q
  cases q
  exact ⟨a, vs, e, p, h1, h2, h3⟩
theorem opII_ok {f : Int → Int → D} {g : Int → Int → V} (e : ∀ i j ρ H, RD K ρ H (f i j) (g i j)) : Op2Ok K (opII f) (rI0 g) := fun ρ s H x y v w k Q S r1 r2 h A => by
  have h : onI x (fun i => onI y fun j => k (f i j) s) = true := h
  obtain ⟨i, e1, h1⟩ := onI_some h
  obtain ⟨j, e2, h2⟩ := onI_some h1
  subst e1; subst e2
  exact ⟨i, j, r1.int, r2.int, A.here S (e i j ρ H) h2⟩
theorem neg_imp {a : Loc → Sto → KD → Bool} : ∀ (σ : LSt) (H : Hp) (Q : VK), tev K (fun σ s k => a σ s fun x s1 => onI x fun i => k (.int (Int.neg i)) s1) σ H Q → tUn (rU fun i => .int (-i)) (tev K a) σ H Q := fun σ H Q ⟨ρ, s, σd, k, S, L, h, A⟩ => by
  refine ⟨ρ, s, σd, _, S, L, h, fun x s1 v ρ1 H1 E1 S1 R1 h1 => ?_⟩
  obtain ⟨i, rfl, h1⟩ := onI_some h1
  exact ⟨i, R1.int, (A.mono E1 S S1).here S1 rd_int h1⟩
/-- truth -/
theorem tru_ok {x : D} {v : V} {k : Bool → Bool} (S : RS K ρ s H) (r : RD K ρ H x v) (h : truK x s k = true) : ∃ b, TruV K v H b ∧ k b = true := by
  cases x with
  | non => rw [r.non]; exact ⟨false, rfl, h⟩
  | bl b => rw [r.bl]; exact ⟨b, rfl, h⟩
  | int i => rw [r.int]; exact ⟨nz i, nz_iff, h⟩
  | str _ => cases h
  | tup xs =>
    obtain ⟨a, vs, rfl, t, q⟩ := r.tup
    refine ⟨!xs.isEmpty, .inr (.inl ⟨vs, t, ?_⟩), h⟩
    have := q.len
    cases xs <;> cases vs <;> first | rfl | cases this
  | ref i =>
    have h : lookK s.l i (fun o => match o with
      | .lst xs => k (!xs.isEmpty)
      | .dct kvs => k (!kvs.isEmpty)
      | .drw => false) = true := h
    obtain ⟨o, m, h⟩ := lookK_some h
    cases o with
    | lst xs =>
      obtain ⟨a, vs, rfl, _, t, q, _⟩ := S.list r m
      refine ⟨!xs.isEmpty, .inl ⟨vs, SqL.of t, ?_⟩, h⟩
      have := q.len
      cases xs <;> cases vs <;> first | rfl | cases this
    | dct xs =>
      obtain ⟨a, vs, rfl, _, t, q, _⟩ := S.dict r m
      refine ⟨!xs.isEmpty, .inr (.inr ⟨vs, t, ?_⟩), h⟩
      cases xs with
      | nil => unfold RKs at q; rw [q]; rfl
      | cons p r => unfold RKs at q; obtain ⟨_, _, e, _⟩ := q; rw [e]; rfl
    | drw => cases h
theorem orV_imp {a b : Loc → Sto → KD → Bool} : ∀ (σ : LSt) (H : Hp) (Q : VK), tev K (fun σ s k => a σ s fun x s1 => truK x s1 fun t => @Bool.rec (fun _ => Bool) (b σ s1 k) (k x s1) t) σ H Q → tOrT K (tev K a) (tev K b) σ H Q := fun σ H Q ⟨ρ, s, σd, k, S, L, h, A⟩ => by
  refine ⟨ρ, s, σd, _, S, L, h, fun x s1 v ρ1 H1 E1 S1 R1 h1 => ?_⟩
  obtain ⟨t, ht, h1⟩ := tru_ok S1 R1 h1
  refine ⟨t, ht, ?_⟩
  rcases brec h1 with ⟨e, q⟩ | ⟨e, q⟩ <;> subst e
  · rw [if_neg Bool.false_ne_true]; exact ⟨ρ1, s1, σd, k, S1, L.mono E1 S, q, A.mono E1 S S1⟩
  · rw [if_pos rfl]; exact (A.mono E1 S S1).here S1 R1 q
theorem andV_imp {a b : Loc → Sto → KD → Bool} : ∀ (σ : LSt) (H : Hp) (Q : VK), tev K (fun σ s k => a σ s fun x s1 => truK x s1 fun t => @Bool.rec (fun _ => Bool) (k x s1) (b σ s1 k) t) σ H Q → tAndT K (tev K a) (tev K b) σ H Q := fun σ H Q ⟨ρ, s, σd, k, S, L, h, A⟩ => by
  refine ⟨ρ, s, σd, _, S, L, h, fun x s1 v ρ1 H1 E1 S1 R1 h1 => ?_⟩
  obtain ⟨t, ht, h1⟩ := tru_ok S1 R1 h1
  refine ⟨t, ht, ?_⟩
  rcases brec h1 with ⟨e, q⟩ | ⟨e, q⟩ <;> subst e
  · rw [if_neg Bool.false_ne_true]; exact (A.mono E1 S S1).here S1 R1 q
  · rw [if_pos rfl]; exact ⟨ρ1, s1, σd, k, S1, L.mono E1 S, q, A.mono E1 S S1⟩
theorem notV_imp {a : Loc → Sto → KD → Bool} : ∀ (σ : LSt) (H : Hp) (Q : VK), tev K (fun σ s k => a σ s fun x s1 => truK x s1 fun b => k (.bl (!b)) s1) σ H Q → tNotT K (tev K a) σ H Q := fun σ H Q ⟨ρ, s, σd, k, S, L, h, A⟩ => by
  refine ⟨ρ, s, σd, _, S, L, h, fun x s1 v ρ1 H1 E1 S1 R1 h1 => ?_⟩
  obtain ⟨t, ht, h1⟩ := tru_ok S1 R1 h1
  exact ⟨t, ht, (A.mono E1 S S1).here S1 rd_bl h1⟩
/-- tests -/
theorem tru_imp {a : Loc → Sto → KD → Bool} : ∀ (σ : LSt) (H : Hp) (Q : Bool → Hp → Prop), tevT K (fun σ s k => a σ s fun x s1 => truK x s1 fun b => k b s1) σ H Q → tev K a σ H fun x H1 => ∃ b, TruV K x H1 b ∧ Q b H1 := fun σ H Q ⟨ρ, s, σd, k, S, L, h, A⟩ => by
  refine ⟨ρ, s, σd, _, S, L, h, fun x s1 v ρ1 H1 E1 S1 R1 h1 => ?_⟩
  obtain ⟨t, ht, h1⟩ := tru_ok S1 R1 h1
  exact ⟨t, ht, A t s1 ρ1 H1 E1 S1 h1⟩
theorem notT_imp {c : Loc → Sto → (Bool → Sto → Bool) → Bool} : ∀ (σ : LSt) (H : Hp) (Q : Bool → Hp → Prop), tevT K (fun σ s k => c σ s fun b s1 => k (!b) s1) σ H Q → tNot (tevT K c) σ H Q := fun σ H Q ⟨ρ, s, σd, k, S, L, h, A⟩ =>
  ⟨ρ, s, σd, _, S, L, h, fun b s1 ρ1 H1 E1 S1 h1 => A (!b) s1 ρ1 H1 E1 S1 h1⟩
theorem ifV_imp {c : Loc → Sto → (Bool → Sto → Bool) → Bool} {a b : Loc → Sto → KD → Bool} : ∀ (σ : LSt) (H : Hp) (Q : VK), tev K (fun σ s k => c σ s fun t s1 => @Bool.rec (fun _ => Bool) (b σ s1 k) (a σ s1 k) t) σ H Q → tIf (tevT K c) (tev K a) (tev K b) σ H Q := fun σ H Q ⟨ρ, s, σd, k, S, L, h, A⟩ => by
  refine ⟨ρ, s, σd, _, S, L, h, fun t s1 ρ1 H1 E1 S1 h1 => ?_⟩
  rcases brec h1 with ⟨e, q⟩ | ⟨e, q⟩ <;> subst e
  · rw [if_neg Bool.false_ne_true]; exact ⟨ρ1, s1, σd, k, S1, L.mono E1 S, q, A.mono E1 S S1⟩
  · rw [if_pos rfl]; exact ⟨ρ1, s1, σd, k, S1, L.mono E1 S, q, A.mono E1 S S1⟩
theorem ifS_imp {c : Loc → Sto → (Bool → Sto → Bool) → Bool} {a b : Loc → Sto → Ks → Bool} : ∀ (D : Ends) (σ : LSt) (H : Hp), tevS K (fun σ s k => c σ s fun t s1 => @Bool.rec (fun _ => Bool) (b σ s1 k) (a σ s1 k) t) D σ H → tIfS (tevT K c) (tevS K a) (tevS K b) D σ H := fun D σ H ⟨ρ, s, σd, k, S, L, h, A⟩ => by
  refine ⟨ρ, s, σd, _, S, L, h, fun t s1 ρ1 H1 E1 S1 h1 => ?_⟩
  rcases brec h1 with ⟨e, q⟩ | ⟨e, q⟩ <;> subst e
  · rw [if_neg Bool.false_ne_true]; exact ⟨ρ1, s1, σd, k, S1, L.mono E1 S, q, A.mono E1 S S1⟩
  · rw [if_pos rfl]; exact ⟨ρ1, s1, σd, k, S1, L.mono E1 S, q, A.mono E1 S S1⟩
/-- and, or as tests -/
theorem andT_imp {a b : Loc → Sto → (Bool → Sto → Bool) → Bool} : ∀ (σ : LSt) (H : Hp) (Q : Bool → Hp → Prop), tevT K (fun σ s k => a σ s fun t s1 => @Bool.rec (fun _ => Bool) (k false s1) (b σ s1 k) t) σ H Q → tAnd (tevT K a) (tevT K b) σ H Q := fun σ H Q ⟨ρ, s, σd, k, S, L, h, A⟩ => by
  refine ⟨ρ, s, σd, _, S, L, h, fun t s1 ρ1 H1 E1 S1 h1 => ?_⟩
  rcases brec h1 with ⟨e, q⟩ | ⟨e, q⟩ <;> subst e
  · rw [if_neg Bool.false_ne_true]; exact A false s1 ρ1 H1 E1 S1 q
  · rw [if_pos rfl]; exact ⟨ρ1, s1, σd, k, S1, L.mono E1 S, q, A.mono E1 S S1⟩
theorem orT_imp {a b : Loc → Sto → (Bool → Sto → Bool) → Bool} : ∀ (σ : LSt) (H : Hp) (Q : Bool → Hp → Prop), tevT K (fun σ s k => a σ s fun t s1 => @Bool.rec (fun _ => Bool) (b σ s1 k) (k true s1) t) σ H Q → tOr (tevT K a) (tevT K b) σ H Q := fun σ H Q ⟨ρ, s, σd, k, S, L, h, A⟩ => by
  refine ⟨ρ, s, σd, _, S, L, h, fun t s1 ρ1 H1 E1 S1 h1 => ?_⟩
  rcases brec h1 with ⟨e, q⟩ | ⟨e, q⟩ <;> subst e
  · rw [if_neg Bool.false_ne_true]; exact ⟨ρ1, s1, σd, k, S1, L.mono E1 S, q, A.mono E1 S S1⟩
  · rw [if_pos rfl]; exact A true s1 ρ1 H1 E1 S1 q
theorem ifT_imp {c a b : Loc → Sto → (Bool → Sto → Bool) → Bool} : ∀ (σ : LSt) (H : Hp) (Q : Bool → Hp → Prop), tevT K (fun σ s k => c σ s fun t s1 => @Bool.rec (fun _ => Bool) (b σ s1 k) (a σ s1 k) t) σ H Q → (tevT K c) σ H fun t H1 => if t = true then tevT K a σ H1 Q else tevT K b σ H1 Q := fun σ H Q ⟨ρ, s, σd, k, S, L, h, A⟩ => by
  refine ⟨ρ, s, σd, _, S, L, h, fun t s1 ρ1 H1 E1 S1 h1 => ?_⟩
  rcases brec h1 with ⟨e, q⟩ | ⟨e, q⟩ <;> subst e
  · rw [if_neg Bool.false_ne_true]; exact ⟨ρ1, s1, σd, k, S1, L.mono E1 S, q, A.mono E1 S S1⟩
  · rw [if_pos rfl]; exact ⟨ρ1, s1, σd, k, S1, L.mono E1 S, q, A.mono E1 S S1⟩
/-- arguments -/
theorem nil_imp : ∀ (σ : LSt) (H : Hp) (Q : List V → Hp → Prop), tevA K 0 (fun _ s k => k [] s) σ H Q → tNil σ H Q := fun σ H Q ⟨ρ, s, σd, k, S, L, h, A⟩ => A [] s [] ρ H rfl Ext.refl S .nil h
theorem cons_imp {n : Nat} {a : Loc → Sto → KD → Bool} {r : Loc → Sto → KL → Bool} : ∀ (σ : LSt) (H : Hp) (Q : List V → Hp → Prop), tevA K (n + 1) (fun σ s k => a σ s fun x s1 => r σ s1 fun xs s2 => k (x :: xs) s2) σ H Q → tCons (tev K a) (tevA K n r) σ H Q := fun σ H Q ⟨ρ, s, σd, k, S, L, h, A⟩ => by
  refine ⟨ρ, s, σd, _, S, L, h, fun x s1 v ρ1 H1 E1 S1 R1 h1 => ?_⟩
  refine ⟨ρ1, s1, σd, _, S1, L.mono E1 S, h1, fun y s2 w ρ2 H2 l E2 S2 R2 h2 => ?_⟩
  exact A _ s2 _ ρ2 H2 (by rw [List.length_cons, l]) (E1.trans E2 S S1) S2 (.cons (R1.mono E2 S1) R2) h2
theorem tup_imp {r : Loc → Sto → KL → Bool} {n : Nat} (hn : n ≤ 1000000) : ∀ (σ : LSt) (H : Hp) (Q : VK), tev K (fun σ s k => r σ s fun ds s1 => k (.tup ds) s1) σ H Q → tTup (tevA K n r) σ H Q := fun σ H Q ⟨ρ, s, σd, k, S, L, h, A⟩ => by
  refine ⟨ρ, s, σd, _, S, L, h, fun x s1 v ρ1 H1 l E1 S1 R1 h1 => ?_⟩
  exact ⟨by rw [R1.len, l]; exact Nat.le_trans hn line1, fun p hp => (A.mono E1 S S1).tup S1 R1 h1 hp⟩
theorem lst_imp {r : Loc → Sto → KL → Bool} {n : Nat} (hn : n ≤ 1000000) : ∀ (σ : LSt) (H : Hp) (Q : VK), tev K (fun σ s k => r σ s fun ds s1 => newL ds s1 k) σ H Q → tLst (tevA K n r) σ H Q := fun σ H Q ⟨ρ, s, σd, k, S, L, h, A⟩ => by
  refine ⟨ρ, s, σd, _, S, L, h, fun x s1 v ρ1 H1 l E1 S1 R1 h1 => ?_⟩
  exact ⟨by rw [R1.len, l]; exact Nat.le_trans hn line1, fun p hp => (A.mono E1 S S1).lst S1 R1 (by rw [R1.len, l]; exact hn) h1 hp⟩
end
end Zev

set_option Elab.async false
set_option linter.all false
set_option maxRecDepth 100000
/-! Zev5: operations by values beside the layer's rules. -/
namespace Zev
open PySem PySem.Spec PyProof.Rows L2
section
variable {K : PySem.W.Frag} {ρ ρ' ρ1 ρ2 ρ3 : List Addr} {H H' H1 H2 H3 : Hp} {s s' s1 s2 s3 : Sto}

theorem Ans.drop {k : KD} {Q : VK} (A : Ans K ρ s H k Q) (S : RS K ρ s H) {d : D} {v : V} (r : RD K ρ H d v) {l : List (Nat × O)} (hl : List.Sublist l s.l) (h : k d ⟨s.n, l⟩ = true) : Q v H :=
  A d ⟨s.n, l⟩ v ρ H (Ext.sub hl) (S.sub hl) r h
theorem pop1_sub {l : List (Nat × O)} {x : D} : List.Sublist (pop1 l x) l := by
  unfold pop1
  split
  · split
    · exact List.sublist_cons_self _ _
    · exact List.Sublist.refl _
  · exact List.Sublist.refl _
theorem le5_iff {n : Nat} (h : le5 n = true) : n ≤ 100000 := Nat.le_of_ble_eq_true h
theorem line5 {n : Nat} (h : n ≤ 100000) : n ≤ sizeLine := Nat.le_trans h (Nat.le_trans (by decide) line1)

/-! ### binary operators -/
theorem seq_of {x : D} {v : V} {xs : List D} (S : RS K ρ s H) (r : RD K ρ H x v) (h : x = .tup xs ∨ ∃ a, x = .ref a ∧ (a, .lst xs) ∈ s.l) :
    ∃ p vs, v = .ref p ∧ (SqL K H p vs ∨ SqT K H p vs) ∧ RDs K ρ H xs vs := by
  rcases h with rfl | ⟨a, rfl, m⟩
  · obtain ⟨p, vs, e, t, q⟩ := r.tup
    exact ⟨p, vs, e, .inr t, q⟩
  · obtain ⟨p, vs, e, _, t, q, _⟩ := S.list r m
    exact ⟨p, vs, e, .inl (SqL.of t), q⟩
theorem RDs.nil_iff {ds : List D} {vs : List V} (h : RDs K ρ H ds vs) : vs = [] ↔ ds = [] := by
  have := h.len
  constructor
  · intro e; subst e; cases ds with
    | nil => rfl
    | cons _ _ => cases this
  · intro e; subst e; cases vs with
    | nil => rfl
    | cons _ _ => cases this
def rAddZ (K : PySem.W.Frag) : R2 := fun x y H Q => rI0 (fun i j => .int (i + j)) x y H Q ∨ (rCatA K x y H Q ∨ rCat x y H Q)
theorem op_addZ {X : Cx} : OpR X (binaryOp .Add) (rAddZ X.K) := OpR.or op_add (OpR.or op_catA op_cat)
theorem opAdd_ok : Op2Ok K opAdd (rAddZ K) := fun ρ s H x y v w k Q S r1 r2 h A => by
  unfold opAdd at h
  split at h
  · exact .inl ⟨_, _, r1.int, r2.int, A.here S rd_int h⟩
  · obtain ⟨p, vs, rfl, t1, q1⟩ := r1.tup
    obtain ⟨p2, ws, rfl, t2, q2⟩ := r2.tup
    obtain ⟨c, h⟩ := brecT h
    have c := le5_iff c
    rw [lenN_eq, lenN_eq] at c
    refine .inr (.inl ⟨p, p2, vs, ws, rfl, rfl, t1, t2, ?_, fun z => A.here S r2 ?_, fun _ z => A.here S r1 ?_, fun _ _ p hp => A.tup S (q1.append q2) h hp⟩)
    · rw [q1.len, q2.len]; exact line5 c
    · rw [q1.nil_iff.mp z] at h; exact h
    · rw [q2.nil_iff.mp z, List.append_nil] at h; exact h
  · obtain ⟨o, m, h⟩ := lookK_some h
    obtain ⟨xs, rfl, h⟩ := onL_some h
    obtain ⟨o2, m2, h⟩ := lookK_some h
    obtain ⟨ys, rfl, h⟩ := onL_some h
    obtain ⟨c, h⟩ := brecT h
    have c := le5_iff c
    rw [lenN_eq, lenN_eq] at c
    obtain ⟨p, vs, rfl, _, t1, q1, _⟩ := S.list r1 m
    obtain ⟨p2, ws, rfl, _, t2, q2, _⟩ := S.list r2 m2
    have c2 : vs.length + ws.length ≤ 100000 := by rw [q1.len, q2.len]; exact c
    refine .inr (.inr ⟨p, p2, vs, ws, rfl, rfl, t1, t2, line5 c2, fun p hp => A.lst S (q1.append q2) ?_ h hp⟩)
    rw [List.length_append]; exact Nat.le_trans c2 (by decide)
  · cases h
theorem opSub_ok : Op2Ok K (opII fun i j => .int (Int.sub i j)) (rI0 fun i j => .int (i - j)) := opII_ok fun _ _ _ _ => rd_int
theorem small64_iff {i : Int} (h : small64 i = true) : -(2 ^ 64) < i ∧ i < 2 ^ 64 := by
  have h : Int.natAbs i < 18446744073709551616 := by
    have := (Nat.blt_eq).mp h
    exact this
  omega
theorem rep_eq {xs : List V} : ∀ n, (List.replicate n xs).flatten = Nat.rec (motive := fun _ => List V) [] (fun _ r => xs ++ r) n
  | 0 => rfl
  | n + 1 => by rw [List.replicate_succ, List.flatten_cons, rep_eq n]
theorem RDs.rep {ds : List D} {vs : List V} (h : RDs K ρ H ds vs) : ∀ n, RDs K ρ H (rep ds n) (List.replicate n vs).flatten
  | 0 => .nil
  | n + 1 => by rw [List.replicate_succ, List.flatten_cons]; exact h.append (RDs.rep h n)
theorem rep_len {ds : List D} : ∀ n, (rep ds n).length = ds.length * n
  | 0 => rfl
  | n + 1 => by show (ds ++ rep ds n).length = _; rw [List.length_append, rep_len n, Nat.mul_succ, Nat.add_comm]
def rMulZ : R2 := fun x y H Q => rI CMul (fun i j => .int (i * j)) x y H Q ∨ rRep x y H Q
theorem op_mulZ {X : Cx} : OpR X (binaryOp .Mult) rMulZ := OpR.or op_mul op_rep
theorem opMul_ok : Op2Ok K opMul rMulZ := fun ρ s H x y v w k Q S r1 r2 h A => by
  unfold opMul at h
  split at h
  · rename_i i j
    rcases brec h with ⟨_, h⟩ | ⟨c, h⟩
    · obtain ⟨c, h⟩ := brecT h
      exact .inl ⟨_, _, r1.int, r2.int, .inr (small64_iff c), A.here S rd_int h⟩
    · exact .inl ⟨_, _, r1.int, r2.int, .inl (small64_iff c), A.here S rd_int h⟩
  · rename_i a n
    obtain ⟨o, m, h⟩ := lookK_some h
    obtain ⟨xs, rfl, h⟩ := onL_some h
    obtain ⟨c, h⟩ := brecT h
    obtain ⟨c1, c2⟩ := Bool.and_eq_true_iff.mp c
    have c1 := le5_iff c1
    have c2 := le5_iff c2
    rw [lenN_eq] at c2
    have c2 : xs.length * n ≤ 100000 := c2
    obtain ⟨p, vs, rfl, _, t1, q1, _⟩ := S.list r1 m
    refine .inr ⟨p, (n : Int), vs, rfl, r2.int, t1, ?_, ?_, ?_, fun p hp => A.lst S (q1.rep n) ?_ h hp⟩
    · omega
    · omega
    · rw [Int.toNat_natCast, q1.len]; exact line5 c2
    · have := (q1.rep n).len
      rw [this, rep_len]; exact Nat.le_trans c2 (by decide)
  · cases h
theorem opDiv_ok : Op2Ok K opDiv (rI CDivN fun i j => .int (i.fdiv j)) := fun ρ s H x y v w k Q S r1 r2 h A => by
  obtain ⟨i, rfl, h1⟩ := onI_some h
  obtain ⟨j, rfl, h1⟩ := onI_some h1
  obtain ⟨c, h1⟩ := brecT h1
  obtain ⟨c1, c2⟩ := Bool.and_eq_true_iff.mp c
  rw [nz_iff] at c1
  rw [divI_eq] at h1
  exact ⟨i, j, r1.int, r2.int, ⟨by simpa using c1, (Nat.blt_eq).mp c2⟩, A.here S rd_int h1⟩
theorem opMod_ok : Op2Ok K opMod (rI (fun _ j => j ≠ 0) fun i j => .int (i.fmod j)) := fun ρ s H x y v w k Q S r1 r2 h A => by
  obtain ⟨i, rfl, h1⟩ := onI_some h
  obtain ⟨j, rfl, h1⟩ := onI_some h1
  obtain ⟨c1, h1⟩ := brecT h1
  rw [nz_iff] at c1
  rw [modI_eq] at h1
  exact ⟨i, j, r1.int, r2.int, by simpa using c1, A.here S rd_int h1⟩
theorem natAbs_small {i : Int} (h : small64 i = true) : i.natAbs < 2 ^ 64 := (Nat.blt_eq).mp h
theorem opPow_ok : Op2Ok K opPow (rI CPow fun i j => .int (i ^ j.toNat)) := fun ρ s H x y v w k Q S r1 r2 h A => by
  obtain ⟨i, rfl, h1⟩ := onI_some h
  obtain ⟨j, rfl, h1⟩ := onI_some h1
  cases j with
  | ofNat n =>
    obtain ⟨c, h1⟩ := brecT h1
    obtain ⟨c1, c2⟩ := Bool.and_eq_true_iff.mp c
    have c1 := le5_iff c1
    exact ⟨i, (n : Int), r1.int, r2.int, ⟨by omega, by omega, natAbs_small c2⟩, A.here S rd_int h1⟩
  | negSucc n => cases h1
theorem opShl_ok : Op2Ok K opShl (rI CPow fun i j => .int (i * 2 ^ j.toNat)) := fun ρ s H x y v w k Q S r1 r2 h A => by
  obtain ⟨i, rfl, h1⟩ := onI_some h
  obtain ⟨j, rfl, h1⟩ := onI_some h1
  cases j with
  | ofNat n =>
    obtain ⟨c, h1⟩ := brecT h1
    obtain ⟨c1, c2⟩ := Bool.and_eq_true_iff.mp c
    have c1 := le5_iff c1
    exact ⟨i, (n : Int), r1.int, r2.int, ⟨by omega, by omega, natAbs_small c2⟩, A.here S rd_int h1⟩
  | negSucc n => cases h1
def opOf : BOp → Operator
  | .add => .Add | .sub => .Sub | .mul => .Mult | .fdiv => .FloorDiv | .mod => .Mod | .pow => .Pow | .shl => .LShift
def bopR (K : PySem.W.Frag) : BOp → R2
  | .add => rAddZ K | .sub => rI0 fun i j => .int (i - j) | .mul => rMulZ | .fdiv => rI CDivN fun i j => .int (i.fdiv j) | .mod => rI (fun _ j => j ≠ 0) fun i j => .int (i.fmod j)
  | .pow => rI CPow fun i j => .int (i ^ j.toNat) | .shl => rI CPow fun i j => .int (i * 2 ^ j.toNat)
theorem bop_rule {X : Cx} : ∀ o : BOp, OpR X (binaryOp (opOf o)) (bopR X.K o)
  | .add => op_addZ | .sub => op_sub | .mul => op_mulZ | .fdiv => op_fdivN | .mod => op_modN | .pow => op_pow | .shl => op_shl
theorem bop_ok : ∀ o : BOp, Op2Ok K (bop o) (bopR K o)
  | .add => opAdd_ok | .sub => opSub_ok | .mul => opMul_ok | .fdiv => opDiv_ok | .mod => opMod_ok | .pow => opPow_ok | .shl => opShl_ok

/-! ### comparisons -/
mutual
theorem toP_ok : ∀ (n : Nat) (d : D) (v : V) (p : PyData), RS K ρ s H → RD K ρ H d v → toP n s d = some p → Dp K H v p ∧ p.canLay0 = true ∧ p.depth ≤ n
  | 0, d, v, p, _, _, h => by unfold toP at h; cases h
  | n + 1, .non, v, p, _, r, h => by unfold toP at h; cases h; rw [r.non]; exact ⟨.non, by simp [PyData.canLay0], by simp [PyData.depth]⟩
  | n + 1, .bl b, v, p, _, r, h => by unfold toP at h; cases h; rw [r.bl]; exact ⟨.bl b, by simp [PyData.canLay0], by simp [PyData.depth]⟩
  | n + 1, .int i, v, p, _, r, h => by unfold toP at h; cases h; rw [r.int]; exact ⟨.int i, by simp [PyData.canLay0], by simp [PyData.depth]⟩
  | n + 1, .str c, v, p, _, r, h => by
    unfold toP at h; cases h
    obtain ⟨x, rfl, e, ok⟩ := r.str
    have ex : (⟨c.toArray⟩ : Str) = x := by subst e; cases x; simp
    rw [ex]
    exact ⟨.str x, by simpa [PyData.canLay0] using ok, by simp [PyData.depth]⟩
  | n + 1, .tup xs, v, p, S, r, h => by
    unfold toP at h
    obtain ⟨ps, hp, e⟩ := Option.map_eq_some_iff.mp h
    subst e
    obtain ⟨a, vs, e, t, q⟩ := r.tup
    subst e
    obtain ⟨h1, h2, h3⟩ := toPs_ok n xs vs ps S q hp
    exact ⟨.tup t h1, by simpa [PyData.canLay0] using h2, by simp only [PyData.depth]; omega⟩
  | n + 1, .ref i, v, p, S, r, h => by
    unfold toP at h
    split at h
    · rename_i xs e
      obtain ⟨ps, hp, e'⟩ := Option.map_eq_some_iff.mp h
      subst e'
      have m : (i, O.lst xs) ∈ s.l := by
        obtain ⟨l1, l2, e, _⟩ := List.lookup_eq_some_iff.mp e
        rw [e]; simp
      obtain ⟨a, vs, e', _, t, q, _⟩ := S.list r m
      subst e'
      obtain ⟨h1, h2, h3⟩ := toPs_ok n xs vs ps S q hp
      exact ⟨.lst (SqL.of t) h1, by simpa [PyData.canLay0] using h2, by simp only [PyData.depth]; omega⟩
    · cases h
theorem toPs_ok : ∀ (n : Nat) (d : List D) (v : List V) (p : List PyData), RS K ρ s H → RDs K ρ H d v → toPs n s d = some p → DpAll K H v p ∧ PyData.canLayAll0 p = true ∧ PyData.depthAll p ≤ n
  | 0, d, v, p, _, _, h => by unfold toPs at h; cases h
  | n + 1, [], v, p, _, r, h => by
    unfold toPs at h; cases h
    unfold RDs at r; subst r
    exact ⟨.nil, by simp [PyData.canLayAll0], by simp [PyData.depthAll]⟩
  | n + 1, x :: xs, v, p, S, r, h => by
    unfold toPs at h
    split at h
    · rename_i q qs e1 e2
      cases h
      unfold RDs at r
      obtain ⟨w, vs, rfl, r1, r2⟩ := r
      obtain ⟨a1, a2, a3⟩ := toP_ok n x w q S r1 e1
      obtain ⟨b1, b2, b3⟩ := toPs_ok n xs vs qs S r2 e2
      refine ⟨.cons a1 b1, by simp [PyData.canLayAll0, a2, b2], ?_⟩
      simp only [PyData.depthAll]
      omega
    · cases h
end
def rEqZ (K : PySem.W.Frag) : R2 := fun x y H Q => rEq x y H Q ∨ rEqD K x y H Q
def rNeZ (K : PySem.W.Frag) : R2 := fun x y H Q => rNe x y H Q ∨ rNeD K x y H Q
theorem str_eq {x y : Str} : decide (x.cps.toList = y.cps.toList) = decide (V.str x = V.str y) := by
  rw [Bool.eq_iff_iff, decide_eq_true_eq, decide_eq_true_eq]
  constructor
  · intro e
    cases x; cases y
    simp at e
    rw [e]
  · intro e; injection e with e; rw [e]
theorem int_eq {i j : Int} : decide (i = j) = decide (V.int i = V.int j) := by
  rw [Bool.eq_iff_iff, decide_eq_true_eq, decide_eq_true_eq]
  exact ⟨fun e => by rw [e], fun e => by injection e⟩
theorem eqDD_ok {x y : D} {v w : V} {k : Bool → Bool} (S : RS K ρ s H) (r1 : RD K ρ H x v) (r2 : RD K ρ H y w) (h : eqDD x y s k = true) :
    ∃ d e, Dp K H v d ∧ Dp K H w e ∧ SeqAt.shaped d = true ∧ SeqAt.shaped e = true ∧ k (PyData.eqv d e) = true := by
  unfold eqDD at h
  split at h
  · rename_i p q e1 e2
    obtain ⟨a1, a2, a3⟩ := toP_ok 40 x v p S r1 e1
    obtain ⟨b1, b2, b3⟩ := toP_ok 40 y w q S r2 e2
    refine ⟨p, q, a1, b1, ?_, ?_, h⟩
    · unfold SeqAt.shaped; rw [a2, decide_eq_true (Nat.le_trans a3 (by decide))]; rfl
    · unfold SeqAt.shaped; rw [b2, decide_eq_true (Nat.le_trans b3 (by decide))]; rfl
  · cases h
theorem eqK_ok {x y : D} {v w : V} {k : Bool → Bool} (S : RS K ρ s H) (r1 : RD K ρ H x v) (r2 : RD K ρ H y w) (h : eqK x y s k = true) :
    (scal v w = true ∧ k (decide (v = w)) = true) ∨ ∃ d e, Dp K H v d ∧ Dp K H w e ∧ SeqAt.shaped d = true ∧ SeqAt.shaped e = true ∧ k (PyData.eqv d e) = true := by
  unfold eqK at h
  split at h
  · rw [r1.int, r2.int, ← int_eq]
    rw [eqI_iff] at h
    exact .inl ⟨rfl, h⟩
  · obtain ⟨a, rfl, e1, _⟩ := r1.str
    obtain ⟨b, rfl, e2, _⟩ := r2.str
    rw [eqL_iff, ← e1, ← e2, str_eq] at h
    exact .inl ⟨rfl, h⟩
  · exact .inr (eqDD_ok S r1 r2 h)
theorem eq_ok : Op2Ok K (cop .eq) (rEqZ K) := fun ρ s H x y v w k Q S r1 r2 h A => by
  have h : eqK x y s (fun b => k (.bl b) s) = true := h
  rcases eqK_ok S r1 r2 h with ⟨c, h⟩ | ⟨d, e, h1, h2, h3, h4, h⟩
  · exact .inl ⟨c, A.here S rd_bl h⟩
  · exact .inr ⟨d, e, h1, h2, h3, h4, A.here S rd_bl h⟩
theorem ne_ok : Op2Ok K (cop .ne) (rNeZ K) := fun ρ s H x y v w k Q S r1 r2 h A => by
  have h : eqK x y s (fun b => k (.bl (!b)) s) = true := h
  rcases eqK_ok S r1 r2 h with ⟨c, h⟩ | ⟨d, e, h1, h2, h3, h4, h⟩
  · exact .inl ⟨c, A.here S rd_bl h⟩
  · exact .inr ⟨d, e, h1, h2, h3, h4, A.here S rd_bl h⟩
def rIsZ : R2 := fun x y H Q => rIsB x y H Q ∨ (y = .non ∧ Q (.bl (decide (x = .non))) H)
def rIsNotZ : R2 := fun x y H Q => rNotB x y H Q ∨ (y = .non ∧ Q (.bl (!decide (x = .non))) H)
theorem isK_ok {x y : D} {v w : V} {k : Bool → Bool} (r1 : RD K ρ H x v) (r2 : RD K ρ H y w) (h : isK x y k = true) :
    (∃ a b : Bool, v = .bl a ∧ w = .bl b ∧ k (decide (a = b)) = true) ∨ (w = .non ∧ k (decide (v = .non)) = true) := by
  unfold isK at h
  split at h
  · refine .inl ⟨_, _, r1.bl, r2.bl, ?_⟩
    rw [← Bool.beq_eq_decide_eq]; exact h
  · exact .inr ⟨r2.non, by rw [r1.non]; exact h⟩
  · exact .inr ⟨r2.non, by rw [r1.bl]; exact h⟩
  · exact .inr ⟨r2.non, by rw [r1.int]; exact h⟩
  · obtain ⟨a, rfl, _⟩ := r1.str; exact .inr ⟨r2.non, h⟩
  · obtain ⟨a, b, rfl, _⟩ := r1.tup; exact .inr ⟨r2.non, h⟩
  · obtain ⟨a, rfl, _⟩ := r1.ref; exact .inr ⟨r2.non, h⟩
  · cases h
theorem is_ok : Op2Ok K (cop .is) rIsZ := fun ρ s H x y v w k Q S r1 r2 h A => by
  have h : isK x y (fun b => k (.bl b) s) = true := h
  rcases isK_ok r1 r2 h with ⟨a, b, e1, e2, h⟩ | ⟨e, h⟩
  · exact .inl ⟨a, b, e1, e2, A.here S rd_bl h⟩
  · exact .inr ⟨e, A.here S rd_bl h⟩
theorem isnot_ok : Op2Ok K (cop .isnot) rIsNotZ := fun ρ s H x y v w k Q S r1 r2 h A => by
  have h : isK x y (fun b => k (.bl (!b)) s) = true := h
  rcases isK_ok r1 r2 h with ⟨a, b, e1, e2, h⟩ | ⟨e, h⟩
  · exact .inl ⟨a, b, e1, e2, A.here S rd_bl h⟩
  · exact .inr ⟨e, A.here S rd_bl h⟩
/-- in -/
theorem flat_of {x : D} {v : V} (r : RD K ρ H x v) (f : flatD x = true) : flatV v = true := by
  cases x with
  | non => rw [r.non]; rfl
  | bl b => rw [r.bl]; rfl
  | int i => rw [r.int]; rfl
  | str c => obtain ⟨a, rfl, _⟩ := r.str; rfl
  | tup _ => cases f
  | ref _ => cases f
theorem eqF_of {x y : D} {v w : V} (r : RD K ρ H x v) (q : RD K ρ H y w) (f : flatD x = true) (g : flatD y = true) : eqV v w = eqF x y := by
  cases x with
  | tup _ => cases f
  | ref _ => cases f
  | non => rw [r.non]; cases y with
    | tup _ => cases g
    | ref _ => cases g
    | non => rw [q.non]; rfl
    | bl b => rw [q.bl]; rfl
    | int i => rw [q.int]; rfl
    | str c => obtain ⟨a, rfl, _⟩ := q.str; rfl
  | bl _ => rw [r.bl]; cases y with
    | tup _ => cases g
    | ref _ => cases g
    | non => rw [q.non]; rfl
    | bl b => rw [q.bl]; rfl
    | int i => rw [q.int]; rfl
    | str c => obtain ⟨a, rfl, _⟩ := q.str; rfl
  | int _ => rw [r.int]; cases y with
    | tup _ => cases g
    | ref _ => cases g
    | non => rw [q.non]; rfl
    | bl b => rw [q.bl]; rfl
    | int i => rw [q.int]; show (_ == _) = eqI _ _; rw [eqI_iff, Bool.beq_eq_decide_eq]
    | str c => obtain ⟨a, rfl, _⟩ := q.str; rfl
  | str _ => obtain ⟨a, rfl, e1, _⟩ := r.str; cases y with
    | tup _ => cases g
    | ref _ => cases g
    | non => rw [q.non]; rfl
    | bl b => rw [q.bl]; rfl
    | int i => rw [q.int]; rfl
    | str c =>
      obtain ⟨b, rfl, e2, _⟩ := q.str
      show (a == b) = eqL _ _
      rw [eqL_iff, ← e1, ← e2, Bool.beq_eq_decide_eq, Bool.eq_iff_iff, decide_eq_true_eq, decide_eq_true_eq]
      constructor
      · intro e; rw [e]
      · intro e; cases a; cases b; simp at e; rw [e]
theorem flats_of : ∀ {xs : List D} {vs : List V}, RDs K ρ H xs vs → xs.all flatD = true → vs.all flatV = true
  | [], vs, r, _ => by unfold RDs at r; subst r; rfl
  | x :: xs, vs, r, f => by
    unfold RDs at r
    obtain ⟨v, r', rfl, h1, h2⟩ := r
    rw [List.all_cons, Bool.and_eq_true] at f
    rw [List.all_cons, flat_of h1 f.1, flats_of h2 f.2]; rfl
theorem inV_of {x : D} {v : V} (r : RD K ρ H x v) (f : flatD x = true) : ∀ {xs : List D} {vs : List V}, RDs K ρ H xs vs → xs.all flatD = true → inV v vs = xs.any fun y => eqF y x
  | [], vs, q, _ => by unfold RDs at q; subst q; rfl
  | y :: xs, vs, q, g => by
    unfold RDs at q
    obtain ⟨w, r', rfl, h1, h2⟩ := q
    rw [List.all_cons, Bool.and_eq_true] at g
    unfold inV
    rw [List.any_cons, List.any_cons, eqF_of h1 r g.1 f]
    have := inV_of r f h2 g.2
    unfold inV at this
    rw [this]
theorem any_of {i : Int} : ∀ {kvs : List (Int × D)} {us : List (Key × V)}, RKs K ρ H kvs us → (us.any fun kv => decide (kv.1 = (Sum.inl i : Key))) = kvs.any fun p => eqI p.1 i
  | [], us, q => by unfold RKs at q; subst q; rfl
  | p :: r, us, q => by
    unfold RKs at q
    obtain ⟨w, r', rfl, h1, h2⟩ := q
    rw [List.any_cons, List.any_cons, any_of h2, eqI_iff, key_ll, Bool.beq_eq_decide_eq]
def rInZ (K : PySem.W.Frag) (neg : Bool) : R2 := fun x y H Q => rIn K neg x y H Q ∨ ∃ (a : Addr) (o : Option V), y = .ref a ∧ DGet H a x o ∧ Q (.bl (if neg then !o.isSome else o.isSome)) H
theorem inK_ok {x y : D} {v w : V} {k : Bool → Bool} (S : RS K ρ s H) (r1 : RD K ρ H x v) (r2 : RD K ρ H y w) (h : inK x y s k = true) :
    (∃ p xs, w = .ref p ∧ (SqL K H p xs ∨ SqT K H p xs) ∧ flatV v = true ∧ xs.all flatV = true ∧ k (inV v xs) = true) ∨ ∃ (a : Addr) (o : Option V), w = .ref a ∧ DGet H a v o ∧ k o.isSome = true := by
  unfold inK at h
  split at h
  · rename_i i a
    obtain ⟨o, m, h⟩ := lookK_some h
    cases o with
    | lst xs =>
      obtain ⟨c, h⟩ := brecT h
      obtain ⟨p, vs, e, _, t, q, _⟩ := S.list r2 m
      refine .inl ⟨p, vs, e, .inl (SqL.of t), flat_of r1 rfl, flats_of q c, ?_⟩
      rw [inV_of r1 rfl q c]; exact h
    | dct kvs =>
      obtain ⟨p, us, e, _, t, q, _⟩ := S.dict r2 m
      refine .inr ⟨p, _, e, by rw [r1.int]; exact DGet.k (k := .inl i) t, ?_⟩
      rw [← valV_any, any_of q]; exact h
    | drw => cases h
  · obtain ⟨xs, hx, h⟩ := onSeq_some h
    obtain ⟨c, h⟩ := brecT h
    obtain ⟨c1, c2⟩ := Bool.and_eq_true_iff.mp c
    obtain ⟨p, vs, e, t, q⟩ := seq_of S r2 hx
    refine .inl ⟨p, vs, e, t, flat_of r1 c1, flats_of q c2, ?_⟩
    rw [inV_of r1 c1 q c2]; exact h
theorem in_ok : Op2Ok K (cop .inn) (rInZ K false) := fun ρ s H x y v w k Q S r1 r2 h A => by
  have h : inK x y s (fun b => k (.bl b) s) = true := h
  rcases inK_ok S r1 r2 h with ⟨p, xs, e1, e2, e3, e4, h⟩ | ⟨a, o, e1, e2, h⟩
  · exact .inl ⟨p, xs, e1, e2, e3, e4, A.here S rd_bl h⟩
  · exact .inr ⟨a, o, e1, e2, A.here S rd_bl h⟩
theorem notin_ok : Op2Ok K (cop .notin) (rInZ K true) := fun ρ s H x y v w k Q S r1 r2 h A => by
  have h : inK x y s (fun b => k (.bl (!b)) s) = true := h
  rcases inK_ok S r1 r2 h with ⟨p, xs, e1, e2, e3, e4, h⟩ | ⟨a, o, e1, e2, h⟩
  · exact .inl ⟨p, xs, e1, e2, e3, e4, A.here S rd_bl h⟩
  · exact .inr ⟨a, o, e1, e2, A.here S rd_bl h⟩
theorem op_inZ {X : Cx} (hu : X.A.units + 1 < cLine) : OpR X (compareOp .In) (rInZ X.K false) := OpR.or op_in_seq fun pins s σ H x y v u Q I rx ry q => by
  obtain ⟨a, o, e1, e2, q⟩ := q
  subst e1
  cases ry
  exact d_in hu I e2 rx fun s' I' => ⟨.bl _, H, I', rfl, q⟩
theorem op_notinZ {X : Cx} (hu : X.A.units + 1 < cLine) : OpR X (compareOp .NotIn) (rInZ X.K true) := OpR.or op_notIn_seq fun pins s σ H x y v u Q I rx ry q => by
  obtain ⟨a, o, e1, e2, q⟩ := q
  subst e1
  cases ry
  exact d_notIn hu I e2 rx fun s' I' => ⟨.bl _, H, I', rfl, q⟩
def cmpOf : COp → CmpOp
  | .eq => .Eq | .ne => .NotEq | .lt => .Lt | .le => .LtE | .gt => .Gt | .ge => .GtE | .is => .Is | .isnot => .IsNot | .inn => .In | .notin => .NotIn
def copR (K : PySem.W.Frag) : COp → R2
  | .eq => rEqZ K | .ne => rNeZ K | .lt => rI0 fun i j => .bl (decide (i < j)) | .le => rI0 fun i j => .bl (decide (i ≤ j)) | .gt => rI0 fun i j => .bl (decide (j < i)) | .ge => rI0 fun i j => .bl (decide (j ≤ i))
  | .is => rIsZ | .isnot => rIsNotZ | .inn => rInZ K false | .notin => rInZ K true
theorem cop_rule {X : Cx} (hu : X.A.units + 64 < cLine) : ∀ o : COp, OpR X (compareOp (cmpOf o)) (copR X.K o)
  | .eq => OpR.or op_eq (op_eqD hu) | .ne => OpR.or op_ne (op_neD hu) | .lt => op_lt | .le => op_le | .gt => op_gt | .ge => op_ge
  | .is => OpR.or op_isBl op_isN | .isnot => OpR.or op_notBl op_notN | .inn => op_inZ (by omega) | .notin => op_notinZ (by omega)
theorem cop_ok : ∀ o : COp, Op2Ok K (cop o) (copR K o)
  | .eq => eq_ok | .ne => ne_ok
  | .lt => opII_ok fun i j _ _ => by rw [← ltI_iff]; exact rd_bl
  | .le => opII_ok fun i j _ _ => by rw [← leI_iff]; exact rd_bl
  | .gt => opII_ok fun i j _ _ => by rw [← ltI_iff]; exact rd_bl
  | .ge => opII_ok fun i j _ _ => by rw [← leI_iff]; exact rd_bl
  | .is => is_ok | .isnot => isnot_ok | .inn => in_ok | .notin => notin_ok
end
end Zev

set_option Elab.async false
set_option linter.all false
set_option maxRecDepth 100000
/-! Zev6: built-ins, subscripts, methods, targets by values. -/
namespace Zev
open PySem PySem.Spec PyProof.Rows L2
section
variable {K : PySem.W.Frag} {ρ ρ' ρ1 ρ2 ρ3 : List Addr} {H H' H1 H2 H3 : Hp} {s s' s1 s2 s3 : Sto}

theorem SqL.refS {p : Addr} {vs : List V} (h : H p = some (.lst vs)) : SqL K H p vs := SqL.of h
theorem len_of {x : D} {v : V} {xs : List D} (S : RS K ρ s H) (r : RD K ρ H x v) (hx : x = .tup xs ∨ ∃ a, x = .ref a ∧ (a, .lst xs) ∈ s.l) : LenV K v H (lenN xs) := by
  obtain ⟨p, vs, rfl, t, q⟩ := seq_of S r hx
  rw [lenN_eq, ← q.len]
  rcases t with t | t
  · exact .inl ⟨vs, t, rfl⟩
  · exact .inr ⟨vs, t, rfl⟩
def rLenZ (K : PySem.W.Frag) : List V → Hp → VK → Prop := fun xs H Q => (∃ x n, xs = [x] ∧ LenV K x H n ∧ Q (.int (n : Nat)) H) ∨ ∃ (a : Addr) (kvs : List (Key × V)), xs = [.ref a] ∧ Rd H a (.dK kvs) ∧ Q (.int (kvs.length : Nat)) H
theorem call_lenZ {X : Cx} : CallR X (.builtin "len") (rLenZ X.K) := by
  intro pins s σ H xs us Q I r h
  rcases h with h | ⟨a, kvs, rfl, e, q⟩
  · exact call_len pins s σ H xs us Q I r h
  · obtain ⟨u, rfl, rx⟩ := vals1 r
    cases rx
    exact d_len I e fun t s' I' => ⟨.int kvs.length, H, I', ⟨t, rfl⟩, q⟩
theorem rks_len : ∀ {a : List (Int × D)} {us : List (Key × V)}, RKs K ρ H a us → us.length = a.length
  | [], us, h => by unfold RKs at h; subst h; rfl
  | x :: ds, us, h => by
    unfold RKs at h
    obtain ⟨v, r, rfl, _, h⟩ := h
    rw [List.length_cons, List.length_cons, rks_len h]
theorem len_ok : Op1Ok K (bi1 .len) (rLenZ K) := fun ρ s H x v k Q S r h A => by
  cases x with
  | tup xs => exact .inl ⟨v, _, rfl, len_of S r (.inl rfl), A.here S rd_int h⟩
  | ref a =>
    obtain ⟨o, m, h1⟩ := lookK_some (k := fun o => O.casesOn (motive := fun _ => Bool) o (fun xs => k (.int (.ofNat (lenN xs))) s) (fun kvs => k (.int (.ofNat (lenN kvs))) s) false) h
    cases o with
    | lst xs => exact .inl ⟨v, _, rfl, len_of S r (.inr ⟨a, rfl, m⟩), A.here S rd_int h1⟩
    | dct kvs =>
      obtain ⟨p, e, us, h2, q, _⟩ := S.ob a _ m
      unfold RD at r
      obtain ⟨p', rfl, e'⟩ := r
      rw [e] at e'
      cases e'
      refine .inr ⟨p, us, rfl, .inl h2, ?_⟩
      rw [rks_len q, ← lenN_eq]
      exact A.here S rd_int h1
    | drw => cases h1
  | non => cases h
  | bl _ => cases h
  | int _ => cases h
  | str _ => cases h
theorem lenD_ok : Op1Ok K (bi1 .lenD) (rLenZ K) := fun ρ s H x v k Q S r h A => by
  obtain ⟨xs, hx, h⟩ := onSeq_some (k := fun xs => k (.int (.ofNat (lenN xs))) ⟨s.n, pop1 s.l x⟩) h
  exact .inl ⟨v, _, rfl, len_of S r hx, A.drop S rd_int pop1_sub h⟩
theorem abs_ok : Op1Ok K (bi1 .abs) (fun xs H Q => ∃ i, xs = [.int i] ∧ Q (.int (if i < 0 then -i else i)) H) := fun ρ s H x v k Q S r h A => by
  obtain ⟨i, e_, h_⟩ := onI_some (k := fun i => k (.int (.ofNat (Int.natAbs i))) s) h
  clear h; subst e_; have h := h_; clear h_
  refine ⟨i, by rw [r.int], A.here S ?_ h⟩
  have e : (if i < 0 then -i else i) = Int.ofNat i.natAbs := by
    simp only [Int.ofNat_eq_natCast]
    split <;> omega
  rw [e]; exact rd_int
theorem int_ok : Op1Ok K (bi1 .int) (fun xs H Q => (∃ i, xs = [.int i] ∧ Q (.int i) H) ∨ ∃ k, xs = [.bl k] ∧ Q (.int (if k then 1 else 0)) H) := fun ρ s H x v k Q S r h A => by
  cases x with
  | int i => exact .inl ⟨i, by rw [r.int], A.here S rd_int h⟩
  | bl b =>
    refine .inr ⟨b, by rw [r.bl], A.here S ?_ h⟩
    cases b <;> exact rd_int
  | non => cases h
  | str _ => cases h
  | tup _ => cases h
  | ref _ => cases h
def rTupZ (K : PySem.W.Frag) : List V → Hp → VK → Prop := fun xs H Q => ∃ p ys, xs = [.ref p] ∧ ((SqL K H p ys ∧ ∀ l, H l = none → Q (.ref l) (upd H l (.tup ys))) ∨ (SqT K H p ys ∧ Q (.ref p) H))
theorem tuple_ok : Op1Ok K (bi1 .tuple) (rTupZ K) := fun ρ s H x v k Q S r h A => by
  obtain ⟨xs, hx, h⟩ := onSeq_some (k := fun xs => k (.tup xs) s) h
  obtain ⟨p, vs, rfl, t, q⟩ := seq_of S r hx
  refine ⟨p, vs, rfl, ?_⟩
  rcases t with t | t
  · exact .inl ⟨t, fun l hl => A.tup S q h hl⟩
  · exact .inr ⟨t, A.here S (by unfold RD; exact ⟨p, vs, rfl, t, q⟩) h⟩
theorem tupleD_ok : Op1Ok K (bi1 .tupleD) (rTupZ K) := fun ρ s H x v k Q S r h A => by
  obtain ⟨xs, hx, h⟩ := onSeq_some (k := fun xs => k (.tup xs) ⟨s.n, pop1 s.l x⟩) h
  obtain ⟨p, vs, rfl, t, q⟩ := seq_of S r hx
  refine ⟨p, vs, rfl, ?_⟩
  have A2 : Ans K ρ ⟨s.n, pop1 s.l x⟩ H k Q := A.mono (Ext.sub pop1_sub) S (S.sub pop1_sub)
  rcases t with t | t
  · exact .inl ⟨t, fun l hl => A2.tup (S.sub pop1_sub) q h hl⟩
  · exact .inr ⟨t, A2.here (S.sub pop1_sub) (by unfold RD; exact ⟨p, vs, rfl, t, q⟩) h⟩
theorem sq_len {X : Cx} {pins σ} {st : Shared} {p : Addr} {vs : List V} (I : Inv X pins σ H st) (t : SqL X.K H p vs ∨ SqT X.K H p vs) : vs.length ≤ sizeLine := by
  rcases t with t | t
  · obtain ⟨_, _, _, l⟩ := I.list t; exact l
  · obtain ⟨_, _, _, l⟩ := I.tuple t; exact l
theorem list_ok : Op1Ok K (bi1 .list) (fun xs H Q => ∃ p ys, xs = [.ref p] ∧ (SqL K H p ys ∨ SqT K H p ys) ∧ ∀ l, H l = none → Q (.ref l) (upd H l (.lst ys))) := fun ρ s H x v k Q S r h A => by
  obtain ⟨xs, hx, h⟩ := onSeq_some (k := fun xs => @Bool.rec (fun _ => Bool) false (newL xs s k) (le5 (lenN xs))) h
  obtain ⟨c, h⟩ := brecT h
  have c := le5_iff c
  obtain ⟨p, vs, rfl, t, q⟩ := seq_of S r hx
  exact ⟨p, vs, rfl, t, fun l hl => A.lst S q (by rw [q.len, ← lenN_eq]; exact Nat.le_trans c (by decide)) h hl⟩
theorem bools_of : ∀ {xs : List D} {k : List Bool → Bool}, boolsK xs k = true → ∃ bs, xs = bs.map .bl ∧ k bs = true
  | [], k, h => ⟨[], rfl, h⟩
  | x :: xs, k, h => by
    obtain ⟨b, e_, h_⟩ := onB_some (k := fun b => boolsK xs fun bs => k (b :: bs)) h
    clear h; subst e_; have h := h_; clear h_
    obtain ⟨bs, e_, h_⟩ := bools_of h
    clear h; subst e_; have h := h_; clear h_
    exact ⟨b :: bs, rfl, h⟩
theorem ints_of : ∀ {xs : List D} {k : List Int → Bool}, intsK xs k = true → ∃ bs, xs = bs.map .int ∧ k bs = true
  | [], k, h => ⟨[], rfl, h⟩
  | x :: xs, k, h => by
    obtain ⟨b, e_, h_⟩ := onI_some (k := fun b => intsK xs fun bs => k (b :: bs)) h
    clear h; subst e_; have h := h_; clear h_
    obtain ⟨bs, e_, h_⟩ := ints_of h
    clear h; subst e_; have h := h_; clear h_
    exact ⟨b :: bs, rfl, h⟩
theorem RDs.bools : ∀ {bs : List Bool} {vs : List V}, RDs K ρ H (bs.map .bl) vs → vs = bs.map V.bl
  | [], vs, r => by rw [List.map_nil] at r; unfold RDs at r; exact r
  | b :: bs, vs, r => by
    rw [List.map_cons] at r; unfold RDs at r
    obtain ⟨v, q, rfl, h1, h2⟩ := r
    rw [h1.bl, RDs.bools h2]; rfl
theorem RDs.ints : ∀ {bs : List Int} {vs : List V}, RDs K ρ H (bs.map .int) vs → vs = bs.map V.int
  | [], vs, r => by rw [List.map_nil] at r; unfold RDs at r; exact r
  | b :: bs, vs, r => by
    rw [List.map_cons] at r; unfold RDs at r
    obtain ⟨v, q, rfl, h1, h2⟩ := r
    rw [h1.int, RDs.ints h2]; rfl
theorem rd_ints : ∀ {bs : List Int}, RDs K ρ H (bs.map .int) (bs.map V.int)
  | [] => .nil
  | b :: bs => .cons rd_int rd_ints
theorem anyB_eq : ∀ {bs : List Bool}, anyB bs = bs.any id
  | [] => rfl
  | b :: bs => by cases b <;> first | exact anyB_eq (bs := bs) | rfl
theorem allB_eq : ∀ {bs : List Bool}, allB bs = bs.all id
  | [] => rfl
  | b :: bs => by cases b <;> first | exact allB_eq (bs := bs) | rfl
theorem sumL_eq : ∀ {bs : List Int}, sumL bs = bs.sum
  | [] => rfl
  | b :: bs => by rw [List.sum_cons, ← sumL_eq]; rfl
/-- a list of the store whose items are all bools, ints -/
theorem lstK {x : D} {v : V} {f : List D → Bool} (S : RS K ρ s H) (r : RD K ρ H x v) (h : (onR x fun a => lookK s.l a fun o => onL o f) = true) :
    ∃ p vs xs, v = .ref p ∧ SqL K H p vs ∧ RDs K ρ H xs vs ∧ vs.length ≤ 1000000 ∧ f xs = true := by
  obtain ⟨a, e_, h_⟩ := onR_some h
  clear h; subst e_; have h := h_; clear h_
  obtain ⟨o, m, h⟩ := lookK_some h
  obtain ⟨xs, e_, h_⟩ := onL_some h
  clear h; subst e_; have h := h_; clear h_
  obtain ⟨p, vs, e, _, t, q, l⟩ := S.list r m
  exact ⟨p, vs, xs, e, SqL.of t, q, l, h⟩
theorem any_ok : Op1Ok K (bi1 .any) (rAny K) := fun ρ s H x v k Q S r h A => by
  obtain ⟨p, vs, xs, rfl, t, q, _, h⟩ := lstK (f := fun xs => boolsK xs fun bs => k (.bl (anyB bs)) s) S r h
  obtain ⟨bs, e_, h_⟩ := bools_of h
  clear h; subst e_; have h := h_; clear h_
  rw [anyB_eq] at h
  rw [q.bools] at t
  exact ⟨p, bs, rfl, t, A.here S rd_bl h⟩
theorem anyD_ok : Op1Ok K (bi1 .anyD) (rAny K) := fun ρ s H x v k Q S r h A => by
  obtain ⟨p, vs, xs, rfl, t, q, _, h⟩ := lstK (f := fun xs => boolsK xs fun bs => k (.bl (anyB bs)) ⟨s.n, pop1 s.l x⟩) S r h
  obtain ⟨bs, e_, h_⟩ := bools_of h
  clear h; subst e_; have h := h_; clear h_
  rw [anyB_eq] at h
  rw [q.bools] at t
  exact ⟨p, bs, rfl, t, A.drop S rd_bl pop1_sub h⟩
theorem all_ok : Op1Ok K (bi1 .all) (rAll K) := fun ρ s H x v k Q S r h A => by
  obtain ⟨p, vs, xs, rfl, t, q, _, h⟩ := lstK (f := fun xs => boolsK xs fun bs => k (.bl (allB bs)) s) S r h
  obtain ⟨bs, e_, h_⟩ := bools_of h
  clear h; subst e_; have h := h_; clear h_
  rw [allB_eq] at h
  rw [q.bools] at t
  exact ⟨p, bs, rfl, t, A.here S rd_bl h⟩
theorem allD_ok : Op1Ok K (bi1 .allD) (rAll K) := fun ρ s H x v k Q S r h A => by
  obtain ⟨p, vs, xs, rfl, t, q, _, h⟩ := lstK (f := fun xs => boolsK xs fun bs => k (.bl (allB bs)) ⟨s.n, pop1 s.l x⟩) S r h
  obtain ⟨bs, e_, h_⟩ := bools_of h
  clear h; subst e_; have h := h_; clear h_
  rw [allB_eq] at h
  rw [q.bools] at t
  exact ⟨p, bs, rfl, t, A.drop S rd_bl pop1_sub h⟩
theorem sum_ok : Op1Ok K (bi1 .sum) (rSum K) := fun ρ s H x v k Q S r h A => by
  obtain ⟨p, vs, xs, rfl, t, q, _, h⟩ := lstK (f := fun xs => intsK xs fun bs => k (.int (sumL bs)) s) S r h
  obtain ⟨bs, e_, h_⟩ := ints_of h
  clear h; subst e_; have h := h_; clear h_
  rw [sumL_eq] at h
  rw [q.ints] at t
  exact ⟨p, bs, rfl, t, A.here S rd_int h⟩
theorem sumD_ok : Op1Ok K (bi1 .sumD) (rSum K) := fun ρ s H x v k Q S r h A => by
  obtain ⟨p, vs, xs, rfl, t, q, _, h⟩ := lstK (f := fun xs => intsK xs fun bs => k (.int (sumL bs)) ⟨s.n, pop1 s.l x⟩) S r h
  obtain ⟨bs, e_, h_⟩ := ints_of h
  clear h; subst e_; have h := h_; clear h_
  rw [sumL_eq] at h
  rw [q.ints] at t
  exact ⟨p, bs, rfl, t, A.drop S rd_int pop1_sub h⟩
theorem insI_perm {x : Int} : ∀ {l : List Int}, (insI x l).Perm (x :: l)
  | [] => List.Perm.refl _
  | y :: ys => by
    unfold insI
    split
    · exact ((insI_perm (x := x) (l := ys)).cons y).trans (List.Perm.swap x y ys)
    · exact List.Perm.refl _
theorem sortI_perm : ∀ {l : List Int}, (sortI l).Perm l
  | [] => List.Perm.refl _
  | x :: l => insI_perm.trans (sortI_perm.cons x)
theorem insI_sorted {x : Int} : ∀ {l : List Int}, l.Pairwise (· ≤ ·) → (insI x l).Pairwise (· ≤ ·)
  | [], _ => List.pairwise_singleton _ _
  | y :: ys, h => by
    unfold insI
    rw [List.pairwise_cons] at h
    split
    · rename_i c
      rw [ltI_iff] at c
      have c := of_decide_eq_true c
      rw [List.pairwise_cons]
      refine ⟨fun z hz => ?_, insI_sorted h.2⟩
      rcases List.mem_cons.mp (insI_perm.mem_iff.mp hz) with e | m
      · rw [e]; omega
      · exact h.1 z m
    · rename_i c
      rw [ltI_iff] at c
      have c : ¬ y < x := fun z => c (decide_eq_true z)
      rw [List.pairwise_cons, List.pairwise_cons]
      refine ⟨fun z hz => ?_, h⟩
      rcases List.mem_cons.mp hz with e | m
      · rw [e]; omega
      · have := h.1 z m; omega
theorem sortI_sorted : ∀ {l : List Int}, (sortI l).Pairwise (· ≤ ·)
  | [] => List.Pairwise.nil
  | x :: l => insI_sorted sortI_sorted
def rSrtZ (K : PySem.W.Frag) : List V → Hp → VK → Prop := fun vs H Q => rSortedI K vs H Q ∨ ∃ (a : Addr) (kvs : List (Key × V)) (ks : List Int), vs = [.ref a] ∧ Rd H a (.dK kvs) ∧ kvs.map (·.1) = ks.map Sum.inl ∧ ks.length < 64 ∧
    ∀ (ys : List Int) (p : Addr), ys.Perm ks → ys.Pairwise (· ≤ ·) → H p = none → Q (.ref p) (upd H p (.lst (ys.map V.int)))
theorem RKs.keys : ∀ {kvs : List (Int × D)} {us : List (Key × V)}, RKs K ρ H kvs us → us.map (·.1) = (kvs.map (·.1)).map Sum.inl
  | [], us, q => by unfold RKs at q; subst q; rfl
  | p :: r, us, q => by
    unfold RKs at q
    obtain ⟨w, r', rfl, h1, h2⟩ := q
    rw [List.map_cons, List.map_cons, List.map_cons, RKs.keys h2]
theorem sorted_ok : Op1Ok K (bi1 .sorted) (rSrtZ K) := fun ρ s H x v k Q S r h A => by
  obtain ⟨a, e_, h1⟩ := onR_some (k := fun a => lookK s.l a fun o => match o with
    | .lst xs => intsK xs fun ns => newL ((sortI ns).map .int) s k
    | .dct kvs => @Bool.rec (fun _ => Bool) false (newL ((sortI (kvs.map (·.1))).map .int) s k) (Nat.blt (lenN kvs) 64)
    | .drw => false) h
  clear h
  obtain ⟨o, m, h⟩ := lookK_some h1
  subst e_
  cases o with
  | lst xs =>
    obtain ⟨ns, e_, h_⟩ := ints_of h
    clear h; subst e_; have h := h_; clear h_
    obtain ⟨p, vs, e, _, t, q, l⟩ := S.list r m
    rw [q.ints] at t l
    refine .inl ⟨p, ns, by rw [e], SqL.of t, fun ns' p' h1 h2 hp => ?_⟩
    have e2 : ns' = sortI ns := PySem.W.ksm_same (h1.trans sortI_perm.symm) h2 sortI_sorted
    rw [e2]
    refine A.lst S rd_ints ?_ h hp
    rw [List.length_map, sortI_perm.length_eq]
    rw [List.length_map] at l
    exact l
  | dct kvs =>
    obtain ⟨c, h⟩ := brecT h
    have c := (Nat.blt_eq).mp c
    rw [lenN_eq] at c
    obtain ⟨p, us, e, _, t, q, l⟩ := S.dict r m
    refine .inr ⟨p, us, kvs.map (·.1), by rw [e], .inl t, q.keys, by rw [List.length_map]; exact c, fun ys p' h1 h2 hp => ?_⟩
    have e2 : ys = sortI (kvs.map (·.1)) := PySem.W.ksm_same (h1.trans sortI_perm.symm) h2 sortI_sorted
    rw [e2]
    refine A.lst S rd_ints ?_ h hp
    rw [List.length_map, sortI_perm.length_eq, List.length_map]
    omega
  | drw => cases h
def biR (K : PySem.W.Frag) : Bi → List V → Hp → VK → Prop
  | .len => rLenZ K | .lenD => rLenZ K | .abs => fun xs H Q => ∃ i, xs = [.int i] ∧ Q (.int (if i < 0 then -i else i)) H
  | .int => fun xs H Q => (∃ i, xs = [.int i] ∧ Q (.int i) H) ∨ ∃ k, xs = [.bl k] ∧ Q (.int (if k then 1 else 0)) H
  | .tuple => rTupZ K | .tupleD => rTupZ K | .list => fun xs H Q => ∃ p ys, xs = [.ref p] ∧ (SqL K H p ys ∨ SqT K H p ys) ∧ ∀ l, H l = none → Q (.ref l) (upd H l (.lst ys))
  | .any => rAny K | .anyD => rAny K | .all => rAll K | .allD => rAll K | .sorted => rSrtZ K | .sum => rSum K | .sumD => rSum K
theorem bi_ok : ∀ b : Bi, Op1Ok K (bi1 b) (biR K b)
  | .len => len_ok | .lenD => lenD_ok | .abs => abs_ok | .int => int_ok | .tuple => tuple_ok | .tupleD => tupleD_ok | .list => list_ok
  | .any => any_ok | .anyD => anyD_ok | .all => all_ok | .allD => allD_ok | .sorted => sorted_ok | .sum => sum_ok | .sumD => sumD_ok
/-- a built-in's name, what it is -/
def biN : Bi → Str
  | .len => "len" | .lenD => "len" | .abs => "abs" | .int => "int" | .tuple => "tuple" | .tupleD => "tuple" | .list => "list"
  | .any => "any" | .anyD => "any" | .all => "all" | .allD => "all" | .sorted => "sorted" | .sum => "sum" | .sumD => "sum"
def biV : Bi → Value
  | .len => .builtin "len" | .lenD => .builtin "len" | .abs => .builtin "abs" | .int => .type "int" | .tuple => .type "tuple" | .tupleD => .type "tuple" | .list => .type "list"
  | .any => .builtin "any" | .anyD => .builtin "any" | .all => .builtin "all" | .allD => .builtin "all" | .sorted => .builtin "sorted" | .sum => .builtin "sum" | .sumD => .builtin "sum"
theorem bi_rule {X : Cx} (hc : X.calm = true) : ∀ b : Bi, CallR X (biV b) (biR X.K b)
  | .len => call_lenZ | .lenD => call_lenZ | .abs => call_abs | .int => call_int1 | .tuple => call_tuple_of | .tupleD => call_tuple_of | .list => call_list_of
  | .any => cr_any hc | .anyD => cr_any hc | .all => cr_all hc | .allD => cr_all hc | .sorted => CallR.or cr_sortedI (call_sortedDI hc) | .sum => cr_sum hc | .sumD => cr_sum hc
theorem bi_boot : ∀ b : Bi, bootBuiltins (biN b) = some (biV b) := by
  intro b
  cases b <;> decide +kernel

/-! ### isinstance -/
def tyN : Nat → String
  | 0 => "int" | 1 => "tuple" | 2 => "str" | _ => "bool"
theorem isi_ok {T : Nat} {x : D} {v : V} {k : Bool → Bool} (r : RD K ρ H x v) (h : isiK T x k = true) : ∃ t b, TyX K H v (.type t) ∧ kitB t (tyN T) = some b ∧ k b = true := by
  unfold isiK at h
  split at h
  · rw [r.int]; exact ⟨"int", true, .base (.int _), by decide +kernel, h⟩
  · rw [r.bl]; exact ⟨"bool", true, .base (.bl _), by decide +kernel, h⟩
  · rw [r.non]; exact ⟨"NoneType", false, .base .non, by decide +kernel, h⟩
  · obtain ⟨a, rfl, _⟩ := r.str; exact ⟨"str", false, .base (.str _), by decide +kernel, h⟩
  · obtain ⟨a, vs, rfl, t, _⟩ := r.tup
    refine ⟨"tuple", false, ?_, by decide +kernel, h⟩
    rcases t with (t | ⟨o, t⟩) | ⟨o, its, n, l, c, _⟩
    · exact .base (.tup t)
    · exact .fTuple t
    · exact .kTuple l c
  · rw [r.int]; exact ⟨"int", false, .base (.int _), by decide +kernel, h⟩
  · rw [r.bl]; exact ⟨"bool", false, .base (.bl _), by decide +kernel, h⟩
  · rw [r.non]; exact ⟨"NoneType", false, .base .non, by decide +kernel, h⟩
  · obtain ⟨a, rfl, _⟩ := r.str; exact ⟨"str", false, .base (.str _), by decide +kernel, h⟩
  · obtain ⟨a, vs, rfl, t, _⟩ := r.tup
    refine ⟨"tuple", true, ?_, by decide +kernel, h⟩
    rcases t with (t | ⟨o, t⟩) | ⟨o, its, n, l, c, _⟩
    · exact .base (.tup t)
    · exact .fTuple t
    · exact .kTuple l c
  · rw [r.int]; exact ⟨"int", false, .base (.int _), by decide +kernel, h⟩
  · rw [r.bl]; exact ⟨"bool", false, .base (.bl _), by decide +kernel, h⟩
  · rw [r.non]; exact ⟨"NoneType", false, .base .non, by decide +kernel, h⟩
  · obtain ⟨a, rfl, _⟩ := r.str; exact ⟨"str", true, .base (.str _), by decide +kernel, h⟩
  · obtain ⟨a, vs, rfl, t, _⟩ := r.tup
    refine ⟨"tuple", false, ?_, by decide +kernel, h⟩
    rcases t with (t | ⟨o, t⟩) | ⟨o, its, n, l, c, _⟩
    · exact .base (.tup t)
    · exact .fTuple t
    · exact .kTuple l c
  · rw [r.int]; exact ⟨"int", false, .base (.int _), by decide +kernel, h⟩
  · rw [r.bl]; exact ⟨"bool", true, .base (.bl _), by decide +kernel, h⟩
  · rw [r.non]; exact ⟨"NoneType", false, .base .non, by decide +kernel, h⟩
  · obtain ⟨a, rfl, _⟩ := r.str; exact ⟨"str", false, .base (.str _), by decide +kernel, h⟩
  · obtain ⟨a, vs, rfl, t, _⟩ := r.tup
    refine ⟨"tuple", false, ?_, by decide +kernel, h⟩
    rcases t with (t | ⟨o, t⟩) | ⟨o, its, n, l, c, _⟩
    · exact .base (.tup t)
    · exact .fTuple t
    · exact .kTuple l c
  · cases h

/-! ### subscripts -/
theorem atI_neg {α : Type} {xs : List α} {b : Nat} {v : α} (hb : b < xs.length) (h : xs[xs.length - (b + 1)]? = some v) : atI xs (Int.negSucc b) = some v := by
  unfold atI ixN
  rw [if_neg (by omega), if_pos (by omega)]
  show xs[(Int.negSucc b + (xs.length : Int)).toNat]? = _
  have : (Int.negSucc b + (xs.length : Int)).toNat = xs.length - (b + 1) := by omega
  rw [this]; exact h
theorem placeN {n b : Nat} {k : Nat → Bool} (h : placeK n (.negSucc b) k = true) : b < n ∧ k (n - (b + 1)) = true := by
  obtain ⟨c, h⟩ := brecT (q := k (Nat.sub n (Nat.succ b))) h
  exact ⟨(Nat.blt_eq).mp c, h⟩
theorem ix_of {xs : List D} {vs : List V} {i : Int} {k : D → Bool} (q : RDs K ρ H xs vs)
    (h : Int.casesOn (motive := fun _ => Bool) i (fun a => nthK xs a fun d => k d) (fun b => placeK (lenN xs) (.negSucc b) fun j => nthK xs j fun d => k d) = true) :
    ∃ d v, atI vs i = some v ∧ RD K ρ H d v ∧ k d = true := by
  cases i with
  | ofNat a =>
    obtain ⟨d, e, h⟩ := nthK_some h
    obtain ⟨v, e2, r⟩ := q.get e
    exact ⟨d, v, atI_nat e2, r, h⟩
  | negSucc b =>
    obtain ⟨c, h⟩ := placeN h
    obtain ⟨d, e, h⟩ := nthK_some h
    rw [lenN_eq] at c e
    obtain ⟨v, e2, r⟩ := q.get e
    rw [← q.len] at e2 c
    exact ⟨d, v, atI_neg c e2, r, h⟩
def rIxZ (K : PySem.W.Frag) : R2 := fun x y H Q => rIxL K x y H Q ∨ rIxT K x y H Q
theorem ix_rule {X : Cx} : IxR X (rIxZ X.K) := IxR.or ix_list ix_tup
theorem ixK_ok : Op2Ok K ixK (rIxZ K) := fun ρ s H x y v w k Q S r1 r2 h A => by
  obtain ⟨i, e_, h_⟩ := onI_some h
  clear h; subst e_; have h := h_; clear h_
  split at h
  · obtain ⟨p, vs, rfl, t, q⟩ := r1.tup
    obtain ⟨d, u, e, r, h⟩ := ix_of (k := fun d => k d s) q h
    exact .inr ⟨p, vs, i, u, rfl, r2.int, t, e, A.here S r h⟩
  · obtain ⟨o, m, h⟩ := lookK_some h
    cases o with
    | lst xs =>
      obtain ⟨p, vs, rfl, _, t, q, _⟩ := S.list r1 m
      obtain ⟨d, u, e, r, h⟩ := ix_of (k := fun d => k d s) q h
      exact .inl ⟨p, vs, i, u, rfl, r2.int, SqL.of t, e, A.here S r h⟩
    | dct _ => cases h
    | drw => cases h
  · cases h
def rSlZ (K : PySem.W.Frag) : V → Option Int → Option Int → Hp → VK → Prop := fun x lo hi H Q => rSlL K x lo hi H Q ∨ rSlA K x lo hi H Q
theorem sl_rule {X : Cx} : SlR X (rSlZ X.K) := SlR.or sl_list sl_tupA
theorem RDs.cut {xs : List D} {vs : List V} {lo hi : Option Int} (q : RDs K ρ H xs vs) : RDs K ρ H (cutD xs lo hi) (cutV vs lo hi) := by
  unfold cutD cutV
  rw [q.len]
  exact (q.drop _).take _
theorem cut_whole {xs : List V} {lo hi : Option Int} (h : HT.sIx xs.length 0 lo = 0 ∧ HT.sIx xs.length xs.length hi = xs.length) : cutV xs lo hi = xs := by
  unfold cutV
  rw [h.1, h.2]
  simp
theorem slK_ok {x : D} {v : V} {lo hi : Option Int} {k : KD} {Q : VK} (S : RS K ρ s H) (r : RD K ρ H x v) (h : slK x lo hi s k = true) (A : Ans K ρ s H k Q) : rSlZ K v lo hi H Q := by
  unfold slK at h
  split at h
  · obtain ⟨p, vs, rfl, t, q⟩ := r.tup
    refine .inr ⟨p, vs, rfl, t, fun e => A.here S ?_ h, fun _ p hp => A.tup S q.cut h hp⟩
    unfold RD
    exact ⟨p, vs, rfl, t, by have := q.cut (lo := lo) (hi := hi); rw [cut_whole e] at this; exact this⟩
  · obtain ⟨o, m, h⟩ := lookK_some h
    obtain ⟨xs, e_, h_⟩ := onL_some h
    clear h; subst e_; have h := h_; clear h_
    obtain ⟨p, vs, rfl, _, t, q, l⟩ := S.list r m
    exact .inl ⟨p, vs, rfl, SqL.of t, fun p hp => A.lst S q.cut (Nat.le_trans (cutV_length _ _ _) l) h hp⟩
  · cases h

/-! ### stores to places -/
def rSetZ : V → V → V → Hp → (Hp → Prop) → Prop := fun o i v H Q => rSetL o i v H Q ∨ ∃ a H', o = .ref a ∧ DPut H a i v H' ∧ Q H'
theorem set_rule {X : Cx} (hu : X.A.units + 1 < cLine) : PSet X rSetZ := fun pins st σ H o i v ov iv u Q I ro ri rv q => by
  rcases q with q | ⟨a, H', e, p, q⟩
  · exact set_list pins st σ H o i v ov iv u Q I ro ri rv q
  · subst e
    cases ro
    exact d_setItem hu I p ri rv fun s' I' => ⟨H', I', q⟩
theorem RKs.append : ∀ {a b : List (Int × D)} {us ws : List (Key × V)}, RKs K ρ H a us → RKs K ρ H b ws → RKs K ρ H (a ++ b) (us ++ ws)
  | [], _, us, _, h, q => by unfold RKs at h; subst h; exact q
  | x :: ds, _, us, _, h, q => by
    unfold RKs at h
    obtain ⟨w, r, rfl, h1, h⟩ := h
    show RKs K ρ H (x :: (ds ++ _)) (_ :: (r ++ _))
    unfold RKs
    exact ⟨w, _, rfl, h1, RKs.append h q⟩
theorem RKs.repl {i : Int} {d : D} {v : V} (rv : RD K ρ H d v) : ∀ {a : List (Int × D)} {us : List (Key × V)}, RKs K ρ H a us →
    RKs K ρ H (a.map fun p => @Bool.rec (fun _ => Int × D) p (p.1, d) (eqI p.1 i)) (us.map fun kv => if kv.1 = (Sum.inl i : Key) then (kv.1, v) else kv)
  | [], us, h => by unfold RKs at h; subst h; unfold RKs; rfl
  | x :: ds, us, h => by
    unfold RKs at h
    obtain ⟨w, r, rfl, h1, h⟩ := h
    rw [List.map_cons, List.map_cons]
    have ih := RKs.repl (i := i) rv h
    unfold RKs
    rw [eqI_iff]
    by_cases c : x.1 = i
    · rw [if_pos (by rw [c]), decide_eq_true c]
      exact ⟨v, _, rfl, rv, ih⟩
    · rw [if_neg (fun z => c (Sum.inl.inj z)), decide_eq_false c]
      exact ⟨w, _, rfl, h1, ih⟩
theorem RKs.put {i : Int} {d : D} {v : V} {a : List (Int × D)} {us : List (Key × V)} (h : RKs K ρ H a us) (rv : RD K ρ H d v) : RKs K ρ H (putI a i d) (putK us (Sum.inl i) v) := by
  unfold putI putK
  rw [any_of h]
  cases (a.any fun p => eqI p.1 i) with
  | true => rw [if_pos rfl]; exact h.repl rv
  | false =>
    rw [if_neg Bool.false_ne_true]
    refine RKs.append h ?_
    unfold RKs
    exact ⟨v, [], rfl, rv, by unfold RKs; rfl⟩
theorem RKs.len : ∀ {a : List (Int × D)} {us : List (Key × V)}, RKs K ρ H a us → us.length = a.length
  | [], us, h => by unfold RKs at h; subst h; rfl
  | x :: ds, us, h => by
    unfold RKs at h
    obtain ⟨w, r, rfl, h1, h⟩ := h
    rw [List.length_cons, List.length_cons, RKs.len h]
theorem putK_len {us : List (Key × V)} {k : Key} {v : V} : (putK us k v).length ≤ us.length + 1 := by
  unfold putK
  split
  · rw [List.length_map]; omega
  · rw [List.length_append]; exact Nat.le_refl _
theorem ixN_nat {n a : Nat} (h : a < n) : ixN n (Int.ofNat a) = some a := by
  unfold ixN
  rw [if_pos (by simp only [Int.ofNat_eq_natCast]; omega), if_pos (by simp only [Int.ofNat_eq_natCast]; omega)]
  rfl
theorem ixN_neg {n b : Nat} (h : b < n) : ixN n (Int.negSucc b) = some (n - (b + 1)) := by
  unfold ixN
  rw [if_neg (by omega), if_pos (by omega)]
  congr 1
  omega
theorem place_ix {n : Nat} {i : Int} {k : Nat → Bool} (h : placeK n i (fun j => @Bool.rec (fun _ => Bool) false (k j) (Nat.blt j n)) = true) : ∃ j, ixN n i = some j ∧ j < n ∧ k j = true := by
  cases i with
  | ofNat a =>
    obtain ⟨c, h⟩ := brecT (q := k a) h
    have c := (Nat.blt_eq).mp c
    exact ⟨a, ixN_nat c, c, h⟩
  | negSucc b =>
    obtain ⟨c, h⟩ := placeN h
    obtain ⟨c2, h⟩ := brecT h
    exact ⟨_, ixN_neg c, (Nat.blt_eq).mp c2, h⟩
/-- what is wanted behind a store -/
def AnsH (K : PySem.W.Frag) (ρ : List Addr) (s : Sto) (H : Hp) (k : Sto → Bool) (Q : Hp → Prop) : Prop := ∀ (s' : Sto) (ρ' : List Addr) (H' : Hp), Ext s ρ H s' ρ' H' → RS K ρ' s' H' → k s' = true → Q H'
theorem setK_ok {x i d : D} {v w u : V} {k : Sto → Bool} {Q : Hp → Prop} (S : RS K ρ s H) (r1 : RD K ρ H x v) (r2 : RD K ρ H i w) (r3 : RD K ρ H d u) (h : setK x i d s k = true) (A : AnsH K ρ s H k Q) : rSetZ v w u H Q := by
  obtain ⟨a, e1, h1⟩ := onR_some h
  obtain ⟨n, e2, h2⟩ := onI_some h1
  obtain ⟨o, m, h⟩ := lookK_some h2
  subst e1; subst e2
  clear h1 h2
  cases o with
  | lst xs =>
    have h : placeK (lenN xs) n (fun j => @Bool.rec (fun _ => Bool) false (k ⟨s.n, put s.l a (.lst (setL xs j d))⟩) (Nat.blt j (lenN xs))) = true := h
    rw [lenN_eq] at h
    obtain ⟨j, e, c, h⟩ := place_ix (k := fun j => k ⟨s.n, put s.l a (.lst (setL xs j d))⟩) h
    obtain ⟨p, vs, rfl, hp, t, q, l⟩ := S.list r1 m
    rw [← q.len] at e
    refine .inl ⟨p, vs, n, j, rfl, r2.int, t, e, A _ ρ _ (Ext.write S m hp) (S.write m hp ?_) h⟩
    rw [setL_eq]
    exact ⟨_, rfl, (q.set r3).write S m hp, by rw [List.length_set]; exact l⟩
  | dct kvs =>
    obtain ⟨c, h⟩ := brecT h
    have c := le5_iff c
    rw [lenN_eq] at c
    obtain ⟨p, us, rfl, hp, t, q, l⟩ := S.dict r1 m
    refine .inr ⟨p, _, rfl, by rw [r2.int]; exact DPut.k (k := .inl n) t (by rw [q.len]; exact Nat.lt_of_le_of_lt c (Nat.lt_of_lt_of_le (by decide) line1)), A _ ρ _ (Ext.write S m hp) (S.write m hp ?_) h⟩
    refine ⟨_, rfl, (q.put r3).mono (Ext.write (o' := O.dct kvs) S m hp) S, ?_⟩
    have := putK_len (us := us) (k := Sum.inl n) (v := u)
    rw [q.len] at this
    omega
  | drw => cases h

/-! ### methods of lists -/
def mtN : Mt → Str
  | .append => "append" | .extend => "extend" | .pop => "pop"
def mtId : Mt → String
  | .append => "list.append" | .extend => "list.extend" | .pop => "list.pop"
def mtR : Mt → V → List V → Hp → VK → Prop
  | .append => rAppend | .extend => rExtend | .pop => rPop
theorem mt_rule {X : Cx} : ∀ m : Mt, MtR X (mtId m) (mtR m)
  | .append => mt_append | .extend => mt_extend | .pop => mt_pop
theorem mtK_ok {m : Mt} {x : D} {ds : List D} {v : V} {ws : List V} {k : KD} {Q : VK} (S : RS K ρ s H) (r : RD K ρ H x v) (rs : RDs K ρ H ds ws) (h : mtK m x ds s k = true) (A : Ans K ρ s H k Q) : tyV K "list" v H ∧ mtR m v ws H Q := by
  unfold mtK at h
  split at h
  · rename_i y
    obtain ⟨a, e_, h_⟩ := onR_some h
    clear h; subst e_; have h := h_; clear h_
    obtain ⟨o, m, h⟩ := lookK_some h
    obtain ⟨xs, e_, h_⟩ := onL_some h
    clear h; subst e_; have h := h_; clear h_
    obtain ⟨c, h⟩ := brecT h
    have c := le5_iff c
    rw [lenN_eq] at c
    obtain ⟨p, vs, rfl, hp, t, q, l⟩ := S.list r m
    unfold RDs at rs
    obtain ⟨w, r', rfl, r1, r2⟩ := rs
    unfold RDs at r2
    subst r2
    refine ⟨.inl ⟨rfl, _, SqL.of t⟩, p, vs, w, rfl, rfl, t, by rw [q.len]; exact Nat.lt_of_le_of_lt c (Nat.lt_of_lt_of_le (by decide) line1), A _ _ _ ρ _ (Ext.write S m hp) (S.write m hp ?_) rd_non h⟩
    refine ⟨_, rfl, (q.append (.cons r1 .nil)).write S m hp, ?_⟩
    rw [List.length_append, q.len]
    show xs.length + 1 ≤ _
    omega
  · rename_i y
    obtain ⟨a, e_, h_⟩ := onR_some h
    clear h; subst e_; have h := h_; clear h_
    obtain ⟨o, m, h⟩ := lookK_some h
    obtain ⟨xs, e_, h_⟩ := onL_some h
    clear h; subst e_; have h := h_; clear h_
    obtain ⟨b, e_, h_⟩ := onR_some h
    clear h; subst e_; have h := h_; clear h_
    obtain ⟨o2, m2, h⟩ := lookK_some h
    obtain ⟨ys, e_, h_⟩ := onL_some h
    clear h; subst e_; have h := h_; clear h_
    obtain ⟨c, h⟩ := brecT h
    have c := le5_iff c
    rw [lenN_eq, lenN_eq] at c
    obtain ⟨p, vs, rfl, hp, t, q, l⟩ := S.list r m
    unfold RDs at rs
    obtain ⟨w, r', rfl, r1, r2⟩ := rs
    unfold RDs at r2
    subst r2
    obtain ⟨p2, zs, rfl, _, t2, q2, l2⟩ := S.list r1 m2
    have c2 : vs.length + zs.length ≤ 100000 := by rw [q.len, q2.len]; exact c
    refine ⟨.inl ⟨rfl, _, SqL.of t⟩, p, p2, vs, zs, rfl, rfl, t, t2, line5 c2, A _ _ _ ρ _ (Ext.write S m hp) (S.write m hp ?_) rd_non h⟩
    refine ⟨_, rfl, (q.append q2).write S m hp, ?_⟩
    rw [List.length_append]
    omega
  · obtain ⟨a, e1, h1⟩ := onR_some h
    obtain ⟨o, m, h2⟩ := lookK_some h1
    obtain ⟨xs, e2, h3⟩ := onL_some h2
    clear h h1 h2
    subst e1; subst e2
    split at h3
    · rename_i y e
      have h := h3
      obtain ⟨p, vs, rfl, hp, t, q, l⟩ := S.list r m
      unfold RDs at rs
      subst rs
      rw [List.getLast?_eq_getElem?] at e
      obtain ⟨u, e2, r2⟩ := q.get e
      rw [← q.len] at e2
      refine ⟨.inl ⟨rfl, _, SqL.of t⟩, p, vs, u, rfl, rfl, t, e2, A _ _ _ ρ _ (Ext.write S m hp) (S.write m hp ?_) (r2.write S m hp) h⟩
      refine ⟨_, rfl, q.dropLast.write S m hp, ?_⟩
      rw [List.length_dropLast]
      omega
    · cases h3
  · cases h
end
end Zev

set_option Elab.async false
set_option linter.all false
set_option maxRecDepth 100000
/-! Zev7: enumerate over a tuple; a list or a tuple walked. -/
namespace Zev
open PySem PySem.Spec PyProof.Rows L2
open Sem (wp)
open AutoSeq1 (wpAny_loadPart')

set_option maxHeartbeats 1000000 in
theorem meets_enumerate_newB1 {v : Value} {o : Obj} {H : Heap → Prop} (B : Begins v o H) :
    Meets (Builtin.«enumerate.__new__» ⟨[.type "enumerate", v], []⟩) (fun _ R s => H s.heap ∧
      R (.ok (.ret (.ref (s.heap.push o).objs.size))) { s with heap := (s.heap.push o).push { cls := .type "enumerate", data := .fields #[.none, .bool false, .ref s.heap.objs.size, rawInt 0, .none, .none] } }) :=
  .of_wp fun prog w A R s h => by
    obtain ⟨hp, g, d, tk, os⟩ := s; obtain ⟨h1, h⟩ := h
    have hsub := sub_enumerate
    have q1 : ∀ {A' : Around} {E : Value → Shared → Prop} {Q : Value → Shared → Prop}, Q (.ref hp.objs.size) ⟨hp.push o, g, d, tk, os⟩ → wpAny (model prog w) A' (pyIter v) Q E ⟨hp, g, d, tk, os⟩ :=
      fun q => B.iter prog w _ _ ⟨hp, g, d, tk, os⟩ _ h1 q
    wp_walk using q1
    refine wpAny_stack_any fun st => wpAny_pure ?_
    split
    · rename_i c _ _ _ _ _
      cases (c == Value.type "enumerate")
      · wp_walk using q1
        exact ⟨_, rfl, h⟩
      · wp_walk using q1
        exact ⟨_, rfl, h⟩
    · wp_walk using q1
      exact ⟨_, rfl, h⟩
section
variable {prog : Program} {w : World} {A : Around} {E : Value → Shared → Prop} {s : Shared}
theorem enum_begins1 {v : Value} {o : Obj} {H : Heap → Prop} {Q : Value → Shared → Prop} (B : Begins v o H) (h1 : H s.heap)
    (h : ∀ h', IsEnum h' (s.heap.objs.size + 1) s.heap.objs.size 0 .none → h'.get? s.heap.objs.size = some o → h'.objs.size = s.heap.objs.size + 2 →
      (∀ b o, s.heap.get? b = some o → h'.get? b = some o) → Q (.ref (s.heap.objs.size + 1)) { s with heap := h' }) :
    wpAny (model prog w) A (call (.type "enumerate") [v]) Q E s := by
  refine callType_new F.called_enumerate (by decide) (F.typeCall_enumerate_1 _) (F.newCall_enumerate_1 _) (fun obj => F.args_object_init_2 obj _) F.entry_enumerate_new
    (meets_enumerate_newB1 B) ⟨h1, ?_⟩
  have hz : (s.heap.push o).objs.size = s.heap.objs.size + 1 := Heap.size_push ..
  show _ ∧ _
  rw [hz]
  have he : IsEnum ((s.heap.push o).push { cls := .type "enumerate", data := .fields #[.none, .bool false, .ref s.heap.objs.size, rawInt 0, .none, .none] }) (s.heap.objs.size + 1) s.heap.objs.size 0 .none := by
    have := Heap.get?_push_size (s.heap.push o) (o := { cls := .type "enumerate", data := .fields #[.none, .bool false, .ref s.heap.objs.size, rawInt 0, .none, .none] }) rfl
    rw [hz] at this; exact this
  refine ⟨⟨_, he, rfl⟩, h _ he (Heap.get?_push_of_some _ (Heap.get?_push_size _ B.free)) (by rw [Heap.size_push, hz]) fun b o x => Heap.get?_push_of_some _ (Heap.get?_push_of_some _ x)⟩
end

section
variable {prog : Program} {w : World} {A : Around} {E : Value → Shared → Prop} {s : Shared}
theorem enum_endT {e it l : Addr} {i : Nat} {c : Int} {items : Array Value} {old : Value} {Q : Option Value → Shared → Prop} (hh : A.in1.handled = none)
    (he : IsEnum s.heap e it c old) (hit : s.heap.IsTupleIter it l i) (hl : s.heap.IsTuple l items) (hx : items[i]? = none)
    (hQ : ∀ h', Heap.ExtBut it s.heap h' → Q none { s with heap := h' }) : wpAny (model prog w) A (pyNext (.ref e)) Q E s := by
  have hT : s.TypeIs (.ref e) "enumerate" := ⟨_, he, rfl⟩
  unfold pyNext
  refine wpAny_bind (wpAny_attempt (wpAny_callSpecial?_slot (name := Str.ofString "__next__") hT F.slot_enumerate_next
    (wpAny_call_entry F.slot_enumerate_next hT F.entry_enumerate_next ?_ (F.args_enumerate_next_1 _))))
  show wpAny _ _ (field (.ref e) 2 >>= _) _ _ _
  refine wpAny_bind (wpAny_field he rfl (x := .ref it) rfl ?_)
  refine wpAny_bind (wpAny_nextOf_tuple_end hh hit hl hx fun h' x he' hx' => ?_)
  obtain ⟨o, ho, hc⟩ := hx'
  refine wpAny_bind (wpAny_isInstance (T := "StopIteration") (b := true) ⟨o, ho, hc⟩ isSubtype_stop ?_)
  exact wpAny_pure (hQ _ he')
end
/-- the tuple at a, its items in new pairs with their places -/
def IteT (K : PySem.W.Frag) (a : Addr) : It :=
  ⟨fun i H => ∃ (xs : List V) (x : V), SqT K H a xs ∧ xs[i]? = some x, fun i H v H' => ∃ T x, v = .ref T ∧ H T = none ∧ H' = upd H T (.tup [.int (i : Nat), x]) ∧ ∀ xs, SqT K H a xs → xs[i]? = some x, fun i H => ∃ xs : List V, SqT K H a xs ∧ xs.length ≤ i⟩
theorem turn_enumT {P : Program} {w : World} {K : PySem.W.Frag} {elts : List Expr} {kk : Nat} {tpos : Pos} (a e it : Addr) (hai : a ≠ it) (hae : a ≠ e) :
    Turn P w K (.Tuple elts kk tpos) (IteT K a) [e, it] e (fun i h => (∃ old, IsEnum h e it ((i : Nat) : Int) old) ∧ h.IsTupleIter it a i ∧ e ≠ it) where
  mem := by simp
  obj := fun i h st b hb => by
    obtain ⟨⟨old, he⟩, ⟨o, ho, hc, hd⟩, _⟩ := st
    have e' : b = e ∨ b = it := by simpa using hb
    rcases e' with z | z
    · rw [z]; exact ⟨_, he, fun v q => nomatch q⟩
    · rw [z]; exact ⟨o, ho, fun v q => by rw [hd] at q; cases q⟩
  keep := fun i h h' st k => let ⟨⟨old, he⟩, hi, hne⟩ := st; ⟨⟨old, k e (by simp) _ he⟩, hi.at fun o q => k it (by simp) o q, hne⟩
  item := by
    intro X hP hw hK hc i pins s σ H E I hf st hg
    subst hP hw hK
    obtain ⟨⟨old, he⟩, hit, hne⟩ := st
    obtain ⟨xs, x, hq, hx⟩ := hg
    obtain ⟨its, rv, p, hz⟩ := I.tuple hq
    obtain ⟨u, hu, ru⟩ := rv.get hx
    have hel : e < s.heap.objs.size := Heap.lt_size he
    have hil : it < s.heap.objs.size := by obtain ⟨_, q, _⟩ := hit; exact Heap.lt_size q
    have hlt : i < its.toArray.size := by
      have := (List.getElem?_eq_some_iff.mp hu).1
      simpa using this
    have DD := Draws.tuple (prog := X.prog) (w := X.w) (A := X.A.in1) (I.ok.hd hc) it a hai its.toArray
    refine wpAny_pyNext_enum_itemD DD he ⟨hit, p⟩ hlt hne (by simp; exact ⟨hne, Ne.symm hae⟩) fun x' h' tk hx' ho hst' hT hsz hk => ?_
    have ex : x' = u := by
      have h1 : its[i]? = some x' := by simpa using hx'
      rw [hu] at h1
      exact (Option.some.inj h1).symm
    subst ex
    refine ⟨_, rfl, wpAny_letOwnedTupleGo_enum (s := { s with heap := h', toks := tk + 1 }) ho fun h'' he' sb => ?_⟩
    have hT2 : h''.get? s.heap.objs.size = some { cls := .type "tuple", data := .seq #[.int i tk, x'] } := (sb.2 _ (Nat.ne_of_gt hel)).trans hT
    have new : ObjOk X.prog X.w (upd H s.heap.objs.size (.tup [.int (i : Nat), x])) h'' s.heap.objs.size (.tup [.int (i : Nat), x]) :=
      ⟨by show 2 ≤ sizeLine; decide, [.int i tk, x'], .cons ⟨_, rfl⟩ (.cons ru .nil), ⟨_, hT2, rfl, _, rfl⟩⟩
    have I1 : Inv X pins σ (upd H s.heap.objs.size (.tup [.int (i : Nat), x])) { s with heap := h'', toks := tk + 1 } :=
      I.turnedNew (ch := [e, it]) (fun b ob hb q => (sb.2 b (fun z => hb (by simp [z]))).trans (hk b ob (fun z => hb (by simp [z])) (fun z => hb (by simp [z])) q)) hf (Nat.le_refl _) new
    refine ⟨.ref s.heap.objs.size, _, I1, rfl, ⟨_, x, rfl, I.hok.fresh (Nat.le_refl _), rfl, fun ys hy => by rw [I.tuple_inj hy hq]; exact hx⟩, ⟨⟨x', ?_⟩, hst'.1.at fun o q => (sb.2 it (Ne.symm hne)).trans q, hne⟩, fun b hb => ?_⟩
    · have e1 : ((i + 1 : Nat) : Int) = (i : Int) + 1 := by omega
      rw [e1]; exact he'
    · have hb' : b < s.heap.objs.size := by
        have e' : b = e ∨ b = it := by simpa using hb
        rcases e' with z | z
        · rw [z]; exact hel
        · rw [z]; exact hil
      rw [upd_ne (Nat.ne_of_lt hb')]
      exact (hf b hb).1
  done := by
    intro X hP hw hK hc i pins s σ H E I hf st hg
    subst hP hw hK
    obtain ⟨⟨old, he⟩, hit, hne⟩ := st
    obtain ⟨xs, hq, hx⟩ := hg
    obtain ⟨its, rv, p, hz⟩ := I.tuple hq
    obtain ⟨f0, f1, f2, f3, f4, f5⟩ := hf it (by simp)
    have hl := rv.length
    exact enum_endT (I.ok.hd hc) he hit p (by simp; omega) fun h' eb => ⟨rfl, I.turned (t' := s.toks) (fun b o hb q => eb b o hb q) f0 f1 f3 f4 f5⟩
  self := fun A i s Q E st h => let ⟨⟨_, he⟩, _⟩ := st; wpAny_pyIter_enum he h
theorem pi_or {X : Cx} {tg e : Expr} {a b : TI} (ha : PI X tg e a) (hb : PI X tg e b) : PI X tg e (fun σ H R => a σ H R ∨ b σ H R) :=
  ⟨fun pins s σ H R I h => h.elim (ha.run pins s σ H R I) (hb.run pins s σ H R I)⟩
/-- a list or a tuple -/
def iSeqZ (K : PySem.W.Frag) (tl : TE) : TI := fun σ H R => tl σ H fun x H1 => ∃ a, x = .ref a ∧ (((∃ xs, SqL K H1 a xs) ∧ R (Itl K a) H1) ∨ ((∃ xs, SqT K H1 a xs) ∧ R (Itt K a) H1))
theorem pi_seqZ {X : Cx} {tg l : Expr} {tl : TE} (hl : PE X l tl) : PI X tg l (iSeqZ X.K tl) := by
  refine ⟨fun pins s σ H R I h => ?_⟩
  refine thn (hl.run pins s σ H _ I h) fun v s1 ⟨x, H1, I1, r1, q1⟩ => ?_
  obtain ⟨a, e, q⟩ := q1
  subst e
  cases r1
  rcases q with ⟨⟨xs, hq⟩, q⟩ | ⟨⟨xs, hq⟩, q⟩
  · obtain ⟨its, rv, p, hz⟩ := I1.list hq
    refine wpAny_pyIter_list p.isList ?_
    refine ⟨s1.heap.objs.size, [s1.heap.objs.size], _, _, H1, rfl, I1.kept (t' := s1.toks) fun b o e => Heap.get?_push_of_some _ e, turn_list a _, ⟨_, Heap.get?_push_size _ rfl, rfl, rfl⟩, fun b hb => ?_, q⟩
    have e : b = s1.heap.objs.size := by simpa using hb
    subst e
    exact I1.fpOk (Nat.le_refl _) (I1.hok.fresh (Nat.le_refl _))
  · obtain ⟨its, rv, p, hz⟩ := I1.tuple hq
    refine wpAny_pyIter_tuple (show s1.heap.IsTuple a its.toArray from p) ?_
    refine ⟨s1.heap.objs.size, [s1.heap.objs.size], _, _, H1, rfl, I1.kept (t' := s1.toks) fun b o e => Heap.get?_push_of_some _ e, turn_tuple a _, ⟨_, Heap.get?_push_size _ rfl, rfl, rfl⟩, fun b hb => ?_, q⟩
    have e : b = s1.heap.objs.size := by simpa using hb
    subst e
    exact I1.fpOk (Nat.le_refl _) (I1.hok.fresh (Nat.le_refl _))
def iEnumZ (K : PySem.W.Frag) (ta : TA) : TI := fun σ H R => ta σ H fun vs H1 => ∃ a xs, vs = [.ref a] ∧ ((SqL K H1 a xs ∧ R (Ite K a) H1) ∨ (SqT K H1 a xs ∧ R (IteT K a) H1))
theorem pi_enumZ {X : Cx} {e : Expr} {ta : TA} {p pos tpos : Pos} {elts : List Expr} {kk : Nat} (hg : Gl X "enumerate") (hm : X.mg "enumerate" = none) (ha : PA X [e] ta) (hs : starEach [e] X.env = [(false, eval e X.env)]) :
    PI X (.Tuple elts kk tpos) (.Call (.Name "enumerate" p) [e] [] pos) (iEnumZ X.K ta) := by
  refine ⟨fun pins s σ H R I h => ?_⟩
  refine Call_ (ld_blt I hg hm boot_enumerate (PyProof.Rows.callWith_type1 (thn (ha.run pos pins s σ H _ I h) fun us s1 ⟨vs, H1, I1, r1, q1⟩ => ?_) hs rfl))
  obtain ⟨a, xs, ex, q⟩ := q1
  subst ex
  cases r1 with
  | cons r rr =>
    cases rr
    cases r
    rcases q with ⟨hq, q⟩ | ⟨hq, q⟩
    · obtain ⟨its, rv, p', hz⟩ := I1.list hq
      refine call_enumerate_list p'.isList fun h' he hit hsz hk => wpAny_pyIter_enum he ?_
      have I2 : Inv X pins σ H1 { s1 with heap := h' } := I1.kept (t' := s1.toks) hk
      refine ⟨s1.heap.objs.size + 1, [s1.heap.objs.size + 1, s1.heap.objs.size], _, _, H1, rfl, I2, turn_enum a (s1.heap.objs.size + 1) s1.heap.objs.size, ⟨⟨.none, he⟩, hit, Nat.succ_ne_self _⟩, fun b hb => ?_, q⟩
      have e' : b = s1.heap.objs.size + 1 ∨ b = s1.heap.objs.size := by simpa using hb
      have hle : s1.heap.objs.size ≤ b := by
        rcases e' with z | z
        · rw [z]; exact Nat.le_add_right _ _
        · rw [z]; exact Nat.le_refl _
      exact I1.fpOk hle (I1.hok.fresh hle)
    · obtain ⟨its, rv, p', hz⟩ := I1.tuple hq
      have hlt : a < s1.heap.objs.size := by obtain ⟨o, ho, _⟩ := id p'; exact Heap.lt_size ho
      refine enum_begins1 (begins_tuple a its.toArray) p' fun h' he hit hsz hk => wpAny_pyIter_enum he ?_
      have I2 : Inv X pins σ H1 { s1 with heap := h' } := I1.kept (t' := s1.toks) hk
      refine ⟨s1.heap.objs.size + 1, [s1.heap.objs.size + 1, s1.heap.objs.size], _, _, H1, rfl, I2, turn_enumT a (s1.heap.objs.size + 1) s1.heap.objs.size (Nat.ne_of_lt hlt) (Nat.ne_of_lt (Nat.lt_succ_of_lt hlt)), ⟨⟨.none, he⟩, ⟨_, hit, rfl, rfl⟩, Nat.succ_ne_self _⟩, fun b hb => ?_, q⟩
      have e' : b = s1.heap.objs.size + 1 ∨ b = s1.heap.objs.size := by simpa using hb
      have hle : s1.heap.objs.size ≤ b := by
        rcases e' with z | z
        · rw [z]; exact Nat.le_add_right _ _
        · rw [z]; exact Nat.le_refl _
      exact I1.fpOk hle (I1.hok.fresh hle)
end Zev

set_option Elab.async false
set_option linter.all false
set_option maxRecDepth 100000
/-! Zev8: targets, walks, loops, comprehensions, calls, statements. -/
namespace Zev
open PySem PySem.Spec PyProof.Rows L2
section
variable {K : PySem.W.Frag} {ρ ρ' ρ0 ρ1 ρ2 ρ3 : List Addr} {H H' H0 H1 H2 H3 : Hp} {s s' s0 s1 s2 s3 : Sto}

/-! ### targets -/
theorem RL.set {σd : Loc} {σ : LSt} {i : Nat} {d : D} {v : V} (L : RL K ρ H σd σ) (r : RD K ρ H d v) : RL K ρ H (setN σd i (some d)) (σ.set i (some v)) := by
  rw [setN_eq]
  refine ⟨by rw [List.length_set, List.length_set]; exact L.len, fun j x e => ?_⟩
  by_cases c : i = j
  · subst c
    have hl : i < σd.length := by
      have := (List.getElem?_eq_some_iff.mp e).1
      rw [List.length_set] at this
      exact this
    rw [List.getElem?_set_self hl] at e
    cases e
    exact ⟨v, by rw [List.getElem?_set_self (Nat.lt_of_lt_of_le hl L.len)], r⟩
  · rw [List.getElem?_set_ne c] at e
    obtain ⟨w, e2, r2⟩ := L.at_ j x e
    exact ⟨w, by rw [List.getElem?_set_ne c]; exact e2, r2⟩
theorem Upd.set {sl : List Nat} {σ : LSt} {i : Nat} {x : Option V} (h : i ∈ sl) : Upd sl σ (σ.set i x) :=
  ⟨List.length_set .., fun j hj => List.getElem?_set_ne fun e => hj (by rw [← e]; exact h)⟩
theorem Upd.refl {sl : List Nat} {σ : LSt} : Upd sl σ σ := ⟨rfl, fun _ _ => rfl⟩
theorem Upd.trans {sl : List Nat} {σ σ1 σ2 : LSt} (a : Upd sl σ σ1) (b : Upd sl σ1 σ2) : Upd sl σ σ2 := ⟨b.1.trans a.1, fun j h => (b.2 j h).trans (a.2 j h)⟩
theorem gnm_imp {sl : List Nat} {i : Nat} (hi : i ∈ sl) : ∀ (v : V) (σ : LSt) (H : Hp) (Q : LSt → Hp → Prop), tevG K sl (fun x σ s k => k (setN σ i (some x)) s) v σ H Q → gName i v σ H Q := fun v σ H Q ⟨ρ, s, σd, d, k, S, L, r, h, A⟩ =>
  A _ s _ ρ H Ext.refl S (L.set r) (Upd.set hi) h
theorem gnil_imp {sl : List Nat} : ∀ (v : List V) (σ : LSt) (H : Hp) (Q : LSt → Hp → Prop), tevGs K sl (fun xs σ s k => @List.rec D (fun _ => Bool) (k σ s) (fun _ _ _ => false) xs) v σ H Q → L2.gNil v σ H Q := fun v σ H Q ⟨ρ, s, σd, d, k, S, L, r, h, A⟩ => by
  cases d with
  | nil => unfold RDs at r; exact ⟨r, A _ s _ ρ H Ext.refl S L Upd.refl h⟩
  | cons _ _ => cases h
theorem gcons_imp {sl : List Nat} {t : D → Loc → Sto → KS → Bool} {r : List D → Loc → Sto → KS → Bool} : ∀ (v : List V) (σ : LSt) (H : Hp) (Q : LSt → Hp → Prop),
    tevGs K sl (fun xs σ s k => @List.rec D (fun _ => Bool) false (fun x xs _ => t x σ s fun σ1 s1 => r xs σ1 s1 k) xs) v σ H Q → L2.gCons (tevG K sl t) (tevGs K sl r) v σ H Q := fun v σ H Q ⟨ρ, s, σd, d, k, S, L, q, h, A⟩ => by
  cases d with
  | nil => cases h
  | cons x xs =>
    unfold RDs at q
    obtain ⟨w, ws, rfl, q1, q2⟩ := q
    refine ⟨w, ws, rfl, ρ, s, σd, x, _, S, L, q1, h, fun σd1 s1 σ1 ρ1 H1 E1 S1 L1 U1 h1 => ?_⟩
    exact ⟨ρ1, s1, σd1, xs, k, S1, L1, q2.mono E1 S, h1, fun σd2 s2 σ2 ρ2 H2 E2 S2 L2 U2 h2 => A _ _ _ _ _ (E1.trans E2 S S1) S2 L2 (U1.trans U2) h2⟩
def gTupZ (K : PySem.W.Frag) (n : Nat) (t : TGs) : TG := fun v σ H Q => gTup K n t v σ H Q ∨ gUnl K n t v σ H Q
theorem pg_tupZ {X : Cx} {es : List Expr} {k : Nat} {t : TGs} {n : Nat} {pos : Pos} (hc : X.calm = true) (h : PGs X es t)
    (hn : (assignEach es X.env).length = n) (hst : (assignEach es X.env).findIdx? (·.1) = none) : PG X (.Tuple es k pos) (gTupZ X.K n t) :=
  ⟨fun pins s σ H v u Q I r q => q.elim (fun q => (pg_tup hc h hn hst).run pins s σ H v u Q I r q) fun q => (pg_unl hc h hn hst).run pins s σ H v u Q I r q⟩
theorem gtp_imp {sl : List Nat} {n : Nat} {ts : List D → Loc → Sto → KS → Bool} : ∀ (v : V) (σ : LSt) (H : Hp) (Q : LSt → Hp → Prop),
    tevG K sl (fun x σ s k => onSeq x s fun xs => @Bool.rec (fun _ => Bool) false (ts xs σ s k) (Nat.beq (lenN xs) n)) v σ H Q → gTupZ K n (tevGs K sl ts) v σ H Q := fun v σ H Q ⟨ρ, s, σd, d, k, S, L, q, h, A⟩ => by
  obtain ⟨xs, hx, h⟩ := onSeq_some h
  obtain ⟨c, h⟩ := brecT h
  have c := Nat.eq_of_beq_eq_true c
  rw [lenN_eq] at c
  obtain ⟨p, vs, rfl, t, q⟩ := seq_of S q hx
  rcases t with t | t
  · exact .inr ⟨p, vs, rfl, t, by rw [q.len, c], ρ, s, σd, xs, k, S, L, q, h, A⟩
  · exact .inl ⟨p, vs, rfl, t, by rw [q.len, c], ρ, s, σd, xs, k, S, L, q, h, A⟩
theorem gsb_imp {sl : List Nat} {a i : Loc → Sto → KD → Bool} : ∀ (v : V) (σ : LSt) (H : Hp) (Q : LSt → Hp → Prop),
    tevG K sl (fun x σ s k => a σ s fun o s1 => i σ s1 fun n s2 => setK o n x s2 fun s3 => k σ s3) v σ H Q → gSub (tev K a) (tev K i) rSetZ v σ H Q := fun v σ H Q ⟨ρ, s, σd, d, k, S, L, q, h, A⟩ => by
  refine ⟨ρ, s, σd, _, S, L, h, fun o s1 w ρ1 H1 E1 S1 R1 h1 => ?_⟩
  refine ⟨ρ1, s1, σd, _, S1, L.mono E1 S, h1, fun n s2 u ρ2 H2 E2 S2 R2 h2 => ?_⟩
  have E := E1.trans E2 S S1
  refine setK_ok S2 (R1.mono E2 S1) R2 (q.mono E S) h2 fun s3 ρ3 H3 E3 S3 h3 => ?_
  have E' := E.trans E3 S S2
  exact A _ _ _ _ _ E' S3 (L.mono E' S) Upd.refl h3

/-! ### walks -/
theorem wTup_ok {xs : List D} {a : Addr} {vs : List V} (S0 : RS K ρ0 s0 H0) (t : SqT K H0 a vs) (q : RDs K ρ0 H0 xs vs) : WkOk K s0 ρ0 H0 (wTup xs) (Itt K a) := fun i ρ s H st it E S h => by
  have t' := E.sqT S0 t
  have q' := q.mono E S0
  rcases brec h with ⟨c, h⟩ | ⟨c, h⟩
  · have c : ¬ i < lenN xs := fun z => by rw [(Nat.blt_eq).mpr z] at c; cases c
    rw [lenN_eq] at c
    exact .inl ⟨⟨vs, t', by rw [q.len]; omega⟩, h⟩
  · obtain ⟨d, e, h⟩ := nthK_some h
    obtain ⟨v, e2, r⟩ := q'.get e
    refine .inr ⟨⟨vs, v, t', e2⟩, fun x H' ⟨eH, hx⟩ => ?_⟩
    subst eH
    have := (hx vs t').symm.trans e2
    cases this
    exact ⟨d, ρ, s, Ext.refl, S, r, h⟩
theorem wLst_ok {i0 : Nat} {a : Addr} (p : ρ0[i0]? = some a) : WkOk K s0 ρ0 H0 (wLst i0) (Itl K a) := fun i ρ s H st it E S h => by
  obtain ⟨o, m, h1⟩ := lookK_some h
  obtain ⟨xs, e_, h2⟩ := onL_some h1
  clear h h1
  subst e_
  have rr : RD K ρ H (.ref i0) (.ref a) := by unfold RD; exact ⟨a, rfl, pre_at E.pre p⟩
  obtain ⟨b, vs, e, _, t, q, _⟩ := S.list rr m
  cases e
  rcases brec h2 with ⟨c, h⟩ | ⟨c, h⟩
  · have c : ¬ i < lenN xs := fun z => by rw [(Nat.blt_eq).mpr z] at c; cases c
    rw [lenN_eq] at c
    exact .inl ⟨⟨vs, SqL.of t, by rw [q.len]; omega⟩, h⟩
  · obtain ⟨d, e, h⟩ := nthK_some h
    obtain ⟨v, e2, r⟩ := q.get e
    refine .inr ⟨⟨vs, v, SqL.of t, e2⟩, fun x H' ⟨eH, hx⟩ => ?_⟩
    subst eH
    have := (hx vs (SqL.of t)).symm.trans e2
    cases this
    exact ⟨d, ρ, s, Ext.refl, S, r, h⟩
theorem wRng_ok {lo : Int} {n : Nat} : WkOk K s0 ρ0 H0 (wRng lo n) (Itr lo n) := fun i ρ s H st it E S h => by
  rcases brec h with ⟨c, h⟩ | ⟨c, h⟩
  · have c : ¬ i < n := fun z => by rw [(Nat.blt_eq).mpr z] at c; cases c
    exact .inl ⟨Nat.le_of_not_lt c, h⟩
  · refine .inr ⟨(Nat.blt_eq).mp c, fun x H' ⟨eH, hx⟩ => ?_⟩
    subst eH; subst hx
    exact ⟨_, ρ, s, Ext.refl, S, rd_int, h⟩
/-- a new pair is made by the machine -/
theorem pair_new {xs : List D} {vs : List V} {T : Addr} {it : D → Sto → Bool} (S : RS K ρ s H) (q : RDs K ρ H xs vs) (nT : H T = none) (h : it (.tup xs) s = true) :
    ∃ d ρ' s', Ext s ρ H s' ρ' (upd H T (.tup vs)) ∧ RS K ρ' s' (upd H T (.tup vs)) ∧ RD K ρ' (upd H T (.tup vs)) d (.ref T) ∧ it d s' = true :=
  ⟨_, ρ, s, Ext.tuple nT, S.tuple nT, by unfold RD; exact ⟨T, vs, rfl, .inl (.inl upd_same), q.mono (Ext.tuple (s := s) nT) S⟩, h⟩
theorem wEnumT_ok {xs : List D} {a : Addr} {vs : List V} (S0 : RS K ρ0 s0 H0) (t : SqT K H0 a vs) (q : RDs K ρ0 H0 xs vs) : WkOk K s0 ρ0 H0 (wEnum (wTup xs)) (IteT K a) := fun i ρ s H st it E S h => by
  have t' := E.sqT S0 t
  rcases wTup_ok S0 t q i ρ s H st (fun x s1 => it (.tup [.int (.ofNat i), x]) s1) E S h with ⟨h1, h2⟩ | ⟨⟨ws, x, h1, h2⟩, h3⟩
  · exact .inl ⟨h1, h2⟩
  · refine .inr ⟨⟨ws, x, h1, h2⟩, fun y H' ⟨T, z, e1, nT, e2, hz⟩ => ?_⟩
    subst e1; subst e2
    obtain ⟨d, ρ2, s2, E2, S2, r2, h4⟩ := h3 z H ⟨rfl, hz⟩
    have S' := S2.tuple (o := .tup [.int (i : Nat), z]) nT
    obtain ⟨d', ρ3, s3, E3, S3, r3, h5⟩ := pair_new (vs := [.int (i : Nat), z]) S2 (.cons rd_int (.cons r2 .nil)) nT h4
    exact ⟨d', ρ3, s3, E2.trans E3 S S2, S3, r3, h5⟩
theorem wEnumL_ok {i0 : Nat} {a : Addr} (p : ρ0[i0]? = some a) : WkOk K s0 ρ0 H0 (wEnum (wLst i0)) (Ite K a) := fun i ρ s H st it E S h => by
  rcases wLst_ok p i ρ s H st (fun x s1 => it (.tup [.int (.ofNat i), x]) s1) E S h with ⟨h1, h2⟩ | ⟨⟨ws, x, h1, h2⟩, h3⟩
  · exact .inl ⟨h1, h2⟩
  · refine .inr ⟨⟨ws, x, h1, h2⟩, fun y H' ⟨T, z, e1, nT, e2, hz⟩ => ?_⟩
    subst e1; subst e2
    obtain ⟨d, ρ2, s2, E2, S2, r2, h4⟩ := h3 z H ⟨rfl, hz⟩
    obtain ⟨d', ρ3, s3, E3, S3, r3, h5⟩ := pair_new (vs := [.int (i : Nat), z]) S2 (.cons rd_int (.cons r2 .nil)) nT h4
    exact ⟨d', ρ3, s3, E2.trans E3 S S2, S3, r3, h5⟩
theorem blt2 {i m n : Nat} : (Nat.blt i m && Nat.blt i n) = true → i < m ∧ i < n := fun h => by
  obtain ⟨a, b⟩ := Bool.and_eq_true_iff.mp h
  exact ⟨(Nat.blt_eq).mp a, (Nat.blt_eq).mp b⟩
theorem blt2F {i m n : Nat} : (Nat.blt i m && Nat.blt i n) = false → m ≤ i ∨ n ≤ i := fun h => by
  rcases Bool.and_eq_false_iff.mp h with h | h
  · exact .inl (Nat.le_of_not_lt fun z => by rw [(Nat.blt_eq).mpr z] at h; cases h)
  · exact .inr (Nat.le_of_not_lt fun z => by rw [(Nat.blt_eq).mpr z] at h; cases h)
theorem wZipT_ok {xs ys : List D} {a b : Addr} {vs ws : List V} (S0 : RS K ρ0 s0 H0) (t : SqT K H0 a vs) (q : RDs K ρ0 H0 xs vs) (t2 : SqT K H0 b ws) (q2 : RDs K ρ0 H0 ys ws) : WkOk K s0 ρ0 H0 (wZipT xs ys) (RZ.ItzT K a b) := fun i ρ s H st it E S h => by
  have t' := E.sqT S0 t
  have t2' := E.sqT S0 t2
  have q' := q.mono E S0
  have q2' := q2.mono E S0
  rcases brec h with ⟨c, h⟩ | ⟨c, h⟩
  · have c := blt2F c
    rw [lenN_eq, lenN_eq, ← q.len, ← q2.len] at c
    exact .inl ⟨⟨vs, ws, t', t2', c⟩, h⟩
  · obtain ⟨d, e, h⟩ := nthK_some h
    obtain ⟨d2, f, h⟩ := nthK_some h
    obtain ⟨v, e2, r⟩ := q'.get e
    obtain ⟨v2, f2, r2⟩ := q2'.get f
    refine .inr ⟨⟨vs, ws, v, v2, t', t2', e2, f2⟩, fun y H' ⟨T, x1, x2, ey, nT, eH, g1, g2⟩ => ?_⟩
    subst ey; subst eH
    cases (g1 vs t').symm.trans e2
    cases (g2 ws t2').symm.trans f2
    exact pair_new S (.cons r (.cons r2 .nil)) nT h
theorem wZipL_ok {i0 j0 : Nat} {a b : Addr} (p : ρ0[i0]? = some a) (p2 : ρ0[j0]? = some b) : WkOk K s0 ρ0 H0 (wZipL i0 j0) (Itz K a b) := fun i ρ s H st it E S h => by
  obtain ⟨o, m, h1⟩ := lookK_some h
  obtain ⟨xs, e_, h2⟩ := onL_some h1
  obtain ⟨o2, m2, h3⟩ := lookK_some h2
  obtain ⟨ys, f_, h4⟩ := onL_some h3
  clear h h1 h2 h3
  subst e_; subst f_
  have rr : RD K ρ H (.ref i0) (.ref a) := by unfold RD; exact ⟨a, rfl, pre_at E.pre p⟩
  have rr2 : RD K ρ H (.ref j0) (.ref b) := by unfold RD; exact ⟨b, rfl, pre_at E.pre p2⟩
  obtain ⟨_, vs, e, _, t, q, _⟩ := S.list rr m
  obtain ⟨_, ws, f, _, t2, q2, _⟩ := S.list rr2 m2
  cases e
  cases f
  rcases brec h4 with ⟨c, h⟩ | ⟨c, h⟩
  · have c := blt2F c
    rw [lenN_eq, lenN_eq, ← q.len, ← q2.len] at c
    exact .inl ⟨⟨vs, ws, SqL.of t, SqL.of t2, c⟩, h⟩
  · obtain ⟨d, e, h⟩ := nthK_some h
    obtain ⟨d2, f, h⟩ := nthK_some h
    obtain ⟨v, e2, r⟩ := q.get e
    obtain ⟨v2, f2, r2⟩ := q2.get f
    refine .inr ⟨⟨vs, ws, v, v2, SqL.of t, SqL.of t2, e2, f2⟩, fun y H' ⟨T, x1, x2, ey, nT, eH, g1, g2⟩ => ?_⟩
    subst ey; subst eH
    cases (g1 vs (SqL.of t)).symm.trans e2
    cases (g2 ws (SqL.of t2)).symm.trans f2
    exact pair_new S (.cons r (.cons r2 .nil)) nT h
/-! ### what is walked -/
theorem seqW_some {x : D} {k : Wk → Bool} (h : seqW x k = true) : (∃ xs, x = .tup xs ∧ k (wTup xs) = true) ∨ ∃ a, x = .ref a ∧ k (wLst a) = true := by
  cases x with
  | tup xs => exact .inl ⟨xs, rfl, h⟩
  | ref a => exact .inr ⟨a, rfl, h⟩
  | non => cases h
  | bl _ => cases h
  | int _ => cases h
  | str _ => cases h
def lv (K : PySem.W.Frag) (s : Sto) (ρ : List Addr) (H : Hp) (x : D) (a : Addr) : Prop := (∃ xs vs, x = .tup xs ∧ SqT K H a vs ∧ RDs K ρ H xs vs) ∨ ∃ i, x = .ref i ∧ ρ[i]? = some a
/-- a list that is walked is there: the machine asks for it at once -/
theorem iseq_imp {c : Loc → Sto → KD → Bool} : ∀ (σ : LSt) (H : Hp) (R : It → Hp → Prop), tevI K (fun σ s k => c σ s fun x s1 => seqW x fun w => @Bool.rec (fun _ => Bool) false (k w s1) (hasW x s1)) σ H R → iSeqZ K (tev K c) σ H R := fun σ H R ⟨ρ, s, σd, k, S, L, h, A⟩ => by
  refine ⟨ρ, s, σd, _, S, L, h, fun x s1 v ρ1 H1 E1 S1 R1 h1 => ?_⟩
  rcases seqW_some h1 with ⟨xs, rfl, h1⟩ | ⟨i, rfl, h1⟩
  · have h1 : k (wTup xs) s1 = true := h1
    obtain ⟨a, vs, rfl, t, q⟩ := R1.tup
    exact ⟨a, rfl, .inr ⟨⟨vs, t⟩, A _ s1 _ ρ1 H1 E1 S1 (wTup_ok S1 t q) h1⟩⟩
  · obtain ⟨c, h1⟩ := brecT h1
    obtain ⟨o, m, c⟩ := lookK_some c
    obtain ⟨xs, e_, _⟩ := onL_some c
    subst e_
    obtain ⟨a, vs, rfl, p, t, q, _⟩ := S1.list R1 m
    exact ⟨a, rfl, .inl ⟨⟨vs, SqL.of t⟩, A _ s1 _ ρ1 H1 E1 S1 (wLst_ok p) h1⟩⟩
theorem ienum_imp {c : Loc → Sto → KD → Bool} : ∀ (σ : LSt) (H : Hp) (R : It → Hp → Prop), tevI K (fun σ s k => c σ s fun x s1 => seqW x fun w => @Bool.rec (fun _ => Bool) false (k (wEnum w) s1) (hasW x s1)) σ H R → iEnumZ K (tCons (tev K c) tNil) σ H R := fun σ H R ⟨ρ, s, σd, k, S, L, h, A⟩ => by
  refine ⟨ρ, s, σd, _, S, L, h, fun x s1 v ρ1 H1 E1 S1 R1 h1 => ?_⟩
  rcases seqW_some h1 with ⟨xs, rfl, h1⟩ | ⟨i, rfl, h1⟩
  · have h1 : k (wEnum (wTup xs)) s1 = true := h1
    obtain ⟨a, vs, rfl, t, q⟩ := R1.tup
    exact ⟨a, vs, rfl, .inr ⟨t, A _ s1 _ ρ1 H1 E1 S1 (wEnumT_ok S1 t q) h1⟩⟩
  · obtain ⟨c, h1⟩ := brecT h1
    obtain ⟨o, m, c⟩ := lookK_some c
    obtain ⟨xs, e_, _⟩ := onL_some c
    subst e_
    obtain ⟨a, vs, rfl, p, t, q, _⟩ := S1.list R1 m
    exact ⟨a, vs, rfl, .inl ⟨SqL.of t, A _ s1 _ ρ1 H1 E1 S1 (wEnumL_ok p) h1⟩⟩
theorem izip_imp {c c2 : Loc → Sto → KD → Bool} : ∀ (σ : LSt) (H : Hp) (R : It → Hp → Prop), tevI K (fun σ s k => c σ s fun x s1 => c2 σ s1 fun y s2 => zipW x y s2 fun w => k w s2) σ H R → RZ.iZipA K (tCons (tev K c) (tCons (tev K c2) tNil)) σ H R := fun σ H R ⟨ρ, s, σd, k, S, L, h, A⟩ => by
  refine ⟨ρ, s, σd, _, S, L, h, fun x s1 v ρ1 H1 E1 S1 R1 h1 => ?_⟩
  refine ⟨ρ1, s1, σd, _, S1, L.mono E1 S, h1, fun y s2 w ρ2 H2 E2 S2 R2 h2 => ?_⟩
  have R1' := R1.mono E2 S1
  have E := E1.trans E2 S S1
  unfold zipW at h2
  split at h2
  · obtain ⟨a, vs, rfl, t, q⟩ := R1'.tup
    obtain ⟨b, ws, rfl, t2, q2⟩ := R2.tup
    exact ⟨a, b, vs, ws, rfl, .inr ⟨t, t2, A _ s2 _ ρ2 H2 E S2 (wZipT_ok S2 t q t2 q2) h2⟩⟩
  · obtain ⟨c, h2⟩ := brecT h2
    obtain ⟨c1, c2⟩ := Bool.and_eq_true_iff.mp c
    obtain ⟨o, m, c1⟩ := lookK_some c1
    obtain ⟨xs, e_, _⟩ := onL_some c1
    subst e_
    obtain ⟨o2, m2, c2⟩ := lookK_some c2
    obtain ⟨ys, e_, _⟩ := onL_some c2
    subst e_
    obtain ⟨a, vs, rfl, p, t, q, _⟩ := S2.list R1' m
    obtain ⟨b, ws, rfl, p2, t2, q2, _⟩ := S2.list R2 m2
    exact ⟨a, b, vs, ws, rfl, .inl ⟨SqL.of t, SqL.of t2, A _ s2 _ ρ2 H2 E S2 (wZipL_ok p p2) h2⟩⟩
  · cases h2
theorem in62_iff {i : Int} (h : in62 i = true) : -(2 ^ 62) ≤ i ∧ i < 2 ^ 62 := by
  have h : Int.natAbs i < 4611686018427387904 := (Nat.blt_eq).mp h
  omega
theorem irng_imp {c : Loc → Sto → KD → Bool} : ∀ (σ : LSt) (H : Hp) (R : It → Hp → Prop), tevI K (fun σ s k => c σ s fun x s1 => onI x fun j => @Bool.rec (fun _ => Bool) false (k (wRng 0 (Int.toNat j)) s1) (in62 j)) σ H R → L2.iRng1 (tCons (tev K c) tNil) σ H R := fun σ H R ⟨ρ, s, σd, k, S, L, h, A⟩ => by
  refine ⟨ρ, s, σd, _, S, L, h, fun x s1 v ρ1 H1 E1 S1 R1 h1 => ?_⟩
  obtain ⟨j, e_, h1⟩ := onI_some h1
  subst e_
  rename_i h2
  obtain ⟨c, h2⟩ := brecT h1
  have c := in62_iff c
  exact ⟨j, by rw [R1.int], c.1, c.2, A _ s1 _ ρ1 H1 E1 S1 wRng_ok h2⟩
theorem irng2_imp {c c2 : Loc → Sto → KD → Bool} : ∀ (σ : LSt) (H : Hp) (R : It → Hp → Prop), tevI K (fun σ s k => c σ s fun x s1 => c2 σ s1 fun y s2 => onI x fun i => onI y fun j => @Bool.rec (fun _ => Bool) false (k (wRng i (Int.toNat (Int.sub j i))) s2) (in62 i && in62 j)) σ H R → L2.iRng2 (tCons (tev K c) (tCons (tev K c2) tNil)) σ H R := fun σ H R ⟨ρ, s, σd, k, S, L, h, A⟩ => by
  refine ⟨ρ, s, σd, _, S, L, h, fun x s1 v ρ1 H1 E1 S1 R1 h1 => ?_⟩
  refine ⟨ρ1, s1, σd, _, S1, L.mono E1 S, h1, fun y s2 w ρ2 H2 E2 S2 R2 h2 => ?_⟩
  obtain ⟨i, e1, h3⟩ := onI_some h2
  obtain ⟨j, e2, h4⟩ := onI_some h3
  clear h1 h2 h3
  subst e1; subst e2
  obtain ⟨c, h2⟩ := brecT h4
  obtain ⟨ci, cj⟩ := Bool.and_eq_true_iff.mp c
  have ci := in62_iff ci
  have cj := in62_iff cj
  exact ⟨i, j, by rw [R1.int, R2.int], ⟨ci.1, ci.2, cj.1, cj.2⟩, A _ s2 _ ρ2 H2 (E1.trans E2 S S1) S2 wRng_ok h2⟩
end
end Zev

set_option Elab.async false
set_option linter.all false
set_option maxRecDepth 100000
/-! Zev9: loops, comprehensions, calls, statements. -/
namespace Zev
open PySem PySem.Spec PyProof.Rows L2
section
variable {K : PySem.W.Frag} {R : Rec} {ρ ρ' ρ0 ρ1 ρ2 ρ3 : List Addr} {H H' H0 H1 H2 H3 : Hp} {s s' s0 s1 s2 s3 : Sto}

/-! ### loops -/
theorem for_imp {it : Loc → Sto → (Wk → Sto → Bool) → Bool} {sl : List Nat} {t : CT} {b : CS} : ∀ (D : Ends) (σ : LSt) (H : Hp),
    tevS K (fun σ s k => it σ s fun w s1 => forL w t b R k 90000 0 σ s1) D σ H → tFor (tevI K it) (tevG K sl (t R)) (tevS K (b R)) D σ H := fun D σ H ⟨ρ, s, σd, k, S, L, h, A⟩ => by
  refine ⟨ρ, s, σd, _, S, L, h, fun w s1 J ρ1 H1 E1 S1 hw h1 => ?_⟩
  have A1 := A.mono E1 S S1
  refine ⟨fun i m σ' H' => ∃ ρ' s' σd', Ext s1 ρ1 H1 s' ρ' H' ∧ RS K ρ' s' H' ∧ RL K ρ' H' σd' σ' ∧ forL w t b R k m i σd' s' = true, ⟨90000, ρ1, s1, σd, Ext.refl, S1, L.mono E1 S, h1⟩, ?_⟩
  rintro i m σ2 H2 ⟨ρ2, s2, σd2, E2, S2, L2, h2⟩
  cases m with
  | zero => cases h2
  | succ m =>
    have h2 : w i s2 (fun s1 => k.nx σd2 s1) (fun x s1 => t R x σd2 s1 fun σ3 s3 => b R σ3 s3 ⟨fun σ4 s4 => forL w t b R k m (Nat.succ i) σ4 s4, k.rt, k.nx, fun σ4 s4 => forL w t b R k m (Nat.succ i) σ4 s4⟩) = true := h2
    rcases hw i ρ2 s2 H2 _ _ E2 S2 h2 with ⟨h3, h4⟩ | ⟨h3, h4⟩
    · exact .inl ⟨h3, A1.nx σd2 s2 σ2 ρ2 H2 E2 S2 L2 h4⟩
    · refine .inr ⟨h3, fun σ' H' => ∃ ρ' s' σd', Ext s1 ρ1 H1 s' ρ' H' ∧ RS K ρ' s' H' ∧ RL K ρ' H' σd' σ' ∧ forL w t b R k m (i + 1) σd' s' = true, fun σ' H' q => ⟨m, Nat.lt_succ_self _, q⟩, fun x H' y => ?_⟩
      obtain ⟨d, ρ3, s3, E3, S3, r3, h5⟩ := h4 x H' y
      have E13 := E2.trans E3 S1 S2
      refine ⟨ρ3, s3, σd2, d, _, S3, L2.mono E3 S2, r3, h5, fun σd4 s4 σ4 ρ4 H4 E4 S4 L4 U4 h6 => ?_⟩
      have E14 := E13.trans E4 S1 S3
      exact ⟨ρ4, s4, σd4, _, S4, L4, h6, fun σd5 s5 σ5 ρ5 H5 E5 S5 L5 h7 => ⟨ρ5, s5, σd5, E14.trans E5 S1 S4, S5, L5, h7⟩, A1.rt.mono E14 S1 S4, A1.nx.mono E14 S1 S4, fun σd5 s5 σ5 ρ5 H5 E5 S5 L5 h7 => ⟨ρ5, s5, σd5, E14.trans E5 S1 S4, S5, L5, h7⟩⟩
theorem while_imp {c : CB} {b : CS} : ∀ (D : Ends) (σ : LSt) (H : Hp),
    tevS K (fun σ s k => whL c b R k 90000 σ s) D σ H → tWhile (tevT K (c R)) (tevS K (b R)) D σ H := fun D σ H ⟨ρ1, s1, σd, k, S1, L, h, A1⟩ => by
  refine ⟨fun m σ' H' => ∃ ρ' s' σd', Ext s1 ρ1 H s' ρ' H' ∧ RS K ρ' s' H' ∧ RL K ρ' H' σd' σ' ∧ whL c b R k m σd' s' = true, ⟨90000, ρ1, s1, σd, Ext.refl, S1, L, h⟩, ?_⟩
  rintro m σ2 H2 ⟨ρ2, s2, σd2, E2, S2, L2, h2⟩
  cases m with
  | zero => cases h2
  | succ m =>
    have h2 : c R σd2 s2 (fun t s1 => @Bool.rec (fun _ => Bool) (k.nx σd2 s1) (b R σd2 s1 ⟨fun σ3 s3 => whL c b R k m σ3 s3, k.rt, k.nx, fun σ3 s3 => whL c b R k m σ3 s3⟩) t) = true := h2
    refine ⟨ρ2, s2, σd2, _, S2, L2, h2, fun t s3 ρ3 H3 E3 S3 h3 => ?_⟩
    have E13 := E2.trans E3 S1 S2
    rcases brec h3 with ⟨e, q⟩ | ⟨e, q⟩ <;> subst e
    · exact iteF (A1.nx σd2 s3 σ2 ρ3 H3 E13 S3 (L2.mono E3 S2) q)
    · refine iteT ?_
      refine ⟨fun σ' H' => ∃ ρ' s' σd', Ext s1 ρ1 H s' ρ' H' ∧ RS K ρ' s' H' ∧ RL K ρ' H' σd' σ' ∧ whL c b R k m σd' s' = true, fun σ' H' q => ⟨m, Nat.lt_succ_self _, q⟩, ?_⟩
      exact ⟨ρ3, s3, σd2, _, S3, L2.mono E3 S2, q, fun σd5 s5 σ5 ρ5 H5 E5 S5 L5 h7 => ⟨ρ5, s5, σd5, E13.trans E5 S1 S3, S5, L5, h7⟩, A1.rt.mono E13 S1 S3, A1.nx.mono E13 S1 S3, fun σd5 s5 σ5 ρ5 H5 E5 S5 L5 h7 => ⟨ρ5, s5, σd5, E13.trans E5 S1 S3, S5, L5, h7⟩⟩

/-! ### comprehensions -/
theorem wipeD_len {σ : Loc} : ∀ {vs : List Nat}, (wipeD σ vs).length = σ.length
  | [] => rfl
  | v :: vs => by show (setN (wipeD σ vs) v none).length = _; rw [setN_eq, List.length_set, wipeD_len]
theorem RL.wipe {σd : Loc} {σ : LSt} (L : RL K ρ H σd σ) : ∀ {vs : List Nat}, RL K ρ H (wipeD σd vs) (wipe σ vs)
  | [] => L
  | v :: vs => by
    have ih := RL.wipe L (vs := vs)
    show RL K ρ H (setN (wipeD σd vs) v none) ((L2.wipe σ vs).set v none)
    rw [setN_eq]
    refine ⟨by rw [List.length_set, List.length_set]; exact ih.len, fun j x e => ?_⟩
    by_cases c : v = j
    · subst c
      have hl : v < (wipeD σd vs).length := by
        have := (List.getElem?_eq_some_iff.mp e).1
        rw [List.length_set] at this
        exact this
      rw [List.getElem?_set_self hl] at e
      cases e
    · rw [List.getElem?_set_ne c] at e
      obtain ⟨w, e2, r2⟩ := ih.at_ j x e
      exact ⟨w, by rw [List.getElem?_set_ne c]; exact e2, r2⟩
theorem wipe_in {σ : LSt} {j : Nat} : ∀ {vs : List Nat}, j ∈ vs → j < σ.length → (wipe σ vs)[j]? = some none
  | v :: vs, h, hl => by
    show ((wipe σ vs).set v none)[j]? = _
    by_cases c : v = j
    · subst c
      rw [List.getElem?_set_self (by rw [wipe_length]; exact hl)]
    · rw [List.getElem?_set_ne c]
      rcases List.mem_cons.mp h with e | h
      · exact absurd e.symm c
      · exact wipe_in h hl
theorem wipe_upd {σ σ2 : LSt} {vs : List Nat} (U : Upd vs (wipe σ vs) σ2) : wipe σ2 vs = wipe σ vs := by
  have hl : σ2.length = σ.length := by rw [U.1, wipe_length]
  apply List.ext_getElem?
  intro j
  by_cases m : j ∈ vs
  · by_cases c : j < σ.length
    · rw [wipe_in m c, wipe_in m (by rw [hl]; exact c)]
    · rw [List.getElem?_eq_none (by rw [wipe_length, hl]; omega), List.getElem?_eq_none (by rw [wipe_length]; omega)]
  · rw [wipe_out m, U.2 j m]
theorem sqT_over {a p : Addr} {vs ws : List V} {o : HO} (ha : H a = some (.lst ws)) (h : SqT K H p vs) : SqT K (upd H a o) p vs := by
  rcases h with (h | ⟨u, h⟩) | h
  · exact .inl (.inl (by rw [upd_ne (fun z => by rw [z, ha] at h; cases h)]; exact h))
  · exact .inl (.inr ⟨u, by rw [upd_ne (fun z => by rw [z, ha] at h; cases h)]; exact h⟩)
  · exact .inr h
theorem RDs.over {a : Addr} {ws : List V} {o : HO} {ds : List D} {vs : List V} (h : RDs K ρ H ds vs) (ha : H a = some (.lst ws)) : RDs K ρ (upd H a o) ds vs :=
  RDs.map h (fun _ _ q => sqT_over ha q) fun _ _ q => q
theorem RL.over {a : Addr} {ws : List V} {o : HO} {σd : Loc} {σ : LSt} (h : RL K ρ H σd σ) (ha : H a = some (.lst ws)) : RL K ρ (upd H a o) σd σ :=
  ⟨h.len, fun i d e => let ⟨v, e1, r⟩ := h.at_ i d e; ⟨v, e1, RD.map d v r (fun _ _ q => sqT_over ha q) fun _ _ q => q⟩⟩
theorem Ext.over {a : Addr} {o : HO} (E : Ext s0 ρ0 H0 s ρ H) (ha : H0 a = none) : Ext s0 ρ0 H0 s ρ (upd H a o) :=
  ⟨E.pre, fun b u h n => by rw [upd_ne (ne_of_none h ha)]; exact E.fr b u h n, E.ky, E.fs⟩
theorem RS.over {n : Nat} {a : Addr} {ws : List V} {o : HO} (S : RS K ρ s H) (hn : ρ[n]? = some a) (nk : ∀ u, (n, u) ∉ s.l) (ha : H a = some (.lst ws)) : RS K ρ s (upd H a o) where
  n := S.n
  nd := S.nd
  tr := fun b m z => by
    by_cases e : b = a
    · rw [e, upd_same] at z; cases z
    · rw [upd_ne e] at z; exact S.tr b m z
  kd := S.kd
  ob := fun i u m => by
    obtain ⟨b, e, r⟩ := S.ob i u m
    have ne : b ≠ a := fun z => by
      subst z
      have := at_inj S.nd e hn
      subst this
      exact nk u m
    refine ⟨b, e, ?_⟩
    rw [upd_ne ne]
    refine r.map (fun _ _ q => sqT_over ha q) (fun _ _ q => q) fun c xs nc h => ⟨?_, nc⟩
    rw [upd_ne (fun z => nc (by rw [z]; exact at_mem hn))]
    exact h
theorem free_own {n : Nat} {a : Addr} (S : RS K ρ s H) (hn : ρ[n]? = some a) (nk : ∀ u, (n, u) ∉ s.l) : ∀ (i : Nat) (u : O), (i, u) ∈ s.l → ρ[i]? ≠ some a := fun i u m z => by
  have := at_inj S.nd z hn
  subst this
  exact nk u m
theorem comp_imp {it : Loc → Sto → (Wk → Sto → Bool) → Bool} {own : List Nat} {t : CT} {c : Option CB} {e : CE} {tt : TT}
    (ht : (c = none ∧ tt = tYes) ∨ ∃ cb, c = some cb ∧ tt = tevT K (cb R)) : ∀ (σ : LSt) (H : Hp) (Q : VK),
    tev K (fun σ s k => it σ s fun w s1 => compL w t c e R (wipeD σ own) (fun acc s2 => k (.ref s1.n) ⟨s2.n, (s1.n, .lst (revA acc [])) :: s2.l⟩) 90000 0 [] ⟨Nat.succ s1.n, s1.l⟩) σ H Q →
    tLc (tevI K it) (tevG K own (t R)) tt (tev K (e R)) own σ H Q := fun σ H Q ⟨ρ, s, σd, k, S, L, h, A⟩ => by
  refine ⟨ρ, s, σd, _, S, L, h, fun w s1 J ρ1 H1 E1 S1 hw h1 Dd hD => ?_⟩
  have A1 := A.mono E1 S S1
  generalize hkk : (fun (acc : List D) (s2 : Sto) => k (.ref s1.n) ⟨s2.n, (s1.n, .lst (revA acc [])) :: s2.l⟩) = kk at h1
  refine ⟨fun i m H' => ∃ ρ' s' acc vs, Ext s1 ρ1 H1 s' ρ' H' ∧ RS K ρ' s' H' ∧ RL K ρ' H' (wipeD σd own) (wipe σ own) ∧ ρ'[s1.n]? = some Dd ∧ (∀ u, (s1.n, u) ∉ s'.l) ∧ H' Dd = some (.lst vs) ∧ RDs K ρ' H' acc.reverse vs ∧ acc.length ≤ i ∧ i + m ≤ 90000 ∧
    compL w t c e R (wipeD σd own) kk m i acc s' = true, ⟨90000, ρ1 ++ [Dd], ⟨Nat.succ s1.n, s1.l⟩, [], [], ?_, S1.res hD, ?_, at_new S1, fun u m => Nat.lt_irrefl _ (S1.key_lt m), upd_same, .nil, Nat.le_refl _, Nat.le_refl _, h1⟩, ?_⟩
  · exact Ext.new (u := .drw) S1 (fun x m => .inl m) hD
  · exact ((L.mono E1 S).mono (Ext.new (u := .drw) S1 (fun x m => .inl m) hD) S1).wipe
  rintro i m H2 ⟨ρ2, s2, acc, vs, E2, S2, L2, hn2, nk2, hD2, q2, l2, lm, h2⟩
  cases m with
  | zero => cases h2
  | succ m =>
    have hl : vs.length = acc.length := by rw [q2.len, List.length_reverse]
    have h2 : w i s2 (fun s1 => kk acc s1) (fun x s1 => t R x (wipeD σd own) s1 fun σ2 s2 =>
      @Option.rec CB (fun _ => Bool) (e R σ2 s2 fun y s3 => compL w t c e R (wipeD σd own) kk m (Nat.succ i) (y :: acc) s3)
      (fun c' => c' R σ2 s2 fun b s3 => @Bool.rec (fun _ => Bool) (compL w t c e R (wipeD σd own) kk m (Nat.succ i) acc s3) (e R σ2 s3 fun y s4 => compL w t c e R (wipeD σd own) kk m (Nat.succ i) (y :: acc) s4) b) c) = true := h2
    rcases hw i ρ2 s2 H2 _ _ E2 S2 h2 with ⟨h3, h4⟩ | ⟨h3, h4⟩
    · refine .inl ⟨h3, ?_⟩
      rw [← hkk] at h4
      refine A1 _ _ _ ρ2 H2 ⟨E2.pre, E2.fr, fun j u mj => ?_, E2.fs⟩ (S2.place hn2 nk2 ?_) (by unfold RD; exact ⟨Dd, rfl, hn2⟩) h4
      · rcases List.mem_cons.mp mj with z | z
        · cases z; exact .inr (by rw [S1.n]; exact Nat.le_refl _)
        · exact E2.ky j u z
      · exact ⟨vs, hD2, by rw [revA_eq, List.append_nil]; exact q2, by omega⟩
    · refine .inr ⟨h3, fun H' => ∃ ρ' s' acc vs, Ext s1 ρ1 H1 s' ρ' H' ∧ RS K ρ' s' H' ∧ RL K ρ' H' (wipeD σd own) (wipe σ own) ∧ ρ'[s1.n]? = some Dd ∧ (∀ u, (s1.n, u) ∉ s'.l) ∧ H' Dd = some (.lst vs) ∧ RDs K ρ' H' acc.reverse vs ∧ acc.length ≤ i + 1 ∧ i + 1 + m ≤ 90000 ∧
        compL w t c e R (wipeD σd own) kk m (i + 1) acc s' = true, fun H' q => ⟨m, Nat.lt_succ_self _, q⟩, fun x H' y => ?_⟩
      obtain ⟨d, ρ3, s3, E3, S3, r3, h5⟩ := h4 x H' y
      refine ⟨ρ3, s3, wipeD σd own, d, _, S3, L2.mono E3 S2, r3, h5, fun σd4 s4 σ4 ρ4 H4 E4 S4 L4 U4 h6 => ⟨wipe_upd U4, ?_⟩⟩
      have E24 := E3.trans E4 S2 S3
      -- the element
      have fin : ∀ (ρ5 : List Addr) (s5 : Sto) (H5 : Hp), Ext s2 ρ2 H2 s5 ρ5 H5 → RS K ρ5 s5 H5 → RL K ρ5 H5 σd4 σ4 → (e R σd4 s5 fun y s4 => compL w t c e R (wipeD σd own) kk m (Nat.succ i) (y :: acc) s4) = true →
          tev K (e R) σ4 H5 fun y H4 => ∃ acc, H4 Dd = some (.lst acc) ∧ acc.length < sizeLine ∧ ∃ ρ' s' acc' vs, Ext s1 ρ1 H1 s' ρ' (upd H4 Dd (.lst (acc ++ [y]))) ∧ RS K ρ' s' (upd H4 Dd (.lst (acc ++ [y]))) ∧ RL K ρ' (upd H4 Dd (.lst (acc ++ [y]))) (wipeD σd own) (wipe σ own) ∧ ρ'[s1.n]? = some Dd ∧ (∀ u, (s1.n, u) ∉ s'.l) ∧ (upd H4 Dd (.lst (acc ++ [y]))) Dd = some (.lst vs) ∧ RDs K ρ' (upd H4 Dd (.lst (acc ++ [y]))) acc'.reverse vs ∧ acc'.length ≤ i + 1 ∧ i + 1 + m ≤ 90000 ∧
            compL w t c e R (wipeD σd own) kk m (i + 1) acc' s' = true := by
        intro ρ5 s5 H5 E25 S5 L5 h7
        refine ⟨ρ5, s5, σd4, _, S5, L5, h7, fun y s6 v ρ6 H6 E6 S6 R6 h8 => ?_⟩
        have E26 := E25.trans E6 S2 S5
        have hD6 : H6 Dd = some (.lst vs) := E26.fr Dd _ hD2 (free_own S2 hn2 nk2)
        have hn6 : ρ6[s1.n]? = some Dd := pre_at E26.pre hn2
        have nk6 : ∀ u, (s1.n, u) ∉ s6.l := fun u mu => by
          rcases E26.ky _ _ mu with ⟨u', mu'⟩ | le
          · exact nk2 u' mu'
          · have := (List.getElem?_eq_some_iff.mp hn2).1
            omega
        refine ⟨vs, hD6, by rw [hl]; exact Nat.lt_of_lt_of_le (show acc.length < 1000000 by omega) line1, ρ6, s6, y :: acc, vs ++ [v], (E2.trans E26 S1 S2).over hD, S6.over hn6 nk6 hD6, (L2.mono E26 S2).over hD6, hn6, nk6, upd_same, ?_, by rw [List.length_cons]; omega, by omega, h8⟩
        rw [List.reverse_cons]
        exact ((q2.mono E26 S2).append (.cons R6 .nil)).over hD6
      rcases ht with ⟨ec, et⟩ | ⟨cb, ec, et⟩
      · subst ec; subst et
        unfold tYes
        dsimp only
        rw [if_pos rfl]
        exact fin ρ4 s4 H4 E24 S4 L4 h6
      · subst ec; subst et
        refine ⟨ρ4, s4, σd4, _, S4, L4, h6, fun b s5 ρ5 H5 E5 S5 h7 => ?_⟩
        have E25 := E24.trans E5 S2 S4
        rcases brec h7 with ⟨eb, q⟩ | ⟨eb, q⟩ <;> subst eb
        · refine iteF ?_
          have nk5 : ∀ u, (s1.n, u) ∉ s5.l := fun u mu => by
            rcases E25.ky _ _ mu with ⟨u', mu'⟩ | le
            · exact nk2 u' mu'
            · have := (List.getElem?_eq_some_iff.mp hn2).1
              omega
          exact ⟨ρ5, s5, acc, vs, E2.trans E25 S1 S2, S5, L2.mono E25 S2, pre_at E25.pre hn2, nk5, E25.fr Dd _ hD2 (free_own S2 hn2 nk2), q2.mono E25 S2, by omega, by omega, q⟩
        · refine iteT ?_
          exact fin ρ5 s5 H5 E25 S5 (L4.mono E5 S4) q

/-! ### calls -/
/-- the promise of a def, by the meaning's own call -/
def spOf (K : PySem.W.Frag) (R : Rec) (f : Nat) (np : Nat) : Sp := fun vs H Q _ => vs.length = np ∧ ∃ ρ s ds k, RS K ρ s H ∧ RDs K ρ H ds vs ∧ R f ds s k = true ∧ Ans K ρ s H k Q
theorem merge {n : Nat} (S : RS K ρ s H) (hn : n = s.n) (E : Ext ⟨n, []⟩ ρ H s2 ρ2 H2) (S2 : RS K ρ2 s2 H2) : RS K ρ2 ⟨s2.n, s2.l ++ s.l⟩ H2 ∧ Ext s ρ H ⟨s2.n, s2.l ++ s.l⟩ ρ2 H2 := by
  subst hn
  have S0 : RS K ρ ⟨s.n, []⟩ H := S.sub (List.nil_sublist _)
  have low : ∀ i u, (i, u) ∈ s2.l → ρ.length ≤ i := fun i u m => by
    rcases E.ky i u m with ⟨_, z⟩ | z
    · cases z
    · exact z
  refine ⟨⟨S2.n, S2.nd, S2.tr, ?_, fun i o m => ?_⟩, ⟨E.pre, fun a o h _ => E.fr a o h (fun _ _ z => by cases z), fun i o m => ?_, E.fs⟩⟩
  · rw [List.map_append, List.nodup_append]
    refine ⟨S2.kd, S.kd, fun a ha b hb e => ?_⟩
    obtain ⟨⟨i, u⟩, m1, e1⟩ := List.mem_map.mp ha
    obtain ⟨⟨j, v⟩, m2, e2⟩ := List.mem_map.mp hb
    have l1 := low i u m1
    have l2 := S.key_lt m2
    rw [S.n] at l2
    have : i = j := e1.trans (e.trans e2.symm)
    omega
  · rcases List.mem_append.mp m with m | m
    · exact S2.ob i o m
    · obtain ⟨a, e, r⟩ := S.ob i o m
      refine ⟨a, pre_at E.pre e, ?_⟩
      obtain ⟨v, hv, _⟩ := r.own
      have e2 := E.fr a v hv (fun _ _ z => by cases z)
      rw [e2, ← hv]
      refine r.map (fun _ _ q => E.sqT S0 q) (fun _ _ q => pre_at E.pre q) fun c xs nc h => ⟨E.fr c _ h (fun _ _ z => by cases z), fun mc => ?_⟩
      rcases E.fs c mc with q | q
      · exact nc q
      · rw [h] at q; cases q
  · rcases List.mem_append.mp m with m | m
    · exact .inr (low i o m)
    · exact .inl ⟨o, m⟩
theorem call_imp {f mode n : Nat} {es : Loc → Sto → KL → Bool} : ∀ (σ : LSt) (H : Hp) (Q : VK),
    tev K (fun σ s k => es σ s fun ds s1 => @Nat.rec (fun _ => Bool) (R f ds s1 k) (fun m _ => @Nat.rec (fun _ => Bool)
      (R f ds ⟨s1.n, []⟩ fun d s2 => k d ⟨s2.n, s2.l ++ s1.l⟩) (fun _ _ => R f ds ⟨s1.n, []⟩ fun d s2 => k d ⟨s2.n, s1.l⟩) m) mode) σ H Q → tCall (spOf K R f n) [] E0 (tevA K n es) σ H Q := fun σ H Q ⟨ρ, s, σd, k, S, L, h, A⟩ => by
  refine ⟨ρ, s, σd, _, S, L, h, fun ds s1 vs ρ1 H1 l E1 S1 R1 h1 => ?_⟩
  have A1 := A.mono E1 S S1
  show spOf K R f n (vs ++ []) H1 Q E0
  rw [List.append_nil]
  refine ⟨by rw [R1.len, l], ?_⟩
  match mode, h1 with
  | 0, h1 => exact ⟨ρ1, s1, ds, k, S1, R1, h1, A1⟩
  | 1, h1 =>
    refine ⟨ρ1, ⟨s1.n, []⟩, ds, _, S1.sub (List.nil_sublist _), R1, h1, fun d s2 v ρ2 H2 E2 S2 R2 h2 => ?_⟩
    obtain ⟨S3, E3⟩ := merge S1 rfl E2 S2
    exact A1 d _ v ρ2 H2 E3 S3 R2 h2
  | m + 2, h1 =>
    refine ⟨ρ1, ⟨s1.n, []⟩, ds, _, S1.sub (List.nil_sublist _), R1, h1, fun d s2 v ρ2 H2 E2 S2 R2 h2 => ?_⟩
    obtain ⟨S3, E3⟩ := merge S1 rfl E2 S2
    have sub : List.Sublist s1.l (s2.l ++ s1.l) := List.sublist_append_right _ _
    exact A1 d _ v ρ2 H2 (E3.trans (Ext.sub (s := ⟨s2.n, s2.l ++ s1.l⟩) sub) S1 S3) (S3.sub sub) R2 h2

/-! ### built-ins, methods -/
theorem bi_imp {b : Bi} {a : Loc → Sto → KD → Bool} : ∀ (σ : LSt) (H : Hp) (Q : VK), tev K (fun σ s k => a σ s fun x s1 => bi1 b x s1 k) σ H Q → tCB (biR K b) (tCons (tev K a) tNil) σ H Q := fun σ H Q ⟨ρ, s, σd, k, S, L, h, A⟩ =>
  ⟨ρ, s, σd, _, S, L, h, fun x s1 v ρ1 H1 E1 S1 R1 h1 => bi_ok b _ _ _ _ _ _ _ S1 R1 h1 (A.mono E1 S S1)⟩
theorem isi_imp {T : Nat} {a : Loc → Sto → KD → Bool} : ∀ (σ : LSt) (H : Hp) (Q : VK), tev K (fun σ s k => a σ s fun x s1 => isiK T x fun b => k (.bl b) s1) σ H Q → tCB (rIsi K) (tCons (tev K a) (tCons (tC (.ty (tyN T))) tNil)) σ H Q := fun σ H Q ⟨ρ, s, σd, k, S, L, h, A⟩ => by
  refine ⟨ρ, s, σd, _, S, L, h, fun x s1 v ρ1 H1 E1 S1 R1 h1 => ?_⟩
  obtain ⟨t, b, ty, kb, h2⟩ := isi_ok R1 h1
  exact ⟨v, .ty (tyN T), .type t, .type (tyN T), b, rfl, .ty _, ty, kit_ty kb, (A.mono E1 S S1).here S1 rd_bl h2⟩
theorem min_imp {a b : Loc → Sto → KD → Bool} : ∀ (σ : LSt) (H : Hp) (Q : VK), tev K (fun σ s k => a σ s fun x s1 => b σ s1 fun y s2 => opMin x y s2 k) σ H Q →
    tCB (fun xs H Q => ∃ i j, xs = [.int i, .int j] ∧ Q (.int (if j < i then j else i)) H) (tCons (tev K a) (tCons (tev K b) tNil)) σ H Q := fun σ H Q ⟨ρ, s, σd, k, S, L, h, A⟩ => by
  refine ⟨ρ, s, σd, _, S, L, h, fun x s1 v ρ1 H1 E1 S1 R1 h1 => ?_⟩
  refine ⟨ρ1, s1, σd, _, S1, L.mono E1 S, h1, fun y s2 w ρ2 H2 E2 S2 R2 h2 => ?_⟩
  have R1' := R1.mono E2 S1
  obtain ⟨i, e1, h3⟩ := onI_some h2
  obtain ⟨j, e2, h4⟩ := onI_some h3
  clear h1 h2 h3
  subst e1; subst e2
  refine ⟨i, j, by rw [R1'.int, R2.int], (A.mono (E1.trans E2 S S1) S S2).here S2 ?_ h4⟩
  show RD K ρ2 H2 (D.int (@Bool.rec (fun _ => Int) i j (ltI j i))) _
  rw [ltI_iff]
  by_cases c : j < i
  · rw [if_pos c, decide_eq_true c]; exact rd_int
  · rw [if_neg c, decide_eq_false c]; exact rd_int
theorem isLx_ok {x : D} {v : V} (S : RS K ρ s H) (r : RD K ρ H x v) (h : isLx x s = true) : tyV K "list" v H := by
  cases x with
  | ref a =>
    obtain ⟨o, m, h⟩ := lookK_some h
    obtain ⟨xs, e, _⟩ := onL_some h
    subst e
    obtain ⟨p, vs, rfl, _, t, _⟩ := S.list r m
    exact .inl ⟨rfl, vs, SqL.of t⟩
  | non => cases h
  | bl _ => cases h
  | int _ => cases h
  | str _ => cases h
  | tup _ => cases h
theorem mth_imp {m : Mt} {i n : Nat} {es : Loc → Sto → KL → Bool} : ∀ (σ : LSt) (H : Hp) (Q : VK), tev K (fun σ s k => getK σ i fun x => @Bool.rec (fun _ => Bool) false (es σ s fun ds s1 => mtK m x ds s1 k) (isLx x s)) σ H Q → tBM K "list" (mtR m) (tVar i) (tevA K n es) σ H Q := fun σ H Q ⟨ρ, s, σd, k, S, L, h, A⟩ => by
  obtain ⟨d, e, h⟩ := getK_some h
  obtain ⟨v, e2, r⟩ := L.at_ i d e
  obtain ⟨c, h⟩ := brecT h
  refine ⟨v, e2, isLx_ok S r c, ρ, s, σd, _, S, L, h, fun ds s1 ws ρ1 H1 l E1 S1 R1 h1 => ?_⟩
  exact (mtK_ok S1 (r.mono E1 S) R1 h1 (A.mono E1 S S1)).2
theorem mth0_imp {m : Mt} {i : Nat} : ∀ (σ : LSt) (H : Hp) (Q : VK), tev K (fun σ s k => getK σ i fun x => @Bool.rec (fun _ => Bool) false (mtK m x [] s k) (isLx x s)) σ H Q → tBM0 K "list" (mtR m) (tVar i) σ H Q := fun σ H Q ⟨ρ, s, σd, k, S, L, h, A⟩ => by
  obtain ⟨d, e, h⟩ := getK_some h
  obtain ⟨v, e2, r⟩ := L.at_ i d e
  obtain ⟨c, h⟩ := brecT h
  exact ⟨v, e2, isLx_ok S r c, (mtK_ok S r .nil h A).2⟩
theorem sl_imp {a : Loc → Sto → KD → Bool} {lo hi : Loc → Sto → (Option Int → Sto → Bool) → Bool} {tl th : TO}
    (hlo : ∀ σ H (Q : Option Int → Hp → Prop), (∃ ρ s σd k, RS K ρ s H ∧ RL K ρ H σd σ ∧ lo σd s k = true ∧ ∀ o s' ρ' H', Ext s ρ H s' ρ' H' → RS K ρ' s' H' → k o s' = true → Q o H') → tl σ H Q)
    (hhi : ∀ σ H (Q : Option Int → Hp → Prop), (∃ ρ s σd k, RS K ρ s H ∧ RL K ρ H σd σ ∧ hi σd s k = true ∧ ∀ o s' ρ' H', Ext s ρ H s' ρ' H' → RS K ρ' s' H' → k o s' = true → Q o H') → th σ H Q) :
    ∀ (σ : LSt) (H : Hp) (Q : VK), tev K (fun σ s k => a σ s fun x s1 => lo σ s1 fun l s2 => hi σ s2 fun h s3 => slK x l h s3 k) σ H Q → tSl (rSlZ K) (tev K a) tl th σ H Q := fun σ H Q ⟨ρ, s, σd, k, S, L, h, A⟩ => by
  refine ⟨ρ, s, σd, _, S, L, h, fun x s1 v ρ1 H1 E1 S1 R1 h1 => ?_⟩
  refine hlo _ _ _ ⟨ρ1, s1, σd, _, S1, L.mono E1 S, h1, fun o s2 ρ2 H2 E2 S2 h2 => ?_⟩
  have E12 := E1.trans E2 S S1
  refine hhi _ _ _ ⟨ρ2, s2, σd, _, S2, L.mono E12 S, h2, fun o2 s3 ρ3 H3 E3 S3 h3 => ?_⟩
  exact slK_ok S3 (R1.mono (E2.trans E3 S1 S2) S1) h3 (A.mono (E12.trans E3 S S2) S S3)
theorem onone_imp : ∀ σ H (Q : Option Int → Hp → Prop), (∃ ρ s σd k, RS K ρ s H ∧ RL K ρ H σd σ ∧ oNil R σd s k = true ∧ ∀ o s' ρ' H', Ext s ρ H s' ρ' H' → RS K ρ' s' H' → k o s' = true → Q o H') → tNoPart σ H Q := fun σ H Q ⟨ρ, s, σd, k, S, L, h, A⟩ => A none s ρ H Ext.refl S h
theorem osome_imp {a : CE} : ∀ σ H (Q : Option Int → Hp → Prop), (∃ ρ s σd k, RS K ρ s H ∧ RL K ρ H σd σ ∧ oSome a R σd s k = true ∧ ∀ o s' ρ' H', Ext s ρ H s' ρ' H' → RS K ρ' s' H' → k o s' = true → Q o H') → tPart (tev K (a R)) σ H Q := fun σ H Q ⟨ρ, s, σd, k, S, L, h, A⟩ => by
  refine ⟨ρ, s, σd, _, S, L, h, fun x s1 v ρ1 H1 E1 S1 R1 h1 => ?_⟩
  obtain ⟨i, e, h2⟩ := onI_some h1
  subst e
  exact ⟨i, R1.int, A (some i) s1 ρ1 H1 E1 S1 h2⟩
theorem chain_imp {o o' : Op2} {r r' : R2} {a b c : Loc → Sto → KD → Bool} (ho : Op2Ok K o r) (ho' : Op2Ok K o' r') : ∀ (σ : LSt) (H : Hp) (Q : VK),
    tev K (fun σ s k => a σ s fun x s1 => b σ s1 fun y s2 => o x y s2 fun z s3 => onB z fun t => @Bool.rec (fun _ => Bool) (k (.bl false) s3) (c σ s3 fun y2 s4 => o' y y2 s4 k) t) σ H Q → tChain r r' (tev K a) (tev K b) (tev K c) σ H Q := fun σ H Q ⟨ρ, s, σd, k, S, L, h, A⟩ => by
  refine ⟨ρ, s, σd, _, S, L, h, fun x s1 v ρ1 H1 E1 S1 R1 h1 => ?_⟩
  refine ⟨ρ1, s1, σd, _, S1, L.mono E1 S, h1, fun y s2 w ρ2 H2 E2 S2 R2 h2 => ?_⟩
  have E12 := E1.trans E2 S S1
  refine ho _ _ _ _ _ _ _ _ _ S2 (R1.mono E2 S1) R2 h2 fun z s3 u ρ3 H3 E3 S3 R3 h3 => ?_
  obtain ⟨t, e, h4⟩ := onB_some h3
  subst e
  have E13 := E12.trans E3 S S2
  refine ⟨t, R3.bl, ?_⟩
  rcases brec h4 with ⟨e, q⟩ | ⟨e, q⟩ <;> subst e
  · exact iteF ((A.mono E13 S S3).here S3 rd_bl q)
  · refine iteT ?_
    refine ⟨ρ3, s3, σd, _, S3, L.mono E13 S, q, fun y2 s4 w2 ρ4 H4 E4 S4 R4 h5 => ?_⟩
    exact ho' _ _ _ _ _ _ _ _ _ S4 (R2.mono (E3.trans E4 S2 S3) S2) R4 h5 (A.mono (E13.trans E4 S S3) S S4)

/-! ### statements -/
theorem seq_imp {a b : Loc → Sto → Ks → Bool} : ∀ (D : Ends) (σ : LSt) (H : Hp), tevS K (fun σ s k => a σ s ⟨fun σ1 s1 => b σ1 s1 k, k.rt, k.bk, k.ct⟩) D σ H → tSeq (tevS K a) (tevS K b) D σ H := fun D σ H ⟨ρ, s, σd, k, S, L, h, A⟩ =>
  ⟨ρ, s, σd, _, S, L, h, fun σd1 s1 σ1 ρ1 H1 E1 S1 L1 h1 => ⟨ρ1, s1, σd1, k, S1, L1, h1, A.mono E1 S S1⟩, A.rt, A.bk, A.ct⟩
theorem pass_imp : ∀ (D : Ends) (σ : LSt) (H : Hp), tevS K (fun σ s k => k.nx σ s) D σ H → tNext D σ H := fun D σ H ⟨ρ, s, σd, k, S, L, h, A⟩ => A.nx σd s σ ρ H Ext.refl S L h
theorem cont_imp : ∀ (D : Ends) (σ : LSt) (H : Hp), tevS K (fun σ s k => k.ct σ s) D σ H → tCont D σ H := fun D σ H ⟨ρ, s, σd, k, S, L, h, A⟩ => A.ct σd s σ ρ H Ext.refl S L h
theorem brk_imp : ∀ (D : Ends) (σ : LSt) (H : Hp), tevS K (fun σ s k => k.bk σ s) D σ H → tBreak D σ H := fun D σ H ⟨ρ, s, σd, k, S, L, h, A⟩ => A.bk σd s σ ρ H Ext.refl S L h
theorem never_imp : ∀ (D : Ends) (σ : LSt) (H : Hp), tevS K (fun σ s k => false) D σ H → tNever D σ H := fun D σ H ⟨ρ, s, σd, k, S, L, h, A⟩ => by cases h
theorem retn_imp : ∀ (D : Ends) (σ : LSt) (H : Hp), tevS K (fun σ s k => k.rt .non s) D σ H → tRetN D σ H := fun D σ H ⟨ρ, s, σd, k, S, L, h, A⟩ => A.rt.here S rd_non h
theorem ret_imp {a : Loc → Sto → KD → Bool} : ∀ (D : Ends) (σ : LSt) (H : Hp), tevS K (fun σ s k => a σ s k.rt) D σ H → tRet (tev K a) D σ H := fun D σ H ⟨ρ, s, σd, k, S, L, h, A⟩ => ⟨ρ, s, σd, _, S, L, h, A.rt⟩
theorem ex_imp {a : Loc → Sto → KD → Bool} : ∀ (D : Ends) (σ : LSt) (H : Hp), tevS K (fun σ s k => a σ s fun _ s1 => k.nx σ s1) D σ H → tDrop (tev K a) D σ H := fun D σ H ⟨ρ, s, σd, k, S, L, h, A⟩ =>
  ⟨ρ, s, σd, _, S, L, h, fun x s1 v ρ1 H1 E1 S1 R1 h1 => A.nx σd s1 σ ρ1 H1 E1 S1 (L.mono E1 S) h1⟩
theorem asg_imp {sl : List Nat} {a : Loc → Sto → KD → Bool} {t : D → Loc → Sto → KS → Bool} : ∀ (D : Ends) (σ : LSt) (H : Hp), tevS K (fun σ s k => a σ s fun x s1 => t x σ s1 k.nx) D σ H → tAsg (tev K a) (tevG K sl t) D σ H := fun D σ H ⟨ρ, s, σd, k, S, L, h, A⟩ =>
  ⟨ρ, s, σd, _, S, L, h, fun x s1 v ρ1 H1 E1 S1 R1 h1 => ⟨ρ1, s1, σd, x, _, S1, L.mono E1 S, R1, h1, fun σd2 s2 σ2 ρ2 H2 E2 S2 L2 _ h2 => A.nx _ _ _ _ _ (E1.trans E2 S S1) S2 L2 h2⟩⟩
theorem par2_imp {i j : Nat} {a b : Loc → Sto → KD → Bool} : ∀ (D : Ends) (σ : LSt) (H : Hp), tevS K (fun σ s k => a σ s fun x s1 => b σ s1 fun y s2 => k.nx (setN (setN σ i (some x)) j (some y)) s2) D σ H → tPar i j (tCons (tev K a) (tCons (tev K b) tNil)) D σ H := fun D σ H ⟨ρ, s, σd, k, S, L, h, A⟩ => by
  refine ⟨ρ, s, σd, _, S, L, h, fun x s1 v ρ1 H1 E1 S1 R1 h1 => ?_⟩
  refine ⟨ρ1, s1, σd, _, S1, L.mono E1 S, h1, fun y s2 w ρ2 H2 E2 S2 R2 h2 => ?_⟩
  have E := E1.trans E2 S S1
  exact ⟨v, w, rfl, A.nx _ s2 _ ρ2 H2 E S2 (((L.mono E S).set (R1.mono E2 S1)).set R2) h2⟩
theorem par3_imp {i j l : Nat} {a b c : Loc → Sto → KD → Bool} : ∀ (D : Ends) (σ : LSt) (H : Hp), tevS K (fun σ s k => a σ s fun x s1 => b σ s1 fun y s2 => c σ s2 fun z s3 => k.nx (setN (setN (setN σ i (some x)) j (some y)) l (some z)) s3) D σ H → tPar3 i j l (tCons (tev K a) (tCons (tev K b) (tCons (tev K c) tNil))) D σ H := fun D σ H ⟨ρ, s, σd, k, S, L, h, A⟩ => by
  refine ⟨ρ, s, σd, _, S, L, h, fun x s1 v ρ1 H1 E1 S1 R1 h1 => ?_⟩
  refine ⟨ρ1, s1, σd, _, S1, L.mono E1 S, h1, fun y s2 w ρ2 H2 E2 S2 R2 h2 => ?_⟩
  have E := E1.trans E2 S S1
  refine ⟨ρ2, s2, σd, _, S2, L.mono E S, h2, fun z s3 u ρ3 H3 E3 S3 R3 h3 => ?_⟩
  have E' := E.trans E3 S S2
  exact ⟨v, w, u, rfl, A.nx _ s3 _ ρ3 H3 E' S3 ((((L.mono E' S).set (R1.mono (E2.trans E3 S1 S2) S1)).set (R2.mono E3 S2)).set R3) h3⟩
theorem aug_imp {i : Nat} {f : Int → Int → Int} {a : Loc → Sto → KD → Bool} : ∀ (D : Ends) (σ : LSt) (H : Hp), tevS K (fun σ s k => getK σ i fun x => a σ s fun y s1 => opII (fun i j => .int (f i j)) x y s1 fun z s2 => k.nx (setN σ i (some z)) s2) D σ H → tAug i (tev K a) (ipI f) D σ H := fun D σ H ⟨ρ, s, σd, k, S, L, h, A⟩ => by
  obtain ⟨d, e, h⟩ := getK_some h
  obtain ⟨v, e2, r⟩ := L.at_ i d e
  refine ⟨v, e2, ρ, s, σd, _, S, L, h, fun y s1 w ρ1 H1 E1 S1 R1 h1 => ?_⟩
  have r' := r.mono E1 S
  obtain ⟨p, e1, h3⟩ := onI_some h1
  obtain ⟨q, e2, h4⟩ := onI_some h3
  clear h h1 h3
  subst e1; subst e2
  exact ⟨p, q, r'.int, R1.int, A.nx _ s1 _ ρ1 H1 E1 S1 ((L.mono E1 S).set rd_int) h4⟩
end
end Zev

set_option Elab.async false
set_option linter.all false
set_option maxRecDepth 100000
/-! Zev10: an IR text beside the tree of a def: the check, and what it gives. -/
namespace Zev
open PySem PySem.Spec PyProof.Rows L2

/-- what is known of the module's names -/
structure Gb where
  consts : List (Str × D)
  funs : List (Str × Nat × Nat)
  free : List Str
  cls : List Str
/-- what is known where one stands: the names by slots, the scope's names, which names may be stored -/
structure Sc where
  N : List Str
  names : List (Str × NameKind)
  st : Str → Bool
  top : Bool

def nameOk (x : Str) : Bool := !(x == ("__debug__" : Str)) && !(x == ("__classdict__" : Str)) && !(x == ("__name__" : Str))
def visB (sc : Sc) (x : Str) : Bool := match sc.names.lookup x with
  | some .local => true | some .cell => true | some .free => true | _ => false
def glB (sc : Sc) (x : Str) : Bool := match sc.names.lookup x with
  | some .globalImplicit => true | _ => false
def locB (sc : Sc) (x : Str) : Bool := match sc.names.lookup x with
  | some .local => true | some .cell => sc.st x | _ => false
def plainB (sc : Sc) (x : Str) : Bool := match sc.names.lookup x with
  | some .local => true | _ => false
mutual
def beqD : D → D → Bool
  | .non, .non => true
  | .bl a, .bl b => a == b
  | .int a, .int b => a == b
  | .str a, .str b => a == b
  | .tup a, .tup b => beqDs a b
  | .ref a, .ref b => a == b
  | _, _ => false
def beqDs : List D → List D → Bool
  | [], [] => true
  | x :: xs, y :: ys => beqD x y && beqDs xs ys
  | _, _ => false
end
def constB (d : D) (c : Const) : Bool := match d, c with
  | .non, .none => true
  | .bl a, .bool b => a == b
  | .int a, .int b => a == b
  | .str a, .str x => x.cps.toList == a && PyData.strOk x
  | _, _ => false
def glbB (G : Gb) (x : Str) (d : D) : Bool := match G.consts.lookup x with
  | some e => beqD e d
  | none => false
def funB (G : Gb) (x : Str) (f n : Nat) : Bool := decide (G.funs.lookup x = some (f, n))
def clsB (G : Gb) (x : Str) : Bool := decide (x ∈ G.cls)
def freeB (G : Gb) (x : Str) : Bool := decide (x ∈ G.free)
def slT : T → List Nat
  | .nm i => [i]
  | .tp ts => slTs ts
  | .sb _ _ => []
where slTs : Ts → List Nat
  | .nil => []
  | .cons t r => slT t ++ slTs r
/-- the scope of a comprehension's block -/
def scOf (sc : Sc) : Scope := { kind := .function, names := sc.names, isGenerator := false, isCoroutine := false }
def subSc (sc : Sc) (scope : Scope) : Sc where
  N := sc.N
  names := scope.names.map fun (n, k) => if (k == .free && sc.names.lookup n == some .cell) then (n, .cell) else (n, k)
  st := fun x => scope.names.lookup x == some .cell
  top := false
def ownOf (sc : Sc) (own : List Nat) : List (Str × Nat) := own.map fun i => (sc.N.getD i "", i)
def isTup : Expr → Bool
  | .Tuple .. => true
  | _ => false
def isNm : Expr → Bool
  | .Name .. => true
  | _ => false
def isComp : Expr → Bool
  | .ListComp .. => true
  | _ => false
mutual
def chkE (G : Gb) (sc : Sc) : E → Expr → Bool
  | .var i, .Name x _ => decide (sc.N[i]? = some x) && visB sc x && nameOk x
  | .cst d, .Constant c _ _ => constB d c
  | .glb d, .Name x _ => glB sc x && glbB G x d && nameOk x
  | .bin o a b, .BinOp x op y _ => decide (op = opOf o) && chkE G sc a x && chkE G sc b y
  | .cmp o a b, .Compare x [op] [y] _ => decide (op = cmpOf o) && chkE G sc a x && chkE G sc b y
  | .chain o o' a b c, .Compare x [op, op'] [y, z] _ => decide (op = cmpOf o) && decide (op' = cmpOf o') && chkE G sc a x && chkE G sc b y && chkE G sc c z
  | .neg a, .UnaryOp .USub x _ => chkE G sc a x
  | .not a, .UnaryOp .Not x _ => chkE G sc a x
  | .and a b, .BoolOp .And (x :: y :: []) _ => chkE G sc a x && chkE G sc b y
  | .and a b, .BoolOp .And (x :: y :: z :: r) p => chkE G sc a x && chkE G sc b (.BoolOp .And (y :: z :: r) p)
  | .or a b, .BoolOp .Or (x :: y :: []) _ => chkE G sc a x && chkE G sc b y
  | .or a b, .BoolOp .Or (x :: y :: z :: r) p => chkE G sc a x && chkE G sc b (.BoolOp .Or (y :: z :: r) p)
  | .ife c a b, .IfExp x y z _ => chkE G sc c x && chkE G sc a y && chkE G sc b z
  | .call f _ es, .Call (.Name x _) args [] _ => funB G x f args.length && glB sc x && nameOk x && chkEs G sc es args
  | .bi b a, .Call (.Name x _) [y] [] _ => decide (x = biN b) && freeB G x && glB sc x && chkE G sc a y
  | .isi T a, .Call (.Name x _) [y, .Name t _] [] _ => decide (x = "isinstance") && freeB G x && glB sc x && decide (t = Str.ofString (tyN T)) && freeB G t && glB sc t && chkE G sc a y
  | .min2 a b, .Call (.Name x _) [y, z] [] _ => decide (x = "min") && freeB G x && glB sc x && chkE G sc a y && chkE G sc b z
  | .idx a i, .Subscript x y _ => chkE G sc a x && chkE G sc i y
  | .sl a lo hi, .Subscript x (.Slice l h none _) _ => chkE G sc a x && chkO G sc lo l && chkO G sc hi h
  | .tup es, .Tuple xs _ _ => chkEs G sc es xs && Nat.ble xs.length 1000
  | .lst es, .List xs _ => chkEs G sc es xs && Nat.ble xs.length 1000
  | .dct es, .Dict ks vs _ => chkP G sc es ks vs && Nat.ble ks.length 15
  | .comp own t it e, .ListComp x [⟨tg, ix, [], 0⟩] scope _ => chkI G sc it ix tg && blkC sc.N (scOf sc) scope (ownOf sc own) && (slT t).all (own.contains ·) && chkT G (subSc sc scope) t tg && chkE G (subSc sc scope) e x
  | .compIf own t it c e, .ListComp x [⟨tg, ix, [y], 0⟩] scope _ => chkI G sc it ix tg && blkC sc.N (scOf sc) scope (ownOf sc own) && (slT t).all (own.contains ·) && chkT G (subSc sc scope) t tg && chkE G (subSc sc scope) c y && chkE G (subSc sc scope) e x
  | .mth m i es, .Call (.Attribute (.Name x _) nm ap) args [] cp => decide (sc.N[i]? = some x) && visB sc x && nameOk x && decide (nm = mtN m) && (ap.endLine == cp.line) && chkEs G sc es args && Nat.ble args.length 1
  | _, _ => false
def chkEs (G : Gb) (sc : Sc) : Es → List Expr → Bool
  | .nil, [] => true
  | .cons e r, x :: xs => chkE G sc e x && chkEs G sc r xs
  | _, _ => false
def chkO (G : Gb) (sc : Sc) : Es → Option Expr → Bool
  | .nil, none => true
  | .cons e .nil, some x => chkE G sc e x
  | _, _ => false
def chkP (G : Gb) (sc : Sc) : Es → List (Option Expr) → List Expr → Bool
  | .nil, [], [] => true
  | .cons a (.cons b r), some x :: xs, y :: ys => chkE G sc a x && chkE G sc b y && chkP G sc r xs ys
  | _, _, _ => false
def chkT (G : Gb) (sc : Sc) : T → Expr → Bool
  | .nm i, .Name x _ => decide (sc.N[i]? = some x) && locB sc x
  | .tp ts, .Tuple xs _ _ => chkTs G sc ts xs
  | .sb a i, .Subscript x y _ => chkE G sc a x && chkE G sc i y
  | _, _ => false
def chkTs (G : Gb) (sc : Sc) : Ts → List Expr → Bool
  | .nil, [] => true
  | .cons t r, x :: xs => chkT G sc t x && chkTs G sc r xs
  | _, _ => false
def chkI (G : Gb) (sc : Sc) : I → Expr → Expr → Bool
  | .seq e, x, _ => chkE G sc e x
  | .rng a, .Call (.Name f _) [x] [] _, _ => decide (f = "range") && freeB G f && glB sc f && chkE G sc a x
  | .rng2 a b, .Call (.Name f _) [x, y] [] _, _ => decide (f = "range") && freeB G f && glB sc f && chkE G sc a x && chkE G sc b y
  | .enum a, .Call (.Name f _) [x] [] _, tg => decide (f = "enumerate") && freeB G f && glB sc f && chkE G sc a x && isTup tg
  | .zip a b, .Call (.Name f _) [x, y] [] _, tg => decide (f = "zip") && freeB G f && glB sc f && chkE G sc a x && chkE G sc b y && isTup tg
  | _, _, _ => false
end
/-- a tuple of names is not stored as one (a name is not among them), or the value is no display -/
def noSwap (tg e : Expr) : Bool := match tg, e with
  | .Tuple ts _ _, .Tuple vs _ _ => !(ts.all isNm)
  | _, _ => true
def swapC (sc : Sc) (y : Str) (py : Pos) (e : Expr) : Bool := match e with
  | .ListComp _ _ scope p => plainB sc y && py.line == p.line && !(scope.names.any fun (n, k) => n == y && (k == .local || k == .cell))
  | _ => false
mutual
def chkS (G : Gb) (sc : Sc) : S → Stmt → Bool
  | .asg (.nm i) e, .Assign [.Name y py] x _ => decide (sc.N[i]? = some y) && chkE G sc e x && locB sc y
  | .asg (.tp ts) e, .Assign [tg] x _ => chkT G sc (.tp ts) tg && chkE G sc e x && noSwap tg x
  | .asg (.sb a i) e, .Assign [tg] x _ => chkT G sc (.sb a i) tg && chkE G sc e x
  | .par2 i j a b, .Assign [.Tuple [.Name x px, .Name y py] _ _] (.Tuple [u, v] _ _) _ =>
      decide (sc.N[i]? = some x) && decide (sc.N[j]? = some y) && plainB sc x && plainB sc y && (py.line == px.line) && decide (x ≠ y) && chkE G sc a u && chkE G sc b v && !([u, v].all (foldedForSure 8)) && !([u, v].all (constantsAlone 8))
  | .par3 i j l a b c, .Assign [.Tuple [.Name x px, .Name y py, .Name z pz] _ _] (.Tuple [u, v, w] _ _) _ =>
      decide (sc.N[i]? = some x) && decide (sc.N[j]? = some y) && decide (sc.N[l]? = some z) && plainB sc x && plainB sc y && plainB sc z && (py.line == px.line) && (pz.line == px.line) && decide (x ≠ y) && decide (x ≠ z) && decide (y ≠ z) &&
      chkE G sc a u && chkE G sc b v && chkE G sc c w && !([u, v, w].all (foldedForSure 8)) && !([u, v, w].all (constantsAlone 8))
  | .aug i o e, .AugAssign (.Name y _) op x _ => decide (sc.N[i]? = some y) && locB sc y && decide (op = opOf o) && (o == .add || o == .sub) && chkE G sc e x
  | .ex e, .Expr x _ => chkE G sc e x && !isComp x
  | .ife c a b, .If x u v _ => chkE G sc c x && chkSs G sc a u && chkSs G sc b v
  | .fr t it b, .For tg x u [] _ => chkT G sc t tg && chkI G sc it x tg && chkSs G sc b u
  | .wh c b, .While x u [] _ => chkE G sc c x && chkSs G sc b u
  | .ret e, .Return (some x) _ => chkE G sc e x
  | .retN, .Return none _ => true
  | .cont, .Continue _ => true
  | .brk, .Break _ => true
  | .pass, .Pass _ => true
  | .never, _ => true
  | .tryB b, .Try u [.ExceptHandler (some (.Name x _)) none (_ :: _) _] [] [] _ => sc.top && glB sc x && nameOk x && clsB G x && chkSs G sc b u
  | _, _ => false
def chkSs (G : Gb) (sc : Sc) : Ss → List Stmt → Bool
  | .nil, [] => true
  | .cons s r, x :: xs => chkS G sc s x && chkSs G sc r xs
  | _, _ => false
end
end Zev

set_option Elab.async false
set_option linter.all false
set_option maxRecDepth 100000
/-! Zev11: the check is sound. -/
namespace Zev
open PySem PySem.Spec PyProof.Rows L2

structure Cok (G : Gb) (R : Rec) (sc : Sc) (X : Cx) : Prop where
  N : X.N = sc.N
  nd : X.N.Nodup
  nm : X.env.scope.names = sc.names
  kd : X.env.scope.kind = .function
  cm : X.calm = true
  xe : X.xe = fun _ _ => False
  un : X.A.units + 64 < cLine
  fn : ∀ x, sc.st x = true → X.fn x = true
  cs : ∀ x d, glbB G x d = true → ∃ v u, X.mg x = some u ∧ RelV v u ∧ ∀ ρ H, RD X.K ρ H d v
  fs : ∀ x f n, funB G x f n = true → ∃ fa fd ps k, X.mg x = some (.ref fa) ∧ FnOk X.prog X.w X.K X.mg X.base CX0 k fa fd ps (spOf X.K R f n) ∧ PySem.W.keepIn X.K (.ref fa) = true ∧ L2.Binds X.K fd ps [] ∧ Room k X.A
  fr : ∀ x, freeB G x = true → X.mg x = none
  tp : sc.top = true → X.stack = X.env :: X.outer ∧ X.env.frame = some X.env.locals
  cl : ∀ x, clsB G x = true → ∃ c, X.mg x = some c
section
variable {G : Gb} {R : Rec} {sc : Sc} {X : Cx}
theorem Cok.slot (C : Cok G R sc X) {i : Nat} {x : Str} (h : decide (sc.N[i]? = some x) = true) : X.N[i]? = some x := by rw [C.N]; exact of_decide_eq_true h
theorem Cok.vis (C : Cok G R sc X) {x : Str} (h : visB sc x = true) : Vis X.env.scope x := by
  unfold Vis
  rw [C.nm]
  unfold visB at h
  split at h
  · exact .inl (by assumption)
  · exact .inr (.inl (by assumption))
  · exact .inr (.inr (by assumption))
  · cases h
theorem Cok.gl (C : Cok G R sc X) {x : Str} (h : glB sc x = true) : Gl X x := by
  show X.env.scope.names.lookup x = _
  rw [C.nm]
  unfold glB at h
  split at h
  · assumption
  · cases h
theorem Cok.loc (C : Cok G R sc X) {x : Str} (h : locB sc x = true) : L2.Loc X.env.scope x ∧ (X.fn x = true ∨ X.env.scope.names.lookup x = some .local) := by
  unfold L2.Loc
  rw [C.nm]
  unfold locB at h
  split at h
  · exact ⟨.inl (by assumption), .inr (by assumption)⟩
  · exact ⟨.inr (by assumption), .inl (C.fn _ h)⟩
  · cases h
theorem Cok.plain (C : Cok G R sc X) {x : Str} (h : plainB sc x = true) : X.env.scope.names.lookup x = some .local := by
  rw [C.nm]
  unfold plainB at h
  split at h
  · assumption
  · cases h
theorem name_ok {x : Str} (h : nameOk x = true) : (x == ("__debug__" : Str)) = false ∧ (x == ("__classdict__" : Str)) = false ∧ x ≠ "__name__" := by
  unfold nameOk at h
  rw [Bool.and_eq_true, Bool.and_eq_true, Bool.not_eq_true', Bool.not_eq_true', Bool.not_eq_true'] at h
  exact ⟨h.1.1, h.1.2, fun e => by rw [e] at h; simp at h⟩
theorem blk_conv {N : List Str} {a b scope : Scope} {own : List (Str × Nat)} (h : BlkOk N a scope own) (e : b.names = a.names) : BlkOk N b scope own :=
  ⟨h.kind, h.uniq, h.ix, by rw [e]; exact h.free, h.own⟩
theorem Cok.blk (C : Cok G R sc X) {scope : Scope} (hk : scope.kind = .function) (s : Shared) (H : Hp) (a : Addr) (cl : List (Str × Addr)) (fp : List Addr) : Cok G R (subSc sc scope) (X.blk s H scope (compEnvC scope cl a X.env) fp) where
  N := C.N
  nd := C.nd
  nm := by
    show (relabel scope X.env).names = _
    unfold relabel subSc
    simp only [Env.kindOf, C.nm, C.kd, show (ScopeKind.function == ScopeKind.function) = true from rfl, Bool.and_true]
  kd := hk
  cm := C.cm
  xe := rfl
  un := C.un
  fn := fun x h => h
  cs := C.cs
  fs := C.fs
  fr := C.fr
  tp := fun h => by cases h
  cl := C.cl
/-! ### the trees' forms -/
theorem star_of {x : Expr} (h : ∀ y p, x ≠ .Starred y p) (es : List Expr) (env : Env) : starEach (x :: es) env = (false, eval x env) :: starEach es env := by
  cases x <;> first | rfl | exact absurd rfl (h _ _)
theorem chk_star {e : E} {x : Expr} (h : chkE G sc e x = true) : ∀ y p, x ≠ .Starred y p := by
  intro y p z
  subst z
  cases e <;> (unfold chkE at h; first | cases h | (split at h <;> first | cases h | contradiction))
theorem inv_var {i : Nat} {x : Expr} (h : chkE G sc (.var i) x = true) : ∃ y p, x = .Name y p ∧ decide (sc.N[i]? = some y) = true ∧ visB sc y = true ∧ nameOk y = true := by
  unfold chkE at h
  split at h <;> first | contradiction | skip
  · rename_i y p heq
    cases heq
    rw [Bool.and_eq_true, Bool.and_eq_true] at h
    exact ⟨y, p, rfl, h.1.1, h.1.2, h.2⟩

theorem inv_cst {d : D} {x : Expr} (h : chkE G sc (.cst d) x = true) : ∃ c k p, x = .Constant c k p ∧ constB d c = true := by
  unfold chkE at h
  split at h <;> first | contradiction | skip
  · rename_i c k p heq
    cases heq
    exact ⟨c, k, p, rfl, h⟩

theorem inv_glb {d : D} {x : Expr} (h : chkE G sc (.glb d) x = true) : ∃ y p, x = .Name y p ∧ glB sc y = true ∧ glbB G y d = true ∧ nameOk y = true := by
  unfold chkE at h
  split at h <;> first | contradiction | skip
  · rename_i y p heq
    cases heq
    rw [Bool.and_eq_true, Bool.and_eq_true] at h
    exact ⟨y, p, rfl, h.1.1, h.1.2, h.2⟩

theorem inv_bin {o : BOp} {a b : E} {x : Expr} (h : chkE G sc (.bin o a b) x = true) : ∃ y z p, x = .BinOp y (opOf o) z p ∧ chkE G sc a y = true ∧ chkE G sc b z = true := by
  unfold chkE at h
  split at h <;> first | contradiction | skip
  · rename_i y op z p heq
    cases heq
    simp only [Bool.and_eq_true, decide_eq_true_eq, beq_iff_eq] at h
    obtain ⟨⟨rfl, h1⟩, h2⟩ := h
    exact ⟨y, z, p, rfl, h1, h2⟩

theorem inv_cmp {o : COp} {a b : E} {x : Expr} (h : chkE G sc (.cmp o a b) x = true) : ∃ y z p, x = .Compare y [cmpOf o] [z] p ∧ chkE G sc a y = true ∧ chkE G sc b z = true := by
  unfold chkE at h
  split at h <;> first | contradiction | skip
  · rename_i y op z p heq
    cases heq
    simp only [Bool.and_eq_true, decide_eq_true_eq, beq_iff_eq] at h
    obtain ⟨⟨rfl, h1⟩, h2⟩ := h
    exact ⟨y, z, p, rfl, h1, h2⟩

theorem inv_chain {o o' : COp} {a b c : E} {x : Expr} (h : chkE G sc (.chain o o' a b c) x = true) : ∃ y z u p, x = .Compare y [cmpOf o, cmpOf o'] [z, u] p ∧ chkE G sc a y = true ∧ chkE G sc b z = true ∧ chkE G sc c u = true := by
  unfold chkE at h
  split at h <;> first | contradiction | skip
  · rename_i y op op' z u p heq
    cases heq
    simp only [Bool.and_eq_true, decide_eq_true_eq, beq_iff_eq] at h
    obtain ⟨⟨⟨⟨rfl, rfl⟩, h1⟩, h2⟩, h3⟩ := h
    exact ⟨y, z, u, p, rfl, h1, h2, h3⟩

theorem inv_neg {a : E} {x : Expr} (h : chkE G sc (.neg a) x = true) : ∃ y p, x = .UnaryOp .USub y p ∧ chkE G sc a y = true := by
  unfold chkE at h
  split at h <;> first | contradiction | skip
  · rename_i y p heq
    cases heq
    exact ⟨y, p, rfl, h⟩

theorem inv_not {a : E} {x : Expr} (h : chkE G sc (.not a) x = true) : ∃ y p, x = .UnaryOp .Not y p ∧ chkE G sc a y = true := by
  unfold chkE at h
  split at h <;> first | contradiction | skip
  · rename_i y p heq
    cases heq
    exact ⟨y, p, rfl, h⟩

theorem inv_and {a b : E} {x : Expr} (h : chkE G sc (.and a b) x = true) : (∃ y z p, x = .BoolOp .And [y, z] p ∧ chkE G sc a y = true ∧ chkE G sc b z = true) ∨ ∃ y z u r p, x = .BoolOp .And (y :: z :: u :: r) p ∧ chkE G sc a y = true ∧ chkE G sc b (.BoolOp .And (z :: u :: r) p) = true := by
  unfold chkE at h
  split at h <;> first | contradiction | skip
  · rename_i y z p heq
    cases heq
    rw [Bool.and_eq_true] at h
    exact .inl ⟨y, z, p, rfl, h.1, h.2⟩
  · rename_i y z u r p heq
    cases heq
    rw [Bool.and_eq_true] at h
    exact .inr ⟨y, z, u, r, p, rfl, h.1, h.2⟩

theorem inv_or {a b : E} {x : Expr} (h : chkE G sc (.or a b) x = true) : (∃ y z p, x = .BoolOp .Or [y, z] p ∧ chkE G sc a y = true ∧ chkE G sc b z = true) ∨ ∃ y z u r p, x = .BoolOp .Or (y :: z :: u :: r) p ∧ chkE G sc a y = true ∧ chkE G sc b (.BoolOp .Or (z :: u :: r) p) = true := by
  unfold chkE at h
  split at h <;> first | contradiction | skip
  · rename_i y z p heq
    cases heq
    rw [Bool.and_eq_true] at h
    exact .inl ⟨y, z, p, rfl, h.1, h.2⟩
  · rename_i y z u r p heq
    cases heq
    rw [Bool.and_eq_true] at h
    exact .inr ⟨y, z, u, r, p, rfl, h.1, h.2⟩

theorem inv_ife {c a b : E} {x : Expr} (h : chkE G sc (.ife c a b) x = true) : ∃ y z u p, x = .IfExp y z u p ∧ chkE G sc c y = true ∧ chkE G sc a z = true ∧ chkE G sc b u = true := by
  unfold chkE at h
  split at h <;> first | contradiction | skip
  · rename_i y z u p heq
    cases heq
    rw [Bool.and_eq_true, Bool.and_eq_true] at h
    exact ⟨y, z, u, p, rfl, h.1.1, h.1.2, h.2⟩

theorem inv_call {f m : Nat} {es : Es} {x : Expr} (h : chkE G sc (.call f m es) x = true) : ∃ y q args p, x = .Call (.Name y q) args [] p ∧ funB G y f args.length = true ∧ glB sc y = true ∧ nameOk y = true ∧ chkEs G sc es args = true := by
  unfold chkE at h
  split at h <;> first | contradiction | skip
  · rename_i y q args p heq
    cases heq
    rw [Bool.and_eq_true, Bool.and_eq_true, Bool.and_eq_true] at h
    exact ⟨y, q, args, p, rfl, h.1.1.1, h.1.1.2, h.1.2, h.2⟩

theorem inv_bi {b : Bi} {a : E} {x : Expr} (h : chkE G sc (.bi b a) x = true) : ∃ q y p, x = .Call (.Name (biN b) q) [y] [] p ∧ freeB G (biN b) = true ∧ glB sc (biN b) = true ∧ chkE G sc a y = true := by
  unfold chkE at h
  split at h <;> first | contradiction | skip
  · rename_i f q y p heq
    cases heq
    rw [Bool.and_eq_true, Bool.and_eq_true, Bool.and_eq_true, decide_eq_true_eq] at h
    obtain ⟨⟨⟨rfl, h1⟩, h2⟩, h3⟩ := h
    exact ⟨q, y, p, rfl, h1, h2, h3⟩

theorem inv_isi {T : Nat} {a : E} {x : Expr} (h : chkE G sc (.isi T a) x = true) : ∃ q y q2 p, x = .Call (.Name "isinstance" q) [y, .Name (Str.ofString (tyN T)) q2] [] p ∧ freeB G "isinstance" = true ∧ glB sc "isinstance" = true ∧ freeB G (Str.ofString (tyN T)) = true ∧ glB sc (Str.ofString (tyN T)) = true ∧ chkE G sc a y = true := by
  unfold chkE at h
  split at h <;> first | contradiction | skip
  · rename_i f q y t q2 p heq
    cases heq
    rw [Bool.and_eq_true, Bool.and_eq_true, Bool.and_eq_true, Bool.and_eq_true, Bool.and_eq_true, Bool.and_eq_true, decide_eq_true_eq, decide_eq_true_eq] at h
    obtain ⟨⟨⟨⟨⟨⟨rfl, h1⟩, h2⟩, rfl⟩, h3⟩, h4⟩, h5⟩ := h
    exact ⟨q, y, q2, p, rfl, h1, h2, h3, h4, h5⟩

theorem inv_min2 {a b : E} {x : Expr} (h : chkE G sc (.min2 a b) x = true) : ∃ q y z p, x = .Call (.Name "min" q) [y, z] [] p ∧ freeB G "min" = true ∧ glB sc "min" = true ∧ chkE G sc a y = true ∧ chkE G sc b z = true := by
  unfold chkE at h
  split at h <;> first | contradiction | skip
  · rename_i f q y z p heq
    cases heq
    rw [Bool.and_eq_true, Bool.and_eq_true, Bool.and_eq_true, Bool.and_eq_true, decide_eq_true_eq] at h
    obtain ⟨⟨⟨⟨rfl, h1⟩, h2⟩, h3⟩, h4⟩ := h
    exact ⟨q, y, z, p, rfl, h1, h2, h3, h4⟩

theorem inv_idx {a i : E} {x : Expr} (h : chkE G sc (.idx a i) x = true) : ∃ y z p, x = .Subscript y z p ∧ chkE G sc a y = true ∧ chkE G sc i z = true := by
  unfold chkE at h
  split at h <;> first | contradiction | skip
  · rename_i y z p heq
    cases heq
    rw [Bool.and_eq_true] at h
    exact ⟨y, z, p, rfl, h.1, h.2⟩

theorem inv_sl {a : E} {lo hi : Es} {x : Expr} (h : chkE G sc (.sl a lo hi) x = true) : ∃ y l u q p, x = .Subscript y (.Slice l u none q) p ∧ chkE G sc a y = true ∧ chkO G sc lo l = true ∧ chkO G sc hi u = true := by
  unfold chkE at h
  split at h <;> first | contradiction | skip
  · rename_i y l u q p heq
    cases heq
    rw [Bool.and_eq_true, Bool.and_eq_true] at h
    exact ⟨y, l, u, q, p, rfl, h.1.1, h.1.2, h.2⟩

theorem inv_tup {es : Es} {x : Expr} (h : chkE G sc (.tup es) x = true) : ∃ xs k p, x = .Tuple xs k p ∧ chkEs G sc es xs = true ∧ xs.length ≤ 1000 := by
  unfold chkE at h
  split at h <;> first | contradiction | skip
  · rename_i xs k p heq
    cases heq
    rw [Bool.and_eq_true] at h
    exact ⟨xs, k, p, rfl, h.1, Nat.le_of_ble_eq_true h.2⟩

theorem inv_lst {es : Es} {x : Expr} (h : chkE G sc (.lst es) x = true) : ∃ xs p, x = .List xs p ∧ chkEs G sc es xs = true ∧ xs.length ≤ 1000 := by
  unfold chkE at h
  split at h <;> first | contradiction | skip
  · rename_i xs p heq
    cases heq
    rw [Bool.and_eq_true] at h
    exact ⟨xs, p, rfl, h.1, Nat.le_of_ble_eq_true h.2⟩

theorem inv_dct {es : Es} {x : Expr} (h : chkE G sc (.dct es) x = true) : ∃ ks vs p, x = .Dict ks vs p ∧ chkP G sc es ks vs = true ∧ ks.length ≤ 15 := by
  unfold chkE at h
  split at h <;> first | contradiction | skip
  · rename_i ks vs p heq
    cases heq
    rw [Bool.and_eq_true] at h
    exact ⟨ks, vs, p, rfl, h.1, Nat.le_of_ble_eq_true h.2⟩

theorem inv_comp {own : List Nat} {t : T} {it : I} {e : E} {x : Expr} (h : chkE G sc (.comp own t it e) x = true) : ∃ y tg ix scope p, x = .ListComp y [⟨tg, ix, [], 0⟩] scope p ∧ chkI G sc it ix tg = true ∧ blkC sc.N (scOf sc) scope (ownOf sc own) = true ∧ (slT t).all (own.contains ·) = true ∧ chkT G (subSc sc scope) t tg = true ∧ chkE G (subSc sc scope) e y = true := by
  unfold chkE at h
  split at h <;> first | contradiction | skip
  · rename_i y tg ix scope p heq
    cases heq
    rw [Bool.and_eq_true, Bool.and_eq_true, Bool.and_eq_true, Bool.and_eq_true] at h
    exact ⟨y, tg, ix, scope, p, rfl, h.1.1.1.1, h.1.1.1.2, h.1.1.2, h.1.2, h.2⟩

theorem inv_compIf {own : List Nat} {t : T} {it : I} {c e : E} {x : Expr} (h : chkE G sc (.compIf own t it c e) x = true) : ∃ y tg ix u scope p, x = .ListComp y [⟨tg, ix, [u], 0⟩] scope p ∧ chkI G sc it ix tg = true ∧ blkC sc.N (scOf sc) scope (ownOf sc own) = true ∧ (slT t).all (own.contains ·) = true ∧ chkT G (subSc sc scope) t tg = true ∧ chkE G (subSc sc scope) c u = true ∧ chkE G (subSc sc scope) e y = true := by
  unfold chkE at h
  split at h <;> first | contradiction | skip
  · rename_i y tg ix u scope p heq
    cases heq
    rw [Bool.and_eq_true, Bool.and_eq_true, Bool.and_eq_true, Bool.and_eq_true, Bool.and_eq_true] at h
    exact ⟨y, tg, ix, u, scope, p, rfl, h.1.1.1.1.1, h.1.1.1.1.2, h.1.1.1.2, h.1.1.2, h.1.2, h.2⟩

theorem inv_mth {m : Mt} {i : Nat} {es : Es} {x : Expr} (h : chkE G sc (.mth m i es) x = true) : ∃ y q ap args cp, x = .Call (.Attribute (.Name y q) (mtN m) ap) args [] cp ∧ decide (sc.N[i]? = some y) = true ∧ visB sc y = true ∧ nameOk y = true ∧ (ap.endLine == cp.line) = true ∧ chkEs G sc es args = true ∧ args.length ≤ 1 := by
  unfold chkE at h
  split at h <;> first | contradiction | skip
  · rename_i y q nm ap args cp heq
    cases heq
    rw [Bool.and_eq_true, Bool.and_eq_true, Bool.and_eq_true, Bool.and_eq_true, Bool.and_eq_true, Bool.and_eq_true, decide_eq_true_eq (p := nm = mtN m)] at h
    obtain ⟨⟨⟨⟨⟨⟨h1, h2⟩, h3⟩, rfl⟩, h5⟩, h6⟩, h7⟩ := h
    exact ⟨y, q, ap, args, cp, rfl, h1, h2, h3, h5, h6, Nat.le_of_ble_eq_true h7⟩

end
end Zev

set_option Elab.async false
set_option linter.all false
set_option maxRecDepth 100000
/-! Zev12: the check is sound: expressions, targets, walks. -/
namespace Zev
open PySem PySem.Spec PyProof.Rows L2
section
variable {G : Gb} {R : Rec} {sc : Sc} {X : Cx} {K : PySem.W.Frag} {ρ ρ' ρ0 ρ1 ρ2 ρ3 : List Addr} {H H' H0 H1 H2 H3 : Hp} {s s' s0 s1 s2 s3 : Sto}

theorem inv_nm {i : Nat} {x : Expr} (h : chkT G sc (.nm i) x = true) : ∃ y p, x = .Name y p ∧ decide (sc.N[i]? = some y) = true ∧ locB sc y = true := by
  unfold chkT at h
  split at h <;> first | contradiction | skip
  · rename_i y p heq
    cases heq
    rw [Bool.and_eq_true] at h
    exact ⟨y, p, rfl, h.1, h.2⟩
theorem inv_tp {ts : Ts} {x : Expr} (h : chkT G sc (.tp ts) x = true) : ∃ xs k p, x = .Tuple xs k p ∧ chkTs G sc ts xs = true := by
  unfold chkT at h
  split at h <;> first | contradiction | skip
  · rename_i xs k p heq
    cases heq
    exact ⟨xs, k, p, rfl, h⟩
theorem inv_sb {a i : E} {x : Expr} (h : chkT G sc (.sb a i) x = true) : ∃ y z p, x = .Subscript y z p ∧ chkE G sc a y = true ∧ chkE G sc i z = true := by
  unfold chkT at h
  split at h <;> first | contradiction | skip
  · rename_i y z p heq
    cases heq
    rw [Bool.and_eq_true] at h
    exact ⟨y, z, p, rfl, h.1, h.2⟩
theorem inv_seqI {e : E} {x tg : Expr} (h : chkI G sc (.seq e) x tg = true) : chkE G sc e x = true := by
  unfold chkI at h
  exact h
theorem inv_rng {a : E} {x tg : Expr} (h : chkI G sc (.rng a) x tg = true) : ∃ q y p, x = .Call (.Name "range" q) [y] [] p ∧ freeB G "range" = true ∧ glB sc "range" = true ∧ chkE G sc a y = true := by
  unfold chkI at h
  split at h <;> first | contradiction | skip
  · rename_i f q y p heq
    cases heq
    rw [Bool.and_eq_true, Bool.and_eq_true, Bool.and_eq_true, decide_eq_true_eq] at h
    obtain ⟨⟨⟨rfl, h1⟩, h2⟩, h3⟩ := h
    exact ⟨q, y, p, rfl, h1, h2, h3⟩
theorem inv_rng2 {a b : E} {x tg : Expr} (h : chkI G sc (.rng2 a b) x tg = true) : ∃ q y z p, x = .Call (.Name "range" q) [y, z] [] p ∧ freeB G "range" = true ∧ glB sc "range" = true ∧ chkE G sc a y = true ∧ chkE G sc b z = true := by
  unfold chkI at h
  split at h <;> first | contradiction | skip
  · rename_i f q y z p heq
    cases heq
    rw [Bool.and_eq_true, Bool.and_eq_true, Bool.and_eq_true, Bool.and_eq_true, decide_eq_true_eq] at h
    obtain ⟨⟨⟨⟨rfl, h1⟩, h2⟩, h3⟩, h4⟩ := h
    exact ⟨q, y, z, p, rfl, h1, h2, h3, h4⟩
theorem isTup_form {x : Expr} (h : isTup x = true) : ∃ xs k p, x = .Tuple xs k p := by
  cases x <;> first | exact ⟨_, _, _, rfl⟩ | cases h
theorem inv_enum {a : E} {x tg : Expr} (h : chkI G sc (.enum a) x tg = true) : ∃ q y p, x = .Call (.Name "enumerate" q) [y] [] p ∧ freeB G "enumerate" = true ∧ glB sc "enumerate" = true ∧ chkE G sc a y = true ∧ isTup tg = true := by
  unfold chkI at h
  split at h <;> first | contradiction | skip
  · rename_i f q y p heq
    cases heq
    rw [Bool.and_eq_true, Bool.and_eq_true, Bool.and_eq_true, Bool.and_eq_true, decide_eq_true_eq] at h
    obtain ⟨⟨⟨⟨rfl, h1⟩, h2⟩, h3⟩, h4⟩ := h
    exact ⟨q, y, p, rfl, h1, h2, h3, h4⟩
theorem inv_zip {a b : E} {x tg : Expr} (h : chkI G sc (.zip a b) x tg = true) : ∃ q y z p, x = .Call (.Name "zip" q) [y, z] [] p ∧ freeB G "zip" = true ∧ glB sc "zip" = true ∧ chkE G sc a y = true ∧ chkE G sc b z = true ∧ isTup tg = true := by
  unfold chkI at h
  split at h <;> first | contradiction | skip
  · rename_i f q y z p heq
    cases heq
    rw [Bool.and_eq_true, Bool.and_eq_true, Bool.and_eq_true, Bool.and_eq_true, Bool.and_eq_true, decide_eq_true_eq] at h
    obtain ⟨⟨⟨⟨⟨rfl, h1⟩, h2⟩, h3⟩, h4⟩, h5⟩ := h
    exact ⟨q, y, z, p, rfl, h1, h2, h3, h4, h5⟩
/-! ### the trees' forms -/
theorem chk_form {e : E} {x : Expr} (h : chkE G sc e x = true) : (∀ a b c p, x ≠ .Slice a b c p) ∧ ∀ a k p, x ≠ .Set a k p := by
  refine ⟨fun a b c p z => ?_, fun a k p z => ?_⟩ <;> subst z <;> cases e <;> (unfold chkE at h; first | cases h | (split at h <;> first | cases h | contradiction))
theorem plain_of {x : Expr} (h : ∀ a b c p, x ≠ .Slice a b c p) : PlainIx x := fun o i => by
  cases x <;> first | rfl | exact absurd rfl (h _ _ _ _)
theorem mark_of {x : Expr} (h : ∀ a k p, x ≠ .Set a k p) (op : CmpOp) : behindInMarks op x = false := by
  cases x <;> first | rfl | exact absurd rfl (h _ _ _)
theorem fold_of {x : Expr} (h : ∀ a k p, x ≠ .Set a k p) (env : Env) (v : Value) : foldedSetIterable x env v = pure v := by
  cases x <;> first | rfl | exact absurd rfl (h _ _ _)
theorem iter_form {it : I} {x tg : Expr} (h : chkI G sc it x tg = true) : ∀ a k p, x ≠ .Set a k p := by
  cases it with
  | seq e => exact (chk_form (inv_seqI h)).2
  | rng a => obtain ⟨q, y, p, rfl, _⟩ := inv_rng h; intro _ _ _ z; cases z
  | rng2 a b => obtain ⟨q, y, y2, p, rfl, _⟩ := inv_rng2 h; intro _ _ _ z; cases z
  | enum a => obtain ⟨q, y, p, rfl, _⟩ := inv_enum h; intro _ _ _ z; cases z
  | zip a b => obtain ⟨q, y, y2, p, rfl, _⟩ := inv_zip h; intro _ _ _ z; cases z
theorem stars_of : ∀ {es : Es} {xs : List Expr}, chkEs G sc es xs = true → ∀ env, starEach xs env = xs.map fun x => (false, eval x env)
  | .nil, [], _, _ => rfl
  | .nil, _ :: _, h, _ => by unfold chkEs at h; cases h
  | .cons _ _, [], h, _ => by unfold chkEs at h; cases h
  | .cons e r, x :: xs, h, env => by
    unfold chkEs at h
    rw [Bool.and_eq_true] at h
    rw [star_of (chk_star h.1), stars_of h.2]
    rfl
theorem nostar_of {xs : List Expr} {env : Env} (h : starEach xs env = xs.map fun x => (false, eval x env)) (pos : Pos) : (backTo pos (starEach xs env)).any (·.1) = false := by
  rw [h]
  unfold backTo
  rw [List.map_map, List.any_map, List.any_eq_false]
  intro x _
  simp
theorem assigns_of : ∀ {ts : Ts} {xs : List Expr}, chkTs G sc ts xs = true → ∀ env, (assignEach xs env).length = cntTs ts ∧ (assignEach xs env).findIdx? (·.1) = none ∧ (assignEach xs env).map (·.2) = xs.map (assign · env)
  | .nil, [], _, _ => ⟨rfl, rfl, rfl⟩
  | .nil, _ :: _, h, _ => by unfold chkTs at h; cases h
  | .cons _ _, [], h, _ => by unfold chkTs at h; cases h
  | .cons t r, x :: xs, h, env => by
    unfold chkTs at h
    rw [Bool.and_eq_true] at h
    obtain ⟨h1, h2, h3⟩ := assigns_of h.2 env
    have e : assignEach (x :: xs) env = (false, assign x env) :: assignEach xs env := by
      cases t with
      | nm i => obtain ⟨y, p, rfl, _⟩ := inv_nm h.1; rfl
      | tp ts => obtain ⟨y, k, p, rfl, _⟩ := inv_tp h.1; rfl
      | sb a i => obtain ⟨y, k, p, rfl, _⟩ := inv_sb h.1; rfl
    rw [e]
    refine ⟨by rw [List.length_cons, h1]; rfl, ?_, by rw [List.map_cons, h3]; rfl⟩
    rw [List.findIdx?_cons]
    simp [h2]
theorem const_imp {d : D} {c : Const} {k : Nat} {p : Pos} (h : constB d c = true) : ∃ v, PE X (.Constant c k p) (tC v) ∧ ∀ ρ H, RD X.K ρ H d v := by
  unfold constB at h
  split at h
  · exact ⟨.non, pe_non, fun _ _ => rd_non⟩
  · rename_i a b
    have e : a = b := by simpa using h
    subst e
    exact ⟨.bl a, pe_bl, fun _ _ => rd_bl⟩
  · rename_i a b
    have e : a = b := by simpa using h
    subst e
    exact ⟨.int a, pe_int, fun _ _ => rd_int⟩
  · rename_i a b
    rw [Bool.and_eq_true] at h
    have e : b.cps.toList = a := by simpa using h.1
    exact ⟨.str b, pe_str, fun _ _ => by unfold RD; exact ⟨b, rfl, e, h.2⟩⟩
  · cases h
/-! ### dicts shown -/
theorem sqT_overO {a p : Addr} {vs : List V} {o w : HO} (ha : H a = some w) (ow : Own w) (h : SqT K H p vs) : SqT K (upd H a o) p vs := by
  have nt : ∀ u, H p = some u → ¬ Own u → p ≠ a := fun u hu nu z => by rw [z, ha] at hu; cases hu; exact nu ow
  rcases h with (h | ⟨u, h⟩) | h
  · exact .inl (.inl (by rw [upd_ne (nt _ h (by rintro (⟨_, z⟩ | ⟨_, z⟩) <;> cases z))]; exact h))
  · exact .inl (.inr ⟨u, by rw [upd_ne (nt _ h (by rintro (⟨_, z⟩ | ⟨_, z⟩) <;> cases z))]; exact h⟩)
  · exact .inr h
theorem RS.overO {n : Nat} {a : Addr} {o w : HO} (S : RS K ρ s H) (hn : ρ[n]? = some a) (nk : ∀ u, (n, u) ∉ s.l) (ha : H a = some w) (ow : Own w) : RS K ρ s (upd H a o) where
  n := S.n
  nd := S.nd
  tr := fun b m z => by
    by_cases e : b = a
    · rw [e, upd_same] at z; cases z
    · rw [upd_ne e] at z; exact S.tr b m z
  kd := S.kd
  ob := fun i u m => by
    obtain ⟨b, e, r⟩ := S.ob i u m
    have ne : b ≠ a := fun z => by
      subst z
      have := at_inj S.nd e hn
      subst this
      exact nk u m
    refine ⟨b, e, ?_⟩
    rw [upd_ne ne]
    refine r.map (fun _ _ q => sqT_overO ha ow q) (fun _ _ q => q) fun c xs nc h => ⟨?_, nc⟩
    rw [upd_ne (fun z => nc (by rw [z]; exact at_mem hn))]
    exact h
def AnsP (K : PySem.W.Frag) (n : Nat) (ρ : List Addr) (s : Sto) (H : Hp) (k : List (Int × D) → Sto → Bool) (Q : List (V × V) → Hp → Prop) : Prop := ∀ (d : List (Int × D)) (s' : Sto) (us : List (Key × V)) (ρ' : List Addr) (H' : Hp), d.length = n → Ext s ρ H s' ρ' H' → RS K ρ' s' H' → RKs K ρ' H' d us → k d s' = true → Q (us.map fun kv => (kV kv.1, kv.2)) H'
def tevP (K : PySem.W.Frag) (n : Nat) (c : Loc → Sto → (List (Int × D) → Sto → Bool) → Bool) (σ : LSt) (H : Hp) (Q : List (V × V) → Hp → Prop) : Prop := ∃ ρ s σd k, RS K ρ s H ∧ RL K ρ H σd σ ∧ c σd s k = true ∧ AnsP K n ρ s H k Q
theorem pnil_imp : ∀ (σ : LSt) (H : Hp) (Q : List (V × V) → Hp → Prop), tevP K 0 (pNil R) σ H Q → tPairs [] σ H Q := fun σ H Q ⟨ρ, s, σd, k, S, L, h, A⟩ => by
  have := A [] s [] ρ H rfl Ext.refl S (by unfold RKs; rfl) h
  exact this
theorem pcons_imp {n : Nat} {a b : CE} {r : CP} {trs : List (TE × TE)} (hr : ∀ σ H Q, tevP K n (r R) σ H Q → tPairs trs σ H Q) : ∀ (σ : LSt) (H : Hp) (Q : List (V × V) → Hp → Prop), tevP K (n + 1) (pCons a b r R) σ H Q → tPairs ((tev K (a R), tev K (b R)) :: trs) σ H Q := fun σ H Q ⟨ρ, s, σd, k, S, L, h, A⟩ => by
  refine ⟨ρ, s, σd, _, S, L, h, fun x s1 v ρ1 H1 E1 S1 R1 h1 => ?_⟩
  refine ⟨ρ1, s1, σd, _, S1, L.mono E1 S, h1, fun y s2 w ρ2 H2 E2 S2 R2 h2 => ?_⟩
  obtain ⟨i, e, h3⟩ := onI_some h2
  subst e
  have E12 := E1.trans E2 S S1
  refine hr _ _ _ ⟨ρ2, s2, σd, _, S2, L.mono E12 S, h3, fun d s3 us ρ3 H3 l E3 S3 R3 h4 => ?_⟩
  have := A ((i, y) :: d) s3 ((Sum.inl i, w) :: us) ρ3 H3 (by rw [List.length_cons, l]) (E12.trans E3 S S2) S3 (by unfold RKs; exact ⟨w, us, rfl, R2.mono E3 S2, R3⟩) h4
  rw [List.map_cons] at this
  rw [R1.int]
  exact this
theorem RKs.merge : ∀ {b a : List (Int × D)} {us ws : List (Key × V)}, RKs K ρ H a us → RKs K ρ H b ws → RKs K ρ H (mergeI a b) (mergeK us ws)
  | [], a, us, ws, h, q => by unfold RKs at q; subst q; exact h
  | p :: r, a, us, ws, h, q => by
    unfold RKs at q
    obtain ⟨w, r', rfl, h1, h2⟩ := q
    show RKs K ρ H (mergeI (putI a p.1 p.2) r) (mergeK (putK us (Sum.inl p.1) w) r')
    exact RKs.merge (RKs.put h h1) h2
theorem dct_imp {n : Nat} {ps : CP} {trs : List (TE × TE)} (hn : n ≤ 15) (hr : ∀ σ H Q, tevP K n (ps R) σ H Q → tPairs trs σ H Q) : ∀ (σ : LSt) (H : Hp) (Q : VK), tev K (cDct ps R) σ H Q → tDisp trs σ H Q := fun σ H Q ⟨ρ, s, σd, k, S, L, h, A⟩ p hp => by
  have S1 := S.res (o := .dK []) hp
  have E1 : Ext s ρ H ⟨Nat.succ s.n, s.l⟩ (ρ ++ [p]) (upd H p (.dK [])) := Ext.new (u := .drw) S (fun x m => .inl m) hp
  have n1 := at_new (p := p) S
  have k1 : ∀ u, (s.n, u) ∉ s.l := fun u m => Nat.lt_irrefl _ (S.key_lt m)
  refine hr _ _ _ ⟨ρ ++ [p], ⟨Nat.succ s.n, s.l⟩, σd, _, S1, L.mono E1 S, h, fun d s2 us ρ2 H2 l E2 S2 R2 h2 => ?_⟩
  have hD : H2 p = some (.dK []) := E2.fr p _ upd_same (free_own S1 n1 k1)
  have n2 : ρ2[s.n]? = some p := pre_at E2.pre n1
  have k2 : ∀ u, (s.n, u) ∉ s2.l := fun u mu => by
    rcases E2.ky _ _ mu with ⟨u', mu'⟩ | le
    · exact k1 u' mu'
    · have := (List.getElem?_eq_some_iff.mp n1).1
      omega
  have ow : Own (.dK []) := .inr ⟨_, rfl⟩
  have ro : RKs K ρ2 (upd H2 p (.dK (mergeK [] us))) (mergeI [] d) (mergeK [] us) := (RKs.merge (by unfold RKs; rfl) R2).map (fun _ _ q => sqT_overO hD ow q) fun _ _ q => q
  have len : (mergeK [] us).length ≤ us.length := by
    have : ∀ (us ws : List (Key × V)), (mergeK ws us).length ≤ ws.length + us.length := by
      intro us
      induction us with
      | nil => intro ws; exact Nat.le_refl _
      | cons q r ih =>
        intro ws
        have h1 := ih (putK ws q.1 q.2)
        have h2 := putK_len (us := ws) (k := q.1) (v := q.2)
        show (mergeK (putK ws q.1 q.2) r).length ≤ _
        rw [List.length_cons]
        omega
    have := this us []
    simpa using this
  refine ⟨hD, us, rfl, by rw [R2.len, l]; exact hn, A _ _ _ ρ2 _ ?_ ((S2.overO n2 k2 hD ow).place n2 k2 (by rw [upd_same]; exact ⟨_, rfl, ro, by rw [R2.len, l] at len; omega⟩)) (by unfold RD; exact ⟨p, rfl, n2⟩) h2⟩
  have E := (E1.trans E2 S S1).over (o := .dK (mergeK [] us)) hp
  refine ⟨E.pre, E.fr, fun j u m => ?_, E.fs⟩
  rcases List.mem_cons.mp m with z | z
  · cases z; exact .inr (by rw [S.n]; exact Nat.le_refl _)
  · exact E.ky j u z
theorem dnew_imp : ∀ (σ : LSt) (H : Hp) (Q : VK), tev K (cDct pNil R) σ H Q → ∀ p, H p = none → Q (.ref p) (upd H p (.dK [])) := fun σ H Q ⟨ρ, s, σd, k, S, L, h, A⟩ p hp => by
  have E : Ext s ρ H ⟨Nat.succ s.n, (s.n, .dct []) :: s.l⟩ (ρ ++ [p]) (upd H p (.dK [])) := Ext.new S (fun x m => (List.mem_cons.mp m).elim .inr .inl) hp
  exact A _ _ _ _ _ E (S.new hp ⟨[], rfl, by unfold RKs; rfl, Nat.zero_le _⟩) (by unfold RD; exact ⟨p, rfl, at_new S⟩) h
end
end Zev

set_option Elab.async false
set_option linter.all false
set_option maxRecDepth 100000
/-! Zev13: the check is sound: expressions, targets, walks. -/
namespace Zev
open PySem PySem.Spec PyProof.Rows L2
section
variable {G : Gb} {R : Rec} {sc : Sc} {X : Cx} {K : PySem.W.Frag}

theorem tstB_imp {a : Loc → Sto → KD → Bool} : ∀ (σ : LSt) (H : Hp) (Q : Bool → Hp → Prop), tevT K (fun σ s k => a σ s fun x s1 => onB x fun b => k b s1) σ H Q → tev K a σ H fun x H1 => ∃ b, x = .bl b ∧ Q b H1 := fun σ H Q ⟨ρ, s, σd, k, S, L, h, A⟩ => by
  refine ⟨ρ, s, σd, _, S, L, h, fun x s1 v ρ1 H1 E1 S1 R1 h1 => ?_⟩
  obtain ⟨b, e, h2⟩ := onB_some h1
  subst e
  exact ⟨b, R1.bl, A b s1 ρ1 H1 E1 S1 h2⟩
theorem pt_ife {c a b : Expr} {tc ta tb : TT} {pos : Pos} (hc : PT X c tc) (ha : PT X a ta) (hb : PT X b tb) : PT X (.IfExp c a b pos) (fun σ H Q => tc σ H fun t H1 => if t = true then ta σ H1 Q else tb σ H1 Q) :=
  ⟨fun pins s σ H Q I h => by
    show wpAny _ _ (isTrue c X.env (eval c X.env) >>= fun t => if t = true then isTrue a X.env (eval a X.env) else isTrue b X.env (eval b X.env)) _ _ _
    refine wpAny_bind (thn (hc.run pins s σ H _ I h) fun t s1 ⟨H1, I1, q⟩ => ?_)
    cases t with
    | true => rw [if_pos rfl] at q ⊢; exact ha.run pins s1 σ H1 Q I1 q
    | false => rw [if_neg Bool.false_ne_true] at q ⊢; exact hb.run pins s1 σ H1 Q I1 q⟩
theorem ty_boot : ∀ T : Nat, bootBuiltins (Str.ofString (tyN T)) = some (.type (tyN T)) ∧ (Str.ofString (tyN T) : Str) ≠ "__name__" ∧ (Str.ofString (tyN T) == ("__debug__" : Str)) = false
  | 0 => by decide +kernel
  | 1 => by decide +kernel
  | 2 => by decide +kernel
  | n + 3 => by show bootBuiltins (Str.ofString "bool") = some (.type "bool") ∧ (Str.ofString "bool" : Str) ≠ "__name__" ∧ (Str.ofString "bool" == ("__debug__" : Str)) = false; decide +kernel
theorem bi_pe {b : Bi} {y : Expr} {q p : Pos} {t : TA} (hc : X.calm = true) (hg : Gl X (biN b)) (hm : X.mg (biN b) = none) (ha : PA X [y] t) (he : starEach [y] X.env = (false, eval y X.env) :: starEach [] X.env) : PE X (.Call (.Name (biN b) q) [y] [] p) (tCB (biR X.K b) t) := by
  have hv := bi_boot b
  have hr := bi_rule hc b
  cases b
  case int => exact pe_callTy hr hg hm hv ha (by decide) (by decide) he rfl
  case tuple => exact pe_callTy hr hg hm hv ha (by decide) (by decide) he rfl
  case tupleD => exact pe_callTy hr hg hm hv ha (by decide) (by decide) he rfl
  case list => exact pe_callTy hr hg hm hv ha (by decide) (by decide) he rfl
  all_goals exact pe_callB hr hg hm hv ha (by decide) (by decide) he rfl
theorem own_map {own : List Nat} : (ownOf sc own).map (·.2) = own := by
  unfold ownOf
  rw [List.map_map]
  exact List.map_id' own
theorem sub_of {o i : Expr} {pos : Pos} (h : ∀ a b c p, i ≠ .Slice a b c p) (env : Env) : ∀ v, assign (.Subscript o i pos) env v = (do
      let ov ← holding [v] (eval o env)
      let iv ← holding [v, ov] (eval i env)
      standAt pos
      holding [v, ov, iv] (setItem ov iv v)
      release [v, ov, iv] []) := fun v => by
  cases i <;> first | rfl | exact absurd rfl (h _ _ _ _)
theorem all_in {t : T} {own : List Nat} (h : (slT t).all (own.contains ·) = true) : ∀ i ∈ slT t, i ∈ own := fun i m => by
  have := List.all_eq_true.mp h i m
  simpa using this
/-- a test by its value's truth -/
theorem base_pt {x : Expr} {c : Loc → Sto → KD → Bool} (h : PE X x (tev X.K c)) (he : ∀ whole, isTrue x X.env whole = (do let v ← whole; standAt x.pos; holding [v] (truthy v))) : PT X x (tevT X.K (fun σ s k => c σ s fun x s1 => truK x s1 fun b => k b s1)) :=
  PT.imp (pt_truth h he) tru_imp
theorem pw_of {op : BoolOp} {es : List Expr} {p : Pos} {t : TT} (h : PT X (.BoolOp op es p) t) : PW X (.BoolOp op es p) t := ⟨fun _ pins s σ H Q I q => h.run pins s σ H Q I q⟩
mutual
theorem sE : ∀ (e : E) {sc : Sc} {X : Cx}, Cok G R sc X → ∀ {x : Expr}, chkE G sc e x = true → PE X x (tev X.K (den e R)) ∧ PT X x (tevT X.K (tst e R))
  | .var i, sc, X, C, x, h => by
    obtain ⟨y, p, rfl, h1, h2, h3⟩ := inv_var h
    have n := name_ok h3
    have hE : PE X (.Name y p) (tev X.K (den (.var i) R)) := PE.imp (pe_var (C.slot h1) (C.vis h2) n.1 n.2.1) var_imp
    exact ⟨hE, base_pt hE fun _ => rfl⟩
  | .cst d, sc, X, C, x, h => by
    obtain ⟨c, k, p, rfl, h1⟩ := inv_cst h
    obtain ⟨v, hp, r⟩ := const_imp (X := X) (k := k) (p := p) h1
    have hE := PE.imp hp (cst_imp r)
    exact ⟨hE, base_pt hE fun _ => rfl⟩
  | .glb d, sc, X, C, x, h => by
    obtain ⟨y, p, rfl, h1, h2, h3⟩ := inv_glb h
    obtain ⟨v, u, e, rv, r⟩ := C.cs y d h2
    have hE := PE.imp (pe_glob (pos := p) (C.gl h1) e rv (name_ok h3).1) (cst_imp r)
    exact ⟨hE, base_pt hE fun _ => rfl⟩
  | .bin o a b, sc, X, C, x, h => by
    obtain ⟨y, z, p, rfl, h1, h2⟩ := inv_bin h
    have hE := PE.imp (pe_op (pos := p) (bop_rule o) (sE a C h1).1 (sE b C h2).1) (op2_imp (bop_ok o))
    exact ⟨hE, base_pt hE fun _ => rfl⟩
  | .cmp o a b, sc, X, C, x, h => by
    obtain ⟨y, z, p, rfl, h1, h2⟩ := inv_cmp h
    have ha := (sE a C h1).1
    have hb := (sE b C h2).1
    refine ⟨PE.imp (pe_cmpR (cop_rule C.un o) ha hb (mark_of (chk_form h2).2 _)) (op2_imp (cop_ok o)), PT.imp (pt_cmpR (cop_rule C.un o) ha hb (mark_of (chk_form h2).2 _)) fun σ H Q hq => ?_⟩
    exact op2_imp (cop_ok o) σ H _ (tstB_imp σ H Q hq)
  | .chain o o' a b c, sc, X, C, x, h => by
    obtain ⟨y, z, u, p, rfl, h1, h2, h3⟩ := inv_chain h
    have ha := (sE a C h1).1
    have hb := (sE b C h2).1
    have hc := (sE c C h3).1
    have hm : lastMarks [cmpOf o, cmpOf o'] [z, u] = false := mark_of (chk_form h3).2 _
    refine ⟨PE.imp (pe_chain (cop_rule C.un o) (cop_rule C.un o') ha hb hc hm) (chain_imp (cop_ok o) (cop_ok o')), PT.imp (pt_chain (cop_rule C.un o) (cop_rule C.un o') ha hb hc hm) fun σ H Q hq => ?_⟩
    exact chain_imp (cop_ok o) (cop_ok o') σ H _ (tstB_imp σ H Q hq)
  | .neg a, sc, X, C, x, h => by
    obtain ⟨y, p, rfl, h1⟩ := inv_neg h
    have hE := PE.imp (pe_un (pos := p) un_neg (sE a C h1).1) neg_imp
    exact ⟨hE, base_pt hE fun _ => rfl⟩
  | .not a, sc, X, C, x, h => by
    obtain ⟨y, p, rfl, h1⟩ := inv_not h
    exact ⟨PE.imp (pe_notT (sE a C h1).1) notV_imp, PT.imp (pt_not (sE a C h1).2) notT_imp⟩
  | .and a b, sc, X, C, x, h => by
    rcases inv_and h with ⟨y, z, p, rfl, h1, h2⟩ | ⟨y, z, u, r, p, rfl, h1, h2⟩
    · exact ⟨PE.imp (pe_andT (sE a C h1).1 (pe_one (sE b C h2).1)) andV_imp, PT.imp (PW.pt (pw_and (sE a C h1).2 (pw_and1 (sE b C h2).2))) andT_imp⟩
    · exact ⟨PE.imp (pe_andT (sE a C h1).1 (sE b C h2).1) andV_imp, PT.imp (PW.pt (pw_and (sE a C h1).2 (pw_of (sE b C h2).2))) andT_imp⟩
  | .or a b, sc, X, C, x, h => by
    rcases inv_or h with ⟨y, z, p, rfl, h1, h2⟩ | ⟨y, z, u, r, p, rfl, h1, h2⟩
    · exact ⟨PE.imp (pe_orT (sE a C h1).1 (pe_one (sE b C h2).1)) orV_imp, PT.imp (PW.pt (pw_or (sE a C h1).2 (pw_or1 (sE b C h2).2))) orT_imp⟩
    · exact ⟨PE.imp (pe_orT (sE a C h1).1 (sE b C h2).1) orV_imp, PT.imp (PW.pt (pw_or (sE a C h1).2 (pw_of (sE b C h2).2))) orT_imp⟩
  | .ife c a b, sc, X, C, x, h => by
    obtain ⟨y, z, u, p, rfl, h1, h2, h3⟩ := inv_ife h
    exact ⟨PE.imp (pe_ifExp (sE c C h1).2 (sE a C h2).1 (sE b C h3).1) ifV_imp, PT.imp (pt_ife (sE c C h1).2 (sE a C h2).2 (sE b C h3).2) ifT_imp⟩
  | .call f m es, sc, X, C, x, h => by
    obtain ⟨y, q, args, p, rfl, h1, h2, h3, h4⟩ := inv_call h
    obtain ⟨fa, fd, ps, k, e1, F, e2, e3, e4⟩ := C.fs y f args.length h1
    have n := name_ok h3
    have st := stars_of h4 X.env
    have A := sEs es C h4
    cases args with
    | nil =>
      have hE : PE X (.Call (.Name y q) [] [] p) (tev X.K (cCall f m (denEs es) R)) := by
        refine PE.imp (pe_call0 F e4 (C.gl h2) e1 e2 e3 .nil pass0 n.1) fun σ H Q hq => ?_
        have hq := call_imp (n := 0) σ H Q hq
        cases es with
        | nil => exact nil_imp σ H _ hq
        | cons _ _ => unfold chkEs at h4; cases h4
      exact ⟨hE, base_pt hE fun _ => rfl⟩
    | cons z zs =>
      have st2 : starEach (z :: zs) X.env = (false, eval z X.env) :: starEach zs X.env := by
        cases es with
        | nil => unfold chkEs at h4; cases h4
        | cons e r => unfold chkEs at h4; rw [Bool.and_eq_true] at h4; exact star_of (chk_star h4.1) _ _
      have st3 : starEach zs X.env = zs.map fun x => (false, eval x X.env) := by
        cases es with
        | nil => unfold chkEs at h4; cases h4
        | cons e r => unfold chkEs at h4; rw [Bool.and_eq_true] at h4; exact stars_of h4.2 X.env
      have hE : PE X (.Call (.Name y q) (z :: zs) [] p) (tev X.K (cCall f m (denEs es) R)) := PE.imp (pe_call F e4 (C.gl h2) e1 e2 e3 .nil pass0 A n.1 st2 (nostar_of st3 p)) call_imp
      exact ⟨hE, base_pt hE fun _ => rfl⟩
  | .bi b a, sc, X, C, x, h => by
    obtain ⟨q, y, p, rfl, h1, h2, h3⟩ := inv_bi h
    have hE := PE.imp (bi_pe (q := q) (p := p) C.cm (C.gl h2) (C.fr _ h1) (pa_cons (sE a C h3).1 pa_nil (star_of (chk_star h3) _ _)) (star_of (chk_star h3) _ _)) bi_imp
    exact ⟨hE, base_pt hE fun _ => rfl⟩
  | .isi T a, sc, X, C, x, h => by
    obtain ⟨q, y, q2, p, rfl, h1, h2, h3, h4, h5⟩ := inv_isi h
    obtain ⟨b1, b2, b3⟩ := ty_boot T
    have hE := PE.imp (pe_callB (p := q) (pos := p) call_isi (C.gl h2) (C.fr _ h1) (by decide +kernel) (pa_cons (sE a C h5).1 (pa_cons (pe_bltn (pos := q2) (v := .ty (tyN T)) (C.gl h4) (C.fr _ h3) b1 rfl b2 b3) pa_nil rfl) (star_of (chk_star h5) _ _)) (by decide) (by decide) (star_of (chk_star h5) _ _) rfl) isi_imp
    exact ⟨hE, base_pt hE fun _ => rfl⟩
  | .min2 a b, sc, X, C, x, h => by
    obtain ⟨q, y, z, p, rfl, h1, h2, h3, h4⟩ := inv_min2 h
    have hE := PE.imp (pe_callB (p := q) (pos := p) (call_min2 C.cm) (C.gl h2) (C.fr _ h1) (by decide +kernel) (pa_cons (sE a C h3).1 (pa_cons (sE b C h4).1 pa_nil (star_of (chk_star h4) _ _)) (star_of (chk_star h3) _ _)) (by decide) (by decide) (star_of (chk_star h3) _ _) (by rw [star_of (chk_star h4)]; rfl)) min_imp
    exact ⟨hE, base_pt hE fun _ => rfl⟩
  | .idx a i, sc, X, C, x, h => by
    obtain ⟨y, z, p, rfl, h1, h2⟩ := inv_idx h
    have hE := PE.imp (pe_ix (pos := p) ix_rule (sE a C h1).1 (sE i C h2).1 (plain_of (chk_form h2).1)) (op2_imp ixK_ok)
    exact ⟨hE, base_pt hE fun _ => rfl⟩
  | .sl a lo hi, sc, X, C, x, h => by
    obtain ⟨y, l, u, q, p, rfl, h1, h2, h3⟩ := inv_sl h
    obtain ⟨tl, hl, il⟩ := sO lo C h2
    obtain ⟨th, hh, ih⟩ := sO hi C h3
    have hE := PE.imp (pe_slice (pos := p) (p2 := q) sl_rule (sE a C h1).1 hl hh) (sl_imp il ih)
    exact ⟨hE, base_pt hE fun _ => rfl⟩
  | .tup es, sc, X, C, x, h => by
    obtain ⟨xs, k, p, rfl, h1, h2⟩ := inv_tup h
    have hE := PE.imp (pe_tup (pos := p) (x1 := k) (sEs es C h1)) (tup_imp (Nat.le_trans h2 (by decide)))
    exact ⟨hE, base_pt hE fun _ => rfl⟩
  | .lst es, sc, X, C, x, h => by
    obtain ⟨xs, p, rfl, h1, h2⟩ := inv_lst h
    have hE := PE.imp (pe_lst (pos := p) (sEs es C h1)) (lst_imp (Nat.le_trans h2 (by decide)))
    exact ⟨hE, base_pt hE fun _ => rfl⟩
  | .dct es, sc, X, C, x, h => by
    obtain ⟨ks, vs, p, rfl, h1, h2⟩ := inv_dct h
    obtain ⟨trs, hp, l1, l2, hi⟩ := sP es C h1 p
    cases ks with
    | nil =>
      cases vs with
      | nil =>
        cases es with
        | nil =>
          have hE := PE.imp (pe_dnewK (X := X) (pos := p)) (dnew_imp (K := X.K) (R := R))
          exact ⟨hE, base_pt hE fun _ => rfl⟩
        | cons a r => cases r <;> (unfold chkP at h1; cases h1)
      | cons _ _ => cases l1
    | cons k ks =>
      have hE := PE.imp (pe_disp hp l2 l1 (by intro z; cases z) h2) (dct_imp h2 hi)
      exact ⟨hE, base_pt hE fun _ => rfl⟩
  | .comp own t it e, sc, X, C, x, h => by
    obtain ⟨y, tg, ix, scope, p, rfl, h1, h2, h3, h4, h5⟩ := inv_comp h
    have bk := blkOk_by h2
    have ok : BlkOk X.N X.env.scope scope (ownOf sc own) := by rw [C.N]; exact blk_conv bk C.nm
    have hx : ∀ v, foldedSetIterable ix X.env v = pure v := fold_of (iter_form h1) X.env
    have hE : PE X (.ListComp y [⟨tg, ix, [], 0⟩] scope p) (tev X.K (cComp own (denT t) (denI it) none (den e) R)) := by
      refine PE.imp (pe_lc (own := ownOf sc own) C.cm C.nd (sI it C h1) ok (g := tevG X.K own (denT t R)) (tt := tYes) (te := tev X.K (den e R)) (fun s H a cl fp => sT t own (all_in h3) (C.blk bk.kind s H a cl fp) h4) (fun _ _ _ _ _ => pts_nil) (fun s H a cl fp => (sE e (C.blk bk.kind s H a cl fp) h5).1) hx) ?_
      rw [own_map]
      exact comp_imp (.inl ⟨rfl, rfl⟩)
    exact ⟨hE, base_pt hE fun _ => rfl⟩
  | .compIf own t it c e, sc, X, C, x, h => by
    obtain ⟨y, tg, ix, u, scope, p, rfl, h1, h2, h3, h4, h6, h5⟩ := inv_compIf h
    have bk := blkOk_by h2
    have ok : BlkOk X.N X.env.scope scope (ownOf sc own) := by rw [C.N]; exact blk_conv bk C.nm
    have hx : ∀ v, foldedSetIterable ix X.env v = pure v := fold_of (iter_form h1) X.env
    have hE : PE X (.ListComp y [⟨tg, ix, [u], 0⟩] scope p) (tev X.K (cComp own (denT t) (denI it) (some (tst c)) (den e) R)) := by
      refine PE.imp (pe_lc (own := ownOf sc own) C.cm C.nd (sI it C h1) ok (g := tevG X.K own (denT t R)) (tt := tevT X.K (tst c R)) (te := tev X.K (den e R)) (fun s H a cl fp => sT t own (all_in h3) (C.blk bk.kind s H a cl fp) h4) (fun s H a cl fp => pts_one (sE c (C.blk bk.kind s H a cl fp) h6).2) (fun s H a cl fp => (sE e (C.blk bk.kind s H a cl fp) h5).1) hx) ?_
      rw [own_map]
      exact comp_imp (.inr ⟨tst c, rfl, rfl⟩)
    exact ⟨hE, base_pt hE fun _ => rfl⟩
  | .mth m i es, sc, X, C, x, h => by
    obtain ⟨y, q, ap, args, cp, rfl, h1, h2, h3, h5, h6, h7⟩ := inv_mth h
    have n := name_ok h3
    have V : PE X (.Name y q) (tVar i) := pe_var (C.slot h1) (C.vis h2) n.1 n.2.1
    have A := sEs es C h6
    cases args with
    | nil =>
      cases es with
      | cons _ _ => unfold chkEs at h6; cases h6
      | nil =>
        cases m with
        | pop =>
          have hE := PE.imp (pe_bm0 PySem.F.plainAttrs_list PySem.F.slot_list_pop PySem.F.type_list_pop mt_pop V rfl h5) (mth0_imp (m := .pop))
          exact ⟨hE, base_pt hE fun _ => rfl⟩
        | append =>
          have hE := PE.imp (pe_bm0 PySem.F.plainAttrs_list PySem.F.slot_list_append PySem.F.type_list_append mt_append V rfl h5) (mth0_imp (m := .append))
          exact ⟨hE, base_pt hE fun _ => rfl⟩
        | extend =>
          have hE := PE.imp (pe_bm0 PySem.F.plainAttrs_list PySem.F.slot_list_extend PySem.F.type_list_extend mt_extend V rfl h5) (mth0_imp (m := .extend))
          exact ⟨hE, base_pt hE fun _ => rfl⟩
    | cons z zs =>
      have e : zs = [] := by
        cases zs with
        | nil => rfl
        | cons _ _ => simp at h7
      subst e
      have st : starEach [z] X.env = (false, eval z X.env) :: starEach [] X.env := by
        cases es with
        | nil => unfold chkEs at h6; cases h6
        | cons e r => unfold chkEs at h6; rw [Bool.and_eq_true] at h6; exact star_of (chk_star h6.1) _ _
      have few : ((backTo cp (starEach [z] X.env)).all (fun x => !x.1) && (backToKw cp (keywordEach [] X.env)).all (fun x => x.1.isSome)
        && decide (([z] : List Expr).length + ([] : List Keyword).length + (if ([] : List Keyword).isEmpty then 0 else 1) < 30)) = true := by rw [st]; rfl
      cases m with
      | pop =>
        have hE := PE.imp (pe_bm PySem.F.plainAttrs_list PySem.F.slot_list_pop PySem.F.type_list_pop mt_pop V A rfl few h5 st rfl) (mth_imp (m := .pop))
        exact ⟨hE, base_pt hE fun _ => rfl⟩
      | append =>
        have hE := PE.imp (pe_bm PySem.F.plainAttrs_list PySem.F.slot_list_append PySem.F.type_list_append mt_append V A rfl few h5 st rfl) (mth_imp (m := .append))
        exact ⟨hE, base_pt hE fun _ => rfl⟩
      | extend =>
        have hE := PE.imp (pe_bm PySem.F.plainAttrs_list PySem.F.slot_list_extend PySem.F.type_list_extend mt_extend V A rfl few h5 st rfl) (mth_imp (m := .extend))
        exact ⟨hE, base_pt hE fun _ => rfl⟩
theorem sEs : ∀ (es : Es) {sc : Sc} {X : Cx}, Cok G R sc X → ∀ {xs : List Expr}, chkEs G sc es xs = true → PA X xs (tevA X.K xs.length (denEs es R))
  | .nil, sc, X, C, [], h => PA.imp pa_nil nil_imp
  | .nil, sc, X, C, _ :: _, h => by unfold chkEs at h; cases h
  | .cons _ _, sc, X, C, [], h => by unfold chkEs at h; cases h
  | .cons e r, sc, X, C, x :: xs, h => by
    unfold chkEs at h
    rw [Bool.and_eq_true] at h
    exact PA.imp (pa_cons (sE e C h.1).1 (sEs r C h.2) (star_of (chk_star h.1) _ _)) cons_imp
theorem sO : ∀ (es : Es) {sc : Sc} {X : Cx}, Cok G R sc X → ∀ {x : Option Expr}, chkO G sc es x = true → ∃ t, PO X x t ∧ ∀ σ H (Q : Option Int → Hp → Prop), (∃ ρ s σd k, RS X.K ρ s H ∧ RL X.K ρ H σd σ ∧ denO es R σd s k = true ∧ ∀ o s' ρ' H', Ext s ρ H s' ρ' H' → RS X.K ρ' s' H' → k o s' = true → Q o H') → t σ H Q
  | .nil, sc, X, C, none, h => ⟨_, po_none, onone_imp (R := R)⟩
  | .nil, sc, X, C, some _, h => by unfold chkO at h; cases h
  | .cons e .nil, sc, X, C, some x, h => ⟨_, po_some (sE e C h).1, osome_imp⟩
  | .cons e .nil, sc, X, C, none, h => by unfold chkO at h; cases h
  | .cons e (.cons _ _), sc, X, C, x, h => by unfold chkO at h; cases h
theorem sP : ∀ (es : Es) {sc : Sc} {X : Cx}, Cok G R sc X → ∀ {ks : List (Option Expr)} {vs : List Expr}, chkP G sc es ks vs = true → ∀ pos, ∃ trs, PPs X pos ks vs trs ∧ ks.length = vs.length ∧ ks.all (·.isSome) = true ∧ ∀ σ H Q, tevP X.K ks.length (denP es R) σ H Q → tPairs trs σ H Q
  | .nil, sc, X, C, ks, vs, h, pos => by
    unfold chkP at h
    split at h <;> first | contradiction | skip
    · exact ⟨[], pps_nil, rfl, rfl, pnil_imp⟩
  | .cons a .nil, sc, X, C, ks, vs, h, pos => by
    unfold chkP at h
    cases h
  | .cons a (.cons b r), sc, X, C, ks, vs, h, pos => by
    unfold chkP at h
    split at h <;> first | contradiction | skip
    · rename_i x xs y ys heq
      cases heq
      rw [Bool.and_eq_true, Bool.and_eq_true] at h
      obtain ⟨trs, hp, l1, l2, hi⟩ := sP r C h.2 pos
      exact ⟨_, pps_cons (sE a C h.1.1).1 (sE b C h.1.2).1 hp, by rw [List.length_cons, List.length_cons, l1], by rw [List.all_cons, l2]; rfl, pcons_imp hi⟩
theorem sT : ∀ (t : T) (sl : List Nat), (∀ i ∈ slT t, i ∈ sl) → ∀ {sc : Sc} {X : Cx}, Cok G R sc X → ∀ {x : Expr}, chkT G sc t x = true → PG X x (tevG X.K sl (denT t R))
  | .nm i, sl, hs, sc, X, C, x, h => by
    obtain ⟨y, p, rfl, h1, h2⟩ := inv_nm h
    exact PG.imp (pg_name C.nd (C.slot h1) (C.loc h2).1 (C.loc h2).2) (gnm_imp (hs i (by unfold slT; simp)))
  | .tp ts, sl, hs, sc, X, C, x, h => by
    obtain ⟨xs, k, p, rfl, h1⟩ := inv_tp h
    obtain ⟨a1, a2, a3⟩ := assigns_of h1 X.env
    exact PG.imp (pg_tupZ C.cm (sTs ts sl (fun i m => hs i (by unfold slT; exact m)) C h1) a1 a2) gtp_imp
  | .sb a i, sl, hs, sc, X, C, x, h => by
    obtain ⟨y, z, p, rfl, h1, h2⟩ := inv_sb h
    exact PG.imp (pg_sub (sE a C h1).1 (sE i C h2).1 (set_rule (by have := C.un; omega)) (sub_of (chk_form h2).1 X.env)) gsb_imp
theorem sTs : ∀ (ts : Ts) (sl : List Nat), (∀ i ∈ slT.slTs ts, i ∈ sl) → ∀ {sc : Sc} {X : Cx}, Cok G R sc X → ∀ {xs : List Expr}, chkTs G sc ts xs = true → PGs X xs (tevGs X.K sl (denTs ts R))
  | .nil, sl, hs, sc, X, C, [], h => PGs.imp pgs_nil gnil_imp
  | .nil, sl, hs, sc, X, C, _ :: _, h => by unfold chkTs at h; cases h
  | .cons _ _, sl, hs, sc, X, C, [], h => by unfold chkTs at h; cases h
  | .cons t r, sl, hs, sc, X, C, x :: xs, h => by
    have hh := h
    unfold chkTs at h
    rw [Bool.and_eq_true] at h
    have e : (assignEach (x :: xs) X.env).map (·.2) = assign x X.env :: (assignEach xs X.env).map (·.2) := by
      rw [(assigns_of hh X.env).2.2, (assigns_of h.2 X.env).2.2]; rfl
    exact PGs.imp (pgs_cons (sT t sl (fun i m => hs i (by unfold slT.slTs; exact List.mem_append_left _ m)) C h.1) (sTs r sl (fun i m => hs i (by unfold slT.slTs; exact List.mem_append_right _ m)) C h.2) e) gcons_imp
theorem sI : ∀ (it : I) {sc : Sc} {X : Cx}, Cok G R sc X → ∀ {x tg : Expr}, chkI G sc it x tg = true → PI X tg x (tevI X.K (denI it R))
  | .seq e, sc, X, C, x, tg, h => PI.imp (pi_seqZ (sE e C (inv_seqI h)).1) iseq_imp
  | .rng a, sc, X, C, x, tg, h => by
    obtain ⟨q, y, p, rfl, h1, h2, h3⟩ := inv_rng h
    have st := star_of (chk_star h3) [] X.env
    exact PI.imp (pi_range1 (C.gl h2) (C.fr _ h1) (pa_cons (sE a C h3).1 pa_nil st) st) irng_imp
  | .rng2 a b, sc, X, C, x, tg, h => by
    obtain ⟨q, y, z, p, rfl, h1, h2, h3, h4⟩ := inv_rng2 h
    have st := star_of (chk_star h4) [] X.env
    have st1 := star_of (chk_star h3) [z] X.env
    exact PI.imp (pi_range2 (C.gl h2) (C.fr _ h1) (pa_cons (sE a C h3).1 (pa_cons (sE b C h4).1 pa_nil st) st1) (by rw [st1, st]; rfl) st) irng2_imp
  | .enum a, sc, X, C, x, tg, h => by
    obtain ⟨q, y, p, rfl, h1, h2, h3, h4⟩ := inv_enum h
    obtain ⟨xs, k, tp, rfl⟩ := isTup_form h4
    have st := star_of (chk_star h3) [] X.env
    exact PI.imp (pi_enumZ (C.gl h2) (C.fr _ h1) (pa_cons (sE a C h3).1 pa_nil st) st) ienum_imp
  | .zip a b, sc, X, C, x, tg, h => by
    obtain ⟨q, y, z, p, rfl, h1, h2, h3, h4, h5⟩ := inv_zip h
    obtain ⟨xs, k, tp, rfl⟩ := isTup_form h5
    have st := star_of (chk_star h4) [] X.env
    have st1 := star_of (chk_star h3) [z] X.env
    exact PI.imp (RZ.pi_zipA (C.gl h2) (C.fr _ h1) (pa_cons (sE a C h3).1 (pa_cons (sE b C h4).1 pa_nil st) st1) st1 (by rw [st]; rfl)) izip_imp
end
end
end Zev

set_option Elab.async false
set_option linter.all false
set_option maxRecDepth 100000
/-! Zev14: the check is sound: statements. -/
namespace Zev
open PySem PySem.Spec PyProof.Rows L2
section
variable {G : Gb} {R : Rec} {sc : Sc} {X : Cx} {K : PySem.W.Frag}

theorem asgN_imp {i : Nat} {a : Loc → Sto → KD → Bool} : ∀ (D : Ends) (σ : LSt) (H : Hp), tevS K (fun σ s k => a σ s fun x s1 => k.nx (setN σ i (some x)) s1) D σ H → tAsg (tev K a) (gName i) D σ H := fun D σ H ⟨ρ, s, σd, k, S, L, h, A⟩ =>
  ⟨ρ, s, σd, _, S, L, h, fun x s1 v ρ1 H1 E1 S1 R1 h1 => A.nx _ s1 _ ρ1 H1 E1 S1 ((L.mono E1 S).set R1) h1⟩
theorem if_imp {c : Loc → Sto → (Bool → Sto → Bool) → Bool} {a b : Loc → Sto → Ks → Bool} : ∀ (D : Ends) (σ : LSt) (H : Hp),
    tevS K (fun σ s k => c σ s fun t s1 => @Bool.rec (fun _ => Bool) (b σ s1 k) (a σ s1 k) t) D σ H → tIfS (tevT K c) (tevS K a) (tevS K b) D σ H := fun D σ H ⟨ρ, s, σd, k, S, L, h, A⟩ => by
  refine ⟨ρ, s, σd, _, S, L, h, fun t s1 ρ1 H1 E1 S1 h1 => ?_⟩
  rcases brec h1 with ⟨e, q⟩ | ⟨e, q⟩ <;> subst e
  · exact iteF ⟨ρ1, s1, σd, k, S1, L.mono E1 S, q, A.mono E1 S S1⟩
  · exact iteT ⟨ρ1, s1, σd, k, S1, L.mono E1 S, q, A.mono E1 S S1⟩
theorem chk_nocomp {e : E} {x : Expr} (h : chkE G sc e x = true) : (∀ a b c d, x ≠ .SetComp a b c d) ∧ (∀ a b c d e, x ≠ .DictComp a b c d e) := by
  refine ⟨fun a b c d z => ?_, fun a b c d f z => ?_⟩
  all_goals
    subst z
    cases e <;> (unfold chkE at h; first | cases h | (split at h <;> first | cases h | contradiction))
theorem swaps_no {e : E} {x : Expr} (h : chkE G sc e x = true) (hc : isComp x = false) (t : Option Expr) (l : Nat) (env : Env) : swapsWith x t l env = pure false := by
  obtain ⟨h1, h2⟩ := chk_nocomp h
  cases x <;> first | rfl | exact absurd rfl (h1 _ _ _ _) | exact absurd rfl (h2 _ _ _ _ _) | exact absurd (show true = false from hc) (by decide)
theorem swaps_tp {xs : List Expr} {k : Nat} {p : Pos} (x : Expr) (l : Nat) (env : Env) : swapsWithSole [.Tuple xs k p] x l env = pure false := by
  cases x <;> rfl
theorem swaps_sb {a i : Expr} {p : Pos} (x : Expr) (l : Nat) (env : Env) : swapsWithSole [.Subscript a i p] x l env = pure false := by
  cases x <;> rfl
theorem swapped_sb {a i : Expr} {p : Pos} (x : Expr) (env : Env) : swappedStores [.Subscript a i p] x env = pure none := by
  cases x <;> rfl
theorem fm_len {α β : Type} {f : α → Option β} {p : α → Bool} (hf : ∀ a, p a = false → f a = none) : ∀ {l : List α}, l.all p = false → (l.filterMap f).length ≠ l.length
  | [], h => by cases h
  | a :: l, h => by
    cases hp : p a with
    | false =>
      rw [List.filterMap_cons_none (hf a hp)]
      have := List.length_filterMap_le f l
      rw [List.length_cons]
      omega
    | true =>
      rw [List.all_cons, hp, Bool.true_and] at h
      have ih := fm_len hf h
      cases e : f a with
      | none =>
        rw [List.filterMap_cons_none e]
        have := List.length_filterMap_le f l
        rw [List.length_cons]
        omega
      | some b =>
        rw [List.filterMap_cons_some e, List.length_cons, List.length_cons]
        omega
theorem swapped_no {ts : List Expr} {k : Nat} {p : Pos} {x : Expr} (h : noSwap (.Tuple ts k p) x = true) (env : Env) : swappedStores [.Tuple ts k p] x env = pure none := by
  cases x
  case Tuple vs k2 p2 =>
    have h : (!(ts.all isNm)) = true := h
    rw [Bool.not_eq_true'] at h
    unfold swappedStores
    dsimp only
    split
    · rfl
    · split
      · rfl
      · rename_i line _ _
        refine if_pos ?_
        rw [Bool.or_eq_true]
        exact .inl (bne_iff_ne.mpr (fm_len (p := isNm) (fun a ha => by cases a <;> first | rfl | cases ha) h))
  all_goals rfl
theorem block_fn {X : Cx} (C : Cok G R sc X) : X.env.blockKind = .function := by
  unfold Env.blockKind
  rw [C.kd]
  rfl
theorem no_star {f : Expr → Bool} (hf : ∀ a, (∀ y p, a ≠ .Starred y p) → f a = false) {l : List Expr} (h : ∀ a ∈ l, ∀ y p, a ≠ .Starred y p) : ¬ (l.any f = true) := fun q => by
  obtain ⟨a, m, e⟩ := List.any_eq_true.mp q
  rw [hf a (h a m)] at e
  cases e
theorem dup2 {x y : Str} (h : x ≠ y) : [x, y].eraseDups = [x, y] := by
  rw [List.eraseDups_cons, List.filter_cons, if_pos (by simp [Ne.symm h])]
  rfl
theorem dup3 {x y z : Str} (h : x ≠ y) (h2 : x ≠ z) (h3 : y ≠ z) : [x, y, z].eraseDups = [x, y, z] := by
  rw [List.eraseDups_cons, List.filter_cons, if_pos (by simp [Ne.symm h]), List.filter_cons, if_pos (by simp [Ne.symm h2]), List.filter_nil, dup2 h3]
theorem swapped2 {X : Cx} (C : Cok G R sc X) {x y : Str} {px py pt pt2 : Pos} {k k2 : Nat} {u v : Expr} (h1 : plainB sc x = true) (h2 : plainB sc y = true) (hl : (py.line == px.line) = true) (hn : x ≠ y)
    (su : ∀ y p, u ≠ .Starred y p) (sv : ∀ y p, v ≠ .Starred y p) (hf : (!([u, v].all (foldedForSure 8))) = true) (hc : (!([u, v].all (constantsAlone 8))) = true) :
    swappedStores [.Tuple [.Name x px, .Name y py] k pt] (.Tuple [u, v] k2 pt2) X.env = pure (some [x, y]) := by
  have e1 := C.plain h1
  have e2 := C.plain h2
  rw [Bool.not_eq_true'] at hf hc
  have n1 : X.env.kindOf x = some .local := e1
  have n2 : X.env.kindOf y = some .local := e2
  unfold swappedStores
  dsimp only
  rw [block_fn C]
  refine (if_neg ?k1).trans ((if_neg ?k2).trans ?_)
  case k1 => exact Bool.false_ne_true
  case k2 => exact (no_star (fun a ha => by cases a <;> first | rfl | exact absurd rfl (ha _ _)) (by
    intro a m
    rcases List.mem_cons.mp m with e | m
    · rw [e]; exact su
    · rw [List.mem_singleton.mp m]; exact sv))
  simp only [List.filterMap_cons, List.filterMap_nil, n1, n2, hl, hf, hc, List.head?_cons, Option.map_some, Option.getD_some, Expr.pos, beq_self_eq_true, Bool.and_self, if_true, Bool.and_true]
  rw [dup2 hn]
  rfl
theorem swapped3 {X : Cx} (C : Cok G R sc X) {x y z : Str} {px py pz pt pt2 : Pos} {k k2 : Nat} {u v w : Expr} (h1 : plainB sc x = true) (h2 : plainB sc y = true) (h3 : plainB sc z = true) (hl : (py.line == px.line) = true) (hl2 : (pz.line == px.line) = true) (hn : x ≠ y) (hn2 : x ≠ z) (hn3 : y ≠ z)
    (su : ∀ y p, u ≠ .Starred y p) (sv : ∀ y p, v ≠ .Starred y p) (sw : ∀ y p, w ≠ .Starred y p) (hf : (!([u, v, w].all (foldedForSure 8))) = true) (hc : (!([u, v, w].all (constantsAlone 8))) = true) :
    swappedStores [.Tuple [.Name x px, .Name y py, .Name z pz] k pt] (.Tuple [u, v, w] k2 pt2) X.env = pure (some [x, y, z]) := by
  have e1 := C.plain h1
  have e2 := C.plain h2
  have e3 := C.plain h3
  rw [Bool.not_eq_true'] at hf hc
  have n1 : X.env.kindOf x = some .local := e1
  have n2 : X.env.kindOf y = some .local := e2
  have n3 : X.env.kindOf z = some .local := e3
  unfold swappedStores
  dsimp only
  rw [block_fn C]
  refine (if_neg ?k1).trans ((if_neg ?k2).trans ?_)
  case k1 => exact Bool.false_ne_true
  case k2 => exact (no_star (fun a ha => by cases a <;> first | rfl | exact absurd rfl (ha _ _)) (by
    intro a m
    rcases List.mem_cons.mp m with e | m
    · rw [e]; exact su
    · rcases List.mem_cons.mp m with e | m
      · rw [e]; exact sv
      · rw [List.mem_singleton.mp m]; exact sw))
  simp only [List.filterMap_cons, List.filterMap_nil, n1, n2, n3, hl, hl2, hf, hc, List.head?_cons, Option.map_some, Option.getD_some, Expr.pos, beq_self_eq_true, Bool.and_self, if_true, Bool.and_true]
  rw [dup3 hn hn2 hn3]
  rfl
theorem inv_asgN {i : Nat} {e : E} {st : Stmt} (h : chkS G sc (.asg (.nm i) e) st = true) : ∃ y py x p, st = .Assign [.Name y py] x p ∧ decide (sc.N[i]? = some y) = true ∧ chkE G sc e x = true ∧ locB sc y = true := by
  unfold chkS at h
  split at h <;> first | contradiction | (rename_i heq; cases heq; done) | skip
  · rename_i y py x p heq
    cases heq
    rw [Bool.and_eq_true, Bool.and_eq_true] at h
    exact ⟨y, py, x, p, rfl, h.1.1, h.1.2, h.2⟩
theorem inv_asgT {ts : Ts} {e : E} {st : Stmt} (h : chkS G sc (.asg (.tp ts) e) st = true) : ∃ tg x p, st = .Assign [tg] x p ∧ chkT G sc (.tp ts) tg = true ∧ chkE G sc e x = true ∧ noSwap tg x = true := by
  unfold chkS at h
  split at h <;> first | contradiction | (rename_i heq; cases heq; done) | skip
  · rename_i tg x p heq
    cases heq
    rw [Bool.and_eq_true, Bool.and_eq_true] at h
    exact ⟨tg, x, p, rfl, h.1.1, h.1.2, h.2⟩
theorem inv_asgS {a i : E} {e : E} {st : Stmt} (h : chkS G sc (.asg (.sb a i) e) st = true) : ∃ tg x p, st = .Assign [tg] x p ∧ chkT G sc (.sb a i) tg = true ∧ chkE G sc e x = true := by
  unfold chkS at h
  split at h <;> first | contradiction | (rename_i heq; cases heq; done) | skip
  · rename_i tg x p heq
    cases heq
    rw [Bool.and_eq_true] at h
    exact ⟨tg, x, p, rfl, h.1, h.2⟩
theorem nd_ne {N : List Str} {i j : Nat} {x y : Str} (h : x ≠ y) (hi : N[i]? = some x) (hj : N[j]? = some y) : i ≠ j := fun e => by
  subst e
  rw [hi] at hj
  exact h (Option.some.inj hj)
theorem pAsgN (C : Cok G R sc X) {i : Nat} {e : E} {st : Stmt} (h : chkS G sc (.asg (.nm i) e) st = true) : PS X st (tevS X.K (denS (.asg (.nm i) e) R)) := by
  obtain ⟨y, py, x, p, rfl, h1, h2, h3⟩ := inv_asgN h
  have he := (sE e C h2).1
  cases hx : isComp x with
  | false => exact PS.imp (ps_set (pos := p) C.nd (C.slot h1) (C.loc h3).1 he (swaps_no h2 hx _ _ _) (C.loc h3).2) asgN_imp
  | true =>
    cases x <;> first | cases hx | skip
    rename_i y2 gens scope lp
    have sw : swapsWith (.ListComp y2 gens scope lp) (some (.Name y py)) p.line X.env = pure (X.env.blockKind == .function && X.env.kindOf y == some .local && py.line == lp.line && !(scope.names.any fun (n, k) => n == y && (k == .local || k == .cell))) := rfl
    cases hb : (X.env.blockKind == .function && X.env.kindOf y == some .local && py.line == lp.line && !(scope.names.any fun (n, k) => n == y && (k == .local || k == .cell))) with
    | false =>
      rw [hb] at sw
      exact PS.imp (ps_set (pos := p) C.nd (C.slot h1) (C.loc h3).1 he sw (C.loc h3).2) asgN_imp
    | true =>
      rw [hb] at sw
      rw [Bool.and_eq_true, Bool.and_eq_true, Bool.and_eq_true] at hb
      have hl : X.env.scope.names.lookup y = some .local := by
        have := hb.1.1.2
        exact eq_of_beq this
      cases e <;> first | (exfalso; unfold chkE at h2; first | cases h2 | (split at h2 <;> first | cases h2 | contradiction); done) | skip
      case comp own t it e =>
        obtain ⟨y3, tg, ix, scope3, p3, heq, k1, k2, k3, k4, k5⟩ := inv_comp h2
        cases heq
        have bk := blkOk_by k2
        have ok : BlkOk X.N X.env.scope scope (ownOf sc own) := by rw [C.N]; exact blk_conv bk C.nm
        have hx : ∀ v, foldedSetIterable ix X.env v = pure v := fold_of (iter_form k1) X.env
        refine PS.imp (ps_setLc (own := ownOf sc own) C.cm C.nd (C.slot h1) hl sw (sI it C k1) ok (g := tevG X.K own (denT t R)) (tt := tYes) (te := tev X.K (den e R)) (fun s H a cl fp => sT t own (all_in k3) (C.blk bk.kind s H a cl fp) k4) (fun _ _ _ _ _ => pts_nil) (fun s H a cl fp => (sE e (C.blk bk.kind s H a cl fp) k5).1) hx) fun D σ H q => ?_
        rw [own_map]
        exact comp_imp (.inl ⟨rfl, rfl⟩) σ H _ (asgN_imp D σ H q)
      case compIf own t it c e =>
        obtain ⟨y3, tg, ix, u, scope3, p3, heq, k1, k2, k3, k4, k6, k5⟩ := inv_compIf h2
        cases heq
        have bk := blkOk_by k2
        have ok : BlkOk X.N X.env.scope scope (ownOf sc own) := by rw [C.N]; exact blk_conv bk C.nm
        have hx : ∀ v, foldedSetIterable ix X.env v = pure v := fold_of (iter_form k1) X.env
        refine PS.imp (ps_setLc (own := ownOf sc own) C.cm C.nd (C.slot h1) hl sw (sI it C k1) ok (g := tevG X.K own (denT t R)) (tt := tevT X.K (tst c R)) (te := tev X.K (den e R)) (fun s H a cl fp => sT t own (all_in k3) (C.blk bk.kind s H a cl fp) k4) (fun s H a cl fp => pts_one (sE c (C.blk bk.kind s H a cl fp) k6).2) (fun s H a cl fp => (sE e (C.blk bk.kind s H a cl fp) k5).1) hx) fun D σ H q => ?_
        rw [own_map]
        exact comp_imp (.inr ⟨tst c, rfl, rfl⟩) σ H _ (asgN_imp D σ H q)
theorem pAsg (C : Cok G R sc X) {t : T} {e : E} {st : Stmt} (h : chkS G sc (.asg t e) st = true) : PS X st (tevS X.K (denS (.asg t e) R)) := by
  cases t with
  | nm i => exact pAsgN C h
  | tp ts =>
    obtain ⟨tg, x, p, rfl, h1, h2, h3⟩ := inv_asgT h
    have hg := sT (.tp ts) (slT (.tp ts)) (fun _ m => m) C h1
    obtain ⟨xs, k, q, rfl, h4⟩ := inv_tp h1
    exact PS.imp (ps_asg (pos := p) (sE e C h2).1 hg (swaps_tp x _ _) (swapped_no h3 _) rfl) asg_imp
  | sb a i =>
    obtain ⟨tg, x, p, rfl, h1, h2⟩ := inv_asgS h
    have hg := sT (.sb a i) (slT (.sb a i)) (fun _ m => m) C h1
    obtain ⟨y, z, q, rfl, h3, h4⟩ := inv_sb h1
    exact PS.imp (ps_asg (pos := p) (sE e C h2).1 hg (swaps_sb x _ _) (swapped_sb x _) rfl) asg_imp
theorem pPar2 (C : Cok G R sc X) {i j : Nat} {a b : E} {st : Stmt} (h : chkS G sc (.par2 i j a b) st = true) : PS X st (tevS X.K (denS (.par2 i j a b) R)) := by
  unfold chkS at h
  split at h <;> first | contradiction | skip
  rename_i x px y py k pt u v k2 pt2 p heq
  cases heq
  simp only [Bool.and_eq_true] at h
  obtain ⟨⟨⟨⟨⟨⟨⟨⟨⟨h1, h2⟩, h3⟩, h4⟩, h5⟩, h6⟩, h7⟩, h8⟩, h9⟩, h10⟩ := h
  have hn := of_decide_eq_true h6
  have e1 := C.slot h1
  have e2 := C.slot h2
  exact PS.imp (ps_par C.cm C.nd e1 e2 (nd_ne hn e1 e2) (C.plain h3) (C.plain h4) (pa_cons (sE a C h7).1 (pa_cons (sE b C h8).1 pa_nil (star_of (chk_star h8) _ _)) (star_of (chk_star h7) _ _)) (swapped2 C h3 h4 h5 hn (chk_star h7) (chk_star h8) h9 h10) rfl) par2_imp
theorem pPar3 (C : Cok G R sc X) {i j l : Nat} {a b c : E} {st : Stmt} (h : chkS G sc (.par3 i j l a b c) st = true) : PS X st (tevS X.K (denS (.par3 i j l a b c) R)) := by
  unfold chkS at h
  split at h <;> first | contradiction | skip
  rename_i x px y py z pz k pt u v w k2 pt2 p heq
  cases heq
  simp only [Bool.and_eq_true] at h
  obtain ⟨⟨⟨⟨⟨⟨⟨⟨⟨⟨⟨⟨⟨⟨⟨h1, h2⟩, h2'⟩, h3⟩, h4⟩, h4'⟩, h5⟩, h5'⟩, h6⟩, h6'⟩, h6''⟩, h7⟩, h8⟩, h8'⟩, h9⟩, h10⟩ := h
  have hn := of_decide_eq_true h6
  have hn2 := of_decide_eq_true h6'
  have hn3 := of_decide_eq_true h6''
  have e1 := C.slot h1
  have e2 := C.slot h2
  have e3 := C.slot h2'
  exact PS.imp (ps_par3 C.cm C.nd e1 e2 e3 (nd_ne hn e1 e2) (nd_ne hn2 e1 e3) (nd_ne hn3 e2 e3) (C.plain h3) (C.plain h4) (C.plain h4') (pa_cons (sE a C h7).1 (pa_cons (sE b C h8).1 (pa_cons (sE c C h8').1 pa_nil (star_of (chk_star h8') _ _)) (star_of (chk_star h8) _ _)) (star_of (chk_star h7) _ _)) (swapped3 C h3 h4 h4' h5 h5' hn hn2 hn3 (chk_star h7) (chk_star h8) (chk_star h8') h9 h10) rfl) par3_imp
theorem pAug (C : Cok G R sc X) {i : Nat} {o : BOp} {e : E} {st : Stmt} (h : chkS G sc (.aug i o e) st = true) : PS X st (tevS X.K (denS (.aug i o e) R)) := by
  unfold chkS at h
  split at h <;> first | contradiction | skip
  rename_i y q op x p heq
  cases heq
  simp only [Bool.and_eq_true] at h
  obtain ⟨⟨⟨⟨h1, h2⟩, h3⟩, h4⟩, h5⟩ := h
  have e1 := of_decide_eq_true h3
  subst e1
  have he := (sE e C h5).1
  cases o
  case add => exact PS.imp (ps_aug C.nd (C.slot h1) (C.loc h2).1 he ip_add (C.loc h2).2) aug_imp
  case sub => exact PS.imp (ps_aug C.nd (C.slot h1) (C.loc h2).1 he ip_sub (C.loc h2).2) aug_imp
  all_goals exact absurd h4 (by decide)
/-- what is known in the body of a try stands where it stood -/
theorem Cok.tr (C : Cok G R sc X) (pn : List (Addr × Obj)) (xe : Value → Shared → Prop) : Cok G R sc (X.tr pn xe).nox where
  N := C.N
  nd := C.nd
  nm := C.nm
  kd := C.kd
  cm := C.cm
  xe := rfl
  un := C.un
  fn := C.fn
  cs := C.cs
  fs := C.fs
  fr := C.fr
  tp := C.tp
  cl := C.cl
mutual
theorem sS : ∀ (st : S) {sc : Sc} {X : Cx}, Cok G R sc X → ∀ {x : Stmt}, chkS G sc st x = true → PS X x (tevS X.K (denS st R))
  | .asg t e, sc, X, C, x, h => pAsg C h
  | .par2 i j a b, sc, X, C, x, h => pPar2 C h
  | .par3 i j l a b c, sc, X, C, x, h => pPar3 C h
  | .aug i o e, sc, X, C, x, h => pAug C h
  | .ex e, sc, X, C, x, h => by
    unfold chkS at h
    split at h <;> first | contradiction | skip
    rename_i y p heq
    cases heq
    rw [Bool.and_eq_true, Bool.not_eq_true'] at h
    exact PS.imp (ps_expr (sE e C h.1).1 (swaps_no h.1 h.2 _ _ _)) ex_imp
  | .ife c a b, sc, X, C, x, h => by
    unfold chkS at h
    split at h <;> first | contradiction | skip
    rename_i y u v p heq
    cases heq
    rw [Bool.and_eq_true, Bool.and_eq_true] at h
    exact PS.imp (ps_if (sE c C h.1.1).2 (sSs a C h.1.2) (sSs b C h.2)) if_imp
  | .fr t it b, sc, X, C, x, h => by
    unfold chkS at h
    split at h <;> first | contradiction | skip
    rename_i tg y u p heq
    cases heq
    rw [Bool.and_eq_true, Bool.and_eq_true] at h
    exact PS.imp (ps_for (by rw [C.xe]; exact PassesOwn.never) C.cm (sI it C h.1.2) (sT t (slT t) (fun _ m => m) C h.1.1) (sSs b C h.2) (fold_of (iter_form h.1.2) X.env)) (for_imp (it := denI it R) (sl := slT t) (t := denT t) (b := denSs b))
  | .wh c b, sc, X, C, x, h => by
    unfold chkS at h
    split at h <;> first | contradiction | skip
    rename_i y u p heq
    cases heq
    rw [Bool.and_eq_true] at h
    exact PS.imp (ps_while (by rw [C.xe]; exact PassesOwn.never) (sE c C h.1).2 (sSs b C h.2)) (while_imp (c := tst c) (b := denSs b))
  | .ret e, sc, X, C, x, h => by
    unfold chkS at h
    split at h <;> first | contradiction | skip
    rename_i y p heq
    cases heq
    exact PS.imp (ps_ret (sE e C h).1) ret_imp
  | .retN, sc, X, C, x, h => by
    unfold chkS at h
    split at h <;> first | contradiction | skip
    exact PS.imp ps_retN retn_imp
  | .cont, sc, X, C, x, h => by
    unfold chkS at h
    split at h <;> first | contradiction | skip
    exact PS.imp ps_continue cont_imp
  | .brk, sc, X, C, x, h => by
    unfold chkS at h
    split at h <;> first | contradiction | skip
    exact PS.imp ps_break brk_imp
  | .pass, sc, X, C, x, h => by
    unfold chkS at h
    split at h <;> first | contradiction | skip
    exact PS.imp ps_pass pass_imp
  | .never, sc, X, C, x, h => PS.imp ps_never never_imp
  | .tryB b, sc, X, C, x, h => by
    unfold chkS at h
    split at h <;> first | contradiction | skip
    rename_i u y np s0 suite p1 p2 heq
    cases heq
    simp only [Bool.and_eq_true] at h
    obtain ⟨⟨⟨⟨h1, h2⟩, h3⟩, h4⟩, h5⟩ := h
    obtain ⟨c, hc⟩ := C.cl y h4
    obtain ⟨t1, t2⟩ := C.tp h1
    exact ps_try_only (ts := fun _ _ _ => tNever) (tb := fun _ => tevS X.K (denSs b R)) t1 t2 ⟨C.gl h2, (name_ok h3).1, .inl hc⟩ takes0
      (fun W pn xe _ _ => PSs.nox (sSs b (C.tr pn xe) h5)) (fun a oe cls d pn _ _ => pss_never)
theorem sSs : ∀ (sts : Ss) {sc : Sc} {X : Cx}, Cok G R sc X → ∀ {xs : List Stmt}, chkSs G sc sts xs = true → PSs X xs (tevS X.K (denSs sts R))
  | .nil, sc, X, C, [], h => PSs.imp pss_nil pass_imp
  | .nil, sc, X, C, _ :: _, h => by unfold chkSs at h; cases h
  | .cons _ _, sc, X, C, [], h => by unfold chkSs at h; cases h
  | .cons st r, sc, X, C, x :: xs, h => by
    unfold chkSs at h
    rw [Bool.and_eq_true] at h
    exact PSs.imp (pss_cons (sS st C h.1) (sSs r C h.2)) (seq_imp (a := denS st R) (b := denSs r R))
end
end
end Zev

set_option Elab.async false
set_option linter.all false
set_option maxRecDepth 100000
/-! Zev15: tables of defs: each keeps the promise that its meaning gives. -/
namespace Zev
open PySem PySem.Spec PyProof.Rows L2

/-- a def of the text: the name under which it is called, its own name, its place in the table, parameters, other locals, its statement, its slots' names, its IR -/
structure RowD where
  nm : Str
  name : Str
  f : Nat
  np : Nat
  nl : Nat
  st : Stmt
  N : List Str
  ir : Ss
def RowD.ps (r : RowD) : List Str := r.N.take r.np
def RowD.sc (r : RowD) : Sc := ⟨r.N, (defScope r.st).names, fun _ => true, true⟩
structure RowOk (G : Gb) (T : List FD) (r : RowD) : Prop where
  chk : chkSs G r.sc r.ir (defBody r.st) = true
  fsc : FnScope r.N r.ps (defScope r.st)
  len : r.N.length = r.np + r.nl
  tab : T[r.f]? = some (.py r.np r.nl (denSs r.ir))
  bind : ∀ (kV doc pm : Value) (an : Option Addr) (cdv ct : Value) (us : List Value), us.length = r.ps.length → bindArgs (PySem.W.fnOf r.name r.name (defArgs r.st) (defBody r.st) (defScope r.st) .none kV doc pm an cdv ct) ⟨us, []⟩ = pure (r.ps.zip us)
theorem RowOk.plen {G : Gb} {T : List FD} {r : RowD} (h : RowOk G T r) : r.ps.length = r.np := by
  unfold RowD.ps
  rw [List.length_take, h.len]
  omega
/-- what a function of data promises -/
def spNat (K : PySem.W.Frag) (nf : List D → Sto → KD → Bool) (np : Nat) : Sp := fun vs H Q _ => vs.length = np ∧ ∃ ρ s ds k, RS K ρ s H ∧ RDs K ρ H ds vs ∧ nf ds s k = true ∧ Ans K ρ s H k Q
section
variable {P : Program} {w : World} {K : PySem.W.Frag} {mg : Str → Option Value} {base : Heap}
/-- what is known of the module -/
structure Wd (P : Program) (w : World) (K : PySem.W.Frag) (mg : Str → Option Value) (base : Heap) (G : Gb) (T : List FD) (c : Nat) : Prop where
  cs : ∀ x d, glbB G x d = true → ∃ v u, mg x = some u ∧ RelV v u ∧ ∀ ρ H, RD K ρ H d v
  fr : ∀ x, freeB G x = true → mg x = none
  cl : ∀ x, clsB G x = true → ∃ c, mg x = some c
  fs : ∀ x f n, funB G x f n = true → ∃ fa fd ps, mg x = some (.ref fa) ∧ PySem.W.keepIn K (.ref fa) = true ∧ L2.Binds K fd ps [] ∧ ps.length = n ∧
    ((∃ nf, T[f]? = some (.nat nf) ∧ FnOk P w K mg base CX0 c fa fd ps (spNat K nf n)) ∨
     ∃ r : RowD, r.f = f ∧ r.np = n ∧ r.ps = ps ∧ RowOk G T r ∧ FunD K r.name r.name (defArgs r.st) (defBody r.st) (defScope r.st) [] [] fa fd)
theorem start_eq {N : List Str} {vs : List V} {np nl : Nat} (h : N.length = np + nl) (hv : vs.length = np) : L2.start N vs = vs.map some ++ List.replicate nl none := by
  unfold L2.start
  rw [h, hv, Nat.add_sub_cancel_left]
theorem noneL_eq {nl : Nat} : noneL nl = List.replicate nl none := by
  induction nl with
  | zero => rfl
  | succ n ih => show none :: noneL n = _; rw [ih]; rfl
theorem initL_eq {ds : List D} {nl : Nat} : initL ds nl = ds.map some ++ List.replicate nl none := by
  induction ds with
  | nil => exact noneL_eq
  | cons d r ih => show some d :: initL r nl = _; rw [ih]; rfl
theorem rl_start {ρ : List Addr} {H : Hp} {ds : List D} {vs : List V} {nl : Nat} (h : RDs K ρ H ds vs) : RL K ρ H (ds.map some ++ List.replicate nl none) (vs.map some ++ List.replicate nl none) := by
  have hl := h.len
  refine ⟨by simp [hl], fun i d e => ?_⟩
  by_cases c : i < ds.length
  · rw [List.getElem?_append_left (by rw [List.length_map]; exact c), List.getElem?_map] at e
    cases e2 : ds[i]? with
    | none => rw [e2] at e; cases e
    | some x =>
      rw [e2] at e
      cases e
      obtain ⟨v, e3, r⟩ := h.get e2
      exact ⟨v, by rw [List.getElem?_append_left (by rw [List.length_map, hl]; exact c), List.getElem?_map, e3]; rfl, r⟩
  · rw [List.getElem?_append_right (by rw [List.length_map]; omega)] at e
    obtain ⟨hi, e2⟩ := List.getElem?_eq_some_iff.mp e
    rw [List.getElem_replicate] at e2
    cases e2
/-- a row keeps its promise at a level, if what it calls does one below -/
theorem row_fn {G : Gb} {T : List FD} {c : Nat} (W : Wd P w K mg base G T c) {n : Nat}
    (lev : ∀ (x : Str) (f np : Nat), funB G x f np = true → ∃ fa fd ps, mg x = some (.ref fa) ∧ FnOk P w K mg base CX0 (n + c) fa fd ps (spOf K (callN T n) f np) ∧ PySem.W.keepIn K (.ref fa) = true ∧ L2.Binds K fd ps [])
    {r : RowD} {fa : Addr} {fd : FuncData} (ok : RowOk G T r) (F : FunD K r.name r.name (defArgs r.st) (defBody r.st) (defScope r.st) [] [] fa fd) : FnOk P w K mg base CX0 (n + c + 1) fa fd r.ps (spOf K (callN T (n + 1)) r.f r.np) := by
  refine F.ok ok.fsc (fun vs H Q E q => by rw [q.1, ok.plen]) fun cdv A outer s H vs Q E hr q => ?_
  refine ⟨tevS K (denSs r.ir (callN T n)), PSs.nox (sSs (G := G) (sc := r.sc) r.ir ?_ ok.chk), ?_⟩
  · refine ⟨rfl, ok.fsc.nd, rfl, ok.fsc.kind, rfl, rfl, ?_, fun _ _ => rfl, W.cs, fun x f m hf => ?_, W.fr, fun _ => ⟨rfl, rfl⟩, W.cl⟩
    · have := hr.un
      show (A.deeper _).units + 64 < cLine
      omega
    · obtain ⟨fa, fd, ps, e1, F, e2, e3⟩ := lev x f m hf
      exact ⟨fa, fd, ps, n + c, e1, F, e2, e3, hr⟩
  · obtain ⟨hl, ρ, s, ds, k, S, R, c0, An⟩ := q
    have c1 : nthK T r.f (fun fd => runFD (callN T n) fd ds s k) = true := c0
    obtain ⟨fd', e, c2⟩ := nthK_some c1
    rw [ok.tab] at e
    cases e
    have c3 : @Bool.rec (fun _ => Bool) false (denSs r.ir (callN T n) (initL ds r.nl) s ⟨fun _ s1 => k .non s1, k, fun _ _ => false, fun _ _ => false⟩) (Nat.beq (lenN ds) r.np) = true := c2
    obtain ⟨_, c4⟩ := brecT c3
    rw [initL_eq] at c4
    rw [start_eq ok.len hl]
    refine ⟨ρ, s, _, _, S, rl_start R, c4, ?_⟩
    exact ⟨fun σd' s' σ' ρ' H' E1 S1 _ q => An _ s' _ ρ' H' E1 S1 rd_non q, An, (fun _ _ _ _ _ _ _ _ q => by cases q), (fun _ _ _ _ _ _ _ _ q => by cases q)⟩
theorem level {G : Gb} {T : List FD} {c : Nat} (W : Wd P w K mg base G T c) : ∀ (n : Nat) (x : Str) (f np : Nat), funB G x f np = true →
    ∃ fa fd ps, mg x = some (.ref fa) ∧ FnOk P w K mg base CX0 (n + c) fa fd ps (spOf K (callN T n) f np) ∧ PySem.W.keepIn K (.ref fa) = true ∧ L2.Binds K fd ps []
  | 0, x, f, np, h => by
    obtain ⟨fa, fd, ps, e1, e2, e3, e4, _⟩ := W.fs x f np h
    refine ⟨fa, fd, ps, e1, ⟨fun vs H Q E q => by rw [q.1, e4], fun A outer s H args us vs Q E hr he hb hv q => ?_⟩, e2, e3⟩
    obtain ⟨_, ρ, s, ds, k, _, _, z, _⟩ := q
    cases z
  | n + 1, x, f, np, h => by
    obtain ⟨fa, fd, ps, e1, e2, e3, e4, e5⟩ := W.fs x f np h
    refine ⟨fa, fd, ps, e1, ?_, e2, e3⟩
    rcases e5 with ⟨nf, t, F⟩ | ⟨r, rfl, rfl, rfl, ok, F⟩
    · refine (F.mono (k := n + 1 + c) (by omega)).imp fun vs H Q E q => ?_
      obtain ⟨hl, ρ, s, ds, k, S, R, c0, A⟩ := q
      refine ⟨hl, ρ, s, ds, k, S, R, ?_, A⟩
      have c1 : nthK T f (fun fd => runFD (callN T n) fd ds s k) = true := c0
      obtain ⟨fd', e, c2⟩ := nthK_some c1
      rw [t] at e
      cases e
      exact c2
    · rw [show n + 1 + c = n + c + 1 by omega]
      exact row_fn W (level W n) ok F
end
end Zev

set_option Elab.async false
set_option linter.all false
set_option maxRecDepth 100000
/-! Zev16: the law's drawing of digits: what _law_fill, _law_take mean. -/
namespace Zev
open PySem PySem.Spec PyProof.Rows L2
def S1 : S := .asg (.sb (.var 0) (.cst (.int (3)))) (.bin .add (.idx (.var 0) (.cst (.int (3)))) (.cst (.int (1))))
def S2 : S := .asg (.nm 1) (.bin .add (.bin .mul (.idx (.var 0) (.cst (.int (3)))) (.cst (.int (69621)))) (.cst (.int (12345))))
def S3a : S := .asg (.nm 1) (.idx (.idx (.var 0) (.cst (.int (0)))) (.idx (.var 0) (.cst (.int (1)))))
def S3b : S := .asg (.sb (.var 0) (.cst (.int (1)))) (.bin .add (.idx (.var 0) (.cst (.int (1)))) (.cst (.int (1))))
def S3c : S := .ife (.cmp .lt (.var 1) (.cst (.int (0)))) (.cons (.asg (.nm 1) (.bin .sub (.bin .sub (.cst (.int (0))) (.cst (.int (1)))) (.var 1))) .nil) .nil
def S3d : S := .ife (.cmp .ge (.var 1) (.bin .pow (.cst (.int (10))) (.cst (.int (18))))) (.cons (.ret (.var 1)) .nil) .nil
def S3 : S := .ife (.cmp .lt (.idx (.var 0) (.cst (.int (1)))) (.bi .len (.idx (.var 0) (.cst (.int (0)))))) (.cons S3a (.cons S3b (.cons S3c (.cons S3d .nil)))) .nil
def S4 : S := .ife (.and (.idx (.var 0) (.cst (.int (0)))) (.cmp .ge (.idx (.var 0) (.cst (.int (1)))) (.bi .len (.idx (.var 0) (.cst (.int (0))))))) (.cons (.asg (.nm 1) (.bin .add (.var 1) (.bin .mod (.bi .int (.idx (.idx (.var 0) (.cst (.int (0)))) (.neg (.cst (.int (1)))))) (.cst (.int (1000003)))))) .nil) .nil
def S5 : S := .asg (.nm 1) (.bin .mod (.bi .int (.bin .add (.bin .mul (.var 1) (.cst (.int (48271)))) (.bin .mul (.idx (.var 0) (.cst (.int (3)))) (.cst (.int (69621)))))) (.cst (.int (2147483647))))
def S6 : S := .ret (.bin .add (.bin .fdiv (.bi .int (.bin .add (.bin .add (.bin .mul (.var 1) (.var 1)) (.bin .mul (.idx (.var 0) (.cst (.int (3)))) (.cst (.int (7919))))) (.cst (.int (11))))) (.cst (.int (64)))) (.cst (.int (36028797018963968))))
def i_fill : Ss := .cons S1 (.cons S2 (.cons S3 (.cons S4 (.cons S5 (.cons S6 .nil)))))
def S7 : S := .ife (.cmp .lt (.idx (.var 0) (.cst (.int (2)))) (.var 1)) (.cons (.asg (.sb (.var 0) (.cst (.int (2)))) (.call 0 0 (.cons (.var 0) .nil))) .nil) .nil
def S8 : S := .asg (.nm 2) (.bin .mod (.bi .int (.idx (.var 0) (.cst (.int (2))))) (.var 1))
def S9 : S := .asg (.sb (.var 0) (.cst (.int (2)))) (.bin .fdiv (.idx (.var 0) (.cst (.int (2)))) (.var 1))
def i_take : Ss := .cons S7 (.cons S8 (.cons S9 (.cons (.ret (.var 2)) .nil)))
/-- the drawing state's store -/
def drs (ns : List Int) (i : Nat) (m kk : Int) : Sto := ⟨2, [(0, .lst [.ref 1, .int (.ofNat i), .int m, .int kk, .int 20]), (1, .lst (ns.map D.int))]⟩
def L0 (x : Option D) : Loc := [some (.ref 0), x]
theorem brI {p q b : Bool} (h0 : b = false → p = true) (h1 : b = true → q = true) : @Bool.rec (fun _ => Bool) p q b = true := by
  cases b
  · exact h0 rfl
  · exact h1 rfl
theorem nthK_at {α : Type} : ∀ {xs : List α} {i : Nat} {k : α → Bool} {d : α}, xs[i]? = some d → k d = true → nthK xs i k = true
  | [], _, _, _, e, _ => by cases e
  | x :: xs, 0, k, d, e, h => by cases e; exact h
  | x :: xs, i + 1, k, d, e, h => nthK_at (xs := xs) (i := i) (k := k) (by simpa using e) h
theorem mul_r {i j : Int} {s : Sto} {k : KD} (hj : small64 j = true) (h : k (.int (Int.mul i j)) s = true) : opMul (.int i) (.int j) s k = true :=
  brI (fun _ => brI (fun z => by rw [hj] at z; cases z) fun _ => h) fun _ => h
section
variable {R : Rec} {ns : List Int} {i : Nat} {m kk : Int} {k : Ks} {x : Option D}
theorem s1_ok (h : k.nx (L0 x) (drs ns i m (Int.add kk 1)) = true) : denS S1 R (L0 x) (drs ns i m kk) k = true := h
theorem s2_ok (h : ∀ v, k.nx (L0 (some (.int v))) (drs ns i m kk) = true) : denS S2 R (L0 x) (drs ns i m kk) k = true := by
  show opMul (.int kk) (.int 69621) (drs ns i m kk) (fun z s => opAdd z (.int 12345) s fun y s => k.nx (setN (L0 x) 1 (some y)) s) = true
  exact mul_r (by decide) (h _)
theorem seq_ok {st : S} {r : Ss} {σ : Loc} {s : Sto} {k : Ks} (h : denS st R σ s ⟨fun σ s => denSs r R σ s k, k.rt, k.bk, k.ct⟩ = true) : denSs (.cons st r) R σ s k = true := h
theorem nil_ok {σ : Loc} {s : Sto} {k : Ks} (h : k.nx σ s = true) : denSs .nil R σ s k = true := h
theorem s3a_ok (hi : i < ns.length) (h : ∀ v, k.nx (L0 (some (.int v))) (drs ns i m kk) = true) : denS S3a R (L0 x) (drs ns i m kk) k = true :=
  nthK_at (k := fun d => k.nx (setN (L0 x) 1 (some d)) (drs ns i m kk)) (d := .int ns[i]) (by rw [List.getElem?_map, List.getElem?_eq_getElem hi]; rfl) (h _)
theorem s3b_ok (h : k.nx (L0 x) (drs ns (i + 1) m kk) = true) : denS S3b R (L0 x) (drs ns i m kk) k = true := h
theorem s3c_ok {v : Int} (h : ∀ v, k.nx (L0 (some (.int v))) (drs ns i m kk) = true) : denS S3c R (L0 (some (.int v))) (drs ns i m kk) k = true :=
  brI (b := ltI v 0) (fun _ => h _) fun _ => h (Int.sub (Int.sub 0 1) v)
theorem s3d_ok {v : Int} (h : k.nx (L0 (some (.int v))) (drs ns i m kk) = true) (h2 : k.rt (.int v) (drs ns i m kk) = true) : denS S3d R (L0 (some (.int v))) (drs ns i m kk) k = true :=
  brI (b := leI ((10 : Int) ^ 18) v) (fun _ => h) fun _ => h2
theorem s3_ok {v : Int} (hi : i ≤ ns.length) (h : ∀ v j, j ≤ ns.length → k.nx (L0 (some (.int v))) (drs ns j m kk) = true) (h2 : ∀ v j, j ≤ ns.length → k.rt (.int v) (drs ns j m kk) = true) : denS S3 R (L0 (some (.int v))) (drs ns i m kk) k = true :=
  brI (b := ltI (.ofNat i) (.ofNat (lenN (ns.map D.int)))) (fun _ => h v i hi) fun c => by
    have hl : i < ns.length := by
      rw [ltI_iff, lenN_eq, List.length_map] at c
      have := of_decide_eq_true c
      exact Int.ofNat_lt.mp this
    show denSs (.cons S3a (.cons S3b (.cons S3c (.cons S3d .nil)))) R (L0 (some (.int v))) (drs ns i m kk) k = true
    refine seq_ok (s3a_ok hl fun v => ?_)
    refine seq_ok (s3b_ok ?_)
    refine seq_ok (s3c_ok fun v => ?_)
    exact seq_ok (s3d_ok (h v _ hl) (h2 v _ hl))
theorem s4_ok {v : Int} (h : ∀ v, k.nx (L0 (some (.int v))) (drs ns i m kk) = true) : denS S4 R (L0 (some (.int v))) (drs ns i m kk) k = true :=
  brI (b := !(ns.map D.int).isEmpty) (fun _ => h v) fun e => brI (b := leI (.ofNat (lenN (ns.map D.int))) (.ofNat i)) (fun _ => h v) fun _ => by
    have hl : 0 < ns.length := by
      cases ns with
      | nil => cases e
      | cons a r => exact Nat.succ_pos _
    refine brI (b := Nat.blt 0 (lenN (ns.map D.int))) (fun z => ?_) fun _ => ?_
    · rw [lenN_eq, List.length_map] at z
      rw [show Nat.blt 0 ns.length = true from Nat.ble_eq_true_of_le hl] at z
      cases z
    · refine nthK_at (d := .int ns[ns.length - 1]) ?_ ?_
      · rw [lenN_eq, List.length_map, List.getElem?_map]
        show Option.map D.int ns[ns.length - 1]? = _
        rw [List.getElem?_eq_getElem (by omega)]
        rfl
      · exact h (Int.add v (modI ns[ns.length - 1] 1000003))
theorem small_mod (j : Int) : small64 (modI j 2147483647) = true := by
  rw [modI_eq, Int.fmod_eq_emod_of_nonneg _ (by decide)]
  have h1 := Int.emod_nonneg j (b := 2147483647) (by decide)
  have h2 := Int.emod_lt_of_pos j (b := 2147483647) (by decide)
  exact Nat.ble_eq_true_of_le (by omega)
theorem s5_ok {v : Int} (h : ∀ v, small64 v = true → k.nx (L0 (some (.int v))) (drs ns i m kk) = true) : denS S5 R (L0 (some (.int v))) (drs ns i m kk) k = true := by
  show opMul (.int v) (.int 48271) (drs ns i m kk) (fun z s => opMul (.int kk) (.int 69621) s fun y s => opAdd z y s fun u s => bi1 .int u s fun u s => opMod u (.int 2147483647) s fun u s => k.nx (setN (L0 (some (.int v))) 1 (some u)) s) = true
  refine mul_r (by decide) (mul_r (by decide) ?_)
  exact h _ (small_mod _)
theorem s6_ok {v : Int} (hv : small64 v = true) (h : ∀ v, k.rt (.int v) (drs ns i m kk) = true) : denS S6 R (L0 (some (.int v))) (drs ns i m kk) k = true := by
  show opMul (.int v) (.int v) (drs ns i m kk) (fun z s => opMul (.int kk) (.int 7919) s fun y s => opAdd z y s fun u s => opAdd u (.int 11) s fun u s => bi1 .int u s fun u s => opDiv u (.int 64) s fun u s => opAdd u (.int 36028797018963968) s k.rt) = true
  refine mul_r hv (mul_r (by decide) ?_)
  exact h _
theorem fill_ok (hi : i ≤ ns.length) (h : ∀ v j kk, j ≤ ns.length → k.rt (.int v) (drs ns j m kk) = true) : denSs i_fill R (L0 x) (drs ns i m kk) k = true := by
  unfold i_fill
  refine seq_ok (s1_ok ?_)
  refine seq_ok (s2_ok fun v => ?_)
  refine seq_ok (s3_ok hi (fun v j hj => ?_) fun v j hj => h v j _ hj)
  refine seq_ok (s4_ok fun v => ?_)
  refine seq_ok (s5_ok fun v hv => ?_)
  exact seq_ok (s6_ok hv fun v => h v j _ hj)
end
/-- the table of the drawing's two defs -/
noncomputable def Td : List FD := [.py 1 1 (denSs i_fill), .py 2 1 (denSs i_take)]
def L1 (many : Nat) (x : Option D) : Loc := [some (.ref 0), some (.int (.ofNat many)), x]
section
variable {ns : List Int} {i : Nat} {m kk : Int} {k : Ks} {x : Option D} {many : Nat}
theorem s7_ok (hi : i ≤ ns.length) (h : ∀ j m kk, j ≤ ns.length → k.nx (L1 many x) (drs ns j m kk) = true) : denS S7 (callN Td 1) (L1 many x) (drs ns i m kk) k = true :=
  brI (b := ltI m (.ofNat many)) (fun _ => h i m kk hi) fun _ => by
    show denSs i_fill (callN Td 0) (L0 none) (drs ns i m kk) ⟨fun _ s1 => setK (.ref 0) (.int 2) .non s1 fun s => k.nx (L1 many x) s, fun v s => setK (.ref 0) (.int 2) v s fun s => k.nx (L1 many x) s, fun _ _ => false, fun _ _ => false⟩ = true
    exact fill_ok hi fun v j kk hj => h j v kk hj
theorem nz_many (h : 0 < many) : nz (.ofNat many) = true := by
  cases many with
  | zero => cases h
  | succ n => rfl
theorem s8_ok {R : Rec} (h0 : 0 < many) (h : ∀ d, d < many → k.nx (L1 many (some (.int (.ofNat d)))) (drs ns i m kk) = true) : denS S8 R (L1 many x) (drs ns i m kk) k = true := by
  show opMod (.int m) (.int (.ofNat many)) (drs ns i m kk) (fun u s => k.nx (setN (L1 many x) 2 (some u)) s) = true
  refine brI (b := nz (.ofNat many)) (fun z => by rw [nz_many h0] at z; cases z) fun _ => ?_
  show k.nx (L1 many (some (.int (modI m (.ofNat many))))) _ = true
  have e0 : modI m (.ofNat many) = m % (many : Int) := modI_eq.trans (Int.fmod_eq_emod_of_nonneg m (b := (many : Int)) (Int.natCast_nonneg many))
  have n0 := Int.emod_nonneg m (b := (many : Int)) (by omega)
  have n1 := Int.emod_lt_of_pos m (b := (many : Int)) (by omega)
  have e : modI m (.ofNat many) = .ofNat (m % (many : Int)).toNat := e0.trans (Int.toNat_of_nonneg n0).symm
  rw [e]
  exact h _ (by omega)
theorem s9_ok {R : Rec} (h0 : 0 < many) (h1 : many < 1073741824) (h : ∀ m, k.nx (L1 many x) (drs ns i m kk) = true) : denS S9 R (L1 many x) (drs ns i m kk) k = true := by
  show opDiv (.int m) (.int (.ofNat many)) (drs ns i m kk) (fun u s => setK (.ref 0) (.int 2) u s fun s => k.nx (L1 many x) s) = true
  refine brI (b := nz (.ofNat many) && Nat.blt many 1073741824) (fun z => ?_) fun _ => h _
  rw [nz_many h0, show Nat.blt many 1073741824 = true from Nat.ble_eq_true_of_le h1] at z
  cases z
theorem take_ok {kd : KD} (h0 : 0 < many) (h1 : many < 1073741824) (hi : i ≤ ns.length) (h : ∀ d j m kk, d < many → j ≤ ns.length → kd (.int (.ofNat d)) (drs ns j m kk) = true) :
    callN Td 2 1 [.ref 0, .int (.ofNat many)] (drs ns i m kk) kd = true := by
  show denSs i_take (callN Td 1) (L1 many none) (drs ns i m kk) ⟨fun _ s1 => kd .non s1, kd, fun _ _ => false, fun _ _ => false⟩ = true
  unfold i_take
  refine seq_ok (s7_ok hi fun j m kk hj => ?_)
  refine seq_ok (s8_ok h0 fun d hd => ?_)
  refine seq_ok (s9_ok h0 h1 fun m => ?_)
  exact h d j m kk hd hj
end
end Zev

set_option Elab.async false
set_option linter.all false
set_option maxRecDepth 100000
/-! Zev17: the drawing as functions of data. -/
namespace Zev
open PySem PySem.Spec PyProof.Rows L2
noncomputable section
/-- all places below a number -/
def upTo (m : Nat) (f : Nat → Bool) : Bool := @Nat.rec (fun _ => Bool) true (fun d ih => @Bool.rec (fun _ => Bool) false ih (f d)) m
theorem upTo_all {f : Nat → Bool} : ∀ {m : Nat}, upTo m f = true → ∀ d, d < m → f d = true
  | 0, _, d, h => by omega
  | m + 1, h, d, hd => by
    obtain ⟨h1, h2⟩ := brecT (show @Bool.rec (fun _ => Bool) false (upTo m f) (f m) = true from h)
    by_cases c : d = m
    · rw [c]; exact h1
    · exact upTo_all h2 d (by omega)
def onDrw (o : O) (k : Bool) : Bool := O.casesOn (motive := fun _ => Bool) o (fun _ => false) (fun _ => false) k
def natTake : List D → Sto → KD → Bool := fun ds s k => match ds with
  | [.ref a, .int (.ofNat m)] => lookK s.l a fun o => onDrw o (@Bool.rec (fun _ => Bool) false (upTo m fun d => k (.int (.ofNat d)) s) (Nat.blt 0 m && Nat.blt m 1000))
  | _ => false
theorem natTake_some {ds : List D} {s : Sto} {k : KD} (h : natTake ds s k = true) : ∃ a m, ds = [.ref a, .int (.ofNat m)] ∧ (a, O.drw) ∈ s.l ∧ 0 < m ∧ m < 1000 ∧ ∀ d, d < m → k (.int (.ofNat d)) s = true := by
  unfold natTake at h
  split at h
  · rename_i a m
    obtain ⟨o, mo, h⟩ := lookK_some h
    cases o with
    | lst _ => cases h
    | dct _ => cases h
    | drw =>
      obtain ⟨c, h⟩ := brecT h
      rw [Bool.and_eq_true] at c
      exact ⟨a, m, rfl, mo, Nat.le_of_ble_eq_true c.1, Nat.le_of_ble_eq_true c.2, upTo_all h⟩
  · cases h
section
variable {K : PySem.W.Frag} {ρ ρ' : List Addr} {H H' : Hp} {s s' : Sto}
theorem rds_ints {is : List Int} : RDs K ρ H (is.map D.int) (is.map V.int) := by
  induction is with
  | nil => exact .nil
  | cons i r ih => exact .cons rd_int ih
theorem rds_ints_eq : ∀ {is : List Int} {vs : List V}, RDs K ρ H (is.map D.int) vs → vs = is.map V.int
  | [], vs, h => by unfold List.map RDs at h; exact h
  | i :: r, vs, h => by
    rw [List.map_cons] at h
    unfold RDs at h
    obtain ⟨v, t, rfl, h1, h2⟩ := h
    rw [h1.int, rds_ints_eq h2]
    rfl
theorem nodup_val : ∀ {l : List (Nat × O)} {i : Nat} {u v : O}, (l.map (·.1)).Nodup → (i, u) ∈ l → (i, v) ∈ l → u = v
  | p :: l, i, u, v, nd, h1, h2 => by
    rw [List.map_cons, List.nodup_cons] at nd
    rcases List.mem_cons.mp h1 with e1 | m1
    · rcases List.mem_cons.mp h2 with e2 | m2
      · rw [← e1] at e2; cases e2; rfl
      · exact absurd (List.mem_map.mpr ⟨(i, v), m2, by rw [← e1]⟩) nd.1
    · rcases List.mem_cons.mp h2 with e2 | m2
      · exact absurd (List.mem_map.mpr ⟨(i, u), m1, by rw [← e2]⟩) nd.1
      · exact nodup_val nd.2 m1 m2
open Classical in
theorem take_fn {vs : List V} {Q : VK} {E : XK} (q : spNat K natTake 2 vs H Q E) : spOf K (callN Td 2) 1 2 vs H Q E := by
  obtain ⟨hl, ρ, s, ds, k, S, R, hc, A⟩ := q
  obtain ⟨ai, m, rfl, mo, h0, h1, hk⟩ := natTake_some hc
  obtain ⟨b, eb, c, ns, i, n, kk, e1, e2, nc, l1, l2⟩ := S.ob ai _ mo
  have ebc : b ≠ c := fun z => nc (z ▸ at_mem eb)
  let P : D → Sto → Prop := fun d s' => ∃ d' j m' kk', d' < m ∧ j ≤ ns.length ∧ d = .int (.ofNat d') ∧ s' = drs ns j m' kk'
  let k2 : KD := fun d s' => decide (P d s')
  have S2 : RS K [b, c] (drs ns i n kk) H := by
    refine ⟨rfl, by simp [ebc], fun a m => ?_, by show [0, 1].Nodup; decide, fun j o m => ?_⟩
    · rcases List.mem_cons.mp m with z | z
      · rw [z, e1]; simp
      · rw [List.mem_singleton.mp z, e2]; simp
    · rcases List.mem_cons.mp m with z | z
      · cases z
        exact ⟨b, rfl, _, e1, .cons (by unfold RD; exact ⟨c, rfl, rfl⟩) (.cons rd_int (.cons rd_int (.cons rd_int (.cons rd_int .nil)))), by show 5 ≤ 1000000; decide⟩
      · cases List.mem_singleton.mp z
        exact ⟨c, rfl, _, e2, rds_ints, by rw [List.length_map]; omega⟩
  unfold RDs at R
  obtain ⟨v, r, rfl, rv, R⟩ := R
  unfold RD at rv
  obtain ⟨b', rfl, eb'⟩ := rv
  rw [eb] at eb'
  cases eb'
  refine ⟨hl, [b, c], drs ns i n kk, [.ref 0, .int (.ofNat m)], k2, S2, .cons (by unfold RD; exact ⟨b, rfl, rfl⟩) ?_, take_ok h0 (by omega) l2 fun d j m' kk' hd hj => decide_eq_true ⟨d, j, m', kk', hd, hj, rfl, rfl⟩, ?_⟩
  · unfold RDs at R ⊢
    obtain ⟨v, r, rfl, rv, R⟩ := R
    exact ⟨v, r, rfl, rv, R⟩
  intro d s' v ρ' H' E1 S1 R1 h2
  obtain ⟨d', j, m', kk', hd, hj, rfl, rfl⟩ := of_decide_eq_true h2
  have eρ : ρ' = [b, c] := by
    have h3 : 2 = ρ'.length := S1.n
    obtain ⟨t, e⟩ := E1.pre
    rw [← e, List.length_append] at h3
    have : t = [] := by simpa using h3
    rw [← e, this]; rfl
  subst eρ
  obtain ⟨b', z1, vs1, z2, z3, z4⟩ := S1.ob 0 _ List.mem_cons_self
  cases z1
  obtain ⟨c', y1, vs2, y2, y3, y4⟩ := S1.ob 1 _ (List.mem_cons_of_mem _ List.mem_cons_self)
  cases y1
  have y5 := rds_ints_eq y3
  subst y5
  have ez : vs1 = [.ref c, .int (.ofNat j), .int m', .int kk', .int 20] := by
    unfold RDs at z3
    obtain ⟨x1, t1, rfl, w1, z3⟩ := z3
    unfold RD at w1
    obtain ⟨c', rfl, w1⟩ := w1
    cases w1
    unfold RDs at z3
    obtain ⟨x2, t2, rfl, w2, z3⟩ := z3
    unfold RDs at z3
    obtain ⟨x3, t3, rfl, w3, z3⟩ := z3
    unfold RDs at z3
    obtain ⟨x4, t4, rfl, w4, z3⟩ := z3
    unfold RDs at z3
    obtain ⟨x5, t5, rfl, w5, z3⟩ := z3
    unfold RDs at z3
    rw [w2.int, w3.int, w4.int, w5.int, z3]
  subst ez
  have fr : ∀ (a : Addr) (o : HO), H a = some o → a ≠ b → H' a = some o := fun a o h ne => by
    by_cases ec : a = c
    · subst ec
      rw [e2] at h
      cases h
      exact y2
    · refine E1.fr a o h fun x u mx => ?_
      rcases List.mem_cons.mp mx with z | z
      · cases z
        intro q
        exact ne (Option.some.inj q).symm
      · cases List.mem_singleton.mp z
        intro q
        exact ec (Option.some.inj q).symm
  have E0 : Ext s ρ H s ρ H' := ⟨List.prefix_refl _, fun a o h hn => fr a o h fun z => hn ai _ mo (by rw [z]; exact eb), fun x u mx => .inl ⟨u, mx⟩, fun a ma => .inl ma⟩
  refine A _ s v ρ H' E0 ⟨S.n, S.nd, fun a ma => ?_, S.kd, fun x u mx => ?_⟩ ?_ (hk d' hd)
  · by_cases ea : a = b
    · rw [ea, z2]; simp
    · cases e3 : H a with
      | none => exact absurd e3 (S.tr a ma)
      | some o => rw [fr a o e3 ea]; simp
  · obtain ⟨a, ea, r⟩ := S.ob x u mx
    refine ⟨a, ea, ?_⟩
    by_cases eab : a = b
    · subst eab
      have := at_inj S.nd ea eb
      subst this
      have hu : u = O.drw := by
        have h3 := S.kd
        exact nodup_val h3 mx mo
      subst hu
      rw [z2]
      exact ⟨c, ns, j, m', kk', rfl, y2, nc, l1, hj⟩
    · obtain ⟨o, eo, _⟩ := r.own
      rw [fr a o eo eab, ← eo]
      exact r.map (fun _ _ q => E0.sqT S q) (fun _ _ q => q) fun y xs ny h => ⟨fr y _ h fun z => ny (by rw [z]; exact at_mem eb), ny⟩
  · unfold RD at R1 ⊢
    exact R1
end
end
end Zev

set_option Elab.async false
set_option linter.all false
set_option maxRecDepth 100000
/-! Zev18: _law_start, by hand: the script is copied. -/
namespace Zev
open PySem PySem.Spec PyProof.Rows L2
noncomputable section
def i_c4 : Es := .cons (.cst (.int (0))) (.cons (.cst (.int (0))) (.cons (.cst (.int (0))) (.cons (.cst (.int (20))) .nil)))
def chkStart (G : Gb) (sc : Sc) : List Stmt → Bool
  | [.Return (some (.List (.ListComp y [⟨tg, .Subscript (.Name x _) (.Slice none (some (.Constant (.int n) _ _)) none _) _, [], 0⟩] scope _ :: xs) _)) _] =>
    decide (n = 63) && decide (sc.N[0]? = some x) && visB sc x && nameOk x && blkC sc.N (scOf sc) scope (ownOf sc [1]) && chkT G (subSc sc scope) (.nm 1) tg && chkE G (subSc sc scope) (.bi .int (.var 1)) y && chkEs G sc i_c4 xs
  | _ => false
section
variable {G : Gb} {R : Rec} {sc : Sc} {X : Cx} {K : PySem.W.Frag}
def dsOf (ns : List Int) : List D := (ns.take 63).map D.int
theorem slice_imp {a : Addr} {ns : List Int} : ∀ (σ : LSt) (H : Hp) (Q : VK), σ[0]? = some (some (.ref a)) → SqL K H a (ns.map V.int) → tev K (fun _ s k => newL (dsOf ns) s k) σ H Q → L2.tSl (rSlZ K) (tVar 0) tNoPart (tPart (tC (.int 63))) σ H Q := fun σ H Q c1 c2 ⟨ρ, s, σd, k, S, L, h, A⟩ => by
  refine ⟨_, c1, 63, rfl, .inl ⟨a, _, rfl, c2, fun p hp => ?_⟩⟩
  have e : cutV (ns.map V.int) none (some 63) = (ns.take 63).map V.int := by
    unfold cutV
    rw [HT.sIx_none, show (some (63 : Int)) = some ((63 : Nat) : Int) from rfl, HT.sIx_nat, List.drop_zero, List.length_map, Nat.sub_zero, ← List.map_take]
    congr 1
    rw [List.take_eq_take_iff]
    omega
  rw [e]
  exact A.lst S rds_ints (by rw [List.length_map, List.length_take]; omega) h hp
theorem start_pss (C : Cok G R sc X) {body : List Stmt} (h : chkStart G sc body = true) (a : Addr) (ns : List Int) :
    PSs X body (fun D σ H => σ[0]? = some (some (.ref a)) ∧ SqL X.K H a (ns.map V.int) ∧ tevS X.K (sRet (cLst (cCons (cComp [1] (gNm 1) (iSeq fun _ _ s k => newL (dsOf ns) s k) none (cBi .int (cVar 1))) (denEs i_c4))) R) D σ H) := by
  unfold chkStart at h
  split at h <;> first | contradiction | skip
  rename_i y tg x p1 n k0 p2 p3 p4 scope p5 xs p6 p7
  simp only [Bool.and_eq_true] at h
  obtain ⟨⟨⟨⟨⟨⟨⟨h0, h1⟩, h2⟩, h3⟩, h4⟩, h5⟩, h6⟩, h7⟩ := h
  have h0 := of_decide_eq_true h0
  subst h0
  have nk := name_ok h3
  have bk := blkOk_by h4
  have ok : BlkOk X.N X.env.scope scope (ownOf sc [1]) := by rw [C.N]; exact blk_conv bk C.nm
  have hsl : PE X (.Subscript (.Name x p1) (.Slice none (some (.Constant (.int 63) k0 p2)) none p3) p4) (L2.tSl (rSlZ X.K) (tVar 0) tNoPart (tPart (tC (.int 63)))) :=
    pe_slice sl_rule (pe_var (C.slot h1) (C.vis h2) nk.1 nk.2.1) po_none (po_some pe_int)
  have hlc := pe_lc (pos := p5) (own := ownOf sc [1]) C.cm C.nd (pi_seqZ (tg := tg) hsl) ok (g := tevG X.K [1] (denT (.nm 1) R)) (tt := tYes) (te := tev X.K (den (.bi .int (.var 1)) R)) (fun s H a cl fp => sT (.nm 1) [1] (fun i m => m) (C.blk bk.kind s H a cl fp) h5) (fun _ _ _ _ _ => pts_nil) (fun s H a cl fp => (sE (.bi .int (.var 1)) (C.blk bk.kind s H a cl fp) h6).1) (fun v => by rfl)
  have hA := sEs i_c4 C h7
  rw [own_map] at hlc
  have hP : PE X (.ListComp y [⟨tg, .Subscript (.Name x p1) (.Slice none (some (.Constant (.int 63) k0 p2)) none p3) p4, [], 0⟩] scope p5) (fun σ H Q => σ[0]? = some (some (.ref a)) ∧ SqL X.K H a (ns.map V.int) ∧ tev X.K (cComp [1] (gNm 1) (iSeq fun _ _ s k => newL (dsOf ns) s k) none (cBi .int (cVar 1)) R) σ H Q) :=
    PE.imp hlc fun σ H Q ⟨c1, c2, q⟩ => by
      have q2 := comp_imp (K := X.K) (R := R) (it := iSeq (fun _ _ s k => newL (dsOf ns) s k) R) (own := [1]) (t := gNm 1) (c := none) (e := cBi .int (cVar 1)) (tt := tYes) (.inl ⟨rfl, rfl⟩) σ H Q q
      exact slice_imp σ H _ c1 c2 (iseq_imp (K := X.K) (c := fun _ s k => newL (dsOf ns) s k) σ H _ q2)
  have hL : xs.length ≤ 1000 := by
    have e := h7
    unfold i_c4 at e
    match xs, e with
    | [_, _, _, _], _ => show 4 ≤ 1000; decide
    | [], e => unfold chkEs at e; cases e
    | [_], e => unfold chkEs at e; simp only [Bool.and_eq_true] at e; have e := e.2; unfold chkEs at e; cases e
    | [_, _], e => unfold chkEs at e; simp only [Bool.and_eq_true] at e; have e := e.2; unfold chkEs at e; simp only [Bool.and_eq_true] at e; have e := e.2; unfold chkEs at e; cases e
    | [_, _, _], e => unfold chkEs at e; simp only [Bool.and_eq_true] at e; have e := e.2; unfold chkEs at e; simp only [Bool.and_eq_true] at e; have e := e.2; unfold chkEs at e; simp only [Bool.and_eq_true] at e; have e := e.2; unfold chkEs at e; cases e
    | _ :: _ :: _ :: _ :: _ :: _, e => unfold chkEs at e; simp only [Bool.and_eq_true] at e; have e := e.2; unfold chkEs at e; simp only [Bool.and_eq_true] at e; have e := e.2; unfold chkEs at e; simp only [Bool.and_eq_true] at e; have e := e.2; unfold chkEs at e; simp only [Bool.and_eq_true] at e; have e := e.2; unfold chkEs at e; cases e
  refine PSs.imp (pss_one (ps_ret (pe_lst (pa_cons hP hA rfl)))) fun D σ H ⟨c1, c2, q⟩ => ?_
  have q1 := ret_imp D σ H q
  have q2 := lst_imp (n := xs.length + 1) (by omega) σ H D.rt q1
  have q3 := cons_imp (K := X.K) σ H _ q2
  exact ⟨c1, c2, q3⟩
end
/-! ### what it means -/
def sl0 (ds : List D) (r : List (Nat × O)) (n : Nat) : Sto := ⟨n, (0, .lst ds) :: r⟩
theorem compL_ok {R : Rec} {σ : Loc} {s : Sto} {k : List D → Sto → Bool} {is : List Int} (hσ : 1 < σ.length) (hs : s.l = [(0, .lst (is.map D.int))]) : ∀ (m i : Nat) (acc : List D), is.length < m + i → i ≤ is.length → acc = ((is.take i).map D.int).reverse → k ((is.map D.int).reverse) s = true →
    compL (wLst 0) (gNm 1) none (cBi .int (cVar 1)) R σ k m i acc s = true
  | 0, i, acc, h1, h2, e, h => by omega
  | m + 1, i, acc, h1, h2, e, h => by
    show wLst 0 i s (fun s1 => k acc s1) (fun x s1 => getK (setN σ 1 (some x)) 1 fun y => bi1 .int y s1 fun z s2 => compL (wLst 0) (gNm 1) none (cBi .int (cVar 1)) R σ k m (Nat.succ i) (z :: acc) s2) = true
    show lookK s.l 0 (fun o => onL o fun xs => @Bool.rec (fun _ => Bool) (k acc s) (nthK xs i fun x => getK (setN σ 1 (some x)) 1 fun y => bi1 .int y s fun z s2 => compL (wLst 0) (gNm 1) none (cBi .int (cVar 1)) R σ k m (Nat.succ i) (z :: acc) s2) (Nat.blt i (lenN xs))) = true
    rw [hs]
    show @Bool.rec (fun _ => Bool) (k acc s) (nthK (is.map D.int) i fun x => getK (setN σ 1 (some x)) 1 fun y => bi1 .int y s fun z s2 => compL (wLst 0) (gNm 1) none (cBi .int (cVar 1)) R σ k m (Nat.succ i) (z :: acc) s2) (Nat.blt i (lenN (is.map D.int))) = true
    refine brI (fun c => ?_) fun c => ?_
    · have e2 : i = is.length := by
        rw [lenN_eq, List.length_map] at c
        by_cases hl : i < is.length
        · rw [show Nat.blt i is.length = true from Nat.ble_eq_true_of_le hl] at c
          cases c
        · omega
      rw [e, e2, List.take_length]
      exact h
    · have hl : i < is.length := by
        rw [lenN_eq, List.length_map] at c
        exact Nat.le_of_ble_eq_true c
      refine nthK_at (d := .int is[i]) (by rw [List.getElem?_map, List.getElem?_eq_getElem hl]; rfl) ?_
      match σ, hσ with
      | _ :: _ :: σ, hσ =>
        show compL (wLst 0) (gNm 1) none (cBi .int (cVar 1)) R _ k m (Nat.succ i) (.int is[i] :: acc) s = true
        refine compL_ok hσ hs m (i + 1) _ (by omega) hl ?_ h
        rw [e, List.take_succ_eq_append_getElem hl, List.map_append, List.reverse_append]
        rfl
/-- the promise of _law_start -/
def spStart (K : PySem.W.Frag) : Sp := fun vs H Q _ => ∃ (a : Addr) (ns : List Int), vs = [.ref a] ∧ SqL K H a (ns.map V.int) ∧ ∀ (c : Addr) (H' : Hp), Ext ⟨0, []⟩ [] H ⟨1, [(0, .drw)]⟩ [c] H' → RS K [c] ⟨1, [(0, .drw)]⟩ H' → Q (.ref c) H'
theorem rs_nil {K : PySem.W.Frag} {H : Hp} : RS K [] ⟨0, []⟩ H := ⟨rfl, List.nodup_nil, (fun a m => by cases m), List.nodup_nil, (fun i o m => by cases m)⟩
theorem meaning_start {R : Rec} {ns : List Int} {k : Ks} {σ : Loc} (hσ : 1 < σ.length) (h : k.rt (.ref 2) ⟨3, [(2, .lst [.ref 1, .int 0, .int 0, .int 0, .int 20]), (1, .lst (dsOf ns)), (0, .lst (dsOf ns))]⟩ = true) :
    sRet (cLst (cCons (cComp [1] (gNm 1) (iSeq fun _ _ s k => newL (dsOf ns) s k) none (cBi .int (cVar 1))) (denEs i_c4))) R σ ⟨0, []⟩ k = true := by
  obtain ⟨m, hm⟩ : ∃ m, m = 90000 := ⟨_, rfl⟩
  unfold sRet cLst cCons cComp
  rw [← hm]
  show compL (wLst 0) (gNm 1) none (cBi .int (cVar 1)) R (wipeD σ [1]) (fun acc s2 => k.rt (.ref s2.n) ⟨Nat.succ s2.n, (s2.n, .lst [.ref 1, .int 0, .int 0, .int 0, .int 20]) :: (1, .lst (revA acc [])) :: s2.l⟩) m 0 [] ⟨2, [(0, .lst (dsOf ns))]⟩ = true
  refine compL_ok (is := ns.take 63) (by rw [wipeD_len]; exact hσ) rfl m 0 [] (by rw [List.length_take, hm]; omega) (Nat.zero_le _) rfl ?_
  rw [revA_eq, List.reverse_reverse, List.append_nil]
  exact h
open Classical in
theorem start_run {K : PySem.W.Frag} {R : Rec} {H : Hp} {Q : VK} {ns : List Int} {σ : LSt} {σd : Loc} (hσ : 1 < σd.length) (L : RL K [] H σd σ)
    (hQ : ∀ (c : Addr) (H' : Hp), Ext ⟨0, []⟩ [] H ⟨1, [(0, .drw)]⟩ [c] H' → RS K [c] ⟨1, [(0, .drw)]⟩ H' → Q (.ref c) H') (D : Ends) (hD : D.rt = Q) :
    tevS K (sRet (cLst (cCons (cComp [1] (gNm 1) (iSeq fun _ _ s k => newL (dsOf ns) s k) none (cBi .int (cVar 1))) (denEs i_c4))) R) D σ H := by
  let st : Sto := ⟨3, [(2, .lst [.ref 1, .int 0, .int 0, .int 0, .int 20]), (1, .lst (dsOf ns)), (0, .lst (dsOf ns))]⟩
  refine ⟨[], ⟨0, []⟩, σd, ⟨fun _ _ => false, fun d s => decide (d = .ref 2 ∧ s = st), fun _ _ => false, fun _ _ => false⟩, rs_nil, L, meaning_start hσ (decide_eq_true ⟨rfl, rfl⟩), ?_⟩
  refine ⟨(fun _ _ _ _ _ _ _ _ q => by cases q), ?_, (fun _ _ _ _ _ _ _ _ q => by cases q), (fun _ _ _ _ _ _ _ _ q => by cases q)⟩
  intro d s' v ρ' H' E1 S1 R1 q
  obtain ⟨rfl, rfl⟩ := of_decide_eq_true q
  rw [hD]
  unfold RD at R1
  obtain ⟨c, rfl, ec⟩ := R1
  obtain ⟨c', z1, vs1, z2, z3, z4⟩ := S1.ob 2 _ List.mem_cons_self
  rw [ec] at z1
  cases z1
  obtain ⟨b, y1, vs2, y2, y3, y4⟩ := S1.ob 1 _ (List.mem_cons_of_mem _ List.mem_cons_self)
  have y5 := rds_ints_eq y3
  subst y5
  have ez : vs1 = [.ref b, .int 0, .int 0, .int 0, .int 20] := by
    unfold RDs at z3
    obtain ⟨x1, t1, rfl, w1, z3⟩ := z3
    unfold RD at w1
    obtain ⟨b', rfl, w1⟩ := w1
    rw [y1] at w1
    cases w1
    unfold RDs at z3
    obtain ⟨x2, t2, rfl, w2, z3⟩ := z3
    unfold RDs at z3
    obtain ⟨x3, t3, rfl, w3, z3⟩ := z3
    unfold RDs at z3
    obtain ⟨x4, t4, rfl, w4, z3⟩ := z3
    unfold RDs at z3
    obtain ⟨x5, t5, rfl, w5, z3⟩ := z3
    unfold RDs at z3
    rw [w2.int, w3.int, w4.int, w5.int, z3]
  subst ez
  have nbc : b ≠ c := fun z => by
    subst z
    have := at_inj S1.nd y1 ec
    omega
  refine hQ c H' ⟨List.nil_prefix, fun a o h _ => E1.fr a o h (fun i u m => by cases m), fun i o m => .inr (Nat.zero_le _), fun a m => ?_⟩ ⟨rfl, by simp, fun a m => ?_, by simp, fun i o m => ?_⟩
  · rw [List.mem_singleton.mp m]
    exact E1.fs c (at_mem ec)
  · rw [List.mem_singleton.mp m, z2]; simp
  · cases List.mem_singleton.mp m
    refine ⟨c, rfl, b, ns.take 63, 0, 0, 0, z2, y2, ?_, ?_, Nat.zero_le _⟩
    · simp [nbc]
    · rw [List.length_take]; omega
section
variable {P : Program} {w : World} {K : PySem.W.Frag} {mg : Str → Option Value} {base : Heap}
/-- _law_start keeps its promise -/
theorem start_fn {G : Gb} (g1 : G.consts = []) (g2 : G.funs = []) (g3 : G.cls = []) (fr : ∀ x, freeB G x = true → mg x = none) {r : RowD} {fa : Addr} {fd : FuncData} (ck : chkStart G r.sc (defBody r.st) = true) (fsc : FnScope r.N r.ps (defScope r.st)) (np : r.np = 1) (len : r.N.length = 2)
    (F : FunD K r.name r.name (defArgs r.st) (defBody r.st) (defScope r.st) [] [] fa fd) : FnOk P w K mg base CX0 5 fa fd r.ps (spStart K) := by
  have pl : r.ps.length = 1 := by unfold RowD.ps; rw [List.length_take, len, np]; rfl
  refine F.ok fsc (fun vs H Q E q => ?_) fun cdv A outer s H vs Q E hr q => ?_
  · obtain ⟨a, ns, rfl, _⟩ := q
    exact pl.symm
  · obtain ⟨a, ns, rfl, hs, hQ⟩ := q
    refine ⟨_, PSs.nox (start_pss (G := G) (R := callN [] 0) (sc := r.sc) ?_ ck a ns), ?_⟩
    · refine ⟨rfl, fsc.nd, rfl, fsc.kind, rfl, rfl, ?_, fun _ _ => rfl, fun x d h => ?_, fun x f m hf => ?_, fr, fun _ => ⟨rfl, rfl⟩, fun x h => ?_⟩
      · have := hr.un
        show (A.deeper _).units + 64 < cLine
        omega
      · unfold glbB at h
        rw [g1] at h
        cases h
      · unfold funB at hf
        rw [g2] at hf
        cases of_decide_eq_true hf
      · unfold clsB at h
        rw [g3] at h
        cases of_decide_eq_true h
    · rw [start_eq (np := 1) (nl := 1) (by rw [len]) rfl]
      refine ⟨rfl, hs, start_run (σd := [none, none]) (by decide) ⟨by simp, fun i d e => ?_⟩ hQ _ rfl⟩
      match i, e with
      | 0, e => cases e
      | 1, e => cases e
      | _ + 2, e => cases e
end
end
end Zev

set_option Elab.async false
set_option linter.all false
set_option maxRecDepth 100000
/-! Zev19: a law: c = _law_start(script), and the rest by its meaning. -/
namespace Zev
open PySem PySem.Spec PyProof.Rows L2
noncomputable section
def chkLaw (G : Gb) (sc : Sc) (fs : Str) (ir : Ss) : List Stmt → Bool
  | .Assign [.Name c _] (.Call (.Name f _) [.Name x _] [] _) _ :: rest =>
    decide (sc.N[0]? = some x) && visB sc x && nameOk x && decide (sc.N[1]? = some c) && locB sc c && decide (f = fs) && glB sc f && nameOk f && chkSs G sc ir rest
  | _ => false
/-- the law answers True -/
def kTrue : D → Bool := fun d => D.casesOn (motive_1 := fun _ => Bool) d false (fun b => b) (fun _ => false) (fun _ => false) (fun _ => false) (fun _ => false)
def ksTrue : Ks := ⟨fun _ _ => false, fun d _ => kTrue d, fun _ _ => false, fun _ _ => false⟩
theorem kTrue_some {d : D} (h : kTrue d = true) : d = .bl true := by
  cases d <;> first | (cases h; done) | skip
  rename_i b
  have h : b = true := h
  rw [h]
def spLaw (K : PySem.W.Frag) : Sp := fun vs H Q _ => ∃ (a : Addr) (ns : List Int), vs = [.ref a] ∧ SqL K H a (ns.map V.int) ∧ ∀ H', Q (.bl true) H'
section
variable {P : Program} {w : World} {K : PySem.W.Frag} {mg : Str → Option Value} {base : Heap}
theorem law_fn {G : Gb} {T : List FD} {c0 : Nat} (W : Wd P w K mg base G T c0) {fs : Str} {fa fb : Addr} {fd fdb : FuncData} {r : RowD} {ps : List Str} {n : Nat} (hc0 : 5 ≤ n + c0)
    (Fs : FnOk P w K mg base CX0 5 fb fdb ps (spStart K)) (gs : mg fs = some (.ref fb)) (ks : PySem.W.keepIn K (.ref fb) = true) (bs : L2.Binds K fdb ps [])
    (ck : chkLaw G r.sc fs r.ir (defBody r.st) = true) (fsc : FnScope r.N r.ps (defScope r.st)) (np : r.np = 1) (len : r.N.length = r.nl + 2) (F : FunD K r.name r.name (defArgs r.st) (defBody r.st) (defScope r.st) [] [] fa fd)
    (run : denSs r.ir (callN T n) (none :: some (.ref 0) :: List.replicate r.nl none) ⟨1, [(0, .drw)]⟩ ksTrue = true) : FnOk P w K mg base CX0 (n + c0 + 1) fa fd r.ps (spLaw K) := by
  have pl : r.ps.length = 1 := by unfold RowD.ps; rw [List.length_take, len, np]; omega
  refine F.ok fsc (fun vs H Q E q => ?_) fun cdv A outer s H vs Q E hr q => ?_
  · obtain ⟨a, ns, rfl, _⟩ := q
    exact pl.symm
  · obtain ⟨a, ns, rfl, hs, hQ⟩ := q
    have C : Cok G (callN T n) r.sc (cxOf CX0 P w K mg base r.N r.name (defScope r.st) fa cdv A outer s H E).nox := by
      refine ⟨rfl, fsc.nd, rfl, fsc.kind, rfl, rfl, ?_, fun _ _ => rfl, W.cs, fun x f m hf => ?_, W.fr, fun _ => ⟨rfl, rfl⟩, W.cl⟩
      · have := hr.un
        show (A.deeper _).units + 64 < cLine
        omega
      · obtain ⟨fa, fd, ps, e1, F, e2, e3⟩ := level W n x f m hf
        exact ⟨fa, fd, ps, n + c0, e1, F, e2, e3, hr⟩
    have ck := ck
    unfold chkLaw at ck
    split at ck <;> first | contradiction | skip
    rename_i body c pc f pf x px pcall pa rest heq
    simp only [Bool.and_eq_true] at ck
    obtain ⟨⟨⟨⟨⟨⟨⟨⟨h1, h2⟩, h3⟩, h4⟩, h5⟩, h6⟩, h7⟩, h8⟩, h9⟩ := ck
    have h6 := of_decide_eq_true h6
    subst h6
    have nk := name_ok h3
    have nf := name_ok h8
    rw [heq]
    refine ⟨_, PSs.nox (pss_cons (ps_set C.nd (C.slot h4) (C.loc h5).1 (pe_call (Fs.mono (k := n + c0) hc0) hr (C.gl h7) gs ks bs .nil pass0 (pa_cons (pe_var (C.slot h1) (C.vis h2) nk.1 nk.2.1) pa_nil) nf.1 rfl rfl) rfl (C.loc h5).2) (sSs r.ir C h9)), ?_⟩
    rw [start_eq (np := 1) (nl := r.nl + 1) (by rw [len]; omega) rfl]
    refine ⟨_, rfl, a, ns, rfl, hs, fun b H' E1 S1 => ?_⟩
    refine ⟨[b], ⟨1, [(0, .drw)]⟩, none :: some (.ref 0) :: List.replicate r.nl none, ksTrue, S1, ⟨by simp, fun i d e => ?_⟩, run, ?_⟩
    · match i, e with
      | 0, e => cases e
      | 1, e =>
        cases e
        exact ⟨.ref b, rfl, by unfold RD; exact ⟨b, rfl, rfl⟩⟩
      | i + 2, e =>
        have e : (List.replicate r.nl (none : Option D))[i]? = some (some d) := e
        obtain ⟨hi, e2⟩ := List.getElem?_eq_some_iff.mp e
        rw [List.getElem_replicate] at e2
        cases e2
    · refine ⟨(fun _ _ _ _ _ _ _ _ q => by cases q), fun d s' v ρ' H' E2 S2 R2 q => ?_, (fun _ _ _ _ _ _ _ _ q => by cases q), (fun _ _ _ _ _ _ _ _ q => by cases q)⟩
      have e := kTrue_some q
      subst e
      have e := R2.bl
      subst e
      exact hQ H'
end
end
end Zev

set_option Elab.async false
set_option linter.all false
set_option maxRecDepth 100000
/-! Zev20: what a head tells, and what is known of a module by it. -/
namespace Zev
open PySem PySem.Spec PyProof.Rows L2
/-! ### tuples among the module's names -/
abbrev TupF : Type := Str × List He.Dv
def tupOk (ts : List TupF) (K : PySem.W.Frag) : Bool := ts.all fun t => He.tupB K t.1 t.2
abbrev AlX : Type := He.AlD × Bool
def obsX (fa : List He.Fa) (fn : List He.DefD) (ts : List TupF) (K : PySem.W.Frag) : AlX := (He.obsD fa fn K, tupOk ts K)
def obsXG (n : Nat) (fa : List He.Fa) (fn : List He.DefD) (ts : List TupF) (g : Addr → Option Obj) : AlX := obsX fa fn ts (He.frG g (He.asD g n))
def SaysX (fa : List He.Fa) (fn : List He.DefD) (ts : List TupF) (K : PySem.W.Frag) : Prop := obsX fa fn ts K = (He.valD fn, true)
def hookX (n : Nat) (fa : List He.Fa) (fn : List He.DefD) (ts : List TupF) : PySem.W.Hook where
  α := AlX
  obs := fun s => obsXG n fa fn ts s.heap.get?
  val := fun _ => (He.valD fn, true)
  says := fun _ h => ∃ K : PySem.W.Frag, K.In h ∧ SaysX fa fn ts K
  of := fun _ _ e => ⟨_, He.frG_in, e⟩
  keeps := fun _ _ _ ⟨K, hK, c⟩ k => ⟨K, PySem.W.Frag.In.keeps hK k, c⟩
theorem obsXG_eq {n : Nat} {fa : List He.Fa} {fn : List He.DefD} {ts : List TupF} {g : Addr → Option Obj} {s : Shared} (h : ∀ a, g a = s.heap.get? a) : obsXG n fa fn ts g = (hookX n fa fn ts).obs s := by
  have e : g = s.heap.get? := funext h
  rw [e] <;> rfl
section
variable {fa : List He.Fa} {fn : List He.DefD} {ts : List TupF} {K : PySem.W.Frag}
theorem SaysX.d (c : SaysX fa fn ts K) : He.SaysD fa fn K := congrArg (fun z : AlX => z.1) c
theorem SaysX.tup (c : SaysX fa fn ts K) {t : TupF} (h : t ∈ ts) : He.tupB K t.1 t.2 = true := by
  have e : tupOk ts K = true := congrArg (fun z : AlX => z.2) c
  exact List.all_eq_true.mp e t h
theorem fact_mem (c : He.SaysD fa fn K) {f : He.Fa} (h : f ∈ fa) : f.ok K = true := by
  obtain ⟨i, hi⟩ := List.mem_iff_getElem?.mp h
  exact c.fact i hi
theorem def_mem (c : He.SaysD fa fn K) {d : He.DefD} (h : d ∈ fn) : ∃ fd, FunD K d.name d.qual d.params d.body d.scope (d.dvs K) (d.kws K) (He.fAd K d.at_) fd := by
  obtain ⟨i, hi⟩ := List.mem_iff_getElem?.mp h
  exact c.def_ i hi
end
/-! ### rows as the head sees them -/
def RowD.dd (r : RowD) : He.DefD := ⟨(r.nm, none), r.name, r.name, defArgs r.st, defBody r.st, defScope r.st, [], []⟩
def RowD.ent (r : RowD) : Str × Nat × Nat := (r.nm, (r.f, r.np))
/-- all of a list -/
def AllR {α : Type} (P : α → Prop) : List α → Prop
  | [] => True
  | r :: rs => P r ∧ AllR P rs
theorem AllR.mem {α : Type} {P : α → Prop} : ∀ {l : List α}, AllR P l → ∀ r ∈ l, P r
  | r :: rs, h, x, m => by
    rcases List.mem_cons.mp m with e | m
    · rw [e]; exact h.1
    · exact AllR.mem h.2 x m
/-- a constant of the module: an int, or a tuple of ints and of one-letter texts -/
inductive CstF where
  | int (x : Str) (i : Int)
  | tup (x : Str) (ds : List He.Dv)
def dvD : He.Dv → D
  | .int i => .int i
  | .str x => .str x.cps.toList
  | _ => .non
def CstF.ent : CstF → Str × D
  | .int x i => (x, .int i)
  | .tup x ds => (x, .tup (ds.map dvD))
def dvOk : He.Dv → Bool
  | .int _ => true
  | .str x => PyData.strOk x
  | _ => false
def CstF.ok : CstF → Bool
  | .int _ _ => true
  | .tup _ ds => ds.all dvOk
def CstF.fa : CstF → He.Fa
  | .int x i => .int x i
  | .tup x _ => .glo x
def CstF.ts : CstF → List TupF
  | .int _ _ => []
  | .tup x ds => [(x, ds)]
theorem lookup_mem' {α β : Type} [BEq α] [LawfulBEq α] {l : List (α × β)} {x : α} {b : β} (h : l.lookup x = some b) : (x, b) ∈ l := by
  induction l with
  | nil => cases h
  | cons p l ih =>
    obtain ⟨a, c⟩ := p
    rw [List.lookup_cons] at h
    split at h
    · rename_i e
      have e := eq_of_beq e
      cases h
      rw [e]
      exact List.mem_cons_self
    · exact List.mem_cons_of_mem _ (ih h)
theorem beqD_eq : (∀ (a b : D), beqD a b = true → a = b) := by
  intro a
  refine D.rec (motive_1 := fun a => ∀ b, beqD a b = true → a = b) (motive_2 := fun a => ∀ b, beqDs a b = true → a = b) ?_ ?_ ?_ ?_ ?_ ?_ ?_ ?_ a
  · intro b h; cases b <;> first | rfl | (unfold beqD at h; cases h)
  · intro x b h; cases b <;> first | (unfold beqD at h; rw [eq_of_beq h]; done) | (unfold beqD at h; cases h)
  · intro x b h; cases b <;> first | (unfold beqD at h; rw [eq_of_beq h]; done) | (unfold beqD at h; cases h)
  · intro x b h; cases b <;> first | (unfold beqD at h; rw [eq_of_beq h]; done) | (unfold beqD at h; cases h)
  · intro x ih b h; cases b <;> first | (unfold beqD at h; rw [ih _ h]; done) | (unfold beqD at h; cases h)
  · intro x b h; cases b <;> first | (unfold beqD at h; rw [eq_of_beq h]; done) | (unfold beqD at h; cases h)
  · intro b h; cases b <;> first | rfl | (unfold beqDs at h; cases h)
  · intro x r ih1 ih2 b h
    cases b with
    | nil => unfold beqDs at h; cases h
    | cons y s =>
      unfold beqDs at h
      rw [Bool.and_eq_true] at h
      rw [ih1 _ h.1, ih2 _ h.2]
section
variable {P : Program} {w : World} {K : PySem.W.Frag} {mg : Str → Option Value} {base : Heap}
theorem rds_dv {ρ : List Addr} {H : Hp} : ∀ {ds : List He.Dv}, ds.all dvOk = true → RDs K ρ H (ds.map dvD) (ds.map (He.Dv.v K))
  | [], _ => .nil
  | d :: ds, h => by
    rw [List.all_cons, Bool.and_eq_true] at h
    refine .cons ?_ (rds_dv h.2)
    cases d with
    | int i => exact rd_int
    | str x => unfold dvD RD; exact ⟨x, rfl, rfl, h.1⟩
    | _ => exact absurd (show false = true from h.1) (by decide)
/-- THE WORLD of a table: G's lists out of the rows, the constants -/
theorem wd_of {h : Heap} {fa : List He.Fa} {fn : List He.DefD} {ts : List TupF} {G : Gb} {T : List FD} {c : Nat} {rows nats : List RowD} {csts : List CstF} (X : K.In h) (N : h.Ns mainGlobals mg) (s : SaysX fa fn ts K)
    (gc : G.consts = csts.map CstF.ent) (gf : G.funs = (rows ++ nats).map RowD.ent)
    (hfr : ∀ x ∈ G.free, He.Fa.free x ∈ fa) (hcl : ∀ x ∈ G.cls, He.Fa.glo x ∈ fa)
    (hc : AllR (fun q : CstF => q.ok = true ∧ q.fa ∈ fa ∧ ∀ t ∈ q.ts, t ∈ ts) csts)
    (hg : ∀ r ∈ rows ++ nats, He.Fa.glo r.nm ∈ fa) (hd : ∀ r ∈ rows ++ nats, r.dd ∈ fn)
    (ok : AllR (RowOk G T) rows)
    (hn : AllR (fun r : RowD => r.ps.length = r.np ∧ (∀ (kV doc pm : Value) (an : Option Addr) (cdv ct : Value) (us : List Value), us.length = r.ps.length → bindArgs (PySem.W.fnOf r.name r.name (defArgs r.st) (defBody r.st) (defScope r.st) .none kV doc pm an cdv ct) ⟨us, []⟩ = pure (r.ps.zip us)) ∧
      ∃ nf, T[r.f]? = some (.nat nf) ∧ ∀ fa fd, mg r.nm = some (.ref fa) → FunD K r.name r.name (defArgs r.st) (defBody r.st) (defScope r.st) [] [] fa fd → FnOk P w K mg base CX0 c fa fd r.ps (spNat K nf r.np)) nats) :
    Wd P w K mg base G T c := by
  have F : ∀ r ∈ rows ++ nats, ∃ fd, FunD K r.name r.name (defArgs r.st) (defBody r.st) (defScope r.st) [] [] (He.ga K r.nm) fd := fun r m => def_mem s.d (hd r m)
  have M : ∀ r ∈ rows ++ nats, mg r.nm = some (.ref (He.ga K r.nm)) := fun r m => He.glo_ok X N (fact_mem s.d (hg r m))
  refine ⟨fun x d e => ?_, fun x e => ?_, fun x e => ?_, fun x f n e => ?_⟩
  · unfold glbB at e
    split at e
    · rename_i d' e2
      have e3 := beqD_eq _ _ e
      subst e3
      rw [gc] at e2
      have m := lookup_mem' e2
      obtain ⟨q, mq, eq⟩ := List.mem_map.mp m
      obtain ⟨o1, o2, o3⟩ := hc.mem q mq
      cases q with
      | int y i =>
        cases eq
        obtain ⟨t, e4⟩ := He.int_ok X N (fact_mem s.d o2)
        exact ⟨.int i, _, e4, ⟨t, rfl⟩, fun _ _ => rd_int⟩
      | tup y ds =>
        cases eq
        refine ⟨.ref (He.ga K x), _, He.glo_ok X N (fact_mem s.d o2), rfl, fun ρ H => ?_⟩
        unfold RD
        exact ⟨_, _, rfl, He.tupB_ok (s.tup (o3 (x, ds) List.mem_cons_self)) H, rds_dv o1⟩
    · cases e
  · exact He.free_ok X N (fact_mem s.d (hfr x (of_decide_eq_true e)))
  · exact ⟨_, He.glo_ok X N (fact_mem s.d (hcl x (of_decide_eq_true e)))⟩
  · have e2 := of_decide_eq_true e
    rw [gf] at e2
    obtain ⟨r, mr, er⟩ := List.mem_map.mp (lookup_mem' e2)
    cases er
    obtain ⟨fd, Fd⟩ := F r mr
    have e3 := M r mr
    rcases List.mem_append.mp mr with m | m
    · have o := ok.mem r m
      exact ⟨_, fd, r.ps, e3, Fd.kp, FunD.bindsN Fd o.bind, o.plen, .inr ⟨r, rfl, rfl, rfl, o, Fd⟩⟩
    · obtain ⟨l, b, nf, t, hF⟩ := hn.mem r m
      exact ⟨_, fd, r.ps, e3, Fd.kp, FunD.bindsN Fd b, l, .inl ⟨nf, t, hF _ fd e3 Fd⟩⟩
end
end Zev

set_option Elab.async false
set_option linter.all false
set_option maxRecDepth 100000
/-! Zev21: fractions as functions of data: greatest divisors, sums, products. -/
namespace Zev
open PySem
noncomputable section
/-! ### the texts -/
def cGT : CB := cTstB (cOp2 (cop .ne) (cVar 1) (cCst (.int (0))))
def cGB : CS := sSeq (sPar2 0 1 (cVar 1) (cOp2 (bop .mod) (cVar 0) (cVar 1))) sPass
def cDivisor : CS := (sSeq (sAsg (gNm 0) (cBi .abs (cVar 0))) (sSeq (sAsg (gNm 1) (cBi .abs (cVar 1))) (sSeq (sWh cGT cGB) (sSeq (sRet (cVar 0)) sPass))))
def cFraction (fd : Nat) : CS := (sSeq (sAsg (gNm 2) (cCall fd 2 (cCons (cVar 0) (cCons (cVar 1) cNil)))) (sSeq (sIf (cTstB (cOp2 (cop .lt) (cVar 1) (cCst (.int (0))))) (sSeq (sAsg (gNm 2) (cNeg (cVar 2))) sPass) sPass) (sSeq (sRet (cTup (cCons (cOp2 (bop .fdiv) (cVar 0) (cVar 2)) (cCons (cOp2 (bop .fdiv) (cVar 1) (cVar 2)) cNil)))) sPass)))
def cPlusOf (o : BOp) (ff i j : Nat) : CE := (cCall ff 2 (cCons (cOp2 (bop o) (cOp2 (bop .mul) (cOp2 ixK (cVar i) (cCst (.int (0)))) (cOp2 ixK (cVar j) (cCst (.int (1))))) (cOp2 (bop .mul) (cOp2 ixK (cVar j) (cCst (.int (0)))) (cOp2 ixK (cVar i) (cCst (.int (1)))))) (cCons (cOp2 (bop .mul) (cOp2 ixK (cVar i) (cCst (.int (1)))) (cOp2 ixK (cVar j) (cCst (.int (1))))) cNil)))
def cTimesOf (ff i j : Nat) : CE := (cCall ff 2 (cCons (cOp2 (bop .mul) (cOp2 ixK (cVar i) (cCst (.int (0)))) (cOp2 ixK (cVar j) (cCst (.int (0))))) (cCons (cOp2 (bop .mul) (cOp2 ixK (cVar i) (cCst (.int (1)))) (cOp2 ixK (cVar j) (cCst (.int (1))))) cNil)))
def cPlus (o : BOp) (ff : Nat) : CS := (sSeq (sRet (cPlusOf o ff 0 1)) sPass)
def cTimes (ff : Nat) : CS := (sSeq (sRet (cTimesOf ff 0 1)) sPass)
def cIsD (n : Nat) : CB := cTstB (cOp2 (cop .eq) (cOp2 ixK (cVar 0) (cCst (.int (0)))) (cCst (.str [n])))
def cDom (a b : CS) (e : CE) (rest : CS) : CS := sSeq (sIf (cIsD 90) a sPass) (sSeq (sIf (cIsD 70) b sPass) (sSeq (sIf (cIsD 81) (sSeq (sRet e) sPass) sPass) rest))
/-! ### the functions -/
def on1 (xs : List D) (k : D → Bool) : Bool := @List.rec D (fun _ => Bool) false (fun x r _ => @List.rec D (fun _ => Bool) (k x) (fun _ _ _ => false) r) xs
def on2 (xs : List D) (k : D → D → Bool) : Bool := @List.rec D (fun _ => Bool) false (fun x r _ => on1 r (k x)) xs
def on3 (xs : List D) (k : D → D → D → Bool) : Bool := @List.rec D (fun _ => Bool) false (fun x r _ => on2 r (k x)) xs
theorem on1_some {xs : List D} {k : D → Bool} (h : on1 xs k = true) : ∃ x, xs = [x] ∧ k x = true := by
  match xs, h with
  | [x], h => exact ⟨x, rfl, h⟩
theorem on2_some {xs : List D} {k : D → D → Bool} (h : on2 xs k = true) : ∃ x y, xs = [x, y] ∧ k x y = true := by
  match xs, h with
  | x :: r, h => obtain ⟨y, e, h⟩ := on1_some (show on1 r (k x) = true from h); exact ⟨x, y, by rw [e], h⟩
theorem on3_some {xs : List D} {k : D → D → D → Bool} (h : on3 xs k = true) : ∃ x y z, xs = [x, y, z] ∧ k x y z = true := by
  match xs, h with
  | x :: r, h => obtain ⟨y, z, e, h⟩ := on2_some (show on2 r (k x) = true from h); exact ⟨x, y, z, by rw [e], h⟩
theorem ix0 {a b : D} {s : Sto} {k : KD} : ixK (.tup [a, b]) (.int 0) s k = k a s := rfl
theorem ix1 {a b : D} {s : Sto} {k : KD} : ixK (.tup [a, b]) (.int 1) s k = k b s := rfl
theorem bop_mul : bop .mul = opMul := rfl
/-- a fraction -/
def onF (x : D) (k : Int → Int → Bool) : Bool := onT x fun xs => on2 xs fun a b => onI a fun a => onI b fun b => k a b
theorem onF_some {x : D} {k : Int → Int → Bool} (h : onF x k = true) : ∃ a b, x = .tup [.int a, .int b] ∧ k a b = true := by
  obtain ⟨xs, e, h1⟩ := onT_some h
  obtain ⟨a, b, e2, h2⟩ := on2_some h1
  obtain ⟨a', e3, h3⟩ := onI_some h2
  obtain ⟨b', e4, h4⟩ := onI_some h3
  subst e; subst e2; subst e3; subst e4
  exact ⟨a', b', rfl, h4⟩
def gOk (g : Nat) (d : Int) : Bool := Nat.blt 0 g && Nat.blt g 1073741824 && Nat.blt (Int.natAbs d) 18446744073709551616
def frK (n d : Int) (s : Sto) (k : KD) : Bool :=
  (fun g : Nat => @Bool.rec (fun _ => Bool) false (k (.tup [.int (divI n (.ofNat g)), .int (divI d (.ofNat g))]) s) (gOk g d && ltI 0 d)) (Nat.gcd (Int.natAbs n) (Int.natAbs d))
def frN (n d : Int) (s : Sto) (k : KD) : Bool :=
  (fun g : Nat => @Bool.rec (fun _ => Bool) false (k (.tup [.int (divI n (Int.neg (.ofNat g))), .int (divI d (Int.neg (.ofNat g)))]) s) (gOk g d && ltI d 0)) (Nat.gcd (Int.natAbs n) (Int.natAbs d))
def frK2 (n d : Int) (s : Sto) (k : KD) : Bool := @Bool.rec (fun _ => Bool) (frN n d s k) (frK n d s k) (ltI 0 d)
def nFrac : List D → Sto → KD → Bool := fun ds s k => on2 ds fun n d => onI n fun n => onI d fun d => frK2 n d s k
def sm4 (a b c d : Int) : Bool := small64 a && small64 b && small64 c && small64 d
def plusK (f : Int → Int → Int) (x y : D) (s : Sto) (k : KD) : Bool := onF x fun a b => onF y fun c d => @Bool.rec (fun _ => Bool) false (frK (f (Int.mul a d) (Int.mul c b)) (Int.mul b d) s k) (sm4 a b c d)
def timesK (x y : D) (s : Sto) (k : KD) : Bool := onF x fun a b => onF y fun c d => @Bool.rec (fun _ => Bool) false (frK (Int.mul a c) (Int.mul b d) s k) (sm4 a b c d)
def nPlus : List D → Sto → KD → Bool := fun ds s k => on2 ds fun x y => plusK Int.add x y s k
def nMinus : List D → Sto → KD → Bool := fun ds s k => on2 ds fun x y => plusK Int.sub x y s k
def nTimes : List D → Sto → KD → Bool := fun ds s k => on2 ds fun x y => timesK x y s k
def isQ (x : D) : Bool := onT x fun xs => on1 xs fun q => D.casesOn (motive_1 := fun _ => Bool) q false (fun _ => false) (fun _ => false) (fun cs => eqL cs [81]) (fun _ => false) (fun _ => false)
theorem isQ_some {x : D} (h : isQ x = true) : x = .tup [.str [81]] := by
  obtain ⟨xs, e, h1⟩ := onT_some h
  obtain ⟨q, e2, h2⟩ := on1_some h1
  subst e; subst e2
  cases q <;> first | (cases h2; done) | skip
  rename_i cs
  have h3 : eqL cs [81] = true := h2
  rw [eqL_iff] at h3
  rw [of_decide_eq_true h3]
def nAdd : List D → Sto → KD → Bool := fun ds s k => on3 ds fun q x y => @Bool.rec (fun _ => Bool) false (plusK Int.add x y s k) (isQ q)
def nMul : List D → Sto → KD → Bool := fun ds s k => on3 ds fun q x y => @Bool.rec (fun _ => Bool) false (timesK x y s k) (isQ q)
theorem getK_at : ∀ {σ : Loc} {i : Nat} {k : D → Bool} {d : D}, σ[i]? = some (some d) → getK σ i k = k d
  | [], _, _, _, e => by cases e
  | o :: σ, 0, k, d, e => by cases e; rfl
  | o :: σ, i + 1, k, d, e => getK_at (σ := σ) (i := i) (k := k) (by simpa using e)
/-! ### the greatest divisor -/
section
variable {R : Rec} {k : Ks} {s : Sto}
def abL (a b : Nat) : Loc := [some (.int (.ofNat a)), some (.int (.ofNat b))]
theorem wh_step {m a b : Nat} (h0 : b = 0 → k.nx (abL a b) s = true) (h1 : 0 < b → whL cGT cGB R k m (abL b (a % b)) s = true) : whL cGT cGB R k (m + 1) (abL a b) s = true := by
  show @Bool.rec (fun _ => Bool) (k.nx (abL a b) s) (opMod (.int (.ofNat a)) (.int (.ofNat b)) s fun y s2 => whL cGT cGB R k m (setN (setN (abL a b) 0 (some (.int (.ofNat b)))) 1 (some y)) s2) (!eqI (.ofNat b) 0) = true
  cases b with
  | zero => exact h0 rfl
  | succ b => exact h1 (Nat.succ_pos _)
theorem half_lt {b r : Nat} (h0 : 0 < r) (h1 : r < b) : 2 * (b % r) < b := by
  by_cases c : 2 * r ≤ b
  · have := Nat.mod_lt b h0
    omega
  · have e : b % r = b - r := by
      rw [Nat.mod_eq_sub_mod (by omega), Nat.mod_eq_of_lt (by omega)]
    omega
theorem gcd_step (a b : Nat) : Nat.gcd b (a % b) = Nat.gcd a b := by
  rw [Nat.gcd_comm b, ← Nat.gcd_rec, Nat.gcd_comm]
theorem wh_gcd : ∀ (j m a b : Nat), b < 2 ^ j → 2 * j < m → k.nx (abL (Nat.gcd a b) 0) s = true → whL cGT cGB R k m (abL a b) s = true
  | 0, m + 1, a, b, hb, hm, h => by
    have e : b = 0 := by simpa using hb
    subst e
    exact wh_step (fun _ => by rw [Nat.gcd_zero_right] at h; exact h) fun z => absurd z (by omega)
  | j + 1, m + 2, a, b, hb, hm, h => by
    refine wh_step (fun z => ?_) fun z => wh_step (fun z2 => ?_) fun z2 => ?_
    · subst z
      rw [Nat.gcd_zero_right] at h
      exact h
    · rw [← gcd_step, z2, Nat.gcd_zero_right] at h
      rw [z2]
      exact h
    · have l1 := Nat.mod_lt a z
      have l2 := half_lt z2 l1
      refine wh_gcd j m (a % b) (b % (a % b)) (by rw [Nat.pow_succ] at hb; omega) (by omega) ?_
      rw [gcd_step, gcd_step]
      exact h
  | 0, 0, _, _, _, hm, _ => by omega
  | j + 1, 0, _, _, _, hm, _ => by omega
  | j + 1, 1, _, _, _, hm, _ => by omega
/-- divisor -/
theorem divisor_ok {a b : Int} (hb : Int.natAbs b < 2 ^ 64) (h : k.rt (.int (.ofNat (Nat.gcd (Int.natAbs a) (Int.natAbs b)))) s = true) : cDivisor R [some (.int a), some (.int b)] s k = true := by
  obtain ⟨m, hm⟩ : ∃ m, m = 90000 := ⟨_, rfl⟩
  unfold cDivisor sWh
  rw [← hm]
  show whL cGT cGB R _ m (abL (Int.natAbs a) (Int.natAbs b)) s = true
  exact wh_gcd 64 m _ _ hb (by omega) h
/-! ### fractions -/
def GcdOk (R : Rec) (f : Nat) : Prop := ∀ (a b : Int) (s : Sto) (k : KD), Int.natAbs b < 2 ^ 64 → k (.int (.ofNat (Nat.gcd (Int.natAbs a) (Int.natAbs b)))) s = true → R f [.int a, .int b] s k = true
theorem gOk_some {g : Nat} {d : Int} (h : gOk g d = true) : 0 < g ∧ g < 1073741824 ∧ Int.natAbs d < 2 ^ 64 := by
  unfold gOk at h
  rw [Bool.and_eq_true, Bool.and_eq_true] at h
  exact ⟨Nat.le_of_ble_eq_true h.1.1, Nat.le_of_ble_eq_true h.1.2, Nat.le_of_ble_eq_true h.2⟩
theorem div_ok {i : Int} {g : Nat} {s : Sto} {k : KD} (h0 : 0 < g) (h1 : g < 1073741824) (h : k (.int (divI i (.ofNat g))) s = true) : opDiv (.int i) (.int (.ofNat g)) s k = true := by
  refine brI (b := nz (.ofNat g) && Nat.blt g 1073741824) (fun z => ?_) fun _ => h
  rw [nz_many h0, show Nat.blt g 1073741824 = true from Nat.ble_eq_true_of_le h1] at z
  cases z
theorem divN_ok {i : Int} {g : Nat} {s : Sto} {k : KD} (h0 : 0 < g) (h1 : g < 1073741824) (h : k (.int (divI i (Int.neg (.ofNat g)))) s = true) : opDiv (.int i) (.int (Int.neg (.ofNat g))) s k = true := by
  refine brI (b := nz (Int.neg (.ofNat g)) && Nat.blt (Int.natAbs (Int.neg (.ofNat g))) 1073741824) (fun z => ?_) fun _ => h
  cases g with
  | zero => cases h0
  | succ g =>
    rw [show nz (Int.neg (.ofNat (g + 1))) = true from rfl, show Int.natAbs (Int.neg (.ofNat (g + 1))) = g + 1 from rfl, show Nat.blt (g + 1) 1073741824 = true from Nat.ble_eq_true_of_le h1] at z
    cases z
theorem fraction_ok {fd : Nat} (hR : GcdOk R fd) {n d : Int} (h : frK2 n d s k.rt = true) : cFraction fd R [some (.int n), some (.int d), none] s k = true := by
  rcases brec (show @Bool.rec (fun _ => Bool) (frN n d s k.rt) (frK n d s k.rt) (ltI 0 d) = true from h) with ⟨c, h⟩ | ⟨c, h⟩
  · obtain ⟨o, h⟩ := brecT (show @Bool.rec (fun _ => Bool) false (k.rt (.tup [.int (divI n (Int.neg (.ofNat (Nat.gcd (Int.natAbs n) (Int.natAbs d))))), .int (divI d (Int.neg (.ofNat (Nat.gcd (Int.natAbs n) (Int.natAbs d)))))]) s) (gOk (Nat.gcd (Int.natAbs n) (Int.natAbs d)) d && ltI d 0) = true from h)
    rw [Bool.and_eq_true] at o
    obtain ⟨g0, g1, g2⟩ := gOk_some o.1
    refine hR n d ⟨s.n, []⟩ _ g2 ?_
    refine brI (b := ltI d 0) (fun z => by rw [o.2] at z; cases z) fun _ => ?_
    show opDiv (.int n) (.int (Int.neg (.ofNat (Nat.gcd (Int.natAbs n) (Int.natAbs d))))) s (fun x s1 => opDiv (.int d) (.int (Int.neg (.ofNat (Nat.gcd (Int.natAbs n) (Int.natAbs d))))) s1 fun y s2 => k.rt (.tup [x, y]) s2) = true
    exact divN_ok g0 g1 (divN_ok g0 g1 h)
  · obtain ⟨o, h⟩ := brecT (show @Bool.rec (fun _ => Bool) false (k.rt (.tup [.int (divI n (.ofNat (Nat.gcd (Int.natAbs n) (Int.natAbs d)))), .int (divI d (.ofNat (Nat.gcd (Int.natAbs n) (Int.natAbs d))))]) s) (gOk (Nat.gcd (Int.natAbs n) (Int.natAbs d)) d && ltI 0 d) = true from h)
    rw [Bool.and_eq_true] at o
    obtain ⟨g0, g1, g2⟩ := gOk_some o.1
    refine hR n d ⟨s.n, []⟩ _ g2 ?_
    refine brI (b := ltI d 0) (fun _ => ?_) fun z => ?_
    · show opDiv (.int n) (.int (.ofNat (Nat.gcd (Int.natAbs n) (Int.natAbs d)))) s (fun x s1 => opDiv (.int d) (.int (.ofNat (Nat.gcd (Int.natAbs n) (Int.natAbs d)))) s1 fun y s2 => k.rt (.tup [x, y]) s2) = true
      exact div_ok g0 g1 (div_ok g0 g1 h)
    · rw [ltI_iff] at c z
      have c1 := of_decide_eq_true c
      have z1 := of_decide_eq_true z
      omega
/-- the same by the law's own text -/
def cFraction2 (fd : Nat) : CS := (sSeq (sAsg (gNm 2) (cCall fd 2 (cCons (cVar 0) (cCons (cVar 1) cNil)))) (sSeq (sAsg (gNm 2) (cIfe (cTstB (cOp2 (cop .gt) (cVar 1) (cCst (.int (0))))) (cVar 2) (cOp2 (bop .sub) (cCst (.int (0))) (cVar 2)))) (sSeq (sRet (cTup (cCons (cOp2 (bop .fdiv) (cVar 0) (cVar 2)) (cCons (cOp2 (bop .fdiv) (cVar 1) (cVar 2)) cNil)))) sPass)))
def GcdOk2 (R : Rec) (f : Nat) : Prop := ∀ (a b : Int) (s : Sto) (k : KD), 0 < b → Int.natAbs b < 2 ^ 64 → k (.int (.ofNat (Nat.gcd (Int.natAbs a) (Int.natAbs b)))) s = true → R f [.int a, .int b] s k = true
def nFrac2 : List D → Sto → KD → Bool := fun ds s k => on2 ds fun n d => onI n fun n => onI d fun d => frK n d s k
theorem frK_some {n d : Int} {kd : KD} (h : frK n d s kd = true) : 0 < Nat.gcd (Int.natAbs n) (Int.natAbs d) ∧ Nat.gcd (Int.natAbs n) (Int.natAbs d) < 1073741824 ∧ Int.natAbs d < 2 ^ 64 ∧ 0 < d ∧ kd (.tup [.int (divI n (.ofNat (Nat.gcd (Int.natAbs n) (Int.natAbs d)))), .int (divI d (.ofNat (Nat.gcd (Int.natAbs n) (Int.natAbs d))))]) s = true := by
  obtain ⟨o, h⟩ := brecT (show @Bool.rec (fun _ => Bool) false (kd (.tup [.int (divI n (.ofNat (Nat.gcd (Int.natAbs n) (Int.natAbs d)))), .int (divI d (.ofNat (Nat.gcd (Int.natAbs n) (Int.natAbs d))))]) s) (gOk (Nat.gcd (Int.natAbs n) (Int.natAbs d)) d && ltI 0 d) = true from h)
  rw [Bool.and_eq_true] at o
  obtain ⟨g0, g1, g2⟩ := gOk_some o.1
  have c := o.2
  rw [ltI_iff] at c
  exact ⟨g0, g1, g2, of_decide_eq_true c, h⟩
theorem fraction2_ok {fd : Nat} (hR : GcdOk2 R fd) {n d : Int} (h : frK n d s k.rt = true) : cFraction2 fd R [some (.int n), some (.int d), none] s k = true := by
  obtain ⟨g0, g1, g2, d0, h⟩ := frK_some h
  refine hR n d ⟨s.n, []⟩ _ d0 g2 ?_
  refine brI (b := ltI 0 d) (fun z => ?_) fun _ => ?_
  · rw [ltI_iff, decide_eq_true d0] at z
    cases z
  · show opDiv (.int n) (.int (.ofNat (Nat.gcd (Int.natAbs n) (Int.natAbs d)))) s (fun x s1 => opDiv (.int d) (.int (.ofNat (Nat.gcd (Int.natAbs n) (Int.natAbs d)))) s1 fun y s2 => k.rt (.tup [x, y]) s2) = true
    exact div_ok g0 g1 (div_ok g0 g1 h)
/-! ### sums, products -/
def FrOk (R : Rec) (f : Nat) : Prop := ∀ (n d : Int) (s : Sto) (k : KD), frK n d s k = true → R f [.int n, .int d] s k = true
theorem sm4_some {a b c d : Int} (h : sm4 a b c d = true) : small64 a = true ∧ small64 b = true ∧ small64 c = true ∧ small64 d = true := by
  unfold sm4 at h
  rw [Bool.and_eq_true, Bool.and_eq_true, Bool.and_eq_true] at h
  exact ⟨h.1.1.1, h.1.1.2, h.1.2, h.2⟩
theorem plus_of {ff : Nat} (hR : FrOk R ff) {o : BOp} {f : Int → Int → Int} (ho : ∀ i j s (k : KD), bop o (.int i) (.int j) s k = k (.int (f i j)) s) {i j : Nat} {σ : Loc} {x y : D} {kd : KD} (hi : σ[i]? = some (some x)) (hj : σ[j]? = some (some y)) (h : plusK f x y s kd = true) : cPlusOf o ff i j R σ s kd = true := by
  obtain ⟨a, b, e1, h1⟩ := onF_some h
  obtain ⟨c, d, e2, h2⟩ := onF_some h1
  subst e1; subst e2
  obtain ⟨m, h3⟩ := brecT h2
  obtain ⟨ma, mb, mc, md⟩ := sm4_some m
  have gi : ∀ (k : D → Bool), getK σ i k = k (.tup [.int a, .int b]) := fun k => getK_at hi
  have gj : ∀ (k : D → Bool), getK σ j k = k (.tup [.int c, .int d]) := fun k => getK_at hj
  unfold cPlusOf cCall cCons cNil cOp2 cVar cCst
  simp only [gi, gj, ix0, ix1, bop_mul]
  show opMul (.int a) (.int d) s _ = true
  refine mul_r md ?_
  show opMul (.int c) (.int b) s _ = true
  refine mul_r mb ?_
  show bop o (.int (Int.mul a d)) (.int (Int.mul c b)) s _ = true
  rw [ho]
  show opMul (.int b) (.int d) s _ = true
  refine mul_r md ?_
  exact hR _ _ _ _ h3
theorem times_of {ff : Nat} (hR : FrOk R ff) {i j : Nat} {σ : Loc} {x y : D} {kd : KD} (hi : σ[i]? = some (some x)) (hj : σ[j]? = some (some y)) (h : timesK x y s kd = true) : cTimesOf ff i j R σ s kd = true := by
  obtain ⟨a, b, e1, h1⟩ := onF_some h
  obtain ⟨c, d, e2, h2⟩ := onF_some h1
  subst e1; subst e2
  obtain ⟨m, h3⟩ := brecT h2
  obtain ⟨ma, mb, mc, md⟩ := sm4_some m
  have gi : ∀ (k : D → Bool), getK σ i k = k (.tup [.int a, .int b]) := fun k => getK_at hi
  have gj : ∀ (k : D → Bool), getK σ j k = k (.tup [.int c, .int d]) := fun k => getK_at hj
  unfold cTimesOf cCall cCons cNil cOp2 cVar cCst
  simp only [gi, gj, ix0, ix1, bop_mul]
  show opMul (.int a) (.int c) s _ = true
  refine mul_r mc ?_
  show opMul (.int b) (.int d) s _ = true
  refine mul_r md ?_
  exact hR _ _ _ _ h3
/-- in the field Q -/
theorem dom_ok {a b rest : CS} {e : CE} {σ : Loc} (h0 : σ[0]? = some (some (.tup [.str [81]]))) (h : e R σ s k.rt = true) : cDom a b e rest R σ s k = true := by
  have g0 : ∀ (k : D → Bool), getK σ 0 k = k (.tup [.str [81]]) := fun k => getK_at h0
  show getK σ 0 (fun x => ixK x (.int 0) s fun y s1 => eqK y (.str [90]) s1 fun t => @Bool.rec (fun _ => Bool) (getK σ 0 fun x => ixK x (.int 0) s1 fun y s1 => eqK y (.str [70]) s1 fun t => @Bool.rec (fun _ => Bool) (getK σ 0 fun x => ixK x (.int 0) s1 fun y s1 => eqK y (.str [81]) s1 fun t => @Bool.rec (fun _ => Bool) _ (e R σ s1 k.rt) t) _ t) _ t) = true
  rw [g0]
  show getK σ 0 (fun x => ixK x (.int 0) s fun y s1 => eqK y (.str [70]) s1 fun t => @Bool.rec (fun _ => Bool) (getK σ 0 fun x => ixK x (.int 0) s1 fun y s1 => eqK y (.str [81]) s1 fun t => @Bool.rec (fun _ => Bool) _ (e R σ s1 k.rt) t) _ t) = true
  rw [g0]
  show getK σ 0 (fun x => ixK x (.int 0) s fun y s1 => eqK y (.str [81]) s1 fun t => @Bool.rec (fun _ => Bool) _ (e R σ s1 k.rt) t) = true
  rw [g0]
  exact h
/-! ### the law's own divisor -/
def cLB : CS := (sSeq (sIf (cTstB (cOp2 (cop .eq) (cVar 1) (cCst (.int (0))))) (sSeq (sRet (cBi .abs (cVar 0))) sPass) sPass) (sSeq (sPar2 0 1 (cVar 1) (cOp2 (bop .mod) (cVar 0) (cVar 1))) sPass))
def cLDiv : CS := (sSeq (sFor (gNm 2) (iRng (cCst (.int (20000)))) cLB) (sSeq (sRet (cCst (.int (1)))) sPass))
def abx (a b : Int) (x : Option D) : Loc := [some (.int a), some (.int b), x]
def turnD (i : Nat) : Option D := some (.int (Int.add 0 (.ofNat i)))
theorem fl_step {N m i : Nat} {a b : Int} {x : Option D} (hi : i < N) (h0 : b = 0 → k.rt (.int (.ofNat (Int.natAbs a))) s = true) (h1 : b ≠ 0 → forL (wRng 0 N) (gNm 2) cLB R k m (i + 1) (abx b (modI a b) (turnD i)) s = true) :
    forL (wRng 0 N) (gNm 2) cLB R k (m + 1) i (abx a b x) s = true := by
  show @Bool.rec (fun _ => Bool) (k.nx (abx a b x) s) (@Bool.rec (fun _ => Bool) (opMod (.int a) (.int b) s fun y s2 => forL (wRng 0 N) (gNm 2) cLB R k m (i + 1) (setN (setN (abx a b (turnD i)) 0 (some (.int b))) 1 (some y)) s2) (k.rt (.int (.ofNat (Int.natAbs a))) s) (eqI b 0)) (Nat.blt i N) = true
  refine brI (fun z => ?_) fun _ => brI (fun c => ?_) fun c => ?_
  · rw [show Nat.blt i N = true from Nat.ble_eq_true_of_le hi] at z
    cases z
  · rw [eqI_iff] at c
    have c1 := of_decide_eq_false c
    refine brI (b := nz b) (fun z => ?_) fun _ => h1 c1
    rw [nz_iff] at z
    exact absurd (by simpa using z) c1
  · rw [eqI_iff] at c
    exact h0 (of_decide_eq_true c)
theorem modI_nat (a b : Nat) : modI (.ofNat a) (.ofNat b) = .ofNat (a % b) := rfl
theorem fl_gcd {N : Nat} : ∀ (j m i a b : Nat) (x : Option D), b < 2 ^ j → 2 * j < m → i + 2 * j < N → k.rt (.int (.ofNat (Nat.gcd a b))) s = true → forL (wRng 0 N) (gNm 2) cLB R k m i (abx (.ofNat a) (.ofNat b) x) s = true
  | 0, m + 1, i, a, b, x, hb, hm, hi, h => by
    have e : b = 0 := by simpa using hb
    subst e
    exact fl_step (by omega) (fun _ => by rw [Nat.gcd_zero_right] at h; exact h) fun z => absurd rfl z
  | j + 1, m + 2, i, a, b, x, hb, hm, hi, h => by
    refine fl_step (by omega) (fun z => ?_) fun z => ?_
    · have e : b = 0 := Int.ofNat.inj z
      subst e
      rw [Nat.gcd_zero_right] at h
      exact h
    · have z1 : 0 < b := Nat.pos_of_ne_zero fun e => z (by rw [e]; rfl)
      rw [modI_nat]
      refine fl_step (by omega) (fun z2 => ?_) fun z2 => ?_
      · have e : a % b = 0 := Int.ofNat.inj z2
        rw [← gcd_step, e, Nat.gcd_zero_right] at h
        exact h
      · have z3 : 0 < a % b := Nat.pos_of_ne_zero fun e => z2 (by rw [e]; rfl)
        have l1 := Nat.mod_lt a z1
        have l2 := half_lt z3 l1
        rw [modI_nat]
        refine fl_gcd j m (i + 1 + 1) (a % b) (b % (a % b)) _ (by rw [Nat.pow_succ] at hb; omega) (by omega) (by omega) ?_
        rw [gcd_step, gcd_step]
        exact h
  | 0, 0, _, _, _, _, _, hm, _, _ => by omega
  | j + 1, 0, _, _, _, _, _, hm, _, _ => by omega
  | j + 1, 1, _, _, _, _, _, hm, _, _ => by omega
theorem gcd_first (a : Int) (b : Nat) (hb : 0 < b) : modI a (.ofNat b) = .ofNat (a % (b : Int)).toNat ∧ Nat.gcd b (a % (b : Int)).toNat = Nat.gcd (Int.natAbs a) b := by
  have e0 : modI a (.ofNat b) = a % (b : Int) := modI_eq.trans (Int.fmod_eq_emod_of_nonneg a (b := (b : Int)) (Int.natCast_nonneg b))
  have n0 := Int.emod_nonneg a (b := (b : Int)) (by omega)
  refine ⟨e0.trans (Int.toNat_of_nonneg n0).symm, ?_⟩
  have e1 : (a % (b : Int)).toNat = Int.natAbs (a % (b : Int)) := by omega
  have e2 : Int.gcd (b : Int) (a % (b : Int)) = Int.gcd (b : Int) a := by
    rw [Int.emod_def]
    exact Int.gcd_sub_mul_left_right _ _ _
  rw [e1, Nat.gcd_comm (Int.natAbs a)]
  exact e2
theorem ldiv_ok {a b : Int} (h0 : 0 < b) (hb : Int.natAbs b < 2 ^ 64) (h : k.rt (.int (.ofNat (Nat.gcd (Int.natAbs a) (Int.natAbs b)))) s = true) : cLDiv R [some (.int a), some (.int b), none] s k = true := by
  obtain ⟨m, hm⟩ : ∃ m, m = 89999 := ⟨_, rfl⟩
  obtain ⟨N, hN⟩ : ∃ N, N = 20000 := ⟨_, rfl⟩
  unfold cLDiv sFor
  rw [show (90000 : Nat) = m + 1 by omega]
  show forL (wRng 0 20000) (gNm 2) cLB R _ (m + 1) 0 (abx a b none) s = true
  rw [← hN]
  have eb : b = .ofNat b.natAbs := by
    show b = (b.natAbs : Int)
    omega
  have hp : 0 < b.natAbs := by omega
  obtain ⟨g1, g2⟩ := gcd_first a b.natAbs hp
  rw [eb]
  refine fl_step (by omega) (fun z => ?_) fun z => ?_
  · have e : b.natAbs = 0 := Int.ofNat.inj z
    omega
  · rw [g1]
    have l1 := Int.emod_lt_of_pos a (b := (b.natAbs : Int)) (by omega)
    refine fl_gcd 64 m 1 b.natAbs _ _ (by omega) (by omega) (by omega) ?_
    rw [g2]
    exact h
end
end
end Zev

set_option Elab.async false
set_option linter.all false
set_option maxRecDepth 100000
/-! Zev22: calls of a table; functions of data behind a table's text; the drawn polynomials. -/
namespace Zev
open PySem PySem.Spec PyProof.Rows L2
noncomputable section
theorem nthK_eq {α : Type} : ∀ {xs : List α} {i : Nat} {k : α → Bool} {d : α}, xs[i]? = some d → nthK xs i k = k d
  | [], _, _, _, e => by cases e
  | x :: xs, 0, k, d, e => by cases e; rfl
  | x :: xs, i + 1, k, d, e => nthK_eq (xs := xs) (i := i) (k := k) (by simpa using e)
section
variable {T : List FD} {n f np nl : Nat} {b : CS} {ds : List D} {s : Sto} {k : KD} {nf : List D → Sto → KD → Bool}
theorem call_nat (t : T[f]? = some (.nat nf)) : callN T (n + 1) f ds s k = nf ds s k := by
  show nthK T f (fun fd => runFD (callN T n) fd ds s k) = _
  rw [nthK_eq t]
  rfl
theorem call_py (t : T[f]? = some (.py np nl b)) (l : ds.length = np) : callN T (n + 1) f ds s k = b (callN T n) (ds.map some ++ List.replicate nl none) s ⟨fun _ s1 => k .non s1, k, fun _ _ => false, fun _ _ => false⟩ := by
  show nthK T f (fun fd => runFD (callN T n) fd ds s k) = _
  rw [nthK_eq t]
  show @Bool.rec (fun _ => Bool) false (b (callN T n) (initL ds nl) s ⟨fun _ s1 => k .non s1, k, fun _ _ => false, fun _ _ => false⟩) (Nat.beq (lenN ds) np) = _
  rw [initL_eq, lenN_eq, l, Nat.beq_refl]
end
/-- a function of data behind the text -/
theorem nat_glue {K : PySem.W.Frag} {T : List FD} {n f np : Nat} {nf : List D → Sto → KD → Bool} (h : ∀ ds s k, nf ds s k = true → callN T n f ds s k = true) {vs : List V} {H : Hp} {Q : VK} {E : XK} (q : spNat K nf np vs H Q E) : spOf K (callN T n) f np vs H Q E := by
  obtain ⟨hl, ρ, s, ds, k, S, R, c, A⟩ := q
  exact ⟨hl, ρ, s, ds, k, S, R, h _ _ _ c, A⟩
/-! ### a def's scope, looked at -/
def scopeB (N P : List Str) (sc : Scope) : Bool :=
  (match sc.kind with | .function => true | _ => false) && (!sc.isCoroutine) && (!sc.isGenerator) && decide N.Nodup && decide (N.take P.length = P) && P.all (fun x => decide (sc.names.lookup x = some .local ∨ sc.names.lookup x = some .cell)) && sc.names.all fun y => decide (y.2 ≠ .free)
theorem scope_by {N P : List Str} {sc : Scope} (h : scopeB N P sc = true) : FnScope N P sc := by
  unfold scopeB at h
  simp only [Bool.and_eq_true] at h
  obtain ⟨⟨⟨⟨⟨⟨h1, h2⟩, h3⟩, h4⟩, h5⟩, h6⟩, h7⟩ := h
  refine ⟨?_, by simpa using h2, by simpa using h3, of_decide_eq_true h4, of_decide_eq_true h5, fun x m => of_decide_eq_true (List.all_eq_true.mp h6 x m), fun y m => of_decide_eq_true (List.all_eq_true.mp h7 y m)⟩
  split at h1
  · assumption
  · cases h1
/-! ### fractions behind a table -/
section
variable {T : List FD} {n fd ff : Nat}
theorem gcd_tab (t : T[fd]? = some (.py 2 0 cDivisor)) : GcdOk (callN T (n + 1)) fd := fun a b s k hb h => by
  rw [call_py t rfl]
  exact divisor_ok hb h
theorem gcd2_tab (t : T[fd]? = some (.py 2 1 cLDiv)) : GcdOk2 (callN T (n + 1)) fd := fun a b s k h0 hb h => by
  rw [call_py t rfl]
  exact ldiv_ok h0 hb h
theorem frK_2 {n d : Int} {s : Sto} {k : KD} (h : frK n d s k = true) : frK2 n d s k = true := by
  obtain ⟨_, _, _, d0, _⟩ := frK_some h
  refine brI (fun z => ?_) fun _ => h
  rw [ltI_iff, decide_eq_true d0] at z
  cases z
theorem nFrac_ok (td : T[fd]? = some (.py 2 0 cDivisor)) (tf : T[ff]? = some (.py 2 1 (cFraction fd))) : ∀ ds s k, nFrac ds s k = true → callN T (n + 2) ff ds s k = true := fun ds s k h => by
  obtain ⟨x, y, rfl, h⟩ := on2_some h
  obtain ⟨i, rfl, h⟩ := onI_some h
  obtain ⟨j, rfl, h⟩ := onI_some h
  rw [call_py tf rfl]
  exact fraction_ok (gcd_tab td) h
theorem nFrac2_ok (td : T[fd]? = some (.py 2 1 cLDiv)) (tf : T[ff]? = some (.py 2 1 (cFraction2 fd))) : ∀ ds s k, nFrac2 ds s k = true → callN T (n + 2) ff ds s k = true := fun ds s k h => by
  obtain ⟨x, y, rfl, h⟩ := on2_some h
  obtain ⟨i, rfl, h⟩ := onI_some h
  obtain ⟨j, rfl, h⟩ := onI_some h
  rw [call_py tf rfl]
  exact fraction2_ok (gcd2_tab td) h
theorem fr_tab (td : T[fd]? = some (.py 2 0 cDivisor)) (tf : T[ff]? = some (.py 2 1 (cFraction fd))) : FrOk (callN T (n + 2)) ff := fun n d s k h => nFrac_ok td tf [.int n, .int d] s k (frK_2 h)
theorem fr2_tab (td : T[fd]? = some (.py 2 1 cLDiv)) (tf : T[ff]? = some (.py 2 1 (cFraction2 fd))) : FrOk (callN T (n + 2)) ff := fun n d s k h => nFrac2_ok td tf [.int n, .int d] s k h
variable {fp : Nat}
theorem nPlus_ok (hF : FrOk (callN T n) ff) (tp : T[fp]? = some (.py 2 0 (cPlus .add ff))) : ∀ ds s k, nPlus ds s k = true → callN T (n + 1) fp ds s k = true := fun ds s k h => by
  obtain ⟨x, y, rfl, h⟩ := on2_some h
  rw [call_py tp rfl]
  exact plus_of (o := .add) (f := Int.add) hF (fun i j s k => rfl) (i := 0) (j := 1) (σ := [some x, some y]) rfl rfl h
theorem nMinus_ok (hF : FrOk (callN T n) ff) (tp : T[fp]? = some (.py 2 0 (cPlus .sub ff))) : ∀ ds s k, nMinus ds s k = true → callN T (n + 1) fp ds s k = true := fun ds s k h => by
  obtain ⟨x, y, rfl, h⟩ := on2_some h
  rw [call_py tp rfl]
  exact plus_of (o := .sub) (f := Int.sub) hF (fun i j s k => rfl) (i := 0) (j := 1) (σ := [some x, some y]) rfl rfl h
theorem nTimes_ok (hF : FrOk (callN T n) ff) (tp : T[fp]? = some (.py 2 0 (cTimes ff))) : ∀ ds s k, nTimes ds s k = true → callN T (n + 1) fp ds s k = true := fun ds s k h => by
  obtain ⟨x, y, rfl, h⟩ := on2_some h
  rw [call_py tp rfl]
  exact times_of hF (i := 0) (j := 1) (σ := [some x, some y]) rfl rfl h
theorem nAdd_ok {nl : Nat} {a b r : CS} (hF : FrOk (callN T n) ff) (tp : T[fp]? = some (.py 3 nl (cDom a b (cPlusOf .add ff 1 2) r))) : ∀ ds s k, nAdd ds s k = true → callN T (n + 1) fp ds s k = true := fun ds s k h => by
  obtain ⟨q, x, y, rfl, h⟩ := on3_some h
  obtain ⟨c, h⟩ := brecT h
  have e := isQ_some c
  subst e
  rw [call_py tp rfl]
  exact dom_ok rfl (plus_of (o := .add) (f := Int.add) hF (fun i j s k => rfl) (i := 1) (j := 2) rfl rfl h)
theorem nMul_ok {nl : Nat} {a b r : CS} (hF : FrOk (callN T n) ff) (tp : T[fp]? = some (.py 3 nl (cDom a b (cTimesOf ff 1 2) r))) : ∀ ds s k, nMul ds s k = true → callN T (n + 1) fp ds s k = true := fun ds s k h => by
  obtain ⟨q, x, y, rfl, h⟩ := on3_some h
  obtain ⟨c, h⟩ := brecT h
  have e := isQ_some c
  subst e
  rw [call_py tp rfl]
  exact dom_ok rfl (times_of hF (i := 1) (j := 2) rfl rfl h)
end
/-! ### the drawn data: [a list of ints, an int, an int] -/
abbrev Dr : Type := List Int × Int × Int
def stE (e : Dr) : Sto := ⟨3, [(2, .lst [.ref 1, .int e.2.1, .int e.2.2]), (1, .lst (e.1.map D.int)), (0, .drw)]⟩
def s01 : Sto := ⟨1, [(0, .drw)]⟩
def natDrawn (tbl : List Dr) : List D → Sto → KD → Bool := fun ds s k => on1 ds fun x => onR x fun a => @Bool.rec (fun _ => Bool) false (lookK s.l 0 fun o => onDrw o (tbl.all fun e => k (.ref 2) (stE e))) (Nat.beq a 0 && Nat.beq s.n 1)
theorem drawn_all {tbl : List Dr} {k : KD} (h : AllR (fun e => k (.ref 2) (stE e) = true) tbl) : natDrawn tbl [.ref 0] s01 k = true := by
  show (tbl.all fun e => k (.ref 2) (stE e)) = true
  rw [List.all_eq_true]
  exact h.mem
def beqI : List D → List Int → Bool
  | [], [] => true
  | .int i :: ds, j :: js => eqI i j && beqI ds js
  | _, _ => false
theorem beqI_some : ∀ {ds : List D} {js : List Int}, beqI ds js = true → ds = js.map D.int
  | [], [], _ => rfl
  | [], _ :: _, h => by cases h
  | d :: ds, [], h => by cases d <;> cases h
  | d :: ds, j :: js, h => by
    cases d <;> first | (cases h; done) | skip
    rename_i i
    have h : (eqI i j && beqI ds js) = true := h
    rw [Bool.and_eq_true, eqI_iff] at h
    rw [of_decide_eq_true h.1, beqI_some h.2]
    rfl
/-- what the drawing makes is in the table -/
def kMem (tbl : List Dr) : KD := fun d s => onR d fun a => lookK s.l 0 fun o => onDrw o (lookK s.l a fun o => onL o fun xs => on3 xs fun x y z => onR x fun b => onI y fun y => onI z fun z => lookK s.l b fun o => onL o fun ps => tbl.any fun e => eqI e.2.1 y && eqI e.2.2 z && beqI ps e.1)
theorem onDrw_some {o : O} {c : Bool} (h : onDrw o c = true) : o = .drw ∧ c = true := by
  cases o <;> first | (cases h; done) | exact ⟨rfl, h⟩
theorem drawn_fn {K : PySem.W.Frag} {T : List FD} {n f : Nat} {tbl : List Dr} (run : callN T n f [.ref 0] s01 (kMem tbl) = true) {vs : List V} {H : Hp} {Q : VK} {E : XK} (q : spNat K (natDrawn tbl) 1 vs H Q E) : spOf K (callN T n) f 1 vs H Q E := by
  obtain ⟨hl, ρ, s, ds, k, S, R, hc, A⟩ := q
  obtain ⟨x, rfl, h1⟩ := on1_some hc
  obtain ⟨a, rfl, h2⟩ := onR_some h1
  obtain ⟨h3, h4⟩ := brecT h2
  rw [Bool.and_eq_true] at h3
  have ea := Nat.eq_of_beq_eq_true h3.1
  have en := Nat.eq_of_beq_eq_true h3.2
  subst ea
  obtain ⟨o, mo, h5⟩ := lookK_some h4
  obtain ⟨rfl, h6⟩ := onDrw_some h5
  rw [List.all_eq_true] at h6
  have el : ρ.length = 1 := by rw [← S.n]; exact en
  obtain ⟨b0, rfl⟩ : ∃ b0, ρ = [b0] := by
    match ρ, el with
    | [b0], _ => exact ⟨b0, rfl⟩
  have sub : List.Sublist [(0, O.drw)] s.l := List.singleton_sublist.mpr mo
  have S2 : RS K [b0] s01 H := by
    have := S.sub sub
    rw [en] at this
    exact this
  refine ⟨hl, [b0], s01, [.ref 0], kMem tbl, S2, R, run, ?_⟩
  intro d s' v ρ' H' E1 S1 R1 m
  obtain ⟨ia, rfl, m1⟩ := onR_some m
  obtain ⟨o1, mo1, m2⟩ := lookK_some m1
  obtain ⟨rfl, m3⟩ := onDrw_some m2
  obtain ⟨o2, mo2, m4⟩ := lookK_some m3
  obtain ⟨xs, rfl, m5⟩ := onL_some m4
  obtain ⟨x, y, z, rfl, m6⟩ := on3_some m5
  obtain ⟨ib, rfl, m7⟩ := onR_some m6
  obtain ⟨yi, rfl, m8⟩ := onI_some m7
  obtain ⟨zi, rfl, m9⟩ := onI_some m8
  obtain ⟨o3, mo3, m10⟩ := lookK_some m9
  obtain ⟨ps, rfl, m11⟩ := onL_some m10
  obtain ⟨e, me, m12⟩ := List.any_eq_true.mp m11
  rw [Bool.and_eq_true, Bool.and_eq_true, eqI_iff, eqI_iff] at m12
  have ey := of_decide_eq_true m12.1.1
  have ez := of_decide_eq_true m12.1.2
  have ep := beqI_some m12.2
  subst ey; subst ez; subst ep
  have hk := h6 e me
  -- the objects
  obtain ⟨A', ea', vs1, hA, rA, lA⟩ := S1.ob ia _ mo2
  obtain ⟨B', eb', vs2, hB, rB, lB⟩ := S1.ob ib _ mo3
  obtain ⟨b1, e0, c, ns, i, n', kk, hb0, hcc, nc, l1, l2⟩ := S1.ob 0 _ mo1
  have e0' : ρ'[0]? = some b0 := pre_at E1.pre rfl
  rw [e0'] at e0
  cases e0
  have y5 := rds_ints_eq rB
  subst y5
  have ez : vs1 = [.ref B', .int e.2.1, .int e.2.2] := by
    unfold RDs at rA
    obtain ⟨x1, t1, rfl, w1, rA⟩ := rA
    unfold RD at w1
    obtain ⟨b', rfl, w1⟩ := w1
    rw [eb'] at w1
    cases w1
    unfold RDs at rA
    obtain ⟨x2, t2, rfl, w2, rA⟩ := rA
    unfold RDs at rA
    obtain ⟨x3, t3, rfl, w3, rA⟩ := rA
    unfold RDs at rA
    rw [w2.int, w3.int, rA]
  subst ez
  have nia : ia ≠ 0 := fun z => by subst z; cases nodup_val S1.kd mo1 mo2
  have nib : ib ≠ 0 := fun z => by subst z; cases nodup_val S1.kd mo1 mo3
  have nab : ia ≠ ib := fun z => by
    subst z
    have := nodup_val S1.kd mo2 mo3
    cases hp : e.1 with
    | nil => rw [hp] at this; cases this
    | cons i r => rw [hp] at this; cases this
  have nA : A' ≠ b0 := fun z => by subst z; exact nia (at_inj S1.nd ea' e0')
  have nB : B' ≠ b0 := fun z => by subst z; exact nib (at_inj S1.nd eb' e0')
  have nAB : A' ≠ B' := fun z => by subst z; exact nab (at_inj S1.nd ea' eb')
  have fA : H A' = none := (E1.fs A' (at_mem ea')).elim (fun z => absurd (List.mem_singleton.mp z) nA) id
  have fB : H B' = none := (E1.fs B' (at_mem eb')).elim (fun z => absurd (List.mem_singleton.mp z) nB) id
  have cA : c ≠ A' := fun z => nc (by rw [z]; exact at_mem ea')
  have cB : c ≠ B' := fun z => nc (by rw [z]; exact at_mem eb')
  have cb : c ≠ b0 := fun z => nc (by rw [z]; exact at_mem e0')
  refine A (.ref 2) (stE e) v [b0, B', A'] H' ⟨⟨[B', A'], rfl⟩, fun x o h hn => ?_, fun i u mi => ?_, fun x mx => ?_⟩ ⟨rfl, ?_, fun x mx => ?_, ?_, fun i u mi => ?_⟩ ?_ hk
  · refine E1.fr x o h fun i u mi => ?_
    cases List.mem_singleton.mp mi
    exact hn 0 .drw mo
  · rcases List.mem_cons.mp mi with z | mi
    · cases z; exact .inr (show 1 ≤ 2 by decide)
    · rcases List.mem_cons.mp mi with z | mi
      · cases z; exact .inr (show 1 ≤ 1 by decide)
      · cases List.mem_singleton.mp mi
        exact .inl ⟨_, mo⟩
  · rcases List.mem_cons.mp mx with z | mx
    · exact .inl (by rw [z]; exact List.mem_cons_self)
    · rcases List.mem_cons.mp mx with z | mx
      · rw [z]; exact .inr fB
      · rw [List.mem_singleton.mp mx]; exact .inr fA
  · simp [nB.symm, nA.symm, nAB.symm]
  · rcases List.mem_cons.mp mx with z | mx
    · rw [z, hb0]; simp
    · rcases List.mem_cons.mp mx with z | mx
      · rw [z, hB]; simp
      · rw [List.mem_singleton.mp mx, hA]; simp
  · show [2, 1, 0].Nodup
    decide
  · rcases List.mem_cons.mp mi with z | mi
    · cases z
      exact ⟨A', rfl, _, hA, .cons (by unfold RD; exact ⟨B', rfl, rfl⟩) (.cons rd_int (.cons rd_int .nil)), lA⟩
    · rcases List.mem_cons.mp mi with z | mi
      · cases z
        exact ⟨B', rfl, _, hB, rds_ints, lB⟩
      · cases List.mem_singleton.mp mi
        exact ⟨b0, rfl, c, ns, i, n', kk, hb0, hcc, by simp [cA, cB, cb], l1, l2⟩
  · unfold RD at R1
    obtain ⟨w, rfl, ew⟩ := R1
    rw [ea'] at ew
    cases ew
    unfold RD
    exact ⟨A', rfl, rfl⟩
/-! ### a law that draws its data first -/
theorem law_split {T : List FD} {n f : Nat} {ts : Ts} {rest : Ss} {σ : Loc} {tbl : List Dr} (t : T[f]? = some (.nat (natDrawn tbl))) (hσ : σ[1]? = some (some (.ref 0)))
    (h : AllR (fun e : Dr => denT (.tp ts) (callN T (n + 1)) (.ref 2) σ (stE e) (fun σ s => denSs rest (callN T (n + 1)) σ s ksTrue) = true) tbl) : denSs (.cons (.asg (.tp ts) (.call f 0 (.cons (.var 1) .nil))) rest) (callN T (n + 1)) σ s01 ksTrue = true := by
  show getK σ 1 (fun x => callN T (n + 1) f [x] s01 fun d s => denT (.tp ts) (callN T (n + 1)) d σ s fun σ s => denSs rest (callN T (n + 1)) σ s ksTrue) = true
  rw [getK_at hσ, call_nat t]
  exact drawn_all h
end
end Zev

set_option Elab.async false
set_option linter.all false
set_option maxRecDepth 1000000
/-! Ir_k84: the IR of the defs, printed by mk.py. -/
namespace Zk84
open PySem Zev
noncomputable section
def i_add : Ss := (.cons (.ife (.cmp .eq (.idx (.var 0) (.cst (.int (0)))) (.cst (.str [90]))) (.cons (.ret (.bin .add (.var 1) (.var 2)))
  .nil) .nil)
  (.cons (.ife (.cmp .eq (.idx (.var 0) (.cst (.int (0)))) (.cst (.str [70]))) (.cons (.ret (.bin .mod (.bin .add (.var 1) (.var 2)) (.idx (.var 0) (.cst (.int (1))))))
  .nil) .nil)
  (.cons (.ife (.cmp .eq (.idx (.var 0) (.cst (.int (0)))) (.cst (.str [81]))) (.cons (.ret (.call 5 2 (.cons (.bin .add (.bin .mul (.idx (.var 1) (.cst (.int (0)))) (.idx (.var 2) (.cst (.int (1))))) (.bin .mul (.idx (.var 2) (.cst (.int (0)))) (.idx (.var 1) (.cst (.int (1)))))) (.cons (.bin .mul (.idx (.var 1) (.cst (.int (1)))) (.idx (.var 2) (.cst (.int (1))))) .nil))))
  .nil) .nil)
  (.cons (.asg (.nm 3) (.idx (.var 0) (.cst (.int (1)))))
  (.cons (.ife (.cmp .lt (.bi .len (.var 1)) (.bi .len (.var 2))) (.cons (.par2 1 2 (.var 2) (.var 1))
  .nil) .nil)
  (.cons (.asg (.nm 4) (.bi .list (.var 1)))
  (.cons (.fr (.tp (.cons (.nm 5) (.cons (.nm 6) .nil))) (.enum (.var 2)) (.cons (.asg (.sb (.var 4) (.var 5)) (.call 0 2 (.cons (.var 3) (.cons (.idx (.var 4) (.var 5)) (.cons (.var 6) .nil)))))
  .nil))
  (.cons (.ret (.call 35 0 (.cons (.var 3) (.cons (.var 4) .nil))))
  .nil))))))))
def c_add : CS := (sSeq (sIf (cTstB (cOp2 (cop .eq) (cOp2 ixK (cVar 0) (cCst (.int (0)))) (cCst (.str [90])))) (sSeq (sRet (cOp2 (bop .add) (cVar 1) (cVar 2))) sPass) sPass) (sSeq (sIf (cTstB (cOp2 (cop .eq) (cOp2 ixK (cVar 0) (cCst (.int (0)))) (cCst (.str [70])))) (sSeq (sRet (cOp2 (bop .mod) (cOp2 (bop .add) (cVar 1) (cVar 2)) (cOp2 ixK (cVar 0) (cCst (.int (1)))))) sPass) sPass) (sSeq (sIf (cTstB (cOp2 (cop .eq) (cOp2 ixK (cVar 0) (cCst (.int (0)))) (cCst (.str [81])))) (sSeq (sRet (cCall 5 2 (cCons (cOp2 (bop .add) (cOp2 (bop .mul) (cOp2 ixK (cVar 1) (cCst (.int (0)))) (cOp2 ixK (cVar 2) (cCst (.int (1))))) (cOp2 (bop .mul) (cOp2 ixK (cVar 2) (cCst (.int (0)))) (cOp2 ixK (cVar 1) (cCst (.int (1)))))) (cCons (cOp2 (bop .mul) (cOp2 ixK (cVar 1) (cCst (.int (1)))) (cOp2 ixK (cVar 2) (cCst (.int (1))))) cNil)))) sPass) sPass) (sSeq (sAsg (gNm 3) (cOp2 ixK (cVar 0) (cCst (.int (1))))) (sSeq (sIf (cTstB (cOp2 (cop .lt) (cBi .len (cVar 1)) (cBi .len (cVar 2)))) (sSeq (sPar2 1 2 (cVar 2) (cVar 1)) sPass) sPass) (sSeq (sAsg (gNm 4) (cBi .list (cVar 1))) (sSeq (sFor (gTp 2 (gCons (gNm 5) (gCons (gNm 6) gNil))) (iEnum (cVar 2)) (sSeq (sAsg (gSb (cVar 4) (cVar 5)) (cCall 0 2 (cCons (cVar 3) (cCons (cOp2 ixK (cVar 4) (cVar 5)) (cCons (cVar 6) cNil))))) sPass)) (sSeq (sRet (cCall 35 0 (cCons (cVar 3) (cCons (cVar 4) cNil)))) sPass))))))))
theorem e_add : denSs i_add = c_add := rfl
def i_multiply : Ss := (.cons (.ife (.cmp .eq (.idx (.var 0) (.cst (.int (0)))) (.cst (.str [90]))) (.cons (.ret (.bin .mul (.var 1) (.var 2)))
  .nil) .nil)
  (.cons (.ife (.cmp .eq (.idx (.var 0) (.cst (.int (0)))) (.cst (.str [70]))) (.cons (.ret (.bin .mod (.bin .mul (.var 1) (.var 2)) (.idx (.var 0) (.cst (.int (1))))))
  .nil) .nil)
  (.cons (.ife (.cmp .eq (.idx (.var 0) (.cst (.int (0)))) (.cst (.str [81]))) (.cons (.ret (.call 5 2 (.cons (.bin .mul (.idx (.var 1) (.cst (.int (0)))) (.idx (.var 2) (.cst (.int (0))))) (.cons (.bin .mul (.idx (.var 1) (.cst (.int (1)))) (.idx (.var 2) (.cst (.int (1))))) .nil))))
  .nil) .nil)
  (.cons (.ife (.or (.cmp .eq (.bi .len (.var 1)) (.cst (.int (0)))) (.cmp .eq (.bi .len (.var 2)) (.cst (.int (0))))) (.cons (.ret (.tup .nil))
  .nil) .nil)
  (.cons (.asg (.nm 3) (.idx (.var 0) (.cst (.int (1)))))
  (.cons (.asg (.nm 4) (.comp [7] (.nm 7) (.rng (.bin .sub (.bin .add (.bi .len (.var 1)) (.bi .len (.var 2))) (.cst (.int (1))))) (.call 9 2 (.cons (.var 3) .nil))))
  (.cons (.fr (.tp (.cons (.nm 5) (.cons (.nm 6) .nil))) (.enum (.var 1)) (.cons (.fr (.tp (.cons (.nm 8) (.cons (.nm 9) .nil))) (.enum (.var 2)) (.cons (.asg (.sb (.var 4) (.bin .add (.var 5) (.var 8))) (.call 0 2 (.cons (.var 3) (.cons (.idx (.var 4) (.bin .add (.var 5) (.var 8))) (.cons (.call 1 2 (.cons (.var 3) (.cons (.var 6) (.cons (.var 9) .nil)))) .nil)))))
  .nil))
  .nil))
  (.cons (.ret (.call 35 0 (.cons (.var 3) (.cons (.var 4) .nil))))
  .nil))))))))
def c_multiply : CS := (sSeq (sIf (cTstB (cOp2 (cop .eq) (cOp2 ixK (cVar 0) (cCst (.int (0)))) (cCst (.str [90])))) (sSeq (sRet (cOp2 (bop .mul) (cVar 1) (cVar 2))) sPass) sPass) (sSeq (sIf (cTstB (cOp2 (cop .eq) (cOp2 ixK (cVar 0) (cCst (.int (0)))) (cCst (.str [70])))) (sSeq (sRet (cOp2 (bop .mod) (cOp2 (bop .mul) (cVar 1) (cVar 2)) (cOp2 ixK (cVar 0) (cCst (.int (1)))))) sPass) sPass) (sSeq (sIf (cTstB (cOp2 (cop .eq) (cOp2 ixK (cVar 0) (cCst (.int (0)))) (cCst (.str [81])))) (sSeq (sRet (cCall 5 2 (cCons (cOp2 (bop .mul) (cOp2 ixK (cVar 1) (cCst (.int (0)))) (cOp2 ixK (cVar 2) (cCst (.int (0))))) (cCons (cOp2 (bop .mul) (cOp2 ixK (cVar 1) (cCst (.int (1)))) (cOp2 ixK (cVar 2) (cCst (.int (1))))) cNil)))) sPass) sPass) (sSeq (sIf (bOr (cTstB (cOp2 (cop .eq) (cBi .len (cVar 1)) (cCst (.int (0))))) (cTstB (cOp2 (cop .eq) (cBi .len (cVar 2)) (cCst (.int (0)))))) (sSeq (sRet (cTup cNil)) sPass) sPass) (sSeq (sAsg (gNm 3) (cOp2 ixK (cVar 0) (cCst (.int (1))))) (sSeq (sAsg (gNm 4) (cComp [7] (gNm 7) (iRng (cOp2 (bop .sub) (cOp2 (bop .add) (cBi .len (cVar 1)) (cBi .len (cVar 2))) (cCst (.int (1))))) none (cCall 9 2 (cCons (cVar 3) cNil)))) (sSeq (sFor (gTp 2 (gCons (gNm 5) (gCons (gNm 6) gNil))) (iEnum (cVar 1)) (sSeq (sFor (gTp 2 (gCons (gNm 8) (gCons (gNm 9) gNil))) (iEnum (cVar 2)) (sSeq (sAsg (gSb (cVar 4) (cOp2 (bop .add) (cVar 5) (cVar 8))) (cCall 0 2 (cCons (cVar 3) (cCons (cOp2 ixK (cVar 4) (cOp2 (bop .add) (cVar 5) (cVar 8))) (cCons (cCall 1 2 (cCons (cVar 3) (cCons (cVar 6) (cCons (cVar 9) cNil)))) cNil))))) sPass)) sPass)) (sSeq (sRet (cCall 35 0 (cCons (cVar 3) (cCons (cVar 4) cNil)))) sPass))))))))
theorem e_multiply : denSs i_multiply = c_multiply := rfl
def i_plus : Ss := (.cons (.ret (.call 5 2 (.cons (.bin .add (.bin .mul (.idx (.var 0) (.cst (.int (0)))) (.idx (.var 1) (.cst (.int (1))))) (.bin .mul (.idx (.var 1) (.cst (.int (0)))) (.idx (.var 0) (.cst (.int (1)))))) (.cons (.bin .mul (.idx (.var 0) (.cst (.int (1)))) (.idx (.var 1) (.cst (.int (1))))) .nil))))
  .nil)
def c_plus : CS := (sSeq (sRet (cCall 5 2 (cCons (cOp2 (bop .add) (cOp2 (bop .mul) (cOp2 ixK (cVar 0) (cCst (.int (0)))) (cOp2 ixK (cVar 1) (cCst (.int (1))))) (cOp2 (bop .mul) (cOp2 ixK (cVar 1) (cCst (.int (0)))) (cOp2 ixK (cVar 0) (cCst (.int (1)))))) (cCons (cOp2 (bop .mul) (cOp2 ixK (cVar 0) (cCst (.int (1)))) (cOp2 ixK (cVar 1) (cCst (.int (1))))) cNil)))) sPass)
theorem e_plus : denSs i_plus = c_plus := rfl
def i_times : Ss := (.cons (.ret (.call 5 2 (.cons (.bin .mul (.idx (.var 0) (.cst (.int (0)))) (.idx (.var 1) (.cst (.int (0))))) (.cons (.bin .mul (.idx (.var 0) (.cst (.int (1)))) (.idx (.var 1) (.cst (.int (1))))) .nil))))
  .nil)
def c_times : CS := (sSeq (sRet (cCall 5 2 (cCons (cOp2 (bop .mul) (cOp2 ixK (cVar 0) (cCst (.int (0)))) (cOp2 ixK (cVar 1) (cCst (.int (0))))) (cCons (cOp2 (bop .mul) (cOp2 ixK (cVar 0) (cCst (.int (1)))) (cOp2 ixK (cVar 1) (cCst (.int (1))))) cNil)))) sPass)
theorem e_times : denSs i_times = c_times := rfl
def i_minus : Ss := (.cons (.ret (.call 5 2 (.cons (.bin .sub (.bin .mul (.idx (.var 0) (.cst (.int (0)))) (.idx (.var 1) (.cst (.int (1))))) (.bin .mul (.idx (.var 1) (.cst (.int (0)))) (.idx (.var 0) (.cst (.int (1)))))) (.cons (.bin .mul (.idx (.var 0) (.cst (.int (1)))) (.idx (.var 1) (.cst (.int (1))))) .nil))))
  .nil)
def c_minus : CS := (sSeq (sRet (cCall 5 2 (cCons (cOp2 (bop .sub) (cOp2 (bop .mul) (cOp2 ixK (cVar 0) (cCst (.int (0)))) (cOp2 ixK (cVar 1) (cCst (.int (1))))) (cOp2 (bop .mul) (cOp2 ixK (cVar 1) (cCst (.int (0)))) (cOp2 ixK (cVar 0) (cCst (.int (1)))))) (cCons (cOp2 (bop .mul) (cOp2 ixK (cVar 0) (cCst (.int (1)))) (cOp2 ixK (cVar 1) (cCst (.int (1))))) cNil)))) sPass)
theorem e_minus : denSs i_minus = c_minus := rfl
def i_fraction : Ss := (.cons (.asg (.nm 2) (.call 14 2 (.cons (.var 0) (.cons (.var 1) .nil))))
  (.cons (.ife (.cmp .lt (.var 1) (.cst (.int (0)))) (.cons (.asg (.nm 2) (.neg (.var 2)))
  .nil) .nil)
  (.cons (.ret (.tup (.cons (.bin .fdiv (.var 0) (.var 2)) (.cons (.bin .fdiv (.var 1) (.var 2)) .nil))))
  .nil)))
def c_fraction : CS := (sSeq (sAsg (gNm 2) (cCall 14 2 (cCons (cVar 0) (cCons (cVar 1) cNil)))) (sSeq (sIf (cTstB (cOp2 (cop .lt) (cVar 1) (cCst (.int (0))))) (sSeq (sAsg (gNm 2) (cNeg (cVar 2))) sPass) sPass) (sSeq (sRet (cTup (cCons (cOp2 (bop .fdiv) (cVar 0) (cVar 2)) (cCons (cOp2 (bop .fdiv) (cVar 1) (cVar 2)) cNil)))) sPass)))
theorem e_fraction : denSs i_fraction = c_fraction := rfl
def i__law_plus : Ss := (.cons (.ret (.call 8 2 (.cons (.bin .add (.bin .mul (.idx (.var 0) (.cst (.int (0)))) (.idx (.var 1) (.cst (.int (1))))) (.bin .mul (.idx (.var 1) (.cst (.int (0)))) (.idx (.var 0) (.cst (.int (1)))))) (.cons (.bin .mul (.idx (.var 0) (.cst (.int (1)))) (.idx (.var 1) (.cst (.int (1))))) .nil))))
  .nil)
def c__law_plus : CS := (sSeq (sRet (cCall 8 2 (cCons (cOp2 (bop .add) (cOp2 (bop .mul) (cOp2 ixK (cVar 0) (cCst (.int (0)))) (cOp2 ixK (cVar 1) (cCst (.int (1))))) (cOp2 (bop .mul) (cOp2 ixK (cVar 1) (cCst (.int (0)))) (cOp2 ixK (cVar 0) (cCst (.int (1)))))) (cCons (cOp2 (bop .mul) (cOp2 ixK (cVar 0) (cCst (.int (1)))) (cOp2 ixK (cVar 1) (cCst (.int (1))))) cNil)))) sPass)
theorem e__law_plus : denSs i__law_plus = c__law_plus := rfl
def i__law_times : Ss := (.cons (.ret (.call 8 2 (.cons (.bin .mul (.idx (.var 0) (.cst (.int (0)))) (.idx (.var 1) (.cst (.int (0))))) (.cons (.bin .mul (.idx (.var 0) (.cst (.int (1)))) (.idx (.var 1) (.cst (.int (1))))) .nil))))
  .nil)
def c__law_times : CS := (sSeq (sRet (cCall 8 2 (cCons (cOp2 (bop .mul) (cOp2 ixK (cVar 0) (cCst (.int (0)))) (cOp2 ixK (cVar 1) (cCst (.int (0))))) (cCons (cOp2 (bop .mul) (cOp2 ixK (cVar 0) (cCst (.int (1)))) (cOp2 ixK (cVar 1) (cCst (.int (1))))) cNil)))) sPass)
theorem e__law_times : denSs i__law_times = c__law_times := rfl
def i__law_fraction : Ss := (.cons (.asg (.nm 2) (.call 15 2 (.cons (.var 0) (.cons (.var 1) .nil))))
  (.cons (.asg (.nm 2) (.ife (.cmp .gt (.var 1) (.cst (.int (0)))) (.var 2) (.bin .sub (.cst (.int (0))) (.var 2))))
  (.cons (.ret (.tup (.cons (.bin .fdiv (.var 0) (.var 2)) (.cons (.bin .fdiv (.var 1) (.var 2)) .nil))))
  .nil)))
def c__law_fraction : CS := (sSeq (sAsg (gNm 2) (cCall 15 2 (cCons (cVar 0) (cCons (cVar 1) cNil)))) (sSeq (sAsg (gNm 2) (cIfe (cTstB (cOp2 (cop .gt) (cVar 1) (cCst (.int (0))))) (cVar 2) (cOp2 (bop .sub) (cCst (.int (0))) (cVar 2)))) (sSeq (sRet (cTup (cCons (cOp2 (bop .fdiv) (cVar 0) (cVar 2)) (cCons (cOp2 (bop .fdiv) (cVar 1) (cVar 2)) cNil)))) sPass)))
theorem e__law_fraction : denSs i__law_fraction = c__law_fraction := rfl
def i_zero : Ss := (.cons (.ife (.cmp .eq (.idx (.var 0) (.cst (.int (0)))) (.cst (.str [81]))) (.cons (.ret (.tup (.cons (.cst (.int (0))) (.cons (.cst (.int (1))) .nil))))
  .nil) .nil)
  (.cons (.ret (.ife (.cmp .eq (.idx (.var 0) (.cst (.int (0)))) (.cst (.str [80]))) (.tup .nil) (.cst (.int (0)))))
  .nil))
def c_zero : CS := (sSeq (sIf (cTstB (cOp2 (cop .eq) (cOp2 ixK (cVar 0) (cCst (.int (0)))) (cCst (.str [81])))) (sSeq (sRet (cTup (cCons (cCst (.int (0))) (cCons (cCst (.int (1))) cNil)))) sPass) sPass) (sSeq (sRet (cIfe (cTstB (cOp2 (cop .eq) (cOp2 ixK (cVar 0) (cCst (.int (0)))) (cCst (.str [80])))) (cTup cNil) (cCst (.int (0))))) sPass))
theorem e_zero : denSs i_zero = c_zero := rfl
def i_one : Ss := (.cons (.ife (.cmp .eq (.idx (.var 0) (.cst (.int (0)))) (.cst (.str [81]))) (.cons (.ret (.tup (.cons (.cst (.int (1))) (.cons (.cst (.int (1))) .nil))))
  .nil) .nil)
  (.cons (.ret (.ife (.cmp .eq (.idx (.var 0) (.cst (.int (0)))) (.cst (.str [80]))) (.tup (.cons (.call 10 2 (.cons (.idx (.var 0) (.cst (.int (1)))) .nil)) .nil)) (.cst (.int (1)))))
  .nil))
def c_one : CS := (sSeq (sIf (cTstB (cOp2 (cop .eq) (cOp2 ixK (cVar 0) (cCst (.int (0)))) (cCst (.str [81])))) (sSeq (sRet (cTup (cCons (cCst (.int (1))) (cCons (cCst (.int (1))) cNil)))) sPass) sPass) (sSeq (sRet (cIfe (cTstB (cOp2 (cop .eq) (cOp2 ixK (cVar 0) (cCst (.int (0)))) (cCst (.str [80])))) (cTup (cCons (cCall 10 2 (cCons (cOp2 ixK (cVar 0) (cCst (.int (1)))) cNil)) cNil)) (cCst (.int (1))))) sPass))
theorem e_one : denSs i_one = c_one := rfl
def i_dot : Ss := (.cons (.asg (.nm 3) (.call 9 2 (.cons (.var 0) .nil)))
  (.cons (.fr (.tp (.cons (.nm 4) (.cons (.nm 5) .nil))) (.enum (.var 1)) (.cons (.asg (.nm 3) (.call 0 2 (.cons (.var 0) (.cons (.var 3) (.cons (.call 1 2 (.cons (.var 0) (.cons (.var 5) (.cons (.idx (.var 2) (.var 4)) .nil)))) .nil)))))
  .nil))
  (.cons (.ret (.var 3))
  .nil)))
def c_dot : CS := (sSeq (sAsg (gNm 3) (cCall 9 2 (cCons (cVar 0) cNil))) (sSeq (sFor (gTp 2 (gCons (gNm 4) (gCons (gNm 5) gNil))) (iEnum (cVar 1)) (sSeq (sAsg (gNm 3) (cCall 0 2 (cCons (cVar 0) (cCons (cVar 3) (cCons (cCall 1 2 (cCons (cVar 0) (cCons (cVar 5) (cCons (cOp2 ixK (cVar 2) (cVar 4)) cNil)))) cNil))))) sPass)) (sSeq (sRet (cVar 3)) sPass)))
theorem e_dot : denSs i_dot = c_dot := rfl
def i_belongs : Ss := (.cons (.ife (.cmp .eq (.idx (.var 0) (.cst (.int (0)))) (.cst (.str [90]))) (.cons (.ret (.call 13 2 (.cons (.var 1) .nil)))
  .nil) .nil)
  (.cons (.ife (.cmp .eq (.idx (.var 0) (.cst (.int (0)))) (.cst (.str [70]))) (.cons (.ret (.and (.call 13 2 (.cons (.var 1) .nil)) (.chain .le .lt (.cst (.int (0))) (.var 1) (.idx (.var 0) (.cst (.int (1)))))))
  .nil) .nil)
  (.cons (.ife (.not (.isi 1 (.var 1))) (.cons (.ret (.cst (.bl false)))
  .nil) .nil)
  (.cons (.ife (.cmp .eq (.idx (.var 0) (.cst (.int (0)))) (.cst (.str [81]))) (.cons (.ife (.or (.cmp .ne (.bi .len (.var 1)) (.cst (.int (2)))) (.or (.not (.call 13 2 (.cons (.idx (.var 1) (.cst (.int (0)))) .nil))) (.or (.not (.call 13 2 (.cons (.idx (.var 1) (.cst (.int (1)))) .nil))) (.cmp .lt (.idx (.var 1) (.cst (.int (1)))) (.cst (.int (1))))))) (.cons (.ret (.cst (.bl false)))
  .nil) .nil)
  (.cons (.ret (.cmp .eq (.call 14 2 (.cons (.idx (.var 1) (.cst (.int (0)))) (.cons (.idx (.var 1) (.cst (.int (1)))) .nil))) (.cst (.int (1)))))
  .nil)) .nil)
  (.cons (.fr (.nm 2) (.seq (.var 1)) (.cons (.ife (.not (.call 12 2 (.cons (.idx (.var 0) (.cst (.int (1)))) (.cons (.var 2) .nil)))) (.cons (.ret (.cst (.bl false)))
  .nil) .nil)
  .nil))
  (.cons (.ret (.or (.cmp .eq (.bi .len (.var 1)) (.cst (.int (0)))) (.cmp .ne (.idx (.var 1) (.neg (.cst (.int (1))))) (.call 9 2 (.cons (.idx (.var 0) (.cst (.int (1)))) .nil)))))
  .nil))))))
def c_belongs : CS := (sSeq (sIf (cTstB (cOp2 (cop .eq) (cOp2 ixK (cVar 0) (cCst (.int (0)))) (cCst (.str [90])))) (sSeq (sRet (cCall 13 2 (cCons (cVar 1) cNil))) sPass) sPass) (sSeq (sIf (cTstB (cOp2 (cop .eq) (cOp2 ixK (cVar 0) (cCst (.int (0)))) (cCst (.str [70])))) (sSeq (sRet (cAnd (cCall 13 2 (cCons (cVar 1) cNil)) (cChain (cop .le) (cop .lt) (cCst (.int (0))) (cVar 1) (cOp2 ixK (cVar 0) (cCst (.int (1))))))) sPass) sPass) (sSeq (sIf (bNot (cTst (cIsi 1 (cVar 1)))) (sSeq (sRet (cCst (.bl false))) sPass) sPass) (sSeq (sIf (cTstB (cOp2 (cop .eq) (cOp2 ixK (cVar 0) (cCst (.int (0)))) (cCst (.str [81])))) (sSeq (sIf (bOr (cTstB (cOp2 (cop .ne) (cBi .len (cVar 1)) (cCst (.int (2))))) (bOr (bNot (cTst (cCall 13 2 (cCons (cOp2 ixK (cVar 1) (cCst (.int (0)))) cNil)))) (bOr (bNot (cTst (cCall 13 2 (cCons (cOp2 ixK (cVar 1) (cCst (.int (1)))) cNil)))) (cTstB (cOp2 (cop .lt) (cOp2 ixK (cVar 1) (cCst (.int (1)))) (cCst (.int (1)))))))) (sSeq (sRet (cCst (.bl false))) sPass) sPass) (sSeq (sRet (cOp2 (cop .eq) (cCall 14 2 (cCons (cOp2 ixK (cVar 1) (cCst (.int (0)))) (cCons (cOp2 ixK (cVar 1) (cCst (.int (1)))) cNil))) (cCst (.int (1))))) sPass)) sPass) (sSeq (sFor (gNm 2) (iSeq (cVar 1)) (sSeq (sIf (bNot (cTst (cCall 12 2 (cCons (cOp2 ixK (cVar 0) (cCst (.int (1)))) (cCons (cVar 2) cNil))))) (sSeq (sRet (cCst (.bl false))) sPass) sPass) sPass)) (sSeq (sRet (cOr (cOp2 (cop .eq) (cBi .len (cVar 1)) (cCst (.int (0)))) (cOp2 (cop .ne) (cOp2 ixK (cVar 1) (cNeg (cCst (.int (1))))) (cCall 9 2 (cCons (cOp2 ixK (cVar 0) (cCst (.int (1)))) cNil))))) sPass))))))
theorem e_belongs : denSs i_belongs = c_belongs := rfl
def i_is_integer : Ss := (.cons (.ret (.and (.isi 0 (.var 0)) (.not (.isi 3 (.var 0)))))
  .nil)
def c_is_integer : CS := (sSeq (sRet (cAnd (cIsi 0 (cVar 0)) (cNot (cIsi 3 (cVar 0))))) sPass)
theorem e_is_integer : denSs i_is_integer = c_is_integer := rfl
def i_divisor : Ss := (.cons (.asg (.nm 0) (.bi .abs (.var 0)))
  (.cons (.asg (.nm 1) (.bi .abs (.var 1)))
  (.cons (.wh (.cmp .ne (.var 1) (.cst (.int (0)))) (.cons (.par2 0 1 (.var 1) (.bin .mod (.var 0) (.var 1)))
  .nil))
  (.cons (.ret (.var 0))
  .nil))))
def c_divisor : CS := (sSeq (sAsg (gNm 0) (cBi .abs (cVar 0))) (sSeq (sAsg (gNm 1) (cBi .abs (cVar 1))) (sSeq (sWh (cTstB (cOp2 (cop .ne) (cVar 1) (cCst (.int (0))))) (sSeq (sPar2 0 1 (cVar 1) (cOp2 (bop .mod) (cVar 0) (cVar 1))) sPass)) (sSeq (sRet (cVar 0)) sPass))))
theorem e_divisor : denSs i_divisor = c_divisor := rfl
def i__law_divisor : Ss := (.cons (.fr (.nm 2) (.rng (.cst (.int (20000)))) (.cons (.ife (.cmp .eq (.var 1) (.cst (.int (0)))) (.cons (.ret (.bi .abs (.var 0)))
  .nil) .nil)
  (.cons (.par2 0 1 (.var 1) (.bin .mod (.var 0) (.var 1)))
  .nil)))
  (.cons (.ret (.cst (.int (1))))
  .nil))
def c__law_divisor : CS := (sSeq (sFor (gNm 2) (iRng (cCst (.int (20000)))) (sSeq (sIf (cTstB (cOp2 (cop .eq) (cVar 1) (cCst (.int (0))))) (sSeq (sRet (cBi .abs (cVar 0))) sPass) sPass) (sSeq (sPar2 0 1 (cVar 1) (cOp2 (bop .mod) (cVar 0) (cVar 1))) sPass))) (sSeq (sRet (cCst (.int (1)))) sPass))
theorem e__law_divisor : denSs i__law_divisor = c__law_divisor := rfl
def i_negate : Ss := (.cons (.ife (.cmp .eq (.idx (.var 0) (.cst (.int (0)))) (.cst (.str [90]))) (.cons (.ret (.neg (.var 1)))
  .nil) .nil)
  (.cons (.ife (.cmp .eq (.idx (.var 0) (.cst (.int (0)))) (.cst (.str [70]))) (.cons (.ret (.bin .mod (.neg (.var 1)) (.idx (.var 0) (.cst (.int (1))))))
  .nil) .nil)
  (.cons (.ife (.cmp .eq (.idx (.var 0) (.cst (.int (0)))) (.cst (.str [81]))) (.cons (.ret (.tup (.cons (.neg (.idx (.var 1) (.cst (.int (0))))) (.cons (.idx (.var 1) (.cst (.int (1)))) .nil))))
  .nil) .nil)
  (.cons (.ret (.bi .tupleD (.comp [2] (.nm 2) (.seq (.var 1)) (.call 16 2 (.cons (.idx (.var 0) (.cst (.int (1)))) (.cons (.var 2) .nil))))))
  .nil))))
def c_negate : CS := (sSeq (sIf (cTstB (cOp2 (cop .eq) (cOp2 ixK (cVar 0) (cCst (.int (0)))) (cCst (.str [90])))) (sSeq (sRet (cNeg (cVar 1))) sPass) sPass) (sSeq (sIf (cTstB (cOp2 (cop .eq) (cOp2 ixK (cVar 0) (cCst (.int (0)))) (cCst (.str [70])))) (sSeq (sRet (cOp2 (bop .mod) (cNeg (cVar 1)) (cOp2 ixK (cVar 0) (cCst (.int (1)))))) sPass) sPass) (sSeq (sIf (cTstB (cOp2 (cop .eq) (cOp2 ixK (cVar 0) (cCst (.int (0)))) (cCst (.str [81])))) (sSeq (sRet (cTup (cCons (cNeg (cOp2 ixK (cVar 1) (cCst (.int (0))))) (cCons (cOp2 ixK (cVar 1) (cCst (.int (1)))) cNil)))) sPass) sPass) (sSeq (sRet (cBi .tupleD (cComp [2] (gNm 2) (iSeq (cVar 1)) none (cCall 16 2 (cCons (cOp2 ixK (cVar 0) (cCst (.int (1)))) (cCons (cVar 2) cNil)))))) sPass))))
theorem e_negate : denSs i_negate = c_negate := rfl
def i_add_line : Ss := (.cons (.fr (.nm 5) (.seq (.var 0)) (.cons (.asg (.sb (.var 5) (.var 2)) (.call 2 2 (.cons (.idx (.var 5) (.var 2)) (.cons (.call 3 2 (.cons (.var 4) (.cons (.idx (.var 5) (.var 3)) .nil))) .nil))))
  .nil))
  (.cons (.asg (.sb (.var 0) (.var 2)) (.comp [6, 7] (.tp (.cons (.nm 6) (.cons (.nm 7) .nil))) (.zip (.idx (.var 0) (.var 2)) (.idx (.var 0) (.var 3))) (.call 2 2 (.cons (.var 6) (.cons (.call 3 2 (.cons (.var 4) (.cons (.var 7) .nil))) .nil)))))
  (.cons (.fr (.nm 5) (.seq (.var 1)) (.cons (.asg (.sb (.var 5) (.var 2)) (.call 2 2 (.cons (.idx (.var 5) (.var 2)) (.cons (.call 3 2 (.cons (.var 4) (.cons (.idx (.var 5) (.var 3)) .nil))) .nil))))
  .nil))
  .nil)))
def c_add_line : CS := (sSeq (sFor (gNm 5) (iSeq (cVar 0)) (sSeq (sAsg (gSb (cVar 5) (cVar 2)) (cCall 2 2 (cCons (cOp2 ixK (cVar 5) (cVar 2)) (cCons (cCall 3 2 (cCons (cVar 4) (cCons (cOp2 ixK (cVar 5) (cVar 3)) cNil))) cNil)))) sPass)) (sSeq (sAsg (gSb (cVar 0) (cVar 2)) (cComp [6, 7] (gTp 2 (gCons (gNm 6) (gCons (gNm 7) gNil))) (iZip (cOp2 ixK (cVar 0) (cVar 2)) (cOp2 ixK (cVar 0) (cVar 3))) none (cCall 2 2 (cCons (cVar 6) (cCons (cCall 3 2 (cCons (cVar 4) (cCons (cVar 7) cNil))) cNil))))) (sSeq (sFor (gNm 5) (iSeq (cVar 1)) (sSeq (sAsg (gSb (cVar 5) (cVar 2)) (cCall 2 2 (cCons (cOp2 ixK (cVar 5) (cVar 2)) (cCons (cCall 3 2 (cCons (cVar 4) (cCons (cOp2 ixK (cVar 5) (cVar 3)) cNil))) cNil)))) sPass)) sPass)))
theorem e_add_line : denSs i_add_line = c_add_line := rfl
def i__law_take : Ss := (.cons (.ife (.cmp .lt (.idx (.var 0) (.cst (.int (2)))) (.var 1)) (.cons (.asg (.sb (.var 0) (.cst (.int (2)))) (.call 82 0 (.cons (.var 0) .nil)))
  .nil) .nil)
  (.cons (.asg (.nm 2) (.bin .mod (.bi .int (.idx (.var 0) (.cst (.int (2))))) (.var 1)))
  (.cons (.asg (.sb (.var 0) (.cst (.int (2)))) (.bin .fdiv (.idx (.var 0) (.cst (.int (2)))) (.var 1)))
  (.cons (.ret (.var 2))
  .nil))))
def c__law_take : CS := (sSeq (sIf (cTstB (cOp2 (cop .lt) (cOp2 ixK (cVar 0) (cCst (.int (2)))) (cVar 1))) (sSeq (sAsg (gSb (cVar 0) (cCst (.int (2)))) (cCall 82 0 (cCons (cVar 0) cNil))) sPass) sPass) (sSeq (sAsg (gNm 2) (cOp2 (bop .mod) (cBi .int (cOp2 ixK (cVar 0) (cCst (.int (2))))) (cVar 1))) (sSeq (sAsg (gSb (cVar 0) (cCst (.int (2)))) (cOp2 (bop .fdiv) (cOp2 ixK (cVar 0) (cCst (.int (2)))) (cVar 1))) (sSeq (sRet (cVar 2)) sPass))))
theorem e__law_take : denSs i__law_take = c__law_take := rfl
def i_add_row : Ss := (.cons (.fr (.tp (.cons (.nm 5) (.cons (.nm 6) .nil))) (.enum (.idx (.var 1) (.var 4))) (.cons (.asg (.sb (.idx (.var 1) (.var 2)) (.var 5)) (.call 0 2 (.cons (.var 0) (.cons (.idx (.idx (.var 1) (.var 2)) (.var 5)) (.cons (.call 1 2 (.cons (.var 0) (.cons (.var 3) (.cons (.var 6) .nil)))) .nil)))))
  .nil))
  .nil)
def c_add_row : CS := (sSeq (sFor (gTp 2 (gCons (gNm 5) (gCons (gNm 6) gNil))) (iEnum (cOp2 ixK (cVar 1) (cVar 4))) (sSeq (sAsg (gSb (cOp2 ixK (cVar 1) (cVar 2)) (cVar 5)) (cCall 0 2 (cCons (cVar 0) (cCons (cOp2 ixK (cOp2 ixK (cVar 1) (cVar 2)) (cVar 5)) (cCons (cCall 1 2 (cCons (cVar 0) (cCons (cVar 3) (cCons (cVar 6) cNil)))) cNil))))) sPass)) sPass)
theorem e_add_row : denSs i_add_row = c_add_row := rfl
def i_is_domain : Ss := (.cons (.ife (.or (.not (.isi 1 (.var 0))) (.or (.cmp .eq (.bi .len (.var 0)) (.cst (.int (0)))) (.not (.isi 2 (.idx (.var 0) (.cst (.int (0)))))))) (.cons (.ret (.cst (.bl false)))
  .nil) .nil)
  (.cons (.ife (.cmp .eq (.idx (.var 0) (.cst (.int (0)))) (.cst (.str [80]))) (.cons (.ret (.and (.cmp .eq (.bi .len (.var 0)) (.cst (.int (2)))) (.call 22 2 (.cons (.idx (.var 0) (.cst (.int (1)))) .nil))))
  .nil) .nil)
  (.cons (.ret (.or (.cmp .eq (.var 0) (.tup (.cons (.cst (.str [90])) .nil))) (.call 22 2 (.cons (.var 0) .nil))))
  .nil)))
def c_is_domain : CS := (sSeq (sIf (bOr (bNot (cTst (cIsi 1 (cVar 0)))) (bOr (cTstB (cOp2 (cop .eq) (cBi .len (cVar 0)) (cCst (.int (0))))) (bNot (cTst (cIsi 2 (cOp2 ixK (cVar 0) (cCst (.int (0))))))))) (sSeq (sRet (cCst (.bl false))) sPass) sPass) (sSeq (sIf (cTstB (cOp2 (cop .eq) (cOp2 ixK (cVar 0) (cCst (.int (0)))) (cCst (.str [80])))) (sSeq (sRet (cAnd (cOp2 (cop .eq) (cBi .len (cVar 0)) (cCst (.int (2)))) (cCall 22 2 (cCons (cOp2 ixK (cVar 0) (cCst (.int (1)))) cNil)))) sPass) sPass) (sSeq (sRet (cOr (cOp2 (cop .eq) (cVar 0) (cTup (cCons (cCst (.str [90])) cNil))) (cCall 22 2 (cCons (cVar 0) cNil)))) sPass)))
theorem e_is_domain : denSs i_is_domain = c_is_domain := rfl
def i_need_domain : Ss := (.cons (.ife (.not (.call 20 2 (.cons (.var 0) .nil))) (.cons .never
  .nil) .nil)
  .nil)
def c_need_domain : CS := (sSeq (sIf (bNot (cTst (cCall 20 2 (cCons (cVar 0) cNil)))) (sSeq sNever sPass) sPass) sPass)
theorem e_need_domain : denSs i_need_domain = c_need_domain := rfl
def i_is_field : Ss := (.cons (.ife (.or (.not (.isi 1 (.var 0))) (.or (.cmp .eq (.bi .len (.var 0)) (.cst (.int (0)))) (.not (.isi 2 (.idx (.var 0) (.cst (.int (0)))))))) (.cons (.ret (.cst (.bl false)))
  .nil) .nil)
  (.cons (.ife (.cmp .eq (.idx (.var 0) (.cst (.int (0)))) (.cst (.str [81]))) (.cons (.ret (.cmp .eq (.bi .len (.var 0)) (.cst (.int (1)))))
  .nil) .nil)
  (.cons (.ret (.and (.cmp .eq (.idx (.var 0) (.cst (.int (0)))) (.cst (.str [70]))) (.and (.cmp .eq (.bi .len (.var 0)) (.cst (.int (2)))) (.and (.call 13 2 (.cons (.idx (.var 0) (.cst (.int (1)))) .nil)) (.and (.chain .lt .le (.cst (.int (1))) (.idx (.var 0) (.cst (.int (1)))) (.glb (.int (65521)))) (.call 32 2 (.cons (.idx (.var 0) (.cst (.int (1)))) .nil)))))))
  .nil)))
def c_is_field : CS := (sSeq (sIf (bOr (bNot (cTst (cIsi 1 (cVar 0)))) (bOr (cTstB (cOp2 (cop .eq) (cBi .len (cVar 0)) (cCst (.int (0))))) (bNot (cTst (cIsi 2 (cOp2 ixK (cVar 0) (cCst (.int (0))))))))) (sSeq (sRet (cCst (.bl false))) sPass) sPass) (sSeq (sIf (cTstB (cOp2 (cop .eq) (cOp2 ixK (cVar 0) (cCst (.int (0)))) (cCst (.str [81])))) (sSeq (sRet (cOp2 (cop .eq) (cBi .len (cVar 0)) (cCst (.int (1))))) sPass) sPass) (sSeq (sRet (cAnd (cOp2 (cop .eq) (cOp2 ixK (cVar 0) (cCst (.int (0)))) (cCst (.str [70]))) (cAnd (cOp2 (cop .eq) (cBi .len (cVar 0)) (cCst (.int (2)))) (cAnd (cCall 13 2 (cCons (cOp2 ixK (cVar 0) (cCst (.int (1)))) cNil)) (cAnd (cChain (cop .lt) (cop .le) (cCst (.int (1))) (cOp2 ixK (cVar 0) (cCst (.int (1)))) (cCst (.int (65521)))) (cCall 32 2 (cCons (cOp2 ixK (cVar 0) (cCst (.int (1)))) cNil))))))) sPass)))
theorem e_is_field : denSs i_is_field = c_is_field := rfl
def i_need_field : Ss := (.cons (.ife (.not (.call 22 2 (.cons (.var 0) .nil))) (.cons .never
  .nil) .nil)
  .nil)
def c_need_field : CS := (sSeq (sIf (bNot (cTst (cCall 22 2 (cCons (cVar 0) cNil)))) (sSeq sNever sPass) sPass) sPass)
theorem e_need_field : denSs i_need_field = c_need_field := rfl
def i_clear_below : Ss := (.cons (.asg (.tp (.cons (.nm 3) (.cons (.nm 4) .nil))) (.idx (.idx (.var 0) (.var 1)) (.var 1)))
  (.cons (.fr (.nm 2) (.rng2 (.bin .add (.var 1) (.cst (.int (1)))) (.bi .len (.var 0))) (.cons (.asg (.nm 5) (.call 3 2 (.cons (.idx (.idx (.var 0) (.var 2)) (.var 1)) (.cons (.call 5 2 (.cons (.var 4) (.cons (.var 3) .nil))) .nil))))
  (.cons (.ife (.cmp .ne (.idx (.var 5) (.cst (.int (0)))) (.cst (.int (0)))) (.cons (.asg (.sb (.var 0) (.var 2)) (.comp [6, 7] (.tp (.cons (.nm 6) (.cons (.nm 7) .nil))) (.zip (.idx (.var 0) (.var 2)) (.idx (.var 0) (.var 1))) (.call 4 2 (.cons (.var 6) (.cons (.call 3 2 (.cons (.var 5) (.cons (.var 7) .nil))) .nil)))))
  .nil) .nil)
  .nil)))
  .nil))
def c_clear_below : CS := (sSeq (sAsg (gTp 2 (gCons (gNm 3) (gCons (gNm 4) gNil))) (cOp2 ixK (cOp2 ixK (cVar 0) (cVar 1)) (cVar 1))) (sSeq (sFor (gNm 2) (iRng2 (cOp2 (bop .add) (cVar 1) (cCst (.int (1)))) (cBi .len (cVar 0))) (sSeq (sAsg (gNm 5) (cCall 3 2 (cCons (cOp2 ixK (cOp2 ixK (cVar 0) (cVar 2)) (cVar 1)) (cCons (cCall 5 2 (cCons (cVar 4) (cCons (cVar 3) cNil))) cNil)))) (sSeq (sIf (cTstB (cOp2 (cop .ne) (cOp2 ixK (cVar 5) (cCst (.int (0)))) (cCst (.int (0))))) (sSeq (sAsg (gSb (cVar 0) (cVar 2)) (cComp [6, 7] (gTp 2 (gCons (gNm 6) (gCons (gNm 7) gNil))) (iZip (cOp2 ixK (cVar 0) (cVar 2)) (cOp2 ixK (cVar 0) (cVar 1))) none (cCall 4 2 (cCons (cVar 6) (cCons (cCall 3 2 (cCons (cVar 5) (cCons (cVar 7) cNil))) cNil))))) sPass) sPass) sPass))) sPass))
theorem e_clear_below : denSs i_clear_below = c_clear_below := rfl
def i_inverse : Ss := (.cons (.ex (.call 23 2 (.cons (.var 0) .nil)))
  (.cons (.ife (.cmp .eq (.var 1) (.call 9 2 (.cons (.var 0) .nil))) (.cons .never
  .nil) .nil)
  (.cons (.ife (.cmp .eq (.idx (.var 0) (.cst (.int (0)))) (.cst (.str [81]))) (.cons (.ret (.call 5 2 (.cons (.idx (.var 1) (.cst (.int (1)))) (.cons (.idx (.var 1) (.cst (.int (0)))) .nil))))
  .nil) .nil)
  (.cons (.asg (.tp (.cons (.nm 2) (.cons (.nm 3) (.cons (.nm 4) .nil)))) (.call 31 2 (.cons (.var 1) (.cons (.idx (.var 0) (.cst (.int (1)))) .nil))))
  (.cons (.ret (.bin .mod (.var 3) (.idx (.var 0) (.cst (.int (1))))))
  .nil)))))
def c_inverse : CS := (sSeq (sEx (cCall 23 2 (cCons (cVar 0) cNil))) (sSeq (sIf (cTstB (cOp2 (cop .eq) (cVar 1) (cCall 9 2 (cCons (cVar 0) cNil)))) (sSeq sNever sPass) sPass) (sSeq (sIf (cTstB (cOp2 (cop .eq) (cOp2 ixK (cVar 0) (cCst (.int (0)))) (cCst (.str [81])))) (sSeq (sRet (cCall 5 2 (cCons (cOp2 ixK (cVar 1) (cCst (.int (1)))) (cCons (cOp2 ixK (cVar 1) (cCst (.int (0)))) cNil)))) sPass) sPass) (sSeq (sAsg (gTp 3 (gCons (gNm 2) (gCons (gNm 3) (gCons (gNm 4) gNil)))) (cCall 31 2 (cCons (cVar 1) (cCons (cOp2 ixK (cVar 0) (cCst (.int (1)))) cNil)))) (sSeq (sRet (cOp2 (bop .mod) (cVar 3) (cOp2 ixK (cVar 0) (cCst (.int (1)))))) sPass)))))
theorem e_inverse : denSs i_inverse = c_inverse := rfl
def i_identity : Ss := (.cons (.ex (.call 21 2 (.cons (.var 0) .nil)))
  (.cons (.asg (.nm 2) (.lst .nil))
  (.cons (.fr (.nm 3) (.rng (.var 1)) (.cons (.ex (.mth .append 2 (.cons (.bi .tupleD (.comp [4] (.nm 4) (.rng (.var 1)) (.ife (.cmp .eq (.var 3) (.var 4)) (.call 10 2 (.cons (.var 0) .nil)) (.call 9 2 (.cons (.var 0) .nil))))) .nil)))
  .nil))
  (.cons (.ret (.tup (.cons (.var 1) (.cons (.var 1) (.cons (.bi .tuple (.var 2)) .nil)))))
  .nil))))
def c_identity : CS := (sSeq (sEx (cCall 21 2 (cCons (cVar 0) cNil))) (sSeq (sAsg (gNm 2) (cLst cNil)) (sSeq (sFor (gNm 3) (iRng (cVar 1)) (sSeq (sEx (cMth .append 2 (cCons (cBi .tupleD (cComp [4] (gNm 4) (iRng (cVar 1)) none (cIfe (cTstB (cOp2 (cop .eq) (cVar 3) (cVar 4))) (cCall 10 2 (cCons (cVar 0) cNil)) (cCall 9 2 (cCons (cVar 0) cNil))))) cNil))) sPass)) (sSeq (sRet (cTup (cCons (cVar 1) (cCons (cVar 1) (cCons (cBi .tuple (cVar 2)) cNil))))) sPass))))
theorem e_identity : denSs i_identity = c_identity := rfl
def i_transposed : Ss := (.cons (.ret (.tup (.cons (.idx (.var 0) (.cst (.int (1)))) (.cons (.idx (.var 0) (.cst (.int (0)))) (.cons (.bi .tupleD (.comp [1] (.nm 1) (.rng (.idx (.var 0) (.cst (.int (1))))) (.bi .tupleD (.comp [2] (.nm 2) (.seq (.idx (.var 0) (.cst (.int (2))))) (.idx (.var 2) (.var 1)))))) .nil)))))
  .nil)
def c_transposed : CS := (sSeq (sRet (cTup (cCons (cOp2 ixK (cVar 0) (cCst (.int (1)))) (cCons (cOp2 ixK (cVar 0) (cCst (.int (0)))) (cCons (cBi .tupleD (cComp [1] (gNm 1) (iRng (cOp2 ixK (cVar 0) (cCst (.int (1))))) none (cBi .tupleD (cComp [2] (gNm 2) (iSeq (cOp2 ixK (cVar 0) (cCst (.int (2))))) none (cOp2 ixK (cVar 2) (cVar 1)))))) cNil))))) sPass)
theorem e_transposed : denSs i_transposed = c_transposed := rfl
def i_times_2 : Ss := (.cons (.ex (.call 21 2 (.cons (.var 0) .nil)))
  (.cons (.ex (.call 37 2 (.cons (.cmp .eq (.idx (.var 1) (.cst (.int (1)))) (.idx (.var 2) (.cst (.int (0))))) .nil)))
  (.cons (.asg (.nm 3) (.idx (.call 27 2 (.cons (.var 2) .nil)) (.cst (.int (2)))))
  (.cons (.asg (.nm 4) (.lst .nil))
  (.cons (.fr (.nm 5) (.seq (.idx (.var 1) (.cst (.int (2))))) (.cons (.ex (.mth .append 4 (.cons (.bi .tupleD (.comp [6] (.nm 6) (.seq (.var 3)) (.call 11 2 (.cons (.var 0) (.cons (.var 5) (.cons (.var 6) .nil)))))) .nil)))
  .nil))
  (.cons (.ret (.tup (.cons (.idx (.var 1) (.cst (.int (0)))) (.cons (.idx (.var 2) (.cst (.int (1)))) (.cons (.bi .tuple (.var 4)) .nil)))))
  .nil))))))
def c_times_2 : CS := (sSeq (sEx (cCall 21 2 (cCons (cVar 0) cNil))) (sSeq (sEx (cCall 37 2 (cCons (cOp2 (cop .eq) (cOp2 ixK (cVar 1) (cCst (.int (1)))) (cOp2 ixK (cVar 2) (cCst (.int (0))))) cNil))) (sSeq (sAsg (gNm 3) (cOp2 ixK (cCall 27 2 (cCons (cVar 2) cNil)) (cCst (.int (2))))) (sSeq (sAsg (gNm 4) (cLst cNil)) (sSeq (sFor (gNm 5) (iSeq (cOp2 ixK (cVar 1) (cCst (.int (2))))) (sSeq (sEx (cMth .append 4 (cCons (cBi .tupleD (cComp [6] (gNm 6) (iSeq (cVar 3)) none (cCall 11 2 (cCons (cVar 0) (cCons (cVar 5) (cCons (cVar 6) cNil)))))) cNil))) sPass)) (sSeq (sRet (cTup (cCons (cOp2 ixK (cVar 1) (cCst (.int (0)))) (cCons (cOp2 ixK (cVar 2) (cCst (.int (1)))) (cCons (cBi .tuple (cVar 4)) cNil))))) sPass))))))
theorem e_times_2 : denSs i_times_2 = c_times_2 := rfl
def i_diagonal_form : Ss := (.cons (.asg (.nm 1) (.idx (.var 0) (.cst (.int (0)))))
  (.cons (.asg (.nm 2) (.comp [6] (.nm 6) (.seq (.idx (.var 0) (.cst (.int (2))))) (.bi .list (.var 6))))
  (.cons (.asg (.nm 3) (.comp [6] (.nm 6) (.seq (.idx (.call 26 2 (.cons (.glb (.tup [(.str [81])])) (.cons (.var 1) .nil))) (.cst (.int (2))))) (.bi .list (.var 6))))
  (.cons (.fr (.nm 4) (.rng (.var 1)) (.cons (.asg (.nm 5) (.compIf [8] (.nm 8) (.rng2 (.bin .add (.var 4) (.cst (.int (1)))) (.var 1)) (.cmp .ne (.idx (.idx (.idx (.var 2) (.var 4)) (.var 8)) (.cst (.int (0)))) (.cst (.int (0)))) (.var 8)))
  (.cons (.ife (.and (.cmp .eq (.idx (.idx (.idx (.var 2) (.var 4)) (.var 4)) (.cst (.int (0)))) (.cst (.int (0)))) (.var 5)) (.cons (.ex (.call 17 0 (.cons (.var 2) (.cons (.var 3) (.cons (.var 4) (.cons (.idx (.var 5) (.cst (.int (0)))) (.cons (.glb (.tup [(.int (1)), (.int (1))])) .nil)))))))
  (.cons (.ife (.cmp .eq (.idx (.idx (.idx (.var 2) (.var 4)) (.var 4)) (.cst (.int (0)))) (.cst (.int (0)))) (.cons (.ex (.call 17 0 (.cons (.var 2) (.cons (.var 3) (.cons (.var 4) (.cons (.idx (.var 5) (.cst (.int (0)))) (.cons (.glb (.tup [(.int (1)), (.int (1))])) .nil)))))))
  .nil) .nil)
  .nil)) .nil)
  (.cons (.ife (.cmp .ne (.idx (.idx (.idx (.var 2) (.var 4)) (.var 4)) (.cst (.int (0)))) (.cst (.int (0)))) (.cons (.asg (.nm 7) (.call 5 2 (.cons (.neg (.idx (.idx (.idx (.var 2) (.var 4)) (.var 4)) (.cst (.int (1))))) (.cons (.idx (.idx (.idx (.var 2) (.var 4)) (.var 4)) (.cst (.int (0)))) .nil))))
  (.cons (.fr (.nm 8) (.rng2 (.bin .add (.var 4) (.cst (.int (1)))) (.var 1)) (.cons (.ex (.call 17 0 (.cons (.var 2) (.cons (.var 3) (.cons (.var 8) (.cons (.var 4) (.cons (.call 3 2 (.cons (.idx (.idx (.var 2) (.var 4)) (.var 8)) (.cons (.var 7) .nil))) .nil)))))))
  .nil))
  .nil)) .nil)
  .nil))))
  (.cons (.ret (.tup (.cons (.call 30 0 (.cons (.glb (.tup [(.str [81])])) (.cons (.var 3) (.cons (.var 1) .nil)))) (.cons (.bi .tupleD (.comp [4] (.nm 4) (.rng (.var 1)) (.idx (.idx (.var 2) (.var 4)) (.var 4)))) .nil))))
  .nil)))))
def c_diagonal_form : CS := (sSeq (sAsg (gNm 1) (cOp2 ixK (cVar 0) (cCst (.int (0))))) (sSeq (sAsg (gNm 2) (cComp [6] (gNm 6) (iSeq (cOp2 ixK (cVar 0) (cCst (.int (2))))) none (cBi .list (cVar 6)))) (sSeq (sAsg (gNm 3) (cComp [6] (gNm 6) (iSeq (cOp2 ixK (cCall 26 2 (cCons (cCst (.tup [(.str [81])])) (cCons (cVar 1) cNil))) (cCst (.int (2))))) none (cBi .list (cVar 6)))) (sSeq (sFor (gNm 4) (iRng (cVar 1)) (sSeq (sAsg (gNm 5) (cComp [8] (gNm 8) (iRng2 (cOp2 (bop .add) (cVar 4) (cCst (.int (1)))) (cVar 1)) (some (cTstB (cOp2 (cop .ne) (cOp2 ixK (cOp2 ixK (cOp2 ixK (cVar 2) (cVar 4)) (cVar 8)) (cCst (.int (0)))) (cCst (.int (0)))))) (cVar 8))) (sSeq (sIf (bAnd (cTstB (cOp2 (cop .eq) (cOp2 ixK (cOp2 ixK (cOp2 ixK (cVar 2) (cVar 4)) (cVar 4)) (cCst (.int (0)))) (cCst (.int (0))))) (cTst (cVar 5))) (sSeq (sEx (cCall 17 0 (cCons (cVar 2) (cCons (cVar 3) (cCons (cVar 4) (cCons (cOp2 ixK (cVar 5) (cCst (.int (0)))) (cCons (cCst (.tup [(.int (1)), (.int (1))])) cNil))))))) (sSeq (sIf (cTstB (cOp2 (cop .eq) (cOp2 ixK (cOp2 ixK (cOp2 ixK (cVar 2) (cVar 4)) (cVar 4)) (cCst (.int (0)))) (cCst (.int (0))))) (sSeq (sEx (cCall 17 0 (cCons (cVar 2) (cCons (cVar 3) (cCons (cVar 4) (cCons (cOp2 ixK (cVar 5) (cCst (.int (0)))) (cCons (cCst (.tup [(.int (1)), (.int (1))])) cNil))))))) sPass) sPass) sPass)) sPass) (sSeq (sIf (cTstB (cOp2 (cop .ne) (cOp2 ixK (cOp2 ixK (cOp2 ixK (cVar 2) (cVar 4)) (cVar 4)) (cCst (.int (0)))) (cCst (.int (0))))) (sSeq (sAsg (gNm 7) (cCall 5 2 (cCons (cNeg (cOp2 ixK (cOp2 ixK (cOp2 ixK (cVar 2) (cVar 4)) (cVar 4)) (cCst (.int (1))))) (cCons (cOp2 ixK (cOp2 ixK (cOp2 ixK (cVar 2) (cVar 4)) (cVar 4)) (cCst (.int (0)))) cNil)))) (sSeq (sFor (gNm 8) (iRng2 (cOp2 (bop .add) (cVar 4) (cCst (.int (1)))) (cVar 1)) (sSeq (sEx (cCall 17 0 (cCons (cVar 2) (cCons (cVar 3) (cCons (cVar 8) (cCons (cVar 4) (cCons (cCall 3 2 (cCons (cOp2 ixK (cOp2 ixK (cVar 2) (cVar 4)) (cVar 8)) (cCons (cVar 7) cNil))) cNil))))))) sPass)) sPass)) sPass) sPass)))) (sSeq (sRet (cTup (cCons (cCall 30 0 (cCons (cCst (.tup [(.str [81])])) (cCons (cVar 3) (cCons (cVar 1) cNil)))) (cCons (cBi .tupleD (cComp [4] (gNm 4) (iRng (cVar 1)) none (cOp2 ixK (cOp2 ixK (cVar 2) (cVar 4)) (cVar 4)))) cNil)))) sPass)))))
theorem e_diagonal_form : denSs i_diagonal_form = c_diagonal_form := rfl
def i_matrix : Ss := (.cons (.ex (.call 21 2 (.cons (.var 0) .nil)))
  (.cons (.fr (.nm 3) (.seq (.var 1)) (.cons (.ex (.call 37 2 (.cons (.cmp .eq (.bi .len (.var 3)) (.var 2)) .nil)))
  .nil))
  (.cons (.ret (.tup (.cons (.bi .len (.var 1)) (.cons (.var 2) (.cons (.bi .tupleD (.comp [3] (.nm 3) (.seq (.var 1)) (.bi .tuple (.var 3)))) .nil)))))
  .nil)))
def c_matrix : CS := (sSeq (sEx (cCall 21 2 (cCons (cVar 0) cNil))) (sSeq (sFor (gNm 3) (iSeq (cVar 1)) (sSeq (sEx (cCall 37 2 (cCons (cOp2 (cop .eq) (cBi .len (cVar 3)) (cVar 2)) cNil))) sPass)) (sSeq (sRet (cTup (cCons (cBi .len (cVar 1)) (cCons (cVar 2) (cCons (cBi .tupleD (cComp [3] (gNm 3) (iSeq (cVar 1)) none (cBi .tuple (cVar 3)))) cNil))))) sPass)))
theorem e_matrix : denSs i_matrix = c_matrix := rfl
def i_common : Ss := (.cons (.ife (.and (.cmp .eq (.var 0) (.cst (.int (0)))) (.cmp .eq (.var 1) (.cst (.int (0))))) (.cons (.ret (.tup (.cons (.cst (.int (0))) (.cons (.cst (.int (0))) (.cons (.cst (.int (0))) .nil)))))
  .nil) .nil)
  (.cons (.ife (.cmp .eq (.var 1) (.cst (.int (0)))) (.cons (.ret (.tup (.cons (.bi .abs (.var 0)) (.cons (.ife (.cmp .gt (.var 0) (.cst (.int (0)))) (.cst (.int (1))) (.neg (.cst (.int (1))))) (.cons (.cst (.int (0))) .nil)))))
  .nil) .nil)
  (.cons (.ife (.cmp .eq (.var 0) (.cst (.int (0)))) (.cons (.ret (.tup (.cons (.bi .abs (.var 1)) (.cons (.cst (.int (0))) (.cons (.ife (.cmp .gt (.var 1) (.cst (.int (0)))) (.cst (.int (1))) (.neg (.cst (.int (1))))) .nil)))))
  .nil) .nil)
  (.cons (.asg (.nm 2) (.tup (.cons (.bi .abs (.var 0)) (.cons (.cst (.int (1))) (.cons (.cst (.int (0))) .nil)))))
  (.cons (.asg (.nm 3) (.tup (.cons (.bi .abs (.var 1)) (.cons (.cst (.int (0))) (.cons (.cst (.int (1))) .nil)))))
  (.cons (.wh (.cmp .ne (.idx (.var 3) (.cst (.int (0)))) (.cst (.int (0)))) (.cons (.asg (.nm 4) (.bin .fdiv (.idx (.var 2) (.cst (.int (0)))) (.idx (.var 3) (.cst (.int (0))))))
  (.cons (.par2 2 3 (.var 3) (.tup (.cons (.bin .sub (.idx (.var 2) (.cst (.int (0)))) (.bin .mul (.var 4) (.idx (.var 3) (.cst (.int (0)))))) (.cons (.bin .sub (.idx (.var 2) (.cst (.int (1)))) (.bin .mul (.var 4) (.idx (.var 3) (.cst (.int (1)))))) (.cons (.bin .sub (.idx (.var 2) (.cst (.int (2)))) (.bin .mul (.var 4) (.idx (.var 3) (.cst (.int (2)))))) .nil)))))
  .nil)))
  (.cons (.asg (.tp (.cons (.nm 5) (.cons (.nm 6) (.cons (.nm 7) .nil)))) (.var 2))
  (.cons (.ret (.tup (.cons (.var 5) (.cons (.ife (.cmp .gt (.var 0) (.cst (.int (0)))) (.var 6) (.neg (.var 6))) (.cons (.ife (.cmp .gt (.var 1) (.cst (.int (0)))) (.var 7) (.neg (.var 7))) .nil)))))
  .nil))))))))
def c_common : CS := (sSeq (sIf (bAnd (cTstB (cOp2 (cop .eq) (cVar 0) (cCst (.int (0))))) (cTstB (cOp2 (cop .eq) (cVar 1) (cCst (.int (0)))))) (sSeq (sRet (cTup (cCons (cCst (.int (0))) (cCons (cCst (.int (0))) (cCons (cCst (.int (0))) cNil))))) sPass) sPass) (sSeq (sIf (cTstB (cOp2 (cop .eq) (cVar 1) (cCst (.int (0))))) (sSeq (sRet (cTup (cCons (cBi .abs (cVar 0)) (cCons (cIfe (cTstB (cOp2 (cop .gt) (cVar 0) (cCst (.int (0))))) (cCst (.int (1))) (cNeg (cCst (.int (1))))) (cCons (cCst (.int (0))) cNil))))) sPass) sPass) (sSeq (sIf (cTstB (cOp2 (cop .eq) (cVar 0) (cCst (.int (0))))) (sSeq (sRet (cTup (cCons (cBi .abs (cVar 1)) (cCons (cCst (.int (0))) (cCons (cIfe (cTstB (cOp2 (cop .gt) (cVar 1) (cCst (.int (0))))) (cCst (.int (1))) (cNeg (cCst (.int (1))))) cNil))))) sPass) sPass) (sSeq (sAsg (gNm 2) (cTup (cCons (cBi .abs (cVar 0)) (cCons (cCst (.int (1))) (cCons (cCst (.int (0))) cNil))))) (sSeq (sAsg (gNm 3) (cTup (cCons (cBi .abs (cVar 1)) (cCons (cCst (.int (0))) (cCons (cCst (.int (1))) cNil))))) (sSeq (sWh (cTstB (cOp2 (cop .ne) (cOp2 ixK (cVar 3) (cCst (.int (0)))) (cCst (.int (0))))) (sSeq (sAsg (gNm 4) (cOp2 (bop .fdiv) (cOp2 ixK (cVar 2) (cCst (.int (0)))) (cOp2 ixK (cVar 3) (cCst (.int (0)))))) (sSeq (sPar2 2 3 (cVar 3) (cTup (cCons (cOp2 (bop .sub) (cOp2 ixK (cVar 2) (cCst (.int (0)))) (cOp2 (bop .mul) (cVar 4) (cOp2 ixK (cVar 3) (cCst (.int (0)))))) (cCons (cOp2 (bop .sub) (cOp2 ixK (cVar 2) (cCst (.int (1)))) (cOp2 (bop .mul) (cVar 4) (cOp2 ixK (cVar 3) (cCst (.int (1)))))) (cCons (cOp2 (bop .sub) (cOp2 ixK (cVar 2) (cCst (.int (2)))) (cOp2 (bop .mul) (cVar 4) (cOp2 ixK (cVar 3) (cCst (.int (2)))))) cNil))))) sPass))) (sSeq (sAsg (gTp 3 (gCons (gNm 5) (gCons (gNm 6) (gCons (gNm 7) gNil)))) (cVar 2)) (sSeq (sRet (cTup (cCons (cVar 5) (cCons (cIfe (cTstB (cOp2 (cop .gt) (cVar 0) (cCst (.int (0))))) (cVar 6) (cNeg (cVar 6))) (cCons (cIfe (cTstB (cOp2 (cop .gt) (cVar 1) (cCst (.int (0))))) (cVar 7) (cNeg (cVar 7))) cNil))))) sPass))))))))
theorem e_common : denSs i_common = c_common := rfl
def i_is_prime : Ss := (.cons (.ife (.cmp .lt (.var 0) (.cst (.int (4)))) (.cons (.ret (.cmp .gt (.var 0) (.cst (.int (1)))))
  .nil) .nil)
  (.cons (.ife (.cmp .eq (.bin .mod (.var 0) (.cst (.int (2)))) (.cst (.int (0)))) (.cons (.ret (.cst (.bl false)))
  .nil) .nil)
  (.cons (.asg (.nm 1) (.cst (.int (3))))
  (.cons (.wh (.cmp .le (.bin .mul (.var 1) (.var 1)) (.var 0)) (.cons (.ife (.cmp .eq (.bin .mod (.var 0) (.var 1)) (.cst (.int (0)))) (.cons (.ret (.cst (.bl false)))
  .nil) .nil)
  (.cons (.aug 1 .add (.cst (.int (2))))
  .nil)))
  (.cons (.ret (.cst (.bl true)))
  .nil)))))
def c_is_prime : CS := (sSeq (sIf (cTstB (cOp2 (cop .lt) (cVar 0) (cCst (.int (4))))) (sSeq (sRet (cOp2 (cop .gt) (cVar 0) (cCst (.int (1))))) sPass) sPass) (sSeq (sIf (cTstB (cOp2 (cop .eq) (cOp2 (bop .mod) (cVar 0) (cCst (.int (2)))) (cCst (.int (0))))) (sSeq (sRet (cCst (.bl false))) sPass) sPass) (sSeq (sAsg (gNm 1) (cCst (.int (3)))) (sSeq (sWh (cTstB (cOp2 (cop .le) (cOp2 (bop .mul) (cVar 1) (cVar 1)) (cVar 0))) (sSeq (sIf (cTstB (cOp2 (cop .eq) (cOp2 (bop .mod) (cVar 0) (cVar 1)) (cCst (.int (0))))) (sSeq (sRet (cCst (.bl false))) sPass) sPass) (sSeq (sAug 1 (augop .add) (cCst (.int (2)))) sPass))) (sSeq (sRet (cCst (.bl true))) sPass)))))
theorem e_is_prime : denSs i_is_prime = c_is_prime := rfl
def i_root : Ss := (.cons (.ife (.cmp .lt (.var 0) (.cst (.int (2)))) (.cons (.ret (.var 0))
  .nil) .nil)
  (.cons .never
  (.cons (.wh (.cmp .gt (.bin .mul (.var 1) (.var 1)) (.var 0)) (.cons (.asg (.nm 1) (.bin .fdiv (.bin .add (.var 1) (.bin .fdiv (.var 0) (.var 1))) (.cst (.int (2)))))
  .nil))
  (.cons (.ret (.var 1))
  .nil))))
def c_root : CS := (sSeq (sIf (cTstB (cOp2 (cop .lt) (cVar 0) (cCst (.int (2))))) (sSeq (sRet (cVar 0)) sPass) sPass) (sSeq sNever (sSeq (sWh (cTstB (cOp2 (cop .gt) (cOp2 (bop .mul) (cVar 1) (cVar 1)) (cVar 0))) (sSeq (sAsg (gNm 1) (cOp2 (bop .fdiv) (cOp2 (bop .add) (cVar 1) (cOp2 (bop .fdiv) (cVar 0) (cVar 1))) (cCst (.int (2))))) sPass)) (sSeq (sRet (cVar 1)) sPass))))
theorem e_root : denSs i_root = c_root := rfl
def i_is_element : Ss := (.cons (.ex (.call 21 2 (.cons (.var 0) .nil)))
  (.cons (.ret (.call 12 2 (.cons (.var 0) (.cons (.var 1) .nil))))
  .nil))
def c_is_element : CS := (sSeq (sEx (cCall 21 2 (cCons (cVar 0) cNil))) (sSeq (sRet (cCall 12 2 (cCons (cVar 0) (cCons (cVar 1) cNil)))) sPass))
theorem e_is_element : denSs i_is_element = c_is_element := rfl
def i_trimmed : Ss := (.cons (.asg (.nm 2) (.bi .len (.var 1)))
  (.cons (.wh (.and (.cmp .gt (.var 2) (.cst (.int (0)))) (.cmp .eq (.idx (.var 1) (.bin .sub (.var 2) (.cst (.int (1))))) (.call 9 2 (.cons (.var 0) .nil)))) (.cons (.aug 2 .sub (.cst (.int (1))))
  .nil))
  (.cons (.ret (.bi .tuple (.sl (.var 1) .nil (.cons (.var 2) .nil))))
  .nil)))
def c_trimmed : CS := (sSeq (sAsg (gNm 2) (cBi .len (cVar 1))) (sSeq (sWh (bAnd (cTstB (cOp2 (cop .gt) (cVar 2) (cCst (.int (0))))) (cTstB (cOp2 (cop .eq) (cOp2 ixK (cVar 1) (cOp2 (bop .sub) (cVar 2) (cCst (.int (1))))) (cCall 9 2 (cCons (cVar 0) cNil))))) (sSeq (sAug 2 (augop .sub) (cCst (.int (1)))) sPass)) (sSeq (sRet (cBi .tuple (cSl (cVar 1) oNil (oSome (cVar 2))))) sPass)))
theorem e_trimmed : denSs i_trimmed = c_trimmed := rfl
def i_is_matrix : Ss := (.cons (.ex (.call 21 2 (.cons (.var 0) .nil)))
  (.cons (.ife (.or (.not (.isi 1 (.var 1))) (.or (.cmp .ne (.bi .len (.var 1)) (.cst (.int (3)))) (.or (.not (.call 13 2 (.cons (.idx (.var 1) (.cst (.int (0)))) .nil))) (.not (.call 13 2 (.cons (.idx (.var 1) (.cst (.int (1)))) .nil)))))) (.cons (.ret (.cst (.bl false)))
  .nil) .nil)
  (.cons (.ife (.or (.not (.isi 1 (.idx (.var 1) (.cst (.int (2)))))) (.or (.cmp .ne (.bi .len (.idx (.var 1) (.cst (.int (2))))) (.idx (.var 1) (.cst (.int (0))))) (.cmp .lt (.idx (.var 1) (.cst (.int (1)))) (.cst (.int (0)))))) (.cons (.ret (.cst (.bl false)))
  .nil) .nil)
  (.cons (.fr (.nm 2) (.seq (.idx (.var 1) (.cst (.int (2))))) (.cons (.ife (.or (.not (.isi 1 (.var 2))) (.cmp .ne (.bi .len (.var 2)) (.idx (.var 1) (.cst (.int (1)))))) (.cons (.ret (.cst (.bl false)))
  .nil) .nil)
  (.cons (.fr (.nm 3) (.seq (.var 2)) (.cons (.ife (.not (.call 12 2 (.cons (.var 0) (.cons (.var 3) .nil)))) (.cons (.ret (.cst (.bl false)))
  .nil) .nil)
  .nil))
  .nil)))
  (.cons (.ret (.cst (.bl true)))
  .nil)))))
def c_is_matrix : CS := (sSeq (sEx (cCall 21 2 (cCons (cVar 0) cNil))) (sSeq (sIf (bOr (bNot (cTst (cIsi 1 (cVar 1)))) (bOr (cTstB (cOp2 (cop .ne) (cBi .len (cVar 1)) (cCst (.int (3))))) (bOr (bNot (cTst (cCall 13 2 (cCons (cOp2 ixK (cVar 1) (cCst (.int (0)))) cNil)))) (bNot (cTst (cCall 13 2 (cCons (cOp2 ixK (cVar 1) (cCst (.int (1)))) cNil))))))) (sSeq (sRet (cCst (.bl false))) sPass) sPass) (sSeq (sIf (bOr (bNot (cTst (cIsi 1 (cOp2 ixK (cVar 1) (cCst (.int (2))))))) (bOr (cTstB (cOp2 (cop .ne) (cBi .len (cOp2 ixK (cVar 1) (cCst (.int (2))))) (cOp2 ixK (cVar 1) (cCst (.int (0)))))) (cTstB (cOp2 (cop .lt) (cOp2 ixK (cVar 1) (cCst (.int (1)))) (cCst (.int (0))))))) (sSeq (sRet (cCst (.bl false))) sPass) sPass) (sSeq (sFor (gNm 2) (iSeq (cOp2 ixK (cVar 1) (cCst (.int (2))))) (sSeq (sIf (bOr (bNot (cTst (cIsi 1 (cVar 2)))) (cTstB (cOp2 (cop .ne) (cBi .len (cVar 2)) (cOp2 ixK (cVar 1) (cCst (.int (1))))))) (sSeq (sRet (cCst (.bl false))) sPass) sPass) (sSeq (sFor (gNm 3) (iSeq (cVar 2)) (sSeq (sIf (bNot (cTst (cCall 12 2 (cCons (cVar 0) (cCons (cVar 3) cNil))))) (sSeq (sRet (cCst (.bl false))) sPass) sPass) sPass)) sPass))) (sSeq (sRet (cCst (.bl true))) sPass)))))
theorem e_is_matrix : denSs i_is_matrix = c_is_matrix := rfl
def i_need_shape : Ss := (.cons (.ife (.not (.var 0)) (.cons .never
  .nil) .nil)
  .nil)
def c_need_shape : CS := (sSeq (sIf (bNot (cTst (cVar 0))) (sSeq sNever sPass) sPass) sPass)
theorem e_need_shape : denSs i_need_shape = c_need_shape := rfl
def i_applied : Ss := (.cons (.ex (.call 21 2 (.cons (.var 0) .nil)))
  (.cons (.ex (.call 37 2 (.cons (.cmp .eq (.idx (.var 1) (.cst (.int (1)))) (.bi .len (.var 2))) .nil)))
  (.cons (.ret (.bi .tupleD (.comp [3] (.nm 3) (.seq (.idx (.var 1) (.cst (.int (2))))) (.call 11 2 (.cons (.var 0) (.cons (.var 3) (.cons (.var 2) .nil)))))))
  .nil)))
def c_applied : CS := (sSeq (sEx (cCall 21 2 (cCons (cVar 0) cNil))) (sSeq (sEx (cCall 37 2 (cCons (cOp2 (cop .eq) (cOp2 ixK (cVar 1) (cCst (.int (1)))) (cBi .len (cVar 2))) cNil))) (sSeq (sRet (cBi .tupleD (cComp [3] (gNm 3) (iSeq (cOp2 ixK (cVar 1) (cCst (.int (2))))) none (cCall 11 2 (cCons (cVar 0) (cCons (cVar 3) (cCons (cVar 2) cNil))))))) sPass)))
theorem e_applied : denSs i_applied = c_applied := rfl
def i_diagonal : Ss := (.cons (.ex (.call 21 2 (.cons (.var 0) .nil)))
  (.cons (.asg (.nm 2) (.bi .sumD (.comp [5] (.nm 5) (.seq (.var 1)) (.idx (.var 5) (.cst (.int (1)))))))
  (.cons (.asg (.nm 3) (.lst .nil))
  (.cons (.asg (.nm 4) (.cst (.int (0))))
  (.cons (.fr (.nm 5) (.seq (.var 1)) (.cons (.asg (.nm 6) (.bi .tupleD (.comp [9] (.nm 9) (.rng (.var 4)) (.call 9 2 (.cons (.var 0) .nil)))))
  (.cons (.asg (.nm 7) (.bi .tupleD (.comp [9] (.nm 9) (.rng (.bin .sub (.bin .sub (.var 2) (.var 4)) (.idx (.var 5) (.cst (.int (1)))))) (.call 9 2 (.cons (.var 0) .nil)))))
  (.cons (.fr (.nm 8) (.seq (.idx (.var 5) (.cst (.int (2))))) (.cons (.ex (.mth .append 3 (.cons (.bin .add (.bin .add (.var 6) (.var 8)) (.var 7)) .nil)))
  .nil))
  (.cons (.aug 4 .add (.idx (.var 5) (.cst (.int (1)))))
  .nil)))))
  (.cons (.ret (.tup (.cons (.bi .len (.var 3)) (.cons (.var 2) (.cons (.bi .tuple (.var 3)) .nil)))))
  .nil))))))
def c_diagonal : CS := (sSeq (sEx (cCall 21 2 (cCons (cVar 0) cNil))) (sSeq (sAsg (gNm 2) (cBi .sumD (cComp [5] (gNm 5) (iSeq (cVar 1)) none (cOp2 ixK (cVar 5) (cCst (.int (1))))))) (sSeq (sAsg (gNm 3) (cLst cNil)) (sSeq (sAsg (gNm 4) (cCst (.int (0)))) (sSeq (sFor (gNm 5) (iSeq (cVar 1)) (sSeq (sAsg (gNm 6) (cBi .tupleD (cComp [9] (gNm 9) (iRng (cVar 4)) none (cCall 9 2 (cCons (cVar 0) cNil))))) (sSeq (sAsg (gNm 7) (cBi .tupleD (cComp [9] (gNm 9) (iRng (cOp2 (bop .sub) (cOp2 (bop .sub) (cVar 2) (cVar 4)) (cOp2 ixK (cVar 5) (cCst (.int (1)))))) none (cCall 9 2 (cCons (cVar 0) cNil))))) (sSeq (sFor (gNm 8) (iSeq (cOp2 ixK (cVar 5) (cCst (.int (2))))) (sSeq (sEx (cMth .append 3 (cCons (cOp2 (bop .add) (cOp2 (bop .add) (cVar 6) (cVar 8)) (cVar 7)) cNil))) sPass)) (sSeq (sAug 4 (augop .add) (cOp2 ixK (cVar 5) (cCst (.int (1))))) sPass))))) (sSeq (sRet (cTup (cCons (cBi .len (cVar 3)) (cCons (cVar 2) (cCons (cBi .tuple (cVar 3)) cNil))))) sPass))))))
theorem e_diagonal : denSs i_diagonal = c_diagonal := rfl
def i_eliminate : Ss := (.cons (.asg (.nm 3) (.lst .nil))
  (.cons (.fr (.nm 4) (.rng (.var 2)) (.cons (.asg (.nm 5) (.bi .len (.var 3)))
  (.cons (.asg (.nm 6) (.compIf [8] (.nm 8) (.rng2 (.var 5) (.bi .len (.var 1))) (.cmp .ne (.idx (.idx (.var 1) (.var 8)) (.var 4)) (.call 9 2 (.cons (.var 0) .nil))) (.var 8)))
  (.cons (.ife (.not (.var 6)) (.cons .cont
  .nil) .nil)
  (.cons (.asg (.tp (.cons (.sb (.var 1) (.var 5)) (.cons (.sb (.var 1) (.idx (.var 6) (.cst (.int (0))))) .nil))) (.tup (.cons (.idx (.var 1) (.idx (.var 6) (.cst (.int (0))))) (.cons (.idx (.var 1) (.var 5)) .nil))))
  (.cons (.asg (.nm 7) (.call 25 2 (.cons (.var 0) (.cons (.idx (.idx (.var 1) (.var 5)) (.var 4)) .nil))))
  (.cons (.asg (.sb (.var 1) (.var 5)) (.comp [9] (.nm 9) (.seq (.idx (.var 1) (.var 5))) (.call 1 2 (.cons (.var 0) (.cons (.var 7) (.cons (.var 9) .nil))))))
  (.cons (.fr (.nm 8) (.rng (.bi .len (.var 1))) (.cons (.ife (.and (.cmp .ne (.var 8) (.var 5)) (.cmp .ne (.idx (.idx (.var 1) (.var 8)) (.var 4)) (.call 9 2 (.cons (.var 0) .nil)))) (.cons (.ex (.call 19 0 (.cons (.var 0) (.cons (.var 1) (.cons (.var 8) (.cons (.call 16 2 (.cons (.var 0) (.cons (.idx (.idx (.var 1) (.var 8)) (.var 4)) .nil))) (.cons (.var 5) .nil)))))))
  .nil) .nil)
  .nil))
  (.cons (.ex (.mth .append 3 (.cons (.var 4) .nil)))
  .nil)))))))))
  (.cons (.ret (.bi .tuple (.var 3)))
  .nil)))
def c_eliminate : CS := (sSeq (sAsg (gNm 3) (cLst cNil)) (sSeq (sFor (gNm 4) (iRng (cVar 2)) (sSeq (sAsg (gNm 5) (cBi .len (cVar 3))) (sSeq (sAsg (gNm 6) (cComp [8] (gNm 8) (iRng2 (cVar 5) (cBi .len (cVar 1))) (some (cTstB (cOp2 (cop .ne) (cOp2 ixK (cOp2 ixK (cVar 1) (cVar 8)) (cVar 4)) (cCall 9 2 (cCons (cVar 0) cNil))))) (cVar 8))) (sSeq (sIf (bNot (cTst (cVar 6))) (sSeq sCont sPass) sPass) (sSeq (sAsg (gTp 2 (gCons (gSb (cVar 1) (cVar 5)) (gCons (gSb (cVar 1) (cOp2 ixK (cVar 6) (cCst (.int (0))))) gNil))) (cTup (cCons (cOp2 ixK (cVar 1) (cOp2 ixK (cVar 6) (cCst (.int (0))))) (cCons (cOp2 ixK (cVar 1) (cVar 5)) cNil)))) (sSeq (sAsg (gNm 7) (cCall 25 2 (cCons (cVar 0) (cCons (cOp2 ixK (cOp2 ixK (cVar 1) (cVar 5)) (cVar 4)) cNil)))) (sSeq (sAsg (gSb (cVar 1) (cVar 5)) (cComp [9] (gNm 9) (iSeq (cOp2 ixK (cVar 1) (cVar 5))) none (cCall 1 2 (cCons (cVar 0) (cCons (cVar 7) (cCons (cVar 9) cNil)))))) (sSeq (sFor (gNm 8) (iRng (cBi .len (cVar 1))) (sSeq (sIf (bAnd (cTstB (cOp2 (cop .ne) (cVar 8) (cVar 5))) (cTstB (cOp2 (cop .ne) (cOp2 ixK (cOp2 ixK (cVar 1) (cVar 8)) (cVar 4)) (cCall 9 2 (cCons (cVar 0) cNil))))) (sSeq (sEx (cCall 19 0 (cCons (cVar 0) (cCons (cVar 1) (cCons (cVar 8) (cCons (cCall 16 2 (cCons (cVar 0) (cCons (cOp2 ixK (cOp2 ixK (cVar 1) (cVar 8)) (cVar 4)) cNil))) (cCons (cVar 5) cNil))))))) sPass) sPass) sPass)) (sSeq (sEx (cMth .append 3 (cCons (cVar 4) cNil))) sPass))))))))) (sSeq (sRet (cBi .tuple (cVar 3))) sPass)))
theorem e_eliminate : denSs i_eliminate = c_eliminate := rfl
def i_pivots_of : Ss := (.cons (.ex (.call 23 2 (.cons (.var 0) .nil)))
  (.cons (.asg (.nm 2) (.comp [3] (.nm 3) (.seq (.idx (.var 1) (.cst (.int (2))))) (.bi .list (.var 3))))
  (.cons (.ret (.tup (.cons (.var 2) (.cons (.call 40 0 (.cons (.var 0) (.cons (.var 2) (.cons (.idx (.var 1) (.cst (.int (1)))) .nil)))) .nil))))
  .nil)))
def c_pivots_of : CS := (sSeq (sEx (cCall 23 2 (cCons (cVar 0) cNil))) (sSeq (sAsg (gNm 2) (cComp [3] (gNm 3) (iSeq (cOp2 ixK (cVar 1) (cCst (.int (2))))) none (cBi .list (cVar 3)))) (sSeq (sRet (cTup (cCons (cVar 2) (cCons (cCall 40 0 (cCons (cVar 0) (cCons (cVar 2) (cCons (cOp2 ixK (cVar 1) (cCst (.int (1)))) cNil)))) cNil)))) sPass)))
theorem e_pivots_of : denSs i_pivots_of = c_pivots_of := rfl
def i_rank : Ss := (.cons (.ret (.bi .len (.idx (.call 41 1 (.cons (.var 0) (.cons (.var 1) .nil))) (.cst (.int (1))))))
  .nil)
def c_rank : CS := (sSeq (sRet (cBi .len (cOp2 ixK (cCall 41 1 (cCons (cVar 0) (cCons (cVar 1) cNil))) (cCst (.int (1)))))) sPass)
theorem e_rank : denSs i_rank = c_rank := rfl
def i_kernel : Ss := (.cons (.asg (.tp (.cons (.nm 4) (.cons (.nm 5) .nil))) (.call 41 1 (.cons (.var 0) (.cons (.var 1) .nil))))
  (.cons (.asg (.nm 2) (.lst .nil))
  (.cons (.fr (.nm 3) (.rng (.idx (.var 1) (.cst (.int (1))))) (.cons (.ife (.cmp .inn (.var 3) (.var 5)) (.cons .cont
  .nil) .nil)
  (.cons (.asg (.nm 6) (.comp [9] (.nm 9) (.rng (.idx (.var 1) (.cst (.int (1))))) (.call 9 2 (.cons (.var 0) .nil))))
  (.cons (.asg (.sb (.var 6) (.var 3)) (.call 10 2 (.cons (.var 0) .nil)))
  (.cons (.fr (.tp (.cons (.nm 7) (.cons (.nm 8) .nil))) (.enum (.var 5)) (.cons (.asg (.sb (.var 6) (.var 8)) (.call 16 2 (.cons (.var 0) (.cons (.idx (.idx (.var 4) (.var 7)) (.var 3)) .nil))))
  .nil))
  (.cons (.ex (.mth .append 2 (.cons (.bi .tuple (.var 6)) .nil)))
  .nil))))))
  (.cons (.ret (.call 27 2 (.cons (.tup (.cons (.bi .len (.var 2)) (.cons (.idx (.var 1) (.cst (.int (1)))) (.cons (.bi .tuple (.var 2)) .nil)))) .nil)))
  .nil))))
def c_kernel : CS := (sSeq (sAsg (gTp 2 (gCons (gNm 4) (gCons (gNm 5) gNil))) (cCall 41 1 (cCons (cVar 0) (cCons (cVar 1) cNil)))) (sSeq (sAsg (gNm 2) (cLst cNil)) (sSeq (sFor (gNm 3) (iRng (cOp2 ixK (cVar 1) (cCst (.int (1))))) (sSeq (sIf (cTstB (cOp2 (cop .inn) (cVar 3) (cVar 5))) (sSeq sCont sPass) sPass) (sSeq (sAsg (gNm 6) (cComp [9] (gNm 9) (iRng (cOp2 ixK (cVar 1) (cCst (.int (1))))) none (cCall 9 2 (cCons (cVar 0) cNil)))) (sSeq (sAsg (gSb (cVar 6) (cVar 3)) (cCall 10 2 (cCons (cVar 0) cNil))) (sSeq (sFor (gTp 2 (gCons (gNm 7) (gCons (gNm 8) gNil))) (iEnum (cVar 5)) (sSeq (sAsg (gSb (cVar 6) (cVar 8)) (cCall 16 2 (cCons (cVar 0) (cCons (cOp2 ixK (cOp2 ixK (cVar 4) (cVar 7)) (cVar 3)) cNil)))) sPass)) (sSeq (sEx (cMth .append 2 (cCons (cBi .tuple (cVar 6)) cNil))) sPass)))))) (sSeq (sRet (cCall 27 2 (cCons (cTup (cCons (cBi .len (cVar 2)) (cCons (cOp2 ixK (cVar 1) (cCst (.int (1)))) (cCons (cBi .tuple (cVar 2)) cNil)))) cNil))) sPass))))
theorem e_kernel : denSs i_kernel = c_kernel := rfl
def i_form_word : Ss := (.cons (.asg (.nm 1) (.comp [5] (.nm 5) (.seq (.idx (.var 0) (.cst (.int (2))))) (.bi .list (.var 5))))
  (.cons (.asg (.nm 2) (.cst (.str [112, 111, 115, 105, 116, 105, 118, 101])))
  (.cons (.fr (.nm 3) (.rng (.idx (.var 0) (.cst (.int (0))))) (.cons (.asg (.nm 4) (.idx (.idx (.var 1) (.var 3)) (.var 3)))
  (.cons (.ife (.or (.cmp .lt (.idx (.var 4) (.cst (.int (0)))) (.cst (.int (0)))) (.and (.cmp .eq (.idx (.var 4) (.cst (.int (0)))) (.cst (.int (0)))) (.bi .anyD (.comp [6] (.nm 6) (.seq (.sl (.idx (.var 1) (.var 3)) (.cons (.var 3) .nil) .nil)) (.cmp .ne (.idx (.var 6) (.cst (.int (0)))) (.cst (.int (0)))))))) (.cons (.ret (.cst (.str [110, 101, 105, 116, 104, 101, 114])))
  .nil) .nil)
  (.cons (.ife (.cmp .eq (.idx (.var 4) (.cst (.int (0)))) (.cst (.int (0)))) (.cons (.asg (.nm 2) (.cst (.str [110, 111, 116, 32, 110, 101, 103, 97, 116, 105, 118, 101])))
  .nil) (.cons (.ex (.call 24 0 (.cons (.var 1) (.cons (.var 3) .nil))))
  .nil))
  .nil))))
  (.cons (.ret (.var 2))
  .nil))))
def c_form_word : CS := (sSeq (sAsg (gNm 1) (cComp [5] (gNm 5) (iSeq (cOp2 ixK (cVar 0) (cCst (.int (2))))) none (cBi .list (cVar 5)))) (sSeq (sAsg (gNm 2) (cCst (.str [112, 111, 115, 105, 116, 105, 118, 101]))) (sSeq (sFor (gNm 3) (iRng (cOp2 ixK (cVar 0) (cCst (.int (0))))) (sSeq (sAsg (gNm 4) (cOp2 ixK (cOp2 ixK (cVar 1) (cVar 3)) (cVar 3))) (sSeq (sIf (bOr (cTstB (cOp2 (cop .lt) (cOp2 ixK (cVar 4) (cCst (.int (0)))) (cCst (.int (0))))) (bAnd (cTstB (cOp2 (cop .eq) (cOp2 ixK (cVar 4) (cCst (.int (0)))) (cCst (.int (0))))) (cTst (cBi .anyD (cComp [6] (gNm 6) (iSeq (cSl (cOp2 ixK (cVar 1) (cVar 3)) (oSome (cVar 3)) oNil)) none (cOp2 (cop .ne) (cOp2 ixK (cVar 6) (cCst (.int (0)))) (cCst (.int (0))))))))) (sSeq (sRet (cCst (.str [110, 101, 105, 116, 104, 101, 114]))) sPass) sPass) (sSeq (sIf (cTstB (cOp2 (cop .eq) (cOp2 ixK (cVar 4) (cCst (.int (0)))) (cCst (.int (0))))) (sSeq (sAsg (gNm 2) (cCst (.str [110, 111, 116, 32, 110, 101, 103, 97, 116, 105, 118, 101]))) sPass) (sSeq (sEx (cCall 24 0 (cCons (cVar 1) (cCons (cVar 3) cNil)))) sPass)) sPass)))) (sSeq (sRet (cVar 2)) sPass))))
theorem e_form_word : denSs i_form_word = c_form_word := rfl
def i_numbers_in : Ss := (.cons (.asg (.nm 1) (.lst .nil))
  (.cons (.asg (.nm 2) (.lst (.cons (.var 0) .nil)))
  (.cons (.wh (.var 2) (.cons (.asg (.nm 3) (.mth .pop 2 .nil))
  (.cons (.ife (.isi 1 (.var 3)) (.cons (.ex (.mth .extend 2 (.cons (.var 3) .nil)))
  .nil) (.cons (.ife (.isi 0 (.var 3)) (.cons (.ex (.mth .append 1 (.cons (.bi .abs (.var 3)) .nil)))
  .nil) .nil)
  .nil))
  .nil)))
  (.cons (.ret (.var 1))
  .nil))))
def c_numbers_in : CS := (sSeq (sAsg (gNm 1) (cLst cNil)) (sSeq (sAsg (gNm 2) (cLst (cCons (cVar 0) cNil))) (sSeq (sWh (cTst (cVar 2)) (sSeq (sAsg (gNm 3) (cMth .pop 2 cNil)) (sSeq (sIf (cTst (cIsi 1 (cVar 3))) (sSeq (sEx (cMth .extend 2 (cCons (cVar 3) cNil))) sPass) (sSeq (sIf (cTst (cIsi 0 (cVar 3))) (sSeq (sEx (cMth .append 1 (cCons (cBi .abs (cVar 3)) cNil))) sPass) sPass) sPass)) sPass))) (sSeq (sRet (cVar 1)) sPass))))
theorem e_numbers_in : denSs i_numbers_in = c_numbers_in := rfl
def i_is_vector : Ss := (.cons (.ret (.and (.isi 1 (.var 0)) (.and (.cmp .eq (.bi .len (.var 0)) (.var 1)) (.bi .allD (.comp [2] (.nm 2) (.seq (.var 0)) (.call 34 2 (.cons (.glb (.tup [(.str [81])])) (.cons (.var 2) .nil))))))))
  .nil)
def c_is_vector : CS := (sSeq (sRet (cAnd (cIsi 1 (cVar 0)) (cAnd (cOp2 (cop .eq) (cBi .len (cVar 0)) (cVar 1)) (cBi .allD (cComp [2] (gNm 2) (iSeq (cVar 0)) none (cCall 34 2 (cCons (cCst (.tup [(.str [81])])) (cCons (cVar 2) cNil)))))))) sPass)
theorem e_is_vector : denSs i_is_vector = c_is_vector := rfl
def i_is_nothing : Ss := (.cons (.ret (.bi .allD (.comp [1] (.nm 1) (.seq (.var 0)) (.cmp .eq (.idx (.var 1) (.cst (.int (0)))) (.cst (.int (0)))))))
  .nil)
def c_is_nothing : CS := (sSeq (sRet (cBi .allD (cComp [1] (gNm 1) (iSeq (cVar 0)) none (cOp2 (cop .eq) (cOp2 ixK (cVar 1) (cCst (.int (0)))) (cCst (.int (0))))))) sPass)
theorem e_is_nothing : denSs i_is_nothing = c_is_nothing := rfl
def i_parted : Ss := (.cons (.asg (.nm 2) (.bin .mul (.idx (.var 0) (.cst (.int (0)))) (.idx (.var 0) (.cst (.int (1))))))
  (.cons (.asg (.nm 3) (.cst (.int (0))))
  (.cons (.wh (.cmp .eq (.bin .mod (.var 2) (.var 1)) (.cst (.int (0)))) (.cons (.asg (.nm 2) (.bin .fdiv (.var 2) (.var 1)))
  (.cons (.aug 3 .add (.cst (.int (1))))
  .nil)))
  (.cons (.ret (.tup (.cons (.var 3) (.cons (.var 2) .nil))))
  .nil))))
def c_parted : CS := (sSeq (sAsg (gNm 2) (cOp2 (bop .mul) (cOp2 ixK (cVar 0) (cCst (.int (0)))) (cOp2 ixK (cVar 0) (cCst (.int (1)))))) (sSeq (sAsg (gNm 3) (cCst (.int (0)))) (sSeq (sWh (cTstB (cOp2 (cop .eq) (cOp2 (bop .mod) (cVar 2) (cVar 1)) (cCst (.int (0))))) (sSeq (sAsg (gNm 2) (cOp2 (bop .fdiv) (cVar 2) (cVar 1))) (sSeq (sAug 3 (augop .add) (cCst (.int (1)))) sPass))) (sSeq (sRet (cTup (cCons (cVar 3) (cCons (cVar 2) cNil)))) sPass))))
theorem e_parted : denSs i_parted = c_parted := rfl
def i_power_modulo : Ss := (.cons (.asg (.nm 3) (.cst (.int (1))))
  (.cons (.asg (.nm 0) (.bin .mod (.var 0) (.var 2)))
  (.cons (.wh (.cmp .gt (.var 1) (.cst (.int (0)))) (.cons (.ife (.cmp .eq (.bin .mod (.var 1) (.cst (.int (2)))) (.cst (.int (1)))) (.cons (.asg (.nm 3) (.bin .mod (.bin .mul (.var 3) (.var 0)) (.var 2)))
  .nil) .nil)
  (.cons (.asg (.nm 0) (.bin .mod (.bin .mul (.var 0) (.var 0)) (.var 2)))
  (.cons (.asg (.nm 1) (.bin .fdiv (.var 1) (.cst (.int (2)))))
  .nil))))
  (.cons (.ret (.var 3))
  .nil))))
def c_power_modulo : CS := (sSeq (sAsg (gNm 3) (cCst (.int (1)))) (sSeq (sAsg (gNm 0) (cOp2 (bop .mod) (cVar 0) (cVar 2))) (sSeq (sWh (cTstB (cOp2 (cop .gt) (cVar 1) (cCst (.int (0))))) (sSeq (sIf (cTstB (cOp2 (cop .eq) (cOp2 (bop .mod) (cVar 1) (cCst (.int (2)))) (cCst (.int (1))))) (sSeq (sAsg (gNm 3) (cOp2 (bop .mod) (cOp2 (bop .mul) (cVar 3) (cVar 0)) (cVar 2))) sPass) sPass) (sSeq (sAsg (gNm 0) (cOp2 (bop .mod) (cOp2 (bop .mul) (cVar 0) (cVar 0)) (cVar 2))) (sSeq (sAsg (gNm 1) (cOp2 (bop .fdiv) (cVar 1) (cCst (.int (2))))) sPass)))) (sSeq (sRet (cVar 3)) sPass))))
theorem e_power_modulo : denSs i_power_modulo = c_power_modulo := rfl
def i_residue_sign : Ss := (.cons (.ret (.ife (.cmp .eq (.call 49 2 (.cons (.var 0) (.cons (.bin .fdiv (.bin .sub (.var 1) (.cst (.int (1)))) (.cst (.int (2)))) (.cons (.var 1) .nil)))) (.cst (.int (1)))) (.cst (.int (1))) (.neg (.cst (.int (1))))))
  .nil)
def c_residue_sign : CS := (sSeq (sRet (cIfe (cTstB (cOp2 (cop .eq) (cCall 49 2 (cCons (cVar 0) (cCons (cOp2 (bop .fdiv) (cOp2 (bop .sub) (cVar 1) (cCst (.int (1)))) (cCst (.int (2)))) (cCons (cVar 1) cNil)))) (cCst (.int (1))))) (cCst (.int (1))) (cNeg (cCst (.int (1)))))) sPass)
theorem e_residue_sign : denSs i_residue_sign = c_residue_sign := rfl
def i_symbol : Ss := (.cons (.asg (.tp (.cons (.nm 4) (.cons (.nm 5) .nil))) (.call 48 2 (.cons (.var 0) (.cons (.var 2) .nil))))
  (.cons (.asg (.tp (.cons (.nm 6) (.cons (.nm 7) .nil))) (.call 48 2 (.cons (.var 1) (.cons (.var 2) .nil))))
  (.cons (.ife (.cmp .eq (.var 2) (.cst (.int (2)))) (.cons (.asg (.nm 8) (.bin .add (.bin .add (.bin .mul (.bin .fdiv (.bin .sub (.var 5) (.cst (.int (1)))) (.cst (.int (2)))) (.bin .fdiv (.bin .sub (.var 7) (.cst (.int (1)))) (.cst (.int (2))))) (.bin .mul (.var 4) (.bin .fdiv (.bin .sub (.bin .mul (.var 7) (.var 7)) (.cst (.int (1)))) (.cst (.int (8)))))) (.bin .mul (.var 6) (.bin .fdiv (.bin .sub (.bin .mul (.var 5) (.var 5)) (.cst (.int (1)))) (.cst (.int (8)))))))
  (.cons (.ret (.ife (.cmp .eq (.bin .mod (.var 8) (.cst (.int (2)))) (.cst (.int (1)))) (.neg (.cst (.int (1)))) (.cst (.int (1)))))
  .nil)) .nil)
  (.cons (.asg (.nm 3) (.ife (.cmp .eq (.bin .mod (.bin .mul (.bin .mul (.var 4) (.var 6)) (.bin .fdiv (.bin .sub (.var 2) (.cst (.int (1)))) (.cst (.int (2))))) (.cst (.int (2)))) (.cst (.int (1)))) (.neg (.cst (.int (1)))) (.cst (.int (1)))))
  (.cons (.ife (.cmp .eq (.bin .mod (.var 6) (.cst (.int (2)))) (.cst (.int (1)))) (.cons (.asg (.nm 3) (.bin .mul (.var 3) (.call 50 2 (.cons (.var 5) (.cons (.var 2) .nil)))))
  .nil) .nil)
  (.cons (.ife (.cmp .eq (.bin .mod (.var 4) (.cst (.int (2)))) (.cst (.int (1)))) (.cons (.asg (.nm 3) (.bin .mul (.var 3) (.call 50 2 (.cons (.var 7) (.cons (.var 2) .nil)))))
  .nil) .nil)
  (.cons (.ret (.var 3))
  .nil)))))))
def c_symbol : CS := (sSeq (sAsg (gTp 2 (gCons (gNm 4) (gCons (gNm 5) gNil))) (cCall 48 2 (cCons (cVar 0) (cCons (cVar 2) cNil)))) (sSeq (sAsg (gTp 2 (gCons (gNm 6) (gCons (gNm 7) gNil))) (cCall 48 2 (cCons (cVar 1) (cCons (cVar 2) cNil)))) (sSeq (sIf (cTstB (cOp2 (cop .eq) (cVar 2) (cCst (.int (2))))) (sSeq (sAsg (gNm 8) (cOp2 (bop .add) (cOp2 (bop .add) (cOp2 (bop .mul) (cOp2 (bop .fdiv) (cOp2 (bop .sub) (cVar 5) (cCst (.int (1)))) (cCst (.int (2)))) (cOp2 (bop .fdiv) (cOp2 (bop .sub) (cVar 7) (cCst (.int (1)))) (cCst (.int (2))))) (cOp2 (bop .mul) (cVar 4) (cOp2 (bop .fdiv) (cOp2 (bop .sub) (cOp2 (bop .mul) (cVar 7) (cVar 7)) (cCst (.int (1)))) (cCst (.int (8)))))) (cOp2 (bop .mul) (cVar 6) (cOp2 (bop .fdiv) (cOp2 (bop .sub) (cOp2 (bop .mul) (cVar 5) (cVar 5)) (cCst (.int (1)))) (cCst (.int (8))))))) (sSeq (sRet (cIfe (cTstB (cOp2 (cop .eq) (cOp2 (bop .mod) (cVar 8) (cCst (.int (2)))) (cCst (.int (1))))) (cNeg (cCst (.int (1)))) (cCst (.int (1))))) sPass)) sPass) (sSeq (sAsg (gNm 3) (cIfe (cTstB (cOp2 (cop .eq) (cOp2 (bop .mod) (cOp2 (bop .mul) (cOp2 (bop .mul) (cVar 4) (cVar 6)) (cOp2 (bop .fdiv) (cOp2 (bop .sub) (cVar 2) (cCst (.int (1)))) (cCst (.int (2))))) (cCst (.int (2)))) (cCst (.int (1))))) (cNeg (cCst (.int (1)))) (cCst (.int (1))))) (sSeq (sIf (cTstB (cOp2 (cop .eq) (cOp2 (bop .mod) (cVar 6) (cCst (.int (2)))) (cCst (.int (1))))) (sSeq (sAsg (gNm 3) (cOp2 (bop .mul) (cVar 3) (cCall 50 2 (cCons (cVar 5) (cCons (cVar 2) cNil))))) sPass) sPass) (sSeq (sIf (cTstB (cOp2 (cop .eq) (cOp2 (bop .mod) (cVar 4) (cCst (.int (2)))) (cCst (.int (1))))) (sSeq (sAsg (gNm 3) (cOp2 (bop .mul) (cVar 3) (cCall 50 2 (cCons (cVar 7) (cCons (cVar 2) cNil))))) sPass) sPass) (sSeq (sRet (cVar 3)) sPass)))))))
theorem e_symbol : denSs i_symbol = c_symbol := rfl
def i_square_at : Ss := (.cons (.asg (.tp (.cons (.nm 2) (.cons (.nm 3) .nil))) (.call 48 2 (.cons (.var 0) (.cons (.var 1) .nil))))
  (.cons (.ife (.cmp .eq (.bin .mod (.var 2) (.cst (.int (2)))) (.cst (.int (1)))) (.cons (.ret (.cst (.bl false)))
  .nil) .nil)
  (.cons (.ret (.ife (.cmp .eq (.var 1) (.cst (.int (2)))) (.cmp .eq (.bin .mod (.var 3) (.cst (.int (8)))) (.cst (.int (1)))) (.cmp .eq (.call 50 2 (.cons (.var 3) (.cons (.var 1) .nil))) (.cst (.int (1))))))
  .nil)))
def c_square_at : CS := (sSeq (sAsg (gTp 2 (gCons (gNm 2) (gCons (gNm 3) gNil))) (cCall 48 2 (cCons (cVar 0) (cCons (cVar 1) cNil)))) (sSeq (sIf (cTstB (cOp2 (cop .eq) (cOp2 (bop .mod) (cVar 2) (cCst (.int (2)))) (cCst (.int (1))))) (sSeq (sRet (cCst (.bl false))) sPass) sPass) (sSeq (sRet (cIfe (cTstB (cOp2 (cop .eq) (cVar 1) (cCst (.int (2))))) (cOp2 (cop .eq) (cOp2 (bop .mod) (cVar 3) (cCst (.int (8)))) (cCst (.int (1)))) (cOp2 (cop .eq) (cCall 50 2 (cCons (cVar 3) (cCons (cVar 1) cNil))) (cCst (.int (1)))))) sPass)))
theorem e_square_at : denSs i_square_at = c_square_at := rfl
def i_product_of : Ss := (.cons (.asg (.nm 1) (.glb (.tup [(.int (1)), (.int (1))])))
  (.cons (.fr (.nm 2) (.seq (.var 0)) (.cons (.asg (.nm 1) (.call 3 2 (.cons (.var 1) (.cons (.var 2) .nil))))
  .nil))
  (.cons (.ret (.var 1))
  .nil)))
def c_product_of : CS := (sSeq (sAsg (gNm 1) (cCst (.tup [(.int (1)), (.int (1))]))) (sSeq (sFor (gNm 2) (iSeq (cVar 0)) (sSeq (sAsg (gNm 1) (cCall 3 2 (cCons (cVar 1) (cCons (cVar 2) cNil)))) sPass)) (sSeq (sRet (cVar 1)) sPass)))
theorem e_product_of : denSs i_product_of = c_product_of := rfl
def i_negative : Ss := (.cons (.ret (.tup (.cons (.neg (.idx (.var 0) (.cst (.int (0))))) (.cons (.idx (.var 0) (.cst (.int (1)))) .nil))))
  .nil)
def c_negative : CS := (sSeq (sRet (cTup (cCons (cNeg (cOp2 ixK (cVar 0) (cCst (.int (0))))) (cCons (cOp2 ixK (cVar 0) (cCst (.int (1)))) cNil)))) sPass)
theorem e_negative : denSs i_negative = c_negative := rfl
def i_symbols_of : Ss := (.cons (.asg (.nm 2) (.cst (.int (1))))
  (.cons (.fr (.nm 3) (.rng (.bi .len (.var 0))) (.cons (.fr (.nm 4) (.rng (.var 3)) (.cons (.asg (.nm 2) (.bin .mul (.var 2) (.call 51 2 (.cons (.idx (.var 0) (.var 4)) (.cons (.idx (.var 0) (.var 3)) (.cons (.var 1) .nil))))))
  .nil))
  .nil))
  (.cons (.ret (.var 2))
  .nil)))
def c_symbols_of : CS := (sSeq (sAsg (gNm 2) (cCst (.int (1)))) (sSeq (sFor (gNm 3) (iRng (cBi .len (cVar 0))) (sSeq (sFor (gNm 4) (iRng (cVar 3)) (sSeq (sAsg (gNm 2) (cOp2 (bop .mul) (cVar 2) (cCall 51 2 (cCons (cOp2 ixK (cVar 0) (cVar 4)) (cCons (cOp2 ixK (cVar 0) (cVar 3)) (cCons (cVar 1) cNil)))))) sPass)) sPass)) (sSeq (sRet (cVar 2)) sPass)))
theorem e_symbols_of : denSs i_symbols_of = c_symbols_of := rfl
def i_zero_at_prime : Ss := (.cons (.asg (.nm 2) (.call 53 2 (.cons (.var 0) .nil)))
  (.cons (.ife (.cmp .lt (.bi .len (.var 0)) (.cst (.int (3)))) (.cons (.ret (.and (.cmp .eq (.bi .len (.var 0)) (.cst (.int (2)))) (.call 52 2 (.cons (.call 54 2 (.cons (.var 2) .nil)) (.cons (.var 1) .nil)))))
  .nil) .nil)
  (.cons (.ife (.cmp .eq (.bi .len (.var 0)) (.cst (.int (3)))) (.cons (.ret (.cmp .eq (.call 55 2 (.cons (.var 0) (.cons (.var 1) .nil))) (.call 51 2 (.cons (.tup (.cons (.neg (.cst (.int (1)))) (.cons (.cst (.int (1))) .nil))) (.cons (.call 54 2 (.cons (.var 2) .nil)) (.cons (.var 1) .nil))))))
  .nil) .nil)
  (.cons (.ife (.cmp .eq (.bi .len (.var 0)) (.cst (.int (4)))) (.cons (.ret (.or (.not (.call 52 2 (.cons (.var 2) (.cons (.var 1) .nil)))) (.cmp .eq (.call 55 2 (.cons (.var 0) (.cons (.var 1) .nil))) (.call 51 2 (.cons (.tup (.cons (.neg (.cst (.int (1)))) (.cons (.cst (.int (1))) .nil))) (.cons (.tup (.cons (.neg (.cst (.int (1)))) (.cons (.cst (.int (1))) .nil))) (.cons (.var 1) .nil)))))))
  .nil) .nil)
  (.cons (.ret (.cst (.bl true)))
  .nil)))))
def c_zero_at_prime : CS := (sSeq (sAsg (gNm 2) (cCall 53 2 (cCons (cVar 0) cNil))) (sSeq (sIf (cTstB (cOp2 (cop .lt) (cBi .len (cVar 0)) (cCst (.int (3))))) (sSeq (sRet (cAnd (cOp2 (cop .eq) (cBi .len (cVar 0)) (cCst (.int (2)))) (cCall 52 2 (cCons (cCall 54 2 (cCons (cVar 2) cNil)) (cCons (cVar 1) cNil))))) sPass) sPass) (sSeq (sIf (cTstB (cOp2 (cop .eq) (cBi .len (cVar 0)) (cCst (.int (3))))) (sSeq (sRet (cOp2 (cop .eq) (cCall 55 2 (cCons (cVar 0) (cCons (cVar 1) cNil))) (cCall 51 2 (cCons (cTup (cCons (cNeg (cCst (.int (1)))) (cCons (cCst (.int (1))) cNil))) (cCons (cCall 54 2 (cCons (cVar 2) cNil)) (cCons (cVar 1) cNil)))))) sPass) sPass) (sSeq (sIf (cTstB (cOp2 (cop .eq) (cBi .len (cVar 0)) (cCst (.int (4))))) (sSeq (sRet (cOr (cNot (cCall 52 2 (cCons (cVar 2) (cCons (cVar 1) cNil)))) (cOp2 (cop .eq) (cCall 55 2 (cCons (cVar 0) (cCons (cVar 1) cNil))) (cCall 51 2 (cCons (cTup (cCons (cNeg (cCst (.int (1)))) (cCons (cCst (.int (1))) cNil))) (cCons (cTup (cCons (cNeg (cCst (.int (1)))) (cCons (cCst (.int (1))) cNil))) (cCons (cVar 1) cNil))))))) sPass) sPass) (sSeq (sRet (cCst (.bl true))) sPass)))))
theorem e_zero_at_prime : denSs i_zero_at_prime = c_zero_at_prime := rfl
def i_zero_at : Ss := (.cons (.asg (.tp (.cons (.nm 2) (.cons (.nm 3) .nil))) (.call 29 2 (.cons (.var 0) .nil)))
  (.cons (.ife (.bi .anyD (.comp [4] (.nm 4) (.seq (.var 3)) (.cmp .eq (.idx (.var 4) (.cst (.int (0)))) (.cst (.int (0)))))) (.cons (.ret (.cst (.bl true)))
  .nil) .nil)
  (.cons (.ife (.cmp .eq (.var 1) (.cst (.int (0)))) (.cons (.ret (.and (.bi .anyD (.comp [4] (.nm 4) (.seq (.var 3)) (.cmp .gt (.idx (.var 4) (.cst (.int (0)))) (.cst (.int (0)))))) (.bi .anyD (.comp [4] (.nm 4) (.seq (.var 3)) (.cmp .lt (.idx (.var 4) (.cst (.int (0)))) (.cst (.int (0))))))))
  .nil) .nil)
  (.cons (.ret (.call 56 2 (.cons (.var 3) (.cons (.var 1) .nil))))
  .nil))))
def c_zero_at : CS := (sSeq (sAsg (gTp 2 (gCons (gNm 2) (gCons (gNm 3) gNil))) (cCall 29 2 (cCons (cVar 0) cNil))) (sSeq (sIf (cTst (cBi .anyD (cComp [4] (gNm 4) (iSeq (cVar 3)) none (cOp2 (cop .eq) (cOp2 ixK (cVar 4) (cCst (.int (0)))) (cCst (.int (0))))))) (sSeq (sRet (cCst (.bl true))) sPass) sPass) (sSeq (sIf (cTstB (cOp2 (cop .eq) (cVar 1) (cCst (.int (0))))) (sSeq (sRet (cAnd (cBi .anyD (cComp [4] (gNm 4) (iSeq (cVar 3)) none (cOp2 (cop .gt) (cOp2 ixK (cVar 4) (cCst (.int (0)))) (cCst (.int (0)))))) (cBi .anyD (cComp [4] (gNm 4) (iSeq (cVar 3)) none (cOp2 (cop .lt) (cOp2 ixK (cVar 4) (cCst (.int (0)))) (cCst (.int (0)))))))) sPass) sPass) (sSeq (sRet (cCall 56 2 (cCons (cVar 3) (cCons (cVar 1) cNil)))) sPass))))
theorem e_zero_at : denSs i_zero_at = c_zero_at := rfl
def i_value_at : Ss := (.cons (.asg (.nm 2) (.tup (.cons (.cst (.int (0))) (.cons (.cst (.int (1))) .nil))))
  (.cons (.fr (.tp (.cons (.nm 3) (.cons (.nm 4) .nil))) (.zip (.var 1) (.idx (.var 0) (.cst (.int (2))))) (.cons (.fr (.tp (.cons (.nm 5) (.cons (.nm 6) .nil))) (.zip (.var 1) (.var 4)) (.cons (.asg (.nm 2) (.call 2 2 (.cons (.var 2) (.cons (.call 3 2 (.cons (.call 3 2 (.cons (.var 3) (.cons (.var 5) .nil))) (.cons (.var 6) .nil))) .nil))))
  .nil))
  .nil))
  (.cons (.ret (.var 2))
  .nil)))
def c_value_at : CS := (sSeq (sAsg (gNm 2) (cTup (cCons (cCst (.int (0))) (cCons (cCst (.int (1))) cNil)))) (sSeq (sFor (gTp 2 (gCons (gNm 3) (gCons (gNm 4) gNil))) (iZip (cVar 1) (cOp2 ixK (cVar 0) (cCst (.int (2))))) (sSeq (sFor (gTp 2 (gCons (gNm 5) (gCons (gNm 6) gNil))) (iZip (cVar 1) (cVar 4)) (sSeq (sAsg (gNm 2) (cCall 2 2 (cCons (cVar 2) (cCons (cCall 3 2 (cCons (cCall 3 2 (cCons (cVar 3) (cCons (cVar 5) cNil))) (cCons (cVar 6) cNil))) cNil)))) sPass)) sPass)) (sSeq (sRet (cVar 2)) sPass)))
theorem e_value_at : denSs i_value_at = c_value_at := rfl
def i_prime_factors : Ss := (.cons (.asg (.nm 0) (.bi .abs (.var 0)))
  (.cons (.asg (.nm 1) (.lst .nil))
  (.cons (.asg (.nm 2) (.cst (.int (2))))
  (.cons (.wh (.and (.cmp .le (.bin .mul (.var 2) (.var 2)) (.var 0)) (.cmp .le (.var 2) (.glb (.int (1000000))))) (.cons (.asg (.nm 3) (.cst (.int (0))))
  (.cons (.wh (.cmp .eq (.bin .mod (.var 0) (.var 2)) (.cst (.int (0)))) (.cons (.asg (.nm 0) (.bin .fdiv (.var 0) (.var 2)))
  (.cons (.aug 3 .add (.cst (.int (1))))
  .nil)))
  (.cons (.ife (.cmp .gt (.var 3) (.cst (.int (0)))) (.cons (.ex (.mth .append 1 (.cons (.tup (.cons (.var 2) (.cons (.var 3) .nil))) .nil)))
  .nil) .nil)
  (.cons (.aug 2 .add (.ife (.cmp .eq (.var 2) (.cst (.int (2)))) (.cst (.int (1))) (.cst (.int (2)))))
  .nil)))))
  (.cons (.ife (.cmp .gt (.var 0) (.cst (.int (1)))) (.cons (.ife (.cmp .gt (.var 0) (.glb (.int (1000000)))) (.cons .never
  .nil) .nil)
  (.cons (.ex (.mth .append 1 (.cons (.tup (.cons (.var 0) (.cons (.cst (.int (1))) .nil))) .nil)))
  .nil)) .nil)
  (.cons (.ret (.var 1))
  .nil))))))
def c_prime_factors : CS := (sSeq (sAsg (gNm 0) (cBi .abs (cVar 0))) (sSeq (sAsg (gNm 1) (cLst cNil)) (sSeq (sAsg (gNm 2) (cCst (.int (2)))) (sSeq (sWh (bAnd (cTstB (cOp2 (cop .le) (cOp2 (bop .mul) (cVar 2) (cVar 2)) (cVar 0))) (cTstB (cOp2 (cop .le) (cVar 2) (cCst (.int (1000000)))))) (sSeq (sAsg (gNm 3) (cCst (.int (0)))) (sSeq (sWh (cTstB (cOp2 (cop .eq) (cOp2 (bop .mod) (cVar 0) (cVar 2)) (cCst (.int (0))))) (sSeq (sAsg (gNm 0) (cOp2 (bop .fdiv) (cVar 0) (cVar 2))) (sSeq (sAug 3 (augop .add) (cCst (.int (1)))) sPass))) (sSeq (sIf (cTstB (cOp2 (cop .gt) (cVar 3) (cCst (.int (0))))) (sSeq (sEx (cMth .append 1 (cCons (cTup (cCons (cVar 2) (cCons (cVar 3) cNil))) cNil))) sPass) sPass) (sSeq (sAug 2 (augop .add) (cIfe (cTstB (cOp2 (cop .eq) (cVar 2) (cCst (.int (2))))) (cCst (.int (1))) (cCst (.int (2))))) sPass))))) (sSeq (sIf (cTstB (cOp2 (cop .gt) (cVar 0) (cCst (.int (1))))) (sSeq (sIf (cTstB (cOp2 (cop .gt) (cVar 0) (cCst (.int (1000000))))) (sSeq sNever sPass) sPass) (sSeq (sEx (cMth .append 1 (cCons (cTup (cCons (cVar 0) (cCons (cCst (.int (1))) cNil))) cNil))) sPass)) sPass) (sSeq (sRet (cVar 1)) sPass))))))
theorem e_prime_factors : denSs i_prime_factors = c_prime_factors := rfl
def i_square_part : Ss := (.cons (.asg (.nm 1) (.bin .mul (.idx (.var 0) (.cst (.int (0)))) (.idx (.var 0) (.cst (.int (1))))))
  (.cons (.par2 2 3 (.ife (.cmp .gt (.var 1) (.cst (.int (0)))) (.cst (.int (1))) (.neg (.cst (.int (1))))) (.cst (.int (1))))
  (.cons (.fr (.tp (.cons (.nm 4) (.cons (.nm 5) .nil))) (.seq (.call 59 1 (.cons (.var 1) .nil))) (.cons (.fr (.nm 6) (.rng (.bin .fdiv (.var 5) (.cst (.int (2))))) (.cons (.asg (.nm 3) (.bin .mul (.var 3) (.var 4)))
  .nil))
  (.cons (.ife (.cmp .eq (.bin .mod (.var 5) (.cst (.int (2)))) (.cst (.int (1)))) (.cons (.asg (.nm 2) (.bin .mul (.var 2) (.var 4)))
  .nil) .nil)
  .nil)))
  (.cons (.ret (.tup (.cons (.var 2) (.cons (.call 5 2 (.cons (.var 3) (.cons (.idx (.var 0) (.cst (.int (1)))) .nil))) .nil))))
  .nil))))
def c_square_part : CS := (sSeq (sAsg (gNm 1) (cOp2 (bop .mul) (cOp2 ixK (cVar 0) (cCst (.int (0)))) (cOp2 ixK (cVar 0) (cCst (.int (1)))))) (sSeq (sPar2 2 3 (cIfe (cTstB (cOp2 (cop .gt) (cVar 1) (cCst (.int (0))))) (cCst (.int (1))) (cNeg (cCst (.int (1))))) (cCst (.int (1)))) (sSeq (sFor (gTp 2 (gCons (gNm 4) (gCons (gNm 5) gNil))) (iSeq (cCall 59 1 (cCons (cVar 1) cNil))) (sSeq (sFor (gNm 6) (iRng (cOp2 (bop .fdiv) (cVar 5) (cCst (.int (2))))) (sSeq (sAsg (gNm 3) (cOp2 (bop .mul) (cVar 3) (cVar 4))) sPass)) (sSeq (sIf (cTstB (cOp2 (cop .eq) (cOp2 (bop .mod) (cVar 5) (cCst (.int (2)))) (cCst (.int (1))))) (sSeq (sAsg (gNm 2) (cOp2 (bop .mul) (cVar 2) (cVar 4))) sPass) sPass) sPass))) (sSeq (sRet (cTup (cCons (cVar 2) (cCons (cCall 5 2 (cCons (cVar 3) (cCons (cOp2 ixK (cVar 0) (cCst (.int (1)))) cNil))) cNil)))) sPass))))
theorem e_square_part : denSs i_square_part = c_square_part := rfl
def i_places_of : Ss := (.cons (.asg (.nm 1) (.dct (.cons (.cst (.int (2))) (.cons (.cst (.bl true)) .nil))))
  (.cons (.fr (.nm 2) (.seq (.var 0)) (.cons (.fr (.tp (.cons (.nm 3) (.cons (.nm 4) .nil))) (.seq (.call 59 1 (.cons (.bin .mul (.idx (.var 2) (.cst (.int (0)))) (.idx (.var 2) (.cst (.int (1))))) .nil))) (.cons (.asg (.sb (.var 1) (.var 3)) (.cst (.bl true)))
  .nil))
  .nil))
  (.cons (.ret (.bin .add (.lst (.cons (.cst (.int (0))) .nil)) (.bi .sorted (.var 1))))
  .nil)))
def c_places_of : CS := (sSeq (sAsg (gNm 1) (cDct (pCons (cCst (.int (2))) (cCst (.bl true)) pNil))) (sSeq (sFor (gNm 2) (iSeq (cVar 0)) (sSeq (sFor (gTp 2 (gCons (gNm 3) (gCons (gNm 4) gNil))) (iSeq (cCall 59 1 (cCons (cOp2 (bop .mul) (cOp2 ixK (cVar 2) (cCst (.int (0)))) (cOp2 ixK (cVar 2) (cCst (.int (1))))) cNil))) (sSeq (sAsg (gSb (cVar 1) (cVar 3)) (cCst (.bl true))) sPass)) sPass)) (sSeq (sRet (cOp2 (bop .add) (cLst (cCons (cCst (.int (0))) cNil)) (cBi .sorted (cVar 1)))) sPass)))
theorem e_places_of : denSs i_places_of = c_places_of := rfl
def i_square_root : Ss := (.cons (.ife (.cmp .lt (.idx (.var 0) (.cst (.int (0)))) (.cst (.int (0)))) (.cons (.ret (.cst .non))
  .nil) .nil)
  (.cons (.par2 1 2 (.call 33 2 (.cons (.idx (.var 0) (.cst (.int (0)))) .nil)) (.call 33 2 (.cons (.idx (.var 0) (.cst (.int (1)))) .nil)))
  (.cons (.ret (.ife (.and (.cmp .eq (.bin .mul (.var 1) (.var 1)) (.idx (.var 0) (.cst (.int (0))))) (.cmp .eq (.bin .mul (.var 2) (.var 2)) (.idx (.var 0) (.cst (.int (1)))))) (.call 5 2 (.cons (.var 1) (.cons (.var 2) .nil))) (.cst .non)))
  .nil)))
def c_square_root : CS := (sSeq (sIf (cTstB (cOp2 (cop .lt) (cOp2 ixK (cVar 0) (cCst (.int (0)))) (cCst (.int (0))))) (sSeq (sRet (cCst .non)) sPass) sPass) (sSeq (sPar2 1 2 (cCall 33 2 (cCons (cOp2 ixK (cVar 0) (cCst (.int (0)))) cNil)) (cCall 33 2 (cCons (cOp2 ixK (cVar 0) (cCst (.int (1)))) cNil))) (sSeq (sRet (cIfe (bAnd (cTstB (cOp2 (cop .eq) (cOp2 (bop .mul) (cVar 1) (cVar 1)) (cOp2 ixK (cVar 0) (cCst (.int (0)))))) (cTstB (cOp2 (cop .eq) (cOp2 (bop .mul) (cVar 2) (cVar 2)) (cOp2 ixK (cVar 0) (cCst (.int (1))))))) (cCall 5 2 (cCons (cVar 1) (cCons (cVar 2) cNil))) (cCst .non))) sPass)))
theorem e_square_root : denSs i_square_root = c_square_root := rfl
def i_of_two : Ss := (.cons (.asg (.nm 1) (.call 62 2 (.cons (.call 5 2 (.cons (.bin .mul (.neg (.idx (.idx (.var 0) (.cst (.int (1)))) (.cst (.int (0))))) (.idx (.idx (.var 0) (.cst (.int (0)))) (.cst (.int (1))))) (.cons (.bin .mul (.idx (.idx (.var 0) (.cst (.int (1)))) (.cst (.int (1)))) (.idx (.idx (.var 0) (.cst (.int (0)))) (.cst (.int (0))))) .nil))) .nil)))
  (.cons (.ret (.tup (.cons (.var 1) (.cons (.glb (.tup [(.int (1)), (.int (1))])) .nil))))
  .nil))
def c_of_two : CS := (sSeq (sAsg (gNm 1) (cCall 62 2 (cCons (cCall 5 2 (cCons (cOp2 (bop .mul) (cNeg (cOp2 ixK (cOp2 ixK (cVar 0) (cCst (.int (1)))) (cCst (.int (0))))) (cOp2 ixK (cOp2 ixK (cVar 0) (cCst (.int (0)))) (cCst (.int (1))))) (cCons (cOp2 (bop .mul) (cOp2 ixK (cOp2 ixK (cVar 0) (cCst (.int (1)))) (cCst (.int (1)))) (cOp2 ixK (cOp2 ixK (cVar 0) (cCst (.int (0)))) (cCst (.int (0))))) cNil))) cNil))) (sSeq (sRet (cTup (cCons (cVar 1) (cCons (cCst (.tup [(.int (1)), (.int (1))])) cNil)))) sPass))
theorem e_of_two : denSs i_of_two = c_of_two := rfl
def i_of_three : Ss := (.cons (.asg (.nm 1) (.comp [6] (.nm 6) (.seq (.var 0)) (.call 60 2 (.cons (.var 6) .nil))))
  (.cons (.asg (.nm 2) (.comp [8, 9] (.tp (.cons (.nm 8) (.cons (.nm 9) .nil))) (.seq (.var 1)) (.var 8)))
  (.cons (.asg (.nm 3) (.bin .mul (.lst (.cons (.tup (.cons (.cst (.int (1))) (.cons (.cst (.int (1))) .nil))) .nil)) (.cst (.int (3)))))
  (.cons (.asg (.tp (.cons (.nm 2) (.cons (.nm 3) .nil))) (.call 65 0 (.cons (.var 2) (.cons (.var 3) .nil))))
  (.cons (.asg (.nm 4) (.call 67 0 (.cons (.var 2) .nil)))
  (.cons (.asg (.nm 5) (.lst .nil))
  (.cons .never
  (.cons (.ret (.bi .tuple (.var 5)))
  .nil))))))))
def c_of_three : CS := (sSeq (sAsg (gNm 1) (cComp [6] (gNm 6) (iSeq (cVar 0)) none (cCall 60 2 (cCons (cVar 6) cNil)))) (sSeq (sAsg (gNm 2) (cComp [8, 9] (gTp 2 (gCons (gNm 8) (gCons (gNm 9) gNil))) (iSeq (cVar 1)) none (cVar 8))) (sSeq (sAsg (gNm 3) (cOp2 (bop .mul) (cLst (cCons (cTup (cCons (cCst (.int (1))) (cCons (cCst (.int (1))) cNil))) cNil)) (cCst (.int (3))))) (sSeq (sAsg (gTp 2 (gCons (gNm 2) (gCons (gNm 3) gNil))) (cCall 65 0 (cCons (cVar 2) (cCons (cVar 3) cNil)))) (sSeq (sAsg (gNm 4) (cCall 67 0 (cCons (cVar 2) cNil))) (sSeq (sAsg (gNm 5) (cLst cNil)) (sSeq sNever (sSeq (sRet (cBi .tuple (cVar 5))) sPass))))))))
theorem e_of_three : denSs i_of_three = c_of_three := rfl
def i_apart : Ss := (.cons (.par2 0 1 (.bi .list (.var 0)) (.bi .list (.var 1)))
  (.cons (.asg (.nm 2) (.cst (.bl false)))
  (.cons (.wh (.not (.var 2)) (.cons (.asg (.nm 2) (.cst (.bl true)))
  (.cons (.fr (.nm 3) (.rng (.cst (.int (3)))) (.cons (.par2 5 6 (.bin .mod (.bin .add (.var 3) (.cst (.int (1)))) (.cst (.int (3)))) (.bin .mod (.bin .add (.var 3) (.cst (.int (2)))) (.cst (.int (3)))))
  (.cons (.asg (.nm 4) (.call 66 2 (.cons (.idx (.var 0) (.var 5)) (.cons (.idx (.var 0) (.var 6)) .nil))))
  (.cons (.ife (.cmp .gt (.var 4) (.cst (.int (1)))) (.cons (.asg (.nm 7) (.idx (.idx (.call 59 1 (.cons (.var 4) .nil)) (.cst (.int (0)))) (.cst (.int (0)))))
  (.cons (.ife (.cmp .eq (.bin .mod (.idx (.var 0) (.var 3)) (.var 7)) (.cst (.int (0)))) (.cons (.asg (.nm 0) (.comp [8] (.nm 8) (.seq (.var 0)) (.bin .fdiv (.var 8) (.var 7))))
  .nil) (.cons (.asg (.tp (.cons (.sb (.var 0) (.var 5)) (.cons (.sb (.var 0) (.var 6)) (.cons (.sb (.var 0) (.var 3)) .nil)))) (.tup (.cons (.bin .fdiv (.idx (.var 0) (.var 5)) (.var 7)) (.cons (.bin .fdiv (.idx (.var 0) (.var 6)) (.var 7)) (.cons (.bin .mul (.idx (.var 0) (.var 3)) (.var 7)) .nil)))))
  (.cons (.asg (.sb (.var 1) (.var 3)) (.call 3 2 (.cons (.idx (.var 1) (.var 3)) (.cons (.tup (.cons (.var 7) (.cons (.cst (.int (1))) .nil))) .nil))))
  .nil)))
  (.cons (.asg (.nm 2) (.cst (.bl false)))
  .nil))) .nil)
  .nil))))
  .nil)))
  (.cons (.ret (.tup (.cons (.var 0) (.cons (.var 1) .nil))))
  .nil))))
def c_apart : CS := (sSeq (sPar2 0 1 (cBi .list (cVar 0)) (cBi .list (cVar 1))) (sSeq (sAsg (gNm 2) (cCst (.bl false))) (sSeq (sWh (bNot (cTst (cVar 2))) (sSeq (sAsg (gNm 2) (cCst (.bl true))) (sSeq (sFor (gNm 3) (iRng (cCst (.int (3)))) (sSeq (sPar2 5 6 (cOp2 (bop .mod) (cOp2 (bop .add) (cVar 3) (cCst (.int (1)))) (cCst (.int (3)))) (cOp2 (bop .mod) (cOp2 (bop .add) (cVar 3) (cCst (.int (2)))) (cCst (.int (3))))) (sSeq (sAsg (gNm 4) (cCall 66 2 (cCons (cOp2 ixK (cVar 0) (cVar 5)) (cCons (cOp2 ixK (cVar 0) (cVar 6)) cNil)))) (sSeq (sIf (cTstB (cOp2 (cop .gt) (cVar 4) (cCst (.int (1))))) (sSeq (sAsg (gNm 7) (cOp2 ixK (cOp2 ixK (cCall 59 1 (cCons (cVar 4) cNil)) (cCst (.int (0)))) (cCst (.int (0))))) (sSeq (sIf (cTstB (cOp2 (cop .eq) (cOp2 (bop .mod) (cOp2 ixK (cVar 0) (cVar 3)) (cVar 7)) (cCst (.int (0))))) (sSeq (sAsg (gNm 0) (cComp [8] (gNm 8) (iSeq (cVar 0)) none (cOp2 (bop .fdiv) (cVar 8) (cVar 7)))) sPass) (sSeq (sAsg (gTp 3 (gCons (gSb (cVar 0) (cVar 5)) (gCons (gSb (cVar 0) (cVar 6)) (gCons (gSb (cVar 0) (cVar 3)) gNil)))) (cTup (cCons (cOp2 (bop .fdiv) (cOp2 ixK (cVar 0) (cVar 5)) (cVar 7)) (cCons (cOp2 (bop .fdiv) (cOp2 ixK (cVar 0) (cVar 6)) (cVar 7)) (cCons (cOp2 (bop .mul) (cOp2 ixK (cVar 0) (cVar 3)) (cVar 7)) cNil))))) (sSeq (sAsg (gSb (cVar 1) (cVar 3)) (cCall 3 2 (cCons (cOp2 ixK (cVar 1) (cVar 3)) (cCons (cTup (cCons (cVar 7) (cCons (cCst (.int (1))) cNil))) cNil)))) sPass))) (sSeq (sAsg (gNm 2) (cCst (.bl false))) sPass))) sPass) sPass)))) sPass))) (sSeq (sRet (cTup (cCons (cVar 0) (cCons (cVar 1) cNil)))) sPass))))
theorem e_apart : denSs i_apart = c_apart := rfl
def i_common_divisor : Ss := (.cons (.par2 0 1 (.bi .abs (.var 0)) (.bi .abs (.var 1)))
  (.cons (.wh (.cmp .ne (.var 1) (.cst (.int (0)))) (.cons (.par2 0 1 (.var 1) (.bin .mod (.var 0) (.var 1)))
  .nil))
  (.cons (.ret (.var 0))
  .nil)))
def c_common_divisor : CS := (sSeq (sPar2 0 1 (cBi .abs (cVar 0)) (cBi .abs (cVar 1))) (sSeq (sWh (cTstB (cOp2 (cop .ne) (cVar 1) (cCst (.int (0))))) (sSeq (sPar2 0 1 (cVar 1) (cOp2 (bop .mod) (cVar 0) (cVar 1))) sPass)) (sSeq (sRet (cVar 0)) sPass)))
theorem e_common_divisor : denSs i_common_divisor = c_common_divisor := rfl
def i_small_zero : Ss := (.cons (.asg (.nm 1) (.comp [11, 9] (.tp (.cons (.nm 11) (.cons (.nm 9) .nil))) (.seq (.bi .sorted (.comp [9, 14] (.tp (.cons (.nm 9) (.cons (.nm 14) .nil))) (.enum (.var 0)) (.tup (.cons (.bi .abs (.var 14)) (.cons (.var 9) .nil)))))) (.var 9)))
  (.cons (.asg (.tp (.cons (.nm 3) (.cons (.nm 4) (.cons (.nm 5) .nil)))) (.comp [9] (.nm 9) (.seq (.var 1)) (.idx (.var 0) (.var 9))))
  (.cons (.par2 6 7 (.bin .add (.call 33 2 (.cons (.bi .abs (.bin .mul (.var 3) (.var 5))) .nil)) (.cst (.int (1)))) (.bin .add (.call 33 2 (.cons (.bi .abs (.bin .mul (.var 3) (.var 4))) .nil)) (.cst (.int (1)))))
  (.cons (.ife (.cmp .gt (.bin .mul (.var 6) (.var 7)) (.glb (.int (4000000)))) (.cons .never
  .nil) .nil)
  (.cons (.fr (.nm 2) (.rng (.bin .add (.var 7) (.cst (.int (1))))) (.cons (.fr (.nm 8) (.rng (.bin .add (.var 6) (.cst (.int (1))))) (.cons (.asg (.nm 10) (.neg (.bin .add (.bin .mul (.bin .mul (.var 4) (.var 8)) (.var 8)) (.bin .mul (.bin .mul (.var 5) (.var 2)) (.var 2)))))
  (.cons (.ife (.and (.or (.cmp .gt (.var 8) (.cst (.int (0)))) (.cmp .gt (.var 2) (.cst (.int (0))))) (.and (.cmp .eq (.bin .mod (.var 10) (.var 3)) (.cst (.int (0)))) (.cmp .ge (.bin .fdiv (.var 10) (.var 3)) (.cst (.int (0)))))) (.cons (.asg (.nm 12) (.call 33 2 (.cons (.bin .fdiv (.var 10) (.var 3)) .nil)))
  (.cons (.ife (.cmp .eq (.bin .mul (.bin .mul (.var 12) (.var 12)) (.var 3)) (.var 10)) (.cons (.asg (.nm 13) (.lst (.cons (.cst (.int (0))) (.cons (.cst (.int (0))) (.cons (.cst (.int (0))) .nil)))))
  (.cons (.fr (.tp (.cons (.nm 9) (.cons (.nm 14) .nil))) (.zip (.var 1) (.tup (.cons (.var 12) (.cons (.var 8) (.cons (.var 2) .nil))))) (.cons (.asg (.sb (.var 13) (.var 9)) (.var 14))
  .nil))
  (.cons (.ret (.var 13))
  .nil))) .nil)
  .nil)) .nil)
  .nil)))
  .nil))
  (.cons .never
  .nil))))))
def c_small_zero : CS := (sSeq (sAsg (gNm 1) (cComp [11, 9] (gTp 2 (gCons (gNm 11) (gCons (gNm 9) gNil))) (iSeq (cBi .sorted (cComp [9, 14] (gTp 2 (gCons (gNm 9) (gCons (gNm 14) gNil))) (iEnum (cVar 0)) none (cTup (cCons (cBi .abs (cVar 14)) (cCons (cVar 9) cNil)))))) none (cVar 9))) (sSeq (sAsg (gTp 3 (gCons (gNm 3) (gCons (gNm 4) (gCons (gNm 5) gNil)))) (cComp [9] (gNm 9) (iSeq (cVar 1)) none (cOp2 ixK (cVar 0) (cVar 9)))) (sSeq (sPar2 6 7 (cOp2 (bop .add) (cCall 33 2 (cCons (cBi .abs (cOp2 (bop .mul) (cVar 3) (cVar 5))) cNil)) (cCst (.int (1)))) (cOp2 (bop .add) (cCall 33 2 (cCons (cBi .abs (cOp2 (bop .mul) (cVar 3) (cVar 4))) cNil)) (cCst (.int (1))))) (sSeq (sIf (cTstB (cOp2 (cop .gt) (cOp2 (bop .mul) (cVar 6) (cVar 7)) (cCst (.int (4000000))))) (sSeq sNever sPass) sPass) (sSeq (sFor (gNm 2) (iRng (cOp2 (bop .add) (cVar 7) (cCst (.int (1))))) (sSeq (sFor (gNm 8) (iRng (cOp2 (bop .add) (cVar 6) (cCst (.int (1))))) (sSeq (sAsg (gNm 10) (cNeg (cOp2 (bop .add) (cOp2 (bop .mul) (cOp2 (bop .mul) (cVar 4) (cVar 8)) (cVar 8)) (cOp2 (bop .mul) (cOp2 (bop .mul) (cVar 5) (cVar 2)) (cVar 2))))) (sSeq (sIf (bAnd (bOr (cTstB (cOp2 (cop .gt) (cVar 8) (cCst (.int (0))))) (cTstB (cOp2 (cop .gt) (cVar 2) (cCst (.int (0)))))) (bAnd (cTstB (cOp2 (cop .eq) (cOp2 (bop .mod) (cVar 10) (cVar 3)) (cCst (.int (0))))) (cTstB (cOp2 (cop .ge) (cOp2 (bop .fdiv) (cVar 10) (cVar 3)) (cCst (.int (0))))))) (sSeq (sAsg (gNm 12) (cCall 33 2 (cCons (cOp2 (bop .fdiv) (cVar 10) (cVar 3)) cNil))) (sSeq (sIf (cTstB (cOp2 (cop .eq) (cOp2 (bop .mul) (cOp2 (bop .mul) (cVar 12) (cVar 12)) (cVar 3)) (cVar 10))) (sSeq (sAsg (gNm 13) (cLst (cCons (cCst (.int (0))) (cCons (cCst (.int (0))) (cCons (cCst (.int (0))) cNil))))) (sSeq (sFor (gTp 2 (gCons (gNm 9) (gCons (gNm 14) gNil))) (iZip (cVar 1) (cTup (cCons (cVar 12) (cCons (cVar 8) (cCons (cVar 2) cNil))))) (sSeq (sAsg (gSb (cVar 13) (cVar 9)) (cVar 14)) sPass)) (sSeq (sRet (cVar 13)) sPass))) sPass) sPass)) sPass) sPass))) sPass)) (sSeq sNever sPass))))))
theorem e_small_zero : denSs i_small_zero = c_small_zero := rfl
def i_middles : Ss := (.cons (.asg (.nm 0) (.lst .nil))
  (.cons (.fr (.nm 1) (.rng2 (.cst (.int (1))) (.bin .add (.glb (.int (20000))) (.cst (.int (1))))) (.cons (.ex (.mth .extend 0 (.cons (.lst (.cons (.var 1) (.cons (.neg (.var 1)) .nil))) .nil)))
  .nil))
  (.cons (.ret (.var 0))
  .nil)))
def c_middles : CS := (sSeq (sAsg (gNm 0) (cLst cNil)) (sSeq (sFor (gNm 1) (iRng2 (cCst (.int (1))) (cOp2 (bop .add) (cCst (.int (20000))) (cCst (.int (1))))) (sSeq (sEx (cMth .extend 0 (cCons (cLst (cCons (cVar 1) (cCons (cNeg (cVar 1)) cNil))) cNil))) sPass)) (sSeq (sRet (cVar 0)) sPass)))
theorem e_middles : denSs i_middles = c_middles := rfl
def i_has_zero : Ss := (.cons (.asg (.nm 1) (.call 39 0 (.cons (.glb (.tup [(.str [81])])) (.cons (.comp [2] (.nm 2) (.seq (.var 0)) (.call 30 0 (.cons (.glb (.tup [(.str [81])])) (.cons (.lst (.cons (.lst (.cons (.var 2) .nil)) .nil)) (.cons (.cst (.int (1))) .nil))))) .nil))))
  (.cons (.ret (.bi .allD (.comp [3] (.nm 3) (.seq (.call 61 1 (.cons (.var 0) .nil))) (.call 57 2 (.cons (.var 1) (.cons (.var 3) .nil))))))
  .nil))
def c_has_zero : CS := (sSeq (sAsg (gNm 1) (cCall 39 0 (cCons (cCst (.tup [(.str [81])])) (cCons (cComp [2] (gNm 2) (iSeq (cVar 0)) none (cCall 30 0 (cCons (cCst (.tup [(.str [81])])) (cCons (cLst (cCons (cLst (cCons (cVar 2) cNil)) cNil)) (cCons (cCst (.int (1))) cNil))))) cNil)))) (sSeq (sRet (cBi .allD (cComp [3] (gNm 3) (iSeq (cCall 61 1 (cCons (cVar 0) cNil))) none (cCall 57 2 (cCons (cVar 1) (cCons (cVar 3) cNil)))))) sPass))
theorem e_has_zero : denSs i_has_zero = c_has_zero := rfl
def i_of_four : Ss := (.cons (.fr (.tp (.cons (.nm 2) (.cons (.nm 3) .nil))) (.seq (.tup (.cons (.tup (.cons (.sl (.var 0) .nil (.cons (.cst (.int (2))) .nil)) (.cons (.sl (.var 0) (.cons (.cst (.int (2))) .nil) .nil) .nil))) (.cons (.tup (.cons (.tup (.cons (.idx (.var 0) (.cst (.int (0)))) (.cons (.idx (.var 0) (.cst (.int (2)))) .nil))) (.cons (.tup (.cons (.idx (.var 0) (.cst (.int (1)))) (.cons (.idx (.var 0) (.cst (.int (3)))) .nil))) .nil))) .nil)))) (.cons (.fr (.tp (.cons (.nm 4) (.cons (.nm 5) .nil))) (.enum (.tup (.cons (.var 2) (.cons (.var 3) .nil)))) (.cons (.ife (.cmp .isnot (.call 62 2 (.cons (.call 5 2 (.cons (.bin .mul (.neg (.idx (.idx (.var 5) (.cst (.int (0)))) (.cst (.int (0))))) (.idx (.idx (.var 5) (.cst (.int (1)))) (.cst (.int (0))))) (.cons (.bin .mul (.idx (.idx (.var 5) (.cst (.int (0)))) (.cst (.int (1)))) (.idx (.idx (.var 5) (.cst (.int (1)))) (.cst (.int (1))))) .nil))) .nil)) (.cst .non)) (.cons (.ret (.call 71 2 (.cons (.var 0) (.cons (.var 2) (.cons (.ife (.cmp .eq (.var 4) (.cst (.int (0)))) (.call 63 2 (.cons (.var 5) .nil)) (.cst .non)) (.cons (.ife (.cmp .eq (.var 4) (.cst (.int (1)))) (.call 63 2 (.cons (.var 5) .nil)) (.cst .non)) .nil))))))
  .nil) .nil)
  .nil))
  .nil))
  (.cons (.fr (.nm 1) (.seq (.call 68 1 .nil)) (.cons (.par2 6 7 (.bin .add (.sl (.var 0) .nil (.cons (.cst (.int (2))) .nil)) (.tup (.cons (.tup (.cons (.neg (.var 1)) (.cons (.cst (.int (1))) .nil))) .nil))) (.bin .add (.sl (.var 0) (.cons (.cst (.int (2))) .nil) .nil) (.tup (.cons (.tup (.cons (.var 1) (.cons (.cst (.int (1))) .nil))) .nil))))
  (.cons (.ife (.and (.call 69 2 (.cons (.var 6) .nil)) (.call 69 2 (.cons (.var 7) .nil))) (.cons (.par2 9 10 (.call 64 2 (.cons (.var 6) .nil)) (.call 64 2 (.cons (.var 7) .nil)))
  (.cons (.asg (.nm 8) (.call 3 2 (.cons (.idx (.var 9) (.cst (.int (2)))) (.cons (.call 5 2 (.cons (.idx (.idx (.var 10) (.cst (.int (2)))) (.cst (.int (1)))) (.cons (.idx (.idx (.var 10) (.cst (.int (2)))) (.cst (.int (0)))) .nil))) .nil))))
  (.cons (.ret (.bin .add (.sl (.var 9) .nil (.cons (.cst (.int (2))) .nil)) (.bi .tupleD (.comp [5] (.nm 5) (.seq (.sl (.var 10) .nil (.cons (.cst (.int (2))) .nil))) (.call 3 2 (.cons (.var 5) (.cons (.var 8) .nil)))))))
  .nil))) .nil)
  .nil)))
  (.cons .never
  .nil)))
def c_of_four : CS := (sSeq (sFor (gTp 2 (gCons (gNm 2) (gCons (gNm 3) gNil))) (iSeq (cTup (cCons (cTup (cCons (cSl (cVar 0) oNil (oSome (cCst (.int (2))))) (cCons (cSl (cVar 0) (oSome (cCst (.int (2)))) oNil) cNil))) (cCons (cTup (cCons (cTup (cCons (cOp2 ixK (cVar 0) (cCst (.int (0)))) (cCons (cOp2 ixK (cVar 0) (cCst (.int (2)))) cNil))) (cCons (cTup (cCons (cOp2 ixK (cVar 0) (cCst (.int (1)))) (cCons (cOp2 ixK (cVar 0) (cCst (.int (3)))) cNil))) cNil))) cNil)))) (sSeq (sFor (gTp 2 (gCons (gNm 4) (gCons (gNm 5) gNil))) (iEnum (cTup (cCons (cVar 2) (cCons (cVar 3) cNil)))) (sSeq (sIf (cTstB (cOp2 (cop .isnot) (cCall 62 2 (cCons (cCall 5 2 (cCons (cOp2 (bop .mul) (cNeg (cOp2 ixK (cOp2 ixK (cVar 5) (cCst (.int (0)))) (cCst (.int (0))))) (cOp2 ixK (cOp2 ixK (cVar 5) (cCst (.int (1)))) (cCst (.int (0))))) (cCons (cOp2 (bop .mul) (cOp2 ixK (cOp2 ixK (cVar 5) (cCst (.int (0)))) (cCst (.int (1)))) (cOp2 ixK (cOp2 ixK (cVar 5) (cCst (.int (1)))) (cCst (.int (1))))) cNil))) cNil)) (cCst .non))) (sSeq (sRet (cCall 71 2 (cCons (cVar 0) (cCons (cVar 2) (cCons (cIfe (cTstB (cOp2 (cop .eq) (cVar 4) (cCst (.int (0))))) (cCall 63 2 (cCons (cVar 5) cNil)) (cCst .non)) (cCons (cIfe (cTstB (cOp2 (cop .eq) (cVar 4) (cCst (.int (1))))) (cCall 63 2 (cCons (cVar 5) cNil)) (cCst .non)) cNil)))))) sPass) sPass) sPass)) sPass)) (sSeq (sFor (gNm 1) (iSeq (cCall 68 1 cNil)) (sSeq (sPar2 6 7 (cOp2 (bop .add) (cSl (cVar 0) oNil (oSome (cCst (.int (2))))) (cTup (cCons (cTup (cCons (cNeg (cVar 1)) (cCons (cCst (.int (1))) cNil))) cNil))) (cOp2 (bop .add) (cSl (cVar 0) (oSome (cCst (.int (2)))) oNil) (cTup (cCons (cTup (cCons (cVar 1) (cCons (cCst (.int (1))) cNil))) cNil)))) (sSeq (sIf (bAnd (cTst (cCall 69 2 (cCons (cVar 6) cNil))) (cTst (cCall 69 2 (cCons (cVar 7) cNil)))) (sSeq (sPar2 9 10 (cCall 64 2 (cCons (cVar 6) cNil)) (cCall 64 2 (cCons (cVar 7) cNil))) (sSeq (sAsg (gNm 8) (cCall 3 2 (cCons (cOp2 ixK (cVar 9) (cCst (.int (2)))) (cCons (cCall 5 2 (cCons (cOp2 ixK (cOp2 ixK (cVar 10) (cCst (.int (2)))) (cCst (.int (1)))) (cCons (cOp2 ixK (cOp2 ixK (cVar 10) (cCst (.int (2)))) (cCst (.int (0)))) cNil))) cNil)))) (sSeq (sRet (cOp2 (bop .add) (cSl (cVar 9) oNil (oSome (cCst (.int (2))))) (cBi .tupleD (cComp [5] (gNm 5) (iSeq (cSl (cVar 10) oNil (oSome (cCst (.int (2)))))) none (cCall 3 2 (cCons (cVar 5) (cCons (cVar 8) cNil))))))) sPass))) sPass) sPass))) (sSeq sNever sPass)))
theorem e_of_four : denSs i_of_four = c_of_four := rfl
def i_back_to_four : Ss := (.cons (.asg (.nm 4) (.tup (.cons (.glb (.tup [(.int (0)), (.int (1))])) (.cons (.glb (.tup [(.int (0)), (.int (1))])) .nil))))
  (.cons (.par2 2 3 (.ife (.cmp .isnot (.var 2) (.cst .non)) (.var 2) (.var 4)) (.ife (.cmp .isnot (.var 3) (.cst .non)) (.var 3) (.var 4)))
  (.cons (.ife (.cmp .eq (.var 1) (.sl (.var 0) .nil (.cons (.cst (.int (2))) .nil))) (.cons (.ret (.bin .add (.var 2) (.var 3)))
  .nil) .nil)
  (.cons (.ret (.tup (.cons (.idx (.var 2) (.cst (.int (0)))) (.cons (.idx (.var 3) (.cst (.int (0)))) (.cons (.idx (.var 2) (.cst (.int (1)))) (.cons (.idx (.var 3) (.cst (.int (1)))) .nil))))))
  .nil))))
def c_back_to_four : CS := (sSeq (sAsg (gNm 4) (cTup (cCons (cCst (.tup [(.int (0)), (.int (1))])) (cCons (cCst (.tup [(.int (0)), (.int (1))])) cNil)))) (sSeq (sPar2 2 3 (cIfe (cTstB (cOp2 (cop .isnot) (cVar 2) (cCst .non))) (cVar 2) (cVar 4)) (cIfe (cTstB (cOp2 (cop .isnot) (cVar 3) (cCst .non))) (cVar 3) (cVar 4))) (sSeq (sIf (cTstB (cOp2 (cop .eq) (cVar 1) (cSl (cVar 0) oNil (oSome (cCst (.int (2))))))) (sSeq (sRet (cOp2 (bop .add) (cVar 2) (cVar 3))) sPass) sPass) (sSeq (sRet (cTup (cCons (cOp2 ixK (cVar 2) (cCst (.int (0)))) (cCons (cOp2 ixK (cVar 3) (cCst (.int (0)))) (cCons (cOp2 ixK (cVar 2) (cCst (.int (1)))) (cCons (cOp2 ixK (cVar 3) (cCst (.int (1)))) cNil)))))) sPass))))
theorem e_back_to_four : denSs i_back_to_four = c_back_to_four := rfl
def i_zero_of_diagonal : Ss := (.cons (.ife (.cmp .eq (.bi .len (.var 0)) (.cst (.int (2)))) (.cons (.ret (.call 63 2 (.cons (.var 0) .nil)))
  .nil) .nil)
  (.cons (.ret (.ife (.cmp .eq (.bi .len (.var 0)) (.cst (.int (3)))) (.call 64 2 (.cons (.var 0) .nil)) (.call 70 2 (.cons (.var 0) .nil))))
  .nil))
def c_zero_of_diagonal : CS := (sSeq (sIf (cTstB (cOp2 (cop .eq) (cBi .len (cVar 0)) (cCst (.int (2))))) (sSeq (sRet (cCall 63 2 (cCons (cVar 0) cNil))) sPass) sPass) (sSeq (sRet (cIfe (cTstB (cOp2 (cop .eq) (cBi .len (cVar 0)) (cCst (.int (3))))) (cCall 64 2 (cCons (cVar 0) cNil)) (cCall 70 2 (cCons (cVar 0) cNil)))) sPass))
theorem e_zero_of_diagonal : denSs i_zero_of_diagonal = c_zero_of_diagonal := rfl
def i_first_bad_place : Ss := (.cons (.asg (.nm 1) (.call 39 0 (.cons (.glb (.tup [(.str [81])])) (.cons (.comp [4] (.nm 4) (.seq (.var 0)) (.call 30 0 (.cons (.glb (.tup [(.str [81])])) (.cons (.lst (.cons (.lst (.cons (.var 4) .nil)) .nil)) (.cons (.cst (.int (1))) .nil))))) .nil))))
  (.cons (.asg (.nm 2) (.compIf [3] (.nm 3) (.seq (.call 61 1 (.cons (.var 0) .nil))) (.not (.call 57 2 (.cons (.var 1) (.cons (.var 3) .nil)))) (.var 3)))
  (.cons (.ife (.not (.var 2)) (.cons (.ret (.cst .non))
  .nil) .nil)
  (.cons (.ife (.cmp .eq (.bi .len (.var 0)) (.cst (.int (2)))) (.cons (.fr (.nm 3) (.rng (.idx (.var 2) (.cst (.int (0))))) (.cons (.ife (.and (.call 76 2 (.cons (.var 3) .nil)) (.not (.call 57 2 (.cons (.var 1) (.cons (.var 3) .nil))))) (.cons (.ret (.var 3))
  .nil) .nil)
  .nil))
  .nil) .nil)
  (.cons (.ret (.idx (.var 2) (.cst (.int (0)))))
  .nil)))))
def c_first_bad_place : CS := (sSeq (sAsg (gNm 1) (cCall 39 0 (cCons (cCst (.tup [(.str [81])])) (cCons (cComp [4] (gNm 4) (iSeq (cVar 0)) none (cCall 30 0 (cCons (cCst (.tup [(.str [81])])) (cCons (cLst (cCons (cLst (cCons (cVar 4) cNil)) cNil)) (cCons (cCst (.int (1))) cNil))))) cNil)))) (sSeq (sAsg (gNm 2) (cComp [3] (gNm 3) (iSeq (cCall 61 1 (cCons (cVar 0) cNil))) (some (bNot (cTst (cCall 57 2 (cCons (cVar 1) (cCons (cVar 3) cNil)))))) (cVar 3))) (sSeq (sIf (bNot (cTst (cVar 2))) (sSeq (sRet (cCst .non)) sPass) sPass) (sSeq (sIf (cTstB (cOp2 (cop .eq) (cBi .len (cVar 0)) (cCst (.int (2))))) (sSeq (sFor (gNm 3) (iRng (cOp2 ixK (cVar 2) (cCst (.int (0))))) (sSeq (sIf (bAnd (cTst (cCall 76 2 (cCons (cVar 3) cNil))) (bNot (cTst (cCall 57 2 (cCons (cVar 1) (cCons (cVar 3) cNil)))))) (sSeq (sRet (cVar 3)) sPass) sPass) sPass)) sPass) sPass) (sSeq (sRet (cOp2 ixK (cVar 2) (cCst (.int (0))))) sPass)))))
theorem e_first_bad_place : denSs i_first_bad_place = c_first_bad_place := rfl
def i_need_short : Ss := (.cons (.asg (.nm 1) (.cst (.int (1))))
  (.cons (.fr (.nm 2) (.rng (.bin .fdiv (.glb (.int (200))) (.cst (.int (50))))) (.cons (.asg (.nm 1) (.bin .mul (.var 1) (.bin .pow (.cst (.int (10))) (.cst (.int (50))))))
  .nil))
  (.cons (.ife (.not (.bi .allD (.comp [3] (.nm 3) (.seq (.call 45 1 (.cons (.var 0) .nil))) (.cmp .lt (.var 3) (.var 1))))) (.cons .never
  .nil) .nil)
  (.cons (.ret (.var 0))
  .nil))))
def c_need_short : CS := (sSeq (sAsg (gNm 1) (cCst (.int (1)))) (sSeq (sFor (gNm 2) (iRng (cOp2 (bop .fdiv) (cCst (.int (200))) (cCst (.int (50))))) (sSeq (sAsg (gNm 1) (cOp2 (bop .mul) (cVar 1) (cOp2 (bop .pow) (cCst (.int (10))) (cCst (.int (50)))))) sPass)) (sSeq (sIf (bNot (cTst (cBi .allD (cComp [3] (gNm 3) (iSeq (cCall 45 1 (cCons (cVar 0) cNil))) none (cOp2 (cop .lt) (cVar 3) (cVar 1)))))) (sSeq sNever sPass) sPass) (sSeq (sRet (cVar 0)) sPass))))
theorem e_need_short : denSs i_need_short = c_need_short := rfl
def i_zero_paper : Ss := (.cons (.asg (.nm 1) (.call 43 2 (.cons (.glb (.tup [(.str [81])])) (.cons (.var 0) .nil))))
  (.cons (.ife (.cmp .gt (.idx (.var 1) (.cst (.int (1)))) (.cst (.int (0)))) (.cons (.ret (.tup (.cons (.cst (.str [122, 101, 114, 111])) (.cons (.call 74 2 (.cons (.bi .tupleD (.comp [5] (.nm 5) (.seq (.idx (.var 1) (.cst (.int (2))))) (.idx (.var 5) (.cst (.int (0)))))) .nil)) .nil))))
  .nil) .nil)
  (.cons (.asg (.tp (.cons (.nm 3) (.cons (.nm 4) .nil))) (.call 29 2 (.cons (.var 0) .nil)))
  (.cons (.asg (.nm 2) (.call 73 2 (.cons (.var 4) .nil)))
  (.cons (.ife (.cmp .isnot (.var 2) (.cst .non)) (.cons (.ret (.tup (.cons (.cst (.str [110, 111, 32, 122, 101, 114, 111])) (.cons (.var 2) .nil))))
  .nil) .nil)
  (.cons (.ret (.tup (.cons (.cst (.str [122, 101, 114, 111])) (.cons (.call 74 2 (.cons (.call 38 2 (.cons (.glb (.tup [(.str [81])])) (.cons (.var 3) (.cons (.call 72 2 (.cons (.var 4) .nil)) .nil)))) .nil)) .nil))))
  .nil))))))
def c_zero_paper : CS := (sSeq (sAsg (gNm 1) (cCall 43 2 (cCons (cCst (.tup [(.str [81])])) (cCons (cVar 0) cNil)))) (sSeq (sIf (cTstB (cOp2 (cop .gt) (cOp2 ixK (cVar 1) (cCst (.int (1)))) (cCst (.int (0))))) (sSeq (sRet (cTup (cCons (cCst (.str [122, 101, 114, 111])) (cCons (cCall 74 2 (cCons (cBi .tupleD (cComp [5] (gNm 5) (iSeq (cOp2 ixK (cVar 1) (cCst (.int (2))))) none (cOp2 ixK (cVar 5) (cCst (.int (0)))))) cNil)) cNil)))) sPass) sPass) (sSeq (sAsg (gTp 2 (gCons (gNm 3) (gCons (gNm 4) gNil))) (cCall 29 2 (cCons (cVar 0) cNil))) (sSeq (sAsg (gNm 2) (cCall 73 2 (cCons (cVar 4) cNil))) (sSeq (sIf (cTstB (cOp2 (cop .isnot) (cVar 2) (cCst .non))) (sSeq (sRet (cTup (cCons (cCst (.str [110, 111, 32, 122, 101, 114, 111])) (cCons (cVar 2) cNil)))) sPass) sPass) (sSeq (sRet (cTup (cCons (cCst (.str [122, 101, 114, 111])) (cCons (cCall 74 2 (cCons (cCall 38 2 (cCons (cCst (.tup [(.str [81])])) (cCons (cVar 3) (cCons (cCall 72 2 (cCons (cVar 4) cNil)) cNil)))) cNil)) cNil)))) sPass))))))
theorem e_zero_paper : denSs i_zero_paper = c_zero_paper := rfl
def i_is_place : Ss := (.cons (.ife (.or (.isi 3 (.var 0)) (.or (.not (.isi 0 (.var 0))) (.not (.chain .le .le (.cst (.int (0))) (.var 0) (.glb (.int (1000000))))))) (.cons (.ret (.cst (.bl false)))
  .nil) .nil)
  (.cons (.ret (.or (.cmp .eq (.var 0) (.cst (.int (0)))) (.call 32 2 (.cons (.var 0) .nil))))
  .nil))
def c_is_place : CS := (sSeq (sIf (bOr (cTst (cIsi 3 (cVar 0))) (bOr (bNot (cTst (cIsi 0 (cVar 0)))) (bNot (cTstB (cChain (cop .le) (cop .le) (cCst (.int (0))) (cVar 0) (cCst (.int (1000000)))))))) (sSeq (sRet (cCst (.bl false))) sPass) sPass) (sSeq (sRet (cOr (cOp2 (cop .eq) (cVar 0) (cCst (.int (0)))) (cCall 32 2 (cCons (cVar 0) cNil)))) sPass))
theorem e_is_place : denSs i_is_place = c_is_place := rfl
def i_judge_zero_of : Ss := (.cons (.ife (.or (.not (.isi 1 (.var 1))) (.or (.cmp .ne (.bi .len (.var 1)) (.cst (.int (2)))) (.not (.isi 2 (.idx (.var 1) (.cst (.int (0)))))))) (.cons (.ret (.cst (.bl false)))
  .nil) .nil)
  (.cons (.ife (.cmp .eq (.idx (.var 1) (.cst (.int (0)))) (.cst (.str [122, 101, 114, 111]))) (.cons (.ret (.and (.call 46 2 (.cons (.idx (.var 1) (.cst (.int (1)))) (.cons (.idx (.var 0) (.cst (.int (0)))) .nil))) (.and (.not (.call 47 2 (.cons (.idx (.var 1) (.cst (.int (1)))) .nil))) (.cmp .eq (.idx (.call 58 2 (.cons (.var 0) (.cons (.idx (.var 1) (.cst (.int (1)))) .nil))) (.cst (.int (0)))) (.cst (.int (0)))))))
  .nil) .nil)
  (.cons (.ret (.and (.cmp .eq (.idx (.var 1) (.cst (.int (0)))) (.cst (.str [110, 111, 32, 122, 101, 114, 111]))) (.and (.call 76 2 (.cons (.idx (.var 1) (.cst (.int (1)))) .nil)) (.not (.call 57 2 (.cons (.var 0) (.cons (.idx (.var 1) (.cst (.int (1)))) .nil)))))))
  .nil)))
def c_judge_zero_of : CS := (sSeq (sIf (bOr (bNot (cTst (cIsi 1 (cVar 1)))) (bOr (cTstB (cOp2 (cop .ne) (cBi .len (cVar 1)) (cCst (.int (2))))) (bNot (cTst (cIsi 2 (cOp2 ixK (cVar 1) (cCst (.int (0))))))))) (sSeq (sRet (cCst (.bl false))) sPass) sPass) (sSeq (sIf (cTstB (cOp2 (cop .eq) (cOp2 ixK (cVar 1) (cCst (.int (0)))) (cCst (.str [122, 101, 114, 111])))) (sSeq (sRet (cAnd (cCall 46 2 (cCons (cOp2 ixK (cVar 1) (cCst (.int (1)))) (cCons (cOp2 ixK (cVar 0) (cCst (.int (0)))) cNil))) (cAnd (cNot (cCall 47 2 (cCons (cOp2 ixK (cVar 1) (cCst (.int (1)))) cNil))) (cOp2 (cop .eq) (cOp2 ixK (cCall 58 2 (cCons (cVar 0) (cCons (cOp2 ixK (cVar 1) (cCst (.int (1)))) cNil))) (cCst (.int (0)))) (cCst (.int (0))))))) sPass) sPass) (sSeq (sRet (cAnd (cOp2 (cop .eq) (cOp2 ixK (cVar 1) (cCst (.int (0)))) (cCst (.str [110, 111, 32, 122, 101, 114, 111]))) (cAnd (cCall 76 2 (cCons (cOp2 ixK (cVar 1) (cCst (.int (1)))) cNil)) (cNot (cCall 57 2 (cCons (cVar 0) (cCons (cOp2 ixK (cVar 1) (cCst (.int (1)))) cNil))))))) sPass)))
theorem e_judge_zero_of : denSs i_judge_zero_of = c_judge_zero_of := rfl
def i_above : Ss := (.cons (.ret (.bi .lenD (.compIf [1] (.nm 1) (.seq (.var 0)) (.cmp .gt (.idx (.var 1) (.cst (.int (0)))) (.cst (.int (0)))) (.var 1))))
  .nil)
def c_above : CS := (sSeq (sRet (cBi .lenD (cComp [1] (gNm 1) (iSeq (cVar 0)) (some (cTstB (cOp2 (cop .gt) (cOp2 ixK (cVar 1) (cCst (.int (0)))) (cCst (.int (0)))))) (cVar 1)))) sPass)
theorem e_above : denSs i_above = c_above := rfl
def i_turned : Ss := (.cons (.ret (.call 28 2 (.cons (.glb (.tup [(.str [81])])) (.cons (.call 28 2 (.cons (.glb (.tup [(.str [81])])) (.cons (.call 27 2 (.cons (.var 1) .nil)) (.cons (.var 0) .nil)))) (.cons (.var 1) .nil)))))
  .nil)
def c_turned : CS := (sSeq (sRet (cCall 28 2 (cCons (cCst (.tup [(.str [81])])) (cCons (cCall 28 2 (cCons (cCst (.tup [(.str [81])])) (cCons (cCall 27 2 (cCons (cVar 1) cNil)) (cCons (cVar 0) cNil)))) (cCons (cVar 1) cNil))))) sPass)
theorem e_turned : denSs i_turned = c_turned := rfl
def i_judge_equivalence : Ss := (.cons (.ife (.or (.not (.isi 1 (.var 2))) (.or (.cmp .ne (.bi .len (.var 2)) (.cst (.int (2)))) (.not (.isi 2 (.idx (.var 2) (.cst (.int (0)))))))) (.cons (.ret (.cst (.bl false)))
  .nil) .nil)
  (.cons (.ife (.cmp .eq (.idx (.var 2) (.cst (.int (0)))) (.cst (.str [101, 113, 117, 105, 118, 97, 108, 101, 110, 116]))) (.cons (.ife (.or (.not (.call 36 2 (.cons (.glb (.tup [(.str [81])])) (.cons (.idx (.var 2) (.cst (.int (1)))) .nil)))) (.or (.cmp .ne (.sl (.idx (.var 2) (.cst (.int (1)))) .nil (.cons (.cst (.int (2))) .nil)) (.sl (.var 0) .nil (.cons (.cst (.int (2))) .nil))) (.cmp .lt (.call 42 2 (.cons (.glb (.tup [(.str [81])])) (.cons (.idx (.var 2) (.cst (.int (1)))) .nil))) (.idx (.var 0) (.cst (.int (0))))))) (.cons (.ret (.cst (.bl false)))
  .nil) .nil)
  (.cons (.ret (.cmp .eq (.call 79 2 (.cons (.var 0) (.cons (.idx (.var 2) (.cst (.int (1)))) .nil))) (.var 1)))
  .nil)) .nil)
  (.cons (.ife (.cmp .ne (.idx (.var 2) (.cst (.int (0)))) (.cst (.str [117, 110, 108, 105, 107, 101]))) (.cons (.ret (.cst (.bl false)))
  .nil) .nil)
  (.cons (.par2 3 4 (.idx (.call 29 2 (.cons (.var 0) .nil)) (.cst (.int (1)))) (.idx (.call 29 2 (.cons (.var 1) .nil)) (.cst (.int (1)))))
  (.cons (.ife (.cmp .eq (.idx (.var 2) (.cst (.int (1)))) (.cst (.str [100, 101, 116, 101, 114, 109, 105, 110, 97, 110, 116]))) (.cons (.ret (.cmp .is (.call 62 2 (.cons (.call 3 2 (.cons (.call 53 2 (.cons (.var 3) .nil)) (.cons (.call 53 2 (.cons (.var 4) .nil)) .nil))) .nil)) (.cst .non)))
  .nil) .nil)
  (.cons (.ife (.cmp .eq (.idx (.var 2) (.cst (.int (1)))) (.cst (.str [115, 105, 103, 110, 97, 116, 117, 114, 101]))) (.cons (.ret (.cmp .ne (.call 78 2 (.cons (.var 3) .nil)) (.call 78 2 (.cons (.var 4) .nil))))
  .nil) .nil)
  (.cons (.ife (.or (.not (.call 76 2 (.cons (.idx (.var 2) (.cst (.int (1)))) .nil))) (.or (.cmp .eq (.idx (.var 2) (.cst (.int (1)))) (.cst (.int (0)))) (.cmp .is (.call 62 2 (.cons (.call 3 2 (.cons (.call 53 2 (.cons (.var 3) .nil)) (.cons (.call 53 2 (.cons (.var 4) .nil)) .nil))) .nil)) (.cst .non)))) (.cons (.ret (.cst (.bl false)))
  .nil) .nil)
  (.cons (.ret (.cmp .ne (.call 55 2 (.cons (.var 3) (.cons (.idx (.var 2) (.cst (.int (1)))) .nil))) (.call 55 2 (.cons (.var 4) (.cons (.idx (.var 2) (.cst (.int (1)))) .nil)))))
  .nil))))))))
def c_judge_equivalence : CS := (sSeq (sIf (bOr (bNot (cTst (cIsi 1 (cVar 2)))) (bOr (cTstB (cOp2 (cop .ne) (cBi .len (cVar 2)) (cCst (.int (2))))) (bNot (cTst (cIsi 2 (cOp2 ixK (cVar 2) (cCst (.int (0))))))))) (sSeq (sRet (cCst (.bl false))) sPass) sPass) (sSeq (sIf (cTstB (cOp2 (cop .eq) (cOp2 ixK (cVar 2) (cCst (.int (0)))) (cCst (.str [101, 113, 117, 105, 118, 97, 108, 101, 110, 116])))) (sSeq (sIf (bOr (bNot (cTst (cCall 36 2 (cCons (cCst (.tup [(.str [81])])) (cCons (cOp2 ixK (cVar 2) (cCst (.int (1)))) cNil))))) (bOr (cTstB (cOp2 (cop .ne) (cSl (cOp2 ixK (cVar 2) (cCst (.int (1)))) oNil (oSome (cCst (.int (2))))) (cSl (cVar 0) oNil (oSome (cCst (.int (2))))))) (cTstB (cOp2 (cop .lt) (cCall 42 2 (cCons (cCst (.tup [(.str [81])])) (cCons (cOp2 ixK (cVar 2) (cCst (.int (1)))) cNil))) (cOp2 ixK (cVar 0) (cCst (.int (0)))))))) (sSeq (sRet (cCst (.bl false))) sPass) sPass) (sSeq (sRet (cOp2 (cop .eq) (cCall 79 2 (cCons (cVar 0) (cCons (cOp2 ixK (cVar 2) (cCst (.int (1)))) cNil))) (cVar 1))) sPass)) sPass) (sSeq (sIf (cTstB (cOp2 (cop .ne) (cOp2 ixK (cVar 2) (cCst (.int (0)))) (cCst (.str [117, 110, 108, 105, 107, 101])))) (sSeq (sRet (cCst (.bl false))) sPass) sPass) (sSeq (sPar2 3 4 (cOp2 ixK (cCall 29 2 (cCons (cVar 0) cNil)) (cCst (.int (1)))) (cOp2 ixK (cCall 29 2 (cCons (cVar 1) cNil)) (cCst (.int (1))))) (sSeq (sIf (cTstB (cOp2 (cop .eq) (cOp2 ixK (cVar 2) (cCst (.int (1)))) (cCst (.str [100, 101, 116, 101, 114, 109, 105, 110, 97, 110, 116])))) (sSeq (sRet (cOp2 (cop .is) (cCall 62 2 (cCons (cCall 3 2 (cCons (cCall 53 2 (cCons (cVar 3) cNil)) (cCons (cCall 53 2 (cCons (cVar 4) cNil)) cNil))) cNil)) (cCst .non))) sPass) sPass) (sSeq (sIf (cTstB (cOp2 (cop .eq) (cOp2 ixK (cVar 2) (cCst (.int (1)))) (cCst (.str [115, 105, 103, 110, 97, 116, 117, 114, 101])))) (sSeq (sRet (cOp2 (cop .ne) (cCall 78 2 (cCons (cVar 3) cNil)) (cCall 78 2 (cCons (cVar 4) cNil)))) sPass) sPass) (sSeq (sIf (bOr (bNot (cTst (cCall 76 2 (cCons (cOp2 ixK (cVar 2) (cCst (.int (1)))) cNil)))) (bOr (cTstB (cOp2 (cop .eq) (cOp2 ixK (cVar 2) (cCst (.int (1)))) (cCst (.int (0))))) (cTstB (cOp2 (cop .is) (cCall 62 2 (cCons (cCall 3 2 (cCons (cCall 53 2 (cCons (cVar 3) cNil)) (cCons (cCall 53 2 (cCons (cVar 4) cNil)) cNil))) cNil)) (cCst .non))))) (sSeq (sRet (cCst (.bl false))) sPass) sPass) (sSeq (sRet (cOp2 (cop .ne) (cCall 55 2 (cCons (cVar 3) (cCons (cOp2 ixK (cVar 2) (cCst (.int (1)))) cNil))) (cCall 55 2 (cCons (cVar 4) (cCons (cOp2 ixK (cVar 2) (cCst (.int (1)))) cNil))))) sPass))))))))
theorem e_judge_equivalence : denSs i_judge_equivalence = c_judge_equivalence := rfl
def i__law_product : Ss := (.cons (.asg (.nm 2) (.lst .nil))
  (.cons (.fr (.nm 3) (.seq (.var 0)) (.cons (.asg (.nm 4) (.lst .nil))
  (.cons (.fr (.nm 5) (.rng (.ife (.var 1) (.bi .len (.idx (.var 1) (.cst (.int (0))))) (.cst (.int (0))))) (.cons (.asg (.nm 6) (.tup (.cons (.cst (.int (0))) (.cons (.cst (.int (1))) .nil))))
  (.cons (.fr (.nm 7) (.rng (.bi .len (.var 1))) (.cons (.ife (.and (.cmp .ne (.idx (.idx (.var 3) (.var 7)) (.cst (.int (0)))) (.cst (.int (0)))) (.cmp .ne (.idx (.idx (.idx (.var 1) (.var 7)) (.var 5)) (.cst (.int (0)))) (.cst (.int (0))))) (.cons (.asg (.nm 6) (.call 6 2 (.cons (.var 6) (.cons (.call 7 2 (.cons (.idx (.var 3) (.var 7)) (.cons (.idx (.idx (.var 1) (.var 7)) (.var 5)) .nil))) .nil))))
  .nil) .nil)
  .nil))
  (.cons (.ex (.mth .append 4 (.cons (.var 6) .nil)))
  .nil))))
  (.cons (.ex (.mth .append 2 (.cons (.bi .tuple (.var 4)) .nil)))
  .nil))))
  (.cons (.ret (.bi .tuple (.var 2)))
  .nil)))
def c__law_product : CS := (sSeq (sAsg (gNm 2) (cLst cNil)) (sSeq (sFor (gNm 3) (iSeq (cVar 0)) (sSeq (sAsg (gNm 4) (cLst cNil)) (sSeq (sFor (gNm 5) (iRng (cIfe (cTst (cVar 1)) (cBi .len (cOp2 ixK (cVar 1) (cCst (.int (0))))) (cCst (.int (0))))) (sSeq (sAsg (gNm 6) (cTup (cCons (cCst (.int (0))) (cCons (cCst (.int (1))) cNil)))) (sSeq (sFor (gNm 7) (iRng (cBi .len (cVar 1))) (sSeq (sIf (bAnd (cTstB (cOp2 (cop .ne) (cOp2 ixK (cOp2 ixK (cVar 3) (cVar 7)) (cCst (.int (0)))) (cCst (.int (0))))) (cTstB (cOp2 (cop .ne) (cOp2 ixK (cOp2 ixK (cOp2 ixK (cVar 1) (cVar 7)) (cVar 5)) (cCst (.int (0)))) (cCst (.int (0)))))) (sSeq (sAsg (gNm 6) (cCall 6 2 (cCons (cVar 6) (cCons (cCall 7 2 (cCons (cOp2 ixK (cVar 3) (cVar 7)) (cCons (cOp2 ixK (cOp2 ixK (cVar 1) (cVar 7)) (cVar 5)) cNil))) cNil)))) sPass) sPass) sPass)) (sSeq (sEx (cMth .append 4 (cCons (cVar 6) cNil))) sPass)))) (sSeq (sEx (cMth .append 2 (cCons (cBi .tuple (cVar 4)) cNil))) sPass)))) (sSeq (sRet (cBi .tuple (cVar 2))) sPass)))
theorem e__law_product : denSs i__law_product = c__law_product := rfl
def i__law_matrix : Ss := (.cons (.ret (.tup (.cons (.bi .len (.var 0)) (.cons (.var 1) (.cons (.bi .tupleD (.comp [2] (.nm 2) (.seq (.var 0)) (.bi .tuple (.var 2)))) .nil)))))
  .nil)
def c__law_matrix : CS := (sSeq (sRet (cTup (cCons (cBi .len (cVar 0)) (cCons (cVar 1) (cCons (cBi .tupleD (cComp [2] (gNm 2) (iSeq (cVar 0)) none (cBi .tuple (cVar 2)))) cNil))))) sPass)
theorem e__law_matrix : denSs i__law_matrix = c__law_matrix := rfl
def i__law_multiplied : Ss := (.cons (.asg (.nm 2) (.bin .mul (.lst (.cons (.cst (.int (0))) .nil)) (.bin .sub (.bin .add (.bi .len (.var 0)) (.bi .len (.var 1))) (.cst (.int (1))))))
  (.cons (.fr (.nm 3) (.rng (.bi .len (.var 0))) (.cons (.fr (.nm 4) (.rng (.bi .len (.var 1))) (.cons (.asg (.sb (.var 2) (.bin .add (.var 3) (.var 4))) (.bin .add (.idx (.var 2) (.bin .add (.var 3) (.var 4))) (.bin .mul (.idx (.var 0) (.var 3)) (.idx (.var 1) (.var 4)))))
  .nil))
  .nil))
  (.cons (.ret (.var 2))
  .nil)))
def c__law_multiplied : CS := (sSeq (sAsg (gNm 2) (cOp2 (bop .mul) (cLst (cCons (cCst (.int (0))) cNil)) (cOp2 (bop .sub) (cOp2 (bop .add) (cBi .len (cVar 0)) (cBi .len (cVar 1))) (cCst (.int (1)))))) (sSeq (sFor (gNm 3) (iRng (cBi .len (cVar 0))) (sSeq (sFor (gNm 4) (iRng (cBi .len (cVar 1))) (sSeq (sAsg (gSb (cVar 2) (cOp2 (bop .add) (cVar 3) (cVar 4))) (cOp2 (bop .add) (cOp2 ixK (cVar 2) (cOp2 (bop .add) (cVar 3) (cVar 4))) (cOp2 (bop .mul) (cOp2 ixK (cVar 0) (cVar 3)) (cOp2 ixK (cVar 1) (cVar 4))))) sPass)) sPass)) (sSeq (sRet (cVar 2)) sPass)))
theorem e__law_multiplied : denSs i__law_multiplied = c__law_multiplied := rfl
def i__law_drawn : Ss := (.cons (.par3 2 3 4 (.lst (.cons (.cst (.int (1))) .nil)) (.dct .nil) (.dct .nil))
  (.cons (.fr (.nm 1) (.rng (.bin .add (.cst (.int (1))) (.call 18 0 (.cons (.var 0) (.cons (.cst (.int (3))) .nil))))) (.cons (.ife (.and (.cmp .lt (.bi .len (.var 2)) (.cst (.int (4)))) (.cmp .eq (.call 18 0 (.cons (.var 0) (.cons (.cst (.int (4))) .nil))) (.cst (.int (0))))) (.cons (.asg (.nm 5) (.call 18 0 (.cons (.var 0) (.cons (.cst (.int (2))) .nil))))
  (.cons (.asg (.nm 2) (.call 85 0 (.cons (.var 2) (.cons (.idx (.lst (.cons (.lst (.cons (.cst (.int (1))) (.cons (.cst (.int (0))) (.cons (.cst (.int (1))) .nil)))) (.cons (.lst (.cons (.cst (.int (2))) (.cons (.cst (.int (1))) (.cons (.cst (.int (1))) .nil)))) .nil))) (.var 5)) .nil))))
  (.cons (.asg (.sb (.var 4) (.var 5)) (.cst (.bl true)))
  .nil))) (.cons (.ife (.cmp .lt (.bi .len (.var 2)) (.cst (.int (5)))) (.cons (.asg (.nm 6) (.bin .sub (.call 18 0 (.cons (.var 0) (.cons (.cst (.int (5))) .nil))) (.cst (.int (2)))))
  (.cons (.asg (.nm 2) (.call 85 0 (.cons (.var 2) (.cons (.lst (.cons (.bin .sub (.cst (.int (0))) (.var 6)) (.cons (.cst (.int (1))) .nil))) .nil))))
  (.cons (.asg (.sb (.var 3) (.var 6)) (.cst (.bl true)))
  .nil))) .nil)
  .nil))
  .nil))
  (.cons (.ret (.lst (.cons (.var 2) (.cons (.bi .len (.var 3)) (.cons (.bi .len (.var 4)) .nil)))))
  .nil)))
def c__law_drawn : CS := (sSeq (sPar3 2 3 4 (cLst (cCons (cCst (.int (1))) cNil)) (cDct pNil) (cDct pNil)) (sSeq (sFor (gNm 1) (iRng (cOp2 (bop .add) (cCst (.int (1))) (cCall 18 0 (cCons (cVar 0) (cCons (cCst (.int (3))) cNil))))) (sSeq (sIf (bAnd (cTstB (cOp2 (cop .lt) (cBi .len (cVar 2)) (cCst (.int (4))))) (cTstB (cOp2 (cop .eq) (cCall 18 0 (cCons (cVar 0) (cCons (cCst (.int (4))) cNil))) (cCst (.int (0)))))) (sSeq (sAsg (gNm 5) (cCall 18 0 (cCons (cVar 0) (cCons (cCst (.int (2))) cNil)))) (sSeq (sAsg (gNm 2) (cCall 85 0 (cCons (cVar 2) (cCons (cOp2 ixK (cLst (cCons (cLst (cCons (cCst (.int (1))) (cCons (cCst (.int (0))) (cCons (cCst (.int (1))) cNil)))) (cCons (cLst (cCons (cCst (.int (2))) (cCons (cCst (.int (1))) (cCons (cCst (.int (1))) cNil)))) cNil))) (cVar 5)) cNil)))) (sSeq (sAsg (gSb (cVar 4) (cVar 5)) (cCst (.bl true))) sPass))) (sSeq (sIf (cTstB (cOp2 (cop .lt) (cBi .len (cVar 2)) (cCst (.int (5))))) (sSeq (sAsg (gNm 6) (cOp2 (bop .sub) (cCall 18 0 (cCons (cVar 0) (cCons (cCst (.int (5))) cNil))) (cCst (.int (2))))) (sSeq (sAsg (gNm 2) (cCall 85 0 (cCons (cVar 2) (cCons (cLst (cCons (cOp2 (bop .sub) (cCst (.int (0))) (cVar 6)) (cCons (cCst (.int (1))) cNil))) cNil)))) (sSeq (sAsg (gSb (cVar 3) (cVar 6)) (cCst (.bl true))) sPass))) sPass) sPass)) sPass)) (sSeq (sRet (cLst (cCons (cVar 2) (cCons (cBi .len (cVar 3)) (cCons (cBi .len (cVar 4)) cNil))))) sPass)))
theorem e__law_drawn : denSs i__law_drawn = c__law_drawn := rfl
def i__law_sums : Ss := (.cons (.asg (.nm 2) (.bin .sub (.bi .len (.var 0)) (.cst (.int (1)))))
  (.cons (.asg (.nm 3) (.lst (.cons (.var 2) .nil)))
  (.cons (.fr (.nm 4) (.rng2 (.cst (.int (1))) (.var 1)) (.cons (.asg (.nm 5) (.cst (.int (0))))
  (.cons (.fr (.nm 6) (.rng2 (.cst (.int (1))) (.bin .add (.min2 (.bin .sub (.var 4) (.cst (.int (1)))) (.var 2)) (.cst (.int (1))))) (.cons (.asg (.nm 5) (.bin .sub (.var 5) (.bin .mul (.idx (.var 0) (.bin .sub (.var 2) (.var 6))) (.idx (.var 3) (.bin .sub (.var 4) (.var 6))))))
  .nil))
  (.cons (.ex (.mth .append 3 (.cons (.ife (.cmp .le (.var 4) (.var 2)) (.bin .sub (.var 5) (.bin .mul (.var 4) (.idx (.var 0) (.bin .sub (.var 2) (.var 4))))) (.var 5)) .nil)))
  .nil))))
  (.cons (.ret (.var 3))
  .nil))))
def c__law_sums : CS := (sSeq (sAsg (gNm 2) (cOp2 (bop .sub) (cBi .len (cVar 0)) (cCst (.int (1))))) (sSeq (sAsg (gNm 3) (cLst (cCons (cVar 2) cNil))) (sSeq (sFor (gNm 4) (iRng2 (cCst (.int (1))) (cVar 1)) (sSeq (sAsg (gNm 5) (cCst (.int (0)))) (sSeq (sFor (gNm 6) (iRng2 (cCst (.int (1))) (cOp2 (bop .add) (cOp2 opMin (cOp2 (bop .sub) (cVar 4) (cCst (.int (1)))) (cVar 2)) (cCst (.int (1))))) (sSeq (sAsg (gNm 5) (cOp2 (bop .sub) (cVar 5) (cOp2 (bop .mul) (cOp2 ixK (cVar 0) (cOp2 (bop .sub) (cVar 2) (cVar 6))) (cOp2 ixK (cVar 3) (cOp2 (bop .sub) (cVar 4) (cVar 6)))))) sPass)) (sSeq (sEx (cMth .append 3 (cCons (cIfe (cTstB (cOp2 (cop .le) (cVar 4) (cVar 2))) (cOp2 (bop .sub) (cVar 5) (cOp2 (bop .mul) (cVar 4) (cOp2 ixK (cVar 0) (cOp2 (bop .sub) (cVar 2) (cVar 4))))) (cVar 5)) cNil))) sPass)))) (sSeq (sRet (cVar 3)) sPass))))
theorem e__law_sums : denSs i__law_sums = c__law_sums := rfl
def i__law_counts : Ss := (.cons (.par2 1 2 (.bi .lenD (.compIf [3] (.nm 3) (.seq (.var 0)) (.cmp .gt (.idx (.var 3) (.cst (.int (0)))) (.cst (.int (0)))) (.var 3))) (.bi .lenD (.compIf [3] (.nm 3) (.seq (.var 0)) (.cmp .lt (.idx (.var 3) (.cst (.int (0)))) (.cst (.int (0)))) (.var 3))))
  (.cons (.ret (.lst (.cons (.bin .add (.var 1) (.var 2)) (.cons (.bin .sub (.var 1) (.var 2)) .nil))))
  .nil))
def c__law_counts : CS := (sSeq (sPar2 1 2 (cBi .lenD (cComp [3] (gNm 3) (iSeq (cVar 0)) (some (cTstB (cOp2 (cop .gt) (cOp2 ixK (cVar 3) (cCst (.int (0)))) (cCst (.int (0)))))) (cVar 3))) (cBi .lenD (cComp [3] (gNm 3) (iSeq (cVar 0)) (some (cTstB (cOp2 (cop .lt) (cOp2 ixK (cVar 3) (cCst (.int (0)))) (cCst (.int (0)))))) (cVar 3)))) (sSeq (sRet (cLst (cCons (cOp2 (bop .add) (cVar 1) (cVar 2)) (cCons (cOp2 (bop .sub) (cVar 1) (cVar 2)) cNil)))) sPass))
theorem e__law_counts : denSs i__law_counts = c__law_counts := rfl
def i_law2 : Ss := (.cons (.asg (.nm 2) (.bin .sub (.bi .len (.var 11)) (.cst (.int (1)))))
  (.cons (.asg (.nm 3) (.call 87 0 (.cons (.var 11) (.cons (.bin .mul (.cst (.int (2))) (.var 2)) .nil))))
  (.cons (.asg (.nm 4) (.comp [16] (.nm 16) (.rng (.var 2)) (.comp [17] (.nm 17) (.rng (.var 2)) (.tup (.cons (.idx (.var 3) (.bin .add (.var 16) (.var 17))) (.cons (.cst (.int (1))) .nil))))))
  (.cons (.asg (.nm 5) (.comp [16] (.nm 16) (.rng (.var 2)) (.comp [17] (.nm 17) (.rng (.var 2)) (.tup (.cons (.bi .int (.cmp .eq (.var 16) (.var 17))) (.cons (.cst (.int (1))) .nil))))))
  (.cons (.ife (.cmp .gt (.var 2) (.cst (.int (1)))) (.cons (.asg (.sb (.idx (.var 5) (.bin .sub (.var 2) (.cst (.int (1))))) (.cst (.int (0)))) (.idx (.lst (.cons (.tup (.cons (.cst (.int (1))) (.cons (.cst (.int (1))) .nil))) (.cons (.tup (.cons (.neg (.cst (.int (1)))) (.cons (.cst (.int (1))) .nil))) (.cons (.tup (.cons (.cst (.int (0))) (.cons (.cst (.int (1))) .nil))) .nil)))) (.call 18 0 (.cons (.var 1) (.cons (.cst (.int (3))) .nil)))))
  .nil) .nil)
  (.cons (.asg (.nm 6) (.comp [17] (.nm 17) (.rng (.var 2)) (.comp [20] (.nm 20) (.seq (.var 5)) (.idx (.var 20) (.var 17)))))
  (.cons (.asg (.nm 7) (.call 83 0 (.cons (.call 83 0 (.cons (.var 6) (.cons (.var 4) .nil))) (.cons (.var 5) .nil))))
  (.cons (.asg (.nm 8) (.cst (.str [110, 101, 105, 116, 104, 101, 114])))
  (.cons (.ife (.cmp .eq (.var 13) (.cst (.int (0)))) (.cons (.asg (.nm 8) (.ife (.cmp .eq (.var 12) (.var 2)) (.cst (.str [112, 111, 115, 105, 116, 105, 118, 101])) (.cst (.str [110, 111, 116, 32, 110, 101, 103, 97, 116, 105, 118, 101]))))
  .nil) .nil)
  (.cons (.asg (.nm 9) (.call 84 0 (.cons (.var 4) (.cons (.var 2) .nil))))
  (.cons (.fr (.nm 10) (.seq (.lst (.cons (.var 9) (.cons (.call 84 0 (.cons (.var 7) (.cons (.var 2) .nil))) .nil)))) (.cons (.asg (.tp (.cons (.nm 18) (.cons (.nm 19) .nil))) (.call 29 2 (.cons (.var 10) .nil)))
  (.cons (.ife (.or (.cmp .ne (.call 88 1 (.cons (.var 19) .nil)) (.lst (.cons (.bin .add (.var 12) (.bin .mul (.cst (.int (2))) (.var 13))) (.cons (.var 12) .nil)))) (.cmp .ne (.call 44 2 (.cons (.var 10) .nil)) (.var 8))) (.cons (.ret (.cst (.bl false)))
  .nil) .nil)
  (.cons (.asg (.nm 14) (.comp [17] (.nm 17) (.rng (.var 2)) (.comp [20] (.nm 20) (.seq (.idx (.var 18) (.cst (.int (2))))) (.idx (.var 20) (.var 17)))))
  (.cons (.asg (.nm 15) (.call 83 0 (.cons (.call 83 0 (.cons (.var 14) (.cons (.idx (.var 10) (.cst (.int (2)))) .nil))) (.cons (.idx (.var 18) (.cst (.int (2)))) .nil))))
  (.cons (.ife (.bi .anyD (.comp [16] (.nm 16) (.rng (.var 2)) (.bi .anyD (.comp [17] (.nm 17) (.rng (.var 2)) (.cmp .ne (.idx (.idx (.var 15) (.var 16)) (.var 17)) (.ife (.cmp .eq (.var 16) (.var 17)) (.idx (.var 19) (.var 16)) (.tup (.cons (.cst (.int (0))) (.cons (.cst (.int (1))) .nil))))))))) (.cons (.ret (.cst (.bl false)))
  .nil) .nil)
  (.cons (.ife (.cmp .ne (.call 57 2 (.cons (.var 10) (.cons (.cst (.int (0))) .nil))) (.cmp .ne (.var 8) (.cst (.str [112, 111, 115, 105, 116, 105, 118, 101])))) (.cons (.ret (.cst (.bl false)))
  .nil) .nil)
  .nil)))))))
  (.cons (.ife (.cmp .eq (.bin .add (.var 12) (.bin .mul (.cst (.int (2))) (.var 13))) (.var 2)) (.cons (.ife (.cmp .isnot (.call 80 2 (.cons (.var 9) (.cons (.call 84 0 (.cons (.var 7) (.cons (.var 2) .nil))) (.cons (.tup (.cons (.cst (.str [101, 113, 117, 105, 118, 97, 108, 101, 110, 116])) (.cons (.call 84 0 (.cons (.var 5) (.cons (.var 2) .nil))) .nil))) .nil)))) (.cst (.bl true))) (.cons (.ret (.cst (.bl false)))
  .nil) .nil)
  (.cons (.ife (.cmp .eq (.var 8) (.cst (.str [112, 111, 115, 105, 116, 105, 118, 101]))) (.cons (.tryB (.cons (.asg (.nm 10) (.call 75 2 (.cons (.var 9) .nil)))
  .nil))
  (.cons (.ret (.and (.cmp .eq (.var 10) (.tup (.cons (.cst (.str [110, 111, 32, 122, 101, 114, 111])) (.cons (.cst (.int (0))) .nil)))) (.cmp .is (.call 77 2 (.cons (.var 9) (.cons (.var 10) .nil))) (.cst (.bl true)))))
  .nil)) .nil)
  .nil)) .nil)
  (.cons (.ret (.cst (.bl true)))
  .nil)))))))))))))
def c_law2 : CS := (sSeq (sAsg (gNm 2) (cOp2 (bop .sub) (cBi .len (cVar 11)) (cCst (.int (1))))) (sSeq (sAsg (gNm 3) (cCall 87 0 (cCons (cVar 11) (cCons (cOp2 (bop .mul) (cCst (.int (2))) (cVar 2)) cNil)))) (sSeq (sAsg (gNm 4) (cComp [16] (gNm 16) (iRng (cVar 2)) none (cComp [17] (gNm 17) (iRng (cVar 2)) none (cTup (cCons (cOp2 ixK (cVar 3) (cOp2 (bop .add) (cVar 16) (cVar 17))) (cCons (cCst (.int (1))) cNil)))))) (sSeq (sAsg (gNm 5) (cComp [16] (gNm 16) (iRng (cVar 2)) none (cComp [17] (gNm 17) (iRng (cVar 2)) none (cTup (cCons (cBi .int (cOp2 (cop .eq) (cVar 16) (cVar 17))) (cCons (cCst (.int (1))) cNil)))))) (sSeq (sIf (cTstB (cOp2 (cop .gt) (cVar 2) (cCst (.int (1))))) (sSeq (sAsg (gSb (cOp2 ixK (cVar 5) (cOp2 (bop .sub) (cVar 2) (cCst (.int (1))))) (cCst (.int (0)))) (cOp2 ixK (cLst (cCons (cTup (cCons (cCst (.int (1))) (cCons (cCst (.int (1))) cNil))) (cCons (cTup (cCons (cNeg (cCst (.int (1)))) (cCons (cCst (.int (1))) cNil))) (cCons (cTup (cCons (cCst (.int (0))) (cCons (cCst (.int (1))) cNil))) cNil)))) (cCall 18 0 (cCons (cVar 1) (cCons (cCst (.int (3))) cNil))))) sPass) sPass) (sSeq (sAsg (gNm 6) (cComp [17] (gNm 17) (iRng (cVar 2)) none (cComp [20] (gNm 20) (iSeq (cVar 5)) none (cOp2 ixK (cVar 20) (cVar 17))))) (sSeq (sAsg (gNm 7) (cCall 83 0 (cCons (cCall 83 0 (cCons (cVar 6) (cCons (cVar 4) cNil))) (cCons (cVar 5) cNil)))) (sSeq (sAsg (gNm 8) (cCst (.str [110, 101, 105, 116, 104, 101, 114]))) (sSeq (sIf (cTstB (cOp2 (cop .eq) (cVar 13) (cCst (.int (0))))) (sSeq (sAsg (gNm 8) (cIfe (cTstB (cOp2 (cop .eq) (cVar 12) (cVar 2))) (cCst (.str [112, 111, 115, 105, 116, 105, 118, 101])) (cCst (.str [110, 111, 116, 32, 110, 101, 103, 97, 116, 105, 118, 101])))) sPass) sPass) (sSeq (sAsg (gNm 9) (cCall 84 0 (cCons (cVar 4) (cCons (cVar 2) cNil)))) (sSeq (sFor (gNm 10) (iSeq (cLst (cCons (cVar 9) (cCons (cCall 84 0 (cCons (cVar 7) (cCons (cVar 2) cNil))) cNil)))) (sSeq (sAsg (gTp 2 (gCons (gNm 18) (gCons (gNm 19) gNil))) (cCall 29 2 (cCons (cVar 10) cNil))) (sSeq (sIf (bOr (cTstB (cOp2 (cop .ne) (cCall 88 1 (cCons (cVar 19) cNil)) (cLst (cCons (cOp2 (bop .add) (cVar 12) (cOp2 (bop .mul) (cCst (.int (2))) (cVar 13))) (cCons (cVar 12) cNil))))) (cTstB (cOp2 (cop .ne) (cCall 44 2 (cCons (cVar 10) cNil)) (cVar 8)))) (sSeq (sRet (cCst (.bl false))) sPass) sPass) (sSeq (sAsg (gNm 14) (cComp [17] (gNm 17) (iRng (cVar 2)) none (cComp [20] (gNm 20) (iSeq (cOp2 ixK (cVar 18) (cCst (.int (2))))) none (cOp2 ixK (cVar 20) (cVar 17))))) (sSeq (sAsg (gNm 15) (cCall 83 0 (cCons (cCall 83 0 (cCons (cVar 14) (cCons (cOp2 ixK (cVar 10) (cCst (.int (2)))) cNil))) (cCons (cOp2 ixK (cVar 18) (cCst (.int (2)))) cNil)))) (sSeq (sIf (cTst (cBi .anyD (cComp [16] (gNm 16) (iRng (cVar 2)) none (cBi .anyD (cComp [17] (gNm 17) (iRng (cVar 2)) none (cOp2 (cop .ne) (cOp2 ixK (cOp2 ixK (cVar 15) (cVar 16)) (cVar 17)) (cIfe (cTstB (cOp2 (cop .eq) (cVar 16) (cVar 17))) (cOp2 ixK (cVar 19) (cVar 16)) (cTup (cCons (cCst (.int (0))) (cCons (cCst (.int (1))) cNil)))))))))) (sSeq (sRet (cCst (.bl false))) sPass) sPass) (sSeq (sIf (cTstB (cOp2 (cop .ne) (cCall 57 2 (cCons (cVar 10) (cCons (cCst (.int (0))) cNil))) (cOp2 (cop .ne) (cVar 8) (cCst (.str [112, 111, 115, 105, 116, 105, 118, 101]))))) (sSeq (sRet (cCst (.bl false))) sPass) sPass) sPass))))))) (sSeq (sIf (cTstB (cOp2 (cop .eq) (cOp2 (bop .add) (cVar 12) (cOp2 (bop .mul) (cCst (.int (2))) (cVar 13))) (cVar 2))) (sSeq (sIf (cTstB (cOp2 (cop .isnot) (cCall 80 2 (cCons (cVar 9) (cCons (cCall 84 0 (cCons (cVar 7) (cCons (cVar 2) cNil))) (cCons (cTup (cCons (cCst (.str [101, 113, 117, 105, 118, 97, 108, 101, 110, 116])) (cCons (cCall 84 0 (cCons (cVar 5) (cCons (cVar 2) cNil))) cNil))) cNil)))) (cCst (.bl true)))) (sSeq (sRet (cCst (.bl false))) sPass) sPass) (sSeq (sIf (cTstB (cOp2 (cop .eq) (cVar 8) (cCst (.str [112, 111, 115, 105, 116, 105, 118, 101])))) (sSeq (sSeq (sAsg (gNm 10) (cCall 75 2 (cCons (cVar 9) cNil))) sPass) (sSeq (sRet (cAnd (cOp2 (cop .eq) (cVar 10) (cTup (cCons (cCst (.str [110, 111, 32, 122, 101, 114, 111])) (cCons (cCst (.int (0))) cNil)))) (cOp2 (cop .is) (cCall 77 2 (cCons (cVar 9) (cCons (cVar 10) cNil))) (cCst (.bl true))))) sPass)) sPass) sPass)) sPass) (sSeq (sRet (cCst (.bl true))) sPass)))))))))))))
theorem e_law2 : denSs i_law2 = c_law2 := rfl
def t_law : Ts := (.cons (.nm 11) (.cons (.nm 12) (.cons (.nm 13) .nil)))
def i_law : Ss := .cons (.asg (.tp t_law) (.call 86 0 (.cons (.var 1) .nil))) i_law2
abbrev f_add : Nat := 0
abbrev f_multiply : Nat := 1
abbrev f_plus : Nat := 2
abbrev f_times : Nat := 3
abbrev f_minus : Nat := 4
abbrev f_fraction : Nat := 5
abbrev f__law_plus : Nat := 6
abbrev f__law_times : Nat := 7
abbrev f__law_fraction : Nat := 8
abbrev f_zero : Nat := 9
abbrev f_one : Nat := 10
abbrev f_dot : Nat := 11
abbrev f_belongs : Nat := 12
abbrev f_is_integer : Nat := 13
abbrev f_divisor : Nat := 14
abbrev f__law_divisor : Nat := 15
abbrev f_negate : Nat := 16
abbrev f_add_line : Nat := 17
abbrev f__law_take : Nat := 18
abbrev f_add_row : Nat := 19
abbrev f_is_domain : Nat := 20
abbrev f_need_domain : Nat := 21
abbrev f_is_field : Nat := 22
abbrev f_need_field : Nat := 23
abbrev f_clear_below : Nat := 24
abbrev f_inverse : Nat := 25
abbrev f_identity : Nat := 26
abbrev f_transposed : Nat := 27
abbrev f_times_2 : Nat := 28
abbrev f_diagonal_form : Nat := 29
abbrev f_matrix : Nat := 30
abbrev f_common : Nat := 31
abbrev f_is_prime : Nat := 32
abbrev f_root : Nat := 33
abbrev f_is_element : Nat := 34
abbrev f_trimmed : Nat := 35
abbrev f_is_matrix : Nat := 36
abbrev f_need_shape : Nat := 37
abbrev f_applied : Nat := 38
abbrev f_diagonal : Nat := 39
abbrev f_eliminate : Nat := 40
abbrev f_pivots_of : Nat := 41
abbrev f_rank : Nat := 42
abbrev f_kernel : Nat := 43
abbrev f_form_word : Nat := 44
abbrev f_numbers_in : Nat := 45
abbrev f_is_vector : Nat := 46
abbrev f_is_nothing : Nat := 47
abbrev f_parted : Nat := 48
abbrev f_power_modulo : Nat := 49
abbrev f_residue_sign : Nat := 50
abbrev f_symbol : Nat := 51
abbrev f_square_at : Nat := 52
abbrev f_product_of : Nat := 53
abbrev f_negative : Nat := 54
abbrev f_symbols_of : Nat := 55
abbrev f_zero_at_prime : Nat := 56
abbrev f_zero_at : Nat := 57
abbrev f_value_at : Nat := 58
abbrev f_prime_factors : Nat := 59
abbrev f_square_part : Nat := 60
abbrev f_places_of : Nat := 61
abbrev f_square_root : Nat := 62
abbrev f_of_two : Nat := 63
abbrev f_of_three : Nat := 64
abbrev f_apart : Nat := 65
abbrev f_common_divisor : Nat := 66
abbrev f_small_zero : Nat := 67
abbrev f_middles : Nat := 68
abbrev f_has_zero : Nat := 69
abbrev f_of_four : Nat := 70
abbrev f_back_to_four : Nat := 71
abbrev f_zero_of_diagonal : Nat := 72
abbrev f_first_bad_place : Nat := 73
abbrev f_need_short : Nat := 74
abbrev f_zero_paper : Nat := 75
abbrev f_is_place : Nat := 76
abbrev f_judge_zero_of : Nat := 77
abbrev f_above : Nat := 78
abbrev f_turned : Nat := 79
abbrev f_judge_equivalence : Nat := 80
abbrev f__law_start : Nat := 81
abbrev f__law_fill : Nat := 82
abbrev f__law_product : Nat := 83
abbrev f__law_matrix : Nat := 84
abbrev f__law_multiplied : Nat := 85
abbrev f__law_drawn : Nat := 86
abbrev f__law_sums : Nat := 87
abbrev f__law_counts : Nat := 88
abbrev f_law : Nat := 89
end
end Zk84

set_option Elab.async false
set_option linter.all false
set_option maxRecDepth 1000000
/-! Ck_k84: the IR is the text of the defs: printed by mk.py. -/
namespace Zk84
open PySem Zev L2
noncomputable section
def topS (i : Nat) : Stmt := PySem.Challenge.pw_longrank_k84_trace_forms.main.body.getD i (.Pass ⟨0, 0, 0, 0⟩)
def gConsts : List (Str × D) := [(Str.ofString "MOST_PRIME_domains", (.int (65521))), (Str.ofString "Q", (.tup [(.str [81])])), (Str.ofString "ZERO", (.tup [(.int (0)), (.int (1))])), (Str.ofString "ONE", (.tup [(.int (1)), (.int (1))])), (Str.ofString "MOST_PRIME_form_papers", (.int (1000000))), (Str.ofString "MOST_TRIES", (.int (4000000))), (Str.ofString "MOST_MIDDLE", (.int (20000))), (Str.ofString "MOST_DIGITS", (.int (200)))]
def gFuns : List (Str × Nat × Nat) := [(Str.ofString "common", (31, 2)), (Str.ofString "divisor", (14, 2)), (Str.ofString "is_prime", (32, 1)), (Str.ofString "root", (33, 1)), (Str.ofString "is_integer", (13, 1)), (Str.ofString "is_domain", (20, 1)), (Str.ofString "is_field", (22, 1)), (Str.ofString "need_domain", (21, 1)), (Str.ofString "need_field", (23, 1)), (Str.ofString "is_element", (34, 2)), (Str.ofString "belongs", (12, 2)), (Str.ofString "zero", (9, 1)), (Str.ofString "one", (10, 1)), (Str.ofString "trimmed", (35, 2)), (Str.ofString "negate", (16, 2)), (Str.ofString "inverse", (25, 2)), (Str.ofString "times", (28, 3)), (Str.ofString "is_matrix", (36, 2)), (Str.ofString "matrix", (30, 3)), (Str.ofString "need_shape", (37, 1)), (Str.ofString "identity", (26, 2)), (Str.ofString "dot", (11, 3)), (Str.ofString "times_matrices", (28, 3)), (Str.ofString "transposed", (27, 1)), (Str.ofString "applied", (38, 3)), (Str.ofString "diagonal", (39, 2)), (Str.ofString "add_row", (19, 5)), (Str.ofString "eliminate", (40, 3)), (Str.ofString "pivots_of", (41, 2)), (Str.ofString "rank", (42, 2)), (Str.ofString "kernel", (43, 2)), (Str.ofString "form_word", (44, 1)), (Str.ofString "clear_below", (24, 2)), (Str.ofString "add_line", (17, 5)), (Str.ofString "numbers_in", (45, 1)), (Str.ofString "is_vector", (46, 2)), (Str.ofString "is_nothing", (47, 1)), (Str.ofString "diagonal_form", (29, 1)), (Str.ofString "parted", (48, 2)), (Str.ofString "power_modulo", (49, 3)), (Str.ofString "residue_sign", (50, 2)), (Str.ofString "symbol", (51, 3)), (Str.ofString "square_at", (52, 2)), (Str.ofString "product_of", (53, 1)), (Str.ofString "negative", (54, 1)), (Str.ofString "symbols_of", (55, 2)), (Str.ofString "zero_at_prime", (56, 2)), (Str.ofString "zero_at", (57, 2)), (Str.ofString "value_at", (58, 2)), (Str.ofString "prime_factors", (59, 1)), (Str.ofString "square_part", (60, 1)), (Str.ofString "places_of", (61, 1)), (Str.ofString "square_root", (62, 1)), (Str.ofString "of_two", (63, 1)), (Str.ofString "of_three", (64, 1)), (Str.ofString "apart", (65, 2)), (Str.ofString "common_divisor", (66, 2)), (Str.ofString "small_zero", (67, 1)), (Str.ofString "middles", (68, 0)), (Str.ofString "has_zero", (69, 1)), (Str.ofString "of_four", (70, 1)), (Str.ofString "back_to_four", (71, 4)), (Str.ofString "zero_of_diagonal", (72, 1)), (Str.ofString "first_bad_place", (73, 1)), (Str.ofString "need_short", (74, 1)), (Str.ofString "zero_paper", (75, 1)), (Str.ofString "is_place", (76, 1)), (Str.ofString "judge_zero_of", (77, 2)), (Str.ofString "above", (78, 1)), (Str.ofString "turned", (79, 2)), (Str.ofString "judge_equivalence", (80, 3)), (Str.ofString "_law_divisor", (15, 2)), (Str.ofString "_law_product", (83, 2)), (Str.ofString "_law_matrix", (84, 2)), (Str.ofString "_law_multiplied", (85, 2)), (Str.ofString "_law_sums", (87, 2)), (Str.ofString "_law_counts", (88, 1)), (Str.ofString "fraction", (5, 2)), (Str.ofString "add", (0, 3)), (Str.ofString "multiply", (1, 3)), (Str.ofString "plus", (2, 2)), (Str.ofString "times_circle", (3, 2)), (Str.ofString "minus", (4, 2)), (Str.ofString "_law_fraction", (8, 2)), (Str.ofString "_law_plus", (6, 2)), (Str.ofString "_law_times", (7, 2)), (Str.ofString "_law_drawn", (86, 1)), (Str.ofString "_law_take", (18, 2))]
def gFree : List Str := [Str.ofString "len", Str.ofString "abs", Str.ofString "int", Str.ofString "tuple", Str.ofString "list", Str.ofString "any", Str.ofString "all", Str.ofString "sorted", Str.ofString "sum", Str.ofString "isinstance", Str.ofString "bool", Str.ofString "str", Str.ofString "min", Str.ofString "range", Str.ofString "enumerate", Str.ofString "zip"]
def GG : Gb := ⟨gConsts, gFuns, gFree, [Str.ofString "LimitError"]⟩
def GS : Gb := ⟨[], [], gFree, []⟩
def n_add : List Str := [Str.ofString "d", Str.ofString "x", Str.ofString "y", Str.ofString "f", Str.ofString "found", Str.ofString "k", Str.ofString "part"]
def s_add : Sc := ⟨n_add, (defScope (topS 24)).names, fun _ => true, true⟩
theorem k_add : chkSs GG s_add i_add (defBody (topS 24)) = true := by kernel_rfl
def n_multiply : List Str := [Str.ofString "d", Str.ofString "x", Str.ofString "y", Str.ofString "f", Str.ofString "found", Str.ofString "i", Str.ofString "left", Str.ofString "k", Str.ofString "j", Str.ofString "right"]
def s_multiply : Sc := ⟨n_multiply, (defScope (topS 26)).names, fun _ => true, true⟩
theorem k_multiply : chkSs GG s_multiply i_multiply (defBody (topS 26)) = true := by kernel_rfl
def n_plus : List Str := [Str.ofString "x", Str.ofString "y"]
def s_plus : Sc := ⟨n_plus, (defScope (topS 32)).names, fun _ => true, true⟩
theorem k_plus : chkSs GG s_plus i_plus (defBody (topS 32)) = true := by kernel_rfl
def n_times : List Str := [Str.ofString "x", Str.ofString "y"]
def s_times : Sc := ⟨n_times, (defScope (topS 33)).names, fun _ => true, true⟩
theorem k_times : chkSs GG s_times i_times (defBody (topS 33)) = true := by kernel_rfl
def n_minus : List Str := [Str.ofString "x", Str.ofString "y"]
def s_minus : Sc := ⟨n_minus, (defScope (topS 35)).names, fun _ => true, true⟩
theorem k_minus : chkSs GG s_minus i_minus (defBody (topS 35)) = true := by kernel_rfl
def n_fraction : List Str := [Str.ofString "n", Str.ofString "d", Str.ofString "g"]
def s_fraction : Sc := ⟨n_fraction, (defScope (topS 10)).names, fun _ => true, true⟩
theorem k_fraction : chkSs GG s_fraction i_fraction (defBody (topS 10)) = true := by kernel_rfl
def n__law_plus : List Str := [Str.ofString "a", Str.ofString "b"]
def s__law_plus : Sc := ⟨n__law_plus, (defScope (topS 106)).names, fun _ => true, true⟩
theorem k__law_plus : chkSs GG s__law_plus i__law_plus (defBody (topS 106)) = true := by kernel_rfl
def n__law_times : List Str := [Str.ofString "a", Str.ofString "b"]
def s__law_times : Sc := ⟨n__law_times, (defScope (topS 107)).names, fun _ => true, true⟩
theorem k__law_times : chkSs GG s__law_times i__law_times (defBody (topS 107)) = true := by kernel_rfl
def n__law_fraction : List Str := [Str.ofString "n", Str.ofString "d", Str.ofString "many"]
def s__law_fraction : Sc := ⟨n__law_fraction, (defScope (topS 105)).names, fun _ => true, true⟩
theorem k__law_fraction : chkSs GG s__law_fraction i__law_fraction (defBody (topS 105)) = true := by kernel_rfl
def n_zero : List Str := [Str.ofString "d"]
def s_zero : Sc := ⟨n_zero, (defScope (topS 21)).names, fun _ => true, true⟩
theorem k_zero : chkSs GG s_zero i_zero (defBody (topS 21)) = true := by kernel_rfl
def n_one : List Str := [Str.ofString "d"]
def s_one : Sc := ⟨n_one, (defScope (topS 22)).names, fun _ => true, true⟩
theorem k_one : chkSs GG s_one i_one (defBody (topS 22)) = true := by kernel_rfl
def n_dot : List Str := [Str.ofString "d", Str.ofString "v", Str.ofString "w", Str.ofString "found", Str.ofString "k", Str.ofString "x"]
def s_dot : Sc := ⟨n_dot, (defScope (topS 41)).names, fun _ => true, true⟩
theorem k_dot : chkSs GG s_dot i_dot (defBody (topS 41)) = true := by kernel_rfl
def n_belongs : List Str := [Str.ofString "d", Str.ofString "x", Str.ofString "part"]
def s_belongs : Sc := ⟨n_belongs, (defScope (topS 20)).names, fun _ => true, true⟩
theorem k_belongs : chkSs GG s_belongs i_belongs (defBody (topS 20)) = true := by kernel_rfl
def n_is_integer : List Str := [Str.ofString "x"]
def s_is_integer : Sc := ⟨n_is_integer, (defScope (topS 14)).names, fun _ => true, true⟩
theorem k_is_integer : chkSs GG s_is_integer i_is_integer (defBody (topS 14)) = true := by kernel_rfl
def n_divisor : List Str := [Str.ofString "a", Str.ofString "b"]
def s_divisor : Sc := ⟨n_divisor, (defScope (topS 8)).names, fun _ => true, true⟩
theorem k_divisor : chkSs GG s_divisor i_divisor (defBody (topS 8)) = true := by kernel_rfl
def n__law_divisor : List Str := [Str.ofString "a", Str.ofString "b", Str.ofString "turn"]
def s__law_divisor : Sc := ⟨n__law_divisor, (defScope (topS 104)).names, fun _ => true, true⟩
theorem k__law_divisor : chkSs GG s__law_divisor i__law_divisor (defBody (topS 104)) = true := by kernel_rfl
def n_negate : List Str := [Str.ofString "d", Str.ofString "x", Str.ofString "part"]
def s_negate : Sc := ⟨n_negate, (defScope (topS 25)).names, fun _ => true, true⟩
theorem k_negate : chkSs GG s_negate i_negate (defBody (topS 25)) = true := by kernel_rfl
def n_add_line : List Str := [Str.ofString "rows", Str.ofString "turn", Str.ofString "to", Str.ofString "at", Str.ofString "factor", Str.ofString "row", Str.ofString "one", Str.ofString "two"]
def s_add_line : Sc := ⟨n_add_line, (defScope (topS 56)).names, fun _ => true, true⟩
theorem k_add_line : chkSs GG s_add_line i_add_line (defBody (topS 56)) = true := by kernel_rfl
def n__law_take : List Str := [Str.ofString "c", Str.ofString "many", Str.ofString "digit"]
def s__law_take : Sc := ⟨n__law_take, (defScope (topS 103)).names, fun _ => true, true⟩
def n_add_row : List Str := [Str.ofString "f", Str.ofString "rows", Str.ofString "to", Str.ofString "x", Str.ofString "row", Str.ofString "j", Str.ofString "entry"]
def s_add_row : Sc := ⟨n_add_row, (defScope (topS 48)).names, fun _ => true, true⟩
theorem k_add_row : chkSs GG s_add_row i_add_row (defBody (topS 48)) = true := by kernel_rfl
def n_is_domain : List Str := [Str.ofString "d"]
def s_is_domain : Sc := ⟨n_is_domain, (defScope (topS 15)).names, fun _ => true, true⟩
theorem k_is_domain : chkSs GG s_is_domain i_is_domain (defBody (topS 15)) = true := by kernel_rfl
def n_need_domain : List Str := [Str.ofString "d"]
def s_need_domain : Sc := ⟨n_need_domain, (defScope (topS 17)).names, fun _ => true, true⟩
theorem k_need_domain : chkSs GG s_need_domain i_need_domain (defBody (topS 17)) = true := by kernel_rfl
def n_is_field : List Str := [Str.ofString "d"]
def s_is_field : Sc := ⟨n_is_field, (defScope (topS 16)).names, fun _ => true, true⟩
theorem k_is_field : chkSs GG s_is_field i_is_field (defBody (topS 16)) = true := by kernel_rfl
def n_need_field : List Str := [Str.ofString "d"]
def s_need_field : Sc := ⟨n_need_field, (defScope (topS 18)).names, fun _ => true, true⟩
theorem k_need_field : chkSs GG s_need_field i_need_field (defBody (topS 18)) = true := by kernel_rfl
def n_clear_below : List Str := [Str.ofString "rows", Str.ofString "k", Str.ofString "i", Str.ofString "n", Str.ofString "d", Str.ofString "factor", Str.ofString "one", Str.ofString "two"]
def s_clear_below : Sc := ⟨n_clear_below, (defScope (topS 55)).names, fun _ => true, true⟩
theorem k_clear_below : chkSs GG s_clear_below i_clear_below (defBody (topS 55)) = true := by kernel_rfl
def n_inverse : List Str := [Str.ofString "f", Str.ofString "x", Str.ofString "g", Str.ofString "s", Str.ofString "t"]
def s_inverse : Sc := ⟨n_inverse, (defScope (topS 27)).names, fun _ => true, true⟩
theorem k_inverse : chkSs GG s_inverse i_inverse (defBody (topS 27)) = true := by kernel_rfl
def n_identity : List Str := [Str.ofString "d", Str.ofString "n", Str.ofString "rows", Str.ofString "i", Str.ofString "j"]
def s_identity : Sc := ⟨n_identity, (defScope (topS 40)).names, fun _ => true, true⟩
theorem k_identity : chkSs GG s_identity i_identity (defBody (topS 40)) = true := by kernel_rfl
def n_transposed : List Str := [Str.ofString "a", Str.ofString "j", Str.ofString "row"]
def s_transposed : Sc := ⟨n_transposed, (defScope (topS 44)).names, fun _ => true, true⟩
theorem k_transposed : chkSs GG s_transposed i_transposed (defBody (topS 44)) = true := by kernel_rfl
def n_times_2 : List Str := [Str.ofString "d", Str.ofString "a", Str.ofString "b", Str.ofString "columns", Str.ofString "rows", Str.ofString "row", Str.ofString "column"]
def s_times_2 : Sc := ⟨n_times_2, (defScope (topS 42)).names, fun _ => true, true⟩
theorem k_times_2 : chkSs GG s_times_2 i_times_2 (defBody (topS 42)) = true := by kernel_rfl
def n_diagonal_form : List Str := [Str.ofString "p", Str.ofString "n", Str.ofString "rows", Str.ofString "turn", Str.ofString "k", Str.ofString "fits", Str.ofString "row", Str.ofString "by", Str.ofString "j"]
def s_diagonal_form : Sc := ⟨n_diagonal_form, (defScope (topS 61)).names, fun _ => true, true⟩
theorem k_diagonal_form : chkSs GG s_diagonal_form i_diagonal_form (defBody (topS 61)) = true := by kernel_rfl
def n_matrix : List Str := [Str.ofString "d", Str.ofString "rows", Str.ofString "n", Str.ofString "row"]
def s_matrix : Sc := ⟨n_matrix, (defScope (topS 38)).names, fun _ => true, true⟩
theorem k_matrix : chkSs GG s_matrix i_matrix (defBody (topS 38)) = true := by kernel_rfl
def n_common : List Str := [Str.ofString "a", Str.ofString "b", Str.ofString "first", Str.ofString "second", Str.ofString "q", Str.ofString "g", Str.ofString "s", Str.ofString "t"]
def s_common : Sc := ⟨n_common, (defScope (topS 7)).names, fun _ => true, true⟩
theorem k_common : chkSs GG s_common i_common (defBody (topS 7)) = true := by kernel_rfl
def n_is_prime : List Str := [Str.ofString "n", Str.ofString "k"]
def s_is_prime : Sc := ⟨n_is_prime, (defScope (topS 9)).names, fun _ => true, true⟩
theorem k_is_prime : chkSs GG s_is_prime i_is_prime (defBody (topS 9)) = true := by kernel_rfl
def n_root : List Str := [Str.ofString "n", Str.ofString "guess"]
def s_root : Sc := ⟨n_root, (defScope (topS 11)).names, fun _ => true, true⟩
theorem k_root : chkSs GG s_root i_root (defBody (topS 11)) = true := by kernel_rfl
def n_is_element : List Str := [Str.ofString "d", Str.ofString "x"]
def s_is_element : Sc := ⟨n_is_element, (defScope (topS 19)).names, fun _ => true, true⟩
theorem k_is_element : chkSs GG s_is_element i_is_element (defBody (topS 19)) = true := by kernel_rfl
def n_trimmed : List Str := [Str.ofString "f", Str.ofString "coefficients", Str.ofString "many"]
def s_trimmed : Sc := ⟨n_trimmed, (defScope (topS 23)).names, fun _ => true, true⟩
theorem k_trimmed : chkSs GG s_trimmed i_trimmed (defBody (topS 23)) = true := by kernel_rfl
def n_is_matrix : List Str := [Str.ofString "d", Str.ofString "a", Str.ofString "row", Str.ofString "x"]
def s_is_matrix : Sc := ⟨n_is_matrix, (defScope (topS 37)).names, fun _ => true, true⟩
theorem k_is_matrix : chkSs GG s_is_matrix i_is_matrix (defBody (topS 37)) = true := by kernel_rfl
def n_need_shape : List Str := [Str.ofString "holds"]
def s_need_shape : Sc := ⟨n_need_shape, (defScope (topS 39)).names, fun _ => true, true⟩
theorem k_need_shape : chkSs GG s_need_shape i_need_shape (defBody (topS 39)) = true := by kernel_rfl
def n_applied : List Str := [Str.ofString "d", Str.ofString "a", Str.ofString "v", Str.ofString "row"]
def s_applied : Sc := ⟨n_applied, (defScope (topS 45)).names, fun _ => true, true⟩
theorem k_applied : chkSs GG s_applied i_applied (defBody (topS 45)) = true := by kernel_rfl
def n_diagonal : List Str := [Str.ofString "d", Str.ofString "blocks", Str.ofString "n", Str.ofString "rows", Str.ofString "before", Str.ofString "block", Str.ofString "left", Str.ofString "right", Str.ofString "row", Str.ofString "k"]
def s_diagonal : Sc := ⟨n_diagonal, (defScope (topS 46)).names, fun _ => true, true⟩
theorem k_diagonal : chkSs GG s_diagonal i_diagonal (defBody (topS 46)) = true := by kernel_rfl
def n_eliminate : List Str := [Str.ofString "f", Str.ofString "rows", Str.ofString "columns", Str.ofString "pivots", Str.ofString "j", Str.ofString "at", Str.ofString "found", Str.ofString "scale", Str.ofString "i", Str.ofString "x"]
def s_eliminate : Sc := ⟨n_eliminate, (defScope (topS 49)).names, fun _ => true, true⟩
theorem k_eliminate : chkSs GG s_eliminate i_eliminate (defBody (topS 49)) = true := by kernel_rfl
def n_pivots_of : List Str := [Str.ofString "f", Str.ofString "a", Str.ofString "rows", Str.ofString "row"]
def s_pivots_of : Sc := ⟨n_pivots_of, (defScope (topS 50)).names, fun _ => true, true⟩
theorem k_pivots_of : chkSs GG s_pivots_of i_pivots_of (defBody (topS 50)) = true := by kernel_rfl
def n_rank : List Str := [Str.ofString "f", Str.ofString "a"]
def s_rank : Sc := ⟨n_rank, (defScope (topS 51)).names, fun _ => true, true⟩
theorem k_rank : chkSs GG s_rank i_rank (defBody (topS 51)) = true := by kernel_rfl
def n_kernel : List Str := [Str.ofString "f", Str.ofString "a", Str.ofString "found", Str.ofString "j", Str.ofString "rows", Str.ofString "pivots", Str.ofString "vector", Str.ofString "i", Str.ofString "column", Str.ofString "k"]
def s_kernel : Sc := ⟨n_kernel, (defScope (topS 52)).names, fun _ => true, true⟩
theorem k_kernel : chkSs GG s_kernel i_kernel (defBody (topS 52)) = true := by kernel_rfl
def n_form_word : List Str := [Str.ofString "p", Str.ofString "rows", Str.ofString "word", Str.ofString "k", Str.ofString "pivot", Str.ofString "row", Str.ofString "one"]
def s_form_word : Sc := ⟨n_form_word, (defScope (topS 54)).names, fun _ => true, true⟩
theorem k_form_word : chkSs GG s_form_word i_form_word (defBody (topS 54)) = true := by kernel_rfl
def n_numbers_in : List Str := [Str.ofString "value", Str.ofString "found", Str.ofString "left", Str.ofString "one"]
def s_numbers_in : Sc := ⟨n_numbers_in, (defScope (topS 57)).names, fun _ => true, true⟩
theorem k_numbers_in : chkSs GG s_numbers_in i_numbers_in (defBody (topS 57)) = true := by kernel_rfl
def n_is_vector : List Str := [Str.ofString "value", Str.ofString "n", Str.ofString "one"]
def s_is_vector : Sc := ⟨n_is_vector, (defScope (topS 58)).names, fun _ => true, true⟩
theorem k_is_vector : chkSs GG s_is_vector i_is_vector (defBody (topS 58)) = true := by kernel_rfl
def n_is_nothing : List Str := [Str.ofString "vector", Str.ofString "one"]
def s_is_nothing : Sc := ⟨n_is_nothing, (defScope (topS 59)).names, fun _ => true, true⟩
theorem k_is_nothing : chkSs GG s_is_nothing i_is_nothing (defBody (topS 59)) = true := by kernel_rfl
def n_parted : List Str := [Str.ofString "a", Str.ofString "p", Str.ofString "n", Str.ofString "found"]
def s_parted : Sc := ⟨n_parted, (defScope (topS 62)).names, fun _ => true, true⟩
theorem k_parted : chkSs GG s_parted i_parted (defBody (topS 62)) = true := by kernel_rfl
def n_power_modulo : List Str := [Str.ofString "u", Str.ofString "e", Str.ofString "p", Str.ofString "found"]
def s_power_modulo : Sc := ⟨n_power_modulo, (defScope (topS 63)).names, fun _ => true, true⟩
theorem k_power_modulo : chkSs GG s_power_modulo i_power_modulo (defBody (topS 63)) = true := by kernel_rfl
def n_residue_sign : List Str := [Str.ofString "u", Str.ofString "p"]
def s_residue_sign : Sc := ⟨n_residue_sign, (defScope (topS 64)).names, fun _ => true, true⟩
theorem k_residue_sign : chkSs GG s_residue_sign i_residue_sign (defBody (topS 64)) = true := by kernel_rfl
def n_symbol : List Str := [Str.ofString "a", Str.ofString "b", Str.ofString "p", Str.ofString "found", Str.ofString "i", Str.ofString "u", Str.ofString "j", Str.ofString "v", Str.ofString "odd"]
def s_symbol : Sc := ⟨n_symbol, (defScope (topS 65)).names, fun _ => true, true⟩
theorem k_symbol : chkSs GG s_symbol i_symbol (defBody (topS 65)) = true := by kernel_rfl
def n_square_at : List Str := [Str.ofString "a", Str.ofString "p", Str.ofString "i", Str.ofString "u"]
def s_square_at : Sc := ⟨n_square_at, (defScope (topS 66)).names, fun _ => true, true⟩
theorem k_square_at : chkSs GG s_square_at i_square_at (defBody (topS 66)) = true := by kernel_rfl
def n_product_of : List Str := [Str.ofString "row", Str.ofString "found", Str.ofString "one"]
def s_product_of : Sc := ⟨n_product_of, (defScope (topS 67)).names, fun _ => true, true⟩
theorem k_product_of : chkSs GG s_product_of i_product_of (defBody (topS 67)) = true := by kernel_rfl
def n_negative : List Str := [Str.ofString "a"]
def s_negative : Sc := ⟨n_negative, (defScope (topS 68)).names, fun _ => true, true⟩
theorem k_negative : chkSs GG s_negative i_negative (defBody (topS 68)) = true := by kernel_rfl
def n_symbols_of : List Str := [Str.ofString "d", Str.ofString "p", Str.ofString "found", Str.ofString "j", Str.ofString "i"]
def s_symbols_of : Sc := ⟨n_symbols_of, (defScope (topS 69)).names, fun _ => true, true⟩
theorem k_symbols_of : chkSs GG s_symbols_of i_symbols_of (defBody (topS 69)) = true := by kernel_rfl
def n_zero_at_prime : List Str := [Str.ofString "d", Str.ofString "p", Str.ofString "whole"]
def s_zero_at_prime : Sc := ⟨n_zero_at_prime, (defScope (topS 70)).names, fun _ => true, true⟩
theorem k_zero_at_prime : chkSs GG s_zero_at_prime i_zero_at_prime (defBody (topS 70)) = true := by kernel_rfl
def n_zero_at : List Str := [Str.ofString "form", Str.ofString "place", Str.ofString "turn", Str.ofString "d", Str.ofString "one"]
def s_zero_at : Sc := ⟨n_zero_at, (defScope (topS 71)).names, fun _ => true, true⟩
theorem k_zero_at : chkSs GG s_zero_at i_zero_at (defBody (topS 71)) = true := by kernel_rfl
def n_value_at : List Str := [Str.ofString "form", Str.ofString "x", Str.ofString "total", Str.ofString "one", Str.ofString "row", Str.ofString "two", Str.ofString "entry"]
def s_value_at : Sc := ⟨n_value_at, (defScope (topS 72)).names, fun _ => true, true⟩
theorem k_value_at : chkSs GG s_value_at i_value_at (defBody (topS 72)) = true := by kernel_rfl
def n_prime_factors : List Str := [Str.ofString "n", Str.ofString "found", Str.ofString "p", Str.ofString "e"]
def s_prime_factors : Sc := ⟨n_prime_factors, (defScope (topS 78)).names, fun _ => true, true⟩
theorem k_prime_factors : chkSs GG s_prime_factors i_prime_factors (defBody (topS 78)) = true := by kernel_rfl
def n_square_part : List Str := [Str.ofString "a", Str.ofString "n", Str.ofString "free", Str.ofString "out", Str.ofString "p", Str.ofString "e", Str.ofString "turn"]
def s_square_part : Sc := ⟨n_square_part, (defScope (topS 79)).names, fun _ => true, true⟩
theorem k_square_part : chkSs GG s_square_part i_square_part (defBody (topS 79)) = true := by kernel_rfl
def n_places_of : List Str := [Str.ofString "d", Str.ofString "found", Str.ofString "one", Str.ofString "p", Str.ofString "e"]
def s_places_of : Sc := ⟨n_places_of, (defScope (topS 80)).names, fun _ => true, true⟩
theorem k_places_of : chkSs GG s_places_of i_places_of (defBody (topS 80)) = true := by kernel_rfl
def n_square_root : List Str := [Str.ofString "a", Str.ofString "n", Str.ofString "d"]
def s_square_root : Sc := ⟨n_square_root, (defScope (topS 81)).names, fun _ => true, true⟩
theorem k_square_root : chkSs GG s_square_root i_square_root (defBody (topS 81)) = true := by kernel_rfl
def n_of_two : List Str := [Str.ofString "d", Str.ofString "found"]
def s_of_two : Sc := ⟨n_of_two, (defScope (topS 82)).names, fun _ => true, true⟩
theorem k_of_two : chkSs GG s_of_two i_of_two (defBody (topS 82)) = true := by kernel_rfl
def n_of_three : List Str := [Str.ofString "d", Str.ofString "parts", Str.ofString "row", Str.ofString "scale", Str.ofString "x", Str.ofString "found", Str.ofString "one", Str.ofString "factor", Str.ofString "free", Str.ofString "out"]
def s_of_three : Sc := ⟨n_of_three, (defScope (topS 83)).names, fun _ => true, true⟩
theorem k_of_three : chkSs GG s_of_three i_of_three (defBody (topS 83)) = true := by kernel_rfl
def n_apart : List Str := [Str.ofString "row", Str.ofString "scale", Str.ofString "done", Str.ofString "k", Str.ofString "both", Str.ofString "i", Str.ofString "j", Str.ofString "p", Str.ofString "one"]
def s_apart : Sc := ⟨n_apart, (defScope (topS 84)).names, fun _ => true, true⟩
theorem k_apart : chkSs GG s_apart i_apart (defBody (topS 84)) = true := by kernel_rfl
def n_common_divisor : List Str := [Str.ofString "a", Str.ofString "b"]
def s_common_divisor : Sc := ⟨n_common_divisor, (defScope (topS 85)).names, fun _ => true, true⟩
theorem k_common_divisor : chkSs GG s_common_divisor i_common_divisor (defBody (topS 85)) = true := by kernel_rfl
def n_small_zero : List Str := [Str.ofString "row", Str.ofString "order", Str.ofString "z", Str.ofString "a", Str.ofString "b", Str.ofString "c", Str.ofString "most_y", Str.ofString "most_z", Str.ofString "y", Str.ofString "k", Str.ofString "left", Str.ofString "size", Str.ofString "x", Str.ofString "found", Str.ofString "one"]
def s_small_zero : Sc := ⟨n_small_zero, (defScope (topS 86)).names, fun _ => true, true⟩
theorem k_small_zero : chkSs GG s_small_zero i_small_zero (defBody (topS 86)) = true := by kernel_rfl
def n_middles : List Str := [Str.ofString "found", Str.ofString "n"]
def s_middles : Sc := ⟨n_middles, (defScope (topS 87)).names, fun _ => true, true⟩
theorem k_middles : chkSs GG s_middles i_middles (defBody (topS 87)) = true := by kernel_rfl
def n_has_zero : List Str := [Str.ofString "d", Str.ofString "form", Str.ofString "one", Str.ofString "place"]
def s_has_zero : Sc := ⟨n_has_zero, (defScope (topS 88)).names, fun _ => true, true⟩
theorem k_has_zero : chkSs GG s_has_zero i_has_zero (defBody (topS 88)) = true := by kernel_rfl
def n_of_four : List Str := [Str.ofString "d", Str.ofString "n", Str.ofString "first", Str.ofString "second", Str.ofString "k", Str.ofString "part", Str.ofString "one", Str.ofString "two", Str.ofString "factor", Str.ofString "x", Str.ofString "y"]
def s_of_four : Sc := ⟨n_of_four, (defScope (topS 89)).names, fun _ => true, true⟩
theorem k_of_four : chkSs GG s_of_four i_of_four (defBody (topS 89)) = true := by kernel_rfl
def n_back_to_four : List Str := [Str.ofString "d", Str.ofString "first", Str.ofString "x", Str.ofString "y", Str.ofString "zeros"]
def s_back_to_four : Sc := ⟨n_back_to_four, (defScope (topS 90)).names, fun _ => true, true⟩
theorem k_back_to_four : chkSs GG s_back_to_four i_back_to_four (defBody (topS 90)) = true := by kernel_rfl
def n_zero_of_diagonal : List Str := [Str.ofString "d"]
def s_zero_of_diagonal : Sc := ⟨n_zero_of_diagonal, (defScope (topS 91)).names, fun _ => true, true⟩
theorem k_zero_of_diagonal : chkSs GG s_zero_of_diagonal i_zero_of_diagonal (defBody (topS 91)) = true := by kernel_rfl
def n_first_bad_place : List Str := [Str.ofString "d", Str.ofString "form", Str.ofString "found", Str.ofString "place", Str.ofString "one"]
def s_first_bad_place : Sc := ⟨n_first_bad_place, (defScope (topS 92)).names, fun _ => true, true⟩
theorem k_first_bad_place : chkSs GG s_first_bad_place i_first_bad_place (defBody (topS 92)) = true := by kernel_rfl
def n_need_short : List Str := [Str.ofString "value", Str.ofString "bound", Str.ofString "turn", Str.ofString "one"]
def s_need_short : Sc := ⟨n_need_short, (defScope (topS 93)).names, fun _ => true, true⟩
theorem k_need_short : chkSs GG s_need_short i_need_short (defBody (topS 93)) = true := by kernel_rfl
def n_zero_paper : List Str := [Str.ofString "form", Str.ofString "space", Str.ofString "place", Str.ofString "turn", Str.ofString "d", Str.ofString "row"]
def s_zero_paper : Sc := ⟨n_zero_paper, (defScope (topS 94)).names, fun _ => true, true⟩
theorem k_zero_paper : chkSs GG s_zero_paper i_zero_paper (defBody (topS 94)) = true := by kernel_rfl
def n_is_place : List Str := [Str.ofString "value"]
def s_is_place : Sc := ⟨n_is_place, (defScope (topS 95)).names, fun _ => true, true⟩
theorem k_is_place : chkSs GG s_is_place i_is_place (defBody (topS 95)) = true := by kernel_rfl
def n_judge_zero_of : List Str := [Str.ofString "form", Str.ofString "value"]
def s_judge_zero_of : Sc := ⟨n_judge_zero_of, (defScope (topS 96)).names, fun _ => true, true⟩
theorem k_judge_zero_of : chkSs GG s_judge_zero_of i_judge_zero_of (defBody (topS 96)) = true := by kernel_rfl
def n_above : List Str := [Str.ofString "d", Str.ofString "one"]
def s_above : Sc := ⟨n_above, (defScope (topS 97)).names, fun _ => true, true⟩
theorem k_above : chkSs GG s_above i_above (defBody (topS 97)) = true := by kernel_rfl
def n_turned : List Str := [Str.ofString "form", Str.ofString "t"]
def s_turned : Sc := ⟨n_turned, (defScope (topS 98)).names, fun _ => true, true⟩
theorem k_turned : chkSs GG s_turned i_turned (defBody (topS 98)) = true := by kernel_rfl
def n_judge_equivalence : List Str := [Str.ofString "p", Str.ofString "q", Str.ofString "value", Str.ofString "d", Str.ofString "e"]
def s_judge_equivalence : Sc := ⟨n_judge_equivalence, (defScope (topS 99)).names, fun _ => true, true⟩
theorem k_judge_equivalence : chkSs GG s_judge_equivalence i_judge_equivalence (defBody (topS 99)) = true := by kernel_rfl
def n__law_start : List Str := [Str.ofString "script", Str.ofString "cell"]
def s__law_start : Sc := ⟨n__law_start, (defScope (topS 101)).names, fun _ => true, true⟩
theorem k__law_start : chkStart GS s__law_start (defBody (topS 101)) = true := by kernel_rfl
def n__law_product : List Str := [Str.ofString "a", Str.ofString "b", Str.ofString "found", Str.ofString "row", Str.ofString "new", Str.ofString "j", Str.ofString "total", Str.ofString "k"]
def s__law_product : Sc := ⟨n__law_product, (defScope (topS 108)).names, fun _ => true, true⟩
theorem k__law_product : chkSs GG s__law_product i__law_product (defBody (topS 108)) = true := by kernel_rfl
def n__law_matrix : List Str := [Str.ofString "rows", Str.ofString "n", Str.ofString "row"]
def s__law_matrix : Sc := ⟨n__law_matrix, (defScope (topS 112)).names, fun _ => true, true⟩
theorem k__law_matrix : chkSs GG s__law_matrix i__law_matrix (defBody (topS 112)) = true := by kernel_rfl
def n__law_multiplied : List Str := [Str.ofString "p", Str.ofString "q", Str.ofString "found", Str.ofString "i", Str.ofString "j"]
def s__law_multiplied : Sc := ⟨n__law_multiplied, (defScope (topS 115)).names, fun _ => true, true⟩
theorem k__law_multiplied : chkSs GG s__law_multiplied i__law_multiplied (defBody (topS 115)) = true := by kernel_rfl
def n__law_drawn : List Str := [Str.ofString "c", Str.ofString "turn", Str.ofString "p", Str.ofString "zeros", Str.ofString "pairs", Str.ofString "k", Str.ofString "a"]
def s__law_drawn : Sc := ⟨n__law_drawn, (defScope (topS 116)).names, fun _ => true, true⟩
theorem k__law_drawn : chkSs GG s__law_drawn i__law_drawn (defBody (topS 116)) = true := by kernel_rfl
def n__law_sums : List Str := [Str.ofString "p", Str.ofString "many", Str.ofString "n", Str.ofString "found", Str.ofString "k", Str.ofString "total", Str.ofString "i"]
def s__law_sums : Sc := ⟨n__law_sums, (defScope (topS 117)).names, fun _ => true, true⟩
theorem k__law_sums : chkSs GG s__law_sums i__law_sums (defBody (topS 117)) = true := by kernel_rfl
def n__law_counts : List Str := [Str.ofString "d", Str.ofString "above_v", Str.ofString "below", Str.ofString "one_v"]
def s__law_counts : Sc := ⟨n__law_counts, (defScope (topS 118)).names, fun _ => true, true⟩
theorem k__law_counts : chkSs GG s__law_counts i__law_counts (defBody (topS 118)) = true := by kernel_rfl
def n_law : List Str := [Str.ofString "script", Str.ofString "c", Str.ofString "n", Str.ofString "sums", Str.ofString "rows", Str.ofString "t", Str.ofString "turned_v", Str.ofString "moved", Str.ofString "word", Str.ofString "form", Str.ofString "told", Str.ofString "p", Str.ofString "zeros", Str.ofString "pairs", Str.ofString "back", Str.ofString "whole", Str.ofString "i", Str.ofString "j", Str.ofString "change", Str.ofString "d", Str.ofString "row"]
def s_law : Sc := ⟨n_law, (defScope (topS 119)).names, fun _ => true, true⟩
theorem k_law : chkLaw GG s_law (Str.ofString "_law_start") i_law (defBody (topS 119)) = true := by kernel_rfl
end
end Zk84

set_option Elab.async false
set_option linter.all false
set_option maxRecDepth 1000000
set_option maxHeartbeats 0
/-! Rw_k84: rows, facts, the head: printed by mk.py. -/
namespace Zk84
open PySem Zev L2
noncomputable section
def r_common : RowD := ⟨Str.ofString "common", Str.ofString "common", 31, 2, 6, topS 7, n_common, i_common⟩
def r_divisor : RowD := ⟨Str.ofString "divisor", Str.ofString "divisor", 14, 2, 0, topS 8, n_divisor, i_divisor⟩
def r_is_prime : RowD := ⟨Str.ofString "is_prime", Str.ofString "is_prime", 32, 1, 1, topS 9, n_is_prime, i_is_prime⟩
def r_root : RowD := ⟨Str.ofString "root", Str.ofString "root", 33, 1, 1, topS 11, n_root, i_root⟩
def r_is_integer : RowD := ⟨Str.ofString "is_integer", Str.ofString "is_integer", 13, 1, 0, topS 14, n_is_integer, i_is_integer⟩
def r_is_domain : RowD := ⟨Str.ofString "is_domain", Str.ofString "is_domain", 20, 1, 0, topS 15, n_is_domain, i_is_domain⟩
def r_is_field : RowD := ⟨Str.ofString "is_field", Str.ofString "is_field", 22, 1, 0, topS 16, n_is_field, i_is_field⟩
def r_need_domain : RowD := ⟨Str.ofString "need_domain", Str.ofString "need_domain", 21, 1, 0, topS 17, n_need_domain, i_need_domain⟩
def r_need_field : RowD := ⟨Str.ofString "need_field", Str.ofString "need_field", 23, 1, 0, topS 18, n_need_field, i_need_field⟩
def r_is_element : RowD := ⟨Str.ofString "is_element", Str.ofString "is_element", 34, 2, 0, topS 19, n_is_element, i_is_element⟩
def r_belongs : RowD := ⟨Str.ofString "belongs", Str.ofString "belongs", 12, 2, 1, topS 20, n_belongs, i_belongs⟩
def r_zero : RowD := ⟨Str.ofString "zero", Str.ofString "zero", 9, 1, 0, topS 21, n_zero, i_zero⟩
def r_one : RowD := ⟨Str.ofString "one", Str.ofString "one", 10, 1, 0, topS 22, n_one, i_one⟩
def r_trimmed : RowD := ⟨Str.ofString "trimmed", Str.ofString "trimmed", 35, 2, 1, topS 23, n_trimmed, i_trimmed⟩
def r_negate : RowD := ⟨Str.ofString "negate", Str.ofString "negate", 16, 2, 1, topS 25, n_negate, i_negate⟩
def r_inverse : RowD := ⟨Str.ofString "inverse", Str.ofString "inverse", 25, 2, 3, topS 27, n_inverse, i_inverse⟩
def r_times : RowD := ⟨Str.ofString "times", Str.ofString "times", 28, 3, 4, topS 42, n_times_2, i_times_2⟩
def r_is_matrix : RowD := ⟨Str.ofString "is_matrix", Str.ofString "is_matrix", 36, 2, 2, topS 37, n_is_matrix, i_is_matrix⟩
def r_matrix : RowD := ⟨Str.ofString "matrix", Str.ofString "matrix", 30, 3, 1, topS 38, n_matrix, i_matrix⟩
def r_need_shape : RowD := ⟨Str.ofString "need_shape", Str.ofString "need_shape", 37, 1, 0, topS 39, n_need_shape, i_need_shape⟩
def r_identity : RowD := ⟨Str.ofString "identity", Str.ofString "identity", 26, 2, 3, topS 40, n_identity, i_identity⟩
def r_dot : RowD := ⟨Str.ofString "dot", Str.ofString "dot", 11, 3, 3, topS 41, n_dot, i_dot⟩
def r_times_matrices : RowD := ⟨Str.ofString "times_matrices", Str.ofString "times", 28, 3, 4, topS 42, n_times_2, i_times_2⟩
def r_transposed : RowD := ⟨Str.ofString "transposed", Str.ofString "transposed", 27, 1, 2, topS 44, n_transposed, i_transposed⟩
def r_applied : RowD := ⟨Str.ofString "applied", Str.ofString "applied", 38, 3, 1, topS 45, n_applied, i_applied⟩
def r_diagonal : RowD := ⟨Str.ofString "diagonal", Str.ofString "diagonal", 39, 2, 8, topS 46, n_diagonal, i_diagonal⟩
def r_add_row : RowD := ⟨Str.ofString "add_row", Str.ofString "add_row", 19, 5, 2, topS 48, n_add_row, i_add_row⟩
def r_eliminate : RowD := ⟨Str.ofString "eliminate", Str.ofString "eliminate", 40, 3, 7, topS 49, n_eliminate, i_eliminate⟩
def r_pivots_of : RowD := ⟨Str.ofString "pivots_of", Str.ofString "pivots_of", 41, 2, 2, topS 50, n_pivots_of, i_pivots_of⟩
def r_rank : RowD := ⟨Str.ofString "rank", Str.ofString "rank", 42, 2, 0, topS 51, n_rank, i_rank⟩
def r_kernel : RowD := ⟨Str.ofString "kernel", Str.ofString "kernel", 43, 2, 8, topS 52, n_kernel, i_kernel⟩
def r_form_word : RowD := ⟨Str.ofString "form_word", Str.ofString "form_word", 44, 1, 6, topS 54, n_form_word, i_form_word⟩
def r_clear_below : RowD := ⟨Str.ofString "clear_below", Str.ofString "clear_below", 24, 2, 6, topS 55, n_clear_below, i_clear_below⟩
def r_add_line : RowD := ⟨Str.ofString "add_line", Str.ofString "add_line", 17, 5, 3, topS 56, n_add_line, i_add_line⟩
def r_numbers_in : RowD := ⟨Str.ofString "numbers_in", Str.ofString "numbers_in", 45, 1, 3, topS 57, n_numbers_in, i_numbers_in⟩
def r_is_vector : RowD := ⟨Str.ofString "is_vector", Str.ofString "is_vector", 46, 2, 1, topS 58, n_is_vector, i_is_vector⟩
def r_is_nothing : RowD := ⟨Str.ofString "is_nothing", Str.ofString "is_nothing", 47, 1, 1, topS 59, n_is_nothing, i_is_nothing⟩
def r_diagonal_form : RowD := ⟨Str.ofString "diagonal_form", Str.ofString "diagonal_form", 29, 1, 8, topS 61, n_diagonal_form, i_diagonal_form⟩
def r_parted : RowD := ⟨Str.ofString "parted", Str.ofString "parted", 48, 2, 2, topS 62, n_parted, i_parted⟩
def r_power_modulo : RowD := ⟨Str.ofString "power_modulo", Str.ofString "power_modulo", 49, 3, 1, topS 63, n_power_modulo, i_power_modulo⟩
def r_residue_sign : RowD := ⟨Str.ofString "residue_sign", Str.ofString "residue_sign", 50, 2, 0, topS 64, n_residue_sign, i_residue_sign⟩
def r_symbol : RowD := ⟨Str.ofString "symbol", Str.ofString "symbol", 51, 3, 6, topS 65, n_symbol, i_symbol⟩
def r_square_at : RowD := ⟨Str.ofString "square_at", Str.ofString "square_at", 52, 2, 2, topS 66, n_square_at, i_square_at⟩
def r_product_of : RowD := ⟨Str.ofString "product_of", Str.ofString "product_of", 53, 1, 2, topS 67, n_product_of, i_product_of⟩
def r_negative : RowD := ⟨Str.ofString "negative", Str.ofString "negative", 54, 1, 0, topS 68, n_negative, i_negative⟩
def r_symbols_of : RowD := ⟨Str.ofString "symbols_of", Str.ofString "symbols_of", 55, 2, 3, topS 69, n_symbols_of, i_symbols_of⟩
def r_zero_at_prime : RowD := ⟨Str.ofString "zero_at_prime", Str.ofString "zero_at_prime", 56, 2, 1, topS 70, n_zero_at_prime, i_zero_at_prime⟩
def r_zero_at : RowD := ⟨Str.ofString "zero_at", Str.ofString "zero_at", 57, 2, 3, topS 71, n_zero_at, i_zero_at⟩
def r_value_at : RowD := ⟨Str.ofString "value_at", Str.ofString "value_at", 58, 2, 5, topS 72, n_value_at, i_value_at⟩
def r_prime_factors : RowD := ⟨Str.ofString "prime_factors", Str.ofString "prime_factors", 59, 1, 3, topS 78, n_prime_factors, i_prime_factors⟩
def r_square_part : RowD := ⟨Str.ofString "square_part", Str.ofString "square_part", 60, 1, 6, topS 79, n_square_part, i_square_part⟩
def r_places_of : RowD := ⟨Str.ofString "places_of", Str.ofString "places_of", 61, 1, 4, topS 80, n_places_of, i_places_of⟩
def r_square_root : RowD := ⟨Str.ofString "square_root", Str.ofString "square_root", 62, 1, 2, topS 81, n_square_root, i_square_root⟩
def r_of_two : RowD := ⟨Str.ofString "of_two", Str.ofString "of_two", 63, 1, 1, topS 82, n_of_two, i_of_two⟩
def r_of_three : RowD := ⟨Str.ofString "of_three", Str.ofString "of_three", 64, 1, 9, topS 83, n_of_three, i_of_three⟩
def r_apart : RowD := ⟨Str.ofString "apart", Str.ofString "apart", 65, 2, 7, topS 84, n_apart, i_apart⟩
def r_common_divisor : RowD := ⟨Str.ofString "common_divisor", Str.ofString "common_divisor", 66, 2, 0, topS 85, n_common_divisor, i_common_divisor⟩
def r_small_zero : RowD := ⟨Str.ofString "small_zero", Str.ofString "small_zero", 67, 1, 14, topS 86, n_small_zero, i_small_zero⟩
def r_middles : RowD := ⟨Str.ofString "middles", Str.ofString "middles", 68, 0, 2, topS 87, n_middles, i_middles⟩
def r_has_zero : RowD := ⟨Str.ofString "has_zero", Str.ofString "has_zero", 69, 1, 3, topS 88, n_has_zero, i_has_zero⟩
def r_of_four : RowD := ⟨Str.ofString "of_four", Str.ofString "of_four", 70, 1, 10, topS 89, n_of_four, i_of_four⟩
def r_back_to_four : RowD := ⟨Str.ofString "back_to_four", Str.ofString "back_to_four", 71, 4, 1, topS 90, n_back_to_four, i_back_to_four⟩
def r_zero_of_diagonal : RowD := ⟨Str.ofString "zero_of_diagonal", Str.ofString "zero_of_diagonal", 72, 1, 0, topS 91, n_zero_of_diagonal, i_zero_of_diagonal⟩
def r_first_bad_place : RowD := ⟨Str.ofString "first_bad_place", Str.ofString "first_bad_place", 73, 1, 4, topS 92, n_first_bad_place, i_first_bad_place⟩
def r_need_short : RowD := ⟨Str.ofString "need_short", Str.ofString "need_short", 74, 1, 3, topS 93, n_need_short, i_need_short⟩
def r_zero_paper : RowD := ⟨Str.ofString "zero_paper", Str.ofString "zero_paper", 75, 1, 5, topS 94, n_zero_paper, i_zero_paper⟩
def r_is_place : RowD := ⟨Str.ofString "is_place", Str.ofString "is_place", 76, 1, 0, topS 95, n_is_place, i_is_place⟩
def r_judge_zero_of : RowD := ⟨Str.ofString "judge_zero_of", Str.ofString "judge_zero_of", 77, 2, 0, topS 96, n_judge_zero_of, i_judge_zero_of⟩
def r_above : RowD := ⟨Str.ofString "above", Str.ofString "above", 78, 1, 1, topS 97, n_above, i_above⟩
def r_turned : RowD := ⟨Str.ofString "turned", Str.ofString "turned", 79, 2, 0, topS 98, n_turned, i_turned⟩
def r_judge_equivalence : RowD := ⟨Str.ofString "judge_equivalence", Str.ofString "judge_equivalence", 80, 3, 2, topS 99, n_judge_equivalence, i_judge_equivalence⟩
def r__law_divisor : RowD := ⟨Str.ofString "_law_divisor", Str.ofString "_law_divisor", 15, 2, 1, topS 104, n__law_divisor, i__law_divisor⟩
def r__law_product : RowD := ⟨Str.ofString "_law_product", Str.ofString "_law_product", 83, 2, 6, topS 108, n__law_product, i__law_product⟩
def r__law_matrix : RowD := ⟨Str.ofString "_law_matrix", Str.ofString "_law_matrix", 84, 2, 1, topS 112, n__law_matrix, i__law_matrix⟩
def r__law_multiplied : RowD := ⟨Str.ofString "_law_multiplied", Str.ofString "_law_multiplied", 85, 2, 3, topS 115, n__law_multiplied, i__law_multiplied⟩
def r__law_sums : RowD := ⟨Str.ofString "_law_sums", Str.ofString "_law_sums", 87, 2, 5, topS 117, n__law_sums, i__law_sums⟩
def r__law_counts : RowD := ⟨Str.ofString "_law_counts", Str.ofString "_law_counts", 88, 1, 3, topS 118, n__law_counts, i__law_counts⟩
def r_fraction : RowD := ⟨Str.ofString "fraction", Str.ofString "fraction", 5, 2, 1, topS 10, n_fraction, i_fraction⟩
def r_add : RowD := ⟨Str.ofString "add", Str.ofString "add", 0, 3, 4, topS 24, n_add, i_add⟩
def r_multiply : RowD := ⟨Str.ofString "multiply", Str.ofString "multiply", 1, 3, 7, topS 26, n_multiply, i_multiply⟩
def r_plus : RowD := ⟨Str.ofString "plus", Str.ofString "plus", 2, 2, 0, topS 32, n_plus, i_plus⟩
def r_times_circle : RowD := ⟨Str.ofString "times_circle", Str.ofString "times", 3, 2, 0, topS 33, n_times, i_times⟩
def r_minus : RowD := ⟨Str.ofString "minus", Str.ofString "minus", 4, 2, 0, topS 35, n_minus, i_minus⟩
def r__law_fraction : RowD := ⟨Str.ofString "_law_fraction", Str.ofString "_law_fraction", 8, 2, 1, topS 105, n__law_fraction, i__law_fraction⟩
def r__law_plus : RowD := ⟨Str.ofString "_law_plus", Str.ofString "_law_plus", 6, 2, 0, topS 106, n__law_plus, i__law_plus⟩
def r__law_times : RowD := ⟨Str.ofString "_law_times", Str.ofString "_law_times", 7, 2, 0, topS 107, n__law_times, i__law_times⟩
def r__law_drawn : RowD := ⟨Str.ofString "_law_drawn", Str.ofString "_law_drawn", 86, 1, 6, topS 116, n__law_drawn, i__law_drawn⟩
def r__law_take : RowD := ⟨Str.ofString "_law_take", Str.ofString "_law_take", 18, 2, 1, topS 103, n__law_take, i__law_take⟩
def rr_start : RowD := ⟨Str.ofString "_law_start", Str.ofString "_law_start", 81, 1, 1, topS 101, n__law_start, .nil⟩
def rr_law : RowD := ⟨Str.ofString "law", Str.ofString "law", 89, 1, 19, topS 119, n_law, i_law⟩
def rowsPy_0 : List RowD := [
  r_common,
  r_divisor,
  r_is_prime,
  r_root,
  r_is_integer,
  r_is_domain,
  r_is_field,
  r_need_domain,
  r_need_field,
  r_is_element,
  r_belongs,
  r_zero,
  r_one,
  r_trimmed,
  r_negate,
  r_inverse,
  r_times,
  r_is_matrix,
  r_matrix,
  r_need_shape,
  r_identity,
  r_dot,
  r_times_matrices,
  r_transposed,
  r_applied,
  r_diagonal,
  r_add_row,
  r_eliminate,
  r_pivots_of,
  r_rank]
def rowsPy_1 : List RowD := [
  r_kernel,
  r_form_word,
  r_clear_below,
  r_add_line,
  r_numbers_in,
  r_is_vector,
  r_is_nothing,
  r_diagonal_form,
  r_parted,
  r_power_modulo,
  r_residue_sign,
  r_symbol,
  r_square_at,
  r_product_of,
  r_negative,
  r_symbols_of,
  r_zero_at_prime,
  r_zero_at,
  r_value_at,
  r_prime_factors,
  r_square_part,
  r_places_of,
  r_square_root,
  r_of_two,
  r_of_three,
  r_apart,
  r_common_divisor,
  r_small_zero,
  r_middles,
  r_has_zero]
def rowsPy_2 : List RowD := [
  r_of_four,
  r_back_to_four,
  r_zero_of_diagonal,
  r_first_bad_place,
  r_need_short,
  r_zero_paper,
  r_is_place,
  r_judge_zero_of,
  r_above,
  r_turned,
  r_judge_equivalence,
  r__law_divisor,
  r__law_product,
  r__law_matrix,
  r__law_multiplied,
  r__law_sums,
  r__law_counts]
def rowsPy : List RowD := rowsPy_0 ++ rowsPy_1 ++ rowsPy_2
def rowsNat_0 : List RowD := [
  r_fraction,
  r_add,
  r_multiply,
  r_plus,
  r_times_circle,
  r_minus,
  r__law_fraction,
  r__law_plus,
  r__law_times,
  r__law_drawn,
  r__law_take]
def rowsNat : List RowD := rowsNat_0
def csts : List CstF := [.int (Str.ofString "MOST_PRIME_domains") (65521), .tup (Str.ofString "Q") [.str (Str.ofString "Q")], .tup (Str.ofString "ZERO") [.int (0), .int (1)], .tup (Str.ofString "ONE") [.int (1), .int (1)], .int (Str.ofString "MOST_PRIME_form_papers") (1000000), .int (Str.ofString "MOST_TRIES") (4000000), .int (Str.ofString "MOST_MIDDLE") (20000), .int (Str.ofString "MOST_DIGITS") (200)]
def xtra : List He.Fa := [.glo (Str.ofString "_law_start"), .glo (Str.ofString "_law_fill"), .glo (Str.ofString "law"), .glo (Str.ofString "LimitError")]
def fa : List He.Fa := (rowsPy ++ rowsNat).map (fun r => .glo r.nm) ++ (xtra ++ (gFree.map (fun x => .free x) ++ csts.map CstF.fa))
def d_fill : He.DefD := ⟨(Str.ofString "_law_fill", none), Str.ofString "_law_fill", Str.ofString "_law_fill", defArgs (topS 102), defBody (topS 102), defScope (topS 102), [], []⟩
def fnD : List He.DefD := (rowsPy ++ rowsNat).map RowD.dd ++ [rr_start.dd, rr_law.dd, d_fill]
def tsD : List TupF := csts.flatMap CstF.ts
def loose_0 : List Str := [
  Str.ofString "LongrankError",
  Str.ofString "DomainError",
  Str.ofString "ShapeError",
  Str.ofString "SingularError",
  Str.ofString "LimitError",
  Str.ofString "common",
  Str.ofString "divisor",
  Str.ofString "is_prime",
  Str.ofString "fraction",
  Str.ofString "root",
  Str.ofString "MOST_PRIME_domains",
  Str.ofString "is_integer",
  Str.ofString "is_domain",
  Str.ofString "is_field",
  Str.ofString "need_domain",
  Str.ofString "need_field",
  Str.ofString "is_element",
  Str.ofString "belongs",
  Str.ofString "zero",
  Str.ofString "one",
  Str.ofString "trimmed",
  Str.ofString "add",
  Str.ofString "negate",
  Str.ofString "multiply",
  Str.ofString "inverse",
  Str.ofString "Q",
  Str.ofString "ZERO",
  Str.ofString "ONE",
  Str.ofString "plus",
  Str.ofString "times",
  Str.ofString "times_circle",
  Str.ofString "minus",
  Str.ofString "is_matrix",
  Str.ofString "matrix",
  Str.ofString "need_shape",
  Str.ofString "identity",
  Str.ofString "dot",
  Str.ofString "times_matrices",
  Str.ofString "transposed",
  Str.ofString "applied"]
def loose_1 : List Str := [
  Str.ofString "diagonal",
  Str.ofString "add_row",
  Str.ofString "eliminate",
  Str.ofString "pivots_of",
  Str.ofString "rank",
  Str.ofString "kernel",
  Str.ofString "form_word",
  Str.ofString "clear_below",
  Str.ofString "add_line",
  Str.ofString "numbers_in",
  Str.ofString "is_vector",
  Str.ofString "is_nothing",
  Str.ofString "diagonal_form",
  Str.ofString "parted",
  Str.ofString "power_modulo",
  Str.ofString "residue_sign",
  Str.ofString "symbol",
  Str.ofString "square_at",
  Str.ofString "product_of",
  Str.ofString "negative",
  Str.ofString "symbols_of",
  Str.ofString "zero_at_prime",
  Str.ofString "zero_at",
  Str.ofString "value_at",
  Str.ofString "MOST_PRIME_form_papers",
  Str.ofString "MOST_TRIES",
  Str.ofString "MOST_MIDDLE",
  Str.ofString "MOST_DIGITS",
  Str.ofString "prime_factors",
  Str.ofString "square_part",
  Str.ofString "places_of",
  Str.ofString "square_root",
  Str.ofString "of_two",
  Str.ofString "of_three",
  Str.ofString "apart",
  Str.ofString "common_divisor",
  Str.ofString "small_zero",
  Str.ofString "middles",
  Str.ofString "has_zero",
  Str.ofString "of_four"]
def loose_2 : List Str := [
  Str.ofString "back_to_four",
  Str.ofString "zero_of_diagonal",
  Str.ofString "first_bad_place",
  Str.ofString "need_short",
  Str.ofString "zero_paper",
  Str.ofString "is_place",
  Str.ofString "judge_zero_of",
  Str.ofString "above",
  Str.ofString "turned",
  Str.ofString "judge_equivalence",
  Str.ofString "_law_start",
  Str.ofString "_law_fill",
  Str.ofString "_law_take",
  Str.ofString "_law_divisor",
  Str.ofString "_law_fraction",
  Str.ofString "_law_plus",
  Str.ofString "_law_times",
  Str.ofString "_law_product",
  Str.ofString "_law_unit",
  Str.ofString "_law_inverse",
  Str.ofString "_law_coordinates",
  Str.ofString "_law_matrix",
  Str.ofString "_law_is_int",
  Str.ofString "_law_alike",
  Str.ofString "_law_multiplied",
  Str.ofString "_law_drawn",
  Str.ofString "_law_sums",
  Str.ofString "_law_counts"]
def loose : List Str := loose_0 ++ loose_1 ++ loose_2
abbrev RW : PySem.W.OpenRow := PySem.W.OpenLaw.row PySem.Challenge.rw_longrank_k84_trace_forms
abbrev hk : PySem.W.Hook := hookX 2 fa fnD tsD
def ob (s : PySem.W.SharedT) : AlX := obsXG 2 fa fnD tsD (HandSHeadRun.getT s)
theorem ob_eq (s : PySem.W.SharedT) : ob s = hk.obs s.abs := obsXG_eq (HandSHeadRun.getT_eq s)
theorem run (w : World) : HandSHeadRun.RunEq RW (PySem.W.view RW.prog [119]) hk ob 6000 loose w := by
  intro os
  kernel_rfl
end
end Zk84

set_option Elab.async false
set_option linter.all false
set_option maxRecDepth 1000000
set_option maxHeartbeats 0
/-! Tb_k84: the tables: printed by mk.py. -/
namespace Zk84
open PySem Zev L2
noncomputable section
def tbl_0 : List Dr := [([-8, -4, -2, 1, 1], 2, 1), ([-8, -4, 2, 1], 2, 0), ([-8, 12, -6, 1], 1, 0), ([-4, -4, -1, 0, 1], 2, 1), ([-4, -4, 1, 1], 3, 0), ([-4, 0, -3, 0, 1], 2, 1), ([-4, 0, -1, 1], 1, 1), ([-4, 0, 1], 2, 0), ([-4, 0, 1, 2, 1], 2, 1), ([-4, 0, 3, 1], 2, 0), ([-4, 8, -5, 1], 2, 0), ([-2, -3, 0, 1], 2, 0), ([-2, -1, -1, -1, 1], 2, 1), ([-2, -1, 1], 2, 0), ([-2, -1, 1, 1, 1], 2, 1), ([-2, -1, 2, 1], 3, 0), ([-2, 1], 1, 0), ([-2, 1, -2, 1], 1, 1), ([-2, 1, -1, 1, 1], 2, 1), ([-2, 1, 0, 1], 1, 1), ([-2, 1, 1], 2, 0), ([-2, 5, -4, 1], 2, 0), ([-1, -1, 1, 1], 2, 0), ([-1, 0, 0, 0, 1], 2, 1), ([-1, 0, 1], 2, 0)]
def tbl_1 : List Dr := [([-1, 1], 1, 0), ([-1, 1, -1, 1], 1, 1), ([-1, 3, -3, 1], 1, 0), ([0, -4, 0, -1, 1], 2, 1), ([0, -4, 0, 1], 3, 0), ([0, -2, -1, 1], 3, 0), ([0, -2, 1], 2, 0), ([0, -2, 1, -2, 1], 2, 1), ([0, -2, 1, 0, 1], 2, 1), ([0, -2, 1, 1], 3, 0), ([0, -1, 0, 1], 3, 0), ([0, -1, 1], 2, 0), ([0, -1, 1, -1, 1], 2, 1), ([0, 0, -2, 1], 2, 0), ([0, 0, -1, 1], 2, 0), ([0, 0, 0, 1], 1, 0), ([0, 0, 1], 1, 0), ([0, 0, 1, 0, 1], 1, 1), ([0, 0, 1, 1], 2, 0), ([0, 0, 2, 1], 2, 0), ([0, 0, 2, 1, 1], 1, 1), ([0, 1], 1, 0), ([0, 1, -2, 1], 2, 0), ([0, 1, 0, 1], 1, 1), ([0, 1, 1], 2, 0)]
def tbl_2 : List Dr := [([0, 1, 1, 1, 1], 2, 1), ([0, 1, 2, 1], 2, 0), ([0, 2, -3, 1], 3, 0), ([0, 2, 1], 2, 0), ([0, 2, 1, 1], 1, 1), ([0, 2, 1, 2, 1], 2, 1), ([0, 2, 3, 1], 3, 0), ([0, 2, 3, 2, 1], 2, 1), ([0, 4, -4, 1], 2, 0), ([0, 4, 4, 1], 2, 0), ([0, 4, 4, 3, 1], 2, 1), ([1, -2, 1], 1, 0), ([1, -2, 2, -2, 1], 1, 1), ([1, -1, -1, 1], 2, 0), ([1, 0, 1], 0, 1), ([1, 0, 2, 0, 1], 0, 1), ([1, 1], 1, 0), ([1, 1, 1, 1], 1, 1), ([1, 2, 1], 1, 0), ([1, 2, 2, 2, 1], 1, 1), ([1, 3, 3, 1], 1, 0), ([2, -3, 0, 1], 2, 0), ([2, -3, 1], 2, 0), ([2, -3, 1, -1, 1], 1, 1), ([2, -3, 3, -3, 1], 2, 1)]
def tbl_3 : List Dr := [([2, -1, -2, 1], 3, 0), ([2, 1], 1, 0), ([2, 1, 1], 0, 1), ([2, 1, 2, 1], 1, 1), ([2, 1, 3, 1, 1], 0, 2), ([2, 3, 1], 2, 0), ([2, 3, 2, 1], 1, 1), ([2, 3, 3, 3, 1], 2, 1), ([2, 5, 4, 1], 2, 0), ([2, 5, 5, 3, 1], 1, 1), ([4, -4, -1, 1], 3, 0), ([4, -4, 1], 1, 0), ([4, -4, 1, -2, 1], 2, 1), ([4, -4, 5, -4, 1], 1, 1), ([4, 0, -3, 1], 2, 0), ([4, 4, 1], 1, 0), ([4, 4, 3, 1], 1, 1), ([4, 4, 5, 2, 1], 0, 1), ([4, 4, 5, 4, 1], 1, 1), ([4, 8, 5, 1], 2, 0), ([4, 8, 7, 4, 1], 2, 1), ([8, -4, -2, 1], 2, 0), ([8, -4, 2, -3, 1], 1, 1), ([8, 12, 6, 1], 1, 0), ([8, 12, 10, 5, 1], 1, 1)]
def tbl : List Dr := tbl_0 ++ tbl_1 ++ tbl_2 ++ tbl_3
def tabP : List FD := [
  .py 3 4 c_add,
  .py 3 7 c_multiply,
  .py 2 0 c_plus,
  .py 2 0 c_times,
  .py 2 0 c_minus,
  .py 2 1 c_fraction,
  .py 2 0 c__law_plus,
  .py 2 0 c__law_times,
  .py 2 1 c__law_fraction,
  .py 1 0 c_zero,
  .py 1 0 c_one,
  .py 3 3 c_dot,
  .py 2 1 c_belongs,
  .py 1 0 c_is_integer,
  .py 2 0 c_divisor,
  .py 2 1 c__law_divisor,
  .py 2 1 c_negate,
  .py 5 3 c_add_line,
  .nat natTake,
  .py 5 2 c_add_row,
  .py 1 0 c_is_domain,
  .py 1 0 c_need_domain,
  .py 1 0 c_is_field,
  .py 1 0 c_need_field,
  .py 2 6 c_clear_below,
  .py 2 3 c_inverse,
  .py 2 3 c_identity,
  .py 1 2 c_transposed,
  .py 3 4 c_times_2,
  .py 1 8 c_diagonal_form,
  .py 3 1 c_matrix,
  .py 2 6 c_common,
  .py 1 1 c_is_prime,
  .py 1 1 c_root,
  .py 2 0 c_is_element,
  .py 2 1 c_trimmed,
  .py 2 2 c_is_matrix,
  .py 1 0 c_need_shape,
  .py 3 1 c_applied,
  .py 2 8 c_diagonal,
  .py 3 7 c_eliminate,
  .py 2 2 c_pivots_of,
  .py 2 0 c_rank,
  .py 2 8 c_kernel,
  .py 1 6 c_form_word,
  .py 1 3 c_numbers_in,
  .py 2 1 c_is_vector,
  .py 1 1 c_is_nothing,
  .py 2 2 c_parted,
  .py 3 1 c_power_modulo,
  .py 2 0 c_residue_sign,
  .py 3 6 c_symbol,
  .py 2 2 c_square_at,
  .py 1 2 c_product_of,
  .py 1 0 c_negative,
  .py 2 3 c_symbols_of,
  .py 2 1 c_zero_at_prime,
  .py 2 3 c_zero_at,
  .py 2 5 c_value_at,
  .py 1 3 c_prime_factors,
  .py 1 6 c_square_part,
  .py 1 4 c_places_of,
  .py 1 2 c_square_root,
  .py 1 1 c_of_two,
  .py 1 9 c_of_three,
  .py 2 7 c_apart,
  .py 2 0 c_common_divisor,
  .py 1 14 c_small_zero,
  .py 0 2 c_middles,
  .py 1 3 c_has_zero,
  .py 1 10 c_of_four,
  .py 4 1 c_back_to_four,
  .py 1 0 c_zero_of_diagonal,
  .py 1 4 c_first_bad_place,
  .py 1 3 c_need_short,
  .py 1 5 c_zero_paper,
  .py 1 0 c_is_place,
  .py 2 0 c_judge_zero_of,
  .py 1 1 c_above,
  .py 2 0 c_turned,
  .py 3 2 c_judge_equivalence,
  .nat fun _ _ _ => false,
  .nat fun _ _ _ => false,
  .py 2 6 c__law_product,
  .py 2 1 c__law_matrix,
  .py 2 3 c__law_multiplied,
  .py 1 6 c__law_drawn,
  .py 2 5 c__law_sums,
  .py 1 3 c__law_counts,
  .nat fun _ _ _ => false]
def tab : List FD := [
  .nat nAdd,
  .nat nMul,
  .nat nPlus,
  .nat nTimes,
  .nat nMinus,
  .nat nFrac,
  .nat nPlus,
  .nat nTimes,
  .nat nFrac2,
  .py 1 0 c_zero,
  .py 1 0 c_one,
  .py 3 3 c_dot,
  .py 2 1 c_belongs,
  .py 1 0 c_is_integer,
  .py 2 0 c_divisor,
  .py 2 1 c__law_divisor,
  .py 2 1 c_negate,
  .py 5 3 c_add_line,
  .nat natTake,
  .py 5 2 c_add_row,
  .py 1 0 c_is_domain,
  .py 1 0 c_need_domain,
  .py 1 0 c_is_field,
  .py 1 0 c_need_field,
  .py 2 6 c_clear_below,
  .py 2 3 c_inverse,
  .py 2 3 c_identity,
  .py 1 2 c_transposed,
  .py 3 4 c_times_2,
  .py 1 8 c_diagonal_form,
  .py 3 1 c_matrix,
  .py 2 6 c_common,
  .py 1 1 c_is_prime,
  .py 1 1 c_root,
  .py 2 0 c_is_element,
  .py 2 1 c_trimmed,
  .py 2 2 c_is_matrix,
  .py 1 0 c_need_shape,
  .py 3 1 c_applied,
  .py 2 8 c_diagonal,
  .py 3 7 c_eliminate,
  .py 2 2 c_pivots_of,
  .py 2 0 c_rank,
  .py 2 8 c_kernel,
  .py 1 6 c_form_word,
  .py 1 3 c_numbers_in,
  .py 2 1 c_is_vector,
  .py 1 1 c_is_nothing,
  .py 2 2 c_parted,
  .py 3 1 c_power_modulo,
  .py 2 0 c_residue_sign,
  .py 3 6 c_symbol,
  .py 2 2 c_square_at,
  .py 1 2 c_product_of,
  .py 1 0 c_negative,
  .py 2 3 c_symbols_of,
  .py 2 1 c_zero_at_prime,
  .py 2 3 c_zero_at,
  .py 2 5 c_value_at,
  .py 1 3 c_prime_factors,
  .py 1 6 c_square_part,
  .py 1 4 c_places_of,
  .py 1 2 c_square_root,
  .py 1 1 c_of_two,
  .py 1 9 c_of_three,
  .py 2 7 c_apart,
  .py 2 0 c_common_divisor,
  .py 1 14 c_small_zero,
  .py 0 2 c_middles,
  .py 1 3 c_has_zero,
  .py 1 10 c_of_four,
  .py 4 1 c_back_to_four,
  .py 1 0 c_zero_of_diagonal,
  .py 1 4 c_first_bad_place,
  .py 1 3 c_need_short,
  .py 1 5 c_zero_paper,
  .py 1 0 c_is_place,
  .py 2 0 c_judge_zero_of,
  .py 1 1 c_above,
  .py 2 0 c_turned,
  .py 3 2 c_judge_equivalence,
  .nat fun _ _ _ => false,
  .nat fun _ _ _ => false,
  .py 2 6 c__law_product,
  .py 2 1 c__law_matrix,
  .py 2 3 c__law_multiplied,
  .nat (natDrawn tbl),
  .py 2 5 c__law_sums,
  .py 1 3 c__law_counts,
  .nat fun _ _ _ => false]
theorem okP_common : RowOk GG tabP r_common := ⟨k_common, scope_by (by kernel_rfl), rfl, rfl, fun _ _ _ _ _ _ us hl => match us, hl with | [_, _], _ => rfl⟩
theorem okP_divisor : RowOk GG tabP r_divisor := ⟨k_divisor, scope_by (by kernel_rfl), rfl, rfl, fun _ _ _ _ _ _ us hl => match us, hl with | [_, _], _ => rfl⟩
theorem okP_is_prime : RowOk GG tabP r_is_prime := ⟨k_is_prime, scope_by (by kernel_rfl), rfl, rfl, fun _ _ _ _ _ _ us hl => match us, hl with | [_], _ => rfl⟩
theorem okP_root : RowOk GG tabP r_root := ⟨k_root, scope_by (by kernel_rfl), rfl, rfl, fun _ _ _ _ _ _ us hl => match us, hl with | [_], _ => rfl⟩
theorem okP_is_integer : RowOk GG tabP r_is_integer := ⟨k_is_integer, scope_by (by kernel_rfl), rfl, rfl, fun _ _ _ _ _ _ us hl => match us, hl with | [_], _ => rfl⟩
theorem okP_is_domain : RowOk GG tabP r_is_domain := ⟨k_is_domain, scope_by (by kernel_rfl), rfl, rfl, fun _ _ _ _ _ _ us hl => match us, hl with | [_], _ => rfl⟩
theorem okP_is_field : RowOk GG tabP r_is_field := ⟨k_is_field, scope_by (by kernel_rfl), rfl, rfl, fun _ _ _ _ _ _ us hl => match us, hl with | [_], _ => rfl⟩
theorem okP_need_domain : RowOk GG tabP r_need_domain := ⟨k_need_domain, scope_by (by kernel_rfl), rfl, rfl, fun _ _ _ _ _ _ us hl => match us, hl with | [_], _ => rfl⟩
theorem okP_need_field : RowOk GG tabP r_need_field := ⟨k_need_field, scope_by (by kernel_rfl), rfl, rfl, fun _ _ _ _ _ _ us hl => match us, hl with | [_], _ => rfl⟩
theorem okP_is_element : RowOk GG tabP r_is_element := ⟨k_is_element, scope_by (by kernel_rfl), rfl, rfl, fun _ _ _ _ _ _ us hl => match us, hl with | [_, _], _ => rfl⟩
theorem okP_belongs : RowOk GG tabP r_belongs := ⟨k_belongs, scope_by (by kernel_rfl), rfl, rfl, fun _ _ _ _ _ _ us hl => match us, hl with | [_, _], _ => rfl⟩
theorem okP_zero : RowOk GG tabP r_zero := ⟨k_zero, scope_by (by kernel_rfl), rfl, rfl, fun _ _ _ _ _ _ us hl => match us, hl with | [_], _ => rfl⟩
theorem okP_one : RowOk GG tabP r_one := ⟨k_one, scope_by (by kernel_rfl), rfl, rfl, fun _ _ _ _ _ _ us hl => match us, hl with | [_], _ => rfl⟩
theorem okP_trimmed : RowOk GG tabP r_trimmed := ⟨k_trimmed, scope_by (by kernel_rfl), rfl, rfl, fun _ _ _ _ _ _ us hl => match us, hl with | [_, _], _ => rfl⟩
theorem okP_negate : RowOk GG tabP r_negate := ⟨k_negate, scope_by (by kernel_rfl), rfl, rfl, fun _ _ _ _ _ _ us hl => match us, hl with | [_, _], _ => rfl⟩
theorem okP_inverse : RowOk GG tabP r_inverse := ⟨k_inverse, scope_by (by kernel_rfl), rfl, rfl, fun _ _ _ _ _ _ us hl => match us, hl with | [_, _], _ => rfl⟩
theorem okP_times : RowOk GG tabP r_times := ⟨k_times_2, scope_by (by kernel_rfl), rfl, rfl, fun _ _ _ _ _ _ us hl => match us, hl with | [_, _, _], _ => rfl⟩
theorem okP_is_matrix : RowOk GG tabP r_is_matrix := ⟨k_is_matrix, scope_by (by kernel_rfl), rfl, rfl, fun _ _ _ _ _ _ us hl => match us, hl with | [_, _], _ => rfl⟩
theorem okP_matrix : RowOk GG tabP r_matrix := ⟨k_matrix, scope_by (by kernel_rfl), rfl, rfl, fun _ _ _ _ _ _ us hl => match us, hl with | [_, _, _], _ => rfl⟩
theorem okP_need_shape : RowOk GG tabP r_need_shape := ⟨k_need_shape, scope_by (by kernel_rfl), rfl, rfl, fun _ _ _ _ _ _ us hl => match us, hl with | [_], _ => rfl⟩
theorem okP_identity : RowOk GG tabP r_identity := ⟨k_identity, scope_by (by kernel_rfl), rfl, rfl, fun _ _ _ _ _ _ us hl => match us, hl with | [_, _], _ => rfl⟩
theorem okP_dot : RowOk GG tabP r_dot := ⟨k_dot, scope_by (by kernel_rfl), rfl, rfl, fun _ _ _ _ _ _ us hl => match us, hl with | [_, _, _], _ => rfl⟩
theorem okP_times_matrices : RowOk GG tabP r_times_matrices := ⟨k_times_2, scope_by (by kernel_rfl), rfl, rfl, fun _ _ _ _ _ _ us hl => match us, hl with | [_, _, _], _ => rfl⟩
theorem okP_transposed : RowOk GG tabP r_transposed := ⟨k_transposed, scope_by (by kernel_rfl), rfl, rfl, fun _ _ _ _ _ _ us hl => match us, hl with | [_], _ => rfl⟩
theorem okP_applied : RowOk GG tabP r_applied := ⟨k_applied, scope_by (by kernel_rfl), rfl, rfl, fun _ _ _ _ _ _ us hl => match us, hl with | [_, _, _], _ => rfl⟩
theorem okP_diagonal : RowOk GG tabP r_diagonal := ⟨k_diagonal, scope_by (by kernel_rfl), rfl, rfl, fun _ _ _ _ _ _ us hl => match us, hl with | [_, _], _ => rfl⟩
theorem okP_add_row : RowOk GG tabP r_add_row := ⟨k_add_row, scope_by (by kernel_rfl), rfl, rfl, fun _ _ _ _ _ _ us hl => match us, hl with | [_, _, _, _, _], _ => rfl⟩
theorem okP_eliminate : RowOk GG tabP r_eliminate := ⟨k_eliminate, scope_by (by kernel_rfl), rfl, rfl, fun _ _ _ _ _ _ us hl => match us, hl with | [_, _, _], _ => rfl⟩
theorem okP_pivots_of : RowOk GG tabP r_pivots_of := ⟨k_pivots_of, scope_by (by kernel_rfl), rfl, rfl, fun _ _ _ _ _ _ us hl => match us, hl with | [_, _], _ => rfl⟩
theorem okP_rank : RowOk GG tabP r_rank := ⟨k_rank, scope_by (by kernel_rfl), rfl, rfl, fun _ _ _ _ _ _ us hl => match us, hl with | [_, _], _ => rfl⟩
theorem okP_kernel : RowOk GG tabP r_kernel := ⟨k_kernel, scope_by (by kernel_rfl), rfl, rfl, fun _ _ _ _ _ _ us hl => match us, hl with | [_, _], _ => rfl⟩
theorem okP_form_word : RowOk GG tabP r_form_word := ⟨k_form_word, scope_by (by kernel_rfl), rfl, rfl, fun _ _ _ _ _ _ us hl => match us, hl with | [_], _ => rfl⟩
theorem okP_clear_below : RowOk GG tabP r_clear_below := ⟨k_clear_below, scope_by (by kernel_rfl), rfl, rfl, fun _ _ _ _ _ _ us hl => match us, hl with | [_, _], _ => rfl⟩
theorem okP_add_line : RowOk GG tabP r_add_line := ⟨k_add_line, scope_by (by kernel_rfl), rfl, rfl, fun _ _ _ _ _ _ us hl => match us, hl with | [_, _, _, _, _], _ => rfl⟩
theorem okP_numbers_in : RowOk GG tabP r_numbers_in := ⟨k_numbers_in, scope_by (by kernel_rfl), rfl, rfl, fun _ _ _ _ _ _ us hl => match us, hl with | [_], _ => rfl⟩
theorem okP_is_vector : RowOk GG tabP r_is_vector := ⟨k_is_vector, scope_by (by kernel_rfl), rfl, rfl, fun _ _ _ _ _ _ us hl => match us, hl with | [_, _], _ => rfl⟩
theorem okP_is_nothing : RowOk GG tabP r_is_nothing := ⟨k_is_nothing, scope_by (by kernel_rfl), rfl, rfl, fun _ _ _ _ _ _ us hl => match us, hl with | [_], _ => rfl⟩
theorem okP_diagonal_form : RowOk GG tabP r_diagonal_form := ⟨k_diagonal_form, scope_by (by kernel_rfl), rfl, rfl, fun _ _ _ _ _ _ us hl => match us, hl with | [_], _ => rfl⟩
theorem okP_parted : RowOk GG tabP r_parted := ⟨k_parted, scope_by (by kernel_rfl), rfl, rfl, fun _ _ _ _ _ _ us hl => match us, hl with | [_, _], _ => rfl⟩
theorem okP_power_modulo : RowOk GG tabP r_power_modulo := ⟨k_power_modulo, scope_by (by kernel_rfl), rfl, rfl, fun _ _ _ _ _ _ us hl => match us, hl with | [_, _, _], _ => rfl⟩
theorem okP_residue_sign : RowOk GG tabP r_residue_sign := ⟨k_residue_sign, scope_by (by kernel_rfl), rfl, rfl, fun _ _ _ _ _ _ us hl => match us, hl with | [_, _], _ => rfl⟩
theorem okP_symbol : RowOk GG tabP r_symbol := ⟨k_symbol, scope_by (by kernel_rfl), rfl, rfl, fun _ _ _ _ _ _ us hl => match us, hl with | [_, _, _], _ => rfl⟩
theorem okP_square_at : RowOk GG tabP r_square_at := ⟨k_square_at, scope_by (by kernel_rfl), rfl, rfl, fun _ _ _ _ _ _ us hl => match us, hl with | [_, _], _ => rfl⟩
theorem okP_product_of : RowOk GG tabP r_product_of := ⟨k_product_of, scope_by (by kernel_rfl), rfl, rfl, fun _ _ _ _ _ _ us hl => match us, hl with | [_], _ => rfl⟩
theorem okP_negative : RowOk GG tabP r_negative := ⟨k_negative, scope_by (by kernel_rfl), rfl, rfl, fun _ _ _ _ _ _ us hl => match us, hl with | [_], _ => rfl⟩
theorem okP_symbols_of : RowOk GG tabP r_symbols_of := ⟨k_symbols_of, scope_by (by kernel_rfl), rfl, rfl, fun _ _ _ _ _ _ us hl => match us, hl with | [_, _], _ => rfl⟩
theorem okP_zero_at_prime : RowOk GG tabP r_zero_at_prime := ⟨k_zero_at_prime, scope_by (by kernel_rfl), rfl, rfl, fun _ _ _ _ _ _ us hl => match us, hl with | [_, _], _ => rfl⟩
theorem okP_zero_at : RowOk GG tabP r_zero_at := ⟨k_zero_at, scope_by (by kernel_rfl), rfl, rfl, fun _ _ _ _ _ _ us hl => match us, hl with | [_, _], _ => rfl⟩
theorem okP_value_at : RowOk GG tabP r_value_at := ⟨k_value_at, scope_by (by kernel_rfl), rfl, rfl, fun _ _ _ _ _ _ us hl => match us, hl with | [_, _], _ => rfl⟩
theorem okP_prime_factors : RowOk GG tabP r_prime_factors := ⟨k_prime_factors, scope_by (by kernel_rfl), rfl, rfl, fun _ _ _ _ _ _ us hl => match us, hl with | [_], _ => rfl⟩
theorem okP_square_part : RowOk GG tabP r_square_part := ⟨k_square_part, scope_by (by kernel_rfl), rfl, rfl, fun _ _ _ _ _ _ us hl => match us, hl with | [_], _ => rfl⟩
theorem okP_places_of : RowOk GG tabP r_places_of := ⟨k_places_of, scope_by (by kernel_rfl), rfl, rfl, fun _ _ _ _ _ _ us hl => match us, hl with | [_], _ => rfl⟩
theorem okP_square_root : RowOk GG tabP r_square_root := ⟨k_square_root, scope_by (by kernel_rfl), rfl, rfl, fun _ _ _ _ _ _ us hl => match us, hl with | [_], _ => rfl⟩
theorem okP_of_two : RowOk GG tabP r_of_two := ⟨k_of_two, scope_by (by kernel_rfl), rfl, rfl, fun _ _ _ _ _ _ us hl => match us, hl with | [_], _ => rfl⟩
theorem okP_of_three : RowOk GG tabP r_of_three := ⟨k_of_three, scope_by (by kernel_rfl), rfl, rfl, fun _ _ _ _ _ _ us hl => match us, hl with | [_], _ => rfl⟩
theorem okP_apart : RowOk GG tabP r_apart := ⟨k_apart, scope_by (by kernel_rfl), rfl, rfl, fun _ _ _ _ _ _ us hl => match us, hl with | [_, _], _ => rfl⟩
theorem okP_common_divisor : RowOk GG tabP r_common_divisor := ⟨k_common_divisor, scope_by (by kernel_rfl), rfl, rfl, fun _ _ _ _ _ _ us hl => match us, hl with | [_, _], _ => rfl⟩
theorem okP_small_zero : RowOk GG tabP r_small_zero := ⟨k_small_zero, scope_by (by kernel_rfl), rfl, rfl, fun _ _ _ _ _ _ us hl => match us, hl with | [_], _ => rfl⟩
theorem okP_middles : RowOk GG tabP r_middles := ⟨k_middles, scope_by (by kernel_rfl), rfl, rfl, fun _ _ _ _ _ _ us hl => match us, hl with | [], _ => rfl⟩
theorem okP_has_zero : RowOk GG tabP r_has_zero := ⟨k_has_zero, scope_by (by kernel_rfl), rfl, rfl, fun _ _ _ _ _ _ us hl => match us, hl with | [_], _ => rfl⟩
theorem okP_of_four : RowOk GG tabP r_of_four := ⟨k_of_four, scope_by (by kernel_rfl), rfl, rfl, fun _ _ _ _ _ _ us hl => match us, hl with | [_], _ => rfl⟩
theorem okP_back_to_four : RowOk GG tabP r_back_to_four := ⟨k_back_to_four, scope_by (by kernel_rfl), rfl, rfl, fun _ _ _ _ _ _ us hl => match us, hl with | [_, _, _, _], _ => rfl⟩
theorem okP_zero_of_diagonal : RowOk GG tabP r_zero_of_diagonal := ⟨k_zero_of_diagonal, scope_by (by kernel_rfl), rfl, rfl, fun _ _ _ _ _ _ us hl => match us, hl with | [_], _ => rfl⟩
theorem okP_first_bad_place : RowOk GG tabP r_first_bad_place := ⟨k_first_bad_place, scope_by (by kernel_rfl), rfl, rfl, fun _ _ _ _ _ _ us hl => match us, hl with | [_], _ => rfl⟩
theorem okP_need_short : RowOk GG tabP r_need_short := ⟨k_need_short, scope_by (by kernel_rfl), rfl, rfl, fun _ _ _ _ _ _ us hl => match us, hl with | [_], _ => rfl⟩
theorem okP_zero_paper : RowOk GG tabP r_zero_paper := ⟨k_zero_paper, scope_by (by kernel_rfl), rfl, rfl, fun _ _ _ _ _ _ us hl => match us, hl with | [_], _ => rfl⟩
theorem okP_is_place : RowOk GG tabP r_is_place := ⟨k_is_place, scope_by (by kernel_rfl), rfl, rfl, fun _ _ _ _ _ _ us hl => match us, hl with | [_], _ => rfl⟩
theorem okP_judge_zero_of : RowOk GG tabP r_judge_zero_of := ⟨k_judge_zero_of, scope_by (by kernel_rfl), rfl, rfl, fun _ _ _ _ _ _ us hl => match us, hl with | [_, _], _ => rfl⟩
theorem okP_above : RowOk GG tabP r_above := ⟨k_above, scope_by (by kernel_rfl), rfl, rfl, fun _ _ _ _ _ _ us hl => match us, hl with | [_], _ => rfl⟩
theorem okP_turned : RowOk GG tabP r_turned := ⟨k_turned, scope_by (by kernel_rfl), rfl, rfl, fun _ _ _ _ _ _ us hl => match us, hl with | [_, _], _ => rfl⟩
theorem okP_judge_equivalence : RowOk GG tabP r_judge_equivalence := ⟨k_judge_equivalence, scope_by (by kernel_rfl), rfl, rfl, fun _ _ _ _ _ _ us hl => match us, hl with | [_, _, _], _ => rfl⟩
theorem okP__law_divisor : RowOk GG tabP r__law_divisor := ⟨k__law_divisor, scope_by (by kernel_rfl), rfl, rfl, fun _ _ _ _ _ _ us hl => match us, hl with | [_, _], _ => rfl⟩
theorem okP__law_product : RowOk GG tabP r__law_product := ⟨k__law_product, scope_by (by kernel_rfl), rfl, rfl, fun _ _ _ _ _ _ us hl => match us, hl with | [_, _], _ => rfl⟩
theorem okP__law_matrix : RowOk GG tabP r__law_matrix := ⟨k__law_matrix, scope_by (by kernel_rfl), rfl, rfl, fun _ _ _ _ _ _ us hl => match us, hl with | [_, _], _ => rfl⟩
theorem okP__law_multiplied : RowOk GG tabP r__law_multiplied := ⟨k__law_multiplied, scope_by (by kernel_rfl), rfl, rfl, fun _ _ _ _ _ _ us hl => match us, hl with | [_, _], _ => rfl⟩
theorem okP__law_sums : RowOk GG tabP r__law_sums := ⟨k__law_sums, scope_by (by kernel_rfl), rfl, rfl, fun _ _ _ _ _ _ us hl => match us, hl with | [_, _], _ => rfl⟩
theorem okP__law_counts : RowOk GG tabP r__law_counts := ⟨k__law_counts, scope_by (by kernel_rfl), rfl, rfl, fun _ _ _ _ _ _ us hl => match us, hl with | [_], _ => rfl⟩
theorem okP_fraction : RowOk GG tabP r_fraction := ⟨k_fraction, scope_by (by kernel_rfl), rfl, rfl, fun _ _ _ _ _ _ us hl => match us, hl with | [_, _], _ => rfl⟩
theorem okP_add : RowOk GG tabP r_add := ⟨k_add, scope_by (by kernel_rfl), rfl, rfl, fun _ _ _ _ _ _ us hl => match us, hl with | [_, _, _], _ => rfl⟩
theorem okP_multiply : RowOk GG tabP r_multiply := ⟨k_multiply, scope_by (by kernel_rfl), rfl, rfl, fun _ _ _ _ _ _ us hl => match us, hl with | [_, _, _], _ => rfl⟩
theorem okP_plus : RowOk GG tabP r_plus := ⟨k_plus, scope_by (by kernel_rfl), rfl, rfl, fun _ _ _ _ _ _ us hl => match us, hl with | [_, _], _ => rfl⟩
theorem okP_times_circle : RowOk GG tabP r_times_circle := ⟨k_times, scope_by (by kernel_rfl), rfl, rfl, fun _ _ _ _ _ _ us hl => match us, hl with | [_, _], _ => rfl⟩
theorem okP_minus : RowOk GG tabP r_minus := ⟨k_minus, scope_by (by kernel_rfl), rfl, rfl, fun _ _ _ _ _ _ us hl => match us, hl with | [_, _], _ => rfl⟩
theorem okP__law_fraction : RowOk GG tabP r__law_fraction := ⟨k__law_fraction, scope_by (by kernel_rfl), rfl, rfl, fun _ _ _ _ _ _ us hl => match us, hl with | [_, _], _ => rfl⟩
theorem okP__law_plus : RowOk GG tabP r__law_plus := ⟨k__law_plus, scope_by (by kernel_rfl), rfl, rfl, fun _ _ _ _ _ _ us hl => match us, hl with | [_, _], _ => rfl⟩
theorem okP__law_times : RowOk GG tabP r__law_times := ⟨k__law_times, scope_by (by kernel_rfl), rfl, rfl, fun _ _ _ _ _ _ us hl => match us, hl with | [_, _], _ => rfl⟩
theorem okP__law_drawn : RowOk GG tabP r__law_drawn := ⟨k__law_drawn, scope_by (by kernel_rfl), rfl, rfl, fun _ _ _ _ _ _ us hl => match us, hl with | [_], _ => rfl⟩
theorem ok_common : RowOk GG tab r_common := ⟨k_common, okP_common.fsc, rfl, rfl, okP_common.bind⟩
theorem ok_divisor : RowOk GG tab r_divisor := ⟨k_divisor, okP_divisor.fsc, rfl, rfl, okP_divisor.bind⟩
theorem ok_is_prime : RowOk GG tab r_is_prime := ⟨k_is_prime, okP_is_prime.fsc, rfl, rfl, okP_is_prime.bind⟩
theorem ok_root : RowOk GG tab r_root := ⟨k_root, okP_root.fsc, rfl, rfl, okP_root.bind⟩
theorem ok_is_integer : RowOk GG tab r_is_integer := ⟨k_is_integer, okP_is_integer.fsc, rfl, rfl, okP_is_integer.bind⟩
theorem ok_is_domain : RowOk GG tab r_is_domain := ⟨k_is_domain, okP_is_domain.fsc, rfl, rfl, okP_is_domain.bind⟩
theorem ok_is_field : RowOk GG tab r_is_field := ⟨k_is_field, okP_is_field.fsc, rfl, rfl, okP_is_field.bind⟩
theorem ok_need_domain : RowOk GG tab r_need_domain := ⟨k_need_domain, okP_need_domain.fsc, rfl, rfl, okP_need_domain.bind⟩
theorem ok_need_field : RowOk GG tab r_need_field := ⟨k_need_field, okP_need_field.fsc, rfl, rfl, okP_need_field.bind⟩
theorem ok_is_element : RowOk GG tab r_is_element := ⟨k_is_element, okP_is_element.fsc, rfl, rfl, okP_is_element.bind⟩
theorem ok_belongs : RowOk GG tab r_belongs := ⟨k_belongs, okP_belongs.fsc, rfl, rfl, okP_belongs.bind⟩
theorem ok_zero : RowOk GG tab r_zero := ⟨k_zero, okP_zero.fsc, rfl, rfl, okP_zero.bind⟩
theorem ok_one : RowOk GG tab r_one := ⟨k_one, okP_one.fsc, rfl, rfl, okP_one.bind⟩
theorem ok_trimmed : RowOk GG tab r_trimmed := ⟨k_trimmed, okP_trimmed.fsc, rfl, rfl, okP_trimmed.bind⟩
theorem ok_negate : RowOk GG tab r_negate := ⟨k_negate, okP_negate.fsc, rfl, rfl, okP_negate.bind⟩
theorem ok_inverse : RowOk GG tab r_inverse := ⟨k_inverse, okP_inverse.fsc, rfl, rfl, okP_inverse.bind⟩
theorem ok_times : RowOk GG tab r_times := ⟨k_times_2, okP_times.fsc, rfl, rfl, okP_times.bind⟩
theorem ok_is_matrix : RowOk GG tab r_is_matrix := ⟨k_is_matrix, okP_is_matrix.fsc, rfl, rfl, okP_is_matrix.bind⟩
theorem ok_matrix : RowOk GG tab r_matrix := ⟨k_matrix, okP_matrix.fsc, rfl, rfl, okP_matrix.bind⟩
theorem ok_need_shape : RowOk GG tab r_need_shape := ⟨k_need_shape, okP_need_shape.fsc, rfl, rfl, okP_need_shape.bind⟩
theorem ok_identity : RowOk GG tab r_identity := ⟨k_identity, okP_identity.fsc, rfl, rfl, okP_identity.bind⟩
theorem ok_dot : RowOk GG tab r_dot := ⟨k_dot, okP_dot.fsc, rfl, rfl, okP_dot.bind⟩
theorem ok_times_matrices : RowOk GG tab r_times_matrices := ⟨k_times_2, okP_times_matrices.fsc, rfl, rfl, okP_times_matrices.bind⟩
theorem ok_transposed : RowOk GG tab r_transposed := ⟨k_transposed, okP_transposed.fsc, rfl, rfl, okP_transposed.bind⟩
theorem ok_applied : RowOk GG tab r_applied := ⟨k_applied, okP_applied.fsc, rfl, rfl, okP_applied.bind⟩
theorem ok_diagonal : RowOk GG tab r_diagonal := ⟨k_diagonal, okP_diagonal.fsc, rfl, rfl, okP_diagonal.bind⟩
theorem ok_add_row : RowOk GG tab r_add_row := ⟨k_add_row, okP_add_row.fsc, rfl, rfl, okP_add_row.bind⟩
theorem ok_eliminate : RowOk GG tab r_eliminate := ⟨k_eliminate, okP_eliminate.fsc, rfl, rfl, okP_eliminate.bind⟩
theorem ok_pivots_of : RowOk GG tab r_pivots_of := ⟨k_pivots_of, okP_pivots_of.fsc, rfl, rfl, okP_pivots_of.bind⟩
theorem ok_rank : RowOk GG tab r_rank := ⟨k_rank, okP_rank.fsc, rfl, rfl, okP_rank.bind⟩
theorem ok_kernel : RowOk GG tab r_kernel := ⟨k_kernel, okP_kernel.fsc, rfl, rfl, okP_kernel.bind⟩
theorem ok_form_word : RowOk GG tab r_form_word := ⟨k_form_word, okP_form_word.fsc, rfl, rfl, okP_form_word.bind⟩
theorem ok_clear_below : RowOk GG tab r_clear_below := ⟨k_clear_below, okP_clear_below.fsc, rfl, rfl, okP_clear_below.bind⟩
theorem ok_add_line : RowOk GG tab r_add_line := ⟨k_add_line, okP_add_line.fsc, rfl, rfl, okP_add_line.bind⟩
theorem ok_numbers_in : RowOk GG tab r_numbers_in := ⟨k_numbers_in, okP_numbers_in.fsc, rfl, rfl, okP_numbers_in.bind⟩
theorem ok_is_vector : RowOk GG tab r_is_vector := ⟨k_is_vector, okP_is_vector.fsc, rfl, rfl, okP_is_vector.bind⟩
theorem ok_is_nothing : RowOk GG tab r_is_nothing := ⟨k_is_nothing, okP_is_nothing.fsc, rfl, rfl, okP_is_nothing.bind⟩
theorem ok_diagonal_form : RowOk GG tab r_diagonal_form := ⟨k_diagonal_form, okP_diagonal_form.fsc, rfl, rfl, okP_diagonal_form.bind⟩
theorem ok_parted : RowOk GG tab r_parted := ⟨k_parted, okP_parted.fsc, rfl, rfl, okP_parted.bind⟩
theorem ok_power_modulo : RowOk GG tab r_power_modulo := ⟨k_power_modulo, okP_power_modulo.fsc, rfl, rfl, okP_power_modulo.bind⟩
theorem ok_residue_sign : RowOk GG tab r_residue_sign := ⟨k_residue_sign, okP_residue_sign.fsc, rfl, rfl, okP_residue_sign.bind⟩
theorem ok_symbol : RowOk GG tab r_symbol := ⟨k_symbol, okP_symbol.fsc, rfl, rfl, okP_symbol.bind⟩
theorem ok_square_at : RowOk GG tab r_square_at := ⟨k_square_at, okP_square_at.fsc, rfl, rfl, okP_square_at.bind⟩
theorem ok_product_of : RowOk GG tab r_product_of := ⟨k_product_of, okP_product_of.fsc, rfl, rfl, okP_product_of.bind⟩
theorem ok_negative : RowOk GG tab r_negative := ⟨k_negative, okP_negative.fsc, rfl, rfl, okP_negative.bind⟩
theorem ok_symbols_of : RowOk GG tab r_symbols_of := ⟨k_symbols_of, okP_symbols_of.fsc, rfl, rfl, okP_symbols_of.bind⟩
theorem ok_zero_at_prime : RowOk GG tab r_zero_at_prime := ⟨k_zero_at_prime, okP_zero_at_prime.fsc, rfl, rfl, okP_zero_at_prime.bind⟩
theorem ok_zero_at : RowOk GG tab r_zero_at := ⟨k_zero_at, okP_zero_at.fsc, rfl, rfl, okP_zero_at.bind⟩
theorem ok_value_at : RowOk GG tab r_value_at := ⟨k_value_at, okP_value_at.fsc, rfl, rfl, okP_value_at.bind⟩
theorem ok_prime_factors : RowOk GG tab r_prime_factors := ⟨k_prime_factors, okP_prime_factors.fsc, rfl, rfl, okP_prime_factors.bind⟩
theorem ok_square_part : RowOk GG tab r_square_part := ⟨k_square_part, okP_square_part.fsc, rfl, rfl, okP_square_part.bind⟩
theorem ok_places_of : RowOk GG tab r_places_of := ⟨k_places_of, okP_places_of.fsc, rfl, rfl, okP_places_of.bind⟩
theorem ok_square_root : RowOk GG tab r_square_root := ⟨k_square_root, okP_square_root.fsc, rfl, rfl, okP_square_root.bind⟩
theorem ok_of_two : RowOk GG tab r_of_two := ⟨k_of_two, okP_of_two.fsc, rfl, rfl, okP_of_two.bind⟩
theorem ok_of_three : RowOk GG tab r_of_three := ⟨k_of_three, okP_of_three.fsc, rfl, rfl, okP_of_three.bind⟩
theorem ok_apart : RowOk GG tab r_apart := ⟨k_apart, okP_apart.fsc, rfl, rfl, okP_apart.bind⟩
theorem ok_common_divisor : RowOk GG tab r_common_divisor := ⟨k_common_divisor, okP_common_divisor.fsc, rfl, rfl, okP_common_divisor.bind⟩
theorem ok_small_zero : RowOk GG tab r_small_zero := ⟨k_small_zero, okP_small_zero.fsc, rfl, rfl, okP_small_zero.bind⟩
theorem ok_middles : RowOk GG tab r_middles := ⟨k_middles, okP_middles.fsc, rfl, rfl, okP_middles.bind⟩
theorem ok_has_zero : RowOk GG tab r_has_zero := ⟨k_has_zero, okP_has_zero.fsc, rfl, rfl, okP_has_zero.bind⟩
theorem ok_of_four : RowOk GG tab r_of_four := ⟨k_of_four, okP_of_four.fsc, rfl, rfl, okP_of_four.bind⟩
theorem ok_back_to_four : RowOk GG tab r_back_to_four := ⟨k_back_to_four, okP_back_to_four.fsc, rfl, rfl, okP_back_to_four.bind⟩
theorem ok_zero_of_diagonal : RowOk GG tab r_zero_of_diagonal := ⟨k_zero_of_diagonal, okP_zero_of_diagonal.fsc, rfl, rfl, okP_zero_of_diagonal.bind⟩
theorem ok_first_bad_place : RowOk GG tab r_first_bad_place := ⟨k_first_bad_place, okP_first_bad_place.fsc, rfl, rfl, okP_first_bad_place.bind⟩
theorem ok_need_short : RowOk GG tab r_need_short := ⟨k_need_short, okP_need_short.fsc, rfl, rfl, okP_need_short.bind⟩
theorem ok_zero_paper : RowOk GG tab r_zero_paper := ⟨k_zero_paper, okP_zero_paper.fsc, rfl, rfl, okP_zero_paper.bind⟩
theorem ok_is_place : RowOk GG tab r_is_place := ⟨k_is_place, okP_is_place.fsc, rfl, rfl, okP_is_place.bind⟩
theorem ok_judge_zero_of : RowOk GG tab r_judge_zero_of := ⟨k_judge_zero_of, okP_judge_zero_of.fsc, rfl, rfl, okP_judge_zero_of.bind⟩
theorem ok_above : RowOk GG tab r_above := ⟨k_above, okP_above.fsc, rfl, rfl, okP_above.bind⟩
theorem ok_turned : RowOk GG tab r_turned := ⟨k_turned, okP_turned.fsc, rfl, rfl, okP_turned.bind⟩
theorem ok_judge_equivalence : RowOk GG tab r_judge_equivalence := ⟨k_judge_equivalence, okP_judge_equivalence.fsc, rfl, rfl, okP_judge_equivalence.bind⟩
theorem ok__law_divisor : RowOk GG tab r__law_divisor := ⟨k__law_divisor, okP__law_divisor.fsc, rfl, rfl, okP__law_divisor.bind⟩
theorem ok__law_product : RowOk GG tab r__law_product := ⟨k__law_product, okP__law_product.fsc, rfl, rfl, okP__law_product.bind⟩
theorem ok__law_matrix : RowOk GG tab r__law_matrix := ⟨k__law_matrix, okP__law_matrix.fsc, rfl, rfl, okP__law_matrix.bind⟩
theorem ok__law_multiplied : RowOk GG tab r__law_multiplied := ⟨k__law_multiplied, okP__law_multiplied.fsc, rfl, rfl, okP__law_multiplied.bind⟩
theorem ok__law_sums : RowOk GG tab r__law_sums := ⟨k__law_sums, okP__law_sums.fsc, rfl, rfl, okP__law_sums.bind⟩
theorem ok__law_counts : RowOk GG tab r__law_counts := ⟨k__law_counts, okP__law_counts.fsc, rfl, rfl, okP__law_counts.bind⟩
end
end Zk84

set_option Elab.async false
set_option linter.all false
set_option maxRecDepth 1000000
set_option maxHeartbeats 0
namespace Zk84
open PySem Zev L2

noncomputable def σ0 : Zev.Loc := none :: some (.ref 0) :: List.replicate 19 none
def Pe (e : Dr) : Prop := denT (.tp t_law) (callN tab 30) (.ref 2) σ0 (stE e) (fun σ s => c_law2 (callN tab 30) σ s ksTrue) = true
theorem drawn_run : callN tabP 6 f__law_drawn [.ref 0] s01 (kMem tbl) = true := by kernel_rfl
end Zk84

set_option Elab.async false
set_option linter.all false
set_option maxRecDepth 1000000
set_option maxHeartbeats 0
namespace Zk84
open PySem Zev L2

theorem q_0 : Pe ([-8, -4, -2, 1, 1], 2, 1) := by
  show _ = true
  kernel_rfl
theorem q_4 : Pe ([-4, -4, 1, 1], 3, 0) := by
  show _ = true
  kernel_rfl
theorem q_8 : Pe ([-4, 0, 1, 2, 1], 2, 1) := by
  show _ = true
  kernel_rfl
theorem q_12 : Pe ([-2, -1, -1, -1, 1], 2, 1) := by
  show _ = true
  kernel_rfl
theorem q_16 : Pe ([-2, 1], 1, 0) := by
  show _ = true
  kernel_rfl
theorem q_20 : Pe ([-2, 1, 1], 2, 0) := by
  show _ = true
  kernel_rfl
theorem q_24 : Pe ([-1, 0, 1], 2, 0) := by
  show _ = true
  kernel_rfl
theorem q_28 : Pe ([0, -4, 0, -1, 1], 2, 1) := by
  show _ = true
  kernel_rfl
theorem q_32 : Pe ([0, -2, 1, -2, 1], 2, 1) := by
  show _ = true
  kernel_rfl
theorem q_36 : Pe ([0, -1, 1], 2, 0) := by
  show _ = true
  kernel_rfl
theorem q_40 : Pe ([0, 0, 0, 1], 1, 0) := by
  show _ = true
  kernel_rfl
theorem q_44 : Pe ([0, 0, 2, 1], 2, 0) := by
  show _ = true
  kernel_rfl
theorem q_48 : Pe ([0, 1, 0, 1], 1, 1) := by
  show _ = true
  kernel_rfl
theorem q_52 : Pe ([0, 2, -3, 1], 3, 0) := by
  show _ = true
  kernel_rfl
theorem q_56 : Pe ([0, 2, 3, 1], 3, 0) := by
  show _ = true
  kernel_rfl
theorem q_60 : Pe ([0, 4, 4, 3, 1], 2, 1) := by
  show _ = true
  kernel_rfl
theorem q_64 : Pe ([1, 0, 1], 0, 1) := by
  show _ = true
  kernel_rfl
theorem q_68 : Pe ([1, 2, 1], 1, 0) := by
  show _ = true
  kernel_rfl
theorem q_72 : Pe ([2, -3, 1], 2, 0) := by
  show _ = true
  kernel_rfl
theorem q_76 : Pe ([2, 1], 1, 0) := by
  show _ = true
  kernel_rfl
theorem q_80 : Pe ([2, 3, 1], 2, 0) := by
  show _ = true
  kernel_rfl
theorem q_84 : Pe ([2, 5, 5, 3, 1], 1, 1) := by
  show _ = true
  kernel_rfl
theorem q_88 : Pe ([4, -4, 5, -4, 1], 1, 1) := by
  show _ = true
  kernel_rfl
theorem q_92 : Pe ([4, 4, 5, 2, 1], 0, 1) := by
  show _ = true
  kernel_rfl
theorem q_96 : Pe ([8, -4, -2, 1], 2, 0) := by
  show _ = true
  kernel_rfl
end Zk84

set_option Elab.async false
set_option linter.all false
set_option maxRecDepth 1000000
set_option maxHeartbeats 0
namespace Zk84
open PySem Zev L2

theorem q_1 : Pe ([-8, -4, 2, 1], 2, 0) := by
  show _ = true
  kernel_rfl
theorem q_5 : Pe ([-4, 0, -3, 0, 1], 2, 1) := by
  show _ = true
  kernel_rfl
theorem q_9 : Pe ([-4, 0, 3, 1], 2, 0) := by
  show _ = true
  kernel_rfl
theorem q_13 : Pe ([-2, -1, 1], 2, 0) := by
  show _ = true
  kernel_rfl
theorem q_17 : Pe ([-2, 1, -2, 1], 1, 1) := by
  show _ = true
  kernel_rfl
theorem q_21 : Pe ([-2, 5, -4, 1], 2, 0) := by
  show _ = true
  kernel_rfl
theorem q_25 : Pe ([-1, 1], 1, 0) := by
  show _ = true
  kernel_rfl
theorem q_29 : Pe ([0, -4, 0, 1], 3, 0) := by
  show _ = true
  kernel_rfl
theorem q_33 : Pe ([0, -2, 1, 0, 1], 2, 1) := by
  show _ = true
  kernel_rfl
theorem q_37 : Pe ([0, -1, 1, -1, 1], 2, 1) := by
  show _ = true
  kernel_rfl
theorem q_41 : Pe ([0, 0, 1], 1, 0) := by
  show _ = true
  kernel_rfl
theorem q_45 : Pe ([0, 0, 2, 1, 1], 1, 1) := by
  show _ = true
  kernel_rfl
theorem q_49 : Pe ([0, 1, 1], 2, 0) := by
  show _ = true
  kernel_rfl
theorem q_53 : Pe ([0, 2, 1], 2, 0) := by
  show _ = true
  kernel_rfl
theorem q_57 : Pe ([0, 2, 3, 2, 1], 2, 1) := by
  show _ = true
  kernel_rfl
theorem q_61 : Pe ([1, -2, 1], 1, 0) := by
  show _ = true
  kernel_rfl
theorem q_65 : Pe ([1, 0, 2, 0, 1], 0, 1) := by
  show _ = true
  kernel_rfl
theorem q_69 : Pe ([1, 2, 2, 2, 1], 1, 1) := by
  show _ = true
  kernel_rfl
theorem q_73 : Pe ([2, -3, 1, -1, 1], 1, 1) := by
  show _ = true
  kernel_rfl
theorem q_77 : Pe ([2, 1, 1], 0, 1) := by
  show _ = true
  kernel_rfl
theorem q_81 : Pe ([2, 3, 2, 1], 1, 1) := by
  show _ = true
  kernel_rfl
theorem q_85 : Pe ([4, -4, -1, 1], 3, 0) := by
  show _ = true
  kernel_rfl
theorem q_89 : Pe ([4, 0, -3, 1], 2, 0) := by
  show _ = true
  kernel_rfl
theorem q_93 : Pe ([4, 4, 5, 4, 1], 1, 1) := by
  show _ = true
  kernel_rfl
theorem q_97 : Pe ([8, -4, 2, -3, 1], 1, 1) := by
  show _ = true
  kernel_rfl
end Zk84

set_option Elab.async false
set_option linter.all false
set_option maxRecDepth 1000000
set_option maxHeartbeats 0
namespace Zk84
open PySem Zev L2

theorem q_2 : Pe ([-8, 12, -6, 1], 1, 0) := by
  show _ = true
  kernel_rfl
theorem q_6 : Pe ([-4, 0, -1, 1], 1, 1) := by
  show _ = true
  kernel_rfl
theorem q_10 : Pe ([-4, 8, -5, 1], 2, 0) := by
  show _ = true
  kernel_rfl
theorem q_14 : Pe ([-2, -1, 1, 1, 1], 2, 1) := by
  show _ = true
  kernel_rfl
theorem q_18 : Pe ([-2, 1, -1, 1, 1], 2, 1) := by
  show _ = true
  kernel_rfl
theorem q_22 : Pe ([-1, -1, 1, 1], 2, 0) := by
  show _ = true
  kernel_rfl
theorem q_26 : Pe ([-1, 1, -1, 1], 1, 1) := by
  show _ = true
  kernel_rfl
theorem q_30 : Pe ([0, -2, -1, 1], 3, 0) := by
  show _ = true
  kernel_rfl
theorem q_34 : Pe ([0, -2, 1, 1], 3, 0) := by
  show _ = true
  kernel_rfl
theorem q_38 : Pe ([0, 0, -2, 1], 2, 0) := by
  show _ = true
  kernel_rfl
theorem q_42 : Pe ([0, 0, 1, 0, 1], 1, 1) := by
  show _ = true
  kernel_rfl
theorem q_46 : Pe ([0, 1], 1, 0) := by
  show _ = true
  kernel_rfl
theorem q_50 : Pe ([0, 1, 1, 1, 1], 2, 1) := by
  show _ = true
  kernel_rfl
theorem q_54 : Pe ([0, 2, 1, 1], 1, 1) := by
  show _ = true
  kernel_rfl
theorem q_58 : Pe ([0, 4, -4, 1], 2, 0) := by
  show _ = true
  kernel_rfl
theorem q_62 : Pe ([1, -2, 2, -2, 1], 1, 1) := by
  show _ = true
  kernel_rfl
theorem q_66 : Pe ([1, 1], 1, 0) := by
  show _ = true
  kernel_rfl
theorem q_70 : Pe ([1, 3, 3, 1], 1, 0) := by
  show _ = true
  kernel_rfl
theorem q_74 : Pe ([2, -3, 3, -3, 1], 2, 1) := by
  show _ = true
  kernel_rfl
theorem q_78 : Pe ([2, 1, 2, 1], 1, 1) := by
  show _ = true
  kernel_rfl
theorem q_82 : Pe ([2, 3, 3, 3, 1], 2, 1) := by
  show _ = true
  kernel_rfl
theorem q_86 : Pe ([4, -4, 1], 1, 0) := by
  show _ = true
  kernel_rfl
theorem q_90 : Pe ([4, 4, 1], 1, 0) := by
  show _ = true
  kernel_rfl
theorem q_94 : Pe ([4, 8, 5, 1], 2, 0) := by
  show _ = true
  kernel_rfl
theorem q_98 : Pe ([8, 12, 6, 1], 1, 0) := by
  show _ = true
  kernel_rfl
end Zk84

set_option Elab.async false
set_option linter.all false
set_option maxRecDepth 1000000
set_option maxHeartbeats 0
namespace Zk84
open PySem Zev L2

theorem q_3 : Pe ([-4, -4, -1, 0, 1], 2, 1) := by
  show _ = true
  kernel_rfl
theorem q_7 : Pe ([-4, 0, 1], 2, 0) := by
  show _ = true
  kernel_rfl
theorem q_11 : Pe ([-2, -3, 0, 1], 2, 0) := by
  show _ = true
  kernel_rfl
theorem q_15 : Pe ([-2, -1, 2, 1], 3, 0) := by
  show _ = true
  kernel_rfl
theorem q_19 : Pe ([-2, 1, 0, 1], 1, 1) := by
  show _ = true
  kernel_rfl
theorem q_23 : Pe ([-1, 0, 0, 0, 1], 2, 1) := by
  show _ = true
  kernel_rfl
theorem q_27 : Pe ([-1, 3, -3, 1], 1, 0) := by
  show _ = true
  kernel_rfl
theorem q_31 : Pe ([0, -2, 1], 2, 0) := by
  show _ = true
  kernel_rfl
theorem q_35 : Pe ([0, -1, 0, 1], 3, 0) := by
  show _ = true
  kernel_rfl
theorem q_39 : Pe ([0, 0, -1, 1], 2, 0) := by
  show _ = true
  kernel_rfl
theorem q_43 : Pe ([0, 0, 1, 1], 2, 0) := by
  show _ = true
  kernel_rfl
theorem q_47 : Pe ([0, 1, -2, 1], 2, 0) := by
  show _ = true
  kernel_rfl
theorem q_51 : Pe ([0, 1, 2, 1], 2, 0) := by
  show _ = true
  kernel_rfl
theorem q_55 : Pe ([0, 2, 1, 2, 1], 2, 1) := by
  show _ = true
  kernel_rfl
theorem q_59 : Pe ([0, 4, 4, 1], 2, 0) := by
  show _ = true
  kernel_rfl
theorem q_63 : Pe ([1, -1, -1, 1], 2, 0) := by
  show _ = true
  kernel_rfl
theorem q_67 : Pe ([1, 1, 1, 1], 1, 1) := by
  show _ = true
  kernel_rfl
theorem q_71 : Pe ([2, -3, 0, 1], 2, 0) := by
  show _ = true
  kernel_rfl
theorem q_75 : Pe ([2, -1, -2, 1], 3, 0) := by
  show _ = true
  kernel_rfl
theorem q_79 : Pe ([2, 1, 3, 1, 1], 0, 2) := by
  show _ = true
  kernel_rfl
theorem q_83 : Pe ([2, 5, 4, 1], 2, 0) := by
  show _ = true
  kernel_rfl
theorem q_87 : Pe ([4, -4, 1, -2, 1], 2, 1) := by
  show _ = true
  kernel_rfl
theorem q_91 : Pe ([4, 4, 3, 1], 1, 1) := by
  show _ = true
  kernel_rfl
theorem q_95 : Pe ([4, 8, 7, 4, 1], 2, 1) := by
  show _ = true
  kernel_rfl
theorem q_99 : Pe ([8, 12, 10, 5, 1], 1, 1) := by
  show _ = true
  kernel_rfl
end Zk84

set_option Elab.async false
set_option linter.all false
set_option maxRecDepth 1000000
set_option maxHeartbeats 0
/-! Fin_k84: the last assembly, printed by mkfin.py. -/
namespace Zev
theorem AllR.cons {α : Type} {P : α → Prop} {r : α} {rs : List α} (h : P r) (t : AllR P rs) : AllR P (r :: rs) := ⟨h, t⟩
theorem AllR.nil {α : Type} {P : α → Prop} : AllR P [] := trivial
theorem AllR.append {α : Type} {P : α → Prop} : ∀ {l r : List α}, AllR P l → AllR P r → AllR P (l ++ r)
  | [], _, _, t => t
  | _ :: _, _, h, t => ⟨h.1, AllR.append h.2 t⟩
theorem AllR.imp {α : Type} {P Q : α → Prop} (f : ∀ a, P a → Q a) : ∀ {l : List α}, AllR P l → AllR Q l
  | [], _ => trivial
  | _ :: _, h => ⟨f _ h.1, AllR.imp f h.2⟩
end Zev
namespace Zk84
open PySem PySem.Spec PyProof.Rows Zev L2
noncomputable section
def natsB : List RowD := [r_fraction, r_add, r_multiply, r_plus, r_times_circle, r_minus, r__law_fraction, r__law_plus, r__law_times, r__law_drawn]
theorem rowsNat_eq : rowsNat = natsB ++ [r__law_take] := rfl
theorem allP_0 : AllR (RowOk GG tabP) rowsPy_0 := (.cons okP_common (.cons okP_divisor (.cons okP_is_prime (.cons okP_root (.cons okP_is_integer (.cons okP_is_domain (.cons okP_is_field (.cons okP_need_domain (.cons okP_need_field (.cons okP_is_element (.cons okP_belongs (.cons okP_zero (.cons okP_one (.cons okP_trimmed (.cons okP_negate (.cons okP_inverse (.cons okP_times (.cons okP_is_matrix (.cons okP_matrix (.cons okP_need_shape (.cons okP_identity (.cons okP_dot (.cons okP_times_matrices (.cons okP_transposed (.cons okP_applied (.cons okP_diagonal (.cons okP_add_row (.cons okP_eliminate (.cons okP_pivots_of (.cons okP_rank .nil))))))))))))))))))))))))))))))
theorem allP_1 : AllR (RowOk GG tabP) rowsPy_1 := (.cons okP_kernel (.cons okP_form_word (.cons okP_clear_below (.cons okP_add_line (.cons okP_numbers_in (.cons okP_is_vector (.cons okP_is_nothing (.cons okP_diagonal_form (.cons okP_parted (.cons okP_power_modulo (.cons okP_residue_sign (.cons okP_symbol (.cons okP_square_at (.cons okP_product_of (.cons okP_negative (.cons okP_symbols_of (.cons okP_zero_at_prime (.cons okP_zero_at (.cons okP_value_at (.cons okP_prime_factors (.cons okP_square_part (.cons okP_places_of (.cons okP_square_root (.cons okP_of_two (.cons okP_of_three (.cons okP_apart (.cons okP_common_divisor (.cons okP_small_zero (.cons okP_middles (.cons okP_has_zero .nil))))))))))))))))))))))))))))))
theorem allP_2 : AllR (RowOk GG tabP) rowsPy_2 := (.cons okP_of_four (.cons okP_back_to_four (.cons okP_zero_of_diagonal (.cons okP_first_bad_place (.cons okP_need_short (.cons okP_zero_paper (.cons okP_is_place (.cons okP_judge_zero_of (.cons okP_above (.cons okP_turned (.cons okP_judge_equivalence (.cons okP__law_divisor (.cons okP__law_product (.cons okP__law_matrix (.cons okP__law_multiplied (.cons okP__law_sums (.cons okP__law_counts .nil)))))))))))))))))
theorem allP : AllR (RowOk GG tabP) rowsPy := (AllR.append (AllR.append allP_0 allP_1) allP_2)
theorem allT_0 : AllR (RowOk GG tab) rowsPy_0 := (.cons ok_common (.cons ok_divisor (.cons ok_is_prime (.cons ok_root (.cons ok_is_integer (.cons ok_is_domain (.cons ok_is_field (.cons ok_need_domain (.cons ok_need_field (.cons ok_is_element (.cons ok_belongs (.cons ok_zero (.cons ok_one (.cons ok_trimmed (.cons ok_negate (.cons ok_inverse (.cons ok_times (.cons ok_is_matrix (.cons ok_matrix (.cons ok_need_shape (.cons ok_identity (.cons ok_dot (.cons ok_times_matrices (.cons ok_transposed (.cons ok_applied (.cons ok_diagonal (.cons ok_add_row (.cons ok_eliminate (.cons ok_pivots_of (.cons ok_rank .nil))))))))))))))))))))))))))))))
theorem allT_1 : AllR (RowOk GG tab) rowsPy_1 := (.cons ok_kernel (.cons ok_form_word (.cons ok_clear_below (.cons ok_add_line (.cons ok_numbers_in (.cons ok_is_vector (.cons ok_is_nothing (.cons ok_diagonal_form (.cons ok_parted (.cons ok_power_modulo (.cons ok_residue_sign (.cons ok_symbol (.cons ok_square_at (.cons ok_product_of (.cons ok_negative (.cons ok_symbols_of (.cons ok_zero_at_prime (.cons ok_zero_at (.cons ok_value_at (.cons ok_prime_factors (.cons ok_square_part (.cons ok_places_of (.cons ok_square_root (.cons ok_of_two (.cons ok_of_three (.cons ok_apart (.cons ok_common_divisor (.cons ok_small_zero (.cons ok_middles (.cons ok_has_zero .nil))))))))))))))))))))))))))))))
theorem allT_2 : AllR (RowOk GG tab) rowsPy_2 := (.cons ok_of_four (.cons ok_back_to_four (.cons ok_zero_of_diagonal (.cons ok_first_bad_place (.cons ok_need_short (.cons ok_zero_paper (.cons ok_is_place (.cons ok_judge_zero_of (.cons ok_above (.cons ok_turned (.cons ok_judge_equivalence (.cons ok__law_divisor (.cons ok__law_product (.cons ok__law_matrix (.cons ok__law_multiplied (.cons ok__law_sums (.cons ok__law_counts .nil)))))))))))))))))
theorem allT : AllR (RowOk GG tab) rowsPy := (AllR.append (AllR.append allT_0 allT_1) allT_2)
theorem allB : AllR (RowOk GG tabP) natsB := (.cons okP_fraction (.cons okP_add (.cons okP_multiply (.cons okP_plus (.cons okP_times_circle (.cons okP_minus (.cons okP__law_fraction (.cons okP__law_plus (.cons okP__law_times (.cons okP__law_drawn .nil))))))))))
theorem allQ_0 : AllR (Pe) tbl_0 := (.cons q_0 (.cons q_1 (.cons q_2 (.cons q_3 (.cons q_4 (.cons q_5 (.cons q_6 (.cons q_7 (.cons q_8 (.cons q_9 (.cons q_10 (.cons q_11 (.cons q_12 (.cons q_13 (.cons q_14 (.cons q_15 (.cons q_16 (.cons q_17 (.cons q_18 (.cons q_19 (.cons q_20 (.cons q_21 (.cons q_22 (.cons q_23 (.cons q_24 .nil)))))))))))))))))))))))))
theorem allQ_1 : AllR (Pe) tbl_1 := (.cons q_25 (.cons q_26 (.cons q_27 (.cons q_28 (.cons q_29 (.cons q_30 (.cons q_31 (.cons q_32 (.cons q_33 (.cons q_34 (.cons q_35 (.cons q_36 (.cons q_37 (.cons q_38 (.cons q_39 (.cons q_40 (.cons q_41 (.cons q_42 (.cons q_43 (.cons q_44 (.cons q_45 (.cons q_46 (.cons q_47 (.cons q_48 (.cons q_49 .nil)))))))))))))))))))))))))
theorem allQ_2 : AllR (Pe) tbl_2 := (.cons q_50 (.cons q_51 (.cons q_52 (.cons q_53 (.cons q_54 (.cons q_55 (.cons q_56 (.cons q_57 (.cons q_58 (.cons q_59 (.cons q_60 (.cons q_61 (.cons q_62 (.cons q_63 (.cons q_64 (.cons q_65 (.cons q_66 (.cons q_67 (.cons q_68 (.cons q_69 (.cons q_70 (.cons q_71 (.cons q_72 (.cons q_73 (.cons q_74 .nil)))))))))))))))))))))))))
theorem allQ_3 : AllR (Pe) tbl_3 := (.cons q_75 (.cons q_76 (.cons q_77 (.cons q_78 (.cons q_79 (.cons q_80 (.cons q_81 (.cons q_82 (.cons q_83 (.cons q_84 (.cons q_85 (.cons q_86 (.cons q_87 (.cons q_88 (.cons q_89 (.cons q_90 (.cons q_91 (.cons q_92 (.cons q_93 (.cons q_94 (.cons q_95 (.cons q_96 (.cons q_97 (.cons q_98 (.cons q_99 .nil)))))))))))))))))))))))))
theorem allQ : AllR (Pe) tbl := (AllR.append (AllR.append (AllR.append allQ_0 allQ_1) allQ_2) allQ_3)
theorem csts_ok : AllR (fun q : CstF => q.ok = true ∧ q.fa ∈ fa ∧ ∀ t ∈ q.ts, t ∈ tsD) csts := by
  have A : ∀ q ∈ csts, q.ok = true ∧ q.fa ∈ fa ∧ ∀ t ∈ q.ts, t ∈ tsD := fun q m => ⟨List.all_eq_true.mp (show csts.all CstF.ok = true by kernel_rfl) q m, List.mem_append_right _ (List.mem_append_right _ (List.mem_append_right _ (List.mem_map_of_mem m))), fun t mt => List.mem_flatMap.mpr ⟨q, m, mt⟩⟩
  have B : ∀ {l : List CstF}, (∀ q ∈ l, q.ok = true ∧ q.fa ∈ fa ∧ ∀ t ∈ q.ts, t ∈ tsD) → AllR (fun q : CstF => q.ok = true ∧ q.fa ∈ fa ∧ ∀ t ∈ q.ts, t ∈ tsD) l := by
    intro l
    induction l with
    | nil => exact fun _ => trivial
    | cons a r ih => exact fun h => ⟨h a List.mem_cons_self, ih fun q m => h q (List.mem_cons_of_mem _ m)⟩
  exact B A
theorem fr_mem : ∀ x ∈ gFree, He.Fa.free x ∈ fa := fun x m => List.mem_append_right _ (List.mem_append_right _ (List.mem_append_left _ (List.mem_map_of_mem m)))
theorem cl_mem : ∀ x ∈ GG.cls, He.Fa.glo x ∈ fa := fun x m => by
  rw [List.mem_singleton.mp (show x ∈ [Str.ofString "LimitError"] from m)]
  exact List.mem_append_right _ (List.mem_append_left _ (List.mem_of_getElem? (i := 3) rfl))
theorem glo_mem : ∀ r ∈ rowsPy ++ rowsNat, He.Fa.glo r.nm ∈ fa := fun r m => List.mem_append_left _ (List.mem_map.mpr ⟨r, m, rfl⟩)
theorem dd_mem : ∀ r ∈ rowsPy ++ rowsNat, r.dd ∈ fnD := fun r m => List.mem_append_left _ (List.mem_map_of_mem m)
theorem take_mem : r__law_take ∈ rowsPy ++ rowsNat := List.mem_append_right _ (by rw [rowsNat_eq]; exact List.mem_append_right _ List.mem_cons_self)
def r_fillT : RowD := ⟨Str.ofString "_law_fill", Str.ofString "_law_fill", 0, 1, 1, topS 102, [Str.ofString "c", Str.ofString "number"], Zev.i_fill⟩
def r_takeT : RowD := ⟨Str.ofString "_law_take", Str.ofString "_law_take", 1, 2, 1, topS 103, n__law_take, Zev.i_take⟩
def GTd : Gb := ⟨[], [(Str.ofString "_law_fill", (0, 1)), (Str.ofString "_law_take", (1, 2))], gFree, []⟩
theorem okT_fill : RowOk GTd Td r_fillT := ⟨by kernel_rfl, scope_by (by kernel_rfl), rfl, rfl, fun _ _ _ _ _ _ us hl => match us, hl with | [_], _ => rfl⟩
theorem okT_take : RowOk GTd Td r_takeT := ⟨by kernel_rfl, scope_by (by kernel_rfl), rfl, rfl, fun _ _ _ _ _ _ us hl => match us, hl with | [_, _], _ => rfl⟩
section
variable {P : Program} {w : World} {K : PySem.W.Frag} {mg : Str → Option Value} {base h : Heap}
theorem w_td (X : K.In h) (N : h.Ns mainGlobals mg) (s : SaysX fa fnD tsD K) : Wd P w K mg base GTd Td 1 := by
  refine wd_of (rows := [r_fillT, r_takeT]) (nats := []) (csts := []) X N s rfl rfl fr_mem (fun x m => by cases m) .nil (fun r m => ?_) (fun r m => ?_) (.cons okT_fill (.cons okT_take .nil)) .nil
  · rcases List.mem_cons.mp m with e | m
    · rw [e]; exact List.mem_append_right _ (List.mem_append_left _ (List.mem_of_getElem? (i := 1) rfl))
    · rw [List.mem_singleton.mp m]; exact glo_mem r__law_take take_mem
  · rcases List.mem_cons.mp m with e | m
    · rw [e]; exact List.mem_append_right _ (List.mem_of_getElem? (i := 2) rfl)
    · rw [List.mem_singleton.mp m]; exact dd_mem r__law_take take_mem
theorem take_ok' (X : K.In h) (N : h.Ns mainGlobals mg) (s : SaysX fa fnD tsD K) {f : Addr} {fd : FuncData} (F : FunD K r__law_take.name r__law_take.name (defArgs r__law_take.st) (defBody r__law_take.st) (defScope r__law_take.st) [] [] f fd) :
    FnOk P w K mg base CX0 3 f fd r__law_take.ps (spNat K natTake 2) := by
  have W : Wd P w K mg base GTd Td 1 := w_td X N s
  exact (row_fn (n := 1) W (level W 1) okT_take F).imp fun vs H Q E q => take_fn q
theorem take_bind : ∀ (kV doc pm : Value) (an : Option Addr) (cdv ct : Value) (us : List Value), us.length = r__law_take.ps.length → bindArgs (PySem.W.fnOf r__law_take.name r__law_take.name (defArgs r__law_take.st) (defBody r__law_take.st) (defScope r__law_take.st) .none kV doc pm an cdv ct) ⟨us, []⟩ = pure (r__law_take.ps.zip us) := okT_take.bind
theorem w_p (X : K.In h) (N : h.Ns mainGlobals mg) (s : SaysX fa fnD tsD K) : Wd P w K mg base GG tabP 3 := by
  have e : rowsPy ++ rowsNat = (rowsPy ++ natsB) ++ [r__law_take] := by rw [rowsNat_eq, List.append_assoc]
  refine wd_of (rows := rowsPy ++ natsB) (nats := [r__law_take]) (csts := csts) X N s (by rfl) (by rw [← e]; rfl) fr_mem cl_mem csts_ok (by rw [← e]; exact glo_mem) (by rw [← e]; exact dd_mem) (AllR.append allP allB) (.cons ⟨rfl, take_bind, natTake, rfl, fun f fd _ F => take_ok' X N s F⟩ .nil)
theorem w_t (X : K.In h) (N : h.Ns mainGlobals mg) (s : SaysX fa fnD tsD K) : Wd P w K mg base GG tab 9 := by
  have WP : Wd P w K mg base GG tabP 3 := w_p X N s
  refine wd_of (rows := rowsPy) (nats := rowsNat) (csts := csts) X N s (by rfl) (by rfl) fr_mem cl_mem csts_ok glo_mem dd_mem allT ?_
  rw [rowsNat_eq]
  exact (.cons 
    ⟨okP_fraction.plen, okP_fraction.bind, nFrac, rfl, fun f fd _ F => (row_fn (n := 5) WP (level WP 5) okP_fraction F).imp fun vs H Q E q => nat_glue (nFrac_ok (n := 4) rfl rfl) q⟩ (.cons 
    ⟨okP_add.plen, okP_add.bind, nAdd, rfl, fun f fd _ F => (row_fn (n := 5) WP (level WP 5) okP_add F).imp fun vs H Q E q => nat_glue (nAdd_ok (n := 5) (fr_tab (n := 3) rfl rfl) rfl) q⟩ (.cons 
    ⟨okP_multiply.plen, okP_multiply.bind, nMul, rfl, fun f fd _ F => (row_fn (n := 5) WP (level WP 5) okP_multiply F).imp fun vs H Q E q => nat_glue (nMul_ok (n := 5) (fr_tab (n := 3) rfl rfl) rfl) q⟩ (.cons 
    ⟨okP_plus.plen, okP_plus.bind, nPlus, rfl, fun f fd _ F => (row_fn (n := 5) WP (level WP 5) okP_plus F).imp fun vs H Q E q => nat_glue (nPlus_ok (n := 5) (fr_tab (n := 3) rfl rfl) rfl) q⟩ (.cons 
    ⟨okP_times_circle.plen, okP_times_circle.bind, nTimes, rfl, fun f fd _ F => (row_fn (n := 5) WP (level WP 5) okP_times_circle F).imp fun vs H Q E q => nat_glue (nTimes_ok (n := 5) (fr_tab (n := 3) rfl rfl) rfl) q⟩ (.cons 
    ⟨okP_minus.plen, okP_minus.bind, nMinus, rfl, fun f fd _ F => (row_fn (n := 5) WP (level WP 5) okP_minus F).imp fun vs H Q E q => nat_glue (nMinus_ok (n := 5) (fr_tab (n := 3) rfl rfl) rfl) q⟩ (.cons 
    ⟨okP__law_fraction.plen, okP__law_fraction.bind, nFrac2, rfl, fun f fd _ F => (row_fn (n := 5) WP (level WP 5) okP__law_fraction F).imp fun vs H Q E q => nat_glue (nFrac2_ok (n := 4) rfl rfl) q⟩ (.cons 
    ⟨okP__law_plus.plen, okP__law_plus.bind, nPlus, rfl, fun f fd _ F => (row_fn (n := 5) WP (level WP 5) okP__law_plus F).imp fun vs H Q E q => nat_glue (nPlus_ok (n := 5) (fr2_tab (n := 3) rfl rfl) rfl) q⟩ (.cons 
    ⟨okP__law_times.plen, okP__law_times.bind, nTimes, rfl, fun f fd _ F => (row_fn (n := 5) WP (level WP 5) okP__law_times F).imp fun vs H Q E q => nat_glue (nTimes_ok (n := 5) (fr2_tab (n := 3) rfl rfl) rfl) q⟩ (.cons 
    ⟨okP__law_drawn.plen, okP__law_drawn.bind, (natDrawn tbl), rfl, fun f fd _ F => (row_fn (n := 5) WP (level WP 5) okP__law_drawn F).imp fun vs H Q E q => drawn_fn drawn_run q⟩ (.cons 
    ⟨rfl, take_bind, natTake, rfl, fun f fd _ F => (take_ok' X N s F).mono (by omega)⟩ .nil)))))))))))
theorem run_law : denSs i_law (callN tab 30) σ0 s01 ksTrue = true :=
  law_split (n := 29) rfl rfl (AllR.imp (fun e q => by rw [e_law2]; exact q) allQ)
theorem start_ok (X : K.In h) (N : h.Ns mainGlobals mg) (s : SaysX fa fnD tsD K) {f : Addr} {fd : FuncData} (F : FunD K rr_start.name rr_start.name (defArgs rr_start.st) (defBody rr_start.st) (defScope rr_start.st) [] [] f fd) : FnOk P w K mg base CX0 5 f fd rr_start.ps (spStart K) :=
  start_fn (G := GS) rfl rfl rfl (fun x e => He.free_ok X N (fact_mem s.d (fr_mem x (of_decide_eq_true e)))) k__law_start (scope_by (by kernel_rfl)) rfl rfl F
theorem facts (X : K.In h) (N : h.Ns mainGlobals mg) (s : SaysX fa fnD tsD K) {f : Addr} (hf : mg (Str.ofString "law") = some (.ref f)) :
    ∃ fd : FuncData, (∀ (s : Shared) (v : Value), BindsTo s fd ⟨[v], []⟩ [(Str.ofString "script", v)]) ∧ ∀ base : Heap, FnOk P w K mg base CX0 40 f fd [Str.ofString "script"] (spLaw K) := by
  obtain ⟨fds, Fs⟩ := def_mem s.d (d := rr_start.dd) (List.mem_append_right _ (List.mem_of_getElem? (i := 0) rfl))
  obtain ⟨fd, F⟩ := def_mem s.d (d := rr_law.dd) (List.mem_append_right _ (List.mem_of_getElem? (i := 1) rfl))
  have gs : mg (Str.ofString "_law_start") = some (.ref (He.ga K (Str.ofString "_law_start"))) := He.glo_ok X N (fact_mem s.d (List.mem_append_right _ (List.mem_append_left _ (List.mem_of_getElem? (i := 0) rfl))))
  have gl : mg (Str.ofString "law") = some (.ref (He.ga K (Str.ofString "law"))) := He.glo_ok X N (fact_mem s.d (List.mem_append_right _ (List.mem_append_left _ (List.mem_of_getElem? (i := 2) rfl))))
  have e := hf.symm.trans gl
  cases e
  have b := FunD.bindsA (ps := [Str.ofString "script"]) F fun _ _ _ _ _ _ us hl => match us, hl with | [_], _ => rfl
  have bs := FunD.bindsN (ps := rr_start.ps) Fs fun _ _ _ _ _ _ us hl => match us, hl with | [_], _ => rfl
  exact ⟨fd, fun s v => b s [v] rfl, fun base => law_fn (n := 30) (w_t X N s) (by omega) (start_ok X N s Fs) gs Fs.kp bs k_law (r := rr_law) (scope_by (by kernel_rfl)) rfl rfl F run_law⟩
end
end
end Zk84
open PySem PySem.W PySem.Calls PyProof.Rows
theorem PySem.Challenge.cw_longrank_k84_trace_forms_holds : PySem.Challenge.rw_longrank_k84_trace_forms.Holds := by
  w_on; o_law
  refine HandSHeadRun.head_any (r := Zk84.RW) (q := view Zk84.RW.prog [119]) (H := Zk84.hk) (ob := Zk84.ob) (M := 6000) (loose := Zk84.loose) (d := HandSHeadRun.topDef Zk84.RW.prog 119) (kwd := []) Zk84.ob_eq
    (by kernel_rfl) (fun s => by kernel_rfl) Zk84.run (by kernel_rfl) (by kernel_rfl) (by kernel_rfl) (by rfl) (by first | assumption | decide +kernel) (by decide +kernel) ⟨rfl, rfl, rfl, rfl, rfl, by decide +kernel⟩ ?hw ?hc
  case hw => w_witness2
  case hc =>
    refine L2.walk_ofE (l := PySem.Challenge.rw_longrank_k84_trace_forms) (n := 63) (k := 40) (x := Str.ofString "script") (CX := L2.CX0) rfl (by decide) (by kernel_rfl) ⟨rfl, by decide, by decide⟩ ?F (fun _ _ _ _ z => z)
    intro w mg fa h Y G hmg0
    obtain ⟨K, KX, c⟩ := Y
    have hmg : mg (PySem.Str.ofString "law") = some (.ref fa) := by
      have e : (HandSHeadRun.topDef Zk84.RW.prog 119).name = PySem.Str.ofString "law" := by kernel_rfl
      rw [← e]
      exact hmg0
    obtain ⟨fd, hb, hF⟩ := Zk84.facts (P := (PySem.Challenge.rw_longrank_k84_trace_forms).prog) (w := w) KX G c hmg
    exact ⟨K, fd, Zev.spLaw K, KX, hb, fun H a ns hl _ hS => ⟨a, ns, rfl, hS, fun _ => rfl⟩, fun base _ _ => hF base⟩

