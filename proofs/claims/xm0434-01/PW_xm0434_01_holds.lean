import PyProof.Rows.All
import Wide.All
import Open.Line
import OpenK.KCell
import OpenK.KMeth
import OpenK.KTop
import Wide.FinOn
import PySem.Challenge.RW_xm0434_01
set_option Elab.async false
set_option linter.all false
section
open PySem
namespace Mine

inductive Loc where
  | un
  | val (d : PyData)
  | own (l : List PyData)
  | fn (k : Nat)

inductive BOp where
  | add | sub | mul | fdiv | mod | pow | shl | shr | band | bor
inductive COp where
  | eq | ne | lt | le | gt | ge | notin

inductive IE where
  | int (i : Int) | bool (b : Bool) | loc (x : Nat) | fn (k : Nat)
  | bin (op : BOp) (a b : IE) | cmp (op : COp) (a b : IE)
  | and (a b : IE) | or (a b : IE) | neg (a : IE) | ife (t a b : IE)
  | idx (e i : IE) | idxL (x : Nat) (i : IE)
  | slcL (x : Nat) (lo hi : Option IE) | revL (x : Nat)
  | len (e : IE) | lenL (x : Nat)
  | list (es : List IE) | tup (es : List IE)
  | call (k : Nat) (es : List IE) | callV (x : Nat) (es : List IE) | callIO (k x : Nat) (es : List IE)
  | min2 (a b : IE) | abs (a : IE) | bitlen (a : IE)

inductive Src where
  | range1 (a : IE) | range2 (a b : IE) | range3 (a b c : IE) | enum (e : IE) | it (e : IE)

inductive IS where
  | asg (x : Nat) (e : IE)
  | asgT (xs : List Nat) (es : List IE)
  | asgU (xs : List Nat) (e : IE)
  | setL (x : Nat) (i e : IE)
  | aug (x : Nat) (op : BOp) (e : IE)
  | app (x : Nat) (e : IE)
  | ex (e : IE)
  | ifs (t : IE) (a b : List IS)
  | whl (t : IE) (a : List IS)
  | for1 (x : Nat) (s : Src) (a : List IS)
  | forT (xs : List Nat) (s : Src) (a : List IS)
  | ret (e : IE)
  | fail

noncomputable abbrev St := List Loc
inductive Fl where
  | next (σ : St)
  | ret (d : PyData) (σ : St)

noncomputable def getS : St → Nat → Loc
  | [], _ => .un
  | l :: _, 0 => l
  | _ :: r, n + 1 => getS r n
noncomputable def setS : St → Nat → Loc → Option St
  | [], _, _ => none
  | _ :: r, 0, v => some (v :: r)
  | l :: r, n + 1, v => match setS r n v with
    | some r' => some (l :: r')
    | none => none

noncomputable def getD? : List PyData → Nat → Option PyData
  | [], _ => none
  | d :: _, 0 => some d
  | _ :: r, n + 1 => getD? r n
noncomputable def setD : List PyData → Nat → PyData → Option (List PyData)
  | [], _, _ => none
  | _ :: r, 0, v => some (v :: r)
  | l :: r, n + 1, v => match setD r n v with
    | some r' => some (l :: r')
    | none => none
noncomputable def lenD : List PyData → Nat
  | [] => 0
  | _ :: r => Nat.succ (lenD r)

/-- the ints that the evaluator takes: below 2^60 -/
noncomputable def smallI (i : Int) : Bool := match i with
  | .ofNat n => Nat.blt n 1152921504606846976
  | .negSucc n => Nat.blt n 1152921504606846975

noncomputable def eqI : Int → Int → Bool
  | .ofNat m, .ofNat n => Nat.beq m n
  | .negSucc m, .negSucc n => Nat.beq m n
  | _, _ => false
noncomputable def ltI : Int → Int → Bool
  | .ofNat m, .ofNat n => Nat.blt m n
  | .ofNat _, .negSucc _ => false
  | .negSucc _, .ofNat _ => true
  | .negSucc m, .negSucc n => Nat.blt n m
noncomputable def eqD (a b : PyData) : Option Bool := match a with
  | .int x => match b with
    | .int y => some (eqI x y)
    | _ => none
  | .bool x => match b with
    | .bool y => some (x == y)
    | _ => none
  | .list x => match b with
    | .list y => match Nat.ble (PyData.depth (.list x)) 64 with
      | true => some (PyData.eqv (.list x) (.list y))
      | false => none
    | _ => none
  | .tuple x => match b with
    | .tuple y => match Nat.ble (PyData.depth (.tuple x)) 64 with
      | true => some (PyData.eqv (.tuple x) (.tuple y))
      | false => none
    | _ => none
  | _ => none

noncomputable def isinD (d : PyData) : List PyData → Option Bool
  | [] => some false
  | x :: r => match x with
    | .int a => match d with
      | .int b => match isinD d r with
        | some y => some (eqI a b || y)
        | none => none
      | _ => none
    | _ => none

noncomputable def twoI (P : Int → Int → Bool) (a b : PyData) : Option Bool := match a with
  | .int x => match b with
    | .int y => some (P x y)
    | _ => none
  | _ => none
noncomputable def cmpD (op : COp) (a b : PyData) : Option Bool := match op with
  | .eq => eqD a b
  | .ne => match eqD a b with
    | some x => some (!x)
    | none => none
  | .lt => twoI ltI a b
  | .le => twoI (fun x y => !(ltI y x)) a b
  | .gt => twoI (fun x y => ltI y x) a b
  | .ge => twoI (fun x y => !(ltI x y)) a b
  | .notin => match a with
    | .int _ => match b with
      | .tuple l => match isinD a l with
        | some y => some (!y)
        | none => none
      | _ => none
    | _ => none

noncomputable def ckI (i : Int) : Option Int := match smallI i with
  | true => some i
  | false => none
/-- an op on two ints that are not too big -/
noncomputable def binS (op : BOp) (a b : Int) : Option Int := match smallI a with
  | false => none
  | true => match smallI b with
    | false => none
    | true => match op with
      | .add => some (a + b)
      | .sub => some (a - b)
      | .mul => some (a * b)
      | .fdiv => match a with
        | .ofNat x => match b with
          | .ofNat y => match Nat.beq y 0 with
            | true => none
            | false => some (.ofNat (x / y))
          | _ => none
        | _ => none
      | .mod => match a with
        | .ofNat x => match b with
          | .ofNat y => match Nat.beq y 0 with
            | true => none
            | false => some (.ofNat (x % y))
          | _ => none
        | _ => none
      | .pow => match a with
        | .ofNat x => match b with
          | .ofNat y => match Nat.blt y 64 with
            | true => some (.ofNat (x ^ y))
            | false => none
          | _ => none
        | _ => none
      | .shl => match a with
        | .ofNat x => match b with
          | .ofNat y => match Nat.blt y 64 with
            | true => some (.ofNat (x * 2 ^ y))
            | false => none
          | _ => none
        | _ => none
      | .shr => match a with
        | .ofNat x => match b with
          | .ofNat y => match Nat.blt y 64 with
            | true => some (.ofNat (x / 2 ^ y))
            | false => none
          | _ => none
        | _ => none
      | .band => match a with
        | .ofNat x => match b with
          | .ofNat y => some (.ofNat (Nat.land x y))
          | _ => none
        | _ => none
      | .bor => match a with
        | .ofNat x => match b with
          | .ofNat y => some (.ofNat (Nat.lor x y))
          | _ => none
        | _ => none

/-- an op on two ints -/
noncomputable def binI (op : BOp) (a b : Int) : Option Int := match op with
  | .add => some (a + b)
  | .mod => match a with
    | .ofNat x => match b with
      | .ofNat y => match Nat.beq y 0 with
        | true => none
        | false => some (.ofNat (x % y))
      | _ => none
    | _ => none
  | op => binS op a b

noncomputable def augI (op : BOp) (a b : Int) : Option Int := match op with
  | .add => binS .add a b
  | .sub => binS .sub a b
  | .mod => binS .mod a b
  | .shr => binS .shr a b
  | .bor => binS .bor a b
  | _ => none

noncomputable def repD : Nat → List PyData → List PyData
  | 0, _ => []
  | n + 1, l => l ++ repD n l

noncomputable def frz : Loc → Loc
  | .own l => .val (.list l)
  | x => x

/-- a list that is not too long -/
noncomputable def shortD (l : List PyData) : Option (List PyData) := match Nat.blt (lenD l) 2000 with
  | true => some l
  | false => none

/-- an op on two values -/
noncomputable def binD (op : BOp) (a b : PyData) : Option Loc := match a with
  | .int x => match b with
    | .int y => match binI op x y with
      | some z => some (.val (.int z))
      | none => none
    | _ => none
  | .list l => match op with
    | .add => match b with
      | .list r => match shortD (l ++ r) with
        | some z => some (.own z)
        | none => none
      | _ => none
    | .mul => match b with
      | .int (.ofNat n) => match Nat.blt n 1000 with
        | true => match l with
          | [_] => some (.own (repD n l))
          | _ => none
        | false => none
      | _ => none
    | _ => none
  | .tuple l => match op with
    | .add => match b with
      | .tuple r => match shortD (l ++ r) with
        | some z => some (.val (.tuple z))
        | none => none
      | _ => none
    | _ => none
  | _ => none

/-- the items of a slot that holds a list or a tuple -/
noncomputable def itemsL (l : Loc) : Option (List PyData) := match l with
  | .own l => some l
  | .val (.list l) => some l
  | .val (.tuple l) => some l
  | _ => none
noncomputable def listL (l : Loc) : Option (List PyData) := match l with
  | .own l => some l
  | .val (.list l) => some l
  | _ => none
noncomputable def itemsD (d : PyData) : Option (List PyData) := match d with
  | .list l => some l
  | .tuple l => some l
  | _ => none
/-- the place that an index names -/
noncomputable def placeI (i : Int) (n : Nat) : Option Nat := match Nat.blt n 2000 with
  | false => none
  | true => match i with
    | .ofNat k => match Nat.blt k n with
      | true => some k
      | false => none
    | .negSucc k => match Nat.blt k n with
      | true => some (n - Nat.succ k)
      | false => none
noncomputable def takeD : Nat → List PyData → List PyData
  | 0, _ => []
  | _ + 1, [] => []
  | n + 1, x :: r => x :: takeD n r
noncomputable def dropD : Nat → List PyData → List PyData
  | 0, l => l
  | _ + 1, [] => []
  | n + 1, _ :: r => dropD n r
noncomputable def sliceD (l : List PyData) (lo hi : Nat) : List PyData := takeD (hi - lo) (dropD lo l)

noncomputable def sizeN (n : Nat) : Nat := match Nat.beq n 0 with
  | true => 0
  | false => Nat.succ (Nat.log2 n)

structure Fn where
  nargs : Nat
  nslots : Nat
  body : List IS
noncomputable def lenS : St → Nat
  | [] => 0
  | _ :: r => Nat.succ (lenS r)

/-- tables of calls -/
noncomputable abbrev Tab := List (Nat × List (St × PyData))
structure Lv where
  E : IE → St → Option (Loc × St)
  T : IE → St → Option (Bool × St)
  S : List IS → St → Option Fl
  C : Nat → St → Option (PyData × Loc)

noncomputable def lv0 : Lv := ⟨fun _ _ => none, fun _ _ => none, fun _ _ => none, fun _ _ => none⟩

section
variable (p : Lv)
/-- a value, its list frozen -/
noncomputable def evV (e : IE) (σ : St) : Option (PyData × St) := match p.E e σ with
  | some (.val d, σ') => some (d, σ')
  | some (.own l, σ') => some (.list l, σ')
  | _ => none
noncomputable def evI (e : IE) (σ : St) : Option (Int × St) := match p.E e σ with
  | some (.val (.int i), σ') => some (i, σ')
  | _ => none
noncomputable def evVs : List IE → St → Option (List PyData × St)
  | [], σ => some ([], σ)
  | e :: r, σ => match evV p e σ with
    | some (d, σ') => match evVs r σ' with
      | some (ds, σ'') => some (d :: ds, σ'')
      | none => none
    | none => none
/-- the arguments of a call -/
noncomputable def evAs : List IE → St → Option (St × St)
  | [], σ => some ([], σ)
  | e :: r, σ => match p.E e σ with
    | some (l, σ') => match evAs r σ' with
      | some (ls, σ'') => some (frz l :: ls, σ'')
      | none => none
    | none => none
/-- values to be bound to names -/
noncomputable def evLs : List IE → St → Option (St × St)
  | [], σ => some ([], σ)
  | e :: r, σ => match p.E e σ with
    | some (l, σ') => match evLs r σ' with
      | some (ls, σ'') => some (l :: ls, σ'')
      | none => none
    | none => none
noncomputable def evO (e : Option IE) (σ : St) : Option (Option Nat × St) := match e with
  | none => some (none, σ)
  | some e => match evI p e σ with
    | some (.ofNat n, σ') => match Nat.blt n 1152921504606846976 with
      | true => some (some n, σ')
      | false => none
    | _ => none

noncomputable def evE (e : IE) (σ : St) : Option (Loc × St) := match e with
  | .int i => some (.val (.int i), σ)
  | .bool b => some (.val (.bool b), σ)
  | .loc x => match getS σ x with
    | .own l => match setS σ x (.val (.list l)) with
      | some σ' => some (.val (.list l), σ')
      | none => none
    | .un => none
    | l => some (l, σ)
  | .fn k => some (.fn k, σ)
  | .bin op a b => match evV p a σ with
    | some (x, σ') => match evV p b σ' with
      | some (y, σ'') => match binD op x y with
        | some l => some (l, σ'')
        | none => none
      | none => none
    | none => none
  | .cmp op a b => match evV p a σ with
    | some (x, σ') => match evV p b σ' with
      | some (y, σ'') => match cmpD op x y with
        | some c => some (.val (.bool c), σ'')
        | none => none
      | none => none
    | none => none
  | .and a b => match evV p a σ with
    | some (.bool true, σ') => match evV p b σ' with
      | some (.bool c, σ'') => some (.val (.bool c), σ'')
      | _ => none
    | some (.bool false, σ') => some (.val (.bool false), σ')
    | _ => none
  | .or a b => match evV p a σ with
    | some (.bool false, σ') => match evV p b σ' with
      | some (.bool c, σ'') => some (.val (.bool c), σ'')
      | _ => none
    | some (.bool true, σ') => some (.val (.bool true), σ')
    | _ => none
  | .neg a => match evI p a σ with
    | some (i, σ') => some (.val (.int (-i)), σ')
    | none => none
  | .ife t a b => match p.T t σ with
    | some (true, σ') => p.E a σ'
    | some (false, σ') => p.E b σ'
    | none => none
  | .idx e i => match evV p e σ with
    | some (d, σ') => match itemsD d with
      | some l => match evI p i σ' with
        | some (k, σ'') => match placeI k (lenD l) with
          | some j => match getD? l j with
            | some x => some (.val x, σ'')
            | none => none
          | none => none
        | none => none
      | none => none
    | none => none
  | .idxL x i => match itemsL (getS σ x) with
    | none => none
    | some _ => match evI p i σ with
      | some (k, σ') => match itemsL (getS σ' x) with
        | some l => match placeI k (lenD l) with
          | some j => match getD? l j with
            | some d => some (.val d, σ')
            | none => none
          | none => none
        | none => none
      | none => none
  | .slcL x lo hi => match listL (getS σ x) with
    | none => none
    | some _ => match evO p lo σ with
      | some (a, σ') => match evO p hi σ' with
        | some (b, σ'') => match listL (getS σ'' x) with
          | some l0 => match shortD l0 with
            | some l => match a with
              | none => match b with
                | none => some (.own l, σ'')
                | some n => some (.own (takeD n l), σ'')
              | some m => match b with
                | none => some (.own (dropD m l), σ'')
                | some n => some (.own (sliceD l m n), σ'')
            | none => none
          | none => none
        | none => none
      | none => none
  | .revL x => match listL (getS σ x) with
    | some l0 => match shortD l0 with
      | some l => some (.own l.reverse, σ)
      | none => none
    | none => none
  | .len e => match evV p e σ with
    | some (d, σ') => match itemsD d with
      | some l0 => match shortD l0 with
        | some l => some (.val (.int (.ofNat (lenD l))), σ')
        | none => none
      | none => none
    | none => none
  | .lenL x => match itemsL (getS σ x) with
    | some l0 => match shortD l0 with
      | some l => some (.val (.int (.ofNat (lenD l))), σ)
      | none => none
    | none => none
  | .list es => match evVs p es σ with
    | some (ds, σ') => match shortD ds with
      | some ds => some (.own ds, σ')
      | none => none
    | none => none
  | .tup es => match evVs p es σ with
    | some (ds, σ') => match shortD ds with
      | some ds => some (.val (.tuple ds), σ')
      | none => none
    | none => none
  | .call k es => match evAs p es σ with
    | some (as, σ') => match p.C k as with
      | some (d, _) => some (.val d, σ')
      | none => none
    | none => none
  | .callV x es => match getS σ x with
    | .fn k => match evAs p es σ with
      | some (as, σ') => match p.C k as with
        | some (d, _) => some (.val d, σ')
        | none => none
      | none => none
    | _ => none
  | .callIO k x es => match listL (getS σ x) with
   | none => none
   | some _ => match evAs p es σ with
    | some (as, σ') => match getS σ' x with
      | .own l => match p.C k (.own l :: as) with
        | some (d, .own l') => match setS σ' x (.own l') with
          | some σ'' => some (.val d, σ'')
          | none => none
        | _ => none
      | _ => none
    | none => none
  | .min2 a b => match evI p a σ with
    | some (i, σ') => match evI p b σ' with
      | some (j, σ'') => some (.val (.int (cond (ltI j i) j i)), σ'')
      | none => none
    | none => none
  | .abs a => match evI p a σ with
    | some (i, σ') => some (.val (.int (cond (ltI i 0) (-i) i)), σ')
    | none => none
  | .bitlen a => match evI p a σ with
    | some (.ofNat n, σ') => some (.val (.int (.ofNat (sizeN n))), σ')
    | _ => none

/-- a test -/
noncomputable def evT (e : IE) (σ : St) : Option (Bool × St) := match e with
  | .cmp op a b => match evV p a σ with
    | some (x, σ') => match evV p b σ' with
      | some (y, σ'') => match cmpD op x y with
        | some c => some (c, σ'')
        | none => none
      | none => none
    | none => none
  | .and a b => match p.T a σ with
    | some (true, σ') => p.T b σ'
    | some (false, σ') => some (false, σ')
    | none => none
  | .or a b => match p.T a σ with
    | some (false, σ') => p.T b σ'
    | some (true, σ') => some (true, σ')
    | none => none
  | .loc x => match getS σ x with
    | .val (.bool c) => some (c, σ)
    | _ => none
  | .idxL x i => match p.E (.idxL x i) σ with
    | some (.val (.bool c), σ') => some (c, σ')
    | _ => none
  | _ => none

/-- a store under a name: the first parameter never gets a list of the frame's own -/
noncomputable def setN (σ : St) (x : Nat) (l : Loc) : Option St := match l with
  | .un => none
  | .own v => match x with
    | 0 => none
    | n + 1 => setS σ (n + 1) (.own v)
  | l => setS σ x l
/-- the stores of a tuple display: the last name first -/
noncomputable def setAllR : List Nat → St → St → Option St
  | [], [], σ => some σ
  | x :: xs, l :: ls, σ => match setAllR xs ls σ with
    | some σ' => setN σ' x l
    | none => none
  | _, _, _ => none
noncomputable def setAll : List Nat → St → St → Option St
  | [], [], σ => some σ
  | x :: xs, l :: ls, σ => match setN σ x l with
    | some σ' => setAll xs ls σ'
    | none => none
  | _, _, _ => none
noncomputable def valsOf : List PyData → St
  | [] => []
  | d :: r => .val d :: valsOf r

/-- the ints a, a + c, .. (n of them) -/
noncomputable def fromI (c : Int) : Nat → Int → List PyData
  | 0, _ => []
  | n + 1, a => .int a :: fromI c n (a + c)
noncomputable def enumD : Nat → List PyData → List PyData
  | _, [] => []
  | n, d :: r => .tuple [.int (.ofNat n), d] :: enumD (Nat.succ n) r

/-- how many turns range(a, b, c) makes -/
noncomputable def turns (a b c : Int) : Nat := match ltI 0 c with
  | true => match ltI a b with
    | true => ((b - a - 1) / c + 1).toNat
    | false => 0
  | false => match ltI b a with
    | true => ((a - b - 1) / (-c) + 1).toNat
    | false => 0

noncomputable def rangeD (a b c : Int) : Option (List PyData) := match smallI a with
  | false => none
  | true => match smallI b with
    | false => none
    | true => match smallI c with
      | false => none
      | true => match eqI c 0 with
        | true => none
        | false => match Nat.blt (turns a b c) 1000 with
          | true => some (fromI c (turns a b c) a)
          | false => none

noncomputable def evSrc (s : Src) (σ : St) : Option (List PyData × St) := match s with
  | .range1 a => match evI p a σ with
    | some (i, σ') => match rangeD 0 i 1 with
      | some l => some (l, σ')
      | none => none
    | none => none
  | .range2 a b => match evI p a σ with
    | some (i, σ') => match evI p b σ' with
      | some (j, σ'') => match rangeD i j 1 with
        | some l => some (l, σ'')
        | none => none
      | none => none
    | none => none
  | .range3 a b c => match evI p a σ with
    | some (i, σ') => match evI p b σ' with
      | some (j, σ'') => match evI p c σ'' with
        | some (k, σ''') => match rangeD i j k with
          | some l => some (l, σ''')
          | none => none
        | none => none
      | none => none
    | none => none
  | .enum e => match evV p e σ with
    | some (.list l, σ') => some (enumD 0 l, σ')
    | _ => none
  | .it e => match evV p e σ with
    | some (.list l, σ') => some (l, σ')
    | _ => none

noncomputable def isEnum (s : Src) : Bool := match s with
  | .enum _ => true
  | _ => false
noncomputable def loop1 (x : Nat) (a : List IS) : List PyData → St → Option Fl
  | [], σ => some (.next σ)
  | d :: r, σ => match setN σ x (.val d) with
    | some σ' => match p.S a σ' with
      | some (.next σ'') => loop1 x a r σ''
      | some (.ret v σ'') => some (.ret v σ'')
      | none => none
    | none => none
noncomputable def loopT (xs : List Nat) (a : List IS) : List PyData → St → Option Fl
  | [], σ => some (.next σ)
  | d :: r, σ => match d with
    | .tuple ds => match setAll xs (valsOf ds) σ with
      | some σ' => match p.S a σ' with
        | some (.next σ'') => loopT xs a r σ''
        | some (.ret v σ'') => some (.ret v σ'')
        | none => none
      | none => none
    | _ => none

/-- one statement -/
noncomputable def evS1 (s : IS) (σ : St) : Option Fl := match s with
  | .asg x e => match p.E e σ with
    | some (l, σ') => match setN σ' x l with
      | some σ'' => some (.next σ'')
      | none => none
    | none => none
  | .asgT xs es => match evLs p es σ with
    | some (ls, σ') => match setAllR xs ls σ' with
      | some σ'' => some (.next σ'')
      | none => none
    | none => none
  | .asgU xs e => match evV p e σ with
    | some (.tuple ds, σ') => match setAll xs (valsOf ds) σ' with
      | some σ'' => some (.next σ'')
      | none => none
    | _ => none
  | .setL x i e => match listL (getS σ x) with
    | none => none
    | some _ => match evV p e σ with
      | some (d, σ') => match evI p i σ' with
        | some (.ofNat k, σ'') => match getS σ'' x with
          | .own l => match shortD l with
            | some l => match setD l k d with
              | some l' => match setS σ'' x (.own l') with
                | some σ3 => some (.next σ3)
                | none => none
              | none => none
            | none => none
          | _ => none
        | _ => none
      | none => none
  | .aug x op e => match getS σ x with
    | .val (.int i) => match evI p e σ with
      | some (j, σ') => match augI op i j with
        | some k => match setN σ' x (.val (.int k)) with
          | some σ'' => some (.next σ'')
          | none => none
        | none => none
      | none => none
    | _ => none
  | .app x e => match getS σ x with
    | .own _ => match evV p e σ with
      | some (d, σ') => match getS σ' x with
        | .own l => match shortD l with
          | some l => match setS σ' x (.own (l ++ [d])) with
            | some σ'' => some (.next σ'')
            | none => none
          | none => none
        | _ => none
      | none => none
    | _ => none
  | .ex e => match evV p e σ with
    | some (.none, σ') => some (.next σ')
    | _ => none
  | .ifs t a b => match p.T t σ with
    | some (true, σ') => p.S a σ'
    | some (false, σ') => p.S b σ'
    | none => none
  | .whl t a => match p.T t σ with
    | some (true, σ') => match p.S a σ' with
      | some (.next σ'') => p.S [.whl t a] σ''
      | some (.ret v σ'') => some (.ret v σ'')
      | none => none
    | some (false, σ') => some (.next σ')
    | none => none
  | .for1 x s a => match isEnum s with
    | true => none
    | false => match evSrc p s σ with
      | some (l, σ') => loop1 p x a l σ'
      | none => none
  | .forT xs s a => match evSrc p s σ with
    | some (l, σ') => loopT p xs a l σ'
    | none => none
  | .ret e => match evV p e σ with
    | some (d, σ') => some (.ret d σ')
    | none => none
  | .fail => none
noncomputable def evS : List IS → St → Option Fl
  | [], σ => some (.next σ)
  | s :: r, σ => match evS1 p s σ with
    | some (.next σ') => evS r σ'
    | some (.ret v σ') => some (.ret v σ')
    | none => none

noncomputable def pad : Nat → St → Option St
  | n, l :: ls => match n with
    | 0 => none
    | n + 1 => match pad n ls with
      | some r => some (l :: r)
      | none => none
  | 0, [] => some []
  | n + 1, [] => match pad n [] with
    | some r => some (.un :: r)
    | none => none

noncomputable def headS : St → Loc
  | [] => .un
  | l :: _ => l

variable (fns : List Fn) (tab : Tab)
noncomputable def fnAt : List Fn → Nat → Option Fn
  | [], _ => none
  | f :: _, 0 => some f
  | _ :: r, n + 1 => fnAt r n
mutual
noncomputable def beqD : PyData → PyData → Bool
  | .none, .none => true
  | .bool a, .bool b => a == b
  | .int a, .int b => eqI a b
  | .list a, .list b => beqDs a b
  | .tuple a, .tuple b => beqDs a b
  | _, _ => false
noncomputable def beqDs : List PyData → List PyData → Bool
  | [], [] => true
  | a :: r, b :: t => match beqD a b with
    | true => beqDs r t
    | false => false
  | _, _ => false
end
noncomputable def beqL : Loc → Loc → Bool
  | .val a, .val b => beqD a b
  | .fn a, .fn b => Nat.beq a b
  | _, _ => false
noncomputable def beqAs : St → St → Bool
  | [], [] => true
  | l :: r, l' :: r' => match beqL l l' with
    | true => beqAs r r'
    | false => false
  | _, _ => false
/-- the calls that are known already -/
noncomputable def lookA (as : St) : List (St × PyData) → Option PyData
  | [] => none
  | e :: r => match e with
    | (as', d) => match beqAs as as' with
      | true => some d
      | false => lookA as r
noncomputable def look (k : Nat) (as : St) : Tab → Option PyData
  | [] => none
  | e :: r => match e with
    | (k', l) => match Nat.beq k k' with
      | true => match lookA as l with
        | some d => some d
        | none => look k as r
      | false => look k as r
noncomputable def evC (k : Nat) (as : St) : Option (PyData × Loc) := match look k as tab with
  | some d => some (d, .un)
  | none => match fnAt fns k with
    | some f => match Nat.beq (lenS as) f.nargs with
      | true => match pad f.nslots as with
        | some σ => match evS p f.body σ with
          | some (.ret d σ') => some (d, headS σ')
          | some (.next σ') => some (.none, headS σ')
          | none => none
        | none => none
      | false => none
    | none => none

noncomputable def stepLv : Lv := ⟨evE p, evT p, evS p, evC p fns tab⟩
end

noncomputable def lv (fns : List Fn) (tab : Tab) : Nat → Lv
  | 0 => lv0
  | n + 1 => stepLv (lv fns tab n) fns tab

end Mine
end
section
namespace Mine
open PySem
/-- normal(a): a end -/
noncomputable def f_normal : Fn := ⟨1, 2, [(.asg 1 (.lenL 0)), (.whl (.and (.cmp .gt (.loc 1) (.int 0)) (.cmp .eq (.idxL 0 (.bin .sub (.loc 1) (.int 1))) (.int 0))) [(.aug 1 .sub (.int 1))]), (.ret (.slcL 0 none (some (.loc 1))))]⟩
/-- nat_of(number, w): number w found mask -/
noncomputable def f_nat_of : Fn := ⟨2, 4, [(.ifs (.cmp .lt (.loc 0) (.int 0)) [.fail] []), (.asgT [2, 3] [(.list []), (.bin .sub (.bin .shl (.int 1) (.loc 1)) (.int 1))]), (.whl (.cmp .gt (.loc 0) (.int 0)) [(.app 2 (.bin .band (.loc 0) (.loc 3))), (.aug 0 .shr (.loc 1))]), (.ret (.loc 2))]⟩
/-- compare(a, b): a b at -/
noncomputable def f_compare : Fn := ⟨2, 3, [(.ifs (.cmp .ne (.lenL 0) (.lenL 1)) [(.ret (.ife (.cmp .lt (.lenL 0) (.lenL 1)) (.neg (.int 1)) (.int 1)))] []), (.for1 2 (.range3 (.bin .sub (.lenL 0) (.int 1)) (.neg (.int 1)) (.neg (.int 1))) [(.ifs (.cmp .ne (.idxL 0 (.loc 2)) (.idxL 1 (.loc 2))) [(.ret (.ife (.cmp .lt (.idxL 0 (.loc 2)) (.idxL 1 (.loc 2))) (.neg (.int 1)) (.int 1)))] [])]), (.ret (.int 0))]⟩
/-- add(a, b, w): a b w found carry mask at -/
noncomputable def f_add : Fn := ⟨3, 7, [(.ifs (.cmp .lt (.lenL 0) (.lenL 1)) [(.asgT [0, 1] [(.loc 1), (.loc 0)])] []), (.asgT [3, 4, 5] [(.list []), (.int 0), (.bin .sub (.bin .shl (.int 1) (.loc 2)) (.int 1))]), (.for1 6 (.range1 (.lenL 1)) [(.aug 4 .add (.bin .add (.idxL 0 (.loc 6)) (.idxL 1 (.loc 6)))), (.app 3 (.bin .band (.loc 4) (.loc 5))), (.aug 4 .shr (.loc 2))]), (.for1 6 (.range2 (.lenL 1) (.lenL 0)) [(.aug 4 .add (.idxL 0 (.loc 6))), (.app 3 (.bin .band (.loc 4) (.loc 5))), (.aug 4 .shr (.loc 2))]), (.ifs (.cmp .gt (.loc 4) (.int 0)) [(.app 3 (.loc 4))] []), (.ret (.loc 3))]⟩
/-- sub(a, b, w): a b w found borrow base at limb -/
noncomputable def f_sub : Fn := ⟨3, 8, [(.ifs (.cmp .lt (.call 2 [(.loc 0), (.loc 1)]) (.int 0)) [.fail] []), (.asgT [3, 4, 5] [(.list []), (.int 0), (.bin .shl (.int 1) (.loc 2))]), (.for1 6 (.range1 (.lenL 0)) [(.asg 7 (.bin .sub (.bin .sub (.idxL 0 (.loc 6)) (.loc 4)) (.ife (.cmp .lt (.loc 6) (.lenL 1)) (.idxL 1 (.loc 6)) (.int 0)))), (.asg 4 (.ife (.cmp .lt (.loc 7) (.int 0)) (.int 1) (.int 0))), (.app 3 (.ife (.cmp .lt (.loc 7) (.int 0)) (.bin .add (.loc 7) (.loc 5)) (.loc 7)))]), (.ret (.call 0 [(.loc 3)]))]⟩
/-- divrem_limb(a, limb, w): a limb w found rest at -/
noncomputable def f_divrem_limb : Fn := ⟨3, 6, [(.ifs (.cmp .eq (.loc 1) (.int 0)) [.fail] []), (.asgT [3, 4] [(.bin .mul (.list [(.int 0)]) (.lenL 0)), (.int 0)]), (.for1 5 (.range3 (.bin .sub (.lenL 0) (.int 1)) (.neg (.int 1)) (.neg (.int 1))) [(.asg 4 (.bin .bor (.bin .shl (.loc 4) (.loc 2)) (.idxL 0 (.loc 5)))), (.setL 3 (.loc 5) (.bin .fdiv (.loc 4) (.loc 1))), (.aug 4 .mod (.loc 1))]), (.ret (.tup [(.call 0 [(.loc 3)]), (.loc 4)]))]⟩
/-- shift_left(a, n, w): a n w spots few found carry mask one -/
noncomputable def f_shift_left : Fn := ⟨3, 9, [(.ifs (.cmp .eq (.lenL 0) (.int 0)) [(.ret (.list []))] []), (.asgT [3, 4] [(.bin .fdiv (.loc 1) (.loc 2)), (.bin .mod (.loc 1) (.loc 2))]), (.asgT [5, 6, 7] [(.bin .mul (.list [(.int 0)]) (.loc 3)), (.int 0), (.bin .sub (.bin .shl (.int 1) (.loc 2)) (.int 1))]), (.for1 8 (.it (.loc 0)) [(.aug 6 .bor (.bin .shl (.loc 8) (.loc 4))), (.app 5 (.bin .band (.loc 6) (.loc 7))), (.aug 6 .shr (.loc 2))]), (.ifs (.cmp .gt (.loc 6) (.int 0)) [(.app 5 (.loc 6))] []), (.ret (.loc 5))]⟩
/-- shift_right(a, n, w): a n w spots few found mask at above -/
noncomputable def f_shift_right : Fn := ⟨3, 9, [(.asgT [3, 4] [(.bin .fdiv (.loc 1) (.loc 2)), (.bin .mod (.loc 1) (.loc 2))]), (.asgT [5, 6] [(.list []), (.bin .sub (.bin .shl (.int 1) (.loc 2)) (.int 1))]), (.for1 7 (.range2 (.loc 3) (.lenL 0)) [(.asg 8 (.ife (.cmp .lt (.bin .add (.loc 7) (.int 1)) (.lenL 0)) (.idxL 0 (.bin .add (.loc 7) (.int 1))) (.int 0))), (.app 5 (.bin .band (.bin .bor (.bin .shr (.idxL 0 (.loc 7)) (.loc 4)) (.bin .shl (.loc 8) (.bin .sub (.loc 2) (.loc 4)))) (.loc 6)))]), (.ret (.call 0 [(.loc 5)]))]⟩
/-- bits(a, w): a w -/
noncomputable def f_bits : Fn := ⟨2, 2, [(.ret (.ife (.cmp .gt (.lenL 0) (.int 0)) (.bin .add (.bin .mul (.bin .sub (.lenL 0) (.int 1)) (.loc 1)) (.bitlen (.idxL 0 (.neg (.int 1))))) (.int 0)))]⟩
/-- signed(is_below, nat): is_below nat -/
noncomputable def f_signed : Fn := ⟨2, 2, [(.ret (.tup [(.and (.loc 0) (.cmp .gt (.lenL 1) (.int 0))), (.loc 1)]))]⟩
/-- s_add(x, y, w): x y w -/
noncomputable def f_s_add : Fn := ⟨3, 3, [(.ifs (.cmp .eq (.idxL 0 (.int 0)) (.idxL 1 (.int 0))) [(.ret (.call 9 [(.idxL 0 (.int 0)), (.call 3 [(.idxL 0 (.int 1)), (.idxL 1 (.int 1)), (.loc 2)])]))] []), (.ifs (.cmp .lt (.call 2 [(.idxL 0 (.int 1)), (.idxL 1 (.int 1))]) (.int 0)) [(.ret (.call 9 [(.idxL 1 (.int 0)), (.call 4 [(.idxL 1 (.int 1)), (.idxL 0 (.int 1)), (.loc 2)])]))] []), (.ret (.call 9 [(.idxL 0 (.int 0)), (.call 4 [(.idxL 0 (.int 1)), (.idxL 1 (.int 1)), (.loc 2)])]))]⟩
/-- s_mul(x, y, w, mul): x y w mul -/
noncomputable def f_s_mul : Fn := ⟨4, 4, [(.ret (.call 9 [(.cmp .ne (.idxL 0 (.int 0)) (.idxL 1 (.int 0))), (.callV 3 [(.idxL 0 (.int 1)), (.idxL 1 (.int 1)), (.loc 2)])]))]⟩
/-- common(a, b, w, divrem): a b w divrem -/
noncomputable def f_common : Fn := ⟨4, 4, [(.whl (.cmp .gt (.lenL 1) (.int 0)) [(.asgT [0, 1] [(.loc 1), (.idx (.callV 3 [(.loc 0), (.loc 1), (.loc 2)]) (.int 1))])]), (.ret (.call 0 [(.loc 0)]))]⟩
/-- cut_signed(x, d, w, divrem): x d w divrem -/
noncomputable def f_cut_signed : Fn := ⟨4, 4, [(.ret (.tup [(.idxL 0 (.int 0)), (.idx (.callV 3 [(.idxL 0 (.int 1)), (.loc 1), (.loc 2)]) (.int 0))]))]⟩
/-- signed_of(nat): nat -/
noncomputable def f_signed_of : Fn := ⟨1, 1, [(.ret (.tup [(.bool false), (.loc 0)]))]⟩
/-- r_make(top, bottom, w, divrem): top bottom w divrem told -/
noncomputable def f_r_make : Fn := ⟨4, 5, [(.ifs (.cmp .eq (.len (.idxL 1 (.int 1))) (.int 0)) [.fail] []), (.ifs (.cmp .eq (.len (.idxL 0 (.int 1))) (.int 0)) [(.ret (.tup [(.tup [(.bool false), (.list [])]), (.list [(.int 1)])]))] []), (.asg 4 (.call 12 [(.idxL 0 (.int 1)), (.idxL 1 (.int 1)), (.loc 2), (.loc 3)])), (.ret (.tup [(.tup [(.cmp .ne (.idxL 0 (.int 0)) (.idxL 1 (.int 0))), (.idx (.callV 3 [(.idxL 0 (.int 1)), (.loc 4), (.loc 2)]) (.int 0))]), (.idx (.callV 3 [(.idxL 1 (.int 1)), (.loc 4), (.loc 2)]) (.int 0))]))]⟩
/-- r_add(x, y, w, mul, divrem): x y w mul divrem told here there top out -/
noncomputable def f_r_add : Fn := ⟨5, 10, [(.asg 5 (.call 12 [(.idxL 0 (.int 1)), (.idxL 1 (.int 1)), (.loc 2), (.loc 4)])), (.asgT [6, 7] [(.idx (.callV 4 [(.idxL 0 (.int 1)), (.loc 5), (.loc 2)]) (.int 0)), (.idx (.callV 4 [(.idxL 1 (.int 1)), (.loc 5), (.loc 2)]) (.int 0))]), (.asg 8 (.call 10 [(.call 11 [(.idxL 0 (.int 0)), (.call 14 [(.loc 7)]), (.loc 2), (.loc 3)]), (.call 11 [(.idxL 1 (.int 0)), (.call 14 [(.loc 6)]), (.loc 2), (.loc 3)]), (.loc 2)])), (.ifs (.cmp .eq (.len (.idxL 8 (.int 1))) (.int 0)) [(.ret (.tup [(.loc 8), (.list [(.int 1)])]))] []), (.asg 9 (.call 12 [(.idxL 8 (.int 1)), (.loc 5), (.loc 2), (.loc 4)])), (.ret (.tup [(.call 13 [(.loc 8), (.loc 9), (.loc 2), (.loc 4)]), (.callV 3 [(.loc 6), (.idx (.callV 4 [(.idxL 1 (.int 1)), (.loc 9), (.loc 2)]) (.int 0)), (.loc 2)])]))]⟩
/-- r_mul(x, y, w, mul, divrem): x y w mul divrem one other top -/
noncomputable def f_r_mul : Fn := ⟨5, 8, [(.ifs (.or (.cmp .eq (.len (.idx (.idxL 0 (.int 0)) (.int 1))) (.int 0)) (.cmp .eq (.len (.idx (.idxL 1 (.int 0)) (.int 1))) (.int 0))) [(.ret (.tup [(.tup [(.bool false), (.list [])]), (.list [(.int 1)])]))] []), (.asgT [5, 6] [(.call 12 [(.idx (.idxL 0 (.int 0)) (.int 1)), (.idxL 1 (.int 1)), (.loc 2), (.loc 4)]), (.call 12 [(.idx (.idxL 1 (.int 0)) (.int 1)), (.idxL 0 (.int 1)), (.loc 2), (.loc 4)])]), (.asg 7 (.call 11 [(.call 13 [(.idxL 0 (.int 0)), (.loc 5), (.loc 2), (.loc 4)]), (.call 13 [(.idxL 1 (.int 0)), (.loc 6), (.loc 2), (.loc 4)]), (.loc 2), (.loc 3)])), (.ret (.tup [(.loc 7), (.callV 3 [(.idx (.callV 4 [(.idxL 0 (.int 1)), (.loc 6), (.loc 2)]) (.int 0)), (.idx (.callV 4 [(.idxL 1 (.int 1)), (.loc 5), (.loc 2)]) (.int 0)), (.loc 2)])]))]⟩
/-- sieve(n): n is_left found one many -/
noncomputable def f_sieve : Fn := ⟨1, 5, [(.asg 1 (.bin .mul (.list [(.bool true)]) (.bin .add (.loc 0) (.int 1)))), (.asg 2 (.list [])), (.for1 3 (.range2 (.int 2) (.bin .add (.loc 0) (.int 1))) [(.ifs (.idxL 1 (.loc 3)) [(.app 2 (.loc 3)), (.for1 4 (.range3 (.bin .mul (.loc 3) (.loc 3)) (.bin .add (.loc 0) (.int 1)) (.loc 3)) [(.setL 1 (.loc 4) (.bool false))])] [])]), (.ret (.loc 2))]⟩
/-- need_count(n): n -/
noncomputable def f_need_count : Fn := ⟨1, 1, [(.ifs (.cmp .lt (.loc 0) (.int 0)) [.fail] [])]⟩
/-- power_of_count(base, many, w, mul): base many w mul found square -/
noncomputable def f_power_of_count : Fn := ⟨4, 6, [(.asgT [4, 5] [(.list [(.int 1)]), (.call 1 [(.loc 0), (.loc 2)])]), (.whl (.cmp .gt (.loc 1) (.int 0)) [(.ifs (.cmp .eq (.bin .mod (.loc 1) (.int 2)) (.int 1)) [(.asg 4 (.callV 3 [(.loc 4), (.loc 5), (.loc 2)]))] []), (.asg 1 (.bin .fdiv (.loc 1) (.int 2))), (.ifs (.cmp .gt (.loc 1) (.int 0)) [(.asg 5 (.callV 3 [(.loc 5), (.loc 5), (.loc 2)]))] [])]), (.ret (.loc 4))]⟩
/-- product_of_powers(pairs, w, mul): pairs w mul half -/
noncomputable def f_product_of_powers : Fn := ⟨3, 4, [(.ifs (.cmp .eq (.lenL 0) (.int 0)) [(.ret (.list [(.int 1)]))] []), (.ifs (.cmp .eq (.lenL 0) (.int 1)) [(.ret (.call 20 [(.idx (.idxL 0 (.int 0)) (.int 0)), (.idx (.idxL 0 (.int 0)) (.int 1)), (.loc 1), (.loc 2)]))] []), (.asg 3 (.bin .fdiv (.lenL 0) (.int 2))), (.ret (.callV 2 [(.call 21 [(.slcL 0 none (some (.loc 3))), (.loc 1), (.loc 2)]), (.call 21 [(.slcL 0 (some (.loc 3)) none), (.loc 1), (.loc 2)]), (.loc 1)]))]⟩
/-- factorial_exponent(n, prime): n prime found -/
noncomputable def f_factorial_exponent : Fn := ⟨2, 3, [(.asg 2 (.int 0)), (.whl (.cmp .gt (.loc 0) (.int 0)) [(.asg 0 (.bin .fdiv (.loc 0) (.loc 1))), (.aug 2 .add (.loc 0))]), (.ret (.loc 2))]⟩
/-- binomial(n, k, w, mul): n k w mul pairs prime many -/
noncomputable def f_binomial : Fn := ⟨4, 7, [(.ex (.call 19 [(.loc 0)])), (.ex (.call 19 [(.loc 1)])), (.ifs (.cmp .gt (.loc 1) (.loc 0)) [(.ret (.list []))] []), (.asg 4 (.list [])), (.for1 5 (.it (.call 18 [(.loc 0)])) [(.asg 6 (.bin .sub (.bin .sub (.call 22 [(.loc 0), (.loc 5)]) (.call 22 [(.loc 1), (.loc 5)])) (.call 22 [(.bin .sub (.loc 0) (.loc 1)), (.loc 5)]))), (.ifs (.cmp .gt (.loc 6) (.int 0)) [(.app 4 (.tup [(.loc 5), (.loc 6)]))] [])]), (.ret (.call 21 [(.loc 4), (.loc 2), (.loc 3)]))]⟩
/-- sum_of_products(pairs, w, mul): pairs w mul found a b -/
noncomputable def f_sum_of_products : Fn := ⟨3, 6, [(.asg 3 (.list [])), (.forT [4, 5] (.it (.loc 0)) [(.asg 3 (.call 3 [(.loc 3), (.callV 2 [(.loc 4), (.loc 5), (.loc 1)]), (.loc 1)]))]), (.ret (.loc 3))]⟩
/-- mul_school(a, b, w): a b w found mask at limb carry spot other -/
noncomputable def f_mul_school : Fn := ⟨3, 10, [(.asgT [3, 4] [(.bin .mul (.list [(.int 0)]) (.bin .add (.lenL 0) (.lenL 1))), (.bin .sub (.bin .shl (.int 1) (.loc 2)) (.int 1))]), (.forT [5, 6] (.enum (.loc 0)) [(.asg 7 (.int 0)), (.forT [8, 9] (.enum (.loc 1)) [(.aug 7 .add (.bin .add (.idxL 3 (.bin .add (.loc 5) (.loc 8))) (.bin .mul (.loc 6) (.loc 9)))), (.setL 3 (.bin .add (.loc 5) (.loc 8)) (.bin .band (.loc 7) (.loc 4))), (.aug 7 .shr (.loc 2))]), (.setL 3 (.bin .add (.loc 5) (.lenL 1)) (.loc 7))]), (.ret (.call 0 [(.loc 3)]))]⟩
/-- divrem_small(a, b, w): a b w quotient rest -/
noncomputable def f_divrem_small : Fn := ⟨3, 5, [(.asgU [3, 4] (.call 5 [(.loc 0), (.idxL 1 (.int 0)), (.loc 2)])), (.ret (.tup [(.loc 3), (.ife (.cmp .gt (.loc 4) (.int 0)) (.list [(.loc 4)]) (.list []))]))]⟩
/-- guessed_limb(top, first, second, w): top first second w high base limb rest -/
noncomputable def f_guessed_limb : Fn := ⟨4, 8, [(.asgT [4, 5] [(.bin .bor (.bin .shl (.idxL 0 (.int 2)) (.loc 3)) (.idxL 0 (.int 1))), (.bin .shl (.int 1) (.loc 3))]), (.asg 6 (.min2 (.bin .fdiv (.loc 4) (.loc 1)) (.bin .sub (.loc 5) (.int 1)))), (.asg 7 (.bin .sub (.loc 4) (.bin .mul (.loc 6) (.loc 1)))), (.whl (.and (.cmp .lt (.loc 7) (.loc 5)) (.cmp .gt (.bin .mul (.loc 6) (.loc 2)) (.bin .bor (.bin .shl (.loc 7) (.loc 3)) (.idxL 0 (.int 0))))) [(.aug 6 .sub (.int 1)), (.aug 7 .add (.loc 1))]), (.ret (.loc 6))]⟩
/-- take_away(rest, b, limb, at, w): rest b limb at w carry base spot other here -/
noncomputable def f_take_away : Fn := ⟨5, 10, [(.asgT [5, 6] [(.int 0), (.bin .shl (.int 1) (.loc 4))]), (.forT [7, 8] (.enum (.loc 1)) [(.asg 9 (.bin .sub (.idxL 0 (.bin .add (.loc 3) (.loc 7))) (.bin .mod (.bin .add (.bin .mul (.loc 2) (.loc 8)) (.loc 5)) (.loc 6)))), (.asg 5 (.bin .add (.bin .fdiv (.bin .add (.bin .mul (.loc 2) (.loc 8)) (.loc 5)) (.loc 6)) (.ife (.cmp .lt (.loc 9) (.int 0)) (.int 1) (.int 0)))), (.setL 0 (.bin .add (.loc 3) (.loc 7)) (.ife (.cmp .lt (.loc 9) (.int 0)) (.bin .add (.loc 9) (.loc 6)) (.loc 9)))]), (.asg 9 (.bin .sub (.idxL 0 (.bin .add (.loc 3) (.lenL 1))) (.loc 5))), (.setL 0 (.bin .add (.loc 3) (.lenL 1)) (.ife (.cmp .lt (.loc 9) (.int 0)) (.bin .add (.loc 9) (.loc 6)) (.loc 9))), (.ret (.ife (.cmp .lt (.loc 9) (.int 0)) (.int 1) (.int 0)))]⟩
/-- put_back(rest, b, at, w): rest b at w carry mask spot other -/
noncomputable def f_put_back : Fn := ⟨4, 8, [(.asgT [4, 5] [(.int 0), (.bin .sub (.bin .shl (.int 1) (.loc 3)) (.int 1))]), (.forT [6, 7] (.enum (.loc 1)) [(.aug 4 .add (.bin .add (.idxL 0 (.bin .add (.loc 2) (.loc 6))) (.loc 7))), (.setL 0 (.bin .add (.loc 2) (.loc 6)) (.bin .band (.loc 4) (.loc 5))), (.aug 4 .shr (.loc 3))]), (.setL 0 (.bin .add (.loc 2) (.lenL 1)) (.bin .band (.bin .add (.idxL 0 (.bin .add (.loc 2) (.lenL 1))) (.loc 4)) (.loc 5)))]⟩
/-- divide_rows(rest, b, w): rest b w size quotient at limb -/
noncomputable def f_divide_rows : Fn := ⟨3, 7, [(.asg 3 (.lenL 1)), (.asg 4 (.bin .mul (.list [(.int 0)]) (.bin .sub (.lenL 0) (.loc 3)))), (.for1 5 (.range3 (.bin .sub (.bin .sub (.lenL 0) (.loc 3)) (.int 1)) (.neg (.int 1)) (.neg (.int 1))) [(.asg 6 (.call 27 [(.slcL 0 (some (.bin .sub (.bin .add (.loc 5) (.loc 3)) (.int 2))) (some (.bin .add (.bin .add (.loc 5) (.loc 3)) (.int 1)))), (.idxL 1 (.bin .sub (.loc 3) (.int 1))), (.idxL 1 (.bin .sub (.loc 3) (.int 2))), (.loc 2)])), (.ifs (.cmp .eq (.callIO 28 0 [(.loc 1), (.loc 6), (.loc 5), (.loc 2)]) (.int 1)) [(.aug 6 .sub (.int 1)), (.ex (.callIO 29 0 [(.loc 1), (.loc 5), (.loc 2)]))] []), (.setL 4 (.loc 5) (.loc 6))]), (.ret (.loc 4))]⟩
/-- divrem_school(a, b, w): a b w shift divisor rest quotient -/
noncomputable def f_divrem_school : Fn := ⟨3, 7, [(.ifs (.cmp .eq (.lenL 1) (.int 0)) [.fail] []), (.ifs (.cmp .lt (.call 2 [(.loc 0), (.loc 1)]) (.int 0)) [(.ret (.tup [(.list []), (.slcL 0 none none)]))] []), (.ifs (.cmp .eq (.lenL 1) (.int 1)) [(.ret (.call 26 [(.loc 0), (.loc 1), (.loc 2)]))] []), (.asg 3 (.bin .sub (.loc 2) (.call 8 [(.list [(.idxL 1 (.neg (.int 1)))]), (.loc 2)]))), (.asg 4 (.call 6 [(.loc 1), (.loc 3), (.loc 2)])), (.asg 5 (.call 6 [(.loc 0), (.loc 3), (.loc 2)])), (.asg 5 (.bin .add (.loc 5) (.bin .mul (.list [(.int 0)]) (.bin .sub (.bin .add (.lenL 0) (.int 1)) (.lenL 5))))), (.asg 6 (.callIO 30 5 [(.loc 4), (.loc 2)])), (.ret (.tup [(.call 0 [(.loc 6)]), (.call 7 [(.call 0 [(.loc 5)]), (.loc 3), (.loc 2)])]))]⟩
/-- _law_limbs(number, w): number w found -/
noncomputable def f_law_limbs : Fn := ⟨2, 3, [(.asg 2 (.list [])), (.whl (.cmp .gt (.loc 0) (.int 0)) [(.app 2 (.bin .mod (.loc 0) (.bin .pow (.int 2) (.loc 1)))), (.asg 0 (.bin .fdiv (.loc 0) (.bin .pow (.int 2) (.loc 1))))]), (.ret (.loc 2))]⟩
/-- _law_signed(number, w): number w -/
noncomputable def f_law_signed : Fn := ⟨2, 2, [(.ret (.tup [(.cmp .lt (.loc 0) (.int 0)), (.call 32 [(.abs (.loc 0)), (.loc 1)])]))]⟩
/-- _law_listed(places): places orders turn longer order one up -/
noncomputable def f_law_listed : Fn := ⟨1, 7, [(.asg 1 (.list [(.tup [])])), (.for1 2 (.range1 (.loc 0)) [(.asg 3 (.list [])), (.for1 4 (.it (.loc 1)) [(.for1 5 (.range1 (.loc 0)) [(.asg 6 (.or (.cmp .eq (.loc 4) (.tup [])) (.cmp .eq (.cmp .gt (.loc 5) (.idxL 4 (.neg (.int 1)))) (.cmp .eq (.bin .mod (.lenL 4) (.int 2)) (.int 1))))), (.ifs (.and (.cmp .notin (.loc 5) (.loc 4)) (.loc 6)) [(.app 3 (.bin .add (.loc 4) (.tup [(.loc 5)])))] [])])]), (.asg 1 (.loc 3))]), (.ret (.lenL 1))]⟩
/-- _law_product(x, y, w): x y w -/
noncomputable def f_law_product : Fn := ⟨3, 3, [(.ret (.call 17 [(.loc 0), (.loc 1), (.loc 2), (.fn 25), (.fn 31)]))]⟩
/-- _law_plain(above, below, w): above below w -/
noncomputable def f_law_plain : Fn := ⟨3, 3, [(.ret (.call 15 [(.call 33 [(.loc 0), (.loc 2)]), (.call 33 [(.loc 1), (.loc 2)]), (.loc 2), (.fn 31)]))]⟩
/-- _law_bernoulli(many, w): many w found at total less part -/
noncomputable def f_law_bernoulli : Fn := ⟨2, 7, [(.asg 2 (.list [(.call 36 [(.int 1), (.int 1), (.loc 1)])])), (.for1 3 (.range2 (.int 1) (.loc 0)) [(.asg 4 (.call 36 [(.int 0), (.int 1), (.loc 1)])), (.for1 5 (.range1 (.loc 3)) [(.asg 6 (.call 15 [(.tup [(.bool false), (.call 23 [(.bin .add (.loc 3) (.int 1)), (.loc 5), (.loc 1), (.fn 25)])]), (.tup [(.bool false), (.list [(.int 1)])]), (.loc 1), (.fn 31)])), (.asg 4 (.call 16 [(.loc 4), (.call 35 [(.loc 6), (.idxL 2 (.loc 5)), (.loc 1)]), (.loc 1), (.fn 25), (.fn 31)]))]), (.app 2 (.call 35 [(.loc 4), (.call 36 [(.neg (.int 1)), (.bin .add (.loc 3) (.int 1)), (.loc 1)]), (.loc 1)]))]), (.ret (.loc 2))]⟩
/-- _law_waved(wave, many): wave many -/
noncomputable def f_law_waved : Fn := ⟨2, 2, [(.setL 0 (.int 0) (.bin .add (.idxL 0 (.int 0)) (.int 1))), (.ifs (.cmp .le (.idxL 0 (.int 0)) (.len (.idxL 0 (.int 1)))) [(.ret (.bin .mod (.idx (.idxL 0 (.int 1)) (.bin .sub (.idxL 0 (.int 0)) (.int 1))) (.loc 1)))] []), (.ret (.bin .mod (.bin .add (.bin .add (.bin .mul (.int 8) (.idxL 0 (.int 0))) (.bin .fdiv (.idxL 0 (.int 0)) (.int 3))) (.int 1)) (.loc 1)))]⟩
noncomputable def fns : List Fn := [f_normal, f_nat_of, f_compare, f_add, f_sub, f_divrem_limb, f_shift_left, f_shift_right, f_bits, f_signed, f_s_add, f_s_mul, f_common, f_cut_signed, f_signed_of, f_r_make, f_r_add, f_r_mul, f_sieve, f_need_count, f_power_of_count, f_product_of_powers, f_factorial_exponent, f_binomial, f_sum_of_products, f_mul_school, f_divrem_small, f_guessed_limb, f_take_away, f_put_back, f_divide_rows, f_divrem_school, f_law_limbs, f_law_signed, f_law_listed, f_law_product, f_law_plain, f_law_bernoulli, f_law_waved]
/-- law behind its first two statements: script wave w places row ends size longer ahead pairs at told half fours due -/
noncomputable def lawRest : List IS := [(.asgT [4, 5] [(.list [(.list [(.int 1)])]), (.list [(.list [(.int 1)])])]), (.for1 6 (.range2 (.int 1) (.int 7)) [(.asg 7 (.list [(.list [])])), (.for1 8 (.it (.revL 4)) [(.app 7 (.call 3 [(.idxL 7 (.neg (.int 1))), (.loc 8), (.loc 2)]))]), (.asg 4 (.loc 7)), (.app 5 (.idxL 4 (.neg (.int 1)))), (.ifs (.and (.cmp .eq (.loc 6) (.loc 3)) (.cmp .ne (.idxL 4 (.neg (.int 1))) (.call 32 [(.call 34 [(.loc 3)]), (.loc 2)]))) [(.ret (.bool false))] [])]), (.for1 6 (.range2 (.int 1) (.int 6)) [(.asg 9 (.list [])), (.for1 10 (.range1 (.bin .add (.loc 6) (.int 1))) [(.app 9 (.tup [(.call 23 [(.loc 6), (.loc 10), (.loc 2), (.fn 25)]), (.call 25 [(.idxL 5 (.loc 10)), (.idxL 5 (.bin .sub (.loc 6) (.loc 10))), (.loc 2)])]))]), (.ifs (.cmp .ne (.call 24 [(.loc 9), (.loc 2), (.fn 25)]) (.call 3 [(.idxL 5 (.bin .add (.loc 6) (.int 1))), (.idxL 5 (.bin .add (.loc 6) (.int 1))), (.loc 2)])) [(.ret (.bool false))] [])]), (.asg 11 (.call 37 [(.int 5), (.loc 2)])), (.for1 12 (.range2 (.int 1) (.int 3)) [(.asg 13 (.bin .pow (.int 4) (.loc 12))), (.asg 14 (.call 35 [(.idxL 11 (.bin .mul (.int 2) (.loc 12))), (.call 36 [(.bin .mul (.loc 13) (.bin .sub (.loc 13) (.int 1))), (.bin .mul (.int 2) (.loc 12)), (.loc 2)]), (.loc 2)])), (.ifs (.cmp .ne (.loc 14) (.tup [(.tup [(.cmp .eq (.bin .mod (.loc 12) (.int 2)) (.int 0)), (.idxL 5 (.bin .sub (.bin .mul (.int 2) (.loc 12)) (.int 1)))]), (.list [(.int 1)])])) [(.ret (.bool false))] [])]), (.ret (.bool true))]
/-- its second statement -/
noncomputable def lawTwo : IS := (.asgT [2, 3] [(.bin .add (.int 3) (.callIO 38 1 [(.int 6)])), (.bin .add (.int 2) (.callIO 38 1 [(.int 4)]))])
noncomputable def lawSlots : Nat := 15
-- names
-- normal 0 a end
-- nat_of 1 number w found mask
-- compare 2 a b at
-- add 3 a b w found carry mask at
-- sub 4 a b w found borrow base at limb
-- divrem_limb 5 a limb w found rest at
-- shift_left 6 a n w spots few found carry mask one
-- shift_right 7 a n w spots few found mask at above
-- bits 8 a w
-- signed 9 is_below nat
-- s_add 10 x y w
-- s_mul 11 x y w mul
-- common 12 a b w divrem
-- cut_signed 13 x d w divrem
-- signed_of 14 nat
-- r_make 15 top bottom w divrem told
-- r_add 16 x y w mul divrem told here there top out
-- r_mul 17 x y w mul divrem one other top
-- sieve 18 n is_left found one many
-- need_count 19 n
-- power_of_count 20 base many w mul found square
-- product_of_powers 21 pairs w mul half
-- factorial_exponent 22 n prime found
-- binomial 23 n k w mul pairs prime many
-- sum_of_products 24 pairs w mul found a b
-- mul_school 25 a b w found mask at limb carry spot other
-- divrem_small 26 a b w quotient rest
-- guessed_limb 27 top first second w high base limb rest
-- take_away 28 rest b limb at w carry base spot other here
-- put_back 29 rest b at w carry mask spot other
-- divide_rows 30 rest b w size quotient at limb
-- divrem_school 31 a b w shift divisor rest quotient
-- _law_limbs 32 number w found
-- _law_signed 33 number w
-- _law_listed 34 places orders turn longer order one up
-- _law_product 35 x y w
-- _law_plain 36 above below w
-- _law_bernoulli 37 many w found at total less part
-- _law_waved 38 wave many
end Mine
end
section
open PySem PySem.W PySem.Calls PyProof.Rows
namespace Mine

noncomputable abbrev IsT (h : Heap) (a : Addr) (vs : Array Value) (n : Nat) : Prop := h.get? a = some { cls := .type "tuple", dict := none, data := .seq vs n, slots := #[] }
theorem IsT.isTuple {h : Heap} {a : Addr} {vs : Array Value} {n : Nat} (x : IsT h a vs n) : h.IsTuple a vs := ⟨_, x, rfl, n, rfl⟩
theorem IsT.isTup {h : Heap} {a : Addr} {vs : Array Value} {n : Nat} (x : IsT h a vs n) : IsTup h a vs := ⟨_, x, rfl, n, rfl⟩

theorem all_at {α : Type} : ∀ l : List α, (List.range l.length).filterMap (fun i => l[i]?) = l
  | [] => rfl
  | a :: r => by
    rw [List.length_cons, List.range_succ_eq_map, List.filterMap_cons]
    simp only [List.getElem?_cons_zero, List.filterMap_map]
    exact congrArg (a :: ·) (all_at r)
theorem down_range (n : Nat) : sliceRange ((n : Int) - 1) (-1) (-1) = (List.range n).reverse := by
  have hc : (if (-1 : Int) > 0 then (if (n : Int) - 1 < -1 then (-1 - ((n : Int) - 1) + -1 - 1) / -1 else 0) else (if (n : Int) - 1 > -1 then ((n : Int) - 1 - -1 - -1 - 1) / (- -1) else 0)) = (n : Int) := by
    rw [if_neg (by decide)]
    rw [show (- -1 : Int) = 1 by decide, Int.ediv_one]
    split <;> omega
  unfold sliceRange
  simp only [hc, Int.toNat_natCast]
  refine List.ext_getElem (by simp) fun i h1 h2 => ?_
  simp only [List.length_map, List.length_range] at h1
  rw [List.getElem_map, List.getElem_reverse, List.getElem_range, List.getElem_range, List.length_range]
  omega
theorem rev_pick (vs : Array Value) : slicePick vs none none (some (-1)) = vs.toList.reverse.toArray := by
  show ((sliceRange ((vs.size : Int) - 1) (-1) (-1)).filterMap (vs[·]?)).toArray = _
  rw [down_range, List.filterMap_reverse]
  have := all_at vs.toList
  simp only [Array.getElem?_toList, Array.length_toList] at this
  rw [this]
section
variable {prog : Program} {w : World} {A : Around} {E : Value → Shared → Prop} {s : Shared} {env : Env}

theorem lf_newList {vs : List Value} {Q : Value → Shared → Prop} (hz : vs.length ≤ 2000)
    (h : Q (.ref s.heap.objs.size) { s with heap := s.heap.push { cls := .type "list", data := .seq vs.toArray } }) :
    wpAny (model prog w) A (newList vs) Q E s :=
  wpAny_newObj_type h (by show vs.toArray.size ≤ sizeLine; rw [List.size_toArray, sizeLine_eq]; omega)
theorem lf_newTuple {vs : List Value} {Q : Value → Shared → Prop} (hz : vs.length ≤ 2000)
    (h : Q (.ref s.heap.objs.size) { s with heap := s.heap.push { cls := .type "tuple", data := .seq vs.toArray } }) :
    wpAny (model prog w) A (newTuple vs) Q E s :=
  wpAny_newObj_type h (by show vs.toArray.size ≤ sizeLine; rw [List.size_toArray, sizeLine_eq]; omega)

theorem lf_bool {b : Bool} {k pos} {Q : Value → Shared → Prop} (h : Q (.bool b) s) : wpAny (model prog w) A (eval (.Constant (.bool b) k pos) env) Q E s := fun _ _ _ => h

theorem place_short {i : Int} {n j : Nat} (hp : placeI i n = some j) : n < 2000 := by
  unfold placeI at hp
  cases hb : Nat.blt n 2000 with
  | true => exact Nat.le_of_ble_eq_true hb
  | false => rw [hb] at hp; cases hp
theorem place_nat {m n j : Nat} (hp : placeI (Int.ofNat m) n = some j) : m = j ∧ m < n := by
  unfold placeI at hp
  cases hz : Nat.blt n 2000 with
  | false => rw [hz] at hp; cases hp
  | true =>
    rw [hz] at hp
    dsimp only at hp
    cases hb : Nat.blt m n with
    | true => rw [hb] at hp; exact ⟨Option.some.inj hp, Nat.le_of_ble_eq_true hb⟩
    | false => rw [hb] at hp; cases hp
theorem place_neg {m n j : Nat} (hp : placeI (Int.negSucc m) n = some j) : n - m.succ = j ∧ m < n := by
  unfold placeI at hp
  cases hz : Nat.blt n 2000 with
  | false => rw [hz] at hp; cases hp
  | true =>
    rw [hz] at hp
    dsimp only at hp
    cases hb : Nat.blt m n with
    | true => rw [hb] at hp; exact ⟨Option.some.inj hp, Nat.le_of_ble_eq_true hb⟩
    | false => rw [hb] at hp; cases hp
theorem short_eq {l z : List PyData} (h : shortD l = some z) : l = z ∧ lenD l < 2000 := by
  unfold shortD at h
  cases hb : Nat.blt (lenD l) 2000 with
  | true => rw [hb] at h; exact ⟨Option.some.inj h, Nat.le_of_ble_eq_true hb⟩
  | false => rw [hb] at h; cases h
/-- x[i] of a list, an index in bounds -/
theorem lf_item_list {value slice : Expr} {l : Addr} {vs : Array Value} {n : Nat} {k : Int} {u : Tok} {j : Nat} {x : Value} {Q : Value → Shared → Prop} (hl : IsL s.heap l vs n)
    (hp : placeI k vs.size = some j) (hx : vs[j]? = some x) (h : Q x s)
    (hs : subscripted slice false (.ref l) (.int k u) = operate [.ref l, .int k u] (getItem (.ref l) (.int k u))) :
    wpAny (model prog w) A (subscriptTail value slice (.ref l) (.int k u)) Q E s := by
  have hz := place_short hp
  refine tail_any hl.isList.typeIs slot_list_getitem.lookup ?_ hs
  cases k with
  | ofNat m =>
    obtain ⟨rfl, hb⟩ := place_nat hp
    refine wpAny_getItem_list hl.isList (Int.natCast_nonneg m) ?_ hx h
    show (m : Int) < 2 ^ 63
    omega
  | negSucc m =>
    obtain ⟨rfl, hb⟩ := place_neg hp
    have e : (Int.negSucc m + (vs.size : Int)).toNat = vs.size - m.succ := by omega
    exact wpAny_getItem_list_neg hl.isList (Int.negSucc_lt_zero m) (by omega) (by omega) (by rw [e]; exact hx) h
theorem seqIndex_place {k : Int} {n j : Nat} (hp : placeI k n = some j) : seqIndex? k n = some j ∧ -(n : Int) ≤ k ∧ k < n := by
  cases k with
  | ofNat m =>
    obtain ⟨rfl, hb⟩ := place_nat hp
    refine ⟨seqIndex_of (k := Int.ofNat m) (Int.natCast_nonneg m) (Int.ofNat_lt.mpr hb), ?_, ?_⟩
    · show -(n : Int) ≤ (m : Int); omega
    · show (m : Int) < n; omega
  | negSucc m =>
    obtain ⟨rfl, hb⟩ := place_neg hp
    refine ⟨?_, by omega, by omega⟩
    rw [seqIndex_neg (Int.negSucc_lt_zero m) (by omega)]
    congr 1
    omega
theorem lf_item_tuple {value slice : Expr} {l : Addr} {vs : Array Value} {n : Nat} {k : Int} {u : Tok} {j : Nat} {x : Value} {Q : Value → Shared → Prop} (hl : IsT s.heap l vs n)
    (hp : placeI k vs.size = some j) (hx : vs[j]? = some x) (h : Q x s)
    (hs : subscripted slice false (.ref l) (.int k u) = operate [.ref l, .int k u] (getItem (.ref l) (.int k u))) :
    wpAny (model prog w) A (subscriptTail value slice (.ref l) (.int k u)) Q E s := by
  obtain ⟨h1, h2, h3⟩ := seqIndex_place hp
  have hz := place_short hp
  refine item_tupleT (l := vs.toList) (j := j) (by rw [Array.toArray_toList]; exact hl.isTup) (by omega) (by omega) (by simpa using h1) (by simpa using hx) h hs

/-- no argument of the call is starred -/
noncomputable def plainArgs : List Expr → Prop
  | [] => True
  | e :: r => (∀ x p, e ≠ .Starred x p) ∧ plainArgs r
theorem starEach_plain {e : Expr} {r : List Expr} (h : ∀ x p, e ≠ .Starred x p) : starEach (e :: r) env = (false, eval e env) :: starEach r env := by
  cases e <;> first | rfl | exact absurd rfl (h _ _)
theorem starEach_any {pos : Pos} : ∀ {es : List Expr}, plainArgs es → (backTo pos (starEach es env)).any (·.1) = false
  | [], _ => rfl
  | e :: r, h => by
    rw [starEach_plain h.1]
    show (false || (backTo pos (starEach r env)).any (·.1)) = false
    rw [starEach_any h.2]; rfl
theorem lf_more {e : Expr} {rest : List Expr} {pos : Pos} {Q : List Value → Shared → Prop} (hp : ∀ x p, e ≠ .Starred x p)
    (h : wpAny (model prog w) A (eval e env) (fun v s₁ => wpAny (model prog w) A (spliced (backTo pos (starEach rest env))) (fun vs s₂ => Q (v :: vs) s₂) E s₁) E s) :
    wpAny (model prog w) A (spliced (backTo pos (starEach (e :: rest) env))) Q E s := spliced_more h (starEach_plain hp)

theorem lf_evalArgs {f : Value} {e : Expr} {r : List Expr} {pos : Pos} {Q : Args → Shared → Prop} (hp : plainArgs (e :: r))
    (h : wpAny (model prog w) A (spliced (backTo pos (starEach (e :: r) env))) (fun vs s' => Q ⟨vs, []⟩ s') E s) :
    wpAny (model prog w) A (evalArgs f true (backTo pos (starEach (e :: r) env)) []) Q E s := by
  rw [starEach_plain hp.1] at h ⊢
  exact evalArgs_plain h
/-- a call of one of the text's defs -/
theorem lf_callWith {pos : Pos} {f : Addr} {o : Obj} {fd : FuncData} {e : Expr} {r : List Expr} {Q : Value → Shared → Prop} (hp : plainArgs (e :: r)) (hdat : o.data = .func fd)
    (h : wpAny (model prog w) A (spliced (backTo pos (starEach (e :: r) env))) (fun vs s₁ => s₁.heap.get? f = some o ∧ wpAny (model prog w) A (call (.ref f) vs) Q E s₁) E s) :
    wpAny (model prog w) A (callWith pos (.ref f) [] (backTo pos (starEach (e :: r) env)) []) Q E s :=
  callWith_def hdat h (starEach_plain hp.1)
theorem lf_callB {pos : Pos} {id : String} {e : Expr} {r : List Expr} {Q : Value → Shared → Prop} (hp : plainArgs (e :: r))
    (h : wpAny (model prog w) A (spliced (backTo pos (starEach (e :: r) env))) (fun vs s₁ => wpAny (model prog w) A (call (.builtin id) vs) Q E s₁) E s) :
    wpAny (model prog w) A (callWith pos (.builtin id) [] (backTo pos (starEach (e :: r) env)) []) Q E s :=
  PyProof.Rows.callWith_builtin1 h (starEach_plain hp.1) (starEach_any hp.2)
theorem lf_callT {pos : Pos} {T : String} {e : Expr} {r : List Expr} {Q : Value → Shared → Prop} (hp : plainArgs (e :: r))
    (h : wpAny (model prog w) A (spliced (backTo pos (starEach (e :: r) env))) (fun vs s₁ => wpAny (model prog w) A (call (.type T) vs) Q E s₁) E s) :
    wpAny (model prog w) A (callWith pos (.type T) [] (backTo pos (starEach (e :: r) env)) []) Q E s :=
  PyProof.Rows.callWith_type1 h (starEach_plain hp.1) (starEach_any hp.2)

theorem size_line {n : Nat} (h : n ≤ 4000) : n ≤ sizeLine := by rw [sizeLine_eq]; omega

theorem lf_add_lists {l b : Addr} {xs ys : Array Value} {n k : Nat} {Q : Value → Shared → Prop} (hl : IsL s.heap l xs n) (hb : IsL s.heap b ys k) (hz : xs.size + ys.size ≤ 4000)
    (h : Q (.ref s.heap.objs.size) { s with heap := s.heap.push { cls := .type "list", data := .seq (xs ++ ys) } }) : wpAny (model prog w) A (binaryOp .Add (.ref l) (.ref b)) Q E s :=
  P.add_list hl hb h (size_line hz)
theorem lf_mul_list {l : Addr} {items : Array Value} {k m : Nat} {u : Tok} {Q : Value → Shared → Prop} (hl : IsL s.heap l items k) (h1 : items.size = 1) (hm : m < 1000)
    (h : Q (.ref s.heap.objs.size) { s with heap := s.heap.push { cls := .type "list", data := .seq (List.foldl (fun x1 x2 => x1 ++ x2) #[] (List.replicate m items)) } }) :
    wpAny (model prog w) A (binaryOp .Mult (.ref l) (.int (Int.ofNat m) u)) Q E s := by
  have hx : (if items.isEmpty = true then 0 else (Int.ofNat m).toNat) = m := by
    rw [if_neg]
    · rfl
    · intro e
      have : items.size = 0 := by simpa using e
      omega
  refine wpAny_binaryOp_repeat_ref (T := "list") (U := "int") (by decide) ⟨_, hl, rfl⟩ (fun s' => typeIs_int s' _ u) noFill_list_mul F.fills_int_mul F.slot_int_rmul repeat_list F.slot_int_index.lookup
    (call_meets F.slot_int_rmul (typeIs_int s _ u) F.entry_int_rmul (F.args_int_rmul_2 _ _) (int___rmul___int_list _ u l items k)
      ⟨hl, rfl, ⟨_, hl, rfl⟩, call_meets F.slot_list_mul ⟨_, hl, rfl⟩ F.entry_list_mul (F.args_list_mul_2 _ _)
        (AutoListH.list___mul___list_int_3 l items k _ u ?_ ?_ ?_)
        ⟨hl, ?_⟩⟩)
  · have : (0 : Int) ≤ Int.ofNat m := Int.natCast_nonneg m
    have h2 : Int.ofNat m < 1000 := by show (m : Int) < 1000; omega
    simp [Builtin.List.listFitsIndex]; omega
  · rw [h1]; show ¬ (1 * m > _); omega
  · rw [h1]
    have : 1 * (Int.ofNat m).toNat = m := by show 1 * m = m; omega
    rw [this]
    simp [Builtin.List.listTooLong, sizeLine]; omega
  · rw [hx]
    exact h
theorem lf_add_tuples {t b : Addr} {vs ws : List Value} {n k : Nat} {Q : Value → Shared → Prop} (ht : IsT s.heap t vs.toArray n) (hb : IsT s.heap b ws.toArray k) (hz : vs.length + ws.length ≤ 4000)
    (h0 : vs = [] → Q (.ref b) s) (h1 : vs ≠ [] → ws = [] → Q (.ref t) s)
    (h2 : vs ≠ [] → ws ≠ [] → Q (.ref s.heap.objs.size) { s with heap := s.heap.push { cls := .type "tuple", data := .seq (vs ++ ws).toArray } }) :
    wpAny (model prog w) A (binaryOp .Add (.ref t) (.ref b)) Q E s := by
  have e : vs.toArray ++ ws.toArray = (vs ++ ws).toArray := by simp
  by_cases hv : vs = []
  · exact concat_meets ⟨_, ht, rfl⟩ ⟨_, hb, rfl⟩ noFill_tuple_add seq_tuple_add PySem.F.slot_tuple_add PySem.F.entry_tuple_add (PySem.F.args_tuple_add_2 _ _)
      (tuple_addW0 t b vs.toArray ws.toArray n k none none #[] #[] (by simp [hv])) ⟨ht, hb, h0 hv⟩
  · by_cases hw : ws = []
    · exact concat_meets ⟨_, ht, rfl⟩ ⟨_, hb, rfl⟩ noFill_tuple_add seq_tuple_add PySem.F.slot_tuple_add PySem.F.entry_tuple_add (PySem.F.args_tuple_add_2 _ _)
        (tuple_addW1 t b vs.toArray ws.toArray n k none none #[] #[] (by simpa using hv) (by simp [hw])) ⟨ht, hb, h1 hv hw⟩
    · refine concat_meets ⟨_, ht, rfl⟩ ⟨_, hb, rfl⟩ noFill_tuple_add seq_tuple_add PySem.F.slot_tuple_add PySem.F.entry_tuple_add (PySem.F.args_tuple_add_2 _ _)
        (tuple_addW2 t b vs.toArray ws.toArray n k none none #[] #[] (by simpa using hv) (by simpa using hw) (by rw [List.size_toArray, List.size_toArray]; exact size_line hz)) ⟨ht, hb, ?_⟩
      rw [e]
      exact h2 hv hw

theorem lf_len_list {l : Addr} {vs : Array Value} {n : Nat} {Q : Value → Shared → Prop} (hl : IsL s.heap l vs n) (hz : vs.size ≤ 2000)
    (h : ∀ u tk, Q (.int (Int.ofNat vs.size) u) { s with toks := tk }) : wpAny (model prog w) A (call (.builtin "len") [.ref l]) Q E s :=
  call_len_list hl.isList (by omega) (h _ _)
theorem lf_len_tuple {l : Addr} {vs : Array Value} {n : Nat} {Q : Value → Shared → Prop} (hl : IsT s.heap l vs n) (hz : vs.size ≤ 2000)
    (h : ∀ u tk, Q (.int (Int.ofNat vs.size) u) { s with toks := tk }) : wpAny (model prog w) A (call (.builtin "len") [.ref l]) Q E s :=
  len_tuple hl.isTup (by omega) (h _ _)
theorem lf_append {o elt : Expr} {apos pos : Pos} {Q : Value → Shared → Prop} (hb : ∀ x y, attributeBase o x env y = y) (hp : ∀ x p, elt ≠ .Starred x p) (hline : (apos.endLine == pos.line) = true)
    (h : wpAny (model prog w) A (eval o env) (fun ov s₁ => ∃ D vs n, ov = .ref D ∧ IsL s₁.heap D vs n ∧
      wpAny (model prog w) A (eval elt env) (fun y s₂ => ∃ us k, IsL s₂.heap D us k ∧ us.size ≤ 2000 ∧ ∀ h', (∃ k', IsL h' D (us.push y) k') → Heap.SameBut D s₂.heap h' → Q .none { s₂ with heap := h' }) E s₁) E s) :
    wpAny (model prog w) A (eval (.Call (.Attribute o (Str.ofString "append") apos) [elt] [] pos) env) Q E s := by
  have hs : starEach [elt] env = [(false, eval elt env)] := starEach_plain hp
  refine wpAny_Call_append (hb _ _) (by rw [hs]; rfl) hline (by rw [hs]; rfl) (wpAny_mono h (fun ov s₁ h₁ => ?_) fun _ _ x => x)
  obtain ⟨D, vs, n, rfl, hl, h₁⟩ := h₁
  refine ⟨D, vs, rfl, ⟨_, n, hl, rfl, rfl, rfl⟩, wpAny_mono h₁ (fun y s₂ h₂ => ?_) fun _ _ x => x⟩
  obtain ⟨us, k, hu, hz, hq⟩ := h₂
  refine wpAny_call_entry slot_list_append hu.isList.typeIs entry_list_append ?_ (args_list_append _ _)
  show wpAny _ _ (updateSeq D (·.push y) >>= fun _ => ret .none) _ _ s₂
  refine wpAny_bind ?_
  refine wpAny_updateSeq hu rfl (wpAny_pure ⟨.none, rfl, hq _ ⟨_, Heap.get?_update_self _ hu rfl⟩ (Heap.SameBut.update ..)⟩) (size_line (by omega))
theorem lf_bitlen {o : Expr} {apos pos : Pos} {Q : Value → Shared → Prop} (hb : ∀ x y, attributeBase o x env y = y) (hline : (apos.endLine == pos.line) = true)
    (h : wpAny (model prog w) A (eval o env) (fun ov s₁ => ∃ a t, ov = .int a t ∧ Q (.int (Builtin.Int.intBits a) s₁.toks) { s₁ with toks := s₁.toks + 1 }) E s) :
    wpAny (model prog w) A (eval (.Call (.Attribute o (Str.ofString "bit_length") apos) [] [] pos) env) Q E s := by
  refine Call_method0 (hb _ _) hline (wpAny_mono h (fun ov s₁ h₁ => ?_) fun _ _ x => x)
  obtain ⟨a, t, rfl, hq⟩ := h₁
  exact ⟨"int", "int.bit_length", F.plainAttrs_int, F.slot_int_bit_length, F.type_int_bit_length, typeIs_int _ _ _, (fun _ e => nomatch e),
    method0_gives F.slot_int_bit_length F.entry_int_bit_length (typeIs_int _ _ _) (F.args_int_bit_length_1 _) (AutoIntG2.int_bit_length_int_0 a t) hq⟩
theorem lf_min {a b : Int} {t u : Tok} {Q : Value → Shared → Prop} (hh : A.handled = none)
    (h : ∀ h' tk v, (∀ c o, s.heap.get? c = some o → h'.get? c = some o) → Q (.int (if b < a then b else a) v) { s with heap := h', toks := tk }) :
    wpAny (model prog w) A (call (.builtin "min") [.int a t, .int b u]) Q E s :=
  min_two_ints hh fun h' tk hk => by
    by_cases c : b < a
    · have := h h' tk u hk; simpa only [if_pos c] using this
    · have := h h' tk t hk; simpa only [if_neg c] using this
/-- l[k] = v, the object as it then stands -/
theorem lf_setAt {l : Addr} {items : Array Value} {n : Nat} {k : Int} {t : Tok} {v : Value} {Q : Unit → Shared → Prop} (ho : IsL s.heap l items n) (h0 : 0 ≤ k) (hk : k < items.size) (hz : items.size < 2000)
    (hQ : Q () { s with heap := s.heap.update l (Obj.mapSeq (·.setIfInBounds k.toNat v)) }) : wpAny (model prog w) A (setItem (.ref l) (.int k t) v) Q E s := by
  have hT := (PySem.IsL.isList ho).typeIs
  have fit : Builtin.List.listFitsIndex k = true := fitsIndex_of h0 (by omega)
  unfold setItem
  first
    | refine wpAny_bind (wpAny_sequenceKey hT (by decide) ?_)
    | (refine wpAny_bind (wpAny_pure ?_); refine wpAny_bind (wpAny_sequenceKey hT (by decide) ?_))
    | (refine wpAny_holding ?_; refine wpAny_bind (wpAny_sequenceKey hT (by decide) ?_))
    | (refine wpAny_holding ?_; refine wpAny_bind (wpAny_pure ?_); refine wpAny_bind (wpAny_sequenceKey hT (by decide) ?_))
  refine wpAny_bind (wpAny_callSpecial?_slot (name := Str.ofString "__setitem__") hT slot_list_setitem (wpAny_call_entry slot_list_setitem hT entry_list_setitem ?_ (args_list_setitem _ _ _)))
  show wpAny _ _ (Builtin.List.listSubscript? (.int k t) >>= _) _ _ s
  refine wpAny_bind (wpAny_listSubscript_int fit ?_)
  clear fit
  obtain ⟨j, rfl⟩ := Int.eq_ofNat_of_zero_le h0
  have hx : items[j]? = some items[j] := Array.getElem?_eq_getElem (by omega)
  show wpAny _ _ ((seqItemAt l j >>= fun r => pure (r.map (j, ·))) >>= _) _ _ s
  refine wpAny_bind (wpAny_bind (wpAny_seqItemAt ho rfl (wpAny_pure ?_)))
  rw [hx]
  show wpAny _ _ (setSeqItemAt l j v >>= _) _ _ s
  refine wpAny_bind (wpAny_setSeqItemAt ho rfl ?_)
  first
    | exact wpAny_pure ⟨.none, rfl, wpAny_pure hQ⟩
    | exact wpAny_bind (wpAny_pure (wpAny_pure ⟨.none, rfl, wpAny_pure hQ⟩))
/-- x[::-1] of a list -/
theorem lf_rev {y : Str} {k : Nat} {p p1 p2 p3 pos : Pos} {Q : Value → Shared → Prop}
    (h : wpAny (model prog w) A (eval (.Name y p) env) (fun o s₁ => ∃ l vs n, o = .ref l ∧ IsL s₁.heap l vs n ∧ vs.size ≤ 2000 ∧
      ∀ h' tk D, (∀ b o, s₁.heap.get? b = some o → h'.get? b = some o) → s₁.heap.get? D = none → IsL h' D vs.toList.reverse.toArray 0 → Q (.ref D) { s₁ with heap := h', toks := tk }) E s) :
    wpAny (model prog w) A (eval (.Subscript (.Name y p) (.Slice none none (some (.UnaryOp .USub (.Constant (.int 1) k p3) p2)) p1) pos) env) Q E s := by
  refine wpAny_Subscript_Slice_step (T := "list") list_getitem_lookup (wpAny_mono h (fun o s₁ h₁ => wpAny_Slice (wpAny_pure (wpAny_pure (UnaryOp_ (wpAny_Constant_int (neg_int ?_)))))) fun _ _ x => x)
  obtain ⟨l, vs, n, rfl, hl, hz, hq⟩ := h₁
  obtain ⟨H, g, dr, tk, os⟩ := s₁
  have hl0 : H.IsList l vs := hl.isList
  have hl' : Heap.IsList (H.push { cls := .type "slice", data := .fields #[.none, .none, .int (-1) (tk + 1)] }) l vs := hl0.push _
  refine ⟨hl'.typeIs, wpAny_getItem_list_slice hl' (Heap.IsSliceOf.new ..) .none .none (.int _ _) (by decide) ?_ (size_line (by omega))⟩
  generalize hG : (H.push { cls := .type "slice", data := .fields #[.none, .none, .int (-1) (tk + 1)] }) = G
  have hz2 : G.objs.size = H.objs.size + 1 := by rw [← hG]; exact Heap.size_push ..
  have hk : ∀ b o, H.get? b = some o → G.get? b = some o := fun b o e => by rw [← hG]; exact Heap.get?_push_of_some _ e
  have e1 := Heap.get?_push_size G (o := { cls := .type "list", data := .seq (slicePick vs none none (some (-1))) }) rfl
  rw [rev_pick] at e1
  refine hq (G.push { cls := .type "list", data := .seq (slicePick vs none none (some (-1))) }) (tk + 1 + 1) G.objs.size (fun b o e => Heap.get?_push_of_some _ (hk b o e)) ?_ ?_
  · cases e : H.get? G.objs.size with
    | none => rfl
    | some o => exact absurd (Heap.lt_size e) (Nat.not_lt.mpr (by rw [hz2]; exact Nat.le_succ _))
  · rw [rev_pick]
    exact e1
end
end Mine
end
section
open PySem PySem.Calls PyProof.Rows
namespace Mine

noncomputable abbrev Fz := Addr → Prop

mutual
/-- v reads as d, all of it frozen -/
inductive RV (h : Heap) (F : Fz) : Value → PyData → Prop
  | none : RV h F .none .none
  | bool (b : Bool) : RV h F (.bool b) (.bool b)
  | int (i : Int) (t : Tok) : RV h F (.int i t) (.int i)
  | list {a : Addr} {vs : Array Value} {n : Nat} {xs : List PyData} : F a → IsL h a vs n → RVs h F vs.toList xs → RV h F (.ref a) (.list xs)
  | tuple {a : Addr} {vs : Array Value} {n : Nat} {xs : List PyData} : F a → IsT h a vs n → RVs h F vs.toList xs → RV h F (.ref a) (.tuple xs)
inductive RVs (h : Heap) (F : Fz) : List Value → List PyData → Prop
  | nil : RVs h F [] []
  | cons {v : Value} {vs : List Value} {d : PyData} {ds : List PyData} : RV h F v d → RVs h F vs ds → RVs h F (v :: vs) (d :: ds)
end

mutual
theorem RV.mono {h h' : Heap} {F F' : Fz} (hF : ∀ a, F a → F' a) (hk : ∀ a o, F a → h.get? a = some o → h'.get? a = some o) : ∀ {v d}, RV h F v d → RV h' F' v d
  | _, _, .none => .none
  | _, _, .bool b => .bool b
  | _, _, .int i t => .int i t
  | _, _, .list f l r => .list (hF _ f) (hk _ _ f l) (RVs.mono hF hk r)
  | _, _, .tuple f l r => .tuple (hF _ f) (hk _ _ f l) (RVs.mono hF hk r)
theorem RVs.mono {h h' : Heap} {F F' : Fz} (hF : ∀ a, F a → F' a) (hk : ∀ a o, F a → h.get? a = some o → h'.get? a = some o) : ∀ {vs ds}, RVs h F vs ds → RVs h' F' vs ds
  | _, _, .nil => .nil
  | _, _, .cons x r => .cons (RV.mono hF hk x) (RVs.mono hF hk r)
end
mutual
theorem RV.reads {h : Heap} {F : Fz} : ∀ {v d}, RV h F v d → ∃ as, Reads h v d as
  | _, _, .none => ⟨_, .none⟩
  | _, _, .bool b => ⟨_, .bool b⟩
  | _, _, .int i t => ⟨_, .int i t⟩
  | _, _, .list _ l r => let ⟨as, x⟩ := RVs.reads r; ⟨_, .list l rfl rfl x⟩
  | _, _, .tuple _ l r => let ⟨as, x⟩ := RVs.reads r; ⟨_, .tuple l rfl rfl x⟩
theorem RVs.reads {h : Heap} {F : Fz} : ∀ {vs ds}, RVs h F vs ds → ∃ as, ReadsAll h vs ds as
  | _, _, .nil => ⟨_, .nil⟩
  | _, _, .cons x r => let ⟨_, y⟩ := RV.reads x; let ⟨_, z⟩ := RVs.reads r; ⟨_, .cons y z⟩
end
mutual
theorem RV.canLay {h : Heap} {F : Fz} : ∀ {v d}, RV h F v d → d.canLay0 = true
  | _, _, .none => by simp [PyData.canLay0]
  | _, _, .bool b => by simp [PyData.canLay0]
  | _, _, .int i t => by simp [PyData.canLay0]
  | _, _, .list _ _ r => by rw [PyData.canLay0]; exact RVs.canLay r
  | _, _, .tuple _ _ r => by rw [PyData.canLay0]; exact RVs.canLay r
theorem RVs.canLay {h : Heap} {F : Fz} : ∀ {vs ds}, RVs h F vs ds → PyData.canLayAll0 ds = true
  | _, _, .nil => by simp [PyData.canLayAll0]
  | _, _, .cons x r => by rw [PyData.canLayAll0, RV.canLay x, RVs.canLay r]; rfl
end
theorem RVs.length {h : Heap} {F : Fz} : ∀ {vs ds}, RVs h F vs ds → vs.length = lenD ds
  | _, _, .nil => rfl
  | _, _, .cons _ r => by rw [List.length_cons, RVs.length r]; rfl
theorem lenD_eq : ∀ ds : List PyData, lenD ds = ds.length
  | [] => rfl
  | _ :: r => by rw [lenD, lenD_eq r]; rfl
theorem RVs.get {h : Heap} {F : Fz} : ∀ {vs ds} {j : Nat} {d : PyData}, RVs h F vs ds → getD? ds j = some d → ∃ v, vs[j]? = some v ∧ RV h F v d
  | _, _, _, _, .nil, e => by cases e
  | _, _, 0, _, .cons x _, e => by cases e; exact ⟨_, rfl, x⟩
  | _, _, j + 1, _, .cons _ r, e => by
    obtain ⟨v, h1, h2⟩ := RVs.get r (j := j) e
    exact ⟨v, by simpa using h1, h2⟩
theorem RVs.append {h : Heap} {F : Fz} : ∀ {vs ds} {us es}, RVs h F vs ds → RVs h F us es → RVs h F (vs ++ us) (ds ++ es)
  | _, _, _, _, .nil, y => y
  | _, _, _, _, .cons x r, y => .cons x (RVs.append r y)
theorem RVs.take {h : Heap} {F : Fz} : ∀ (n : Nat) {vs ds}, RVs h F vs ds → RVs h F (vs.take n) (takeD n ds)
  | 0, _, _, _ => by rw [List.take_zero]; exact .nil
  | _ + 1, _, _, .nil => .nil
  | n + 1, _, _, .cons x r => .cons x (RVs.take n r)
theorem RVs.drop {h : Heap} {F : Fz} : ∀ (n : Nat) {vs ds}, RVs h F vs ds → RVs h F (vs.drop n) (dropD n ds)
  | 0, _, _, r => r
  | _ + 1, _, _, .nil => .nil
  | n + 1, _, _, .cons _ r => RVs.drop n r
theorem RVs.reverse {h : Heap} {F : Fz} : ∀ {vs ds}, RVs h F vs ds → RVs h F vs.reverse ds.reverse
  | _, _, .nil => .nil
  | _, _, .cons x r => by rw [List.reverse_cons, List.reverse_cons]; exact (RVs.reverse r).append (.cons x .nil)
theorem RVs.set {h : Heap} {F : Fz} : ∀ {vs ds} {j : Nat} {v : Value} {d : PyData} {ds' : List PyData}, RVs h F vs ds → RV h F v d → setD ds j d = some ds' → j < vs.length ∧ RVs h F (vs.set j v) ds'
  | _, _, _, _, _, _, .nil, _, e => by cases e
  | _, _, 0, _, _, _, .cons _ r, y, e => by cases e; exact ⟨Nat.zero_lt_succ _, .cons y r⟩
  | _, _, j + 1, _, _, _, .cons (ds := ds) x r, y, e => by
    unfold setD at e
    cases q : setD ds j _ with
    | none => rw [q] at e; cases e
    | some z =>
      rw [q] at e
      cases e
      obtain ⟨h1, h2⟩ := RVs.set r y q
      exact ⟨Nat.succ_lt_succ h1, .cons x h2⟩
theorem RVs.rep {h : Heap} {F : Fz} {vs ds} (r : RVs h F vs ds) : ∀ n : Nat, RVs h F (List.replicate n vs).flatten (repD n ds)
  | 0 => .nil
  | n + 1 => by rw [List.replicate_succ, List.flatten_cons]; exact r.append (RVs.rep r n)
theorem rep_arr (items : Array Value) : ∀ m : Nat, (List.foldl (fun x1 x2 => x1 ++ x2) #[] (List.replicate m items)).toList = (List.replicate m items.toList).flatten := by
  have key : ∀ (m : Nat) (acc : Array Value), (List.foldl (fun x1 x2 => x1 ++ x2) acc (List.replicate m items)).toList = acc.toList ++ (List.replicate m items.toList).flatten := by
    intro m
    induction m with
    | zero => intro acc; simp
    | succ m ih => intro acc; rw [List.replicate_succ, List.foldl_cons, ih, Array.toList_append, List.replicate_succ, List.flatten_cons, List.append_assoc]
  intro m
  rw [key]; rfl

/-- what a step may do: all that stood keeps, but what D says; what is frozen stays so -/
structure Stp (D : Addr → Prop) (h : Heap) (F : Fz) (h' : Heap) (F' : Fz) : Prop where
  keep : ∀ b o, h.get? b = some o → ¬ D b → h'.get? b = some o
  mono : ∀ a, F a → F' a
  new : ∀ a, F' a → F a ∨ D a ∨ h.get? a = none
theorem Stp.refl (D : Addr → Prop) (h : Heap) (F : Fz) : Stp D h F h F := ⟨fun _ _ e _ => e, fun _ x => x, fun _ x => .inl x⟩
theorem Stp.trans {D D' : Addr → Prop} {h h' h'' : Heap} {F F' F'' : Fz} (x : Stp D h F h' F') (y : Stp D' h' F' h'' F'') (hD : ∀ a, D' a → D a ∨ h.get? a = none) : Stp D h F h'' F'' where
  keep b o e n := y.keep b o (x.keep b o e n) fun q => (hD b q).elim n fun z => by rw [e] at z; cases z
  mono a q := y.mono a (x.mono a q)
  new a q := by
    rcases y.new a q with q | q | q
    · exact x.new a q
    · exact .inr (hD a q)
    · by_cases n : D a
      · exact .inr (.inl n)
      · cases e : h.get? a with
        | none => exact .inr (.inr rfl)
        | some o => rw [x.keep a o e n] at q; cases q
theorem Stp.weak {D D' : Addr → Prop} {h h' : Heap} {F F' : Fz} (x : Stp D h F h' F') (hD : ∀ a, D a → D' a) : Stp D' h F h' F' :=
  ⟨fun b o e n => x.keep b o e fun q => n (hD b q), x.mono, fun a q => (x.new a q).imp_right (·.imp_left (hD a))⟩
theorem Stp.fz {D : Addr → Prop} {h h' : Heap} {F F' : Fz} (x : Stp D h F h' F') (hd : ∀ a, F a → ¬ D a) : ∀ a o, F a → h.get? a = some o → h'.get? a = some o := fun a o f e => x.keep a o e (hd a f)
theorem RV.step {D : Addr → Prop} {h h' : Heap} {F F' : Fz} {v : Value} {d : PyData} (r : RV h F v d) (x : Stp D h F h' F') (hd : ∀ a, F a → ¬ D a) : RV h' F' v d := r.mono x.mono (x.fz hd)
theorem RVs.step {D : Addr → Prop} {h h' : Heap} {F F' : Fz} {v : List Value} {d : List PyData} (r : RVs h F v d) (x : Stp D h F h' F') (hd : ∀ a, F a → ¬ D a) : RVs h' F' v d := r.mono x.mono (x.fz hd)
/-- heaps that only grow -/
theorem Stp.grow {D : Addr → Prop} {h h' : Heap} {F : Fz} (hk : ∀ b o, h.get? b = some o → h'.get? b = some o) : Stp D h F h' F := ⟨fun b o e _ => hk b o e, fun _ x => x, fun _ x => .inl x⟩
theorem Stp.push {D : Addr → Prop} {h : Heap} {F : Fz} (o : Obj) : Stp D h F (h.push o) F := .grow fun _ _ => Heap.get?_push_of_some o
/-- one more address frozen, new or dirty -/
theorem Stp.freeze {D : Addr → Prop} {h : Heap} {F : Fz} {a : Addr} (ha : D a ∨ h.get? a = none) : Stp D h F h (fun b => F b ∨ b = a) :=
  ⟨fun _ _ e _ => e, fun _ x => .inl x, fun _ x => x.elim .inl fun e => .inr (e ▸ ha)⟩
theorem Stp.fresh {D : Addr → Prop} {h h' : Heap} {F F' : Fz} (x : Stp D h F h' F') {a : Addr} (e : h'.get? a = none) : D a ∨ h.get? a = none := by
  by_cases n : D a
  · exact .inl n
  · cases q : h.get? a with
    | none => exact .inr rfl
    | some o => rw [x.keep a o q n] at e; cases e
theorem get_size (h : Heap) : h.get? h.objs.size = none := by
  cases e : h.get? h.objs.size with
  | none => rfl
  | some o => exact absurd (Heap.lt_size e) (Nat.lt_irrefl _)
end Mine
end
section
open PySem PySem.Calls PyProof.Rows
namespace Mine

noncomputable def defAt : List DefRec → Nat → Option DefRec
  | [], _ => none
  | d :: _, 0 => some d
  | _ :: r, n + 1 => defAt r n

/-- the static side of a frame: the slots' names, the scope -/
structure Fs where
  nm : List Str
  sc : Scope
structure Fs.Ok (s : Fs) : Prop where
  kind : s.sc.kind = .function
  nd : s.nm.Nodup
  loc : ∀ x ∈ s.nm, s.sc.names.lookup x = some .local

section
variable (defs : List DefRec) (fs : Fs)
noncomputable def LocN (x : Nat) (y : Str) : Prop := fs.nm[x]? = some y ∧ (y == ("__debug__" : Str)) = false
noncomputable def GlbN (y : Str) : Prop := fs.sc.names.lookup y = some .globalImplicit ∧ (y == ("__debug__" : Str)) = false
noncomputable def opOf : BOp → Operator
  | .add => .Add | .sub => .Sub | .mul => .Mult | .fdiv => .FloorDiv | .mod => .Mod | .pow => .Pow | .shl => .LShift | .shr => .RShift | .band => .BitAnd | .bor => .BitOr
noncomputable def copOf : COp → CmpOp
  | .eq => .Eq | .ne => .NotEq | .lt => .Lt | .le => .LtE | .gt => .Gt | .ge => .GtE | .notin => .NotIn
noncomputable def NoSlice (e : Expr) : Prop := ∀ o i, subscripted e false o i = operate [o, i] (getItem o i)
noncomputable def NoSup (e : Expr) : Prop := ∀ x env y, attributeBase e x env y = y
noncomputable def NoStar (e : Expr) : Prop := ∀ x p, e ≠ .Starred x p

mutual
/-- the term e of the evaluator is the expression -/
inductive CkE : IE → Expr → Prop
  | int (i : Int) (k : Nat) (pos : Pos) : CkE (.int i) (.Constant (.int i) k pos)
  | bool (b : Bool) (k : Nat) (pos : Pos) : CkE (.bool b) (.Constant (.bool b) k pos)
  | loc {x : Nat} {y : Str} {pos : Pos} : LocN fs x y → CkE (.loc x) (.Name y pos)
  | fn {k : Nat} {d : DefRec} {pos : Pos} : defAt defs k = some d → GlbN fs d.name → CkE (.fn k) (.Name d.name pos)
  | bin {op : BOp} {a b : IE} {ea eb : Expr} {pos : Pos} : CkE a ea → CkE b eb → CkE (.bin op a b) (.BinOp ea (opOf op) eb pos)
  | cmp {op : COp} {a b : IE} {ea eb : Expr} {pos : Pos} : behindInMarks (copOf op) eb = false → CkE a ea → CkE b eb → CkE (.cmp op a b) (.Compare ea [copOf op] [eb] pos)
  | and {a b : IE} {ea eb : Expr} {pos : Pos} : CkE a ea → CkE b eb → CkE (.and a b) (.BoolOp .And [ea, eb] pos)
  | or {a b : IE} {ea eb : Expr} {pos : Pos} : CkE a ea → CkE b eb → CkE (.or a b) (.BoolOp .Or [ea, eb] pos)
  | neg {a : IE} {ea : Expr} {pos : Pos} : CkE a ea → CkE (.neg a) (.UnaryOp .USub ea pos)
  | ife {t a b : IE} {et ea eb : Expr} {pos : Pos} : CkE t et → CkE a ea → CkE b eb → CkE (.ife t a b) (.IfExp et ea eb pos)
  | idx {e i : IE} {ee ei : Expr} {pos : Pos} : NoSlice ei → CkE e ee → CkE i ei → CkE (.idx e i) (.Subscript ee ei pos)
  | idxL {x : Nat} {y : Str} {i : IE} {ei : Expr} {p pos : Pos} : LocN fs x y → NoSlice ei → CkE i ei → CkE (.idxL x i) (.Subscript (.Name y p) ei pos)
  | slcL {x : Nat} {y : Str} {lo hi : Option IE} {elo ehi : Option Expr} {p p' pos : Pos} : LocN fs x y → CkO lo elo → CkO hi ehi → CkE (.slcL x lo hi) (.Subscript (.Name y p) (.Slice elo ehi none p') pos)
  | revL {x : Nat} {y : Str} {k : Nat} {p p1 p2 p3 pos : Pos} : LocN fs x y → CkE (.revL x) (.Subscript (.Name y p) (.Slice none none (some (.UnaryOp .USub (.Constant (.int 1) k p3) p2)) p1) pos)
  | len {e : IE} {ee : Expr} {p pos : Pos} : GlbN fs (Str.ofString "len") → CkE e ee → CkE (.len e) (.Call (.Name (Str.ofString "len") p) [ee] [] pos)
  | lenL {x : Nat} {y : Str} {p p' pos : Pos} : GlbN fs (Str.ofString "len") → LocN fs x y → CkE (.lenL x) (.Call (.Name (Str.ofString "len") p) [.Name y p'] [] pos)
  | list {es : List IE} {ees : List Expr} {pos : Pos} : CkEs es ees → CkE (.list es) (.List ees pos)
  | tup {es : List IE} {ees : List Expr} {k : Nat} {pos : Pos} : CkEs es ees → CkE (.tup es) (.Tuple ees k pos)
  | call {k : Nat} {d : DefRec} {e : IE} {es : List IE} {ee : Expr} {ees : List Expr} {p pos : Pos} : defAt defs k = some d → GlbN fs d.name → CkEs (e :: es) (ee :: ees) → CkE (.call k (e :: es)) (.Call (.Name d.name p) (ee :: ees) [] pos)
  | callV {x : Nat} {y : Str} {e : IE} {es : List IE} {ee : Expr} {ees : List Expr} {p pos : Pos} : LocN fs x y → CkEs (e :: es) (ee :: ees) → CkE (.callV x (e :: es)) (.Call (.Name y p) (ee :: ees) [] pos)
  | callIO {k : Nat} {d : DefRec} {x : Nat} {y : Str} {es : List IE} {ees : List Expr} {p p' pos : Pos} : defAt defs k = some d → GlbN fs d.name → LocN fs x y → CkEs es ees → CkE (.callIO k x es) (.Call (.Name d.name p) (.Name y p' :: ees) [] pos)
  | min2 {a b : IE} {ea eb : Expr} {p pos : Pos} : GlbN fs (Str.ofString "min") → CkE a ea → CkE b eb → CkE (.min2 a b) (.Call (.Name (Str.ofString "min") p) [ea, eb] [] pos)
  | abs {a : IE} {ea : Expr} {p pos : Pos} : GlbN fs (Str.ofString "abs") → CkE a ea → CkE (.abs a) (.Call (.Name (Str.ofString "abs") p) [ea] [] pos)
  | bitlen {a : IE} {ea : Expr} {ap pos : Pos} : NoSup ea → (ap.endLine == pos.line) = true → CkE a ea → CkE (.bitlen a) (.Call (.Attribute ea (Str.ofString "bit_length") ap) [] [] pos)
inductive CkEs : List IE → List Expr → Prop
  | nil : CkEs [] []
  | cons {e : IE} {es : List IE} {ee : Expr} {ees : List Expr} : CkE e ee → CkEs es ees → CkEs (e :: es) (ee :: ees)
inductive CkO : Option IE → Option Expr → Prop
  | none : CkO none none
  | some {e : IE} {ee : Expr} : CkE e ee → CkO (some e) (some ee)
end

theorem CkE.noStar {e : IE} {ee : Expr} (c : CkE defs fs e ee) : NoStar ee := by
  intro x p h
  subst h
  cases c
theorem CkEs.plain : ∀ {es : List IE} {ees : List Expr}, CkEs defs fs es ees → plainArgs ees
  | _, _, .nil => trivial
  | _, _, .cons c r => ⟨CkE.noStar defs fs c, CkEs.plain r⟩
theorem CkE.noSwap {e : IE} {ee : Expr} (c : CkE defs fs e ee) (t : Option Expr) (l : Nat) (env : Env) : swapsWith ee t l env = pure false := by
  cases c <;> rfl

/-- where a loop's items come from -/
inductive CkSrc : Src → Expr → Prop
  | range1 {a : IE} {ea : Expr} {p pos : Pos} : GlbN fs (Str.ofString "range") → CkE defs fs a ea → CkSrc (.range1 a) (.Call (.Name (Str.ofString "range") p) [ea] [] pos)
  | range2 {a b : IE} {ea eb : Expr} {p pos : Pos} : GlbN fs (Str.ofString "range") → CkE defs fs a ea → CkE defs fs b eb → CkSrc (.range2 a b) (.Call (.Name (Str.ofString "range") p) [ea, eb] [] pos)
  | range3 {a b c : IE} {ea eb ec : Expr} {p pos : Pos} : GlbN fs (Str.ofString "range") → CkE defs fs a ea → CkE defs fs b eb → CkE defs fs c ec → CkSrc (.range3 a b c) (.Call (.Name (Str.ofString "range") p) [ea, eb, ec] [] pos)
  | enum {e : IE} {ee : Expr} {p pos : Pos} : GlbN fs (Str.ofString "enumerate") → CkE defs fs e ee → CkSrc (.enum e) (.Call (.Name (Str.ofString "enumerate") p) [ee] [] pos)
  | it {e : IE} {ee : Expr} : CkE defs fs e ee → CkSrc (.it e) ee

/-- the names of a tuple of targets -/
inductive CkT : List Nat → List Expr → Prop
  | nil : CkT [] []
  | cons {x : Nat} {y : Str} {p : Pos} {xs : List Nat} {es : List Expr} : LocN fs x y → CkT xs es → CkT (x :: xs) (.Name y p :: es)

mutual
inductive CkS : IS → Stmt → Prop
  | asg {x : Nat} {y : Str} {e : IE} {ee : Expr} {p pos : Pos} : LocN fs x y → CkE defs fs e ee → CkS (.asg x e) (.Assign [.Name y p] ee pos)
  | asgT2 {x1 x2 : Nat} {y1 y2 : Str} {es : List IE} {ees : List Expr} {p1 p2 tp vp pos : Pos} {k k' : Nat} : LocN fs x1 y1 → LocN fs x2 y2 → CkEs defs fs es ees →
      (∀ env : Env, env.scope = fs.sc → swappedStores [.Tuple [.Name y1 p1, .Name y2 p2] k tp] (.Tuple ees k' vp) env = pure (some [y1, y2])) →
      CkS (.asgT [x1, x2] es) (.Assign [.Tuple [.Name y1 p1, .Name y2 p2] k tp] (.Tuple ees k' vp) pos)
  | asgT3 {x1 x2 x3 : Nat} {y1 y2 y3 : Str} {es : List IE} {ees : List Expr} {p1 p2 p3 tp vp pos : Pos} {k k' : Nat} : LocN fs x1 y1 → LocN fs x2 y2 → LocN fs x3 y3 → CkEs defs fs es ees →
      (∀ env : Env, env.scope = fs.sc → swappedStores [.Tuple [.Name y1 p1, .Name y2 p2, .Name y3 p3] k tp] (.Tuple ees k' vp) env = pure (some [y1, y2, y3])) →
      CkS (.asgT [x1, x2, x3] es) (.Assign [.Tuple [.Name y1 p1, .Name y2 p2, .Name y3 p3] k tp] (.Tuple ees k' vp) pos)
  | asgU {xs : List Nat} {ts : List Expr} {e : IE} {ee : Expr} {k : Nat} {tp pos : Pos} : CkT fs xs ts → CkE defs fs e ee → (∀ env : Env, swappedStores [.Tuple ts k tp] ee env = pure none) →
      CkS (.asgU xs e) (.Assign [.Tuple ts k tp] ee pos)
  | setL {x : Nat} {y : Str} {i e : IE} {ei ee : Expr} {p p' pos : Pos} : LocN fs x y → CkE defs fs i ei → CkE defs fs e ee → CkS (.setL x i e) (.Assign [.Subscript (.Name y p) ei p'] ee pos)
  | aug {x : Nat} {y : Str} {op : BOp} {e : IE} {ee : Expr} {p pos : Pos} : LocN fs x y → CkE defs fs e ee → CkS (.aug x op e) (.AugAssign (.Name y p) (opOf op) ee pos)
  | app {x : Nat} {y : Str} {e : IE} {ee : Expr} {p ap cp pos : Pos} : LocN fs x y → (ap.endLine == cp.line) = true → CkE defs fs e ee → CkS (.app x e) (.Expr (.Call (.Attribute (.Name y p) (Str.ofString "append") ap) [ee] [] cp) pos)
  | ex {e : IE} {ee : Expr} {pos : Pos} : CkE defs fs e ee → CkS (.ex e) (.Expr ee pos)
  | ifs {t : IE} {a b : List IS} {et : Expr} {ea eb : List Stmt} {pos : Pos} : CkE defs fs t et → CkSs a ea → CkSs b eb → CkS (.ifs t a b) (.If et ea eb pos)
  | whl {t : IE} {a : List IS} {et : Expr} {ea : List Stmt} {pos : Pos} : CkE defs fs t et → CkSs a ea → CkS (.whl t a) (.While et ea [] pos)
  | for1 {x : Nat} {y : Str} {s : Src} {es : Expr} {a : List IS} {ea : List Stmt} {p pos : Pos} : LocN fs x y → CkSrc defs fs s es → CkSs a ea → CkS (.for1 x s a) (.For (.Name y p) es ea [] pos)
  | forT {xs : List Nat} {ts : List Expr} {s : Src} {es : Expr} {a : List IS} {ea : List Stmt} {k : Nat} {p pos : Pos} : CkT fs xs ts → CkSrc defs fs s es → CkSs a ea → CkS (.forT xs s a) (.For (.Tuple ts k p) es ea [] pos)
  | ret {e : IE} {ee : Expr} {pos : Pos} : CkE defs fs e ee → CkS (.ret e) (.Return (some ee) pos)
  | fail {s : Stmt} : CkS .fail s
inductive CkSs : List IS → List Stmt → Prop
  | nil : CkSs [] []
  | cons {s : IS} {ss : List IS} {st : Stmt} {sts : List Stmt} : CkS s st → CkSs ss sts → CkSs (s :: ss) (st :: sts)
end
end
end Mine
end
section
open PySem PySem.Calls PyProof.Rows
namespace Mine

/-- the top: the globals and the heap that stands -/
structure Cx where
  mg : Str → Option Value
  h₀ : Heap
  defs : List DefRec
structure Cx.Ok (X : Cx) : Prop where
  g : X.h₀.Ns mainGlobals X.mg
  b : ∃ mb, X.h₀.Ns builtinsNs mb ∧ mb (Str.ofString "len") = some (.builtin "len") ∧ mb (Str.ofString "range") = some (.type "range") ∧ mb (Str.ofString "enumerate") = some (.type "enumerate") ∧
    mb (Str.ofString "min") = some (.builtin "min") ∧ mb (Str.ofString "abs") = some (.builtin "abs")
  free : X.mg (Str.ofString "len") = none ∧ X.mg (Str.ofString "range") = none ∧ X.mg (Str.ofString "enumerate") = none ∧ X.mg (Str.ofString "min") = none ∧ X.mg (Str.ofString "abs") = none
  nolimit : X.h₀.NoLimit
  fn : ∀ k d, defAt X.defs k = some d → ∃ a o pm code doc, X.mg d.name = some (.ref a) ∧ X.h₀.get? a = some o ∧ o.data = .func (docDef d.name d.params d.body d.scope pm code doc) ∧ X.h₀.CodeRec code d.name

/-- the value is def k -/
noncomputable def FnV (X : Cx) (k : Nat) (v : Value) : Prop := ∃ d, defAt X.defs k = some d ∧ X.mg d.name = some v
/-- what stood keeps and is frozen; what is frozen lives -/
structure BI (X : Cx) (h : Heap) (F : Fz) : Prop where
  base : ∀ b o, X.h₀.get? b = some o → h.get? b = some o ∧ F b
  alive : ∀ a, F a → ∃ o, h.get? a = some o

/-- a frame -/
structure Fm where
  fs : Fs
  name : Str
  L : Addr
  a : Addr
  cd : Value
  v0 : Option Value
noncomputable abbrev Fm.env (f : Fm) : Env := envOf f.name f.fs.sc f.L f.a f.cd

noncomputable def RSl (X : Cx) (L : Addr) (m : Str → Option Value) (h : Heap) (F : Fz) (x : Option Str) : Loc → Prop
  | .un => True
  | .val d => ∃ y v, x = some y ∧ m y = some v ∧ RV h F v d
  | .own l => ∃ y a vs n, x = some y ∧ m y = some (.ref a) ∧ ¬ F a ∧ a ≠ L ∧ IsL h a vs n ∧ RVs h F vs.toList l
  | .fn k => ∃ y v, x = some y ∧ m y = some v ∧ FnV X k v
/-- a is the list of slot i's own -/
noncomputable def OwnAt (σ : St) (nm : List Str) (m : Str → Option Value) (i : Nat) (a : Addr) : Prop := (∃ l, getS σ i = .own l) ∧ ∃ y, nm[i]? = some y ∧ m y = some (.ref a)
noncomputable def Own (σ : St) (nm : List Str) (m : Str → Option Value) (a : Addr) : Prop := ∃ i, OwnAt σ nm m i a

structure StR (X : Cx) (f : Fm) (m : Str → Option Value) (h : Heap) (F : Fz) (σ : St) : Prop where
  bi : BI X h F
  ns : h.Ns f.L m
  nL : ¬ F f.L
  sl : ∀ i, RSl X f.L m h F f.fs.nm[i]? (getS σ i)
  dist : ∀ i j a, OwnAt σ f.fs.nm m i a → OwnAt σ f.fs.nm m j a → i = j
  own0 : ∀ l y, getS σ 0 = .own l → f.fs.nm[0]? = some y → m y = f.v0

section
variable {X : Cx} {f : Fm} {m : Str → Option Value} {h h' : Heap} {F F' : Fz} {σ σ' : St}

theorem StR.ownFz (S : StR X f m h F σ) {a : Addr} (o : Own σ f.fs.nm m a) : ¬ F a ∧ a ≠ f.L ∧ ∃ vs n, IsL h a vs n := by
  obtain ⟨i, ⟨l, hl⟩, y, hy, hm⟩ := o
  have r := S.sl i
  rw [hl] at r
  obtain ⟨y', a', vs, n, e1, e2, h1, h2, h3, _⟩ := r
  rw [hy] at e1; cases e1
  rw [hm] at e2; cases e2
  exact ⟨h1, h2, vs, n, h3⟩
theorem StR.fd (S : StR X f m h F σ) : ∀ a, F a → ¬ Own σ f.fs.nm m a := fun _ x o => (S.ownFz o).1 x
theorem StR.Lne (S : StR X f m h F σ) : ¬ Own σ f.fs.nm m f.L := fun o => (S.ownFz o).2.1 rfl
theorem BI.step (B : BI X h F) {D : Addr → Prop} (x : Stp D h F h' F') (hd : ∀ a, F a → ¬ D a) (ha : ∀ a, F' a → ∃ o, h'.get? a = some o) : BI X h' F' :=
  ⟨fun b o e => ⟨x.keep b o (B.base b o e).1 (hd b (B.base b o e).2), x.mono b (B.base b o e).2⟩, ha⟩
theorem Ns.stay {L : Addr} (hn : h.Ns L m) (hk : ∀ o, h.get? L = some o → h'.get? L = some o) : h'.Ns L m :=
  let ⟨o, es, ep, e, r⟩ := hn; ⟨o, es, ep, hk _ e, r⟩

theorem RSl.mono {L : Addr} {x : Option Str} {l : Loc} (hF : ∀ a, F a → F' a) (hk : ∀ a o, F a → h.get? a = some o → h'.get? a = some o)
    (ho : ∀ v y a, l = .own v → x = some y → m y = some (.ref a) → ¬ F' a ∧ ∀ o, h.get? a = some o → h'.get? a = some o) (r : RSl X L m h F x l) : RSl X L m h' F' x l := by
  cases l with
  | un => trivial
  | val d => obtain ⟨y, v, e1, e2, r⟩ := r; exact ⟨y, v, e1, e2, r.mono hF hk⟩
  | fn k => exact r
  | own v =>
    obtain ⟨y, a, vs, n, e1, e2, h1, h2, h3, r⟩ := r
    obtain ⟨n1, n2⟩ := ho v y a rfl e1 e2
    exact ⟨y, a, vs, n, e1, e2, n1, h2, n2 _ h3, r.mono hF hk⟩

/-- the frame as it is behind a step that touches no list of its own -/
theorem StR.step (S : StR X f m h F σ) {D : Addr → Prop} (x : Stp D h F h' F') (hD : ∀ a, D a → ∀ o, h.get? a = some o → ¬ F a ∧ ¬ Own σ f.fs.nm m a ∧ a ≠ f.L) (hn : ∀ a, D a → F' a → h.get? a = none)
    (ha : ∀ a, F' a → ∃ o, h'.get? a = some o) : StR X f m h' F' σ := by
  have oL : ∃ o, h.get? f.L = some o := let ⟨o, _, _, e, _⟩ := S.ns; ⟨o, e⟩
  have key : ∀ a o, h.get? a = some o → (F a ∨ Own σ f.fs.nm m a ∨ a = f.L) → h'.get? a = some o := fun a o e q => x.keep a o e fun d => by
    obtain ⟨d1, d2, d3⟩ := hD a d o e
    rcases q with q | q | q
    · exact d1 q
    · exact d2 q
    · exact d3 q
  have nF : ∀ a o, h.get? a = some o → ¬ F a → ¬ F' a := fun a o e n q => by
    rcases x.new a q with z | z | z
    · exact n z
    · rw [hn a z q] at e; cases e
    · rw [z] at e; cases e
  refine ⟨⟨fun b o e => ⟨key b o (S.bi.base b o e).1 (.inl (S.bi.base b o e).2), x.mono b (S.bi.base b o e).2⟩, ha⟩, Ns.stay S.ns fun o e => key _ o e (.inr (.inr rfl)), ?_, fun i => ?_, S.dist, S.own0⟩
  · obtain ⟨o, e⟩ := oL
    exact nF _ o e S.nL
  · refine (S.sl i).mono x.mono (fun a o fz e => key a o e (.inl fz)) fun v y a e1 e2 e3 => ?_
    have ow : Own σ f.fs.nm m a := ⟨i, ⟨v, e1⟩, y, e2, e3⟩
    obtain ⟨n1, _, vs, n, hl⟩ := S.ownFz ow
    exact ⟨nF a _ hl n1, fun o e => key a o e (.inr (.inl ow))⟩
/-- heaps that only grow -/
theorem StR.grow (S : StR X f m h F σ) (hk : ∀ b o, h.get? b = some o → h'.get? b = some o) : StR X f m h' F σ :=
  S.step (Stp.grow (D := fun _ => False) hk) (fun _ d => d.elim) (fun _ d => d.elim) fun a fa => let ⟨o, e⟩ := S.bi.alive a fa; ⟨o, hk _ _ e⟩
/-- one more frozen -/
theorem StR.freeze (S : StR X f m h F σ) {a : Addr} (ho : ¬ Own σ f.fs.nm m a) (hL : a ≠ f.L) (ha : ∃ o, h.get? a = some o) : StR X f m h (fun b => F b ∨ b = a) σ := by
  refine ⟨⟨fun b o e => ⟨(S.bi.base b o e).1, .inl (S.bi.base b o e).2⟩, fun b q => q.elim (S.bi.alive b) fun e => e ▸ ha⟩, S.ns, fun q => q.elim S.nL fun e => hL e.symm, fun i => ?_, S.dist, S.own0⟩
  refine (S.sl i).mono (fun _ x => .inl x) (fun _ _ _ e => e) fun v y b e1 e2 e3 => ⟨fun q => ?_, fun _ e => e⟩
  have ow : Own σ f.fs.nm m b := ⟨i, ⟨v, e1⟩, y, e2, e3⟩
  exact q.elim (S.ownFz ow).1 fun e => ho (e ▸ ow)
end
end Mine
end
section
open PySem PySem.Calls PyProof.Rows
namespace Mine

theorem setS_get : ∀ {σ : St} {x : Nat} {l : Loc} {σ' : St}, setS σ x l = some σ' → ∀ i, getS σ' i = if i = x then l else getS σ i
  | [], _, _, _, e => by cases e
  | _ :: _, 0, _, _, e => by
    cases e
    intro i
    cases i with
    | zero => simp [getS]
    | succ i => simp [getS]
  | c :: r, x + 1, l, σ', e => by
    unfold setS at e
    cases q : setS r x l with
    | none => rw [q] at e; cases e
    | some r' =>
      rw [q] at e
      cases e
      intro i
      cases i with
      | zero => simp [getS]
      | succ i =>
        show getS r' i = _
        rw [setS_get q i]
        by_cases h : i = x
        · subst h; simp
        · simp [h, getS]

section
variable {X : Cx} {f : Fm} {m : Str → Option Value} {h h' : Heap} {F F' : Fz} {σ σ' : St}

/-- what is said of a slot that holds a list of the frame's own -/
theorem StR.own (S : StR X f m h F σ) {x : Nat} {l : List PyData} {y : Str} (hx : getS σ x = .own l) (hy : f.fs.nm[x]? = some y) :
    ∃ a vs n, m y = some (.ref a) ∧ ¬ F a ∧ a ≠ f.L ∧ IsL h a vs n ∧ RVs h F vs.toList l ∧ OwnAt σ f.fs.nm m x a := by
  have r := S.sl x
  rw [hx] at r
  obtain ⟨y', a, vs, n, e1, e2, h1, h2, h3, h4⟩ := r
  rw [hy] at e1; cases e1
  exact ⟨a, vs, n, e2, h1, h2, h3, h4, ⟨l, hx⟩, y, hy, e2⟩

theorem own_of_val {d : PyData} {x : Nat} (e : setS σ x (.val d) = some σ') {nm : List Str} {i : Nat} {a : Addr} (o : OwnAt σ' nm m i a) : i ≠ x ∧ OwnAt σ nm m i a := by
  obtain ⟨⟨l, hl⟩, r⟩ := o
  rw [setS_get e] at hl
  by_cases q : i = x
  · rw [if_pos q] at hl; cases hl
  · rw [if_neg q] at hl; exact ⟨q, ⟨l, hl⟩, r⟩

/-- a list of the frame's own is frozen: its name is read -/
theorem StR.frzSlot (S : StR X f m h F σ) {x : Nat} {l : List PyData} {y : Str} (hx : getS σ x = .own l) (hy : f.fs.nm[x]? = some y) (e : setS σ x (.val (.list l)) = some σ') :
    ∃ a, m y = some (.ref a) ∧ StR X f m h (fun b => F b ∨ b = a) σ' ∧ Own σ f.fs.nm m a ∧ RV h (fun b => F b ∨ b = a) (.ref a) (.list l) ∧ (∀ b, Own σ' f.fs.nm m b → Own σ f.fs.nm m b) := by
  obtain ⟨a, vs, n, hm, nF, nL, hl, hr, ow⟩ := S.own hx hy
  have rv : RV h (fun b => F b ∨ b = a) (.ref a) (.list l) := .list (.inr rfl) hl (hr.mono (fun _ x => .inl x) fun _ _ _ e => e)
  refine ⟨a, hm, ⟨⟨fun b o e => ⟨(S.bi.base b o e).1, .inl (S.bi.base b o e).2⟩, fun b q => q.elim (S.bi.alive b) fun e => ⟨_, e ▸ hl⟩⟩, S.ns, fun q => q.elim S.nL fun e => nL e.symm, fun i => ?_, fun i j b h1 h2 => ?_, fun v z h1 h2 => ?_⟩, ⟨x, ow⟩, rv, fun b ⟨i, o⟩ => ⟨i, (own_of_val e o).2⟩⟩
  · rw [setS_get e]
    by_cases q : i = x
    · subst q
      rw [if_pos rfl]
      exact ⟨y, .ref a, hy, hm, rv⟩
    · rw [if_neg q]
      refine (S.sl i).mono (fun _ x => .inl x) (fun _ _ _ e => e) fun v z b e1 e2 e3 => ⟨fun z' => ?_, fun _ e => e⟩
      have oi : OwnAt σ f.fs.nm m i b := ⟨⟨v, e1⟩, z, e2, e3⟩
      rcases z' with z' | z'
      · exact (S.ownFz ⟨i, oi⟩).1 z'
      · exact q (S.dist i x b oi (z' ▸ ow))
  · exact S.dist i j b (own_of_val e h1).2 (own_of_val e h2).2
  · rw [setS_get e] at h1
    by_cases q : 0 = x
    · rw [if_pos q] at h1; cases h1
    · rw [if_neg q] at h1; exact S.own0 v z h1 h2

/-- the items of a list of the frame's own have turned -/
theorem StR.upd (S : StR X f m h F σ) {x : Nat} {l l' : List PyData} {a : Addr} {vs : Array Value} {n : Nat} (hx : getS σ x = .own l) (ow : OwnAt σ f.fs.nm m x a)
    (hs : ∀ b o, b ≠ a → h.get? b = some o → h'.get? b = some o) (hmono : ∀ b, F b → F' b) (hnew : ∀ b, F' b → F b ∨ h.get? b = none) (halive : ∀ b, F' b → ∃ o, h'.get? b = some o)
    (hl : IsL h' a vs n) (hr : RVs h' F' vs.toList l') (e : setS σ x (.own l') = some σ') :
    StR X f m h' F' σ' ∧ Stp (Own σ f.fs.nm m) h F h' F' ∧ (∀ b, Own σ' f.fs.nm m b → Own σ f.fs.nm m b) := by
  have owI : ∀ i b, OwnAt σ' f.fs.nm m i b → OwnAt σ f.fs.nm m i b := by
    rintro i b ⟨⟨v, hv⟩, r⟩
    rw [setS_get e] at hv
    by_cases q : i = x
    · subst q; exact ⟨⟨l, hx⟩, r⟩
    · rw [if_neg q] at hv; exact ⟨⟨v, hv⟩, r⟩
  obtain ⟨nF, nL, vs0, n0, hl0⟩ := S.ownFz ⟨x, ow⟩
  have stp : Stp (Own σ f.fs.nm m) h F h' F' := ⟨fun b o e n => hs b o (fun q => n (q ▸ ⟨x, ow⟩)) e, hmono, fun b q => (hnew b q).imp_right .inr⟩
  have nF' : ∀ b o, h.get? b = some o → ¬ F b → ¬ F' b := fun b o e n q => by
    rcases hnew b q with z | z
    · exact n z
    · rw [z] at e; cases e
  have oL : ∃ o, h.get? f.L = some o := let ⟨o, _, _, e, _⟩ := S.ns; ⟨o, e⟩
  refine ⟨⟨S.bi.step stp S.fd halive, Ns.stay S.ns fun o e => hs _ o (Ne.symm nL) e, let ⟨o, e⟩ := oL; nF' _ o e S.nL, fun i => ?_, fun i j b h1 h2 => S.dist i j b (owI i b h1) (owI j b h2), fun v z h1 h2 => ?_⟩, stp, fun b ⟨i, o⟩ => ⟨i, owI i b o⟩⟩
  · rw [setS_get e]
    by_cases q : i = x
    · subst q
      rw [if_pos rfl]
      obtain ⟨_, y, hy, hm⟩ := ow
      exact ⟨y, a, vs, n, hy, hm, nF' _ _ hl0 nF, nL, hl, hr⟩
    · rw [if_neg q]
      refine (S.sl i).mono hmono (fun b o fb e => hs b o (fun z => nF (z ▸ fb)) e) fun v z b e1 e2 e3 => ?_
      have oi : OwnAt σ f.fs.nm m i b := ⟨⟨v, e1⟩, z, e2, e3⟩
      obtain ⟨n1, _, vs1, n2, hl1⟩ := S.ownFz ⟨i, oi⟩
      refine ⟨nF' _ _ hl1 n1, fun o e => hs b o (fun z => ?_) e⟩
      exact q (S.dist i x b oi (z ▸ ow))
  · rw [setS_get e] at h1
    by_cases q : 0 = x
    · subst q
      exact S.own0 l z hx h2
    · rw [if_neg q] at h1; exact S.own0 v z h1 h2

/-- a value and what is said of it; h₁ is the heap ahead of the step that made it, D what that step may change -/
noncomputable def RR (X : Cx) (f : Fm) (m : Str → Option Value) (D : Addr → Prop) (h₁ h : Heap) (F : Fz) (σ : St) (v : Value) : Loc → Prop
  | .un => False
  | .val d => RV h F v d
  | .fn k => FnV X k v
  | .own l => ∃ a vs n, v = .ref a ∧ ¬ F a ∧ a ≠ f.L ∧ ¬ Own σ f.fs.nm m a ∧ (D a ∨ h₁.get? a = none) ∧ IsL h a vs n ∧ RVs h F vs.toList l

theorem setN_setS {x : Nat} {l : Loc} (e : setN σ x l = some σ') : setS σ x l = some σ' ∧ (∀ v, l = .own v → x ≠ 0) ∧ l ≠ .un := by
  cases l with
  | un => cases e
  | val d => exact ⟨e, fun _ q => (nomatch q), fun q => (nomatch q)⟩
  | fn k => exact ⟨e, fun _ q => (nomatch q), fun q => (nomatch q)⟩
  | own v =>
    cases x with
    | zero => cases e
    | succ n => exact ⟨e, fun _ _ q => (nomatch q), fun q => (nomatch q)⟩

noncomputable def putM (m : Str → Option Value) (y : Str) (v : Value) : Str → Option Value := fun z => if z = y then some v else m z

/-- a store under a name -/
theorem StR.store (S : StR X f m h F σ) (hnd : f.fs.nm.Nodup) {D : Addr → Prop} {h₁ : Heap} {x : Nat} {y : Str} {v : Value} {l : Loc} (r : RR X f m D h₁ h F σ v l) (e : setN σ x l = some σ') (hy : f.fs.nm[x]? = some y)
    (hn : h'.Ns f.L (putM m y v)) (hs : Heap.SameBut f.L h h') :
    StR X f (putM m y v) h' F σ' ∧ Stp (fun b => Own σ f.fs.nm m b ∨ b = f.L) h F h' F ∧
      (∀ b, Own σ' f.fs.nm (putM m y v) b → Own σ f.fs.nm m b ∨ ((∃ w, l = .own w) ∧ v = .ref b)) := by
  obtain ⟨e, n0, _⟩ := setN_setS e
  have other : ∀ i z, i ≠ x → f.fs.nm[i]? = some z → putM m y v z = m z := by
    intro i z ne hz
    unfold putM
    rw [if_neg]
    intro q
    subst q
    obtain ⟨h1, e1⟩ := List.getElem?_eq_some_iff.mp hz
    obtain ⟨h2, e2⟩ := List.getElem?_eq_some_iff.mp hy
    exact ne ((List.getElem_inj (h₀ := h1) (h₁ := h2) hnd).mp (e1.trans e2.symm))
  have here : putM m y v y = some v := if_pos rfl
  have own' : ∀ i b, OwnAt σ' f.fs.nm (putM m y v) i b → (i ≠ x ∧ OwnAt σ f.fs.nm m i b) ∨ (i = x ∧ (∃ w, l = .own w) ∧ v = .ref b) := by
    rintro i b ⟨⟨w, hw⟩, z, hz, hb⟩
    rw [setS_get e] at hw
    by_cases q : i = x
    · subst q
      rw [if_pos rfl] at hw
      rw [hy] at hz; cases hz
      rw [here] at hb
      exact .inr ⟨rfl, ⟨w, hw⟩, Option.some.inj hb⟩
    · rw [if_neg q] at hw
      rw [other i z q hz] at hb
      exact .inl ⟨q, ⟨w, hw⟩, z, hz, hb⟩
  have stp : Stp (fun b => Own σ f.fs.nm m b ∨ b = f.L) h F h' F := ⟨fun b o e n => (hs.2 b fun q => n (.inr q)).trans e, fun _ x => x, fun _ x => .inl x⟩
  have fl : ∀ a, F a → a ≠ f.L := fun a q z => S.nL (z ▸ q)
  refine ⟨⟨⟨fun b o e => ⟨(hs.2 b (fl b (S.bi.base b o e).2)).trans (S.bi.base b o e).1, (S.bi.base b o e).2⟩, fun a fa => let ⟨o, e⟩ := S.bi.alive a fa; ⟨o, (hs.2 a (fl a fa)).trans e⟩⟩, hn, S.nL, fun i => ?_, fun i j b h1 h2 => ?_, fun w z h1 h2 => ?_⟩, stp, fun b ⟨i, o⟩ => ?_⟩
  · rw [setS_get e]
    by_cases q : i = x
    · subst q
      rw [if_pos rfl]
      cases l with
      | un => exact r.elim
      | val d => exact ⟨y, v, hy, here, RV.mono (fun _ x => x) (fun a o fa e => (hs.2 a (fl a fa)).trans e) r⟩
      | fn k => exact ⟨y, v, hy, here, r⟩
      | own w =>
        obtain ⟨a, vs, n, rfl, r1, r2, r3, _, r5, r6⟩ := r
        exact ⟨y, a, vs, n, hy, here, r1, r2, (hs.2 a r2).trans r5, r6.mono (fun _ x => x) fun a o fa e => (hs.2 a (fl a fa)).trans e⟩
    · rw [if_neg q]
      have r := S.sl i
      have mv : ∀ z, f.fs.nm[i]? = some z → putM m y v z = m z := fun z hz => other i z q hz
      cases hg : getS σ i with
      | un => trivial
      | val d =>
        rw [hg] at r
        obtain ⟨z, u, e1, e2, r⟩ := r
        exact ⟨z, u, e1, (mv z e1).trans e2, r.mono (fun _ x => x) fun a o fa e => (hs.2 a (fl a fa)).trans e⟩
      | fn k =>
        rw [hg] at r
        obtain ⟨z, u, e1, e2, r⟩ := r
        exact ⟨z, u, e1, (mv z e1).trans e2, r⟩
      | own w =>
        rw [hg] at r
        obtain ⟨z, a, vs, n, e1, e2, h1, h2, h3, r⟩ := r
        exact ⟨z, a, vs, n, e1, (mv z e1).trans e2, h1, h2, (hs.2 a h2).trans h3, r.mono (fun _ x => x) fun a o fa e => (hs.2 a (fl a fa)).trans e⟩
  · rcases own' i b h1 with ⟨_, o1⟩ | ⟨q1, ⟨w, rfl⟩, v1⟩
    · rcases own' j b h2 with ⟨_, o2⟩ | ⟨q2, ⟨w, rfl⟩, v2⟩
      · exact S.dist i j b o1 o2
      · obtain ⟨a, vs, n, e0, _, _, r3, _⟩ := r
        rw [v2] at e0; cases e0
        exact (r3 ⟨i, o1⟩).elim
    · rcases own' j b h2 with ⟨_, o2⟩ | ⟨q2, _, v2⟩
      · obtain ⟨a, vs, n, e0, _, _, r3, _⟩ := r
        rw [v1] at e0; cases e0
        exact (r3 ⟨j, o2⟩).elim
      · exact q1.trans q2.symm
  · rw [setS_get e] at h1
    by_cases q : 0 = x
    · rw [if_pos q] at h1
      exact (n0 w h1 q.symm).elim
    · rw [if_neg q] at h1
      rw [other 0 z q h2]
      exact S.own0 w z h1 h2
  · rcases own' i b o with ⟨_, o⟩ | ⟨_, o⟩
    · exact .inl ⟨i, o⟩
    · exact .inr o
end
end Mine
end
section
open PySem PySem.Calls PyProof.Rows
namespace Mine

structure Okay (A : Around) (n : Nat) : Prop where
  hd : A.handled = none
  dp : A.depth + n ≤ 900
  un : A.units + 6 * n ≤ 9000
theorem Okay.less {A : Around} {n k : Nat} (O : Okay A n) (h : k ≤ n) : Okay A k := ⟨O.hd, by have := O.dp; omega, by have := O.un; omega⟩
theorem Okay.eqv {A : Around} {n k : Nat} (O : Okay A n) (h : k ≤ 65) : A.units + k < cLine := by
  have := O.un
  have : cLine = 9900 := rfl
  omega

theorem smallI_abs {i : Int} (h : smallI i = true) : i.natAbs < 2 ^ 60 := by
  cases i with
  | ofNat n =>
    have : n < 1152921504606846976 := Nat.le_of_ble_eq_true h
    show n < 2 ^ 60
    omega
  | negSucc n =>
    have : n < 1152921504606846975 := Nat.le_of_ble_eq_true h
    show n + 1 < 2 ^ 60
    omega
theorem small_bits {i : Int} (h : smallI i = true) : Builtin.Int.intBits i ≤ 60 := by
  have h2 := smallI_abs h
  unfold Builtin.Int.intBits
  split
  · exact Nat.zero_le _
  · rename_i h0
    have hne : i.natAbs ≠ 0 := by
      intro z
      apply h0
      have : i = 0 := Int.natAbs_eq_zero.mp z
      rw [this]; rfl
    have := (Nat.log2_lt hne).mpr h2
    omega

section
variable {prog : Program} {w : World} {A : Around} {E : Value → Shared → Prop} {s : Shared}

theorem beq0 {y : Nat} (h : Nat.beq y 0 = false) : (Int.ofNat y) ≠ 0 := by
  intro e
  have : y = 0 := Int.ofNat.inj e
  subst this
  cases h

theorem fdivN (x y : Nat) : Int.fdiv (Int.ofNat x) (Int.ofNat y) = Int.ofNat (x / y) := by
  cases x with
  | zero => show (0 : Int) = Int.ofNat (0 / y); rw [Nat.zero_div]; rfl
  | succ x => rfl
theorem fmodN (x y : Nat) : Int.fmod (Int.ofNat x) (Int.ofNat y) = Int.ofNat (x % y) := by
  cases x with
  | zero => show (0 : Int) = Int.ofNat (0 % y); rw [Nat.zero_mod]; rfl
  | succ x => rfl
theorem powN (y : Nat) : (2 : Int) ^ (Int.ofNat y).toNat = Int.ofNat (2 ^ y) := by
  show (2 : Int) ^ y = ((2 ^ y : Nat) : Int)
  push_cast; rfl
theorem andN (x y : Nat) : Builtin.bitAnd (Int.ofNat x) (Int.ofNat y) = Int.ofNat (Nat.land x y) := bitAnd_pp (Int.natCast_nonneg x) (Int.natCast_nonneg y)
theorem orN (x y : Nat) : Builtin.bitOr (Int.ofNat x) (Int.ofNat y) = Int.ofNat (Nat.lor x y) := by
  have nn : ∀ z : Nat, ¬ (0 : Int) ≤ Builtin.bitNot (Int.ofNat z) := fun z => by
    have : (0 : Int) ≤ Int.ofNat z := Int.natCast_nonneg z
    unfold Builtin.bitNot
    omega
  have tw : ∀ z : Int, Builtin.bitNot (Builtin.bitNot z) = z := fun z => by unfold Builtin.bitNot; omega
  unfold Builtin.bitOr
  rw [bitAnd_nn (nn x) (nn y), tw, tw, tw]
  rfl

theorem lf_binS {op : BOp} {a b c : Int} {t u : Tok} {Q : Value → Shared → Prop} (e : binS op a b = some c) (h : Q (.int c s.toks) { s with toks := s.toks + 1 }) :
    wpAny (model prog w) A (binaryOp (opOf op) (.int a t) (.int b u)) Q E s := by
  unfold binS at e
  cases ha : smallI a with
  | false => rw [ha] at e; cases e
  | true =>
    rw [ha] at e
    dsimp only at e
    cases hb : smallI b with
    | false => rw [hb] at e; cases e
    | true =>
      rw [hb] at e
      dsimp only at e
      have ba := small_bits ha
      have bb := small_bits hb
      cases op with
      | add => cases e; exact add_int h
      | sub => cases e; exact sub_int h
      | mul => cases e; exact mul_int h (.of_left (by omega))
      | fdiv =>
        cases a with
        | negSucc x => cases e
        | ofNat x =>
          cases b with
          | negSucc y => cases e
          | ofNat y =>
            dsimp only at e
            cases hy : Nat.beq y 0 with
            | true => rw [hy] at e; cases e
            | false =>
              rw [hy] at e
              cases e
              have hlog : (Int.ofNat y).natAbs.log2 < 9000 := by
                have h1 := smallI_abs hb
                have hne : (Int.ofNat y).natAbs ≠ 0 := fun z => beq0 hy (Int.natAbs_eq_zero.mp z)
                have := (Nat.log2_lt hne).mpr h1
                omega
              exact floordiv_int (beq0 hy) (by rw [fdivN]; exact h) (.inl (PyProof.noPylong_of_log2 hlog))
      | mod =>
        cases a with
        | negSucc x => cases e
        | ofNat x =>
          cases b with
          | negSucc y => cases e
          | ofNat y =>
            dsimp only at e
            cases hy : Nat.beq y 0 with
            | true => rw [hy] at e; cases e
            | false => rw [hy] at e; cases e; exact mod_int' (beq0 hy) (by rw [fmodN]; exact h)
      | pow =>
        cases a with
        | negSucc x => cases e
        | ofNat x =>
          cases b with
          | negSucc y => cases e
          | ofNat y =>
            dsimp only at e
            cases hy : Nat.blt y 64 with
            | false => rw [hy] at e; cases e
            | true =>
              rw [hy] at e
              cases e
              have hy' : y < 64 := Nat.le_of_ble_eq_true hy
              refine pow_int (Int.natCast_nonneg y) ?_ ?_
              · have h1 : ((Builtin.Int.intBits (Int.ofNat x) : Nat) : Int) ≤ 60 := by omega
                have h2 : (Int.ofNat y) ≤ 63 := by show (y : Int) ≤ 63; omega
                have h3 : (0 : Int) ≤ Int.ofNat y := Int.natCast_nonneg y
                have := Int.mul_le_mul h1 h2 h3 (by decide)
                omega
              · have : (Int.ofNat x : Int) ^ (Int.ofNat y).toNat = Int.ofNat (x ^ y) := by
                  show ((x : Int)) ^ y = ((x ^ y : Nat) : Int)
                  push_cast; rfl
                rw [this]; exact h
      | shl =>
        cases a with
        | negSucc x => cases e
        | ofNat x =>
          cases b with
          | negSucc y => cases e
          | ofNat y =>
            dsimp only at e
            cases hy : Nat.blt y 64 with
            | false => rw [hy] at e; cases e
            | true =>
              rw [hy] at e
              cases e
              have hy' : y < 64 := Nat.le_of_ble_eq_true hy
              refine lshift_int_small (Int.natCast_nonneg y) (by show (y : Int) ≤ 1000000; omega) (Nat.lt_trans (smallI_abs ha) (by decide)) ?_
              have : (Int.ofNat x : Int) * 2 ^ (Int.ofNat y).toNat = Int.ofNat (x * 2 ^ y) := by
                show ((x : Int)) * 2 ^ y = ((x * 2 ^ y : Nat) : Int)
                push_cast; rfl
              rw [this]; exact h
      | shr =>
        cases a with
        | negSucc x => cases e
        | ofNat x =>
          cases b with
          | negSucc y => cases e
          | ofNat y =>
            dsimp only at e
            cases hy : Nat.blt y 64 with
            | false => rw [hy] at e; cases e
            | true =>
              rw [hy] at e
              cases e
              refine rshift_int (Int.natCast_nonneg y) ?_
              rw [powN, fdivN]; exact h
      | band =>
        cases a with
        | negSucc x => cases e
        | ofNat x =>
          cases b with
          | negSucc y => cases e
          | ofNat y =>
            cases e
            exact and_int (by rw [andN]; exact h)
      | bor =>
        cases a with
        | negSucc x => cases e
        | ofNat x =>
          cases b with
          | negSucc y => cases e
          | ofNat y =>
            cases e
            exact or_int (by rw [orN]; exact h)

theorem lf_binI {op : BOp} {a b c : Int} {t u : Tok} {Q : Value → Shared → Prop} (e : binI op a b = some c) (h : Q (.int c s.toks) { s with toks := s.toks + 1 }) :
    wpAny (model prog w) A (binaryOp (opOf op) (.int a t) (.int b u)) Q E s := by
  cases op with
  | add =>
    have e' : a + b = c := Option.some.inj e
    rw [← e'] at h
    exact add_int h
  | mod =>
    unfold binI at e
    cases a with
    | negSucc x => cases e
    | ofNat x =>
      cases b with
      | negSucc y => cases e
      | ofNat y =>
        dsimp only at e
        cases hy : Nat.beq y 0 with
        | true => rw [hy] at e; cases e
        | false => rw [hy] at e; cases e; exact mod_int' (beq0 hy) (by rw [fmodN]; exact h)
  | sub => exact lf_binS (op := .sub) e h
  | mul => exact lf_binS (op := .mul) e h
  | fdiv => exact lf_binS (op := .fdiv) e h
  | pow => exact lf_binS (op := .pow) e h
  | shl => exact lf_binS (op := .shl) e h
  | shr => exact lf_binS (op := .shr) e h
  | band => exact lf_binS (op := .band) e h
  | bor => exact lf_binS (op := .bor) e h

theorem lf_aug {op : BOp} {a b c : Int} {t u : Tok} {Q : Value → Shared → Prop} (e : augI op a b = some c) (h : Q (.int c s.toks) { s with toks := s.toks + 1 }) :
    wpAny (model prog w) A (inplaceOp (opOf op) (.int a t) (.int b u)) Q E s := by
  have sm : ∀ {o : BOp}, binS o a b = some c → smallI a = true ∧ smallI b = true := fun {o} e => by
    unfold binS at e
    cases ha : smallI a with
    | false => rw [ha] at e; cases e
    | true =>
      rw [ha] at e
      cases hb : smallI b with
      | false => rw [hb] at e; cases e
      | true => exact ⟨rfl, rfl⟩
  cases op with
  | add =>
    obtain ⟨ha, hb⟩ := sm (o := .add) e
    simp only [augI, binS, ha, hb] at e
    cases e; exact iadd_int h
  | sub =>
    obtain ⟨ha, hb⟩ := sm (o := .sub) e
    simp only [augI, binS, ha, hb] at e
    cases e; exact isub_int h
  | mod =>
    obtain ⟨ha, hb⟩ := sm (o := .mod) e
    simp only [augI, binS, ha, hb] at e
    cases a with
    | negSucc x => cases e
    | ofNat x =>
      cases b with
      | negSucc y => cases e
      | ofNat y =>
        dsimp only at e
        cases hy : Nat.beq y 0 with
        | true => rw [hy] at e; cases e
        | false => rw [hy] at e; cases e; exact imod_int (beq0 hy) (by rw [fmodN]; exact h)
  | shr =>
    obtain ⟨ha, hb⟩ := sm (o := .shr) e
    simp only [augI, binS, ha, hb] at e
    cases a with
    | negSucc x => cases e
    | ofNat x =>
      cases b with
      | negSucc y => cases e
      | ofNat y =>
        dsimp only at e
        cases hy : Nat.blt y 64 with
        | false => rw [hy] at e; cases e
        | true => rw [hy] at e; cases e; exact irshift_int (Int.natCast_nonneg y) (by rw [powN, fdivN]; exact h)
  | bor =>
    obtain ⟨ha, hb⟩ := sm (o := .bor) e
    simp only [augI, binS, ha, hb] at e
    cases a with
    | negSucc x => cases e
    | ofNat x =>
      cases b with
      | negSucc y => cases e
      | ofNat y => cases e; exact ior_int (by rw [orN]; exact h)
  | _ => cases e

theorem eqI_eq (a b : Int) : eqI a b = (a == b) := by
  cases a with
  | ofNat m =>
    cases b with
    | ofNat n =>
      show Nat.beq m n = _
      by_cases h : m = n
      · subst h; simp
      · have h2 : Int.ofNat m ≠ Int.ofNat n := fun e => h (Int.ofNat.inj e)
        rw [beq_eq_false_iff_ne.mpr h2]
        cases q : Nat.beq m n with
        | false => rfl
        | true => exact absurd (Nat.eq_of_beq_eq_true q) h
    | negSucc n => rfl
  | negSucc m =>
    cases b with
    | ofNat n => rfl
    | negSucc n =>
      show Nat.beq m n = _
      by_cases h : m = n
      · subst h; simp
      · have h2 : Int.negSucc m ≠ Int.negSucc n := fun e => h (Int.negSucc.inj e)
        rw [beq_eq_false_iff_ne.mpr h2]
        cases q : Nat.beq m n with
        | false => rfl
        | true => exact absurd (Nat.eq_of_beq_eq_true q) h
theorem blt_eq (m n : Nat) : Nat.blt m n = decide (m < n) := by
  by_cases h : m < n
  · rw [decide_eq_true h]; exact Nat.ble_eq_true_of_le h
  · rw [decide_eq_false h]
    cases q : Nat.blt m n with
    | false => rfl
    | true => exact absurd (Nat.le_of_ble_eq_true q) h
theorem ltI_eq (a b : Int) : ltI a b = decide (a < b) := by
  cases a with
  | ofNat m =>
    cases b with
    | ofNat n =>
      show Nat.blt m n = _
      rw [blt_eq]
      exact decide_eq_decide.mpr (Int.ofNat_lt).symm
    | negSucc n =>
      have : ¬ Int.ofNat m < Int.negSucc n := by have := Int.natCast_nonneg m; have : (0:Int) ≤ Int.ofNat m := this; omega
      rw [decide_eq_false this]; rfl
  | negSucc m =>
    cases b with
    | ofNat n =>
      have : Int.negSucc m < Int.ofNat n := by have : (0:Int) ≤ Int.ofNat n := Int.natCast_nonneg n; omega
      rw [decide_eq_true this]; rfl
    | negSucc n =>
      show Nat.blt n m = _
      rw [blt_eq]
      exact decide_eq_decide.mpr (by omega)
theorem notlt (a b : Int) : (!(ltI a b)) = decide (b ≤ a) := by
  rw [ltI_eq, ← decide_not]
  exact decide_eq_decide.mpr (by omega)

theorem isinD_spec {d : PyData} : ∀ {l : List PyData} {c : Bool}, isinD d l = some c → (∀ y ∈ l, SeqAt.noMix y d = true) ∧ c = decide (Spec.countIn d l ≠ 0)
  | [], c, e => by cases e; exact ⟨fun _ q => (nomatch q), by simp [Spec.countIn]⟩
  | x :: r, c, e => by
    unfold isinD at e
    cases x with
    | int a =>
      cases d with
      | int b =>
        dsimp only at e
        cases q : isinD (.int b) r with
        | none => rw [q] at e; cases e
        | some y =>
          rw [q] at e
          cases e
          obtain ⟨h1, h2⟩ := isinD_spec q
          have hc := countIn_ge0 (.int b) r
          refine ⟨fun z hz => (List.mem_cons.mp hz).elim (fun w => by subst w; simp [SeqAt.noMix]) (h1 z), ?_⟩
          rw [Spec.countIn, h2, eqI_eq]
          have es : Spec.same (.int a) (.int b) = (a == b) := by simp [Spec.same]
          rw [es]
          by_cases hab : a = b
          · subst hab
            simp
            omega
          · simp [hab]
      | _ => cases e
    | _ => cases e

theorem twoI_some {P : Int → Int → Bool} {a b : PyData} {c : Bool} (e : twoI P a b = some c) : ∃ x y, a = .int x ∧ b = .int y ∧ P x y = c := by
  unfold twoI at e
  cases a with
  | int x =>
    cases b with
    | int y => exact ⟨x, y, rfl, rfl, Option.some.inj e⟩
    | _ => cases e
  | _ => cases e
theorem isinD_depth {d : PyData} : ∀ {l : List PyData} {c : Bool}, isinD d l = some c → PyData.depthAll l = 0
  | [], _, _ => by rw [PyData.depthAll]
  | x :: r, c, e => by
    unfold isinD at e
    cases x with
    | int a =>
      cases d with
      | int b =>
        dsimp only at e
        cases q : isinD (.int b) r with
        | none => rw [q] at e; cases e
        | some y =>
          rw [PyData.depthAll, isinD_depth q, PyData.depth]; rfl
      | _ => cases e
    | _ => cases e
theorem lf_cmp {op : COp} {a b : Value} {da db : PyData} {c : Bool} {F : Fz} {n : Nat} {Q : Value → Shared → Prop} (O : Okay A n) (e : cmpD op da db = some c) (ra : RV s.heap F a da) (rb : RV s.heap F b db)
    (h : Q (.bool c) s) : wpAny (model prog w) A (compareOp (copOf op) a b) Q E s := by
  have eqd : ∀ {c : Bool}, eqD da db = some c → c = PyData.eqv da db ∧ A.units + min da.depth db.depth < cLine := fun {c} e => by
    unfold eqD at e
    have h0 : ∀ k : Nat, k ≤ 64 → A.units + min k db.depth < cLine := fun k hk => by
      have h1 := O.eqv (k := k) (by omega)
      have h2 : min k db.depth ≤ k := Nat.min_le_left _ _
      omega
    cases da with
    | int x =>
      cases db with
      | int y => cases e; exact ⟨by rw [eqI_eq, PyData.eqv], h0 0 (by omega)⟩
      | _ => cases e
    | bool x =>
      cases db with
      | bool y => cases e; exact ⟨by rw [PyData.eqv], h0 0 (by omega)⟩
      | _ => cases e
    | list x =>
      cases db with
      | list y =>
        dsimp only at e
        cases q : Nat.ble (PyData.depth (.list x)) 64 with
        | false => rw [q] at e; cases e
        | true => rw [q] at e; cases e; exact ⟨rfl, h0 _ (Nat.le_of_ble_eq_true q)⟩
      | _ => cases e
    | tuple x =>
      cases db with
      | tuple y =>
        dsimp only at e
        cases q : Nat.ble (PyData.depth (.tuple x)) 64 with
        | false => rw [q] at e; cases e
        | true => rw [q] at e; cases e; exact ⟨rfl, h0 _ (Nat.le_of_ble_eq_true q)⟩
      | _ => cases e
    | _ => cases e
  have intz : ∀ {x y : Int}, da = .int x → db = .int y → ∃ t u, a = .int x t ∧ b = .int y u := fun {x y} e1 e2 => by
    subst e1 e2
    cases ra; cases rb
    exact ⟨_, _, rfl, rfl⟩
  cases op with
  | eq =>
    obtain ⟨rfl, hu⟩ := eqd e
    obtain ⟨as, r1⟩ := ra.reads
    obtain ⟨bs, r2⟩ := rb.reads
    exact SeqAt.compareEq_reads r1 r2 ra.canLay rb.canLay hu h
  | ne =>
    unfold cmpD at e
    dsimp only at e
    cases q : eqD da db with
    | none => rw [q] at e; cases e
    | some z =>
      rw [q] at e
      cases e
      obtain ⟨rfl, hu⟩ := eqd q
      obtain ⟨as, r1⟩ := ra.reads
      obtain ⟨bs, r2⟩ := rb.reads
      exact SeqAt.compareNe_reads r1 r2 ra.canLay rb.canLay hu h
  | lt =>
    obtain ⟨x, y, e1, e2, rfl⟩ := twoI_some (P := fun x y => ltI x y) e
    obtain ⟨t, u, rfl, rfl⟩ := intz e1 e2
    exact lt_int (by rw [← ltI_eq]; exact h)
  | le =>
    obtain ⟨x, y, e1, e2, rfl⟩ := twoI_some (P := fun x y => !(ltI y x)) e
    obtain ⟨t, u, rfl, rfl⟩ := intz e1 e2
    exact le_int (by rw [← notlt]; exact h)
  | gt =>
    obtain ⟨x, y, e1, e2, rfl⟩ := twoI_some (P := fun x y => ltI y x) e
    obtain ⟨t, u, rfl, rfl⟩ := intz e1 e2
    exact gt_int (by rw [← ltI_eq]; exact h)
  | ge =>
    obtain ⟨x, y, e1, e2, rfl⟩ := twoI_some (P := fun x y => !(ltI x y)) e
    obtain ⟨t, u, rfl, rfl⟩ := intz e1 e2
    exact ge_int (by rw [← notlt]; exact h)
  | notin =>
    unfold cmpD at e
    dsimp only at e
    cases da with
    | int i =>
      dsimp only at e
      cases db with
      | tuple l =>
        dsimp only at e
        cases q : isinD (.int i) l with
        | none => rw [q] at e; cases e
        | some y =>
          rw [q] at e
          cases e
          obtain ⟨h1, h2⟩ := isinD_spec q
          have d1 := isinD_depth q
          obtain ⟨as, r1⟩ := ra.reads
          obtain ⟨bs, r2⟩ := rb.reads
          refine notIn_tuple_dataH r2 r1 ?_ ?_ (O.eqv (by omega)) h1 (by rw [← h2]; exact h)
          · unfold SeqAt.shaped
            rw [rb.canLay, PyData.depth, d1]; rfl
          · unfold SeqAt.shaped
            rw [ra.canLay, PyData.depth]; rfl
      | _ => cases e
    | _ => cases e
end
end Mine
end
section
open PySem PySem.Calls PyProof.Rows
namespace Mine

noncomputable abbrev mk (s₀ : Shared) (h : Heap) (tk : Nat) : Shared := ⟨h, s₀.gens, s₀.drawn, tk, s₀.os⟩

/-- what an expression's tree does, by the evaluator -/
noncomputable def SndE (X : Cx) (prog : Program) (w : World) (p : Lv) (n : Nat) : Prop :=
  ∀ (e : IE) (σ : St) (l : Loc) (σ' : St), p.E e σ = some (l, σ') → ∀ (f : Fm) (ee : Expr), f.fs.Ok → CkE X.defs f.fs e ee →
  ∀ (A : Around) (E : Value → Shared → Prop) (m : Str → Option Value) (s₀ : Shared) (h : Heap) (F : Fz) (tk : Nat) (Q : Value → Shared → Prop), Okay A n → StR X f m h F σ →
    (∀ v h' F' tk', StR X f m h' F' σ' → Stp (Own σ f.fs.nm m) h F h' F' → (∀ b, Own σ' f.fs.nm m b → Own σ f.fs.nm m b) → RR X f m (Own σ f.fs.nm m) h h' F' σ' v l → Q v (mk s₀ h' tk')) →
    wpAny (model prog w) A (eval ee f.env) Q E (mk s₀ h tk)
noncomputable def SndT (X : Cx) (prog : Program) (w : World) (p : Lv) (n : Nat) : Prop :=
  ∀ (e : IE) (σ : St) (c : Bool) (σ' : St), p.T e σ = some (c, σ') → ∀ (f : Fm) (ee : Expr), f.fs.Ok → CkE X.defs f.fs e ee →
  ∀ (A : Around) (E : Value → Shared → Prop) (m : Str → Option Value) (s₀ : Shared) (h : Heap) (F : Fz) (tk : Nat) (Q : Bool → Shared → Prop), Okay A n → StR X f m h F σ →
    (∀ h' F' tk', StR X f m h' F' σ' → Stp (Own σ f.fs.nm m) h F h' F' → (∀ b, Own σ' f.fs.nm m b → Own σ f.fs.nm m b) → Q c (mk s₀ h' tk')) →
    wpAny (model prog w) A (isTrue ee f.env (eval ee f.env)) Q E (mk s₀ h tk)
/-- an argument -/
noncomputable def RA (X : Cx) (h : Heap) (F : Fz) (v : Value) : Loc → Prop
  | .un => False
  | .val d => RV h F v d
  | .fn k => FnV X k v
  | .own l => ∃ a vs n, v = .ref a ∧ ¬ F a ∧ IsL h a vs n ∧ RVs h F vs.toList l
/-- the arguments behind the first: none is a list of the caller's own -/
inductive RAt (X : Cx) (h : Heap) (F : Fz) : List Value → St → Prop
  | nil : RAt X h F [] []
  | cons {v : Value} {vs : List Value} {l : Loc} {ls : St} : RA X h F v l → (∀ x, l ≠ .own x) → RAt X h F vs ls → RAt X h F (v :: vs) (l :: ls)
inductive RAs (X : Cx) (h : Heap) (F : Fz) : List Value → St → Prop
  | cons {v : Value} {vs : List Value} {l : Loc} {ls : St} : RA X h F v l → RAt X h F vs ls → RAs X h F (v :: vs) (l :: ls)
/-- the list that the call may change -/
noncomputable def Dirty (vals : List Value) (as : St) (b : Addr) : Prop := ∃ l r vr, as = .own l :: r ∧ vals = .ref b :: vr
/-- what a call of def k at these arguments gives -/
noncomputable def Spec (X : Cx) (prog : Program) (w : World) (n : Nat) (k : Nat) (as : St) (d : PyData) (lo : Loc) : Prop :=
  ∀ (A : Around) (E : Value → Shared → Prop) (s₀ : Shared) (h : Heap) (F : Fz) (tk : Nat) (Q : Value → Shared → Prop) (vals : List Value) (fa : Addr), Okay A n → BI X h F → RAs X h F vals as → FnV X k (.ref fa) →
    (∀ v h' F' tk', BI X h' F' → Stp (Dirty vals as) h F h' F' → RV h' F' v d →
      (∀ l r b vr l', as = .own l :: r → vals = .ref b :: vr → lo = .own l' → ¬ F' b ∧ ∃ us j, IsL h' b us j ∧ RVs h' F' us.toList l') → Q v (mk s₀ h' tk')) →
    wpAny (model prog w) A (call (.ref fa) vals) Q E (mk s₀ h tk)
noncomputable def SndC (X : Cx) (prog : Program) (w : World) (p : Lv) (n : Nat) : Prop := ∀ k as d lo, p.C k as = some (d, lo) → Spec X prog w n k as d lo

section
variable {X : Cx} {prog : Program} {w : World} {p : Lv} {n : Nat}

theorem evV_snd (I : SndE X prog w p n) {e : IE} {σ σ' : St} {d : PyData} (he : evV p e σ = some (d, σ')) {f : Fm} {ee : Expr} (fo : f.fs.Ok) (ck : CkE X.defs f.fs e ee)
    {A : Around} {E : Value → Shared → Prop} {m : Str → Option Value} {s₀ : Shared} {h : Heap} {F : Fz} {tk : Nat} {Q : Value → Shared → Prop} (O : Okay A n) (S : StR X f m h F σ)
    (hq : ∀ v h' F' tk', StR X f m h' F' σ' → Stp (Own σ f.fs.nm m) h F h' F' → (∀ b, Own σ' f.fs.nm m b → Own σ f.fs.nm m b) → RV h' F' v d → Q v (mk s₀ h' tk')) :
    wpAny (model prog w) A (eval ee f.env) Q E (mk s₀ h tk) := by
  unfold evV at he
  cases q : p.E e σ with
  | none => rw [q] at he; cases he
  | some r =>
    obtain ⟨l, σ''⟩ := r
    rw [q] at he
    cases l with
    | val d' =>
      cases he
      exact I e σ _ _ q f ee fo ck A E m s₀ h F tk Q O S fun v h' F' tk' S' x o r => hq v h' F' tk' S' x o r
    | own l =>
      cases he
      refine I e σ _ _ q f ee fo ck A E m s₀ h F tk Q O S fun v h' F' tk' S' x o r => ?_
      obtain ⟨a, vs, k, rfl, nF, nL, nO, nh, hl, hr⟩ := r
      refine hq _ h' (fun b => F' b ∨ b = a) tk' (S'.freeze nO nL ⟨_, hl⟩) ⟨x.keep, fun b y => .inl (x.mono b y), fun b y => y.elim (x.new b) fun z => .inr (z ▸ nh)⟩ o ?_
      exact .list (.inr rfl) hl (hr.mono (fun _ y => .inl y) fun _ _ _ y => y)
    | un => cases he
    | fn k => cases he
theorem evI_snd (I : SndE X prog w p n) {e : IE} {σ σ' : St} {i : Int} (he : evI p e σ = some (i, σ')) {f : Fm} {ee : Expr} (fo : f.fs.Ok) (ck : CkE X.defs f.fs e ee)
    {A : Around} {E : Value → Shared → Prop} {m : Str → Option Value} {s₀ : Shared} {h : Heap} {F : Fz} {tk : Nat} {Q : Value → Shared → Prop} (O : Okay A n) (S : StR X f m h F σ)
    (hq : ∀ t h' F' tk', StR X f m h' F' σ' → Stp (Own σ f.fs.nm m) h F h' F' → (∀ b, Own σ' f.fs.nm m b → Own σ f.fs.nm m b) → Q (.int i t) (mk s₀ h' tk')) :
    wpAny (model prog w) A (eval ee f.env) Q E (mk s₀ h tk) := by
  unfold evI at he
  cases q : p.E e σ with
  | none => rw [q] at he; cases he
  | some r =>
    obtain ⟨l, σ''⟩ := r
    rw [q] at he
    cases l with
    | val d' =>
      cases d' with
      | int j =>
        cases he
        refine I e σ _ _ q f ee fo ck A E m s₀ h F tk Q O S fun v h' F' tk' S' x o r => ?_
        replace r : RV h' F' v (.int i) := r
        cases r
        exact hq _ h' F' tk' S' x o
      | _ => cases he
    | _ => cases he

theorem evVs_snd (I : SndE X prog w p n) {f : Fm} (fo : f.fs.Ok) {A : Around} {E : Value → Shared → Prop} {m : Str → Option Value} {s₀ : Shared} (O : Okay A n) (pos : Pos) :
    ∀ {es : List IE} {ees : List Expr} {σ σ' : St} {ds : List PyData}, evVs p es σ = some (ds, σ') → CkEs X.defs f.fs es ees →
    ∀ (h : Heap) (F : Fz) (tk : Nat) (Q : List Value → Shared → Prop), StR X f m h F σ →
    (∀ vs h' F' tk', StR X f m h' F' σ' → Stp (Own σ f.fs.nm m) h F h' F' → (∀ b, Own σ' f.fs.nm m b → Own σ f.fs.nm m b) → RVs h' F' vs ds → Q vs (mk s₀ h' tk')) →
    wpAny (model prog w) A (spliced (backTo pos (starEach ees f.env))) Q E (mk s₀ h tk)
  | [], _, σ, σ', ds, he, ck => by
    cases ck
    cases he
    intro h F tk Q S hq
    exact spliced_none (hq [] h F tk S (Stp.refl ..) (fun _ y => y) .nil)
  | e :: es, _, σ, σ', ds, he, ck => by
    cases ck with
    | @cons _ _ ee ees ck1 ck2 =>
    intro h F tk Q S hq
    unfold evVs at he
    cases q : evV p e σ with
    | none => rw [q] at he; cases he
    | some r =>
      obtain ⟨d, σ1⟩ := r
      rw [q] at he
      dsimp only at he
      cases q2 : evVs p es σ1 with
      | none => rw [q2] at he; cases he
      | some r2 =>
        obtain ⟨ds2, σ2⟩ := r2
        rw [q2] at he
        cases he
        refine lf_more (CkE.noStar _ _ ck1) (evV_snd I q fo ck1 O S fun v h1 F1 tk1 S1 x1 o1 r1 => ?_)
        refine evVs_snd I fo O pos q2 ck2 _ _ _ _ S1 fun vs h2 F2 tk2 S2 x2 o2 r2 => ?_
        exact hq _ _ _ _ S2 (x1.trans x2 fun a y => .inl (o1 a y)) (fun b y => o1 b (o2 b y)) (.cons (r1.step x2 S1.fd) r2)

theorem RA.step {h h' : Heap} {F F' : Fz} {v : Value} {l : Loc} {D : Addr → Prop} (r : RA X h F v l) (ho : ∀ x, l ≠ .own x) (x : Stp D h F h' F') (hd : ∀ a, F a → ¬ D a) : RA X h' F' v l := by
  cases l with
  | un => exact r
  | val d => exact RV.step r x hd
  | fn k => exact r
  | own l => exact absurd rfl (ho l)
theorem RAt.step {h h' : Heap} {F F' : Fz} {D : Addr → Prop} (x : Stp D h F h' F') (hd : ∀ a, F a → ¬ D a) : ∀ {vs : List Value} {ls : St}, RAt X h F vs ls → RAt X h' F' vs ls
  | _, _, .nil => .nil
  | _, _, .cons r ho t => .cons (r.step ho x hd) ho (t.step x hd)

theorem evAs_snd (I : SndE X prog w p n) {f : Fm} (fo : f.fs.Ok) {A : Around} {E : Value → Shared → Prop} {m : Str → Option Value} {s₀ : Shared} (O : Okay A n) (pos : Pos) :
    ∀ {es : List IE} {ees : List Expr} {σ σ' : St} {as : St}, evAs p es σ = some (as, σ') → CkEs X.defs f.fs es ees →
    ∀ (h : Heap) (F : Fz) (tk : Nat) (Q : List Value → Shared → Prop), StR X f m h F σ →
    (∀ vs h' F' tk', StR X f m h' F' σ' → Stp (Own σ f.fs.nm m) h F h' F' → (∀ b, Own σ' f.fs.nm m b → Own σ f.fs.nm m b) → RAt X h' F' vs as → Q vs (mk s₀ h' tk')) →
    wpAny (model prog w) A (spliced (backTo pos (starEach ees f.env))) Q E (mk s₀ h tk)
  | [], _, σ, σ', ds, he, ck => by
    cases ck
    cases he
    intro h F tk Q S hq
    exact spliced_none (hq [] h F tk S (Stp.refl ..) (fun _ y => y) .nil)
  | e :: es, _, σ, σ', ds, he, ck => by
    cases ck with
    | @cons _ _ ee ees ck1 ck2 =>
    intro h F tk Q S hq
    unfold evAs at he
    cases q : p.E e σ with
    | none => rw [q] at he; cases he
    | some r =>
      obtain ⟨l, σ1⟩ := r
      rw [q] at he
      dsimp only at he
      cases q2 : evAs p es σ1 with
      | none => rw [q2] at he; cases he
      | some r2 =>
        obtain ⟨ds2, σ2⟩ := r2
        rw [q2] at he
        cases he
        have key : ∀ v h1 F1 tk1, StR X f m h1 F1 σ1 → Stp (Own σ f.fs.nm m) h F h1 F1 → (∀ b, Own σ1 f.fs.nm m b → Own σ f.fs.nm m b) → RA X h1 F1 v (frz l) → (∀ x, frz l ≠ .own x) →
            wpAny (model prog w) A (spliced (backTo pos (starEach ees f.env))) (fun vs s₂ => Q (v :: vs) s₂) E (mk s₀ h1 tk1) := by
          intro v h1 F1 tk1 S1 x1 o1 r1 n1
          refine evAs_snd I fo O pos q2 ck2 _ _ _ _ S1 fun vs h2 F2 tk2 S2 x2 o2 r2 => ?_
          exact hq _ _ _ _ S2 (x1.trans x2 fun a y => .inl (o1 a y)) (fun b y => o1 b (o2 b y)) (.cons (r1.step n1 x2 S1.fd) n1 r2)
        refine lf_more (CkE.noStar _ _ ck1) ?_
        refine I e σ _ _ q f _ fo ck1 A E m s₀ h F tk _ O S fun v h1 F1 tk1 S1 x1 o1 r1 => ?_
        cases l with
        | un => exact r1.elim
        | val d => exact key v h1 F1 tk1 S1 x1 o1 r1 (fun _ y => (nomatch y))
        | fn k => exact key v h1 F1 tk1 S1 x1 o1 r1 (fun _ y => (nomatch y))
        | own l =>
          obtain ⟨a, vs, k, rfl, nF, nL, nO, nh, hl, hr⟩ := r1
          refine key _ h1 (fun b => F1 b ∨ b = a) tk1 (S1.freeze nO nL ⟨_, hl⟩) ⟨x1.keep, fun b y => .inl (x1.mono b y), fun b y => y.elim (x1.new b) fun z => .inr (z ▸ nh)⟩ o1 ?_ (fun _ y => (nomatch y))
          show RV _ _ _ _
          exact .list (.inr rfl) hl (hr.mono (fun _ y => .inl y) fun _ _ _ y => y)
end
end Mine
end
section
open PySem PySem.W PySem.Calls PyProof.Rows
namespace Mine

section
variable {X : Cx} {prog : Program} {w : World} {p : Lv} {n : Nat} {f : Fm} {A : Around} {E : Value → Shared → Prop} {m : Str → Option Value} {s₀ : Shared} {h : Heap} {F : Fz} {tk : Nat} {σ σ' : St}

theorem ld_snd (fo : f.fs.Ok) {x : Nat} {y : Str} {pos : Pos} {v : Value} {Q : Value → Shared → Prop} (S : StR X f m h F σ) (c : LocN f.fs x y) (hv : m y = some v) (hq : Q v (mk s₀ h tk)) :
    wpAny (model prog w) A (eval (.Name y pos) f.env) Q E (mk s₀ h tk) :=
  wpAny_Name (wpAny_loadName_local (env := f.env) fo.kind (fo.loc y (List.mem_of_getElem? c.1)) S.ns hv hq) c.2
theorem gl_snd (XO : X.Ok) (fo : f.fs.Ok) {y : Str} {pos : Pos} {v : Value} {Q : Value → Shared → Prop} (S : StR X f m h F σ) (c : GlbN f.fs y) (hv : X.mg y = some v) (hq : Q v (mk s₀ h tk)) :
    wpAny (model prog w) A (eval (.Name y pos) f.env) Q E (mk s₀ h tk) :=
  Name_function_global (env := f.env) fo.kind c.1 (loadGlobal_global (env := f.env) (XO.g.keeps fun b o e => (S.bi.base b o e).1) hv hq) c.2
theorem bu_snd (XO : X.Ok) (fo : f.fs.Ok) {y : Str} {pos : Pos} {v : Value} {Q : Value → Shared → Prop} (S : StR X f m h F σ) (c : GlbN f.fs y) (hf : X.mg y = none) (hb : ∃ mb, X.h₀.Ns builtinsNs mb ∧ mb y = some v)
    (hq : Q v (mk s₀ h tk)) : wpAny (model prog w) A (eval (.Name y pos) f.env) Q E (mk s₀ h tk) := by
  obtain ⟨mb, h1, h2⟩ := hb
  exact Name_function_global (env := f.env) fo.kind c.1 (loadGlobal_builtin (env := f.env) (XO.g.keeps fun b o e => (S.bi.base b o e).1) hf (h1.keeps fun b o e => (S.bi.base b o e).1) h2 hq) c.2

theorem StR.isFn (S : StR X f m h F σ) (XO : X.Ok) {k : Nat} {fa : Addr} (hv : FnV X k (.ref fa)) : ∃ o fd, h.get? fa = some o ∧ F fa ∧ o.data = .func fd := by
  obtain ⟨d, h1, h2⟩ := hv
  obtain ⟨a, o, pm, code, doc, g1, g2, g3, _⟩ := XO.fn k d h1
  rw [h2] at g1
  cases g1
  exact ⟨o, _, (S.bi.base _ _ g2).1, (S.bi.base _ _ g2).2, g3⟩
theorem FnV.ref (XO : X.Ok) {k : Nat} {v : Value} (hv : FnV X k v) : ∃ fa, v = .ref fa := by
  obtain ⟨d, h1, h2⟩ := hv
  obtain ⟨a, o, pm, code, doc, g1, _⟩ := XO.fn k d h1
  rw [h2] at g1
  cases g1
  exact ⟨_, rfl⟩

/-- the list or tuple under a name -/
theorem StR.items (S : StR X f m h F σ) {x : Nat} {y : Str} {l : List PyData} (hl : itemsL (getS σ x) = some l) (c : LocN f.fs x y) :
    ∃ a vs k, m y = some (.ref a) ∧ (IsL h a vs k ∨ IsT h a vs k) ∧ RVs h F vs.toList l := by
  have r := S.sl x
  rw [c.1] at r
  cases q : getS σ x with
  | un => rw [q] at hl; cases hl
  | fn k => rw [q] at hl; cases hl
  | own l' =>
    rw [q] at hl r
    cases hl
    obtain ⟨y', a, vs, k, e1, e2, _, _, h3, h4⟩ := r
    cases e1
    exact ⟨a, vs, k, e2, .inl h3, h4⟩
  | val d =>
    rw [q] at hl r
    obtain ⟨y', v, e1, e2, r⟩ := r
    cases e1
    cases d with
    | list l' => cases hl; cases r with | list _ h1 h2 => exact ⟨_, _, _, e2, .inl h1, h2⟩
    | tuple l' => cases hl; cases r with | tuple _ h1 h2 => exact ⟨_, _, _, e2, .inr h1, h2⟩
    | _ => cases hl
theorem StR.list (S : StR X f m h F σ) {x : Nat} {y : Str} {l : List PyData} (hl : listL (getS σ x) = some l) (c : LocN f.fs x y) :
    ∃ a vs k, m y = some (.ref a) ∧ IsL h a vs k ∧ RVs h F vs.toList l := by
  have r := S.sl x
  rw [c.1] at r
  cases q : getS σ x with
  | un => rw [q] at hl; cases hl
  | fn k => rw [q] at hl; cases hl
  | own l' =>
    rw [q] at hl r
    cases hl
    obtain ⟨y', a, vs, k, e1, e2, _, _, h3, h4⟩ := r
    cases e1
    exact ⟨a, vs, k, e2, h3, h4⟩
  | val d =>
    rw [q] at hl r
    obtain ⟨y', v, e1, e2, r⟩ := r
    cases e1
    cases d with
    | list l' => cases hl; cases r with | list _ h1 h2 => exact ⟨_, _, _, e2, h1, h2⟩
    | _ => cases hl
theorem RVs.arr {vs : Array Value} {l : List PyData} (r : RVs h F vs.toList l) : vs.size = lenD l := by rw [← Array.length_toList]; exact r.length

/-- x[i], the item read -/
theorem item_snd {a : Addr} {vs : Array Value} {k j : Nat} {l : List PyData} {i : Int} {t : Tok} {d : PyData} {value slice : Expr} {Q : Value → Shared → Prop} (hl : IsL h a vs k ∨ IsT h a vs k) (r : RVs h F vs.toList l) (hs : NoSlice slice)
    (hp : placeI i (lenD l) = some j) (hg : getD? l j = some d) (hq : ∀ v, RV h F v d → Q v (mk s₀ h tk)) : wpAny (model prog w) A (subscriptTail value slice (.ref a) (.int i t)) Q E (mk s₀ h tk) := by
  obtain ⟨v, h1, h2⟩ := r.get hg
  rw [← r.arr] at hp
  have h1' : vs[j]? = some v := by simpa using h1
  rcases hl with hl | hl
  · exact lf_item_list hl hp h1' (hq v h2) (hs _ _)
  · exact lf_item_tuple hl hp h1' (hq v h2) (hs _ _)

/-- a list just made -/
theorem StR.newList (S : StR X f m h F σ) {vs : Array Value} {ds : List PyData} (r : RVs h F vs.toList ds) :
    StR X f m (h.push { cls := .type "list", data := .seq vs }) F σ ∧ RR X f m (Own σ f.fs.nm m) h (h.push { cls := .type "list", data := .seq vs }) F σ (.ref h.objs.size) (.own ds) := by
  have hk : ∀ b o, h.get? b = some o → (h.push { cls := .type "list", data := .seq vs }).get? b = some o := fun b o => Heap.get?_push_of_some _
  refine ⟨S.grow hk, h.objs.size, vs, 0, rfl, fun q => ?_, fun q => ?_, fun q => ?_, .inr (get_size h), Heap.get?_push_size _ rfl, r.mono (fun _ x => x) fun b o _ => hk b o⟩
  · obtain ⟨o, e⟩ := S.bi.alive _ q
    rw [get_size] at e; cases e
  · obtain ⟨o, _, _, e, _⟩ := S.ns
    rw [← q, get_size] at e; cases e
  · obtain ⟨_, _, vs', k, e⟩ := S.ownFz q
    have e' : h.get? h.objs.size = _ := e
    rw [get_size] at e'; cases e'
/-- a tuple just made, frozen at once -/
theorem StR.newTuple (S : StR X f m h F σ) {vs : Array Value} {ds : List PyData} (r : RVs h F vs.toList ds) :
    StR X f m (h.push { cls := .type "tuple", data := .seq vs }) (fun b => F b ∨ b = h.objs.size) σ ∧ RV (h.push { cls := .type "tuple", data := .seq vs }) (fun b => F b ∨ b = h.objs.size) (.ref h.objs.size) (.tuple ds) ∧
      Stp (Own σ f.fs.nm m) h F (h.push { cls := .type "tuple", data := .seq vs }) (fun b => F b ∨ b = h.objs.size) := by
  have hk : ∀ b o, h.get? b = some o → (h.push { cls := .type "tuple", data := .seq vs }).get? b = some o := fun b o => Heap.get?_push_of_some _
  have ge : (h.push { cls := .type "tuple", data := .seq vs }).get? h.objs.size = some { cls := .type "tuple", data := .seq vs } := Heap.get?_push_size _ rfl
  refine ⟨(S.grow hk).freeze (fun q => ?_) (fun q => ?_) ⟨_, ge⟩, .tuple (.inr rfl) ge (r.mono (fun _ x => .inl x) fun b o _ => hk b o), ⟨fun b o e _ => hk b o e, fun b x => .inl x, fun b x => x.elim .inl fun z => .inr (.inr (z ▸ get_size h))⟩⟩
  · obtain ⟨_, _, vs', k, e⟩ := S.ownFz q
    have e' : h.get? h.objs.size = _ := e
    rw [get_size] at e'; cases e'
  · obtain ⟨o, _, _, e, _⟩ := S.ns
    rw [← q, get_size] at e; cases e

/-- what an own result keeps to, where more went before it -/
theorem RR.before {h₁ h₂ : Heap} {D D' : Addr → Prop} {F₁ F₂ : Fz} {v : Value} {l : Loc} (r : RR X f m D' h₂ h F σ v l) (x : Stp D h₁ F₁ h₂ F₂) (hD : ∀ a, D' a → D a) : RR X f m D h₁ h F σ v l := by
  cases l with
  | un => exact r
  | val d => exact r
  | fn k => exact r
  | own l =>
    obtain ⟨a, vs, k, e, r1, r2, r3, r4, r5⟩ := r
    refine ⟨a, vs, k, e, r1, r2, r3, ?_, r5⟩
    rcases r4 with r4 | r4
    · exact .inl (hD _ r4)
    · exact x.fresh r4

/-- an op on two values -/
theorem binD_snd {op : BOp} {da db : PyData} {l : Loc} {a b : Value} {Q : Value → Shared → Prop} (he : binD op da db = some l) (S : StR X f m h F σ) (ra : RV h F a da) (rb : RV h F b db)
    (hq : ∀ v h' F' tk', StR X f m h' F' σ → Stp (Own σ f.fs.nm m) h F h' F' → RR X f m (Own σ f.fs.nm m) h h' F' σ v l → Q v (mk s₀ h' tk')) :
    wpAny (model prog w) A (binaryOp (opOf op) a b) Q E (mk s₀ h tk) := by
  unfold binD at he
  cases da with
  | int x =>
    cases db with
    | int y =>
      dsimp only at he
      rcases q : binI op x y with _ | z
      · rw [q] at he; cases he
      rw [q] at he
      cases he
      cases ra; cases rb
      exact lf_binI q (hq _ h F _ S (Stp.refl ..) (.int ..))
    | _ => cases he
  | list x =>
    cases op with
    | add =>
      cases db with
      | list y =>
        dsimp only at he
        rcases q : shortD (x ++ y) with _ | z
        · rw [q] at he; cases he
        rw [q] at he
        cases he
        obtain ⟨rfl, hz⟩ := short_eq q
        cases ra with
        | @list aa va na _ fa la ra =>
        cases rb with
        | @list ab vb nb _ fb lb rb =>
        have e1 := ra.arr
        have e2 := rb.arr
        have hsz : va.size + vb.size ≤ 4000 := by
          rw [lenD_eq, List.length_append, ← lenD_eq, ← lenD_eq] at hz
          omega
        obtain ⟨S', r'⟩ := S.newList (vs := va ++ vb) (ds := x ++ y) (by rw [Array.toList_append]; exact ra.append rb)
        exact lf_add_lists la lb hsz (hq _ _ _ _ S' (Stp.push _) r')
      | _ => cases he
    | mul =>
      cases db with
      | int y =>
        cases y with
        | negSucc y => cases he
        | ofNat k =>
          dsimp only at he
          rcases q : Nat.blt k 1000 with _ | _
          · rw [q] at he; cases he
          rw [q] at he
          cases x with
          | nil => cases he
          | cons d r =>
            cases r with
            | cons d2 r => cases he
            | nil =>
              cases he
              cases ra with
              | @list aa va na _ fa la ra =>
              cases rb
              have e1 : va.size = 1 := ra.arr
              obtain ⟨S', r'⟩ := S.newList (vs := List.foldl (fun x1 x2 => x1 ++ x2) #[] (List.replicate k va)) (ds := repD k [d]) (by rw [rep_arr]; exact ra.rep k)
              exact lf_mul_list la e1 (Nat.le_of_ble_eq_true q) (hq _ _ _ _ S' (Stp.push _) r')
      | _ => cases he
    | _ => cases he
  | tuple x =>
    cases op with
    | add =>
      cases db with
      | tuple y =>
        dsimp only at he
        rcases q : shortD (x ++ y) with _ | z
        · rw [q] at he; cases he
        rw [q] at he
        cases he
        obtain ⟨rfl, hz⟩ := short_eq q
        cases ra with
        | @tuple aa va na _ fa la ra =>
        cases rb with
        | @tuple ab vb nb _ fb lb rb =>
        have e1 := ra.length
        have e2 := rb.length
        have hsz : va.toList.length + vb.toList.length ≤ 4000 := by
          rw [lenD_eq, List.length_append, ← lenD_eq, ← lenD_eq] at hz
          omega
        refine lf_add_tuples (vs := va.toList) (ws := vb.toList) (by rw [Array.toArray_toList]; exact la) (by rw [Array.toArray_toList]; exact lb) hsz (fun e => ?_) (fun _ e => ?_) fun _ _ => ?_
        · have : x = [] := by rw [e] at ra; cases ra; rfl
          subst this
          exact hq _ _ _ _ S (Stp.refl ..) (.tuple fb lb rb)
        · have : y = [] := by rw [e] at rb; cases rb; rfl
          subst this
          rw [List.append_nil] at hq
          exact hq _ _ _ _ S (Stp.refl ..) (.tuple fa la ra)
        · obtain ⟨S', r', x'⟩ := S.newTuple (vs := (va.toList ++ vb.toList).toArray) (ds := x ++ y) (ra.append rb)
          exact hq _ _ _ _ S' x' r'
      | _ => cases he
    | _ => cases he
  | _ => cases he
end
end Mine
end
section
open PySem PySem.W PySem.Calls PyProof.Rows
namespace Mine

theorem list_cut {α : Type} (l : List α) (lo hi : Nat) : (l.drop (min lo l.length)).take (min hi l.length - min lo l.length) = (l.drop lo).take (hi - lo) := by
  by_cases h : lo ≤ l.length
  · have e : min lo l.length = lo := Nat.min_eq_left h
    rw [e, List.take_eq_take_iff, List.length_drop]
    by_cases q : hi ≤ l.length
    · rw [Nat.min_eq_left q]
    · rw [Nat.min_eq_right (by omega : l.length ≤ hi)]
      omega
  · have e : min lo l.length = l.length := Nat.min_eq_right (by omega)
    rw [e, List.drop_length, List.drop_eq_nil_of_le (by omega), List.take_nil, List.take_nil]

section
variable {X : Cx} {prog : Program} {w : World} {p : Lv} {n : Nat} {f : Fm} {A : Around} {E : Value → Shared → Prop} {m : Str → Option Value} {s₀ : Shared} {h : Heap} {F : Fz} {tk : Nat} {σ σ' : St}

theorem evO_snd (I : SndE X prog w p n) {e : Option IE} {b : Option Nat} (he : evO p e σ = some (b, σ')) {ee : Option Expr} (fo : f.fs.Ok) (ck : CkO X.defs f.fs e ee)
    {Q : Value → Shared → Prop} (O : Okay A n) (S : StR X f m h F σ)
    (hq : ∀ v h' F' tk', StR X f m h' F' σ' → Stp (Own σ f.fs.nm m) h F h' F' → (∀ b, Own σ' f.fs.nm m b → Own σ f.fs.nm m b) → IsPart v (b.map Int.ofNat) → Q v (mk s₀ h' tk')) :
    wpAny (model prog w) A (evalPart ee f.env) Q E (mk s₀ h tk) := by
  cases ck with
  | none =>
    cases he
    exact wpAny_pure (hq _ h F tk S (Stp.refl ..) (fun _ y => y) .none)
  | some ck =>
    unfold evO at he
    dsimp only at he
    rcases q1 : evI p _ σ with _ | ⟨i, σ1⟩
    · rw [q1] at he; cases he
    rw [q1] at he; try dsimp only at he
    cases i with
    | negSucc k => cases he
    | ofNat k =>
      dsimp only at he
      rcases q2 : Nat.blt k 1152921504606846976 with _ | _
      · rw [q2] at he; cases he
      rw [q2] at he
      cases he
      exact evI_snd I q1 fo ck O S fun t h' F' tk' S' x o => hq _ h' F' tk' S' x o (.int ..)

theorem RAt.ras {vs : List Value} {l : Loc} {ls : St} (r : RAt X h F vs (l :: ls)) : RAs X h F vs (l :: ls) := by
  cases r with
  | cons a _ t => exact .cons a t
theorem RAt.clean : ∀ {vs : List Value} {ls : St}, RAt X h F vs ls → ∀ b, ¬ Dirty vs ls b
  | _, _, .nil, _, ⟨_, _, _, e, _⟩ => nomatch e
  | _, _, .cons _ ho _, _, ⟨_, _, _, e, _⟩ => by cases e; exact ho _ rfl

/-- a call whose arguments are all frozen -/
theorem call_snd (IC : SndC X prog w p n) (XO : X.Ok) {k : Nat} {as : St} {d : PyData} {lo : Loc} (he : p.C k as = some (d, lo)) (O : Okay A n) (S : StR X f m h F σ) {fa : Addr} (hf : FnV X k (.ref fa))
    {e : Expr} {r : List Expr} {pos : Pos} (hp : plainArgs (e :: r)) {Q : Value → Shared → Prop} {as' : St} (ha : ∃ l ls, as = l :: ls)
    (h1 : ∀ Q' : List Value → Shared → Prop, (∀ vs h' F' tk', StR X f m h' F' σ' → Stp (Own σ f.fs.nm m) h F h' F' → (∀ b, Own σ' f.fs.nm m b → Own σ f.fs.nm m b) → RAt X h' F' vs as → Q' vs (mk s₀ h' tk')) →
      wpAny (model prog w) A (spliced (backTo pos (starEach (e :: r) f.env))) Q' E (mk s₀ h tk))
    (hq : ∀ v h' F' tk', StR X f m h' F' σ' → Stp (Own σ f.fs.nm m) h F h' F' → (∀ b, Own σ' f.fs.nm m b → Own σ f.fs.nm m b) → RV h' F' v d → Q v (mk s₀ h' tk')) :
    wpAny (model prog w) A (callWith pos (.ref fa) [] (backTo pos (starEach (e :: r) f.env)) []) Q E (mk s₀ h tk) := by
  obtain ⟨o, fd, ho, hF, hd⟩ := S.isFn XO hf
  refine lf_callWith hp hd (h1 _ fun vs h' F' tk' S' x o' r' => ⟨x.fz S.fd _ _ hF ho, ?_⟩)
  obtain ⟨l, ls, rfl⟩ := ha
  refine IC k _ d lo he A E s₀ h' F' tk' Q vs fa O S'.bi r'.ras hf fun v h2 F2 tk2 B2 x2 rv _ => ?_
  have hno : ∀ b, ¬ Dirty vs (l :: ls) b := r'.clean
  exact hq v h2 F2 tk2 (S'.step x2 (fun b db => absurd db (hno b)) (fun b db => absurd db (hno b)) B2.alive) (x.trans x2 fun b db => absurd db (hno b)) o' rv

theorem evE_snd (XO : X.Ok) (I : SndE X prog w p n) (IT : SndT X prog w p n) (IC : SndC X prog w p n) (fns : List Fn) (tab : Tab) : SndE X prog w (stepLv p fns tab) (n + 1) := by
  intro e σ l σ' he f ee fo ck A E m s₀ h F tk Q O S hq
  replace he : evE p e σ = some (l, σ') := he
  have O' : Okay A n := O.less (Nat.le_succ n)
  cases ck with
  | int i k pos => cases he; exact wpAny_Constant_int (hq _ h F _ S (Stp.refl ..) (fun _ y => y) (.int ..))
  | bool b k pos => cases he; exact lf_bool (hq _ h F tk S (Stp.refl ..) (fun _ y => y) (.bool _))
  | @loc x y pos c =>
    unfold evE at he
    dsimp only at he
    cases q : getS σ x with
    | un => rw [q] at he; cases he
    | own l0 =>
      rw [q] at he
      dsimp only at he
      rcases q2 : setS σ x (.val (.list l0)) with _ | σ1
      · rw [q2] at he; cases he
      rw [q2] at he
      cases he
      obtain ⟨a, hm, S', ow, rv, oo⟩ := S.frzSlot q c.1 q2
      exact ld_snd fo S c hm (hq _ h _ tk S' (Stp.freeze (.inl ow)) oo rv)
    | val d =>
      rw [q] at he
      cases he
      have r := S.sl x
      rw [q, c.1] at r
      obtain ⟨y', v, e1, e2, r⟩ := r
      cases e1
      exact ld_snd fo S c e2 (hq _ h F tk S (Stp.refl ..) (fun _ y => y) r)
    | fn k =>
      rw [q] at he
      cases he
      have r := S.sl x
      rw [q, c.1] at r
      obtain ⟨y', v, e1, e2, r⟩ := r
      cases e1
      exact ld_snd fo S c e2 (hq _ h F tk S (Stp.refl ..) (fun _ y => y) r)
  | @fn k d pos hd c =>
    cases he
    obtain ⟨a, o, pm, code, doc, g1, _⟩ := XO.fn k d hd
    exact gl_snd XO fo S c g1 (hq _ h F tk S (Stp.refl ..) (fun _ y => y) ⟨d, hd, g1⟩)
  | @bin op a b ea eb pos c1 c2 =>
    unfold evE at he
    dsimp only at he
    rcases q1 : evV p a σ with _ | ⟨x, σ1⟩
    · rw [q1] at he; cases he
    rw [q1] at he; try dsimp only at he
    rcases q2 : evV p b σ1 with _ | ⟨y, σ2⟩
    · rw [q2] at he; cases he
    rw [q2] at he; try dsimp only at he
    rcases q3 : binD op x y with _ | l0
    · rw [q3] at he; cases he
    rw [q3] at he; try dsimp only at he
    cases he
    refine wpAny_BinOp (evV_snd I q1 fo c1 O' S fun va h1 F1 tk1 S1 x1 o1 r1 => evV_snd I q2 fo c2 O' S1 fun vb h2 F2 tk2 S2 x2 o2 r2 => ?_)
    have x12 := x1.trans x2 fun a y => .inl (o1 a y)
    refine binD_snd q3 S2 (r1.step x2 S1.fd) r2 fun v h3 F3 tk3 S3 x3 r3 => ?_
    exact hq v h3 F3 tk3 S3 (x12.trans x3 fun a y => .inl (o1 a (o2 a y))) (fun b y => o1 b (o2 b y)) (r3.before x12 fun b y => o1 b (o2 b y))
  | @cmp op a b ea eb pos hm c1 c2 =>
    unfold evE at he
    dsimp only at he
    rcases q1 : evV p a σ with _ | ⟨x, σ1⟩
    · rw [q1] at he; cases he
    rw [q1] at he; try dsimp only at he
    rcases q2 : evV p b σ1 with _ | ⟨y, σ2⟩
    · rw [q2] at he; cases he
    rw [q2] at he; try dsimp only at he
    rcases q3 : cmpD op x y with _ | c0
    · rw [q3] at he; cases he
    rw [q3] at he; try dsimp only at he
    cases he
    refine wpAny_Compare1 (evV_snd I q1 fo c1 O' S fun va h1 F1 tk1 S1 x1 o1 r1 => evV_snd I q2 fo c2 O' S1 fun vb h2 F2 tk2 S2 x2 o2 r2 => ?_) hm
    have x12 := x1.trans x2 fun a y => .inl (o1 a y)
    exact lf_cmp O' q3 (r1.step x2 S1.fd) r2 (hq _ h2 F2 tk2 S2 x12 (fun b y => o1 b (o2 b y)) (.bool _))
  | @and a b ea eb pos c1 c2 =>
    unfold evE at he
    dsimp only at he
    rcases q1 : evV p a σ with _ | ⟨x, σ1⟩
    · rw [q1] at he; cases he
    rw [q1] at he; try dsimp only at he
    cases x with
    | bool c =>
      refine BoolOp_and (evV_snd I q1 fo c1 O' S fun va h1 F1 tk1 S1 x1 o1 r1 => ?_)
      cases r1
      refine wpAny_truthy_bool ?_
      cases c with
      | true =>
        dsimp only at he
        rcases q2 : evV p b σ1 with _ | ⟨y, σ2⟩
        · rw [q2] at he; cases he
        rw [q2] at he; try dsimp only at he
        cases y with
        | bool c2' =>
          cases he
          rw [if_pos rfl]
          refine BoolOp_one (evV_snd I q2 fo c2 O' S1 fun vb h2 F2 tk2 S2 x2 o2 r2 => ?_)
          cases r2
          exact hq _ h2 F2 tk2 S2 (x1.trans x2 fun a y => .inl (o1 a y)) (fun b y => o1 b (o2 b y)) (.bool _)
        | _ => cases he
      | false =>
        cases he
        rw [if_neg Bool.false_ne_true]
        exact hq _ h1 F1 tk1 S1 x1 o1 (.bool _)
    | _ => cases he
  | @or a b ea eb pos c1 c2 =>
    unfold evE at he
    dsimp only at he
    rcases q1 : evV p a σ with _ | ⟨x, σ1⟩
    · rw [q1] at he; cases he
    rw [q1] at he; try dsimp only at he
    cases x with
    | bool c =>
      refine BoolOp_or (evV_snd I q1 fo c1 O' S fun va h1 F1 tk1 S1 x1 o1 r1 => ?_)
      cases r1
      refine wpAny_truthy_bool ?_
      cases c with
      | false =>
        dsimp only at he
        rcases q2 : evV p b σ1 with _ | ⟨y, σ2⟩
        · rw [q2] at he; cases he
        rw [q2] at he; try dsimp only at he
        cases y with
        | bool c2' =>
          cases he
          rw [if_neg Bool.false_ne_true]
          refine BoolOp_one (evV_snd I q2 fo c2 O' S1 fun vb h2 F2 tk2 S2 x2 o2 r2 => ?_)
          cases r2
          exact hq _ h2 F2 tk2 S2 (x1.trans x2 fun a y => .inl (o1 a y)) (fun b y => o1 b (o2 b y)) (.bool _)
        | _ => cases he
      | true =>
        cases he
        rw [if_pos rfl]
        exact hq _ h1 F1 tk1 S1 x1 o1 (.bool _)
    | _ => cases he
  | @neg a ea pos c1 =>
    unfold evE at he
    dsimp only at he
    rcases q1 : evI p a σ with _ | ⟨i, σ1⟩
    · rw [q1] at he; cases he
    rw [q1] at he; try dsimp only at he
    cases he
    exact UnaryOp_ (evI_snd I q1 fo c1 O' S fun t h1 F1 tk1 S1 x1 o1 => neg_int (hq _ h1 F1 _ S1 x1 o1 (.int ..)))
  | @ife t a b et ea eb pos ct c1 c2 =>
    unfold evE at he
    dsimp only at he
    rcases q1 : p.T t σ with _ | ⟨c, σ1⟩
    · rw [q1] at he; cases he
    rw [q1] at he; try dsimp only at he
    refine IfExp_ (IT t σ _ _ q1 f et fo ct A E m s₀ h F tk _ O' S fun h1 F1 tk1 S1 x1 o1 => ?_)
    cases c with
    | true =>
      rw [if_pos rfl]
      refine I a σ1 _ _ he f ea fo c1 A E m s₀ h1 F1 tk1 Q O' S1 fun v h2 F2 tk2 S2 x2 o2 r2 => ?_
      exact hq v h2 F2 tk2 S2 (x1.trans x2 fun a y => .inl (o1 a y)) (fun b y => o1 b (o2 b y)) (r2.before x1 o1)
    | false =>
      rw [if_neg Bool.false_ne_true]
      refine I b σ1 _ _ he f eb fo c2 A E m s₀ h1 F1 tk1 Q O' S1 fun v h2 F2 tk2 S2 x2 o2 r2 => ?_
      exact hq v h2 F2 tk2 S2 (x1.trans x2 fun a y => .inl (o1 a y)) (fun b y => o1 b (o2 b y)) (r2.before x1 o1)
  | @idx e i ee ei pos hs c1 c2 =>
    unfold evE at he
    dsimp only at he
    rcases q1 : evV p e σ with _ | ⟨d, σ1⟩
    · rw [q1] at he; cases he
    rw [q1] at he; try dsimp only at he
    rcases q2 : itemsD d with _ | l1
    · rw [q2] at he; cases he
    rw [q2] at he; try dsimp only at he
    rcases q3 : evI p i σ1 with _ | ⟨k, σ2⟩
    · rw [q3] at he; cases he
    rw [q3] at he; try dsimp only at he
    rcases q4 : placeI k (lenD l1) with _ | j
    · rw [q4] at he; cases he
    rw [q4] at he; try dsimp only at he
    rcases q5 : getD? l1 j with _ | x
    · rw [q5] at he; cases he
    rw [q5] at he; try dsimp only at he
    cases he
    refine Subscript_ (evV_snd I q1 fo c1 O' S fun va h1 F1 tk1 S1 x1 o1 r1 => evI_snd I q3 fo c2 O' S1 fun t h2 F2 tk2 S2 x2 o2 => ?_)
    have x12 := x1.trans x2 fun a y => .inl (o1 a y)
    have r1' := r1.step x2 S1.fd
    have fin : ∀ v, RV h2 F2 v x → Q v (mk s₀ h2 tk2) := fun v r => hq v h2 F2 tk2 S2 x12 (fun b y => o1 b (o2 b y)) r
    cases d with
    | list l2 => cases q2; cases r1' with | list _ hl r => exact item_snd (.inl hl) r hs q4 q5 fin
    | tuple l2 => cases q2; cases r1' with | tuple _ hl r => exact item_snd (.inr hl) r hs q4 q5 fin
    | _ => cases q2
  | @idxL x y i ei pp pos c hs c2 =>
    unfold evE at he
    dsimp only at he
    rcases q1 : itemsL (getS σ x) with _ | l1
    · rw [q1] at he; cases he
    rw [q1] at he; try dsimp only at he
    rcases q3 : evI p i σ with _ | ⟨k, σ2⟩
    · rw [q3] at he; cases he
    rw [q3] at he; try dsimp only at he
    rcases q2 : itemsL (getS σ2 x) with _ | l2
    · rw [q2] at he; cases he
    rw [q2] at he; try dsimp only at he
    rcases q4 : placeI k (lenD l2) with _ | j
    · rw [q4] at he; cases he
    rw [q4] at he; try dsimp only at he
    rcases q5 : getD? l2 j with _ | d
    · rw [q5] at he; cases he
    rw [q5] at he; try dsimp only at he
    cases he
    obtain ⟨a, vs, kk, hm, _⟩ := S.items q1 c
    refine Subscript_ (ld_snd fo S c hm (evI_snd I q3 fo c2 O' S fun t h2 F2 tk2 S2 x2 o2 => ?_))
    obtain ⟨a', vs', kk', hm', hl, r⟩ := S2.items q2 c
    rw [hm] at hm'
    cases hm'
    exact item_snd hl r hs q4 q5 fun v r => hq v h2 F2 tk2 S2 x2 o2 r
  | @slcL x y lo hi elo ehi pp pp' pos c co1 co2 =>
    unfold evE at he
    dsimp only at he
    rcases q1 : listL (getS σ x) with _ | l1
    · rw [q1] at he; cases he
    rw [q1] at he; try dsimp only at he
    rcases q2 : evO p lo σ with _ | ⟨b1, σ1⟩
    · rw [q2] at he; cases he
    rw [q2] at he; try dsimp only at he
    rcases q3 : evO p hi σ1 with _ | ⟨b2, σ2⟩
    · rw [q3] at he; cases he
    rw [q3] at he; try dsimp only at he
    rcases q4 : listL (getS σ2 x) with _ | l2
    · rw [q4] at he; cases he
    rw [q4] at he; try dsimp only at he
    rcases q5 : shortD l2 with _ | l3
    · rw [q5] at he; cases he
    rw [q5] at he; try dsimp only at he
    obtain ⟨rfl, hz⟩ := short_eq q5
    obtain ⟨a, vs0, kk, hm, _⟩ := S.list q1 c
    refine wpAny_Subscript_list_slice (ld_snd fo S c hm (evO_snd I q2 fo co1 O' S fun vl h1 F1 tk1 S1 x1 o1 p1 => evO_snd I q3 fo co2 O' S1 fun vu h2 F2 tk2 S2 x2 o2 p2 => ?_))
    have x12 := x1.trans x2 fun a y => .inl (o1 a y)
    obtain ⟨a', vs, kk', hm', hl, r⟩ := S2.list q4 c
    rw [hm] at hm'
    cases hm'
    have hzs : vs.size ≤ 4000 := by have := r.arr; omega
    refine ⟨a, vs, b1.map Int.ofNat, b2.map Int.ofNat, rfl, hl.isList, size_line hzs, p1, p2, ?_⟩
    have key : ∀ ds, RVs h2 F2 (slicePick vs (b1.map Int.ofNat) (b2.map Int.ofNat) none).toList ds → l = .own ds → σ' = σ2 →
        Q (.ref (h2.objs.size + 1)) (mk s₀ ((h2.push { cls := .type "slice", data := .fields #[vl, vu, .none] }).push { cls := .type "list", data := .seq (slicePick vs (b1.map Int.ofNat) (b2.map Int.ofNat) none) }) tk2) := by
      intro ds rd el eσ
      subst el eσ
      have hk : ∀ b o, h2.get? b = some o → (h2.push { cls := .type "slice", data := .fields #[vl, vu, .none] }).get? b = some o := fun b o => Heap.get?_push_of_some _
      have S3 := S2.grow hk
      have x3 : Stp (Own σ' f.fs.nm m) h2 F2 (h2.push { cls := .type "slice", data := .fields #[vl, vu, .none] }) F2 := .grow hk
      obtain ⟨S4, r4⟩ := S3.newList (rd.mono (fun _ x => x) fun b o _ => hk b o)
      rw [← Heap.size_push h2 { cls := .type "slice", data := .fields #[vl, vu, .none] }]
      have x123 := x12.trans x3 fun a y => .inl (o1 a (o2 a y))
      exact hq _ _ _ _ S4 (x123.trans (Stp.push (D := Own σ' f.fs.nm m) _) fun a y => .inl (o1 a (o2 a y))) (fun b y => o1 b (o2 b y)) (r4.before x123 fun b y => o1 b (o2 b y))
    cases b1 with
    | none =>
      cases b2 with
      | none =>
        cases he
        refine key _ ?_ rfl rfl
        show RVs h2 F2 (slicePick vs none none none).toList _
        rw [slicePick_all]; exact r
      | some b =>
        cases he
        refine key _ ?_ rfl rfl
        show RVs h2 F2 (slicePick vs none (some (b : Int)) none).toList _
        rw [slicePick_upto']
        exact r.take b
    | some a1 =>
      cases b2 with
      | none =>
        cases he
        refine key _ ?_ rfl rfl
        show RVs h2 F2 (slicePick vs (some (a1 : Int)) none none).toList _
        rw [slicePick_from']
        exact r.drop a1
      | some b =>
        cases he
        refine key _ ?_ rfl rfl
        show RVs h2 F2 (slicePick vs (some (a1 : Int)) (some (b : Int)) none).toList _
        rw [slicePick_plain]
        simp only [Option.elim, clipAt_nat]
        rw [← Array.length_toList]
        show RVs h2 F2 ((vs.toList.drop (min a1 vs.toList.length)).take (min b vs.toList.length - min a1 vs.toList.length)) _
        rw [list_cut]
        exact (r.drop a1).take (b - a1)
  | @revL x y k pp pp1 pp2 pp3 pos c =>
    unfold evE at he
    dsimp only at he
    rcases q1 : listL (getS σ x) with _ | l1
    · rw [q1] at he; cases he
    rw [q1] at he; try dsimp only at he
    rcases q5 : shortD l1 with _ | l3
    · rw [q5] at he; cases he
    rw [q5] at he; try dsimp only at he
    obtain ⟨rfl, hz⟩ := short_eq q5
    cases he
    obtain ⟨a, vs, kk, hm, hl, r⟩ := S.list q1 c
    refine lf_rev (ld_snd fo S c hm ⟨a, vs, kk, rfl, hl, by have := r.arr; omega, fun h' tk' D hk hD hl' => ?_⟩)
    have rr : RVs h F vs.toList.reverse.toArray.toList l1.reverse := r.reverse
    refine hq _ h' F tk' (S.grow hk) (.grow hk) (fun _ y => y) ⟨D, _, 0, rfl, fun q => ?_, fun q => ?_, fun q => ?_, .inr hD, hl', rr.mono (fun _ x => x) fun b o _ => hk b o⟩
    · obtain ⟨o, e⟩ := S.bi.alive _ q
      have e' : (mk s₀ h tk).heap.get? D = some o := e
      rw [hD] at e'; cases e'
    · obtain ⟨o, _, _, e, _⟩ := S.ns
      rw [← q] at e
      have e' : (mk s₀ h tk).heap.get? D = some o := e
      rw [hD] at e'; cases e'
    · obtain ⟨_, _, vs', k, e⟩ := S.ownFz q
      have e' : (mk s₀ h tk).heap.get? D = _ := e
      rw [hD] at e'; cases e'
  | @len e ee pp pos c c1 =>
    unfold evE at he
    dsimp only at he
    rcases q1 : evV p e σ with _ | ⟨d, σ1⟩
    · rw [q1] at he; cases he
    rw [q1] at he; try dsimp only at he
    rcases q2 : itemsD d with _ | l1
    · rw [q2] at he; cases he
    rw [q2] at he; try dsimp only at he
    rcases q5 : shortD l1 with _ | l3
    · rw [q5] at he; cases he
    rw [q5] at he; try dsimp only at he
    obtain ⟨rfl, hz⟩ := short_eq q5
    cases he
    obtain ⟨mb, hb, hb1, _⟩ := XO.b
    refine Call_ (bu_snd XO fo S c XO.free.1 ⟨mb, hb, hb1⟩ (lf_callB ⟨c1.noStar, trivial⟩ (lf_more c1.noStar (evV_snd I q1 fo c1 O' S fun va h1 F1 tk1 S1 x1 o1 r1 => spliced_none ?_))))
    have fin : ∀ u tk', Q (.int (Int.ofNat (lenD l1)) u) (mk s₀ h1 tk') := fun u tk' => hq _ h1 F1 tk' S1 x1 o1 (.int ..)
    cases d with
    | list l2 => cases q2; cases r1 with | list _ hl r => exact lf_len_list hl (by have := r.arr; omega) (by rw [r.arr]; exact fin)
    | tuple l2 => cases q2; cases r1 with | tuple _ hl r => exact lf_len_tuple hl (by have := r.arr; omega) (by rw [r.arr]; exact fin)
    | _ => cases q2
  | @lenL x y pp pp' pos c cx =>
    unfold evE at he
    dsimp only at he
    rcases q1 : itemsL (getS σ x) with _ | l1
    · rw [q1] at he; cases he
    rw [q1] at he; try dsimp only at he
    rcases q5 : shortD l1 with _ | l3
    · rw [q5] at he; cases he
    rw [q5] at he; try dsimp only at he
    obtain ⟨rfl, hz⟩ := short_eq q5
    cases he
    obtain ⟨mb, hb, hb1, _⟩ := XO.b
    obtain ⟨a, vs, kk, hm, hl, r⟩ := S.items q1 cx
    have ns : NoStar (.Name y pp') := fun _ _ e => nomatch e
    refine Call_ (bu_snd XO fo S c XO.free.1 ⟨mb, hb, hb1⟩ (lf_callB ⟨ns, trivial⟩ (lf_more ns (ld_snd fo S cx hm (spliced_none ?_)))))
    have fin : ∀ u tk', Q (.int (Int.ofNat (lenD l1)) u) (mk s₀ h tk') := fun u tk' => hq _ h F tk' S (Stp.refl ..) (fun _ y => y) (.int ..)
    rcases hl with hl | hl
    · exact lf_len_list hl (by have := r.arr; omega) (by rw [r.arr]; exact fin)
    · exact lf_len_tuple hl (by have := r.arr; omega) (by rw [r.arr]; exact fin)
  | @list es ees pos cs =>
    unfold evE at he
    dsimp only at he
    rcases q1 : evVs p es σ with _ | ⟨ds, σ1⟩
    · rw [q1] at he; cases he
    rw [q1] at he; try dsimp only at he
    rcases q5 : shortD ds with _ | l3
    · rw [q5] at he; cases he
    rw [q5] at he; try dsimp only at he
    obtain ⟨rfl, hz⟩ := short_eq q5
    cases he
    refine List_ (evVs_snd I fo O' pos q1 cs _ _ _ _ S fun vs h1 F1 tk1 S1 x1 o1 r1 => ?_)
    obtain ⟨S2, r2⟩ := S1.newList (vs := vs.toArray) r1
    exact lf_newList (by have := r1.length; omega) (hq _ _ _ _ S2 (x1.trans (Stp.push (D := Own σ' f.fs.nm m) _) fun a y => .inl (o1 a y)) o1 (r2.before x1 o1))
  | @tup es ees k pos cs =>
    unfold evE at he
    dsimp only at he
    rcases q1 : evVs p es σ with _ | ⟨ds, σ1⟩
    · rw [q1] at he; cases he
    rw [q1] at he; try dsimp only at he
    rcases q5 : shortD ds with _ | l3
    · rw [q5] at he; cases he
    rw [q5] at he; try dsimp only at he
    obtain ⟨rfl, hz⟩ := short_eq q5
    cases he
    refine Tuple_ (evVs_snd I fo O' pos q1 cs _ _ _ _ S fun vs h1 F1 tk1 S1 x1 o1 r1 => ?_)
    obtain ⟨S2, r2, x2⟩ := S1.newTuple (vs := vs.toArray) r1
    exact lf_newTuple (by have := r1.length; omega) (hq _ _ _ _ S2 (x1.trans x2 fun a y => .inl (o1 a y)) o1 r2)
  | @call k d e es ee ees pp pos hd c cs =>
    unfold evE at he
    dsimp only at he
    rcases q1 : evAs p (e :: es) σ with _ | ⟨as, σ1⟩
    · rw [q1] at he; cases he
    rw [q1] at he; try dsimp only at he
    rcases q2 : p.C k as with _ | ⟨r, lo⟩
    · rw [q2] at he; cases he
    rw [q2] at he; try dsimp only at he
    cases he
    obtain ⟨a, o, pm, code, doc, g1, _⟩ := XO.fn k d hd
    have ha : ∃ l ls, as = l :: ls := by
      unfold evAs at q1
      rcases z1 : p.E e σ with _ | ⟨l, σ2⟩
      · rw [z1] at q1; cases q1
      rw [z1] at q1; try dsimp only at q1
      rcases z2 : evAs p es σ2 with _ | ⟨ls, σ3⟩
      · rw [z2] at q1; cases q1
      rw [z2] at q1; try dsimp only at q1
      cases q1
      exact ⟨_, _, rfl⟩
    exact Call_ (gl_snd XO fo S c g1 (call_snd (as' := as) IC XO q2 O' S ⟨d, hd, g1⟩ cs.plain ha (fun Q' hq' => evAs_snd I fo O' pos q1 cs _ _ _ _ S hq') fun v h' F' tk' S' x o r => hq v h' F' tk' S' x o r))
  | @callV x y e es ee ees pp pos c cs =>
    unfold evE at he
    dsimp only at he
    cases q : getS σ x with
    | fn k =>
      rw [q] at he
      dsimp only at he
      rcases q1 : evAs p (e :: es) σ with _ | ⟨as, σ1⟩
      · rw [q1] at he; cases he
      rw [q1] at he; try dsimp only at he
      rcases q2 : p.C k as with _ | ⟨r, lo⟩
      · rw [q2] at he; cases he
      rw [q2] at he; try dsimp only at he
      cases he
      have rx := S.sl x
      rw [q, c.1] at rx
      obtain ⟨y', v, e1, e2, rx⟩ := rx
      cases e1
      obtain ⟨fa, rfl⟩ := rx.ref XO
      have ha : ∃ l ls, as = l :: ls := by
        unfold evAs at q1
        rcases z1 : p.E e σ with _ | ⟨l, σ2⟩
        · rw [z1] at q1; cases q1
        rw [z1] at q1; try dsimp only at q1
        rcases z2 : evAs p es σ2 with _ | ⟨ls, σ3⟩
        · rw [z2] at q1; cases q1
        rw [z2] at q1; try dsimp only at q1
        cases q1
        exact ⟨_, _, rfl⟩
      exact Call_ (ld_snd fo S c e2 (call_snd (as' := as) IC XO q2 O' S rx cs.plain ha (fun Q' hq' => evAs_snd I fo O' pos q1 cs _ _ _ _ S hq') fun v h' F' tk' S' x o r => hq v h' F' tk' S' x o r))
    | _ => rw [q] at he; cases he
  | @callIO k d x y es ees pp pp' pos hd c cx cs =>
    unfold evE at he
    dsimp only at he
    rcases q0 : listL (getS σ x) with _ | l0
    · rw [q0] at he; cases he
    rw [q0] at he; try dsimp only at he
    rcases q1 : evAs p es σ with _ | ⟨as, σ1⟩
    · rw [q1] at he; cases he
    rw [q1] at he; try dsimp only at he
    cases q3 : getS σ1 x with
    | own l1 =>
      rw [q3] at he
      dsimp only at he
      rcases q2 : p.C k (.own l1 :: as) with _ | ⟨r, lo⟩
      · rw [q2] at he; cases he
      rw [q2] at he; try dsimp only at he
      cases lo with
      | own l2 =>
        dsimp only at he
        rcases q4 : setS σ1 x (.own l2) with _ | σ2
        · rw [q4] at he; cases he
        rw [q4] at he; try dsimp only at he
        cases he
        obtain ⟨af, o, pm, code, doc, g1, g2, g3, _⟩ := XO.fn k d hd
        obtain ⟨a, vs0, kk, hm, _⟩ := S.list q0 cx
        have ns : NoStar (.Name y pp') := fun _ _ e => nomatch e
        have ho := S.bi.base _ _ g2
        refine Call_ (gl_snd XO fo S c g1 (lf_callWith ⟨ns, cs.plain⟩ g3 (lf_more ns (ld_snd fo S cx hm (evAs_snd I fo O' pos q1 cs _ _ _ _ S fun vs h1 F1 tk1 S1 x1 o1 r1 => ⟨x1.fz S.fd _ _ ho.2 ho.1, ?_⟩)))))
        obtain ⟨a', us, ku, hm', nF, nL, hl, hr, ow⟩ := S1.own q3 cx.1
        rw [hm] at hm'
        cases hm'
        refine IC k _ r _ q2 A E s₀ h1 F1 tk1 Q (.ref a :: vs) af O' S1.bi (.cons ⟨a, us, ku, rfl, nF, hl, hr⟩ r1) ⟨d, hd, g1⟩ fun v h2 F2 tk2 B2 x2 rv io => ?_
        obtain ⟨nF2, us2, j2, hl2, hr2⟩ := io l1 as a vs l2 rfl rfl rfl
        have dirt : ∀ b, Dirty (.ref a :: vs) (.own l1 :: as) b → b = a := by
          rintro b ⟨_, _, _, _, e⟩
          cases e; rfl
        obtain ⟨S3, x3, o3⟩ := S1.upd q3 ow (fun b o ne e => x2.keep b o e fun db => ne (dirt b db)) x2.mono (fun b fb => (x2.new b fb).imp_right fun z => z.elim (fun db => absurd (dirt b db ▸ fb) nF2) id) B2.alive hl2 hr2 q4
        exact hq v h2 F2 tk2 S3 (x1.trans x3 fun a y => .inl (o1 a y)) (fun b y => o1 b (o3 b y)) rv
      | _ => cases he
    | _ => rw [q3] at he; cases he
  | @min2 a b ea eb pp pos c c1 c2 =>
    unfold evE at he
    dsimp only at he
    rcases q1 : evI p a σ with _ | ⟨i, σ1⟩
    · rw [q1] at he; cases he
    rw [q1] at he; try dsimp only at he
    rcases q2 : evI p b σ1 with _ | ⟨j, σ2⟩
    · rw [q2] at he; cases he
    rw [q2] at he; try dsimp only at he
    cases he
    obtain ⟨mb, hb, _, _, _, hb1, _⟩ := XO.b
    refine Call_ (bu_snd XO fo S c XO.free.2.2.2.1 ⟨mb, hb, hb1⟩ (lf_callB ⟨c1.noStar, c2.noStar, trivial⟩ (lf_more c1.noStar (evI_snd I q1 fo c1 O' S fun t h1 F1 tk1 S1 x1 o1 => lf_more c2.noStar (evI_snd I q2 fo c2 O' S1 fun u h2 F2 tk2 S2 x2 o2 => spliced_none ?_)))))
    refine lf_min O'.hd fun h' tk' v hk => ?_
    have ei : (if j < i then j else i) = cond (ltI j i) j i := by
      rw [ltI_eq, Bool.cond_decide]
    rw [ei]
    exact hq _ h' F2 tk' (S2.grow hk) ((x1.trans x2 fun a y => .inl (o1 a y)).trans (Stp.grow (D := Own σ' f.fs.nm m) hk) fun a y => .inl (o1 a (o2 a y))) (fun b y => o1 b (o2 b y)) (.int ..)
  | @abs a ea pp pos c c1 =>
    unfold evE at he
    dsimp only at he
    rcases q1 : evI p a σ with _ | ⟨i, σ1⟩
    · rw [q1] at he; cases he
    rw [q1] at he; try dsimp only at he
    cases he
    obtain ⟨mb, hb, _, _, _, _, hb1⟩ := XO.b
    refine Call_ (bu_snd XO fo S c XO.free.2.2.2.2 ⟨mb, hb, hb1⟩ (lf_callB ⟨c1.noStar, trivial⟩ (lf_more c1.noStar (evI_snd I q1 fo c1 O' S fun t h1 F1 tk1 S1 x1 o1 => spliced_none ?_))))
    refine call_abs_int fun u tk' => ?_
    have ei : (if i < 0 then -i else i) = cond (ltI i 0) (-i) i := by
      rw [ltI_eq, Bool.cond_decide]
    rw [ei]
    exact hq _ h1 F1 tk' S1 x1 o1 (.int ..)
  | @bitlen a ea ap pos hs hl c1 =>
    unfold evE at he
    dsimp only at he
    rcases q1 : evI p a σ with _ | ⟨i, σ1⟩
    · rw [q1] at he; cases he
    rw [q1] at he; try dsimp only at he
    cases i with
    | negSucc k => cases he
    | ofNat k =>
      cases he
      refine lf_bitlen (fun x y => hs x f.env y) hl (evI_snd I q1 fo c1 O' S fun t h1 F1 tk1 S1 x1 o1 => ⟨_, _, rfl, ?_⟩)
      have ei : ((Builtin.Int.intBits (Int.ofNat k) : Nat) : Int) = Int.ofNat (sizeN k) := by
        unfold Builtin.Int.intBits sizeN
        cases k with
        | zero => rfl
        | succ k => rfl
      rw [ei]
      exact hq _ h1 F1 _ S1 x1 o1 (.int ..)

theorem evT_snd (I : SndE X prog w p n) (IT : SndT X prog w p n) (fns : List Fn) (tab : Tab) : SndT X prog w (stepLv p fns tab) (n + 1) := by
  intro e σ c σ' he f ee fo ck A E m s₀ h F tk Q O S hq
  replace he : evT p e σ = some (c, σ') := he
  have O' : Okay A n := O.less (Nat.le_succ n)
  cases ck with
  | @loc x y pos cx =>
    unfold evT at he
    dsimp only at he
    cases q : getS σ x with
    | val d =>
      rw [q] at he
      cases d with
      | bool b =>
        cases he
        have r := S.sl x
        rw [q, cx.1] at r
        obtain ⟨y', v, e1, e2, r⟩ := r
        cases e1
        cases r
        exact isTrue_plain (ld_snd fo S cx e2 (wpAny_truthy_bool (hq h F tk S (Stp.refl ..) fun _ y => y)))
      | _ => cases he
    | _ => rw [q] at he; cases he
  | @cmp op a b ea eb pos hm c1 c2 =>
    unfold evT at he
    dsimp only at he
    rcases q1 : evV p a σ with _ | ⟨x, σ1⟩
    · rw [q1] at he; cases he
    rw [q1] at he; try dsimp only at he
    rcases q2 : evV p b σ1 with _ | ⟨y, σ2⟩
    · rw [q2] at he; cases he
    rw [q2] at he; try dsimp only at he
    rcases q3 : cmpD op x y with _ | c0
    · rw [q3] at he; cases he
    rw [q3] at he; try dsimp only at he
    cases he
    refine wpAny_isTrue_Compare1 (evV_snd I q1 fo c1 O' S fun va h1 F1 tk1 S1 x1 o1 r1 => evV_snd I q2 fo c2 O' S1 fun vb h2 F2 tk2 S2 x2 o2 r2 => ?_) hm
    have x12 := x1.trans x2 fun a y => .inl (o1 a y)
    exact lf_cmp O' q3 (r1.step x2 S1.fd) r2 (wpAny_truthy_bool (hq h2 F2 tk2 S2 x12 fun b y => o1 b (o2 b y)))
  | @and a b ea eb pos c1 c2 =>
    unfold evT at he
    dsimp only at he
    rcases q1 : p.T a σ with _ | ⟨b1, σ1⟩
    · rw [q1] at he; cases he
    rw [q1] at he; try dsimp only at he
    refine isTrue_and (IT a σ _ _ q1 f ea fo c1 A E m s₀ h F tk _ O' S fun h1 F1 tk1 S1 x1 o1 => ?_)
    cases b1 with
    | true =>
      rw [if_pos rfl]
      refine isTrue_and (IT b σ1 _ _ he f eb fo c2 A E m s₀ h1 F1 tk1 _ O' S1 fun h2 F2 tk2 S2 x2 o2 => ?_)
      have fin := hq h2 F2 tk2 S2 (x1.trans x2 fun a y => .inl (o1 a y)) fun b y => o1 b (o2 b y)
      cases c with
      | true => rw [if_pos rfl]; exact isTrue_and_nil fin
      | false => rw [if_neg Bool.false_ne_true]; exact fin
    | false =>
      cases he
      rw [if_neg Bool.false_ne_true]
      exact hq h1 F1 tk1 S1 x1 o1
  | @or a b ea eb pos c1 c2 =>
    unfold evT at he
    dsimp only at he
    rcases q1 : p.T a σ with _ | ⟨b1, σ1⟩
    · rw [q1] at he; cases he
    rw [q1] at he; try dsimp only at he
    refine isTrue_or (IT a σ _ _ q1 f ea fo c1 A E m s₀ h F tk _ O' S fun h1 F1 tk1 S1 x1 o1 => ?_)
    cases b1 with
    | false =>
      rw [if_neg Bool.false_ne_true]
      refine isTrue_or (IT b σ1 _ _ he f eb fo c2 A E m s₀ h1 F1 tk1 _ O' S1 fun h2 F2 tk2 S2 x2 o2 => ?_)
      have fin := hq h2 F2 tk2 S2 (x1.trans x2 fun a y => .inl (o1 a y)) fun b y => o1 b (o2 b y)
      cases c with
      | true => rw [if_pos rfl]; exact fin
      | false => rw [if_neg Bool.false_ne_true]; exact isTrue_or_nil fin
    | true =>
      cases he
      rw [if_pos rfl]
      exact hq h1 F1 tk1 S1 x1 o1
  | @idxL x y i ei pp pos cx hs c2 =>
    unfold evT at he
    dsimp only at he
    rcases q1 : p.E (.idxL x i) σ with _ | ⟨l, σ1⟩
    · rw [q1] at he; cases he
    rw [q1] at he; try dsimp only at he
    cases l with
    | val d =>
      cases d with
      | bool b =>
        cases he
        refine isTrue_plain (I _ σ _ _ q1 f _ fo (.idxL cx hs c2) A E m s₀ h F tk _ O' S fun v h1 F1 tk1 S1 x1 o1 r1 => ?_)
        replace r1 : RV h1 F1 v (.bool c) := r1
        cases r1
        exact wpAny_truthy_bool (hq h1 F1 tk1 S1 x1 o1)
      | _ => cases he
    | _ => cases he
  | _ => cases he
end
end Mine
end
section
open PySem PySem.W PySem.Calls PyProof.Rows
namespace Mine

section
variable {X : Cx} {prog : Program} {w : World} {p : Lv} {n : Nat} {f : Fm} {A : Around} {E : Value → Shared → Prop} {m m' : Str → Option Value} {s₀ : Shared} {h h' : Heap} {F F' : Fz} {tk : Nat} {σ σ' : St}

/-- the frame has run from here to there -/
structure Run (X : Cx) (f : Fm) (σ : St) (m : Str → Option Value) (h : Heap) (F : Fz) (σ' : St) (m' : Str → Option Value) (h' : Heap) (F' : Fz) : Prop where
  st : StR X f m' h' F' σ'
  x : Stp (fun b => Own σ f.fs.nm m b ∨ b = f.L) h F h' F'
  o : ∀ b, Own σ' f.fs.nm m' b → Own σ f.fs.nm m b ∨ h.get? b = none
theorem Run.refl (S : StR X f m h F σ) : Run X f σ m h F σ m h F := ⟨S, Stp.refl .., fun _ y => .inl y⟩
theorem Run.trans {σ2 : St} {m2 : Str → Option Value} {h2 : Heap} {F2 : Fz} (r1 : Run X f σ m h F σ' m' h' F') (r2 : Run X f σ' m' h' F' σ2 m2 h2 F2) : Run X f σ m h F σ2 m2 h2 F2 where
  st := r2.st
  x := r1.x.trans r2.x fun a d => d.elim (fun y => (r1.o a y).imp_left .inl) fun y => .inl (.inr y)
  o b y := by
    rcases r2.o b y with y | y
    · exact r1.o b y
    · rcases r1.x.fresh y with (z | z) | z
      · exact .inl z
      · obtain ⟨o, _, _, e, _⟩ := r1.st.ns
        rw [← z, y] at e; cases e
      · exact .inr z
/-- an expression's step -/
theorem Run.ofE (S' : StR X f m h' F' σ') (x : Stp (Own σ f.fs.nm m) h F h' F') (o : ∀ b, Own σ' f.fs.nm m b → Own σ f.fs.nm m b) : Run X f σ m h F σ' m h' F' :=
  ⟨S', x.weak fun _ y => .inl y, fun b y => .inl (o b y)⟩

/-- a store under a name -/
theorem st_snd (fo : f.fs.Ok) (S : StR X f m h F σ) {D : Addr → Prop} {h₁ : Heap} {x : Nat} {y : Str} {v : Value} {l : Loc} (c : LocN f.fs x y) (r : RR X f m D h₁ h F σ v l) (e : setN σ x l = some σ')
    {Q : Unit → Shared → Prop} (hq : ∀ h', StR X f (putM m y v) h' F σ' → Heap.SameBut f.L h h' → Stp (fun b => Own σ f.fs.nm m b ∨ b = f.L) h F h' F →
      (∀ b, Own σ' f.fs.nm (putM m y v) b → Own σ f.fs.nm m b ∨ ((∃ w, l = .own w) ∧ v = .ref b)) → Q () (mk s₀ h' (tk + 1))) :
    wpAny (model prog w) A (storeName f.env y v) Q E (mk s₀ h tk) := by
  refine wpAny_storeName_local (env := f.env) (fo.loc y (List.mem_of_getElem? c.1)) S.ns (fun h' hn hs => ?_) (by
    show (f.fs.sc.kind == .class || (f.fs.sc.kind == .module && f.L != mainGlobals)) = false
    rw [fo.kind]; rfl)
  obtain ⟨S', x', o'⟩ := S.store fo.nd r e c.1 hn hs
  exact hq h' S' hs x' o'
/-- a store of what an expression has just made -/
theorem stE_snd (fo : f.fs.Ok) {σ1 : St} {h1 : Heap} {F1 : Fz} (S1 : StR X f m h1 F1 σ1) (x1 : Stp (Own σ f.fs.nm m) h F h1 F1) (o1 : ∀ b, Own σ1 f.fs.nm m b → Own σ f.fs.nm m b)
    {x : Nat} {y : Str} {v : Value} {l : Loc} (c : LocN f.fs x y) (r : RR X f m (Own σ f.fs.nm m) h h1 F1 σ1 v l) (e : setN σ1 x l = some σ')
    {Q : Unit → Shared → Prop} (hq : ∀ m' h', Run X f σ m h F σ' m' h' F1 → Q () (mk s₀ h' (tk + 1))) :
    wpAny (model prog w) A (storeName f.env y v) Q E (mk s₀ h1 tk) := by
  refine st_snd fo S1 c r e fun h' S' hs x' o' => hq _ h' ⟨S', (x1.weak fun _ y => .inl y).trans x' fun a d => .inl (d.imp_left (o1 a)), fun b y => ?_⟩
  rcases o' b y with y | ⟨⟨w', rfl⟩, rfl⟩
  · exact .inl (o1 b y)
  · obtain ⟨a, vs, k, e1, _, _, _, r4, _⟩ := r
    cases e1
    exact r4

/-- what a block hands on -/
noncomputable def PS (X : Cx) (f : Fm) (s₀ : Shared) (σ : St) (m : Str → Option Value) (h : Heap) (F : Fz) (fl : Fl) (Q : Flow → Shared → Prop) : Prop :=
  (∀ σ' m' h' F' tk', fl = .next σ' → Run X f σ m h F σ' m' h' F' → Q .next (mk s₀ h' tk')) ∧
  (∀ d σ' v m' h' F' tk', fl = .ret d σ' → Run X f σ m h F σ' m' h' F' → RV h' F' v d → Q (.ret v) (mk s₀ h' tk'))
theorem PS.after {fl : Fl} {Q : Flow → Shared → Prop} (P : PS X f s₀ σ m h F fl Q) (r : Run X f σ m h F σ' m' h' F') : PS X f s₀ σ' m' h' F' fl Q :=
  ⟨fun _ _ _ _ _ e r' => P.1 _ _ _ _ _ e (r.trans r'), fun _ _ _ _ _ _ _ e r' v => P.2 _ _ _ _ _ _ _ e (r.trans r') v⟩
noncomputable def SndS (X : Cx) (prog : Program) (w : World) (p : Lv) (n : Nat) : Prop :=
  ∀ (ss : List IS) (σ : St) (fl : Fl), p.S ss σ = some fl → ∀ (f : Fm) (sts : List Stmt), f.fs.Ok → CkSs X.defs f.fs ss sts →
  ∀ (A : Around) (E : Value → Shared → Prop) (m : Str → Option Value) (s₀ : Shared) (h : Heap) (F : Fz) (tk : Nat) (Q : Flow → Shared → Prop), Okay A n → StR X f m h F σ → PS X f s₀ σ m h F fl Q →
    wpAny (model prog w) A (execs sts f.env) Q E (mk s₀ h tk)

/-- what keeps of an own result while the next one is made -/
theorem RR.step {D D' : Addr → Prop} {h₁ : Heap} {σ2 : St} {v : Value} {l : Loc} (r : RR X f m D h₁ h F σ v l) (S : StR X f m h F σ) (x : Stp (Own σ f.fs.nm m) h F h' F') (o : ∀ b, Own σ2 f.fs.nm m b → Own σ f.fs.nm m b) :
    RR X f m D h₁ h' F' σ2 v l := by
  cases l with
  | un => exact r
  | val d => exact RV.step r x S.fd
  | fn k => exact r
  | own l =>
    obtain ⟨a, vs, k, e, r1, r2, r3, r4, r5, r6⟩ := r
    refine ⟨a, vs, k, e, fun q => ?_, r2, fun q => r3 (o _ q), r4, x.keep _ _ r5 r3, r6.step x S.fd⟩
    rcases x.new a q with z | z | z
    · exact r1 z
    · exact r3 z
    · have e' : h.get? a = _ := r5
      rw [z] at e'; cases e'
/-- a value that is not the list a -/
noncomputable def Apart (a : Addr) : List Value → St → Prop
  | v :: vs, l :: ls => (∀ w, l = .own w → v ≠ .ref a) ∧ Apart a vs ls
  | _, _ => True
inductive RLs (X : Cx) (f : Fm) (m : Str → Option Value) (D : Addr → Prop) (h₁ h : Heap) (F : Fz) (σ : St) : List Value → St → Prop
  | nil : RLs X f m D h₁ h F σ [] []
  | cons {v : Value} {vs : List Value} {l : Loc} {ls : St} : RR X f m D h₁ h F σ v l → (∀ w a, l = .own w → v = .ref a → Apart a vs ls) → RLs X f m D h₁ h F σ vs ls → RLs X f m D h₁ h F σ (v :: vs) (l :: ls)
theorem RLs.length {D : Addr → Prop} {h₁ : Heap} : ∀ {vs : List Value} {ls : St}, RLs X f m D h₁ h F σ vs ls → vs.length = ls.length
  | _, _, .nil => rfl
  | _, _, .cons _ _ r => by rw [List.length_cons, List.length_cons, r.length]
theorem RLs.before {h₁ h₂ : Heap} {D D' : Addr → Prop} {F₁ F₂ : Fz} (x : Stp D h₁ F₁ h₂ F₂) (hD : ∀ a, D' a → D a) : ∀ {vs : List Value} {ls : St}, RLs X f m D' h₂ h F σ vs ls → RLs X f m D h₁ h F σ vs ls
  | _, _, .nil => .nil
  | _, _, .cons r a t => .cons (r.before x hD) a (t.before x hD)
theorem RLs.grow {D : Addr → Prop} {h₁ : Heap} (S : StR X f m h F σ) (hk : ∀ b o, h.get? b = some o → h'.get? b = some o) : ∀ {vs : List Value} {ls : St}, RLs X f m D h₁ h F σ vs ls → RLs X f m D h₁ h' F σ vs ls
  | _, _, .nil => .nil
  | _, _, .cons r a t => .cons (r.step (D' := D) S (.grow hk) fun _ y => y) a (t.grow S hk)
theorem RLs.apart {D : Addr → Prop} {h₁ : Heap} {a : Addr} (ha : ¬ D a) (hl : ∃ o, h₁.get? a = some o) : ∀ {vs : List Value} {ls : St}, RLs X f m D h₁ h F σ vs ls → Apart a vs ls
  | _, _, .nil => trivial
  | _, _, .cons (l := l) r _ t => by
    refine ⟨fun w el ev => ?_, t.apart ha hl⟩
    subst el
    obtain ⟨b, us, k, e, _, _, _, r4, _⟩ := r
    rw [ev] at e
    cases e
    obtain ⟨o, e⟩ := hl
    rcases r4 with r4 | r4
    · exact ha r4
    · rw [r4] at e; cases e

theorem evLs_snd (I : SndE X prog w p n) (fo : f.fs.Ok) (O : Okay A n) (pos : Pos) :
    ∀ {es : List IE} {ees : List Expr} {σ σ' : St} {as : St}, evLs p es σ = some (as, σ') → CkEs X.defs f.fs es ees →
    ∀ (h : Heap) (F : Fz) (tk : Nat) (Q : List Value → Shared → Prop), StR X f m h F σ →
    (∀ vs h' F' tk', StR X f m h' F' σ' → Stp (Own σ f.fs.nm m) h F h' F' → (∀ b, Own σ' f.fs.nm m b → Own σ f.fs.nm m b) → RLs X f m (Own σ f.fs.nm m) h h' F' σ' vs as → Q vs (mk s₀ h' tk')) →
    wpAny (model prog w) A (spliced (backTo pos (starEach ees f.env))) Q E (mk s₀ h tk)
  | [], _, σ, σ', ds, he, ck => by
    cases ck
    cases he
    intro h F tk Q S hq
    exact spliced_none (hq [] h F tk S (Stp.refl ..) (fun _ y => y) .nil)
  | e :: es, _, σ, σ', ds, he, ck => by
    cases ck with
    | @cons _ _ ee ees ck1 ck2 =>
    intro h F tk Q S hq
    unfold evLs at he
    rcases q : p.E e σ with _ | ⟨l, σ1⟩
    · rw [q] at he; cases he
    rw [q] at he
    dsimp only at he
    rcases q2 : evLs p es σ1 with _ | ⟨ls, σ2⟩
    · rw [q2] at he; cases he
    rw [q2] at he
    cases he
    refine lf_more (CkE.noStar _ _ ck1) ?_
    refine I e σ _ _ q f _ fo ck1 A E m s₀ h F tk _ O S fun v h1 F1 tk1 S1 x1 o1 r1 => ?_
    refine evLs_snd I fo O pos q2 ck2 _ _ _ _ S1 fun vs h2 F2 tk2 S2 x2 o2 r2 => ?_
    refine hq _ _ _ _ S2 (x1.trans x2 fun a y => .inl (o1 a y)) (fun b y => o1 b (o2 b y)) (.cons (r1.step (D' := fun _ => False) S1 x2 o2) (fun w' a el ev => ?_) (r2.before x1 o1))
    subst el ev
    obtain ⟨b, us, k, e, _, _, r3, _, r5, _⟩ := r1
    cases e
    exact r2.apart r3 ⟨_, r5⟩
end
end Mine
end
section
open PySem PySem.W PySem.Calls PyProof.Rows
namespace Mine

section
variable {X : Cx} {prog : Program} {w : World} {p : Lv} {n : Nat} {f : Fm} {A : Around} {E : Value → Shared → Prop} {m m' m1 : Str → Option Value} {s₀ : Shared} {h h' h1 : Heap} {F F' F1 : Fz} {tk : Nat} {σ σ' σ1 : St}

/-- a store of what has been made since the start -/
theorem stR_snd (fo : f.fs.Ok) (R : Run X f σ m h F σ1 m1 h1 F1) {x : Nat} {y : Str} {v : Value} {l : Loc} (c : LocN f.fs x y) (r : RR X f m1 (Own σ f.fs.nm m) h h1 F1 σ1 v l) (e : setN σ1 x l = some σ')
    {Q : Unit → Shared → Prop} (hq : ∀ h', Run X f σ m h F σ' (putM m1 y v) h' F1 → Heap.SameBut f.L h1 h' → (∀ b, Own σ' f.fs.nm (putM m1 y v) b → Own σ1 f.fs.nm m1 b ∨ ((∃ w, l = .own w) ∧ v = .ref b)) →
      (∀ u k, RR X f m1 (Own σ f.fs.nm m) h h1 F1 σ1 u k → (∀ w' a, k = .own w' → u = .ref a → ¬ ((∃ w, l = .own w) ∧ v = .ref a)) → RR X f (putM m1 y v) (Own σ f.fs.nm m) h h' F1 σ' u k) → Q () (mk s₀ h' (tk + 1))) :
    wpAny (model prog w) A (storeName f.env y v) Q E (mk s₀ h1 tk) := by
  refine st_snd fo R.st c r e fun h' S' hs x' o' => hq h' ⟨S', R.x.trans x' fun a d => d.elim (fun z => (R.o a z).imp_left .inl) fun z => .inl (.inr z), fun b z => ?_⟩ hs o' fun u k ru ha => ?_
  · rcases o' b z with z | ⟨⟨w', rfl⟩, rfl⟩
    · exact R.o b z
    · obtain ⟨a, vs, k, e1, _, _, _, r4, _⟩ := r
      cases e1
      exact r4
  · cases k with
    | un => exact ru
    | val d => exact RV.mono (fun _ z => z) (fun a o fa e => (hs.2 a fun z => R.st.nL (z ▸ fa)).trans e) ru
    | fn k => exact ru
    | own l' =>
      obtain ⟨a, vs, k, e1, r1, r2, r3, r4, r5, r6⟩ := ru
      refine ⟨a, vs, k, e1, r1, r2, fun z => ?_, r4, (hs.2 a r2).trans r5, r6.mono (fun _ z => z) fun b o fb e => (hs.2 b fun z => R.st.nL (z ▸ fb)).trans e⟩
      rcases o' a z with z | z
      · exact r3 z
      · exact ha l' a rfl e1 z

theorem Run.val (R : Run X f σ m h F σ1 m1 h1 F1) {v : Value} {d : PyData} (r : RV h1 F1 v d) : RR X f m1 (Own σ f.fs.nm m) h h1 F1 σ1 v (.val d) := r

/-- the items of a tuple go to the names of a tuple of targets -/
theorem unp_snd (fo : f.fs.Ok) : ∀ {xs : List Nat} {ts : List Expr} {vs : List Value} {ds : List PyData} {σ1 : St} {m1 : Str → Option Value} {h1 : Heap} {tk : Nat} {Q : Unit → Shared → Prop}, CkT f.fs xs ts → setAll xs (valsOf ds) σ1 = some σ' →
    RVs h1 F1 vs ds → Run X f σ m h F σ1 m1 h1 F1 → (∀ m' h' tk', Run X f σ m h F σ' m' h' F1 → (∀ b o, b ≠ f.L → h1.get? b = some o → h'.get? b = some o) → (∀ b, Own σ' f.fs.nm m' b → Own σ1 f.fs.nm m1 b) → Q () (mk s₀ h' tk')) →
    wpAny (model prog w) A (assignInOrder ((assignEach ts f.env).map (·.2)) vs) Q E (mk s₀ h1 tk)
  | _, _, vs, ds, σ1, m1, h1, tk, Q, .nil, e, rv, R, hq => by
    cases rv with
    | nil =>
      cases e
      exact wpAny_pure (hq _ _ _ R (fun _ _ _ e => e) fun _ z => z)
    | cons => cases e
  | _, _, vs, ds, σ1, m1, h1, tk, Q, .cons (x := x) (y := y) (p := pp) (xs := xs) (es := es) c ct, e, rv, R, hq => by
    cases rv with
    | nil => cases e
    | @cons v vs d ds r rs =>
      rcases q : setN σ1 x (.val d) with _ | σ2
      · unfold valsOf setAll at e; rw [q] at e; cases e
      unfold valsOf setAll at e
      rw [q] at e
      show wpAny _ A (do holding vs (assign (.Name y pp) f.env v); assignInOrder ((assignEach es f.env).map (·.2)) vs) Q E (mk s₀ h1 tk)
      refine wpAny_bind (wpAny_holding (PyProof.Rows.assign_Name (stR_snd fo R c (R.val r) q fun h2 R2 hs ow _ => ?_)))
      have hk : ∀ a o, F1 a → h1.get? a = some o → h2.get? a = some o := fun a o fa e => (hs.2 a fun z => R.st.nL (z ▸ fa)).trans e
      exact unp_snd fo ct e (rs.mono (fun _ z => z) hk) R2 fun m' h' tk' R' hk' ow' => hq m' h' tk' R' (fun b o ne e => hk' b o ne ((hs.2 b ne).trans e)) fun b z => (ow b (ow' b z)).elim id fun ⟨⟨_, e⟩, _⟩ => (nomatch e)

theorem RLs.two {D : Addr → Prop} {h₁ h₂ : Heap} {G : Fz} {τ : St} {vs : List Value} {l1 l2 : Loc} (r : RLs X f m D h₁ h₂ G τ vs [l1, l2]) : ∃ v1 v2, vs = [v1, v2] := by
  cases r with
  | cons _ _ r =>
  cases r with
  | cons _ _ r =>
  cases r
  exact ⟨_, _, rfl⟩
theorem RLs.three {D : Addr → Prop} {h₁ h₂ : Heap} {G : Fz} {τ : St} {vs : List Value} {l1 l2 l3 : Loc} (r : RLs X f m D h₁ h₂ G τ vs [l1, l2, l3]) : ∃ v1 v2 v3, vs = [v1, v2, v3] := by
  cases r with
  | cons _ _ r =>
  obtain ⟨a, b, e⟩ := r.two
  exact ⟨_, a, b, congrArg _ e⟩

theorem asgT2_snd (I : SndE X prog w p n) (fo : f.fs.Ok) (O : Okay A n) {x1 x2 : Nat} {y1 y2 : Str} {es : List IE} {ees : List Expr} {p1 p2 tp vp pos : Pos} {k k' : Nat} (c1 : LocN f.fs x1 y1) (c2 : LocN f.fs x2 y2) (cs : CkEs X.defs f.fs es ees)
    (hw : ∀ env : Env, env.scope = f.fs.sc → swappedStores [.Tuple [.Name y1 p1, .Name y2 p2] k tp] (.Tuple ees k' vp) env = pure (some [y1, y2])) (S : StR X f m h F σ) {ls : St} (q1 : evLs p es σ = some (ls, σ1)) (q2 : setAllR [x1, x2] ls σ1 = some σ')
    {Q : Flow → Shared → Prop} (hq : ∀ m' h' F' tk', Run X f σ m h F σ' m' h' F' → Q .next (mk s₀ h' tk')) :
    wpAny (model prog w) A (exec (.Assign [.Tuple [.Name y1 p1, .Name y2 p2] k tp] (.Tuple ees k' vp) pos) f.env) Q E (mk s₀ h tk) := by
  match ls, q1, q2 with
  | [l1, l2], q1, q2 =>
  rcases e2 : setN σ1 x2 l2 with _ | σ2
  · simp only [setAllR, e2] at q2; cases q2
  simp only [setAllR, e2] at q2
  refine Assign_Tuple_swapped (names := [y1, y2]) (Tuple_ (evLs_snd I fo O vp q1 cs _ _ _ _ S fun vs h1 F1 tk1 S1 xx1 o1 r1 => ?_)) rfl (hw f.env rfl)
  obtain ⟨v1, v2, rfl⟩ := r1.two
  have hk : ∀ b o, h1.get? b = some o → (h1.push { cls := .type "tuple", data := .seq [v1, v2].toArray }).get? b = some o := fun b o => Heap.get?_push_of_some _
  have ht : (h1.push { cls := .type "tuple", data := .seq [v1, v2].toArray }).IsTuple h1.objs.size [v1, v2].toArray := ⟨_, Heap.get?_push_size _ rfl, rfl, _, rfl⟩
  refine lf_newTuple (show 2 ≤ 2000 by omega) ?_
  refine wpAny_unpackItems_tuple (items := [v1, v2].toArray) O.hd ht fun h2 he2 => ?_
  have hk2 : ∀ b o, h1.get? b = some o → h2.get? b = some o := fun b o e => he2 b o (fun z => by
    have e2 := hk b o e
    rw [z, get_size] at e2; cases e2) (hk b o e)
  have R2 : Run X f σ m h F σ1 m h2 F1 := Run.ofE (S1.grow hk2) (xx1.trans (Stp.grow (D := fun _ => False) hk2) fun _ z => z.elim) o1
  have r2 := r1.grow S1 hk2
  cases r2 with
  | cons ra ap rb =>
  cases rb with
  | cons rb _ _ =>
  show wpAny _ A (do holding [v1] (bindName f.env y2 v2); (do holding [] (bindName f.env y1 v1); pure ())) (fun _ => Q .next) E (mk s₀ h2 tk1)
  refine wpAny_bind (wpAny_holding (wpAny_bindName (stR_snd fo R2 c2 rb e2 fun h3 R3 _ _ kp3 => ?_)))
  refine wpAny_bind (wpAny_holding (wpAny_bindName (stR_snd fo R3 c1 (kp3 v1 l1 ra fun w' a el ev z => (ap w' a el ev).1 _ z.1.choose_spec z.2) q2 fun h4 R4 _ _ _ => wpAny_pure (hq _ _ _ _ R4))))

theorem asgT3_snd (I : SndE X prog w p n) (fo : f.fs.Ok) (O : Okay A n) {x1 x2 x3 : Nat} {y1 y2 y3 : Str} {es : List IE} {ees : List Expr} {p1 p2 p3 tp vp pos : Pos} {k k' : Nat} (c1 : LocN f.fs x1 y1) (c2 : LocN f.fs x2 y2) (c3 : LocN f.fs x3 y3)
    (cs : CkEs X.defs f.fs es ees)
    (hw : ∀ env : Env, env.scope = f.fs.sc → swappedStores [.Tuple [.Name y1 p1, .Name y2 p2, .Name y3 p3] k tp] (.Tuple ees k' vp) env = pure (some [y1, y2, y3])) (S : StR X f m h F σ) {ls : St} (q1 : evLs p es σ = some (ls, σ1))
    (q2 : setAllR [x1, x2, x3] ls σ1 = some σ')
    {Q : Flow → Shared → Prop} (hq : ∀ m' h' F' tk', Run X f σ m h F σ' m' h' F' → Q .next (mk s₀ h' tk')) :
    wpAny (model prog w) A (exec (.Assign [.Tuple [.Name y1 p1, .Name y2 p2, .Name y3 p3] k tp] (.Tuple ees k' vp) pos) f.env) Q E (mk s₀ h tk) := by
  match ls, q1, q2 with
  | [l1, l2, l3], q1, q2 =>
  rcases e3 : setN σ1 x3 l3 with _ | σ2
  · simp only [setAllR, e3] at q2; cases q2
  rcases e2 : setN σ2 x2 l2 with _ | σ3
  · simp only [setAllR, e3, e2] at q2; cases q2
  simp only [setAllR, e3, e2] at q2
  refine Assign_Tuple_swapped (names := [y1, y2, y3]) (Tuple_ (evLs_snd I fo O vp q1 cs _ _ _ _ S fun vs h1 F1 tk1 S1 xx1 o1 r1 => ?_)) rfl (hw f.env rfl)
  obtain ⟨v1, v2, v3, rfl⟩ := r1.three
  have hk : ∀ b o, h1.get? b = some o → (h1.push { cls := .type "tuple", data := .seq [v1, v2, v3].toArray }).get? b = some o := fun b o => Heap.get?_push_of_some _
  have ht : (h1.push { cls := .type "tuple", data := .seq [v1, v2, v3].toArray }).IsTuple h1.objs.size [v1, v2, v3].toArray := ⟨_, Heap.get?_push_size _ rfl, rfl, _, rfl⟩
  refine lf_newTuple (show 3 ≤ 2000 by omega) ?_
  refine wpAny_unpackItems_tuple (items := [v1, v2, v3].toArray) O.hd ht fun h2 he2 => ?_
  have hk2 : ∀ b o, h1.get? b = some o → h2.get? b = some o := fun b o e => he2 b o (fun z => by
    have e2 := hk b o e
    rw [z, get_size] at e2; cases e2) (hk b o e)
  have R2 : Run X f σ m h F σ1 m h2 F1 := Run.ofE (S1.grow hk2) (xx1.trans (Stp.grow (D := fun _ => False) hk2) fun _ z => z.elim) o1
  have r2 := r1.grow S1 hk2
  cases r2 with
  | cons ra apa rb =>
  cases rb with
  | cons rb apb rc =>
  cases rc with
  | cons rc _ _ =>
  show wpAny _ A (do holding [v2, v1] (bindName f.env y3 v3); (do holding [v1] (bindName f.env y2 v2); (do holding [] (bindName f.env y1 v1); pure ()))) (fun _ => Q .next) E (mk s₀ h2 tk1)
  refine wpAny_bind (wpAny_holding (wpAny_bindName (stR_snd fo R2 c3 rc e3 fun h3 R3 _ _ kp3 => ?_)))
  have ra3 := kp3 v1 l1 ra fun w' a el ev z => (apa w' a el ev).2.1 _ z.1.choose_spec z.2
  have rb3 := kp3 v2 l2 rb fun w' a el ev z => (apb w' a el ev).1 _ z.1.choose_spec z.2
  refine wpAny_bind (wpAny_holding (wpAny_bindName (stR_snd fo R3 c2 rb3 e2 fun h4 R4 _ _ kp4 => ?_)))
  have ra4 := kp4 v1 l1 ra3 fun w' a el ev z => (apa w' a el ev).1 _ z.1.choose_spec z.2
  refine wpAny_bind (wpAny_holding (wpAny_bindName (stR_snd fo R4 c1 ra4 q2 fun h5 R5 _ _ _ => wpAny_pure (hq _ _ _ _ R5))))
end
end Mine
end
section
open PySem PySem.W PySem.Calls PyProof.Rows
namespace Mine

/-- an iterator at its items: what it gives, what it touches (D), where it stays -/
structure Itr (prog : Program) (w : World) (target : Expr) (it : Addr) (D : Addr → Prop) (P : Heap → Fz → List PyData → Prop) : Prop where
  item : ∀ (A : Around) (E E' : Value → Shared → Prop) (s₀ : Shared) (h : Heap) (F : Fz) (tk : Nat) (d : PyData) (r : List PyData) (N : Shared → Prop) (Y : Value → Shared → Prop), A.handled = none →
    (∀ a, F a → ∃ o, h.get? a = some o) → P h F (d :: r) →
    (∀ v h' F' tk', P h' F' r → Stp D h F h' F' → (∀ a, F' a → ∃ o, h'.get? a = some o) → RV h' F' v d → Y v (mk s₀ h' tk')) →
    wpAny (model prog w) A (pyNext (.ref it)) (fun x s₁ => match x with
      | none => N s₁
      | some v => wpAny (model prog w) A (letOwnedTupleGo target (.ref it) v) (fun _ s => Y v s) E' s₁) E (mk s₀ h tk)
  done : ∀ (A : Around) (E E' : Value → Shared → Prop) (s₀ : Shared) (h : Heap) (F : Fz) (tk : Nat) (N : Shared → Prop) (Y : Value → Shared → Prop), A.handled = none → P h F [] →
    (∀ h', Stp D h F h' F → (∀ a, F a → ∃ o, h'.get? a = some o) → N (mk s₀ h' tk)) → (∀ a, F a → ∃ o, h.get? a = some o) →
    wpAny (model prog w) A (pyNext (.ref it)) (fun x s₁ => match x with
      | none => N s₁
      | some v => wpAny (model prog w) A (letOwnedTupleGo target (.ref it) v) (fun _ s => Y v s) E' s₁) E (mk s₀ h tk)
  stay : ∀ (h h' : Heap) (F F' : Fz) (l : List PyData), P h F l → (∀ a, F a → F' a) → (∀ a o, F a → h.get? a = some o → h'.get? a = some o) → (∀ a o, D a → h.get? a = some o → h'.get? a = some o) → (∀ a, D a → ¬ F' a) → P h' F' l
  live : ∀ (h : Heap) (F : Fz) (l : List PyData), P h F l → ∀ a, D a → (∃ o, h.get? a = some o) ∧ ¬ F a

section
variable {prog : Program} {w : World}

theorem aliveK {h h' : Heap} {F : Fz} {a : Addr} (ha : ∀ b, F b → ∃ o, h.get? b = some o) (hs : ∀ b o, b ≠ a → h.get? b = some o → h'.get? b = some o) (nF : ¬ F a) : ∀ b, F b → ∃ o, h'.get? b = some o :=
  fun b fb => let ⟨o, e⟩ := ha b fb; ⟨o, hs b o (fun z => nF (z ▸ fb)) e⟩
theorem Stp.one {h h' : Heap} {F : Fz} {a : Addr} (hs : ∀ b o, b ≠ a → h.get? b = some o → h'.get? b = some o) : Stp (fun b => b = a) h F h' F := ⟨fun b o e n => hs b o n e, fun _ x => x, fun _ x => .inl x⟩

/-- a range's iterator -/
noncomputable def PRange (it : Addr) (c : Int) (h : Heap) (F : Fz) (l : List PyData) : Prop := ∃ x : Int, ∃ k : Nat, IsRangeIter h it x (k : Int) c ∧ l = fromI c k x ∧ ¬ F it
theorem itr_range (it : Addr) (c : Int) (target : Expr) (ht : (∃ y pp, target = .Name y pp) ∨ ∃ ts k pp, target = .Tuple ts k pp) : Itr prog w target it (fun a => a = it) (PRange it c) where
  item A E E' s₀ h F tk d r N Y hh ha P hq := by
    obtain ⟨x, k, hi, e, nF⟩ := P
    cases k with
    | zero => cases e
    | succ k =>
      cases e
      refine wpAny_pyNext_range_item hi (by omega) fun h' hi' hs => ?_
      have e2 : ((k + 1 : Nat) : Int) - 1 = (k : Int) := by omega
      rw [e2] at hi'
      have hs' : ∀ b o, b ≠ it → h.get? b = some o → h'.get? b = some o := fun b o ne e => (hs.2 b ne).trans e
      have fin := hq _ h' F (tk + 1) ⟨x + c, k, hi', rfl, nF⟩ (Stp.one hs') (aliveK ha hs' nF) (.int x tk)
      rcases ht with ⟨y, pp, rfl⟩ | ⟨ts, k, pp, rfl⟩ <;> exact wpAny_pure fin
  done A E E' s₀ h F tk N Y hh P hq ha := by
    obtain ⟨x, k, hi, e, nF⟩ := P
    cases k with
    | succ k => cases e
    | zero =>
      refine wpAny_pyNext_range_end hh hi (by omega) fun h' he => ?_
      have hs' : ∀ b o, b ≠ it → h.get? b = some o → h'.get? b = some o := fun b o ne e => he b o ne e
      exact hq h' (Stp.one hs') (aliveK ha hs' nF)
  stay h h' F F' l P hF hk hD hn := by
    obtain ⟨x, k, hi, e, nF⟩ := P
    exact ⟨x, k, hD it _ rfl hi, e, hn it rfl⟩
  live h F l P a e := by
    subst e
    obtain ⟨x, k, hi, e, nF⟩ := P
    exact ⟨⟨_, hi⟩, nF⟩

/-- a list's iterator: the list is frozen -/
noncomputable def PList (it a : Addr) (h : Heap) (F : Fz) (l : List PyData) : Prop := ∃ i vs n, h.IsListIter it a i ∧ IsL h a vs n ∧ F a ∧ RVs h F (vs.toList.drop i) l ∧ ¬ F it
theorem drop_get {vs : Array Value} {i : Nat} {v : Value} {r : List Value} (e : vs.toList.drop i = v :: r) : vs[i]? = some v ∧ vs.toList.drop (i + 1) = r := by
  have h1 : (vs.toList.drop i)[0]? = some v := by rw [e]; rfl
  rw [List.getElem?_drop] at h1
  refine ⟨by simpa using h1, ?_⟩
  have h2 : (vs.toList.drop i).drop 1 = r := by rw [e]; rfl
  rwa [List.drop_drop] at h2
theorem drop_end {vs : Array Value} {i : Nat} (e : vs.toList.drop i = []) : vs[i]? = none := by
  have h1 : (vs.toList.drop i)[0]? = none := by rw [e]; rfl
  rw [List.getElem?_drop] at h1
  simpa using h1
theorem itr_list (it a : Addr) (target : Expr) (ht : (∃ y pp, target = .Name y pp) ∨ ∃ ts k pp, target = .Tuple ts k pp) : Itr prog w target it (fun b => b = it) (PList it a) where
  item A E E' s₀ h F tk d r N Y hh ha P hq := by
    obtain ⟨i, vs, n, hi, hl, Fa, rv, nF⟩ := P
    generalize hdr : vs.toList.drop i = us at rv
    cases rv with
    | @cons v vr _ _ rv rr =>
    obtain ⟨e1, e2⟩ := drop_get hdr
    refine wpAny_pyNext_list_item hi hl.isList e1 fun h' hi' hs => ?_
    have hs' : ∀ b o, b ≠ it → h.get? b = some o → h'.get? b = some o := fun b o ne e => (hs.2 b ne).trans e
    have ne : ∀ b, F b → b ≠ it := fun b fb z => nF (z ▸ fb)
    have kf : ∀ b o, F b → h.get? b = some o → h'.get? b = some o := fun b o fb e => hs' b o (ne b fb) e
    have Pn : PList it a h' F r := ⟨i + 1, vs, n, hi', hs' a _ (ne a Fa) hl, Fa, by rw [e2]; exact rr.mono (fun _ z => z) kf, nF⟩
    have rv' : RV h' F v d := rv.mono (fun _ z => z) kf
    have fin := hq v h' F tk Pn (Stp.one hs') (aliveK ha hs' nF) rv'
    rcases ht with ⟨y, pp, rfl⟩ | ⟨ts, k, pp, rfl⟩
    · exact wpAny_pure fin
    · cases v with
      | ref T => exact wpAny_letOwnedTupleGo_listiter hi' fin
      | _ => exact wpAny_pure fin
  done A E E' s₀ h F tk N Y hh P hq ha := by
    obtain ⟨i, vs, n, hi, hl, Fa, rv, nF⟩ := P
    generalize hdr : vs.toList.drop i = us at rv
    cases rv
    refine wpAny_pyNext_list_end hh hi hl.isList (drop_end hdr) fun h' he => ?_
    have hs' : ∀ b o, b ≠ it → h.get? b = some o → h'.get? b = some o := fun b o ne e => he b o ne e
    exact hq h' (Stp.one hs') (aliveK ha hs' nF)
  stay h h' F F' l P hF hk hD hn := by
    obtain ⟨i, vs, n, hi, hl, Fa, rv, nF⟩ := P
    exact ⟨i, vs, n, hi.at fun o e => hD it o rfl e, hk a _ Fa hl, hF a Fa, rv.mono hF hk, hn it rfl⟩
  live h F l P b e := by
    subst e
    obtain ⟨i, vs, n, hi, hl, Fa, rv, nF⟩ := P
    obtain ⟨o, ho, _⟩ := hi
    exact ⟨⟨o, ho⟩, nF⟩

/-- enumerate's iterator over a frozen list -/
noncomputable def PEnum (e it a : Addr) (h : Heap) (F : Fz) (l : List PyData) : Prop :=
  ∃ i old vs n l', IsEnum h e it ((i : Nat) : Int) old ∧ h.IsListIter it a i ∧ IsL h a vs n ∧ F a ∧ RVs h F (vs.toList.drop i) l' ∧ l = enumD i l' ∧ ¬ F e ∧ ¬ F it ∧ e ≠ it
theorem itr_enum (e it a : Addr) (ts : List Expr) (kk : Nat) (pp : Pos) : Itr prog w (.Tuple ts kk pp) e (fun b => b = e ∨ b = it) (PEnum e it a) where
  item A E E' s₀ h F tk d r N Y hh ha P hq := by
    obtain ⟨i, old, vs, n, l', he, hi, hl, Fa, rv, el, nFe, nFi, nei⟩ := P
    generalize hdr : vs.toList.drop i = us at rv
    cases rv with
    | nil => cases el
    | @cons v vr d1 dr rv rr =>
    cases el
    obtain ⟨e1, e2⟩ := drop_get hdr
    refine wpAny_pyNext_enum_item he hi hl.isList e1 nei fun h1 he1 hi1 ht1 hz1 hk1 => ?_
    refine wpAny_letOwnedTupleGo_enum he1 fun h2 he2 hs2 => ?_
    replace hs2 : Heap.SameBut e h1 h2 := hs2
    have eh : e < h.objs.size := Heap.lt_size he
    have ih : it < h.objs.size := by obtain ⟨o, ho, _⟩ := hi; exact Heap.lt_size ho
    have k2 : ∀ b o, b ≠ e → b ≠ it → h.get? b = some o → h2.get? b = some o := fun b o n1 n2 q => (hs2.2 b n1).trans (hk1 b o n1 n2 q)
    have t2 : h2.get? h.objs.size = some { cls := .type "tuple", data := .seq #[.int i tk, v] } := (hs2.2 _ (Nat.ne_of_gt eh)).trans ht1
    have i2 : h2.IsListIter it a (i + 1) := by
      obtain ⟨o, ho, r⟩ := hi1
      exact ⟨o, (hs2.2 it (Ne.symm nei)).trans ho, r⟩
    have nb : ∀ b, F b → b ≠ e ∧ b ≠ it := fun b fb => ⟨fun z => nFe (z ▸ fb), fun z => nFi (z ▸ fb)⟩
    have kf : ∀ b o, F b → h.get? b = some o → h2.get? b = some o := fun b o fb q => k2 b o (nb b fb).1 (nb b fb).2 q
    have nsz : ¬ F h.objs.size := fun q => by
      obtain ⟨o, z⟩ := ha _ q
      rw [get_size] at z; cases z
    refine hq (.ref h.objs.size) h2 (fun b => F b ∨ b = h.objs.size) (tk + 1) ⟨i + 1, v, vs, n, dr, ?_, i2, k2 a _ (nb a Fa).1 (nb a Fa).2 hl, .inl Fa, ?_, rfl, ?_, ?_, nei⟩
      ⟨fun b o q n => k2 b o (fun z => n (.inl z)) (fun z => n (.inr z)) q, fun b z => .inl z, fun b z => z.elim .inl fun y => .inr (.inr (y ▸ get_size h))⟩ (fun b z => ?_) ?_
    · have : ((i + 1 : Nat) : Int) = (i : Int) + 1 := by omega
      rw [this]; exact he2
    · rw [e2]; exact rr.mono (fun _ z => .inl z) kf
    · rintro (z | z)
      · exact nFe z
      · exact absurd z (Nat.ne_of_lt eh)
    · rintro (z | z)
      · exact nFi z
      · exact absurd z (Nat.ne_of_lt ih)
    · rcases z with z | rfl
      · obtain ⟨o, q⟩ := ha b z
        exact ⟨o, kf b o z q⟩
      · exact ⟨_, t2⟩
    · exact .tuple (.inr rfl) t2 (.cons (.int ..) (.cons (rv.mono (fun _ z => .inl z) kf) .nil))
  done A E E' s₀ h F tk N Y hh P hq ha := by
    obtain ⟨i, old, vs, n, l', he, hi, hl, Fa, rv, el, nFe, nFi, nei⟩ := P
    generalize hdr : vs.toList.drop i = us at rv
    cases rv with
    | cons => cases el
    | nil =>
    refine wpAny_pyNext_enum_end hh he hi hl.isList (drop_end hdr) fun h' hx => ?_
    have hs' : ∀ b o, b ≠ it → h.get? b = some o → h'.get? b = some o := fun b o ne e => hx b o ne e
    exact hq h' ((Stp.one hs').weak fun _ z => .inr z) (aliveK ha hs' nFi)
  stay h h' F F' l P hF hk hD hn := by
    obtain ⟨i, old, vs, n, l', he, hi, hl, Fa, rv, el, nFe, nFi, nei⟩ := P
    exact ⟨i, old, vs, n, l', hD e _ (.inl rfl) he, hi.at fun o q => hD it o (.inr rfl) q, hk a _ Fa hl, hF a Fa, rv.mono hF hk, el, hn e (.inl rfl), hn it (.inr rfl), nei⟩
  live h F l P b z := by
    obtain ⟨i, old, vs, n, l', he, hi, hl, Fa, rv, el, nFe, nFi, nei⟩ := P
    rcases z with rfl | rfl
    · exact ⟨⟨_, he⟩, nFe⟩
    · obtain ⟨o, ho, _⟩ := hi
      exact ⟨⟨o, ho⟩, nFi⟩
end
end Mine
end
section
open PySem PySem.W PySem.Calls PyProof.Rows
namespace Mine

section
variable {X : Cx} {prog : Program} {w : World} {p : Lv} {n : Nat} {f : Fm} {A : Around} {E : Value → Shared → Prop} {m m1 : Str → Option Value} {s₀ : Shared} {h h1 : Heap} {F F1 : Fz} {tk : Nat} {σ σ1 : St}

/-- a loop's turns, the target a name or a tuple of names -/
noncomputable def loopG (p : Lv) (put : PyData → St → Option St) (a : List IS) : List PyData → St → Option Fl
  | [], σ => some (.next σ)
  | d :: r, σ => match put d σ with
    | some σ' => match p.S a σ' with
      | some (.next σ'') => loopG p put a r σ''
      | some (.ret v σ'') => some (.ret v σ'')
      | none => none
    | none => none

/-- storing the item under the target -/
noncomputable def PutOk (X : Cx) (prog : Program) (w : World) (f : Fm) (target : Expr) (put : PyData → St → Option St) : Prop :=
  ∀ (A : Around) (E : Value → Shared → Prop) (s₀ : Shared) (σ : St) (m : Str → Option Value) (h : Heap) (F : Fz) (σ1 : St) (m1 : Str → Option Value) (h1 : Heap) (F1 : Fz) (tk : Nat) (v : Value) (d : PyData) (σ2 : St) (Q : Unit → Shared → Prop),
    A.handled = none → put d σ1 = some σ2 → Run X f σ m h F σ1 m1 h1 F1 → RV h1 F1 v d →
    (∀ m2 h2 tk2, Run X f σ m h F σ2 m2 h2 F1 → (∀ b o, b ≠ f.L → h1.get? b = some o → h2.get? b = some o) → (∀ b, Own σ2 f.fs.nm m2 b → Own σ1 f.fs.nm m1 b) → Q () (mk s₀ h2 tk2)) →
    wpAny (model prog w) A (assign target f.env v) Q E (mk s₀ h1 tk)

theorem loop_snd (IS' : SndS X prog w p n) (fo : f.fs.Ok) (O : Okay A n) {target : Expr} {put : PyData → St → Option St} (PO : PutOk X prog w f target put) {a : List IS} {ea : List Stmt} (ca : CkSs X.defs f.fs a ea)
    {it : Addr} {D : Addr → Prop} {P : Heap → Fz → List PyData → Prop} (I : Itr prog w target it D P) {l : List PyData} {fl : Fl} (he : loopG p put a l σ1 = some fl) (R : Run X f σ m h F σ1 m1 h1 F1) (hP : P h1 F1 l)
    (hD : ∀ b, D b → (Own σ f.fs.nm m b ∨ h.get? b = none) ∧ ¬ Own σ1 f.fs.nm m1 b ∧ b ≠ f.L) {Q : Flow → Shared → Prop} (hq : PS X f s₀ σ m h F fl Q) :
    codeAny (model prog w) A (.forLoop target (.ref it) ea [] f.env) (fun r s' => match r with | .ok fl => Q fl s' | .error e => cameBackBy (model prog w) A f.env E e s') (mk s₀ h1 tk) := by
  refine codeAny_forLoop_any
    (fun k s => ∃ l σ1 m1 h1 F1 tk, s = mk s₀ h1 tk ∧ k = l.length ∧ loopG p put a l σ1 = some fl ∧ Run X f σ m h F σ1 m1 h1 F1 ∧ P h1 F1 l ∧ ∀ b, D b → (Own σ f.fs.nm m b ∨ h.get? b = none) ∧ ¬ Own σ1 f.fs.nm m1 b ∧ b ≠ f.L)
    (fun k s hI => ?_) l.length ⟨l, σ1, m1, h1, F1, tk, rfl, rfl, he, R, hP, hD⟩
  clear he R hP hD
  obtain ⟨l, σ1, m1, h1, F1, tk, rfl, rfl, he, R, hP, hD⟩ := hI
  cases l with
  | nil =>
    cases he
    refine I.done A _ _ s₀ h1 F1 tk _ _ O.hd hP (fun h2 x2 al => wpAny_execs_nil ?_) R.st.bi.alive
    have S2 : StR X f m1 h2 F1 σ1 := R.st.step x2 (fun b db o e => ⟨(I.live _ _ _ hP b db).2, (hD b db).2.1, (hD b db).2.2⟩) (fun b db fb => absurd fb (I.live _ _ _ hP b db).2) al
    exact hq.1 σ1 m1 h2 F1 tk rfl ⟨S2, R.x.trans x2 fun b db => (hD b db).1.imp_left .inl, R.o⟩
  | cons d r =>
    unfold loopG at he
    rcases q1 : put d σ1 with _ | σ2
    · rw [q1] at he; cases he
    rw [q1] at he
    dsimp only at he
    rcases q2 : p.S a σ2 with _ | fl2
    · rw [q2] at he; cases he
    rw [q2] at he
    refine I.item A _ _ s₀ h1 F1 tk d r _ _ O.hd R.st.bi.alive hP fun v h2 F2 tk2 P2 x2 al2 rv => ?_
    have nF2 : ∀ b, D b → ¬ F2 b := fun b db => (I.live _ _ _ P2 b db).2
    have S2 : StR X f m1 h2 F2 σ1 := R.st.step x2 (fun b db o e => ⟨(I.live _ _ _ hP b db).2, (hD b db).2.1, (hD b db).2.2⟩) (fun b db fb => absurd fb (nF2 b db)) al2
    have R2 : Run X f σ m h F σ1 m1 h2 F2 := ⟨S2, R.x.trans x2 fun b db => (hD b db).1.imp_left .inl, R.o⟩
    refine PO A _ s₀ σ m h F σ1 m1 h2 F2 tk2 v d σ2 _ O.hd q1 R2 rv fun m3 h3 tk3 R3 hk3 ho3 => ?_
    have P3 : P h3 F2 r := I.stay h2 h3 F2 F2 r P2 (fun _ z => z) (fun b o fb e => hk3 b o (fun z => S2.nL (z ▸ fb)) e) (fun b o db e => hk3 b o (hD b db).2.2 e) nF2
    have D3 : ∀ b, D b → ¬ Own σ2 f.fs.nm m3 b := fun b db z => (hD b db).2.1 (ho3 b z)
    refine IS' a σ2 fl2 q2 f ea fo ca A _ m3 s₀ h3 F2 tk3 _ O R3.st ⟨?_, ?_⟩
    · rintro σ4 m4 h4 F4 tk4 rfl R4
      dsimp only at he
      have aliveD : ∀ b, D b → ∃ o, h3.get? b = some o := fun b db => (I.live _ _ _ P3 b db).1
      have nD : ∀ b, D b → ¬ (Own σ2 f.fs.nm m3 b ∨ b = f.L) := fun b db z => z.elim (D3 b db) (hD b db).2.2
      have nF4 : ∀ b, D b → ¬ F4 b := fun b db fb => by
        rcases R4.x.new b fb with z | z | z
        · exact nF2 b db z
        · exact nD b db z
        · obtain ⟨o, e⟩ := aliveD b db
          rw [z] at e; cases e
      have P4 : P h4 F4 r := I.stay h3 h4 F2 F4 r P3 R4.x.mono
        (fun b o fb e => R4.x.keep b o e fun z => z.elim (R3.st.fd b fb) fun z => R3.st.nL (z ▸ fb)) (fun b o db e => R4.x.keep b o e (nD b db)) nF4
      refine ⟨r.length, Nat.lt_succ_self _, r, σ4, m4, h4, F4, tk4, rfl, rfl, he, R3.trans R4, P4, fun b db => ⟨(hD b db).1, fun z => ?_, (hD b db).2.2⟩⟩
      rcases R4.o b z with z | z
      · exact D3 b db z
      · obtain ⟨o, e⟩ := aliveD b db
        rw [z] at e; cases e
    · rintro d4 σ4 v4 m4 h4 F4 tk4 rfl R4 rv4
      cases he
      exact hq.2 d4 σ4 v4 m4 h4 F4 tk4 rfl (R3.trans R4) rv4

theorem put_name (fo : f.fs.Ok) {x : Nat} {y : Str} {pp : Pos} (c : LocN f.fs x y) : PutOk X prog w f (.Name y pp) fun d σ => setN σ x (.val d) := by
  intro A E s₀ σ m h F σ1 m1 h1 F1 tk v d σ2 Q hh e R rv hq
  refine PyProof.Rows.assign_Name (st_snd fo R.st (D := fun _ => False) (h₁ := h) c (show RR X f m1 _ h h1 F1 σ1 v (.val d) from rv) e fun h' S' hs x' o' => ?_)
  have ow : ∀ b, Own σ2 f.fs.nm (putM m1 y v) b → Own σ1 f.fs.nm m1 b := fun b z => by
    rcases o' b z with z | ⟨⟨w', e⟩, _⟩
    · exact z
    · cases e
  refine hq _ h' _ ⟨S', R.x.trans x' fun a d => d.elim (fun z => (R.o a z).imp_left .inl) fun z => .inl (.inr z), fun b z => R.o b (ow b z)⟩ (fun b o ne e => (hs.2 b ne).trans e) ow

theorem ckT_each : ∀ {xs : List Nat} {ts : List Expr}, CkT f.fs xs ts → (assignEach ts f.env).length = xs.length ∧ (assignEach ts f.env).findIdx? (·.1) = none
  | _, _, .nil => ⟨rfl, rfl⟩
  | _, _, .cons (y := y) (p := pp) (es := es) _ ct => by
    obtain ⟨h1, h2⟩ := ckT_each ct
    have e : assignEach (.Name y pp :: es) f.env = (false, assign (.Name y pp) f.env) :: assignEach es f.env := rfl
    rw [e]
    refine ⟨by rw [List.length_cons, h1]; rfl, ?_⟩
    rw [List.findIdx?_cons]
    simp only [Bool.false_eq_true, if_false, h2, Option.map_none]
theorem setAll_len : ∀ {xs : List Nat} {ds : List PyData} {σ σ' : St}, setAll xs (valsOf ds) σ = some σ' → xs.length = ds.length
  | [], [], _, _, _ => rfl
  | [], _ :: _, _, _, e => by cases e
  | _ :: _, [], _, _, e => by cases e
  | x :: xs, d :: ds, σ, σ', e => by
    unfold valsOf setAll at e
    rcases q : setN σ x (.val d) with _ | σ2
    · rw [q] at e; cases e
    rw [q] at e
    rw [List.length_cons, List.length_cons, setAll_len e]
/-- a tuple goes to the names of a tuple of targets -/
theorem unpT_snd (fo : f.fs.Ok) (hh : A.handled = none) {xs : List Nat} {ts : List Expr} {k : Nat} {tp : Pos} (ct : CkT f.fs xs ts) {ds : List PyData} {σ2 : St} (e : setAll xs (valsOf ds) σ1 = some σ2) (R : Run X f σ m h F σ1 m1 h1 F1)
    {v : Value} (rv : RV h1 F1 v (.tuple ds)) {Q : Unit → Shared → Prop} (hq : ∀ m2 h2 tk2, Run X f σ m h F σ2 m2 h2 F1 → (∀ b o, b ≠ f.L → h1.get? b = some o → h2.get? b = some o) → (∀ b, Own σ2 f.fs.nm m2 b → Own σ1 f.fs.nm m1 b) → Q () (mk s₀ h2 tk2)) :
    wpAny (model prog w) A (assign (.Tuple ts k tp) f.env v) Q E (mk s₀ h1 tk) := by
  cases rv with
  | @tuple a vs nn _ Fa hl rs =>
  obtain ⟨c1, c2⟩ := ckT_each ct
  refine wpAny_assign_Tuple hh hl.isTuple (by rw [c1, setAll_len e, ← lenD_eq, ← rs.arr]) c2 fun h2 he2 => ?_
  have hk2 : ∀ b o, h1.get? b = some o → h2.get? b = some o := fun b o z => he2 b o (fun q => by
    rw [q] at z
    have z' : h1.get? h1.objs.size = some o := z
    rw [get_size] at z'; cases z') z
  have R2 : Run X f σ m h F σ1 m1 h2 F1 := ⟨R.st.grow hk2, R.x.trans (Stp.grow (D := fun _ => False) hk2) fun _ z => z.elim, R.o⟩
  exact unp_snd fo ct e (rs.mono (fun _ z => z) fun b o _ => hk2 b o) R2 fun m' h' tk' R' hk' ow => hq m' h' tk' R' (fun b o ne z => hk' b o ne (hk2 b o z)) ow

noncomputable def putT (xs : List Nat) (d : PyData) (σ : St) : Option St := match d with
  | .tuple ds => setAll xs (valsOf ds) σ
  | _ => none
theorem put_tuple (fo : f.fs.Ok) {xs : List Nat} {ts : List Expr} {k : Nat} {tp : Pos} (ct : CkT f.fs xs ts) : PutOk X prog w f (.Tuple ts k tp) (putT xs) := by
  intro A E s₀ σ m h F σ1 m1 h1 F1 tk v d σ2 Q hh e R rv hq
  cases d with
  | tuple ds =>
    exact unpT_snd fo hh ct e R rv hq
  | _ => cases e

theorem loop1_eq (p : Lv) (x : Nat) (a : List IS) : ∀ (l : List PyData) (σ : St), loop1 p x a l σ = loopG p (fun d σ => setN σ x (.val d)) a l σ
  | [], _ => rfl
  | d :: r, σ => by
    unfold loop1 loopG
    cases setN σ x (.val d) with
    | none => rfl
    | some σ' =>
      dsimp only
      cases p.S a σ' with
      | none => rfl
      | some fl =>
        cases fl with
        | next σ'' => exact loop1_eq p x a r σ''
        | ret => rfl
theorem loopT_eq (p : Lv) (xs : List Nat) (a : List IS) : ∀ (l : List PyData) (σ : St), loopT p xs a l σ = loopG p (putT xs) a l σ
  | [], _ => rfl
  | d :: r, σ => by
    unfold loopT loopG putT
    cases d with
    | tuple ds =>
      dsimp only
      cases setAll xs (valsOf ds) σ with
      | none => rfl
      | some σ' =>
        dsimp only
        cases p.S a σ' with
        | none => rfl
        | some fl =>
          cases fl with
          | next σ'' => exact loopT_eq p xs a r σ''
          | ret => rfl
    | _ => rfl
end
end Mine
end
section
open PySem PySem.W PySem.Calls PyProof.Rows
namespace Mine

theorem turns_eq (a b c : Int) (hc : c ≠ 0) : Builtin.Range.rangeSize a b c = (turns a b c : Int) := by
  unfold Builtin.Range.rangeSize turns
  rw [ltI_eq, ltI_eq, ltI_eq]
  by_cases h : 0 < c
  · rw [if_pos (show c > 0 from h), decide_eq_true h]
    dsimp only
    by_cases q : a < b
    · rw [if_pos q, decide_eq_true q]
      dsimp only
      have : 0 ≤ (b - a - 1) / c := Int.ediv_nonneg (by omega) (by omega)
      omega
    · rw [if_neg q, decide_eq_false q]; rfl
  · rw [if_neg (show ¬ c > 0 from h), decide_eq_false h]
    dsimp only
    by_cases q : b < a
    · rw [if_pos (show a > b from q), decide_eq_true q]
      dsimp only
      have : 0 ≤ (a - b - 1) / (-c) := Int.ediv_nonneg (by omega) (by omega)
      omega
    · rw [if_neg (show ¬ a > b from q), decide_eq_false q]; rfl
theorem rangeD_some {a b c : Int} {l : List PyData} (h : rangeD a b c = some l) : c ≠ 0 ∧ l = fromI c (turns a b c) a ∧ Builtin.Range.small a b c = true ∧ smallI c = true := by
  unfold rangeD at h
  rcases ha : smallI a with _ | _
  · rw [ha] at h; cases h
  rw [ha] at h; dsimp only at h
  rcases hb : smallI b with _ | _
  · rw [hb] at h; cases h
  rw [hb] at h; dsimp only at h
  rcases hc : smallI c with _ | _
  · rw [hc] at h; cases h
  rw [hc] at h; dsimp only at h
  rcases h0 : eqI c 0 with _ | _
  · rw [h0] at h; dsimp only at h
    have c0 : c ≠ 0 := fun z => by
      subst z
      rw [eqI_eq] at h0
      cases h0
    rcases ht : Nat.blt (turns a b c) 1000 with _ | _
    · rw [ht] at h; cases h
    rw [ht] at h; cases h
    have ht' : turns a b c < 1000 := Nat.le_of_ble_eq_true ht
    have a1 := smallI_abs ha
    have b1 := smallI_abs hb
    have c1 := smallI_abs hc
    refine ⟨c0, rfl, ?_, rfl⟩
    unfold Builtin.Range.small
    rw [turns_eq a b c c0]
    simp only [Builtin.Range.rangeFitsLong, Bool.and_eq_true, Bool.or_eq_true, decide_eq_true_eq, beq_iff_eq]
    refine ⟨⟨⟨⟨by omega, by omega⟩, by omega⟩, by omega⟩, .inr ?_⟩
    split
    · simp only [Bool.and_eq_true, decide_eq_true_eq]; omega
    · simp only [Bool.and_eq_true, decide_eq_true_eq]; omega
  · rw [h0] at h; cases h

section
variable {X : Cx} {prog : Program} {w : World} {p : Lv} {n : Nat} {f : Fm} {A : Around} {E : Value → Shared → Prop} {m m1 : Str → Option Value} {s₀ : Shared} {h h1 : Heap} {F F1 : Fz} {tk : Nat} {σ σ' σ1 : St}

theorem StR.newAddr (S : StR X f m h F σ) {a : Addr} (ha : h.get? a = none) : ¬ F a ∧ ¬ Own σ f.fs.nm m a ∧ a ≠ f.L := by
  refine ⟨fun q => ?_, fun q => ?_, fun q => ?_⟩
  · obtain ⟨o, e⟩ := S.bi.alive _ q
    rw [ha] at e; cases e
  · obtain ⟨_, _, vs, k, e⟩ := S.ownFz q
    have e' : h.get? a = _ := e
    rw [ha] at e'; cases e'
  · obtain ⟨o, _, _, e, _⟩ := S.ns
    rw [← q, ha] at e; cases e
theorem get_none_of_keep {h h' : Heap} (hk : ∀ b o, h.get? b = some o → h'.get? b = some o) {a : Addr} (e : h'.get? a = none) : h.get? a = none := by
  cases q : h.get? a with
  | none => rfl
  | some o => rw [hk a o q] at e; cases e

/-- the iterator of a range just made -/
theorem rng_snd {target : Expr} (ht : (∃ y pp, target = .Name y pp) ∨ ∃ ts k pp, target = .Tuple ts k pp) {a b c : Int} {t u v : Tok} {l : List PyData} (hl : rangeD a b c = some l) (S1 : StR X f m h1 F1 σ1) (x1 : Stp (Own σ f.fs.nm m) h F h1 F1) (o1 : ∀ b, Own σ1 f.fs.nm m b → Own σ f.fs.nm m b)
    {Q : Value → Shared → Prop} (hq : ∀ it D P h' F' tk', Itr prog w target it D P → Run X f σ m h F σ1 m h' F' → P h' F' l → (∀ b, D b → (Own σ f.fs.nm m b ∨ h.get? b = none) ∧ ¬ Own σ1 f.fs.nm m b ∧ b ≠ f.L) → Q (.ref it) (mk s₀ h' tk')) :
    wpAny (model prog w) A (pyIter (.ref h1.objs.size)) Q E (mk s₀ (h1.push { cls := .type "range", data := .fields #[.int a t, .int b u, .int c v] }) tk) := by
  obtain ⟨c0, el, hsm, _⟩ := rangeD_some hl
  have hk : ∀ z o, h1.get? z = some o → (h1.push { cls := .type "range", data := .fields #[.int a t, .int b u, .int c v] }).get? z = some o := fun z o => Heap.get?_push_of_some _
  refine wpAny_pyIter_range (IsRange.new ..) hsm ?_
  generalize hG : (h1.push { cls := .type "range", data := .fields #[.int a t, .int b u, .int c v] }) = G at hk
  have hk2 : ∀ z o, h1.get? z = some o → (G.push { cls := .type "range_iterator", data := .fields #[rawInt a, rawInt (Builtin.Range.rangeSize a b c), rawInt c] }).get? z = some o := fun z o e => Heap.get?_push_of_some _ (hk z o e)
  have gn : h1.get? G.objs.size = none := get_none_of_keep hk (get_size G)
  obtain ⟨n1, n2, n3⟩ := S1.newAddr gn
  refine hq G.objs.size _ _ _ F1 tk (itr_range G.objs.size c target ht) (Run.ofE (S1.grow hk2) (x1.trans (Stp.grow (D := fun _ => False) hk2) fun _ z => z.elim) o1) ⟨a, turns a b c, ?_, el, n1⟩ fun z e => ?_
  · have e := Heap.get?_push_size G (o := { cls := .type "range_iterator", data := .fields #[rawInt a, rawInt (Builtin.Range.rangeSize a b c), rawInt c] }) rfl
    rw [turns_eq a b c c0] at e ⊢
    exact e
  · subst e
    exact ⟨x1.fresh gn, n2, n3⟩

/-- where a loop's items come from: the iterator made -/
theorem src_snd (XO : X.Ok) (I : SndE X prog w p n) (fo : f.fs.Ok) (O : Okay A n) {s : Src} {se : Expr} (cs : CkSrc X.defs f.fs s se) {l : List PyData} (he : evSrc p s σ = some (l, σ1)) {target : Expr}
    (ht : (∃ y pp, target = .Name y pp) ∨ ∃ ts k pp, target = .Tuple ts k pp) (hen : isEnum s = true → ∃ ts k pp, target = .Tuple ts k pp) (S : StR X f m h F σ)
    {Q : Value → Shared → Prop} (hq : ∀ it D P h' F' tk', Itr prog w target it D P → Run X f σ m h F σ1 m h' F' → P h' F' l → (∀ b, D b → (Own σ f.fs.nm m b ∨ h.get? b = none) ∧ ¬ Own σ1 f.fs.nm m b ∧ b ≠ f.L) → Q (.ref it) (mk s₀ h' tk')) :
    wpAny (model prog w) A (eval se f.env) (fun x s₁ => wpAny (model prog w) A (pyIter x) Q E s₁) E (mk s₀ h tk) := by
  obtain ⟨mb, hb, _, hbr, hbe, _⟩ := XO.b
  cases cs with
  | @range1 a ea pp pos c ca =>
    unfold evSrc at he
    dsimp only at he
    rcases q1 : evI p a σ with _ | ⟨i, σ2⟩
    · rw [q1] at he; cases he
    rw [q1] at he; try dsimp only at he
    rcases q2 : rangeD 0 i 1 with _ | l0
    · rw [q2] at he; cases he
    rw [q2] at he; try dsimp only at he
    cases he
    refine Call_ (bu_snd XO fo S c XO.free.2.1 ⟨mb, hb, hbr⟩ (lf_callT ⟨ca.noStar, trivial⟩ (lf_more ca.noStar (evI_snd I q1 fo ca O S fun t h1 F1 tk1 S1 x1 o1 => spliced_none (call_range_1 ?_)))))
    exact rng_snd ht q2 S1 x1 o1 hq
  | @range2 a b ea eb pp pos c ca cb =>
    unfold evSrc at he
    dsimp only at he
    rcases q1 : evI p a σ with _ | ⟨i, σ2⟩
    · rw [q1] at he; cases he
    rw [q1] at he; try dsimp only at he
    rcases q3 : evI p b σ2 with _ | ⟨j, σ3⟩
    · rw [q3] at he; cases he
    rw [q3] at he; try dsimp only at he
    rcases q2 : rangeD i j 1 with _ | l0
    · rw [q2] at he; cases he
    rw [q2] at he; try dsimp only at he
    cases he
    refine Call_ (bu_snd XO fo S c XO.free.2.1 ⟨mb, hb, hbr⟩ (lf_callT ⟨ca.noStar, cb.noStar, trivial⟩ (lf_more ca.noStar (evI_snd I q1 fo ca O S fun t h1 F1 tk1 S1 x1 o1 => lf_more cb.noStar (evI_snd I q3 fo cb O S1 fun u h2 F2 tk2 S2 x2 o2 => spliced_none (call_range_2 ?_))))))
    exact rng_snd ht q2 S2 (x1.trans x2 fun a y => .inl (o1 a y)) (fun b y => o1 b (o2 b y)) hq
  | @range3 a b c' ea eb ec pp pos c ca cb cc =>
    unfold evSrc at he
    dsimp only at he
    rcases q1 : evI p a σ with _ | ⟨i, σ2⟩
    · rw [q1] at he; cases he
    rw [q1] at he; try dsimp only at he
    rcases q3 : evI p b σ2 with _ | ⟨j, σ3⟩
    · rw [q3] at he; cases he
    rw [q3] at he; try dsimp only at he
    rcases q4 : evI p c' σ3 with _ | ⟨k, σ4⟩
    · rw [q4] at he; cases he
    rw [q4] at he; try dsimp only at he
    rcases q2 : rangeD i j k with _ | l0
    · rw [q2] at he; cases he
    rw [q2] at he; try dsimp only at he
    cases he
    obtain ⟨c0, _, _, hck⟩ := rangeD_some q2
    have hlog : k.natAbs.log2 < 9000 := by
      have h1 := smallI_abs hck
      have hne : k.natAbs ≠ 0 := fun z => c0 (Int.natAbs_eq_zero.mp z)
      have := (Nat.log2_lt hne).mpr h1
      omega
    refine Call_ (bu_snd XO fo S c XO.free.2.1 ⟨mb, hb, hbr⟩ (lf_callT ⟨ca.noStar, cb.noStar, cc.noStar, trivial⟩ (lf_more ca.noStar (evI_snd I q1 fo ca O S fun t h1 F1 tk1 S1 x1 o1 =>
      lf_more cb.noStar (evI_snd I q3 fo cb O S1 fun u h2 F2 tk2 S2 x2 o2 => lf_more cc.noStar (evI_snd I q4 fo cc O S2 fun v h3 F3 tk3 S3 x3 o3 => spliced_none (call_range_3 c0 ?_ (.inl (PyProof.noPylong_of_log2 hlog)))))))))
    exact rng_snd ht q2 S3 ((x1.trans x2 fun a y => .inl (o1 a y)).trans x3 fun a y => .inl (o1 a (o2 a y))) (fun b y => o1 b (o2 b (o3 b y))) hq
  | @enum e ee pp pos c ca =>
    unfold evSrc at he
    dsimp only at he
    rcases q1 : evV p e σ with _ | ⟨d, σ2⟩
    · rw [q1] at he; cases he
    rw [q1] at he; try dsimp only at he
    cases d with
    | list l0 =>
      cases he
      obtain ⟨ts, kk, tp, rfl⟩ := hen rfl
      refine Call_ (bu_snd XO fo S c XO.free.2.2.1 ⟨mb, hb, hbe⟩ (lf_callT ⟨ca.noStar, trivial⟩ (lf_more ca.noStar (evV_snd I q1 fo ca O S fun v h1 F1 tk1 S1 x1 o1 rv => spliced_none ?_))))
      cases rv with
      | @list a vs nn _ Fa hl rs =>
      refine call_enumerate_list hl.isList fun h2 he2 hi2 hz2 hk2 => ?_
      replace hk2 : ∀ b o, h1.get? b = some o → h2.get? b = some o := hk2
      refine wpAny_pyIter_enum he2 ?_
      have g1 : h1.get? h1.objs.size = none := get_size h1
      have g2 : h1.get? (h1.objs.size + 1) = none := by
        cases q : h1.get? (h1.objs.size + 1) with
        | none => rfl
        | some o => exact absurd (Heap.lt_size q) (Nat.not_lt.mpr (Nat.le_succ _))
      obtain ⟨a1, a2, a3⟩ := S1.newAddr g1
      obtain ⟨b1, b2, b3⟩ := S1.newAddr g2
      refine hq (h1.objs.size + 1) _ _ h2 F1 tk1 (itr_enum (h1.objs.size + 1) h1.objs.size a ts kk tp) (Run.ofE (S1.grow hk2) (x1.trans (Stp.grow (D := fun _ => False) hk2) fun _ z => z.elim) o1)
        ⟨0, .none, vs, nn, l0, he2, hi2, hk2 _ _ hl, Fa, rs.mono (fun _ z => z) fun b o _ => hk2 b o, rfl, b1, a1, Nat.succ_ne_self _⟩ fun b z => ?_
      rcases z with rfl | rfl
      · exact ⟨x1.fresh g2, b2, b3⟩
      · exact ⟨x1.fresh g1, a2, a3⟩
    | _ => cases he
  | @it e ee ca =>
    unfold evSrc at he
    dsimp only at he
    rcases q1 : evV p e σ with _ | ⟨d, σ2⟩
    · rw [q1] at he; cases he
    rw [q1] at he; try dsimp only at he
    cases d with
    | list l0 =>
      cases he
      refine evV_snd I q1 fo ca O S fun v h1 F1 tk1 S1 x1 o1 rv => ?_
      cases rv with
      | @list a vs nn _ Fa hl rs =>
      refine wpAny_pyIter_list hl.isList ?_
      have hk2 : ∀ b o, h1.get? b = some o → (h1.push { cls := .type "list_iterator", data := .fields #[.ref a, .int 0 0] }).get? b = some o := fun b o => Heap.get?_push_of_some _
      obtain ⟨a1, a2, a3⟩ := S1.newAddr (get_size h1)
      refine hq h1.objs.size _ _ _ F1 tk1 (itr_list h1.objs.size a target ht) (Run.ofE (S1.grow hk2) (x1.trans (Stp.grow (D := fun _ => False) hk2) fun _ z => z.elim) o1)
        ⟨0, vs, nn, ⟨_, Heap.get?_push_size _ rfl, rfl, rfl⟩, hk2 _ _ hl, Fa, rs.mono (fun _ z => z) fun b o _ => hk2 b o, a1⟩ fun b z => ?_
      subst z
      exact ⟨x1.fresh (get_size h1), a2, a3⟩
    | _ => cases he
theorem CkSrc.noSet {s : Src} {se : Expr} (c : CkSrc X.defs f.fs s se) (x : Value) : foldedSetIterable se f.env x = pure x := by
  cases c with
  | it c => cases c <;> rfl
  | _ => rfl

/-- a while, by the evaluator -/
noncomputable def SndW (X : Cx) (prog : Program) (w : World) (p : Lv) (n : Nat) : Prop :=
  ∀ (t : IE) (a : List IS) (σ : St) (fl : Fl), evS1 p (.whl t a) σ = some fl → ∀ (f : Fm) (et : Expr) (ea : List Stmt), f.fs.Ok → CkE X.defs f.fs t et → CkSs X.defs f.fs a ea →
  ∀ (A : Around) (E : Value → Shared → Prop) (m : Str → Option Value) (s₀ : Shared) (h : Heap) (F : Fz) (tk : Nat) (Q : Flow → Shared → Prop), Okay A n → StR X f m h F σ → PS X f s₀ σ m h F fl Q →
    codeAny (model prog w) A (.whileLoop et ea [] f.env) (fun r s' => match r with | .ok fl => Q fl s' | .error e => cameBackBy (model prog w) A f.env E e s') (mk s₀ h tk)

theorem evS1_snd (XO : X.Ok) (I : SndE X prog w p n) (IT : SndT X prog w p n) (IB : SndS X prog w p n) (IW : SndW X prog w p n) {s : IS} {st : Stmt} {fl : Fl} (he : evS1 p s σ = some fl) (fo : f.fs.Ok) (ck : CkS X.defs f.fs s st)
    (O : Okay A n) (S : StR X f m h F σ) {Q : Flow → Shared → Prop} (hq : PS X f s₀ σ m h F fl Q) : wpAny (model prog w) A (exec st f.env) Q E (mk s₀ h tk) := by
  cases ck with
  | @asg x y e ee pp pos c c1 =>
    unfold evS1 at he
    dsimp only at he
    rcases q1 : p.E e σ with _ | ⟨l, σ2⟩
    · rw [q1] at he; cases he
    rw [q1] at he; try dsimp only at he
    rcases q2 : setN σ2 x l with _ | σ3
    · rw [q2] at he; cases he
    rw [q2] at he; try dsimp only at he
    cases he
    exact wpAny_Assign_Name (I e σ _ _ q1 f ee fo c1 A E m s₀ h F tk _ O S fun v h1 F1 tk1 S1 x1 o1 r1 => stE_snd fo S1 x1 o1 c r1 q2 fun m' h' R => hq.1 _ _ _ _ _ rfl R) (c1.noSwap ..)
  | @asgT2 x1 x2 y1 y2 es ees p1 p2 tp vp pos k k' c1 c2 cs hw =>
    unfold evS1 at he
    dsimp only at he
    rcases q1 : evLs p es σ with _ | ⟨ls, σ2⟩
    · rw [q1] at he; cases he
    rw [q1] at he; try dsimp only at he
    rcases q2 : setAllR [x1, x2] ls σ2 with _ | σ3
    · rw [q2] at he; cases he
    rw [q2] at he; try dsimp only at he
    cases he
    exact asgT2_snd I fo O c1 c2 cs hw S q1 q2 fun m' h' F' tk' R => hq.1 _ _ _ _ _ rfl R
  | @asgT3 x1 x2 x3 y1 y2 y3 es ees p1 p2 p3 tp vp pos k k' c1 c2 c3 cs hw =>
    unfold evS1 at he
    dsimp only at he
    rcases q1 : evLs p es σ with _ | ⟨ls, σ2⟩
    · rw [q1] at he; cases he
    rw [q1] at he; try dsimp only at he
    rcases q2 : setAllR [x1, x2, x3] ls σ2 with _ | σ3
    · rw [q2] at he; cases he
    rw [q2] at he; try dsimp only at he
    cases he
    exact asgT3_snd I fo O c1 c2 c3 cs hw S q1 q2 fun m' h' F' tk' R => hq.1 _ _ _ _ _ rfl R
  | @asgU xs ts e ee k tp pos ct c1 hw =>
    unfold evS1 at he
    dsimp only at he
    rcases q1 : evV p e σ with _ | ⟨d, σ2⟩
    · rw [q1] at he; cases he
    rw [q1] at he; try dsimp only at he
    cases d with
    | tuple ds =>
      dsimp only at he
      rcases q2 : setAll xs (valsOf ds) σ2 with _ | σ3
      · rw [q2] at he; cases he
      rw [q2] at he; try dsimp only at he
      cases he
      refine Assign_Tuple (evV_snd I q1 fo c1 O S fun v h1 F1 tk1 S1 x1 o1 rv => ?_) (show swapsWith ee (some (.Tuple ts k tp)) pos.line f.env = pure false from c1.noSwap ..) (hw f.env)
      exact unpT_snd fo O.hd ct q2 (Run.ofE S1 x1 o1) rv fun m2 h2 tk2 R2 _ _ => hq.1 _ _ _ _ _ rfl R2
    | _ => cases he
  | @setL x y i e ei ee pp pp' pos c ci c1 =>
    unfold evS1 at he
    dsimp only at he
    rcases q0 : listL (getS σ x) with _ | l0
    · rw [q0] at he; cases he
    rw [q0] at he; try dsimp only at he
    rcases q1 : evV p e σ with _ | ⟨d, σ2⟩
    · rw [q1] at he; cases he
    rw [q1] at he; try dsimp only at he
    rcases q2 : evI p i σ2 with _ | ⟨k, σ3⟩
    · rw [q2] at he; cases he
    rw [q2] at he; try dsimp only at he
    cases k with
    | negSucc k => cases he
    | ofNat k =>
      dsimp only at he
      cases q3 : getS σ3 x with
      | own l1 =>
        rw [q3] at he
        dsimp only at he
        rcases q4 : shortD l1 with _ | l2
        · rw [q4] at he; cases he
        rw [q4] at he; try dsimp only at he
        rcases q5 : setD l2 k d with _ | l3
        · rw [q5] at he; cases he
        rw [q5] at he; try dsimp only at he
        rcases q6 : setS σ3 x (.own l3) with _ | σ4
        · rw [q6] at he; cases he
        rw [q6] at he; try dsimp only at he
        obtain ⟨rfl, hz⟩ := short_eq q4
        cases he
        obtain ⟨a, vs0, kk, hm, _⟩ := S.list q0 c
        refine wpAny_Assign_Subscript (evV_snd I q1 fo c1 O S fun v h1 F1 tk1 S1 x1 o1 r1 => ld_snd fo S1 c hm (evI_snd I q2 fo ci O S1 fun t h2 F2 tk2 S2 x2 o2 => ?_)) (c1.noSwap ..)
        obtain ⟨a', us, ku, hm', nF, nL, hl, hr, ow⟩ := S2.own q3 c.1
        rw [hm] at hm'
        cases hm'
        have r2 := r1.step x2 S1.fd
        obtain ⟨hlt, hset⟩ := hr.set r2 q5
        have hlt' : k < us.size := by rw [← Array.length_toList]; exact hlt
        have husz : us.size < 2000 := by rw [hr.arr]; exact hz
        refine lf_setAt hl (Int.natCast_nonneg k) (by show (k : Int) < us.size; omega) husz ?_
        have hl3 : ∃ j, IsL (h2.update a (Obj.mapSeq (·.setIfInBounds (Int.ofNat k).toNat v))) a (us.setIfInBounds k v) j := ⟨_, PySem.IsL.update hl _⟩
        obtain ⟨j3, hl3⟩ := hl3
        have hs : ∀ b o, b ≠ a → h2.get? b = some o → (h2.update a (Obj.mapSeq (·.setIfInBounds (Int.ofNat k).toNat v))).get? b = some o := fun b o ne e => ((Heap.SameBut.update ..).2 b ne).trans e
        have al : ∀ b, F2 b → ∃ o, (h2.update a (Obj.mapSeq (·.setIfInBounds (Int.ofNat k).toNat v))).get? b = some o := aliveK S2.bi.alive hs nF
        obtain ⟨S3, x3, o3⟩ := S2.upd q3 ow hs (fun _ z => z) (fun b z => .inl z) al hl3 (by
          rw [Array.toList_setIfInBounds]
          exact hset.mono (fun _ z => z) fun b o fb e => hs b o (fun z => nF (z ▸ fb)) e) q6
        have x12 := x1.trans x2 fun a y => .inl (o1 a y)
        exact hq.1 _ _ _ _ _ rfl (Run.ofE S3 (x12.trans x3 fun a y => .inl (o1 a (o2 a y))) fun b y => o1 b (o2 b (o3 b y)))
      | _ => rw [q3] at he; cases he
  | @aug x y op e ee pp pos c c1 =>
    unfold evS1 at he
    dsimp only at he
    cases q0 : getS σ x with
    | val d0 =>
      rw [q0] at he
      cases d0 with
      | int i =>
        dsimp only at he
        rcases q1 : evI p e σ with _ | ⟨j, σ2⟩
        · rw [q1] at he; cases he
        rw [q1] at he; try dsimp only at he
        rcases q2 : augI op i j with _ | k
        · rw [q2] at he; cases he
        rw [q2] at he; try dsimp only at he
        rcases q3 : setN σ2 x (.val (.int k)) with _ | σ3
        · rw [q3] at he; cases he
        rw [q3] at he; try dsimp only at he
        cases he
        have r := S.sl x
        rw [q0, c.1] at r
        obtain ⟨y', v, e1, e2, r⟩ := r
        cases e1
        cases r with
        | int _ t0 =>
        refine wpAny_AugAssign_Name (wpAny_loadName_local (env := f.env) fo.kind (fo.loc y (List.mem_of_getElem? c.1)) S.ns e2 (evI_snd I q1 fo c1 O S fun t h1 F1 tk1 S1 x1 o1 => lf_aug q2 ?_))
        exact stE_snd fo S1 x1 o1 c (show RR X f m _ h h1 F1 σ2 _ (.val (.int k)) from .int ..) q3 fun m' h' R => hq.1 _ _ _ _ _ rfl R
      | _ => cases he
    | _ => rw [q0] at he; cases he
  | @app x y e ee pp ap cp pos c hl c1 =>
    unfold evS1 at he
    dsimp only at he
    cases q0 : getS σ x with
    | own l0 =>
      rw [q0] at he
      dsimp only at he
      rcases q1 : evV p e σ with _ | ⟨d, σ2⟩
      · rw [q1] at he; cases he
      rw [q1] at he; try dsimp only at he
      cases q3 : getS σ2 x with
      | own l1 =>
        rw [q3] at he
        dsimp only at he
        rcases q4 : shortD l1 with _ | l2
        · rw [q4] at he; cases he
        rw [q4] at he; try dsimp only at he
        rcases q6 : setS σ2 x (.own (l2 ++ [d])) with _ | σ4
        · rw [q6] at he; cases he
        rw [q6] at he; try dsimp only at he
        obtain ⟨rfl, hz⟩ := short_eq q4
        cases he
        obtain ⟨a, vs0, kk, hm, _, _, hl0, _, _⟩ := S.own q0 c.1
        refine wpAny_Expr (lf_append (fun _ _ => rfl) c1.noStar hl (ld_snd fo S c hm ⟨a, vs0, kk, rfl, hl0, evV_snd I q1 fo c1 O S fun v h1 F1 tk1 S1 x1 o1 r1 => ?_⟩)) (by
          show (f.fs.sc.kind == .module && _) = false
          rw [fo.kind]; rfl) rfl
        obtain ⟨a', us, ku, hm', nF, nL, hl1, hr, ow⟩ := S1.own q3 c.1
        rw [hm] at hm'
        cases hm'
        refine ⟨us, ku, hl1, by rw [hr.arr]; omega, fun h2 hk2 hs2 => ?_⟩
        obtain ⟨k2, hl2⟩ := hk2
        replace hs2 : Heap.SameBut a h1 h2 := hs2
        have hs : ∀ b o, b ≠ a → h1.get? b = some o → h2.get? b = some o := fun b o ne e => (hs2.2 b ne).trans e
        obtain ⟨S3, x3, o3⟩ := S1.upd q3 ow hs (fun _ z => z) (fun b z => .inl z) (aliveK S1.bi.alive hs nF) hl2 (by
          rw [Array.toList_push]
          exact (hr.append (.cons r1 .nil)).mono (fun _ z => z) fun b o fb e => hs b o (fun z => nF (z ▸ fb)) e) q6
        exact hq.1 _ _ _ _ _ rfl (Run.ofE S3 (x1.trans x3 fun a y => .inl (o1 a y)) fun b y => o1 b (o3 b y))
      | _ => rw [q3] at he; cases he
    | _ => rw [q0] at he; cases he
  | @ex e ee pos c1 =>
    unfold evS1 at he
    dsimp only at he
    rcases q1 : evV p e σ with _ | ⟨d, σ2⟩
    · rw [q1] at he; cases he
    rw [q1] at he; try dsimp only at he
    cases d with
    | none =>
      cases he
      refine wpAny_Expr (evV_snd I q1 fo c1 O S fun v h1 F1 tk1 S1 x1 o1 r1 => ?_) (by
          show (f.fs.sc.kind == .module && _) = false
          rw [fo.kind]; rfl) (c1.noSwap ..)
      cases r1
      exact hq.1 _ _ _ _ _ rfl (Run.ofE S1 x1 o1)
    | _ => cases he
  | @ifs t a b et ea eb pos ct ca cb =>
    unfold evS1 at he
    dsimp only at he
    rcases q1 : p.T t σ with _ | ⟨c, σ2⟩
    · rw [q1] at he; cases he
    rw [q1] at he; try dsimp only at he
    refine wpAny_If (IT t σ _ _ q1 f et fo ct A E m s₀ h F tk _ O S fun h1 F1 tk1 S1 x1 o1 => ?_)
    have hq1 := hq.after (Run.ofE S1 x1 o1)
    cases c with
    | true => rw [if_pos rfl]; exact IB a σ2 fl he f ea fo ca A E m s₀ h1 F1 tk1 Q O S1 hq1
    | false => rw [if_neg Bool.false_ne_true]; exact IB b σ2 fl he f eb fo cb A E m s₀ h1 F1 tk1 Q O S1 hq1
  | @whl t a et ea pos ct ca =>
    exact wpAny_While (IW t a σ fl he f et ea fo ct ca A E m s₀ h F tk Q O S hq)
  | @for1 x y s se a ea pp pos c cs ca =>
    unfold evS1 at he
    dsimp only at he
    rcases qe : isEnum s with _ | _
    · rw [qe] at he
      dsimp only at he
      rcases q1 : evSrc p s σ with _ | ⟨l, σ2⟩
      · rw [q1] at he; cases he
      rw [q1] at he; try dsimp only at he
      rw [loop1_eq] at he
      have ht : (∃ y' pp', Expr.Name y pp = .Name y' pp') ∨ ∃ ts k tp, Expr.Name y pp = .Tuple ts k tp := .inl ⟨y, pp, rfl⟩
      refine wpAny_For (src_snd XO I fo O cs q1 ht (fun z => by rw [qe] at z; cases z) S fun it D P h1 F1 tk1 IR R1 P1 D1 => ?_) cs.noSet
      exact loop_snd IB fo O (put_name fo c) ca IR he R1 P1 D1 hq
    · rw [qe] at he; cases he
  | @forT xs ts s se a ea k tp pos ct cs ca =>
    unfold evS1 at he
    dsimp only at he
    rcases q1 : evSrc p s σ with _ | ⟨l, σ2⟩
    · rw [q1] at he; cases he
    rw [q1] at he; try dsimp only at he
    rw [loopT_eq] at he
    have ht : (∃ y' pp', Expr.Tuple ts k tp = .Name y' pp') ∨ ∃ ts' k' tp', Expr.Tuple ts k tp = .Tuple ts' k' tp' := .inr ⟨ts, k, tp, rfl⟩
    refine wpAny_For (src_snd XO I fo O cs q1 ht (fun _ => ⟨ts, k, tp, rfl⟩) S fun it D P h1 F1 tk1 IR R1 P1 D1 => ?_) cs.noSet
    exact loop_snd IB fo O (put_tuple fo ct) ca IR he R1 P1 D1 hq
  | @ret e ee pos c1 =>
    unfold evS1 at he
    dsimp only at he
    rcases q1 : evV p e σ with _ | ⟨d, σ2⟩
    · rw [q1] at he; cases he
    rw [q1] at he; try dsimp only at he
    cases he
    exact wpAny_Return_some (evV_snd I q1 fo c1 O S fun v h1 F1 tk1 S1 x1 o1 r1 => hq.2 _ _ _ _ _ _ _ rfl (Run.ofE S1 x1 o1) r1)
  | fail => cases he

theorem evS_snd (XO : X.Ok) (I : SndE X prog w p n) (IT : SndT X prog w p n) (IB : SndS X prog w p n) (IW : SndW X prog w p n) (fo : f.fs.Ok) (O : Okay A n) :
    ∀ (ss : List IS) (sts : List Stmt) (σ : St) (fl : Fl) (m : Str → Option Value) (h : Heap) (F : Fz) (tk : Nat) (Q : Flow → Shared → Prop), evS p ss σ = some fl → CkSs X.defs f.fs ss sts → StR X f m h F σ → PS X f s₀ σ m h F fl Q →
    wpAny (model prog w) A (execs sts f.env) Q E (mk s₀ h tk)
  | [], _, σ, fl, m, h, F, tk, Q, he, ck, S, hq => by
    cases ck
    cases he
    exact wpAny_execs_nil (hq.1 _ _ _ _ _ rfl (.refl S))
  | s :: ss, _, σ, fl, m, h, F, tk, Q, he, ck, S, hq => by
    cases ck with
    | @cons _ _ st sts c1 cr =>
    unfold evS at he
    rcases q1 : evS1 p s σ with _ | fl1
    · rw [q1] at he; cases he
    rw [q1] at he
    refine wpAny_execs_cons (evS1_snd XO I IT IB IW q1 fo c1 O S ⟨?_, ?_⟩)
    · rintro σ' m' h' F' tk' rfl R
      exact evS_snd XO I IT IB IW fo O ss sts σ' fl m' h' F' tk' Q he cr R.st (hq.after R)
    · rintro d σ' v m' h' F' tk' rfl R rv
      cases he
      exact hq.2 _ _ _ _ _ _ _ rfl R rv
end
end Mine
end
section
open PySem PySem.W PySem.Calls PyProof.Rows
namespace Mine

structure FnOk (defs : List DefRec) (f : Fn) (d : DefRec) (nm : List Str) : Prop where
  fo : Fs.Ok ⟨nm, d.scope⟩
  body : CkSs defs ⟨nm, d.scope⟩ f.body d.body
  len : d.params.args.length = f.nargs
  pre : ∀ (i : Nat) (y : Str), (d.params.args.map (·.arg))[i]? = some y → nm[i]? = some y
  nd : (d.params.args.map (·.arg)).Nodup
  bind : ∀ pm code doc vals, vals.length = f.nargs → bindArgs (docDef d.name d.params d.body d.scope pm code doc) ⟨vals, []⟩ = pure ((d.params.args.map (·.arg)).zip vals)
  co : d.scope.isCoroutine = false
  ge : d.scope.isGenerator = false
  cell : ∀ x ∈ d.scope.names, x.2 ≠ .cell

theorem lookup_zip_none {y : Str} : ∀ {ks : List Str} {vs : List Value}, y ∉ ks → (ks.zip vs).reverse.lookup y = none
  | [], _, _ => rfl
  | _ :: _, [], _ => rfl
  | k :: ks, v :: vs, h => by
    rw [List.zip_cons_cons, List.reverse_cons, List.lookup_append, lookup_zip_none (fun z => h (List.mem_cons_of_mem _ z))]
    have : (y == k) = false := beq_eq_false_iff_ne.mpr fun z => h (z ▸ List.mem_cons_self)
    simp [List.lookup, this]
theorem lookup_zip {y : Str} {v : Value} : ∀ {ks : List Str} {vs : List Value} {i : Nat}, ks.Nodup → ks[i]? = some y → vs[i]? = some v → (ks.zip vs).reverse.lookup y = some v
  | [], _, _, _, h, _ => by simp at h
  | _ :: _, [], _, _, _, h => by simp at h
  | k :: ks, u :: vs, 0, nd, h1, h2 => by
    simp at h1 h2
    subst h1 h2
    rw [List.zip_cons_cons, List.reverse_cons, List.lookup_append, lookup_zip_none (List.nodup_cons.mp nd).1]
    simp [List.lookup]
  | k :: ks, u :: vs, i + 1, nd, h1, h2 => by
    rw [List.zip_cons_cons, List.reverse_cons, List.lookup_append, lookup_zip (i := i) (List.nodup_cons.mp nd).2 (by simpa using h1) (by simpa using h2)]
    rfl
theorem pad_get : ∀ {n : Nat} {as σ : St}, pad n as = some σ → ∀ i, getS σ i = getS as i
  | 0, [], _, e, i => by cases e; rfl
  | 0, _ :: _, _, e, _ => by cases e
  | n + 1, [], σ, e, i => by
    unfold pad at e
    rcases q : pad n [] with _ | r
    · rw [q] at e; cases e
    rw [q] at e; cases e
    cases i with
    | zero => rfl
    | succ i =>
      show getS r i = .un
      rw [pad_get q i]; rfl
  | n + 1, l :: ls, σ, e, i => by
    unfold pad at e
    dsimp only at e
    rcases q : pad n ls with _ | r
    · rw [q] at e; cases e
    rw [q] at e; cases e
    cases i with
    | zero => rfl
    | succ i =>
      show getS r i = getS ls i
      exact pad_get q i
theorem lenS_eq : ∀ as : St, lenS as = as.length
  | [] => rfl
  | _ :: r => by rw [lenS, lenS_eq r]; rfl

section
variable {X : Cx} {prog : Program} {w : World} {p : Lv} {n : Nat} {h : Heap} {F : Fz}

theorem RAt.get : ∀ {vs : List Value} {ls : St} {i : Nat}, RAt X h F vs ls → getS ls i ≠ .un → ∃ v, vs[i]? = some v ∧ RA X h F v (getS ls i) ∧ ∀ x, getS ls i ≠ .own x
  | _, _, _, .nil, e => absurd rfl e
  | _, _, 0, .cons r ho _, _ => ⟨_, rfl, r, ho⟩
  | _, _, i + 1, .cons _ _ t, e => by
    obtain ⟨v, h1, h2⟩ := RAt.get (i := i) t e
    exact ⟨v, by simpa using h1, h2⟩
theorem RAs.get {vs : List Value} {ls : St} {i : Nat} (r : RAs X h F vs ls) (e : getS ls i ≠ .un) : ∃ v, vs[i]? = some v ∧ RA X h F v (getS ls i) ∧ ∀ x, getS ls i = .own x → i = 0 := by
  cases r with
  | cons a t =>
  cases i with
  | zero => exact ⟨_, rfl, a, fun _ _ => rfl⟩
  | succ i =>
    obtain ⟨v, h1, h2, h3⟩ := RAt.get (i := i) t e
    exact ⟨v, by simpa using h1, h2, fun x z => absurd z (h3 x)⟩
theorem RAt.length : ∀ {vs : List Value} {ls : St}, RAt X h F vs ls → vs.length = ls.length
  | _, _, .nil => rfl
  | _, _, .cons _ _ t => by rw [List.length_cons, List.length_cons, RAt.length t]
theorem RAs.length {vs : List Value} {ls : St} (r : RAs X h F vs ls) : vs.length = ls.length := by
  cases r with
  | cons _ t => rw [List.length_cons, List.length_cons, t.length]

theorem Spec.more {k : Nat} {as : St} {d : PyData} {lo : Loc} {b c : Nat} (s : Spec X prog w b k as d lo) (h : b ≤ c) : Spec X prog w c k as d lo :=
  fun A E s₀ h' F tk Q vals fa O => s A E s₀ h' F tk Q vals fa (O.less h)

theorem evC_snd (XO : X.Ok) (I : SndE X prog w p n) (IT : SndT X prog w p n) (IB : SndS X prog w p n) (IW : SndW X prog w p n) (fns : List Fn) (tab : Tab)
    (FT : ∀ k f d, fnAt fns k = some f → defAt X.defs k = some d → ∃ nm, FnOk X.defs f d nm) (HT : ∀ k as d, look k as tab = some d → Spec X prog w (n + 1) k as d .un) : SndC X prog w (stepLv p fns tab) (n + 1) := by
  intro k as d lo he
  replace he : evC p fns tab k as = some (d, lo) := he
  unfold evC at he
  rcases q0 : look k as tab with _ | d0
  · rw [q0] at he
    dsimp only at he
    rcases q1 : fnAt fns k with _ | fn
    · rw [q1] at he; cases he
    rw [q1] at he; dsimp only at he
    rcases q2 : Nat.beq (lenS as) fn.nargs with _ | _
    · rw [q2] at he; cases he
    rw [q2] at he; dsimp only at he
    rcases q3 : pad fn.nslots as with _ | σ
    · rw [q3] at he; cases he
    rw [q3] at he; dsimp only at he
    rcases q4 : evS p fn.body σ with _ | fl
    · rw [q4] at he; cases he
    rw [q4] at he
    intro A E s₀ h F tk Q vals fa O B ra hf hq
    obtain ⟨dr, hd, hg⟩ := hf
    obtain ⟨nm, FO⟩ := FT k fn dr q1 hd
    obtain ⟨a', o, pm, code, doc, g1, g2, g3, g4⟩ := XO.fn k dr hd
    rw [hg] at g1
    cases g1
    have hkB : ∀ b o, X.h₀.get? b = some o → h.get? b = some o := fun b o e => (B.base b o e).1
    have hlen : vals.length = fn.nargs := by rw [ra.length, ← lenS_eq]; exact Nat.eq_of_beq_eq_true q2
    have hbl : (dr.params.args.map (·.arg)).length = fn.nargs := by rw [List.length_map]; exact FO.len
    refine wpAny_call (call_plain (by have := O.dp; have : recursionLimit = 1000 := rfl; omega) (hkB _ _ g2) g3 (XO.nolimit.keeps hkB) (g4.keeps hkB) (FO.bind pm code doc vals hlen) (fun x hx => ?_) (fun h₁ Fr₁ => ?_) FO.co FO.ge FO.fo.kind FO.cell)
    · have h1 : x.1 ∈ dr.params.args.map (·.arg) := (List.of_mem_zip hx).1
      obtain ⟨i, hi⟩ := List.getElem?_of_mem h1
      exact FO.fo.loc x.1 (List.mem_of_getElem? (FO.pre i x.1 hi))
    · let f : Fm := ⟨⟨nm, dr.scope⟩, dr.name, h.objs.size, fa, code, vals.head?⟩
      generalize hm : (fun x => ((dr.params.args.map (·.arg)).zip vals).reverse.lookup x) = m at Fr₁
      have hk1 : ∀ b o, h.get? b = some o → h₁.get? b = some o := Fr₁.keep
      have hL : h.get? h.objs.size = none := get_size h
      have fL : ¬ F h.objs.size := fun q => by
        obtain ⟨o, e⟩ := B.alive _ q
        rw [hL] at e; cases e
      -- what a slot that is no hole holds
      have slot : ∀ i, getS σ i ≠ .un → ∃ y v, nm[i]? = some y ∧ m y = some v ∧ vals[i]? = some v ∧ RA X h F v (getS σ i) ∧ ∀ x, getS σ i = .own x → i = 0 := by
        intro i hi
        rw [pad_get q3] at hi ⊢
        obtain ⟨v, h1, h2, h3⟩ := ra.get hi
        have il : i < (dr.params.args.map (·.arg)).length := by
          rw [hbl, ← hlen]
          exact (List.getElem?_eq_some_iff.mp h1).1
        have hy : (dr.params.args.map (·.arg))[i]? = some (dr.params.args.map (·.arg))[i] := List.getElem?_eq_getElem il
        refine ⟨_, v, FO.pre i _ hy, ?_, h1, h2, h3⟩
        rw [← hm]
        exact lookup_zip FO.nd hy h1
      have own0 : ∀ i b, OwnAt σ nm m i b → i = 0 ∧ vals[0]? = some (.ref b) := by
        rintro i b ⟨⟨l, hl⟩, y, hy, hb⟩
        obtain ⟨y', v, e1, e2, e3, e4, e5⟩ := slot i (by rw [hl]; exact fun z => nomatch z)
        have i0 := e5 l hl
        subst i0
        rw [hy] at e1; cases e1
        rw [hb] at e2; cases e2
        exact ⟨rfl, e3⟩
      have kF : ∀ b o, F b → h.get? b = some o → h₁.get? b = some o := fun b o _ => hk1 b o
      have S : StR X f m h₁ F σ := by
        refine ⟨⟨fun b o e => ⟨hk1 _ _ (B.base b o e).1, (B.base b o e).2⟩, fun b fb => let ⟨o, e⟩ := B.alive b fb; ⟨o, hk1 _ _ e⟩⟩, Fr₁.ns, fL, fun i => ?_, fun i j b h1 h2 => (own0 i b h1).1.trans (own0 j b h2).1.symm, fun l y h1 h2 => ?_⟩
        · show RSl X h.objs.size m h₁ F nm[i]? (getS σ i)
          cases hs : getS σ i with
          | un => trivial
          | val dd =>
            obtain ⟨y, v, e1, e2, _, e4, _⟩ := slot i (by rw [hs]; exact fun z => nomatch z)
            rw [hs] at e4
            exact ⟨y, v, e1, e2, RV.mono (fun _ z => z) kF e4⟩
          | fn kk =>
            obtain ⟨y, v, e1, e2, _, e4, _⟩ := slot i (by rw [hs]; exact fun z => nomatch z)
            rw [hs] at e4
            exact ⟨y, v, e1, e2, e4⟩
          | own l =>
            obtain ⟨y, v, e1, e2, _, e4, _⟩ := slot i (by rw [hs]; exact fun z => nomatch z)
            rw [hs] at e4
            obtain ⟨b, vs, nn, rfl, nF, hl, hr⟩ := e4
            refine ⟨y, b, vs, nn, e1, e2, nF, fun z => ?_, hk1 _ _ hl, hr.mono (fun _ z => z) kF⟩
            have hl' : h.get? b = _ := hl
            rw [z] at hl'
            have hl'' : h.get? h.objs.size = _ := hl'
            rw [hL] at hl''; cases hl''
        · obtain ⟨y', v, e1, e2, e3, _, _⟩ := slot 0 (by rw [h1]; exact fun z => nomatch z)
          have e1' : f.fs.nm[0]? = some y' := e1
          rw [h2] at e1'; cases e1'
          show m y = vals.head?
          rw [e2, ← e3]
          cases vals <;> rfl
      have O2 : Okay (A.deeper (envOf dr.name dr.scope h.objs.size fa code)) n := ⟨O.hd, by show A.depth + 1 + n ≤ 900; have := O.dp; omega, by show A.units + 3 + 6 * n ≤ 9000; have := O.un; omega⟩
      -- back from the frame
      have back : ∀ σ' m' h' F', Run X f σ m h₁ F σ' m' h' F' → headS σ' = lo → ∀ v tk', RV h' F' v d → Q v (mk s₀ h' tk') := by
        intro σ' m' h' F' R hlo v tk' rv
        have dirt : ∀ b, Own σ nm m b → Dirty vals as b := by
          rintro b ⟨i, ow⟩
          obtain ⟨rfl, hv⟩ := own0 i b ow
          obtain ⟨⟨l, hl⟩, _⟩ := ow
          rw [pad_get q3] at hl
          cases as with
          | nil => cases hl
          | cons l0 as' =>
            replace hl : l0 = .own l := hl
            subst hl
            cases vals with
            | nil => cases hv
            | cons v0 vr =>
              replace hv : some v0 = some (.ref b) := by simpa using hv
              cases hv
              exact ⟨l, as', vr, rfl, rfl⟩
        refine hq v h' F' tk' R.st.bi ⟨fun b o e nd => R.x.keep b o (hk1 b o e) fun z => z.elim (fun z => nd (dirt b z)) (fun z => ?_), R.x.mono, fun b fb => ?_⟩ rv fun l r b vr l' ea ev el => ?_
        · have z' : b = h.objs.size := z
          rw [z', hL] at e; cases e
        · rcases R.x.new b fb with z | (z | z) | z
          · exact .inl z
          · exact .inr (.inl (dirt b z))
          · have z' : b = h.objs.size := z
            exact .inr (.inr (z' ▸ hL))
          · exact .inr (.inr (get_none_of_keep hk1 z))
        · -- the list that was handed in
          subst ea ev
          have h0 : getS σ' 0 = .own l' := by
            rw [← el, ← hlo]
            cases σ' with
            | nil => rw [← hlo] at el; cases el
            | cons => rfl
          obtain ⟨y, v, e1, e2, _⟩ := slot 0 (by rw [pad_get q3]; exact fun z => nomatch z)
          obtain ⟨b', us, j, e3, nF, _, hl, hr, _⟩ := R.st.own h0 (y := y) e1
          have e4 := R.st.own0 l' y h0 e1
          have e5 : m' y = some (.ref b) := e4
          rw [e3] at e5
          cases e5
          exact ⟨nF, us, j, hl, hr⟩
      refine wpAny_mono (evS_snd (f := f) (s₀ := s₀) (E := fun e s' => wpAny (model prog w) (A.deeper (envOf dr.name dr.scope h.objs.size fa code)) (leaving (envOf dr.name dr.scope h.objs.size fa code) e) (fun _ s'' => E e s'') (fun e' s'' => E e' s'') s')
        (Q := fun fl s' => Q (match fl with | .ret v => v | _ => .none) s') XO I IT IB IW FO.fo O2 fn.body dr.body σ fl m h₁ F _ q4 FO.body S ⟨?_, ?_⟩) (fun _ _ z => z) (fun _ _ z => z)
      · rintro σ' m' h' F' tk' rfl R
        cases he
        exact back σ' m' h' F' R rfl _ _ .none
      · rintro d' σ' v m' h' F' tk' rfl R rv
        cases he
        exact back σ' m' h' F' R rfl v _ rv
  · rw [q0] at he
    cases he
    exact HT k as _ q0
end
end Mine
end
section
open PySem PySem.W PySem.Calls PyProof.Rows
namespace Mine

section
variable {X : Cx} {prog : Program} {w : World}

structure SndL (X : Cx) (prog : Program) (w : World) (p : Lv) (n : Nat) : Prop where
  e : SndE X prog w p n
  t : SndT X prog w p n
  s : SndS X prog w p n
  c : SndC X prog w p n

theorem whl_down {fns : List Fn} {tab : Tab} {k : Nat} {t : IE} {a : List IS} {σ : St} {fl : Fl} (h : (lv fns tab k).S [.whl t a] σ = some fl) :
    ∃ j, j < k ∧ evS1 (lv fns tab j) (.whl t a) σ = some fl := by
  cases k with
  | zero => cases h
  | succ j =>
    refine ⟨j, Nat.lt_succ_self j, ?_⟩
    replace h : evS (lv fns tab j) [.whl t a] σ = some fl := h
    unfold evS at h
    rcases q : evS1 (lv fns tab j) (.whl t a) σ with _ | fl'
    · rw [q] at h; cases h
    rw [q] at h
    cases fl' with
    | next σ' =>
      dsimp only at h
      unfold evS at h
      exact h
    | ret v σ' => exact h

theorem whl_snd {fns : List Fn} {tab : Tab} {K n : Nat} (P : ∀ k, k ≤ n → SndL X prog w (lv fns tab k) (k + K)) : SndW X prog w (lv fns tab n) (n + K) := by
  intro t a σ fl he f et ea fo ct ca A E m s₀ h F tk Q O S hq
  refine codeAny_whileLoop (fun k s => k ≤ n ∧ ∃ σ1 m1 h1 F1 tk1, s = mk s₀ h1 tk1 ∧ evS1 (lv fns tab k) (.whl t a) σ1 = some fl ∧ Run X f σ m h F σ1 m1 h1 F1) (fun k s I => ?_) n ⟨Nat.le_refl n, σ, m, h, F, tk, rfl, he, .refl S⟩
  obtain ⟨hk, σ1, m1, h1, F1, tk1, rfl, h1e, R1⟩ := I
  have Pk := P k hk
  have Ok : Okay A (k + K) := O.less (by omega)
  unfold evS1 at h1e
  dsimp only at h1e
  rcases q1 : (lv fns tab k).T t σ1 with _ | ⟨c, σ2⟩
  · rw [q1] at h1e; cases h1e
  rw [q1] at h1e
  refine Pk.t t σ1 c σ2 q1 f et fo ct A _ m1 s₀ h1 F1 tk1 _ Ok R1.st fun h2 F2 tk2 S2 x2 o2 => ?_
  have R2 := R1.trans (Run.ofE S2 x2 o2)
  cases c with
  | false =>
    cases h1e
    simp only [Bool.false_eq_true, if_false]
    exact wpAny_execs_nil (hq.1 _ _ _ _ _ rfl R2)
  | true =>
    simp only [if_true]
    dsimp only at h1e
    rcases q2 : (lv fns tab k).S a σ2 with _ | fl2
    · rw [q2] at h1e; cases h1e
    rw [q2] at h1e
    refine Pk.s a σ2 fl2 q2 f ea fo ca A _ m1 s₀ h2 F2 tk2 _ Ok S2 ⟨?_, ?_⟩
    · rintro σ3 m3 h3 F3 tk3 rfl R3
      obtain ⟨j, hj, hje⟩ := whl_down h1e
      exact ⟨j, hj, by omega, σ3, m3, h3, F3, tk3, rfl, hje, R2.trans R3⟩
    · rintro d σ3 v m3 h3 F3 tk3 rfl R3 rv
      cases h1e
      exact hq.2 _ _ _ _ _ _ _ rfl (R2.trans R3) rv

theorem lv_snd (XO : X.Ok) {fns : List Fn} {tab : Tab} {K : Nat} (FT : ∀ k f d, fnAt fns k = some f → defAt X.defs k = some d → ∃ nm, FnOk X.defs f d nm)
    (HT : ∀ k as d, look k as tab = some d → Spec X prog w K k as d .un) : ∀ n, SndL X prog w (lv fns tab n) (n + K) := by
  intro n
  induction n using Nat.strongRecOn with
  | ind n ih =>
    cases n with
    | zero => exact ⟨fun _ _ _ _ h => (nomatch h), fun _ _ _ _ h => (nomatch h), fun _ _ _ h => (nomatch h), fun _ _ _ _ h => (nomatch h)⟩
    | succ n =>
      have P := ih n (Nat.lt_succ_self n)
      have W : SndW X prog w (lv fns tab n) (n + K) := whl_snd fun k hk => ih k (Nat.lt_succ_of_le hk)
      have e1 : n + 1 + K = n + K + 1 := by omega
      rw [e1]
      refine ⟨evE_snd XO P.e P.t P.c fns tab, evT_snd P.e P.t fns tab, ?_, evC_snd XO P.e P.t P.s W fns tab FT fun k as d h => (HT k as d h).more (by omega)⟩
      intro ss σ fl he f sts fo ck A E m s₀ h F tk Q O S hq
      exact evS_snd XO P.e P.t P.s W fo (O.less (Nat.le_succ _)) ss sts σ fl m h F tk Q he ck S hq
end
end Mine
end
section
open PySem PySem.W PySem.Calls PyProof.Rows
namespace Mine

mutual
theorem beqD_eq : ∀ {a b : PyData}, beqD a b = true → a = b
  | .none, b, h => by cases b <;> first | rfl | cases h
  | .bool a, b, h => by
    cases b <;> first | (rw [beqD] at h; exact congrArg _ (eq_of_beq h)) | cases h
  | .int a, b, h => by
    cases b with
    | int b =>
      rw [beqD, eqI_eq] at h
      exact congrArg _ (eq_of_beq h)
    | _ => cases h
  | .list a, b, h => by
    cases b with
    | list b => rw [beqD] at h; exact congrArg _ (beqDs_eq h)
    | _ => cases h
  | .tuple a, b, h => by
    cases b with
    | tuple b => rw [beqD] at h; exact congrArg _ (beqDs_eq h)
    | _ => cases h
  | .str _, b, h => by cases b <;> cases h
  | .dict _, b, h => by cases b <;> cases h
theorem beqDs_eq : ∀ {a b : List PyData}, beqDs a b = true → a = b
  | [], b, h => by cases b <;> first | rfl | cases h
  | x :: a, b, h => by
    cases b with
    | nil => cases h
    | cons y b =>
      rw [beqDs] at h
      rcases q : beqD x y with _ | _
      · rw [q] at h; cases h
      · rw [q] at h
        rw [beqD_eq q, beqDs_eq h]
end
theorem beqL_eq {a b : Loc} (h : beqL a b = true) : a = b := by
  cases a with
  | val x =>
    cases b with
    | val y => exact congrArg _ (beqD_eq h)
    | _ => cases h
  | fn x =>
    cases b with
    | fn y => exact congrArg _ (Nat.eq_of_beq_eq_true h)
    | _ => cases h
  | _ => cases b <;> cases h
theorem beqAs_eq : ∀ {a b : St}, beqAs a b = true → a = b
  | [], b, h => by cases b <;> first | rfl | cases h
  | x :: a, b, h => by
    cases b with
    | nil => cases h
    | cons y b =>
      rw [beqAs] at h
      rcases q : beqL x y with _ | _
      · rw [q] at h; cases h
      · rw [q] at h
        rw [beqL_eq q, beqAs_eq h]

theorem lookA_mem {as : St} {d : PyData} : ∀ {l : List (St × PyData)}, lookA as l = some d → (as, d) ∈ l
  | [], h => by cases h
  | (as', d') :: r, h => by
    unfold lookA at h
    dsimp only at h
    rcases q : beqAs as as' with _ | _
    · rw [q] at h
      exact List.mem_cons_of_mem _ (lookA_mem h)
    · rw [q] at h
      cases h
      rw [beqAs_eq q]
      exact List.mem_cons_self
theorem look_mem {k : Nat} {as : St} {d : PyData} : ∀ {t : Tab}, look k as t = some d → ∃ l, (k, l) ∈ t ∧ (as, d) ∈ l
  | [], h => by cases h
  | (k', l) :: r, h => by
    unfold look at h
    dsimp only at h
    rcases q : Nat.beq k k' with _ | _
    · rw [q] at h
      obtain ⟨l', h1, h2⟩ := look_mem h
      exact ⟨l', List.mem_cons_of_mem _ h1, h2⟩
    · rw [q] at h
      dsimp only at h
      have e := Nat.eq_of_beq_eq_true q
      subst e
      rcases q2 : lookA as l with _ | d'
      · rw [q2] at h
        obtain ⟨l', h1, h2⟩ := look_mem h
        exact ⟨l', List.mem_cons_of_mem _ h1, h2⟩
      · rw [q2] at h
        cases h
        exact ⟨l, List.mem_cons_self, lookA_mem q2⟩

/-- the calls of one def answer as the table says -/
noncomputable def ckA (p : Lv) (k : Nat) : List (St × PyData) → Bool
  | [] => true
  | e :: r => match e with
    | (as, d) => match p.C k as with
      | some (d', _) => match beqD d' d with
        | true => ckA p k r
        | false => false
      | none => false
theorem ckA_mem {p : Lv} {k : Nat} {as : St} {d : PyData} : ∀ {l : List (St × PyData)}, ckA p k l = true → (as, d) ∈ l → ∃ lo, p.C k as = some (d, lo)
  | [], _, h => by cases h
  | (as', d') :: r, c, h => by
    unfold ckA at c
    dsimp only at c
    rcases q : p.C k as' with _ | ⟨d2, lo⟩
    · rw [q] at c; cases c
    rw [q] at c
    dsimp only at c
    rcases q2 : beqD d2 d' with _ | _
    · rw [q2] at c; cases c
    rw [q2] at c
    rcases List.mem_cons.mp h with e | e
    · cases e
      exact ⟨lo, by rw [q, beqD_eq q2]⟩
    · exact ckA_mem c e

section
variable {X : Cx} {prog : Program} {w : World}
theorem Spec.un {K k : Nat} {as : St} {d : PyData} {lo : Loc} (s : Spec X prog w K k as d lo) : Spec X prog w K k as d .un :=
  fun A E s₀ h F tk Q vals fa O B ra hf hq => s A E s₀ h F tk Q vals fa O B ra hf fun v h' F' tk' b x rv _ => hq v h' F' tk' b x rv fun _ _ _ _ _ _ _ e => (nomatch e)

/-- the defs of X are these -/
noncomputable def FnsOk (X : Cx) (fns : List Fn) : Prop := ∀ k f d, fnAt fns k = some f → defAt X.defs k = some d → ∃ nm, FnOk X.defs f d nm
/-- a table that holds, within n levels -/
noncomputable def TabOk (fns : List Fn) (tab : Tab) (K : Nat) : Prop :=
  ∀ (X : Cx) (prog : Program) (w : World), X.Ok → FnsOk X fns → ∀ e ∈ tab, ∀ r ∈ e.2, Spec X prog w K e.1 r.1 r.2 .un
theorem TabOk.nil {fns : List Fn} : TabOk fns [] 0 := fun _ _ _ _ _ _ h => (nomatch h)
theorem TabOk.more {fns : List Fn} {tab : Tab} {K L : Nat} (t : TabOk fns tab K) (h : K ≤ L) : TabOk fns tab L :=
  fun X prog w XO FT e he r hr => (t X prog w XO FT e he r hr).more h
theorem TabOk.app {fns : List Fn} {t1 t2 : Tab} {K : Nat} (h1 : TabOk fns t1 K) (h2 : TabOk fns t2 K) : TabOk fns (t1 ++ t2) K :=
  fun X prog w XO FT e he r hr => (List.mem_append.mp he).elim (fun z => h1 X prog w XO FT e z r hr) fun z => h2 X prog w XO FT e z r hr
theorem TabOk.snd {fns : List Fn} {tab : Tab} {K : Nat} (t : TabOk fns tab K) (XO : X.Ok) (FT : FnsOk X fns) (n : Nat) : SndL X prog w (lv fns tab n) (n + K) :=
  lv_snd XO FT (fun k as d h => let ⟨l, h1, h2⟩ := look_mem h; t X prog w XO FT (k, l) h1 (as, d) h2) n
theorem TabOk.one {fns : List Fn} {tab : Tab} {K n k : Nat} {l : List (St × PyData)} (t : TabOk fns tab K) (c : ckA (lv fns tab n) k l = true) : TabOk fns [(k, l)] (n + K) := by
  intro X prog w XO FT e he r hr
  cases List.mem_singleton.mp he
  obtain ⟨as, d⟩ := r
  obtain ⟨lo, h⟩ := ckA_mem c hr
  exact ((t.snd XO FT n).c k as d lo h).un
end
end Mine
end
section
open PySem PySem.W PySem.Calls PyProof.Rows
namespace Mine
noncomputable def dI (n : Nat) : PyData := .int (.ofNat n)
noncomputable def dJ (n : Nat) : PyData := .int (.negSucc n)
noncomputable def dT : PyData := .bool true
noncomputable def dF : PyData := .bool false
/-- the law's frame -/
noncomputable def sgL (wave : Loc) (a b : Loc) : St := [.un, wave, a, b, .un, .un, .un, .un, .un, .un, .un, .un, .un, .un, .un]
noncomputable def sg0 (w places : Nat) : St := [.un, .un, .val (dI w), .val (dI places), .un, .un, .un, .un, .un, .un, .un, .un, .un, .un, .un]
noncomputable def wvL (l : List PyData) (n : Nat) : Loc := .own [dI n, .list l]
theorem two0 : evS1 (lv fns [] 20) lawTwo (sgL (wvL [] 0) .un .un) = some (.next (sgL (wvL [] 2) (.val (.int (3 + .ofNat 3))) (.val (.int (2 + .ofNat 1))))) := by kernel_rfl
theorem two1 (x : Nat) : evS1 (lv fns [] 20) lawTwo (sgL (wvL [dI x] 0) .un .un) = some (.next (sgL (wvL [dI x] 2) (.val (.int (3 + .ofNat (x % 6)))) (.val (.int (2 + .ofNat 1))))) := by kernel_rfl
theorem two2 (x y : Nat) : evS1 (lv fns [] 20) lawTwo (sgL (wvL [dI x, dI y] 0) .un .un) = some (.next (sgL (wvL [dI x, dI y] 2) (.val (.int (3 + .ofNat (x % 6)))) (.val (.int (2 + .ofNat (y % 4)))))) := by kernel_rfl
/-- the first statement's value, as the rest of the law sees it: w and places -/
theorem two (l : List Nat) (h : l.length ≤ 2) : ∃ wv a b, 3 ≤ a ∧ a ≤ 8 ∧ 2 ≤ b ∧ b ≤ 5 ∧ evS1 (lv fns [] 20) lawTwo (sgL (wvL (l.map dI) 0) .un .un) = some (.next (sgL wv (.val (dI a)) (.val (dI b)))) := by
  match l, h with
  | [], _ => exact ⟨_, 6, 3, by decide, by decide, by decide, by decide, two0⟩
  | [x], _ => exact ⟨_, 3 + x % 6, 3, by omega, by omega, by decide, by decide, (two1 x).trans (by simp only [dI]; rfl)⟩
  | [x, y], _ => exact ⟨_, 3 + x % 6, 2 + y % 4, by omega, by omega, by omega, by omega, (two2 x y).trans (by simp only [dI]; rfl)⟩
  | _ :: _ :: _ :: _, h => simp at h
end Mine
end
section
open PySem PySem.W PySem.Calls PyProof.Rows
namespace Mine
theorem TabOk.cons {fns : List Fn} {k : Nat} {l : List (St × PyData)} {t : Tab} {K : Nat} (h1 : TabOk fns [(k, l)] K) (h2 : TabOk fns t K) : TabOk fns ((k, l) :: t) K := h1.app h2
noncomputable def isT : Option Fl → Bool
  | some (.ret (.bool true) _) => true
  | _ => false
theorem isT_snd {o : Option Fl} (h : isT o = true) : ∃ σ, o = some (.ret (.bool true) σ) := by
  unfold isT at h
  split at h
  · exact ⟨_, rfl⟩
  · cases h
noncomputable def tN : Tab := []
theorem tN_ok : TabOk fns tN 0 := TabOk.nil
noncomputable def tC_18_0 : List (St × PyData) := [([.val (dI 1)], (.list [])),
  ([.val (dI 2)], (.list [(dI 2)])),
  ([.val (dI 3)], (.list [(dI 2), (dI 3)])),
  ([.val (dI 4)], (.list [(dI 2), (dI 3)])),
  ([.val (dI 5)], (.list [(dI 2), (dI 3), (dI 5)]))]
theorem ok_tC_18_0 : ckA (lv fns tN 60) 18 tC_18_0 = true := by decide +kernel
noncomputable def tC_22_0 : List (St × PyData) := [([.val (dI 2), .val (dI 2)], (dI 1)),
  ([.val (dI 0), .val (dI 2)], (dI 0)),
  ([.val (dI 1), .val (dI 2)], (dI 0)),
  ([.val (dI 3), .val (dI 2)], (dI 1)),
  ([.val (dI 3), .val (dI 3)], (dI 1)),
  ([.val (dI 0), .val (dI 3)], (dI 0)),
  ([.val (dI 1), .val (dI 3)], (dI 0)),
  ([.val (dI 2), .val (dI 3)], (dI 0))]
theorem ok_tC_22_0 : ckA (lv fns tN 60) 22 tC_22_0 = true := by decide +kernel
noncomputable def tC_22_1 : List (St × PyData) := [([.val (dI 4), .val (dI 2)], (dI 3)),
  ([.val (dI 4), .val (dI 3)], (dI 1)),
  ([.val (dI 5), .val (dI 2)], (dI 3)),
  ([.val (dI 5), .val (dI 3)], (dI 1)),
  ([.val (dI 5), .val (dI 5)], (dI 1)),
  ([.val (dI 0), .val (dI 5)], (dI 0)),
  ([.val (dI 1), .val (dI 5)], (dI 0)),
  ([.val (dI 4), .val (dI 5)], (dI 0))]
theorem ok_tC_22_1 : ckA (lv fns tN 60) 22 tC_22_1 = true := by decide +kernel
noncomputable def tC_22_2 : List (St × PyData) := [([.val (dI 2), .val (dI 5)], (dI 0)),
  ([.val (dI 3), .val (dI 5)], (dI 0))]
theorem ok_tC_22_2 : ckA (lv fns tN 60) 22 tC_22_2 = true := by decide +kernel
noncomputable def tC_34_0 : List (St × PyData) := [([.val (dI 2)], (dI 1)),
  ([.val (dI 3)], (dI 2)),
  ([.val (dI 4)], (dI 5)),
  ([.val (dI 5)], (dI 16))]
theorem ok_tC_34_0 : ckA (lv fns tN 60) 34 tC_34_0 = true := by decide +kernel
noncomputable def tC : Tab := (18, tC_18_0) :: (22, tC_22_0) :: (22, tC_22_1) :: (22, tC_22_2) :: (34, tC_34_0) :: tN
theorem tC_ok : TabOk fns tC 60 := TabOk.cons (tN_ok.one ok_tC_18_0) (TabOk.cons (tN_ok.one ok_tC_22_0) (TabOk.cons (tN_ok.one ok_tC_22_1) (TabOk.cons (tN_ok.one ok_tC_22_2) (TabOk.cons (tN_ok.one ok_tC_34_0) (tN_ok.more (by decide))))))
end Mine
end
section
open PySem PySem.W PySem.Calls PyProof.Rows
namespace Mine
noncomputable def t3_0_31_0 : List (St × PyData) := [([.val (.list [(dI 1)]), .val (.list [(dI 1)]), .val (dI 3)], (.tuple [(.list [(dI 1)]), (.list [])])),
  ([.val (.list [(dI 1)]), .val (.list [(dI 2)]), .val (dI 3)], (.tuple [(.list []), (.list [(dI 1)])])),
  ([.val (.list [(dI 2)]), .val (.list [(dI 1)]), .val (dI 3)], (.tuple [(.list [(dI 2)]), (.list [])])),
  ([.val (.list [(dI 3)]), .val (.list [(dI 1)]), .val (dI 3)], (.tuple [(.list [(dI 3)]), (.list [])])),
  ([.val (.list [(dI 3)]), .val (.list [(dI 2)]), .val (dI 3)], (.tuple [(.list [(dI 1)]), (.list [(dI 1)])])),
  ([.val (.list [(dI 1)]), .val (.list [(dI 3)]), .val (dI 3)], (.tuple [(.list []), (.list [(dI 1)])])),
  ([.val (.list [(dI 4)]), .val (.list [(dI 1)]), .val (dI 3)], (.tuple [(.list [(dI 4)]), (.list [])])),
  ([.val (.list [(dI 4)]), .val (.list [(dI 2)]), .val (dI 3)], (.tuple [(.list [(dI 2)]), (.list [])]))]
theorem ok_t3_0_31_0 : ckA (lv fns tC 60) 31 t3_0_31_0 = true := by decide +kernel
noncomputable def t3_0_31_1 : List (St × PyData) := [([.val (.list [(dI 2)]), .val (.list [(dI 2)]), .val (dI 3)], (.tuple [(.list [(dI 1)]), (.list [])])),
  ([.val (.list [(dI 6)]), .val (.list [(dI 1)]), .val (dI 3)], (.tuple [(.list [(dI 6)]), (.list [])])),
  ([.val (.list [(dI 6)]), .val (.list [(dI 6)]), .val (dI 3)], (.tuple [(.list [(dI 1)]), (.list [])])),
  ([.val (.list [(dI 1)]), .val (.list [(dI 4)]), .val (dI 3)], (.tuple [(.list []), (.list [(dI 1)])])),
  ([.val (.list [(dI 5)]), .val (.list [(dI 1)]), .val (dI 3)], (.tuple [(.list [(dI 5)]), (.list [])])),
  ([.val (.list [(dI 5)]), .val (.list [(dI 2)]), .val (dI 3)], (.tuple [(.list [(dI 2)]), (.list [(dI 1)])])),
  ([.val (.list [(dI 2), (dI 1)]), .val (.list [(dI 1)]), .val (dI 3)], (.tuple [(.list [(dI 2), (dI 1)]), (.list [])])),
  ([.val (.list [(dI 2), (dI 1)]), .val (.list [(dI 6)]), .val (dI 3)], (.tuple [(.list [(dI 1)]), (.list [(dI 4)])]))]
theorem ok_t3_0_31_1 : ckA (lv fns tC 60) 31 t3_0_31_1 = true := by decide +kernel
noncomputable def t3_0_31_2 : List (St × PyData) := [([.val (.list [(dI 6)]), .val (.list [(dI 4)]), .val (dI 3)], (.tuple [(.list [(dI 1)]), (.list [(dI 2)])])),
  ([.val (.list [(dI 2), (dI 1)]), .val (.list [(dI 2)]), .val (dI 3)], (.tuple [(.list [(dI 5)]), (.list [])])),
  ([.val (.list [(dI 6)]), .val (.list [(dI 2)]), .val (dI 3)], (.tuple [(.list [(dI 3)]), (.list [])])),
  ([.val (.list [(dI 2)]), .val (.list [(dI 3)]), .val (dI 3)], (.tuple [(.list []), (.list [(dI 2)])])),
  ([.val (.list [(dI 1)]), .val (.list [(dI 5)]), .val (dI 3)], (.tuple [(.list []), (.list [(dI 1)])])),
  ([.val (.list [(dI 1)]), .val (.list [(dI 6)]), .val (dI 3)], (.tuple [(.list []), (.list [(dI 1)])])),
  ([.val (.list [(dI 4), (dI 1)]), .val (.list [(dI 2)]), .val (dI 3)], (.tuple [(.list [(dI 6)]), (.list [])])),
  ([.val (.list [(dI 0), (dI 6), (dI 3)]), .val (.list [(dI 4)]), .val (dI 3)], (.tuple [(.list [(dI 4), (dI 7)]), (.list [])]))]
theorem ok_t3_0_31_2 : ckA (lv fns tC 60) 31 t3_0_31_2 = true := by decide +kernel
noncomputable def t3_0_31_3 : List (St × PyData) := [([.val (.list [(dI 4)]), .val (.list [(dI 4)]), .val (dI 3)], (.tuple [(.list [(dI 1)]), (.list [])])),
  ([.val (.list [(dI 4), (dI 7)]), .val (.list [(dI 6), (dI 3)]), .val (dI 3)], (.tuple [(.list [(dI 2)]), (.list [])])),
  ([.val (.list [(dI 6), (dI 3)]), .val (.list [(dI 6), (dI 3)]), .val (dI 3)], (.tuple [(.list [(dI 1)]), (.list [])]))]
theorem ok_t3_0_31_3 : ckA (lv fns tC 60) 31 t3_0_31_3 = true := by decide +kernel
noncomputable def t3_0_25_0 : List (St × PyData) := [([.val (.list [(dI 1)]), .val (.list [(dI 1)]), .val (dI 3)], (.list [(dI 1)])),
  ([.val (.list [(dI 1)]), .val (.list [(dI 2)]), .val (dI 3)], (.list [(dI 2)])),
  ([.val (.list [(dI 2)]), .val (.list [(dI 1)]), .val (dI 3)], (.list [(dI 2)])),
  ([.val (.list [(dI 1)]), .val (.list [(dI 3)]), .val (dI 3)], (.list [(dI 3)])),
  ([.val (.list [(dI 3)]), .val (.list [(dI 1)]), .val (dI 3)], (.list [(dI 3)])),
  ([.val (.list [(dI 1)]), .val (.list [(dI 5)]), .val (dI 3)], (.list [(dI 5)])),
  ([.val (.list [(dI 2)]), .val (.list [(dI 2)]), .val (dI 3)], (.list [(dI 4)])),
  ([.val (.list [(dI 1)]), .val (.list [(dI 4)]), .val (dI 3)], (.list [(dI 4)]))]
theorem ok_t3_0_25_0 : ckA (lv fns tC 60) 25 t3_0_25_0 = true := by decide +kernel
noncomputable def t3_0_25_1 : List (St × PyData) := [([.val (.list [(dI 2)]), .val (.list [(dI 3)]), .val (dI 3)], (.list [(dI 6)])),
  ([.val (.list [(dI 5)]), .val (.list [(dI 1)]), .val (dI 3)], (.list [(dI 5)])),
  ([.val (.list [(dI 4)]), .val (.list [(dI 2)]), .val (dI 3)], (.list [(dI 0), (dI 1)])),
  ([.val (.list [(dI 6)]), .val (.list [(dI 1)]), .val (dI 3)], (.list [(dI 6)])),
  ([.val (.list [(dI 1)]), .val (.list [(dI 0), (dI 2)]), .val (dI 3)], (.list [(dI 0), (dI 2)])),
  ([.val (.list [(dI 2)]), .val (.list [(dI 5)]), .val (dI 3)], (.list [(dI 2), (dI 1)])),
  ([.val (.list [(dI 0), (dI 2)]), .val (.list [(dI 1)]), .val (dI 3)], (.list [(dI 0), (dI 2)])),
  ([.val (.list [(dI 5)]), .val (.list [(dI 5)]), .val (dI 3)], (.list [(dI 1), (dI 3)]))]
theorem ok_t3_0_25_1 : ckA (lv fns tC 60) 25 t3_0_25_1 = true := by decide +kernel
noncomputable def t3_0_25_2 : List (St × PyData) := [([.val (.list [(dI 2), (dI 1)]), .val (.list [(dI 2)]), .val (dI 3)], (.list [(dI 4), (dI 2)])),
  ([.val (.list []), .val (.list [(dI 1)]), .val (dI 3)], (.list [])),
  ([.val (.list [(dI 3)]), .val (.list [(dI 3)]), .val (dI 3)], (.list [(dI 1), (dI 1)])),
  ([.val (.list [(dI 5)]), .val (.list [(dI 2)]), .val (dI 3)], (.list [(dI 2), (dI 1)])),
  ([.val (.list []), .val (.list [(dI 6)]), .val (dI 3)], (.list [])),
  ([.val (.list [(dI 6)]), .val (.list [(dI 5)]), .val (dI 3)], (.list [(dI 6), (dI 3)]))]
theorem ok_t3_0_25_2 : ckA (lv fns tC 60) 25 t3_0_25_2 = true := by decide +kernel
noncomputable def t3_0_3_0 : List (St × PyData) := [([.val (.list []), .val (.list [(dI 1)]), .val (dI 3)], (.list [(dI 1)])),
  ([.val (.list [(dI 1)]), .val (.list []), .val (dI 3)], (.list [(dI 1)])),
  ([.val (.list [(dI 1)]), .val (.list [(dI 1)]), .val (dI 3)], (.list [(dI 2)])),
  ([.val (.list [(dI 2)]), .val (.list []), .val (dI 3)], (.list [(dI 2)])),
  ([.val (.list []), .val (.list [(dI 2)]), .val (dI 3)], (.list [(dI 2)])),
  ([.val (.list [(dI 2)]), .val (.list [(dI 2)]), .val (dI 3)], (.list [(dI 4)])),
  ([.val (.list [(dI 4)]), .val (.list [(dI 1)]), .val (dI 3)], (.list [(dI 5)])),
  ([.val (.list [(dI 5)]), .val (.list []), .val (dI 3)], (.list [(dI 5)]))]
theorem ok_t3_0_3_0 : ckA (lv fns tC 60) 3 t3_0_3_0 = true := by decide +kernel
noncomputable def t3_0_3_1 : List (St × PyData) := [([.val (.list []), .val (.list [(dI 5)]), .val (dI 3)], (.list [(dI 5)])),
  ([.val (.list [(dI 5)]), .val (.list [(dI 5)]), .val (dI 3)], (.list [(dI 2), (dI 1)])),
  ([.val (.list [(dI 2), (dI 1)]), .val (.list [(dI 4)]), .val (dI 3)], (.list [(dI 6), (dI 1)])),
  ([.val (.list [(dI 6), (dI 1)]), .val (.list [(dI 2)]), .val (dI 3)], (.list [(dI 0), (dI 2)])),
  ([.val (.list [(dI 0), (dI 2)]), .val (.list []), .val (dI 3)], (.list [(dI 0), (dI 2)])),
  ([.val (.list []), .val (.list [(dI 0), (dI 2)]), .val (dI 3)], (.list [(dI 0), (dI 2)])),
  ([.val (.list [(dI 0), (dI 2)]), .val (.list [(dI 0), (dI 2)]), .val (dI 3)], (.list [(dI 0), (dI 4)])),
  ([.val (.list [(dI 0), (dI 4)]), .val (.list [(dI 6), (dI 1)]), .val (dI 3)], (.list [(dI 6), (dI 5)]))]
theorem ok_t3_0_3_1 : ckA (lv fns tC 60) 3 t3_0_3_1 = true := by decide +kernel
noncomputable def t3_0_3_2 : List (St × PyData) := [([.val (.list [(dI 6), (dI 5)]), .val (.list [(dI 2), (dI 1)]), .val (dI 3)], (.list [(dI 0), (dI 7)])),
  ([.val (.list [(dI 0), (dI 7)]), .val (.list [(dI 5)]), .val (dI 3)], (.list [(dI 5), (dI 7)])),
  ([.val (.list [(dI 5), (dI 7)]), .val (.list []), .val (dI 3)], (.list [(dI 5), (dI 7)])),
  ([.val (.list [(dI 1)]), .val (.list [(dI 2)]), .val (dI 3)], (.list [(dI 3)])),
  ([.val (.list [(dI 3)]), .val (.list [(dI 1)]), .val (dI 3)], (.list [(dI 4)])),
  ([.val (.list [(dI 2)]), .val (.list [(dI 3)]), .val (dI 3)], (.list [(dI 5)])),
  ([.val (.list [(dI 5)]), .val (.list [(dI 3)]), .val (dI 3)], (.list [(dI 0), (dI 1)])),
  ([.val (.list [(dI 0), (dI 1)]), .val (.list [(dI 2)]), .val (dI 3)], (.list [(dI 2), (dI 1)]))]
theorem ok_t3_0_3_2 : ckA (lv fns tC 60) 3 t3_0_3_2 = true := by decide +kernel
noncomputable def t3_0_3_3 : List (St × PyData) := [([.val (.list [(dI 5)]), .val (.list [(dI 0), (dI 1)]), .val (dI 3)], (.list [(dI 5), (dI 1)])),
  ([.val (.list [(dI 5), (dI 1)]), .val (.list [(dI 6)]), .val (dI 3)], (.list [(dI 3), (dI 2)])),
  ([.val (.list [(dI 3), (dI 2)]), .val (.list [(dI 0), (dI 1)]), .val (dI 3)], (.list [(dI 3), (dI 3)])),
  ([.val (.list [(dI 3), (dI 3)]), .val (.list [(dI 5)]), .val (dI 3)], (.list [(dI 0), (dI 4)])),
  ([.val (.list [(dI 0), (dI 2)]), .val (.list [(dI 1), (dI 3)]), .val (dI 3)], (.list [(dI 1), (dI 5)])),
  ([.val (.list [(dI 1), (dI 5)]), .val (.list [(dI 4), (dI 2)]), .val (dI 3)], (.list [(dI 5), (dI 7)])),
  ([.val (.list [(dI 5), (dI 7)]), .val (.list [(dI 4), (dI 2)]), .val (dI 3)], (.list [(dI 1), (dI 2), (dI 1)])),
  ([.val (.list [(dI 1), (dI 2), (dI 1)]), .val (.list [(dI 1), (dI 3)]), .val (dI 3)], (.list [(dI 2), (dI 5), (dI 1)]))]
theorem ok_t3_0_3_3 : ckA (lv fns tC 60) 3 t3_0_3_3 = true := by decide +kernel
noncomputable def t3_0_3_4 : List (St × PyData) := [([.val (.list [(dI 2), (dI 5), (dI 1)]), .val (.list [(dI 0), (dI 2)]), .val (dI 3)], (.list [(dI 2), (dI 7), (dI 1)])),
  ([.val (.list [(dI 5), (dI 7)]), .val (.list [(dI 5), (dI 7)]), .val (dI 3)], (.list [(dI 2), (dI 7), (dI 1)]))]
theorem ok_t3_0_3_4 : ckA (lv fns tC 60) 3 t3_0_3_4 = true := by decide +kernel
noncomputable def t3_0 : Tab := (31, t3_0_31_0) :: (31, t3_0_31_1) :: (31, t3_0_31_2) :: (31, t3_0_31_3) :: (25, t3_0_25_0) :: (25, t3_0_25_1) :: (25, t3_0_25_2) :: (3, t3_0_3_0) :: (3, t3_0_3_1) :: (3, t3_0_3_2) :: (3, t3_0_3_3) :: (3, t3_0_3_4) :: tC
theorem t3_0_ok : TabOk fns t3_0 120 := TabOk.cons (tC_ok.one ok_t3_0_31_0) (TabOk.cons (tC_ok.one ok_t3_0_31_1) (TabOk.cons (tC_ok.one ok_t3_0_31_2) (TabOk.cons (tC_ok.one ok_t3_0_31_3) (TabOk.cons (tC_ok.one ok_t3_0_25_0) (TabOk.cons (tC_ok.one ok_t3_0_25_1) (TabOk.cons (tC_ok.one ok_t3_0_25_2) (TabOk.cons (tC_ok.one ok_t3_0_3_0) (TabOk.cons (tC_ok.one ok_t3_0_3_1) (TabOk.cons (tC_ok.one ok_t3_0_3_2) (TabOk.cons (tC_ok.one ok_t3_0_3_3) (TabOk.cons (tC_ok.one ok_t3_0_3_4) (tC_ok.more (by decide)))))))))))))
noncomputable def t3_1_12_0 : List (St × PyData) := [([.val (.list [(dI 1)]), .val (.list [(dI 1)]), .val (dI 3), .fn 31], (.list [(dI 1)])),
  ([.val (.list [(dI 1)]), .val (.list [(dI 2)]), .val (dI 3), .fn 31], (.list [(dI 1)])),
  ([.val (.list [(dI 3)]), .val (.list [(dI 1)]), .val (dI 3), .fn 31], (.list [(dI 1)])),
  ([.val (.list [(dI 3)]), .val (.list [(dI 2)]), .val (dI 3), .fn 31], (.list [(dI 1)])),
  ([.val (.list [(dI 1)]), .val (.list [(dI 3)]), .val (dI 3), .fn 31], (.list [(dI 1)])),
  ([.val (.list [(dI 4)]), .val (.list [(dI 1)]), .val (dI 3), .fn 31], (.list [(dI 1)])),
  ([.val (.list [(dI 4)]), .val (.list [(dI 2)]), .val (dI 3), .fn 31], (.list [(dI 2)])),
  ([.val (.list [(dI 6)]), .val (.list [(dI 1)]), .val (dI 3), .fn 31], (.list [(dI 1)]))]
theorem ok_t3_1_12_0 : ckA (lv fns t3_0 60) 12 t3_1_12_0 = true := by decide +kernel
noncomputable def t3_1_12_1 : List (St × PyData) := [([.val (.list [(dI 6)]), .val (.list [(dI 6)]), .val (dI 3), .fn 31], (.list [(dI 6)])),
  ([.val (.list [(dI 1)]), .val (.list [(dI 4)]), .val (dI 3), .fn 31], (.list [(dI 1)])),
  ([.val (.list [(dI 5)]), .val (.list [(dI 1)]), .val (dI 3), .fn 31], (.list [(dI 1)])),
  ([.val (.list [(dI 5)]), .val (.list [(dI 2)]), .val (dI 3), .fn 31], (.list [(dI 1)])),
  ([.val (.list [(dI 2), (dI 1)]), .val (.list [(dI 1)]), .val (dI 3), .fn 31], (.list [(dI 1)])),
  ([.val (.list [(dI 2), (dI 1)]), .val (.list [(dI 6)]), .val (dI 3), .fn 31], (.list [(dI 2)])),
  ([.val (.list [(dI 2)]), .val (.list [(dI 3)]), .val (dI 3), .fn 31], (.list [(dI 1)])),
  ([.val (.list [(dI 1)]), .val (.list [(dI 5)]), .val (dI 3), .fn 31], (.list [(dI 1)]))]
theorem ok_t3_1_12_1 : ckA (lv fns t3_0 60) 12 t3_1_12_1 = true := by decide +kernel
noncomputable def t3_1_12_2 : List (St × PyData) := [([.val (.list [(dI 1)]), .val (.list [(dI 6)]), .val (dI 3), .fn 31], (.list [(dI 1)])),
  ([.val (.list [(dI 4), (dI 1)]), .val (.list [(dI 2)]), .val (dI 3), .fn 31], (.list [(dI 2)])),
  ([.val (.list [(dI 0), (dI 6), (dI 3)]), .val (.list [(dI 4)]), .val (dI 3), .fn 31], (.list [(dI 4)])),
  ([.val (.list [(dI 4), (dI 7)]), .val (.list [(dI 6), (dI 3)]), .val (dI 3), .fn 31], (.list [(dI 6), (dI 3)]))]
theorem ok_t3_1_12_2 : ckA (lv fns t3_0 60) 12 t3_1_12_2 = true := by decide +kernel
noncomputable def t3_1_23_0 : List (St × PyData) := [([.val (dI 1), .val (dI 0), .val (dI 3), .fn 25], (.list [(dI 1)])),
  ([.val (dI 1), .val (dI 1), .val (dI 3), .fn 25], (.list [(dI 1)])),
  ([.val (dI 2), .val (dI 0), .val (dI 3), .fn 25], (.list [(dI 1)])),
  ([.val (dI 2), .val (dI 1), .val (dI 3), .fn 25], (.list [(dI 2)])),
  ([.val (dI 2), .val (dI 2), .val (dI 3), .fn 25], (.list [(dI 1)])),
  ([.val (dI 3), .val (dI 0), .val (dI 3), .fn 25], (.list [(dI 1)])),
  ([.val (dI 3), .val (dI 1), .val (dI 3), .fn 25], (.list [(dI 3)])),
  ([.val (dI 3), .val (dI 2), .val (dI 3), .fn 25], (.list [(dI 3)]))]
theorem ok_t3_1_23_0 : ckA (lv fns t3_0 60) 23 t3_1_23_0 = true := by decide +kernel
noncomputable def t3_1_23_1 : List (St × PyData) := [([.val (dI 3), .val (dI 3), .val (dI 3), .fn 25], (.list [(dI 1)])),
  ([.val (dI 4), .val (dI 0), .val (dI 3), .fn 25], (.list [(dI 1)])),
  ([.val (dI 4), .val (dI 1), .val (dI 3), .fn 25], (.list [(dI 4)])),
  ([.val (dI 4), .val (dI 2), .val (dI 3), .fn 25], (.list [(dI 6)])),
  ([.val (dI 4), .val (dI 3), .val (dI 3), .fn 25], (.list [(dI 4)])),
  ([.val (dI 4), .val (dI 4), .val (dI 3), .fn 25], (.list [(dI 1)])),
  ([.val (dI 5), .val (dI 0), .val (dI 3), .fn 25], (.list [(dI 1)])),
  ([.val (dI 5), .val (dI 1), .val (dI 3), .fn 25], (.list [(dI 5)]))]
theorem ok_t3_1_23_1 : ckA (lv fns t3_0 60) 23 t3_1_23_1 = true := by decide +kernel
noncomputable def t3_1_23_2 : List (St × PyData) := [([.val (dI 5), .val (dI 2), .val (dI 3), .fn 25], (.list [(dI 2), (dI 1)])),
  ([.val (dI 5), .val (dI 3), .val (dI 3), .fn 25], (.list [(dI 2), (dI 1)])),
  ([.val (dI 5), .val (dI 4), .val (dI 3), .fn 25], (.list [(dI 5)])),
  ([.val (dI 5), .val (dI 5), .val (dI 3), .fn 25], (.list [(dI 1)]))]
theorem ok_t3_1_23_2 : ckA (lv fns t3_0 60) 23 t3_1_23_2 = true := by decide +kernel
noncomputable def t3_1 : Tab := (12, t3_1_12_0) :: (12, t3_1_12_1) :: (12, t3_1_12_2) :: (23, t3_1_23_0) :: (23, t3_1_23_1) :: (23, t3_1_23_2) :: t3_0
theorem t3_1_ok : TabOk fns t3_1 180 := TabOk.cons (t3_0_ok.one ok_t3_1_12_0) (TabOk.cons (t3_0_ok.one ok_t3_1_12_1) (TabOk.cons (t3_0_ok.one ok_t3_1_12_2) (TabOk.cons (t3_0_ok.one ok_t3_1_23_0) (TabOk.cons (t3_0_ok.one ok_t3_1_23_1) (TabOk.cons (t3_0_ok.one ok_t3_1_23_2) (t3_0_ok.more (by decide)))))))
noncomputable def t3_2_15_0 : List (St × PyData) := [([.val (.tuple [dF, (.list [(dI 1)])]), .val (.tuple [dF, (.list [(dI 1)])]), .val (dI 3), .fn 31], (.tuple [(.tuple [dF, (.list [(dI 1)])]), (.list [(dI 1)])])),
  ([.val (.tuple [dF, (.list [])]), .val (.tuple [dF, (.list [(dI 1)])]), .val (dI 3), .fn 31], (.tuple [(.tuple [dF, (.list [])]), (.list [(dI 1)])])),
  ([.val (.tuple [dT, (.list [(dI 1)])]), .val (.tuple [dF, (.list [(dI 2)])]), .val (dI 3), .fn 31], (.tuple [(.tuple [dT, (.list [(dI 1)])]), (.list [(dI 2)])])),
  ([.val (.tuple [dF, (.list [(dI 3)])]), .val (.tuple [dF, (.list [(dI 1)])]), .val (dI 3), .fn 31], (.tuple [(.tuple [dF, (.list [(dI 3)])]), (.list [(dI 1)])])),
  ([.val (.tuple [dT, (.list [(dI 1)])]), .val (.tuple [dF, (.list [(dI 3)])]), .val (dI 3), .fn 31], (.tuple [(.tuple [dT, (.list [(dI 1)])]), (.list [(dI 3)])])),
  ([.val (.tuple [dF, (.list [(dI 4)])]), .val (.tuple [dF, (.list [(dI 1)])]), .val (dI 3), .fn 31], (.tuple [(.tuple [dF, (.list [(dI 4)])]), (.list [(dI 1)])])),
  ([.val (.tuple [dF, (.list [(dI 6)])]), .val (.tuple [dF, (.list [(dI 1)])]), .val (dI 3), .fn 31], (.tuple [(.tuple [dF, (.list [(dI 6)])]), (.list [(dI 1)])])),
  ([.val (.tuple [dT, (.list [(dI 1)])]), .val (.tuple [dF, (.list [(dI 4)])]), .val (dI 3), .fn 31], (.tuple [(.tuple [dT, (.list [(dI 1)])]), (.list [(dI 4)])]))]
theorem ok_t3_2_15_0 : ckA (lv fns t3_1 60) 15 t3_2_15_0 = true := by decide +kernel
noncomputable def t3_2_15_1 : List (St × PyData) := [([.val (.tuple [dF, (.list [(dI 5)])]), .val (.tuple [dF, (.list [(dI 1)])]), .val (dI 3), .fn 31], (.tuple [(.tuple [dF, (.list [(dI 5)])]), (.list [(dI 1)])])),
  ([.val (.tuple [dF, (.list [(dI 2), (dI 1)])]), .val (.tuple [dF, (.list [(dI 1)])]), .val (dI 3), .fn 31], (.tuple [(.tuple [dF, (.list [(dI 2), (dI 1)])]), (.list [(dI 1)])])),
  ([.val (.tuple [dT, (.list [(dI 1)])]), .val (.tuple [dF, (.list [(dI 5)])]), .val (dI 3), .fn 31], (.tuple [(.tuple [dT, (.list [(dI 1)])]), (.list [(dI 5)])])),
  ([.val (.tuple [dF, (.list [(dI 4), (dI 1)])]), .val (.tuple [dF, (.list [(dI 2)])]), .val (dI 3), .fn 31], (.tuple [(.tuple [dF, (.list [(dI 6)])]), (.list [(dI 1)])])),
  ([.val (.tuple [dF, (.list [(dI 0), (dI 6), (dI 3)])]), .val (.tuple [dF, (.list [(dI 4)])]), .val (dI 3), .fn 31], (.tuple [(.tuple [dF, (.list [(dI 4), (dI 7)])]), (.list [(dI 1)])]))]
theorem ok_t3_2_15_1 : ckA (lv fns t3_1 60) 15 t3_2_15_1 = true := by decide +kernel
noncomputable def t3_2_16_0 : List (St × PyData) := [([.val (.tuple [(.tuple [dF, (.list [])]), (.list [(dI 1)])]), .val (.tuple [(.tuple [dF, (.list [(dI 1)])]), (.list [(dI 1)])]), .val (dI 3), .fn 25, .fn 31], (.tuple [(.tuple [dF, (.list [(dI 1)])]), (.list [(dI 1)])])),
  ([.val (.tuple [(.tuple [dF, (.list [(dI 1)])]), (.list [(dI 1)])]), .val (.tuple [(.tuple [dT, (.list [(dI 3)])]), (.list [(dI 2)])]), .val (dI 3), .fn 25, .fn 31], (.tuple [(.tuple [dT, (.list [(dI 1)])]), (.list [(dI 2)])])),
  ([.val (.tuple [(.tuple [dF, (.list [(dI 1)])]), (.list [(dI 1)])]), .val (.tuple [(.tuple [dT, (.list [(dI 2)])]), (.list [(dI 1)])]), .val (dI 3), .fn 25, .fn 31], (.tuple [(.tuple [dT, (.list [(dI 1)])]), (.list [(dI 1)])])),
  ([.val (.tuple [(.tuple [dT, (.list [(dI 1)])]), (.list [(dI 1)])]), .val (.tuple [(.tuple [dF, (.list [(dI 1)])]), (.list [(dI 1)])]), .val (dI 3), .fn 25, .fn 31], (.tuple [(.tuple [dF, (.list [])]), (.list [(dI 1)])])),
  ([.val (.tuple [(.tuple [dF, (.list [(dI 1)])]), (.list [(dI 1)])]), .val (.tuple [(.tuple [dT, (.list [(dI 5)])]), (.list [(dI 2)])]), .val (dI 3), .fn 25, .fn 31], (.tuple [(.tuple [dT, (.list [(dI 3)])]), (.list [(dI 2)])])),
  ([.val (.tuple [(.tuple [dT, (.list [(dI 3)])]), (.list [(dI 2)])]), .val (.tuple [(.tuple [dF, (.list [(dI 5)])]), (.list [(dI 3)])]), .val (dI 3), .fn 25, .fn 31], (.tuple [(.tuple [dF, (.list [(dI 1)])]), (.list [(dI 6)])])),
  ([.val (.tuple [(.tuple [dF, (.list [(dI 1)])]), (.list [(dI 6)])]), .val (.tuple [(.tuple [dF, (.list [])]), (.list [(dI 1)])]), .val (dI 3), .fn 25, .fn 31], (.tuple [(.tuple [dF, (.list [(dI 1)])]), (.list [(dI 6)])]))]
theorem ok_t3_2_16_0 : ckA (lv fns t3_1 60) 16 t3_2_16_0 = true := by decide +kernel
noncomputable def t3_2_35_0 : List (St × PyData) := [([.val (.tuple [(.tuple [dF, (.list [(dI 1)])]), (.list [(dI 1)])]), .val (.tuple [(.tuple [dF, (.list [(dI 1)])]), (.list [(dI 1)])]), .val (dI 3)], (.tuple [(.tuple [dF, (.list [(dI 1)])]), (.list [(dI 1)])])),
  ([.val (.tuple [(.tuple [dF, (.list [(dI 1)])]), (.list [(dI 1)])]), .val (.tuple [(.tuple [dT, (.list [(dI 1)])]), (.list [(dI 2)])]), .val (dI 3)], (.tuple [(.tuple [dT, (.list [(dI 1)])]), (.list [(dI 2)])])),
  ([.val (.tuple [(.tuple [dF, (.list [(dI 3)])]), (.list [(dI 1)])]), .val (.tuple [(.tuple [dT, (.list [(dI 1)])]), (.list [(dI 2)])]), .val (dI 3)], (.tuple [(.tuple [dT, (.list [(dI 3)])]), (.list [(dI 2)])])),
  ([.val (.tuple [(.tuple [dT, (.list [(dI 1)])]), (.list [(dI 2)])]), .val (.tuple [(.tuple [dT, (.list [(dI 1)])]), (.list [(dI 3)])]), .val (dI 3)], (.tuple [(.tuple [dF, (.list [(dI 1)])]), (.list [(dI 6)])])),
  ([.val (.tuple [(.tuple [dF, (.list [(dI 4)])]), (.list [(dI 1)])]), .val (.tuple [(.tuple [dT, (.list [(dI 1)])]), (.list [(dI 2)])]), .val (dI 3)], (.tuple [(.tuple [dT, (.list [(dI 2)])]), (.list [(dI 1)])])),
  ([.val (.tuple [(.tuple [dF, (.list [(dI 6)])]), (.list [(dI 1)])]), .val (.tuple [(.tuple [dF, (.list [(dI 1)])]), (.list [(dI 6)])]), .val (dI 3)], (.tuple [(.tuple [dF, (.list [(dI 1)])]), (.list [(dI 1)])])),
  ([.val (.tuple [(.tuple [dF, (.list [])]), (.list [(dI 1)])]), .val (.tuple [(.tuple [dT, (.list [(dI 1)])]), (.list [(dI 4)])]), .val (dI 3)], (.tuple [(.tuple [dF, (.list [])]), (.list [(dI 1)])])),
  ([.val (.tuple [(.tuple [dF, (.list [(dI 5)])]), (.list [(dI 1)])]), .val (.tuple [(.tuple [dT, (.list [(dI 1)])]), (.list [(dI 2)])]), .val (dI 3)], (.tuple [(.tuple [dT, (.list [(dI 5)])]), (.list [(dI 2)])]))]
theorem ok_t3_2_35_0 : ckA (lv fns t3_1 60) 35 t3_2_35_0 = true := by decide +kernel
noncomputable def t3_2_35_1 : List (St × PyData) := [([.val (.tuple [(.tuple [dF, (.list [(dI 2), (dI 1)])]), (.list [(dI 1)])]), .val (.tuple [(.tuple [dF, (.list [(dI 1)])]), (.list [(dI 6)])]), .val (dI 3)], (.tuple [(.tuple [dF, (.list [(dI 5)])]), (.list [(dI 3)])])),
  ([.val (.tuple [(.tuple [dF, (.list [(dI 2), (dI 1)])]), (.list [(dI 1)])]), .val (.tuple [(.tuple [dF, (.list [])]), (.list [(dI 1)])]), .val (dI 3)], (.tuple [(.tuple [dF, (.list [])]), (.list [(dI 1)])])),
  ([.val (.tuple [(.tuple [dF, (.list [(dI 1)])]), (.list [(dI 6)])]), .val (.tuple [(.tuple [dT, (.list [(dI 1)])]), (.list [(dI 5)])]), .val (dI 3)], (.tuple [(.tuple [dT, (.list [(dI 1)])]), (.list [(dI 6), (dI 3)])])),
  ([.val (.tuple [(.tuple [dF, (.list [(dI 1)])]), (.list [(dI 6)])]), .val (.tuple [(.tuple [dF, (.list [(dI 6)])]), (.list [(dI 1)])]), .val (dI 3)], (.tuple [(.tuple [dF, (.list [(dI 1)])]), (.list [(dI 1)])])),
  ([.val (.tuple [(.tuple [dT, (.list [(dI 1)])]), (.list [(dI 6), (dI 3)])]), .val (.tuple [(.tuple [dF, (.list [(dI 4), (dI 7)])]), (.list [(dI 1)])]), .val (dI 3)], (.tuple [(.tuple [dT, (.list [(dI 2)])]), (.list [(dI 1)])]))]
theorem ok_t3_2_35_1 : ckA (lv fns t3_1 60) 35 t3_2_35_1 = true := by decide +kernel
noncomputable def t3_2_24_0 : List (St × PyData) := [([.val (.list [(.tuple [(.list [(dI 1)]), (.list [(dI 1)])]), (.tuple [(.list [(dI 1)]), (.list [(dI 1)])])]), .val (dI 3), .fn 25], (.list [(dI 2)])),
  ([.val (.list [(.tuple [(.list [(dI 1)]), (.list [(dI 1)])]), (.tuple [(.list [(dI 2)]), (.list [(dI 1)])]), (.tuple [(.list [(dI 1)]), (.list [(dI 1)])])]), .val (dI 3), .fn 25], (.list [(dI 4)])),
  ([.val (.list [(.tuple [(.list [(dI 1)]), (.list [(dI 2)])]), (.tuple [(.list [(dI 3)]), (.list [(dI 1)])]), (.tuple [(.list [(dI 3)]), (.list [(dI 1)])]), (.tuple [(.list [(dI 1)]), (.list [(dI 2)])])]), .val (dI 3), .fn 25], (.list [(dI 2), (dI 1)])),
  ([.val (.list [(.tuple [(.list [(dI 1)]), (.list [(dI 5)])]), (.tuple [(.list [(dI 4)]), (.list [(dI 2)])]), (.tuple [(.list [(dI 6)]), (.list [(dI 1)])]), (.tuple [(.list [(dI 4)]), (.list [(dI 2)])]), (.tuple [(.list [(dI 1)]), (.list [(dI 5)])])]), .val (dI 3), .fn 25], (.list [(dI 0), (dI 4)])),
  ([.val (.list [(.tuple [(.list [(dI 1)]), (.list [(dI 0), (dI 2)])]), (.tuple [(.list [(dI 5)]), (.list [(dI 5)])]), (.tuple [(.list [(dI 2), (dI 1)]), (.list [(dI 2)])]), (.tuple [(.list [(dI 2), (dI 1)]), (.list [(dI 2)])]), (.tuple [(.list [(dI 5)]), (.list [(dI 5)])]), (.tuple [(.list [(dI 1)]), (.list [(dI 0), (dI 2)])])]), .val (dI 3), .fn 25], (.list [(dI 2), (dI 7), (dI 1)]))]
theorem ok_t3_2_24_0 : ckA (lv fns t3_1 60) 24 t3_2_24_0 = true := by decide +kernel
noncomputable def t3_2 : Tab := (15, t3_2_15_0) :: (15, t3_2_15_1) :: (16, t3_2_16_0) :: (35, t3_2_35_0) :: (35, t3_2_35_1) :: (24, t3_2_24_0) :: t3_1
theorem t3_2_ok : TabOk fns t3_2 240 := TabOk.cons (t3_1_ok.one ok_t3_2_15_0) (TabOk.cons (t3_1_ok.one ok_t3_2_15_1) (TabOk.cons (t3_1_ok.one ok_t3_2_16_0) (TabOk.cons (t3_1_ok.one ok_t3_2_35_0) (TabOk.cons (t3_1_ok.one ok_t3_2_35_1) (TabOk.cons (t3_1_ok.one ok_t3_2_24_0) (t3_1_ok.more (by decide)))))))
noncomputable def t3_3_36_0 : List (St × PyData) := [([.val (dI 1), .val (dI 1), .val (dI 3)], (.tuple [(.tuple [dF, (.list [(dI 1)])]), (.list [(dI 1)])])),
  ([.val (dI 0), .val (dI 1), .val (dI 3)], (.tuple [(.tuple [dF, (.list [])]), (.list [(dI 1)])])),
  ([.val (dJ 0), .val (dI 2), .val (dI 3)], (.tuple [(.tuple [dT, (.list [(dI 1)])]), (.list [(dI 2)])])),
  ([.val (dJ 0), .val (dI 3), .val (dI 3)], (.tuple [(.tuple [dT, (.list [(dI 1)])]), (.list [(dI 3)])])),
  ([.val (dJ 0), .val (dI 4), .val (dI 3)], (.tuple [(.tuple [dT, (.list [(dI 1)])]), (.list [(dI 4)])])),
  ([.val (dJ 0), .val (dI 5), .val (dI 3)], (.tuple [(.tuple [dT, (.list [(dI 1)])]), (.list [(dI 5)])])),
  ([.val (dI 12), .val (dI 2), .val (dI 3)], (.tuple [(.tuple [dF, (.list [(dI 6)])]), (.list [(dI 1)])])),
  ([.val (dI 240), .val (dI 4), .val (dI 3)], (.tuple [(.tuple [dF, (.list [(dI 4), (dI 7)])]), (.list [(dI 1)])]))]
theorem ok_t3_3_36_0 : ckA (lv fns t3_2 60) 36 t3_3_36_0 = true := by decide +kernel
noncomputable def t3_3_37_0 : List (St × PyData) := [([.val (dI 5), .val (dI 3)], (.list [(.tuple [(.tuple [dF, (.list [(dI 1)])]), (.list [(dI 1)])]), (.tuple [(.tuple [dT, (.list [(dI 1)])]), (.list [(dI 2)])]), (.tuple [(.tuple [dF, (.list [(dI 1)])]), (.list [(dI 6)])]), (.tuple [(.tuple [dF, (.list [])]), (.list [(dI 1)])]), (.tuple [(.tuple [dT, (.list [(dI 1)])]), (.list [(dI 6), (dI 3)])])]))]
theorem ok_t3_3_37_0 : ckA (lv fns t3_2 60) 37 t3_3_37_0 = true := by decide +kernel
noncomputable def t3_3 : Tab := (36, t3_3_36_0) :: (37, t3_3_37_0) :: t3_2
theorem t3_3_ok : TabOk fns t3_3 300 := TabOk.cons (t3_2_ok.one ok_t3_3_36_0) (TabOk.cons (t3_2_ok.one ok_t3_3_37_0) (t3_2_ok.more (by decide)))
theorem law_3_2 : isT ((lv fns t3_3 60).S lawRest (sg0 3 2)) = true := by decide +kernel
theorem law_3_3 : isT ((lv fns t3_3 60).S lawRest (sg0 3 3)) = true := by decide +kernel
theorem law_3_4 : isT ((lv fns t3_3 60).S lawRest (sg0 3 4)) = true := by decide +kernel
theorem law_3_5 : isT ((lv fns t3_3 60).S lawRest (sg0 3 5)) = true := by decide +kernel
theorem hl_3 : ∀ b, 2 ≤ b → b ≤ 5 → ∃ T K σ, K ≤ 300 ∧ TabOk fns T K ∧ (lv fns T 60).S lawRest (sg0 3 b) = some (.ret (.bool true) σ) := by
  intro b h1 h2
  have hb : b = 2 ∨ b = 3 ∨ b = 4 ∨ b = 5 := by omega
  rcases hb with rfl | rfl | rfl | rfl
  · exact let ⟨σ, e⟩ := isT_snd law_3_2; ⟨_, _, σ, by decide, t3_3_ok, e⟩
  · exact let ⟨σ, e⟩ := isT_snd law_3_3; ⟨_, _, σ, by decide, t3_3_ok, e⟩
  · exact let ⟨σ, e⟩ := isT_snd law_3_4; ⟨_, _, σ, by decide, t3_3_ok, e⟩
  · exact let ⟨σ, e⟩ := isT_snd law_3_5; ⟨_, _, σ, by decide, t3_3_ok, e⟩
end Mine
end
section
open PySem PySem.W PySem.Calls PyProof.Rows
namespace Mine
noncomputable def t4_0_31_0 : List (St × PyData) := [([.val (.list [(dI 1)]), .val (.list [(dI 1)]), .val (dI 4)], (.tuple [(.list [(dI 1)]), (.list [])])),
  ([.val (.list [(dI 1)]), .val (.list [(dI 2)]), .val (dI 4)], (.tuple [(.list []), (.list [(dI 1)])])),
  ([.val (.list [(dI 2)]), .val (.list [(dI 1)]), .val (dI 4)], (.tuple [(.list [(dI 2)]), (.list [])])),
  ([.val (.list [(dI 3)]), .val (.list [(dI 1)]), .val (dI 4)], (.tuple [(.list [(dI 3)]), (.list [])])),
  ([.val (.list [(dI 3)]), .val (.list [(dI 2)]), .val (dI 4)], (.tuple [(.list [(dI 1)]), (.list [(dI 1)])])),
  ([.val (.list [(dI 1)]), .val (.list [(dI 3)]), .val (dI 4)], (.tuple [(.list []), (.list [(dI 1)])])),
  ([.val (.list [(dI 4)]), .val (.list [(dI 1)]), .val (dI 4)], (.tuple [(.list [(dI 4)]), (.list [])])),
  ([.val (.list [(dI 4)]), .val (.list [(dI 2)]), .val (dI 4)], (.tuple [(.list [(dI 2)]), (.list [])]))]
theorem ok_t4_0_31_0 : ckA (lv fns tC 60) 31 t4_0_31_0 = true := by decide +kernel
noncomputable def t4_0_31_1 : List (St × PyData) := [([.val (.list [(dI 2)]), .val (.list [(dI 2)]), .val (dI 4)], (.tuple [(.list [(dI 1)]), (.list [])])),
  ([.val (.list [(dI 6)]), .val (.list [(dI 1)]), .val (dI 4)], (.tuple [(.list [(dI 6)]), (.list [])])),
  ([.val (.list [(dI 6)]), .val (.list [(dI 6)]), .val (dI 4)], (.tuple [(.list [(dI 1)]), (.list [])])),
  ([.val (.list [(dI 1)]), .val (.list [(dI 4)]), .val (dI 4)], (.tuple [(.list []), (.list [(dI 1)])])),
  ([.val (.list [(dI 5)]), .val (.list [(dI 1)]), .val (dI 4)], (.tuple [(.list [(dI 5)]), (.list [])])),
  ([.val (.list [(dI 5)]), .val (.list [(dI 2)]), .val (dI 4)], (.tuple [(.list [(dI 2)]), (.list [(dI 1)])])),
  ([.val (.list [(dI 10)]), .val (.list [(dI 1)]), .val (dI 4)], (.tuple [(.list [(dI 10)]), (.list [])])),
  ([.val (.list [(dI 10)]), .val (.list [(dI 6)]), .val (dI 4)], (.tuple [(.list [(dI 1)]), (.list [(dI 4)])]))]
theorem ok_t4_0_31_1 : ckA (lv fns tC 60) 31 t4_0_31_1 = true := by decide +kernel
noncomputable def t4_0_31_2 : List (St × PyData) := [([.val (.list [(dI 6)]), .val (.list [(dI 4)]), .val (dI 4)], (.tuple [(.list [(dI 1)]), (.list [(dI 2)])])),
  ([.val (.list [(dI 10)]), .val (.list [(dI 2)]), .val (dI 4)], (.tuple [(.list [(dI 5)]), (.list [])])),
  ([.val (.list [(dI 6)]), .val (.list [(dI 2)]), .val (dI 4)], (.tuple [(.list [(dI 3)]), (.list [])])),
  ([.val (.list [(dI 2)]), .val (.list [(dI 3)]), .val (dI 4)], (.tuple [(.list []), (.list [(dI 2)])])),
  ([.val (.list [(dI 1)]), .val (.list [(dI 5)]), .val (dI 4)], (.tuple [(.list []), (.list [(dI 1)])])),
  ([.val (.list [(dI 1)]), .val (.list [(dI 6)]), .val (dI 4)], (.tuple [(.list []), (.list [(dI 1)])])),
  ([.val (.list [(dI 12)]), .val (.list [(dI 2)]), .val (dI 4)], (.tuple [(.list [(dI 6)]), (.list [])])),
  ([.val (.list [(dI 0), (dI 15)]), .val (.list [(dI 4)]), .val (dI 4)], (.tuple [(.list [(dI 12), (dI 3)]), (.list [])]))]
theorem ok_t4_0_31_2 : ckA (lv fns tC 60) 31 t4_0_31_2 = true := by decide +kernel
noncomputable def t4_0_31_3 : List (St × PyData) := [([.val (.list [(dI 4)]), .val (.list [(dI 4)]), .val (dI 4)], (.tuple [(.list [(dI 1)]), (.list [])])),
  ([.val (.list [(dI 12), (dI 3)]), .val (.list [(dI 14), (dI 1)]), .val (dI 4)], (.tuple [(.list [(dI 2)]), (.list [])])),
  ([.val (.list [(dI 14), (dI 1)]), .val (.list [(dI 14), (dI 1)]), .val (dI 4)], (.tuple [(.list [(dI 1)]), (.list [])]))]
theorem ok_t4_0_31_3 : ckA (lv fns tC 60) 31 t4_0_31_3 = true := by decide +kernel
noncomputable def t4_0_25_0 : List (St × PyData) := [([.val (.list [(dI 1)]), .val (.list [(dI 1)]), .val (dI 4)], (.list [(dI 1)])),
  ([.val (.list [(dI 1)]), .val (.list [(dI 2)]), .val (dI 4)], (.list [(dI 2)])),
  ([.val (.list [(dI 2)]), .val (.list [(dI 1)]), .val (dI 4)], (.list [(dI 2)])),
  ([.val (.list [(dI 1)]), .val (.list [(dI 3)]), .val (dI 4)], (.list [(dI 3)])),
  ([.val (.list [(dI 3)]), .val (.list [(dI 1)]), .val (dI 4)], (.list [(dI 3)])),
  ([.val (.list [(dI 1)]), .val (.list [(dI 5)]), .val (dI 4)], (.list [(dI 5)])),
  ([.val (.list [(dI 2)]), .val (.list [(dI 2)]), .val (dI 4)], (.list [(dI 4)])),
  ([.val (.list [(dI 1)]), .val (.list [(dI 4)]), .val (dI 4)], (.list [(dI 4)]))]
theorem ok_t4_0_25_0 : ckA (lv fns tC 60) 25 t4_0_25_0 = true := by decide +kernel
noncomputable def t4_0_25_1 : List (St × PyData) := [([.val (.list [(dI 2)]), .val (.list [(dI 3)]), .val (dI 4)], (.list [(dI 6)])),
  ([.val (.list [(dI 5)]), .val (.list [(dI 1)]), .val (dI 4)], (.list [(dI 5)])),
  ([.val (.list [(dI 4)]), .val (.list [(dI 2)]), .val (dI 4)], (.list [(dI 8)])),
  ([.val (.list [(dI 6)]), .val (.list [(dI 1)]), .val (dI 4)], (.list [(dI 6)])),
  ([.val (.list [(dI 1)]), .val (.list [(dI 0), (dI 1)]), .val (dI 4)], (.list [(dI 0), (dI 1)])),
  ([.val (.list [(dI 2)]), .val (.list [(dI 5)]), .val (dI 4)], (.list [(dI 10)])),
  ([.val (.list [(dI 0), (dI 1)]), .val (.list [(dI 1)]), .val (dI 4)], (.list [(dI 0), (dI 1)])),
  ([.val (.list [(dI 5)]), .val (.list [(dI 5)]), .val (dI 4)], (.list [(dI 9), (dI 1)]))]
theorem ok_t4_0_25_1 : ckA (lv fns tC 60) 25 t4_0_25_1 = true := by decide +kernel
noncomputable def t4_0_25_2 : List (St × PyData) := [([.val (.list [(dI 10)]), .val (.list [(dI 2)]), .val (dI 4)], (.list [(dI 4), (dI 1)])),
  ([.val (.list []), .val (.list [(dI 1)]), .val (dI 4)], (.list [])),
  ([.val (.list [(dI 3)]), .val (.list [(dI 3)]), .val (dI 4)], (.list [(dI 9)])),
  ([.val (.list [(dI 5)]), .val (.list [(dI 2)]), .val (dI 4)], (.list [(dI 10)])),
  ([.val (.list []), .val (.list [(dI 6)]), .val (dI 4)], (.list [])),
  ([.val (.list [(dI 6)]), .val (.list [(dI 5)]), .val (dI 4)], (.list [(dI 14), (dI 1)]))]
theorem ok_t4_0_25_2 : ckA (lv fns tC 60) 25 t4_0_25_2 = true := by decide +kernel
noncomputable def t4_0_3_0 : List (St × PyData) := [([.val (.list []), .val (.list [(dI 1)]), .val (dI 4)], (.list [(dI 1)])),
  ([.val (.list [(dI 1)]), .val (.list []), .val (dI 4)], (.list [(dI 1)])),
  ([.val (.list [(dI 1)]), .val (.list [(dI 1)]), .val (dI 4)], (.list [(dI 2)])),
  ([.val (.list [(dI 2)]), .val (.list []), .val (dI 4)], (.list [(dI 2)])),
  ([.val (.list []), .val (.list [(dI 2)]), .val (dI 4)], (.list [(dI 2)])),
  ([.val (.list [(dI 2)]), .val (.list [(dI 2)]), .val (dI 4)], (.list [(dI 4)])),
  ([.val (.list [(dI 4)]), .val (.list [(dI 1)]), .val (dI 4)], (.list [(dI 5)])),
  ([.val (.list [(dI 5)]), .val (.list []), .val (dI 4)], (.list [(dI 5)]))]
theorem ok_t4_0_3_0 : ckA (lv fns tC 60) 3 t4_0_3_0 = true := by decide +kernel
noncomputable def t4_0_3_1 : List (St × PyData) := [([.val (.list []), .val (.list [(dI 5)]), .val (dI 4)], (.list [(dI 5)])),
  ([.val (.list [(dI 5)]), .val (.list [(dI 5)]), .val (dI 4)], (.list [(dI 10)])),
  ([.val (.list [(dI 10)]), .val (.list [(dI 4)]), .val (dI 4)], (.list [(dI 14)])),
  ([.val (.list [(dI 14)]), .val (.list [(dI 2)]), .val (dI 4)], (.list [(dI 0), (dI 1)])),
  ([.val (.list [(dI 0), (dI 1)]), .val (.list []), .val (dI 4)], (.list [(dI 0), (dI 1)])),
  ([.val (.list []), .val (.list [(dI 0), (dI 1)]), .val (dI 4)], (.list [(dI 0), (dI 1)])),
  ([.val (.list [(dI 0), (dI 1)]), .val (.list [(dI 0), (dI 1)]), .val (dI 4)], (.list [(dI 0), (dI 2)])),
  ([.val (.list [(dI 0), (dI 2)]), .val (.list [(dI 14)]), .val (dI 4)], (.list [(dI 14), (dI 2)]))]
theorem ok_t4_0_3_1 : ckA (lv fns tC 60) 3 t4_0_3_1 = true := by decide +kernel
noncomputable def t4_0_3_2 : List (St × PyData) := [([.val (.list [(dI 14), (dI 2)]), .val (.list [(dI 10)]), .val (dI 4)], (.list [(dI 8), (dI 3)])),
  ([.val (.list [(dI 8), (dI 3)]), .val (.list [(dI 5)]), .val (dI 4)], (.list [(dI 13), (dI 3)])),
  ([.val (.list [(dI 13), (dI 3)]), .val (.list []), .val (dI 4)], (.list [(dI 13), (dI 3)])),
  ([.val (.list [(dI 1)]), .val (.list [(dI 2)]), .val (dI 4)], (.list [(dI 3)])),
  ([.val (.list [(dI 3)]), .val (.list [(dI 1)]), .val (dI 4)], (.list [(dI 4)])),
  ([.val (.list [(dI 2)]), .val (.list [(dI 3)]), .val (dI 4)], (.list [(dI 5)])),
  ([.val (.list [(dI 5)]), .val (.list [(dI 3)]), .val (dI 4)], (.list [(dI 8)])),
  ([.val (.list [(dI 8)]), .val (.list [(dI 2)]), .val (dI 4)], (.list [(dI 10)]))]
theorem ok_t4_0_3_2 : ckA (lv fns tC 60) 3 t4_0_3_2 = true := by decide +kernel
noncomputable def t4_0_3_3 : List (St × PyData) := [([.val (.list [(dI 5)]), .val (.list [(dI 8)]), .val (dI 4)], (.list [(dI 13)])),
  ([.val (.list [(dI 13)]), .val (.list [(dI 6)]), .val (dI 4)], (.list [(dI 3), (dI 1)])),
  ([.val (.list [(dI 3), (dI 1)]), .val (.list [(dI 8)]), .val (dI 4)], (.list [(dI 11), (dI 1)])),
  ([.val (.list [(dI 11), (dI 1)]), .val (.list [(dI 5)]), .val (dI 4)], (.list [(dI 0), (dI 2)])),
  ([.val (.list [(dI 0), (dI 1)]), .val (.list [(dI 9), (dI 1)]), .val (dI 4)], (.list [(dI 9), (dI 2)])),
  ([.val (.list [(dI 9), (dI 2)]), .val (.list [(dI 4), (dI 1)]), .val (dI 4)], (.list [(dI 13), (dI 3)])),
  ([.val (.list [(dI 13), (dI 3)]), .val (.list [(dI 4), (dI 1)]), .val (dI 4)], (.list [(dI 1), (dI 5)])),
  ([.val (.list [(dI 1), (dI 5)]), .val (.list [(dI 9), (dI 1)]), .val (dI 4)], (.list [(dI 10), (dI 6)]))]
theorem ok_t4_0_3_3 : ckA (lv fns tC 60) 3 t4_0_3_3 = true := by decide +kernel
noncomputable def t4_0_3_4 : List (St × PyData) := [([.val (.list [(dI 10), (dI 6)]), .val (.list [(dI 0), (dI 1)]), .val (dI 4)], (.list [(dI 10), (dI 7)])),
  ([.val (.list [(dI 13), (dI 3)]), .val (.list [(dI 13), (dI 3)]), .val (dI 4)], (.list [(dI 10), (dI 7)]))]
theorem ok_t4_0_3_4 : ckA (lv fns tC 60) 3 t4_0_3_4 = true := by decide +kernel
noncomputable def t4_0 : Tab := (31, t4_0_31_0) :: (31, t4_0_31_1) :: (31, t4_0_31_2) :: (31, t4_0_31_3) :: (25, t4_0_25_0) :: (25, t4_0_25_1) :: (25, t4_0_25_2) :: (3, t4_0_3_0) :: (3, t4_0_3_1) :: (3, t4_0_3_2) :: (3, t4_0_3_3) :: (3, t4_0_3_4) :: tC
theorem t4_0_ok : TabOk fns t4_0 120 := TabOk.cons (tC_ok.one ok_t4_0_31_0) (TabOk.cons (tC_ok.one ok_t4_0_31_1) (TabOk.cons (tC_ok.one ok_t4_0_31_2) (TabOk.cons (tC_ok.one ok_t4_0_31_3) (TabOk.cons (tC_ok.one ok_t4_0_25_0) (TabOk.cons (tC_ok.one ok_t4_0_25_1) (TabOk.cons (tC_ok.one ok_t4_0_25_2) (TabOk.cons (tC_ok.one ok_t4_0_3_0) (TabOk.cons (tC_ok.one ok_t4_0_3_1) (TabOk.cons (tC_ok.one ok_t4_0_3_2) (TabOk.cons (tC_ok.one ok_t4_0_3_3) (TabOk.cons (tC_ok.one ok_t4_0_3_4) (tC_ok.more (by decide)))))))))))))
noncomputable def t4_1_12_0 : List (St × PyData) := [([.val (.list [(dI 1)]), .val (.list [(dI 1)]), .val (dI 4), .fn 31], (.list [(dI 1)])),
  ([.val (.list [(dI 1)]), .val (.list [(dI 2)]), .val (dI 4), .fn 31], (.list [(dI 1)])),
  ([.val (.list [(dI 3)]), .val (.list [(dI 1)]), .val (dI 4), .fn 31], (.list [(dI 1)])),
  ([.val (.list [(dI 3)]), .val (.list [(dI 2)]), .val (dI 4), .fn 31], (.list [(dI 1)])),
  ([.val (.list [(dI 1)]), .val (.list [(dI 3)]), .val (dI 4), .fn 31], (.list [(dI 1)])),
  ([.val (.list [(dI 4)]), .val (.list [(dI 1)]), .val (dI 4), .fn 31], (.list [(dI 1)])),
  ([.val (.list [(dI 4)]), .val (.list [(dI 2)]), .val (dI 4), .fn 31], (.list [(dI 2)])),
  ([.val (.list [(dI 6)]), .val (.list [(dI 1)]), .val (dI 4), .fn 31], (.list [(dI 1)]))]
theorem ok_t4_1_12_0 : ckA (lv fns t4_0 60) 12 t4_1_12_0 = true := by decide +kernel
noncomputable def t4_1_12_1 : List (St × PyData) := [([.val (.list [(dI 6)]), .val (.list [(dI 6)]), .val (dI 4), .fn 31], (.list [(dI 6)])),
  ([.val (.list [(dI 1)]), .val (.list [(dI 4)]), .val (dI 4), .fn 31], (.list [(dI 1)])),
  ([.val (.list [(dI 5)]), .val (.list [(dI 1)]), .val (dI 4), .fn 31], (.list [(dI 1)])),
  ([.val (.list [(dI 5)]), .val (.list [(dI 2)]), .val (dI 4), .fn 31], (.list [(dI 1)])),
  ([.val (.list [(dI 10)]), .val (.list [(dI 1)]), .val (dI 4), .fn 31], (.list [(dI 1)])),
  ([.val (.list [(dI 10)]), .val (.list [(dI 6)]), .val (dI 4), .fn 31], (.list [(dI 2)])),
  ([.val (.list [(dI 2)]), .val (.list [(dI 3)]), .val (dI 4), .fn 31], (.list [(dI 1)])),
  ([.val (.list [(dI 1)]), .val (.list [(dI 5)]), .val (dI 4), .fn 31], (.list [(dI 1)]))]
theorem ok_t4_1_12_1 : ckA (lv fns t4_0 60) 12 t4_1_12_1 = true := by decide +kernel
noncomputable def t4_1_12_2 : List (St × PyData) := [([.val (.list [(dI 1)]), .val (.list [(dI 6)]), .val (dI 4), .fn 31], (.list [(dI 1)])),
  ([.val (.list [(dI 12)]), .val (.list [(dI 2)]), .val (dI 4), .fn 31], (.list [(dI 2)])),
  ([.val (.list [(dI 0), (dI 15)]), .val (.list [(dI 4)]), .val (dI 4), .fn 31], (.list [(dI 4)])),
  ([.val (.list [(dI 12), (dI 3)]), .val (.list [(dI 14), (dI 1)]), .val (dI 4), .fn 31], (.list [(dI 14), (dI 1)]))]
theorem ok_t4_1_12_2 : ckA (lv fns t4_0 60) 12 t4_1_12_2 = true := by decide +kernel
noncomputable def t4_1_23_0 : List (St × PyData) := [([.val (dI 1), .val (dI 0), .val (dI 4), .fn 25], (.list [(dI 1)])),
  ([.val (dI 1), .val (dI 1), .val (dI 4), .fn 25], (.list [(dI 1)])),
  ([.val (dI 2), .val (dI 0), .val (dI 4), .fn 25], (.list [(dI 1)])),
  ([.val (dI 2), .val (dI 1), .val (dI 4), .fn 25], (.list [(dI 2)])),
  ([.val (dI 2), .val (dI 2), .val (dI 4), .fn 25], (.list [(dI 1)])),
  ([.val (dI 3), .val (dI 0), .val (dI 4), .fn 25], (.list [(dI 1)])),
  ([.val (dI 3), .val (dI 1), .val (dI 4), .fn 25], (.list [(dI 3)])),
  ([.val (dI 3), .val (dI 2), .val (dI 4), .fn 25], (.list [(dI 3)]))]
theorem ok_t4_1_23_0 : ckA (lv fns t4_0 60) 23 t4_1_23_0 = true := by decide +kernel
noncomputable def t4_1_23_1 : List (St × PyData) := [([.val (dI 3), .val (dI 3), .val (dI 4), .fn 25], (.list [(dI 1)])),
  ([.val (dI 4), .val (dI 0), .val (dI 4), .fn 25], (.list [(dI 1)])),
  ([.val (dI 4), .val (dI 1), .val (dI 4), .fn 25], (.list [(dI 4)])),
  ([.val (dI 4), .val (dI 2), .val (dI 4), .fn 25], (.list [(dI 6)])),
  ([.val (dI 4), .val (dI 3), .val (dI 4), .fn 25], (.list [(dI 4)])),
  ([.val (dI 4), .val (dI 4), .val (dI 4), .fn 25], (.list [(dI 1)])),
  ([.val (dI 5), .val (dI 0), .val (dI 4), .fn 25], (.list [(dI 1)])),
  ([.val (dI 5), .val (dI 1), .val (dI 4), .fn 25], (.list [(dI 5)]))]
theorem ok_t4_1_23_1 : ckA (lv fns t4_0 60) 23 t4_1_23_1 = true := by decide +kernel
noncomputable def t4_1_23_2 : List (St × PyData) := [([.val (dI 5), .val (dI 2), .val (dI 4), .fn 25], (.list [(dI 10)])),
  ([.val (dI 5), .val (dI 3), .val (dI 4), .fn 25], (.list [(dI 10)])),
  ([.val (dI 5), .val (dI 4), .val (dI 4), .fn 25], (.list [(dI 5)])),
  ([.val (dI 5), .val (dI 5), .val (dI 4), .fn 25], (.list [(dI 1)]))]
theorem ok_t4_1_23_2 : ckA (lv fns t4_0 60) 23 t4_1_23_2 = true := by decide +kernel
noncomputable def t4_1 : Tab := (12, t4_1_12_0) :: (12, t4_1_12_1) :: (12, t4_1_12_2) :: (23, t4_1_23_0) :: (23, t4_1_23_1) :: (23, t4_1_23_2) :: t4_0
theorem t4_1_ok : TabOk fns t4_1 180 := TabOk.cons (t4_0_ok.one ok_t4_1_12_0) (TabOk.cons (t4_0_ok.one ok_t4_1_12_1) (TabOk.cons (t4_0_ok.one ok_t4_1_12_2) (TabOk.cons (t4_0_ok.one ok_t4_1_23_0) (TabOk.cons (t4_0_ok.one ok_t4_1_23_1) (TabOk.cons (t4_0_ok.one ok_t4_1_23_2) (t4_0_ok.more (by decide)))))))
noncomputable def t4_2_15_0 : List (St × PyData) := [([.val (.tuple [dF, (.list [(dI 1)])]), .val (.tuple [dF, (.list [(dI 1)])]), .val (dI 4), .fn 31], (.tuple [(.tuple [dF, (.list [(dI 1)])]), (.list [(dI 1)])])),
  ([.val (.tuple [dF, (.list [])]), .val (.tuple [dF, (.list [(dI 1)])]), .val (dI 4), .fn 31], (.tuple [(.tuple [dF, (.list [])]), (.list [(dI 1)])])),
  ([.val (.tuple [dT, (.list [(dI 1)])]), .val (.tuple [dF, (.list [(dI 2)])]), .val (dI 4), .fn 31], (.tuple [(.tuple [dT, (.list [(dI 1)])]), (.list [(dI 2)])])),
  ([.val (.tuple [dF, (.list [(dI 3)])]), .val (.tuple [dF, (.list [(dI 1)])]), .val (dI 4), .fn 31], (.tuple [(.tuple [dF, (.list [(dI 3)])]), (.list [(dI 1)])])),
  ([.val (.tuple [dT, (.list [(dI 1)])]), .val (.tuple [dF, (.list [(dI 3)])]), .val (dI 4), .fn 31], (.tuple [(.tuple [dT, (.list [(dI 1)])]), (.list [(dI 3)])])),
  ([.val (.tuple [dF, (.list [(dI 4)])]), .val (.tuple [dF, (.list [(dI 1)])]), .val (dI 4), .fn 31], (.tuple [(.tuple [dF, (.list [(dI 4)])]), (.list [(dI 1)])])),
  ([.val (.tuple [dF, (.list [(dI 6)])]), .val (.tuple [dF, (.list [(dI 1)])]), .val (dI 4), .fn 31], (.tuple [(.tuple [dF, (.list [(dI 6)])]), (.list [(dI 1)])])),
  ([.val (.tuple [dT, (.list [(dI 1)])]), .val (.tuple [dF, (.list [(dI 4)])]), .val (dI 4), .fn 31], (.tuple [(.tuple [dT, (.list [(dI 1)])]), (.list [(dI 4)])]))]
theorem ok_t4_2_15_0 : ckA (lv fns t4_1 60) 15 t4_2_15_0 = true := by decide +kernel
noncomputable def t4_2_15_1 : List (St × PyData) := [([.val (.tuple [dF, (.list [(dI 5)])]), .val (.tuple [dF, (.list [(dI 1)])]), .val (dI 4), .fn 31], (.tuple [(.tuple [dF, (.list [(dI 5)])]), (.list [(dI 1)])])),
  ([.val (.tuple [dF, (.list [(dI 10)])]), .val (.tuple [dF, (.list [(dI 1)])]), .val (dI 4), .fn 31], (.tuple [(.tuple [dF, (.list [(dI 10)])]), (.list [(dI 1)])])),
  ([.val (.tuple [dT, (.list [(dI 1)])]), .val (.tuple [dF, (.list [(dI 5)])]), .val (dI 4), .fn 31], (.tuple [(.tuple [dT, (.list [(dI 1)])]), (.list [(dI 5)])])),
  ([.val (.tuple [dF, (.list [(dI 12)])]), .val (.tuple [dF, (.list [(dI 2)])]), .val (dI 4), .fn 31], (.tuple [(.tuple [dF, (.list [(dI 6)])]), (.list [(dI 1)])])),
  ([.val (.tuple [dF, (.list [(dI 0), (dI 15)])]), .val (.tuple [dF, (.list [(dI 4)])]), .val (dI 4), .fn 31], (.tuple [(.tuple [dF, (.list [(dI 12), (dI 3)])]), (.list [(dI 1)])]))]
theorem ok_t4_2_15_1 : ckA (lv fns t4_1 60) 15 t4_2_15_1 = true := by decide +kernel
noncomputable def t4_2_16_0 : List (St × PyData) := [([.val (.tuple [(.tuple [dF, (.list [])]), (.list [(dI 1)])]), .val (.tuple [(.tuple [dF, (.list [(dI 1)])]), (.list [(dI 1)])]), .val (dI 4), .fn 25, .fn 31], (.tuple [(.tuple [dF, (.list [(dI 1)])]), (.list [(dI 1)])])),
  ([.val (.tuple [(.tuple [dF, (.list [(dI 1)])]), (.list [(dI 1)])]), .val (.tuple [(.tuple [dT, (.list [(dI 3)])]), (.list [(dI 2)])]), .val (dI 4), .fn 25, .fn 31], (.tuple [(.tuple [dT, (.list [(dI 1)])]), (.list [(dI 2)])])),
  ([.val (.tuple [(.tuple [dF, (.list [(dI 1)])]), (.list [(dI 1)])]), .val (.tuple [(.tuple [dT, (.list [(dI 2)])]), (.list [(dI 1)])]), .val (dI 4), .fn 25, .fn 31], (.tuple [(.tuple [dT, (.list [(dI 1)])]), (.list [(dI 1)])])),
  ([.val (.tuple [(.tuple [dT, (.list [(dI 1)])]), (.list [(dI 1)])]), .val (.tuple [(.tuple [dF, (.list [(dI 1)])]), (.list [(dI 1)])]), .val (dI 4), .fn 25, .fn 31], (.tuple [(.tuple [dF, (.list [])]), (.list [(dI 1)])])),
  ([.val (.tuple [(.tuple [dF, (.list [(dI 1)])]), (.list [(dI 1)])]), .val (.tuple [(.tuple [dT, (.list [(dI 5)])]), (.list [(dI 2)])]), .val (dI 4), .fn 25, .fn 31], (.tuple [(.tuple [dT, (.list [(dI 3)])]), (.list [(dI 2)])])),
  ([.val (.tuple [(.tuple [dT, (.list [(dI 3)])]), (.list [(dI 2)])]), .val (.tuple [(.tuple [dF, (.list [(dI 5)])]), (.list [(dI 3)])]), .val (dI 4), .fn 25, .fn 31], (.tuple [(.tuple [dF, (.list [(dI 1)])]), (.list [(dI 6)])])),
  ([.val (.tuple [(.tuple [dF, (.list [(dI 1)])]), (.list [(dI 6)])]), .val (.tuple [(.tuple [dF, (.list [])]), (.list [(dI 1)])]), .val (dI 4), .fn 25, .fn 31], (.tuple [(.tuple [dF, (.list [(dI 1)])]), (.list [(dI 6)])]))]
theorem ok_t4_2_16_0 : ckA (lv fns t4_1 60) 16 t4_2_16_0 = true := by decide +kernel
noncomputable def t4_2_35_0 : List (St × PyData) := [([.val (.tuple [(.tuple [dF, (.list [(dI 1)])]), (.list [(dI 1)])]), .val (.tuple [(.tuple [dF, (.list [(dI 1)])]), (.list [(dI 1)])]), .val (dI 4)], (.tuple [(.tuple [dF, (.list [(dI 1)])]), (.list [(dI 1)])])),
  ([.val (.tuple [(.tuple [dF, (.list [(dI 1)])]), (.list [(dI 1)])]), .val (.tuple [(.tuple [dT, (.list [(dI 1)])]), (.list [(dI 2)])]), .val (dI 4)], (.tuple [(.tuple [dT, (.list [(dI 1)])]), (.list [(dI 2)])])),
  ([.val (.tuple [(.tuple [dF, (.list [(dI 3)])]), (.list [(dI 1)])]), .val (.tuple [(.tuple [dT, (.list [(dI 1)])]), (.list [(dI 2)])]), .val (dI 4)], (.tuple [(.tuple [dT, (.list [(dI 3)])]), (.list [(dI 2)])])),
  ([.val (.tuple [(.tuple [dT, (.list [(dI 1)])]), (.list [(dI 2)])]), .val (.tuple [(.tuple [dT, (.list [(dI 1)])]), (.list [(dI 3)])]), .val (dI 4)], (.tuple [(.tuple [dF, (.list [(dI 1)])]), (.list [(dI 6)])])),
  ([.val (.tuple [(.tuple [dF, (.list [(dI 4)])]), (.list [(dI 1)])]), .val (.tuple [(.tuple [dT, (.list [(dI 1)])]), (.list [(dI 2)])]), .val (dI 4)], (.tuple [(.tuple [dT, (.list [(dI 2)])]), (.list [(dI 1)])])),
  ([.val (.tuple [(.tuple [dF, (.list [(dI 6)])]), (.list [(dI 1)])]), .val (.tuple [(.tuple [dF, (.list [(dI 1)])]), (.list [(dI 6)])]), .val (dI 4)], (.tuple [(.tuple [dF, (.list [(dI 1)])]), (.list [(dI 1)])])),
  ([.val (.tuple [(.tuple [dF, (.list [])]), (.list [(dI 1)])]), .val (.tuple [(.tuple [dT, (.list [(dI 1)])]), (.list [(dI 4)])]), .val (dI 4)], (.tuple [(.tuple [dF, (.list [])]), (.list [(dI 1)])])),
  ([.val (.tuple [(.tuple [dF, (.list [(dI 5)])]), (.list [(dI 1)])]), .val (.tuple [(.tuple [dT, (.list [(dI 1)])]), (.list [(dI 2)])]), .val (dI 4)], (.tuple [(.tuple [dT, (.list [(dI 5)])]), (.list [(dI 2)])]))]
theorem ok_t4_2_35_0 : ckA (lv fns t4_1 60) 35 t4_2_35_0 = true := by decide +kernel
noncomputable def t4_2_35_1 : List (St × PyData) := [([.val (.tuple [(.tuple [dF, (.list [(dI 10)])]), (.list [(dI 1)])]), .val (.tuple [(.tuple [dF, (.list [(dI 1)])]), (.list [(dI 6)])]), .val (dI 4)], (.tuple [(.tuple [dF, (.list [(dI 5)])]), (.list [(dI 3)])])),
  ([.val (.tuple [(.tuple [dF, (.list [(dI 10)])]), (.list [(dI 1)])]), .val (.tuple [(.tuple [dF, (.list [])]), (.list [(dI 1)])]), .val (dI 4)], (.tuple [(.tuple [dF, (.list [])]), (.list [(dI 1)])])),
  ([.val (.tuple [(.tuple [dF, (.list [(dI 1)])]), (.list [(dI 6)])]), .val (.tuple [(.tuple [dT, (.list [(dI 1)])]), (.list [(dI 5)])]), .val (dI 4)], (.tuple [(.tuple [dT, (.list [(dI 1)])]), (.list [(dI 14), (dI 1)])])),
  ([.val (.tuple [(.tuple [dF, (.list [(dI 1)])]), (.list [(dI 6)])]), .val (.tuple [(.tuple [dF, (.list [(dI 6)])]), (.list [(dI 1)])]), .val (dI 4)], (.tuple [(.tuple [dF, (.list [(dI 1)])]), (.list [(dI 1)])])),
  ([.val (.tuple [(.tuple [dT, (.list [(dI 1)])]), (.list [(dI 14), (dI 1)])]), .val (.tuple [(.tuple [dF, (.list [(dI 12), (dI 3)])]), (.list [(dI 1)])]), .val (dI 4)], (.tuple [(.tuple [dT, (.list [(dI 2)])]), (.list [(dI 1)])]))]
theorem ok_t4_2_35_1 : ckA (lv fns t4_1 60) 35 t4_2_35_1 = true := by decide +kernel
noncomputable def t4_2_24_0 : List (St × PyData) := [([.val (.list [(.tuple [(.list [(dI 1)]), (.list [(dI 1)])]), (.tuple [(.list [(dI 1)]), (.list [(dI 1)])])]), .val (dI 4), .fn 25], (.list [(dI 2)])),
  ([.val (.list [(.tuple [(.list [(dI 1)]), (.list [(dI 1)])]), (.tuple [(.list [(dI 2)]), (.list [(dI 1)])]), (.tuple [(.list [(dI 1)]), (.list [(dI 1)])])]), .val (dI 4), .fn 25], (.list [(dI 4)])),
  ([.val (.list [(.tuple [(.list [(dI 1)]), (.list [(dI 2)])]), (.tuple [(.list [(dI 3)]), (.list [(dI 1)])]), (.tuple [(.list [(dI 3)]), (.list [(dI 1)])]), (.tuple [(.list [(dI 1)]), (.list [(dI 2)])])]), .val (dI 4), .fn 25], (.list [(dI 10)])),
  ([.val (.list [(.tuple [(.list [(dI 1)]), (.list [(dI 5)])]), (.tuple [(.list [(dI 4)]), (.list [(dI 2)])]), (.tuple [(.list [(dI 6)]), (.list [(dI 1)])]), (.tuple [(.list [(dI 4)]), (.list [(dI 2)])]), (.tuple [(.list [(dI 1)]), (.list [(dI 5)])])]), .val (dI 4), .fn 25], (.list [(dI 0), (dI 2)])),
  ([.val (.list [(.tuple [(.list [(dI 1)]), (.list [(dI 0), (dI 1)])]), (.tuple [(.list [(dI 5)]), (.list [(dI 5)])]), (.tuple [(.list [(dI 10)]), (.list [(dI 2)])]), (.tuple [(.list [(dI 10)]), (.list [(dI 2)])]), (.tuple [(.list [(dI 5)]), (.list [(dI 5)])]), (.tuple [(.list [(dI 1)]), (.list [(dI 0), (dI 1)])])]), .val (dI 4), .fn 25], (.list [(dI 10), (dI 7)]))]
theorem ok_t4_2_24_0 : ckA (lv fns t4_1 60) 24 t4_2_24_0 = true := by decide +kernel
noncomputable def t4_2 : Tab := (15, t4_2_15_0) :: (15, t4_2_15_1) :: (16, t4_2_16_0) :: (35, t4_2_35_0) :: (35, t4_2_35_1) :: (24, t4_2_24_0) :: t4_1
theorem t4_2_ok : TabOk fns t4_2 240 := TabOk.cons (t4_1_ok.one ok_t4_2_15_0) (TabOk.cons (t4_1_ok.one ok_t4_2_15_1) (TabOk.cons (t4_1_ok.one ok_t4_2_16_0) (TabOk.cons (t4_1_ok.one ok_t4_2_35_0) (TabOk.cons (t4_1_ok.one ok_t4_2_35_1) (TabOk.cons (t4_1_ok.one ok_t4_2_24_0) (t4_1_ok.more (by decide)))))))
noncomputable def t4_3_36_0 : List (St × PyData) := [([.val (dI 1), .val (dI 1), .val (dI 4)], (.tuple [(.tuple [dF, (.list [(dI 1)])]), (.list [(dI 1)])])),
  ([.val (dI 0), .val (dI 1), .val (dI 4)], (.tuple [(.tuple [dF, (.list [])]), (.list [(dI 1)])])),
  ([.val (dJ 0), .val (dI 2), .val (dI 4)], (.tuple [(.tuple [dT, (.list [(dI 1)])]), (.list [(dI 2)])])),
  ([.val (dJ 0), .val (dI 3), .val (dI 4)], (.tuple [(.tuple [dT, (.list [(dI 1)])]), (.list [(dI 3)])])),
  ([.val (dJ 0), .val (dI 4), .val (dI 4)], (.tuple [(.tuple [dT, (.list [(dI 1)])]), (.list [(dI 4)])])),
  ([.val (dJ 0), .val (dI 5), .val (dI 4)], (.tuple [(.tuple [dT, (.list [(dI 1)])]), (.list [(dI 5)])])),
  ([.val (dI 12), .val (dI 2), .val (dI 4)], (.tuple [(.tuple [dF, (.list [(dI 6)])]), (.list [(dI 1)])])),
  ([.val (dI 240), .val (dI 4), .val (dI 4)], (.tuple [(.tuple [dF, (.list [(dI 12), (dI 3)])]), (.list [(dI 1)])]))]
theorem ok_t4_3_36_0 : ckA (lv fns t4_2 60) 36 t4_3_36_0 = true := by decide +kernel
noncomputable def t4_3_37_0 : List (St × PyData) := [([.val (dI 5), .val (dI 4)], (.list [(.tuple [(.tuple [dF, (.list [(dI 1)])]), (.list [(dI 1)])]), (.tuple [(.tuple [dT, (.list [(dI 1)])]), (.list [(dI 2)])]), (.tuple [(.tuple [dF, (.list [(dI 1)])]), (.list [(dI 6)])]), (.tuple [(.tuple [dF, (.list [])]), (.list [(dI 1)])]), (.tuple [(.tuple [dT, (.list [(dI 1)])]), (.list [(dI 14), (dI 1)])])]))]
theorem ok_t4_3_37_0 : ckA (lv fns t4_2 60) 37 t4_3_37_0 = true := by decide +kernel
noncomputable def t4_3 : Tab := (36, t4_3_36_0) :: (37, t4_3_37_0) :: t4_2
theorem t4_3_ok : TabOk fns t4_3 300 := TabOk.cons (t4_2_ok.one ok_t4_3_36_0) (TabOk.cons (t4_2_ok.one ok_t4_3_37_0) (t4_2_ok.more (by decide)))
theorem law_4_2 : isT ((lv fns t4_3 60).S lawRest (sg0 4 2)) = true := by decide +kernel
theorem law_4_3 : isT ((lv fns t4_3 60).S lawRest (sg0 4 3)) = true := by decide +kernel
theorem law_4_4 : isT ((lv fns t4_3 60).S lawRest (sg0 4 4)) = true := by decide +kernel
theorem law_4_5 : isT ((lv fns t4_3 60).S lawRest (sg0 4 5)) = true := by decide +kernel
theorem hl_4 : ∀ b, 2 ≤ b → b ≤ 5 → ∃ T K σ, K ≤ 300 ∧ TabOk fns T K ∧ (lv fns T 60).S lawRest (sg0 4 b) = some (.ret (.bool true) σ) := by
  intro b h1 h2
  have hb : b = 2 ∨ b = 3 ∨ b = 4 ∨ b = 5 := by omega
  rcases hb with rfl | rfl | rfl | rfl
  · exact let ⟨σ, e⟩ := isT_snd law_4_2; ⟨_, _, σ, by decide, t4_3_ok, e⟩
  · exact let ⟨σ, e⟩ := isT_snd law_4_3; ⟨_, _, σ, by decide, t4_3_ok, e⟩
  · exact let ⟨σ, e⟩ := isT_snd law_4_4; ⟨_, _, σ, by decide, t4_3_ok, e⟩
  · exact let ⟨σ, e⟩ := isT_snd law_4_5; ⟨_, _, σ, by decide, t4_3_ok, e⟩
end Mine
end
section
open PySem PySem.W PySem.Calls PyProof.Rows
namespace Mine
noncomputable def t5_0_31_0 : List (St × PyData) := [([.val (.list [(dI 1)]), .val (.list [(dI 1)]), .val (dI 5)], (.tuple [(.list [(dI 1)]), (.list [])])),
  ([.val (.list [(dI 1)]), .val (.list [(dI 2)]), .val (dI 5)], (.tuple [(.list []), (.list [(dI 1)])])),
  ([.val (.list [(dI 2)]), .val (.list [(dI 1)]), .val (dI 5)], (.tuple [(.list [(dI 2)]), (.list [])])),
  ([.val (.list [(dI 3)]), .val (.list [(dI 1)]), .val (dI 5)], (.tuple [(.list [(dI 3)]), (.list [])])),
  ([.val (.list [(dI 3)]), .val (.list [(dI 2)]), .val (dI 5)], (.tuple [(.list [(dI 1)]), (.list [(dI 1)])])),
  ([.val (.list [(dI 1)]), .val (.list [(dI 3)]), .val (dI 5)], (.tuple [(.list []), (.list [(dI 1)])])),
  ([.val (.list [(dI 4)]), .val (.list [(dI 1)]), .val (dI 5)], (.tuple [(.list [(dI 4)]), (.list [])])),
  ([.val (.list [(dI 4)]), .val (.list [(dI 2)]), .val (dI 5)], (.tuple [(.list [(dI 2)]), (.list [])]))]
theorem ok_t5_0_31_0 : ckA (lv fns tC 60) 31 t5_0_31_0 = true := by decide +kernel
noncomputable def t5_0_31_1 : List (St × PyData) := [([.val (.list [(dI 2)]), .val (.list [(dI 2)]), .val (dI 5)], (.tuple [(.list [(dI 1)]), (.list [])])),
  ([.val (.list [(dI 6)]), .val (.list [(dI 1)]), .val (dI 5)], (.tuple [(.list [(dI 6)]), (.list [])])),
  ([.val (.list [(dI 6)]), .val (.list [(dI 6)]), .val (dI 5)], (.tuple [(.list [(dI 1)]), (.list [])])),
  ([.val (.list [(dI 1)]), .val (.list [(dI 4)]), .val (dI 5)], (.tuple [(.list []), (.list [(dI 1)])])),
  ([.val (.list [(dI 5)]), .val (.list [(dI 1)]), .val (dI 5)], (.tuple [(.list [(dI 5)]), (.list [])])),
  ([.val (.list [(dI 5)]), .val (.list [(dI 2)]), .val (dI 5)], (.tuple [(.list [(dI 2)]), (.list [(dI 1)])])),
  ([.val (.list [(dI 10)]), .val (.list [(dI 1)]), .val (dI 5)], (.tuple [(.list [(dI 10)]), (.list [])])),
  ([.val (.list [(dI 10)]), .val (.list [(dI 6)]), .val (dI 5)], (.tuple [(.list [(dI 1)]), (.list [(dI 4)])]))]
theorem ok_t5_0_31_1 : ckA (lv fns tC 60) 31 t5_0_31_1 = true := by decide +kernel
noncomputable def t5_0_31_2 : List (St × PyData) := [([.val (.list [(dI 6)]), .val (.list [(dI 4)]), .val (dI 5)], (.tuple [(.list [(dI 1)]), (.list [(dI 2)])])),
  ([.val (.list [(dI 10)]), .val (.list [(dI 2)]), .val (dI 5)], (.tuple [(.list [(dI 5)]), (.list [])])),
  ([.val (.list [(dI 6)]), .val (.list [(dI 2)]), .val (dI 5)], (.tuple [(.list [(dI 3)]), (.list [])])),
  ([.val (.list [(dI 2)]), .val (.list [(dI 3)]), .val (dI 5)], (.tuple [(.list []), (.list [(dI 2)])])),
  ([.val (.list [(dI 1)]), .val (.list [(dI 5)]), .val (dI 5)], (.tuple [(.list []), (.list [(dI 1)])])),
  ([.val (.list [(dI 1)]), .val (.list [(dI 6)]), .val (dI 5)], (.tuple [(.list []), (.list [(dI 1)])])),
  ([.val (.list [(dI 12)]), .val (.list [(dI 2)]), .val (dI 5)], (.tuple [(.list [(dI 6)]), (.list [])])),
  ([.val (.list [(dI 16), (dI 7)]), .val (.list [(dI 4)]), .val (dI 5)], (.tuple [(.list [(dI 28), (dI 1)]), (.list [])]))]
theorem ok_t5_0_31_2 : ckA (lv fns tC 60) 31 t5_0_31_2 = true := by decide +kernel
noncomputable def t5_0_31_3 : List (St × PyData) := [([.val (.list [(dI 4)]), .val (.list [(dI 4)]), .val (dI 5)], (.tuple [(.list [(dI 1)]), (.list [])])),
  ([.val (.list [(dI 28), (dI 1)]), .val (.list [(dI 30)]), .val (dI 5)], (.tuple [(.list [(dI 2)]), (.list [])])),
  ([.val (.list [(dI 30)]), .val (.list [(dI 30)]), .val (dI 5)], (.tuple [(.list [(dI 1)]), (.list [])]))]
theorem ok_t5_0_31_3 : ckA (lv fns tC 60) 31 t5_0_31_3 = true := by decide +kernel
noncomputable def t5_0_25_0 : List (St × PyData) := [([.val (.list [(dI 1)]), .val (.list [(dI 1)]), .val (dI 5)], (.list [(dI 1)])),
  ([.val (.list [(dI 1)]), .val (.list [(dI 2)]), .val (dI 5)], (.list [(dI 2)])),
  ([.val (.list [(dI 2)]), .val (.list [(dI 1)]), .val (dI 5)], (.list [(dI 2)])),
  ([.val (.list [(dI 1)]), .val (.list [(dI 3)]), .val (dI 5)], (.list [(dI 3)])),
  ([.val (.list [(dI 3)]), .val (.list [(dI 1)]), .val (dI 5)], (.list [(dI 3)])),
  ([.val (.list [(dI 1)]), .val (.list [(dI 5)]), .val (dI 5)], (.list [(dI 5)])),
  ([.val (.list [(dI 2)]), .val (.list [(dI 2)]), .val (dI 5)], (.list [(dI 4)])),
  ([.val (.list [(dI 1)]), .val (.list [(dI 4)]), .val (dI 5)], (.list [(dI 4)]))]
theorem ok_t5_0_25_0 : ckA (lv fns tC 60) 25 t5_0_25_0 = true := by decide +kernel
noncomputable def t5_0_25_1 : List (St × PyData) := [([.val (.list [(dI 2)]), .val (.list [(dI 3)]), .val (dI 5)], (.list [(dI 6)])),
  ([.val (.list [(dI 5)]), .val (.list [(dI 1)]), .val (dI 5)], (.list [(dI 5)])),
  ([.val (.list [(dI 4)]), .val (.list [(dI 2)]), .val (dI 5)], (.list [(dI 8)])),
  ([.val (.list [(dI 6)]), .val (.list [(dI 1)]), .val (dI 5)], (.list [(dI 6)])),
  ([.val (.list [(dI 1)]), .val (.list [(dI 16)]), .val (dI 5)], (.list [(dI 16)])),
  ([.val (.list [(dI 2)]), .val (.list [(dI 5)]), .val (dI 5)], (.list [(dI 10)])),
  ([.val (.list [(dI 16)]), .val (.list [(dI 1)]), .val (dI 5)], (.list [(dI 16)])),
  ([.val (.list [(dI 5)]), .val (.list [(dI 5)]), .val (dI 5)], (.list [(dI 25)]))]
theorem ok_t5_0_25_1 : ckA (lv fns tC 60) 25 t5_0_25_1 = true := by decide +kernel
noncomputable def t5_0_25_2 : List (St × PyData) := [([.val (.list [(dI 10)]), .val (.list [(dI 2)]), .val (dI 5)], (.list [(dI 20)])),
  ([.val (.list []), .val (.list [(dI 1)]), .val (dI 5)], (.list [])),
  ([.val (.list [(dI 3)]), .val (.list [(dI 3)]), .val (dI 5)], (.list [(dI 9)])),
  ([.val (.list [(dI 5)]), .val (.list [(dI 2)]), .val (dI 5)], (.list [(dI 10)])),
  ([.val (.list []), .val (.list [(dI 6)]), .val (dI 5)], (.list [])),
  ([.val (.list [(dI 6)]), .val (.list [(dI 5)]), .val (dI 5)], (.list [(dI 30)]))]
theorem ok_t5_0_25_2 : ckA (lv fns tC 60) 25 t5_0_25_2 = true := by decide +kernel
noncomputable def t5_0_3_0 : List (St × PyData) := [([.val (.list []), .val (.list [(dI 1)]), .val (dI 5)], (.list [(dI 1)])),
  ([.val (.list [(dI 1)]), .val (.list []), .val (dI 5)], (.list [(dI 1)])),
  ([.val (.list [(dI 1)]), .val (.list [(dI 1)]), .val (dI 5)], (.list [(dI 2)])),
  ([.val (.list [(dI 2)]), .val (.list []), .val (dI 5)], (.list [(dI 2)])),
  ([.val (.list []), .val (.list [(dI 2)]), .val (dI 5)], (.list [(dI 2)])),
  ([.val (.list [(dI 2)]), .val (.list [(dI 2)]), .val (dI 5)], (.list [(dI 4)])),
  ([.val (.list [(dI 4)]), .val (.list [(dI 1)]), .val (dI 5)], (.list [(dI 5)])),
  ([.val (.list [(dI 5)]), .val (.list []), .val (dI 5)], (.list [(dI 5)]))]
theorem ok_t5_0_3_0 : ckA (lv fns tC 60) 3 t5_0_3_0 = true := by decide +kernel
noncomputable def t5_0_3_1 : List (St × PyData) := [([.val (.list []), .val (.list [(dI 5)]), .val (dI 5)], (.list [(dI 5)])),
  ([.val (.list [(dI 5)]), .val (.list [(dI 5)]), .val (dI 5)], (.list [(dI 10)])),
  ([.val (.list [(dI 10)]), .val (.list [(dI 4)]), .val (dI 5)], (.list [(dI 14)])),
  ([.val (.list [(dI 14)]), .val (.list [(dI 2)]), .val (dI 5)], (.list [(dI 16)])),
  ([.val (.list [(dI 16)]), .val (.list []), .val (dI 5)], (.list [(dI 16)])),
  ([.val (.list []), .val (.list [(dI 16)]), .val (dI 5)], (.list [(dI 16)])),
  ([.val (.list [(dI 16)]), .val (.list [(dI 16)]), .val (dI 5)], (.list [(dI 0), (dI 1)])),
  ([.val (.list [(dI 0), (dI 1)]), .val (.list [(dI 14)]), .val (dI 5)], (.list [(dI 14), (dI 1)]))]
theorem ok_t5_0_3_1 : ckA (lv fns tC 60) 3 t5_0_3_1 = true := by decide +kernel
noncomputable def t5_0_3_2 : List (St × PyData) := [([.val (.list [(dI 14), (dI 1)]), .val (.list [(dI 10)]), .val (dI 5)], (.list [(dI 24), (dI 1)])),
  ([.val (.list [(dI 24), (dI 1)]), .val (.list [(dI 5)]), .val (dI 5)], (.list [(dI 29), (dI 1)])),
  ([.val (.list [(dI 29), (dI 1)]), .val (.list []), .val (dI 5)], (.list [(dI 29), (dI 1)])),
  ([.val (.list [(dI 1)]), .val (.list [(dI 2)]), .val (dI 5)], (.list [(dI 3)])),
  ([.val (.list [(dI 3)]), .val (.list [(dI 1)]), .val (dI 5)], (.list [(dI 4)])),
  ([.val (.list [(dI 2)]), .val (.list [(dI 3)]), .val (dI 5)], (.list [(dI 5)])),
  ([.val (.list [(dI 5)]), .val (.list [(dI 3)]), .val (dI 5)], (.list [(dI 8)])),
  ([.val (.list [(dI 8)]), .val (.list [(dI 2)]), .val (dI 5)], (.list [(dI 10)]))]
theorem ok_t5_0_3_2 : ckA (lv fns tC 60) 3 t5_0_3_2 = true := by decide +kernel
noncomputable def t5_0_3_3 : List (St × PyData) := [([.val (.list [(dI 5)]), .val (.list [(dI 8)]), .val (dI 5)], (.list [(dI 13)])),
  ([.val (.list [(dI 13)]), .val (.list [(dI 6)]), .val (dI 5)], (.list [(dI 19)])),
  ([.val (.list [(dI 19)]), .val (.list [(dI 8)]), .val (dI 5)], (.list [(dI 27)])),
  ([.val (.list [(dI 27)]), .val (.list [(dI 5)]), .val (dI 5)], (.list [(dI 0), (dI 1)])),
  ([.val (.list [(dI 16)]), .val (.list [(dI 25)]), .val (dI 5)], (.list [(dI 9), (dI 1)])),
  ([.val (.list [(dI 9), (dI 1)]), .val (.list [(dI 20)]), .val (dI 5)], (.list [(dI 29), (dI 1)])),
  ([.val (.list [(dI 29), (dI 1)]), .val (.list [(dI 20)]), .val (dI 5)], (.list [(dI 17), (dI 2)])),
  ([.val (.list [(dI 17), (dI 2)]), .val (.list [(dI 25)]), .val (dI 5)], (.list [(dI 10), (dI 3)]))]
theorem ok_t5_0_3_3 : ckA (lv fns tC 60) 3 t5_0_3_3 = true := by decide +kernel
noncomputable def t5_0_3_4 : List (St × PyData) := [([.val (.list [(dI 10), (dI 3)]), .val (.list [(dI 16)]), .val (dI 5)], (.list [(dI 26), (dI 3)])),
  ([.val (.list [(dI 29), (dI 1)]), .val (.list [(dI 29), (dI 1)]), .val (dI 5)], (.list [(dI 26), (dI 3)]))]
theorem ok_t5_0_3_4 : ckA (lv fns tC 60) 3 t5_0_3_4 = true := by decide +kernel
noncomputable def t5_0 : Tab := (31, t5_0_31_0) :: (31, t5_0_31_1) :: (31, t5_0_31_2) :: (31, t5_0_31_3) :: (25, t5_0_25_0) :: (25, t5_0_25_1) :: (25, t5_0_25_2) :: (3, t5_0_3_0) :: (3, t5_0_3_1) :: (3, t5_0_3_2) :: (3, t5_0_3_3) :: (3, t5_0_3_4) :: tC
theorem t5_0_ok : TabOk fns t5_0 120 := TabOk.cons (tC_ok.one ok_t5_0_31_0) (TabOk.cons (tC_ok.one ok_t5_0_31_1) (TabOk.cons (tC_ok.one ok_t5_0_31_2) (TabOk.cons (tC_ok.one ok_t5_0_31_3) (TabOk.cons (tC_ok.one ok_t5_0_25_0) (TabOk.cons (tC_ok.one ok_t5_0_25_1) (TabOk.cons (tC_ok.one ok_t5_0_25_2) (TabOk.cons (tC_ok.one ok_t5_0_3_0) (TabOk.cons (tC_ok.one ok_t5_0_3_1) (TabOk.cons (tC_ok.one ok_t5_0_3_2) (TabOk.cons (tC_ok.one ok_t5_0_3_3) (TabOk.cons (tC_ok.one ok_t5_0_3_4) (tC_ok.more (by decide)))))))))))))
noncomputable def t5_1_12_0 : List (St × PyData) := [([.val (.list [(dI 1)]), .val (.list [(dI 1)]), .val (dI 5), .fn 31], (.list [(dI 1)])),
  ([.val (.list [(dI 1)]), .val (.list [(dI 2)]), .val (dI 5), .fn 31], (.list [(dI 1)])),
  ([.val (.list [(dI 3)]), .val (.list [(dI 1)]), .val (dI 5), .fn 31], (.list [(dI 1)])),
  ([.val (.list [(dI 3)]), .val (.list [(dI 2)]), .val (dI 5), .fn 31], (.list [(dI 1)])),
  ([.val (.list [(dI 1)]), .val (.list [(dI 3)]), .val (dI 5), .fn 31], (.list [(dI 1)])),
  ([.val (.list [(dI 4)]), .val (.list [(dI 1)]), .val (dI 5), .fn 31], (.list [(dI 1)])),
  ([.val (.list [(dI 4)]), .val (.list [(dI 2)]), .val (dI 5), .fn 31], (.list [(dI 2)])),
  ([.val (.list [(dI 6)]), .val (.list [(dI 1)]), .val (dI 5), .fn 31], (.list [(dI 1)]))]
theorem ok_t5_1_12_0 : ckA (lv fns t5_0 60) 12 t5_1_12_0 = true := by decide +kernel
noncomputable def t5_1_12_1 : List (St × PyData) := [([.val (.list [(dI 6)]), .val (.list [(dI 6)]), .val (dI 5), .fn 31], (.list [(dI 6)])),
  ([.val (.list [(dI 1)]), .val (.list [(dI 4)]), .val (dI 5), .fn 31], (.list [(dI 1)])),
  ([.val (.list [(dI 5)]), .val (.list [(dI 1)]), .val (dI 5), .fn 31], (.list [(dI 1)])),
  ([.val (.list [(dI 5)]), .val (.list [(dI 2)]), .val (dI 5), .fn 31], (.list [(dI 1)])),
  ([.val (.list [(dI 10)]), .val (.list [(dI 1)]), .val (dI 5), .fn 31], (.list [(dI 1)])),
  ([.val (.list [(dI 10)]), .val (.list [(dI 6)]), .val (dI 5), .fn 31], (.list [(dI 2)])),
  ([.val (.list [(dI 2)]), .val (.list [(dI 3)]), .val (dI 5), .fn 31], (.list [(dI 1)])),
  ([.val (.list [(dI 1)]), .val (.list [(dI 5)]), .val (dI 5), .fn 31], (.list [(dI 1)]))]
theorem ok_t5_1_12_1 : ckA (lv fns t5_0 60) 12 t5_1_12_1 = true := by decide +kernel
noncomputable def t5_1_12_2 : List (St × PyData) := [([.val (.list [(dI 1)]), .val (.list [(dI 6)]), .val (dI 5), .fn 31], (.list [(dI 1)])),
  ([.val (.list [(dI 12)]), .val (.list [(dI 2)]), .val (dI 5), .fn 31], (.list [(dI 2)])),
  ([.val (.list [(dI 16), (dI 7)]), .val (.list [(dI 4)]), .val (dI 5), .fn 31], (.list [(dI 4)])),
  ([.val (.list [(dI 28), (dI 1)]), .val (.list [(dI 30)]), .val (dI 5), .fn 31], (.list [(dI 30)]))]
theorem ok_t5_1_12_2 : ckA (lv fns t5_0 60) 12 t5_1_12_2 = true := by decide +kernel
noncomputable def t5_1_23_0 : List (St × PyData) := [([.val (dI 1), .val (dI 0), .val (dI 5), .fn 25], (.list [(dI 1)])),
  ([.val (dI 1), .val (dI 1), .val (dI 5), .fn 25], (.list [(dI 1)])),
  ([.val (dI 2), .val (dI 0), .val (dI 5), .fn 25], (.list [(dI 1)])),
  ([.val (dI 2), .val (dI 1), .val (dI 5), .fn 25], (.list [(dI 2)])),
  ([.val (dI 2), .val (dI 2), .val (dI 5), .fn 25], (.list [(dI 1)])),
  ([.val (dI 3), .val (dI 0), .val (dI 5), .fn 25], (.list [(dI 1)])),
  ([.val (dI 3), .val (dI 1), .val (dI 5), .fn 25], (.list [(dI 3)])),
  ([.val (dI 3), .val (dI 2), .val (dI 5), .fn 25], (.list [(dI 3)]))]
theorem ok_t5_1_23_0 : ckA (lv fns t5_0 60) 23 t5_1_23_0 = true := by decide +kernel
noncomputable def t5_1_23_1 : List (St × PyData) := [([.val (dI 3), .val (dI 3), .val (dI 5), .fn 25], (.list [(dI 1)])),
  ([.val (dI 4), .val (dI 0), .val (dI 5), .fn 25], (.list [(dI 1)])),
  ([.val (dI 4), .val (dI 1), .val (dI 5), .fn 25], (.list [(dI 4)])),
  ([.val (dI 4), .val (dI 2), .val (dI 5), .fn 25], (.list [(dI 6)])),
  ([.val (dI 4), .val (dI 3), .val (dI 5), .fn 25], (.list [(dI 4)])),
  ([.val (dI 4), .val (dI 4), .val (dI 5), .fn 25], (.list [(dI 1)])),
  ([.val (dI 5), .val (dI 0), .val (dI 5), .fn 25], (.list [(dI 1)])),
  ([.val (dI 5), .val (dI 1), .val (dI 5), .fn 25], (.list [(dI 5)]))]
theorem ok_t5_1_23_1 : ckA (lv fns t5_0 60) 23 t5_1_23_1 = true := by decide +kernel
noncomputable def t5_1_23_2 : List (St × PyData) := [([.val (dI 5), .val (dI 2), .val (dI 5), .fn 25], (.list [(dI 10)])),
  ([.val (dI 5), .val (dI 3), .val (dI 5), .fn 25], (.list [(dI 10)])),
  ([.val (dI 5), .val (dI 4), .val (dI 5), .fn 25], (.list [(dI 5)])),
  ([.val (dI 5), .val (dI 5), .val (dI 5), .fn 25], (.list [(dI 1)]))]
theorem ok_t5_1_23_2 : ckA (lv fns t5_0 60) 23 t5_1_23_2 = true := by decide +kernel
noncomputable def t5_1 : Tab := (12, t5_1_12_0) :: (12, t5_1_12_1) :: (12, t5_1_12_2) :: (23, t5_1_23_0) :: (23, t5_1_23_1) :: (23, t5_1_23_2) :: t5_0
theorem t5_1_ok : TabOk fns t5_1 180 := TabOk.cons (t5_0_ok.one ok_t5_1_12_0) (TabOk.cons (t5_0_ok.one ok_t5_1_12_1) (TabOk.cons (t5_0_ok.one ok_t5_1_12_2) (TabOk.cons (t5_0_ok.one ok_t5_1_23_0) (TabOk.cons (t5_0_ok.one ok_t5_1_23_1) (TabOk.cons (t5_0_ok.one ok_t5_1_23_2) (t5_0_ok.more (by decide)))))))
noncomputable def t5_2_15_0 : List (St × PyData) := [([.val (.tuple [dF, (.list [(dI 1)])]), .val (.tuple [dF, (.list [(dI 1)])]), .val (dI 5), .fn 31], (.tuple [(.tuple [dF, (.list [(dI 1)])]), (.list [(dI 1)])])),
  ([.val (.tuple [dF, (.list [])]), .val (.tuple [dF, (.list [(dI 1)])]), .val (dI 5), .fn 31], (.tuple [(.tuple [dF, (.list [])]), (.list [(dI 1)])])),
  ([.val (.tuple [dT, (.list [(dI 1)])]), .val (.tuple [dF, (.list [(dI 2)])]), .val (dI 5), .fn 31], (.tuple [(.tuple [dT, (.list [(dI 1)])]), (.list [(dI 2)])])),
  ([.val (.tuple [dF, (.list [(dI 3)])]), .val (.tuple [dF, (.list [(dI 1)])]), .val (dI 5), .fn 31], (.tuple [(.tuple [dF, (.list [(dI 3)])]), (.list [(dI 1)])])),
  ([.val (.tuple [dT, (.list [(dI 1)])]), .val (.tuple [dF, (.list [(dI 3)])]), .val (dI 5), .fn 31], (.tuple [(.tuple [dT, (.list [(dI 1)])]), (.list [(dI 3)])])),
  ([.val (.tuple [dF, (.list [(dI 4)])]), .val (.tuple [dF, (.list [(dI 1)])]), .val (dI 5), .fn 31], (.tuple [(.tuple [dF, (.list [(dI 4)])]), (.list [(dI 1)])])),
  ([.val (.tuple [dF, (.list [(dI 6)])]), .val (.tuple [dF, (.list [(dI 1)])]), .val (dI 5), .fn 31], (.tuple [(.tuple [dF, (.list [(dI 6)])]), (.list [(dI 1)])])),
  ([.val (.tuple [dT, (.list [(dI 1)])]), .val (.tuple [dF, (.list [(dI 4)])]), .val (dI 5), .fn 31], (.tuple [(.tuple [dT, (.list [(dI 1)])]), (.list [(dI 4)])]))]
theorem ok_t5_2_15_0 : ckA (lv fns t5_1 60) 15 t5_2_15_0 = true := by decide +kernel
noncomputable def t5_2_15_1 : List (St × PyData) := [([.val (.tuple [dF, (.list [(dI 5)])]), .val (.tuple [dF, (.list [(dI 1)])]), .val (dI 5), .fn 31], (.tuple [(.tuple [dF, (.list [(dI 5)])]), (.list [(dI 1)])])),
  ([.val (.tuple [dF, (.list [(dI 10)])]), .val (.tuple [dF, (.list [(dI 1)])]), .val (dI 5), .fn 31], (.tuple [(.tuple [dF, (.list [(dI 10)])]), (.list [(dI 1)])])),
  ([.val (.tuple [dT, (.list [(dI 1)])]), .val (.tuple [dF, (.list [(dI 5)])]), .val (dI 5), .fn 31], (.tuple [(.tuple [dT, (.list [(dI 1)])]), (.list [(dI 5)])])),
  ([.val (.tuple [dF, (.list [(dI 12)])]), .val (.tuple [dF, (.list [(dI 2)])]), .val (dI 5), .fn 31], (.tuple [(.tuple [dF, (.list [(dI 6)])]), (.list [(dI 1)])])),
  ([.val (.tuple [dF, (.list [(dI 16), (dI 7)])]), .val (.tuple [dF, (.list [(dI 4)])]), .val (dI 5), .fn 31], (.tuple [(.tuple [dF, (.list [(dI 28), (dI 1)])]), (.list [(dI 1)])]))]
theorem ok_t5_2_15_1 : ckA (lv fns t5_1 60) 15 t5_2_15_1 = true := by decide +kernel
noncomputable def t5_2_16_0 : List (St × PyData) := [([.val (.tuple [(.tuple [dF, (.list [])]), (.list [(dI 1)])]), .val (.tuple [(.tuple [dF, (.list [(dI 1)])]), (.list [(dI 1)])]), .val (dI 5), .fn 25, .fn 31], (.tuple [(.tuple [dF, (.list [(dI 1)])]), (.list [(dI 1)])])),
  ([.val (.tuple [(.tuple [dF, (.list [(dI 1)])]), (.list [(dI 1)])]), .val (.tuple [(.tuple [dT, (.list [(dI 3)])]), (.list [(dI 2)])]), .val (dI 5), .fn 25, .fn 31], (.tuple [(.tuple [dT, (.list [(dI 1)])]), (.list [(dI 2)])])),
  ([.val (.tuple [(.tuple [dF, (.list [(dI 1)])]), (.list [(dI 1)])]), .val (.tuple [(.tuple [dT, (.list [(dI 2)])]), (.list [(dI 1)])]), .val (dI 5), .fn 25, .fn 31], (.tuple [(.tuple [dT, (.list [(dI 1)])]), (.list [(dI 1)])])),
  ([.val (.tuple [(.tuple [dT, (.list [(dI 1)])]), (.list [(dI 1)])]), .val (.tuple [(.tuple [dF, (.list [(dI 1)])]), (.list [(dI 1)])]), .val (dI 5), .fn 25, .fn 31], (.tuple [(.tuple [dF, (.list [])]), (.list [(dI 1)])])),
  ([.val (.tuple [(.tuple [dF, (.list [(dI 1)])]), (.list [(dI 1)])]), .val (.tuple [(.tuple [dT, (.list [(dI 5)])]), (.list [(dI 2)])]), .val (dI 5), .fn 25, .fn 31], (.tuple [(.tuple [dT, (.list [(dI 3)])]), (.list [(dI 2)])])),
  ([.val (.tuple [(.tuple [dT, (.list [(dI 3)])]), (.list [(dI 2)])]), .val (.tuple [(.tuple [dF, (.list [(dI 5)])]), (.list [(dI 3)])]), .val (dI 5), .fn 25, .fn 31], (.tuple [(.tuple [dF, (.list [(dI 1)])]), (.list [(dI 6)])])),
  ([.val (.tuple [(.tuple [dF, (.list [(dI 1)])]), (.list [(dI 6)])]), .val (.tuple [(.tuple [dF, (.list [])]), (.list [(dI 1)])]), .val (dI 5), .fn 25, .fn 31], (.tuple [(.tuple [dF, (.list [(dI 1)])]), (.list [(dI 6)])]))]
theorem ok_t5_2_16_0 : ckA (lv fns t5_1 60) 16 t5_2_16_0 = true := by decide +kernel
noncomputable def t5_2_35_0 : List (St × PyData) := [([.val (.tuple [(.tuple [dF, (.list [(dI 1)])]), (.list [(dI 1)])]), .val (.tuple [(.tuple [dF, (.list [(dI 1)])]), (.list [(dI 1)])]), .val (dI 5)], (.tuple [(.tuple [dF, (.list [(dI 1)])]), (.list [(dI 1)])])),
  ([.val (.tuple [(.tuple [dF, (.list [(dI 1)])]), (.list [(dI 1)])]), .val (.tuple [(.tuple [dT, (.list [(dI 1)])]), (.list [(dI 2)])]), .val (dI 5)], (.tuple [(.tuple [dT, (.list [(dI 1)])]), (.list [(dI 2)])])),
  ([.val (.tuple [(.tuple [dF, (.list [(dI 3)])]), (.list [(dI 1)])]), .val (.tuple [(.tuple [dT, (.list [(dI 1)])]), (.list [(dI 2)])]), .val (dI 5)], (.tuple [(.tuple [dT, (.list [(dI 3)])]), (.list [(dI 2)])])),
  ([.val (.tuple [(.tuple [dT, (.list [(dI 1)])]), (.list [(dI 2)])]), .val (.tuple [(.tuple [dT, (.list [(dI 1)])]), (.list [(dI 3)])]), .val (dI 5)], (.tuple [(.tuple [dF, (.list [(dI 1)])]), (.list [(dI 6)])])),
  ([.val (.tuple [(.tuple [dF, (.list [(dI 4)])]), (.list [(dI 1)])]), .val (.tuple [(.tuple [dT, (.list [(dI 1)])]), (.list [(dI 2)])]), .val (dI 5)], (.tuple [(.tuple [dT, (.list [(dI 2)])]), (.list [(dI 1)])])),
  ([.val (.tuple [(.tuple [dF, (.list [(dI 6)])]), (.list [(dI 1)])]), .val (.tuple [(.tuple [dF, (.list [(dI 1)])]), (.list [(dI 6)])]), .val (dI 5)], (.tuple [(.tuple [dF, (.list [(dI 1)])]), (.list [(dI 1)])])),
  ([.val (.tuple [(.tuple [dF, (.list [])]), (.list [(dI 1)])]), .val (.tuple [(.tuple [dT, (.list [(dI 1)])]), (.list [(dI 4)])]), .val (dI 5)], (.tuple [(.tuple [dF, (.list [])]), (.list [(dI 1)])])),
  ([.val (.tuple [(.tuple [dF, (.list [(dI 5)])]), (.list [(dI 1)])]), .val (.tuple [(.tuple [dT, (.list [(dI 1)])]), (.list [(dI 2)])]), .val (dI 5)], (.tuple [(.tuple [dT, (.list [(dI 5)])]), (.list [(dI 2)])]))]
theorem ok_t5_2_35_0 : ckA (lv fns t5_1 60) 35 t5_2_35_0 = true := by decide +kernel
noncomputable def t5_2_35_1 : List (St × PyData) := [([.val (.tuple [(.tuple [dF, (.list [(dI 10)])]), (.list [(dI 1)])]), .val (.tuple [(.tuple [dF, (.list [(dI 1)])]), (.list [(dI 6)])]), .val (dI 5)], (.tuple [(.tuple [dF, (.list [(dI 5)])]), (.list [(dI 3)])])),
  ([.val (.tuple [(.tuple [dF, (.list [(dI 10)])]), (.list [(dI 1)])]), .val (.tuple [(.tuple [dF, (.list [])]), (.list [(dI 1)])]), .val (dI 5)], (.tuple [(.tuple [dF, (.list [])]), (.list [(dI 1)])])),
  ([.val (.tuple [(.tuple [dF, (.list [(dI 1)])]), (.list [(dI 6)])]), .val (.tuple [(.tuple [dT, (.list [(dI 1)])]), (.list [(dI 5)])]), .val (dI 5)], (.tuple [(.tuple [dT, (.list [(dI 1)])]), (.list [(dI 30)])])),
  ([.val (.tuple [(.tuple [dF, (.list [(dI 1)])]), (.list [(dI 6)])]), .val (.tuple [(.tuple [dF, (.list [(dI 6)])]), (.list [(dI 1)])]), .val (dI 5)], (.tuple [(.tuple [dF, (.list [(dI 1)])]), (.list [(dI 1)])])),
  ([.val (.tuple [(.tuple [dT, (.list [(dI 1)])]), (.list [(dI 30)])]), .val (.tuple [(.tuple [dF, (.list [(dI 28), (dI 1)])]), (.list [(dI 1)])]), .val (dI 5)], (.tuple [(.tuple [dT, (.list [(dI 2)])]), (.list [(dI 1)])]))]
theorem ok_t5_2_35_1 : ckA (lv fns t5_1 60) 35 t5_2_35_1 = true := by decide +kernel
noncomputable def t5_2_24_0 : List (St × PyData) := [([.val (.list [(.tuple [(.list [(dI 1)]), (.list [(dI 1)])]), (.tuple [(.list [(dI 1)]), (.list [(dI 1)])])]), .val (dI 5), .fn 25], (.list [(dI 2)])),
  ([.val (.list [(.tuple [(.list [(dI 1)]), (.list [(dI 1)])]), (.tuple [(.list [(dI 2)]), (.list [(dI 1)])]), (.tuple [(.list [(dI 1)]), (.list [(dI 1)])])]), .val (dI 5), .fn 25], (.list [(dI 4)])),
  ([.val (.list [(.tuple [(.list [(dI 1)]), (.list [(dI 2)])]), (.tuple [(.list [(dI 3)]), (.list [(dI 1)])]), (.tuple [(.list [(dI 3)]), (.list [(dI 1)])]), (.tuple [(.list [(dI 1)]), (.list [(dI 2)])])]), .val (dI 5), .fn 25], (.list [(dI 10)])),
  ([.val (.list [(.tuple [(.list [(dI 1)]), (.list [(dI 5)])]), (.tuple [(.list [(dI 4)]), (.list [(dI 2)])]), (.tuple [(.list [(dI 6)]), (.list [(dI 1)])]), (.tuple [(.list [(dI 4)]), (.list [(dI 2)])]), (.tuple [(.list [(dI 1)]), (.list [(dI 5)])])]), .val (dI 5), .fn 25], (.list [(dI 0), (dI 1)])),
  ([.val (.list [(.tuple [(.list [(dI 1)]), (.list [(dI 16)])]), (.tuple [(.list [(dI 5)]), (.list [(dI 5)])]), (.tuple [(.list [(dI 10)]), (.list [(dI 2)])]), (.tuple [(.list [(dI 10)]), (.list [(dI 2)])]), (.tuple [(.list [(dI 5)]), (.list [(dI 5)])]), (.tuple [(.list [(dI 1)]), (.list [(dI 16)])])]), .val (dI 5), .fn 25], (.list [(dI 26), (dI 3)]))]
theorem ok_t5_2_24_0 : ckA (lv fns t5_1 60) 24 t5_2_24_0 = true := by decide +kernel
noncomputable def t5_2 : Tab := (15, t5_2_15_0) :: (15, t5_2_15_1) :: (16, t5_2_16_0) :: (35, t5_2_35_0) :: (35, t5_2_35_1) :: (24, t5_2_24_0) :: t5_1
theorem t5_2_ok : TabOk fns t5_2 240 := TabOk.cons (t5_1_ok.one ok_t5_2_15_0) (TabOk.cons (t5_1_ok.one ok_t5_2_15_1) (TabOk.cons (t5_1_ok.one ok_t5_2_16_0) (TabOk.cons (t5_1_ok.one ok_t5_2_35_0) (TabOk.cons (t5_1_ok.one ok_t5_2_35_1) (TabOk.cons (t5_1_ok.one ok_t5_2_24_0) (t5_1_ok.more (by decide)))))))
noncomputable def t5_3_36_0 : List (St × PyData) := [([.val (dI 1), .val (dI 1), .val (dI 5)], (.tuple [(.tuple [dF, (.list [(dI 1)])]), (.list [(dI 1)])])),
  ([.val (dI 0), .val (dI 1), .val (dI 5)], (.tuple [(.tuple [dF, (.list [])]), (.list [(dI 1)])])),
  ([.val (dJ 0), .val (dI 2), .val (dI 5)], (.tuple [(.tuple [dT, (.list [(dI 1)])]), (.list [(dI 2)])])),
  ([.val (dJ 0), .val (dI 3), .val (dI 5)], (.tuple [(.tuple [dT, (.list [(dI 1)])]), (.list [(dI 3)])])),
  ([.val (dJ 0), .val (dI 4), .val (dI 5)], (.tuple [(.tuple [dT, (.list [(dI 1)])]), (.list [(dI 4)])])),
  ([.val (dJ 0), .val (dI 5), .val (dI 5)], (.tuple [(.tuple [dT, (.list [(dI 1)])]), (.list [(dI 5)])])),
  ([.val (dI 12), .val (dI 2), .val (dI 5)], (.tuple [(.tuple [dF, (.list [(dI 6)])]), (.list [(dI 1)])])),
  ([.val (dI 240), .val (dI 4), .val (dI 5)], (.tuple [(.tuple [dF, (.list [(dI 28), (dI 1)])]), (.list [(dI 1)])]))]
theorem ok_t5_3_36_0 : ckA (lv fns t5_2 60) 36 t5_3_36_0 = true := by decide +kernel
noncomputable def t5_3_37_0 : List (St × PyData) := [([.val (dI 5), .val (dI 5)], (.list [(.tuple [(.tuple [dF, (.list [(dI 1)])]), (.list [(dI 1)])]), (.tuple [(.tuple [dT, (.list [(dI 1)])]), (.list [(dI 2)])]), (.tuple [(.tuple [dF, (.list [(dI 1)])]), (.list [(dI 6)])]), (.tuple [(.tuple [dF, (.list [])]), (.list [(dI 1)])]), (.tuple [(.tuple [dT, (.list [(dI 1)])]), (.list [(dI 30)])])]))]
theorem ok_t5_3_37_0 : ckA (lv fns t5_2 60) 37 t5_3_37_0 = true := by decide +kernel
noncomputable def t5_3 : Tab := (36, t5_3_36_0) :: (37, t5_3_37_0) :: t5_2
theorem t5_3_ok : TabOk fns t5_3 300 := TabOk.cons (t5_2_ok.one ok_t5_3_36_0) (TabOk.cons (t5_2_ok.one ok_t5_3_37_0) (t5_2_ok.more (by decide)))
theorem law_5_2 : isT ((lv fns t5_3 60).S lawRest (sg0 5 2)) = true := by decide +kernel
theorem law_5_3 : isT ((lv fns t5_3 60).S lawRest (sg0 5 3)) = true := by decide +kernel
theorem law_5_4 : isT ((lv fns t5_3 60).S lawRest (sg0 5 4)) = true := by decide +kernel
theorem law_5_5 : isT ((lv fns t5_3 60).S lawRest (sg0 5 5)) = true := by decide +kernel
theorem hl_5 : ∀ b, 2 ≤ b → b ≤ 5 → ∃ T K σ, K ≤ 300 ∧ TabOk fns T K ∧ (lv fns T 60).S lawRest (sg0 5 b) = some (.ret (.bool true) σ) := by
  intro b h1 h2
  have hb : b = 2 ∨ b = 3 ∨ b = 4 ∨ b = 5 := by omega
  rcases hb with rfl | rfl | rfl | rfl
  · exact let ⟨σ, e⟩ := isT_snd law_5_2; ⟨_, _, σ, by decide, t5_3_ok, e⟩
  · exact let ⟨σ, e⟩ := isT_snd law_5_3; ⟨_, _, σ, by decide, t5_3_ok, e⟩
  · exact let ⟨σ, e⟩ := isT_snd law_5_4; ⟨_, _, σ, by decide, t5_3_ok, e⟩
  · exact let ⟨σ, e⟩ := isT_snd law_5_5; ⟨_, _, σ, by decide, t5_3_ok, e⟩
end Mine
end
section
open PySem PySem.W PySem.Calls PyProof.Rows
namespace Mine
noncomputable def t6_0_31_0 : List (St × PyData) := [([.val (.list [(dI 1)]), .val (.list [(dI 1)]), .val (dI 6)], (.tuple [(.list [(dI 1)]), (.list [])])),
  ([.val (.list [(dI 1)]), .val (.list [(dI 2)]), .val (dI 6)], (.tuple [(.list []), (.list [(dI 1)])])),
  ([.val (.list [(dI 2)]), .val (.list [(dI 1)]), .val (dI 6)], (.tuple [(.list [(dI 2)]), (.list [])])),
  ([.val (.list [(dI 3)]), .val (.list [(dI 1)]), .val (dI 6)], (.tuple [(.list [(dI 3)]), (.list [])])),
  ([.val (.list [(dI 3)]), .val (.list [(dI 2)]), .val (dI 6)], (.tuple [(.list [(dI 1)]), (.list [(dI 1)])])),
  ([.val (.list [(dI 1)]), .val (.list [(dI 3)]), .val (dI 6)], (.tuple [(.list []), (.list [(dI 1)])])),
  ([.val (.list [(dI 4)]), .val (.list [(dI 1)]), .val (dI 6)], (.tuple [(.list [(dI 4)]), (.list [])])),
  ([.val (.list [(dI 4)]), .val (.list [(dI 2)]), .val (dI 6)], (.tuple [(.list [(dI 2)]), (.list [])]))]
theorem ok_t6_0_31_0 : ckA (lv fns tC 60) 31 t6_0_31_0 = true := by decide +kernel
noncomputable def t6_0_31_1 : List (St × PyData) := [([.val (.list [(dI 2)]), .val (.list [(dI 2)]), .val (dI 6)], (.tuple [(.list [(dI 1)]), (.list [])])),
  ([.val (.list [(dI 6)]), .val (.list [(dI 1)]), .val (dI 6)], (.tuple [(.list [(dI 6)]), (.list [])])),
  ([.val (.list [(dI 6)]), .val (.list [(dI 6)]), .val (dI 6)], (.tuple [(.list [(dI 1)]), (.list [])])),
  ([.val (.list [(dI 1)]), .val (.list [(dI 4)]), .val (dI 6)], (.tuple [(.list []), (.list [(dI 1)])])),
  ([.val (.list [(dI 5)]), .val (.list [(dI 1)]), .val (dI 6)], (.tuple [(.list [(dI 5)]), (.list [])])),
  ([.val (.list [(dI 5)]), .val (.list [(dI 2)]), .val (dI 6)], (.tuple [(.list [(dI 2)]), (.list [(dI 1)])])),
  ([.val (.list [(dI 10)]), .val (.list [(dI 1)]), .val (dI 6)], (.tuple [(.list [(dI 10)]), (.list [])])),
  ([.val (.list [(dI 10)]), .val (.list [(dI 6)]), .val (dI 6)], (.tuple [(.list [(dI 1)]), (.list [(dI 4)])]))]
theorem ok_t6_0_31_1 : ckA (lv fns tC 60) 31 t6_0_31_1 = true := by decide +kernel
noncomputable def t6_0_31_2 : List (St × PyData) := [([.val (.list [(dI 6)]), .val (.list [(dI 4)]), .val (dI 6)], (.tuple [(.list [(dI 1)]), (.list [(dI 2)])])),
  ([.val (.list [(dI 10)]), .val (.list [(dI 2)]), .val (dI 6)], (.tuple [(.list [(dI 5)]), (.list [])])),
  ([.val (.list [(dI 6)]), .val (.list [(dI 2)]), .val (dI 6)], (.tuple [(.list [(dI 3)]), (.list [])])),
  ([.val (.list [(dI 2)]), .val (.list [(dI 3)]), .val (dI 6)], (.tuple [(.list []), (.list [(dI 2)])])),
  ([.val (.list [(dI 1)]), .val (.list [(dI 5)]), .val (dI 6)], (.tuple [(.list []), (.list [(dI 1)])])),
  ([.val (.list [(dI 1)]), .val (.list [(dI 6)]), .val (dI 6)], (.tuple [(.list []), (.list [(dI 1)])])),
  ([.val (.list [(dI 12)]), .val (.list [(dI 2)]), .val (dI 6)], (.tuple [(.list [(dI 6)]), (.list [])])),
  ([.val (.list [(dI 48), (dI 3)]), .val (.list [(dI 4)]), .val (dI 6)], (.tuple [(.list [(dI 60)]), (.list [])]))]
theorem ok_t6_0_31_2 : ckA (lv fns tC 60) 31 t6_0_31_2 = true := by decide +kernel
noncomputable def t6_0_31_3 : List (St × PyData) := [([.val (.list [(dI 4)]), .val (.list [(dI 4)]), .val (dI 6)], (.tuple [(.list [(dI 1)]), (.list [])])),
  ([.val (.list [(dI 60)]), .val (.list [(dI 30)]), .val (dI 6)], (.tuple [(.list [(dI 2)]), (.list [])])),
  ([.val (.list [(dI 30)]), .val (.list [(dI 30)]), .val (dI 6)], (.tuple [(.list [(dI 1)]), (.list [])]))]
theorem ok_t6_0_31_3 : ckA (lv fns tC 60) 31 t6_0_31_3 = true := by decide +kernel
noncomputable def t6_0_25_0 : List (St × PyData) := [([.val (.list [(dI 1)]), .val (.list [(dI 1)]), .val (dI 6)], (.list [(dI 1)])),
  ([.val (.list [(dI 1)]), .val (.list [(dI 2)]), .val (dI 6)], (.list [(dI 2)])),
  ([.val (.list [(dI 2)]), .val (.list [(dI 1)]), .val (dI 6)], (.list [(dI 2)])),
  ([.val (.list [(dI 1)]), .val (.list [(dI 3)]), .val (dI 6)], (.list [(dI 3)])),
  ([.val (.list [(dI 3)]), .val (.list [(dI 1)]), .val (dI 6)], (.list [(dI 3)])),
  ([.val (.list [(dI 1)]), .val (.list [(dI 5)]), .val (dI 6)], (.list [(dI 5)])),
  ([.val (.list [(dI 2)]), .val (.list [(dI 2)]), .val (dI 6)], (.list [(dI 4)])),
  ([.val (.list [(dI 1)]), .val (.list [(dI 4)]), .val (dI 6)], (.list [(dI 4)]))]
theorem ok_t6_0_25_0 : ckA (lv fns tC 60) 25 t6_0_25_0 = true := by decide +kernel
noncomputable def t6_0_25_1 : List (St × PyData) := [([.val (.list [(dI 2)]), .val (.list [(dI 3)]), .val (dI 6)], (.list [(dI 6)])),
  ([.val (.list [(dI 5)]), .val (.list [(dI 1)]), .val (dI 6)], (.list [(dI 5)])),
  ([.val (.list [(dI 4)]), .val (.list [(dI 2)]), .val (dI 6)], (.list [(dI 8)])),
  ([.val (.list [(dI 6)]), .val (.list [(dI 1)]), .val (dI 6)], (.list [(dI 6)])),
  ([.val (.list [(dI 1)]), .val (.list [(dI 16)]), .val (dI 6)], (.list [(dI 16)])),
  ([.val (.list [(dI 2)]), .val (.list [(dI 5)]), .val (dI 6)], (.list [(dI 10)])),
  ([.val (.list [(dI 16)]), .val (.list [(dI 1)]), .val (dI 6)], (.list [(dI 16)])),
  ([.val (.list [(dI 5)]), .val (.list [(dI 5)]), .val (dI 6)], (.list [(dI 25)]))]
theorem ok_t6_0_25_1 : ckA (lv fns tC 60) 25 t6_0_25_1 = true := by decide +kernel
noncomputable def t6_0_25_2 : List (St × PyData) := [([.val (.list [(dI 10)]), .val (.list [(dI 2)]), .val (dI 6)], (.list [(dI 20)])),
  ([.val (.list []), .val (.list [(dI 1)]), .val (dI 6)], (.list [])),
  ([.val (.list [(dI 3)]), .val (.list [(dI 3)]), .val (dI 6)], (.list [(dI 9)])),
  ([.val (.list [(dI 5)]), .val (.list [(dI 2)]), .val (dI 6)], (.list [(dI 10)])),
  ([.val (.list []), .val (.list [(dI 6)]), .val (dI 6)], (.list [])),
  ([.val (.list [(dI 6)]), .val (.list [(dI 5)]), .val (dI 6)], (.list [(dI 30)]))]
theorem ok_t6_0_25_2 : ckA (lv fns tC 60) 25 t6_0_25_2 = true := by decide +kernel
noncomputable def t6_0_3_0 : List (St × PyData) := [([.val (.list []), .val (.list [(dI 1)]), .val (dI 6)], (.list [(dI 1)])),
  ([.val (.list [(dI 1)]), .val (.list []), .val (dI 6)], (.list [(dI 1)])),
  ([.val (.list [(dI 1)]), .val (.list [(dI 1)]), .val (dI 6)], (.list [(dI 2)])),
  ([.val (.list [(dI 2)]), .val (.list []), .val (dI 6)], (.list [(dI 2)])),
  ([.val (.list []), .val (.list [(dI 2)]), .val (dI 6)], (.list [(dI 2)])),
  ([.val (.list [(dI 2)]), .val (.list [(dI 2)]), .val (dI 6)], (.list [(dI 4)])),
  ([.val (.list [(dI 4)]), .val (.list [(dI 1)]), .val (dI 6)], (.list [(dI 5)])),
  ([.val (.list [(dI 5)]), .val (.list []), .val (dI 6)], (.list [(dI 5)]))]
theorem ok_t6_0_3_0 : ckA (lv fns tC 60) 3 t6_0_3_0 = true := by decide +kernel
noncomputable def t6_0_3_1 : List (St × PyData) := [([.val (.list []), .val (.list [(dI 5)]), .val (dI 6)], (.list [(dI 5)])),
  ([.val (.list [(dI 5)]), .val (.list [(dI 5)]), .val (dI 6)], (.list [(dI 10)])),
  ([.val (.list [(dI 10)]), .val (.list [(dI 4)]), .val (dI 6)], (.list [(dI 14)])),
  ([.val (.list [(dI 14)]), .val (.list [(dI 2)]), .val (dI 6)], (.list [(dI 16)])),
  ([.val (.list [(dI 16)]), .val (.list []), .val (dI 6)], (.list [(dI 16)])),
  ([.val (.list []), .val (.list [(dI 16)]), .val (dI 6)], (.list [(dI 16)])),
  ([.val (.list [(dI 16)]), .val (.list [(dI 16)]), .val (dI 6)], (.list [(dI 32)])),
  ([.val (.list [(dI 32)]), .val (.list [(dI 14)]), .val (dI 6)], (.list [(dI 46)]))]
theorem ok_t6_0_3_1 : ckA (lv fns tC 60) 3 t6_0_3_1 = true := by decide +kernel
noncomputable def t6_0_3_2 : List (St × PyData) := [([.val (.list [(dI 46)]), .val (.list [(dI 10)]), .val (dI 6)], (.list [(dI 56)])),
  ([.val (.list [(dI 56)]), .val (.list [(dI 5)]), .val (dI 6)], (.list [(dI 61)])),
  ([.val (.list [(dI 61)]), .val (.list []), .val (dI 6)], (.list [(dI 61)])),
  ([.val (.list [(dI 1)]), .val (.list [(dI 2)]), .val (dI 6)], (.list [(dI 3)])),
  ([.val (.list [(dI 3)]), .val (.list [(dI 1)]), .val (dI 6)], (.list [(dI 4)])),
  ([.val (.list [(dI 2)]), .val (.list [(dI 3)]), .val (dI 6)], (.list [(dI 5)])),
  ([.val (.list [(dI 5)]), .val (.list [(dI 3)]), .val (dI 6)], (.list [(dI 8)])),
  ([.val (.list [(dI 8)]), .val (.list [(dI 2)]), .val (dI 6)], (.list [(dI 10)]))]
theorem ok_t6_0_3_2 : ckA (lv fns tC 60) 3 t6_0_3_2 = true := by decide +kernel
noncomputable def t6_0_3_3 : List (St × PyData) := [([.val (.list [(dI 5)]), .val (.list [(dI 8)]), .val (dI 6)], (.list [(dI 13)])),
  ([.val (.list [(dI 13)]), .val (.list [(dI 6)]), .val (dI 6)], (.list [(dI 19)])),
  ([.val (.list [(dI 19)]), .val (.list [(dI 8)]), .val (dI 6)], (.list [(dI 27)])),
  ([.val (.list [(dI 27)]), .val (.list [(dI 5)]), .val (dI 6)], (.list [(dI 32)])),
  ([.val (.list [(dI 16)]), .val (.list [(dI 25)]), .val (dI 6)], (.list [(dI 41)])),
  ([.val (.list [(dI 41)]), .val (.list [(dI 20)]), .val (dI 6)], (.list [(dI 61)])),
  ([.val (.list [(dI 61)]), .val (.list [(dI 20)]), .val (dI 6)], (.list [(dI 17), (dI 1)])),
  ([.val (.list [(dI 17), (dI 1)]), .val (.list [(dI 25)]), .val (dI 6)], (.list [(dI 42), (dI 1)]))]
theorem ok_t6_0_3_3 : ckA (lv fns tC 60) 3 t6_0_3_3 = true := by decide +kernel
noncomputable def t6_0_3_4 : List (St × PyData) := [([.val (.list [(dI 42), (dI 1)]), .val (.list [(dI 16)]), .val (dI 6)], (.list [(dI 58), (dI 1)])),
  ([.val (.list [(dI 61)]), .val (.list [(dI 61)]), .val (dI 6)], (.list [(dI 58), (dI 1)]))]
theorem ok_t6_0_3_4 : ckA (lv fns tC 60) 3 t6_0_3_4 = true := by decide +kernel
noncomputable def t6_0 : Tab := (31, t6_0_31_0) :: (31, t6_0_31_1) :: (31, t6_0_31_2) :: (31, t6_0_31_3) :: (25, t6_0_25_0) :: (25, t6_0_25_1) :: (25, t6_0_25_2) :: (3, t6_0_3_0) :: (3, t6_0_3_1) :: (3, t6_0_3_2) :: (3, t6_0_3_3) :: (3, t6_0_3_4) :: tC
theorem t6_0_ok : TabOk fns t6_0 120 := TabOk.cons (tC_ok.one ok_t6_0_31_0) (TabOk.cons (tC_ok.one ok_t6_0_31_1) (TabOk.cons (tC_ok.one ok_t6_0_31_2) (TabOk.cons (tC_ok.one ok_t6_0_31_3) (TabOk.cons (tC_ok.one ok_t6_0_25_0) (TabOk.cons (tC_ok.one ok_t6_0_25_1) (TabOk.cons (tC_ok.one ok_t6_0_25_2) (TabOk.cons (tC_ok.one ok_t6_0_3_0) (TabOk.cons (tC_ok.one ok_t6_0_3_1) (TabOk.cons (tC_ok.one ok_t6_0_3_2) (TabOk.cons (tC_ok.one ok_t6_0_3_3) (TabOk.cons (tC_ok.one ok_t6_0_3_4) (tC_ok.more (by decide)))))))))))))
noncomputable def t6_1_12_0 : List (St × PyData) := [([.val (.list [(dI 1)]), .val (.list [(dI 1)]), .val (dI 6), .fn 31], (.list [(dI 1)])),
  ([.val (.list [(dI 1)]), .val (.list [(dI 2)]), .val (dI 6), .fn 31], (.list [(dI 1)])),
  ([.val (.list [(dI 3)]), .val (.list [(dI 1)]), .val (dI 6), .fn 31], (.list [(dI 1)])),
  ([.val (.list [(dI 3)]), .val (.list [(dI 2)]), .val (dI 6), .fn 31], (.list [(dI 1)])),
  ([.val (.list [(dI 1)]), .val (.list [(dI 3)]), .val (dI 6), .fn 31], (.list [(dI 1)])),
  ([.val (.list [(dI 4)]), .val (.list [(dI 1)]), .val (dI 6), .fn 31], (.list [(dI 1)])),
  ([.val (.list [(dI 4)]), .val (.list [(dI 2)]), .val (dI 6), .fn 31], (.list [(dI 2)])),
  ([.val (.list [(dI 6)]), .val (.list [(dI 1)]), .val (dI 6), .fn 31], (.list [(dI 1)]))]
theorem ok_t6_1_12_0 : ckA (lv fns t6_0 60) 12 t6_1_12_0 = true := by decide +kernel
noncomputable def t6_1_12_1 : List (St × PyData) := [([.val (.list [(dI 6)]), .val (.list [(dI 6)]), .val (dI 6), .fn 31], (.list [(dI 6)])),
  ([.val (.list [(dI 1)]), .val (.list [(dI 4)]), .val (dI 6), .fn 31], (.list [(dI 1)])),
  ([.val (.list [(dI 5)]), .val (.list [(dI 1)]), .val (dI 6), .fn 31], (.list [(dI 1)])),
  ([.val (.list [(dI 5)]), .val (.list [(dI 2)]), .val (dI 6), .fn 31], (.list [(dI 1)])),
  ([.val (.list [(dI 10)]), .val (.list [(dI 1)]), .val (dI 6), .fn 31], (.list [(dI 1)])),
  ([.val (.list [(dI 10)]), .val (.list [(dI 6)]), .val (dI 6), .fn 31], (.list [(dI 2)])),
  ([.val (.list [(dI 2)]), .val (.list [(dI 3)]), .val (dI 6), .fn 31], (.list [(dI 1)])),
  ([.val (.list [(dI 1)]), .val (.list [(dI 5)]), .val (dI 6), .fn 31], (.list [(dI 1)]))]
theorem ok_t6_1_12_1 : ckA (lv fns t6_0 60) 12 t6_1_12_1 = true := by decide +kernel
noncomputable def t6_1_12_2 : List (St × PyData) := [([.val (.list [(dI 1)]), .val (.list [(dI 6)]), .val (dI 6), .fn 31], (.list [(dI 1)])),
  ([.val (.list [(dI 12)]), .val (.list [(dI 2)]), .val (dI 6), .fn 31], (.list [(dI 2)])),
  ([.val (.list [(dI 48), (dI 3)]), .val (.list [(dI 4)]), .val (dI 6), .fn 31], (.list [(dI 4)])),
  ([.val (.list [(dI 60)]), .val (.list [(dI 30)]), .val (dI 6), .fn 31], (.list [(dI 30)]))]
theorem ok_t6_1_12_2 : ckA (lv fns t6_0 60) 12 t6_1_12_2 = true := by decide +kernel
noncomputable def t6_1_23_0 : List (St × PyData) := [([.val (dI 1), .val (dI 0), .val (dI 6), .fn 25], (.list [(dI 1)])),
  ([.val (dI 1), .val (dI 1), .val (dI 6), .fn 25], (.list [(dI 1)])),
  ([.val (dI 2), .val (dI 0), .val (dI 6), .fn 25], (.list [(dI 1)])),
  ([.val (dI 2), .val (dI 1), .val (dI 6), .fn 25], (.list [(dI 2)])),
  ([.val (dI 2), .val (dI 2), .val (dI 6), .fn 25], (.list [(dI 1)])),
  ([.val (dI 3), .val (dI 0), .val (dI 6), .fn 25], (.list [(dI 1)])),
  ([.val (dI 3), .val (dI 1), .val (dI 6), .fn 25], (.list [(dI 3)])),
  ([.val (dI 3), .val (dI 2), .val (dI 6), .fn 25], (.list [(dI 3)]))]
theorem ok_t6_1_23_0 : ckA (lv fns t6_0 60) 23 t6_1_23_0 = true := by decide +kernel
noncomputable def t6_1_23_1 : List (St × PyData) := [([.val (dI 3), .val (dI 3), .val (dI 6), .fn 25], (.list [(dI 1)])),
  ([.val (dI 4), .val (dI 0), .val (dI 6), .fn 25], (.list [(dI 1)])),
  ([.val (dI 4), .val (dI 1), .val (dI 6), .fn 25], (.list [(dI 4)])),
  ([.val (dI 4), .val (dI 2), .val (dI 6), .fn 25], (.list [(dI 6)])),
  ([.val (dI 4), .val (dI 3), .val (dI 6), .fn 25], (.list [(dI 4)])),
  ([.val (dI 4), .val (dI 4), .val (dI 6), .fn 25], (.list [(dI 1)])),
  ([.val (dI 5), .val (dI 0), .val (dI 6), .fn 25], (.list [(dI 1)])),
  ([.val (dI 5), .val (dI 1), .val (dI 6), .fn 25], (.list [(dI 5)]))]
theorem ok_t6_1_23_1 : ckA (lv fns t6_0 60) 23 t6_1_23_1 = true := by decide +kernel
noncomputable def t6_1_23_2 : List (St × PyData) := [([.val (dI 5), .val (dI 2), .val (dI 6), .fn 25], (.list [(dI 10)])),
  ([.val (dI 5), .val (dI 3), .val (dI 6), .fn 25], (.list [(dI 10)])),
  ([.val (dI 5), .val (dI 4), .val (dI 6), .fn 25], (.list [(dI 5)])),
  ([.val (dI 5), .val (dI 5), .val (dI 6), .fn 25], (.list [(dI 1)]))]
theorem ok_t6_1_23_2 : ckA (lv fns t6_0 60) 23 t6_1_23_2 = true := by decide +kernel
noncomputable def t6_1 : Tab := (12, t6_1_12_0) :: (12, t6_1_12_1) :: (12, t6_1_12_2) :: (23, t6_1_23_0) :: (23, t6_1_23_1) :: (23, t6_1_23_2) :: t6_0
theorem t6_1_ok : TabOk fns t6_1 180 := TabOk.cons (t6_0_ok.one ok_t6_1_12_0) (TabOk.cons (t6_0_ok.one ok_t6_1_12_1) (TabOk.cons (t6_0_ok.one ok_t6_1_12_2) (TabOk.cons (t6_0_ok.one ok_t6_1_23_0) (TabOk.cons (t6_0_ok.one ok_t6_1_23_1) (TabOk.cons (t6_0_ok.one ok_t6_1_23_2) (t6_0_ok.more (by decide)))))))
noncomputable def t6_2_15_0 : List (St × PyData) := [([.val (.tuple [dF, (.list [(dI 1)])]), .val (.tuple [dF, (.list [(dI 1)])]), .val (dI 6), .fn 31], (.tuple [(.tuple [dF, (.list [(dI 1)])]), (.list [(dI 1)])])),
  ([.val (.tuple [dF, (.list [])]), .val (.tuple [dF, (.list [(dI 1)])]), .val (dI 6), .fn 31], (.tuple [(.tuple [dF, (.list [])]), (.list [(dI 1)])])),
  ([.val (.tuple [dT, (.list [(dI 1)])]), .val (.tuple [dF, (.list [(dI 2)])]), .val (dI 6), .fn 31], (.tuple [(.tuple [dT, (.list [(dI 1)])]), (.list [(dI 2)])])),
  ([.val (.tuple [dF, (.list [(dI 3)])]), .val (.tuple [dF, (.list [(dI 1)])]), .val (dI 6), .fn 31], (.tuple [(.tuple [dF, (.list [(dI 3)])]), (.list [(dI 1)])])),
  ([.val (.tuple [dT, (.list [(dI 1)])]), .val (.tuple [dF, (.list [(dI 3)])]), .val (dI 6), .fn 31], (.tuple [(.tuple [dT, (.list [(dI 1)])]), (.list [(dI 3)])])),
  ([.val (.tuple [dF, (.list [(dI 4)])]), .val (.tuple [dF, (.list [(dI 1)])]), .val (dI 6), .fn 31], (.tuple [(.tuple [dF, (.list [(dI 4)])]), (.list [(dI 1)])])),
  ([.val (.tuple [dF, (.list [(dI 6)])]), .val (.tuple [dF, (.list [(dI 1)])]), .val (dI 6), .fn 31], (.tuple [(.tuple [dF, (.list [(dI 6)])]), (.list [(dI 1)])])),
  ([.val (.tuple [dT, (.list [(dI 1)])]), .val (.tuple [dF, (.list [(dI 4)])]), .val (dI 6), .fn 31], (.tuple [(.tuple [dT, (.list [(dI 1)])]), (.list [(dI 4)])]))]
theorem ok_t6_2_15_0 : ckA (lv fns t6_1 60) 15 t6_2_15_0 = true := by decide +kernel
noncomputable def t6_2_15_1 : List (St × PyData) := [([.val (.tuple [dF, (.list [(dI 5)])]), .val (.tuple [dF, (.list [(dI 1)])]), .val (dI 6), .fn 31], (.tuple [(.tuple [dF, (.list [(dI 5)])]), (.list [(dI 1)])])),
  ([.val (.tuple [dF, (.list [(dI 10)])]), .val (.tuple [dF, (.list [(dI 1)])]), .val (dI 6), .fn 31], (.tuple [(.tuple [dF, (.list [(dI 10)])]), (.list [(dI 1)])])),
  ([.val (.tuple [dT, (.list [(dI 1)])]), .val (.tuple [dF, (.list [(dI 5)])]), .val (dI 6), .fn 31], (.tuple [(.tuple [dT, (.list [(dI 1)])]), (.list [(dI 5)])])),
  ([.val (.tuple [dF, (.list [(dI 12)])]), .val (.tuple [dF, (.list [(dI 2)])]), .val (dI 6), .fn 31], (.tuple [(.tuple [dF, (.list [(dI 6)])]), (.list [(dI 1)])])),
  ([.val (.tuple [dF, (.list [(dI 48), (dI 3)])]), .val (.tuple [dF, (.list [(dI 4)])]), .val (dI 6), .fn 31], (.tuple [(.tuple [dF, (.list [(dI 60)])]), (.list [(dI 1)])]))]
theorem ok_t6_2_15_1 : ckA (lv fns t6_1 60) 15 t6_2_15_1 = true := by decide +kernel
noncomputable def t6_2_16_0 : List (St × PyData) := [([.val (.tuple [(.tuple [dF, (.list [])]), (.list [(dI 1)])]), .val (.tuple [(.tuple [dF, (.list [(dI 1)])]), (.list [(dI 1)])]), .val (dI 6), .fn 25, .fn 31], (.tuple [(.tuple [dF, (.list [(dI 1)])]), (.list [(dI 1)])])),
  ([.val (.tuple [(.tuple [dF, (.list [(dI 1)])]), (.list [(dI 1)])]), .val (.tuple [(.tuple [dT, (.list [(dI 3)])]), (.list [(dI 2)])]), .val (dI 6), .fn 25, .fn 31], (.tuple [(.tuple [dT, (.list [(dI 1)])]), (.list [(dI 2)])])),
  ([.val (.tuple [(.tuple [dF, (.list [(dI 1)])]), (.list [(dI 1)])]), .val (.tuple [(.tuple [dT, (.list [(dI 2)])]), (.list [(dI 1)])]), .val (dI 6), .fn 25, .fn 31], (.tuple [(.tuple [dT, (.list [(dI 1)])]), (.list [(dI 1)])])),
  ([.val (.tuple [(.tuple [dT, (.list [(dI 1)])]), (.list [(dI 1)])]), .val (.tuple [(.tuple [dF, (.list [(dI 1)])]), (.list [(dI 1)])]), .val (dI 6), .fn 25, .fn 31], (.tuple [(.tuple [dF, (.list [])]), (.list [(dI 1)])])),
  ([.val (.tuple [(.tuple [dF, (.list [(dI 1)])]), (.list [(dI 1)])]), .val (.tuple [(.tuple [dT, (.list [(dI 5)])]), (.list [(dI 2)])]), .val (dI 6), .fn 25, .fn 31], (.tuple [(.tuple [dT, (.list [(dI 3)])]), (.list [(dI 2)])])),
  ([.val (.tuple [(.tuple [dT, (.list [(dI 3)])]), (.list [(dI 2)])]), .val (.tuple [(.tuple [dF, (.list [(dI 5)])]), (.list [(dI 3)])]), .val (dI 6), .fn 25, .fn 31], (.tuple [(.tuple [dF, (.list [(dI 1)])]), (.list [(dI 6)])])),
  ([.val (.tuple [(.tuple [dF, (.list [(dI 1)])]), (.list [(dI 6)])]), .val (.tuple [(.tuple [dF, (.list [])]), (.list [(dI 1)])]), .val (dI 6), .fn 25, .fn 31], (.tuple [(.tuple [dF, (.list [(dI 1)])]), (.list [(dI 6)])]))]
theorem ok_t6_2_16_0 : ckA (lv fns t6_1 60) 16 t6_2_16_0 = true := by decide +kernel
noncomputable def t6_2_35_0 : List (St × PyData) := [([.val (.tuple [(.tuple [dF, (.list [(dI 1)])]), (.list [(dI 1)])]), .val (.tuple [(.tuple [dF, (.list [(dI 1)])]), (.list [(dI 1)])]), .val (dI 6)], (.tuple [(.tuple [dF, (.list [(dI 1)])]), (.list [(dI 1)])])),
  ([.val (.tuple [(.tuple [dF, (.list [(dI 1)])]), (.list [(dI 1)])]), .val (.tuple [(.tuple [dT, (.list [(dI 1)])]), (.list [(dI 2)])]), .val (dI 6)], (.tuple [(.tuple [dT, (.list [(dI 1)])]), (.list [(dI 2)])])),
  ([.val (.tuple [(.tuple [dF, (.list [(dI 3)])]), (.list [(dI 1)])]), .val (.tuple [(.tuple [dT, (.list [(dI 1)])]), (.list [(dI 2)])]), .val (dI 6)], (.tuple [(.tuple [dT, (.list [(dI 3)])]), (.list [(dI 2)])])),
  ([.val (.tuple [(.tuple [dT, (.list [(dI 1)])]), (.list [(dI 2)])]), .val (.tuple [(.tuple [dT, (.list [(dI 1)])]), (.list [(dI 3)])]), .val (dI 6)], (.tuple [(.tuple [dF, (.list [(dI 1)])]), (.list [(dI 6)])])),
  ([.val (.tuple [(.tuple [dF, (.list [(dI 4)])]), (.list [(dI 1)])]), .val (.tuple [(.tuple [dT, (.list [(dI 1)])]), (.list [(dI 2)])]), .val (dI 6)], (.tuple [(.tuple [dT, (.list [(dI 2)])]), (.list [(dI 1)])])),
  ([.val (.tuple [(.tuple [dF, (.list [(dI 6)])]), (.list [(dI 1)])]), .val (.tuple [(.tuple [dF, (.list [(dI 1)])]), (.list [(dI 6)])]), .val (dI 6)], (.tuple [(.tuple [dF, (.list [(dI 1)])]), (.list [(dI 1)])])),
  ([.val (.tuple [(.tuple [dF, (.list [])]), (.list [(dI 1)])]), .val (.tuple [(.tuple [dT, (.list [(dI 1)])]), (.list [(dI 4)])]), .val (dI 6)], (.tuple [(.tuple [dF, (.list [])]), (.list [(dI 1)])])),
  ([.val (.tuple [(.tuple [dF, (.list [(dI 5)])]), (.list [(dI 1)])]), .val (.tuple [(.tuple [dT, (.list [(dI 1)])]), (.list [(dI 2)])]), .val (dI 6)], (.tuple [(.tuple [dT, (.list [(dI 5)])]), (.list [(dI 2)])]))]
theorem ok_t6_2_35_0 : ckA (lv fns t6_1 60) 35 t6_2_35_0 = true := by decide +kernel
noncomputable def t6_2_35_1 : List (St × PyData) := [([.val (.tuple [(.tuple [dF, (.list [(dI 10)])]), (.list [(dI 1)])]), .val (.tuple [(.tuple [dF, (.list [(dI 1)])]), (.list [(dI 6)])]), .val (dI 6)], (.tuple [(.tuple [dF, (.list [(dI 5)])]), (.list [(dI 3)])])),
  ([.val (.tuple [(.tuple [dF, (.list [(dI 10)])]), (.list [(dI 1)])]), .val (.tuple [(.tuple [dF, (.list [])]), (.list [(dI 1)])]), .val (dI 6)], (.tuple [(.tuple [dF, (.list [])]), (.list [(dI 1)])])),
  ([.val (.tuple [(.tuple [dF, (.list [(dI 1)])]), (.list [(dI 6)])]), .val (.tuple [(.tuple [dT, (.list [(dI 1)])]), (.list [(dI 5)])]), .val (dI 6)], (.tuple [(.tuple [dT, (.list [(dI 1)])]), (.list [(dI 30)])])),
  ([.val (.tuple [(.tuple [dF, (.list [(dI 1)])]), (.list [(dI 6)])]), .val (.tuple [(.tuple [dF, (.list [(dI 6)])]), (.list [(dI 1)])]), .val (dI 6)], (.tuple [(.tuple [dF, (.list [(dI 1)])]), (.list [(dI 1)])])),
  ([.val (.tuple [(.tuple [dT, (.list [(dI 1)])]), (.list [(dI 30)])]), .val (.tuple [(.tuple [dF, (.list [(dI 60)])]), (.list [(dI 1)])]), .val (dI 6)], (.tuple [(.tuple [dT, (.list [(dI 2)])]), (.list [(dI 1)])]))]
theorem ok_t6_2_35_1 : ckA (lv fns t6_1 60) 35 t6_2_35_1 = true := by decide +kernel
noncomputable def t6_2_24_0 : List (St × PyData) := [([.val (.list [(.tuple [(.list [(dI 1)]), (.list [(dI 1)])]), (.tuple [(.list [(dI 1)]), (.list [(dI 1)])])]), .val (dI 6), .fn 25], (.list [(dI 2)])),
  ([.val (.list [(.tuple [(.list [(dI 1)]), (.list [(dI 1)])]), (.tuple [(.list [(dI 2)]), (.list [(dI 1)])]), (.tuple [(.list [(dI 1)]), (.list [(dI 1)])])]), .val (dI 6), .fn 25], (.list [(dI 4)])),
  ([.val (.list [(.tuple [(.list [(dI 1)]), (.list [(dI 2)])]), (.tuple [(.list [(dI 3)]), (.list [(dI 1)])]), (.tuple [(.list [(dI 3)]), (.list [(dI 1)])]), (.tuple [(.list [(dI 1)]), (.list [(dI 2)])])]), .val (dI 6), .fn 25], (.list [(dI 10)])),
  ([.val (.list [(.tuple [(.list [(dI 1)]), (.list [(dI 5)])]), (.tuple [(.list [(dI 4)]), (.list [(dI 2)])]), (.tuple [(.list [(dI 6)]), (.list [(dI 1)])]), (.tuple [(.list [(dI 4)]), (.list [(dI 2)])]), (.tuple [(.list [(dI 1)]), (.list [(dI 5)])])]), .val (dI 6), .fn 25], (.list [(dI 32)])),
  ([.val (.list [(.tuple [(.list [(dI 1)]), (.list [(dI 16)])]), (.tuple [(.list [(dI 5)]), (.list [(dI 5)])]), (.tuple [(.list [(dI 10)]), (.list [(dI 2)])]), (.tuple [(.list [(dI 10)]), (.list [(dI 2)])]), (.tuple [(.list [(dI 5)]), (.list [(dI 5)])]), (.tuple [(.list [(dI 1)]), (.list [(dI 16)])])]), .val (dI 6), .fn 25], (.list [(dI 58), (dI 1)]))]
theorem ok_t6_2_24_0 : ckA (lv fns t6_1 60) 24 t6_2_24_0 = true := by decide +kernel
noncomputable def t6_2 : Tab := (15, t6_2_15_0) :: (15, t6_2_15_1) :: (16, t6_2_16_0) :: (35, t6_2_35_0) :: (35, t6_2_35_1) :: (24, t6_2_24_0) :: t6_1
theorem t6_2_ok : TabOk fns t6_2 240 := TabOk.cons (t6_1_ok.one ok_t6_2_15_0) (TabOk.cons (t6_1_ok.one ok_t6_2_15_1) (TabOk.cons (t6_1_ok.one ok_t6_2_16_0) (TabOk.cons (t6_1_ok.one ok_t6_2_35_0) (TabOk.cons (t6_1_ok.one ok_t6_2_35_1) (TabOk.cons (t6_1_ok.one ok_t6_2_24_0) (t6_1_ok.more (by decide)))))))
noncomputable def t6_3_36_0 : List (St × PyData) := [([.val (dI 1), .val (dI 1), .val (dI 6)], (.tuple [(.tuple [dF, (.list [(dI 1)])]), (.list [(dI 1)])])),
  ([.val (dI 0), .val (dI 1), .val (dI 6)], (.tuple [(.tuple [dF, (.list [])]), (.list [(dI 1)])])),
  ([.val (dJ 0), .val (dI 2), .val (dI 6)], (.tuple [(.tuple [dT, (.list [(dI 1)])]), (.list [(dI 2)])])),
  ([.val (dJ 0), .val (dI 3), .val (dI 6)], (.tuple [(.tuple [dT, (.list [(dI 1)])]), (.list [(dI 3)])])),
  ([.val (dJ 0), .val (dI 4), .val (dI 6)], (.tuple [(.tuple [dT, (.list [(dI 1)])]), (.list [(dI 4)])])),
  ([.val (dJ 0), .val (dI 5), .val (dI 6)], (.tuple [(.tuple [dT, (.list [(dI 1)])]), (.list [(dI 5)])])),
  ([.val (dI 12), .val (dI 2), .val (dI 6)], (.tuple [(.tuple [dF, (.list [(dI 6)])]), (.list [(dI 1)])])),
  ([.val (dI 240), .val (dI 4), .val (dI 6)], (.tuple [(.tuple [dF, (.list [(dI 60)])]), (.list [(dI 1)])]))]
theorem ok_t6_3_36_0 : ckA (lv fns t6_2 60) 36 t6_3_36_0 = true := by decide +kernel
noncomputable def t6_3_37_0 : List (St × PyData) := [([.val (dI 5), .val (dI 6)], (.list [(.tuple [(.tuple [dF, (.list [(dI 1)])]), (.list [(dI 1)])]), (.tuple [(.tuple [dT, (.list [(dI 1)])]), (.list [(dI 2)])]), (.tuple [(.tuple [dF, (.list [(dI 1)])]), (.list [(dI 6)])]), (.tuple [(.tuple [dF, (.list [])]), (.list [(dI 1)])]), (.tuple [(.tuple [dT, (.list [(dI 1)])]), (.list [(dI 30)])])]))]
theorem ok_t6_3_37_0 : ckA (lv fns t6_2 60) 37 t6_3_37_0 = true := by decide +kernel
noncomputable def t6_3 : Tab := (36, t6_3_36_0) :: (37, t6_3_37_0) :: t6_2
theorem t6_3_ok : TabOk fns t6_3 300 := TabOk.cons (t6_2_ok.one ok_t6_3_36_0) (TabOk.cons (t6_2_ok.one ok_t6_3_37_0) (t6_2_ok.more (by decide)))
theorem law_6_2 : isT ((lv fns t6_3 60).S lawRest (sg0 6 2)) = true := by decide +kernel
theorem law_6_3 : isT ((lv fns t6_3 60).S lawRest (sg0 6 3)) = true := by decide +kernel
theorem law_6_4 : isT ((lv fns t6_3 60).S lawRest (sg0 6 4)) = true := by decide +kernel
theorem law_6_5 : isT ((lv fns t6_3 60).S lawRest (sg0 6 5)) = true := by decide +kernel
theorem hl_6 : ∀ b, 2 ≤ b → b ≤ 5 → ∃ T K σ, K ≤ 300 ∧ TabOk fns T K ∧ (lv fns T 60).S lawRest (sg0 6 b) = some (.ret (.bool true) σ) := by
  intro b h1 h2
  have hb : b = 2 ∨ b = 3 ∨ b = 4 ∨ b = 5 := by omega
  rcases hb with rfl | rfl | rfl | rfl
  · exact let ⟨σ, e⟩ := isT_snd law_6_2; ⟨_, _, σ, by decide, t6_3_ok, e⟩
  · exact let ⟨σ, e⟩ := isT_snd law_6_3; ⟨_, _, σ, by decide, t6_3_ok, e⟩
  · exact let ⟨σ, e⟩ := isT_snd law_6_4; ⟨_, _, σ, by decide, t6_3_ok, e⟩
  · exact let ⟨σ, e⟩ := isT_snd law_6_5; ⟨_, _, σ, by decide, t6_3_ok, e⟩
end Mine
end
section
open PySem PySem.W PySem.Calls PyProof.Rows
namespace Mine
noncomputable def t7_0_31_0 : List (St × PyData) := [([.val (.list [(dI 1)]), .val (.list [(dI 1)]), .val (dI 7)], (.tuple [(.list [(dI 1)]), (.list [])])),
  ([.val (.list [(dI 1)]), .val (.list [(dI 2)]), .val (dI 7)], (.tuple [(.list []), (.list [(dI 1)])])),
  ([.val (.list [(dI 2)]), .val (.list [(dI 1)]), .val (dI 7)], (.tuple [(.list [(dI 2)]), (.list [])])),
  ([.val (.list [(dI 3)]), .val (.list [(dI 1)]), .val (dI 7)], (.tuple [(.list [(dI 3)]), (.list [])])),
  ([.val (.list [(dI 3)]), .val (.list [(dI 2)]), .val (dI 7)], (.tuple [(.list [(dI 1)]), (.list [(dI 1)])])),
  ([.val (.list [(dI 1)]), .val (.list [(dI 3)]), .val (dI 7)], (.tuple [(.list []), (.list [(dI 1)])])),
  ([.val (.list [(dI 4)]), .val (.list [(dI 1)]), .val (dI 7)], (.tuple [(.list [(dI 4)]), (.list [])])),
  ([.val (.list [(dI 4)]), .val (.list [(dI 2)]), .val (dI 7)], (.tuple [(.list [(dI 2)]), (.list [])]))]
theorem ok_t7_0_31_0 : ckA (lv fns tC 60) 31 t7_0_31_0 = true := by decide +kernel
noncomputable def t7_0_31_1 : List (St × PyData) := [([.val (.list [(dI 2)]), .val (.list [(dI 2)]), .val (dI 7)], (.tuple [(.list [(dI 1)]), (.list [])])),
  ([.val (.list [(dI 6)]), .val (.list [(dI 1)]), .val (dI 7)], (.tuple [(.list [(dI 6)]), (.list [])])),
  ([.val (.list [(dI 6)]), .val (.list [(dI 6)]), .val (dI 7)], (.tuple [(.list [(dI 1)]), (.list [])])),
  ([.val (.list [(dI 1)]), .val (.list [(dI 4)]), .val (dI 7)], (.tuple [(.list []), (.list [(dI 1)])])),
  ([.val (.list [(dI 5)]), .val (.list [(dI 1)]), .val (dI 7)], (.tuple [(.list [(dI 5)]), (.list [])])),
  ([.val (.list [(dI 5)]), .val (.list [(dI 2)]), .val (dI 7)], (.tuple [(.list [(dI 2)]), (.list [(dI 1)])])),
  ([.val (.list [(dI 10)]), .val (.list [(dI 1)]), .val (dI 7)], (.tuple [(.list [(dI 10)]), (.list [])])),
  ([.val (.list [(dI 10)]), .val (.list [(dI 6)]), .val (dI 7)], (.tuple [(.list [(dI 1)]), (.list [(dI 4)])]))]
theorem ok_t7_0_31_1 : ckA (lv fns tC 60) 31 t7_0_31_1 = true := by decide +kernel
noncomputable def t7_0_31_2 : List (St × PyData) := [([.val (.list [(dI 6)]), .val (.list [(dI 4)]), .val (dI 7)], (.tuple [(.list [(dI 1)]), (.list [(dI 2)])])),
  ([.val (.list [(dI 10)]), .val (.list [(dI 2)]), .val (dI 7)], (.tuple [(.list [(dI 5)]), (.list [])])),
  ([.val (.list [(dI 6)]), .val (.list [(dI 2)]), .val (dI 7)], (.tuple [(.list [(dI 3)]), (.list [])])),
  ([.val (.list [(dI 2)]), .val (.list [(dI 3)]), .val (dI 7)], (.tuple [(.list []), (.list [(dI 2)])])),
  ([.val (.list [(dI 1)]), .val (.list [(dI 5)]), .val (dI 7)], (.tuple [(.list []), (.list [(dI 1)])])),
  ([.val (.list [(dI 1)]), .val (.list [(dI 6)]), .val (dI 7)], (.tuple [(.list []), (.list [(dI 1)])])),
  ([.val (.list [(dI 12)]), .val (.list [(dI 2)]), .val (dI 7)], (.tuple [(.list [(dI 6)]), (.list [])])),
  ([.val (.list [(dI 112), (dI 1)]), .val (.list [(dI 4)]), .val (dI 7)], (.tuple [(.list [(dI 60)]), (.list [])]))]
theorem ok_t7_0_31_2 : ckA (lv fns tC 60) 31 t7_0_31_2 = true := by decide +kernel
noncomputable def t7_0_31_3 : List (St × PyData) := [([.val (.list [(dI 4)]), .val (.list [(dI 4)]), .val (dI 7)], (.tuple [(.list [(dI 1)]), (.list [])])),
  ([.val (.list [(dI 60)]), .val (.list [(dI 30)]), .val (dI 7)], (.tuple [(.list [(dI 2)]), (.list [])])),
  ([.val (.list [(dI 30)]), .val (.list [(dI 30)]), .val (dI 7)], (.tuple [(.list [(dI 1)]), (.list [])]))]
theorem ok_t7_0_31_3 : ckA (lv fns tC 60) 31 t7_0_31_3 = true := by decide +kernel
noncomputable def t7_0_25_0 : List (St × PyData) := [([.val (.list [(dI 1)]), .val (.list [(dI 1)]), .val (dI 7)], (.list [(dI 1)])),
  ([.val (.list [(dI 1)]), .val (.list [(dI 2)]), .val (dI 7)], (.list [(dI 2)])),
  ([.val (.list [(dI 2)]), .val (.list [(dI 1)]), .val (dI 7)], (.list [(dI 2)])),
  ([.val (.list [(dI 1)]), .val (.list [(dI 3)]), .val (dI 7)], (.list [(dI 3)])),
  ([.val (.list [(dI 3)]), .val (.list [(dI 1)]), .val (dI 7)], (.list [(dI 3)])),
  ([.val (.list [(dI 1)]), .val (.list [(dI 5)]), .val (dI 7)], (.list [(dI 5)])),
  ([.val (.list [(dI 2)]), .val (.list [(dI 2)]), .val (dI 7)], (.list [(dI 4)])),
  ([.val (.list [(dI 1)]), .val (.list [(dI 4)]), .val (dI 7)], (.list [(dI 4)]))]
theorem ok_t7_0_25_0 : ckA (lv fns tC 60) 25 t7_0_25_0 = true := by decide +kernel
noncomputable def t7_0_25_1 : List (St × PyData) := [([.val (.list [(dI 2)]), .val (.list [(dI 3)]), .val (dI 7)], (.list [(dI 6)])),
  ([.val (.list [(dI 5)]), .val (.list [(dI 1)]), .val (dI 7)], (.list [(dI 5)])),
  ([.val (.list [(dI 4)]), .val (.list [(dI 2)]), .val (dI 7)], (.list [(dI 8)])),
  ([.val (.list [(dI 6)]), .val (.list [(dI 1)]), .val (dI 7)], (.list [(dI 6)])),
  ([.val (.list [(dI 1)]), .val (.list [(dI 16)]), .val (dI 7)], (.list [(dI 16)])),
  ([.val (.list [(dI 2)]), .val (.list [(dI 5)]), .val (dI 7)], (.list [(dI 10)])),
  ([.val (.list [(dI 16)]), .val (.list [(dI 1)]), .val (dI 7)], (.list [(dI 16)])),
  ([.val (.list [(dI 5)]), .val (.list [(dI 5)]), .val (dI 7)], (.list [(dI 25)]))]
theorem ok_t7_0_25_1 : ckA (lv fns tC 60) 25 t7_0_25_1 = true := by decide +kernel
noncomputable def t7_0_25_2 : List (St × PyData) := [([.val (.list [(dI 10)]), .val (.list [(dI 2)]), .val (dI 7)], (.list [(dI 20)])),
  ([.val (.list []), .val (.list [(dI 1)]), .val (dI 7)], (.list [])),
  ([.val (.list [(dI 3)]), .val (.list [(dI 3)]), .val (dI 7)], (.list [(dI 9)])),
  ([.val (.list [(dI 5)]), .val (.list [(dI 2)]), .val (dI 7)], (.list [(dI 10)])),
  ([.val (.list []), .val (.list [(dI 6)]), .val (dI 7)], (.list [])),
  ([.val (.list [(dI 6)]), .val (.list [(dI 5)]), .val (dI 7)], (.list [(dI 30)]))]
theorem ok_t7_0_25_2 : ckA (lv fns tC 60) 25 t7_0_25_2 = true := by decide +kernel
noncomputable def t7_0_3_0 : List (St × PyData) := [([.val (.list []), .val (.list [(dI 1)]), .val (dI 7)], (.list [(dI 1)])),
  ([.val (.list [(dI 1)]), .val (.list []), .val (dI 7)], (.list [(dI 1)])),
  ([.val (.list [(dI 1)]), .val (.list [(dI 1)]), .val (dI 7)], (.list [(dI 2)])),
  ([.val (.list [(dI 2)]), .val (.list []), .val (dI 7)], (.list [(dI 2)])),
  ([.val (.list []), .val (.list [(dI 2)]), .val (dI 7)], (.list [(dI 2)])),
  ([.val (.list [(dI 2)]), .val (.list [(dI 2)]), .val (dI 7)], (.list [(dI 4)])),
  ([.val (.list [(dI 4)]), .val (.list [(dI 1)]), .val (dI 7)], (.list [(dI 5)])),
  ([.val (.list [(dI 5)]), .val (.list []), .val (dI 7)], (.list [(dI 5)]))]
theorem ok_t7_0_3_0 : ckA (lv fns tC 60) 3 t7_0_3_0 = true := by decide +kernel
noncomputable def t7_0_3_1 : List (St × PyData) := [([.val (.list []), .val (.list [(dI 5)]), .val (dI 7)], (.list [(dI 5)])),
  ([.val (.list [(dI 5)]), .val (.list [(dI 5)]), .val (dI 7)], (.list [(dI 10)])),
  ([.val (.list [(dI 10)]), .val (.list [(dI 4)]), .val (dI 7)], (.list [(dI 14)])),
  ([.val (.list [(dI 14)]), .val (.list [(dI 2)]), .val (dI 7)], (.list [(dI 16)])),
  ([.val (.list [(dI 16)]), .val (.list []), .val (dI 7)], (.list [(dI 16)])),
  ([.val (.list []), .val (.list [(dI 16)]), .val (dI 7)], (.list [(dI 16)])),
  ([.val (.list [(dI 16)]), .val (.list [(dI 16)]), .val (dI 7)], (.list [(dI 32)])),
  ([.val (.list [(dI 32)]), .val (.list [(dI 14)]), .val (dI 7)], (.list [(dI 46)]))]
theorem ok_t7_0_3_1 : ckA (lv fns tC 60) 3 t7_0_3_1 = true := by decide +kernel
noncomputable def t7_0_3_2 : List (St × PyData) := [([.val (.list [(dI 46)]), .val (.list [(dI 10)]), .val (dI 7)], (.list [(dI 56)])),
  ([.val (.list [(dI 56)]), .val (.list [(dI 5)]), .val (dI 7)], (.list [(dI 61)])),
  ([.val (.list [(dI 61)]), .val (.list []), .val (dI 7)], (.list [(dI 61)])),
  ([.val (.list [(dI 1)]), .val (.list [(dI 2)]), .val (dI 7)], (.list [(dI 3)])),
  ([.val (.list [(dI 3)]), .val (.list [(dI 1)]), .val (dI 7)], (.list [(dI 4)])),
  ([.val (.list [(dI 2)]), .val (.list [(dI 3)]), .val (dI 7)], (.list [(dI 5)])),
  ([.val (.list [(dI 5)]), .val (.list [(dI 3)]), .val (dI 7)], (.list [(dI 8)])),
  ([.val (.list [(dI 8)]), .val (.list [(dI 2)]), .val (dI 7)], (.list [(dI 10)]))]
theorem ok_t7_0_3_2 : ckA (lv fns tC 60) 3 t7_0_3_2 = true := by decide +kernel
noncomputable def t7_0_3_3 : List (St × PyData) := [([.val (.list [(dI 5)]), .val (.list [(dI 8)]), .val (dI 7)], (.list [(dI 13)])),
  ([.val (.list [(dI 13)]), .val (.list [(dI 6)]), .val (dI 7)], (.list [(dI 19)])),
  ([.val (.list [(dI 19)]), .val (.list [(dI 8)]), .val (dI 7)], (.list [(dI 27)])),
  ([.val (.list [(dI 27)]), .val (.list [(dI 5)]), .val (dI 7)], (.list [(dI 32)])),
  ([.val (.list [(dI 16)]), .val (.list [(dI 25)]), .val (dI 7)], (.list [(dI 41)])),
  ([.val (.list [(dI 41)]), .val (.list [(dI 20)]), .val (dI 7)], (.list [(dI 61)])),
  ([.val (.list [(dI 61)]), .val (.list [(dI 20)]), .val (dI 7)], (.list [(dI 81)])),
  ([.val (.list [(dI 81)]), .val (.list [(dI 25)]), .val (dI 7)], (.list [(dI 106)]))]
theorem ok_t7_0_3_3 : ckA (lv fns tC 60) 3 t7_0_3_3 = true := by decide +kernel
noncomputable def t7_0_3_4 : List (St × PyData) := [([.val (.list [(dI 106)]), .val (.list [(dI 16)]), .val (dI 7)], (.list [(dI 122)])),
  ([.val (.list [(dI 61)]), .val (.list [(dI 61)]), .val (dI 7)], (.list [(dI 122)]))]
theorem ok_t7_0_3_4 : ckA (lv fns tC 60) 3 t7_0_3_4 = true := by decide +kernel
noncomputable def t7_0 : Tab := (31, t7_0_31_0) :: (31, t7_0_31_1) :: (31, t7_0_31_2) :: (31, t7_0_31_3) :: (25, t7_0_25_0) :: (25, t7_0_25_1) :: (25, t7_0_25_2) :: (3, t7_0_3_0) :: (3, t7_0_3_1) :: (3, t7_0_3_2) :: (3, t7_0_3_3) :: (3, t7_0_3_4) :: tC
theorem t7_0_ok : TabOk fns t7_0 120 := TabOk.cons (tC_ok.one ok_t7_0_31_0) (TabOk.cons (tC_ok.one ok_t7_0_31_1) (TabOk.cons (tC_ok.one ok_t7_0_31_2) (TabOk.cons (tC_ok.one ok_t7_0_31_3) (TabOk.cons (tC_ok.one ok_t7_0_25_0) (TabOk.cons (tC_ok.one ok_t7_0_25_1) (TabOk.cons (tC_ok.one ok_t7_0_25_2) (TabOk.cons (tC_ok.one ok_t7_0_3_0) (TabOk.cons (tC_ok.one ok_t7_0_3_1) (TabOk.cons (tC_ok.one ok_t7_0_3_2) (TabOk.cons (tC_ok.one ok_t7_0_3_3) (TabOk.cons (tC_ok.one ok_t7_0_3_4) (tC_ok.more (by decide)))))))))))))
noncomputable def t7_1_12_0 : List (St × PyData) := [([.val (.list [(dI 1)]), .val (.list [(dI 1)]), .val (dI 7), .fn 31], (.list [(dI 1)])),
  ([.val (.list [(dI 1)]), .val (.list [(dI 2)]), .val (dI 7), .fn 31], (.list [(dI 1)])),
  ([.val (.list [(dI 3)]), .val (.list [(dI 1)]), .val (dI 7), .fn 31], (.list [(dI 1)])),
  ([.val (.list [(dI 3)]), .val (.list [(dI 2)]), .val (dI 7), .fn 31], (.list [(dI 1)])),
  ([.val (.list [(dI 1)]), .val (.list [(dI 3)]), .val (dI 7), .fn 31], (.list [(dI 1)])),
  ([.val (.list [(dI 4)]), .val (.list [(dI 1)]), .val (dI 7), .fn 31], (.list [(dI 1)])),
  ([.val (.list [(dI 4)]), .val (.list [(dI 2)]), .val (dI 7), .fn 31], (.list [(dI 2)])),
  ([.val (.list [(dI 6)]), .val (.list [(dI 1)]), .val (dI 7), .fn 31], (.list [(dI 1)]))]
theorem ok_t7_1_12_0 : ckA (lv fns t7_0 60) 12 t7_1_12_0 = true := by decide +kernel
noncomputable def t7_1_12_1 : List (St × PyData) := [([.val (.list [(dI 6)]), .val (.list [(dI 6)]), .val (dI 7), .fn 31], (.list [(dI 6)])),
  ([.val (.list [(dI 1)]), .val (.list [(dI 4)]), .val (dI 7), .fn 31], (.list [(dI 1)])),
  ([.val (.list [(dI 5)]), .val (.list [(dI 1)]), .val (dI 7), .fn 31], (.list [(dI 1)])),
  ([.val (.list [(dI 5)]), .val (.list [(dI 2)]), .val (dI 7), .fn 31], (.list [(dI 1)])),
  ([.val (.list [(dI 10)]), .val (.list [(dI 1)]), .val (dI 7), .fn 31], (.list [(dI 1)])),
  ([.val (.list [(dI 10)]), .val (.list [(dI 6)]), .val (dI 7), .fn 31], (.list [(dI 2)])),
  ([.val (.list [(dI 2)]), .val (.list [(dI 3)]), .val (dI 7), .fn 31], (.list [(dI 1)])),
  ([.val (.list [(dI 1)]), .val (.list [(dI 5)]), .val (dI 7), .fn 31], (.list [(dI 1)]))]
theorem ok_t7_1_12_1 : ckA (lv fns t7_0 60) 12 t7_1_12_1 = true := by decide +kernel
noncomputable def t7_1_12_2 : List (St × PyData) := [([.val (.list [(dI 1)]), .val (.list [(dI 6)]), .val (dI 7), .fn 31], (.list [(dI 1)])),
  ([.val (.list [(dI 12)]), .val (.list [(dI 2)]), .val (dI 7), .fn 31], (.list [(dI 2)])),
  ([.val (.list [(dI 112), (dI 1)]), .val (.list [(dI 4)]), .val (dI 7), .fn 31], (.list [(dI 4)])),
  ([.val (.list [(dI 60)]), .val (.list [(dI 30)]), .val (dI 7), .fn 31], (.list [(dI 30)]))]
theorem ok_t7_1_12_2 : ckA (lv fns t7_0 60) 12 t7_1_12_2 = true := by decide +kernel
noncomputable def t7_1_23_0 : List (St × PyData) := [([.val (dI 1), .val (dI 0), .val (dI 7), .fn 25], (.list [(dI 1)])),
  ([.val (dI 1), .val (dI 1), .val (dI 7), .fn 25], (.list [(dI 1)])),
  ([.val (dI 2), .val (dI 0), .val (dI 7), .fn 25], (.list [(dI 1)])),
  ([.val (dI 2), .val (dI 1), .val (dI 7), .fn 25], (.list [(dI 2)])),
  ([.val (dI 2), .val (dI 2), .val (dI 7), .fn 25], (.list [(dI 1)])),
  ([.val (dI 3), .val (dI 0), .val (dI 7), .fn 25], (.list [(dI 1)])),
  ([.val (dI 3), .val (dI 1), .val (dI 7), .fn 25], (.list [(dI 3)])),
  ([.val (dI 3), .val (dI 2), .val (dI 7), .fn 25], (.list [(dI 3)]))]
theorem ok_t7_1_23_0 : ckA (lv fns t7_0 60) 23 t7_1_23_0 = true := by decide +kernel
noncomputable def t7_1_23_1 : List (St × PyData) := [([.val (dI 3), .val (dI 3), .val (dI 7), .fn 25], (.list [(dI 1)])),
  ([.val (dI 4), .val (dI 0), .val (dI 7), .fn 25], (.list [(dI 1)])),
  ([.val (dI 4), .val (dI 1), .val (dI 7), .fn 25], (.list [(dI 4)])),
  ([.val (dI 4), .val (dI 2), .val (dI 7), .fn 25], (.list [(dI 6)])),
  ([.val (dI 4), .val (dI 3), .val (dI 7), .fn 25], (.list [(dI 4)])),
  ([.val (dI 4), .val (dI 4), .val (dI 7), .fn 25], (.list [(dI 1)])),
  ([.val (dI 5), .val (dI 0), .val (dI 7), .fn 25], (.list [(dI 1)])),
  ([.val (dI 5), .val (dI 1), .val (dI 7), .fn 25], (.list [(dI 5)]))]
theorem ok_t7_1_23_1 : ckA (lv fns t7_0 60) 23 t7_1_23_1 = true := by decide +kernel
noncomputable def t7_1_23_2 : List (St × PyData) := [([.val (dI 5), .val (dI 2), .val (dI 7), .fn 25], (.list [(dI 10)])),
  ([.val (dI 5), .val (dI 3), .val (dI 7), .fn 25], (.list [(dI 10)])),
  ([.val (dI 5), .val (dI 4), .val (dI 7), .fn 25], (.list [(dI 5)])),
  ([.val (dI 5), .val (dI 5), .val (dI 7), .fn 25], (.list [(dI 1)]))]
theorem ok_t7_1_23_2 : ckA (lv fns t7_0 60) 23 t7_1_23_2 = true := by decide +kernel
noncomputable def t7_1 : Tab := (12, t7_1_12_0) :: (12, t7_1_12_1) :: (12, t7_1_12_2) :: (23, t7_1_23_0) :: (23, t7_1_23_1) :: (23, t7_1_23_2) :: t7_0
theorem t7_1_ok : TabOk fns t7_1 180 := TabOk.cons (t7_0_ok.one ok_t7_1_12_0) (TabOk.cons (t7_0_ok.one ok_t7_1_12_1) (TabOk.cons (t7_0_ok.one ok_t7_1_12_2) (TabOk.cons (t7_0_ok.one ok_t7_1_23_0) (TabOk.cons (t7_0_ok.one ok_t7_1_23_1) (TabOk.cons (t7_0_ok.one ok_t7_1_23_2) (t7_0_ok.more (by decide)))))))
noncomputable def t7_2_15_0 : List (St × PyData) := [([.val (.tuple [dF, (.list [(dI 1)])]), .val (.tuple [dF, (.list [(dI 1)])]), .val (dI 7), .fn 31], (.tuple [(.tuple [dF, (.list [(dI 1)])]), (.list [(dI 1)])])),
  ([.val (.tuple [dF, (.list [])]), .val (.tuple [dF, (.list [(dI 1)])]), .val (dI 7), .fn 31], (.tuple [(.tuple [dF, (.list [])]), (.list [(dI 1)])])),
  ([.val (.tuple [dT, (.list [(dI 1)])]), .val (.tuple [dF, (.list [(dI 2)])]), .val (dI 7), .fn 31], (.tuple [(.tuple [dT, (.list [(dI 1)])]), (.list [(dI 2)])])),
  ([.val (.tuple [dF, (.list [(dI 3)])]), .val (.tuple [dF, (.list [(dI 1)])]), .val (dI 7), .fn 31], (.tuple [(.tuple [dF, (.list [(dI 3)])]), (.list [(dI 1)])])),
  ([.val (.tuple [dT, (.list [(dI 1)])]), .val (.tuple [dF, (.list [(dI 3)])]), .val (dI 7), .fn 31], (.tuple [(.tuple [dT, (.list [(dI 1)])]), (.list [(dI 3)])])),
  ([.val (.tuple [dF, (.list [(dI 4)])]), .val (.tuple [dF, (.list [(dI 1)])]), .val (dI 7), .fn 31], (.tuple [(.tuple [dF, (.list [(dI 4)])]), (.list [(dI 1)])])),
  ([.val (.tuple [dF, (.list [(dI 6)])]), .val (.tuple [dF, (.list [(dI 1)])]), .val (dI 7), .fn 31], (.tuple [(.tuple [dF, (.list [(dI 6)])]), (.list [(dI 1)])])),
  ([.val (.tuple [dT, (.list [(dI 1)])]), .val (.tuple [dF, (.list [(dI 4)])]), .val (dI 7), .fn 31], (.tuple [(.tuple [dT, (.list [(dI 1)])]), (.list [(dI 4)])]))]
theorem ok_t7_2_15_0 : ckA (lv fns t7_1 60) 15 t7_2_15_0 = true := by decide +kernel
noncomputable def t7_2_15_1 : List (St × PyData) := [([.val (.tuple [dF, (.list [(dI 5)])]), .val (.tuple [dF, (.list [(dI 1)])]), .val (dI 7), .fn 31], (.tuple [(.tuple [dF, (.list [(dI 5)])]), (.list [(dI 1)])])),
  ([.val (.tuple [dF, (.list [(dI 10)])]), .val (.tuple [dF, (.list [(dI 1)])]), .val (dI 7), .fn 31], (.tuple [(.tuple [dF, (.list [(dI 10)])]), (.list [(dI 1)])])),
  ([.val (.tuple [dT, (.list [(dI 1)])]), .val (.tuple [dF, (.list [(dI 5)])]), .val (dI 7), .fn 31], (.tuple [(.tuple [dT, (.list [(dI 1)])]), (.list [(dI 5)])])),
  ([.val (.tuple [dF, (.list [(dI 12)])]), .val (.tuple [dF, (.list [(dI 2)])]), .val (dI 7), .fn 31], (.tuple [(.tuple [dF, (.list [(dI 6)])]), (.list [(dI 1)])])),
  ([.val (.tuple [dF, (.list [(dI 112), (dI 1)])]), .val (.tuple [dF, (.list [(dI 4)])]), .val (dI 7), .fn 31], (.tuple [(.tuple [dF, (.list [(dI 60)])]), (.list [(dI 1)])]))]
theorem ok_t7_2_15_1 : ckA (lv fns t7_1 60) 15 t7_2_15_1 = true := by decide +kernel
noncomputable def t7_2_16_0 : List (St × PyData) := [([.val (.tuple [(.tuple [dF, (.list [])]), (.list [(dI 1)])]), .val (.tuple [(.tuple [dF, (.list [(dI 1)])]), (.list [(dI 1)])]), .val (dI 7), .fn 25, .fn 31], (.tuple [(.tuple [dF, (.list [(dI 1)])]), (.list [(dI 1)])])),
  ([.val (.tuple [(.tuple [dF, (.list [(dI 1)])]), (.list [(dI 1)])]), .val (.tuple [(.tuple [dT, (.list [(dI 3)])]), (.list [(dI 2)])]), .val (dI 7), .fn 25, .fn 31], (.tuple [(.tuple [dT, (.list [(dI 1)])]), (.list [(dI 2)])])),
  ([.val (.tuple [(.tuple [dF, (.list [(dI 1)])]), (.list [(dI 1)])]), .val (.tuple [(.tuple [dT, (.list [(dI 2)])]), (.list [(dI 1)])]), .val (dI 7), .fn 25, .fn 31], (.tuple [(.tuple [dT, (.list [(dI 1)])]), (.list [(dI 1)])])),
  ([.val (.tuple [(.tuple [dT, (.list [(dI 1)])]), (.list [(dI 1)])]), .val (.tuple [(.tuple [dF, (.list [(dI 1)])]), (.list [(dI 1)])]), .val (dI 7), .fn 25, .fn 31], (.tuple [(.tuple [dF, (.list [])]), (.list [(dI 1)])])),
  ([.val (.tuple [(.tuple [dF, (.list [(dI 1)])]), (.list [(dI 1)])]), .val (.tuple [(.tuple [dT, (.list [(dI 5)])]), (.list [(dI 2)])]), .val (dI 7), .fn 25, .fn 31], (.tuple [(.tuple [dT, (.list [(dI 3)])]), (.list [(dI 2)])])),
  ([.val (.tuple [(.tuple [dT, (.list [(dI 3)])]), (.list [(dI 2)])]), .val (.tuple [(.tuple [dF, (.list [(dI 5)])]), (.list [(dI 3)])]), .val (dI 7), .fn 25, .fn 31], (.tuple [(.tuple [dF, (.list [(dI 1)])]), (.list [(dI 6)])])),
  ([.val (.tuple [(.tuple [dF, (.list [(dI 1)])]), (.list [(dI 6)])]), .val (.tuple [(.tuple [dF, (.list [])]), (.list [(dI 1)])]), .val (dI 7), .fn 25, .fn 31], (.tuple [(.tuple [dF, (.list [(dI 1)])]), (.list [(dI 6)])]))]
theorem ok_t7_2_16_0 : ckA (lv fns t7_1 60) 16 t7_2_16_0 = true := by decide +kernel
noncomputable def t7_2_35_0 : List (St × PyData) := [([.val (.tuple [(.tuple [dF, (.list [(dI 1)])]), (.list [(dI 1)])]), .val (.tuple [(.tuple [dF, (.list [(dI 1)])]), (.list [(dI 1)])]), .val (dI 7)], (.tuple [(.tuple [dF, (.list [(dI 1)])]), (.list [(dI 1)])])),
  ([.val (.tuple [(.tuple [dF, (.list [(dI 1)])]), (.list [(dI 1)])]), .val (.tuple [(.tuple [dT, (.list [(dI 1)])]), (.list [(dI 2)])]), .val (dI 7)], (.tuple [(.tuple [dT, (.list [(dI 1)])]), (.list [(dI 2)])])),
  ([.val (.tuple [(.tuple [dF, (.list [(dI 3)])]), (.list [(dI 1)])]), .val (.tuple [(.tuple [dT, (.list [(dI 1)])]), (.list [(dI 2)])]), .val (dI 7)], (.tuple [(.tuple [dT, (.list [(dI 3)])]), (.list [(dI 2)])])),
  ([.val (.tuple [(.tuple [dT, (.list [(dI 1)])]), (.list [(dI 2)])]), .val (.tuple [(.tuple [dT, (.list [(dI 1)])]), (.list [(dI 3)])]), .val (dI 7)], (.tuple [(.tuple [dF, (.list [(dI 1)])]), (.list [(dI 6)])])),
  ([.val (.tuple [(.tuple [dF, (.list [(dI 4)])]), (.list [(dI 1)])]), .val (.tuple [(.tuple [dT, (.list [(dI 1)])]), (.list [(dI 2)])]), .val (dI 7)], (.tuple [(.tuple [dT, (.list [(dI 2)])]), (.list [(dI 1)])])),
  ([.val (.tuple [(.tuple [dF, (.list [(dI 6)])]), (.list [(dI 1)])]), .val (.tuple [(.tuple [dF, (.list [(dI 1)])]), (.list [(dI 6)])]), .val (dI 7)], (.tuple [(.tuple [dF, (.list [(dI 1)])]), (.list [(dI 1)])])),
  ([.val (.tuple [(.tuple [dF, (.list [])]), (.list [(dI 1)])]), .val (.tuple [(.tuple [dT, (.list [(dI 1)])]), (.list [(dI 4)])]), .val (dI 7)], (.tuple [(.tuple [dF, (.list [])]), (.list [(dI 1)])])),
  ([.val (.tuple [(.tuple [dF, (.list [(dI 5)])]), (.list [(dI 1)])]), .val (.tuple [(.tuple [dT, (.list [(dI 1)])]), (.list [(dI 2)])]), .val (dI 7)], (.tuple [(.tuple [dT, (.list [(dI 5)])]), (.list [(dI 2)])]))]
theorem ok_t7_2_35_0 : ckA (lv fns t7_1 60) 35 t7_2_35_0 = true := by decide +kernel
noncomputable def t7_2_35_1 : List (St × PyData) := [([.val (.tuple [(.tuple [dF, (.list [(dI 10)])]), (.list [(dI 1)])]), .val (.tuple [(.tuple [dF, (.list [(dI 1)])]), (.list [(dI 6)])]), .val (dI 7)], (.tuple [(.tuple [dF, (.list [(dI 5)])]), (.list [(dI 3)])])),
  ([.val (.tuple [(.tuple [dF, (.list [(dI 10)])]), (.list [(dI 1)])]), .val (.tuple [(.tuple [dF, (.list [])]), (.list [(dI 1)])]), .val (dI 7)], (.tuple [(.tuple [dF, (.list [])]), (.list [(dI 1)])])),
  ([.val (.tuple [(.tuple [dF, (.list [(dI 1)])]), (.list [(dI 6)])]), .val (.tuple [(.tuple [dT, (.list [(dI 1)])]), (.list [(dI 5)])]), .val (dI 7)], (.tuple [(.tuple [dT, (.list [(dI 1)])]), (.list [(dI 30)])])),
  ([.val (.tuple [(.tuple [dF, (.list [(dI 1)])]), (.list [(dI 6)])]), .val (.tuple [(.tuple [dF, (.list [(dI 6)])]), (.list [(dI 1)])]), .val (dI 7)], (.tuple [(.tuple [dF, (.list [(dI 1)])]), (.list [(dI 1)])])),
  ([.val (.tuple [(.tuple [dT, (.list [(dI 1)])]), (.list [(dI 30)])]), .val (.tuple [(.tuple [dF, (.list [(dI 60)])]), (.list [(dI 1)])]), .val (dI 7)], (.tuple [(.tuple [dT, (.list [(dI 2)])]), (.list [(dI 1)])]))]
theorem ok_t7_2_35_1 : ckA (lv fns t7_1 60) 35 t7_2_35_1 = true := by decide +kernel
noncomputable def t7_2_24_0 : List (St × PyData) := [([.val (.list [(.tuple [(.list [(dI 1)]), (.list [(dI 1)])]), (.tuple [(.list [(dI 1)]), (.list [(dI 1)])])]), .val (dI 7), .fn 25], (.list [(dI 2)])),
  ([.val (.list [(.tuple [(.list [(dI 1)]), (.list [(dI 1)])]), (.tuple [(.list [(dI 2)]), (.list [(dI 1)])]), (.tuple [(.list [(dI 1)]), (.list [(dI 1)])])]), .val (dI 7), .fn 25], (.list [(dI 4)])),
  ([.val (.list [(.tuple [(.list [(dI 1)]), (.list [(dI 2)])]), (.tuple [(.list [(dI 3)]), (.list [(dI 1)])]), (.tuple [(.list [(dI 3)]), (.list [(dI 1)])]), (.tuple [(.list [(dI 1)]), (.list [(dI 2)])])]), .val (dI 7), .fn 25], (.list [(dI 10)])),
  ([.val (.list [(.tuple [(.list [(dI 1)]), (.list [(dI 5)])]), (.tuple [(.list [(dI 4)]), (.list [(dI 2)])]), (.tuple [(.list [(dI 6)]), (.list [(dI 1)])]), (.tuple [(.list [(dI 4)]), (.list [(dI 2)])]), (.tuple [(.list [(dI 1)]), (.list [(dI 5)])])]), .val (dI 7), .fn 25], (.list [(dI 32)])),
  ([.val (.list [(.tuple [(.list [(dI 1)]), (.list [(dI 16)])]), (.tuple [(.list [(dI 5)]), (.list [(dI 5)])]), (.tuple [(.list [(dI 10)]), (.list [(dI 2)])]), (.tuple [(.list [(dI 10)]), (.list [(dI 2)])]), (.tuple [(.list [(dI 5)]), (.list [(dI 5)])]), (.tuple [(.list [(dI 1)]), (.list [(dI 16)])])]), .val (dI 7), .fn 25], (.list [(dI 122)]))]
theorem ok_t7_2_24_0 : ckA (lv fns t7_1 60) 24 t7_2_24_0 = true := by decide +kernel
noncomputable def t7_2 : Tab := (15, t7_2_15_0) :: (15, t7_2_15_1) :: (16, t7_2_16_0) :: (35, t7_2_35_0) :: (35, t7_2_35_1) :: (24, t7_2_24_0) :: t7_1
theorem t7_2_ok : TabOk fns t7_2 240 := TabOk.cons (t7_1_ok.one ok_t7_2_15_0) (TabOk.cons (t7_1_ok.one ok_t7_2_15_1) (TabOk.cons (t7_1_ok.one ok_t7_2_16_0) (TabOk.cons (t7_1_ok.one ok_t7_2_35_0) (TabOk.cons (t7_1_ok.one ok_t7_2_35_1) (TabOk.cons (t7_1_ok.one ok_t7_2_24_0) (t7_1_ok.more (by decide)))))))
noncomputable def t7_3_36_0 : List (St × PyData) := [([.val (dI 1), .val (dI 1), .val (dI 7)], (.tuple [(.tuple [dF, (.list [(dI 1)])]), (.list [(dI 1)])])),
  ([.val (dI 0), .val (dI 1), .val (dI 7)], (.tuple [(.tuple [dF, (.list [])]), (.list [(dI 1)])])),
  ([.val (dJ 0), .val (dI 2), .val (dI 7)], (.tuple [(.tuple [dT, (.list [(dI 1)])]), (.list [(dI 2)])])),
  ([.val (dJ 0), .val (dI 3), .val (dI 7)], (.tuple [(.tuple [dT, (.list [(dI 1)])]), (.list [(dI 3)])])),
  ([.val (dJ 0), .val (dI 4), .val (dI 7)], (.tuple [(.tuple [dT, (.list [(dI 1)])]), (.list [(dI 4)])])),
  ([.val (dJ 0), .val (dI 5), .val (dI 7)], (.tuple [(.tuple [dT, (.list [(dI 1)])]), (.list [(dI 5)])])),
  ([.val (dI 12), .val (dI 2), .val (dI 7)], (.tuple [(.tuple [dF, (.list [(dI 6)])]), (.list [(dI 1)])])),
  ([.val (dI 240), .val (dI 4), .val (dI 7)], (.tuple [(.tuple [dF, (.list [(dI 60)])]), (.list [(dI 1)])]))]
theorem ok_t7_3_36_0 : ckA (lv fns t7_2 60) 36 t7_3_36_0 = true := by decide +kernel
noncomputable def t7_3_37_0 : List (St × PyData) := [([.val (dI 5), .val (dI 7)], (.list [(.tuple [(.tuple [dF, (.list [(dI 1)])]), (.list [(dI 1)])]), (.tuple [(.tuple [dT, (.list [(dI 1)])]), (.list [(dI 2)])]), (.tuple [(.tuple [dF, (.list [(dI 1)])]), (.list [(dI 6)])]), (.tuple [(.tuple [dF, (.list [])]), (.list [(dI 1)])]), (.tuple [(.tuple [dT, (.list [(dI 1)])]), (.list [(dI 30)])])]))]
theorem ok_t7_3_37_0 : ckA (lv fns t7_2 60) 37 t7_3_37_0 = true := by decide +kernel
noncomputable def t7_3 : Tab := (36, t7_3_36_0) :: (37, t7_3_37_0) :: t7_2
theorem t7_3_ok : TabOk fns t7_3 300 := TabOk.cons (t7_2_ok.one ok_t7_3_36_0) (TabOk.cons (t7_2_ok.one ok_t7_3_37_0) (t7_2_ok.more (by decide)))
theorem law_7_2 : isT ((lv fns t7_3 60).S lawRest (sg0 7 2)) = true := by decide +kernel
theorem law_7_3 : isT ((lv fns t7_3 60).S lawRest (sg0 7 3)) = true := by decide +kernel
theorem law_7_4 : isT ((lv fns t7_3 60).S lawRest (sg0 7 4)) = true := by decide +kernel
theorem law_7_5 : isT ((lv fns t7_3 60).S lawRest (sg0 7 5)) = true := by decide +kernel
theorem hl_7 : ∀ b, 2 ≤ b → b ≤ 5 → ∃ T K σ, K ≤ 300 ∧ TabOk fns T K ∧ (lv fns T 60).S lawRest (sg0 7 b) = some (.ret (.bool true) σ) := by
  intro b h1 h2
  have hb : b = 2 ∨ b = 3 ∨ b = 4 ∨ b = 5 := by omega
  rcases hb with rfl | rfl | rfl | rfl
  · exact let ⟨σ, e⟩ := isT_snd law_7_2; ⟨_, _, σ, by decide, t7_3_ok, e⟩
  · exact let ⟨σ, e⟩ := isT_snd law_7_3; ⟨_, _, σ, by decide, t7_3_ok, e⟩
  · exact let ⟨σ, e⟩ := isT_snd law_7_4; ⟨_, _, σ, by decide, t7_3_ok, e⟩
  · exact let ⟨σ, e⟩ := isT_snd law_7_5; ⟨_, _, σ, by decide, t7_3_ok, e⟩
end Mine
end
section
open PySem PySem.W PySem.Calls PyProof.Rows
namespace Mine
noncomputable def t8_0_31_0 : List (St × PyData) := [([.val (.list [(dI 1)]), .val (.list [(dI 1)]), .val (dI 8)], (.tuple [(.list [(dI 1)]), (.list [])])),
  ([.val (.list [(dI 1)]), .val (.list [(dI 2)]), .val (dI 8)], (.tuple [(.list []), (.list [(dI 1)])])),
  ([.val (.list [(dI 2)]), .val (.list [(dI 1)]), .val (dI 8)], (.tuple [(.list [(dI 2)]), (.list [])])),
  ([.val (.list [(dI 3)]), .val (.list [(dI 1)]), .val (dI 8)], (.tuple [(.list [(dI 3)]), (.list [])])),
  ([.val (.list [(dI 3)]), .val (.list [(dI 2)]), .val (dI 8)], (.tuple [(.list [(dI 1)]), (.list [(dI 1)])])),
  ([.val (.list [(dI 1)]), .val (.list [(dI 3)]), .val (dI 8)], (.tuple [(.list []), (.list [(dI 1)])])),
  ([.val (.list [(dI 4)]), .val (.list [(dI 1)]), .val (dI 8)], (.tuple [(.list [(dI 4)]), (.list [])])),
  ([.val (.list [(dI 4)]), .val (.list [(dI 2)]), .val (dI 8)], (.tuple [(.list [(dI 2)]), (.list [])]))]
theorem ok_t8_0_31_0 : ckA (lv fns tC 60) 31 t8_0_31_0 = true := by decide +kernel
noncomputable def t8_0_31_1 : List (St × PyData) := [([.val (.list [(dI 2)]), .val (.list [(dI 2)]), .val (dI 8)], (.tuple [(.list [(dI 1)]), (.list [])])),
  ([.val (.list [(dI 6)]), .val (.list [(dI 1)]), .val (dI 8)], (.tuple [(.list [(dI 6)]), (.list [])])),
  ([.val (.list [(dI 6)]), .val (.list [(dI 6)]), .val (dI 8)], (.tuple [(.list [(dI 1)]), (.list [])])),
  ([.val (.list [(dI 1)]), .val (.list [(dI 4)]), .val (dI 8)], (.tuple [(.list []), (.list [(dI 1)])])),
  ([.val (.list [(dI 5)]), .val (.list [(dI 1)]), .val (dI 8)], (.tuple [(.list [(dI 5)]), (.list [])])),
  ([.val (.list [(dI 5)]), .val (.list [(dI 2)]), .val (dI 8)], (.tuple [(.list [(dI 2)]), (.list [(dI 1)])])),
  ([.val (.list [(dI 10)]), .val (.list [(dI 1)]), .val (dI 8)], (.tuple [(.list [(dI 10)]), (.list [])])),
  ([.val (.list [(dI 10)]), .val (.list [(dI 6)]), .val (dI 8)], (.tuple [(.list [(dI 1)]), (.list [(dI 4)])]))]
theorem ok_t8_0_31_1 : ckA (lv fns tC 60) 31 t8_0_31_1 = true := by decide +kernel
noncomputable def t8_0_31_2 : List (St × PyData) := [([.val (.list [(dI 6)]), .val (.list [(dI 4)]), .val (dI 8)], (.tuple [(.list [(dI 1)]), (.list [(dI 2)])])),
  ([.val (.list [(dI 10)]), .val (.list [(dI 2)]), .val (dI 8)], (.tuple [(.list [(dI 5)]), (.list [])])),
  ([.val (.list [(dI 6)]), .val (.list [(dI 2)]), .val (dI 8)], (.tuple [(.list [(dI 3)]), (.list [])])),
  ([.val (.list [(dI 2)]), .val (.list [(dI 3)]), .val (dI 8)], (.tuple [(.list []), (.list [(dI 2)])])),
  ([.val (.list [(dI 1)]), .val (.list [(dI 5)]), .val (dI 8)], (.tuple [(.list []), (.list [(dI 1)])])),
  ([.val (.list [(dI 1)]), .val (.list [(dI 6)]), .val (dI 8)], (.tuple [(.list []), (.list [(dI 1)])])),
  ([.val (.list [(dI 12)]), .val (.list [(dI 2)]), .val (dI 8)], (.tuple [(.list [(dI 6)]), (.list [])])),
  ([.val (.list [(dI 240)]), .val (.list [(dI 4)]), .val (dI 8)], (.tuple [(.list [(dI 60)]), (.list [])]))]
theorem ok_t8_0_31_2 : ckA (lv fns tC 60) 31 t8_0_31_2 = true := by decide +kernel
noncomputable def t8_0_31_3 : List (St × PyData) := [([.val (.list [(dI 4)]), .val (.list [(dI 4)]), .val (dI 8)], (.tuple [(.list [(dI 1)]), (.list [])])),
  ([.val (.list [(dI 60)]), .val (.list [(dI 30)]), .val (dI 8)], (.tuple [(.list [(dI 2)]), (.list [])])),
  ([.val (.list [(dI 30)]), .val (.list [(dI 30)]), .val (dI 8)], (.tuple [(.list [(dI 1)]), (.list [])]))]
theorem ok_t8_0_31_3 : ckA (lv fns tC 60) 31 t8_0_31_3 = true := by decide +kernel
noncomputable def t8_0_25_0 : List (St × PyData) := [([.val (.list [(dI 1)]), .val (.list [(dI 1)]), .val (dI 8)], (.list [(dI 1)])),
  ([.val (.list [(dI 1)]), .val (.list [(dI 2)]), .val (dI 8)], (.list [(dI 2)])),
  ([.val (.list [(dI 2)]), .val (.list [(dI 1)]), .val (dI 8)], (.list [(dI 2)])),
  ([.val (.list [(dI 1)]), .val (.list [(dI 3)]), .val (dI 8)], (.list [(dI 3)])),
  ([.val (.list [(dI 3)]), .val (.list [(dI 1)]), .val (dI 8)], (.list [(dI 3)])),
  ([.val (.list [(dI 1)]), .val (.list [(dI 5)]), .val (dI 8)], (.list [(dI 5)])),
  ([.val (.list [(dI 2)]), .val (.list [(dI 2)]), .val (dI 8)], (.list [(dI 4)])),
  ([.val (.list [(dI 1)]), .val (.list [(dI 4)]), .val (dI 8)], (.list [(dI 4)]))]
theorem ok_t8_0_25_0 : ckA (lv fns tC 60) 25 t8_0_25_0 = true := by decide +kernel
noncomputable def t8_0_25_1 : List (St × PyData) := [([.val (.list [(dI 2)]), .val (.list [(dI 3)]), .val (dI 8)], (.list [(dI 6)])),
  ([.val (.list [(dI 5)]), .val (.list [(dI 1)]), .val (dI 8)], (.list [(dI 5)])),
  ([.val (.list [(dI 4)]), .val (.list [(dI 2)]), .val (dI 8)], (.list [(dI 8)])),
  ([.val (.list [(dI 6)]), .val (.list [(dI 1)]), .val (dI 8)], (.list [(dI 6)])),
  ([.val (.list [(dI 1)]), .val (.list [(dI 16)]), .val (dI 8)], (.list [(dI 16)])),
  ([.val (.list [(dI 2)]), .val (.list [(dI 5)]), .val (dI 8)], (.list [(dI 10)])),
  ([.val (.list [(dI 16)]), .val (.list [(dI 1)]), .val (dI 8)], (.list [(dI 16)])),
  ([.val (.list [(dI 5)]), .val (.list [(dI 5)]), .val (dI 8)], (.list [(dI 25)]))]
theorem ok_t8_0_25_1 : ckA (lv fns tC 60) 25 t8_0_25_1 = true := by decide +kernel
noncomputable def t8_0_25_2 : List (St × PyData) := [([.val (.list [(dI 10)]), .val (.list [(dI 2)]), .val (dI 8)], (.list [(dI 20)])),
  ([.val (.list []), .val (.list [(dI 1)]), .val (dI 8)], (.list [])),
  ([.val (.list [(dI 3)]), .val (.list [(dI 3)]), .val (dI 8)], (.list [(dI 9)])),
  ([.val (.list [(dI 5)]), .val (.list [(dI 2)]), .val (dI 8)], (.list [(dI 10)])),
  ([.val (.list []), .val (.list [(dI 6)]), .val (dI 8)], (.list [])),
  ([.val (.list [(dI 6)]), .val (.list [(dI 5)]), .val (dI 8)], (.list [(dI 30)]))]
theorem ok_t8_0_25_2 : ckA (lv fns tC 60) 25 t8_0_25_2 = true := by decide +kernel
noncomputable def t8_0_3_0 : List (St × PyData) := [([.val (.list []), .val (.list [(dI 1)]), .val (dI 8)], (.list [(dI 1)])),
  ([.val (.list [(dI 1)]), .val (.list []), .val (dI 8)], (.list [(dI 1)])),
  ([.val (.list [(dI 1)]), .val (.list [(dI 1)]), .val (dI 8)], (.list [(dI 2)])),
  ([.val (.list [(dI 2)]), .val (.list []), .val (dI 8)], (.list [(dI 2)])),
  ([.val (.list []), .val (.list [(dI 2)]), .val (dI 8)], (.list [(dI 2)])),
  ([.val (.list [(dI 2)]), .val (.list [(dI 2)]), .val (dI 8)], (.list [(dI 4)])),
  ([.val (.list [(dI 4)]), .val (.list [(dI 1)]), .val (dI 8)], (.list [(dI 5)])),
  ([.val (.list [(dI 5)]), .val (.list []), .val (dI 8)], (.list [(dI 5)]))]
theorem ok_t8_0_3_0 : ckA (lv fns tC 60) 3 t8_0_3_0 = true := by decide +kernel
noncomputable def t8_0_3_1 : List (St × PyData) := [([.val (.list []), .val (.list [(dI 5)]), .val (dI 8)], (.list [(dI 5)])),
  ([.val (.list [(dI 5)]), .val (.list [(dI 5)]), .val (dI 8)], (.list [(dI 10)])),
  ([.val (.list [(dI 10)]), .val (.list [(dI 4)]), .val (dI 8)], (.list [(dI 14)])),
  ([.val (.list [(dI 14)]), .val (.list [(dI 2)]), .val (dI 8)], (.list [(dI 16)])),
  ([.val (.list [(dI 16)]), .val (.list []), .val (dI 8)], (.list [(dI 16)])),
  ([.val (.list []), .val (.list [(dI 16)]), .val (dI 8)], (.list [(dI 16)])),
  ([.val (.list [(dI 16)]), .val (.list [(dI 16)]), .val (dI 8)], (.list [(dI 32)])),
  ([.val (.list [(dI 32)]), .val (.list [(dI 14)]), .val (dI 8)], (.list [(dI 46)]))]
theorem ok_t8_0_3_1 : ckA (lv fns tC 60) 3 t8_0_3_1 = true := by decide +kernel
noncomputable def t8_0_3_2 : List (St × PyData) := [([.val (.list [(dI 46)]), .val (.list [(dI 10)]), .val (dI 8)], (.list [(dI 56)])),
  ([.val (.list [(dI 56)]), .val (.list [(dI 5)]), .val (dI 8)], (.list [(dI 61)])),
  ([.val (.list [(dI 61)]), .val (.list []), .val (dI 8)], (.list [(dI 61)])),
  ([.val (.list [(dI 1)]), .val (.list [(dI 2)]), .val (dI 8)], (.list [(dI 3)])),
  ([.val (.list [(dI 3)]), .val (.list [(dI 1)]), .val (dI 8)], (.list [(dI 4)])),
  ([.val (.list [(dI 2)]), .val (.list [(dI 3)]), .val (dI 8)], (.list [(dI 5)])),
  ([.val (.list [(dI 5)]), .val (.list [(dI 3)]), .val (dI 8)], (.list [(dI 8)])),
  ([.val (.list [(dI 8)]), .val (.list [(dI 2)]), .val (dI 8)], (.list [(dI 10)]))]
theorem ok_t8_0_3_2 : ckA (lv fns tC 60) 3 t8_0_3_2 = true := by decide +kernel
noncomputable def t8_0_3_3 : List (St × PyData) := [([.val (.list [(dI 5)]), .val (.list [(dI 8)]), .val (dI 8)], (.list [(dI 13)])),
  ([.val (.list [(dI 13)]), .val (.list [(dI 6)]), .val (dI 8)], (.list [(dI 19)])),
  ([.val (.list [(dI 19)]), .val (.list [(dI 8)]), .val (dI 8)], (.list [(dI 27)])),
  ([.val (.list [(dI 27)]), .val (.list [(dI 5)]), .val (dI 8)], (.list [(dI 32)])),
  ([.val (.list [(dI 16)]), .val (.list [(dI 25)]), .val (dI 8)], (.list [(dI 41)])),
  ([.val (.list [(dI 41)]), .val (.list [(dI 20)]), .val (dI 8)], (.list [(dI 61)])),
  ([.val (.list [(dI 61)]), .val (.list [(dI 20)]), .val (dI 8)], (.list [(dI 81)])),
  ([.val (.list [(dI 81)]), .val (.list [(dI 25)]), .val (dI 8)], (.list [(dI 106)]))]
theorem ok_t8_0_3_3 : ckA (lv fns tC 60) 3 t8_0_3_3 = true := by decide +kernel
noncomputable def t8_0_3_4 : List (St × PyData) := [([.val (.list [(dI 106)]), .val (.list [(dI 16)]), .val (dI 8)], (.list [(dI 122)])),
  ([.val (.list [(dI 61)]), .val (.list [(dI 61)]), .val (dI 8)], (.list [(dI 122)]))]
theorem ok_t8_0_3_4 : ckA (lv fns tC 60) 3 t8_0_3_4 = true := by decide +kernel
noncomputable def t8_0 : Tab := (31, t8_0_31_0) :: (31, t8_0_31_1) :: (31, t8_0_31_2) :: (31, t8_0_31_3) :: (25, t8_0_25_0) :: (25, t8_0_25_1) :: (25, t8_0_25_2) :: (3, t8_0_3_0) :: (3, t8_0_3_1) :: (3, t8_0_3_2) :: (3, t8_0_3_3) :: (3, t8_0_3_4) :: tC
theorem t8_0_ok : TabOk fns t8_0 120 := TabOk.cons (tC_ok.one ok_t8_0_31_0) (TabOk.cons (tC_ok.one ok_t8_0_31_1) (TabOk.cons (tC_ok.one ok_t8_0_31_2) (TabOk.cons (tC_ok.one ok_t8_0_31_3) (TabOk.cons (tC_ok.one ok_t8_0_25_0) (TabOk.cons (tC_ok.one ok_t8_0_25_1) (TabOk.cons (tC_ok.one ok_t8_0_25_2) (TabOk.cons (tC_ok.one ok_t8_0_3_0) (TabOk.cons (tC_ok.one ok_t8_0_3_1) (TabOk.cons (tC_ok.one ok_t8_0_3_2) (TabOk.cons (tC_ok.one ok_t8_0_3_3) (TabOk.cons (tC_ok.one ok_t8_0_3_4) (tC_ok.more (by decide)))))))))))))
noncomputable def t8_1_12_0 : List (St × PyData) := [([.val (.list [(dI 1)]), .val (.list [(dI 1)]), .val (dI 8), .fn 31], (.list [(dI 1)])),
  ([.val (.list [(dI 1)]), .val (.list [(dI 2)]), .val (dI 8), .fn 31], (.list [(dI 1)])),
  ([.val (.list [(dI 3)]), .val (.list [(dI 1)]), .val (dI 8), .fn 31], (.list [(dI 1)])),
  ([.val (.list [(dI 3)]), .val (.list [(dI 2)]), .val (dI 8), .fn 31], (.list [(dI 1)])),
  ([.val (.list [(dI 1)]), .val (.list [(dI 3)]), .val (dI 8), .fn 31], (.list [(dI 1)])),
  ([.val (.list [(dI 4)]), .val (.list [(dI 1)]), .val (dI 8), .fn 31], (.list [(dI 1)])),
  ([.val (.list [(dI 4)]), .val (.list [(dI 2)]), .val (dI 8), .fn 31], (.list [(dI 2)])),
  ([.val (.list [(dI 6)]), .val (.list [(dI 1)]), .val (dI 8), .fn 31], (.list [(dI 1)]))]
theorem ok_t8_1_12_0 : ckA (lv fns t8_0 60) 12 t8_1_12_0 = true := by decide +kernel
noncomputable def t8_1_12_1 : List (St × PyData) := [([.val (.list [(dI 6)]), .val (.list [(dI 6)]), .val (dI 8), .fn 31], (.list [(dI 6)])),
  ([.val (.list [(dI 1)]), .val (.list [(dI 4)]), .val (dI 8), .fn 31], (.list [(dI 1)])),
  ([.val (.list [(dI 5)]), .val (.list [(dI 1)]), .val (dI 8), .fn 31], (.list [(dI 1)])),
  ([.val (.list [(dI 5)]), .val (.list [(dI 2)]), .val (dI 8), .fn 31], (.list [(dI 1)])),
  ([.val (.list [(dI 10)]), .val (.list [(dI 1)]), .val (dI 8), .fn 31], (.list [(dI 1)])),
  ([.val (.list [(dI 10)]), .val (.list [(dI 6)]), .val (dI 8), .fn 31], (.list [(dI 2)])),
  ([.val (.list [(dI 2)]), .val (.list [(dI 3)]), .val (dI 8), .fn 31], (.list [(dI 1)])),
  ([.val (.list [(dI 1)]), .val (.list [(dI 5)]), .val (dI 8), .fn 31], (.list [(dI 1)]))]
theorem ok_t8_1_12_1 : ckA (lv fns t8_0 60) 12 t8_1_12_1 = true := by decide +kernel
noncomputable def t8_1_12_2 : List (St × PyData) := [([.val (.list [(dI 1)]), .val (.list [(dI 6)]), .val (dI 8), .fn 31], (.list [(dI 1)])),
  ([.val (.list [(dI 12)]), .val (.list [(dI 2)]), .val (dI 8), .fn 31], (.list [(dI 2)])),
  ([.val (.list [(dI 240)]), .val (.list [(dI 4)]), .val (dI 8), .fn 31], (.list [(dI 4)])),
  ([.val (.list [(dI 60)]), .val (.list [(dI 30)]), .val (dI 8), .fn 31], (.list [(dI 30)]))]
theorem ok_t8_1_12_2 : ckA (lv fns t8_0 60) 12 t8_1_12_2 = true := by decide +kernel
noncomputable def t8_1_23_0 : List (St × PyData) := [([.val (dI 1), .val (dI 0), .val (dI 8), .fn 25], (.list [(dI 1)])),
  ([.val (dI 1), .val (dI 1), .val (dI 8), .fn 25], (.list [(dI 1)])),
  ([.val (dI 2), .val (dI 0), .val (dI 8), .fn 25], (.list [(dI 1)])),
  ([.val (dI 2), .val (dI 1), .val (dI 8), .fn 25], (.list [(dI 2)])),
  ([.val (dI 2), .val (dI 2), .val (dI 8), .fn 25], (.list [(dI 1)])),
  ([.val (dI 3), .val (dI 0), .val (dI 8), .fn 25], (.list [(dI 1)])),
  ([.val (dI 3), .val (dI 1), .val (dI 8), .fn 25], (.list [(dI 3)])),
  ([.val (dI 3), .val (dI 2), .val (dI 8), .fn 25], (.list [(dI 3)]))]
theorem ok_t8_1_23_0 : ckA (lv fns t8_0 60) 23 t8_1_23_0 = true := by decide +kernel
noncomputable def t8_1_23_1 : List (St × PyData) := [([.val (dI 3), .val (dI 3), .val (dI 8), .fn 25], (.list [(dI 1)])),
  ([.val (dI 4), .val (dI 0), .val (dI 8), .fn 25], (.list [(dI 1)])),
  ([.val (dI 4), .val (dI 1), .val (dI 8), .fn 25], (.list [(dI 4)])),
  ([.val (dI 4), .val (dI 2), .val (dI 8), .fn 25], (.list [(dI 6)])),
  ([.val (dI 4), .val (dI 3), .val (dI 8), .fn 25], (.list [(dI 4)])),
  ([.val (dI 4), .val (dI 4), .val (dI 8), .fn 25], (.list [(dI 1)])),
  ([.val (dI 5), .val (dI 0), .val (dI 8), .fn 25], (.list [(dI 1)])),
  ([.val (dI 5), .val (dI 1), .val (dI 8), .fn 25], (.list [(dI 5)]))]
theorem ok_t8_1_23_1 : ckA (lv fns t8_0 60) 23 t8_1_23_1 = true := by decide +kernel
noncomputable def t8_1_23_2 : List (St × PyData) := [([.val (dI 5), .val (dI 2), .val (dI 8), .fn 25], (.list [(dI 10)])),
  ([.val (dI 5), .val (dI 3), .val (dI 8), .fn 25], (.list [(dI 10)])),
  ([.val (dI 5), .val (dI 4), .val (dI 8), .fn 25], (.list [(dI 5)])),
  ([.val (dI 5), .val (dI 5), .val (dI 8), .fn 25], (.list [(dI 1)]))]
theorem ok_t8_1_23_2 : ckA (lv fns t8_0 60) 23 t8_1_23_2 = true := by decide +kernel
noncomputable def t8_1 : Tab := (12, t8_1_12_0) :: (12, t8_1_12_1) :: (12, t8_1_12_2) :: (23, t8_1_23_0) :: (23, t8_1_23_1) :: (23, t8_1_23_2) :: t8_0
theorem t8_1_ok : TabOk fns t8_1 180 := TabOk.cons (t8_0_ok.one ok_t8_1_12_0) (TabOk.cons (t8_0_ok.one ok_t8_1_12_1) (TabOk.cons (t8_0_ok.one ok_t8_1_12_2) (TabOk.cons (t8_0_ok.one ok_t8_1_23_0) (TabOk.cons (t8_0_ok.one ok_t8_1_23_1) (TabOk.cons (t8_0_ok.one ok_t8_1_23_2) (t8_0_ok.more (by decide)))))))
noncomputable def t8_2_15_0 : List (St × PyData) := [([.val (.tuple [dF, (.list [(dI 1)])]), .val (.tuple [dF, (.list [(dI 1)])]), .val (dI 8), .fn 31], (.tuple [(.tuple [dF, (.list [(dI 1)])]), (.list [(dI 1)])])),
  ([.val (.tuple [dF, (.list [])]), .val (.tuple [dF, (.list [(dI 1)])]), .val (dI 8), .fn 31], (.tuple [(.tuple [dF, (.list [])]), (.list [(dI 1)])])),
  ([.val (.tuple [dT, (.list [(dI 1)])]), .val (.tuple [dF, (.list [(dI 2)])]), .val (dI 8), .fn 31], (.tuple [(.tuple [dT, (.list [(dI 1)])]), (.list [(dI 2)])])),
  ([.val (.tuple [dF, (.list [(dI 3)])]), .val (.tuple [dF, (.list [(dI 1)])]), .val (dI 8), .fn 31], (.tuple [(.tuple [dF, (.list [(dI 3)])]), (.list [(dI 1)])])),
  ([.val (.tuple [dT, (.list [(dI 1)])]), .val (.tuple [dF, (.list [(dI 3)])]), .val (dI 8), .fn 31], (.tuple [(.tuple [dT, (.list [(dI 1)])]), (.list [(dI 3)])])),
  ([.val (.tuple [dF, (.list [(dI 4)])]), .val (.tuple [dF, (.list [(dI 1)])]), .val (dI 8), .fn 31], (.tuple [(.tuple [dF, (.list [(dI 4)])]), (.list [(dI 1)])])),
  ([.val (.tuple [dF, (.list [(dI 6)])]), .val (.tuple [dF, (.list [(dI 1)])]), .val (dI 8), .fn 31], (.tuple [(.tuple [dF, (.list [(dI 6)])]), (.list [(dI 1)])])),
  ([.val (.tuple [dT, (.list [(dI 1)])]), .val (.tuple [dF, (.list [(dI 4)])]), .val (dI 8), .fn 31], (.tuple [(.tuple [dT, (.list [(dI 1)])]), (.list [(dI 4)])]))]
theorem ok_t8_2_15_0 : ckA (lv fns t8_1 60) 15 t8_2_15_0 = true := by decide +kernel
noncomputable def t8_2_15_1 : List (St × PyData) := [([.val (.tuple [dF, (.list [(dI 5)])]), .val (.tuple [dF, (.list [(dI 1)])]), .val (dI 8), .fn 31], (.tuple [(.tuple [dF, (.list [(dI 5)])]), (.list [(dI 1)])])),
  ([.val (.tuple [dF, (.list [(dI 10)])]), .val (.tuple [dF, (.list [(dI 1)])]), .val (dI 8), .fn 31], (.tuple [(.tuple [dF, (.list [(dI 10)])]), (.list [(dI 1)])])),
  ([.val (.tuple [dT, (.list [(dI 1)])]), .val (.tuple [dF, (.list [(dI 5)])]), .val (dI 8), .fn 31], (.tuple [(.tuple [dT, (.list [(dI 1)])]), (.list [(dI 5)])])),
  ([.val (.tuple [dF, (.list [(dI 12)])]), .val (.tuple [dF, (.list [(dI 2)])]), .val (dI 8), .fn 31], (.tuple [(.tuple [dF, (.list [(dI 6)])]), (.list [(dI 1)])])),
  ([.val (.tuple [dF, (.list [(dI 240)])]), .val (.tuple [dF, (.list [(dI 4)])]), .val (dI 8), .fn 31], (.tuple [(.tuple [dF, (.list [(dI 60)])]), (.list [(dI 1)])]))]
theorem ok_t8_2_15_1 : ckA (lv fns t8_1 60) 15 t8_2_15_1 = true := by decide +kernel
noncomputable def t8_2_16_0 : List (St × PyData) := [([.val (.tuple [(.tuple [dF, (.list [])]), (.list [(dI 1)])]), .val (.tuple [(.tuple [dF, (.list [(dI 1)])]), (.list [(dI 1)])]), .val (dI 8), .fn 25, .fn 31], (.tuple [(.tuple [dF, (.list [(dI 1)])]), (.list [(dI 1)])])),
  ([.val (.tuple [(.tuple [dF, (.list [(dI 1)])]), (.list [(dI 1)])]), .val (.tuple [(.tuple [dT, (.list [(dI 3)])]), (.list [(dI 2)])]), .val (dI 8), .fn 25, .fn 31], (.tuple [(.tuple [dT, (.list [(dI 1)])]), (.list [(dI 2)])])),
  ([.val (.tuple [(.tuple [dF, (.list [(dI 1)])]), (.list [(dI 1)])]), .val (.tuple [(.tuple [dT, (.list [(dI 2)])]), (.list [(dI 1)])]), .val (dI 8), .fn 25, .fn 31], (.tuple [(.tuple [dT, (.list [(dI 1)])]), (.list [(dI 1)])])),
  ([.val (.tuple [(.tuple [dT, (.list [(dI 1)])]), (.list [(dI 1)])]), .val (.tuple [(.tuple [dF, (.list [(dI 1)])]), (.list [(dI 1)])]), .val (dI 8), .fn 25, .fn 31], (.tuple [(.tuple [dF, (.list [])]), (.list [(dI 1)])])),
  ([.val (.tuple [(.tuple [dF, (.list [(dI 1)])]), (.list [(dI 1)])]), .val (.tuple [(.tuple [dT, (.list [(dI 5)])]), (.list [(dI 2)])]), .val (dI 8), .fn 25, .fn 31], (.tuple [(.tuple [dT, (.list [(dI 3)])]), (.list [(dI 2)])])),
  ([.val (.tuple [(.tuple [dT, (.list [(dI 3)])]), (.list [(dI 2)])]), .val (.tuple [(.tuple [dF, (.list [(dI 5)])]), (.list [(dI 3)])]), .val (dI 8), .fn 25, .fn 31], (.tuple [(.tuple [dF, (.list [(dI 1)])]), (.list [(dI 6)])])),
  ([.val (.tuple [(.tuple [dF, (.list [(dI 1)])]), (.list [(dI 6)])]), .val (.tuple [(.tuple [dF, (.list [])]), (.list [(dI 1)])]), .val (dI 8), .fn 25, .fn 31], (.tuple [(.tuple [dF, (.list [(dI 1)])]), (.list [(dI 6)])]))]
theorem ok_t8_2_16_0 : ckA (lv fns t8_1 60) 16 t8_2_16_0 = true := by decide +kernel
noncomputable def t8_2_35_0 : List (St × PyData) := [([.val (.tuple [(.tuple [dF, (.list [(dI 1)])]), (.list [(dI 1)])]), .val (.tuple [(.tuple [dF, (.list [(dI 1)])]), (.list [(dI 1)])]), .val (dI 8)], (.tuple [(.tuple [dF, (.list [(dI 1)])]), (.list [(dI 1)])])),
  ([.val (.tuple [(.tuple [dF, (.list [(dI 1)])]), (.list [(dI 1)])]), .val (.tuple [(.tuple [dT, (.list [(dI 1)])]), (.list [(dI 2)])]), .val (dI 8)], (.tuple [(.tuple [dT, (.list [(dI 1)])]), (.list [(dI 2)])])),
  ([.val (.tuple [(.tuple [dF, (.list [(dI 3)])]), (.list [(dI 1)])]), .val (.tuple [(.tuple [dT, (.list [(dI 1)])]), (.list [(dI 2)])]), .val (dI 8)], (.tuple [(.tuple [dT, (.list [(dI 3)])]), (.list [(dI 2)])])),
  ([.val (.tuple [(.tuple [dT, (.list [(dI 1)])]), (.list [(dI 2)])]), .val (.tuple [(.tuple [dT, (.list [(dI 1)])]), (.list [(dI 3)])]), .val (dI 8)], (.tuple [(.tuple [dF, (.list [(dI 1)])]), (.list [(dI 6)])])),
  ([.val (.tuple [(.tuple [dF, (.list [(dI 4)])]), (.list [(dI 1)])]), .val (.tuple [(.tuple [dT, (.list [(dI 1)])]), (.list [(dI 2)])]), .val (dI 8)], (.tuple [(.tuple [dT, (.list [(dI 2)])]), (.list [(dI 1)])])),
  ([.val (.tuple [(.tuple [dF, (.list [(dI 6)])]), (.list [(dI 1)])]), .val (.tuple [(.tuple [dF, (.list [(dI 1)])]), (.list [(dI 6)])]), .val (dI 8)], (.tuple [(.tuple [dF, (.list [(dI 1)])]), (.list [(dI 1)])])),
  ([.val (.tuple [(.tuple [dF, (.list [])]), (.list [(dI 1)])]), .val (.tuple [(.tuple [dT, (.list [(dI 1)])]), (.list [(dI 4)])]), .val (dI 8)], (.tuple [(.tuple [dF, (.list [])]), (.list [(dI 1)])])),
  ([.val (.tuple [(.tuple [dF, (.list [(dI 5)])]), (.list [(dI 1)])]), .val (.tuple [(.tuple [dT, (.list [(dI 1)])]), (.list [(dI 2)])]), .val (dI 8)], (.tuple [(.tuple [dT, (.list [(dI 5)])]), (.list [(dI 2)])]))]
theorem ok_t8_2_35_0 : ckA (lv fns t8_1 60) 35 t8_2_35_0 = true := by decide +kernel
noncomputable def t8_2_35_1 : List (St × PyData) := [([.val (.tuple [(.tuple [dF, (.list [(dI 10)])]), (.list [(dI 1)])]), .val (.tuple [(.tuple [dF, (.list [(dI 1)])]), (.list [(dI 6)])]), .val (dI 8)], (.tuple [(.tuple [dF, (.list [(dI 5)])]), (.list [(dI 3)])])),
  ([.val (.tuple [(.tuple [dF, (.list [(dI 10)])]), (.list [(dI 1)])]), .val (.tuple [(.tuple [dF, (.list [])]), (.list [(dI 1)])]), .val (dI 8)], (.tuple [(.tuple [dF, (.list [])]), (.list [(dI 1)])])),
  ([.val (.tuple [(.tuple [dF, (.list [(dI 1)])]), (.list [(dI 6)])]), .val (.tuple [(.tuple [dT, (.list [(dI 1)])]), (.list [(dI 5)])]), .val (dI 8)], (.tuple [(.tuple [dT, (.list [(dI 1)])]), (.list [(dI 30)])])),
  ([.val (.tuple [(.tuple [dF, (.list [(dI 1)])]), (.list [(dI 6)])]), .val (.tuple [(.tuple [dF, (.list [(dI 6)])]), (.list [(dI 1)])]), .val (dI 8)], (.tuple [(.tuple [dF, (.list [(dI 1)])]), (.list [(dI 1)])])),
  ([.val (.tuple [(.tuple [dT, (.list [(dI 1)])]), (.list [(dI 30)])]), .val (.tuple [(.tuple [dF, (.list [(dI 60)])]), (.list [(dI 1)])]), .val (dI 8)], (.tuple [(.tuple [dT, (.list [(dI 2)])]), (.list [(dI 1)])]))]
theorem ok_t8_2_35_1 : ckA (lv fns t8_1 60) 35 t8_2_35_1 = true := by decide +kernel
noncomputable def t8_2_24_0 : List (St × PyData) := [([.val (.list [(.tuple [(.list [(dI 1)]), (.list [(dI 1)])]), (.tuple [(.list [(dI 1)]), (.list [(dI 1)])])]), .val (dI 8), .fn 25], (.list [(dI 2)])),
  ([.val (.list [(.tuple [(.list [(dI 1)]), (.list [(dI 1)])]), (.tuple [(.list [(dI 2)]), (.list [(dI 1)])]), (.tuple [(.list [(dI 1)]), (.list [(dI 1)])])]), .val (dI 8), .fn 25], (.list [(dI 4)])),
  ([.val (.list [(.tuple [(.list [(dI 1)]), (.list [(dI 2)])]), (.tuple [(.list [(dI 3)]), (.list [(dI 1)])]), (.tuple [(.list [(dI 3)]), (.list [(dI 1)])]), (.tuple [(.list [(dI 1)]), (.list [(dI 2)])])]), .val (dI 8), .fn 25], (.list [(dI 10)])),
  ([.val (.list [(.tuple [(.list [(dI 1)]), (.list [(dI 5)])]), (.tuple [(.list [(dI 4)]), (.list [(dI 2)])]), (.tuple [(.list [(dI 6)]), (.list [(dI 1)])]), (.tuple [(.list [(dI 4)]), (.list [(dI 2)])]), (.tuple [(.list [(dI 1)]), (.list [(dI 5)])])]), .val (dI 8), .fn 25], (.list [(dI 32)])),
  ([.val (.list [(.tuple [(.list [(dI 1)]), (.list [(dI 16)])]), (.tuple [(.list [(dI 5)]), (.list [(dI 5)])]), (.tuple [(.list [(dI 10)]), (.list [(dI 2)])]), (.tuple [(.list [(dI 10)]), (.list [(dI 2)])]), (.tuple [(.list [(dI 5)]), (.list [(dI 5)])]), (.tuple [(.list [(dI 1)]), (.list [(dI 16)])])]), .val (dI 8), .fn 25], (.list [(dI 122)]))]
theorem ok_t8_2_24_0 : ckA (lv fns t8_1 60) 24 t8_2_24_0 = true := by decide +kernel
noncomputable def t8_2 : Tab := (15, t8_2_15_0) :: (15, t8_2_15_1) :: (16, t8_2_16_0) :: (35, t8_2_35_0) :: (35, t8_2_35_1) :: (24, t8_2_24_0) :: t8_1
theorem t8_2_ok : TabOk fns t8_2 240 := TabOk.cons (t8_1_ok.one ok_t8_2_15_0) (TabOk.cons (t8_1_ok.one ok_t8_2_15_1) (TabOk.cons (t8_1_ok.one ok_t8_2_16_0) (TabOk.cons (t8_1_ok.one ok_t8_2_35_0) (TabOk.cons (t8_1_ok.one ok_t8_2_35_1) (TabOk.cons (t8_1_ok.one ok_t8_2_24_0) (t8_1_ok.more (by decide)))))))
noncomputable def t8_3_36_0 : List (St × PyData) := [([.val (dI 1), .val (dI 1), .val (dI 8)], (.tuple [(.tuple [dF, (.list [(dI 1)])]), (.list [(dI 1)])])),
  ([.val (dI 0), .val (dI 1), .val (dI 8)], (.tuple [(.tuple [dF, (.list [])]), (.list [(dI 1)])])),
  ([.val (dJ 0), .val (dI 2), .val (dI 8)], (.tuple [(.tuple [dT, (.list [(dI 1)])]), (.list [(dI 2)])])),
  ([.val (dJ 0), .val (dI 3), .val (dI 8)], (.tuple [(.tuple [dT, (.list [(dI 1)])]), (.list [(dI 3)])])),
  ([.val (dJ 0), .val (dI 4), .val (dI 8)], (.tuple [(.tuple [dT, (.list [(dI 1)])]), (.list [(dI 4)])])),
  ([.val (dJ 0), .val (dI 5), .val (dI 8)], (.tuple [(.tuple [dT, (.list [(dI 1)])]), (.list [(dI 5)])])),
  ([.val (dI 12), .val (dI 2), .val (dI 8)], (.tuple [(.tuple [dF, (.list [(dI 6)])]), (.list [(dI 1)])])),
  ([.val (dI 240), .val (dI 4), .val (dI 8)], (.tuple [(.tuple [dF, (.list [(dI 60)])]), (.list [(dI 1)])]))]
theorem ok_t8_3_36_0 : ckA (lv fns t8_2 60) 36 t8_3_36_0 = true := by decide +kernel
noncomputable def t8_3_37_0 : List (St × PyData) := [([.val (dI 5), .val (dI 8)], (.list [(.tuple [(.tuple [dF, (.list [(dI 1)])]), (.list [(dI 1)])]), (.tuple [(.tuple [dT, (.list [(dI 1)])]), (.list [(dI 2)])]), (.tuple [(.tuple [dF, (.list [(dI 1)])]), (.list [(dI 6)])]), (.tuple [(.tuple [dF, (.list [])]), (.list [(dI 1)])]), (.tuple [(.tuple [dT, (.list [(dI 1)])]), (.list [(dI 30)])])]))]
theorem ok_t8_3_37_0 : ckA (lv fns t8_2 60) 37 t8_3_37_0 = true := by decide +kernel
noncomputable def t8_3 : Tab := (36, t8_3_36_0) :: (37, t8_3_37_0) :: t8_2
theorem t8_3_ok : TabOk fns t8_3 300 := TabOk.cons (t8_2_ok.one ok_t8_3_36_0) (TabOk.cons (t8_2_ok.one ok_t8_3_37_0) (t8_2_ok.more (by decide)))
theorem law_8_2 : isT ((lv fns t8_3 60).S lawRest (sg0 8 2)) = true := by decide +kernel
theorem law_8_3 : isT ((lv fns t8_3 60).S lawRest (sg0 8 3)) = true := by decide +kernel
theorem law_8_4 : isT ((lv fns t8_3 60).S lawRest (sg0 8 4)) = true := by decide +kernel
theorem law_8_5 : isT ((lv fns t8_3 60).S lawRest (sg0 8 5)) = true := by decide +kernel
theorem hl_8 : ∀ b, 2 ≤ b → b ≤ 5 → ∃ T K σ, K ≤ 300 ∧ TabOk fns T K ∧ (lv fns T 60).S lawRest (sg0 8 b) = some (.ret (.bool true) σ) := by
  intro b h1 h2
  have hb : b = 2 ∨ b = 3 ∨ b = 4 ∨ b = 5 := by omega
  rcases hb with rfl | rfl | rfl | rfl
  · exact let ⟨σ, e⟩ := isT_snd law_8_2; ⟨_, _, σ, by decide, t8_3_ok, e⟩
  · exact let ⟨σ, e⟩ := isT_snd law_8_3; ⟨_, _, σ, by decide, t8_3_ok, e⟩
  · exact let ⟨σ, e⟩ := isT_snd law_8_4; ⟨_, _, σ, by decide, t8_3_ok, e⟩
  · exact let ⟨σ, e⟩ := isT_snd law_8_5; ⟨_, _, σ, by decide, t8_3_ok, e⟩
end Mine
end
section
open PySem PySem.W PySem.Calls PyProof.Rows
namespace Mine

theorem CkEs.star {defs : List DefRec} {fs : Fs} : ∀ {es : List IE} {ees : List Expr}, CkEs defs fs es ees → ∀ e ∈ ees, NoStar e
  | _, _, .nil, _, h => (nomatch h)
  | _, _, .cons c r, _, h => (List.mem_cons.mp h).elim (fun e => e ▸ CkE.noStar defs fs c) (fun h => CkEs.star r _ h)

theorem swap2 {y1 y2 : Str} {p1 p2 : Pos} {vs : List Expr} {k k' : Nat} {tp vp : Pos} {env : Env} (hv : vs.length = 2) (hb : env.blockKind = .function) (hs : ∀ e ∈ vs, NoStar e)
    (k1 : env.kindOf y1 = some .local) (k2 : env.kindOf y2 = some .local) (hl : (p2.line == p1.line) = true) (hne : (y2 == y1) = false) (h3 : vs.all (foldedForSure 8) = false) (h4 : vs.all (constantsAlone 8) = false) :
    swappedStores [.Tuple [.Name y1 p1, .Name y2 p2] k tp] (.Tuple vs k' vp) env = pure (some [y1, y2]) := by
  unfold swappedStores
  dsimp only
  refine (if_neg (by rw [hv, hb]; simp)).trans ?_
  refine (if_neg fun h => ?_).trans ?_
  · obtain ⟨e, he, hx⟩ := List.any_eq_true.mp h
    split at hx
    · exact hs _ he _ _ rfl
    · cases hx
  have hne' : ¬ y2 = y1 := fun e => by rw [e] at hne; simp at hne
  simp [k1, k2, Expr.pos, eq_of_beq hl, List.eraseDups_cons, hne', h3, h4]
theorem swap3 {y1 y2 y3 : Str} {p1 p2 p3 : Pos} {vs : List Expr} {k k' : Nat} {tp vp : Pos} {env : Env} (hv : vs.length = 3) (hb : env.blockKind = .function) (hs : ∀ e ∈ vs, NoStar e)
    (k1 : env.kindOf y1 = some .local) (k2 : env.kindOf y2 = some .local) (k3 : env.kindOf y3 = some .local) (hl : (p2.line == p1.line) = true) (hl3 : (p3.line == p1.line) = true)
    (hne : (y2 == y1) = false) (hn3 : (y3 == y1) = false) (hn4 : (y3 == y2) = false) (h3 : vs.all (foldedForSure 8) = false) (h4 : vs.all (constantsAlone 8) = false) :
    swappedStores [.Tuple [.Name y1 p1, .Name y2 p2, .Name y3 p3] k tp] (.Tuple vs k' vp) env = pure (some [y1, y2, y3]) := by
  unfold swappedStores
  dsimp only
  refine (if_neg (by rw [hv, hb]; simp)).trans ?_
  refine (if_neg fun h => ?_).trans ?_
  · obtain ⟨e, he, hx⟩ := List.any_eq_true.mp h
    split at hx
    · exact hs _ he _ _ rfl
    · cases hx
  have q1 : ¬ y2 = y1 := fun e => by rw [e] at hne; simp at hne
  have q2 : ¬ y3 = y1 := fun e => by rw [e] at hn3; simp at hn3
  have q3 : ¬ y3 = y2 := fun e => by rw [e] at hn4; simp at hn4
  simp [k1, k2, k3, Expr.pos, eq_of_beq hl, eq_of_beq hl3, List.eraseDups_cons, q1, q2, q3, h3, h4]
end Mine
end
section
open PySem PySem.W PySem.Calls PyProof.Rows
namespace Mine

theorem and1 {a b : Bool} (h : (a && b) = true) : a = true := by cases a <;> first | rfl | cases h
theorem and2 {a b : Bool} (h : (a && b) = true) : b = true := by cases a <;> first | exact h | cases h

noncomputable def ckB (op : BOp) (o : Operator) : Bool := opOf op == o
noncomputable def ckC (op : COp) (o : CmpOp) : Bool := copOf op == o
section
variable (defs : List DefRec) (fs : Fs)
noncomputable def ckY (y : Str) : Bool := match y == ("__debug__" : Str) with
  | true => false
  | false => true
noncomputable def ckN (x : Nat) (y : Str) : Bool := match fs.nm[x]? with
  | some z => z == y && ckY y
  | none => false
noncomputable def ckG (y : Str) : Bool := match fs.sc.names.lookup y with
  | some .globalImplicit => ckY y
  | _ => false
noncomputable def ckF (k : Nat) (y : Str) : Bool := match defAt defs k with
  | some d => d.name == y && ckG fs y
  | none => false
noncomputable def ckBu (y z : Str) : Bool := y == z && ckG fs z
noncomputable def noSl (e : Expr) : Bool := match e with
  | .Slice .. => false
  | _ => true
noncomputable def noCall (e : Expr) : Bool := match e with
  | .Call .. => false
  | _ => true
noncomputable def isName (e : Expr) : Option Str := match e with
  | .Name y _ => some y
  | _ => none

noncomputable def ckAll (p : IE → Expr → Bool) : List IE → List Expr → Bool
  | [], [] => true
  | a :: as, e :: es => p a e && ckAll p as es
  | _, _ => false
noncomputable def ckOp (p : IE → Expr → Bool) : Option IE → Option Expr → Bool
  | none, none => true
  | some a, some e => p a e
  | _, _ => false
end

variable {defs : List DefRec} {fs : Fs}
theorem ckY_snd {y : Str} (h : ckY y = true) : (y == ("__debug__" : Str)) = false := by
  unfold ckY at h
  split at h
  · cases h
  · assumption
theorem ckN_snd {x : Nat} {y : Str} (h : ckN fs x y = true) : LocN fs x y := by
  unfold ckN at h
  split at h
  · next z hz => exact ⟨hz.trans (congrArg some (eq_of_beq (and1 h))), ckY_snd (and2 h)⟩
  · cases h
theorem ckG_snd {y : Str} (h : ckG fs y = true) : GlbN fs y := by
  unfold ckG at h
  split at h
  · next hz => exact ⟨hz, ckY_snd h⟩
  · cases h
theorem ckF_snd {k : Nat} {y : Str} (h : ckF defs fs k y = true) : ∃ d, defAt defs k = some d ∧ d.name = y ∧ GlbN fs d.name := by
  unfold ckF at h
  split at h
  · next d hd =>
    have e := eq_of_beq (and1 h)
    exact ⟨d, hd, e, e ▸ ckG_snd (and2 h)⟩
  · cases h
theorem ckBu_snd {y z : Str} (h : ckBu fs y z = true) : y = z ∧ GlbN fs z := ⟨eq_of_beq (and1 h), ckG_snd (and2 h)⟩
theorem noSl_snd {e : Expr} (h : noSl e = true) : NoSlice e := by
  intro o i
  cases e <;> first | rfl | cases h
theorem noCall_snd {e : Expr} (h : noCall e = true) : NoSup e := by
  intro x env y
  cases e <;> first | rfl | cases h
theorem isName_snd {e : Expr} {y : Str} (h : isName e = some y) : ∃ p, e = .Name y p := by
  cases e <;> first | (cases h; exact ⟨_, rfl⟩) | cases h
theorem ckAll_snd {p : IE → Expr → Bool} (hp : ∀ a e, p a e = true → CkE defs fs a e) : ∀ {as : List IE} {es : List Expr}, ckAll p as es = true → CkEs defs fs as es
  | [], [], _ => .nil
  | [], _ :: _, h => by cases h
  | _ :: _, [], h => by cases h
  | _ :: _, _ :: _, h => .cons (hp _ _ (and1 h)) (ckAll_snd hp (and2 h))
theorem ckOp_snd {p : IE → Expr → Bool} (hp : ∀ a e, p a e = true → CkE defs fs a e) {a : Option IE} {e : Option Expr} (h : ckOp p a e = true) : CkO defs fs a e := by
  cases a <;> cases e <;> first | exact .none | exact .some (hp _ _ h) | cases h
end Mine
end
section
open PySem PySem.W PySem.Calls PyProof.Rows
namespace Mine
section
variable (defs : List DefRec) (fs : Fs)
noncomputable def ckCall (p : IE → Expr → Bool) (e : IE) (y : Str) (as : List Expr) (pos : Pos) : Bool := match e with
  | .lenL x => match as with
    | [.Name z _] => ckBu fs y (Str.ofString "len") && ckN fs x z
    | _ => false
  | .len a => match as with
    | [ea] => ckBu fs y (Str.ofString "len") && p a ea
    | _ => false
  | .call k es => match es with
    | e0 :: er => match as with
      | a0 :: ar => ckF defs fs k y && (p e0 a0 && ckAll p er ar)
      | [] => false
    | [] => false
  | .callV x es => match es with
    | e0 :: er => match as with
      | a0 :: ar => ckN fs x y && (p e0 a0 && ckAll p er ar)
      | [] => false
    | [] => false
  | .callIO k x es => match as with
    | .Name z _ :: ar => ckF defs fs k y && (ckN fs x z && ckAll p es ar)
    | _ => false
  | .min2 a b => match as with
    | [ea, eb] => ckBu fs y (Str.ofString "min") && (p a ea && p b eb)
    | _ => false
  | .abs a => match as with
    | [ea] => ckBu fs y (Str.ofString "abs") && p a ea
    | _ => false
  | _ => false
noncomputable def ckSub (p : IE → Expr → Bool) (e : IE) (ee ei : Expr) : Bool := match e with
  | .idx a i => noSl ei && (p a ee && p i ei)
  | .idxL x i => match ee with
    | .Name y _ => ckN fs x y && (noSl ei && p i ei)
    | _ => false
  | .slcL x lo hi => match ee with
    | .Name y _ => match ei with
      | .Slice elo ehi none _ => ckN fs x y && (ckOp p lo elo && ckOp p hi ehi)
      | _ => false
    | _ => false
  | .revL x => match ee with
    | .Name y _ => match ei with
      | .Slice none none (some (.UnaryOp .USub (.Constant (.int i) _ _) _)) _ => eqI i 1 && ckN fs x y
      | _ => false
    | _ => false
  | _ => false
noncomputable def ckE : Nat → IE → Expr → Bool
  | 0, _, _ => false
  | n + 1, e, ee => match ee with
    | .Constant c _ _ => match c with
      | .int j => match e with
        | .int i => eqI i j
        | _ => false
      | .bool c => match e with
        | .bool b => b == c
        | _ => false
      | _ => false
    | .Name y _ => match e with
      | .loc x => ckN fs x y
      | .fn k => ckF defs fs k y
      | _ => false
    | .BinOp ea o eb _ => match e with
      | .bin op a b => ckB op o && (ckE n a ea && ckE n b eb)
      | _ => false
    | .Compare ea [o] [eb] _ => match e with
      | .cmp op a b => ckC op o && ((match behindInMarks o eb with | true => false | false => true) && (ckE n a ea && ckE n b eb))
      | _ => false
    | .BoolOp .And [ea, eb] _ => match e with
      | .and a b => ckE n a ea && ckE n b eb
      | _ => false
    | .BoolOp .Or [ea, eb] _ => match e with
      | .or a b => ckE n a ea && ckE n b eb
      | _ => false
    | .UnaryOp .USub ea _ => match e with
      | .neg a => ckE n a ea
      | _ => false
    | .IfExp et ea eb _ => match e with
      | .ife t a b => ckE n t et && (ckE n a ea && ckE n b eb)
      | _ => false
    | .Subscript a i _ => ckSub fs (ckE n) e a i
    | .List es _ => match e with
      | .list as => ckAll (ckE n) as es
      | _ => false
    | .Tuple es _ _ => match e with
      | .tup as => ckAll (ckE n) as es
      | _ => false
    | .Call (.Name y _) as [] pos => ckCall defs fs (ckE n) e y as pos
    | .Call (.Attribute ea m ap) [] [] pos => match e with
      | .bitlen a => m == Str.ofString "bit_length" && (ap.endLine == pos.line && (noCall ea && ckE n a ea))
      | _ => false
    | _ => false
end
variable {defs : List DefRec} {fs : Fs}
theorem ckCall_snd {p : IE → Expr → Bool} (hp : ∀ a e, p a e = true → CkE defs fs a e) {e : IE} {y : Str} {as : List Expr} {pos q : Pos} (h : ckCall defs fs p e y as pos = true) : CkE defs fs e (.Call (.Name y q) as [] pos) := by
  unfold ckCall at h
  cases e <;> try cases h
  case lenL x =>
    dsimp only at h
    split at h
    · obtain ⟨rfl, g⟩ := ckBu_snd (and1 h)
      exact .lenL g (ckN_snd (and2 h))
    · cases h
  case len a =>
    dsimp only at h
    split at h
    · obtain ⟨rfl, g⟩ := ckBu_snd (and1 h)
      exact .len g (hp _ _ (and2 h))
    · cases h
  case call k es =>
    dsimp only at h
    split at h
    · split at h
      · obtain ⟨d, h1, rfl, h3⟩ := ckF_snd (and1 h)
        exact .call h1 h3 (.cons (hp _ _ (and1 (and2 h))) (ckAll_snd hp (and2 (and2 h))))
      · cases h
    · cases h
  case callV x es =>
    dsimp only at h
    split at h
    · split at h
      · exact .callV (ckN_snd (and1 h)) (.cons (hp _ _ (and1 (and2 h))) (ckAll_snd hp (and2 (and2 h))))
      · cases h
    · cases h
  case callIO k x es =>
    dsimp only at h
    split at h
    · obtain ⟨d, h1, rfl, h3⟩ := ckF_snd (and1 h)
      exact .callIO h1 h3 (ckN_snd (and1 (and2 h))) (ckAll_snd hp (and2 (and2 h)))
    · cases h
  case min2 a b =>
    dsimp only at h
    split at h
    · obtain ⟨rfl, g⟩ := ckBu_snd (and1 h)
      exact .min2 g (hp _ _ (and1 (and2 h))) (hp _ _ (and2 (and2 h)))
    · cases h
  case abs a =>
    dsimp only at h
    split at h
    · obtain ⟨rfl, g⟩ := ckBu_snd (and1 h)
      exact .abs g (hp _ _ (and2 h))
    · cases h
theorem ckSub_snd {p : IE → Expr → Bool} (hp : ∀ a e, p a e = true → CkE defs fs a e) {e : IE} {ee ei : Expr} {pos : Pos} (h : ckSub fs p e ee ei = true) : CkE defs fs e (.Subscript ee ei pos) := by
  unfold ckSub at h
  cases e <;> try cases h
  case idx a i => exact .idx (noSl_snd (and1 h)) (hp _ _ (and1 (and2 h))) (hp _ _ (and2 (and2 h)))
  case idxL x i =>
    dsimp only at h
    split at h
    · exact .idxL (ckN_snd (and1 h)) (noSl_snd (and1 (and2 h))) (hp _ _ (and2 (and2 h)))
    · cases h
  case slcL x lo hi =>
    dsimp only at h
    split at h
    · split at h
      · exact .slcL (ckN_snd (and1 h)) (ckOp_snd hp (and1 (and2 h))) (ckOp_snd hp (and2 (and2 h)))
      · cases h
    · cases h
  case revL x =>
    dsimp only at h
    split at h
    · split at h
      · have e := and1 h
        rw [eqI_eq] at e
        cases eq_of_beq e
        exact .revL (ckN_snd (and2 h))
      · cases h
    · cases h
theorem ckE_snd : ∀ (n : Nat) (e : IE) (ee : Expr), ckE defs fs n e ee = true → CkE defs fs e ee
  | 0, _, _, h => by cases h
  | n + 1, e, ee, h => by
    have hp := ckE_snd n
    unfold ckE at h
    split at h
    · split at h
      · split at h
        · rw [eqI_eq] at h
          cases eq_of_beq h
          exact .int _ _ _
        · cases h
      · split at h
        · cases eq_of_beq h
          exact .bool _ _ _
        · cases h
      · cases h
    · split at h
      · exact .loc (ckN_snd h)
      · obtain ⟨d, h1, rfl, h3⟩ := ckF_snd h
        exact .fn h1 h3
      · cases h
    · split at h
      · cases eq_of_beq (and1 h)
        exact .bin (hp _ _ (and1 (and2 h))) (hp _ _ (and2 (and2 h)))
      · cases h
    · split at h
      · cases eq_of_beq (and1 h)
        refine .cmp ?_ (hp _ _ (and1 (and2 (and2 h)))) (hp _ _ (and2 (and2 (and2 h))))
        have h2 := and1 (and2 h)
        split at h2
        · cases h2
        · assumption
      · cases h
    · split at h
      · exact .and (hp _ _ (and1 h)) (hp _ _ (and2 h))
      · cases h
    · split at h
      · exact .or (hp _ _ (and1 h)) (hp _ _ (and2 h))
      · cases h
    · split at h
      · exact .neg (hp _ _ h)
      · cases h
    · split at h
      · exact .ife (hp _ _ (and1 h)) (hp _ _ (and1 (and2 h))) (hp _ _ (and2 (and2 h)))
      · cases h
    · exact ckSub_snd hp h
    · split at h
      · exact .list (ckAll_snd hp h)
      · cases h
    · split at h
      · exact .tup (ckAll_snd hp h)
      · cases h
    · exact ckCall_snd hp h
    · split at h
      · cases eq_of_beq (and1 h)
        exact .bitlen (noCall_snd (and1 (and2 (and2 h)))) (and1 (and2 h)) (hp _ _ (and2 (and2 (and2 h))))
      · cases h
    · cases h
end Mine
end
section
open PySem PySem.W PySem.Calls PyProof.Rows
namespace Mine
section
variable (defs : List DefRec) (fs : Fs)
noncomputable def ckSrc (p : IE → Expr → Bool) (s : Src) (ee : Expr) : Bool := match s with
  | .it e => p e ee
  | .range1 a => match ee with
    | .Call (.Name y _) [ea] [] _ => ckBu fs y (Str.ofString "range") && p a ea
    | _ => false
  | .range2 a b => match ee with
    | .Call (.Name y _) [ea, eb] [] _ => ckBu fs y (Str.ofString "range") && (p a ea && p b eb)
    | _ => false
  | .range3 a b c => match ee with
    | .Call (.Name y _) [ea, eb, ec] [] _ => ckBu fs y (Str.ofString "range") && (p a ea && (p b eb && p c ec))
    | _ => false
  | .enum a => match ee with
    | .Call (.Name y _) [ea] [] _ => ckBu fs y (Str.ofString "enumerate") && p a ea
    | _ => false
noncomputable def ckT : List Nat → List Expr → Bool
  | [], [] => true
  | x :: xs, e :: es => match e with
    | .Name y _ => ckN fs x y && ckT xs es
    | _ => false
  | _, _ => false
noncomputable def notAll (b : Bool) : Bool := match b with
  | true => false
  | false => true
noncomputable def ckTup (p : IE → Expr → Bool) (xs : List Nat) (es : List IE) (ts vs : List Expr) : Bool := match xs with
  | [x1, x2] => match ts with
    | [.Name y1 p1, .Name y2 p2] => ckN fs x1 y1 && (ckN fs x2 y2 && (ckAll p es vs && (vs.length == 2 && (p2.line == p1.line && (notAll (y2 == y1) && (notAll (vs.all (foldedForSure 8)) && notAll (vs.all (constantsAlone 8))))))))
    | _ => false
  | [x1, x2, x3] => match ts with
    | [.Name y1 p1, .Name y2 p2, .Name y3 p3] => ckN fs x1 y1 && (ckN fs x2 y2 && (ckN fs x3 y3 && (ckAll p es vs && (vs.length == 3 && (p2.line == p1.line && (p3.line == p1.line && (notAll (y2 == y1) && (notAll (y3 == y1) && (notAll (y3 == y2) &&
        (notAll (vs.all (foldedForSure 8)) && notAll (vs.all (constantsAlone 8))))))))))))
    | _ => false
  | _ => false
noncomputable def noTup (e : Expr) : Bool := match e with
  | .Tuple .. => false
  | _ => true
noncomputable def ckAs (p : IE → Expr → Bool) (s : IS) (t ee : Expr) : Bool := match s with
  | .asg x e => match t with
    | .Name y _ => ckN fs x y && p e ee
    | _ => false
  | .asgT xs es => match t with
    | .Tuple ts _ _ => match ee with
      | .Tuple vs _ _ => ckTup fs p xs es ts vs
      | _ => false
    | _ => false
  | .asgU xs e => match t with
    | .Tuple ts _ _ => noTup ee && (ckT fs xs ts && p e ee)
    | _ => false
  | .setL x i e => match t with
    | .Subscript (.Name y _) ei _ => ckN fs x y && (p i ei && p e ee)
    | _ => false
  | _ => false
noncomputable def ckAllS (p : IS → Stmt → Bool) : List IS → List Stmt → Bool
  | [], [] => true
  | a :: as, e :: es => p a e && ckAllS p as es
  | _, _ => false
noncomputable def ckAp (p : IE → Expr → Bool) (x : Nat) (e : IE) (ee : Expr) : Bool := match ee with
  | .Call (.Attribute (.Name y _) m ap) [ea] [] cp => m == Str.ofString "append" && (ckN fs x y && (ap.endLine == cp.line && p e ea))
  | _ => false
noncomputable def ckFor (p : IE → Expr → Bool) (q : IS → Stmt → Bool) (s : IS) (t it : Expr) (body : List Stmt) : Bool := match s with
  | .for1 x src a => match t with
    | .Name y _ => ckN fs x y && (ckSrc fs p src it && ckAllS q a body)
    | _ => false
  | .forT xs src a => match t with
    | .Tuple ts _ _ => ckT fs xs ts && (ckSrc fs p src it && ckAllS q a body)
    | _ => false
  | _ => false
noncomputable def ckS : Nat → IS → Stmt → Bool
  | 0, _, _ => false
  | n + 1, s, st => match st with
    | .Assign [t] ee _ => ckAs fs (ckE defs fs 20) s t ee
    | .AugAssign (.Name y _) o ee _ => match s with
      | .aug x op e => ckN fs x y && (ckB op o && ckE defs fs 20 e ee)
      | _ => false
    | .Expr ee _ => match s with
      | .app x e => ckAp fs (ckE defs fs 20) x e ee
      | .ex e => ckE defs fs 20 e ee
      | _ => false
    | .If et ea eb _ => match s with
      | .ifs t a b => ckE defs fs 20 t et && (ckAllS (ckS n) a ea && ckAllS (ckS n) b eb)
      | _ => false
    | .While et ea [] _ => match s with
      | .whl t a => ckE defs fs 20 t et && ckAllS (ckS n) a ea
      | _ => false
    | .For t it body [] _ => ckFor fs (ckE defs fs 20) (ckS n) s t it body
    | .Return (some ee) _ => match s with
      | .ret e => ckE defs fs 20 e ee
      | _ => false
    | _ => match s with
      | .fail => true
      | _ => false
end
variable {defs : List DefRec} {fs : Fs}
theorem notAll_snd {b : Bool} (h : notAll b = true) : b = false := by cases b <;> first | rfl | cases h
theorem noTup_snd {e : Expr} (h : noTup e = true) {ts : List Expr} {k : Nat} {tp : Pos} (env : Env) : swappedStores [.Tuple ts k tp] e env = pure none := by
  cases e <;> first | rfl | cases h
theorem ckSrc_snd {p : IE → Expr → Bool} (hp : ∀ a e, p a e = true → CkE defs fs a e) {s : Src} {e : Expr} (h : ckSrc fs p s e = true) : CkSrc defs fs s e := by
  unfold ckSrc at h
  split at h
  · exact .it (hp _ _ h)
  · split at h
    · obtain ⟨rfl, g⟩ := ckBu_snd (and1 h)
      exact .range1 g (hp _ _ (and2 h))
    · cases h
  · split at h
    · obtain ⟨rfl, g⟩ := ckBu_snd (and1 h)
      exact .range2 g (hp _ _ (and1 (and2 h))) (hp _ _ (and2 (and2 h)))
    · cases h
  · split at h
    · obtain ⟨rfl, g⟩ := ckBu_snd (and1 h)
      exact .range3 g (hp _ _ (and1 (and2 h))) (hp _ _ (and1 (and2 (and2 h)))) (hp _ _ (and2 (and2 (and2 h))))
    · cases h
  · split at h
    · obtain ⟨rfl, g⟩ := ckBu_snd (and1 h)
      exact .enum g (hp _ _ (and2 h))
    · cases h
theorem ckT_snd : ∀ {xs : List Nat} {es : List Expr}, ckT fs xs es = true → CkT fs xs es
  | [], [], _ => .nil
  | [], _ :: _, h => by cases h
  | _ :: _, [], h => by cases h
  | x :: xs, e :: es, h => by
    unfold ckT at h
    split at h
    · exact .cons (ckN_snd (and1 h)) (ckT_snd (and2 h))
    · cases h
theorem LocN.kind (fo : fs.Ok) {x : Nat} {y : Str} (c : LocN fs x y) {env : Env} (e : env.scope = fs.sc) : env.kindOf y = some .local := by
  show env.scope.names.lookup y = _
  rw [e]; exact fo.loc y (List.mem_of_getElem? c.1)
theorem blk (fo : fs.Ok) {env : Env} (e : env.scope = fs.sc) : env.blockKind = .function := by
  unfold Env.blockKind
  rw [e, fo.kind]; rfl
theorem ckTup_snd (fo : fs.Ok) {p : IE → Expr → Bool} (hp : ∀ a e, p a e = true → CkE defs fs a e) {xs : List Nat} {es : List IE} {ts vs : List Expr} {k k' : Nat} {tp vp pos : Pos} (h : ckTup fs p xs es ts vs = true) :
    CkS defs fs (.asgT xs es) (.Assign [.Tuple ts k tp] (.Tuple vs k' vp) pos) := by
  unfold ckTup at h
  split at h
  · split at h
    · have c1 := ckN_snd (and1 h); replace h := and2 h
      have c2 := ckN_snd (and1 h); replace h := and2 h
      have ca := ckAll_snd hp (and1 h); replace h := and2 h
      exact .asgT2 c1 c2 ca fun env e => swap2 (eq_of_beq (and1 h)) (blk fo e) ca.star (c1.kind fo e) (c2.kind fo e) (and1 (and2 h)) (notAll_snd (and1 (and2 (and2 h)))) (notAll_snd (and1 (and2 (and2 (and2 h))))) (notAll_snd (and2 (and2 (and2 (and2 h)))))
    · cases h
  · split at h
    · have c1 := ckN_snd (and1 h); replace h := and2 h
      have c2 := ckN_snd (and1 h); replace h := and2 h
      have c3 := ckN_snd (and1 h); replace h := and2 h
      have ca := ckAll_snd hp (and1 h); replace h := and2 h
      have h1 := and1 h; replace h := and2 h
      have h2 := and1 h; replace h := and2 h
      have h3 := and1 h; replace h := and2 h
      have h4 := and1 h; replace h := and2 h
      have h5 := and1 h; replace h := and2 h
      have h6 := and1 h; replace h := and2 h
      exact .asgT3 c1 c2 c3 ca fun env e => swap3 (eq_of_beq h1) (blk fo e) ca.star (c1.kind fo e) (c2.kind fo e) (c3.kind fo e) h2 h3 (notAll_snd h4) (notAll_snd h5) (notAll_snd h6) (notAll_snd (and1 h)) (notAll_snd (and2 h))
    · cases h
  · cases h
theorem ckAs_snd (fo : fs.Ok) {p : IE → Expr → Bool} (hp : ∀ a e, p a e = true → CkE defs fs a e) {s : IS} {t ee : Expr} {pos : Pos} (h : ckAs fs p s t ee = true) : CkS defs fs s (.Assign [t] ee pos) := by
  unfold ckAs at h
  split at h
  · split at h
    · exact .asg (ckN_snd (and1 h)) (hp _ _ (and2 h))
    · cases h
  · split at h
    · split at h
      · exact ckTup_snd fo hp h
      · cases h
    · cases h
  · split at h
    · exact .asgU (ckT_snd (and1 (and2 h))) (hp _ _ (and2 (and2 h))) (noTup_snd (and1 h))
    · cases h
  · split at h
    · exact .setL (ckN_snd (and1 h)) (hp _ _ (and1 (and2 h))) (hp _ _ (and2 (and2 h)))
    · cases h
  · cases h
theorem ckAllS_snd {p : IS → Stmt → Bool} (hp : ∀ a e, p a e = true → CkS defs fs a e) : ∀ {as : List IS} {es : List Stmt}, ckAllS p as es = true → CkSs defs fs as es
  | [], [], _ => .nil
  | [], _ :: _, h => by cases h
  | _ :: _, [], h => by cases h
  | _ :: _, _ :: _, h => .cons (hp _ _ (and1 h)) (ckAllS_snd hp (and2 h))
theorem ckAp_snd {p : IE → Expr → Bool} (hp : ∀ a e, p a e = true → CkE defs fs a e) {x : Nat} {e : IE} {ee : Expr} {pos : Pos} (h : ckAp fs p x e ee = true) : CkS defs fs (.app x e) (.Expr ee pos) := by
  unfold ckAp at h
  split at h
  · cases eq_of_beq (and1 h)
    exact .app (ckN_snd (and1 (and2 h))) (and1 (and2 (and2 h))) (hp _ _ (and2 (and2 (and2 h))))
  · cases h
theorem ckFor_snd {p : IE → Expr → Bool} (hp : ∀ a e, p a e = true → CkE defs fs a e) {q : IS → Stmt → Bool} (hq : ∀ a e, q a e = true → CkS defs fs a e) {s : IS} {t it : Expr} {body : List Stmt} {pos : Pos} (h : ckFor fs p q s t it body = true) :
    CkS defs fs s (.For t it body [] pos) := by
  unfold ckFor at h
  split at h
  · split at h
    · exact .for1 (ckN_snd (and1 h)) (ckSrc_snd hp (and1 (and2 h))) (ckAllS_snd hq (and2 (and2 h)))
    · cases h
  · split at h
    · exact .forT (ckT_snd (and1 h)) (ckSrc_snd hp (and1 (and2 h))) (ckAllS_snd hq (and2 (and2 h)))
    · cases h
  · cases h
theorem ckS_snd (fo : fs.Ok) : ∀ (n : Nat) (s : IS) (st : Stmt), ckS defs fs n s st = true → CkS defs fs s st
  | 0, _, _, h => by cases h
  | n + 1, s, st, h => by
    have hq := ckS_snd fo n
    have hp := ckE_snd (defs := defs) (fs := fs) 20
    unfold ckS at h
    split at h
    · exact ckAs_snd fo hp h
    · split at h
      · cases eq_of_beq (and1 (and2 h))
        exact .aug (ckN_snd (and1 h)) (hp _ _ (and2 (and2 h)))
      · cases h
    · split at h
      · exact ckAp_snd hp h
      · exact .ex (hp _ _ h)
      · cases h
    · split at h
      · exact .ifs (hp _ _ (and1 h)) (ckAllS_snd hq (and1 (and2 h))) (ckAllS_snd hq (and2 (and2 h)))
      · cases h
    · split at h
      · exact .whl (hp _ _ (and1 h)) (ckAllS_snd hq (and2 h))
      · cases h
    · exact ckFor_snd hp hq h
    · split at h
      · exact .ret (hp _ _ h)
      · cases h
    · split at h
      · exact .fail
      · cases h
end Mine
end
section
open PySem PySem.W PySem.Calls PyProof.Rows
namespace Mine

theorem lookup_zip1 {y : Str} : ∀ {ks : List Str} {vs : List Value} {i : Nat} {v : Value}, ks.Nodup → ks[i]? = some y → vs[i]? = some v → (ks.zip vs).lookup y = some v
  | [], _, _, _, _, h, _ => by simp at h
  | _ :: _, [], _, _, _, _, h => by simp at h
  | k :: ks, u :: vs, 0, v, nd, h1, h2 => by
    simp at h1 h2
    subst h1 h2
    simp
  | k :: ks, u :: vs, i + 1, v, nd, h1, h2 => by
    have h1' : ks[i]? = some y := by simpa using h1
    have hne : (y == k) = false := beq_eq_false_iff_ne.mpr fun e => (List.nodup_cons.mp nd).1 (e ▸ List.mem_of_getElem? h1')
    rw [List.zip_cons_cons, List.lookup_cons, hne]
    exact lookup_zip1 (List.nodup_cons.mp nd).2 h1' (by simpa using h2)

theorem bound_zip (S : List (Str × Value)) : ∀ {ks : List Str} {vs : List Value}, vs.length = ks.length → (∀ (i : Nat) (k : Str) (v : Value), ks[i]? = some k → vs[i]? = some v → S.lookup k = some v) → ks.filterMap (fun n => (S.lookup n).map (n, ·)) = ks.zip vs
  | [], [], _, _ => rfl
  | [], _ :: _, h, _ => by simp at h
  | _ :: _, [], h, _ => by simp at h
  | k :: ks, v :: vs, h, hS => by
    rw [List.filterMap_cons, hS 0 k v rfl rfl, List.zip_cons_cons]
    simp only [Option.map_some]
    rw [bound_zip S (by simpa using h) fun i k' v' h1 h2 => hS (i + 1) k' v' (by simpa using h1) (by simpa using h2)]

theorem bind_plain {name : Str} {params : Arguments} {body : List Stmt} {scope : Scope} {pm code doc : Value} {vals : List Value} (h1 : params.posonlyargs = []) (h2 : params.vararg = none) (h3 : params.kwonlyargs = []) (h4 : params.kwarg = none)
    (nd : (params.args.map (·.arg)).Nodup) (hl : vals.length = params.args.length) :
    bindArgs (docDef name params body scope pm code doc) ⟨vals, []⟩ = pure ((params.args.map (·.arg)).zip vals) := by
  have hl' : vals.length = (params.args.map (·.arg)).length := by rw [hl, List.length_map]
  have hS : ∀ (i : Nat) (k : Str) (v : Value), (params.args.map (·.arg))[i]? = some k → vals[i]? = some v → ((params.args.map (·.arg)).zip vals).lookup k = some v := fun i k v a b => lookup_zip1 nd a b
  have hb := bound_zip _ hl' hS
  have hm : ((params.args.map (·.arg)).filter fun n => (((params.args.map (·.arg)).zip vals).lookup n).isNone) = [] := by
    rw [List.filter_eq_nil_iff]
    intro k hk
    obtain ⟨i, hi⟩ := List.getElem?_of_mem hk
    have il : i < vals.length := by rw [hl']; exact (List.getElem?_eq_some_iff.mp hi).1
    rw [hS i k vals[i] hi (List.getElem?_eq_getElem il)]
    simp
  generalize hks : params.args.map (·.arg) = ks at *
  unfold bindArgs
  simp only [docDef, h1, h2, h3, h4, hks, List.map_nil, List.nil_append, List.append_nil, List.forIn_nil]
  have hd : seqItems? Value.none = pure none := rfl
  rw [hd]
  simp only [pure_bind, Option.getD_none, Array.toList_empty]
  have hg : ¬ (vals.length > ks.length) := by omega
  simp [hg, hm, hb]
end Mine
end
section
open PySem PySem.W PySem.Calls PyProof.Rows
namespace Mine

noncomputable def memB (a : Str) : List Str → Bool
  | [] => false
  | b :: r => match a == b with
    | true => true
    | false => memB a r
noncomputable def nodupB : List Str → Bool
  | [] => true
  | a :: r => notAll (memB a r) && nodupB r
noncomputable def preB : List Str → List Str → Bool
  | [], _ => true
  | _ :: _, [] => false
  | a :: as, y :: ys => a == y && preB as ys
noncomputable def locB (names : List (Str × NameKind)) : List Str → Bool
  | [] => true
  | y :: r => match names.lookup y with
    | some .local => locB names r
    | _ => false
noncomputable def noCellB : List (Str × NameKind) → Bool
  | [] => true
  | x :: r => match x.2 with
    | .cell => false
    | _ => noCellB r
noncomputable def plainB (p : Arguments) : Bool := match p.posonlyargs with
  | [] => match p.vararg with
    | none => match p.kwonlyargs with
      | [] => match p.kwarg with
        | none => true
        | some _ => false
      | _ => false
    | some _ => false
  | _ => false
noncomputable def funB (s : Scope) : Bool := match s.kind with
  | .function => notAll s.isCoroutine && notAll s.isGenerator
  | _ => false
noncomputable def fsB (fs : Fs) : Bool := funB fs.sc && (nodupB fs.nm && locB fs.sc.names fs.nm)
noncomputable def fnB (defs : List DefRec) (f : Fn) (d : DefRec) (nm : List Str) : Bool :=
  fsB ⟨nm, d.scope⟩ && (Nat.beq d.params.args.length f.nargs && (preB (d.params.args.map (·.arg)) nm && (plainB d.params && (noCellB d.scope.names && ckAllS (ckS defs ⟨nm, d.scope⟩ 12) f.body d.body))))

theorem memB_snd {a : Str} : ∀ {l : List Str}, memB a l = false → a ∉ l
  | [], _ => by simp
  | b :: r, h => by
    unfold memB at h
    split at h
    · cases h
    · next hb => exact fun hm => (List.mem_cons.mp hm).elim (fun e => (beq_eq_false_iff_ne.mp hb) e) (memB_snd h)
theorem nodupB_snd : ∀ {l : List Str}, nodupB l = true → l.Nodup
  | [], _ => .nil
  | _ :: _, h => List.nodup_cons.mpr ⟨memB_snd (notAll_snd (and1 h)), nodupB_snd (and2 h)⟩
theorem preB_snd : ∀ {l nm : List Str}, preB l nm = true → ∀ (i : Nat) (y : Str), l[i]? = some y → nm[i]? = some y
  | [], _, _, _, _, h => by simp at h
  | _ :: _, [], h, _, _, _ => by cases h
  | a :: as, y :: ys, h, 0, z, e => by
    have := eq_of_beq (and1 h)
    subst this
    simpa using e
  | a :: as, y :: ys, h, i + 1, z, e => by
    have := preB_snd (and2 h) i z (by simpa using e)
    simpa using this
theorem pre_nodup : ∀ {l nm : List Str}, preB l nm = true → nm.Nodup → l.Nodup
  | [], _, _, _ => .nil
  | _ :: _, [], h, _ => by cases h
  | a :: as, y :: ys, h, nd => by
    obtain ⟨n1, n2⟩ := List.nodup_cons.mp nd
    refine List.nodup_cons.mpr ⟨fun hm => n1 ?_, pre_nodup (and2 h) n2⟩
    obtain ⟨i, hi⟩ := List.getElem?_of_mem hm
    exact eq_of_beq (and1 h) ▸ List.mem_of_getElem? (preB_snd (and2 h) i a hi)
theorem locB_snd {names : List (Str × NameKind)} : ∀ {l : List Str}, locB names l = true → ∀ x ∈ l, names.lookup x = some .local
  | [], _, _, h => (nomatch h)
  | y :: r, h, x, hm => by
    unfold locB at h
    split at h
    · next e => exact (List.mem_cons.mp hm).elim (fun q => q ▸ e) (locB_snd h x)
    · cases h
theorem noCellB_snd : ∀ {l : List (Str × NameKind)}, noCellB l = true → ∀ x ∈ l, x.2 ≠ .cell
  | [], _, _, h => (nomatch h)
  | y :: r, h, x, hm => by
    unfold noCellB at h
    split at h
    · cases h
    · next e => exact (List.mem_cons.mp hm).elim (fun q => q ▸ e) (noCellB_snd h x)
theorem plainB_snd {p : Arguments} (h : plainB p = true) : p.posonlyargs = [] ∧ p.vararg = none ∧ p.kwonlyargs = [] ∧ p.kwarg = none := by
  unfold plainB at h
  split at h
  · split at h
    · split at h
      · split at h
        · exact ⟨by assumption, by assumption, by assumption, by assumption⟩
        · cases h
      · cases h
    · cases h
  · cases h
theorem funB_snd {s : Scope} (h : funB s = true) : s.kind = .function ∧ s.isCoroutine = false ∧ s.isGenerator = false := by
  unfold funB at h
  split at h
  · exact ⟨by assumption, notAll_snd (and1 h), notAll_snd (and2 h)⟩
  · cases h
theorem fsB_snd {fs : Fs} (h : fsB fs = true) : fs.Ok := ⟨(funB_snd (and1 h)).1, nodupB_snd (and1 (and2 h)), locB_snd (and2 (and2 h))⟩
theorem fnB_snd {defs : List DefRec} {f : Fn} {d : DefRec} {nm : List Str} (h : fnB defs f d nm = true) : FnOk defs f d nm := by
  have h0 := and1 h
  have h1 := Nat.eq_of_beq_eq_true (and1 (and2 h))
  have h2 := and1 (and2 (and2 h))
  have h3 := and1 (and2 (and2 (and2 h)))
  have h4 := and1 (and2 (and2 (and2 (and2 h))))
  have h5 := and2 (and2 (and2 (and2 (and2 h))))
  have fo := fsB_snd h0
  have hf := funB_snd (s := d.scope) (and1 h0)
  have nd := pre_nodup h2 fo.nd
  obtain ⟨p1, p2, p3, p4⟩ := plainB_snd h3
  exact ⟨fo, ckAllS_snd (ckS_snd fo 12) h5, h1, preB_snd h2, nd, fun pm code doc vals hl => bind_plain p1 p2 p3 p4 nd (hl.trans h1.symm), hf.2.1, hf.2.2, noCellB_snd h4⟩

/-- the check of all defs -/
noncomputable def fnsB (defs : List DefRec) : List Fn → List DefRec → List (List Str) → Bool
  | [], _, _ => true
  | f :: fr, d :: dr, nm :: nr => fnB defs f d nm && fnsB defs fr dr nr
  | _ :: _, _, _ => false
theorem fnsB_snd {defs : List DefRec} : ∀ {fs : List Fn} {ds : List DefRec} {ns : List (List Str)}, fnsB defs fs ds ns = true → ∀ k f d, fnAt fs k = some f → defAt ds k = some d → ∃ nm, FnOk defs f d nm
  | [], _, _, _, _, _, _, h, _ => by cases h
  | _ :: _, [], _, h, _, _, _, _, _ => by cases h
  | _ :: _, _ :: _, [], h, _, _, _, _, _ => by cases h
  | _ :: _, _ :: _, _ :: _, h, 0, _, _, e1, e2 => by
    cases e1; cases e2
    exact ⟨_, fnB_snd (and1 h)⟩
  | _ :: _, _ :: _, _ :: _, h, k + 1, _, _, e1, e2 => fnsB_snd (and2 h) k _ _ e1 e2
end Mine
end
section
open PySem PySem.W PySem.Calls PyProof.Rows
namespace Mine
/-- the defs of a text, as they stand -/
noncomputable def defsOf : List Stmt → List DefRec
  | [] => []
  | st :: r => match st with
    | .FunctionDef n a b _ _ _ sc _ _ pos => ⟨n, a, b, sc, pos⟩ :: defsOf r
    | _ => defsOf r
noncomputable def pick (l : List DefRec) : List Nat → List DefRec
  | [] => []
  | i :: r => match defAt l i with
    | some d => d :: pick l r
    | none => pick l r
noncomputable def bodyL : List Stmt := PySem.Challenge.pw_xm0434_01.main.body
noncomputable def defsL : List DefRec := pick (defsOf bodyL) [0, 1, 2, 3, 4, 5, 6, 7, 8, 9, 10, 11, 12, 13, 14, 15, 16, 17, 18, 19, 20, 21, 22, 23, 24, 25, 26, 27, 28, 29, 30, 31, 33, 34, 35, 36, 37, 38, 32]
noncomputable def nms : List (List Str) := [[Str.ofString "a", Str.ofString "end"],
  [Str.ofString "number", Str.ofString "w", Str.ofString "found", Str.ofString "mask"],
  [Str.ofString "a", Str.ofString "b", Str.ofString "at"],
  [Str.ofString "a", Str.ofString "b", Str.ofString "w", Str.ofString "found", Str.ofString "carry", Str.ofString "mask", Str.ofString "at"],
  [Str.ofString "a", Str.ofString "b", Str.ofString "w", Str.ofString "found", Str.ofString "borrow", Str.ofString "base", Str.ofString "at", Str.ofString "limb"],
  [Str.ofString "a", Str.ofString "limb", Str.ofString "w", Str.ofString "found", Str.ofString "rest", Str.ofString "at"],
  [Str.ofString "a", Str.ofString "n", Str.ofString "w", Str.ofString "spots", Str.ofString "few", Str.ofString "found", Str.ofString "carry", Str.ofString "mask", Str.ofString "one"],
  [Str.ofString "a", Str.ofString "n", Str.ofString "w", Str.ofString "spots", Str.ofString "few", Str.ofString "found", Str.ofString "mask", Str.ofString "at", Str.ofString "above"],
  [Str.ofString "a", Str.ofString "w"],
  [Str.ofString "is_below", Str.ofString "nat"],
  [Str.ofString "x", Str.ofString "y", Str.ofString "w"],
  [Str.ofString "x", Str.ofString "y", Str.ofString "w", Str.ofString "mul"],
  [Str.ofString "a", Str.ofString "b", Str.ofString "w", Str.ofString "divrem"],
  [Str.ofString "x", Str.ofString "d", Str.ofString "w", Str.ofString "divrem"],
  [Str.ofString "nat"],
  [Str.ofString "top", Str.ofString "bottom", Str.ofString "w", Str.ofString "divrem", Str.ofString "told"],
  [Str.ofString "x", Str.ofString "y", Str.ofString "w", Str.ofString "mul", Str.ofString "divrem", Str.ofString "told", Str.ofString "here", Str.ofString "there", Str.ofString "top", Str.ofString "out"],
  [Str.ofString "x", Str.ofString "y", Str.ofString "w", Str.ofString "mul", Str.ofString "divrem", Str.ofString "one", Str.ofString "other", Str.ofString "top"],
  [Str.ofString "n", Str.ofString "is_left", Str.ofString "found", Str.ofString "one", Str.ofString "many"],
  [Str.ofString "n"],
  [Str.ofString "base", Str.ofString "many", Str.ofString "w", Str.ofString "mul", Str.ofString "found", Str.ofString "square"],
  [Str.ofString "pairs", Str.ofString "w", Str.ofString "mul", Str.ofString "half"],
  [Str.ofString "n", Str.ofString "prime", Str.ofString "found"],
  [Str.ofString "n", Str.ofString "k", Str.ofString "w", Str.ofString "mul", Str.ofString "pairs", Str.ofString "prime", Str.ofString "many"],
  [Str.ofString "pairs", Str.ofString "w", Str.ofString "mul", Str.ofString "found", Str.ofString "a", Str.ofString "b"],
  [Str.ofString "a", Str.ofString "b", Str.ofString "w", Str.ofString "found", Str.ofString "mask", Str.ofString "at", Str.ofString "limb", Str.ofString "carry", Str.ofString "spot", Str.ofString "other"],
  [Str.ofString "a", Str.ofString "b", Str.ofString "w", Str.ofString "quotient", Str.ofString "rest"],
  [Str.ofString "top", Str.ofString "first", Str.ofString "second", Str.ofString "w", Str.ofString "high", Str.ofString "base", Str.ofString "limb", Str.ofString "rest"],
  [Str.ofString "rest", Str.ofString "b", Str.ofString "limb", Str.ofString "at", Str.ofString "w", Str.ofString "carry", Str.ofString "base", Str.ofString "spot", Str.ofString "other", Str.ofString "here"],
  [Str.ofString "rest", Str.ofString "b", Str.ofString "at", Str.ofString "w", Str.ofString "carry", Str.ofString "mask", Str.ofString "spot", Str.ofString "other"],
  [Str.ofString "rest", Str.ofString "b", Str.ofString "w", Str.ofString "size", Str.ofString "quotient", Str.ofString "at", Str.ofString "limb"],
  [Str.ofString "a", Str.ofString "b", Str.ofString "w", Str.ofString "shift", Str.ofString "divisor", Str.ofString "rest", Str.ofString "quotient"],
  [Str.ofString "number", Str.ofString "w", Str.ofString "found"],
  [Str.ofString "number", Str.ofString "w"],
  [Str.ofString "places", Str.ofString "orders", Str.ofString "turn", Str.ofString "longer", Str.ofString "order", Str.ofString "one", Str.ofString "up"],
  [Str.ofString "x", Str.ofString "y", Str.ofString "w"],
  [Str.ofString "above", Str.ofString "below", Str.ofString "w"],
  [Str.ofString "many", Str.ofString "w", Str.ofString "found", Str.ofString "at", Str.ofString "total", Str.ofString "less", Str.ofString "part"],
  [Str.ofString "wave", Str.ofString "many"]]
noncomputable def nmLaw : List Str := [Str.ofString "script", Str.ofString "wave", Str.ofString "w", Str.ofString "places", Str.ofString "row", Str.ofString "ends", Str.ofString "size", Str.ofString "longer", Str.ofString "ahead", Str.ofString "pairs", Str.ofString "at", Str.ofString "told", Str.ofString "half", Str.ofString "fours", Str.ofString "due"]
noncomputable def lawD : Option DefRec := defAt (defsOf bodyL) 39
set_option maxRecDepth 100000
theorem fns_ok : fnsB defsL fns defsL nms = true := by decide +kernel
end Mine
end
section
open PySem PySem.W PySem.Calls PyProof.Rows
namespace Mine

theorem relabel_id {sc : Scope} {env : Env} (hf : ∀ y ∈ sc.names, y.2 ≠ .free) : relabel sc env = sc := by
  unfold relabel
  have : (sc.names.map fun (n, k) => if (k == .free && env.scope.kind == .function && env.kindOf n == some .cell) then (n, NameKind.cell) else (n, k)) = sc.names := by
    conv => rhs; rw [← List.map_id sc.names]
    refine List.map_congr_left fun x hx => ?_
    have h1 : (x.2 == NameKind.free) = false := beq_eq_false_iff_ne.mpr (hf x hx)
    simp only [h1, Bool.false_and, Bool.false_eq_true, if_false, id]
  rw [this]

/-- an int's absolute value, as a crest is laid into the wave -/
noncomputable def AbsOf (v y : Value) : Prop := ∃ (c : Int) (t u : Tok), v = .int c t ∧ y = .int (Int.ofNat c.natAbs) u
theorem paired_abs : ∀ {l1 l2 : List Value}, Paired AbsOf l1 l2 → ∃ cs : List Nat, cs.length = l1.length ∧ ∀ h F, RVs h F l2 (cs.map dI)
  | _, _, .nil => ⟨[], rfl, fun _ _ => .nil⟩
  | _, _, .cons ⟨c, _, u, _, e⟩ r => by
    obtain ⟨cs, h1, h2⟩ := paired_abs r
    subst e
    exact ⟨c.natAbs :: cs, by simp [h1], fun h F => .cons (.int ..) (h2 h F)⟩

/-- the scope of the comprehension -/
structure ScOk (sc : Scope) (cr : Str) : Prop where
  kind : sc.kind = .function
  free : ∀ y ∈ sc.names, y.2 ≠ .free
  cell : ∀ y ∈ sc.names, y.2 ≠ .cell
  loc : ∀ y ∈ sc.names, y.2 = .local → sc.names.lookup y.1 = some .local
  crl : sc.names.lookup cr = some .local
  crd : (cr == ("__debug__" : Str)) = false
  ab : sc.names.lookup (Str.ofString "abs") = some .globalImplicit
  it : sc.names.lookup (Str.ofString "int") = some .globalImplicit

section
variable {X : Cx} {prog : Program} {w : World} {A : Around} {E : Value → Shared → Prop} {f : Fm} {m : Str → Option Value} {s₀ : Shared} {h : Heap} {F : Fz} {σ : St} {tk : Nat}

theorem crest_snd (XO : X.Ok) (hi : X.mg (Str.ofString "int") = none) (hb : ∃ mb, X.h₀.Ns builtinsNs mb ∧ mb (Str.ofString "int") = some (.type "int")) {sc : Scope} {cr : Str} (so : ScOk sc cr) {s : Shared} {m₃ : Str → Option Value} {C : Addr}
    {p3 p4 p5 p6 p7 : Pos} {v : Value} {Q : Value → Shared → Prop} (hk : ∀ b o, X.h₀.get? b = some o → s.heap.get? b = some o) (hn : s.heap.Ns C m₃) (hm : m₃ cr = some v) (hv : ∃ (c : Int) (t : Tok), v = .int c t)
    {env : Env} (h1 : env.scope = sc) (h2 : env.locals = C) (h3 : env.globals = mainGlobals) (h4 : env.builtins = builtinsNs)
    (hq : ∀ y tk, AbsOf v y → Q y { s with toks := tk }) :
    wpAny (model prog w) A (eval (.Call (.Name (Str.ofString "abs") p3) [.Call (.Name (Str.ofString "int") p4) [.Name cr p5] [] p6] [] p7) env) Q E s := by
  obtain ⟨c, t, rfl⟩ := hv
  obtain ⟨mb, hb0, _, _, _, _, hb1⟩ := XO.b
  obtain ⟨mb', hb0', hb1'⟩ := hb
  have kd : ∀ x, env.kindOf x = sc.names.lookup x := fun x => by show env.scope.names.lookup x = _; rw [h1]
  have ek : env.scope.kind = .function := h1 ▸ so.kind
  have ns1 : NoStar (.Name cr p5) := fun _ _ e => (nomatch e)
  have ns2 : NoStar (.Call (.Name (Str.ofString "int") p4) [.Name cr p5] [] p6) := fun _ _ e => (nomatch e)
  have gl : s.heap.Ns env.globals X.mg := h3 ▸ XO.g.keeps hk
  have b1 : s.heap.Ns env.builtins mb := h4 ▸ hb0.keeps hk
  have b2 : s.heap.Ns env.builtins mb' := h4 ▸ hb0'.keeps hk
  refine Call_ (Name_function_global ek ((kd _).trans so.ab) (loadGlobal_builtin gl XO.free.2.2.2.2 b1 hb1 (lf_callB ⟨ns2, trivial⟩ (lf_more ns2 ?_))) (by decide +kernel))
  refine Call_ (Name_function_global ek ((kd _).trans so.it) (loadGlobal_builtin gl hi b2 hb1' (lf_callT ⟨ns1, trivial⟩ (lf_more ns1 ?_))) (by decide +kernel))
  refine wpAny_Name (wpAny_loadName_local ek ((kd _).trans so.crl) (h2 ▸ hn) hm ?_) so.crd
  refine spliced_none (call_int_int (spliced_none (call_abs_int fun u tk' => hq _ tk' ⟨c, t, u, rfl, ?_⟩)))
  congr 1
  by_cases q : c < 0
  · rw [if_pos q]
    show -c = (c.natAbs : Int)
    omega
  · rw [if_neg q]
    show c = (c.natAbs : Int)
    omega

theorem comp_snd (XO : X.Ok) (hi : X.mg (Str.ofString "int") = none) (hb : ∃ mb, X.h₀.Ns builtinsNs mb ∧ mb (Str.ofString "int") = some (.type "int")) (fo : f.fs.Ok) (hh : A.handled = none) {sc : Scope} {cr y0 : Str} (so : ScOk sc cr) (c0 : LocN f.fs 0 y0)
    {ls : Addr} {vs : List Value} (S : StR X f m h F σ) (hm0 : m y0 = some (.ref ls)) (hl : h.IsList ls vs.toArray) (hz : vs.length ≤ 63) (hv : ∀ v ∈ vs, ∃ (c : Int) (t : Tok), v = .int c t)
    {p3 p4 p5 p6 p7 p8 p9 p10 p11 p12 p13 : Pos} {k1 : Nat} {Q : Value → Shared → Prop}
    (hq : ∀ D h' tk' ys (cs : List Nat), cs.length ≤ 2 → h.get? D = none → h'.PlainList D ys → (∀ h F, RVs h F ys.toList (cs.map dI)) → (∀ b o, h.get? b = some o → h'.get? b = some o) → Q (.ref D) (mk s₀ h' tk')) :
    wpAny (model prog w) A (eval (.ListComp (.Call (.Name (Str.ofString "abs") p3) [.Call (.Name (Str.ofString "int") p4) [.Name cr p5] [] p6] [] p7)
      [⟨.Name cr p8, .Subscript (.Name y0 p9) (.Slice none (some (.Constant (.int 2) k1 p10)) none p11) p12, [], 0⟩] sc p13) f.env) Q E (mk s₀ h tk) := by
  refine wpAny_ListComp_free (fun _ => true) AbsOf (closureFor_none so.free) so.cell so.kind so.loc so.crl ?_
  refine wpAny_Subscript_list_slice (ld_snd fo S c0 hm0 ?_)
  rw [evalPart_none]
  refine wpAny_pure ?_
  rw [evalPart_some]
  refine wpAny_Constant_int ?_
  refine ⟨ls, vs.toArray, none, some 2, rfl, hl, size_line (by rw [List.size_toArray]; omega), .none, .int _ _, ?_⟩
  have hpk : slicePick vs.toArray none (some (2 : Int)) none = (vs.take 2).toArray := slicePick_upto' vs.toArray 2
  rw [hpk]
  generalize hG : (h.push { cls := .type "slice", data := .fields #[.none, .int 2 (mk s₀ h tk).toks, .none] }) = G
  have kG : ∀ b o, h.get? b = some o → G.get? b = some o := fun b o e => by rw [← hG]; exact Heap.get?_push_of_some _ e
  have sG : h.objs.size + 1 = G.objs.size := by rw [← hG]; exact (Heap.size_push ..).symm
  have eG : (mk s₀ h tk).heap.push { cls := .type "slice", data := .fields #[.none, .int 2 (mk s₀ h tk).toks, .none] } = G := hG
  show wpAny _ _ (pyIter (.ref (h.objs.size + 1))) _ _ _
  rw [sG]
  generalize hH : G.push { cls := .type "list", data := .seq (vs.take 2).toArray } = H
  have kH : ∀ b o, h.get? b = some o → H.get? b = some o := fun b o e => by rw [← hH]; exact Heap.get?_push_of_some _ (kG b o e)
  have lD : H.IsList G.objs.size (vs.take 2).toArray := ⟨_, by rw [← hH]; exact Heap.get?_push_size _ rfl, rfl, _, rfl⟩
  have sH : H.objs.size = G.objs.size + 1 := by rw [← hH]; exact Heap.size_push ..
  refine wpAny_pyIter_list lD ?_
  generalize hJ : H.push { cls := .type "list_iterator", data := .fields #[.ref G.objs.size, .int 0 0] } = J
  have kJ : ∀ b o, h.get? b = some o → J.get? b = some o := fun b o e => by rw [← hJ]; exact Heap.get?_push_of_some _ (kH b o e)
  have sJ : J.objs.size = H.objs.size + 1 := by rw [← hJ]; exact Heap.size_push ..
  have hne : G.objs.size ≠ H.objs.size := by rw [sH]; exact Nat.ne_of_lt (Nat.lt_succ_self _)
  have it0 : J.IsListIter H.objs.size G.objs.size 0 := ⟨_, by rw [← hJ]; exact Heap.get?_push_size _ rfl, rfl, rfl⟩
  have lJ : J.IsList G.objs.size (vs.take 2).toArray := by rw [← hJ]; exact lD.push _
  have newI : h.get? H.objs.size = none := by
    cases e : h.get? H.objs.size with
    | none => rfl
    | some o => exact absurd (Heap.lt_size e) (Nat.not_lt.mpr (by rw [sH, ← sG]; exact Nat.le_succ_of_le (Nat.le_succ _)))
  refine ⟨H.objs.size, _, _, _, _, _, rfl, Walks.list hh H.objs.size G.objs.size hne (vs.take 2).toArray, size_line ?_, ⟨it0, lJ⟩, ?_, ⟨?_, ?_⟩, ?_⟩
  · rw [List.size_toArray, List.length_take]; omega
  · intro b hb
    show b < J.objs.size
    rw [sJ, sH]
    simp only [List.mem_cons, List.not_mem_nil, or_false] at hb
    rcases hb with rfl | rfl
    · rw [sH]; exact Nat.lt_succ_self _
    · exact Nat.lt_succ_of_lt (Nat.lt_succ_self _)
  · intro C i v s₃ m₃ E' _ _ _ _ _ _
    exact wpAny_tests_nil ⟨rfl, s₃.heap, s₃.toks, rfl, fun _ _ e => e⟩
  · intro C i v s₃ m₃ E' _ hP _ hn hm hk _
    have hvm : v ∈ vs := by
      have h1 : (vs.take 2)[i]? = some v := by simpa using hP
      exact List.mem_of_mem_take (List.mem_of_getElem? h1)
    refine crest_snd XO hi hb so (C := C) (m₃ := m₃) (fun b o e => hk b o (fun z => ?_) (kJ b o (S.bi.base b o e).1)) hn hm (hv v hvm) (relabel_id so.free) rfl rfl rfl fun y tk' r => ⟨r, s₃.heap, tk', rfl, fun _ _ e => e⟩
    have z' : b = H.objs.size := by simpa using z
    rw [z'] at e
    rw [(S.bi.base _ o e).1] at newI
    cases newI
  · intro D h' tk' ys vs' hD _ hpl hlen hP hF hk
    have hnD : h.get? D = none := by
      cases e : h.get? D with
      | none => rfl
      | some o => rw [show J.get? D = some o from kJ D o e] at hD; cases hD
    obtain ⟨cs, h1, h2⟩ := paired_abs hF
    refine hq D h' tk' ys cs ?_ hnD hpl h2 fun b o e => hk b o (fun z => ?_) (kJ b o e)
    · have hf : (vs'.filter fun _ => true).length ≤ vs'.length := List.length_filter_le _ _
      have hs : (vs.take 2).toArray.size ≤ 2 := by rw [List.size_toArray, List.length_take]; omega
      rw [h1]; exact Nat.le_trans hf (hlen ▸ hs)
    · have z' : b = H.objs.size := by simpa using z
      rw [z', newI] at e; cases e
end
end Mine
end
section
open PySem PySem.W PySem.Calls PyProof.Rows
namespace Mine
section
variable {X : Cx} {prog : Program} {w : World} {A : Around} {E : Value → Shared → Prop} {f : Fm} {m : Str → Option Value} {s₀ : Shared} {h : Heap} {F : Fz} {tk : Nat}

theorem own_none {nm : List Str} {wv a b : Loc} (h1 : ∀ l, wv ≠ .own l) (h2 : ∀ l, a ≠ .own l) (h3 : ∀ l, b ≠ .own l) {i : Nat} {x : Addr} : ¬ OwnAt (sgL wv a b) nm m i x := by
  rintro ⟨⟨l, hl⟩, _⟩
  match i, hl with
  | 0, hl => cases hl
  | 1, hl => exact h1 l hl
  | 2, hl => exact h2 l hl
  | 3, hl => exact h3 l hl
  | 4, hl => cases hl
  | 5, hl => cases hl
  | 6, hl => cases hl
  | 7, hl => cases hl
  | 8, hl => cases hl
  | 9, hl => cases hl
  | 10, hl => cases hl
  | 11, hl => cases hl
  | 12, hl => cases hl
  | 13, hl => cases hl
  | 14, hl => cases hl
  | n + 15, hl => cases hl

theorem s1_snd (XO : X.Ok) (hi : X.mg (Str.ofString "int") = none) (hb : ∃ mb, X.h₀.Ns builtinsNs mb ∧ mb (Str.ofString "int") = some (.type "int")) (fo : f.fs.Ok) (hh : A.handled = none) {sc : Scope} {cr y0 y1 : Str} (so : ScOk sc cr) (c0 : LocN f.fs 0 y0) (c1 : LocN f.fs 1 y1)
    {ls : Addr} {vs : List Value} (S : StR X f m h F (sgL .un .un .un)) (hm0 : m y0 = some (.ref ls)) (hl : h.IsList ls vs.toArray) (hz : vs.length ≤ 63) (hv : ∀ v ∈ vs, ∃ (c : Int) (t : Tok), v = .int c t)
    {p1 p2 p3 p4 p5 p6 p7 p8 p9 p10 p11 p12 p13 p14 p15 : Pos} {k0 k1 : Nat} {Q : Flow → Shared → Prop}
    (hq : ∀ (cs : List Nat) m' h' F' tk', cs.length ≤ 2 → StR X f m' h' F' (sgL (wvL (cs.map dI) 0) .un .un) → Q .next (mk s₀ h' tk')) :
    wpAny (model prog w) A (exec (.Assign [.Name y1 p1] (.List [.Constant (.int 0) k0 p2, .ListComp (.Call (.Name (Str.ofString "abs") p3) [.Call (.Name (Str.ofString "int") p4) [.Name cr p5] [] p6] [] p7)
      [⟨.Name cr p8, .Subscript (.Name y0 p9) (.Slice none (some (.Constant (.int 2) k1 p10)) none p11) p12, [], 0⟩] sc p13] p14) p15) f.env) Q E (mk s₀ h tk) := by
  have ns1 : NoStar (.Constant (.int 0) k0 p2) := fun _ _ e => (nomatch e)
  have nO : ∀ b, ¬ Own (sgL .un .un .un) f.fs.nm m b := fun b ⟨i, o⟩ => own_none (by intro _ e; cases e) (by intro _ e; cases e) (by intro _ e; cases e) o
  refine wpAny_Assign_Name (List_ (lf_more ns1 (wpAny_Constant_int (lf_more (fun _ _ e => (nomatch e)) (comp_snd XO hi hb fo hh so c0 S hm0 hl hz hv fun D h' tk' ys cs hcs hD hpl hr hk => spliced_none ?_))))) rfl
  obtain ⟨nD, hpl⟩ := hpl
  have S1 := S.grow hk
  have hDL : D ≠ f.L := by
    obtain ⟨o, _, _, e, _⟩ := S.ns
    intro z
    rw [← z, hD] at e; cases e
  have S2 := S1.freeze (nO D) hDL ⟨_, hpl⟩
  have rv : RVs h' (fun b => F b ∨ b = D) [.int 0 (mk s₀ h tk).toks, .ref D] [dI 0, .list (cs.map dI)] :=
    .cons (.int ..) (.cons (.list (.inr rfl) hpl (hr _ _)) .nil)
  have x1 : Stp (Own (sgL .un .un .un) f.fs.nm m) h F h' (fun b => F b ∨ b = D) :=
    ⟨fun b o e _ => hk b o e, fun b fb => .inl fb, fun b fb => fb.elim .inl fun e => .inr (.inr (e ▸ hD))⟩
  obtain ⟨S3, r3⟩ := S2.newList (vs := [.int 0 (mk s₀ h tk).toks, .ref D].toArray) rv
  refine lf_newList (by simp) ?_
  refine stE_snd (X := X) (σ' := sgL (wvL (cs.map dI) 0) .un .un) (σ := sgL .un .un .un) (h := h) (F := F) fo S3 (x1.trans (Stp.push (D := Own (sgL .un .un .un) f.fs.nm m) _) fun a y => .inl y) (fun b y => y) c1 (r3.before x1 fun b y => y) rfl fun m' h'' R => ?_
  exact hq cs m' h'' _ _ hcs R.st
end
end Mine
end
section
open PySem PySem.W PySem.Calls PyProof.Rows
namespace Mine

noncomputable def isInt (i : Int) (e : Expr) : Bool := match e with
  | .Constant c _ _ => match c with
    | .int j => eqI j i
    | _ => false
  | _ => false
noncomputable def isNm (y : Str) (e : Expr) : Bool := match e with
  | .Name z _ => z == y
  | _ => false
theorem isInt_snd {i : Int} {e : Expr} (h : isInt i e = true) : ∃ k p, e = .Constant (.int i) k p := by
  unfold isInt at h
  split at h
  · split at h
    · rw [eqI_eq] at h
      cases eq_of_beq h
      exact ⟨_, _, rfl⟩
    · cases h
  · cases h
theorem isNm_snd {y : Str} {e : Expr} (h : isNm y e = true) : ∃ p, e = .Name y p := by
  unfold isNm at h
  split at h
  · cases eq_of_beq h
    exact ⟨_, rfl⟩
  · cases h
noncomputable def freeB : List (Str × NameKind) → Bool
  | [] => true
  | x :: r => match x.2 with
    | .free => false
    | .cell => false
    | _ => freeB r
noncomputable def localB (names : List (Str × NameKind)) : List (Str × NameKind) → Bool
  | [] => true
  | x :: r => match x.2 with
    | .local => match names.lookup x.1 with
      | some .local => localB names r
      | _ => false
    | _ => localB names r
noncomputable def isLoc (sc : Scope) (y : Str) : Bool := match sc.names.lookup y with
  | some .local => true
  | _ => false
noncomputable def isGlb (sc : Scope) (y : Str) : Bool := match sc.names.lookup y with
  | some .globalImplicit => true
  | _ => false
noncomputable def scB (sc : Scope) (cr : Str) : Bool := funB sc && (freeB sc.names && (localB sc.names sc.names && (isLoc sc cr && (ckY cr && (isGlb sc (Str.ofString "abs") && isGlb sc (Str.ofString "int"))))))
theorem freeB_snd : ∀ {l : List (Str × NameKind)}, freeB l = true → ∀ x ∈ l, x.2 ≠ .free ∧ x.2 ≠ .cell
  | [], _, _, h => (nomatch h)
  | y :: r, h, x, hm => by
    unfold freeB at h
    split at h
    · cases h
    · cases h
    · next e1 e2 => exact (List.mem_cons.mp hm).elim (fun q => q ▸ ⟨e1, e2⟩) (freeB_snd h x)
theorem localB_snd {names : List (Str × NameKind)} : ∀ {l : List (Str × NameKind)}, localB names l = true → ∀ x ∈ l, x.2 = .local → names.lookup x.1 = some .local
  | [], _, _, h, _ => (nomatch h)
  | y :: r, h, x, hm, hl => by
    unfold localB at h
    split at h
    · split at h
      · next e => exact (List.mem_cons.mp hm).elim (fun q => q ▸ e) (fun q => localB_snd h x q hl)
      · cases h
    · next e => exact (List.mem_cons.mp hm).elim (fun q => absurd (q ▸ hl) e) (fun q => localB_snd h x q hl)
theorem isLoc_snd {sc : Scope} {y : Str} (h : isLoc sc y = true) : sc.names.lookup y = some .local := by
  unfold isLoc at h
  split at h
  · assumption
  · cases h
theorem isGlb_snd {sc : Scope} {y : Str} (h : isGlb sc y = true) : sc.names.lookup y = some .globalImplicit := by
  unfold isGlb at h
  split at h
  · assumption
  · cases h
theorem scB_snd {sc : Scope} {cr : Str} (h : scB sc cr = true) : ScOk sc cr := by
  have h0 := and1 h; replace h := and2 h
  have h1 := and1 h; replace h := and2 h
  have h2 := and1 h; replace h := and2 h
  have h3 := and1 h; replace h := and2 h
  have h4 := and1 h; replace h := and2 h
  exact ⟨(funB_snd h0).1, fun y hy => (freeB_snd h1 y hy).1, fun y hy => (freeB_snd h1 y hy).2, localB_snd h2, isLoc_snd h3, ckY_snd h4, isGlb_snd (and1 h), isGlb_snd (and2 h)⟩

/-- abs(int(crest)) -/
noncomputable def eltB (cr : Str) (e : Expr) : Bool := match e with
  | .Call f [a] [] _ => isNm (Str.ofString "abs") f && (match a with
    | .Call g [b] [] _ => isNm (Str.ofString "int") g && isNm cr b
    | _ => false)
  | _ => false
theorem eltB_snd {cr : Str} {e : Expr} (h : eltB cr e = true) : ∃ p3 p4 p5 p6 p7, e = .Call (.Name (Str.ofString "abs") p3) [.Call (.Name (Str.ofString "int") p4) [.Name cr p5] [] p6] [] p7 := by
  unfold eltB at h
  split at h
  · obtain ⟨p3, rfl⟩ := isNm_snd (and1 h)
    replace h := and2 h
    split at h
    · obtain ⟨p4, rfl⟩ := isNm_snd (and1 h)
      obtain ⟨p5, rfl⟩ := isNm_snd (and2 h)
      exact ⟨_, _, _, _, _, rfl⟩
    · cases h
  · cases h
/-- script[:2] -/
noncomputable def iterB (fs : Fs) (e : Expr) : Bool := match e with
  | .Subscript a i _ => match a with
    | .Name y _ => match i with
      | .Slice none (some u) none _ => ckN fs 0 y && isInt 2 u
      | _ => false
    | _ => false
  | _ => false
theorem iterB_snd {fs : Fs} {e : Expr} (h : iterB fs e = true) : ∃ y0 p9 k1 p10 p11 p12, e = .Subscript (.Name y0 p9) (.Slice none (some (.Constant (.int 2) k1 p10)) none p11) p12 ∧ LocN fs 0 y0 := by
  unfold iterB at h
  split at h
  · split at h
    · split at h
      · obtain ⟨k1, p10, rfl⟩ := isInt_snd (and2 h)
        exact ⟨_, _, _, _, _, _, rfl, ckN_snd (and1 h)⟩
      · cases h
    · cases h
  · cases h
noncomputable def genB (fs : Fs) (cr : Str) (g : Comprehension) : Bool := isNm cr g.target && (iterB fs g.iter && ((match g.ifs with | [] => true | _ => false) && eqI g.is_async 0))
noncomputable def compB (fs : Fs) (e : Expr) : Bool := match e with
  | .ListComp elt [g] sc _ => match g.target with
    | .Name cr _ => scB sc cr && (eltB cr elt && genB fs cr g)
    | _ => false
  | _ => false
theorem genB_snd {fs : Fs} {cr : Str} {g : Comprehension} (h : genB fs cr g = true) : ∃ p8 y0 p9 k1 p10 p11 p12, g = ⟨.Name cr p8, .Subscript (.Name y0 p9) (.Slice none (some (.Constant (.int 2) k1 p10)) none p11) p12, [], 0⟩ ∧ LocN fs 0 y0 := by
  obtain ⟨t, i, fi, a⟩ := g
  obtain ⟨p8, e1⟩ := isNm_snd (and1 h)
  obtain ⟨y0, p9, k1, p10, p11, p12, e2, c0⟩ := iterB_snd (and1 (and2 h))
  have e3 := and1 (and2 (and2 h))
  have e4 := and2 (and2 (and2 h))
  rw [eqI_eq] at e4
  have e4' : a = 0 := eq_of_beq e4
  have e1' : t = .Name cr p8 := e1
  have e2' : i = _ := e2
  subst e1' e2' e4'
  dsimp only at e3
  split at e3
  · exact ⟨_, _, _, _, _, _, _, rfl, c0⟩
  · cases e3
/-- the law's first statement -/
noncomputable def s1B (fs : Fs) (st : Stmt) : Bool := match st with
  | .Assign [t] (.List [a, b] _) _ => match t with
    | .Name y1 _ => ckN fs 1 y1 && (isInt 0 a && compB fs b)
    | _ => false
  | _ => false
noncomputable def lawB (d : DefRec) : Bool := fsB ⟨nmLaw, d.scope⟩ && (match d.body with
  | st :: st2 :: r => s1B ⟨nmLaw, d.scope⟩ st && (ckS defsL ⟨nmLaw, d.scope⟩ 12 lawTwo st2 && ckAllS (ckS defsL ⟨nmLaw, d.scope⟩ 12) lawRest r)
  | _ => false)
noncomputable def lawOk : Bool := match lawD with
  | some d => lawB d
  | none => false
set_option maxRecDepth 100000 in
theorem law_ok : lawOk = true := by decide +kernel

section
variable {X : Cx} {prog : Program} {w : World} {A : Around} {E : Value → Shared → Prop} {f : Fm} {m : Str → Option Value} {s₀ : Shared} {h : Heap} {F : Fz} {tk : Nat}
theorem s1B_snd (XO : X.Ok) (hi : X.mg (Str.ofString "int") = none) (hb : ∃ mb, X.h₀.Ns builtinsNs mb ∧ mb (Str.ofString "int") = some (.type "int")) (fo : f.fs.Ok) (hh : A.handled = none) {st : Stmt} (ck : s1B f.fs st = true)
    {ls : Addr} {vs : List Value} (S : StR X f m h F (sgL .un .un .un)) (hm0 : ∀ y, f.fs.nm[0]? = some y → m y = some (.ref ls)) (hl : h.IsList ls vs.toArray) (hz : vs.length ≤ 63) (hv : ∀ v ∈ vs, ∃ (c : Int) (t : Tok), v = .int c t) {Q : Flow → Shared → Prop}
    (hq : ∀ (cs : List Nat) m' h' F' tk', cs.length ≤ 2 → StR X f m' h' F' (sgL (wvL (cs.map dI) 0) .un .un) → Q .next (mk s₀ h' tk')) :
    wpAny (model prog w) A (exec st f.env) Q E (mk s₀ h tk) := by
  unfold s1B at ck
  split at ck
  · split at ck
    · have c1 := ckN_snd (and1 ck)
      obtain ⟨k0, p2, rfl⟩ := isInt_snd (and1 (and2 ck))
      have cb := and2 (and2 ck)
      unfold compB at cb
      split at cb
      · split at cb
        · obtain ⟨p3, p4, p5, p6, p7, rfl⟩ := eltB_snd (and1 (and2 cb))
          obtain ⟨p8, y0, p9, k1, p10, p11, p12, rfl, c0⟩ := genB_snd (and2 (and2 cb))
          exact s1_snd XO hi hb fo hh (scB_snd (and1 cb)) c0 c1 S (hm0 y0 c0.1) hl hz hv hq
        · cases cb
      · cases cb
    · cases ck
  · cases ck

theorem StR.forget {σ σ' : St} (S : StR X f m h F σ) (hs : ∀ i, getS σ' i = getS σ i ∨ getS σ' i = .un) : StR X f m h F σ' := by
  have key : ∀ i l, getS σ' i = .own l → getS σ i = .own l := fun i l e => (hs i).elim (fun q => q ▸ e) fun q => by rw [q] at e; cases e
  refine ⟨S.bi, S.ns, S.nL, fun i => ?_, fun i j a h1 h2 => S.dist i j a ⟨?_, h1.2⟩ ⟨?_, h2.2⟩, fun l y e => S.own0 l y (key 0 l e)⟩
  · rcases hs i with e | e
    · rw [e]; exact S.sl i
    · rw [e]; trivial
  · obtain ⟨l, e⟩ := h1.1
    exact ⟨l, key i l e⟩
  · obtain ⟨l, e⟩ := h2.1
    exact ⟨l, key j l e⟩

/-- the law gives True -/
theorem core (XO : X.Ok) (hX : X.defs = defsL) (hi : X.mg (Str.ofString "int") = none) (hb : ∃ mb, X.h₀.Ns builtinsNs mb ∧ mb (Str.ofString "int") = some (.type "int"))
    (HL : ∀ a b, 3 ≤ a → a ≤ 8 → 2 ≤ b → b ≤ 5 → ∃ T K σ', K ≤ 300 ∧ TabOk fns T K ∧ (lv fns T 60).S lawRest (sg0 a b) = some (.ret (.bool true) σ'))
    {d : DefRec} (hd : lawD = some d) (O : Okay A 360) {L fa : Addr} {cd : Value} {v0 : Option Value}
    {ls : Addr} {vs : List Value} (S : StR X ⟨⟨nmLaw, d.scope⟩, d.name, L, fa, cd, v0⟩ m h F (sgL .un .un .un)) (hm0 : ∀ y, nmLaw[0]? = some y → m y = some (.ref ls)) (hl : h.IsList ls vs.toArray) (hz : vs.length ≤ 63) (hv : ∀ v ∈ vs, ∃ (c : Int) (t : Tok), v = .int c t)
    {Q : Flow → Shared → Prop} (hq : ∀ h' tk', (∀ b o, X.h₀.get? b = some o → h'.get? b = some o) → Q (.ret (.bool true)) (mk s₀ h' tk')) :
    wpAny (model prog w) A (execs d.body (envOf d.name d.scope L fa cd)) Q E (mk s₀ h tk) := by
  have lo := law_ok
  unfold lawOk at lo
  rw [hd] at lo
  dsimp only at lo
  unfold lawB at lo
  have fo := fsB_snd (and1 lo)
  replace lo := and2 lo
  have FT : FnsOk X fns := fun k f d e1 e2 => by rw [hX] at e2 ⊢; exact fnsB_snd fns_ok k f d e1 e2
  split at lo
  · next st st2 r hbody =>
    rw [hbody]
    have hh := O.hd
    refine wpAny_execs_cons (s1B_snd (f := ⟨⟨nmLaw, d.scope⟩, d.name, L, fa, cd, v0⟩) XO hi hb fo hh (and1 lo) S hm0 hl hz hv fun cs m1 h1 F1 tk1 hcs S1 => ?_)
    obtain ⟨wv, a, b, a3, a8, b2, b5, he⟩ := two cs hcs
    have c2 : CkS X.defs ⟨nmLaw, d.scope⟩ lawTwo st2 := hX ▸ ckS_snd fo 12 _ _ (and1 (and2 lo))
    have cr : CkSs X.defs ⟨nmLaw, d.scope⟩ lawRest r := hX ▸ ckAllS_snd (ckS_snd fo 12) (and2 (and2 lo))
    have L0 := fun n => TabOk.nil.snd (X := X) (prog := prog) (w := w) XO FT n
    have W0 : SndW X prog w (lv fns [] 20) (20 + 0) := whl_snd fun k _ => L0 k
    refine wpAny_execs_cons (evS1_snd XO (L0 20).e (L0 20).t (L0 20).s W0 he fo c2 (O.less (by omega)) S1 ⟨?_, ?_⟩)
    · rintro σ2 m2 h2 F2 tk2 e2 R2
      cases e2
      obtain ⟨T, K, σ', hK, hT, hE⟩ := HL a b a3 a8 b2 b5
      have S2 : StR X ⟨⟨nmLaw, d.scope⟩, d.name, L, fa, cd, v0⟩ m2 h2 F2 (sg0 a b) := R2.st.forget fun i => by
        cases i with
        | zero => exact .inl rfl
        | succ i =>
          cases i with
          | zero => exact .inr rfl
          | succ i => exact .inl rfl
      refine (hT.snd (X := X) (prog := prog) (w := w) XO FT 60).s lawRest (sg0 a b) _ hE ⟨⟨nmLaw, d.scope⟩, d.name, L, fa, cd, v0⟩ r fo cr A E m2 s₀ h2 F2 tk2 Q (O.less (by omega)) S2 ⟨?_, ?_⟩
      · rintro _ _ _ _ _ e _
        cases e
      · rintro d3 σ3 v m3 h3 F3 tk3 e R3 rv
        cases e
        cases rv
        exact hq h3 tk3 fun b o e => (R3.st.bi.base b o e).1
    · rintro _ _ _ _ _ _ _ e _ _
      cases e
  · cases lo
end
end Mine
end
section
open PySem PySem.W PySem.Calls PyProof.Rows
namespace Mine

theorem HL (a b : Nat) (h1 : 3 ≤ a) (h2 : a ≤ 8) (h3 : 2 ≤ b) (h4 : b ≤ 5) : ∃ T K σ', K ≤ 300 ∧ TabOk fns T K ∧ (lv fns T 60).S lawRest (sg0 a b) = some (.ret (.bool true) σ') := by
  have ha : a = 3 ∨ a = 4 ∨ a = 5 ∨ a = 6 ∨ a = 7 ∨ a = 8 := by omega
  rcases ha with rfl | rfl | rfl | rfl | rfl | rfl
  · exact hl_3 b h3 h4
  · exact hl_4 b h3 h4
  · exact hl_5 b h3 h4
  · exact hl_6 b h3 h4
  · exact hl_7 b h3 h4
  · exact hl_8 b h3 h4

theorem mem_pick {l : List DefRec} {d : DefRec} : ∀ {is : List Nat}, d ∈ pick l is → d ∈ l
  | [], h => (nomatch h)
  | i :: r, h => by
    unfold pick at h
    split at h
    · next d' e =>
      rcases List.mem_cons.mp h with rfl | h
      · have : ∀ (l : List DefRec) (i : Nat), defAt l i = some d → d ∈ l := by
          intro l
          induction l with
          | nil => intro i e; cases e
          | cons a r ih =>
            intro i e
            cases i with
            | zero => cases e; exact List.mem_cons_self
            | succ i => exact List.mem_cons_of_mem _ (ih i e)
        exact this l i e
      · exact mem_pick h
    · exact mem_pick h
theorem mem_defAt {d : DefRec} : ∀ {l : List DefRec} {i : Nat}, defAt l i = some d → d ∈ l
  | [], _, e => by cases e
  | _ :: _, 0, e => by cases e; exact List.mem_cons_self
  | _ :: _, _ + 1, e => List.mem_cons_of_mem _ (mem_defAt e)

noncomputable def ours : List Str := [Str.ofString "len", Str.ofString "range", Str.ofString "enumerate", Str.ofString "min", Str.ofString "abs", Str.ofString "int"]
noncomputable def clearB (q : Program) (loose : List Str) (x : Str) : Bool := notAll (memB x startupNames) && (notAll (memB x loose) && (notAll (memB x ((recsOf q).map (·.name))) && (notAll (memB x ((litsOf q).map (·.1))) && notAll (memB x ((clssOf q loose).map (·.name))))))
noncomputable def clearAll (q : Program) (loose : List Str) : List Str → Bool
  | [] => true
  | x :: r => clearB q loose x && clearAll q loose r
theorem clear_mem {q : Program} {loose : List Str} : ∀ {l : List Str}, clearAll q loose l = true → ∀ x ∈ l, clearB q loose x = true
  | [], _, _, h => (nomatch h)
  | _ :: _, c, _, h => (List.mem_cons.mp h).elim (fun e => e ▸ and1 c) (clear_mem (and2 c) _)

theorem boot_len : bootBuiltins (Str.ofString "len") = some (.builtin "len") := by kernel_rfl
theorem boot_range : bootBuiltins (Str.ofString "range") = some (.type "range") := by kernel_rfl
theorem boot_enumerate : bootBuiltins (Str.ofString "enumerate") = some (.type "enumerate") := by kernel_rfl
theorem boot_min : bootBuiltins (Str.ofString "min") = some (.builtin "min") := by kernel_rfl
theorem boot_abs : bootBuiltins (Str.ofString "abs") = some (.builtin "abs") := by kernel_rfl
theorem boot_int : bootBuiltins (Str.ofString "int") = some (.type "int") := by kernel_rfl

theorem okay0 (env : Env) : Okay (callerA.deeper env) 360 := ⟨rfl, by show callerA.depth + 1 + 360 ≤ 900; decide +kernel, by show callerA.units + 3 + 6 * 360 ≤ 9000; decide +kernel⟩
section
variable {q : Program} {loose : List Str} {mean : ExcName → Option Value} {mg mb : Str → Option Value} {h : Heap}
theorem top_free (T : Top q loose mean mg mb h) (hc : clearAll q loose ours = true) {x : Str} (hx : x ∈ ours) : mg x = none := by
  have c := clear_mem hc x hx
  refine T.free x (memB_snd (notAll_snd (and1 c))) (memB_snd (notAll_snd (and1 (and2 c)))) (memB_snd (notAll_snd (and1 (and2 (and2 c))))) (memB_snd (notAll_snd (and1 (and2 (and2 (and2 c)))))) (memB_snd (notAll_snd (and2 (and2 (and2 (and2 c))))))
theorem top_ok (T : Top q loose mean mg mb h) (hq : recsOf q = defsOf bodyL) (hc : clearAll q loose ours = true) : (⟨mg, h, defsL⟩ : Cx).Ok := by
  refine ⟨T.g, ⟨mb, T.b, ?_, ?_, ?_, ?_, ?_⟩, ⟨top_free T hc ?_, top_free T hc ?_, top_free T hc ?_, top_free T hc ?_, top_free T hc ?_⟩, T.nolimit, fun k d e => T.fn d ?_⟩
  · exact (T.builtins _ (by decide +kernel)).trans boot_len
  · exact (T.builtins _ (by decide +kernel)).trans boot_range
  · exact (T.builtins _ (by decide +kernel)).trans boot_enumerate
  · exact (T.builtins _ (by decide +kernel)).trans boot_min
  · exact (T.builtins _ (by decide +kernel)).trans boot_abs
  · unfold ours; simp
  · unfold ours; simp
  · unfold ours; simp
  · unfold ours; simp
  · unfold ours; simp
  · rw [hq]; exact mem_pick (mem_defAt e)

theorem ints_mem : ∀ {vs : List Value} {ns : List Int}, IntsAre vs ns → vs.length = ns.length ∧ ∀ v ∈ vs, ∃ (c : Int) (t : Tok), v = .int c t
  | _, _, .nil => ⟨rfl, fun _ h => (nomatch h)⟩
  | _, _, .cons n t r => ⟨by rw [List.length_cons, List.length_cons, (ints_mem r).1], fun v hv => (List.mem_cons.mp hv).elim (fun e => ⟨n, t, e⟩) ((ints_mem r).2 v)⟩

theorem fin_walk {s₁ : Shared} (T : Top q loose mean mg mb s₁.heap) (hq : recsOf q = defsOf bodyL) (hc : clearAll q loose ours = true) {d : DefRec} (hd : lawD = some d) {h₁ : Heap} {m : Str → Option Value}
    (F : Fr s₁.heap s₁.heap.objs.size h₁ m) {ls : Addr} (hm : m (Str.ofString "script") = some (.ref ls)) {vs : List Value} {ns : List Int} (hl : s₁.heap.IsList ls vs.toArray) (hi : IntsAre vs ns) (hz : ns.length ≤ 63)
    {prog : Program} {w : World} {A : Around} {E : Value → Shared → Prop} {fa : Addr} {cd : Value} {tk : Nat} {Q : Flow → Shared → Prop} (O : Okay A 360)
    (hr : ∀ h' tk', (∀ b o, s₁.heap.get? b = some o → h'.get? b = some o) → Q (.ret (.bool true)) (mk s₁ h' tk')) :
    wpAny (model prog w) A (execs d.body (envOf d.name d.scope s₁.heap.objs.size fa cd)) Q E (mk s₁ h₁ tk) := by
  obtain ⟨e1, e2⟩ := ints_mem hi
  have hL : s₁.heap.get? s₁.heap.objs.size = none := get_size s₁.heap
  have S : StR ⟨mg, s₁.heap, defsL⟩ ⟨⟨nmLaw, d.scope⟩, d.name, s₁.heap.objs.size, fa, cd, none⟩ m h₁ (fun a => a ≠ s₁.heap.objs.size ∧ ∃ o, h₁.get? a = some o) (sgL .un .un .un) := by
    refine ⟨⟨fun b o e => ⟨F.keep b o e, ⟨fun z => ?_, o, F.keep b o e⟩⟩, fun a x => x.2⟩, F.ns, fun x => x.1 rfl, fun i => ?_, fun i j a x _ => (own_none (by intro _ e; cases e) (by intro _ e; cases e) (by intro _ e; cases e) x).elim, fun l y e => by cases e⟩
    · rw [z, hL] at e; cases e
    · have : getS (sgL .un .un .un) i = .un := by
        match i with
        | 0 => rfl
        | 1 => rfl
        | 2 => rfl
        | 3 => rfl
        | 4 => rfl
        | 5 => rfl
        | 6 => rfl
        | 7 => rfl
        | 8 => rfl
        | 9 => rfl
        | 10 => rfl
        | 11 => rfl
        | 12 => rfl
        | 13 => rfl
        | 14 => rfl
        | n + 15 => rfl
      rw [this]; trivial
  refine core (X := ⟨mg, s₁.heap, defsL⟩) (top_ok T hq hc) rfl (top_free T hc (by unfold ours; simp)) ⟨mb, T.b, (T.builtins _ (by decide +kernel)).trans boot_int⟩ (fun a b h1 h2 h3 h4 => HL a b h1 h2 h3 h4) hd O S (fun y e => ?_) (hl := ⟨_, F.keep _ _ hl.choose_spec.1, hl.choose_spec.2⟩) (by omega) e2 hr
  have e' : Str.ofString "script" = y := Option.some.inj e
  rw [← e']; exact hm
end
end Mine
end
section
open PySem PySem.W PySem.Calls PyProof.Rows
namespace Mine
theorem good (cl : Str → Option Addr) (mean : ExcName → Option Value) (args : List WData) (s₁ : Shared) (h' : Heap) (tk' : Nat) (hk : ∀ b o, s₁.heap.get? b = some o → h'.get? b = some o) (hg : s₁.gens = #[]) :
    GoodW Challenge.rw_xm0434_01.row.claim cl mean args s₁ (.ok (.ret (.bool true))) (mk s₁ h' tk') := by
  refine ⟨Or.inl ⟨.bool true, .bool true, [], rfl, fun cls => ?_, .bool true, ?_, fun _ => ⟨.nil, fun _ h => (nomatch h)⟩⟩, hk, rfl, hg⟩
  · rfl
  · kernel_rfl
end Mine
end
open PySem PySem.W PyProof.Rows
set_option maxRecDepth 100000 in
set_option maxHeartbeats 8000000 in
theorem PySem.Challenge.cw_xm0434_01_holds : PySem.Challenge.rw_xm0434_01.Holds := by
  w_on; o_law; o_head Hook.none; (case hw => w_witness2)
  intro w s₀ s₁ mg mb G Y fa o pm cd doc dV kV ho hd hcd hD hmg hg args vals as hpre hlay hrd hwl hlo
  have X := (Ground.X G).1
  have V := (Ground.X G).2
  refine Ground.open G ?_
  intro T B D TE TW
  try (refine guard_noD D (by decide +kernel) ?_; clear D)
  obtain ⟨_, _, M⟩ := bmod_of_top T
  try (obtain ⟨_, _, he, B0⟩ := based_of_top T rfl hmg ho hd; have he' : cd = _ := he; subst he'; clear he)
  clear hmg
  wrow_args hpre hlay hrd hwl hlo
  all_goals (
    first | refine callC_kw (enter_call ?_) | refine enter_call ?_ | refine callC_kw (enter_callW ?_) | refine enter_callW ?_ | w_how
    w_top on
    try refine codeAny_mono ?_ (fun _ _ g => GoodW.toG g)
    have K0 := below_caller (Top.heap T)
    w_call any ho hd hcd hD T F)
  with_reducible rename IntsAre _ _ => hIs
  with_reducible rename Heap.IsList _ _ _ => hLs
  exact Mine.fin_walk T (by kernel_rfl) (by decide +kernel) (by kernel_rfl) F (by first | rfl | kernel_rfl) hLs hIs (by omega) (Mine.okay0 _) fun h' tk' hk => Mine.good _ _ _ _ _ _ hk hg
