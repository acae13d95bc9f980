import PyProof.Rows.All
import Wide.All
import OpenK.AllK
import Wide.FinOn
import HandS.ForMost
import HandS.ForExc
import HandS.Walk
import HandS.Lambda
import HandS.Wide
import HandS.Style
import HandS.Deep
import HandS.IsInst
import HandS.Conv
import HandS.SortInts
import HandS.More
import HandS.ExcOwn
import HandS.WordsExc
import HandS.ExcIs
import HandS.EndTab
import KE.KNestM
import HandS.SetFor
import HandS.SortRule
import HandS.Strs
import PyProof.SeqIndex
import KE.KIndexOf
import KE.KDictZip
import KE.KDictItemsList
import PyProof.TableCode
import PySem.Challenge.RW_lastmarble_k01_whole_bag
/-! The machine M: plain data, a few changing cells, and the meaning of each construct that the laws and the program use. No library is needed. -/
set_option autoImplicit false
namespace M

inductive D where
  | non
  | bl (b : Bool)
  | int (i : Int)
  | str (s : List Nat)
  | tup (xs : List D)
  | lst (xs : List D)
  | dct (ks : List (List Int)) (vs : List D)
  | edict
  | cell (c : Nat)
  | fn (k : Nat)
  | ktp (is : List Int)

inductive Cell where
  | lst (xs : List D)
  | dct (ks : List (List Int)) (vs : List D)
  | ins (C : Nat) (fs : List (Nat × D))
  | dead

abbrev Hh := List Cell
abbrev Env := List (Option D)

inductive R (A : Type) where
  | ok (a : A) (h : Hh)
  | exc (c : Nat) (h : Hh)
  | bad

def R.bind {A B : Type} (m : R A) (k : A → Hh → R B) : R B :=
  match m with
  | .ok a h => k a h
  | .exc c h => .exc c h
  | .bad => .bad

/-- an exception is not looked for here -/
def R.calm {A : Type} (m : R A) : R A :=
  match m with
  | .ok a h => .ok a h
  | .exc _ _ => .bad
  | .bad => .bad

@[simp] theorem R.bind_ok {A B : Type} (a : A) (h : Hh) (k : A → Hh → R B) : (R.ok a h).bind k = k a h := rfl
@[simp] theorem R.bind_exc {A B : Type} (c : Nat) (h : Hh) (k : A → Hh → R B) : (R.exc c h : R A).bind k = .exc c h := rfl
@[simp] theorem R.bind_bad {A B : Type} (k : A → Hh → R B) : (R.bad : R A).bind k = .bad := rfl
@[simp] theorem R.calm_ok {A : Type} (a : A) (h : Hh) : (R.ok a h).calm = .ok a h := rfl
@[simp] theorem R.calm_exc {A : Type} (c : Nat) (h : Hh) : (R.exc c h : R A).calm = .bad := rfl
@[simp] theorem R.calm_bad {A : Type} : (R.bad : R A).calm = .bad := rfl

/-- how a statement ends -/
inductive O where
  | nx (r : Env) (h : Hh)
  | rt (d : D) (h : Hh)
  | bk (r : Env) (h : Hh)
  | exc (c : Nat) (h : Hh)
  | bad

/-- the calls that may be made, level by level -/
inductive Ctx where
  | z
  | s (call : Nat → List D → Hh → R D) (down : Ctx)

def Ctx.call : Ctx → Nat → List D → Hh → R D
  | .z, _, _, _ => .bad
  | .s f _, k, ds, h => f k ds h
def Ctx.down : Ctx → Ctx
  | .z => .z
  | .s _ c => c

abbrev FE := Ctx → Env → Hh → R D
abbrev FA := Ctx → Env → Hh → R (List D)
abbrev FS := Ctx → Env → Hh → O

def LIM : Nat := 16000000
def BIG : Nat := 2 ^ 8000
def okI (i : Int) : Bool := decide (i.natAbs < BIG)

/-! ### equality of data, its depth looked through cells -/
mutual
def eqv : D → D → Bool
  | .non, .non => true
  | .bl a, .bl b => a == b
  | .bl a, .int j => (if a then 1 else 0) == j
  | .int i, .bl b => i == (if b then 1 else 0)
  | .int i, .int j => i == j
  | .str x, .str y => x == y
  | .lst xs, .lst ys => eqvs xs ys
  | .tup xs, .tup ys => eqvs xs ys
  | _, _ => false
def eqvs : List D → List D → Bool
  | [], [] => true
  | x :: xs, y :: ys => eqv x y && eqvs xs ys
  | _, _ => false
end

/- the very same things -/
mutual
def same : D → D → Bool
  | .non, .non => true
  | .bl a, .bl b => a == b
  | .int i, .int j => i == j
  | .str x, .str y => x == y
  | .lst xs, .lst ys => sames xs ys
  | .tup xs, .tup ys => sames xs ys
  | .dct ks vs, .dct ls ws => ks == ls && sames vs ws
  | .edict, .edict => true
  | .cell a, .cell b => a == b
  | .fn a, .fn b => a == b
  | .ktp a, .ktp b => a == b
  | _, _ => false
def sames : List D → List D → Bool
  | [], [] => true
  | x :: xs, y :: ys => same x y && sames xs ys
  | _, _ => false
end
def samef : List (Nat × D) → List (Nat × D) → Bool
  | [], [] => true
  | x :: xs, y :: ys => x.1 == y.1 && same x.2 y.2 && samef xs ys
  | _, _ => false
def sameC : Cell → Cell → Bool
  | .lst xs, .lst ys => sames xs ys
  | .dct ks vs, .dct ls ws => ks == ls && sames vs ws
  | .ins C fs, .ins C' gs => C == C' && samef fs gs
  | .dead, .dead => true
  | _, _ => false
def sameH : Hh → Hh → Bool
  | [], [] => true
  | x :: xs, y :: ys => sameC x y && sameH xs ys
  | _, _ => false

/-- cells from n on looked through, as far as k steps deep -/
def thru (n : Nat) (h : Hh) : Nat → D → Option D
  | 0, _ => none
  | k + 1, .tup xs => (xs.mapM (thru n h k)).map D.tup
  | k + 1, .lst xs => (xs.mapM (thru n h k)).map D.lst
  | k + 1, .dct ks vs => (vs.mapM (thru n h k)).map (D.dct ks)
  | k + 1, .cell c => if c < n then some (.cell c) else
      match h[c]? with
      | some (.lst xs) => (xs.mapM (thru n h k)).map D.lst
      | some (.dct ks vs) => (vs.mapM (thru n h k)).map (D.dct ks)
      | _ => none
  | _ + 1, .non => some .non
  | _ + 1, .bl b => some (.bl b)
  | _ + 1, .int i => some (.int i)
  | _ + 1, .str s => some (.str s)
  | _ + 1, .edict => some .edict
  | _ + 1, .fn k => some (.fn k)
  | _ + 1, .ktp is => some (.ktp is)

/- plain data: None, truths, numbers, texts, lists and tuples of such -/
mutual
def plain : D → Bool
  | .non => true
  | .bl _ => true
  | .int _ => true
  | .str s => s.all fun c => decide (c < 1114112)
  | .lst xs => plains xs
  | .tup xs => plains xs
  | _ => false
def plains : List D → Bool
  | [] => true
  | x :: xs => plain x && plains xs
end
/-- data as it can be compared -/
def deep (h : Hh) (d : D) : Option D :=
  match thru 0 h 12 d with
  | some e => if plain e then some e else none
  | none => none

def viewL (h : Hh) : D → Option (List D)
  | .lst xs => some xs
  | .cell c => match h[c]? with
    | some (.lst xs) => some xs
    | _ => none
  | _ => none
/-- a list's or a tuple's items -/
def viewS (h : Hh) : D → Option (List D)
  | .tup xs => some xs
  | d => viewL h d
def intsOf : List D → Option (List Int)
  | [] => some []
  | .int i :: xs => (intsOf xs).map (i :: ·)
  | _ :: _ => none
def boolsOf : List D → Option (List Bool)
  | [] => some []
  | .bl b :: xs => (boolsOf xs).map (b :: ·)
  | _ :: _ => none

/-- a new list: a cell if it will be changed -/
def mkL (m : Bool) (xs : List D) (h : Hh) : Option (D × Hh) := if m then some (.cell h.length, h ++ [.lst xs]) else some (.lst xs, h)
/-- what is reckoned without a call -/
def up (o : Option (D × Hh)) : R D :=
  match o with
  | some p => .ok p.1 p.2
  | none => .bad
@[simp] theorem up_some (d : D) (h : Hh) : up (some (d, h)) = .ok d h := rfl
@[simp] theorem up_none : up none = .bad := rfl

/-! ### expressions -/
def eVar (i : Nat) : FE := fun _ r h =>
  match r[i]? with
  | some (some d) => .ok d h
  | _ => .bad
def eK (d : D) : FE := fun _ _ h => .ok d h

def evs : List FE → FA
  | [], _, _, h => .ok [] h
  | e :: es, cx, r, h => (e cx r h).bind fun d h1 => (evs es cx r h1).bind fun ds h2 => .ok (d :: ds) h2

def eTup (es : List FE) : FE := fun cx r h => (evs es cx r h).bind fun ds h1 => .ok (.tup ds) h1
def eLst (m : Bool) (es : List FE) : FE := fun cx r h => (evs es cx r h).bind fun ds h1 => up (mkL m ds h1)
/-- {} with tuples as keys to come -/
def eDict : FE := fun _ _ h => .ok (.cell h.length) (h ++ [.dct [] []])

def e1 (f : D → Hh → Option (D × Hh)) (a : FE) : FE := fun cx r h => (a cx r h).bind fun x h1 => up (f x h1)
def e2 (f : D → D → Hh → Option (D × Hh)) (a b : FE) : FE := fun cx r h => (a cx r h).bind fun x h1 => (b cx r h1).bind fun y h2 => up (f x y h2)

def pAdd (m : Bool) (x y : D) (h : Hh) : Option (D × Hh) :=
  match x, y with
  | .int i, .int j => some ((.int (i + j)), h)
  | x, y => match viewL h x, viewL h y with
    | some xs, some ys => if xs.length + ys.length ≤ LIM then mkL m (xs ++ ys) h else none
    | _, _ => none
def pAddI (x y : D) (h : Hh) : Option (D × Hh) :=
  match x, y with
  | .int i, .int j => some (.int (i + j), h)
  | _, _ => none
def pMulI (x y : D) (h : Hh) : Option (D × Hh) :=
  match x, y with
  | .int i, .int j => if okI i && okI j then some (.int (i * j), h) else none
  | _, _ => none
def pSub (x y : D) (h : Hh) : Option (D × Hh) :=
  match x, y with
  | .int i, .int j => some ((.int (i - j)), h)
  | _, _ => none
def pMul (m : Bool) (x y : D) (h : Hh) : Option (D × Hh) :=
  match x, y with
  | .int i, .int j => if okI i && okI j then some ((.int (i * j)), h) else none
  | x, .int k => match viewL h x with
    | some xs => if 0 ≤ k ∧ k ≤ 1000000 ∧ xs.length * k.toNat ≤ LIM then mkL m (List.replicate k.toNat xs).flatten h else none
    | none => none
  | _, _ => none
def pFdiv (x y : D) (h : Hh) : Option (D × Hh) :=
  match x, y with
  | .int i, .int j => if j ≠ 0 ∧ okI j = true then some ((.int (i.fdiv j)), h) else none
  | _, _ => none
def pMod (x y : D) (h : Hh) : Option (D × Hh) :=
  match x, y with
  | .int i, .int j => if j ≠ 0 then some ((.int (i.fmod j)), h) else none
  | _, _ => none
def pPow (x y : D) (h : Hh) : Option (D × Hh) :=
  match x, y with
  | .int i, .int j => if 0 ≤ j ∧ j ≤ 1000 ∧ i.natAbs < 1000 then some ((.int (i ^ j.toNat)), h) else none
  | _, _ => none
def pShr (x y : D) (h : Hh) : Option (D × Hh) :=
  match x, y with
  | .int i, .int j => if 0 ≤ j then some ((.int (i / 2 ^ j.toNat)), h) else none
  | _, _ => none
def pNeg (x : D) (h : Hh) : Option (D × Hh) :=
  match x with
  | .int i => some ((.int (-i)), h)
  | _ => none

def pCmp (f : Int → Int → Bool) (x y : D) (h : Hh) : Option (D × Hh) :=
  match x, y with
  | .int i, .int j => some ((.bl (f i j)), h)
  | _, _ => none
def pLt := pCmp fun i j => decide (i < j)
def pLe := pCmp fun i j => decide (i ≤ j)
def pGt := pCmp fun i j => decide (j < i)
def pGe := pCmp fun i j => decide (j ≤ i)
def pEq (neg : Bool) (x y : D) (h : Hh) : Option (D × Hh) :=
  match deep h x, deep h y with
  | some a, some b => some ((.bl (if neg then !eqv a b else eqv a b)), h)
  | _, _ => none
def isNon : D → Bool
  | .non => true
  | _ => false
def pIsN (neg : Bool) (x : D) (h : Hh) : Option (D × Hh) := some ((.bl (if neg then !isNon x else isNon x)), h)
def pIsB (neg : Bool) (b : Bool) (x : D) (h : Hh) : Option (D × Hh) :=
  match x with
  | .bl a => some ((.bl (if neg then !(a == b) else a == b)), h)
  | _ => none
/-- a key: a tuple of numbers -/
def keyOf : D → Option (List Int)
  | .ktp is => some is
  | _ => none
def viewD (h : Hh) : D → Option (List (List Int) × List D)
  | .dct ks vs => some (ks, vs)
  | .cell c => match h[c]? with
    | some (.dct ks vs) => some (ks, vs)
    | _ => none
  | _ => none
def lookD (k : List Int) : List (List Int) → List D → Option D
  | l :: ks, v :: vs => if l = k then some v else lookD k ks vs
  | _, _ => none
def setD (k : List Int) (d : D) : List (List Int) → List D → List D
  | l :: ks, v :: vs => (if l = k then d else v) :: setD k d ks vs
  | _, _ => []
/-- a key's value put in: in its place, or behind all others -/
def putD (k : List Int) (d : D) (ks : List (List Int)) (vs : List D) : List (List Int) × List D :=
  if (lookD k ks vs).isSome then (ks, setD k d ks vs) else (ks ++ [k], vs ++ [d])
/-- x in y, of a dict -/
def pInD (neg : Bool) (x y : D) (h : Hh) : Option (D × Hh) :=
  match keyOf x, viewD h y with
  | some k, some (ks, vs) => some ((.bl (if neg then !(lookD k ks vs).isSome else (lookD k ks vs).isSome)), h)
  | _, _ => none
def flatD : D → Bool
  | .non => true
  | .bl _ => true
  | .int _ => true
  | _ => false
/-- x in y, of a list, or of a tuple of flat things -/
def pIn (neg : Bool) (x y : D) (h : Hh) : Option (D × Hh) :=
  match y with
  | .ktp is => if flatD x then some (.bl (if neg then !((is.map D.int).any fun b => eqv b x) else (is.map D.int).any fun b => eqv b x), h) else none
  | .tup ys => if flatD x && ys.all flatD then some (.bl (if neg then !(ys.any fun b => eqv b x) else ys.any fun b => eqv b x), h) else none
  | y => match deep h x, viewL h y with
    | some a, some ys => match ys.mapM (deep h) with
      | some bs => some (.bl (if neg then !(bs.any fun b => eqv b a) else bs.any fun b => eqv b a), h)
      | none => none
    | _, _ => none

def eNot (a : FE) : FE := fun cx r h => (a cx r h).bind fun x h1 =>
  match x with
  | .bl b => .ok (.bl (!b)) h1
  | _ => .bad
def eAnd (a b : FE) : FE := fun cx r h => (a cx r h).bind fun x h1 =>
  match x with
  | .bl true => b cx r h1
  | .bl false => .ok (.bl false) h1
  | _ => .bad
def eOr (a b : FE) : FE := fun cx r h => (a cx r h).bind fun x h1 =>
  match x with
  | .bl true => .ok (.bl true) h1
  | .bl false => b cx r h1
  | _ => .bad
def eIte (c a b : FE) : FE := fun cx r h => (c cx r h).bind fun x h1 =>
  match x with
  | .bl true => a cx r h1
  | .bl false => b cx r h1
  | _ => .bad
/-- a <= b <= c -/
def eChain (a b c : FE) : FE := fun cx r h => (a cx r h).bind fun x h1 => (b cx r h1).bind fun y h2 => (up (pLe x y h2)).bind fun z h3 =>
  match z with
  | .bl true => (c cx r h3).bind fun w h4 => up (pLe y w h4)
  | .bl false => .ok (.bl false) h3
  | _ => .bad

def eCall (k : Nat) (es : List FE) : FE := fun cx r h => (evs es cx r h).bind fun ds h1 => cx.call k ds h1
/-- C(..): init is its __init__ -/
def eMake (C init : Nat) (es : List FE) : FE := fun cx r h => (evs es cx r h).bind fun ds h1 =>
  (cx.down.call init (.cell h1.length :: ds) (h1 ++ [.ins C []])).bind fun v h2 =>
    match v with
    | .non => .ok (.cell h1.length) h2
    | _ => .bad
def insAt (h : Hh) : D → Option (Nat × List (Nat × D))
  | .cell c => match h[c]? with
    | some (.ins C fs) => some (C, fs)
    | _ => none
  | _ => none
def lookN (k : Nat) : List (Nat × D) → Option D
  | [] => none
  | p :: ps => if p.1 = k then some p.2 else lookN k ps
def lookM (k : Nat) : List (Nat × Nat) → Option Nat
  | [] => none
  | p :: ps => if p.1 = k then some p.2 else lookM k ps
def putN (k : Nat) (d : D) : List (Nat × D) → List (Nat × D)
  | [] => [(k, d)]
  | p :: ps => if p.1 = k then (k, d) :: ps else p :: putN k d ps
/-- o.m(..), ms: which def by the class -/
def eMeth (ms : List (Nat × Nat)) (o : FE) (es : List FE) : FE := fun cx r h => (o cx r h).bind fun x h1 =>
  match insAt h1 x with
  | some (C, _) => match lookM C ms with
    | some k => (evs es cx r h1).bind fun ds h2 => cx.call k (x :: ds) h2
    | none => .bad
  | none => .bad
/-- o.f of an instance of one of the classes cs -/
def pAttr (cs : List Nat) (f : Nat) (x : D) (h : Hh) : Option (D × Hh) :=
  match insAt h x with
  | some (C, fs) => if cs.contains C then (match lookN f fs with
    | some d => some (d, h)
    | none => none) else none
  | none => none

inductive Ty where
  | int | bool | list | tuple
def isTy (h : Hh) (t : Ty) (x : D) : Bool :=
  match t, x with
  | .int, .int _ => true
  | .int, .bl _ => true
  | .bool, .bl _ => true
  | .tuple, .tup _ => true
  | .list, .lst _ => true
  | .list, .cell c => match h[c]? with
    | some (.lst _) => true
    | _ => false
  | _, _ => false
/-- what isinstance can be asked of -/
def tyOk (h : Hh) : D → Bool
  | .ktp _ => false
  | .fn _ => false
  | .dct _ _ => false
  | .cell c => match h[c]? with
    | some (.lst _) => true
    | _ => false
  | _ => true
def pIsTy (t : Ty) (x : D) (h : Hh) : Option (D × Hh) := if tyOk h x then some ((.bl (isTy h t x)), h) else none
def lookB (k : Nat) : List (Nat × Bool) → Option Bool
  | [] => none
  | p :: ps => if p.1 = k then some p.2 else lookB k ps
/-- isinstance of an own class: cs tells the answer by the instance's class -/
def pIsC (cs : List (Nat × Bool)) (x : D) (h : Hh) : Option (D × Hh) :=
  match insAt h x with
  | some (C, _) => match lookB C cs with
    | some b => some (.bl b, h)
    | none => none
  | none => none

def pLen (x : D) (h : Hh) : Option (D × Hh) :=
  match viewS h x with
  | some xs => some ((.int xs.length), h)
  | none => none
/-- a list's, a tuple's or a key's items -/
def viewK (h : Hh) : D → Option (List D)
  | .ktp is => if is.length ≤ LIM then some (is.map D.int) else none
  | d => viewS h d
def pList (m : Bool) (x : D) (h : Hh) : Option (D × Hh) :=
  match viewK h x with
  | some xs => mkL m xs h
  | none => none
def pTuple (x : D) (h : Hh) : Option (D × Hh) :=
  match (viewL h x).bind intsOf with
  | some is => some ((.ktp is), h)
  | none => none
def pInt (x : D) (h : Hh) : Option (D × Hh) :=
  match x with
  | .int i => some ((.int i), h)
  | .bl b => some ((.int (if b then 1 else 0)), h)
  | _ => none
def isum : List Int → Int
  | [] => 0
  | i :: is => i + isum is
def pSum (x : D) (h : Hh) : Option (D × Hh) :=
  match (viewK h x).bind intsOf with
  | some is => some ((.int (isum is)), h)
  | none => none
def pAll (x : D) (h : Hh) : Option (D × Hh) :=
  match (viewL h x).bind boolsOf with
  | some bs => some ((.bl (bs.all id)), h)
  | none => none
def pAny (x : D) (h : Hh) : Option (D × Hh) :=
  match (viewL h x).bind boolsOf with
  | some bs => some ((.bl (bs.any id)), h)
  | none => none
def pAbs (x : D) (h : Hh) : Option (D × Hh) :=
  match x with
  | .int i => some ((.int (if i < 0 then -i else i)), h)
  | _ => none
def imax : Int → List Int → Int
  | m, [] => m
  | m, i :: is => imax (if m < i then i else m) is
def imin : Int → List Int → Int
  | m, [] => m
  | m, i :: is => imin (if i < m then i else m) is
def pMax1 (x : D) (h : Hh) : Option (D × Hh) :=
  match (viewL h x).bind intsOf with
  | some (i :: is) => some ((.int (imax i is)), h)
  | _ => none
def pMin1 (x : D) (h : Hh) : Option (D × Hh) :=
  match (viewL h x).bind intsOf with
  | some (i :: is) => some ((.int (imin i is)), h)
  | _ => none
def pMax2 (x y : D) (h : Hh) : Option (D × Hh) :=
  match x, y with
  | .int i, .int j => some ((.int (if j > i then j else i)), h)
  | _, _ => none
def pMin2 (x y : D) (h : Hh) : Option (D × Hh) :=
  match x, y with
  | .int i, .int j => some ((.int (if j < i then j else i)), h)
  | _, _ => none

def insI (i : Int) : List Int → List Int
  | [] => [i]
  | j :: js => if i ≤ j then i :: j :: js else j :: insI i js
def sortI : List Int → List Int
  | [] => []
  | i :: is => insI i (sortI is)
/-- sorted of numbers -/
def pSorted (x : D) (h : Hh) : Option (D × Hh) :=
  match (viewL h x).bind intsOf with
  | some is => some ((.lst ((sortI is).map D.int)), h)
  | none => none
def leP (p q : Int × Int) : Bool := decide (p.1 < q.1) || (decide (p.1 = q.1) && decide (p.2 ≤ q.2))
def insP (p : Int × Int) : List (Int × Int) → List (Int × Int)
  | [] => [p]
  | q :: qs => if leP p q then p :: q :: qs else q :: insP p qs
def sortP : List (Int × Int) → List (Int × Int)
  | [] => []
  | p :: ps => insP p (sortP ps)
def pairsI : List D → Option (List (Int × Int))
  | [] => some []
  | .tup [.int i, .int j] :: xs => (pairsI xs).map ((i, j) :: ·)
  | _ :: _ => none
/-- sorted of pairs of numbers -/
def pSortedP (x : D) (h : Hh) : Option (D × Hh) :=
  match (viewL h x).bind pairsI with
  | some ps => some ((.lst ((sortP ps).map fun p => D.tup [.int p.1, .int p.2])), h)
  | none => none
def dedup : List Int → List Int
  | [] => []
  | i :: is => if (dedup is).contains i then dedup is else i :: dedup is
/-- sorted(set(x)) of numbers -/
def pSortedSet (x : D) (h : Hh) : Option (D × Hh) :=
  match (viewL h x).bind intsOf with
  | some is => if is.length ≤ 60 then some ((.lst ((sortI (dedup is)).map D.int)), h) else none
  | none => none

def findV (a : D) : List D → Option Nat
  | [] => none
  | b :: bs => if eqv b a then some 0 else (findV a bs).map (· + 1)
/-- x.index(y) of a list -/
def pIndex (x y : D) (h : Hh) : Option (D × Hh) :=
  match viewL h x, deep h y with
  | some xs, some a => match xs.mapM (deep h) with
    | some bs => match findV a bs with
      | some k => some (.int k, h)
      | none => none
    | none => none
  | _, _ => none
/-- x.index(y) of a key -/
def pIndexT (x y : D) (h : Hh) : Option (D × Hh) :=
  match x, y with
  | .ktp is, .int i => match findV (.int i) (is.map D.int) with
    | some k => some (.int k, h)
    | none => none
  | _, _ => none

def ixN (n : Nat) (i : Int) : Option Nat := if 0 ≤ i then (if i < n then some i.toNat else none) else if -(n : Int) ≤ i then some (i + n).toNat else none
def atI (xs : List D) (i : Int) : Option D := (ixN xs.length i).bind fun j => xs[j]?
/-- x[i] of a list or a tuple -/
def pIx (x y : D) (h : Hh) : Option (D × Hh) :=
  match viewS h x, y with
  | some xs, .int i => match atI xs i with
    | some d => some (d, h)
    | none => none
  | _, _ => none
/-- x[k] of a dict -/
def pIxD (x y : D) (h : Hh) : Option (D × Hh) :=
  match viewD h x, keyOf y with
  | some (ks, vs), some k => match lookD k ks vs with
    | some d => some (d, h)
    | none => none
  | _, _ => none
def sIx (n d : Nat) : Option Int → Nat
  | none => d
  | some v => if v < 0 then (v + (n : Int)).toNat else min v.toNat n
def cut (xs : List D) (lo hi : Option Int) : List D := (xs.drop (sIx xs.length 0 lo)).take (sIx xs.length xs.length hi - sIx xs.length 0 lo)
/-- x[:j] | x[i:] -/
def pTo (m : Bool) (x y : D) (h : Hh) : Option (D × Hh) :=
  match viewL h x, y with
  | some xs, .int j => mkL m (cut xs none (some j)) h
  | _, _ => none
def pFrom (m : Bool) (x y : D) (h : Hh) : Option (D × Hh) :=
  match viewL h x, y with
  | some xs, .int i => mkL m (cut xs (some i) none) h
  | _, _ => none
def pRev (m : Bool) (x : D) (h : Hh) : Option (D × Hh) :=
  match viewL h x with
  | some xs => mkL m xs.reverse h
  | none => none

/-! ### changing calls -/
def setC (h : Hh) (c : Nat) (x : Cell) : Hh := h.set c x
def pAppend (x y : D) (h : Hh) : Option (D × Hh) :=
  match x with
  | .cell c => match h[c]? with
    | some (.lst xs) => if xs.length < LIM then some (.non, (h.set c (.lst (xs ++ [y])))) else none
    | _ => none
  | _ => none
def pExtend (x y : D) (h : Hh) : Option (D × Hh) :=
  match x with
  | .cell c => match h[c]?, viewL h y with
    | some (.lst xs), some ys => if xs.length + ys.length ≤ LIM then some (.non, (h.set c (.lst (xs ++ ys)))) else none
    | _, _ => none
  | _ => none
def pPop (x : D) (h : Hh) : Option (D × Hh) :=
  match x with
  | .cell c => match h[c]? with
    | some (.lst xs) => match xs[xs.length - 1]? with
      | some y => some (y, (h.set c (.lst xs.dropLast)))
      | none => none
    | _ => none
  | _ => none
def pPopAt (x y : D) (h : Hh) : Option (D × Hh) :=
  match x, y with
  | .cell c, .int i => match h[c]? with
    | some (.lst xs) => match ixN xs.length i with
      | some k => match xs[k]? with
        | some d => if xs.length ≤ LIM then some (d, (h.set c (.lst (xs.eraseIdx k)))) else none
        | none => none
      | none => none
    | _ => none
  | _, _ => none
def pInsert (x y z : D) (h : Hh) : Option (D × Hh) :=
  match x, y with
  | .cell c, .int i => match h[c]? with
    | some (.lst xs) => if 0 ≤ i ∧ i ≤ xs.length ∧ xs.length < LIM then some (.non, (h.set c (.lst (xs.take i.toNat ++ z :: xs.drop i.toNat)))) else none
    | _ => none
  | _, _ => none
def pClear (x : D) (h : Hh) : Option (D × Hh) :=
  match x with
  | .cell c => match h[c]? with
    | some (.lst _) => some (.non, (h.set c (.lst [])))
    | _ => none
  | _ => none
def pReverse (x : D) (h : Hh) : Option (D × Hh) :=
  match x with
  | .cell c => match h[c]? with
    | some (.lst xs) => some (.non, (h.set c (.lst xs.reverse)))
    | _ => none
  | _ => none
def e3 (f : D → D → D → Hh → Option (D × Hh)) (a b c : FE) : FE := fun cx r h => (a cx r h).bind fun x h1 => (b cx r h1).bind fun y h2 => (c cx r h2).bind fun z h3 => up (f x y z h3)
/-- a list's methods -/
def eM0 (f : D → Hh → Option (D × Hh)) (o : FE) : FE := fun cx r h => (o cx r h).bind fun x h1 => if (viewL h1 x).isSome then up (f x h1) else .bad
def eM1 (f : D → D → Hh → Option (D × Hh)) (o a : FE) : FE := fun cx r h => (o cx r h).bind fun x h1 =>
  if (viewL h1 x).isSome then (a cx r h1).bind fun y h2 => up (f x y h2) else .bad
def eM2 (f : D → D → D → Hh → Option (D × Hh)) (o a b : FE) : FE := fun cx r h => (o cx r h).bind fun x h1 =>
  if (viewL h1 x).isSome then (a cx r h1).bind fun y h2 => (b cx r h2).bind fun z h3 => up (f x y z h3) else .bad
/-- a list is changed no more from here on -/
def pFrz (x : D) (h : Hh) : Option (D × Hh) :=
  match x with
  | .cell c => match h[c]? with
    | some (.lst xs) => some ((.lst xs), (h.set c .dead))
    | some (.dct ks vs) => some ((.dct ks vs), (h.set c .dead))
    | _ => none
  | _ => none

/-! ### targets, walks -/
inductive T where
  | n (i : Nat)
  | t (ts : List T)
mutual
def asg : T → D → Env → Option Env
  | .n i, d, r => if i < r.length then some (r.set i (some d)) else none
  | .t ts, .tup ds, r => asgs ts ds r
  | .t _, _, _ => none
def asgs : List T → List D → Env → Option Env
  | [], [], r => some r
  | t :: ts, d :: ds, r => match asg t d r with
    | some r1 => asgs ts ds r1
    | none => none
  | _, _, _ => none
end
mutual
def tslots : T → List Nat
  | .n i => [i]
  | .t ts => tslotss ts
def tslotss : List T → List Nat
  | [] => []
  | t :: ts => tslots t ++ tslotss ts
end
def wipeE (r : Env) : List Nat → Env
  | [] => r
  | v :: vs => (wipeE r vs).set v none

/-- what is walked: cells that must stay as they are, the items -/
structure Src where
  ats : List (Nat × List D)
  items : List D
def viewW (h : Hh) : D → Option (List (Nat × List D) × List D)
  | .lst xs => some ([], xs)
  | .cell c => match h[c]? with
    | some (.lst xs) => some ([(c, xs)], xs)
    | _ => none
  | _ => none
abbrev FI := Ctx → Env → Hh → R Src
def rangeL (lo : Int) : Nat → List D
  | 0 => []
  | n + 1 => .int lo :: rangeL (lo + 1) n
def iSeq (a : FE) : FI := fun cx r h => (a cx r h).bind fun x h1 =>
  match x with
  | .tup xs => .ok ⟨[], xs⟩ h1
  | x => match viewW h1 x with
    | some p => .ok ⟨p.1, p.2⟩ h1
    | none => .bad
def iDict (a : FE) : FI := fun cx r h => (a cx r h).bind fun x h1 =>
  match x with
  | .dct ks _ => .ok ⟨[], ks.map D.ktp⟩ h1
  | _ => .bad
def iRange1 (a : FE) : FI := fun cx r h => (a cx r h).bind fun x h1 =>
  match x with
  | .int n => if n ≤ 1000000 ∧ -1000000 ≤ n then .ok ⟨[], rangeL 0 n.toNat⟩ h1 else .bad
  | _ => .bad
def iRange2 (a b : FE) : FI := fun cx r h => (a cx r h).bind fun x h1 => (b cx r h1).bind fun y h2 =>
  match x, y with
  | .int i, .int j => if -1000000 ≤ i ∧ i ≤ 1000000 ∧ j ≤ 1000000 ∧ -1000000 ≤ j then .ok ⟨[], rangeL i (j - i).toNat⟩ h2 else .bad
  | _, _ => .bad
def stepL (lo c : Int) : Nat → List D
  | 0 => []
  | n + 1 => .int lo :: stepL (lo + c) c n
/-- range(a, b, c), c written and from 1 on -/
def iRange3 (c : Int) (a b : FE) : FI := fun cx r h => (a cx r h).bind fun x h1 => (b cx r h1).bind fun y h2 =>
  match x, y with
  | .int i, .int j => if 0 ≤ i ∧ i ≤ 1000000 ∧ j ≤ 1000000 ∧ 0 ≤ j ∧ 0 < c ∧ c ≤ 1000 then .ok ⟨[], stepL i c (if i < j then (j - i - 1) / c + 1 else 0).toNat⟩ h2 else .bad
  | _, _ => .bad
def zipT : List D → List D → List D
  | x :: xs, y :: ys => .tup [x, y] :: zipT xs ys
  | _, _ => []
def enumT (k : Int) : List D → List D
  | [] => []
  | x :: xs => .tup [.int k, x] :: enumT (k + 1) xs
/-- zip(a, b) of two lists -/
def iZip (a b : FE) : FI := fun cx r h => (a cx r h).bind fun x h1 => (b cx r h1).bind fun y h2 =>
  match viewW h2 x, viewW h2 y with
  | some p, some q => .ok ⟨p.1 ++ q.1, zipT p.2 q.2⟩ h2
  | _, _ => .bad
def iEnum (a : FE) : FI := fun cx r h => (a cx r h).bind fun x h1 =>
  match viewW h1 x with
  | some p => .ok ⟨p.1, enumT 0 p.2⟩ h1
  | none => .bad
/-- whether what is walked stands as it stood -/
def stillA (h : Hh) : List (Nat × List D) → Bool
  | [] => true
  | p :: ps => (match h[p.1]? with
    | some (.lst xs) => sames xs p.2
    | _ => false) && stillA h ps
def still (s : Src) (h : Hh) : Bool := stillA h s.ats

/-- the turns of a comprehension -/
def compL (cx : Ctx) (s : Src) (own : List Nat) (t : T) (cond elt : FE) (r : Env) : List D → Hh → R (List D)
  | [], h => .ok [] h
  | x :: xs, h => match asg t x (wipeE r own) with
    | none => .bad
    | some r2 => (cond cx r2 h).bind fun b h1 =>
      match b with
      | .bl true => (elt cx r2 h1).bind fun y h2 => if still s h2 then (compL cx s own t cond elt r xs h2).bind fun ys h3 => .ok (y :: ys) h3 else .bad
      | .bl false => if still s h1 then compL cx s own t cond elt r xs h1 else .bad
      | _ => .bad
def eComp (m : Bool) (own : List Nat) (t : T) (it : FI) (cond elt : FE) : FE := fun cx r h => (it cx r h).bind fun s h1 =>
  if s.items.length ≤ LIM then (compL cx s own t cond elt r s.items h1).calm.bind fun ys h2 => up (mkL m ys h2) else .bad
def eYes : FE := eK (.bl true)
/-- list(range(n)) -/
def eListR (m : Bool) (a : FE) : FE := fun cx r h => (a cx r h).bind fun x h1 =>
  match x with
  | .int n => if 0 ≤ n ∧ n ≤ 1000000 then up (mkL m (rangeL 0 n.toNat) h1) else .bad
  | _ => .bad

/-- _law_kinds(lambda: e): of which class the refusal is -/
def sixB (c : Nat) : List Bool := [c == 1, c == 2, c == 3, c == 4, c == 5, true]
def eKinds (e : FE) : FE := fun cx r h =>
  match e cx.down.down r h with
  | .ok _ h1 => .ok (.lst []) h1
  | .exc c h1 => if 1 ≤ c ∧ c ≤ 5 then .ok (.lst ((sixB c).map D.bl)) h1 else .bad
  | .bad => .bad

/-! ### statements -/
def sPass : FS := fun _ r h => .nx r h
def sSeq (a b : FS) : FS := fun cx r h =>
  match a cx r h with
  | .nx r1 h1 => b cx r1 h1
  | o => o
def sAll : List FS → FS
  | [] => sPass
  | [a] => a
  | a :: b :: as => sSeq a (sAll (b :: as))
def sAsg (t : T) (e : FE) : FS := fun cx r h =>
  match e cx r h with
  | .ok d h1 => match asg t d r with
    | some r1 => .nx r1 h1
    | none => .bad
  | .exc c h1 => .exc c h1
  | .bad => .bad
/-- a, b = e, f and the like, all to names -/
def sPar (is : List Nat) (es : List FE) : FS := fun cx r h =>
  match evs es cx r h with
  | .ok ds h1 => match asgs (is.map T.n) ds r with
    | some r1 => .nx r1 h1
    | none => .bad
  | .exc c h1 => .exc c h1
  | .bad => .bad
def setIx (o i d : D) (h : Hh) : Option Hh :=
  match o with
  | .cell c => match h[c]? with
    | some (.lst xs) => match i with
      | .int k => match ixN xs.length k with
        | some j => some (h.set c (.lst (xs.set j d)))
        | none => none
      | _ => none
    | _ => none
  | _ => none
def setKey (o i d : D) (h : Hh) : Option Hh :=
  match o with
  | .cell c => match h[c]?, keyOf i with
    | some (.dct ks vs), some k => if ks.length < LIM then some (h.set c (.dct (putD k d ks vs).1 (putD k d ks vs).2)) else none
    | _, _ => none
  | _ => none
/-- o[i] = e: e first -/
def sSetIx (o i e : FE) : FS := fun cx r h =>
  match (e cx r h).bind fun d h1 => (o cx r h1).bind fun x h2 => (i cx r h2).bind fun y h3 => (match setIx x y d h3 with | some h4 => R.ok D.non h4 | none => .bad) with
  | .ok _ h1 => .nx r h1
  | .exc c h1 => .exc c h1
  | .bad => .bad
def sSetKey (o i e : FE) : FS := fun cx r h =>
  match (e cx r h).bind fun d h1 => (o cx r h1).bind fun x h2 => (i cx r h2).bind fun y h3 => (match setKey x y d h3 with | some h4 => R.ok D.non h4 | none => .bad) with
  | .ok _ h1 => .nx r h1
  | .exc c h1 => .exc c h1
  | .bad => .bad
/-- o[i] op= e -/
def pIxC (x y : D) (h : Hh) : Option (D × Hh) :=
  match x, y with
  | .cell c, .int i => match h[c]? with
    | some (.lst xs) => match atI xs i with
      | some d => some (d, h)
      | none => none
    | _ => none
  | _, _ => none
def sAugIx (f : D → D → Hh → Option (D × Hh)) (o i e : FE) : FS := fun cx r h =>
  match (o cx r h).bind fun x h1 => (i cx r h1).bind fun y h2 => (up (pIxC x y h2)).bind fun a h3 => (e cx r h3).bind fun b h4 => (up (f a b h4)).bind fun d h5 => (match setIx x y d h5 with | some h6 => R.ok D.non h6 | none => .bad) with
  | .ok _ h1 => .nx r h1
  | .exc c h1 => .exc c h1
  | .bad => .bad
def sAugN (f : D → D → Hh → Option (D × Hh)) (i : Nat) (e : FE) : FS := fun cx r h =>
  match (eVar i cx r h).bind fun a h1 => (e cx r h1).bind fun b h2 => up (f a b h2) with
  | .ok d h1 => .nx (r.set i (some d)) h1
  | .exc c h1 => .exc c h1
  | .bad => .bad
/-- o.f = e -/
def sAttr (cs : List Nat) (f : Nat) (o e : FE) : FS := fun cx r h =>
  match (e cx r h).bind fun d h1 => (o cx r h1).bind fun x h2 => (match x with
    | .cell c => match h2[c]? with
      | some (.ins C fs) => if fs.length < 100 ∧ cs.contains C = true then R.ok D.non (h2.set c (.ins C (putN f d fs))) else .bad
      | _ => .bad
    | _ => .bad) with
  | .ok _ h1 => .nx r h1
  | .exc c h1 => .exc c h1
  | .bad => .bad
def sExpr (e : FE) : FS := fun cx r h =>
  match e cx r h with
  | .ok _ h1 => .nx r h1
  | .exc c h1 => .exc c h1
  | .bad => .bad
def sRet (e : FE) : FS := fun cx r h =>
  match e cx r h with
  | .ok d h1 => .rt d h1
  | .exc c h1 => .exc c h1
  | .bad => .bad
def sIf (c : FE) (a b : FS) : FS := fun cx r h =>
  match c cx r h with
  | .ok (.bl true) h1 => a cx r h1
  | .ok (.bl false) h1 => b cx r h1
  | .exc x h1 => .exc x h1
  | _ => .bad
def sBreak : FS := fun _ r h => .bk r h
def sRaise (c : Nat) : FS := fun _ _ h => .exc c h
def forL (cx : Ctx) (s : Src) (t : T) (body : FS) : List D → Env → Hh → O
  | [], r, h => .nx r h
  | x :: xs, r, h => match asg t x r with
    | none => .bad
    | some r1 => match body cx r1 h with
      | .nx r2 h2 => if still s h2 then forL cx s t body xs r2 h2 else .bad
      | .bk r2 h2 => .nx r2 h2
      | o => o
def sFor (t : T) (it : FI) (body : FS) : FS := fun cx r h =>
  match it cx r h with
  | .ok s h1 => forL cx s t body s.items r h1
  | .exc c h1 => .exc c h1
  | .bad => .bad
def whileN (cx : Ctx) (c : FE) (body : FS) : Nat → Env → Hh → O
  | 0, _, _ => .bad
  | n + 1, r, h => match c cx r h with
    | .ok (.bl true) h1 => match body cx r h1 with
      | .nx r2 h2 => whileN cx c body n r2 h2
      | .bk r2 h2 => .nx r2 h2
      | o => o
    | .ok (.bl false) h1 => .nx r h1
    | .exc x h1 => .exc x h1
    | _ => .bad
def sWhile (n : Nat) (c : FE) (body : FS) : FS := fun cx r h => whileN cx c body n r h

/-! ### defs -/
structure Fn where
  slots : Nat
  pars : Nat
  pure : Bool
  body : FS
def finish (p : Bool) (h : Hh) (d : D) (h' : Hh) : R D :=
  if p then
    match thru h.length h' 12 d with
    | some e => if sameH (h'.take h.length) h then .ok e h else .bad
    | none => .bad
  else .ok d h'
def runFn (f : Fn) (cx : Ctx) (args : List D) (h : Hh) : R D :=
  if args.length = f.pars then
    match f.body cx (args.map some ++ List.replicate (f.slots - f.pars) none) h with
    | .nx _ h' => finish f.pure h .non h'
    | .rt d h' => finish f.pure h d h'
    | .exc c h' => if f.pure then (if sameH (h'.take h.length) h then .exc c h else .bad) else .exc c h'
    | _ => .bad
  else .bad
def ctxN (G : Nat → Option Fn) : Nat → Ctx
  | 0 => .z
  | n + 1 => .s (fun k ds h => if n < 3 then .bad else match G k with
      | some f => runFn f (ctxN G n) ds h
      | none => .bad) (ctxN G n)
theorem ctxN_call (G : Nat → Option Fn) {k : Nat} {f : Fn} (e : G k = some f) (n : Nat) (ds : List D) (h : Hh) : (ctxN G (n + 4)).call k ds h = runFn f (ctxN G (n + 3)) ds h := by
  show (if n + 3 < 3 then R.bad else match G k with | some f => runFn f (ctxN G (n + 3)) ds h | none => .bad) = _
  rw [if_neg (by omega), e]
end M

set_option Elab.async false
set_option linter.all false
set_option maxRecDepth 100000
set_option maxHeartbeats 4000000
/-! How the machine's data stand in the layer's abstract heap. -/
namespace M
open PySem L2

/-- something stands there that is no table of code -/
def Nt : Option HO → Prop
  | none => False
  | some (.tbl _) => False
  | some _ => True
theorem Nt.ne {u : Option HO} (n : Nt u) : u ≠ none := fun z => by rw [z] at n; exact n
theorem Nt.not {u : Option HO} (e : u = none) : ¬ Nt u := fun n => by rw [e] at n; exact n
def Stl (o : HO) : Prop := (∀ kvs, o ≠ .dT kvs) ∧ Nt (some o)
/-- where the cells stand; what else is under way and not to be met -/
structure Tr where
  l : List Addr
  av : Addr → Prop
def live (t : Tr) (h : Hh) (a : Addr) : Prop := (∃ (c : Nat) (x : Cell), t.l[c]? = some a ∧ h[c]? = some x ∧ x ≠ .dead) ∨ t.av a

/-- what stood still can be read as before -/
structure Ext0 (t : Tr) (h : Hh) (H : Hp) (t' : Tr) (h' : Hh) (H' : Hp) : Prop where
  pre : ∃ u, t'.l = t.l ++ u
  lv : ∀ a, live t' h' a → live t h a ∨ ¬ Nt (H a)
  keep : ∀ a o, ¬ live t h a → H a = some o → Stl o → H' a = some o
  dict : ∀ a kvs, ¬ live t h a → Rd H a (.dT kvs) → Rd H' a (.dT kvs)
/-- the law's own names: classes, refusals, fields, defs as values -/
structure Inf where
  cls : Nat → Addr
  exc : Nat → Addr
  fld : Nat → Str
  fnv : Nat → Addr
  tabs : List (Addr × Str)
  inj : ∀ f g, fld f = fld g → f = g
  inv : Tr → Hh → Hp → Prop
  imono : ∀ {t h H t1 h1 H1}, Ext0 t h H t1 h1 H1 → inv t h H → inv t1 h1 H1

theorem tabs_updC {T : List (Addr × Str)} {H : Hp} {p : Addr} {o : HO} (t : LamX.Tabs T H) (hp : H p = none ∨ ∃ u, H p = some u ∧ Nt (some u) ∧ ∀ c q, u ≠ LamX.CodeO c q) : LamX.Tabs T (upd H p o) := fun w hw => by
  obtain ⟨ps, h1, h2, h3⟩ := t w hw
  have ne : ∀ {b : Addr} {u : HO}, H b = some u → (Nt (some u) → ∃ c q, u = LamX.CodeO c q) → b ≠ p := fun {b u} hb hn e => by
    subst e
    rcases hp with hp | ⟨z, hz, h4, h5⟩
    · rw [hb] at hp; cases hp
    · rw [hb] at hz
      cases hz
      obtain ⟨c, q, e⟩ := hn h4
      exact h5 c q e
  refine ⟨ps, ?_, h2, fun pos cv hc => ?_⟩
  · rw [upd_ne (ne h1 fun n => n.elim)]
    exact h1
  · obtain ⟨c, e1, e2⟩ := h3 pos cv hc
    refine ⟨c, e1, ?_⟩
    rw [upd_ne (ne e2 fun _ => ⟨c, w.2, rfl⟩)]
    exact e2
theorem tabs_upd {T : List (Addr × Str)} {H : Hp} {p : Addr} {o : HO} (t : LamX.Tabs T H) (hp : H p = none ∨ ∃ u, H p = some u ∧ Nt (some u) ∧ ∀ f, u ≠ .ext f) : LamX.Tabs T (upd H p o) :=
  tabs_updC t (hp.imp id fun ⟨u, e, n, k⟩ => ⟨u, e, n, fun _ _ => k _⟩)

/-! ### dicts whose keys are tuples of numbers: the objects themselves are known -/
/-- the object at a -/
def ExO (a : Addr) (o : Obj) : HO := .ext fun h => h.get? a = some o
def TupIs (o : Obj) (is : List Int) : Prop := o.cls = .type "tuple" ∧ o.dict = none ∧ ∃ (us : List Value) (n : Nat), o.data = .seq us.toArray n ∧ PyProof.Rows.IntsAre us is
def hashK (k : List Int) : Int := reduceHash (Builtin.Tuple.tupleHashOf (k.map hashInt))
def DictIs (a : Addr) (o : Obj) (xs : List (List Int × Addr × Value)) : Prop := (a == sysModules) = false ∧ o.ExactDict ∧ (∃ es ep, o.data = .dict es ep ∧ es.toList = xs.map fun x => ⟨hashK x.1, .ref x.2.1, x.2.2⟩) ∧ (xs.map (·.1)).Nodup ∧ xs.length ≤ sizeLine
def KeyOk (H : Hp) (L : Addr → Prop) (b : Addr) (k : List Int) : Prop := ∃ o, H b = some (ExO b o) ∧ ¬ L b ∧ TupIs o k
def DctAt (L : Addr → Prop) (H : Hp) (a : Addr) (ks : List (List Int)) (vs : List V) : Prop := ∃ (o : Obj) (xs : List (List Int × Addr × Value)), H a = some (ExO a o) ∧ DictIs a o xs ∧ xs.map (·.1) = ks ∧ (∀ x ∈ xs, KeyOk H L x.2.1 x.1) ∧ Vals vs (xs.map (·.2.2))
theorem exO_ne {a c : Addr} {o : Obj} {q : Str} {es : Array DictEntry} {ep : Nat} (hd : o.data = .dict es ep) : ExO a o ≠ LamX.CodeO c q := fun z => by
  unfold ExO LamX.CodeO at z
  injection z with z
  have hg : ∀ b, b < a + 1 → (Heap.mk (Array.replicate (a + 1) o) default).get? b = some o := fun b hb => by
    unfold Heap.get?
    rw [Array.getElem?_replicate, if_pos hb]
    obtain ⟨o1, o2, o3, o4⟩ := o
    simp only at hd
    subst hd
    rfl
  have h1 := congrFun z (Heap.mk (Array.replicate (a + 1) o) default)
  have h2 : ∃ (oc : Obj) (vs : Array Value) (t : Tok), (Heap.mk (Array.replicate (a + 1) o) default).get? c = some oc ∧ oc.data = .fields vs ∧ vs[1]? = some (.str q t) := h1 ▸ hg a (Nat.lt_succ_self a)
  obtain ⟨oc, vs, t, e1, e2, _⟩ := h2
  have e3 : oc = o := by
    by_cases hc : c < a + 1
    · rw [hg c hc] at e1
      exact (Option.some.inj e1).symm
    · unfold Heap.get? at e1
      rw [Array.getElem?_replicate, if_neg hc] at e1
      cases e1
  rw [e3, hd] at e2
  cases e2

mutual
def RV (J : Inf) (t : Tr) (L : Addr → Prop) (H : Hp) : D → V → Prop
  | .non, v => v = .non
  | .bl b, v => v = .bl b
  | .int i, v => v = .int i
  | .str s, v => v = .str ⟨s.toArray⟩
  | .tup xs, v => ∃ a vs, v = .ref a ∧ H a = some (.tup vs) ∧ ¬ L a ∧ RVs J t L H xs vs
  | .lst xs, v => ∃ a vs, v = .ref a ∧ H a = some (.lst vs) ∧ ¬ L a ∧ RVs J t L H xs vs
  | .dct ks ws, v => ∃ a vs, v = .ref a ∧ DctAt L H a ks vs ∧ ¬ L a ∧ RVs J t L H ws vs
  | .edict, v => ∃ a, v = .ref a ∧ H a = some (.dK []) ∧ ¬ L a
  | .cell c, v => ∃ a, v = .ref a ∧ t.l[c]? = some a
  | .fn k, v => v = .ref (J.fnv k)
  | .ktp k, v => ∃ a, v = .ref a ∧ KeyOk H L a k
def RVs (J : Inf) (t : Tr) (L : Addr → Prop) (H : Hp) : List D → List V → Prop
  | [], vs => vs = []
  | d :: ds, vs => ∃ v r, vs = v :: r ∧ RV J t L H d v ∧ RVs J t L H ds r
end

def FsOk (J : Inf) (t : Tr) (L : Addr → Prop) (H : Hp) (fs : List (Nat × D)) (gs : List (Str × V)) : Prop :=
  gs.map (·.1) = fs.map (fun p => J.fld p.1) ∧ RVs J t L H (fs.map (·.2)) (gs.map (·.2))

def CellOk (J : Inf) (t : Tr) (L : Addr → Prop) (H : Hp) (a : Addr) : Cell → Prop
  | .lst xs => ∃ vs, H a = some (.lst vs) ∧ RVs J t L H xs vs
  | .dct ks ws => ∃ vs, DctAt L H a ks vs ∧ RVs J t L H ws vs
  | .ins C fs => ∃ dx gs, H a = some (.ins (J.cls C) dx gs) ∧ FsOk J t L H fs gs
  | .dead => Nt (H a)

structure RepH (J : Inf) (t : Tr) (h : Hh) (H : Hp) : Prop where
  len : t.l.length = h.length
  nd : t.l.Nodup
  cells : ∀ (c : Nat) (x : Cell) (a : Addr), h[c]? = some x → t.l[c]? = some a → CellOk J t (live t h) H a x
  apart : ∀ a ∈ t.l, ¬ t.av a
  there : ∀ a, t.av a → ∃ vs, H a = some (.lst vs)
  tabs : LamX.Tabs J.tabs H
  inv : J.inv t h H

def Slots (J : Inf) (t : Tr) (L : Addr → Prop) (H : Hp) (r : Env) (s : St) : Prop :=
  s.length = r.length ∧ ∀ (i : Nat) (d : D), r[i]? = some (some d) → ∃ v, s[i]? = some (some v) ∧ RV J t L H d v

/-- nothing that stands still has changed -/
structure Ext (t : Tr) (h : Hh) (H : Hp) (t' : Tr) (h' : Hh) (H' : Hp) : Prop extends Ext0 t h H t' h' H' where
  av : t'.av = t.av
  stays : ∀ a, Nt (H a) → Nt (H' a)
  same : ∀ a, t.av a → H' a = H a

theorem Rd.nt {H : Hp} {a : Addr} {kvs : List (List Key × V)} (r : Rd H a (.dT kvs)) : Nt (H a) := by
  rcases r with r | ⟨o, r⟩ <;> rw [r] <;> exact trivial
theorem Rd.ne_none {H : Hp} {a : Addr} {u : HO} (r : Rd H a u) : H a ≠ none := by
  rcases r with r | ⟨o, r⟩ <;> rw [r] <;> exact fun z => nomatch z

section
variable {J : Inf} {t t1 t2 : Tr} {h h1 h2 : Hh} {H H1 H2 : Hp}

theorem Ext.refl : Ext t h H t h H := ⟨⟨⟨[], by simp⟩, fun _ z => .inl z, fun _ _ _ e _ => e, fun _ _ _ e => e⟩, rfl, fun _ z => z, fun _ _ => rfl⟩
theorem Ext0.notlive (e : Ext0 t h H t1 h1 H1) {a : Addr} (n : ¬ live t h a) (s : Nt (H a)) : ¬ live t1 h1 a := fun z =>
  (e.lv a z).elim n fun w => w s
theorem Ext.notlive (e : Ext t h H t1 h1 H1) {a : Addr} (n : ¬ live t h a) (s : Nt (H a)) : ¬ live t1 h1 a := e.toExt0.notlive n s
theorem Ext.trans (e : Ext t h H t1 h1 H1) (f : Ext t1 h1 H1 t2 h2 H2) : Ext t h H t2 h2 H2 where
  pre := by
    obtain ⟨u, e1⟩ := e.pre
    obtain ⟨w, e2⟩ := f.pre
    exact ⟨u ++ w, by rw [e2, e1, List.append_assoc]⟩
  lv := fun a z => by
    rcases f.lv a z with z | z
    · exact e.lv a z
    · exact .inr fun w => z (e.stays a w)
  keep := fun a o n q d1 => f.keep a o (e.notlive n (by rw [q]; exact d1.2)) (e.keep a o n q d1) d1
  dict := fun a kvs n q => f.dict a kvs (e.notlive n (Rd.nt q)) (e.dict a kvs n q)
  av := f.av.trans e.av
  stays := fun a z => f.stays a (e.stays a z)
  same := fun a z => (f.same a (by rw [e.av]; exact z)).trans (e.same a z)
theorem Ext0.trans (e : Ext0 t h H t1 h1 H1) (st : ∀ a, Nt (H a) → Nt (H1 a)) (f : Ext0 t1 h1 H1 t2 h2 H2) : Ext0 t h H t2 h2 H2 where
  pre := by
    obtain ⟨u, e1⟩ := e.pre
    obtain ⟨w, e2⟩ := f.pre
    exact ⟨u ++ w, by rw [e2, e1, List.append_assoc]⟩
  lv := fun a z => by
    rcases f.lv a z with z | z
    · exact e.lv a z
    · exact .inr fun w => z (st a w)
  keep := fun a o n q d1 => f.keep a o (e.notlive n (by rw [q]; exact d1.2)) (e.keep a o n q d1) d1
  dict := fun a kvs n q => f.dict a kvs (e.notlive n (Rd.nt q)) (e.dict a kvs n q)
theorem Ext0.at (e : Ext0 t h H t1 h1 H1) {c : Nat} {a : Addr} (q : t.l[c]? = some a) : t1.l[c]? = some a := by
  obtain ⟨u, e1⟩ := e.pre
  rw [e1, List.getElem?_append_left (List.getElem?_eq_some_iff.mp q).1]
  exact q
theorem Ext.at (e : Ext t h H t1 h1 H1) {c : Nat} {a : Addr} (q : t.l[c]? = some a) : t1.l[c]? = some a := e.toExt0.at q

theorem KeyOk.mono0 (e : Ext0 t h H t1 h1 H1) {b : Addr} {k : List Int} (x : KeyOk H (live t h) b k) : KeyOk H1 (live t1 h1) b k := by
  obtain ⟨o, q, n, r⟩ := x
  exact ⟨o, e.keep b _ n q ⟨fun _ => nofun, trivial⟩, e.notlive n (by rw [q]; exact trivial), r⟩
theorem DctAt.mono0 (e : Ext0 t h H t1 h1 H1) {a : Addr} {ks : List (List Int)} {vs : List V} (q : H1 a = H a) (x : DctAt (live t h) H a ks vs) : DctAt (live t1 h1) H1 a ks vs := by
  obtain ⟨o, xs, x1, x2, x3, x4, x5⟩ := x
  exact ⟨o, xs, q.trans x1, x2, x3, fun y hy => (x4 y hy).mono0 e, x5⟩
mutual
theorem RV.mono0 (e : Ext0 t h H t1 h1 H1) : ∀ {d : D} {v : V}, RV J t (live t h) H d v → RV J t1 (live t1 h1) H1 d v
  | .non, _, x => by simpa only [RV] using x
  | .bl _, _, x => by simpa only [RV] using x
  | .int _, _, x => by simpa only [RV] using x
  | .str _, _, x => by simpa only [RV] using x
  | .tup xs, _, x => by
    simp only [RV] at x ⊢
    obtain ⟨a, vs, ev, q, n, r⟩ := x
    exact ⟨a, vs, ev, e.keep a _ n q ⟨fun _ => nofun, trivial⟩, e.notlive n (by rw [q]; exact trivial), RVs.mono0 e r⟩
  | .lst xs, _, x => by
    simp only [RV] at x ⊢
    obtain ⟨a, vs, ev, q, n, r⟩ := x
    exact ⟨a, vs, ev, e.keep a _ n q ⟨fun _ => nofun, trivial⟩, e.notlive n (by rw [q]; exact trivial), RVs.mono0 e r⟩
  | .dct ks ws, _, x => by
    simp only [RV] at x ⊢
    obtain ⟨a, vs, ev, q, n, r⟩ := x
    obtain ⟨o, xs, x1, xr⟩ := id q
    have k := e.keep a _ n x1 ⟨fun _ => nofun, trivial⟩
    exact ⟨a, vs, ev, q.mono0 e (k.trans x1.symm), e.notlive n (by rw [x1]; exact trivial), RVs.mono0 e r⟩
  | .edict, _, x => by
    simp only [RV] at x ⊢
    obtain ⟨a, ev, q, n⟩ := x
    exact ⟨a, ev, e.keep a _ n q ⟨fun _ => nofun, trivial⟩, e.notlive n (by rw [q]; exact trivial)⟩
  | .cell c, _, x => by
    simp only [RV] at x ⊢
    obtain ⟨a, ev, q⟩ := x
    exact ⟨a, ev, e.at q⟩
  | .fn _, _, x => by simpa only [RV] using x
  | .ktp _, _, x => by
    simp only [RV] at x ⊢
    obtain ⟨a, ev, q⟩ := x
    exact ⟨a, ev, q.mono0 e⟩
theorem RVs.mono0 (e : Ext0 t h H t1 h1 H1) : ∀ {ds : List D} {vs : List V}, RVs J t (live t h) H ds vs → RVs J t1 (live t1 h1) H1 ds vs
  | [], _, x => by simpa only [RVs] using x
  | d :: ds, _, x => by
    simp only [RVs] at x ⊢
    obtain ⟨v, r, ev, p, q⟩ := x
    exact ⟨v, r, ev, RV.mono0 e p, RVs.mono0 e q⟩
end
theorem RV.mono (e : Ext t h H t1 h1 H1) {d : D} {v : V} (x : RV J t (live t h) H d v) : RV J t1 (live t1 h1) H1 d v := x.mono0 e.toExt0
theorem RVs.mono (e : Ext t h H t1 h1 H1) {d : List D} {v : List V} (x : RVs J t (live t h) H d v) : RVs J t1 (live t1 h1) H1 d v := x.mono0 e.toExt0
theorem Slots.mono0 {r : Env} {s : St} (e : Ext0 t h H t1 h1 H1) (x : Slots J t (live t h) H r s) : Slots J t1 (live t1 h1) H1 r s :=
  ⟨x.1, fun i d q => by
    obtain ⟨v, h1, h2⟩ := x.2 i d q
    exact ⟨v, h1, h2.mono0 e⟩⟩
theorem Slots.mono {r : Env} {s : St} (e : Ext t h H t1 h1 H1) (x : Slots J t (live t h) H r s) : Slots J t1 (live t1 h1) H1 r s :=
  ⟨x.1, fun i d q => by
    obtain ⟨v, h1, h2⟩ := x.2 i d q
    exact ⟨v, h1, h2.mono e⟩⟩

/-! ### the shape of a value by its datum -/
variable {L : Addr → Prop}
theorem RVs.length : ∀ {ds : List D} {vs : List V}, RVs J t L H ds vs → vs.length = ds.length
  | [], _, x => by simp only [RVs] at x; subst x; rfl
  | d :: ds, _, x => by
    simp only [RVs] at x
    obtain ⟨v, r, rfl, _, q⟩ := x
    simp [q.length]
theorem RVs.nil : RVs J t L H [] [] := by simp only [RVs]
theorem RVs.cons {d : D} {ds : List D} {v : V} {vs : List V} (p : RV J t L H d v) (q : RVs J t L H ds vs) : RVs J t L H (d :: ds) (v :: vs) := by
  simp only [RVs]
  exact ⟨v, vs, rfl, p, q⟩
theorem RVs.get : ∀ {ds : List D} {vs : List V} {i : Nat} {d : D}, RVs J t L H ds vs → ds[i]? = some d → ∃ v, vs[i]? = some v ∧ RV J t L H d v
  | [], _, _, _, _, e => by simp at e
  | d :: ds, _, 0, _, x, e => by
    simp only [RVs] at x
    obtain ⟨v, r, rfl, p, _⟩ := x
    simp at e
    subst e
    exact ⟨v, rfl, p⟩
  | d :: ds, _, i + 1, _, x, e => by
    simp only [RVs] at x
    obtain ⟨v, r, rfl, _, q⟩ := x
    obtain ⟨w, h1, h2⟩ := q.get (i := i) (by simpa using e)
    exact ⟨w, by simpa using h1, h2⟩
theorem RVs.getV {ds : List D} {vs : List V} {i : Nat} {v : V} (x : RVs J t L H ds vs) (e : vs[i]? = some v) : ∃ d, ds[i]? = some d ∧ RV J t L H d v := by
  have hl := x.length
  have hi : i < vs.length := (List.getElem?_eq_some_iff.mp e).1
  obtain ⟨w, h1, h2⟩ := x.get (i := i) (d := ds[i]'(by omega)) (by simp)
  rw [e] at h1
  cases h1
  exact ⟨_, by simp, h2⟩
theorem RVs.append : ∀ {ds es : List D} {vs ws : List V}, RVs J t L H ds vs → RVs J t L H es ws → RVs J t L H (ds ++ es) (vs ++ ws)
  | [], _, _, _, x, y => by simp only [RVs] at x; subst x; simpa using y
  | d :: ds, _, _, _, x, y => by
    simp only [RVs] at x
    obtain ⟨v, r, rfl, p, q⟩ := x
    exact .cons p (q.append y)
theorem RVs.take : ∀ {ds : List D} {vs : List V} (n : Nat), RVs J t L H ds vs → RVs J t L H (ds.take n) (vs.take n)
  | _, _, 0, _ => by simpa using RVs.nil
  | [], _, n + 1, x => by simp only [RVs] at x; subst x; simpa using RVs.nil
  | d :: ds, _, n + 1, x => by
    simp only [RVs] at x
    obtain ⟨v, r, rfl, p, q⟩ := x
    simpa using RVs.cons p (q.take n)
theorem RVs.drop : ∀ {ds : List D} {vs : List V} (n : Nat), RVs J t L H ds vs → RVs J t L H (ds.drop n) (vs.drop n)
  | _, _, 0, x => by simpa using x
  | [], _, n + 1, x => by simp only [RVs] at x; subst x; simpa using RVs.nil
  | d :: ds, _, n + 1, x => by
    simp only [RVs] at x
    obtain ⟨v, r, rfl, p, q⟩ := x
    simpa using q.drop n
theorem RVs.set : ∀ {ds : List D} {vs : List V} {d : D} {v : V} (n : Nat), RVs J t L H ds vs → RV J t L H d v → RVs J t L H (ds.set n d) (vs.set n v)
  | [], _, _, _, _, x, _ => by simp only [RVs] at x; subst x; simpa using RVs.nil
  | d :: ds, _, _, _, 0, x, y => by
    simp only [RVs] at x
    obtain ⟨v, r, rfl, p, q⟩ := x
    simpa using RVs.cons y q
  | d :: ds, _, _, _, n + 1, x, y => by
    simp only [RVs] at x
    obtain ⟨v, r, rfl, p, q⟩ := x
    simpa using RVs.cons p (q.set n y)
theorem RVs.eraseIdx : ∀ {ds : List D} {vs : List V} (n : Nat), RVs J t L H ds vs → RVs J t L H (ds.eraseIdx n) (vs.eraseIdx n)
  | [], _, _, x => by simp only [RVs] at x; subst x; simpa using RVs.nil
  | d :: ds, _, 0, x => by
    simp only [RVs] at x
    obtain ⟨v, r, rfl, p, q⟩ := x
    simpa using q
  | d :: ds, _, n + 1, x => by
    simp only [RVs] at x
    obtain ⟨v, r, rfl, p, q⟩ := x
    simpa using RVs.cons p (q.eraseIdx n)
theorem RVs.reverse : ∀ {ds : List D} {vs : List V}, RVs J t L H ds vs → RVs J t L H ds.reverse vs.reverse
  | [], _, x => by simp only [RVs] at x; subst x; simpa using RVs.nil
  | d :: ds, _, x => by
    simp only [RVs] at x
    obtain ⟨v, r, rfl, p, q⟩ := x
    simpa using q.reverse.append (RVs.cons p .nil)
theorem RVs.dropLast {ds : List D} {vs : List V} (x : RVs J t L H ds vs) : RVs J t L H ds.dropLast vs.dropLast := by
  rw [List.dropLast_eq_take, List.dropLast_eq_take, x.length]
  exact x.take _
theorem RVs.rep {ds : List D} {vs : List V} (x : RVs J t L H ds vs) : ∀ k : Nat, RVs J t L H (List.replicate k ds).flatten (List.replicate k vs).flatten
  | 0 => by simpa using RVs.nil
  | k + 1 => by
    rw [List.replicate_succ, List.replicate_succ, List.flatten_cons, List.flatten_cons]
    exact x.append (x.rep k)
theorem RVs.ints : ∀ {is : List Int} {vs : List V}, RVs J t L H (is.map D.int) vs → vs = is.map V.int
  | [], _, x => by simpa only [List.map_nil, RVs] using x
  | i :: is, _, x => by
    simp only [List.map_cons, RVs, RV] at x
    obtain ⟨v, r, rfl, rfl, q⟩ := x
    rw [q.ints]
    rfl
theorem RVs.bools : ∀ {is : List Bool} {vs : List V}, RVs J t L H (is.map D.bl) vs → vs = is.map V.bl
  | [], _, x => by simpa only [List.map_nil, RVs] using x
  | i :: is, _, x => by
    simp only [List.map_cons, RVs, RV] at x
    obtain ⟨v, r, rfl, rfl, q⟩ := x
    rw [q.bools]
    rfl
theorem RVs.of_ints : ∀ (is : List Int), RVs J t L H (is.map D.int) (is.map V.int)
  | [] => RVs.nil
  | i :: is => .cons (by simp only [RV]) (RVs.of_ints is)
theorem RVs.of_bools : ∀ (is : List Bool), RVs J t L H (is.map D.bl) (is.map V.bl)
  | [] => RVs.nil
  | i :: is => .cons (by simp only [RV]) (RVs.of_bools is)
end
theorem ints_some : ∀ {ds : List D} {is : List Int}, M.intsOf ds = some is → ds = is.map D.int
  | [], _, e => by simp only [M.intsOf] at e; cases e; rfl
  | d :: ds, is, e => by
    cases d with
    | int i =>
      simp only [M.intsOf] at e
      cases q : M.intsOf ds with
      | none => rw [q] at e; simp at e
      | some js =>
        rw [q] at e
        simp at e
        subst e
        rw [ints_some q]
        rfl
    | _ => simp [M.intsOf] at e
theorem bools_some : ∀ {ds : List D} {is : List Bool}, M.boolsOf ds = some is → ds = is.map D.bl
  | [], _, e => by simp only [M.boolsOf] at e; cases e; rfl
  | d :: ds, is, e => by
    cases d with
    | bl i =>
      simp only [M.boolsOf] at e
      cases q : M.boolsOf ds with
      | none => rw [q] at e; simp at e
      | some js =>
        rw [q] at e
        simp at e
        subst e
        rw [bools_some q]
        rfl
    | _ => simp [M.boolsOf] at e

/-! ### new things -/
section
variable {J : Inf} {t : Tr} {h : Hh} {H : Hp} {p : Addr} {o : HO}
theorem RepH.nt (R : RepH J t h H) {c : Nat} {a : Addr} (q : t.l[c]? = some a) : Nt (H a) := by
  have hc : c < h.length := by rw [← R.len]; exact (List.getElem?_eq_some_iff.mp q).1
  have z := R.cells c h[c] a (by simp) q
  cases e : h[c] with
  | lst xs => rw [e] at z; obtain ⟨vs, z, _⟩ := z; rw [z]; exact trivial
  | dct ks ws => rw [e] at z; obtain ⟨vs, ⟨o, xs, z, _⟩, _⟩ := z; rw [z]; exact trivial
  | ins C fs => rw [e] at z; obtain ⟨dx, gs, z, _⟩ := z; rw [z]; exact trivial
  | dead => rw [e] at z; exact z
theorem RepH.ne_none (R : RepH J t h H) {c : Nat} {a : Addr} (q : t.l[c]? = some a) : H a ≠ none := (R.nt q).ne
theorem RepH.live_ne (R : RepH J t h H) {a : Addr} (z : live t h a) : H a ≠ none := by
  rcases z with ⟨c, x, q, _⟩ | z
  · exact R.ne_none q
  · obtain ⟨vs, e⟩ := R.there a z
    rw [e]
    exact nofun
theorem RepH.fresh (R : RepH J t h H) (n : H p = none) : ¬ live t h p := fun z => R.live_ne z n
/-- a thing that stands still is laid -/
theorem Ext.laid (R : RepH J t h H) (n : H p = none) : Ext t h H t h (upd H p o) where
  pre := ⟨[], by simp⟩
  lv := fun _ z => .inl z
  keep := fun a o' _ e _ => by rw [upd_ne (ne_of_none e n)]; exact e
  dict := fun a kvs _ e => by
    have ne : a ≠ p := fun z => Rd.ne_none e (by rw [z]; exact n)
    unfold Rd
    rw [upd_ne ne]
    exact e
  av := rfl
  stays := fun a z => by
    have ha : a ≠ p := fun w => z.ne (by rw [w]; exact n)
    rw [upd_ne ha]
    exact z
  same := fun a z => by
    obtain ⟨vs, e⟩ := R.there a z
    exact upd_ne (ne_of_none e n)
theorem CellOk.mono0 {J : Inf} {t t1 : Tr} {h h1 : Hh} {H H1 : Hp} {a : Addr} {x : Cell} (e : Ext0 t h H t1 h1 H1) (q : H1 a = H a) (z : CellOk J t (live t h) H a x) : CellOk J t1 (live t1 h1) H1 a x := by
  cases x with
  | lst xs =>
    obtain ⟨vs, z, r⟩ := z
    exact ⟨vs, q.trans z, r.mono0 e⟩
  | dct ks ws =>
    obtain ⟨vs, z, r⟩ := z
    exact ⟨vs, z.mono0 e q, r.mono0 e⟩
  | ins C fs =>
    obtain ⟨dx, gs, z, k, r⟩ := z
    exact ⟨dx, gs, q.trans z, k, r.mono0 e⟩
  | dead =>
    show Nt (H1 a)
    rw [q]
    exact z
theorem CellOk.mono {J : Inf} {t t1 : Tr} {h h1 : Hh} {H H1 : Hp} {a : Addr} {x : Cell} (e : Ext t h H t1 h1 H1) (q : H1 a = H a) (z : CellOk J t (live t h) H a x) : CellOk J t1 (live t1 h1) H1 a x := z.mono0 e.toExt0 q
theorem RepH.laid (R : RepH J t h H) (n : H p = none) : RepH J t h (upd H p o) :=
  ⟨R.len, R.nd, fun c x a e1 e2 => (R.cells c x a e1 e2).mono (Ext.laid R n) (upd_ne fun z => R.ne_none e2 (by rw [z]; exact n)), R.apart, fun a z => by
    obtain ⟨vs, e⟩ := R.there a z
    exact ⟨vs, by rw [upd_ne (ne_of_none e n)]; exact e⟩, tabs_upd R.tabs (.inl n), J.imono (Ext.laid R n).toExt0 R.inv⟩

/-- one cell more -/
def Tr.push (t : Tr) (p : Addr) : Tr := ⟨t.l ++ [p], t.av⟩
theorem live_push {a : Addr} (hl : t.l.length = h.length) {x : Cell} (z : live (t.push p) (h ++ [x]) a) : live t h a ∨ a = p := by
  rcases z with ⟨c, y, e1, e2, e3⟩ | z
  · have e1 : (t.l ++ [p])[c]? = some a := e1
    by_cases hc : c < t.l.length
    · rw [List.getElem?_append_left hc] at e1
      rw [List.getElem?_append_left (by omega)] at e2
      exact .inl (.inl ⟨c, y, e1, e2, e3⟩)
    · rw [List.getElem?_append_right (by omega)] at e1
      cases q : c - t.l.length with
      | zero => rw [q] at e1; simp at e1; exact .inr e1.symm
      | succ m => rw [q] at e1; simp at e1
  · exact .inl (.inr z)
/-- a cell is laid -/
theorem Ext.cell (R : RepH J t h H) (n : H p = none) (x : Cell) : Ext t h H (t.push p) (h ++ [x]) (upd H p o) where
  pre := ⟨[p], rfl⟩
  lv := fun a z => by
    rcases live_push R.len z with z | z
    · exact .inl z
    · rw [z]; exact .inr (Nt.not n)
  keep := (Ext.laid (o := o) R n).keep
  dict := (Ext.laid (o := o) R n).dict
  av := rfl
  stays := (Ext.laid (o := o) R n).stays
  same := (Ext.laid (o := o) R n).same
theorem RepH.cell (R : RepH J t h H) (n : H p = none) (x : Cell) (hx : CellOk J (t.push p) (live (t.push p) (h ++ [x])) (upd H p o) p x) : RepH J (t.push p) (h ++ [x]) (upd H p o) where
  len := by simp [Tr.push, R.len]
  nd := by
    show (t.l ++ [p]).Nodup
    rw [List.nodup_append]
    refine ⟨R.nd, by simp, fun a ha b hb => ?_⟩
    have e : b = p := by simpa using hb
    obtain ⟨c, q⟩ := List.mem_iff_getElem?.mp ha
    intro z
    exact R.ne_none q (by rw [z, e]; exact n)
  cells := fun c y a e1 e2 => by
    have e2 : (t.l ++ [p])[c]? = some a := e2
    by_cases hc : c < t.l.length
    · rw [List.getElem?_append_left hc] at e2
      rw [List.getElem?_append_left (by have := R.len; omega)] at e1
      exact (R.cells c y a e1 e2).mono (Ext.cell R n x) (upd_ne fun z => R.ne_none e2 (by rw [z]; exact n))
    · have hl := R.len
      rw [List.getElem?_append_right (by omega)] at e2
      rw [List.getElem?_append_right (by omega)] at e1
      cases q : c - t.l.length with
      | zero =>
        rw [q] at e2
        rw [← hl, q] at e1
        simp at e1 e2
        subst e1
        subst e2
        exact hx
      | succ m => rw [q] at e2; simp at e2
  apart := fun a ha z => by
    rcases List.mem_append.mp (show a ∈ t.l ++ [p] from ha) with ha | ha
    · exact R.apart a ha z
    · have e : a = p := by simpa using ha
      obtain ⟨vs, q⟩ := R.there a z
      rw [e, n] at q
      cases q
  there := fun a z => by
    obtain ⟨vs, e⟩ := R.there a z
    exact ⟨vs, by rw [upd_ne (ne_of_none e n)]; exact e⟩
  tabs := tabs_upd R.tabs (.inl n)
  inv := J.imono (Ext.cell R n x).toExt0 R.inv
theorem push_at (R : RepH J t h H) : (t.push p).l[h.length]? = some p := by
  show (t.l ++ [p])[h.length]? = some p
  rw [List.getElem?_append_right (by rw [R.len]; exact Nat.le_refl _)]
  simp [R.len]

/-! ### a cell is changed -/
theorem live_set {c : Nat} {x y : Cell} {a : Addr} (e : h[c]? = some x) (hx : x ≠ .dead) (z : live t (h.set c y) a) : live t h a := by
  rcases z with ⟨k, w, e1, e2, e3⟩ | z
  · by_cases hk : k = c
    · subst hk
      exact .inl ⟨k, x, e1, e, hx⟩
    · rw [List.getElem?_set_ne (Ne.symm hk)] at e2
      exact .inl ⟨k, w, e1, e2, e3⟩
  · exact .inr z
theorem Ext.write (R : RepH J t h H) {c : Nat} {x y : Cell} {a : Addr} (e1 : h[c]? = some x) (hx : x ≠ .dead) (e2 : t.l[c]? = some a) (ho : Nt (some o) := by exact trivial) : Ext t h H t (h.set c y) (upd H a o) where
  pre := ⟨[], by simp⟩
  lv := fun _ z => .inl (live_set e1 hx z)
  keep := fun b u n e _ => by
    rw [upd_ne fun z => n ?_]
    · exact e
    · rw [z]; exact .inl ⟨c, x, e2, e1, hx⟩
  dict := fun b kvs n e => by
    have ne : b ≠ a := fun z => n (by rw [z]; exact .inl ⟨c, x, e2, e1, hx⟩)
    unfold Rd
    rw [upd_ne ne]
    exact e
  av := rfl
  stays := fun b z => by
    by_cases hb : b = a
    · subst hb; rw [upd_same]; exact ho
    · rw [upd_ne hb]; exact z
  same := fun b z => upd_ne fun w => R.apart a (List.mem_of_getElem? e2) (by rw [← w]; exact z)
theorem RepH.ix (R : RepH J t h H) {c k : Nat} {a : Addr} (e1 : t.l[c]? = some a) (e2 : t.l[k]? = some a) : c = k := by
  obtain ⟨g1, g2⟩ := List.getElem?_eq_some_iff.mp e1
  obtain ⟨g3, g4⟩ := List.getElem?_eq_some_iff.mp e2
  exact (List.getElem_inj R.nd).mp (g2.trans g4.symm)
theorem RepH.write (R : RepH J t h H) {c : Nat} {x y : Cell} {a : Addr} (e1 : h[c]? = some x) (hx : x ≠ .dead) (e2 : t.l[c]? = some a)
    (hy : CellOk J t (live t (h.set c y)) (upd H a o) a y) (ho : Nt (some o) := by exact trivial) : RepH J t (h.set c y) (upd H a o) where
  len := by simp [R.len]
  nd := R.nd
  cells := fun k z b q1 q2 => by
    by_cases hk : k = c
    · subst hk
      rw [List.getElem?_set_self (List.getElem?_eq_some_iff.mp e1).1] at q1
      cases q1
      rw [e2] at q2
      cases q2
      exact hy
    · rw [List.getElem?_set_ne (Ne.symm hk)] at q1
      exact (R.cells k z b q1 q2).mono (Ext.write R e1 hx e2 ho) (upd_ne fun w => hk (R.ix q2 (by rw [w]; exact e2)))
  apart := R.apart
  there := fun b z => by
    obtain ⟨vs, e⟩ := R.there b z
    exact ⟨vs, by rw [upd_ne fun w => R.apart a (List.mem_of_getElem? e2) (by rw [← w]; exact z)]; exact e⟩
  tabs := by
    refine tabs_updC R.tabs (.inr ?_)
    have z := R.cells c x a e1 e2
    cases x with
    | lst xs => obtain ⟨vs, z, _⟩ := z; exact ⟨_, z, trivial, fun _ _ => nofun⟩
    | dct ks ws => obtain ⟨vs, ⟨o, xs, z, d, _⟩, _⟩ := z; obtain ⟨_, _, ⟨es, ep, d, _⟩, _⟩ := d; exact ⟨_, z, trivial, fun _ _ => exO_ne d⟩
    | ins C fs => obtain ⟨dx, gs, z, _⟩ := z; exact ⟨_, z, trivial, fun _ _ => nofun⟩
    | dead => exact absurd rfl hx
  inv := J.imono (Ext.write R e1 hx e2 ho).toExt0 R.inv
/-- a cell changes no more -/
theorem Ext.froze (R : RepH J t h H) {c : Nat} {x : Cell} (e1 : h[c]? = some x) (hx : x ≠ .dead) : Ext t h H t (h.set c .dead) H where
  pre := ⟨[], by simp⟩
  lv := fun _ z => .inl (live_set e1 hx z)
  keep := fun _ _ _ e _ => e
  dict := fun _ _ _ e => e
  av := rfl
  stays := fun _ z => z
  same := fun _ _ => rfl
theorem RepH.froze (R : RepH J t h H) {c : Nat} {x : Cell} (e1 : h[c]? = some x) (hx : x ≠ .dead) : RepH J t (h.set c .dead) H where
  len := by simp [R.len]
  nd := R.nd
  cells := fun k z b q1 q2 => by
    by_cases hk : k = c
    · subst hk
      rw [List.getElem?_set_self (List.getElem?_eq_some_iff.mp e1).1] at q1
      cases q1
      exact R.nt q2
    · rw [List.getElem?_set_ne (Ne.symm hk)] at q1
      exact (R.cells k z b q1 q2).mono (Ext.froze R e1 hx) rfl
  apart := R.apart
  there := R.there
  tabs := R.tabs
  inv := J.imono (Ext.froze R e1 hx).toExt0 R.inv
theorem notlive_dead (R : RepH J t h H) {c : Nat} {x : Cell} {a : Addr} (e1 : h[c]? = some x) (e2 : t.l[c]? = some a) : ¬ live t (h.set c .dead) a := by
  rintro (⟨k, w, q1, q2, q3⟩ | z)
  · have hk : k = c := R.ix q1 e2
    subst hk
    rw [List.getElem?_set_self (List.getElem?_eq_some_iff.mp e1).1] at q2
    cases q2
    exact q3 rfl
  · exact R.apart a (List.mem_of_getElem? e2) z
end
end M

set_option Elab.async false
set_option linter.all false
set_option maxRecDepth 100000
set_option maxHeartbeats 4000000
/-! Readings by the machine: expressions. -/
namespace M
open PySem L2

theorem PE.weak {X : Cx} {e : Expr} {t t' : TE} (p : PE X e t) (w : ∀ s H Q, t' s H Q → t s H Q) : PE X e t' := ⟨fun pins s σ H Q I h => p.run pins s σ H Q I (w _ _ _ h)⟩
theorem PT.weak {X : Cx} {e : Expr} {t t' : TT} (p : PT X e t) (w : ∀ s H Q, t' s H Q → t s H Q) : PT X e t' := ⟨fun pins s σ H Q I h => p.run pins s σ H Q I (w _ _ _ h)⟩
theorem PW.weak {X : Cx} {e : Expr} {t t' : TT} (p : PW X e t) (w : ∀ s H Q, t' s H Q → t s H Q) : PW X e t' := ⟨fun wh pins s σ H Q I h => p.run wh pins s σ H Q I (w _ _ _ h)⟩
theorem PA.weak {X : Cx} {e : List Expr} {t t' : TA} (p : PA X e t) (w : ∀ s H Q, t' s H Q → t s H Q) : PA X e t' := ⟨fun pos pins s σ H Q I h => p.run pos pins s σ H Q I (w _ _ _ h)⟩
theorem PS.weak {X : Cx} {e : Stmt} {t t' : TS} (p : PS X e t) (w : ∀ D s H, t' D s H → t D s H) : PS X e t' := ⟨fun pins s σ H Q I h => p.run pins s σ H Q I (w _ _ _ h)⟩
theorem PSs.weak {X : Cx} {e : List Stmt} {t t' : TS} (p : PSs X e t) (w : ∀ D s H, t' D s H → t D s H) : PSs X e t' := ⟨fun pins s σ H Q I h => p.run pins s σ H Q I (w _ _ _ h)⟩
theorem PE.or {X : Cx} {e : Expr} {t u : TE} (p : PE X e t) (q : PE X e u) : PE X e (fun s H Q => t s H Q ∨ u s H Q) := ⟨fun pins s σ H Q I h => h.elim (p.run pins s σ H Q I) (q.run pins s σ H Q I)⟩

/-- behind an outcome: what is wanted of a value, of a refusal -/
def Post {A B : Type} (J : Inf) (E : XK) (rel : Tr → (Addr → Prop) → Hp → A → B → Prop) (t : Tr) (h : Hh) (H : Hp) (m : R A) (Q : B → Hp → Prop) : Prop :=
  match m with
  | .ok d h' => ∀ t' H' v, Ext t h H t' h' H' → RepH J t' h' H' → rel t' (live t' h') H' d v → Q v H'
  | .exc c h' => ∀ t' H', Ext t h H t' h' H' → RepH J t' h' H' → E (.ref (J.exc c)) none H'
  | .bad => False
abbrev PostE (J : Inf) (E : XK) := Post (A := D) (B := V) J E (RV J)
abbrev PostA (J : Inf) (E : XK) := Post (A := List D) (B := List V) J E (RVs J)

section
variable {A B : Type} {J : Inf} {E : XK} {rel : Tr → (Addr → Prop) → Hp → A → B → Prop} {t t1 : Tr} {h h1 : Hh} {H H1 : Hp} {m : R A} {Q : B → Hp → Prop}
theorem Post.ext (p : Post J E rel t h H m Q) (e : Ext t h H t1 h1 H1) : Post J E rel t1 h1 H1 m Q := by
  cases m with
  | ok d h' => exact fun t' H' v e' R r => p t' H' v (e.trans e') R r
  | exc c h' => exact fun t' H' e' R => p t' H' (e.trans e') R
  | bad => exact p
theorem Post.imp {Q' : B → Hp → Prop} (p : Post J E rel t h H m Q) (w : ∀ v H', Q v H' → Q' v H') : Post J E rel t h H m Q' := by
  cases m with
  | ok d h' => exact fun t' H' v e' R r => w _ _ (p t' H' v e' R r)
  | exc c h' => exact p
  | bad => exact p
/-- the middle of two steps -/
def Mid {A' B' : Type} (J : Inf) (E : XK) (rel : Tr → (Addr → Prop) → Hp → A → B → Prop) (rel' : Tr → (Addr → Prop) → Hp → A' → B' → Prop) (t : Tr) (h : Hh) (H : Hp) (k : A → Hh → R A') (Q : B' → Hp → Prop) (x : B) (H1 : Hp) : Prop :=
  ∃ t1 h1 d, Ext t h H t1 h1 H1 ∧ RepH J t1 h1 H1 ∧ rel t1 (live t1 h1) H1 d x ∧ Post J E rel' t1 h1 H1 (k d h1) Q
theorem Post.bind {A' B' : Type} {rel' : Tr → (Addr → Prop) → Hp → A' → B' → Prop} {k : A → Hh → R A'} {Q : B' → Hp → Prop} (p : Post J E rel' t h H (m.bind k) Q) :
    Post J E rel t h H m (Mid J E rel rel' t h H k Q) := by
  cases m with
  | ok d h' => exact fun t' H' v e R r => ⟨t', h', d, e, R, r, Post.ext (m := k d h') p e⟩
  | exc c h' => exact p
  | bad => exact p
end

/-- the reading of an expression by the machine -/
def tE (J : Inf) (E : XK) (cx : Ctx) (f : FE) : TE := fun s H Q => ∃ t r h, RepH J t h H ∧ Slots J t (live t h) H r s ∧ PostE J E t h H (f cx r h) Q
def tAs (J : Inf) (E : XK) (cx : Ctx) (f : FA) : TA := fun s H Q => ∃ t r h, RepH J t h H ∧ Slots J t (live t h) H r s ∧ PostA J E t h H (f cx r h) Q
/-- a test by the machine -/
def tT (J : Inf) (E : XK) (cx : Ctx) (f : FE) : TT := fun s H Q => ∃ t r h, RepH J t h H ∧ Slots J t (live t h) H r s ∧ PostE J E t h H (f cx r h) (fun v H' => ∃ b, v = .bl b ∧ Q b H')

/-- the code is under a def whose calls are at most so deep, no except suite around; E: what is wanted of a refusal that leaves it -/
structure Good (X : Cx) (J : Inf) (E : XK) (n : Nat) : Prop where
  room : Room n X.A
  calm : X.calm = true
  nd : X.N.Nodup
  tk : Takes X (fun c d _ H => E c d H)
  own : PassesOwn (model X.prog X.w) X.A X.env X.xe

abbrev SE (X : Cx) (J : Inf) (E : XK) (cx : Ctx) (e : Expr) (f : FE) : Prop := PE X e (tE J E cx f)
abbrev ST (X : Cx) (J : Inf) (E : XK) (cx : Ctx) (e : Expr) (f : FE) : Prop := PT X e (tT J E cx f)
abbrev SW (X : Cx) (J : Inf) (E : XK) (cx : Ctx) (e : Expr) (f : FE) : Prop := PW X e (tT J E cx f)
abbrev SA (X : Cx) (J : Inf) (E : XK) (cx : Ctx) (es : List Expr) (fs : List FE) : Prop := PA X es (tAs J E cx (evs fs))

section
variable {X : Cx} {J : Inf} {E : XK} {cx : Ctx} {n : Nat} {pos : Pos} {a b c : Expr} {fa fb fc : FE} {es : List Expr} {fs : List FE}

theorem Slots.len {J : Inf} {t : Tr} {L : Addr → Prop} {H : Hp} {r : Env} {s : St} (x : Slots J t L H r s) : s.length = r.length := x.1

/-! ### names, constants -/
theorem se_var (i : Nat) {x : Str} (hN : X.N[i]? = some x := by rfl) (hv : Vis X.env.scope x := by first | exact Or.inl rfl | exact Or.inr (Or.inl rfl) | exact Or.inr (Or.inr rfl)) (hd : (x == ("__debug__" : Str)) = false := by decide)
    (hcd : (x == ("__classdict__" : Str)) = false := by decide) : SE X J E cx (.Name x pos) (eVar i) := by
  refine PE.weak (pe_var hN hv hd hcd) fun s H Q ⟨t, r, h, R, S, p⟩ => ?_
  unfold eVar at p
  split at p
  · rename_i d e
    obtain ⟨v, q1, q2⟩ := S.2 i d e
    exact ⟨v, q1, p t H v Ext.refl R q2⟩
  · exact p.elim
theorem se_K {d : D} {v : V} {e : Expr} (he : PE X e (tC v)) (hv : ∀ t L H w, RV J t L H d w ↔ w = v) : SE X J E cx e (eK d) := by
  refine PE.weak he fun s H Q ⟨t, r, h, R, S, p⟩ => ?_
  exact p t H v Ext.refl R ((hv _ _ _ _).mpr rfl)
theorem se_int {i : Int} {j : Nat} : SE X J E cx (.Constant (.int i) j pos) (eK (.int i)) := se_K pe_int fun _ _ _ _ => by simp only [RV]
theorem se_bl {i : Bool} {j : Nat} : SE X J E cx (.Constant (.bool i) j pos) (eK (.bl i)) := se_K pe_bl fun _ _ _ _ => by simp only [RV]
theorem se_non {j : Nat} : SE X J E cx (.Constant .none j pos) (eK .non) := se_K pe_non fun _ _ _ _ => by simp only [RV]
theorem se_str {x : Str} {j : Nat} : SE X J E cx (.Constant (.str x) j pos) (eK (.str x.cps.toList)) := se_K pe_str fun _ _ _ _ => by simp only [RV, Array.toArray_toList]
theorem se_glob {x : Str} {i : Int} {u : Tok} (hm : X.mg x = some (.int i u)) (hg : Gl X x := by rfl) (hd : (x == ("__debug__" : Str)) = false := by decide) : SE X J E cx (.Name x pos) (eK (.int i)) :=
  se_K (v := .int i) (pe_glob hg hm ⟨_, rfl⟩ hd) fun _ _ _ _ => by simp only [RV]

/-! ### arguments, displays -/
theorem sa_nil : SA X J E cx [] [] := by
  refine PA.weak pa_nil fun s H Q ⟨t, r, h, R, S, p⟩ => ?_
  exact p t H [] Ext.refl R RVs.nil
theorem sa_cons (ha : SE X J E cx a fa) (hr : SA X J E cx es fs) (hs : starEach (a :: es) X.env = (false, eval a X.env) :: starEach es X.env := by rfl) : SA X J E cx (a :: es) (fa :: fs) := by
  refine PA.weak (pa_cons ha hr hs) fun s H Q ⟨t, r, h, R, S, p⟩ => ?_
  refine ⟨t, r, h, R, S, Post.imp (Post.bind (rel := RV J) p) fun x H1 ⟨t1, h1, d, e1, R1, v1, p1⟩ => ?_⟩
  refine ⟨t1, r, h1, R1, S.mono e1, Post.imp (Post.bind (rel := RVs J) p1) fun xs H2 ⟨t2, h2, ds, e2, R2, v2, p2⟩ => ?_⟩
  exact p2 t2 H2 (x :: xs) Ext.refl R2 (.cons (v1.mono e2) v2)
theorem small_size {n : Nat} (h : n ≤ 1000) : n ≤ sizeLine := Nat.le_trans h (by decide)
theorem lim_size {n : Nat} (h : n ≤ LIM) : n ≤ sizeLine := Nat.le_trans h (by decide)
theorem lim_lt {n : Nat} (h : n < LIM) : n < sizeLine := Nat.lt_of_lt_of_le h (by decide)
theorem evs_length : ∀ {fs : List FE} {cx : Ctx} {r : Env} {h h' : Hh} {ds : List D}, evs fs cx r h = .ok ds h' → ds.length = fs.length
  | [], _, _, _, _, _, e => by simp only [evs] at e; cases e; rfl
  | f :: fs, cx, r, h, h', ds, e => by
    simp only [evs] at e
    cases q : f cx r h with
    | ok d h1 =>
      rw [q] at e
      simp only [R.bind_ok] at e
      cases q2 : evs fs cx r h1 with
      | ok ds2 h2 =>
        rw [q2] at e
        simp only [R.bind_ok] at e
        cases e
        simp [evs_length q2]
      | exc _ _ => rw [q2] at e; cases e
      | bad => rw [q2] at e; cases e
    | exc _ _ => rw [q] at e; cases e
    | bad => rw [q] at e; cases e
/-- a bind at a list of arguments, its length told -/
theorem PostA.bindL {k : List D → Hh → R D} {t : Tr} {h : Hh} {H : Hp} {r : Env} {Q : VK} (p : PostE J E t h H ((evs fs cx r h).bind k) Q) :
    PostA J E t h H (evs fs cx r h) (fun xs H1 => xs.length = fs.length ∧ Mid J E (RVs J) (RV J) t h H k Q xs H1) := by
  have p1 := Post.bind (rel := RVs J) p
  cases q : evs fs cx r h with
  | ok ds h' =>
    rw [q] at p1
    exact fun t' H' v e R w => ⟨by rw [w.length, evs_length q], p1 t' H' v e R w⟩
  | exc c h' => rw [q] at p1; exact p1
  | bad => rw [q] at p1; exact p1
theorem se_tup {x1} (ha : SA X J E cx es fs) (hl : fs.length ≤ 1000 := by decide) : SE X J E cx (.Tuple es x1 pos) (eTup fs) := by
  refine PE.weak (pe_tup ha) fun s H Q ⟨t, r, h, R, S, p⟩ => ?_
  refine ⟨t, r, h, R, S, Post.imp (PostA.bindL p) fun xs H1 ⟨ln, t1, h1, d, e1, R1, v1, p1⟩ => ⟨small_size (by omega), fun q hq => ?_⟩⟩
  refine p1 t1 _ _ (Ext.laid R1 hq) (R1.laid hq) ?_
  simp only [RV]
  exact ⟨q, xs, rfl, upd_same, R1.fresh hq, v1.mono (Ext.laid R1 hq)⟩
/-- a new list, of either kind -/
theorem new_list {m : Bool} {xs : List D} {vs : List V} {t : Tr} {h : Hh} {H : Hp} {Q : VK} (R : RepH J t h H) (v : RVs J t (live t h) H xs vs) (p : PostE J E t h H (up (mkL m xs h)) Q) (q : Addr) (hq : H q = none) : Q (.ref q) (upd H q (.lst vs)) := by
  cases m with
  | false =>
    refine p t _ _ (Ext.laid R hq) (R.laid hq) ?_
    simp only [RV]
    exact ⟨q, vs, rfl, upd_same, R.fresh hq, v.mono (Ext.laid R hq)⟩
  | true =>
    refine p (t.push q) _ _ (Ext.cell R hq _) (R.cell hq _ ⟨vs, upd_same, v.mono (Ext.cell R hq _)⟩) ?_
    simp only [RV]
    exact ⟨q, rfl, push_at R⟩
theorem se_lst (m : Bool) (ha : SA X J E cx es fs) (hl : fs.length ≤ 1000 := by decide) : SE X J E cx (.List es pos) (eLst m fs) := by
  refine PE.weak (pe_lst ha) fun s H Q ⟨t, r, h, R, S, p⟩ => ?_
  refine ⟨t, r, h, R, S, Post.imp (PostA.bindL p) fun xs H1 ⟨ln, t1, h1, d, e1, R1, v1, p1⟩ => ⟨small_size (by omega), fun q hq => ?_⟩⟩
  exact new_list R1 v1 p1 q hq
/-- an empty dict's object -/
abbrev dict0 : Obj := { cls := .type "dict", data := .dict #[] }
theorem dict0_is {a : Addr} (h : (a == sysModules) = false) : DictIs a dict0 [] := ⟨h, ⟨rfl, rfl, rfl⟩, ⟨#[], 0, rfl, rfl⟩, List.nodup_nil, Nat.zero_le _⟩
theorem exO_new {P : Program} {w : World} {H : Hp} {h : Heap} {a : Addr} {o : Obj} (e : h.get? a = some o) : ObjOk P w H h a (ExO a o) := ⟨e, ⟨o, e⟩, fun _ _ x k => k o x⟩
theorem pe_dnewX : PE X (.Dict [] [] pos) (fun _ H Q => ∀ p, H p = none → (p == sysModules) = false → Q (.ref p) (upd H p (ExO p dict0))) := ⟨fun pins s σ H Q I h =>
  wpAny_Dict_empty ⟨.ref s.heap.objs.size, _, I.laid (a := s.heap.objs.size) (o := ExO s.heap.objs.size dict0) (t' := s.toks) (fun _ _ q => Heap.get?_push_of_some _ q) (Nat.le_refl _) (exO_new (Heap.get?_push_size _ rfl)), rfl,
    h _ (I.hok.fresh (Nat.le_refl _)) (beq_eq_false_iff_ne.mpr (Ne.symm (Nat.ne_of_lt I.big)))⟩⟩
theorem dct_nil {L : Addr → Prop} {H : Hp} {p : Addr} (np : (p == sysModules) = false) (e : H p = some (ExO p dict0)) : DctAt L H p [] [] := ⟨dict0, [], e, dict0_is np, rfl, nofun, .nil⟩
theorem se_dict : SE X J E cx (.Dict [] [] pos) eDict := by
  refine PE.weak pe_dnewX fun s H Q ⟨t, r, h, R, S, p⟩ q hq np => ?_
  refine p (t.push q) _ _ (Ext.cell R hq _) (R.cell hq _ ⟨[], dct_nil np upd_same, RVs.nil⟩) ?_
  simp only [RV]
  exact ⟨q, rfl, push_at R⟩
/-- {} as a thing -/
theorem se_edict : SE X J E cx (.Dict [] [] pos) (eK .edict) := by
  refine PE.weak pe_dnewK fun s H Q ⟨t, r, h, R, S, p⟩ q hq => ?_
  refine p t _ _ (Ext.laid R hq) (R.laid hq) ?_
  simp only [RV]
  exact ⟨q, rfl, upd_same, R.fresh hq⟩

/-! ### operations on values -/
def Ok1 (J : Inf) (f : D → Hh → Option (D × Hh)) (r : V → Hp → VK → Prop) : Prop :=
  ∀ t h H d x Q, RepH J t h H → RV J t (live t h) H d x → PostE J E0 t h H (up (f d h)) Q → r x H Q
def Ok2 (J : Inf) (f : D → D → Hh → Option (D × Hh)) (r : R2) : Prop :=
  ∀ t h H d e x y Q, RepH J t h H → RV J t (live t h) H d x → RV J t (live t h) H e y → PostE J E0 t h H (up (f d e h)) Q → r x y H Q
theorem Post.noexc {o : Option (D × Hh)} {E' : XK} {t : Tr} {h : Hh} {H : Hp} {Q : VK} (p : PostE J E t h H (up o) Q) : PostE J E' t h H (up o) Q := by
  cases o with
  | none => exact p
  | some d => exact p
theorem se_bin {op : Operator} {r : R2} {f : D → D → Hh → Option (D × Hh)} (ho : OpR X (binaryOp op) r) (hf : Ok2 J f r) (ha : SE X J E cx a fa) (hb : SE X J E cx b fb) : SE X J E cx (.BinOp a op b pos) (e2 f fa fb) := by
  refine PE.weak (pe_op ho ha hb) fun s H Q ⟨t, r, h, R, S, p⟩ => ?_
  refine ⟨t, r, h, R, S, Post.imp (Post.bind (rel := RV J) p) fun x H1 ⟨t1, h1, d, e1, R1, v1, p1⟩ => ?_⟩
  refine ⟨t1, r, h1, R1, S.mono e1, Post.imp (Post.bind (rel := RV J) p1) fun y H2 ⟨t2, h2, e, x2, R2, v2, p2⟩ => ?_⟩
  exact hf t2 h2 H2 d e x y Q R2 (v1.mono x2) v2 p2.noexc
theorem se_un {op : UnaryOp} {r : V → Hp → VK → Prop} {f : D → Hh → Option (D × Hh)} (ho : UnR X (unaryOp op) r) (hf : Ok1 J f r) (ha : SE X J E cx a fa) : SE X J E cx (.UnaryOp op a pos) (e1 f fa) := by
  refine PE.weak (pe_un ho ha) fun s H Q ⟨t, r, h, R, S, p⟩ => ?_
  refine ⟨t, r, h, R, S, Post.imp (Post.bind (rel := RV J) p) fun x H1 ⟨t1, h1, d, e1, R1, v1, p1⟩ => ?_⟩
  exact hf t1 h1 H1 d x Q R1 v1 p1.noexc
theorem se_cmp {op : CmpOp} {r : R2} {f : D → D → Hh → Option (D × Hh)} (ho : OpR X (compareOp op) r) (hf : Ok2 J f r) (ha : SE X J E cx a fa) (hb : SE X J E cx b fb) (hm : behindInMarks op b = false) : SE X J E cx (.Compare a [op] [b] pos) (e2 f fa fb) := by
  refine PE.weak (pe_cmpR ho ha hb hm) fun s H Q ⟨t, r, h, R, S, p⟩ => ?_
  refine ⟨t, r, h, R, S, Post.imp (Post.bind (rel := RV J) p) fun x H1 ⟨t1, h1, d, e1, R1, v1, p1⟩ => ?_⟩
  refine ⟨t1, r, h1, R1, S.mono e1, Post.imp (Post.bind (rel := RV J) p1) fun y H2 ⟨t2, h2, e, x2, R2, v2, p2⟩ => ?_⟩
  exact hf t2 h2 H2 d e x y Q R2 (v1.mono x2) v2 p2.noexc
theorem st_cmp {op : CmpOp} {r : R2} {f : D → D → Hh → Option (D × Hh)} (ho : OpR X (compareOp op) r) (hf : Ok2 J f r) (ha : SE X J E cx a fa) (hb : SE X J E cx b fb) (hm : behindInMarks op b = false) : ST X J E cx (.Compare a [op] [b] pos) (e2 f fa fb) := by
  refine PT.weak (pt_cmpR ho ha hb hm) fun s H Q ⟨t, r, h, R, S, p⟩ => ?_
  refine ⟨t, r, h, R, S, Post.imp (Post.bind (rel := RV J) p) fun x H1 ⟨t1, h1, d, e1, R1, v1, p1⟩ => ?_⟩
  refine ⟨t1, r, h1, R1, S.mono e1, Post.imp (Post.bind (rel := RV J) p1) fun y H2 ⟨t2, h2, e, x2, R2, v2, p2⟩ => ?_⟩
  exact hf t2 h2 H2 d e x y _ R2 (v1.mono x2) v2 p2.noexc
/-- an expression as a test -/
theorem st_val (ha : SE X J E cx a fa) (he : ∀ whole, isTrue a X.env whole = (do let v ← whole; standAt a.pos; holding [v] (truthy v)) := by intro _; rfl) : ST X J E cx a fa :=
  PT.weak (pt_val ha he) fun s H Q ⟨t, r, h, R, S, p⟩ => ⟨t, r, h, R, S, p⟩

/-! ### not, and, or, if else -/
theorem se_not (ha : SE X J E cx a fa) : SE X J E cx (.UnaryOp .Not a pos) (eNot fa) := by
  refine PE.weak (pe_not ha) fun s H Q ⟨t, r, h, R, S, p⟩ => ?_
  refine ⟨t, r, h, R, S, Post.imp (Post.bind (rel := RV J) p) fun x H1 ⟨t1, h1, d, e1, R1, v1, p1⟩ => ?_⟩
  cases d with
  | bl b => simp only [RV] at v1; exact ⟨b, v1, p1 t1 H1 _ Ext.refl R1 (by simp only [RV])⟩
  | _ => exact p1.elim
theorem st_not (ha : ST X J E cx a fa) : ST X J E cx (.UnaryOp .Not a pos) (eNot fa) := by
  refine PT.weak (pt_not ha) fun s H Q ⟨t, r, h, R, S, p⟩ => ?_
  refine ⟨t, r, h, R, S, Post.imp (Post.bind (rel := RV J) p) fun x H1 ⟨t1, h1, d, e1, R1, v1, p1⟩ => ?_⟩
  cases d with
  | bl b =>
    simp only [RV] at v1
    obtain ⟨b', e, q⟩ := p1 t1 H1 (.bl (!b)) Ext.refl R1 (by simp only [RV])
    cases e
    exact ⟨b, v1, q⟩
  | _ => exact p1.elim
theorem se_one {op} (ha : SE X J E cx a fa) : SE X J E cx (.BoolOp op [a] pos) fa := pe_one ha
theorem se_and {rest : List Expr} (ha : SE X J E cx a fa) (hb : SE X J E cx (.BoolOp .And (b :: rest) pos) fb) : SE X J E cx (.BoolOp .And (a :: b :: rest) pos) (eAnd fa fb) := by
  refine PE.weak (pe_and ha hb) fun s H Q ⟨t, r, h, R, S, p⟩ => ?_
  refine ⟨t, r, h, R, S, Post.imp (Post.bind (rel := RV J) p) fun x H1 ⟨t1, h1, d, e1, R1, v1, p1⟩ => ?_⟩
  cases d with
  | bl b =>
    simp only [RV] at v1
    refine ⟨b, v1, ?_⟩
    cases b with
    | true => exact iteT ⟨t1, r, h1, R1, S.mono e1, p1⟩
    | false => exact iteF (p1 t1 H1 _ Ext.refl R1 (by simp only [RV]))
  | _ => exact p1.elim
theorem se_or {rest : List Expr} (ha : SE X J E cx a fa) (hb : SE X J E cx (.BoolOp .Or (b :: rest) pos) fb) : SE X J E cx (.BoolOp .Or (a :: b :: rest) pos) (eOr fa fb) := by
  refine PE.weak (pe_or ha hb) fun s H Q ⟨t, r, h, R, S, p⟩ => ?_
  refine ⟨t, r, h, R, S, Post.imp (Post.bind (rel := RV J) p) fun x H1 ⟨t1, h1, d, e1, R1, v1, p1⟩ => ?_⟩
  cases d with
  | bl b =>
    simp only [RV] at v1
    refine ⟨b, v1, ?_⟩
    cases b with
    | true => exact iteT (p1 t1 H1 _ Ext.refl R1 (by simp only [RV]))
    | false => exact iteF ⟨t1, r, h1, R1, S.mono e1, p1⟩
  | _ => exact p1.elim
theorem sw_and1 (ha : ST X J E cx a fa) : SW X J E cx (.BoolOp .And [a] pos) fa := pw_and1 ha
theorem sw_or1 (ha : ST X J E cx a fa) : SW X J E cx (.BoolOp .Or [a] pos) fa := pw_or1 ha
theorem sw_and {rest : List Expr} (ha : ST X J E cx a fa) (hb : SW X J E cx (.BoolOp .And (b :: rest) pos) fb) : SW X J E cx (.BoolOp .And (a :: b :: rest) pos) (eAnd fa fb) := by
  refine PW.weak (pw_and ha hb) fun s H Q ⟨t, r, h, R, S, p⟩ => ?_
  refine ⟨t, r, h, R, S, Post.imp (Post.bind (rel := RV J) p) fun x H1 ⟨t1, h1, d, e1, R1, v1, p1⟩ => ?_⟩
  cases d with
  | bl b =>
    simp only [RV] at v1
    refine ⟨b, v1, ?_⟩
    cases b with
    | true => exact iteT ⟨t1, r, h1, R1, S.mono e1, p1⟩
    | false =>
      obtain ⟨b', e, q⟩ := p1 t1 H1 (.bl false) Ext.refl R1 (by simp only [RV])
      cases e
      exact iteF q
  | _ => exact p1.elim
theorem sw_or {rest : List Expr} (ha : ST X J E cx a fa) (hb : SW X J E cx (.BoolOp .Or (b :: rest) pos) fb) : SW X J E cx (.BoolOp .Or (a :: b :: rest) pos) (eOr fa fb) := by
  refine PW.weak (pw_or ha hb) fun s H Q ⟨t, r, h, R, S, p⟩ => ?_
  refine ⟨t, r, h, R, S, Post.imp (Post.bind (rel := RV J) p) fun x H1 ⟨t1, h1, d, e1, R1, v1, p1⟩ => ?_⟩
  cases d with
  | bl b =>
    simp only [RV] at v1
    refine ⟨b, v1, ?_⟩
    cases b with
    | false => exact iteF ⟨t1, r, h1, R1, S.mono e1, p1⟩
    | true =>
      obtain ⟨b', e, q⟩ := p1 t1 H1 (.bl true) Ext.refl R1 (by simp only [RV])
      cases e
      exact iteT q
  | _ => exact p1.elim
theorem st_w (h : SW X J E cx a fa) : ST X J E cx a fa := h.pt
theorem se_ite (hc : ST X J E cx c fc) (ha : SE X J E cx a fa) (hb : SE X J E cx b fb) : SE X J E cx (.IfExp c a b pos) (eIte fc fa fb) := by
  refine PE.weak (pe_ifExp hc ha hb) fun s H Q ⟨t, r, h, R, S, p⟩ => ?_
  refine ⟨t, r, h, R, S, Post.imp (Post.bind (rel := RV J) p) fun x H1 ⟨t1, h1, d, e1, R1, v1, p1⟩ => ?_⟩
  cases d with
  | bl b =>
    simp only [RV] at v1
    refine ⟨b, v1, ?_⟩
    cases b with
    | true => exact iteT ⟨t1, r, h1, R1, S.mono e1, p1⟩
    | false => exact iteF ⟨t1, r, h1, R1, S.mono e1, p1⟩
  | _ => exact p1.elim
end
end M

set_option Elab.async false
set_option linter.all false
set_option maxRecDepth 100000
set_option maxHeartbeats 4000000
/-! Operations on values. -/
namespace M
open PySem L2 PyProof.Rows

section
variable {J : Inf} {t : Tr} {h : Hh} {H : Hp} {d : D} {x : V} {xs : List D}
theorem view_l (R : RepH J t h H) (v : RV J t (live t h) H d x) (e : viewL h d = some xs) : ∃ a vs, x = .ref a ∧ H a = some (.lst vs) ∧ RVs J t (live t h) H xs vs := by
  cases d with
  | lst ys =>
    simp only [viewL, Option.some.injEq] at e
    subst e
    simp only [RV] at v
    obtain ⟨a, vs, e, q, _, r⟩ := v
    exact ⟨a, vs, e, q, r⟩
  | cell c =>
    simp only [viewL] at e
    simp only [RV] at v
    obtain ⟨a, ev, q⟩ := v
    split at e
    · rename_i ys hc
      cases e
      obtain ⟨vs, q1, q2⟩ := R.cells c _ a hc q
      exact ⟨a, vs, ev, q1, q2⟩
    · cases e
  | _ => simp [viewL] at e
theorem view_s (R : RepH J t h H) (v : RV J t (live t h) H d x) (e : viewS h d = some xs) : ∃ a vs, x = .ref a ∧ (H a = some (.lst vs) ∨ H a = some (.tup vs)) ∧ RVs J t (live t h) H xs vs := by
  cases d with
  | tup ys =>
    simp only [viewS, Option.some.injEq] at e
    subst e
    simp only [RV] at v
    obtain ⟨a, vs, e, q, _, r⟩ := v
    exact ⟨a, vs, e, .inr q, r⟩
  | _ =>
    obtain ⟨a, vs, e, q, r⟩ := view_l R v (by simpa only [viewS] using e)
    exact ⟨a, vs, e, .inl q, r⟩
theorem view_d {ks : List (List Int)} {ws : List D} (R : RepH J t h H) (v : RV J t (live t h) H d x) (e : viewD h d = some (ks, ws)) : ∃ a vs, x = .ref a ∧ DctAt (live t h) H a ks vs ∧ RVs J t (live t h) H ws vs := by
  cases d with
  | dct ls us =>
    simp only [viewD, Option.some.injEq, Prod.mk.injEq] at e
    obtain ⟨rfl, rfl⟩ := e
    simp only [RV] at v
    obtain ⟨a, vs, e, q, _, r⟩ := v
    exact ⟨a, vs, e, q, r⟩
  | cell c =>
    simp only [viewD] at e
    simp only [RV] at v
    obtain ⟨a, ev, q⟩ := v
    split at e
    · rename_i ls us hc
      cases e
      obtain ⟨vs, q1, q2⟩ := R.cells c _ a hc q
      exact ⟨a, vs, ev, q1, q2⟩
    · cases e
  | _ => simp [viewD] at e
/-- a key's object -/
theorem vals_ints : ∀ {us : List Value} {is : List Int}, PyProof.Rows.IntsAre us is → Vals (is.map V.int) us
  | _, _, .nil => .nil
  | _, _, .cons n t h => .cons ⟨t, rfl⟩ (vals_ints h)
theorem key_tup {X : Cx} {pins : List (Addr × Obj)} {σ : L2.St} {H : Hp} {s : Shared} {a : Addr} {o : Obj} {is : List Int} (I : Inv X pins σ H s) (h : H a = some (ExO a o)) (k : TupIs o is) :
    ∃ us, PyProof.Rows.IntsAre us is ∧ Vals (is.map V.int) us ∧ PyProof.Rows.IsTup s.heap a us.toArray ∧ s.heap.get? a = some o := by
  have g : s.heap.get? a = some o := (I.hok a _ h).1
  obtain ⟨k1, k2, us, n, k3, k4⟩ := k
  exact ⟨us, k4, vals_ints k4, ⟨o, g, k1, n, k3⟩, g⟩

/-! ### data of any depth -/
mutual
def py : D → PyData
  | .non => .none
  | .bl b => .bool b
  | .int i => .int i
  | .str s => .str ⟨s.toArray⟩
  | .lst xs => .list (pys xs)
  | .tup xs => .tuple (pys xs)
  | _ => .none
def pys : List D → List PyData
  | [] => []
  | d :: ds => py d :: pys ds
end
theorem pys_map : ∀ ds : List D, pys ds = ds.map py
  | [] => rfl
  | d :: ds => by simp only [pys, pys_map ds, List.map_cons]

theorem mapM_nil {A B : Type} {f : A → Option B} : ([] : List A).mapM f = some [] := rfl
theorem mapM_cons {A B : Type} {f : A → Option B} {a : A} {as : List A} {bs : List B} (e : (a :: as).mapM f = some bs) : ∃ b cs, f a = some b ∧ as.mapM f = some cs ∧ bs = b :: cs := by
  rw [List.mapM_cons] at e
  cases q : f a with
  | none => rw [q] at e; simp at e
  | some b =>
    rw [q] at e
    cases q2 : as.mapM f with
    | none => rw [q2] at e; simp at e
    | some cs =>
      rw [q2] at e
      simp at e
      exact ⟨b, cs, rfl, rfl, e.symm⟩

theorem dp_list {K : PySem.W.Frag} {k : Nat} (ih : ∀ (d e : D) (x : V), RV J t (live t h) H d x → thru 0 h k d = some e → plain e = true → Dp K H x (py e)) :
    ∀ (ds es : List D) (vs : List V), RVs J t (live t h) H ds vs → ds.mapM (thru 0 h k) = some es → plains es = true → DpAll K H vs (pys es)
  | [], es, vs, v, e, _ => by
    rw [mapM_nil] at e
    cases e
    simp only [RVs] at v
    subst v
    exact .nil
  | d :: ds, es, vs, v, e, p => by
    obtain ⟨b, cs, h1, h2, rfl⟩ := mapM_cons e
    simp only [RVs] at v
    obtain ⟨w, r, rfl, v1, v2⟩ := v
    simp only [plains, Bool.and_eq_true] at p
    exact .cons (ih d b w v1 h1 p.1) (dp_list ih ds cs r v2 h2 p.2)
theorem dp_of {K : PySem.W.Frag} (R : RepH J t h H) : ∀ (k : Nat) (d e : D) (x : V), RV J t (live t h) H d x → thru 0 h k d = some e → plain e = true → Dp K H x (py e)
  | 0, _, _, _, _, e, _ => by simp [thru] at e
  | k + 1, .non, _, _, v, e, _ => by simp only [thru, Option.some.injEq] at e; subst e; simp only [RV] at v; subst v; exact .non
  | k + 1, .bl _, _, _, v, e, _ => by simp only [thru, Option.some.injEq] at e; subst e; simp only [RV] at v; subst v; exact .bl _
  | k + 1, .int _, _, _, v, e, _ => by simp only [thru, Option.some.injEq] at e; subst e; simp only [RV] at v; subst v; exact .int _
  | k + 1, .str _, _, _, v, e, _ => by simp only [thru, Option.some.injEq] at e; subst e; simp only [RV] at v; subst v; exact .str _
  | k + 1, .edict, _, _, v, e, p => by simp only [thru, Option.some.injEq] at e; subst e; simp [plain] at p
  | k + 1, .fn _, _, _, v, e, p => by simp only [thru, Option.some.injEq] at e; subst e; simp [plain] at p
  | k + 1, .ktp _, _, _, v, e, p => by simp only [thru, Option.some.injEq] at e; subst e; simp [plain] at p
  | k + 1, .tup xs, _, _, v, e, p => by
    simp only [thru, Option.map_eq_some_iff] at e
    obtain ⟨es, e1, rfl⟩ := e
    simp only [RV] at v
    obtain ⟨a, vs, rfl, q, _, r⟩ := v
    exact .tup (SqT.of q) (dp_list (dp_of R k) _ _ _ r e1 (by simpa only [plain] using p))
  | k + 1, .lst xs, _, _, v, e, p => by
    simp only [thru, Option.map_eq_some_iff] at e
    obtain ⟨es, e1, rfl⟩ := e
    simp only [RV] at v
    obtain ⟨a, vs, rfl, q, _, r⟩ := v
    exact .lst (SqL.of q) (dp_list (dp_of R k) _ _ _ r e1 (by simpa only [plain] using p))
  | k + 1, .dct _ _, _, _, v, e, p => by
    simp only [thru, Option.map_eq_some_iff] at e
    obtain ⟨es, e1, rfl⟩ := e
    simp [plain] at p
  | k + 1, .cell c, _, _, v, e, p => by
    simp only [thru, Nat.not_lt_zero, if_false] at e
    simp only [RV] at v
    obtain ⟨a, rfl, q⟩ := v
    split at e
    · rename_i xs hc
      simp only [Option.map_eq_some_iff] at e
      obtain ⟨es, e1, rfl⟩ := e
      obtain ⟨vs, q1, r⟩ := R.cells c _ a hc q
      exact .lst (SqL.of q1) (dp_list (dp_of R k) _ _ _ r e1 (by simpa only [plain] using p))
    · simp only [Option.map_eq_some_iff] at e
      obtain ⟨es, e1, rfl⟩ := e
      simp [plain] at p
    · cases e
mutual
theorem lay_of : ∀ {e : D}, plain e = true → (py e).canLay0 = true
  | .non, _ => rfl
  | .bl _, _ => rfl
  | .int _, _ => rfl
  | .str s, p => by
    simp only [plain, List.all_eq_true, decide_eq_true_eq] at p
    simp only [py, PyData.canLay0, PyData.strOk, Array.all_eq_true]
    intro i hi
    simpa using p s[i] (by simp)
  | .lst xs, p => by
    simp only [plain] at p
    simp only [py, PyData.canLay0]
    exact lays_of p
  | .tup xs, p => by
    simp only [plain] at p
    simp only [py, PyData.canLay0]
    exact lays_of p
  | .dct _ _, p => by simp [plain] at p
  | .edict, p => by simp [plain] at p
  | .cell _, p => by simp [plain] at p
  | .fn _, p => by simp [plain] at p
  | .ktp _, p => by simp [plain] at p
theorem lays_of : ∀ {es : List D}, plains es = true → PyData.canLayAll0 (pys es) = true
  | [], _ => rfl
  | e :: es, p => by
    simp only [plains, Bool.and_eq_true] at p
    simp only [pys, PyData.canLayAll0, lay_of p.1, lays_of p.2, Bool.and_self]
end
theorem depths_of {k n : Nat} {h : Hh} (ih : ∀ (d e : D), thru n h k d = some e → (py e).depth ≤ k) : ∀ (ds es : List D), ds.mapM (thru n h k) = some es → PyData.depthAll (pys es) ≤ k
  | [], es, e => by
    rw [mapM_nil] at e
    cases e
    simp [pys, PyData.depthAll]
  | d :: ds, es, e => by
    obtain ⟨b, cs, h1, h2, rfl⟩ := mapM_cons e
    have := ih d b h1
    have := depths_of ih ds cs h2
    simp only [pys, PyData.depthAll]
    omega
theorem depth_of {n : Nat} {h : Hh} : ∀ (k : Nat) (d e : D), thru n h k d = some e → (py e).depth ≤ k
  | 0, _, _, e => by simp [thru] at e
  | k + 1, .non, _, e => by simp only [thru, Option.some.injEq] at e; subst e; simp [py, PyData.depth]
  | k + 1, .bl _, _, e => by simp only [thru, Option.some.injEq] at e; subst e; simp [py, PyData.depth]
  | k + 1, .int _, _, e => by simp only [thru, Option.some.injEq] at e; subst e; simp [py, PyData.depth]
  | k + 1, .str _, _, e => by simp only [thru, Option.some.injEq] at e; subst e; simp [py, PyData.depth]
  | k + 1, .edict, _, e => by simp only [thru, Option.some.injEq] at e; subst e; simp [py, PyData.depth]
  | k + 1, .fn _, _, e => by simp only [thru, Option.some.injEq] at e; subst e; simp [py, PyData.depth]
  | k + 1, .ktp _, _, e => by simp only [thru, Option.some.injEq] at e; subst e; simp [py, PyData.depth]
  | k + 1, .tup xs, _, e => by
    simp only [thru, Option.map_eq_some_iff] at e
    obtain ⟨es, e1, rfl⟩ := e
    have := depths_of (depth_of k) _ _ e1
    simp only [py, PyData.depth]
    omega
  | k + 1, .lst xs, _, e => by
    simp only [thru, Option.map_eq_some_iff] at e
    obtain ⟨es, e1, rfl⟩ := e
    have := depths_of (depth_of k) _ _ e1
    simp only [py, PyData.depth]
    omega
  | k + 1, .dct _ _, _, e => by
    simp only [thru, Option.map_eq_some_iff] at e
    obtain ⟨es, e1, rfl⟩ := e
    simp [py, PyData.depth]
  | k + 1, .cell c, _, e => by
    simp only [thru] at e
    split at e
    · cases e
      simp [py, PyData.depth]
    · split at e
      · simp only [Option.map_eq_some_iff] at e
        obtain ⟨es, e1, rfl⟩ := e
        have := depths_of (depth_of k) _ _ e1
        simp only [py, PyData.depth]
        omega
      · simp only [Option.map_eq_some_iff] at e
        obtain ⟨es, e1, rfl⟩ := e
        simp [py, PyData.depth]
      · cases e
mutual
theorem eqv_py : ∀ (a b : D), plain a = true → plain b = true → PyData.eqv (py a) (py b) = eqv a b
  | .lst xs, b, p, q => by
    cases b with
    | lst ys => simp only [plain] at p q; simp only [py, PyData.eqv, eqv]; exact eqvs_py xs ys p q
    | _ => simp [plain] at q <;> simp [py, PyData.eqv, eqv]
  | .tup xs, b, p, q => by
    cases b with
    | tup ys => simp only [plain] at p q; simp only [py, PyData.eqv, eqv]; exact eqvs_py xs ys p q
    | _ => simp [plain] at q <;> simp [py, PyData.eqv, eqv]
  | .non, b, p, q => by cases b <;> simp [plain] at q <;> simp [py, PyData.eqv, eqv]
  | .bl _, b, p, q => by cases b <;> simp [plain] at q <;> simp [py, PyData.eqv, eqv]
  | .int _, b, p, q => by cases b <;> simp [plain] at q <;> simp [py, PyData.eqv, eqv]
  | .str s, b, p, q => by
    cases b with
    | str s' =>
      simp only [py, PyData.eqv, eqv]
      rw [Bool.eq_iff_iff]
      simp
    | _ => simp [plain] at q <;> simp [py, PyData.eqv, eqv]
  | .dct _ _, _, p, _ => by simp [plain] at p
  | .edict, _, p, _ => by simp [plain] at p
  | .cell _, _, p, _ => by simp [plain] at p
  | .fn _, _, p, _ => by simp [plain] at p
  | .ktp _, _, p, _ => by simp [plain] at p
theorem eqvs_py : ∀ (as bs : List D), plains as = true → plains bs = true → PyData.eqvAll (pys as) (pys bs) = eqvs as bs
  | [], [], _, _ => rfl
  | [], _ :: _, _, _ => rfl
  | _ :: _, [], _, _ => rfl
  | a :: as, b :: bs, p, q => by
    simp only [plains, Bool.and_eq_true] at p q
    simp only [pys, PyData.eqvAll, eqvs, eqv_py a b p.1 q.1, eqvs_py as bs p.2 q.2]
end
theorem deep_some {e : D} (q : deep h d = some e) : thru 0 h 12 d = some e ∧ plain e = true := by
  unfold deep at q
  split at q
  · split at q
    · cases q
      exact ⟨by assumption, by assumption⟩
    · cases q
  · cases q
theorem deep_dp {K : PySem.W.Frag} {e : D} (R : RepH J t h H) (v : RV J t (live t h) H d x) (q : deep h d = some e) : Dp K H x (py e) ∧ SeqAt.shaped (py e) = true := by
  obtain ⟨q1, q2⟩ := deep_some q
  refine ⟨dp_of R 12 d e x v q1 q2, ?_⟩
  have := depth_of 12 d e q1
  unfold SeqAt.shaped
  rw [lay_of q2, Bool.true_and, decide_eq_true_eq]
  omega
theorem deeps_dp {K : PySem.W.Frag} (R : RepH J t h H) : ∀ {ds es : List D} {vs : List V}, RVs J t (live t h) H ds vs → ds.mapM (deep h) = some es → DpAll K H vs (pys es) ∧ PyData.canLayAll0 (pys es) = true ∧ PyData.depthAll (pys es) ≤ 12 ∧ plains es = true
  | [], es, vs, v, e => by
    rw [mapM_nil] at e
    cases e
    simp only [RVs] at v
    subst v
    exact ⟨.nil, rfl, by simp [pys, PyData.depthAll], rfl⟩
  | d :: ds, es, vs, v, e => by
    obtain ⟨b, cs, h1, h2, rfl⟩ := mapM_cons e
    simp only [RVs] at v
    obtain ⟨w, r, rfl, v1, v2⟩ := v
    obtain ⟨i1, i2, i3, i4⟩ := deeps_dp (K := K) R v2 h2
    obtain ⟨q1, q2⟩ := deep_some h1
    have := depth_of 12 d b q1
    refine ⟨.cons (deep_dp R v1 h1).1 i1, ?_, ?_, ?_⟩
    · simp only [pys, PyData.canLayAll0, lay_of q2, i2, Bool.and_self]
    · simp only [pys, PyData.depthAll]; omega
    · simp only [plains, q2, i4, Bool.and_self]
end

theorem shaped_list {es : List PyData} (h1 : PyData.canLayAll0 es = true) (h2 : PyData.depthAll es ≤ 12) : SeqAt.shaped (.list es) = true := by
  have e : (PyData.list es).depth = PyData.depthAll es + 1 := by simp only [PyData.depth]
  unfold SeqAt.shaped
  rw [e, Bool.and_eq_true, decide_eq_true_eq]
  refine ⟨by simpa only [PyData.canLay0] using h1, by omega⟩
section
variable {X : Cx} {J : Inf}
/-! ### numbers -/
theorem wide_ok {i : Int} (q : okI i = true) : i.natAbs < 2 ^ 8000 := of_decide_eq_true q
def rAddM : R2 := fun x y H Q => rI0 (fun i j => .int (i + j)) x y H Q ∨ rCat x y H Q
theorem or_add : OpR X (binaryOp .Add) rAddM := OpR.or op_add op_cat
theorem ok_add (m : Bool) : Ok2 J (pAdd m) rAddM := fun t h H d e x y Q R v w p => by
  unfold pAdd at p
  split at p
  · rename_i i j
    simp only [RV] at v w
    exact .inl ⟨i, j, v, w, p t H _ Ext.refl R (by simp only [RV])⟩
  · split at p
    · rename_i xs ys q1 q2
      obtain ⟨a, vs, rfl, ha, va⟩ := view_l R v q1
      obtain ⟨b, ws, rfl, hb, vb⟩ := view_l R w q2
      split at p
      · rename_i hl
        refine .inr ⟨a, b, vs, ws, rfl, rfl, ha, hb, ?_, fun q hq => new_list R (va.append vb) p q hq⟩
        rw [va.length, vb.length]
        exact lim_size hl
      · exact p.elim
    · exact p.elim
theorem ok_sub : Ok2 J pSub (rI0 fun i j => .int (i - j)) := fun t h H d e x y Q R v w p => by
  unfold pSub at p
  split at p
  · rename_i i j
    simp only [RV] at v w
    exact ⟨i, j, v, w, p t H _ Ext.refl R (by simp only [RV])⟩
  · exact p.elim
def rMulM : R2 := fun x y H Q => rI CMulW (fun i j => .int (i * j)) x y H Q ∨ rRep x y H Q
theorem or_mul : OpR X (binaryOp .Mult) rMulM := OpR.or op_mulW op_rep
theorem ok_mul (m : Bool) : Ok2 J (pMul m) rMulM := fun t h H d e x y Q R v w p => by
  unfold pMul at p
  split at p
  · rename_i i j
    simp only [RV] at v w
    split at p
    · rename_i ok
      rw [Bool.and_eq_true] at ok
      exact .inl ⟨i, j, v, w, wide_mul (wide_ok ok.1) (wide_ok ok.2) (by decide) (by decide) (by decide), p t H _ Ext.refl R (by simp only [RV])⟩
    · exact p.elim
  · rename_i k hx
    simp only [RV] at w
    split at p
    · rename_i xs q1
      obtain ⟨a, vs, rfl, ha, va⟩ := view_l R v q1
      split at p
      · rename_i hl
        refine .inr ⟨a, k, vs, rfl, w, ha, by omega, by omega, ?_, fun q hq => new_list R (va.rep _) p q hq⟩
        rw [va.length]
        exact lim_size hl.2.2
      · exact p.elim
    · exact p.elim
  · exact p.elim
def CDivNW (_ j : Int) : Prop := j ≠ 0 ∧ j.natAbs.log2 < 9000
theorem op_fdivNW : OpR X (binaryOp .FloorDiv) (rI CDivNW fun i j => .int (i.fdiv j)) := opI fun i j _ _ _ _ _ hc q =>
  floordiv_int hc.1 q (.inl (PyProof.noPylong_of_log2 hc.2))
theorem log_ok {i : Int} (q : okI i = true) : i.natAbs.log2 < 9000 := Nat.lt_of_lt_of_le (PySem.Flt.log2_lt_of (by decide) (wide_ok q)) (by decide)
theorem ok_fdiv : Ok2 J pFdiv (rI CDivNW fun i j => .int (i.fdiv j)) := fun t h H d e x y Q R v w p => by
  unfold pFdiv at p
  split at p
  · rename_i i j
    simp only [RV] at v w
    split at p
    · rename_i ok
      exact ⟨i, j, v, w, ⟨ok.1, log_ok ok.2⟩, p t H _ Ext.refl R (by simp only [RV])⟩
    · exact p.elim
  · exact p.elim
theorem ok_mod : Ok2 J pMod (rI (fun _ j => j ≠ 0) fun i j => .int (i.fmod j)) := fun t h H d e x y Q R v w p => by
  unfold pMod at p
  split at p
  · rename_i i j
    simp only [RV] at v w
    split at p
    · rename_i ok
      exact ⟨i, j, v, w, ok, p t H _ Ext.refl R (by simp only [RV])⟩
    · exact p.elim
  · exact p.elim
theorem ok_pow : Ok2 J pPow (rI CPow fun i j => .int (i ^ j.toNat)) := fun t h H d e x y Q R v w p => by
  unfold pPow at p
  split at p
  · rename_i i j
    simp only [RV] at v w
    split at p
    · rename_i ok
      exact ⟨i, j, v, w, ⟨ok.1, by omega, by have := ok.2.2; omega⟩, p t H _ Ext.refl R (by simp only [RV])⟩
    · exact p.elim
  · exact p.elim
theorem ok_shr : Ok2 J pShr (rI (fun _ j => 0 ≤ j) fun i j => .int (i / 2 ^ j.toNat)) := fun t h H d e x y Q R v w p => by
  unfold pShr at p
  split at p
  · rename_i i j
    simp only [RV] at v w
    split at p
    · rename_i ok
      exact ⟨i, j, v, w, ok, p t H _ Ext.refl R (by simp only [RV])⟩
    · exact p.elim
  · exact p.elim
theorem ok_neg : Ok1 J pNeg (rU fun i => .int (-i)) := fun t h H d x Q R v p => by
  unfold pNeg at p
  split at p
  · rename_i i
    simp only [RV] at v
    exact ⟨i, v, p t H _ Ext.refl R (by simp only [RV])⟩
  · exact p.elim
theorem ok_cmp (f : Int → Int → Bool) : Ok2 J (pCmp f) (rI0 fun i j => .bl (f i j)) := fun t h H d e x y Q R v w p => by
  unfold pCmp at p
  split at p
  · rename_i i j
    simp only [RV] at v w
    exact ⟨i, j, v, w, p t H _ Ext.refl R (by simp only [RV])⟩
  · exact p.elim
theorem ok_eq (K : PySem.W.Frag) : Ok2 J (pEq false) (rEqD K) := fun t h H d e x y Q R v w p => by
  unfold pEq at p
  split at p
  · rename_i a b q1 q2
    obtain ⟨g1, g2⟩ := deep_dp (K := K) R v q1
    obtain ⟨g3, g4⟩ := deep_dp (K := K) R w q2
    refine ⟨_, _, g1, g3, g2, g4, ?_⟩
    rw [eqv_py a b (deep_some q1).2 (deep_some q2).2]
    exact p t H _ Ext.refl R (by simp only [RV]; rfl)
  · exact p.elim
theorem ok_ne (K : PySem.W.Frag) : Ok2 J (pEq true) (rNeD K) := fun t h H d e x y Q R v w p => by
  unfold pEq at p
  split at p
  · rename_i a b q1 q2
    obtain ⟨g1, g2⟩ := deep_dp (K := K) R v q1
    obtain ⟨g3, g4⟩ := deep_dp (K := K) R w q2
    refine ⟨_, _, g1, g3, g2, g4, ?_⟩
    rw [eqv_py a b (deep_some q1).2 (deep_some q2).2]
    exact p t H _ Ext.refl R (by simp only [RV]; rfl)
  · exact p.elim
theorem any_py {a : D} (pa : plain a = true) : ∀ (bs : List D), plains bs = true → ((pys bs).any fun z => PyData.eqv z (py a)) = bs.any fun b => eqv b a
  | [], _ => rfl
  | b :: bs, p => by
    simp only [plains, Bool.and_eq_true] at p
    simp only [pys, List.any_cons, eqv_py b a p.1 pa, any_py pa bs p.2]
/-- x in a key -/
def rInK (neg : Bool) : R2 := fun x y H Q => ∃ (a : Addr) (o : Obj) (is : List Int), y = .ref a ∧ H a = some (ExO a o) ∧ TupIs o is ∧ flatV x = true ∧ Q (.bl (if neg then !inV x (is.map V.int) else inV x (is.map V.int))) H
theorem flat_ints (is : List Int) : (is.map V.int).all flatV = true := by simp [flatV]
theorem op_inK : OpR X (compareOp .In) (rInK false) := by
  intro pins s σ H x y v u Q I rx ry h
  obtain ⟨a, o, is, rfl, ha, hk, fx, q⟩ := h
  cases ry
  obtain ⟨us, _, r, it, _⟩ := key_tup I ha hk
  refine SeqAt.in_tupleAt (eqU x) it (fun w hw => mem_eqAt rx fx r (flat_ints is) w (by simpa using hw)) ⟨.bl _, H, I, rfl, ?_⟩
  rw [show us.toArray.any (eqU x) = us.any (eqU x) by simp, any_eqU r (flat_ints is)]
  exact q
theorem op_notInK : OpR X (compareOp .NotIn) (rInK true) := by
  intro pins s σ H x y v u Q I rx ry h
  obtain ⟨a, o, is, rfl, ha, hk, fx, q⟩ := h
  cases ry
  obtain ⟨us, _, r, it, _⟩ := key_tup I ha hk
  refine SeqAt.notIn_tupleAt (eqU x) it (fun w hw => mem_eqAt rx fx r (flat_ints is) w (by simpa using hw)) ⟨.bl _, H, I, rfl, ?_⟩
  rw [show us.toArray.any (eqU x) = us.any (eqU x) by simp, any_eqU r (flat_ints is)]
  exact q
def rInM (K : PySem.W.Frag) : R2 := fun x y H Q => rInD K x y H Q ∨ (rIn K false x y H Q ∨ rInK false x y H Q)
def rNotInM (K : PySem.W.Frag) : R2 := fun x y H Q => rNotInD K x y H Q ∨ (rIn K true x y H Q ∨ rInK true x y H Q)
theorem or_in {n : Nat} (hr : Room n X.A) : OpR X (compareOp .In) (rInM X.K) := OpR.or (op_inD (by have := hr.un; omega)) (OpR.or op_in_seq op_inK)
theorem or_notIn {n : Nat} (hr : Room n X.A) : OpR X (compareOp .NotIn) (rNotInM X.K) := OpR.or (op_notInD (by have := hr.un; omega)) (OpR.or op_notIn_seq op_notInK)
theorem flat_rv {t : Tr} {L : Addr → Prop} {H : Hp} {d : D} {x : V} (f : flatD d = true) (v : RV J t L H d x) : flatV x = true ∧ ∀ e y, flatD e = true → RV J t L H e y → eqV y x = eqv e d := by
  cases d with
  | non => simp only [RV] at v; subst v; exact ⟨rfl, fun e y fe ve => by cases e <;> simp [flatD] at fe <;> simp only [RV] at ve <;> subst ve <;> simp [eqV, eqv]⟩
  | bl b => simp only [RV] at v; subst v; exact ⟨rfl, fun e y fe ve => by cases e <;> simp [flatD] at fe <;> simp only [RV] at ve <;> subst ve <;> simp [eqV, eqv]⟩
  | int i => simp only [RV] at v; subst v; exact ⟨rfl, fun e y fe ve => by cases e <;> simp [flatD] at fe <;> simp only [RV] at ve <;> subst ve <;> simp [eqV, eqv]⟩
  | _ => simp [flatD] at f
theorem flats_rv {t : Tr} {L : Addr → Prop} {H : Hp} {d : D} {x : V} (f : flatD d = true) (v : RV J t L H d x) : ∀ (ds : List D) (vs : List V), ds.all flatD = true → RVs J t L H ds vs → vs.all flatV = true ∧ inV x vs = ds.any fun b => eqv b d
  | [], vs, _, w => by simp only [RVs] at w; subst w; exact ⟨rfl, rfl⟩
  | e :: ds, vs, fs, w => by
    simp only [RVs] at w
    obtain ⟨y, r, rfl, w1, w2⟩ := w
    simp only [List.all_cons, Bool.and_eq_true] at fs
    obtain ⟨i1, i2⟩ := flats_rv f v ds r fs.2 w2
    have g := (flat_rv f v).2 e y fs.1 w1
    refine ⟨by simp only [List.all_cons, (flat_rv fs.1 w1).1, i1, Bool.and_self], ?_⟩
    unfold inV at i2 ⊢
    simp only [List.any_cons, g, i2]
theorem ok_in (K : PySem.W.Frag) : Ok2 J (pIn false) (rInM K) := fun t h H d e x y Q R v w p => by
  unfold pIn at p
  split at p
  · rename_i is
    split at p
    · rename_i fl
      simp only [RV] at w
      obtain ⟨a, rfl, o, q, _, k⟩ := w
      obtain ⟨i1, i2⟩ := flats_rv fl v (is.map D.int) (is.map V.int) (by simp [flatD]) (RVs.of_ints is)
      refine .inr (.inr ⟨a, o, is, rfl, q, k, (flat_rv fl v).1, ?_⟩)
      rw [i2]
      exact p t H _ Ext.refl R (by simp only [RV])
    · exact p.elim
  · rename_i ys
    split at p
    · rename_i fl
      rw [Bool.and_eq_true] at fl
      simp only [RV] at w
      obtain ⟨a, vs, rfl, q, _, r⟩ := w
      obtain ⟨i1, i2⟩ := flats_rv fl.1 v ys vs fl.2 r
      refine .inr (.inl ⟨a, vs, rfl, .inr (SqT.of q), (flat_rv fl.1 v).1, i1, ?_⟩)
      rw [i2]
      exact p t H _ Ext.refl R (by simp only [RV])
    · exact p.elim
  · split at p
    · rename_i a ys q1 q2
      split at p
      · rename_i bs q3
        obtain ⟨g1, g2⟩ := deep_dp (K := K) R v q1
        obtain ⟨l, vs, rfl, hl, vl⟩ := view_l R w q2
        obtain ⟨i1, i2, i3, i4⟩ := deeps_dp (K := K) R vl q3
        refine .inl ⟨_, _, g1, .lst (SqL.of hl) i1, g2, ?_, ?_⟩
        · exact shaped_list i2 i3
        · rw [any_py (deep_some q1).2 bs i4]
          exact p t H _ Ext.refl R (by simp only [RV]; rfl)
      · exact p.elim
    · exact p.elim
theorem ok_notIn (K : PySem.W.Frag) : Ok2 J (pIn true) (rNotInM K) := fun t h H d e x y Q R v w p => by
  unfold pIn at p
  split at p
  · rename_i is
    split at p
    · rename_i fl
      simp only [RV] at w
      obtain ⟨a, rfl, o, q, _, k⟩ := w
      obtain ⟨i1, i2⟩ := flats_rv fl v (is.map D.int) (is.map V.int) (by simp [flatD]) (RVs.of_ints is)
      refine .inr (.inr ⟨a, o, is, rfl, q, k, (flat_rv fl v).1, ?_⟩)
      rw [i2]
      exact p t H _ Ext.refl R (by simp only [RV])
    · exact p.elim
  · rename_i ys
    split at p
    · rename_i fl
      rw [Bool.and_eq_true] at fl
      simp only [RV] at w
      obtain ⟨a, vs, rfl, q, _, r⟩ := w
      obtain ⟨i1, i2⟩ := flats_rv fl.1 v ys vs fl.2 r
      refine .inr (.inl ⟨a, vs, rfl, .inr (SqT.of q), (flat_rv fl.1 v).1, i1, ?_⟩)
      rw [i2]
      exact p t H _ Ext.refl R (by simp only [RV])
    · exact p.elim
  · split at p
    · rename_i a ys q1 q2
      split at p
      · rename_i bs q3
        obtain ⟨g1, g2⟩ := deep_dp (K := K) R v q1
        obtain ⟨l, vs, rfl, hl, vl⟩ := view_l R w q2
        obtain ⟨i1, i2, i3, i4⟩ := deeps_dp (K := K) R vl q3
        refine .inl ⟨_, _, g1, .lst (SqL.of hl) i1, g2, ?_, ?_⟩
        · exact shaped_list i2 i3
        · rw [any_py (deep_some q1).2 bs i4]
          exact p t H _ Ext.refl R (by simp only [RV]; rfl)
      · exact p.elim
    · exact p.elim
end
end M

set_option Elab.async false
set_option linter.all false
set_option maxRecDepth 100000
set_option maxHeartbeats 4000000
/-! Built-in functions, methods, subscripts. -/
namespace M
open PySem L2 PyProof.Rows

/-- the built-in names that the text leaves as they are -/
structure Blt (mg : Str → Option Value) : Prop where
  len : mg "len" = none
  list : mg "list" = none
  tuple : mg "tuple" = none
  int : mg "int" = none
  bool : mg "bool" = none
  sum : mg "sum" = none
  all : mg "all" = none
  any : mg "any" = none
  abs : mg "abs" = none
  max : mg "max" = none
  min : mg "min" = none
  sorted : mg "sorted" = none
  set : mg "set" = none
  isinstance : mg "isinstance" = none
  range : mg "range" = none
  enumerate : mg "enumerate" = none
  zip : mg "zip" = none

section
variable {X : Cx} {J : Inf} {E : XK} {cx : Ctx} {n : Nat} {pos p : Pos} {a b c : Expr} {fa fb fc : FE}

/-! ### is -/
theorem rv_isNon {t : Tr} {L : Addr → Prop} {H : Hp} {d : D} {x : V} (v : RV J t L H d x) : decide (x = .non) = isNon d := by
  cases d <;> simp only [RV] at v <;> first
    | (subst v; rfl)
    | (obtain ⟨_, _, rfl, _⟩ := v; rfl)
    | (obtain ⟨_, rfl, _⟩ := v; rfl)
theorem se_isN {j : Nat} {p' : Pos} (ha : SE X J E cx a fa) : SE X J E cx (.Compare a [.Is] [.Constant .none j p'] pos) (e1 (pIsN false) fa) := by
  refine PE.weak (pe_cmpR op_isN ha pe_non (nomark _)) fun s H Q ⟨t, r, h, R, S, p⟩ => ?_
  refine ⟨t, r, h, R, S, Post.imp (Post.bind (rel := RV J) p) fun x H1 ⟨t1, h1, d, e1, R1, v1, p1⟩ => ⟨rfl, ?_⟩⟩
  rw [rv_isNon v1]
  exact p1 t1 H1 _ Ext.refl R1 (by simp only [RV]; rfl)
theorem se_notN {j : Nat} {p' : Pos} (ha : SE X J E cx a fa) : SE X J E cx (.Compare a [.IsNot] [.Constant .none j p'] pos) (e1 (pIsN true) fa) := by
  refine PE.weak (pe_cmpR op_notN ha pe_non (nomark _)) fun s H Q ⟨t, r, h, R, S, p⟩ => ?_
  refine ⟨t, r, h, R, S, Post.imp (Post.bind (rel := RV J) p) fun x H1 ⟨t1, h1, d, e1, R1, v1, p1⟩ => ⟨rfl, ?_⟩⟩
  rw [rv_isNon v1]
  exact p1 t1 H1 _ Ext.refl R1 (by simp only [RV]; rfl)
theorem st_isN {j : Nat} {p' : Pos} (ha : SE X J E cx a fa) : ST X J E cx (.Compare a [.Is] [.Constant .none j p'] pos) (e1 (pIsN false) fa) := by
  refine PT.weak (pt_cmpR op_isN ha pe_non (nomark _)) fun s H Q ⟨t, r, h, R, S, p⟩ => ?_
  refine ⟨t, r, h, R, S, Post.imp (Post.bind (rel := RV J) p) fun x H1 ⟨t1, h1, d, e1, R1, v1, p1⟩ => ⟨rfl, ?_⟩⟩
  rw [rv_isNon v1]
  exact p1 t1 H1 _ Ext.refl R1 (by simp only [RV]; rfl)
theorem st_notN {j : Nat} {p' : Pos} (ha : SE X J E cx a fa) : ST X J E cx (.Compare a [.IsNot] [.Constant .none j p'] pos) (e1 (pIsN true) fa) := by
  refine PT.weak (pt_cmpR op_notN ha pe_non (nomark _)) fun s H Q ⟨t, r, h, R, S, p⟩ => ?_
  refine ⟨t, r, h, R, S, Post.imp (Post.bind (rel := RV J) p) fun x H1 ⟨t1, h1, d, e1, R1, v1, p1⟩ => ⟨rfl, ?_⟩⟩
  rw [rv_isNon v1]
  exact p1 t1 H1 _ Ext.refl R1 (by simp only [RV]; rfl)
theorem is_dec (x y : Bool) : decide (x = y) = (x == y) := by cases x <;> cases y <;> rfl
theorem se_isB {k : Bool} {j : Nat} {p' : Pos} (ha : SE X J E cx a fa) : SE X J E cx (.Compare a [.Is] [.Constant (.bool k) j p'] pos) (e1 (pIsB false k) fa) := by
  refine PE.weak (pe_cmpR op_isBl ha pe_bl (nomark _)) fun s H Q ⟨t, r, h, R, S, p⟩ => ?_
  refine ⟨t, r, h, R, S, Post.imp (Post.bind (rel := RV J) p) fun x H1 ⟨t1, h1, d, e1, R1, v1, p1⟩ => ?_⟩
  cases d with
  | bl z =>
    simp only [RV] at v1
    refine ⟨z, k, v1, rfl, ?_⟩
    rw [is_dec]
    exact p1 t1 H1 _ Ext.refl R1 (by simp only [RV]; rfl)
  | _ => exact p1.elim
theorem se_notB {k : Bool} {j : Nat} {p' : Pos} (ha : SE X J E cx a fa) : SE X J E cx (.Compare a [.IsNot] [.Constant (.bool k) j p'] pos) (e1 (pIsB true k) fa) := by
  refine PE.weak (pe_cmpR op_notBl ha pe_bl (nomark _)) fun s H Q ⟨t, r, h, R, S, p⟩ => ?_
  refine ⟨t, r, h, R, S, Post.imp (Post.bind (rel := RV J) p) fun x H1 ⟨t1, h1, d, e1, R1, v1, p1⟩ => ?_⟩
  cases d with
  | bl z =>
    simp only [RV] at v1
    refine ⟨z, k, v1, rfl, ?_⟩
    rw [is_dec]
    exact p1 t1 H1 _ Ext.refl R1 (by simp only [RV]; rfl)
  | _ => exact p1.elim
theorem st_isB {k : Bool} {j : Nat} {p' : Pos} (ha : SE X J E cx a fa) : ST X J E cx (.Compare a [.Is] [.Constant (.bool k) j p'] pos) (e1 (pIsB false k) fa) := by
  refine PT.weak (pt_cmpR op_isBl ha pe_bl (nomark _)) fun s H Q ⟨t, r, h, R, S, p⟩ => ?_
  refine ⟨t, r, h, R, S, Post.imp (Post.bind (rel := RV J) p) fun x H1 ⟨t1, h1, d, e1, R1, v1, p1⟩ => ?_⟩
  cases d with
  | bl z =>
    simp only [RV] at v1
    refine ⟨z, k, v1, rfl, ?_⟩
    rw [is_dec]
    exact p1 t1 H1 _ Ext.refl R1 (by simp only [RV]; rfl)
  | _ => exact p1.elim
theorem st_notB {k : Bool} {j : Nat} {p' : Pos} (ha : SE X J E cx a fa) : ST X J E cx (.Compare a [.IsNot] [.Constant (.bool k) j p'] pos) (e1 (pIsB true k) fa) := by
  refine PT.weak (pt_cmpR op_notBl ha pe_bl (nomark _)) fun s H Q ⟨t, r, h, R, S, p⟩ => ?_
  refine ⟨t, r, h, R, S, Post.imp (Post.bind (rel := RV J) p) fun x H1 ⟨t1, h1, d, e1, R1, v1, p1⟩ => ?_⟩
  cases d with
  | bl z =>
    simp only [RV] at v1
    refine ⟨z, k, v1, rfl, ?_⟩
    rw [is_dec]
    exact p1 t1 H1 _ Ext.refl R1 (by simp only [RV]; rfl)
  | _ => exact p1.elim

/-! ### a <= b <= c -/
theorem le_rule {t : Tr} {h : Hh} {H : Hp} {d e : D} {x y : V} {Q : VK} (R : RepH J t h H) (v : RV J t (live t h) H d x) (w : RV J t (live t h) H e y) {k : D → Hh → M.R D} (p : PostE J E t h H ((up (pLe d e h)).bind k) Q) :
    ∃ i j, x = .int i ∧ y = .int j ∧ PostE J E t h H (k (.bl (decide (i ≤ j))) h) Q := by
  unfold pLe pCmp at p
  split at p
  · rename_i i j
    simp only [RV] at v w
    exact ⟨i, j, v, w, p⟩
  · exact p.elim
theorem se_chain (ha : SE X J E cx a fa) (hb : SE X J E cx b fb) (hc : SE X J E cx c fc) (hm : lastMarks [.LtE, .LtE] [b, c] = false := by with_unfolding_all rfl) : SE X J E cx (.Compare a [.LtE, .LtE] [b, c] pos) (eChain fa fb fc) := by
  refine PE.weak (pe_chain op_le op_le ha hb hc hm) fun s H Q ⟨t, r, h, R, S, p⟩ => ?_
  refine ⟨t, r, h, R, S, Post.imp (Post.bind (rel := RV J) p) fun x H1 ⟨t1, h1, d, e1, R1, v1, p1⟩ => ?_⟩
  refine ⟨t1, r, h1, R1, S.mono e1, Post.imp (Post.bind (rel := RV J) p1) fun y H2 ⟨t2, h2, e, x2, R2, v2, p2⟩ => ?_⟩
  obtain ⟨i, j, rfl, rfl, p3⟩ := le_rule R2 (v1.mono x2) v2 p2
  refine ⟨i, j, rfl, rfl, _, rfl, ?_⟩
  cases q : decide (i ≤ j) with
  | true =>
    rw [q] at p3
    refine iteT ⟨t2, r, h2, R2, (S.mono e1).mono x2, Post.imp (Post.bind (rel := RV J) p3) fun z H3 ⟨t3, h3, g, x3, R3, v3, p4⟩ => ?_⟩
    have p5 : PostE J E t3 h3 H3 ((up (pLe e g h3)).bind fun d h => .ok d h) Q := by
      cases q : pLe e g h3 with
      | none => simp only [q] at p4; exact p4
      | some o => simp only [q] at p4; exact p4
    obtain ⟨i', j', e1', e2', p6⟩ := le_rule R3 (v2.mono x3) v3 p5
    exact ⟨i', j', e1', e2', p6 t3 H3 _ Ext.refl R3 (by simp only [RV])⟩
  | false =>
    rw [q] at p3
    exact iteF (p3 t2 H2 _ Ext.refl R2 (by simp only [RV]))

/-! ### dicts -/
theorem key_rv {t : Tr} {L : Addr → Prop} {H : Hp} {d : D} {x : V} {k : List Int} (v : RV J t L H d x) (e : keyOf d = some k) : ∃ q, x = .ref q ∧ KeyOk H L q k := by
  cases d with
  | ktp is =>
    simp only [keyOf, Option.some.injEq] at e
    subst e
    simpa only [RV] using v
  | _ => simp [keyOf] at e
theorem items_ints {P : Program} {w : World} : ∀ {us : List Value} {is : List Int}, PyProof.Rows.IntsAre us is → ItemsAre (PySem.intKind P w) is us
  | _, _, .nil => .nil
  | _, _, .cons n t h => .cons (intKind_is P w n t) (items_ints h)
abbrev kd (P : Program) (w : World) : HeapKind P w (List Int) := tupleKind (PySem.intKind P w)
section
variable {pins : List (Addr × Obj)} {σ : L2.St} {H : Hp} {s : Shared} {L : Addr → Prop}
theorem key_is {q : Addr} {k : List Int} (I : Inv X pins σ H s) (x : KeyOk H L q k) : (kd X.prog X.w).is s.heap k q := by
  obtain ⟨o, h1, _, h2⟩ := x
  obtain ⟨us, h3, _, _, h4⟩ := key_tup I h1 h2
  obtain ⟨k1, k2, us', n, k3, k4⟩ := h2
  exact ⟨o, us'.toArray, n, h4, k1, k3, by simpa using items_ints k4⟩
theorem dict_is {a : Addr} {o : Obj} {xs : List (List Int × Addr × Value)} (I : Inv X pins σ H s) (h : H a = some (ExO a o)) (d : DictIs a o xs) (hk : ∀ x ∈ xs, KeyOk H L x.2.1 x.1) : s.heap.DictOfH (kd X.prog X.w) a xs := by
  have g : s.heap.get? a = some o := (I.hok a _ h).1
  obtain ⟨_, d2, ⟨es, ep, d3, d4⟩, d5, _⟩ := d
  exact ⟨o, es, ep, g, d2, d3, d4, fun x hx => key_is I (hk x hx), d5⟩
/-- a dict, by its objects -/
def rInX (L : Addr → Prop) (neg : Bool) : R2 := fun x y H Q => ∃ (a q : Addr) (o : Obj) (xs : List (List Int × Addr × Value)) (k : List Int), x = .ref q ∧ y = .ref a ∧ KeyOk H L q k ∧ H a = some (ExO a o) ∧ DictIs a o xs ∧ (∀ x ∈ xs, KeyOk H L x.2.1 x.1) ∧
  Q (.bl (if neg then !(atKey xs k).isSome else (atKey xs k).isSome)) H
theorem op_inX {L : Addr → Prop} (hu : X.A.units + 1 < cLine) : OpR X (compareOp .In) (rInX L false) := by
  intro pins s σ H x y v u Q I rx ry h
  obtain ⟨a, q, o, xs, k, rfl, rfl, hk, ha, hd, hx, qq⟩ := h
  cases rx
  cases ry
  exact wpAny_in_heap (tupleKind_room_in1 hu) (key_is I hk) hd.1 (dict_is I ha hd hx) ⟨.bl _, H, I.tok _, rfl, qq⟩
theorem op_notInX {L : Addr → Prop} (hu : X.A.units + 1 < cLine) : OpR X (compareOp .NotIn) (rInX L true) := by
  intro pins s σ H x y v u Q I rx ry h
  obtain ⟨a, q, o, xs, k, rfl, rfl, hk, ha, hd, hx, qq⟩ := h
  cases rx
  cases ry
  exact wpAny_notIn_heap (tupleKind_room_in1 hu) (key_is I hk) hd.1 (dict_is I ha hd hx) ⟨.bl _, H, I.tok _, rfl, qq⟩
end
theorem atKey_cons {x : List Int × Addr × Value} {xs : List (List Int × Addr × Value)} {k : List Int} : atKey (x :: xs) k = if x.1 = k then some x.2 else atKey xs k := by
  unfold atKey
  by_cases h : x.1 = k
  · rw [List.find?_cons_of_pos (by simpa using h), if_pos h]
    rfl
  · rw [List.find?_cons_of_neg (by simpa using h), if_neg h]
/-- what is found at a key -/
theorem val_rv {t : Tr} {L : Addr → Prop} {H : Hp} (k : List Int) : ∀ {xs : List (List Int × Addr × Value)} {ws : List D} {vs : List V}, Vals vs (xs.map (·.2.2)) → RVs J t L H ws vs →
    (∀ d, lookD k (xs.map (·.1)) ws = some d → ∃ v p, atKey xs k = some p ∧ RelV v p.2 ∧ RV J t L H d v) ∧ (lookD k (xs.map (·.1)) ws = none → atKey xs k = none)
  | [], ws, vs, e, r => ⟨fun d q => by simp [lookD] at q, fun _ => rfl⟩
  | x :: xs, ws, vs, e, r => by
    cases e with
    | @cons v u vs us e1 e2 =>
      cases ws with
      | nil => simp only [RVs] at r; cases r
      | cons w ws =>
        simp only [RVs] at r
        obtain ⟨v', r', e', v1, v2⟩ := r
        simp only [List.cons.injEq] at e'
        obtain ⟨rfl, rfl⟩ := e'
        obtain ⟨i1, i2⟩ := val_rv k (xs := xs) e2 v2
        rw [atKey_cons]
        by_cases hl : x.1 = k
        · simp only [List.map_cons, lookD, hl, if_true]
          exact ⟨fun d q => by cases q; exact ⟨v, x.2, rfl, e1, v1⟩, fun q => by cases q⟩
        · simp only [List.map_cons, lookD, hl, if_false]
          exact ⟨i1, i2⟩
theorem look_isSome {t : Tr} {L : Addr → Prop} {H : Hp} (k : List Int) {xs : List (List Int × Addr × Value)} {ws : List D} {vs : List V} (e : Vals vs (xs.map (·.2.2))) (r : RVs J t L H ws vs) : (atKey xs k).isSome = (lookD k (xs.map (·.1)) ws).isSome := by
  obtain ⟨i1, i2⟩ := val_rv (J := J) (t := t) (L := L) (H := H) k e r
  cases q : lookD k (xs.map (·.1)) ws with
  | none => rw [i2 q]; rfl
  | some d =>
    obtain ⟨v, p, g, _⟩ := i1 d q
    rw [g]
    rfl
theorem ok_inX (neg : Bool) {t : Tr} {h : Hh} {H : Hp} {d e : D} {x y : V} {Q : VK} (R : RepH J t h H) (v : RV J t (live t h) H d x) (w : RV J t (live t h) H e y) (p : PostE J E t h H (up (pInD neg d e h)) Q) : rInX (live t h) neg x y H Q := by
  unfold pInD at p
  split at p
  · rename_i k ks ws q1 q2
    obtain ⟨q, rfl, hq⟩ := key_rv v q1
    obtain ⟨a, vs, rfl, ⟨o, xs, x1, x2, rfl, x4, x5⟩, r⟩ := view_d R w q2
    refine ⟨a, q, o, xs, k, rfl, rfl, hq, x1, x2, x4, p t H _ Ext.refl R ?_⟩
    rw [look_isSome (J := J) (t := t) (L := live t h) (H := H) k x5 r]
    simp only [RV]
  · exact p.elim
theorem inX_use {op : CmpOp} {neg : Bool} (ho : ∀ L, OpR X (compareOp op) (rInX L neg)) (ha : SE X J E cx a fa) (hb : SE X J E cx b fb) (hm : behindInMarks op b = false) : SE X J E cx (.Compare a [op] [b] pos) (e2 (pInD neg) fa fb) := by
  have all : OpR X (compareOp op) (fun x y H Q => ∃ L, rInX L neg x y H Q) := fun pins s σ H x y v u Q I rx ry ⟨L, h⟩ => ho L pins s σ H x y v u Q I rx ry h
  refine PE.weak (pe_cmpR all ha hb hm) fun s H Q ⟨t, r, h, R, S, p⟩ => ?_
  refine ⟨t, r, h, R, S, Post.imp (Post.bind (rel := RV J) p) fun x H1 ⟨t1, h1, d, e1, R1, v1, p1⟩ => ?_⟩
  refine ⟨t1, r, h1, R1, S.mono e1, Post.imp (Post.bind (rel := RV J) p1) fun y H2 ⟨t2, h2, e, x2, R2, v2, p2⟩ => ?_⟩
  exact ⟨_, ok_inX neg R2 (v1.mono x2) v2 p2⟩
theorem se_inD {n : Nat} (hr : Room n X.A) (ha : SE X J E cx a fa) (hb : SE X J E cx b fb) (hm : behindInMarks .In b = false := by rfl) : SE X J E cx (.Compare a [.In] [b] pos) (e2 (pInD false) fa fb) :=
  inX_use (fun _ => op_inX (hu_of hr)) ha hb hm
theorem se_notInD {n : Nat} (hr : Room n X.A) (ha : SE X J E cx a fa) (hb : SE X J E cx b fb) (hm : behindInMarks .NotIn b = false := by rfl) : SE X J E cx (.Compare a [.NotIn] [b] pos) (e2 (pInD true) fa fb) :=
  inX_use (fun _ => op_notInX (hu_of hr)) ha hb hm
theorem se_ixD {n : Nat} (hr : Room n X.A) (ha : SE X J E cx a fa) (hb : SE X J E cx b fb) (hs : NoSl b := by exact fun _ _ => rfl) : SE X J E cx (.Subscript a b pos) (e2 pIxD fa fb) := by
  have rule : PE X (.Subscript a b pos) (fun σ H Q => (tE J E cx fa) σ H fun x H1 => (tE J E cx fb) σ H1 fun y H2 => ∃ (L : Addr → Prop) (l q : Addr) (o : Obj) (xs : List (List Int × Addr × Value)) (k : List Int) (pv : Addr × Value) (v : V), x = .ref l ∧ y = .ref q ∧ KeyOk H2 L q k ∧ H2 l = some (ExO l o) ∧ DictIs l o xs ∧ (∀ x ∈ xs, KeyOk H2 L x.2.1 x.1) ∧ atKey xs k = some pv ∧ RelV v pv.2 ∧ Q v H2) := by
    refine ⟨fun pins s σ H Q I h => ?_⟩
    refine subD_of PySem.F.slot_dict_getitem.lookup hs (thn (ha.run pins s σ H _ I h) fun u s1 ⟨x, H1, I1, rx, q1⟩ => thn (hb.run pins s1 σ H1 _ I1 q1) fun iv s2 ⟨y, H2, I2, ry, L, l, q, o, xs, k, pv, v, ex, ey, hk, hl, hd, hx, hp, rv, q2⟩ => ?_)
    subst ex ey
    obtain rfl : u = Value.ref l := rx
    obtain rfl : iv = Value.ref q := ry
    have dd := dict_is I2 hl hd hx
    exact ⟨dd.typeIs, wpAny_getItem_heap (tupleKind_room_in1 (hu_of hr)) (key_is I2 hk) dd hp ⟨v, H2, I2.tok _, rv, q2⟩⟩
  refine PE.weak rule fun s H Q ⟨t, r, h, R, S, p⟩ => ?_
  refine ⟨t, r, h, R, S, Post.imp (Post.bind (rel := RV J) p) fun x H1 ⟨t1, h1, d, e1, R1, v1, p1⟩ => ?_⟩
  refine ⟨t1, r, h1, R1, S.mono e1, Post.imp (Post.bind (rel := RV J) p1) fun y H2 ⟨t2, h2, e, x2, R2, v2, p2⟩ => ?_⟩
  dsimp only at p2
  unfold pIxD at p2
  split at p2
  · rename_i ks ws k q1 q2
    obtain ⟨q, rfl, hq⟩ := key_rv v2 q2
    obtain ⟨l, vs, rfl, ⟨o, xs, y1, y2, rfl, y4, y5⟩, rr⟩ := view_d R2 (v1.mono x2) q1
    split at p2
    · rename_i d qd
      obtain ⟨v, pv, g1, g2, g3⟩ := (val_rv (J := J) k y5 rr).1 d qd
      exact ⟨live t2 h2, l, q, o, xs, k, pv, v, rfl, rfl, hq, y1, y2, y4, g1, g2, p2 t2 H2 _ Ext.refl R2 g3⟩
    · exact p2.elim
  · exact p2.elim

/-! ### subscripts, slices -/
theorem atI_rv {t : Tr} {L : Addr → Prop} {H : Hp} {xs : List D} {vs : List V} {i : Int} {d : D} (r : RVs J t L H xs vs) (e : M.atI xs i = some d) : ∃ v, L2.atI vs i = some v ∧ RV J t L H d v := by
  unfold M.atI at e
  have hn : M.ixN xs.length i = L2.ixN vs.length i := by rw [r.length]; rfl
  rw [hn] at e
  cases q : L2.ixN vs.length i with
  | none => rw [q] at e; cases e
  | some j =>
    rw [q] at e
    obtain ⟨v, g1, g2⟩ := r.get (show xs[j]? = some d from e)
    exact ⟨v, by unfold L2.atI; rw [q]; exact g1, g2⟩
theorem ok_ix (K : PySem.W.Frag) : Ok2 J pIx (rIx K) := fun t h H d e x y Q R v w p => by
  unfold pIx at p
  split at p
  · rename_i xs i q
    simp only [RV] at w
    split at p
    · rename_i d' q2
      obtain ⟨l, vs, rfl, hl, r⟩ := view_s R v q
      obtain ⟨z, g1, g2⟩ := atI_rv r q2
      rcases hl with hl | hl
      · exact .inl ⟨l, vs, i, z, rfl, w, SqL.of hl, g1, p t H _ Ext.refl R g2⟩
      · exact .inr (.inl ⟨l, vs, i, z, rfl, w, SqT.of hl, g1, p t H _ Ext.refl R g2⟩)
    · exact p.elim
  · exact p.elim
theorem se_ix (ha : SE X J E cx a fa) (hb : SE X J E cx b fb) (hs : PlainIx b := by exact fun _ _ => rfl) : SE X J E cx (.Subscript a b pos) (e2 pIx fa fb) := by
  refine PE.weak (pe_ix ix_seq ha hb hs) fun s H Q ⟨t, r, h, R, S, p⟩ => ?_
  refine ⟨t, r, h, R, S, Post.imp (Post.bind (rel := RV J) p) fun x H1 ⟨t1, h1, d, e1, R1, v1, p1⟩ => ?_⟩
  refine ⟨t1, r, h1, R1, S.mono e1, Post.imp (Post.bind (rel := RV J) p1) fun y H2 ⟨t2, h2, e, x2, R2, v2, p2⟩ => ?_⟩
  exact ok_ix X.K t2 h2 H2 d e x y Q R2 (v1.mono x2) v2 p2.noexc
theorem cut_rv {t : Tr} {L : Addr → Prop} {H : Hp} {xs : List D} {vs : List V} {lo hi : Option Int} (r : RVs J t L H xs vs) : RVs J t L H (cut xs lo hi) (cutV vs lo hi) := by
  have e : ∀ n d o, M.sIx n d o = HT.sIx n d o := fun n d o => by cases o <;> rfl
  unfold cut cutV
  rw [r.length, e, e]
  exact (r.drop _).take _
theorem se_to (m : Bool) {p2 : Pos} (ha : SE X J E cx a fa) (hb : SE X J E cx b fb) : SE X J E cx (.Subscript a (.Slice none (some b) none p2) pos) (e2 (pTo m) fa fb) := by
  refine PE.weak (pe_slice sl_list ha po_none (po_some hb)) fun s H Q ⟨t, r, h, R, S, p⟩ => ?_
  refine ⟨t, r, h, R, S, Post.imp (Post.bind (rel := RV J) p) fun x H1 ⟨t1, h1, d, e1, R1, v1, p1⟩ => ?_⟩
  refine ⟨t1, r, h1, R1, S.mono e1, Post.imp (Post.bind (rel := RV J) p1) fun y H2 ⟨t2, h2, e, x2, R2, v2, p2⟩ => ?_⟩
  dsimp only at p2
  unfold pTo at p2
  split at p2
  · rename_i xs j q
    simp only [RV] at v2
    obtain ⟨l, vs, rfl, hl, r⟩ := view_l R2 (v1.mono x2) q
    exact ⟨j, v2, l, vs, rfl, SqL.of hl, fun q hq => new_list R2 (cut_rv r) p2 q hq⟩
  · exact p2.elim
theorem se_from (m : Bool) {p2 : Pos} (ha : SE X J E cx a fa) (hb : SE X J E cx b fb) : SE X J E cx (.Subscript a (.Slice (some b) none none p2) pos) (e2 (pFrom m) fa fb) := by
  refine PE.weak (pe_slice sl_list ha (po_some hb) po_none) fun s H Q ⟨t, r, h, R, S, p⟩ => ?_
  refine ⟨t, r, h, R, S, Post.imp (Post.bind (rel := RV J) p) fun x H1 ⟨t1, h1, d, e1, R1, v1, p1⟩ => ?_⟩
  refine ⟨t1, r, h1, R1, S.mono e1, Post.imp (Post.bind (rel := RV J) p1) fun y H2 ⟨t2, h2, e, x2, R2, v2, p2⟩ => ?_⟩
  dsimp only at p2
  unfold pFrom at p2
  split at p2
  · rename_i xs j q
    simp only [RV] at v2
    obtain ⟨l, vs, rfl, hl, r⟩ := view_l R2 (v1.mono x2) q
    exact ⟨j, v2, l, vs, rfl, SqL.of hl, fun q hq => new_list R2 (cut_rv r) p2 q hq⟩
  · exact p2.elim
theorem se_rev (m : Bool) {k : Nat} {p1 p2 p3 : Pos} (ha : SE X J E cx a fa) : SE X J E cx (.Subscript a (.Slice none none (some (.UnaryOp .USub (.Constant (.int 1) k p1) p2)) p3) pos) (e1 (pRev m) fa) := by
  refine PE.weak (pe_revL ha) fun s H Q ⟨t, r, h, R, S, p⟩ => ?_
  refine ⟨t, r, h, R, S, Post.imp (Post.bind (rel := RV J) p) fun x H1 ⟨t1, h1, d, e1, R1, v1, p1⟩ => ?_⟩
  dsimp only at p1
  unfold pRev at p1
  split at p1
  · rename_i xs q
    obtain ⟨l, vs, rfl, hl, r⟩ := view_l R1 v1 q
    exact ⟨l, vs, rfl, SqL.of hl, fun q hq => new_list R1 r.reverse p1 q hq⟩
  · exact p1.elim
end
end M

set_option Elab.async false
set_option linter.all false
set_option maxRecDepth 100000
set_option maxHeartbeats 4000000
/-! Built-in functions, methods. -/
namespace M
open PySem L2 PyProof.Rows

def OkC1 (J : Inf) (f : D → Hh → Option (D × Hh)) (r : List V → Hp → VK → Prop) : Prop :=
  ∀ t h H d x Q, RepH J t h H → RV J t (live t h) H d x → PostE J E0 t h H (up (f d h)) Q → r [x] H Q
def OkC2 (J : Inf) (f : D → D → Hh → Option (D × Hh)) (r : List V → Hp → VK → Prop) : Prop :=
  ∀ t h H d e x y Q, RepH J t h H → RV J t (live t h) H d x → RV J t (live t h) H e y → PostE J E0 t h H (up (f d e h)) Q → r [x, y] H Q

section
variable {X : Cx} {J : Inf} {E : XK} {cx : Ctx} {n : Nat} {pos p : Pos} {a b c : Expr} {fa fb fc : FE} {x : Str} {id T : String} {r : List V → Hp → VK → Prop} {f : D → Hh → Option (D × Hh)} {g : D → D → Hh → Option (D × Hh)}

theorem se_b1 (hc : CallR X (.builtin id) r) (hf : OkC1 J f r) (hm : X.mg x = none) (hv : bootBuiltins x = some (.builtin id)) (ha : SE X J E cx a fa) (hg : Gl X x) (hn : x ≠ "__name__") (hdb : (x == ("__debug__" : Str)) = false)
    (hs : starEach [a] X.env = (false, eval a X.env) :: starEach [] X.env) : SE X J E cx (.Call (.Name x p) [a] [] pos) (e1 f fa) := by
  refine PE.weak (pe_callB hc hg hm hv (pa_cons ha pa_nil hs) hn hdb hs rfl) fun s H Q ⟨t, r, h, R, S, p⟩ => ?_
  refine ⟨t, r, h, R, S, Post.imp (Post.bind (rel := RV J) p) fun x H1 ⟨t1, h1, d, e1, R1, v1, p1⟩ => ?_⟩
  exact hf t1 h1 H1 d x Q R1 v1 (Post.noexc p1)
theorem se_t1 (hc : CallR X (.type T) r) (hf : OkC1 J f r) (hm : X.mg x = none) (hv : bootBuiltins x = some (.type T)) (ha : SE X J E cx a fa) (hg : Gl X x) (hn : x ≠ "__name__") (hdb : (x == ("__debug__" : Str)) = false)
    (hs : starEach [a] X.env = (false, eval a X.env) :: starEach [] X.env) : SE X J E cx (.Call (.Name x p) [a] [] pos) (e1 f fa) := by
  refine PE.weak (pe_callTy hc hg hm hv (pa_cons ha pa_nil hs) hn hdb hs rfl) fun s H Q ⟨t, r, h, R, S, p⟩ => ?_
  refine ⟨t, r, h, R, S, Post.imp (Post.bind (rel := RV J) p) fun x H1 ⟨t1, h1, d, e1, R1, v1, p1⟩ => ?_⟩
  exact hf t1 h1 H1 d x Q R1 v1 (Post.noexc p1)
theorem se_b2 (hc : CallR X (.builtin id) r) (hf : OkC2 J g r) (hm : X.mg x = none) (hv : bootBuiltins x = some (.builtin id)) (ha : SE X J E cx a fa) (hb : SE X J E cx b fb) (hg : Gl X x) (hn : x ≠ "__name__") (hdb : (x == ("__debug__" : Str)) = false)
    (hs : starEach [a, b] X.env = (false, eval a X.env) :: starEach [b] X.env) (hs2 : starEach [b] X.env = (false, eval b X.env) :: starEach [] X.env) : SE X J E cx (.Call (.Name x p) [a, b] [] pos) (e2 g fa fb) := by
  have hpl : (backTo pos (starEach [b] X.env)).any (·.1) = false := by rw [hs2]; rfl
  refine PE.weak (pe_callB hc hg hm hv (pa_cons ha (pa_cons hb pa_nil hs2) hs) hn hdb hs hpl) fun s H Q ⟨t, r, h, R, S, p⟩ => ?_
  refine ⟨t, r, h, R, S, Post.imp (Post.bind (rel := RV J) p) fun x H1 ⟨t1, h1, d, e1, R1, v1, p1⟩ => ?_⟩
  refine ⟨t1, r, h1, R1, S.mono e1, Post.imp (Post.bind (rel := RV J) p1) fun y H2 ⟨t2, h2, e, x2, R2, v2, p2⟩ => ?_⟩
  exact hf t2 h2 H2 d e x y Q R2 (v1.mono x2) v2 (Post.noexc p2)

/-! ### what each asks -/
theorem oc_len : OkC1 J pLen (fun xs H Q => ∃ p ys, xs = [.ref p] ∧ (SqL X.K H p ys ∨ SqT X.K H p ys) ∧ Q (.int ys.length) H) := fun t h H d x Q R v p => by
  unfold pLen at p
  split at p
  · rename_i xs q
    obtain ⟨a, vs, rfl, hl, r⟩ := view_s R v q
    refine ⟨a, vs, rfl, hl.imp SqL.of SqT.of, ?_⟩
    exact p t H _ Ext.refl R (by simp only [RV, r.length])
  · exact p.elim
theorem bind_ints {h : Hh} {d : D} {is : List Int} {w : Hh → D → Option (List D)} (e : (w h d).bind intsOf = some is) : w h d = some (is.map D.int) := by
  cases q : w h d with
  | none => rw [q] at e; cases e
  | some xs =>
    rw [q] at e
    rw [ints_some (show M.intsOf xs = some is from e)]
theorem key_few {is : List Int} {us : List Value} (h : PyProof.Rows.IntsAre us is) : us.length = is.length := h.length
def rListM (K : PySem.W.Frag) : List V → Hp → VK → Prop := fun xs H Q => (∃ p ys, xs = [.ref p] ∧ (SqL K H p ys ∨ SqT K H p ys) ∧ ∀ l, H l = none → Q (.ref l) (upd H l (.lst ys))) ∨
  ∃ (p : Addr) (o : Obj) (is : List Int), xs = [.ref p] ∧ H p = some (ExO p o) ∧ TupIs o is ∧ is.length ≤ sizeLine ∧ ∀ l, H l = none → Q (.ref l) (upd H l (.lst (is.map V.int)))
theorem cr_listM : CallR X (.type "list") (rListM X.K) := by
  refine CallR.or call_list_of ?_
  intro pins s σ H xs us Q I r h
  obtain ⟨p, o, is, rfl, hp, hk, few, q⟩ := h
  rw [Vals.ref1 r]
  obtain ⟨vs, k1, k2, ⟨o', ho, hc, n, hd⟩, _⟩ := key_tup I hp hk
  have ln := key_few k1
  refine call_list_seq p (.inr rfl) ho hc hd (fun h' c' kp e => ?_) (by simp only [List.size_toArray]; omega)
  exact ⟨.ref s.heap.objs.size, _, I.laid (t' := s.toks) kp (Nat.le_refl _) (show ObjOk X.prog X.w _ h' _ (.lst (is.map V.int)) from ⟨by simpa using few, vs, c', k2, e⟩), rfl, q _ (I.hok.fresh (Nat.le_refl _))⟩
theorem oc_list (m : Bool) : OkC1 J (pList m) (rListM X.K) := fun t h H d x Q R v p => by
  unfold pList at p
  cases d with
  | ktp is =>
    have v' := v
    simp only [RV] at v'
    obtain ⟨a, rfl, o, h1, h2, h3⟩ := v'
    by_cases few : is.length ≤ LIM
    · rw [show viewK h (.ktp is) = some (is.map D.int) from if_pos few] at p
      exact .inr ⟨a, o, is, rfl, h1, h3, lim_size few, fun q hq => new_list R (RVs.of_ints is) p q hq⟩
    · rw [show viewK h (.ktp is) = none from if_neg few] at p
      exact p.elim
  | _ =>
    split at p
    · rename_i xs q
      obtain ⟨a, vs, rfl, hl, r⟩ := view_s R v (by simpa only [viewK] using q)
      exact .inl ⟨a, vs, rfl, hl.imp SqL.of SqT.of, fun q hq => new_list R r p q hq⟩
    · exact p.elim
/-- tuple(x), x a list of numbers: the tuple's object is known -/
def rTupX (K : PySem.W.Frag) : List V → Hp → VK → Prop := fun xs H Q => ∃ (p : Addr) (is : List Int), xs = [.ref p] ∧ SqL K H p (is.map V.int) ∧ ∀ l o, H l = none → TupIs o is → Q (.ref l) (upd H l (ExO l o))
theorem cr_tupX : CallR X (.type "tuple") (rTupX X.K) := by
  intro pins s σ H xs us Q I r h
  obtain ⟨p, is, rfl, hq, q⟩ := h
  rw [Vals.ref1 r]
  obtain ⟨its, r', pl, hz⟩ := I.list hq
  have hlen := r'.length
  refine call_tuple_list pl.isList (fun h' kp => ?_) (by simp only [List.size_toArray]; omega)
  have I1 : Inv X pins σ H { s with heap := h' } := I.kept (t' := s.toks) kp
  exact ⟨.ref h'.objs.size, _, I1.laid (t' := s.toks) (fun b o e => Heap.get?_push_of_some _ e) (Nat.le_refl _) (exO_new (Heap.get?_push_size _ rfl)), rfl, q _ _ (I1.hok.fresh (Nat.le_refl _)) ⟨rfl, rfl, its, _, rfl, r'.ints⟩⟩
theorem oc_tuple : OkC1 J pTuple (rTupX X.K) := fun t h H d x Q R v p => by
  unfold pTuple at p
  split at p
  · rename_i is q
    obtain ⟨a, vs, rfl, hl, r⟩ := view_l R v (bind_ints q)
    have e := r.ints
    subst e
    refine ⟨a, is, rfl, SqL.of hl, fun l o nl ht => p t _ _ (Ext.laid R nl) (R.laid nl) ?_⟩
    simp only [RV]
    exact ⟨l, rfl, o, upd_same, R.fresh nl, ht⟩
  · exact p.elim
theorem oc_int : OkC1 J pInt (fun xs H Q => (∃ i, xs = [.int i] ∧ Q (.int i) H) ∨ ∃ k, xs = [.bl k] ∧ Q (.int (if k then 1 else 0)) H) := fun t h H d x Q R v p => by
  unfold pInt at p
  split at p
  · rename_i i
    simp only [RV] at v
    exact .inl ⟨i, by rw [v], p t H _ Ext.refl R (by simp only [RV])⟩
  · rename_i i
    simp only [RV] at v
    exact .inr ⟨i, by rw [v], p t H _ Ext.refl R (by simp only [RV])⟩
  · exact p.elim
theorem isum_eq : ∀ is : List Int, isum is = is.sum
  | [] => rfl
  | i :: is => by simp only [isum, isum_eq is, List.sum_cons]
theorem bind_bools {h : Hh} {d : D} {is : List Bool} {w : Hh → D → Option (List D)} (e : (w h d).bind boolsOf = some is) : w h d = some (is.map D.bl) := by
  cases q : w h d with
  | none => rw [q] at e; cases e
  | some xs =>
    rw [q] at e
    rw [bools_some (show M.boolsOf xs = some is from e)]
theorem sum_tup {prog : Program} {w : World} {A : Around} {E : Value → Shared → Prop} {s : Shared} {l : Addr} {its : List Value} {ns : List Int} {Q : Value → Shared → Prop} (hh : A.handled = none) (hl : s.heap.IsTuple l its.toArray) (hi : IntsAre its ns)
    (h : ∀ h' tk t', (∀ b o, s.heap.get? b = some o → h'.get? b = some o) → Q (.int ns.sum t') { s with heap := h', toks := tk }) : wpAny (model prog w) A (call (.builtin "sum") [.ref l]) Q E s := by
  obtain ⟨xs, e⟩ := hi.allInts.items
  have hn : numsOf (intItems xs).toList = ns := by rw [← e]; exact hi.numsOf
  rw [nums_intItems] at hn
  rw [e] at hl
  have hlt : l < s.heap.objs.size := by obtain ⟨_, e, _⟩ := hl; exact Heap.lt_size e
  refine call_sum_walkG (wpAny_pyIter_tuple hl ?_)
  refine ⟨s.heap.objs.size, _, _, _, _, _, numAt xs, rfl, Walks.tuple (A := A.in1) hh _ l (Nat.ne_of_lt hlt) (intItems xs), ⟨⟨_, Heap.get?_push_size _ rfl, rfl, rfl⟩, ?_⟩, fun b hb => ?_, (fun _ _ => intItems_at), fun h' tk t' hk => ?_⟩
  · obtain ⟨o, e1, e2⟩ := hl
    exact ⟨o, Heap.get?_push_of_some _ e1, e2⟩
  · rw [Heap.size_push]
    rcases List.mem_cons.mp hb with rfl | hb
    · exact Nat.lt_succ_self _
    · rcases List.mem_cons.mp hb with rfl | hb
      · exact Nat.lt_succ_of_lt hlt
      · cases hb
  · have := h h' tk t' fun b o q => hk b o (by simp; exact Nat.ne_of_lt (Heap.lt_size q)) (Heap.get?_push_of_some _ q)
    have e : (preSum (numAt xs) (intItems xs).size) = ns.sum := by
      have e2 : (intItems xs).size = xs.size := by simp [intItems]
      rw [e2, preSum_eq, List.take_of_length_le (by simp), hn]
    rw [e]
    exact this
def rSumM (K : PySem.W.Frag) : List V → Hp → VK → Prop := fun vs H Q => rSum K vs H Q ∨ ((∃ (a : Addr) (ns : List Int), vs = [V.ref a] ∧ H a = some (.tup (ns.map V.int)) ∧ Q (.int ns.sum) H) ∨ ∃ (a : Addr) (o : Obj) (ns : List Int), vs = [V.ref a] ∧ H a = some (ExO a o) ∧ TupIs o ns ∧ Q (.int ns.sum) H)
theorem cr_sumM (hc : X.calm = true) : CallR X (.builtin "sum") (rSumM X.K) := by
  refine CallR.or (cr_sum hc) (CallR.or ?_ ?_)
  · intro pins s σ H vs us Q I r h
    obtain ⟨a, ns, rfl, hs, q⟩ := h
    obtain ⟨its, rv, hl, _⟩ := I.tuple (SqT.of hs)
    rw [Vals.ref1 r]
    exact sum_tup (I.ok.hd hc) hl rv.ints fun h' tk t' hk => ⟨.int _, H, I.kept hk, ⟨_, rfl⟩, q⟩
  · intro pins s σ H vs us Q I r h
    obtain ⟨a, o, ns, rfl, hs, hk, q⟩ := h
    obtain ⟨its, rv, _, hl, _⟩ := key_tup I hs hk
    rw [Vals.ref1 r]
    exact sum_tup (I.ok.hd hc) hl rv fun h' tk t' hk => ⟨.int _, H, I.kept hk, ⟨_, rfl⟩, q⟩
theorem oc_sum (K : PySem.W.Frag) : OkC1 J pSum (rSumM K) := fun t h H d x Q R v p => by
  unfold pSum at p
  split at p
  · rename_i is q
    have p' := p t H (.int (isum is)) Ext.refl R (by simp only [RV])
    rw [isum_eq] at p'
    cases d with
    | ktp js =>
      have e : is = js := by
        have z : js.map D.int = is.map D.int := by
          by_cases few : js.length ≤ LIM
          · rw [show viewK h (.ktp js) = some (js.map D.int) from if_pos few] at q
            exact ints_some q
          · rw [show viewK h (.ktp js) = none from if_neg few] at q
            cases q
        exact ((List.map_inj_right (fun _ _ h => D.int.inj h)).mp z).symm
      subst e
      simp only [RV] at v
      obtain ⟨a, rfl, o, h1, h2, h3⟩ := v
      exact .inr (.inr ⟨a, o, is, rfl, h1, h3, p'⟩)
    | _ =>
      obtain ⟨a, vs, rfl, hl, r⟩ := view_s R v (bind_ints (by simpa only [viewK] using q))
      have e := r.ints
      subst e
      rcases hl with hl | hl
      · exact .inl ⟨a, is, rfl, SqL.of hl, p'⟩
      · exact .inr (.inl ⟨a, is, rfl, hl, p'⟩)
  · exact p.elim
theorem oc_all (K : PySem.W.Frag) : OkC1 J pAll (rAll K) := fun t h H d x Q R v p => by
  unfold pAll at p
  split at p
  · rename_i is q
    obtain ⟨a, vs, rfl, hl, r⟩ := view_l R v (bind_bools q)
    have e := r.bools
    subst e
    exact ⟨a, is, rfl, SqL.of hl, p t H _ Ext.refl R (by simp only [RV])⟩
  · exact p.elim
theorem oc_any (K : PySem.W.Frag) : OkC1 J pAny (rAny K) := fun t h H d x Q R v p => by
  unfold pAny at p
  split at p
  · rename_i is q
    obtain ⟨a, vs, rfl, hl, r⟩ := view_l R v (bind_bools q)
    have e := r.bools
    subst e
    exact ⟨a, is, rfl, SqL.of hl, p t H _ Ext.refl R (by simp only [RV])⟩
  · exact p.elim
theorem oc_abs : OkC1 J pAbs (fun xs H Q => ∃ i, xs = [.int i] ∧ Q (.int (if i < 0 then -i else i)) H) := fun t h H d x Q R v p => by
  unfold pAbs at p
  split at p
  · rename_i i
    simp only [RV] at v
    exact ⟨i, by rw [v], p t H _ Ext.refl R (by simp only [RV])⟩
  · exact p.elim
theorem oc_max2 : OkC2 J pMax2 (fun xs H Q => ∃ i j, xs = [.int i, .int j] ∧ Q (.int (if j > i then j else i)) H) := fun t h H d e x y Q R v w p => by
  unfold pMax2 at p
  split at p
  · rename_i i j
    simp only [RV] at v w
    exact ⟨i, j, by rw [v, w], p t H _ Ext.refl R (by simp only [RV])⟩
  · exact p.elim
theorem oc_min2 : OkC2 J pMin2 (fun xs H Q => ∃ i j, xs = [.int i, .int j] ∧ Q (.int (if j < i then j else i)) H) := fun t h H d e x y Q R v w p => by
  unfold pMin2 at p
  split at p
  · rename_i i j
    simp only [RV] at v w
    exact ⟨i, j, by rw [v, w], p t H _ Ext.refl R (by simp only [RV])⟩
  · exact p.elim
theorem imax_spec : ∀ (is : List Int) (m : Int), (imax m is = m ∨ imax m is ∈ is) ∧ m ≤ imax m is ∧ ∀ i ∈ is, i ≤ imax m is
  | [], m => ⟨.inl rfl, Int.le_refl _, fun _ z => nomatch z⟩
  | i :: is, m => by
    obtain ⟨h1, h2, h3⟩ := imax_spec is (if m < i then i else m)
    unfold imax
    by_cases h : m < i
    · rw [if_pos h] at h1 h2 h3 ⊢
      refine ⟨.inr ?_, by omega, fun j hj => ?_⟩
      · rcases h1 with z | z
        · rw [z]; simp
        · exact List.mem_cons_of_mem _ z
      · rcases List.mem_cons.mp hj with rfl | hj
        · exact h2
        · exact h3 j hj
    · rw [if_neg h] at h1 h2 h3 ⊢
      refine ⟨h1.imp id (List.mem_cons_of_mem _), h2, fun j hj => ?_⟩
      rcases List.mem_cons.mp hj with rfl | hj
      · omega
      · exact h3 j hj
theorem imin_spec : ∀ (is : List Int) (m : Int), (imin m is = m ∨ imin m is ∈ is) ∧ imin m is ≤ m ∧ ∀ i ∈ is, imin m is ≤ i
  | [], m => ⟨.inl rfl, Int.le_refl _, fun _ z => nomatch z⟩
  | i :: is, m => by
    obtain ⟨h1, h2, h3⟩ := imin_spec is (if i < m then i else m)
    unfold imin
    by_cases h : i < m
    · rw [if_pos h] at h1 h2 h3 ⊢
      refine ⟨.inr ?_, by omega, fun j hj => ?_⟩
      · rcases h1 with z | z
        · rw [z]; simp
        · exact List.mem_cons_of_mem _ z
      · rcases List.mem_cons.mp hj with rfl | hj
        · exact h2
        · exact h3 j hj
    · rw [if_neg h] at h1 h2 h3 ⊢
      refine ⟨h1.imp id (List.mem_cons_of_mem _), h2, fun j hj => ?_⟩
      rcases List.mem_cons.mp hj with rfl | hj
      · omega
      · exact h3 j hj
theorem oc_max1 (K : PySem.W.Frag) : OkC1 J pMax1 (rMax K) := fun t h H d x Q R v p => by
  unfold pMax1 at p
  split at p
  · rename_i i is q
    obtain ⟨a, vs, rfl, hl, r⟩ := view_l R v (bind_ints q)
    have e := r.ints
    subst e
    refine ⟨a, i :: is, rfl, SqL.of hl, by simp, fun m hm hle => ?_⟩
    obtain ⟨h1, h2, h3⟩ := imax_spec is i
    have e : m = imax i is := by
      have g1 : imax i is ≤ m := hle _ (by
        rcases h1 with z | z
        · rw [z]; simp
        · exact List.mem_cons_of_mem _ z)
      have g2 : m ≤ imax i is := by
        rcases List.mem_cons.mp hm with rfl | z
        · exact h2
        · exact h3 m z
      omega
    rw [e]
    exact p t H _ Ext.refl R (by simp only [RV])
  · exact p.elim
theorem oc_min1 (K : PySem.W.Frag) : OkC1 J pMin1 (rMin K) := fun t h H d x Q R v p => by
  unfold pMin1 at p
  split at p
  · rename_i i is q
    obtain ⟨a, vs, rfl, hl, r⟩ := view_l R v (bind_ints q)
    have e := r.ints
    subst e
    refine ⟨a, i :: is, rfl, SqL.of hl, by simp, fun m hm hle => ?_⟩
    obtain ⟨h1, h2, h3⟩ := imin_spec is i
    have e : m = imin i is := by
      have g1 : m ≤ imin i is := hle _ (by
        rcases h1 with z | z
        · rw [z]; simp
        · exact List.mem_cons_of_mem _ z)
      have g2 : imin i is ≤ m := by
        rcases List.mem_cons.mp hm with rfl | z
        · exact h2
        · exact h3 m z
      omega
    rw [e]
    exact p t H _ Ext.refl R (by simp only [RV])
  · exact p.elim
theorem insI_perm (i : Int) : ∀ js : List Int, (insI i js).Perm (i :: js)
  | [] => .refl _
  | j :: js => by
    unfold insI
    split
    · exact .refl _
    · exact ((insI_perm i js).cons j).trans (.swap i j js)
theorem sortI_perm : ∀ is : List Int, (sortI is).Perm is
  | [] => .refl _
  | i :: is => (insI_perm i (sortI is)).trans ((sortI_perm is).cons i)
theorem insI_sorted (i : Int) : ∀ js : List Int, js.Pairwise (· ≤ ·) → (insI i js).Pairwise (· ≤ ·)
  | [], _ => by simp [insI]
  | j :: js, h => by
    rw [List.pairwise_cons] at h
    unfold insI
    split
    · rename_i hij
      rw [List.pairwise_cons]
      refine ⟨fun k hk => ?_, List.pairwise_cons.mpr h⟩
      rcases List.mem_cons.mp hk with rfl | hk
      · exact hij
      · exact Int.le_trans hij (h.1 k hk)
    · rename_i hij
      rw [List.pairwise_cons]
      refine ⟨fun k hk => ?_, insI_sorted i js h.2⟩
      rcases List.mem_cons.mp ((insI_perm i js).mem_iff.mp hk) with rfl | hk
      · omega
      · exact h.1 k hk
theorem sortI_sorted : ∀ is : List Int, (sortI is).Pairwise (· ≤ ·)
  | [] => .nil
  | i :: is => insI_sorted i _ (sortI_sorted is)
theorem sorted_same {l m : List Int} (p : l.Perm m) (h1 : l.Pairwise (· ≤ ·)) (h2 : m.Pairwise (· ≤ ·)) : l = m :=
  p.eq_of_pairwise (fun a b _ _ h h' => Int.le_antisymm h h') h1 h2
theorem oc_sorted (K : PySem.W.Frag) : OkC1 J pSorted (rSortedI K) := fun t h H d x Q R v p => by
  unfold pSorted at p
  split at p
  · rename_i is q
    obtain ⟨a, vs, rfl, hl, r⟩ := view_l R v (bind_ints q)
    have e := r.ints
    subst e
    refine ⟨a, is, rfl, SqL.of hl, fun ns' l h1 h2 hq => ?_⟩
    have e : ns' = sortI is := sorted_same (h1.trans (sortI_perm is).symm) h2 (sortI_sorted is)
    subst e
    refine p t _ _ (Ext.laid R hq) (R.laid hq) ?_
    simp only [RV]
    exact ⟨l, _, rfl, upd_same, R.fresh hq, RVs.of_ints _⟩
  · exact p.elim

/-! ### by their names -/
variable (BB : Blt X.mg)
include BB
theorem se_len (ha : SE X J E cx a fa) (hg : Gl X "len" := by rfl) (hs : starEach [a] X.env = (false, eval a X.env) :: starEach [] X.env := by rfl) : SE X J E cx (.Call (.Name "len" p) [a] [] pos) (e1 pLen fa) :=
  se_b1 call_len_seq oc_len BB.len PySem.boot_len ha hg (by decide) (by decide) hs
theorem se_list (m : Bool) (ha : SE X J E cx a fa) (hg : Gl X "list" := by rfl) (hs : starEach [a] X.env = (false, eval a X.env) :: starEach [] X.env := by rfl) : SE X J E cx (.Call (.Name "list" p) [a] [] pos) (e1 (pList m) fa) :=
  se_t1 cr_listM (oc_list m) BB.list (by decide +kernel) ha hg (by decide) (by decide) hs
theorem se_tuple (ha : SE X J E cx a fa) (hg : Gl X "tuple" := by rfl) (hs : starEach [a] X.env = (false, eval a X.env) :: starEach [] X.env := by rfl) : SE X J E cx (.Call (.Name "tuple" p) [a] [] pos) (e1 pTuple fa) :=
  se_t1 cr_tupX oc_tuple BB.tuple (by decide +kernel) ha hg (by decide) (by decide) hs
theorem se_toint (ha : SE X J E cx a fa) (hg : Gl X "int" := by rfl) (hs : starEach [a] X.env = (false, eval a X.env) :: starEach [] X.env := by rfl) : SE X J E cx (.Call (.Name "int" p) [a] [] pos) (e1 pInt fa) :=
  se_t1 call_int1 oc_int BB.int (by decide +kernel) ha hg (by decide) (by decide) hs
theorem se_sum (hc : X.calm = true) (ha : SE X J E cx a fa) (hg : Gl X "sum" := by rfl) (hs : starEach [a] X.env = (false, eval a X.env) :: starEach [] X.env := by rfl) : SE X J E cx (.Call (.Name "sum" p) [a] [] pos) (e1 pSum fa) :=
  se_b1 (cr_sumM hc) (oc_sum _) BB.sum (by decide +kernel) ha hg (by decide) (by decide) hs
theorem se_all (hc : X.calm = true) (ha : SE X J E cx a fa) (hg : Gl X "all" := by rfl) (hs : starEach [a] X.env = (false, eval a X.env) :: starEach [] X.env := by rfl) : SE X J E cx (.Call (.Name "all" p) [a] [] pos) (e1 pAll fa) :=
  se_b1 (cr_all hc) (oc_all _) BB.all (by decide +kernel) ha hg (by decide) (by decide) hs
theorem se_any (hc : X.calm = true) (ha : SE X J E cx a fa) (hg : Gl X "any" := by rfl) (hs : starEach [a] X.env = (false, eval a X.env) :: starEach [] X.env := by rfl) : SE X J E cx (.Call (.Name "any" p) [a] [] pos) (e1 pAny fa) :=
  se_b1 (cr_any hc) (oc_any _) BB.any (by decide +kernel) ha hg (by decide) (by decide) hs
theorem se_abs (ha : SE X J E cx a fa) (hg : Gl X "abs" := by rfl) (hs : starEach [a] X.env = (false, eval a X.env) :: starEach [] X.env := by rfl) : SE X J E cx (.Call (.Name "abs" p) [a] [] pos) (e1 pAbs fa) :=
  se_b1 call_abs oc_abs BB.abs (by decide +kernel) ha hg (by decide) (by decide) hs
theorem se_max1 (hc : X.calm = true) (ha : SE X J E cx a fa) (hg : Gl X "max" := by rfl) (hs : starEach [a] X.env = (false, eval a X.env) :: starEach [] X.env := by rfl) : SE X J E cx (.Call (.Name "max" p) [a] [] pos) (e1 pMax1 fa) :=
  se_b1 (cr_max hc) (oc_max1 _) BB.max (by decide +kernel) ha hg (by decide) (by decide) hs
theorem se_min1 (hc : X.calm = true) (ha : SE X J E cx a fa) (hg : Gl X "min" := by rfl) (hs : starEach [a] X.env = (false, eval a X.env) :: starEach [] X.env := by rfl) : SE X J E cx (.Call (.Name "min" p) [a] [] pos) (e1 pMin1 fa) :=
  se_b1 (cr_min hc) (oc_min1 _) BB.min (by decide +kernel) ha hg (by decide) (by decide) hs
theorem se_max2 (hc : X.calm = true) (ha : SE X J E cx a fa) (hb : SE X J E cx b fb) (hg : Gl X "max" := by rfl) (hs : starEach [a, b] X.env = (false, eval a X.env) :: starEach [b] X.env := by rfl)
    (hs2 : starEach [b] X.env = (false, eval b X.env) :: starEach [] X.env := by rfl) : SE X J E cx (.Call (.Name "max" p) [a, b] [] pos) (e2 pMax2 fa fb) :=
  se_b2 (call_max2 hc) oc_max2 BB.max (by decide +kernel) ha hb hg (by decide) (by decide) hs hs2
theorem se_min2 (hc : X.calm = true) (ha : SE X J E cx a fa) (hb : SE X J E cx b fb) (hg : Gl X "min" := by rfl) (hs : starEach [a, b] X.env = (false, eval a X.env) :: starEach [b] X.env := by rfl)
    (hs2 : starEach [b] X.env = (false, eval b X.env) :: starEach [] X.env := by rfl) : SE X J E cx (.Call (.Name "min" p) [a, b] [] pos) (e2 pMin2 fa fb) :=
  se_b2 (call_min2 hc) oc_min2 BB.min (by decide +kernel) ha hb hg (by decide) (by decide) hs hs2
theorem se_sorted (ha : SE X J E cx a fa) (hg : Gl X "sorted" := by rfl) (hs : starEach [a] X.env = (false, eval a X.env) :: starEach [] X.env := by rfl) : SE X J E cx (.Call (.Name "sorted" p) [a] [] pos) (e1 pSorted fa) :=
  se_b1 cr_sortedI (oc_sorted _) BB.sorted (by decide +kernel) ha hg (by decide) (by decide) hs
end
end M

set_option Elab.async false
set_option linter.all false
set_option maxRecDepth 100000
set_option maxHeartbeats 4000000
/-! isinstance, fields, methods of lists. -/
namespace M
open PySem L2 PyProof.Rows

def fldName : Nat → Str
  | 0 => "table"
  | 1 => "stands"
  | 2 => "pairs"
  | 3 => "order"
  | 4 => "one"
  | 5 => "other"
  | 6 => "times"
  | 7 => "weights"
  | 8 => "modulus"
  | n + 9 => ⟨(List.replicate (n + 20) 97).toArray⟩
def fldCode : Str → Nat := fun x => if x.cps.size < 20 then (if x = "table" then 0 else if x = "stands" then 1 else if x = "pairs" then 2 else if x = "order" then 3 else if x = "one" then 4 else if x = "other" then 5 else if x = "times" then 6 else if x = "weights" then 7 else 8) else x.cps.size - 11
theorem fldCode_name : ∀ n, fldCode (fldName n) = n
  | 0 => by decide +kernel
  | 1 => by decide +kernel
  | 2 => by decide +kernel
  | 3 => by decide +kernel
  | 4 => by decide +kernel
  | 5 => by decide +kernel
  | 6 => by decide +kernel
  | 7 => by decide +kernel
  | 8 => by decide +kernel
  | n + 9 => by
    have e : (fldName (n + 9)).cps.size = n + 20 := by simp [fldName]
    unfold fldCode
    rw [e, if_neg (by omega)]
    omega
theorem fldName_inj (f g : Nat) (h : fldName f = fldName g) : f = g := by
  rw [← fldCode_name f, ← fldCode_name g, h]

section
variable {X : Cx} {J : Inf} {E : XK} {cx : Ctx} {n : Nat} {pos p p2 apos cpos : Pos} {a b c o : Expr} {fa fb fc fo : FE}

/-! ### isinstance -/
def Ty.name : Ty → String
  | .int => "int"
  | .bool => "bool"
  | .list => "list"
  | .tuple => "tuple"
def tyD (d : D) : String :=
  match d with
  | .non => "NoneType"
  | .bl _ => "bool"
  | .int _ => "int"
  | .str _ => "str"
  | .tup _ => "tuple"
  | .lst _ => "list"
  | .cell _ => "list"
  | .edict => "dict"
  | _ => "object"
theorem kit_NoneType : ∀ T : Ty, kitB "NoneType" T.name = some (match T with | .int => false | .bool => false | .list => false | .tuple => false)
  | .int => by decide +kernel
  | .bool => by decide +kernel
  | .list => by decide +kernel
  | .tuple => by decide +kernel
theorem kit_bool : ∀ T : Ty, kitB "bool" T.name = some (match T with | .int => true | .bool => true | .list => false | .tuple => false)
  | .int => by decide +kernel
  | .bool => by decide +kernel
  | .list => by decide +kernel
  | .tuple => by decide +kernel
theorem kit_int : ∀ T : Ty, kitB "int" T.name = some (match T with | .int => true | .bool => false | .list => false | .tuple => false)
  | .int => by decide +kernel
  | .bool => by decide +kernel
  | .list => by decide +kernel
  | .tuple => by decide +kernel
theorem kit_str : ∀ T : Ty, kitB "str" T.name = some (match T with | .int => false | .bool => false | .list => false | .tuple => false)
  | .int => by decide +kernel
  | .bool => by decide +kernel
  | .list => by decide +kernel
  | .tuple => by decide +kernel
theorem kit_tuple : ∀ T : Ty, kitB "tuple" T.name = some (match T with | .int => false | .bool => false | .list => false | .tuple => true)
  | .int => by decide +kernel
  | .bool => by decide +kernel
  | .list => by decide +kernel
  | .tuple => by decide +kernel
theorem kit_list : ∀ T : Ty, kitB "list" T.name = some (match T with | .int => false | .bool => false | .list => true | .tuple => false)
  | .int => by decide +kernel
  | .bool => by decide +kernel
  | .list => by decide +kernel
  | .tuple => by decide +kernel
theorem kit_dict : ∀ T : Ty, kitB "dict" T.name = some (match T with | .int => false | .bool => false | .list => false | .tuple => false)
  | .int => by decide +kernel
  | .bool => by decide +kernel
  | .list => by decide +kernel
  | .tuple => by decide +kernel
theorem ty_rv {K : PySem.W.Frag} {t : Tr} {h : Hh} {H : Hp} {d : D} {x : V} (R : RepH J t h H) (v : RV J t (live t h) H d x) (e : tyOk h d = true) (T : Ty) :
    TyX K H x (.type (tyD d)) ∧ kitB (tyD d) T.name = some (isTy h T d) := by
  cases d with
  | non => simp only [RV] at v; subst v; exact ⟨.base .non, (kit_NoneType T).trans (by cases T <;> rfl)⟩
  | bl b => simp only [RV] at v; subst v; exact ⟨.base (.bl _), (kit_bool T).trans (by cases T <;> rfl)⟩
  | int i => simp only [RV] at v; subst v; exact ⟨.base (.int _), (kit_int T).trans (by cases T <;> rfl)⟩
  | str s => simp only [RV] at v; subst v; exact ⟨.base (.str _), (kit_str T).trans (by cases T <;> rfl)⟩
  | tup xs => simp only [RV] at v; obtain ⟨a, vs, rfl, q, _⟩ := v; exact ⟨.base (.tup q), (kit_tuple T).trans (by cases T <;> rfl)⟩
  | lst xs => simp only [RV] at v; obtain ⟨a, vs, rfl, q, _⟩ := v; exact ⟨.base (.lst q), (kit_list T).trans (by cases T <;> rfl)⟩
  | edict => simp only [RV] at v; obtain ⟨a, rfl, q, _⟩ := v; exact ⟨.base (.dK q), (kit_dict T).trans (by cases T <;> rfl)⟩
  | dct _ _ => simp [tyOk] at e
  | fn _ => simp [tyOk] at e
  | ktp _ => simp [tyOk] at e
  | cell c =>
    simp only [tyOk] at e
    simp only [RV] at v
    obtain ⟨a, rfl, q⟩ := v
    split at e
    · rename_i xs hc
      obtain ⟨vs, q1, _⟩ := R.cells c _ a hc q
      refine ⟨.base (.lst q1), ?_⟩
      cases T
      · show kitB "list" "int" = some false; decide +kernel
      · show kitB "list" "bool" = some false; decide +kernel
      · simp only [isTy, hc]; show kitB "list" "list" = some true; decide +kernel
      · show kitB "list" "tuple" = some false; decide +kernel
    · cases e
theorem se_isTy {y : Str} (T : Ty) (BB : Blt X.mg) (hmT : X.mg y = none) (hbT : bootBuiltins y = some (.type T.name)) (ha : SE X J E cx a fa) (hg : Gl X "isinstance" := by rfl) (hgT : Gl X y := by rfl)
    (hs : starEach [a, .Name y p2] X.env = (false, eval a X.env) :: starEach [.Name y p2] X.env := by rfl) (hnT : y ≠ "__name__" := by decide) (hdT : (y == ("__debug__" : Str)) = false := by decide) :
    SE X J E cx (.Call (.Name "isinstance" p) [a, .Name y p2] [] pos) (e1 (pIsTy T) fa) := by
  refine PE.weak (pe_callB call_isi hg BB.isinstance (by decide +kernel) (pa_cons ha (pa_cons (pe_bltn (v := .ty T.name) hgT hmT hbT rfl hnT hdT) pa_nil rfl) hs) (by decide) (by decide) hs rfl) fun s H Q ⟨t, r, h, R, S, p⟩ => ?_
  refine ⟨t, r, h, R, S, Post.imp (Post.bind (rel := RV J) p) fun x H1 ⟨t1, h1, d, e1, R1, v1, p1⟩ => ?_⟩
  dsimp only at p1
  unfold pIsTy at p1
  split at p1
  · rename_i ok
    obtain ⟨g1, g2⟩ := ty_rv (K := X.K) R1 v1 ok T
    exact ⟨x, .ty T.name, _, _, _, rfl, .ty _, g1, kit_ty g2, p1 t1 H1 _ Ext.refl R1 (by simp only [RV])⟩
  · exact p1.elim
/-- what isinstance wants of an instance's class -/
structure ClsI (K : PySem.W.Frag) (C : Addr) : Prop where
  cl : Cls K C
  ha : PySem.W.findIn K (.ref C) "__class__" = some (some (.builtin "object.__class__"))
  hn : PySem.W.specialIn K (.builtin "object.__class__") "__get__" = some (some (.builtin "getset_descriptor.__get__"))
  htk : PySem.W.takesIn K (.builtin "object.__class__") = some true
  hm : PySem.W.mroIn K C (.type "object") = some true
theorem ins_at {t : Tr} {h : Hh} {H : Hp} {d : D} {x : V} {C : Nat} {fs : List (Nat × D)} (R : RepH J t h H) (v : RV J t (live t h) H d x) (e : insAt h d = some (C, fs)) :
    ∃ c q dx gs, d = .cell c ∧ h[c]? = some (.ins C fs) ∧ t.l[c]? = some q ∧ x = .ref q ∧ H q = some (.ins (J.cls C) dx gs) ∧ FsOk J t (live t h) H fs gs := by
  cases d with
  | cell c =>
    simp only [insAt] at e
    simp only [RV] at v
    obtain ⟨a, ev, q⟩ := v
    split at e
    · rename_i D gs hc
      cases e
      obtain ⟨dx, gs, q1, q2⟩ := R.cells c _ a hc q
      exact ⟨c, a, dx, gs, rfl, hc, q, ev, q1, q2⟩
    · cases e
  | _ => simp [insAt] at e
theorem lookB_mem {k : Nat} {b : Bool} : ∀ {cs : List (Nat × Bool)}, lookB k cs = some b → (k, b) ∈ cs
  | [], e => by simp [lookB] at e
  | p :: ps, e => by
    unfold lookB at e
    split at e
    · rename_i hp
      cases e
      rw [← hp]
      exact List.mem_cons_self
    · exact List.mem_cons_of_mem _ (lookB_mem e)
theorem se_isC {y : Str} {D : Addr} (BB : Blt X.mg) (cs : List (Nat × Bool)) (hmT : X.mg y = some (.ref D)) (hk : ∀ q ∈ cs, ClsI X.K (J.cls q.1) ∧ PySem.W.kitOne X.K (.ref (J.cls q.1)) (.ref D) = some q.2) (ha : SE X J E cx a fa)
    (hg : Gl X "isinstance" := by rfl) (hgT : Gl X y := by rfl) (hs : starEach [a, .Name y p2] X.env = (false, eval a X.env) :: starEach [.Name y p2] X.env := by rfl) (hdT : (y == ("__debug__" : Str)) = false := by decide) :
    SE X J E cx (.Call (.Name "isinstance" p) [a, .Name y p2] [] pos) (e1 (pIsC cs) fa) := by
  refine PE.weak (pe_callB call_isi hg BB.isinstance (by decide +kernel) (pa_cons ha (pa_cons (pe_glob (v := .ref D) hgT hmT rfl hdT) pa_nil rfl) hs) (by decide) (by decide) hs rfl) fun s H Q ⟨t, r, h, R, S, p⟩ => ?_
  refine ⟨t, r, h, R, S, Post.imp (Post.bind (rel := RV J) p) fun x H1 ⟨t1, h1, d, e1, R1, v1, p1⟩ => ?_⟩
  dsimp only at p1
  unfold pIsC at p1
  split at p1
  · rename_i C fs ei
    obtain ⟨c, q, dx, gs, rfl, hc, hq, rfl, hi, _⟩ := ins_at R1 v1 ei
    split at p1
    · rename_i bb hb
      obtain ⟨I, k⟩ := hk _ (lookB_mem hb)
      exact ⟨.ref q, .ref D, _, _, _, rfl, .own _, .base (.ins hi I.cl I.ha I.hn I.htk I.hm), k, p1 t1 H1 _ Ext.refl R1 (by simp only [RV])⟩
    · exact p1.elim
  · exact p1.elim

/-! ### fields -/
theorem look_fs {t : Tr} {L : Addr → Prop} {H : Hp} {f : Nat} {d : D} : ∀ {fs : List (Nat × D)} {gs : List (Str × V)}, FsOk J t L H fs gs → lookN f fs = some d → ∃ v, gs.lookup (J.fld f) = some v ∧ RV J t L H d v
  | [], _, _, e => by simp [lookN] at e
  | p :: ps, gs, ⟨k, r⟩, e => by
    cases gs with
    | nil => simp at k
    | cons g gs =>
      simp only [List.map_cons, List.cons.injEq] at k
      simp only [List.map_cons, RVs] at r
      obtain ⟨v, r', e', v1, v2⟩ := r
      simp only [List.cons.injEq] at e'
      obtain ⟨rfl, rfl⟩ := e'
      unfold lookN at e
      split at e
      · rename_i hp
        cases e
        refine ⟨g.2, ?_, v1⟩
        have : (J.fld f == g.1) = true := by rw [k.1, hp]; simp
        rw [List.lookup_cons, this]
      · rename_i hp
        obtain ⟨v, h1, h2⟩ := look_fs (gs := gs) ⟨k.2, v2⟩ e
        refine ⟨v, ?_, h2⟩
        have : (J.fld f == g.1) = false := by
          rw [k.1]
          simp only [beq_eq_false_iff_ne, ne_eq]
          exact fun z => hp (J.inj _ _ z).symm
        rw [List.lookup_cons, this]
        exact h1
theorem put_fs {t : Tr} {L : Addr → Prop} {H : Hp} {f : Nat} {d : D} {v : V} (w : RV J t L H d v) : ∀ {fs : List (Nat × D)} {gs : List (Str × V)}, FsOk J t L H fs gs → FsOk J t L H (putN f d fs) (putF (J.fld f) v gs)
  | [], gs, ⟨k, r⟩ => by
    have : gs = [] := by simpa using k
    subst this
    exact ⟨rfl, .cons w .nil⟩
  | p :: ps, gs, ⟨k, r⟩ => by
    cases gs with
    | nil => simp at k
    | cons g gs =>
      simp only [List.map_cons, List.cons.injEq] at k
      simp only [List.map_cons, RVs] at r
      obtain ⟨v', r', e', v1, v2⟩ := r
      simp only [List.cons.injEq] at e'
      obtain ⟨rfl, rfl⟩ := e'
      obtain ⟨g1, g2⟩ := g
      simp only at k v1
      unfold putN putF
      by_cases hp : p.1 = f
      · have : g1 = J.fld f := by rw [k.1, hp]
        rw [if_pos hp, if_pos this]
        exact ⟨by simp only [List.map_cons, k.2, this], .cons w v2⟩
      · have : ¬ g1 = J.fld f := by rw [k.1]; exact fun z => hp (J.inj _ _ z)
        rw [if_neg hp, if_neg this]
        obtain ⟨i1, i2⟩ := put_fs w (fs := ps) (gs := gs) ⟨k.2, v2⟩
        exact ⟨by simp only [List.map_cons, i1, k.1], .cons v1 i2⟩
theorem se_attr {y : Str} (cs : List Nat) (f : Nat) (hy : J.fld f = y) (hk : ∀ C ∈ cs, Cls X.K (J.cls C) ∧ NoAttr X.K (J.cls C) y) (ha : SE X J E cx a fa) (hb : attributeBase a y X.env (eval a X.env) = eval a X.env := by rfl) :
    SE X J E cx (.Attribute a y pos) (e1 (pAttr cs f) fa) := by
  refine PE.weak (pe_fld ha hb) fun s H Q ⟨t, r, h, R, S, p⟩ => ?_
  refine ⟨t, r, h, R, S, Post.imp (Post.bind (rel := RV J) p) fun x H1 ⟨t1, h1, d, e1, R1, v1, p1⟩ => ?_⟩
  dsimp only at p1
  unfold pAttr at p1
  split at p1
  · rename_i C fs ei
    obtain ⟨c, q, dx, gs, rfl, hc, hq, rfl, hi, hf⟩ := ins_at R1 v1 ei
    split at p1
    · rename_i hm
      obtain ⟨k1, k2⟩ := hk C (List.contains_iff_mem.mp hm)
      split at p1
      · rename_i d' hd
        obtain ⟨v, h1, h2⟩ := look_fs hf hd
        rw [hy] at h1
        exact ⟨q, _, dx, gs, v, rfl, hi, k1, k2, h1, p1 t1 H1 _ Ext.refl R1 h2⟩
      · exact p1.elim
    · exact p1.elim
  · exact p1.elim

/-! ### a list's methods -/
def OkM0 (J : Inf) (f : D → Hh → Option (D × Hh)) (r : V → List V → Hp → VK → Prop) : Prop :=
  ∀ t h H d x Q, RepH J t h H → RV J t (live t h) H d x → PostE J E0 t h H (up (f d h)) Q → r x [] H Q
def OkM1 (J : Inf) (f : D → D → Hh → Option (D × Hh)) (r : V → List V → Hp → VK → Prop) : Prop :=
  ∀ t h H d e x y Q, RepH J t h H → RV J t (live t h) H d x → RV J t (live t h) H e y → PostE J E0 t h H (up (f d e h)) Q → r x [y] H Q
def OkM2 (J : Inf) (f : D → D → D → Hh → Option (D × Hh)) (r : V → List V → Hp → VK → Prop) : Prop :=
  ∀ t h H d e g x y z Q, RepH J t h H → RV J t (live t h) H d x → RV J t (live t h) H e y → RV J t (live t h) H g z → PostE J E0 t h H (up (f d e g h)) Q → r x [y, z] H Q
theorem ty_list {K : PySem.W.Frag} {t : Tr} {h : Hh} {H : Hp} {d : D} {x : V} (R : RepH J t h H) (v : RV J t (live t h) H d x) (e : (viewL h d).isSome = true) : tyV K "list" x H := by
  obtain ⟨xs, e⟩ := Option.isSome_iff_exists.mp e
  obtain ⟨a, vs, rfl, hl, _⟩ := view_l R v e
  exact .inl ⟨rfl, vs, SqL.of hl⟩
variable {name : Str} {id : String} {r : V → List V → Hp → VK → Prop}
theorem se_m0 {f : D → Hh → Option (D × Hh)} (slot : Slot "list" name id) (hty : typeOf (.builtin id) = pure (.type "method_descriptor")) (hm : MtR X id r) (hf : OkM0 J f r) (ho : SE X J E cx o fo)
    (hbase : attributeBase o name X.env (eval o X.env) = eval o X.env := by rfl) (hline : (apos.endLine == cpos.line) = true := by rfl) : SE X J E cx (.Call (.Attribute o name apos) [] [] cpos) (eM0 f fo) := by
  refine PE.weak (pe_bm0 PySem.F.plainAttrs_list slot hty hm ho hbase hline) fun s H Q ⟨t, r, h, R, S, p⟩ => ?_
  refine ⟨t, r, h, R, S, Post.imp (Post.bind (rel := RV J) p) fun x H1 ⟨t1, h1, d, e1, R1, v1, p1⟩ => ?_⟩
  dsimp only at p1
  split at p1
  · rename_i hv
    exact ⟨ty_list R1 v1 hv, hf t1 h1 H1 d x Q R1 v1 (Post.noexc p1)⟩
  · exact p1.elim
theorem se_m1 {f : D → D → Hh → Option (D × Hh)} (slot : Slot "list" name id) (hty : typeOf (.builtin id) = pure (.type "method_descriptor")) (hm : MtR X id r) (hf : OkM1 J f r) (ho : SE X J E cx o fo) (ha : SE X J E cx a fa)
    (hbase : attributeBase o name X.env (eval o X.env) = eval o X.env := by rfl) (hline : (apos.endLine == cpos.line) = true := by rfl)
    (hfew : ((backTo cpos (starEach (a :: []) X.env)).all (fun x => !x.1) && (backToKw cpos (keywordEach [] X.env)).all (fun x => x.1.isSome)
      && decide ((a :: []).length + ([] : List Keyword).length + (if ([] : List Keyword).isEmpty then 0 else 1) < 30)) = true := by rfl)
    (hs : starEach [a] X.env = (false, eval a X.env) :: starEach [] X.env := by rfl) : SE X J E cx (.Call (.Attribute o name apos) [a] [] cpos) (eM1 f fo fa) := by
  refine PE.weak (pe_bm PySem.F.plainAttrs_list slot hty hm ho (pa_cons ha pa_nil hs) hbase hfew hline hs rfl) fun s H Q ⟨t, r, h, R, S, p⟩ => ?_
  refine ⟨t, r, h, R, S, Post.imp (Post.bind (rel := RV J) p) fun x H1 ⟨t1, h1, d, e1, R1, v1, p1⟩ => ?_⟩
  dsimp only at p1
  split at p1
  · rename_i hv
    refine ⟨ty_list R1 v1 hv, t1, r, h1, R1, S.mono e1, Post.imp (Post.bind (rel := RV J) p1) fun y H2 ⟨t2, h2, e, x2, R2, v2, p2⟩ => ?_⟩
    exact hf t2 h2 H2 d e x y Q R2 (v1.mono x2) v2 (Post.noexc p2)
  · exact p1.elim
theorem se_m2 {f : D → D → D → Hh → Option (D × Hh)} (slot : Slot "list" name id) (hty : typeOf (.builtin id) = pure (.type "method_descriptor")) (hm : MtR X id r) (hf : OkM2 J f r) (ho : SE X J E cx o fo) (ha : SE X J E cx a fa) (hb : SE X J E cx b fb)
    (hbase : attributeBase o name X.env (eval o X.env) = eval o X.env := by rfl) (hline : (apos.endLine == cpos.line) = true := by rfl)
    (hfew : ((backTo cpos (starEach (a :: [b]) X.env)).all (fun x => !x.1) && (backToKw cpos (keywordEach [] X.env)).all (fun x => x.1.isSome)
      && decide ((a :: [b]).length + ([] : List Keyword).length + (if ([] : List Keyword).isEmpty then 0 else 1) < 30)) = true := by rfl)
    (hs : starEach [a, b] X.env = (false, eval a X.env) :: starEach [b] X.env := by rfl) (hs2 : starEach [b] X.env = (false, eval b X.env) :: starEach [] X.env := by rfl) : SE X J E cx (.Call (.Attribute o name apos) [a, b] [] cpos) (eM2 f fo fa fb) := by
  have hpl : (backTo cpos (starEach [b] X.env)).any (·.1) = false := by rw [hs2]; rfl
  refine PE.weak (pe_bm PySem.F.plainAttrs_list slot hty hm ho (pa_cons ha (pa_cons hb pa_nil hs2) hs) hbase hfew hline hs hpl) fun s H Q ⟨t, r, h, R, S, p⟩ => ?_
  refine ⟨t, r, h, R, S, Post.imp (Post.bind (rel := RV J) p) fun x H1 ⟨t1, h1, d, e1, R1, v1, p1⟩ => ?_⟩
  dsimp only at p1
  split at p1
  · rename_i hv
    refine ⟨ty_list R1 v1 hv, t1, r, h1, R1, S.mono e1, Post.imp (Post.bind (rel := RV J) p1) fun y H2 ⟨t2, h2, e, x2, R2, v2, p2⟩ => ?_⟩
    refine ⟨t2, r, h2, R2, (S.mono e1).mono x2, Post.imp (Post.bind (rel := RV J) p2) fun z H3 ⟨t3, h3, g, x3, R3, v3, p3⟩ => ?_⟩
    exact hf t3 h3 H3 d e g x y z Q R3 ((v1.mono x2).mono x3) (v2.mono x3) v3 (Post.noexc p3)
  · exact p1.elim
/-- a list in a cell -/
theorem cell_lst {t : Tr} {h : Hh} {H : Hp} {c : Nat} {x : V} {xs : List D} (R : RepH J t h H) (v : RV J t (live t h) H (.cell c) x) (e : h[c]? = some (.lst xs)) :
    ∃ l vs, t.l[c]? = some l ∧ x = .ref l ∧ H l = some (.lst vs) ∧ RVs J t (live t h) H xs vs := by
  simp only [RV] at v
  obtain ⟨l, rfl, q⟩ := v
  obtain ⟨vs, h1, h2⟩ := R.cells c _ l e q
  exact ⟨l, vs, q, rfl, h1, h2⟩
theorem wrote {t : Tr} {h : Hh} {H : Hp} {c : Nat} {l : Addr} {xs ys : List D} {ws : List V} {d : D} {v : V} {Q : VK} (R : RepH J t h H) (e : h[c]? = some (.lst xs)) (q : t.l[c]? = some l) (w : RVs J t (live t h) H ys ws) (wv : RV J t (live t h) H d v)
    (p : PostE J E0 t h H (up (some (d, h.set c (.lst ys)))) Q) : Q v (upd H l (.lst ws)) :=
  p t _ _ (Ext.write R e nofun q) (R.write e nofun q ⟨ws, upd_same, w.mono (Ext.write R e nofun q)⟩) (wv.mono (Ext.write R e nofun q))
theorem rv_non {t : Tr} {L : Addr → Prop} {H : Hp} : RV J t L H .non .non := by simp only [RV]
theorem om_append : OkM1 J pAppend rAppend := fun t h H d e x y Q R v w p => by
  unfold pAppend at p
  split at p
  · rename_i c
    split at p
    · rename_i xs hc
      split at p
      · rename_i hl
        obtain ⟨l, vs, q, rfl, h1, h2⟩ := cell_lst R v hc
        exact ⟨l, vs, y, rfl, rfl, h1, by rw [h2.length]; exact lim_lt hl, wrote R hc q (h2.append (.cons w .nil)) rv_non p⟩
      · exact p.elim
    · exact p.elim
  · exact p.elim
theorem om_extend : OkM1 J pExtend rExtend := fun t h H d e x y Q R v w p => by
  unfold pExtend at p
  split at p
  · rename_i c
    split at p
    · rename_i xs ys hc hv
      split at p
      · rename_i hl
        obtain ⟨l, vs, q, rfl, h1, h2⟩ := cell_lst R v hc
        obtain ⟨b, ws, rfl, hb, vb⟩ := view_l R w hv
        exact ⟨l, b, vs, ws, rfl, rfl, h1, hb, by rw [h2.length, vb.length]; exact lim_size hl, wrote R hc q (h2.append vb) rv_non p⟩
      · exact p.elim
    · exact p.elim
  · exact p.elim
theorem om_pop : OkM0 J pPop rPop := fun t h H d x Q R v p => by
  unfold pPop at p
  split at p
  · rename_i c
    split at p
    · rename_i xs hc
      split at p
      · rename_i y hy
        obtain ⟨l, vs, q, rfl, h1, h2⟩ := cell_lst R v hc
        obtain ⟨z, g1, g2⟩ := h2.get hy
        exact ⟨l, vs, z, rfl, rfl, h1, by rw [h2.length]; exact g1, wrote R hc q h2.dropLast g2 p⟩
      · exact p.elim
    · exact p.elim
  · exact p.elim
theorem om_popAt : OkM1 J pPopAt rPopAt := fun t h H d e x y Q R v w p => by
  unfold pPopAt at p
  split at p
  · rename_i c i
    simp only [RV] at w
    subst w
    split at p
    · rename_i xs hc
      split at p
      · rename_i k hk
        split at p
        · rename_i z hz
          split at p
          · rename_i hl
            obtain ⟨l, vs, q, rfl, h1, h2⟩ := cell_lst R v hc
            obtain ⟨u, g1, g2⟩ := h2.get hz
            obtain ⟨k1, k2, k3, k4⟩ := L2.ixN_seq (show L2.ixN xs.length i = some k from hk)
            have hl' : xs.length ≤ 16000000 := hl
            exact ⟨l, vs, i, k, u, rfl, rfl, h1, by omega, by omega, by rw [h2.length]; exact k1, g1, wrote R hc q (h2.eraseIdx k) g2 p⟩
          · exact p.elim
        · exact p.elim
      · exact p.elim
    · exact p.elim
  · exact p.elim
theorem om_insert : OkM2 J pInsert (fun x vs H Q => ∃ (l : Addr) (xs : List V) (i : Int) (y : V), x = .ref l ∧ vs = [.int i, y] ∧ H l = some (.lst xs) ∧ xs.length < sizeLine ∧ 0 ≤ i ∧ i < 2 ^ 63 ∧
    Q .non (upd H l (.lst (xs.take i.toNat ++ [y] ++ xs.drop i.toNat)))) := fun t h H d e g x y z Q R v w u p => by
  unfold pInsert at p
  split at p
  · rename_i c i
    simp only [RV] at w
    subst w
    split at p
    · rename_i xs hc
      split at p
      · rename_i hl
        obtain ⟨l, vs, q, rfl, h1, h2⟩ := cell_lst R v hc
        have hl' : xs.length < 16000000 := hl.2.2
        refine ⟨l, vs, i, z, rfl, rfl, h1, by rw [h2.length]; exact lim_lt hl.2.2, hl.1, by omega, ?_⟩
        refine wrote R hc q ?_ rv_non p
        rw [List.append_assoc]
        exact (h2.take _).append (.cons u (h2.drop _))
      · exact p.elim
    · exact p.elim
  · exact p.elim
theorem om_clear : OkM0 J pClear rClear := fun t h H d x Q R v p => by
  unfold pClear at p
  split at p
  · rename_i c
    split at p
    · rename_i xs hc
      obtain ⟨l, vs, q, rfl, h1, h2⟩ := cell_lst R v hc
      exact ⟨l, vs, rfl, rfl, h1, wrote R hc q .nil rv_non p⟩
    · exact p.elim
  · exact p.elim
theorem om_reverse : OkM0 J pReverse rReverse := fun t h H d x Q R v p => by
  unfold pReverse at p
  split at p
  · rename_i c
    split at p
    · rename_i xs hc
      obtain ⟨l, vs, q, rfl, h1, h2⟩ := cell_lst R v hc
      exact ⟨l, vs, rfl, rfl, h1, wrote R hc q h2.reverse rv_non p⟩
    · exact p.elim
  · exact p.elim
theorem find_py {a : D} (pa : plain a = true) : ∀ (bs : List D) (k : Nat), plains bs = true → findV a bs = some k →
    ∃ z, (pys bs)[k]? = some z ∧ PyData.eqv z (py a) = true ∧ ∀ (m : Nat) (z' : PyData), m < k → (pys bs)[m]? = some z' → PyData.eqv z' (py a) = false
  | [], _, _, e => by simp [findV] at e
  | b :: bs, k, p, e => by
    simp only [plains, Bool.and_eq_true] at p
    unfold findV at e
    split at e
    · rename_i hb
      cases e
      exact ⟨py b, rfl, by rw [eqv_py b a p.1 pa]; exact hb, fun m _ hm => absurd hm (Nat.not_lt_zero m)⟩
    · rename_i hb
      cases q : findV a bs with
      | none => rw [q] at e; cases e
      | some j =>
        rw [q] at e
        cases e
        obtain ⟨z, h1, h2, h3⟩ := find_py pa bs j p.2 q
        refine ⟨z, by simpa [pys] using h1, h2, fun m z' hm hz => ?_⟩
        cases m with
        | zero =>
          simp only [pys, List.getElem?_cons_zero, Option.some.injEq] at hz
          subst hz
          rw [eqv_py b a p.1 pa]
          simpa using hb
        | succ m => exact h3 m z' (Nat.lt_of_succ_lt_succ hm) (by simpa [pys] using hz)
theorem om_index (K : PySem.W.Frag) : OkM1 J pIndex (rIndexD K) := fun t h H d e x y Q R v w p => by
  unfold pIndex at p
  split at p
  · rename_i xs a q1 q2
    split at p
    · rename_i bs q3
      split at p
      · rename_i k q4
        obtain ⟨l, vs, rfl, hl, vl⟩ := view_l R v q1
        obtain ⟨g1, g2⟩ := deep_dp (K := K) R w q2
        obtain ⟨i1, i2, i3, i4⟩ := deeps_dp (K := K) R vl q3
        obtain ⟨z, z1, z2, z3⟩ := find_py (deep_some q2).2 bs k i4 q4
        exact ⟨l, y, _, _, k, z, rfl, rfl, .lst (SqL.of hl) i1, g1, shaped_list i2 i3, g2, z1, z2, z3, p t H _ Ext.refl R (by simp only [RV])⟩
      · exact p.elim
    · exact p.elim
  · exact p.elim
/-- a list that changes no more, at a name -/
theorem se_frz (ha : SE X J E cx a fa) : SE X J E cx a (e1 pFrz fa) := by
  refine PE.weak ha fun s H Q ⟨t, r, h, R, S, p⟩ => ?_
  refine ⟨t, r, h, R, S, Post.imp (Post.bind (rel := RV J) p) fun x H1 ⟨t1, h1, d, e1, R1, v1, p1⟩ => ?_⟩
  dsimp only at p1
  unfold pFrz at p1
  split at p1
  · rename_i c
    split at p1
    · rename_i xs hc
      obtain ⟨l, vs, q, rfl, h2, h3⟩ := cell_lst R1 v1 hc
      refine p1 t1 H1 _ (Ext.froze R1 hc nofun) (R1.froze hc nofun) ?_
      simp only [RV]
      exact ⟨l, vs, rfl, h2, notlive_dead R1 hc q, h3.mono (Ext.froze R1 hc nofun)⟩
    · rename_i ks ws hc
      simp only [RV] at v1
      obtain ⟨l, rfl, q⟩ := v1
      obtain ⟨vs, g1, g3⟩ := R1.cells c _ l hc q
      refine p1 t1 H1 _ (Ext.froze R1 hc nofun) (R1.froze hc nofun) ?_
      simp only [RV]
      exact ⟨l, vs, rfl, g1.mono0 (Ext.froze R1 hc nofun).toExt0 rfl, notlive_dead R1 hc q, g3.mono (Ext.froze R1 hc nofun)⟩
    · exact p1.elim
  · exact p1.elim
/-! by their names -/
theorem se_append (ho : SE X J E cx o fo) (ha : SE X J E cx a fa) (hbase : attributeBase o "append" X.env (eval o X.env) = eval o X.env := by rfl) (hline : (apos.endLine == cpos.line) = true := by rfl)
    (hs : starEach [a] X.env = (false, eval a X.env) :: starEach [] X.env := by rfl) : SE X J E cx (.Call (.Attribute o "append" apos) [a] [] cpos) (eM1 pAppend fo fa) :=
  se_m1 PySem.F.slot_list_append PySem.F.type_list_append mt_append om_append ho ha hbase hline (by rw [hs]; rfl) hs
theorem se_extend (ho : SE X J E cx o fo) (ha : SE X J E cx a fa) (hbase : attributeBase o "extend" X.env (eval o X.env) = eval o X.env := by rfl) (hline : (apos.endLine == cpos.line) = true := by rfl)
    (hs : starEach [a] X.env = (false, eval a X.env) :: starEach [] X.env := by rfl) : SE X J E cx (.Call (.Attribute o "extend" apos) [a] [] cpos) (eM1 pExtend fo fa) :=
  se_m1 PySem.F.slot_list_extend PySem.F.type_list_extend mt_extend om_extend ho ha hbase hline (by rw [hs]; rfl) hs
theorem se_popAt (ho : SE X J E cx o fo) (ha : SE X J E cx a fa) (hbase : attributeBase o "pop" X.env (eval o X.env) = eval o X.env := by rfl) (hline : (apos.endLine == cpos.line) = true := by rfl)
    (hs : starEach [a] X.env = (false, eval a X.env) :: starEach [] X.env := by rfl) : SE X J E cx (.Call (.Attribute o "pop" apos) [a] [] cpos) (eM1 pPopAt fo fa) :=
  se_m1 PySem.F.slot_list_pop PySem.F.type_list_pop mt_popAt om_popAt ho ha hbase hline (by rw [hs]; rfl) hs
theorem se_pop (ho : SE X J E cx o fo) (hbase : attributeBase o "pop" X.env (eval o X.env) = eval o X.env := by rfl) (hline : (apos.endLine == cpos.line) = true := by rfl) : SE X J E cx (.Call (.Attribute o "pop" apos) [] [] cpos) (eM0 pPop fo) :=
  se_m0 PySem.F.slot_list_pop PySem.F.type_list_pop mt_pop om_pop ho hbase hline
theorem se_clear (ho : SE X J E cx o fo) (hbase : attributeBase o "clear" X.env (eval o X.env) = eval o X.env := by rfl) (hline : (apos.endLine == cpos.line) = true := by rfl) : SE X J E cx (.Call (.Attribute o "clear" apos) [] [] cpos) (eM0 pClear fo) :=
  se_m0 PySem.F.slot_list_clear PySem.F.type_list_clear mt_clear om_clear ho hbase hline
theorem se_reverse (ho : SE X J E cx o fo) (hbase : attributeBase o "reverse" X.env (eval o X.env) = eval o X.env := by rfl) (hline : (apos.endLine == cpos.line) = true := by rfl) : SE X J E cx (.Call (.Attribute o "reverse" apos) [] [] cpos) (eM0 pReverse fo) :=
  se_m0 PySem.F.slot_list_reverse PySem.F.type_list_reverse mt_reverse om_reverse ho hbase hline
theorem se_insert (ho : SE X J E cx o fo) (ha : SE X J E cx a fa) (hb : SE X J E cx b fb) (hbase : attributeBase o "insert" X.env (eval o X.env) = eval o X.env := by rfl) (hline : (apos.endLine == cpos.line) = true := by rfl)
    (hs : starEach [a, b] X.env = (false, eval a X.env) :: starEach [b] X.env := by rfl) (hs2 : starEach [b] X.env = (false, eval b X.env) :: starEach [] X.env := by rfl) : SE X J E cx (.Call (.Attribute o "insert" apos) [a, b] [] cpos) (eM2 pInsert fo fa fb) :=
  se_m2 PySem.F.slot_list_insert PySem.F.type_list_insert mt_insert om_insert ho ha hb hbase hline (by rw [hs, hs2]; rfl) hs hs2
theorem se_index {n : Nat} (hr : Room n X.A) (ho : SE X J E cx o fo) (ha : SE X J E cx a fa) (hbase : attributeBase o "index" X.env (eval o X.env) = eval o X.env := by rfl) (hline : (apos.endLine == cpos.line) = true := by rfl)
    (hs : starEach [a] X.env = (false, eval a X.env) :: starEach [] X.env := by rfl) : SE X J E cx (.Call (.Attribute o "index" apos) [a] [] cpos) (eM1 pIndex fo fa) :=
  se_m1 PySem.F.slot_list_index PySem.F.type_list_index (mt_indexD (by have := hr.un; omega)) (om_index X.K) ho ha hbase hline (by rw [hs]; rfl) hs
end
end M

set_option Elab.async false
set_option linter.all false
set_option maxRecDepth 100000
set_option maxHeartbeats 4000000
/-! Targets, statements, loops, comprehensions. -/
namespace M
open PySem L2

/-! ### slots -/
section
variable {J : Inf} {t : Tr} {L : Addr → Prop} {H : Hp} {r : Env} {s : St}
theorem Slots.set {i : Nat} {d : D} {v : V} (S : Slots J t L H r s) (w : RV J t L H d v) : Slots J t L H (r.set i (some d)) (s.set i (some v)) := by
  refine ⟨by simp [S.1], fun k e q => ?_⟩
  by_cases hk : i = k
  · subst hk
    have hi : i < r.length := by
      have := (List.getElem?_eq_some_iff.mp q).1
      simpa using this
    rw [List.getElem?_set_self hi] at q
    cases q
    exact ⟨v, by rw [List.getElem?_set_self (by rw [S.1]; exact hi)], w⟩
  · rw [List.getElem?_set_ne hk] at q
    obtain ⟨u, h1, h2⟩ := S.2 k e q
    exact ⟨u, by rw [List.getElem?_set_ne hk]; exact h1, h2⟩
theorem Slots.wipe (S : Slots J t L H r s) : ∀ vs : List Nat, Slots J t L H (wipeE r vs) (wipe s vs)
  | [] => S
  | v :: vs => by
    have ih := Slots.wipe S vs
    unfold wipeE L2.wipe
    refine ⟨by simp [ih.1], fun k e q => ?_⟩
    by_cases hk : v = k
    · subst hk
      have hi : v < (wipeE r vs).length := by
        have := (List.getElem?_eq_some_iff.mp q).1
        simpa using this
      rw [List.getElem?_set_self hi] at q
      cases q
    · rw [List.getElem?_set_ne hk] at q
      obtain ⟨u, h1, h2⟩ := ih.2 k e q
      exact ⟨u, by rw [List.getElem?_set_ne hk]; exact h1, h2⟩
/-- alike but at some slots -/
def Agr (ts : List Nat) (s s' : St) : Prop := s'.length = s.length ∧ ∀ i, i ∉ ts → s'[i]? = s[i]?
theorem Agr.refl : Agr [] s s := ⟨rfl, fun _ _ => rfl⟩
theorem Agr.trans {ts us : List Nat} {s1 s2 : St} (a : Agr ts s s1) (b : Agr us s1 s2) : Agr (ts ++ us) s s2 :=
  ⟨b.1.trans a.1, fun i hi => by
    rw [List.mem_append, not_or] at hi
    rw [b.2 i hi.2, a.2 i hi.1]⟩
theorem wipe_at (s : St) : ∀ (vs : List Nat) (i : Nat), (L2.wipe s vs)[i]? = if i ∈ vs ∧ i < s.length then some none else s[i]?
  | [], i => by simp [L2.wipe]
  | v :: vs, i => by
    unfold L2.wipe
    by_cases hv : v = i
    · subst hv
      by_cases hl : v < s.length
      · rw [List.getElem?_set_self (by rw [wipe_length]; exact hl), if_pos ⟨List.mem_cons_self, hl⟩]
      · rw [if_neg (fun z => hl z.2), List.getElem?_eq_none (by rw [List.length_set, wipe_length]; omega), List.getElem?_eq_none (by omega)]
    · rw [List.getElem?_set_ne hv, wipe_at s vs i]
      have : (i ∈ v :: vs) ↔ i ∈ vs := by
        rw [List.mem_cons]
        exact ⟨fun z => z.elim (fun w => absurd w.symm hv) id, .inr⟩
      simp only [this]
theorem Agr.wipe {ts vs : List Nat} {s' : St} (a : Agr ts (L2.wipe s vs) s') (h : ∀ i ∈ ts, i ∈ vs) : L2.wipe s' vs = L2.wipe s vs := by
  refine List.ext_getElem? fun i => ?_
  have hl : s'.length = s.length := by rw [a.1, wipe_length]
  rw [wipe_at, wipe_at, hl]
  by_cases hi : i ∈ vs ∧ i < s.length
  · rw [if_pos hi, if_pos hi]
  · rw [if_neg hi, if_neg hi]
    by_cases hv : i ∈ vs
    · have : ¬ i < s.length := fun z => hi ⟨hv, z⟩
      rw [List.getElem?_eq_none (by omega), List.getElem?_eq_none (by omega)]
    · rw [a.2 i (fun z => hv (h i z)), wipe_at, if_neg hi]
end

/-- a target by the machine -/
def tG (J : Inf) (T : T) : TG := fun v s H Q => ∃ t r h d, RepH J t h H ∧ Slots J t (live t h) H r s ∧ RV J t (live t h) H d v ∧
  ∃ r', asg T d r = some r' ∧ ∀ s', Slots J t (live t h) H r' s' → Agr (tslots T) s s' → Q s' H
def tGs (J : Inf) (Ts : List T) : TGs := fun vs s H Q => ∃ t r h ds, RepH J t h H ∧ Slots J t (live t h) H r s ∧ RVs J t (live t h) H ds vs ∧
  ∃ r', asgs Ts ds r = some r' ∧ ∀ s', Slots J t (live t h) H r' s' → Agr (tslotss Ts) s s' → Q s' H
abbrev SG (X : Cx) (J : Inf) (e : Expr) (T : T) : Prop := PG X e (tG J T)
abbrev SGs (X : Cx) (J : Inf) (es : List Expr) (Ts : List T) : Prop := PGs X es (tGs J Ts)
theorem PG.weak {X : Cx} {e : Expr} {t t' : TG} (p : PG X e t) (w : ∀ v s H Q, t' v s H Q → t v s H Q) : PG X e t' := ⟨fun pins s σ H v u Q I r h => p.run pins s σ H v u Q I r (w _ _ _ _ h)⟩
theorem PGs.weak {X : Cx} {e : List Expr} {t t' : TGs} (p : PGs X e t) (w : ∀ v s H Q, t' v s H Q → t v s H Q) : PGs X e t' := ⟨fun pins s σ H v u Q I r h => p.run pins s σ H v u Q I r (w _ _ _ _ h)⟩
section
variable {X : Cx} {J : Inf} {E : XK} {cx : Ctx} {n : Nat} {pos : Pos}
theorem sg_name (i : Nat) {x : Str} (nd : X.N.Nodup) (hi : X.N[i]? = some x := by rfl) (hx : Loc X.env.scope x := by first | exact Or.inl rfl | exact Or.inr rfl)
    (hf : X.fn x = true ∨ X.env.scope.names.lookup x = some .local := by first | exact .inl rfl | exact .inr rfl | assumption) : SG X J (.Name x pos) (.n i) := by
  refine PG.weak (pg_name nd hi hx hf) fun v s H Q ⟨t, r, h, d, R, S, w, r', e, k⟩ => ?_
  simp only [asg] at e
  split at e
  · cases e
    refine k _ (S.set w) ⟨by simp, fun j hj => ?_⟩
    have : i ≠ j := fun z => hj (by rw [z]; simp [tslots])
    exact List.getElem?_set_ne this
  · cases e
theorem sgs_nil : SGs X J [] [] := by
  refine PGs.weak pgs_nil fun vs s H Q ⟨t, r, h, ds, R, S, w, r', e, k⟩ => ?_
  cases ds with
  | nil =>
    simp only [asgs, Option.some.injEq] at e
    subst e
    simp only [RVs] at w
    exact ⟨w, k s S Agr.refl⟩
  | cons d ds => simp [asgs] at e
theorem sgs_cons {e : Expr} {es : List Expr} {T : T} {Ts : List M.T} (h1 : SG X J e T) (h2 : SGs X J es Ts) (hs : (assignEach (e :: es) X.env).map (·.2) = assign e X.env :: (assignEach es X.env).map (·.2) := by rfl) : SGs X J (e :: es) (T :: Ts) := by
  refine PGs.weak (pgs_cons h1 h2 hs) fun vs s H Q ⟨t, r, h, ds, R, S, w, r', e, k⟩ => ?_
  cases ds with
  | nil => simp [asgs] at e
  | cons d ds =>
    simp only [asgs] at e
    simp only [RVs] at w
    obtain ⟨v, vr, rfl, w1, w2⟩ := w
    split at e
    · rename_i r1 e1
      refine ⟨v, vr, rfl, t, r, h, d, R, S, w1, r1, e1, fun s1 S1 a1 => ?_⟩
      exact ⟨t, r1, h, ds, R, S1, w2, r', e, fun s2 S2 a2 => k s2 S2 (a1.trans a2)⟩
    · cases e
theorem asgs_length : ∀ {Ts : List T} {ds : List D} {r r' : Env}, asgs Ts ds r = some r' → ds.length = Ts.length
  | [], [], _, _, _ => rfl
  | [], _ :: _, _, _, e => by simp [asgs] at e
  | _ :: _, [], _, _, e => by simp [asgs] at e
  | T :: Ts, d :: ds, r, r', e => by
    simp only [asgs] at e
    split at e
    · simp [asgs_length e]
    · cases e
theorem sg_tup {es : List Expr} {Ts : List T} {k : Nat} (hc : X.calm = true) (h : SGs X J es Ts) (hn : (assignEach es X.env).length = Ts.length := by rfl) (hst : (assignEach es X.env).findIdx? (·.1) = none := by rfl) : SG X J (.Tuple es k pos) (.t Ts) := by
  refine PG.weak (pg_tup hc h hn hst) fun v s H Q ⟨t, r, h, d, R, S, w, r', e, k⟩ => ?_
  cases d with
  | tup ds =>
    simp only [asg] at e
    simp only [RV] at w
    obtain ⟨a, vs, rfl, ha, nl, rs⟩ := w
    refine ⟨a, vs, rfl, SqT.of ha, ?_, t, r, h, ds, R, S, rs, r', e, k⟩
    rw [rs.length, asgs_length e]
  | _ => simp [asg] at e
end

/-! ### statements -/
def PostS (J : Inf) (E : XK) (t : Tr) (h : Hh) (H : Hp) (o : O) (D : Ends) : Prop :=
  match o with
  | .nx r' h' => ∀ t' H' s', Ext t h H t' h' H' → RepH J t' h' H' → Slots J t' (live t' h') H' r' s' → D.nx s' H'
  | .bk r' h' => ∀ t' H' s', Ext t h H t' h' H' → RepH J t' h' H' → Slots J t' (live t' h') H' r' s' → D.bk s' H'
  | .rt d h' => ∀ t' H' v, Ext t h H t' h' H' → RepH J t' h' H' → RV J t' (live t' h') H' d v → D.rt v H'
  | .exc c h' => ∀ t' H', Ext t h H t' h' H' → RepH J t' h' H' → E (.ref (J.exc c)) none H'
  | .bad => False
def tS (J : Inf) (E : XK) (cx : Ctx) (f : FS) : TS := fun D s H => ∃ t r h, RepH J t h H ∧ Slots J t (live t h) H r s ∧ PostS J E t h H (f cx r h) D
abbrev SS (X : Cx) (J : Inf) (E : XK) (cx : Ctx) (st : Stmt) (f : FS) : Prop := PS X st (tS J E cx f)
abbrev SSs (X : Cx) (J : Inf) (E : XK) (cx : Ctx) (st : List Stmt) (f : FS) : Prop := PSs X st (tS J E cx f)
theorem PostS.ext {J : Inf} {E : XK} {t t1 : Tr} {h h1 : Hh} {H H1 : Hp} {o : O} {D : Ends} (p : PostS J E t h H o D) (e : Ext t h H t1 h1 H1) : PostS J E t1 h1 H1 o D := by
  cases o with
  | nx r' h' => exact fun t' H' s' e' => p t' H' s' (e.trans e')
  | bk r' h' => exact fun t' H' s' e' => p t' H' s' (e.trans e')
  | rt d h' => exact fun t' H' s' e' => p t' H' s' (e.trans e')
  | exc c h' => exact fun t' H' e' => p t' H' (e.trans e')
  | bad => exact p
/-- an expression within a statement -/
def stm (m : R D) (k : D → Hh → O) : O :=
  match m with
  | .ok d h => k d h
  | .exc c h => .exc c h
  | .bad => .bad
theorem PostS.stm {J : Inf} {E : XK} {t : Tr} {h : Hh} {H : Hp} {m : R D} {k : D → Hh → O} {De : Ends} (p : PostS J E t h H (stm m k) De) :
    PostE J E t h H m (fun v H1 => ∃ t1 h1 d, Ext t h H t1 h1 H1 ∧ RepH J t1 h1 H1 ∧ RV J t1 (live t1 h1) H1 d v ∧ PostS J E t1 h1 H1 (k d h1) De) := by
  cases m with
  | ok d h' => exact fun t' H' v e R r => ⟨t', h', d, e, R, r, PostS.ext (o := k d h') p e⟩
  | exc c h' => exact p
  | bad => exact p
section
variable {X : Cx} {J : Inf} {E : XK} {cx : Ctx} {n : Nat} {pos pos' : Pos} {st st2 : Stmt} {rest : List Stmt} {f f2 : FS} {fs : List FS} {e : Expr} {fe : FE}
theorem ss_nil : SSs X J E cx [] (sAll []) := by
  refine PSs.weak pss_nil fun D s H ⟨t, r, h, R, S, p⟩ => ?_
  exact p t H s Ext.refl R S
theorem ss_one (h1 : SS X J E cx st f) : SSs X J E cx [st] (sAll [f]) := pss_one h1
theorem ss_cons (h1 : SS X J E cx st f) (h2 : SSs X J E cx (st2 :: rest) (sAll (f2 :: fs))) : SSs X J E cx (st :: st2 :: rest) (sAll (f :: f2 :: fs)) := by
  refine PSs.weak (pss_cons h1 h2) fun D s H ⟨t, r, h, R, S, p⟩ => ?_
  refine ⟨t, r, h, R, S, ?_⟩
  have p' : PostS J E t h H (sSeq f (sAll (f2 :: fs)) cx r h) D := p
  unfold sSeq at p'
  cases q : f cx r h with
  | nx r1 h1 => rw [q] at p'; exact fun t' H' s' e R' S' => ⟨t', r1, h1, R', S', PostS.ext p' e⟩
  | bk r1 h1 => rw [q] at p'; exact p'
  | rt d h1 => rw [q] at p'; exact p'
  | exc c h1 => rw [q] at p'; exact p'
  | bad => rw [q] at p'; exact p'
theorem ss_asg {tg : Expr} {T : T} (he : SE X J E cx e fe) (hg : SG X J tg T) (hs : swapsWithSole [tg] e pos.line X.env = pure false := by rfl) (hw : swappedStores [tg] e X.env = pure none := by rfl) (h1 : (assignEach [tg] X.env).map (·.2) = [assign tg X.env] := by rfl) : SS X J E cx (.Assign [tg] e pos) (sAsg T fe) := by
  refine PS.weak (ps_asg he hg hs hw h1) fun D s H ⟨t, r, h, R, S, p⟩ => ?_
  have p' : PostS J E t h H (stm (fe cx r h) fun d h1 => match asg T d r with | some r1 => .nx r1 h1 | none => .bad) D := by
    unfold sAsg at p
    unfold stm
    exact p
  refine ⟨t, r, h, R, S, Post.imp p'.stm fun v H1 ⟨t1, h1, d, e1, R1, v1, p1⟩ => ?_⟩
  cases q : asg T d r with
  | none => rw [q] at p1; exact p1.elim
  | some r1 =>
    rw [q] at p1
    exact ⟨t1, r, h1, d, R1, S.mono e1, v1, r1, q, fun s' S' _ => p1 t1 H1 s' Ext.refl R1 S'⟩
theorem ss_set (i : Nat) {x : Str} (nd : X.N.Nodup) (he : SE X J E cx e fe) (hi : X.N[i]? = some x := by rfl) (hx : Loc X.env.scope x := by first | exact Or.inl rfl | exact Or.inr rfl)
    (hf : X.fn x = true ∨ X.env.scope.names.lookup x = some .local := by first | exact .inl rfl | exact .inr rfl | assumption)
    (hs : swapsWithSole [.Name x pos'] e pos.line X.env = pure false := by rfl) (hw : swappedStores [.Name x pos'] e X.env = pure none := by rfl) : SS X J E cx (.Assign [.Name x pos'] e pos) (sAsg (.n i) fe) :=
  ss_asg he (sg_name i nd hi hx hf) hs hw rfl
theorem ss_par {a b : Expr} {i j : Nat} {x y : Str} {fa : List FE} {px py pt : Pos} {kt k2 pt2} (g : X.calm = true) (nd : X.N.Nodup) (ha : SA X J E cx [a, b] fa) (hi : X.N[i]? = some x := by rfl) (hj : X.N[j]? = some y := by rfl) (hij : i ≠ j := by decide)
    (hx : X.env.scope.names.lookup x = some .local := by rfl) (hy : X.env.scope.names.lookup y = some .local := by rfl)
    (hw : swappedStores [.Tuple [.Name x px, .Name y py] kt pt] (.Tuple [a, b] k2 pt2) X.env = pure (some [x, y]) := by rfl)
    (hs : swapsWithSole [.Tuple [.Name x px, .Name y py] kt pt] (.Tuple [a, b] k2 pt2) pos.line X.env = pure false := by rfl) :
    SS X J E cx (.Assign [.Tuple [.Name x px, .Name y py] kt pt] (.Tuple [a, b] k2 pt2) pos) (sPar [i, j] fa) := by
  refine PS.weak (ps_par g nd hi hj hij hx hy ha hw hs) fun D s H ⟨t, r, h, R, S, p⟩ => ?_
  refine ⟨t, r, h, R, S, ?_⟩
  unfold sPar at p
  cases q : evs fa cx r h with
  | exc c h1 => rw [q] at p; exact p
  | bad => rw [q] at p; exact p
  | ok ds h1 =>
    rw [q] at p
    intro t1 H1 vs e1 R1 w
    dsimp only at p
    split at p
    · rename_i r1 q1
      have hl := asgs_length q1
      match ds, hl, w, q1 with
      | [d1, d2], _, w, q1 =>
        simp only [RVs] at w
        obtain ⟨v1, _, rfl, w1, v2, _, rfl, w2, rfl⟩ := w
        simp only [List.map_cons, List.map_nil, asgs, asg] at q1
        split at q1
        · rename_i ra ea
          split at ea
          · cases ea
            split at q1
            · rename_i rb eb
              split at eb
              · cases eb
                cases q1
                exact ⟨v1, v2, rfl, p t1 H1 _ e1 R1 (((S.mono e1).set w1).set w2)⟩
              · cases eb
            · cases q1
          · cases ea
        · cases q1
    · exact p.elim
theorem ss_par3 {a b c : Expr} {i j l : Nat} {x y z : Str} {fa : List FE} {px py pz pt : Pos} {kt k2 pt2} (g : X.calm = true) (nd : X.N.Nodup) (ha : SA X J E cx [a, b, c] fa) (hi : X.N[i]? = some x := by rfl) (hj : X.N[j]? = some y := by rfl) (hl : X.N[l]? = some z := by rfl) (hij : i ≠ j := by decide) (hil : i ≠ l := by decide) (hjl : j ≠ l := by decide)
    (hx : X.env.scope.names.lookup x = some .local := by rfl) (hy : X.env.scope.names.lookup y = some .local := by rfl) (hz : X.env.scope.names.lookup z = some .local := by rfl)
    (hw : swappedStores [.Tuple [.Name x px, .Name y py, .Name z pz] kt pt] (.Tuple [a, b, c] k2 pt2) X.env = pure (some [x, y, z]) := by rfl)
    (hs : swapsWithSole [.Tuple [.Name x px, .Name y py, .Name z pz] kt pt] (.Tuple [a, b, c] k2 pt2) pos.line X.env = pure false := by rfl) :
    SS X J E cx (.Assign [.Tuple [.Name x px, .Name y py, .Name z pz] kt pt] (.Tuple [a, b, c] k2 pt2) pos) (sPar [i, j, l] fa) := by
  refine PS.weak (ps_par3 g nd hi hj hl hij hil hjl hx hy hz ha hw hs) fun D s H ⟨t, r, h, R, S, p⟩ => ?_
  refine ⟨t, r, h, R, S, ?_⟩
  unfold sPar at p
  cases q : evs fa cx r h with
  | exc c h1 => rw [q] at p; exact p
  | bad => rw [q] at p; exact p
  | ok ds h1 =>
    rw [q] at p
    intro t1 H1 vs e1 R1 w
    dsimp only at p
    split at p
    · rename_i r1 q1
      have hl := asgs_length q1
      match ds, hl, w, q1 with
      | [d1, d2, d3], _, w, q1 =>
        simp only [RVs] at w
        obtain ⟨v1, _, rfl, w1, v2, _, rfl, w2, v3, _, rfl, w3, rfl⟩ := w
        simp only [List.map_cons, List.map_nil, asgs, asg] at q1
        split at q1
        · rename_i ra ea
          split at ea
          · cases ea
            split at q1
            · rename_i rb eb
              split at eb
              · cases eb
                split at q1
                · rename_i rc ec
                  split at ec
                  · cases ec
                    cases q1
                    exact ⟨v1, v2, v3, rfl, p t1 H1 _ e1 R1 ((((S.mono e1).set w1).set w2).set w3)⟩
                  · cases ec
                · cases q1
              · cases eb
            · cases q1
          · cases ea
        · cases q1
    · exact p.elim
theorem ss_expr (he : SE X J E cx e fe) (hs : swapsWith e none pos.line X.env = pure false := by rfl) : SS X J E cx (.Expr e pos) (sExpr fe) := by
  refine PS.weak (ps_expr he hs) fun D s H ⟨t, r, h, R, S, p⟩ => ?_
  have p' : PostS J E t h H (stm (fe cx r h) fun d h1 => .nx r h1) D := by
    unfold sExpr at p
    unfold stm
    exact p
  exact ⟨t, r, h, R, S, Post.imp p'.stm fun v H1 ⟨t1, h1, d, e1, R1, v1, p1⟩ => p1 t1 H1 s Ext.refl R1 (S.mono e1)⟩
theorem ss_ret (he : SE X J E cx e fe) : SS X J E cx (.Return (some e) pos) (sRet fe) := by
  refine PS.weak (ps_ret he) fun D s H ⟨t, r, h, R, S, p⟩ => ?_
  have p' : PostS J E t h H (stm (fe cx r h) fun d h1 => .rt d h1) D := by
    unfold sRet at p
    unfold stm
    exact p
  exact ⟨t, r, h, R, S, Post.imp p'.stm fun v H1 ⟨t1, h1, d, e1, R1, v1, p1⟩ => p1 t1 H1 v Ext.refl R1 v1⟩
theorem ss_pass : SS X J E cx (.Pass pos) sPass := PS.weak ps_pass fun D s H ⟨t, r, h, R, S, p⟩ => p t H s Ext.refl R S
theorem ss_break : SS X J E cx (.Break pos) sBreak := PS.weak ps_break fun D s H ⟨t, r, h, R, S, p⟩ => p t H s Ext.refl R S
theorem ss_if {c : Expr} {a b : List Stmt} {fc : FE} {fa fb : FS} (hc : ST X J E cx c fc) (ha : SSs X J E cx a fa) (hb : SSs X J E cx b fb) : SS X J E cx (.If c a b pos) (sIf fc fa fb) := by
  refine PS.weak (ps_if hc ha hb) fun D s H ⟨t, r, h, R, S, p⟩ => ?_
  refine ⟨t, r, h, R, S, ?_⟩
  unfold sIf at p
  cases q : fc cx r h with
  | exc c h1 => rw [q] at p; exact p
  | bad => rw [q] at p; exact p
  | ok d h1 =>
    rw [q] at p
    intro t1 H1 v e1 R1 w
    cases d with
    | bl bb =>
      simp only [RV] at w
      refine ⟨bb, w, ?_⟩
      cases bb with
      | true => exact iteT ⟨t1, r, h1, R1, S.mono e1, PostS.ext (o := fa cx r h1) p e1⟩
      | false => exact iteF ⟨t1, r, h1, R1, S.mono e1, PostS.ext (o := fb cx r h1) p e1⟩
    | _ => exact p.elim
theorem ss_while {c : Expr} {a : List Stmt} {fc : FE} {fa : FS} (k : Nat) (g : Good X J E n) (hc : ST X J E cx c fc) (ha : SSs X J E cx a fa) : SS X J E cx (.While c a [] pos) (sWhile k fc fa) := by
  refine PS.weak (ps_while g.own hc ha) fun D s H ⟨t, r, h, R, S, p⟩ => ?_
  refine ⟨fun m s H => ∃ t r h, RepH J t h H ∧ Slots J t (live t h) H r s ∧ PostS J E t h H (whileN cx fc fa m r h) D, ⟨k, t, r, h, R, S, p⟩, ?_⟩
  rintro m s H ⟨t, r, h, R, S, p⟩
  cases m with
  | zero => exact p.elim
  | succ m =>
    unfold whileN at p
    refine ⟨t, r, h, R, S, ?_⟩
    cases q : fc cx r h with
    | exc c h1 => rw [q] at p; exact p
    | bad => rw [q] at p; exact p
    | ok d h1 =>
      rw [q] at p
      intro t1 H1 v e1 R1 w
      cases d with
      | bl bb =>
        simp only [RV] at w
        refine ⟨bb, w, ?_⟩
        cases bb with
        | false => exact iteF (p t1 H1 s e1 R1 (S.mono e1))
        | true =>
          refine iteT ⟨fun s' H' => ∃ t r h, RepH J t h H' ∧ Slots J t (live t h) H' r s' ∧ PostS J E t h H' (whileN cx fc fa m r h) D, fun s' H' z => ⟨m, Nat.lt_succ_self m, z⟩, ?_⟩
          refine ⟨t1, r, h1, R1, S.mono e1, ?_⟩
          dsimp only at p
          cases q2 : fa cx r h1 with
          | nx r2 h2 => rw [q2] at p; exact fun t' H' s' e' R' S' => ⟨t', r2, h2, R', S', PostS.ext p (e1.trans e')⟩
          | bk r2 h2 => rw [q2] at p; exact fun t' H' s' e' R' S' => p t' H' s' (e1.trans e') R' S'
          | rt d2 h2 => rw [q2] at p; exact fun t' H' v' e' R' w' => p t' H' v' (e1.trans e') R' w'
          | exc c2 h2 => rw [q2] at p; exact fun t' H' e' R' => p t' H' (e1.trans e') R'
          | bad => rw [q2] at p; exact p
      | _ => exact p.elim
end
end M

set_option Elab.async false
set_option linter.all false
set_option maxRecDepth 100000
set_option maxHeartbeats 4000000
/-! Walks: for, comprehensions; stores. -/
namespace M
open PySem L2

/-- an iterator that gives the items of a source, one behind the other, as long as it stands still -/
def Wk (J : Inf) (t : Tr) (h : Hh) (H : Hp) (s : Src) (I : It) : Prop :=
  still s h = true ∧ ∃ (G : Hp → Prop) (Y : Nat → Hp → V → Hp → Prop), Walk I s.items.length G Y ∧
    (∀ t1 h1 H1, Ext0 t h H t1 h1 H1 → RepH J t1 h1 H1 → still s h1 = true → G H1) ∧
    (∀ (i : Nat) t1 h1 H1 x H2, Ext0 t h H t1 h1 H1 → RepH J t1 h1 H1 → still s h1 = true → i < s.items.length → Y i H1 x H2 →
      ∃ d, s.items[i]? = some d ∧ Ext t1 h1 H1 t1 h1 H2 ∧ RepH J t1 h1 H2 ∧ RV J t1 (live t1 h1) H2 d x)
def tI (J : Inf) (E : XK) (cx : Ctx) (f : FI) : TI := fun s H Rr => ∃ t r h, RepH J t h H ∧ Slots J t (live t h) H r s ∧
  (match f cx r h with
    | .ok s h' => ∀ t' H' I, Ext t h H t' h' H' → RepH J t' h' H' → Wk J t' h' H' s I → Rr I H'
    | .exc c h' => ∀ t' H', Ext t h H t' h' H' → RepH J t' h' H' → E (.ref (J.exc c)) none H'
    | .bad => False)
abbrev SI (X : Cx) (J : Inf) (E : XK) (cx : Ctx) (tg iter : Expr) (f : FI) : Prop := PI X tg iter (tI J E cx f)
theorem PI.weak {X : Cx} {tg e : Expr} {t t' : TI} (p : PI X tg e t) (w : ∀ s H Q, t' s H Q → t s H Q) : PI X tg e t' := ⟨fun pins s σ H Q I h => p.run pins s σ H Q I (w _ _ _ h)⟩
theorem PI.or {X : Cx} {tg e : Expr} {t u : TI} (p : PI X tg e t) (q : PI X tg e u) : PI X tg e (fun s H R => t s H R ∨ u s H R) := ⟨fun pins s σ H R I h => h.elim (p.run pins s σ H R I) (q.run pins s σ H R I)⟩

mutual
theorem same_refl : ∀ d : D, same d d = true
  | .non => rfl
  | .bl _ => by simp [same]
  | .int _ => by simp [same]
  | .str _ => by simp [same]
  | .tup xs => by simp only [same]; exact sames_refl xs
  | .lst xs => by simp only [same]; exact sames_refl xs
  | .dct ks vs => by simp only [same, sames_refl vs]; simp
  | .edict => rfl
  | .cell _ => by simp [same]
  | .fn _ => by simp [same]
  | .ktp _ => by simp [same]
theorem sames_refl : ∀ ds : List D, sames ds ds = true
  | [] => rfl
  | d :: ds => by simp only [sames, same_refl d, sames_refl ds, Bool.and_self]
end
mutual
theorem same_eq : ∀ {a b : D}, same a b = true → a = b
  | .non, b, e => by cases b <;> simp [same] at e; rfl
  | .bl _, b, e => by cases b <;> simp [same] at e; rw [e]
  | .int _, b, e => by cases b <;> simp [same] at e; rw [e]
  | .str _, b, e => by cases b <;> simp [same] at e; rw [e]
  | .tup xs, b, e => by
    cases b with
    | tup ys => simp only [same] at e; rw [sames_eq e]
    | _ => simp [same] at e
  | .lst xs, b, e => by
    cases b with
    | lst ys => simp only [same] at e; rw [sames_eq e]
    | _ => simp [same] at e
  | .dct ks vs, b, e => by
    cases b with
    | dct ls ws =>
      simp only [same, Bool.and_eq_true, beq_iff_eq] at e
      rw [e.1, sames_eq e.2]
    | _ => simp [same] at e
  | .edict, b, e => by cases b <;> simp [same] at e; rfl
  | .cell _, b, e => by cases b <;> simp [same] at e; rw [e]
  | .fn _, b, e => by cases b <;> simp [same] at e; rw [e]
  | .ktp _, b, e => by cases b <;> simp [same] at e; rw [e]
theorem sames_eq : ∀ {as bs : List D}, sames as bs = true → as = bs
  | [], [], _ => rfl
  | [], _ :: _, e => by simp [sames] at e
  | _ :: _, [], e => by simp [sames] at e
  | a :: as, b :: bs, e => by
    simp only [sames, Bool.and_eq_true] at e
    rw [same_eq e.1, sames_eq e.2]
end

section
variable {X : Cx} {J : Inf} {E : XK} {cx : Ctx} {n : Nat} {pos p tpos : Pos} {a b c tg : Expr} {fa fb fc : FE} {fi : FI}

/-! ### what is walked -/
/-- a bind within a walk's beginning -/
theorem tI_bind {m : M.R D} {k : D → Hh → M.R Src} {t : Tr} {h : Hh} {H : Hp} {Rr : It → Hp → Prop}
    (q : match m.bind k with
      | .ok s h' => ∀ t' H' I, Ext t h H t' h' H' → RepH J t' h' H' → Wk J t' h' H' s I → Rr I H'
      | .exc c h' => ∀ t' H', Ext t h H t' h' H' → RepH J t' h' H' → E (.ref (J.exc c)) none H'
      | .bad => False) :
    PostE J E t h H m (fun v H1 => ∃ t1 h1 d, Ext t h H t1 h1 H1 ∧ RepH J t1 h1 H1 ∧ RV J t1 (live t1 h1) H1 d v ∧
      (match k d h1 with
      | .ok s h' => ∀ t' H' I, Ext t1 h1 H1 t' h' H' → RepH J t' h' H' → Wk J t' h' H' s I → Rr I H'
      | .exc c h' => ∀ t' H', Ext t1 h1 H1 t' h' H' → RepH J t' h' H' → E (.ref (J.exc c)) none H'
      | .bad => False)) := by
  cases m with
  | ok d h' =>
    intro t1 H1 v e1 R1 v1
    refine ⟨t1, h', d, e1, R1, v1, ?_⟩
    have q' : match k d h' with
      | .ok s h' => ∀ t' H' I, Ext t h H t' h' H' → RepH J t' h' H' → Wk J t' h' H' s I → Rr I H'
      | .exc c h' => ∀ t' H', Ext t h H t' h' H' → RepH J t' h' H' → E (.ref (J.exc c)) none H'
      | .bad => False := q
    cases z : k d h' with
    | ok s h2 => rw [z] at q'; exact fun t' H' I e' => q' t' H' I (e1.trans e')
    | exc c h2 => rw [z] at q'; exact fun t' H' e' => q' t' H' (e1.trans e')
    | bad => rw [z] at q'; exact q'
  | exc c h' => exact q
  | bad => exact q
/-- a list that is the same as long as it stands still -/
def Stb (J : Inf) (t : Tr) (h : Hh) (H : Hp) (ats : List (Nat × List D)) (xs : List D) (l : Addr) : Prop :=
  stillA h ats = true ∧ ∀ t1 h1 H1, Ext0 t h H t1 h1 H1 → RepH J t1 h1 H1 → stillA h1 ats = true → ∃ vs, H1 l = some (.lst vs) ∧ RVs J t1 (live t1 h1) H1 xs vs
theorem stillA_app {h : Hh} : ∀ {a b : List (Nat × List D)}, stillA h (a ++ b) = (stillA h a && stillA h b)
  | [], b => rfl
  | p :: a, b => by
    simp only [List.cons_append, stillA, stillA_app, Bool.and_assoc]
theorem view_w {t : Tr} {h : Hh} {H : Hp} {d : D} {x : V} {pr : List (Nat × List D) × List D} (R : RepH J t h H) (v : RV J t (live t h) H d x) (e : viewW h d = some pr) : ∃ l, x = .ref l ∧ Stb J t h H pr.1 pr.2 l := by
  cases d with
  | lst xs =>
    simp only [viewW, Option.some.injEq] at e
    subst e
    simp only [RV] at v
    obtain ⟨l, vs, rfl, q, nl, r⟩ := v
    exact ⟨l, rfl, rfl, fun t1 h1 H1 e _ _ => ⟨vs, e.keep l _ nl q ⟨fun _ => nofun, trivial⟩, r.mono0 e⟩⟩
  | cell c =>
    simp only [viewW] at e
    split at e
    · rename_i xs hc
      cases e
      simp only [RV] at v
      obtain ⟨l, rfl, q⟩ := v
      refine ⟨l, rfl, by simp only [stillA, hc, sames_refl, Bool.and_self], fun t1 h1 H1 e R1 z => ?_⟩
      simp only [stillA, Bool.and_true] at z
      split at z
      · rename_i ys hy
        rw [sames_eq z] at hy
        exact R1.cells c _ l hy (e.at q)
      · cases z
    · cases e
  | _ => simp [viewW] at e
def GL (K : PySem.W.Frag) (a : Addr) (n : Nat) (H : Hp) : Prop := ∃ vs, SqL K H a vs ∧ vs.length = n
def YL (K : PySem.W.Frag) (a : Addr) : Nat → Hp → V → Hp → Prop := fun i H x H' => H' = H ∧ ∀ vs, SqL K H a vs → vs[i]? = some x
theorem walk_L {K : PySem.W.Frag} {a : Addr} {n : Nat} : Walk (Itl K a) n (GL K a n) (YL K a) where
  goes := fun i H hi ⟨vs, q, hl⟩ => ⟨vs, vs[i]'(by omega), q, by simp⟩
  stops := fun H ⟨vs, q, hl⟩ => ⟨vs, q, by omega⟩
  yields := fun i H x H' _ _ y => y
theorem wk_list {t : Tr} {h : Hh} {H : Hp} {ats : List (Nat × List D)} {xs : List D} {l : Addr} (q : Stb J t h H ats xs l) : Wk J t h H ⟨ats, xs⟩ (Itl X.K l) := by
  refine ⟨q.1, _, _, walk_L (n := xs.length), fun t1 h1 H1 e R1 z => ?_, fun i t1 h1 H1 x H2 e R1 z hi y => ?_⟩
  · obtain ⟨vs, g1, g2⟩ := q.2 t1 h1 H1 e R1 z
    exact ⟨vs, SqL.of g1, g2.length⟩
  · obtain ⟨rfl, y⟩ := y
    obtain ⟨vs, g1, g2⟩ := q.2 t1 h1 _ e R1 z
    obtain ⟨d, h1, h2⟩ := g2.getV (y vs (SqL.of g1))
    exact ⟨d, h1, Ext.refl, R1, h2⟩
theorem wk_tup {t : Tr} {h : Hh} {H : Hp} {xs : List D} {l : Addr} {vs : List V} (nl : ¬ live t h l) (q : H l = some (.tup vs)) (r : RVs J t (live t h) H xs vs) : Wk J t h H ⟨[], xs⟩ (Itt X.K l) := by
  refine ⟨rfl, _, _, by rw [← r.length]; exact walk_tup (xs := vs), fun t1 h1 H1 e R1 _ => SqT.of (e.keep l _ nl q ⟨fun _ => nofun, trivial⟩), fun i t1 h1 H1 x H2 e R1 _ hi y => ?_⟩
  obtain ⟨rfl, y⟩ := y
  obtain ⟨d, h1, h2⟩ := r.getV y
  exact ⟨d, h1, Ext.refl, R1, h2.mono0 e⟩
theorem si_seq (ha : SE X J E cx a fa) : SI X J E cx tg a (iSeq fa) := by
  refine PI.weak (PI.or (pi_list ha) (pi_tup ha)) fun s H Rr ⟨t, r, h, R, S, p⟩ => ?_
  have p' := tI_bind p
  cases q : fa cx r h with
  | bad => rw [q] at p'; exact p'.elim
  | exc c h1 =>
    rw [q] at p'
    refine .inl ⟨t, r, h, R, S, ?_⟩
    rw [q]
    exact p'
  | ok d h1 =>
    have p1 := p
    simp only [iSeq, q, M.R.bind_ok] at p1
    cases d with
    | tup xs =>
      refine .inr ⟨t, r, h, R, S, ?_⟩
      rw [q]
      intro t1 H1 v e1 R1 v1
      simp only [RV] at v1
      obtain ⟨l, vs, rfl, g, nl, rs⟩ := v1
      exact ⟨l, rfl, ⟨vs, SqT.of g⟩, p1 t1 H1 _ e1 R1 (wk_tup nl g rs)⟩
    | _ =>
      refine .inl ⟨t, r, h, R, S, ?_⟩
      rw [q]
      intro t1 H1 v e1 R1 v1
      dsimp only at p1
      split at p1
      · rename_i z
        split at z
        · rename_i pr hw
          cases z
          obtain ⟨l, rfl, st⟩ := view_w R1 v1 hw
          obtain ⟨vs, g1, _⟩ := st.2 t1 h1 H1 Ext.refl.toExt0 R1 st.1
          exact ⟨l, rfl, ⟨vs, SqL.of g1⟩, p1 t1 H1 _ e1 R1 (wk_list st)⟩
        · cases z
      · rename_i z; split at z <;> cases z
      · exact p1.elim
theorem rangeL_at (lo : Int) : ∀ (n i : Nat), i < n → (rangeL lo n)[i]? = some (.int (lo + i))
  | 0, _, h => absurd h (Nat.not_lt_zero _)
  | n + 1, 0, _ => by simp [rangeL]
  | n + 1, i + 1, h => by
    simp only [rangeL, List.getElem?_cons_succ]
    rw [rangeL_at (lo + 1) n i (by omega)]
    congr 2
    omega
theorem rangeL_length (lo : Int) : ∀ n : Nat, (rangeL lo n).length = n
  | 0 => rfl
  | n + 1 => by simp [rangeL, rangeL_length (lo + 1) n]
theorem wk_range {t : Tr} {h : Hh} {H : Hp} (lo : Int) (n : Nat) : Wk J t h H ⟨[], rangeL lo n⟩ (Itr lo n) := by
  refine ⟨rfl, _, _, by rw [show (Src.mk [] (rangeL lo n)).items.length = n from rangeL_length lo n]; exact walk_range, fun _ _ _ _ _ _ => trivial, fun i t1 h1 H1 x H2 e R1 _ hi y => ?_⟩
  obtain ⟨rfl, rfl⟩ := y
  have hi' : i < n := by
    have := rangeL_length lo n
    simp only at hi
    omega
  exact ⟨_, rangeL_at lo n i hi', Ext.refl, R1, by simp only [RV]⟩
theorem si_range1 (BB : Blt X.mg) (ha : SE X J E cx a fa) (hg : Gl X "range" := by rfl) (hs : starEach [a] X.env = [(false, eval a X.env)] := by rfl) : SI X J E cx tg (.Call (.Name "range" p) [a] [] pos) (iRange1 fa) := by
  refine PI.weak (pi_range1 hg BB.range (pa_cons ha pa_nil hs) hs) fun s H Rr ⟨t, r, h, R, S, p⟩ => ?_
  refine ⟨t, r, h, R, S, Post.imp (tI_bind p) fun v H1 ⟨t1, h1, d, e1, R1, v1, p1⟩ => ?_⟩
  cases d with
  | int i =>
    simp only [RV] at v1
    subst v1
    dsimp only at p1
    by_cases hc : i ≤ 1000000 ∧ -1000000 ≤ i
    · rw [if_pos hc] at p1
      exact ⟨i, rfl, by omega, by omega, p1 t1 H1 _ Ext.refl R1 (wk_range 0 i.toNat)⟩
    · rw [if_neg hc] at p1; exact p1.elim
  | _ => exact p1.elim
theorem si_range2 (BB : Blt X.mg) (ha : SE X J E cx a fa) (hb : SE X J E cx b fb) (hg : Gl X "range" := by rfl) (hs : starEach [a, b] X.env = [(false, eval a X.env), (false, eval b X.env)] := by rfl) (hs2 : starEach [b] X.env = [(false, eval b X.env)] := by rfl) :
    SI X J E cx tg (.Call (.Name "range" p) [a, b] [] pos) (iRange2 fa fb) := by
  refine PI.weak (pi_range2 hg BB.range (pa_cons ha (pa_cons hb pa_nil hs2) (by rw [hs, hs2])) hs hs2) fun s H Rr ⟨t, r, h, R, S, p⟩ => ?_
  refine ⟨t, r, h, R, S, Post.imp (tI_bind p) fun v H1 ⟨t1, h1, d, e1, R1, v1, p1⟩ => ?_⟩
  refine ⟨t1, r, h1, R1, S.mono e1, Post.imp (tI_bind p1) fun w H2 ⟨t2, h2, d2, e2, R2, v2, p2⟩ => ?_⟩
  cases d with
  | int i =>
    cases d2 with
    | int j =>
      simp only [RV] at v1 v2
      subst v1 v2
      dsimp only at p2
      by_cases hc : -1000000 ≤ i ∧ i ≤ 1000000 ∧ j ≤ 1000000 ∧ -1000000 ≤ j
      · rw [if_pos hc] at p2
        exact ⟨i, j, rfl, by omega, p2 t2 H2 _ Ext.refl R2 (wk_range i (j - i).toNat)⟩
      · rw [if_neg hc] at p2; exact p2.elim
    | _ => exact p2.elim
  | _ => exact p2.elim
theorem stepL_at (c : Int) : ∀ (n i : Nat) (lo : Int), i < n → (stepL lo c n)[i]? = some (.int (lo + i * c))
  | 0, _, _, h => absurd h (Nat.not_lt_zero _)
  | n + 1, 0, _, _ => by simp [stepL]
  | n + 1, i + 1, lo, h => by
    simp only [stepL, List.getElem?_cons_succ]
    rw [stepL_at c n i (lo + c) (by omega)]
    congr 2
    push_cast
    rw [Int.add_mul]
    omega
theorem stepL_length (c : Int) : ∀ (n : Nat) (lo : Int), (stepL lo c n).length = n
  | 0, _ => rfl
  | n + 1, lo => by simp [stepL, stepL_length c n]
theorem wk_step {t : Tr} {h : Hh} {H : Hp} (lo c : Int) (n : Nat) : Wk J t h H ⟨[], stepL lo c n⟩ (Itc lo c n) := by
  refine ⟨rfl, _, _, by rw [show (Src.mk [] (stepL lo c n)).items.length = n from stepL_length c n lo]; exact walk_rangeC, fun _ _ _ _ _ _ => trivial, fun i t1 h1 H1 x H2 e R1 _ hi y => ?_⟩
  obtain ⟨rfl, rfl⟩ := y
  have hi' : i < n := by
    have := stepL_length c n lo
    simp only at hi
    omega
  exact ⟨_, stepL_at c n i lo hi', Ext.refl, R1, by simp only [RV]⟩
theorem rng_small {i j k : Int} (hc : 0 ≤ i ∧ i ≤ 1000000 ∧ j ≤ 1000000 ∧ 0 ≤ j ∧ 0 < k ∧ k ≤ 1000) (hn : Builtin.Range.rangeSize i j k = (((if i < j then (j - i - 1) / k + 1 else 0).toNat : Nat) : Int)) : Builtin.Range.small i j k = true := by
  have hb : (if i < j then (j - i - 1) / k + 1 else 0) ≤ 1000001 := by
    split
    · have := Int.ediv_le_self k (show 0 ≤ j - i - 1 by omega)
      omega
    · omega
  have h3 : 0 ≤ (((if i < j then (j - i - 1) / k + 1 else 0).toNat : Nat) : Int) := Int.natCast_nonneg _
  have h4 : (((if i < j then (j - i - 1) / k + 1 else 0).toNat : Nat) : Int) ≤ 1000001 := by
    generalize (if i < j then (j - i - 1) / k + 1 else 0) = z at *
    omega
  generalize (((if i < j then (j - i - 1) / k + 1 else 0).toNat : Nat) : Int) = y at *
  have h5 : y * k ≤ 1000001 * 1000 := Int.mul_le_mul h4 hc.2.2.2.2.2 (by omega) (by omega)
  have h6 : 0 ≤ y * k := Int.mul_nonneg h3 (by omega)
  unfold Builtin.Range.small
  rw [if_pos (show k > 0 from hc.2.2.2.2.1)]
  simp only [hn, Bool.and_eq_true, Bool.or_eq_true, beq_iff_eq, decide_eq_true_eq, Builtin.Range.rangeFitsLong]
  omega
theorem si_range3 {k : Int} {j : Nat} {pk : Pos} (BB : Blt X.mg) (ha : SE X J E cx a fa) (hb : SE X J E cx b fb) (hg : Gl X "range" := by rfl) (hs : starEach [a, b, .Constant (.int k) j pk] X.env = (false, eval a X.env) :: starEach [b, .Constant (.int k) j pk] X.env := by rfl)
    (hs2 : starEach [b, .Constant (.int k) j pk] X.env = (false, eval b X.env) :: starEach [.Constant (.int k) j pk] X.env := by rfl) :
    SI X J E cx tg (.Call (.Name "range" p) [a, b, .Constant (.int k) j pk] [] pos) (iRange3 k fa fb) := by
  have hpl : (backTo pos (starEach [b, .Constant (.int k) j pk] X.env)).any (·.1) = false := by rw [hs2]; rfl
  refine PI.weak (pi_range3 hg BB.range (pa_cons ha (pa_cons hb (pa_cons pe_int pa_nil) hs2) hs) hs hpl) fun s H Rr ⟨t, r, h, R, S, p⟩ => ?_
  refine ⟨t, r, h, R, S, Post.imp (tI_bind p) fun v H1 ⟨t1, h1, d, e1, R1, v1, p1⟩ => ?_⟩
  refine ⟨t1, r, h1, R1, S.mono e1, Post.imp (tI_bind p1) fun w H2 ⟨t2, h2, d2, e2, R2, v2, p2⟩ => ?_⟩
  cases d with
  | int i =>
    cases d2 with
    | int i2 =>
      simp only [RV] at v1 v2
      subst v1 v2
      dsimp only at p2
      by_cases hc : 0 ≤ i ∧ i ≤ 1000000 ∧ i2 ≤ 1000000 ∧ 0 ≤ i2 ∧ 0 < k ∧ k ≤ 1000
      · rw [if_pos hc] at p2
        have hn : Builtin.Range.rangeSize i i2 k = (((if i < i2 then (i2 - i - 1) / k + 1 else 0).toNat : Nat) : Int) := by
          unfold Builtin.Range.rangeSize
          rw [if_pos (show k > 0 from hc.2.2.2.2.1)]
          by_cases hl : i < i2
          · rw [if_pos hl]
            have := Int.ediv_nonneg (show 0 ≤ i2 - i - 1 by omega) (show 0 ≤ k by omega)
            omega
          · rw [if_neg hl]
            rfl
        have hsm : Builtin.Range.small i i2 k = true := rng_small hc hn
        exact ⟨i, i2, k, _, rfl, ⟨by omega, by omega, hsm, hn⟩, p2 t2 H2 _ Ext.refl R2 (wk_step i k _)⟩
      · rw [if_neg hc] at p2; exact p2.elim
    | _ => exact p2.elim
  | _ => exact p2.elim

/-! ### zip, enumerate -/
theorem zipT_at : ∀ (xs ys : List D) (i : Nat), i < (zipT xs ys).length → ∃ x y, xs[i]? = some x ∧ ys[i]? = some y ∧ (zipT xs ys)[i]? = some (.tup [x, y])
  | [], _, _, h => by simp [zipT] at h
  | _ :: _, [], _, h => by simp [zipT] at h
  | x :: xs, y :: ys, 0, _ => ⟨x, y, rfl, rfl, rfl⟩
  | x :: xs, y :: ys, i + 1, h => by
    obtain ⟨a, b, h1, h2, h3⟩ := zipT_at xs ys i (by simpa [zipT] using h)
    exact ⟨a, b, by simpa using h1, by simpa using h2, by simpa [zipT] using h3⟩
theorem zipT_length : ∀ (xs ys : List D), (zipT xs ys).length = min xs.length ys.length
  | [], _ => by simp [zipT]
  | _ :: _, [] => by simp [zipT]
  | x :: xs, y :: ys => by simp [zipT, zipT_length xs ys]
theorem enumT_at : ∀ (xs : List D) (k : Int) (i : Nat), i < xs.length → ∃ x, xs[i]? = some x ∧ (enumT k xs)[i]? = some (.tup [.int (k + i), x])
  | [], _, _, h => by simp at h
  | x :: xs, k, 0, _ => ⟨x, rfl, by simp [enumT]⟩
  | x :: xs, k, i + 1, h => by
    obtain ⟨a, h1, h2⟩ := enumT_at xs (k + 1) i (by simpa using h)
    refine ⟨a, by simpa using h1, ?_⟩
    simp only [enumT, List.getElem?_cons_succ, h2]
    congr 4
    omega
theorem enumT_length : ∀ (xs : List D) (k : Int), (enumT k xs).length = xs.length
  | [], _ => rfl
  | x :: xs, k => by simp [enumT, enumT_length xs]
def GZ (K : PySem.W.Frag) (a b : Addr) (n : Nat) (H : Hp) : Prop := ∃ vs ws, SqL K H a vs ∧ SqL K H b ws ∧ min vs.length ws.length = n
theorem walk_Z {K : PySem.W.Frag} {a b : Addr} {n : Nat} : Walk (Itz K a b) n (GZ K a b n) (fun i H x H' => (Itz K a b).yld i H x H') where
  goes := fun i H hi ⟨vs, ws, q1, q2, hl⟩ => ⟨vs, ws, vs[i]'(by omega), ws[i]'(by omega), q1, q2, by simp, by simp⟩
  stops := fun H ⟨vs, ws, q1, q2, hl⟩ => ⟨vs, ws, q1, q2, by omega⟩
  yields := fun i H x H' _ _ y => y
/-- a pair that was made on the way -/
theorem pair_rv {t : Tr} {h : Hh} {H : Hp} {T : Addr} {x y : V} {d e : D} (R : RepH J t h H) (hT : H T = none) (vx : RV J t (live t h) H d x) (vy : RV J t (live t h) H e y) :
    Ext t h H t h (upd H T (.tup [x, y])) ∧ RepH J t h (upd H T (.tup [x, y])) ∧ RV J t (live t h) (upd H T (.tup [x, y])) (.tup [d, e]) (.ref T) := by
  refine ⟨Ext.laid R hT, R.laid hT, ?_⟩
  simp only [RV]
  exact ⟨T, _, rfl, upd_same, R.fresh hT, .cons (vx.mono (Ext.laid R hT)) (.cons (vy.mono (Ext.laid R hT)) .nil)⟩
theorem wk_zip {t : Tr} {h : Hh} {H : Hp} {as bs : List (Nat × List D)} {xs ys : List D} {l m : Addr} (q : Stb J t h H as xs l) (q2 : Stb J t h H bs ys m) : Wk J t h H ⟨as ++ bs, zipT xs ys⟩ (Itz X.K l m) := by
  refine ⟨by unfold still; rw [stillA_app, q.1, q2.1]; rfl, _, _, walk_Z (n := (zipT xs ys).length), fun t1 h1 H1 e R1 z => ?_, fun i t1 h1 H1 x H2 e R1 z hi y => ?_⟩
  · unfold still at z
    rw [stillA_app, Bool.and_eq_true] at z
    obtain ⟨vs, g1, g2⟩ := q.2 t1 h1 H1 e R1 z.1
    obtain ⟨ws, g3, g4⟩ := q2.2 t1 h1 H1 e R1 z.2
    exact ⟨vs, ws, SqL.of g1, SqL.of g3, by rw [zipT_length, g2.length, g4.length]⟩
  · unfold still at z
    rw [stillA_app, Bool.and_eq_true] at z
    obtain ⟨vs, g1, g2⟩ := q.2 t1 h1 H1 e R1 z.1
    obtain ⟨ws, g3, g4⟩ := q2.2 t1 h1 H1 e R1 z.2
    obtain ⟨T, x1, y1, rfl, hT, rfl, k1, k2⟩ := y
    obtain ⟨dx, dy, z1, z2, z3⟩ := zipT_at xs ys i hi
    obtain ⟨v1, w1, w2⟩ := g2.get z1
    obtain ⟨v2, w3, w4⟩ := g4.get z2
    have e1 := (k1 vs (SqL.of g1)).symm.trans w1
    have e2 := (k2 ws (SqL.of g3)).symm.trans w3
    cases e1
    cases e2
    obtain ⟨p1, p2, p3⟩ := pair_rv R1 hT w2 w4
    exact ⟨_, z3, p1, p2, p3⟩
def GE (K : PySem.W.Frag) (a : Addr) (n : Nat) (H : Hp) : Prop := ∃ vs, SqL K H a vs ∧ vs.length = n
theorem walk_E {K : PySem.W.Frag} {a : Addr} {n : Nat} : Walk (Ite K a) n (GE K a n) (fun i H x H' => (Ite K a).yld i H x H') where
  goes := fun i H hi ⟨vs, q1, hl⟩ => ⟨vs, vs[i]'(by omega), q1, by simp⟩
  stops := fun H ⟨vs, q1, hl⟩ => ⟨vs, q1, by omega⟩
  yields := fun i H x H' _ _ y => y
theorem wk_enum {t : Tr} {h : Hh} {H : Hp} {as : List (Nat × List D)} {xs : List D} {l : Addr} (q : Stb J t h H as xs l) : Wk J t h H ⟨as, enumT 0 xs⟩ (Ite X.K l) := by
  refine ⟨q.1, _, _, by rw [show (Src.mk as (enumT 0 xs)).items.length = xs.length from enumT_length xs 0]; exact walk_E, fun t1 h1 H1 e R1 z => ?_, fun i t1 h1 H1 x H2 e R1 z hi y => ?_⟩
  · obtain ⟨vs, g1, g2⟩ := q.2 t1 h1 H1 e R1 z
    exact ⟨vs, SqL.of g1, g2.length⟩
  · obtain ⟨vs, g1, g2⟩ := q.2 t1 h1 H1 e R1 z
    obtain ⟨T, x1, rfl, hT, rfl, k1⟩ := y
    obtain ⟨dx, z1, z3⟩ := enumT_at xs 0 i (by have := enumT_length xs 0; simp only at hi; omega)
    obtain ⟨v1, w1, w2⟩ := g2.get z1
    have e1 := (k1 vs (SqL.of g1)).symm.trans w1
    cases e1
    obtain ⟨p1, p2, p3⟩ := pair_rv (x := .int (i : Nat)) (d := .int (0 + (i : Nat))) R1 hT (by simp only [RV, Int.zero_add]) w2
    exact ⟨_, z3, p1, p2, p3⟩
theorem si_zip {elts : List Expr} {kk : Nat} (BB : Blt X.mg) (ha : SE X J E cx a fa) (hb : SE X J E cx b fb) (hg : Gl X "zip" := by rfl) (hs : starEach [a, b] X.env = (false, eval a X.env) :: starEach [b] X.env := by rfl)
    (hs2 : starEach [b] X.env = (false, eval b X.env) :: starEach [] X.env := by rfl) : SI X J E cx (.Tuple elts kk tpos) (.Call (.Name "zip" p) [a, b] [] pos) (M.iZip fa fb) := by
  have hpl : (backTo pos (starEach [b] X.env)).any (·.1) = false := by rw [hs2]; rfl
  refine PI.weak (pi_zip hg BB.zip (pa_cons ha (pa_cons hb pa_nil hs2) hs) hs hpl) fun s H Rr ⟨t, r, h, R, S, p⟩ => ?_
  refine ⟨t, r, h, R, S, Post.imp (tI_bind p) fun v H1 ⟨t1, h1, d, e1, R1, v1, p1⟩ => ?_⟩
  refine ⟨t1, r, h1, R1, S.mono e1, Post.imp (tI_bind p1) fun w H2 ⟨t2, h2, d2, e2, R2, v2, p2⟩ => ?_⟩
  cases z1 : viewW h2 d with
  | none => rw [z1] at p2; exact p2.elim
  | some pr =>
    cases z2 : viewW h2 d2 with
    | none => rw [z1, z2] at p2; exact p2.elim
    | some qr =>
      rw [z1, z2] at p2
      obtain ⟨l, rfl, st⟩ := view_w R2 (v1.mono e2) z1
      obtain ⟨m, rfl, st2⟩ := view_w R2 v2 z2
      obtain ⟨vs, g1, _⟩ := st.2 t2 h2 H2 Ext.refl.toExt0 R2 st.1
      obtain ⟨ws, g3, _⟩ := st2.2 t2 h2 H2 Ext.refl.toExt0 R2 st2.1
      exact ⟨l, m, vs, ws, rfl, SqL.of g1, SqL.of g3, p2 t2 H2 _ Ext.refl R2 (wk_zip st st2)⟩
theorem si_enum {elts : List Expr} {kk : Nat} (BB : Blt X.mg) (ha : SE X J E cx a fa) (hg : Gl X "enumerate" := by rfl) (hs : starEach [a] X.env = [(false, eval a X.env)] := by rfl) :
    SI X J E cx (.Tuple elts kk tpos) (.Call (.Name "enumerate" p) [a] [] pos) (M.iEnum fa) := by
  refine PI.weak (pi_enum hg BB.enumerate (pa_cons ha pa_nil hs) hs) fun s H Rr ⟨t, r, h, R, S, p⟩ => ?_
  refine ⟨t, r, h, R, S, Post.imp (tI_bind p) fun v H1 ⟨t1, h1, d, e1, R1, v1, p1⟩ => ?_⟩
  cases z1 : viewW h1 d with
  | none => rw [z1] at p1; exact p1.elim
  | some pr =>
    rw [z1] at p1
    obtain ⟨l, rfl, st⟩ := view_w R1 v1 z1
    obtain ⟨vs, g1, _⟩ := st.2 t1 h1 H1 Ext.refl.toExt0 R1 st.1
    exact ⟨l, vs, rfl, SqL.of g1, p1 t1 H1 _ Ext.refl R1 (wk_enum st)⟩

/-! ### a dict's keys -/
/-- the keys of the dict whose object is o, in their order -/
def ItX (d : Addr) (o : Obj) (xs : List (List Int × Addr × Value)) : It :=
  ⟨fun i H => H d = some (ExO d o) ∧ i < xs.length, fun i H x H' => H' = H ∧ ∃ z, xs[i]? = some z ∧ x = .ref z.2.1, fun i H => H d = some (ExO d o) ∧ xs.length ≤ i⟩
theorem walk_X {d : Addr} {o : Obj} {xs : List (List Int × Addr × Value)} : Walk (ItX d o xs) xs.length (fun H => H d = some (ExO d o)) (ItX d o xs).yld :=
  ⟨fun _ _ lt q => ⟨q, lt⟩, fun _ q => ⟨q, Nat.le_refl _⟩, fun _ _ _ _ _ _ y => y⟩
theorem turn_X {P : Program} {w : World} {K : PySem.W.Frag} {tg : Expr} {d : Addr} {o : Obj} {es : Array DictEntry} {ep : Nat} {xs : List (List Int × Addr × Value)} (jt : Addr) (od : o.data = .dict es ep) (oe : es.toList = xs.map fun x => ⟨hashK x.1, .ref x.2.1, x.2.2⟩) :
    Turn P w K tg (ItX d o xs) [jt] jt (fun i h => h.IsKeyIter jt d i xs.length ep) where
  mem := List.mem_singleton.mpr rfl
  obj := fun i h x b hb => by
    cases List.mem_singleton.mp hb
    obtain ⟨oi, e1, _, e2⟩ := x
    exact ⟨oi, e1, fun v z => by rw [e2] at z; cases z⟩
  keep := fun i h h' x k => x.at fun oi e1 => k jt (List.mem_singleton.mpr rfl) oi e1
  item := by
    intro X eP ew eK calm i pins s σ H E I hfp x ⟨g1, g2⟩
    subst eP ew eK
    obtain ⟨u0, u1, u2, u3, u4, u5⟩ := hfp jt (List.mem_singleton.mpr rfl)
    have get : s.heap.get? d = some o := (I.hok d _ g1).1
    have sz : es.size = xs.length := by simpa using congrArg List.length oe
    have ent : es[i]? = some ⟨hashK xs[i].1, .ref xs[i].2.1, xs[i].2.2⟩ := by
      rw [← Array.getElem?_toList, oe, List.getElem?_map, List.getElem?_eq_getElem g2]
      rfl
    refine next_key_item x get od sz ent fun h2 x2 sb => ?_
    have I2 : Inv X pins σ H { s with heap := h2 } := I.turned (t' := s.toks) (fun b ob nb eb => (sb.2 b nb).trans eb) u0 u1 u3 u4 u5
    obtain ⟨oi, e1, e2, e3⟩ := id x2
    exact ⟨_, rfl, go_of (s := { s with heap := h2 }) e1 e2 e3 (by decide) ⟨.ref xs[i].2.1, H, I2, rfl, ⟨rfl, xs[i], List.getElem?_eq_getElem g2, rfl⟩, x2, fun b hb => (hfp b hb).1⟩⟩
  done := by
    intro X eP ew eK calm i pins s σ H E I hfp x ⟨g1, g2⟩
    subst eP ew eK
    obtain ⟨u0, u1, u2, u3, u4, u5⟩ := hfp jt (List.mem_singleton.mpr rfl)
    have get : s.heap.get? d = some o := (I.hok d _ g1).1
    have sz : es.size = xs.length := by simpa using congrArg List.length oe
    exact next_key_end (I.ok.hd calm) x get od sz g2 fun h2 eb => ⟨rfl, I.turned (t' := s.toks) (fun b ob nb z => eb b ob nb z) u0 u1 u3 u4 u5⟩
  self := fun A i s Q E x k => wpAny_pyIter_slot x.typeIs F.slot_dict_keyiterator_iter (wpAny_call_entry F.slot_dict_keyiterator_iter x.typeIs F.entry_dict_keyiterator_iter
    (show wpAny _ _ (ret (.ref jt)) _ _ s from wpAny_pure ⟨_, rfl, "dict_keyiterator", _, x.typeIs, F.slot_dict_keyiterator_next.lookup, k⟩) (F.args_dict_keyiterator_iter_1 _))
theorem pi_keysX {td : TE} (he : PE X a td) : PI X tg a (fun σ H Rr => td σ H fun x H1 => ∃ d o xs, x = .ref d ∧ H1 d = some (ExO d o) ∧ DictIs d o xs ∧ Rr (ItX d o xs) H1) := by
  refine ⟨fun pins s σ H Rr I h => ?_⟩
  refine thn (he.run pins s σ H _ I h) fun u s1 ⟨x, H1, I1, rx, d, o, xs, ex, hd, hi, q⟩ => ?_
  subst ex
  obtain rfl : u = Value.ref d := rx
  obtain ⟨ns, ed, ⟨es, ep, d1, d2⟩, nd, few⟩ := hi
  have get : s1.heap.get? d = some o := (I1.hok d _ hd).1
  have sz : es.size = xs.length := by simpa using congrArg List.length d2
  refine iter_keys ns get ed d1 (pi_one (tk := s1.toks) I1 _ (turn_X _ d1 d2) ⟨_, Heap.get?_push_size _ rfl, rfl, ?_⟩ q)
  rw [sz] <;> rfl
theorem wk_keys {t : Tr} {h : Hh} {H : Hp} {d : Addr} {o : Obj} {xs : List (List Int × Addr × Value)} (nl : ¬ live t h d) (q : H d = some (ExO d o)) (hk : ∀ x ∈ xs, KeyOk H (live t h) x.2.1 x.1) :
    Wk J t h H ⟨[], (xs.map (·.1)).map D.ktp⟩ (ItX d o xs) := by
  refine ⟨rfl, _, _, by rw [show (Src.mk [] ((xs.map (·.1)).map D.ktp)).items.length = xs.length by simp]; exact walk_X, fun t1 h1 H1 e R1 _ => e.keep d _ nl q ⟨fun _ => nofun, trivial⟩, fun i t1 h1 H1 x H2 e R1 _ hi y => ?_⟩
  obtain ⟨rfl, z, z1, rfl⟩ := y
  refine ⟨.ktp z.1, by simp [z1], Ext.refl, R1, ?_⟩
  simp only [RV]
  exact ⟨z.2.1, rfl, (hk z (List.mem_of_getElem? z1)).mono0 e⟩
theorem si_dict (ha : SE X J E cx a fa) : SI X J E cx tg a (iDict fa) := by
  refine PI.weak (pi_keysX ha) fun s H Rr ⟨t, r, h, R, S, p⟩ => ?_
  refine ⟨t, r, h, R, S, Post.imp (tI_bind p) fun v H1 ⟨t1, h1, d, e1, R1, v1, p1⟩ => ?_⟩
  cases d with
  | dct ks ws =>
    dsimp only at p1
    simp only [RV] at v1
    obtain ⟨l, vs, rfl, ⟨o, xs, y1, y2, rfl, y4, y5⟩, nl, rs⟩ := v1
    exact ⟨l, o, xs, rfl, y1, y2, p1 t1 H1 _ Ext.refl R1 (wk_keys nl y1 y4)⟩
  | _ => exact p1.elim
end
end M

set_option Elab.async false
set_option linter.all false
set_option maxRecDepth 100000
set_option maxHeartbeats 4000000
/-! for, comprehensions, stores, raise. -/
namespace M
open PySem L2

section
variable {X : Cx} {J : Inf} {E : XK} {cx : Ctx} {n : Nat} {pos pos' p tpos spos : Pos} {a b c o tg iter elt value : Expr} {fa fb fc fo fe : FE} {fi : FI} {T : M.T}

theorem ss_for {body : List Stmt} {fbody : FS} (g : Good X J E n) (hi : SI X J E cx tg iter fi) (hg : SG X J tg T) (hb : SSs X J E cx body fbody) (hs : ∀ x, foldedSetIterable iter X.env x = pure x := by intro _; rfl) :
    SS X J E cx (.For tg iter body [] pos) (sFor T fi fbody) := by
  refine PS.weak (ps_for g.own g.calm hi hg hb hs) fun De s H ⟨t, r, h, R, S, p⟩ => ?_
  refine ⟨t, r, h, R, S, ?_⟩
  unfold sFor at p
  cases q : fi cx r h with
  | bad => rw [q] at p; exact p
  | exc c h1 => rw [q] at p; exact p
  | ok src h1 =>
    rw [q] at p
    intro t1 H1 I e1 R1 wk
    obtain ⟨st, G, Y, w, hG, hY⟩ := wk
    refine for_it w (fun i s2 H2 => ∃ t2 r2 h2, Ext t1 h1 H1 t2 h2 H2 ∧ RepH J t2 h2 H2 ∧ Slots J t2 (live t2 h2) H2 r2 s2 ∧ still src h2 = true ∧ PostS J E t2 h2 H2 (forL cx src T fbody (src.items.drop i) r2 h2) De)
      ⟨t1, r, h1, Ext.refl, R1, S.mono e1, st, ?_⟩ (fun i s2 H2 _ ⟨t2, r2, h2, e2, R2, _, st2, _⟩ => hG t2 h2 H2 e2.toExt0 R2 st2) ?_ ?_
    · rw [List.drop_zero]
      exact PostS.ext (o := forL cx src T fbody src.items r h1) p e1
    · rintro i x s2 H2 H3 hi ⟨t2, r2, h2, e2, R2, S2, st2, p2⟩ y
      obtain ⟨d, hd, e3, R3, v3⟩ := hY i t2 h2 H2 x H3 e2.toExt0 R2 st2 hi y
      have hdr : src.items.drop i = d :: src.items.drop (i + 1) := by
        rw [List.drop_eq_getElem_cons hi]
        rw [List.getElem?_eq_getElem hi] at hd
        cases hd
        rfl
      rw [hdr] at p2
      unfold forL at p2
      cases qa : asg T d r2 with
      | none => rw [qa] at p2; exact p2.elim
      | some r3 =>
        rw [qa] at p2
        refine ⟨t2, r2, h2, d, R3, S2.mono e3, v3, r3, qa, fun s3 S3 _ => ?_⟩
        refine ⟨t2, r3, h2, R3, S3, ?_⟩
        dsimp only at p2
        cases qb : fbody cx r3 h2 with
        | nx r4 h4 =>
          rw [qb] at p2
          intro t4 H4 s4 e4 R4 S4
          dsimp only at p2
          by_cases hst : still src h4 = true
          · rw [if_pos hst] at p2
            exact ⟨t4, r4, h4, (e2.trans e3).trans e4, R4, S4, hst, PostS.ext p2 (e3.trans e4)⟩
          · rw [if_neg hst] at p2; exact p2.elim
        | bk r4 h4 => rw [qb] at p2; exact fun t4 H4 s4 e4 R4 S4 => p2 t4 H4 s4 (e3.trans e4) R4 S4
        | rt d4 h4 => rw [qb] at p2; exact fun t4 H4 s4 e4 R4 S4 => p2 t4 H4 s4 (e3.trans e4) R4 S4
        | exc c4 h4 => rw [qb] at p2; exact fun t4 H4 e4 R4 => p2 t4 H4 (e3.trans e4) R4
        | bad => rw [qb] at p2; exact p2
    · rintro s2 H2 ⟨t2, r2, h2, e2, R2, S2, st2, p2⟩
      rw [List.drop_of_length_le (Nat.le_refl _)] at p2
      exact p2 t2 H2 s2 Ext.refl R2 S2

/-! ### comprehensions -/
theorem compL_ok {cx : Ctx} {src : Src} {own : List Nat} {T : M.T} {cond el : FE} {r : Env} {d : D} {ds ys : List D} {h h' : Hh} (e : compL cx src own T cond el r (d :: ds) h = .ok ys h') :
    ∃ r2 b h1, asg T d (wipeE r own) = some r2 ∧ cond cx r2 h = .ok (.bl b) h1 ∧
      ((b = true ∧ ∃ y h2 zs, el cx r2 h1 = .ok y h2 ∧ still src h2 = true ∧ compL cx src own T cond el r ds h2 = .ok zs h' ∧ ys = y :: zs) ∨ (b = false ∧ still src h1 = true ∧ compL cx src own T cond el r ds h1 = .ok ys h')) := by
  unfold compL at e
  cases qa : asg T d (wipeE r own) with
  | none => rw [qa] at e; cases e
  | some r2 =>
    rw [qa] at e
    dsimp only at e
    cases qc : cond cx r2 h with
    | bad => rw [qc] at e; cases e
    | exc _ _ => rw [qc] at e; cases e
    | ok b h1 =>
      rw [qc] at e
      simp only [R.bind_ok] at e
      cases b with
      | bl b =>
        refine ⟨r2, b, h1, rfl, qc, ?_⟩
        cases b with
        | true =>
          dsimp only at e
          cases qe : el cx r2 h1 with
          | bad => rw [qe] at e; cases e
          | exc _ _ => rw [qe] at e; cases e
          | ok y h2 =>
            rw [qe] at e
            simp only [R.bind_ok] at e
            by_cases hst : still src h2 = true
            · rw [if_pos hst] at e
              cases qr : compL cx src own T cond el r ds h2 with
              | bad => rw [qr] at e; cases e
              | exc _ _ => rw [qr] at e; cases e
              | ok zs h3 =>
                rw [qr] at e
                simp only [R.bind_ok] at e
                cases e
                exact .inl ⟨rfl, y, h2, zs, rfl, hst, qr, rfl⟩
            · rw [if_neg hst] at e; cases e
        | false =>
          dsimp only at e
          by_cases hst : still src h1 = true
          · rw [if_pos hst] at e
            exact .inr ⟨rfl, hst, e⟩
          · rw [if_neg hst] at e; cases e
      | _ => cases e
theorem compL_length {cx : Ctx} {src : Src} {own : List Nat} {T : M.T} {cond el : FE} {r : Env} : ∀ {ds ys : List D} {h h' : Hh}, compL cx src own T cond el r ds h = .ok ys h' → ys.length ≤ ds.length
  | [], _, _, _, e => by simp only [compL] at e; cases e; exact Nat.le_refl _
  | d :: ds, ys, h, h', e => by
    obtain ⟨r2, b, h1, _, _, z⟩ := compL_ok e
    rcases z with ⟨_, y, h2, zs, _, _, q, rfl⟩ | ⟨_, _, q⟩
    · have := compL_length q
      simp only [List.length_cons]
      omega
    · have := compL_length q
      simp only [List.length_cons]
      omega
/-- one thing more that is under way -/
def Tr.with (t : Tr) (p : Addr) : Tr := ⟨t.l, fun a => t.av a ∨ a = p⟩
theorem live_with {t : Tr} {h : Hh} {p a : Addr} : live (t.with p) h a ↔ live t h a ∨ a = p := by
  constructor
  · rintro (z | z | z)
    · exact .inl (.inl z)
    · exact .inl (.inr z)
    · exact .inr z
  · rintro ((z | z) | z)
    · exact .inl z
    · exact .inr (.inl z)
    · exact .inr (.inr z)
/-- a list is begun -/
theorem enter0 {t : Tr} {h : Hh} {H : Hp} {p : Addr} {vs : List V} (R : RepH J t h H) (n : H p = none) : Ext0 t h H (t.with p) h (upd H p (.lst vs)) where
  pre := ⟨[], by simp [Tr.with]⟩
  lv := fun a z => by
    rcases live_with.mp z with z | z
    · exact .inl z
    · rw [z]; exact .inr (Nt.not n)
  keep := (Ext.laid (o := .lst vs) R n).keep
  dict := (Ext.laid (o := .lst vs) R n).dict
theorem enterR {t : Tr} {h : Hh} {H : Hp} {p : Addr} {vs : List V} (R : RepH J t h H) (n : H p = none) : RepH J (t.with p) h (upd H p (.lst vs)) where
  len := R.len
  nd := R.nd
  cells := fun c x a e1 e2 => (R.cells c x a e1 e2).mono0 (enter0 R n) (upd_ne fun z => R.ne_none e2 (by rw [z]; exact n))
  apart := fun a ha z => by
    rcases z with z | z
    · exact R.apart a ha z
    · obtain ⟨c, q⟩ := List.mem_iff_getElem?.mp (show a ∈ t.l from ha)
      exact R.ne_none q (by rw [z]; exact n)
  there := fun a z => by
    rcases z with z | z
    · obtain ⟨ws, e⟩ := R.there a z
      exact ⟨ws, by rw [upd_ne (ne_of_none e n)]; exact e⟩
    · rw [z]; exact ⟨vs, upd_same⟩
  tabs := tabs_upd R.tabs (.inl n)
  inv := J.imono (enter0 R n) R.inv
/-- it grows -/
theorem grow0 {t : Tr} {h : Hh} {H : Hp} {p : Addr} {vs : List V} (z : t.av p) : Ext0 t h H t h (upd H p (.lst vs)) where
  pre := ⟨[], by simp⟩
  lv := fun _ z => .inl z
  keep := fun a o n e _ => by
    rw [upd_ne fun w => n (by rw [w]; exact .inr z)]
    exact e
  dict := fun a kvs n e => by
    have ne : a ≠ p := fun w => n (by rw [w]; exact .inr z)
    unfold Rd
    rw [upd_ne ne]
    exact e
theorem growR {t : Tr} {h : Hh} {H : Hp} {p : Addr} {vs : List V} (R : RepH J t h H) (z : t.av p) : RepH J t h (upd H p (.lst vs)) where
  len := R.len
  nd := R.nd
  cells := fun c x a e1 e2 => (R.cells c x a e1 e2).mono0 (grow0 z) (upd_ne fun w => R.apart a (List.mem_of_getElem? e2) (by rw [w]; exact z))
  apart := R.apart
  there := fun a w => by
    by_cases ha : a = p
    · rw [ha]; exact ⟨vs, upd_same⟩
    · obtain ⟨ws, e⟩ := R.there a w
      exact ⟨ws, by rw [upd_ne ha]; exact e⟩
  tabs := by
    obtain ⟨ws, e⟩ := R.there p z
    exact tabs_upd R.tabs (.inr ⟨_, e, trivial, nofun⟩)
  inv := J.imono (grow0 z) R.inv
/-- it is done -/
theorem leave0 {t : Tr} {h : Hh} {H : Hp} {p : Addr} {av : Addr → Prop} (hs : ∀ a, av a → t.av a) : Ext0 t h H ⟨t.l, av⟩ h H where
  pre := ⟨[], by simp⟩
  lv := fun a z => by
    rcases z with z | z
    · exact .inl (.inl z)
    · exact .inl (.inr (hs a z))
  keep := fun _ _ _ e _ => e
  dict := fun _ _ _ e => e
theorem leaveR {t : Tr} {h : Hh} {H : Hp} {av : Addr → Prop} (R : RepH J t h H) (hs : ∀ a, av a → t.av a) : RepH J ⟨t.l, av⟩ h H where
  len := R.len
  nd := R.nd
  cells := fun c x a e1 e2 => (R.cells c x a e1 e2).mono0 (leave0 (p := a) hs) rfl
  apart := fun a ha z => R.apart a ha (hs a z)
  there := fun a z => R.there a (hs a z)
  tabs := R.tabs
  inv := J.imono (leave0 (p := 0) hs) R.inv

/-- the list that was under way becomes a cell -/
theorem asCell {t : Tr} {h : Hh} {H : Hp} {p : Addr} {xs : List D} {vs : List V} {av : Addr → Prop} (R : RepH J t h H) (z : t.av p) (sub : ∀ a, av a → t.av a) (nav : ¬ av p) (q : H p = some (.lst vs)) (r : RVs J t (live t h) H xs vs) :
    RepH J ⟨t.l ++ [p], av⟩ (h ++ [.lst xs]) H := by
  have np : p ∉ t.l := fun w => R.apart p w z
  have e : Ext0 t h H ⟨t.l ++ [p], av⟩ (h ++ [.lst xs]) H := by
    refine ⟨⟨[p], rfl⟩, fun a w => .inl ?_, fun _ _ _ e _ => e, fun _ _ _ e => e⟩
    rcases w with ⟨c, y, e1, e2, e3⟩ | w
    · have e1 : (t.l ++ [p])[c]? = some a := e1
      have hl := R.len
      by_cases hc : c < t.l.length
      · rw [List.getElem?_append_left hc] at e1
        rw [List.getElem?_append_left (by omega)] at e2
        exact .inl ⟨c, y, e1, e2, e3⟩
      · rw [List.getElem?_append_right (by omega)] at e1
        cases q : c - t.l.length with
        | zero => rw [q] at e1; simp at e1; rw [← e1]; exact .inr z
        | succ m => rw [q] at e1; simp at e1
    · exact .inr (sub a w)
  refine ⟨by simp [R.len], ?_, fun c y a e1 e2 => ?_, fun a ha w => ?_, fun a w => R.there a (sub a w), R.tabs, J.imono e R.inv⟩
  · show (t.l ++ [p]).Nodup
    rw [List.nodup_append]
    refine ⟨R.nd, by simp, fun a ha b hb => ?_⟩
    have e : b = p := by simpa using hb
    intro w
    exact np (by rw [← e, ← w]; exact ha)
  · have e2 : (t.l ++ [p])[c]? = some a := e2
    have hl := R.len
    by_cases hc : c < t.l.length
    · rw [List.getElem?_append_left hc] at e2
      rw [List.getElem?_append_left (by omega)] at e1
      exact (R.cells c y a e1 e2).mono0 e rfl
    · rw [List.getElem?_append_right (by omega)] at e2
      rw [List.getElem?_append_right (by omega)] at e1
      cases k : c - t.l.length with
      | zero =>
        rw [k] at e2
        rw [← hl, k] at e1
        simp at e1 e2
        subst e1
        subst e2
        exact ⟨vs, q, r.mono0 e⟩
      | succ m => rw [k] at e2; simp at e2
  · rcases List.mem_append.mp (show a ∈ t.l ++ [p] from ha) with ha | ha
    · exact R.apart a ha (sub a w)
    · have e : a = p := by simpa using ha
      exact nav (by rw [← e]; exact w)
theorem lc_read {own : List Nat} {cond el : FE} {m : Bool} (hown : ∀ i ∈ tslots T, i ∈ own) {s : St} {H : Hp} {Q : VK} (x : tE J E cx (eComp m own T fi cond el) s H Q) :
    tLc (tI J E cx fi) (tG J T) (tT J E0 cx cond) (tE J E0 cx el) own s H Q := by
  obtain ⟨t, r, h, R, S, p⟩ := x
  refine ⟨t, r, h, R, S, ?_⟩
  unfold eComp at p
  cases q : fi cx r h with
  | bad => rw [q] at p; exact p
  | exc c h1 => rw [q] at p; exact p
  | ok src h1 =>
    rw [q] at p
    simp only [M.R.bind_ok] at p
    intro t1 H1 I e1 R1 wk Da hD
    obtain ⟨st, G, Y, w, hG, hY⟩ := wk
    by_cases hlim : src.items.length ≤ LIM
    case neg => rw [if_neg hlim] at p; exact p.elim
    rw [if_pos hlim] at p
    cases qc : compL cx src own T cond el r src.items h1 with
    | bad => rw [qc] at p; exact p.elim
    | exc _ _ => rw [qc] at p; exact p.elim
    | ok all hE =>
      rw [qc] at p
      simp only [M.R.calm_ok, M.R.bind_ok] at p
      have p0 : PostE J E t1 h1 H1 (up (mkL m all hE)) Q := Post.ext p e1
      clear p
      -- behind the beginning and some turns: the machine's cells, the list under way
      let Pv : Nat → Hp → Prop := fun i H2 => ∃ t2 h2 acc done ys, t2.av = (t1.with Da).av ∧ (∀ a, Nt (H1 a) → Nt (H2 a)) ∧ (∀ a, t1.av a → H2 a = H1 a) ∧ Ext0 t1 h1 H1 t2 h2 H2 ∧ RepH J t2 h2 H2 ∧ H2 Da = some (.lst acc) ∧ RVs J t2 (live t2 h2) H2 done acc ∧ done.length ≤ i ∧ still src h2 = true ∧
          compL cx src own T cond el r (src.items.drop i) h2 = .ok ys hE ∧ done ++ ys = all
      have avs : ∀ {t2 : Tr}, t2.av = (t1.with Da).av → t2.av Da := fun e => by rw [e]; exact .inr rfl
      have sub : ∀ {t2 : Tr}, t2.av = (t1.with Da).av → ∀ a, t1.av a → t2.av a := fun e a z => by rw [e]; exact .inl z
      have nav : ¬ t1.av Da := fun z => by
        obtain ⟨ws, g⟩ := R1.there Da z
        rw [hD] at g
        cases g
      have l1 := Ext.laid (o := .lst []) R1 hD
      refine lc_it w Pv ⟨t1.with Da, h1, [], [], all, rfl, l1.stays, l1.same, enter0 R1 hD, enterR R1 hD, upd_same, .nil, Nat.le_refl _, st, by rw [List.drop_zero]; exact qc, rfl⟩
        (fun i H2 _ ⟨t2, h2, _, _, _, _, _, _, e20, R2, _, _, _, st2, _⟩ => hG t2 h2 H2 e20 R2 st2) ?_ ?_
      · rintro i x H2 H3 hi ⟨t2, h2, acc, done, ys, ea, es, em, e20, R2, hDa, rs, hlen, st2, qi, eall⟩ y
        obtain ⟨d, hd, e3, R3, v3⟩ := hY i t2 h2 H2 x H3 e20 R2 st2 hi y
        have hdr : src.items.drop i = d :: src.items.drop (i + 1) := by
          rw [List.drop_eq_getElem_cons hi]
          rw [List.getElem?_eq_getElem hi] at hd
          cases hd
          rfl
        rw [hdr] at qi
        obtain ⟨r2, b, h3, qa, qb, z⟩ := compL_ok qi
        refine ⟨t2, wipeE r own, h2, d, R3, (((S.mono e1).mono0 e20).mono e3).wipe own, v3, r2, qa, fun s2 S2 ag => ⟨ag.wipe hown, ?_⟩⟩
        refine ⟨t2, r2, h2, R3, S2, ?_⟩
        rw [qb]
        intro t4 H4 vb e4 R4 vvb
        simp only [RV] at vvb
        have e34 := e3.trans e4
        have hD4 : H4 Da = some (.lst acc) := (e34.same Da (avs ea)).trans hDa
        have ea4 : t4.av = (t1.with Da).av := e34.av.trans ea
        have es4 : ∀ a, Nt (H1 a) → Nt (H4 a) := fun a z => e34.stays a (es a z)
        have em4 : ∀ a, t1.av a → H4 a = H1 a := fun a z => (e34.same a (sub ea a z)).trans (em a z)
        have e40 := e20.trans es e34.toExt0
        have rs4 := rs.mono e34
        refine ⟨b, vvb, ?_⟩
        rcases z with ⟨rfl, yd, h5, zs, qe, st5, qr, rfl⟩ | ⟨rfl, st5, qr⟩
        · refine iteT ⟨t4, r2, h3, R4, S2.mono e4, ?_⟩
          rw [qe]
          intro t5 H5 vy e5 R5 vvy
          have hD5 : H5 Da = some (.lst acc) := (e5.same Da (avs ea4)).trans hD4
          have ea5 : t5.av = (t1.with Da).av := e5.av.trans ea4
          have g5 : Ext0 t5 h5 H5 t5 h5 (upd H5 Da (.lst (acc ++ [vy]))) := grow0 (avs ea5)
          refine ⟨acc, hD5, ?_, t5, h5, acc ++ [vy], done ++ [yd], zs, ea5, fun a z => ?_, fun a z => ?_, ?_, growR R5 (avs ea5), upd_same, ((rs4.mono e5).append (.cons vvy .nil)).mono0 g5, ?_, st5, qr, ?_⟩
          · have h7 := rs.length
            exact lim_lt (by omega)
          · by_cases ha : a = Da
            · rw [ha, upd_same]; exact trivial
            · rw [upd_ne ha]; exact e5.stays a (es4 a z)
          · rw [upd_ne fun w => nav (by rw [← w]; exact z)]
            exact (e5.same a (sub ea4 a z)).trans (em4 a z)
          · exact (e40.trans es4 e5.toExt0).trans (fun a z => e5.stays a (es4 a z)) g5
          · simp only [List.length_append, List.length_singleton]
            omega
          · rw [← eall]
            simp
        · refine iteF ⟨t4, h3, acc, done, ys, ea4, es4, em4, e40, R4, hD4, rs4, by omega, st5, qr, eall⟩
      · rintro H2 ⟨t2, h2, acc, done, ys, ea, es, em, e20, R2, hDa, rs, hlen, st2, qi, eall⟩
        rw [List.drop_of_length_le (Nat.le_refl _)] at qi
        simp only [compL, M.R.ok.injEq] at qi
        obtain ⟨rfl, rfl⟩ := qi
        rw [List.append_nil] at eall
        subst eall
        have nDa : Da ∉ t2.l := fun z => R2.apart Da z (avs ea)
        have e2 : Ext t1 h1 H1 ⟨t2.l, t1.av⟩ h2 H2 := by
          refine ⟨⟨e20.pre, fun a z => e20.lv a ?_, e20.keep, e20.dict⟩, rfl, es, em⟩
          rcases z with z | z
          · exact .inl z
          · exact .inr (sub ea a z)
        have nlD : ¬ live ⟨t2.l, t1.av⟩ h2 Da := by
          rintro (⟨c, u, z, _⟩ | z)
          · exact nDa (List.mem_of_getElem? z)
          · exact nav z
        have rs' := rs.mono0 (leave0 (p := Da) (sub ea))
        cases m with
        | false =>
          refine p0 ⟨t2.l, t1.av⟩ H2 _ e2 (leaveR R2 (sub ea)) ?_
          simp only [RV]
          exact ⟨Da, acc, rfl, hDa, nlD, rs'⟩
        | true =>
          have RL := leaveR R2 (sub ea)
          refine p0 ⟨t2.l ++ [Da], t1.av⟩ H2 _ ?_ (asCell R2 (avs ea) (sub ea) nav hDa rs) ?_
          · refine ⟨⟨?_, fun a z => ?_, e20.keep, e20.dict⟩, rfl, es, em⟩
            · obtain ⟨u, g⟩ := e20.pre
              exact ⟨u ++ [Da], by show t2.l ++ [Da] = _; rw [g, List.append_assoc]⟩
            · rcases live_push (t := ⟨t2.l, t1.av⟩) RL.len z with z | z
              · exact e2.lv a z
              · rw [z]; exact .inr (Nt.not hD)
          · simp only [RV]
            exact ⟨Da, rfl, push_at (t := ⟨t2.l, t1.av⟩) RL⟩

theorem PTs.weak {X : Cx} {e : List Expr} {t t' : TT} (p : PTs X e t) (w : ∀ s H Q, t' s H Q → t s H Q) : PTs X e t' := ⟨fun pins s σ H Q I h => p.run pins s σ H Q I (w _ _ _ h)⟩
theorem sts_nil : PTs X [] (tT J E cx eYes) := by
  refine PTs.weak pts_nil fun s H Q ⟨t, r, h, R, S, p⟩ => ?_
  obtain ⟨b, e, q⟩ := p t H (.bl true) Ext.refl R (by simp only [RV])
  cases e
  exact q
theorem sts_one (hc : ST X J E cx c fc) : PTs X [c] (tT J E cx fc) := pts_one hc
/-- a comprehension's block -/
theorem Good.blk (g : Good X J E n) (s : Shared) (H : Hp) (scope : Scope) (cenv : PySem.Env) (fp : List Addr) : Good (X.blk s H scope cenv fp) J E0 n where
  room := g.room
  calm := g.calm
  nd := g.nd
  tk := L2.takes0
  own := PassesOwn.never
theorem se_comp {scope : Scope} {ifs : List Expr} {fcond fel : FE} (m : Bool) (own : List (Str × Nat)) (T : M.T) (g : Good X J E n) (hi : SI X J E cx tg iter fi) (ok : BlkOk X.N X.env.scope scope own)
    (hg : ∀ (s : Shared) (H : Hp) (C : Addr) (cl : List (Str × Addr)) (fp : List Addr), Good (X.blk s H scope (compEnvC scope cl C X.env) fp) J E0 n → SG (X.blk s H scope (compEnvC scope cl C X.env) fp) J tg T)
    (ht : ∀ (s : Shared) (H : Hp) (C : Addr) (cl : List (Str × Addr)) (fp : List Addr), Good (X.blk s H scope (compEnvC scope cl C X.env) fp) J E0 n → PTs (X.blk s H scope (compEnvC scope cl C X.env) fp) ifs (tT J E0 cx fcond))
    (he : ∀ (s : Shared) (H : Hp) (C : Addr) (cl : List (Str × Addr)) (fp : List Addr), Good (X.blk s H scope (compEnvC scope cl C X.env) fp) J E0 n → SE (X.blk s H scope (compEnvC scope cl C X.env) fp) J E0 cx elt fel)
    (hown : ∀ i ∈ tslots T, i ∈ own.map (·.2) := by decide) (hs : ∀ x, foldedSetIterable iter X.env x = pure x := by intro _; rfl) :
    SE X J E cx (.ListComp elt [⟨tg, iter, ifs, 0⟩] scope pos) (eComp m (own.map (·.2)) T fi fcond fel) :=
  PE.weak (pe_lc g.calm g.nd hi ok (fun s H C cl fp => hg s H C cl fp (g.blk s H scope _ fp)) (fun s H C cl fp => ht s H C cl fp (g.blk s H scope _ fp)) (fun s H C cl fp => he s H C cl fp (g.blk s H scope _ fp)) hs)
    fun s H Q x => lc_read hown x
theorem ss_setLc {scope : Scope} {ifs : List Expr} {fcond fel : FE} {y : Str} {py : Pos} (i : Nat) (m : Bool) (own : List (Str × Nat)) (T : M.T) (g : Good X J E n) (hi : SI X J E cx tg iter fi) (ok : BlkOk X.N X.env.scope scope own)
    (hg : ∀ (s : Shared) (H : Hp) (C : Addr) (cl : List (Str × Addr)) (fp : List Addr), Good (X.blk s H scope (compEnvC scope cl C X.env) fp) J E0 n → SG (X.blk s H scope (compEnvC scope cl C X.env) fp) J tg T)
    (ht : ∀ (s : Shared) (H : Hp) (C : Addr) (cl : List (Str × Addr)) (fp : List Addr), Good (X.blk s H scope (compEnvC scope cl C X.env) fp) J E0 n → PTs (X.blk s H scope (compEnvC scope cl C X.env) fp) ifs (tT J E0 cx fcond))
    (he : ∀ (s : Shared) (H : Hp) (C : Addr) (cl : List (Str × Addr)) (fp : List Addr), Good (X.blk s H scope (compEnvC scope cl C X.env) fp) J E0 n → SE (X.blk s H scope (compEnvC scope cl C X.env) fp) J E0 cx elt fel)
    (hsw : swapsWith (.ListComp elt [⟨tg, iter, ifs, 0⟩] scope pos) (some (.Name y py)) spos.line X.env = pure true) (hy : X.N[i]? = some y := by rfl) (hyl : X.env.scope.names.lookup y = some .local := by rfl)
    (hown : ∀ i ∈ tslots T, i ∈ own.map (·.2) := by decide) (hs : ∀ x, foldedSetIterable iter X.env x = pure x := by intro _; rfl) :
    SS X J E cx (.Assign [.Name y py] (.ListComp elt [⟨tg, iter, ifs, 0⟩] scope pos) spos) (sAsg (.n i) (eComp m (own.map (·.2)) T fi fcond fel)) := by
  refine PS.weak (ps_setLc g.calm g.nd hy hyl hsw hi ok (fun s H C cl fp => hg s H C cl fp (g.blk s H scope _ fp)) (fun s H C cl fp => ht s H C cl fp (g.blk s H scope _ fp)) (fun s H C cl fp => he s H C cl fp (g.blk s H scope _ fp)) hs)
    fun D s H ⟨t, r, h, R, S, p⟩ => ?_
  refine lc_read hown (m := m) ?_
  have p' : PostS J E t h H (stm (eComp m (own.map (·.2)) T fi fcond fel cx r h) fun d h1 => match asg (.n i) d r with | some r1 => .nx r1 h1 | none => .bad) D := by
    unfold sAsg at p
    unfold stm
    exact p
  refine ⟨t, r, h, R, S, Post.imp p'.stm fun v H1 ⟨t1, h1, d, e1, R1, v1, p1⟩ => ?_⟩
  simp only [asg] at p1
  by_cases hl : i < r.length
  · rw [if_pos hl] at p1
    exact p1 t1 H1 _ Ext.refl R1 ((S.mono e1).set v1)
  · rw [if_neg hl] at p1; exact p1.elim
end
end M

set_option Elab.async false
set_option linter.all false
set_option maxRecDepth 100000
set_option maxHeartbeats 4000000
/-! Stores, refusals, calls, defs. -/
namespace M
open PySem L2

/-- a statement whose outcome is a changed heap alone -/
def stmN (r : Env) (m : R D) : O :=
  match m with
  | .ok _ h => .nx r h
  | .exc c h => .exc c h
  | .bad => .bad
theorem PostS.toE {J : Inf} {E : XK} {t : Tr} {h : Hh} {H : Hp} {m : R D} {r : Env} {De : Ends} {s : St} (S : Slots J t (live t h) H r s) (p : PostS J E t h H (stmN r m) De) :
    PostE J E t h H m (fun _ H1 => De.nx s H1) := by
  cases m with
  | ok d h' => exact fun t' H' v e R w => p t' H' s e R (S.mono e)
  | exc c h' => exact p
  | bad => exact p

section
variable {X : Cx} {J : Inf} {E : XK} {cx : Ctx} {n : Nat} {pos pos' p tpos spos : Pos} {a b c o i e value : Expr} {fa fb fc fo fi fe : FE}

/-! ### o[i] = e -/
theorem set_ok {t : Tr} {h h' : Hh} {H : Hp} {x y d : D} {vo vi v : V} (R : RepH J t h H) (wo : RV J t (live t h) H x vo) (wi : RV J t (live t h) H y vi) (w : RV J t (live t h) H d v) (e : setIx x y d h = some h') :
    ∃ l xs k j, vo = .ref l ∧ vi = .int k ∧ H l = some (.lst xs) ∧ L2.ixN xs.length k = some j ∧ Ext t h H t h' (upd H l (.lst (xs.set j v))) ∧ RepH J t h' (upd H l (.lst (xs.set j v))) := by
  unfold setIx at e
  split at e
  · rename_i c
    split at e
    · rename_i xs hc
      split at e
      · rename_i k
        split at e
        · rename_i j hj
          cases e
          simp only [RV] at wi
          obtain ⟨l, vs, q, rfl, h1, h2⟩ := cell_lst R wo hc
          refine ⟨l, vs, k, j, rfl, wi, h1, by rw [h2.length]; exact hj, Ext.write R hc nofun q, R.write hc nofun q ⟨_, upd_same, ?_⟩⟩
          exact (h2.mono (Ext.write R hc nofun q)).set j (w.mono (Ext.write R hc nofun q))
        · cases e
      · cases e
    · cases e
  · cases e
theorem ss_setIx (ho : SE X J E cx o fo) (hi : SE X J E cx i fi) (he : SE X J E cx e fe)
    (ha : ∀ v, assign (.Subscript o i pos') X.env v = (do
      let ov ← holding [v] (eval o X.env)
      let iv ← holding [v, ov] (eval i X.env)
      standAt pos'
      holding [v, ov, iv] (setItem ov iv v)
      release [v, ov, iv] []) := by intro _; rfl)
    (hs : swapsWithSole [.Subscript o i pos'] e pos.line X.env = pure false := by rfl) (hw : swappedStores [.Subscript o i pos'] e X.env = pure none := by rfl) (h1 : (assignEach [.Subscript o i pos'] X.env).map (·.2) = [assign (.Subscript o i pos') X.env] := by rfl) :
    SS X J E cx (.Assign [.Subscript o i pos'] e pos) (sSetIx fo fi fe) := by
  refine PS.weak (ps_asg he (pg_sub ho hi set_list ha) hs hw h1) fun De s H ⟨t, r, h, R, S, p⟩ => ?_
  have p' : PostE J E t h H ((fe cx r h).bind fun d h1 => (fo cx r h1).bind fun x h2 => (fi cx r h2).bind fun y h3 => (match setIx x y d h3 with | some h4 => M.R.ok D.non h4 | none => .bad)) (fun _ H1 => De.nx s H1) := PostS.toE S p
  refine ⟨t, r, h, R, S, Post.imp (Post.bind (rel := RV J) p') fun v H1 ⟨t1, h1, d, e1, R1, v1, p1⟩ => ?_⟩
  refine ⟨t1, r, h1, R1, S.mono e1, Post.imp (Post.bind (rel := RV J) p1) fun x H2 ⟨t2, h2, dx, e2, R2, v2, p2⟩ => ?_⟩
  refine ⟨t2, r, h2, R2, (S.mono e1).mono e2, Post.imp (Post.bind (rel := RV J) p2) fun y H3 ⟨t3, h3, dy, e3, R3, v3, p3⟩ => ?_⟩
  dsimp only at p3
  cases q : setIx dx dy d h3 with
  | none => rw [q] at p3; exact p3.elim
  | some h4 =>
    rw [q] at p3
    obtain ⟨l, xs, k, j, g1, g2, g3, g4, g5, g6⟩ := set_ok R3 (v2.mono e3) v3 ((v1.mono e2).mono e3) q
    exact ⟨l, xs, k, j, g1, g2, g3, g4, p3 t3 _ .non g5 g6 rv_non⟩

/-! ### d[k] = e -/
def rSetX : TSet := fun o i v H Q => ∃ (L : Addr → Prop) (l q : Addr) (od : Obj) (xs : List (List Int × Addr × Value)) (k : List Int), o = .ref l ∧ i = .ref q ∧ KeyOk H L q k ∧ H l = some (ExO l od) ∧ DictIs l od xs ∧ (∀ x ∈ xs, KeyOk H L x.2.1 x.1) ∧ xs.length < sizeLine ∧
  ∀ od' u, RelV v u → DictIs l od' (storedH xs k q u) → Q (upd H l (ExO l od'))
theorem storedH_len (xs : List (List Int × Addr × Value)) (k : List Int) (q : Addr) (u : Value) : (storedH xs k q u).length ≤ xs.length + 1 := by
  unfold storedH
  split <;> simp
theorem set_X (hu : X.A.units + 1 < cLine) : PSet X rSetX := by
  intro pins s σ H o i v ov iv u Q I ro ri rv h
  obtain ⟨L, l, q, od, xs, k, rfl, rfl, hk, hl, hd, hx, few, qq⟩ := h
  cases ro
  cases ri
  refine wpAny_setItem_heap (hsz := Nat.le_of_lt few) (tupleKind_room_in1 hu) (key_is I hk) (dict_is I hl hd hx) fun h2 d2 sb => ?_
  obtain ⟨o2, es, ep, g1, g2, g3, g4, _, g5⟩ := d2
  refine ⟨upd H l (ExO l o2), d_write I (by rw [hl]; exact True.intro) sb ⟨o2, g1⟩ (exO_new g1), qq o2 u rv ⟨hd.1, g2, ⟨es, ep, g3, g4⟩, g5, ?_⟩⟩
  have := storedH_len xs k q u
  omega
/-- a value put in its place -/
theorem put_rv {t : Tr} {L : Addr → Prop} {H : Hp} (k : List Int) {d : D} {v : V} {u : Value} (ru : RelV v u) (w : RV J t L H d v) : ∀ {xs : List (List Int × Addr × Value)} {ws : List D} {vs : List V}, Vals vs (xs.map (·.2.2)) → RVs J t L H ws vs →
    ∃ vs', Vals vs' ((xs.map (putAt k u)).map (·.2.2)) ∧ RVs J t L H (setD k d (xs.map (·.1)) ws) vs'
  | [], ws, vs, e, r => ⟨[], .nil, by cases ws <;> simpa [setD] using RVs.nil⟩
  | x :: xs, ws, vs, e, r => by
    cases e with
    | @cons v0 u0 vs us e1 e2 =>
      cases ws with
      | nil => simp only [RVs] at r; cases r
      | cons w0 ws =>
        simp only [RVs] at r
        obtain ⟨v1, r', e', w1, w2⟩ := r
        simp only [List.cons.injEq] at e'
        obtain ⟨rfl, rfl⟩ := e'
        obtain ⟨vs', i1, i2⟩ := put_rv k ru w (xs := xs) e2 w2
        by_cases hl : x.1 = k
        · refine ⟨v :: vs', ?_, ?_⟩
          · simp only [List.map_cons, putAt, hl, if_true]
            exact .cons ru i1
          · simp only [List.map_cons, setD, hl, if_true]
            exact RVs.cons w i2
        · refine ⟨v0 :: vs', ?_, ?_⟩
          · simp only [List.map_cons, putAt, hl, if_false]
            exact .cons e1 i1
          · simp only [List.map_cons, setD, hl, if_false]
            exact RVs.cons w1 i2
theorem vals_app : ∀ {vs ws : List V} {us zs : List Value}, Vals vs us → Vals ws zs → Vals (vs ++ ws) (us ++ zs)
  | [], _, _, _, .nil, y => y
  | _ :: _, _, _, _, .cons r t, y => .cons r (vals_app t y)
theorem stored_rv {t : Tr} {L : Addr → Prop} {H : Hp} (k : List Int) (q : Addr) {d : D} {v : V} {u : Value} (ru : RelV v u) (w : RV J t L H d v) {xs : List (List Int × Addr × Value)} {ws : List D} {vs : List V} (e : Vals vs (xs.map (·.2.2))) (r : RVs J t L H ws vs) :
    (storedH xs k q u).map (·.1) = (putD k d (xs.map (·.1)) ws).1 ∧ ∃ vs', Vals vs' ((storedH xs k q u).map (·.2.2)) ∧ RVs J t L H (putD k d (xs.map (·.1)) ws).2 vs' := by
  have ls := look_isSome (J := J) (t := t) (L := L) (H := H) k e r
  unfold putD
  cases q2 : (lookD k (xs.map (·.1)) ws).isSome with
  | false =>
    rw [q2] at ls
    have hn : atKey xs k = none := by simpa using ls
    rw [storedH_new hn]
    simp only [Bool.false_eq_true, if_false, List.map_append, List.map_cons, List.map_nil, true_and]
    exact ⟨vs ++ [v], vals_app e (.cons ru .nil), r.append (.cons w .nil)⟩
  | true =>
    rw [q2] at ls
    obtain ⟨p, hp⟩ := Option.isSome_iff_exists.mp ls
    rw [storedH_old hp]
    simp only [if_true]
    refine ⟨?_, put_rv k ru w e r⟩
    rw [List.map_map]
    refine List.map_congr_left fun x _ => ?_
    simp only [Function.comp, putAt]
    split <;> rfl
theorem stored_mem {xs : List (List Int × Addr × Value)} {k : List Int} {q : Addr} {u : Value} {x : List Int × Addr × Value} (h : x ∈ storedH xs k q u) : (∃ y ∈ xs, y.1 = x.1 ∧ y.2.1 = x.2.1) ∨ (x.1 = k ∧ x.2.1 = q) := by
  unfold storedH at h
  split at h
  · obtain ⟨y, hy, rfl⟩ := List.mem_map.mp h
    refine .inl ⟨y, hy, ?_⟩
    unfold putAt
    split <;> exact ⟨rfl, rfl⟩
  · rcases List.mem_append.mp h with h | h
    · exact .inl ⟨x, h, rfl, rfl⟩
    · cases List.mem_singleton.mp h
      exact .inr ⟨rfl, rfl⟩
theorem ss_setKey (g : Good X J E n) (ho : SE X J E cx o fo) (hi : SE X J E cx i fi) (he : SE X J E cx e fe)
    (ha : ∀ v, assign (.Subscript o i pos') X.env v = (do
      let ov ← holding [v] (eval o X.env)
      let iv ← holding [v, ov] (eval i X.env)
      standAt pos'
      holding [v, ov, iv] (setItem ov iv v)
      release [v, ov, iv] []) := by intro _; rfl)
    (hs : swapsWithSole [.Subscript o i pos'] e pos.line X.env = pure false := by rfl) (hw : swappedStores [.Subscript o i pos'] e X.env = pure none := by rfl) (h1 : (assignEach [.Subscript o i pos'] X.env).map (·.2) = [assign (.Subscript o i pos') X.env] := by rfl) :
    SS X J E cx (.Assign [.Subscript o i pos'] e pos) (sSetKey fo fi fe) := by
  refine PS.weak (ps_asg he (pg_sub ho hi (set_X (hu_of g.room)) ha) hs hw h1) fun De s H ⟨t, r, h, R, S, p⟩ => ?_
  have p' : PostE J E t h H ((fe cx r h).bind fun d h1 => (fo cx r h1).bind fun x h2 => (fi cx r h2).bind fun y h3 => (match setKey x y d h3 with | some h4 => M.R.ok D.non h4 | none => .bad)) (fun _ H1 => De.nx s H1) := PostS.toE S p
  refine ⟨t, r, h, R, S, Post.imp (Post.bind (rel := RV J) p') fun v H1 ⟨t1, h1, d, e1, R1, v1, p1⟩ => ?_⟩
  refine ⟨t1, r, h1, R1, S.mono e1, Post.imp (Post.bind (rel := RV J) p1) fun x H2 ⟨t2, h2, dx, e2, R2, v2, p2⟩ => ?_⟩
  refine ⟨t2, r, h2, R2, (S.mono e1).mono e2, Post.imp (Post.bind (rel := RV J) p2) fun y H3 ⟨t3, h3, dy, e3, R3, v3, p3⟩ => ?_⟩
  dsimp only at p3
  have v1' := (v1.mono e2).mono e3
  have v2' := v2.mono e3
  unfold setKey at p3
  cases dx with
  | cell c =>
    dsimp only at p3
    cases hc : h3[c]? with
    | none => rw [hc] at p3; exact p3.elim
    | some cc =>
      cases hk : keyOf dy with
      | none => rw [hc, hk] at p3; cases cc <;> exact p3.elim
      | some k =>
        rw [hc, hk] at p3
        cases cc with
        | dct ks ws =>
          dsimp only at p3
          split at p3
          · rename_i h5 hq
            split at hq
            · rename_i few
              cases hq
              simp only [RV] at v2'
              obtain ⟨l, rfl, at1⟩ := v2'
              obtain ⟨vs, ⟨od, xs, y1, y2, rfl, y4, y5⟩, rr⟩ := R3.cells c _ l hc at1
              obtain ⟨q, rfl, hq⟩ := key_rv v3 hk
              refine ⟨live t3 h3, l, q, od, xs, k, rfl, rfl, hq, y1, y2, y4, lim_lt (by simpa using few), fun od' u ru di => ?_⟩
              obtain ⟨s1, vs', s2, s3⟩ := stored_rv (J := J) (t := t3) (L := live t3 h3) (H := H3) k q ru v1' y5 rr
              have W := fun y => Ext.write (y := y) (o := ExO l od') R3 hc nofun at1
              refine p3 t3 _ .non (W _) (R3.write hc nofun at1 ⟨vs', ⟨od', storedH xs k q u, upd_same, di, s1, fun x hx => ?_, s2⟩, s3.mono (W _)⟩) rv_non
              rcases stored_mem hx with ⟨y, hy, z1, z2⟩ | ⟨z1, z2⟩
              · rw [← z1, ← z2]
                exact (y4 y hy).mono0 (W _).toExt0
              · rw [z1, z2]
                exact hq.mono0 (W _).toExt0
            · cases hq
          · exact p3.elim
        | _ => exact p3.elim
  | _ => exact p3.elim

/-! ### op= -/
theorem ok_addI : Ok2 J pAddI (rI0 fun i j => .int (i + j)) := fun t h H d e x y Q R v w p => by
  unfold pAddI at p
  split at p
  · rename_i i j
    simp only [RV] at v w
    exact ⟨i, j, v, w, p t H _ Ext.refl R (by simp only [RV])⟩
  · exact p.elim
theorem iop_mulW : OpR X (inplaceOp .Mult) (rI CMulW fun i j => .int (i * j)) := opI fun _ _ _ _ _ _ _ hc q => PyProof.Rows.imul_int q hc.ok
theorem ok_mulI : Ok2 J pMulI (rI CMulW fun i j => .int (i * j)) := fun t h H d e x y Q R v w p => by
  unfold pMulI at p
  split at p
  · rename_i i j
    simp only [RV] at v w
    split at p
    · rename_i ok
      rw [Bool.and_eq_true] at ok
      exact ⟨i, j, v, w, wide_mul (wide_ok ok.1) (wide_ok ok.2) (by decide) (by decide) (by decide), p t H _ Ext.refl R (by simp only [RV])⟩
    · exact p.elim
  · exact p.elim
theorem ss_aug {op : Operator} {rr : R2} {f : D → D → Hh → Option (D × Hh)} (i : Nat) {x : Str} (nd : X.N.Nodup) (hop : OpR X (inplaceOp op) rr) (hf : Ok2 J f rr) (he : SE X J E cx e fe) (hi : X.N[i]? = some x := by rfl) (hx : Loc X.env.scope x := by first | exact Or.inl rfl | exact Or.inr rfl)
    (hfn : X.fn x = true ∨ X.env.scope.names.lookup x = some .local := by first | exact .inl rfl | exact .inr rfl | assumption) : SS X J E cx (.AugAssign (.Name x pos') op e pos) (sAugN f i fe) := by
  refine PS.weak (ps_aug nd hi hx he hop hfn) fun De s H ⟨t, r, h, R, S, p⟩ => ?_
  unfold sAugN at p
  cases q : eVar i cx r h with
  | bad => rw [q] at p; exact p.elim
  | exc c h1 => unfold eVar at q; split at q <;> cases q
  | ok d0 h0 =>
    rw [q] at p
    simp only [M.R.bind_ok] at p
    unfold eVar at q
    split at q
    · rename_i d e0
      cases q
      obtain ⟨v0, g1, g2⟩ := S.2 i d0 e0
      refine ⟨v0, g1, t, r, h, R, S, ?_⟩
      have p' : PostE J E t h H ((fe cx r h).bind fun b h2 => up (f d0 b h2)) (fun v H1 => De.nx (s.set i (some v)) H1) := by
        cases q2 : (fe cx r h).bind fun b h2 => up (f d0 b h2) with
        | bad => rw [q2] at p; exact p
        | exc c h1 => rw [q2] at p; exact p
        | ok d1 h1 =>
          rw [q2] at p
          exact fun t' H' v e' R' w => p t' H' _ e' R' ((S.mono e').set w)
      refine Post.imp (Post.bind (rel := RV J) p') fun y H1 ⟨t1, h1, d, e1, R1, v1, p1⟩ => ?_
      exact hf t1 h1 H1 d0 d v0 y _ R1 (g2.mono e1) v1 (Post.noexc p1)
    · cases q
theorem get_list : PGet X (rIxL X.K) := by
  intro pins s σ H o i ov iv Q I ro ri h
  obtain ⟨p, xs, k, z, rfl, rfl, hq, he, q⟩ := h
  cases ro
  obtain ⟨t, rfl⟩ := ri
  obtain ⟨its, r, pl, hz⟩ := I.list hq
  obtain ⟨j, h1, h2, h3, h4, h5⟩ := atI_get he
  obtain ⟨w, ew, rw'⟩ := r.get h2
  have hl := r.length
  have hn : xs.length ≤ 16777216 := by rw [← sizeLine_eq]; exact hz
  have fin : EP X pins σ Q w s := ⟨z, H, I, rw', q⟩
  by_cases h0 : 0 ≤ k
  · have hj : k.toNat = j := by
      rw [seqIndex_of h0 h5] at h1
      exact Option.some.inj h1
    exact wpAny_getItem_list pl.isList h0 (by omega) (by rw [hj]; simpa using ew) fin
  · have hj : (k + (its.toArray.size : Int)).toNat = j := by
      rw [seqIndex_neg (by omega) h4] at h1
      rw [List.size_toArray, ← hl]
      exact Option.some.inj h1
    exact wpAny_getItem_list_neg pl.isList (by omega) (by rw [List.size_toArray] <;> omega) (by omega) (by rw [hj]; simpa using ew) fin
end
end M

set_option Elab.async false
set_option linter.all false
set_option maxRecDepth 100000
set_option maxHeartbeats 4000000
/-! Calls and defs. -/
namespace M
open PySem L2

section
variable {X : Cx} {J : Inf} {E : XK} {cx : Ctx} {n : Nat} {pos pos' p p2 apos tpos spos : Pos} {a b c o i e value : Expr} {es : List Expr} {fa fb fc fo fi fe : FE} {fs : List FE}
theorem ss_augIx {op : Operator} {rr : R2} {f : D → D → Hh → Option (D × Hh)} (hop : OpR X (inplaceOp op) rr) (hf : Ok2 J f rr) (ho : SE X J E cx o fo) (hi : SE X J E cx i fi) (he : SE X J E cx e fe)
    (ha : ∀ ov iv new, augStore i ov iv new = (do holding [new, ov, iv] (setItem ov iv new); release [new, ov, iv] []; pure .next) := by intros; rfl) :
    SS X J E cx (.AugAssign (.Subscript o i tpos) op e pos) (sAugIx f fo fi fe) := by
  refine PS.weak (ps_augS ho hi get_list he hop set_list ha) fun De s H ⟨t, r, h, R, S, p⟩ => ?_
  have p' : PostE J E t h H ((fo cx r h).bind fun x h1 => (fi cx r h1).bind fun y h2 => (up (pIxC x y h2)).bind fun a h3 => (fe cx r h3).bind fun b h4 => (up (f a b h4)).bind fun d h5 => (match setIx x y d h5 with | some h6 => M.R.ok D.non h6 | none => .bad)) (fun _ H1 => De.nx s H1) := PostS.toE S p
  refine ⟨t, r, h, R, S, Post.imp (Post.bind (rel := RV J) p') fun x H1 ⟨t1, h1, dx, e1, R1, v1, p1⟩ => ?_⟩
  refine ⟨t1, r, h1, R1, S.mono e1, Post.imp (Post.bind (rel := RV J) p1) fun y H2 ⟨t2, h2, dy, e2, R2, v2, p2⟩ => ?_⟩
  dsimp only at p2
  have v1' := v1.mono e2
  unfold pIxC at p2
  split at p2
  · rename_i c k _
    split at p2
    · rename_i xs hc
      split at p2
      · rename_i d0 hd
        simp only [up_some, M.R.bind_ok] at p2
        obtain ⟨l, vs, q, rfl, hl, rs⟩ := cell_lst R2 v1' hc
        obtain ⟨z, g1, g2⟩ := atI_rv rs hd
        have vk := v2
        simp only [RV] at v2
        subst v2
        refine ⟨l, vs, k, z, rfl, rfl, SqL.of hl, g1, t2, r, h2, R2, (S.mono e1).mono e2, ?_⟩
        refine Post.imp (Post.bind (rel := RV J) p2) fun y3 H3 ⟨t3, h3, d3, e3, R3, v3, p3⟩ => ?_
        refine hf t3 h3 H3 d0 d3 z y3 _ R3 (g2.mono e3) v3 (Post.noexc (Post.imp (Post.bind (rel := RV J) p3) fun y4 H4 ⟨t4, h4, d4, e4, R4, v4, p4⟩ => ?_))
        dsimp only at p4
        cases q4 : setIx (.cell c) (.int k) d4 h4 with
        | none => rw [q4] at p4; exact p4.elim
        | some h5 =>
          rw [q4] at p4
          obtain ⟨l', xs', k', j', f1, f2, f3, f4, f5, f6⟩ := set_ok R4 ((v1'.mono e3).mono e4) ((vk.mono e3).mono e4) v4 q4
          exact ⟨l', xs', k', j', f1, f2, f3, f4, p4 t4 _ .non f5 f6 rv_non⟩
      · exact p2.elim
    · exact p2.elim
  · exact p2.elim

/-- o.f = e -/
theorem ss_attr {y : Str} (cs : List Nat) (f : Nat) (hy : J.fld f = y) (hk : ∀ C ∈ cs, Cls X.K (J.cls C) ∧ NoAttr X.K (J.cls C) y) (ho : SE X J E cx o fo) (he : SE X J E cx value fe)
    (hs : swapsWith value (some (.Attribute o y pos')) pos.line X.env = pure false := by rfl) : SS X J E cx (.Assign [.Attribute o y pos'] value pos) (sAttr cs f fo fe) := by
  refine PS.weak (ps_fld ho he hs) fun De s H ⟨t, r, h, R, S, p⟩ => ?_
  have p' : PostE J E t h H ((fe cx r h).bind fun d h1 => (fo cx r h1).bind fun x h2 => (match x with
    | .cell c => match h2[c]? with
      | some (.ins C fs) => if fs.length < 100 ∧ cs.contains C = true then M.R.ok D.non (h2.set c (.ins C (putN f d fs))) else .bad
      | _ => .bad
    | _ => .bad)) (fun _ H1 => De.nx s H1) := PostS.toE S p
  refine ⟨t, r, h, R, S, Post.imp (Post.bind (rel := RV J) p') fun v H1 ⟨t1, h1, d, e1, R1, v1, p1⟩ => ?_⟩
  refine ⟨t1, r, h1, R1, S.mono e1, Post.imp (Post.bind (rel := RV J) p1) fun x H2 ⟨t2, h2, dx, e2, R2, v2, p2⟩ => ?_⟩
  dsimp only at p2
  split at p2
  · rename_i c
    split at p2
    · rename_i C gs hc
      split at p2
      · rename_i hh
        obtain ⟨k1, k2⟩ := hk C (List.contains_iff_mem.mp hh.2)
        obtain ⟨c', q, dx, ws, e0, hc', hq, rfl, hi, hf⟩ := ins_at (C := C) (fs := gs) R2 v2 (by simp only [insAt, hc])
        cases e0
        have hlen : ws.length = gs.length := by simpa using congrArg List.length hf.1
        have W := fun (y : Cell) (o : HO) (ho : Nt (some o)) => Ext.write (y := y) (o := o) R2 hc nofun hq ho
        refine ⟨q, _, dx, ws, rfl, hi, k1, k2, by omega, p2 t2 _ .non (W _ _ (by exact trivial)) (R2.write hc nofun hq ?_) rv_non⟩
        refine ⟨dx, _, upd_same, ?_⟩
        subst hy
        exact put_fs ((v1.mono e2).mono (W _ _ (by exact trivial))) ⟨hf.1, hf.2.mono (W _ _ (by exact trivial))⟩
      · exact p2.elim
    · exact p2.elim
  · exact p2.elim

/-- raise X('m') -/
theorem ss_raise {C : Addr} {bmB : List Value} {B newId initId : String} {x m : Str} {j : Nat} (k : Nat) (g : Good X J E n) (F : ExcBaseFacts B newId initId bmB) (hk : J.exc k = C) (q : PySem.W.excIn X.K C bmB newId = true) (gC : X.mg x = some (.ref C)) (kC : PySem.W.keepIn X.K (.ref C) = true) (r : Raises X (.ref C)) (hg : Gl X x := by rfl)
    (hdb : (x == ("__debug__" : Str)) = false := by decide) : SS X J E cx (.Raise (some (.Call (.Name x p) [.Constant (.str m) j p2] [] pos')) none pos) (sRaise k) := by
  refine PS.weak (ps_raise g.calm g.tk (pmk_own F q gC kC r hg hdb)) fun De s H ⟨t, r, h, R, S, p⟩ => ?_
  have := p t H Ext.refl R
  rw [hk] at this
  exact this

/-! ### calls -/
/-- a def's promise: what the machine does -/
def spC (J : Inf) (cx : Ctx) (k : Nat) : Sp := fun vs H Q E => ∃ t h ds, RepH J t h H ∧ RVs J t (live t h) H ds vs ∧ PostE J E t h H (cx.call k ds h) Q
/-- the def at f does what def k of the machine does -/
structure FnM (P : Program) (w : World) (K : PySem.W.Frag) (mg : Str → Option Value) (base : Heap) (J : Inf) (cx : Ctx) (n : Nat) (f : Addr) (k : Nat) : Prop where
  keep : PySem.W.keepIn K (.ref f) = true
  ok : ∃ fd ps, Binds K fd ps [] ∧ FnOk P w K mg base (L2.CX P w) n f fd ps (spC J cx k)
theorem se_call {f : Addr} {x : Str} {k : Nat} (g : Good X J E n) (F : FnM X.prog X.w X.K X.mg X.base J cx n f k) (hm : X.mg x = some (.ref f)) (ha : SA X J E cx (e :: es) fs) (hg : Gl X x := by rfl) (hdb : (x == ("__debug__" : Str)) = false := by decide)
    (he : starEach (e :: es) X.env = (false, eval e X.env) :: starEach es X.env := by rfl) (hpl : (backTo pos (starEach es X.env)).any (·.1) = false := by rfl) :
    SE X J E cx (.Call (.Name x p) (e :: es) [] pos) (eCall k fs) := by
  obtain ⟨fd, ps, hb, F1⟩ := F.ok
  refine PE.weak (pe_call F1 g.room hg hm F.keep hb (.nil) (passes_call g.tk fun _ _ _ _ z => z) ha hdb he hpl) fun s H Q ⟨t, r, h, R, S, p⟩ => ?_
  refine ⟨t, r, h, R, S, Post.imp (Post.bind (rel := RVs J) p) fun vs H1 ⟨t1, h1, ds, e1, R1, v1, p1⟩ => ?_⟩
  rw [List.append_nil]
  exact ⟨t1, h1, ds, R1, v1, p1⟩
theorem se_call0 {f : Addr} {x : Str} {k : Nat} (g : Good X J E n) (F : FnM X.prog X.w X.K X.mg X.base J cx n f k) (hm : X.mg x = some (.ref f)) (hg : Gl X x := by rfl) (hdb : (x == ("__debug__" : Str)) = false := by decide) :
    SE X J E cx (.Call (.Name x p) [] [] pos) (eCall k []) := by
  obtain ⟨fd, ps, hb, F1⟩ := F.ok
  refine PE.weak (pe_call0 F1 g.room hg hm F.keep hb (.nil) (passes_call g.tk fun _ _ _ _ z => z) hdb) fun s H Q ⟨t, r, h, R, S, p⟩ => ?_
  exact ⟨t, h, [], R, RVs.nil, p⟩
/-- C(..) -/
theorem se_make {f : Addr} {x : Str} {C k : Nat} (g : Good X J E (n + 1)) (mk : Mk X.K (J.cls C) f) (F : FnM X.prog X.w X.K X.mg X.base J cx.down n f k) (hm : X.mg x = some (.ref (J.cls C))) (ha : SA X J E cx (e :: es) fs) (hg : Gl X x := by rfl) (hdb : (x == ("__debug__" : Str)) = false := by decide)
    (he : starEach (e :: es) X.env = (false, eval e X.env) :: starEach es X.env := by rfl) (hpl : (backTo pos (starEach es X.env)).any (·.1) = false := by rfl) :
    SE X J E cx (.Call (.Name x p) (e :: es) [] pos) (eMake C k fs) := by
  obtain ⟨fd, ps, hb, F1⟩ := F.ok
  refine PE.weak (pe_make mk F1 g.room hg hm hb (.nil) (passes_call g.tk fun _ _ _ _ z => z) ha hdb he hpl) fun s H Q ⟨t, r, h, R, S, p⟩ => ?_
  refine ⟨t, r, h, R, S, Post.imp (Post.bind (rel := RVs J) p) fun vs H1 ⟨t1, h1, ds, e1, R1, v1, p1⟩ => ?_⟩
  intro q dx nq ndx ne
  rw [List.append_nil]
  have RL := R1.laid (o := .own q) ndx
  have nq' : upd H1 dx (.own q) q = none := by rw [upd_ne (Ne.symm ne)]; exact nq
  have X1 := (Ext.laid (o := .own q) R1 ndx).trans (Ext.cell (o := .ins (J.cls C) dx []) RL nq' (.ins C []))
  refine ⟨t1.push q, h1 ++ [.ins C []], .cell h1.length :: ds, RL.cell nq' (.ins C []) ⟨dx, [], upd_same, rfl, RVs.nil⟩, .cons ?_ (v1.mono X1), ?_⟩
  · simp only [RV]
    exact ⟨q, rfl, push_at R1⟩
  · refine Post.imp (Post.bind (rel := RV J) (Post.ext p1 X1)) fun v H2 ⟨t2, h2, d, e2, R2, v2, p2⟩ => ?_
    cases d with
    | non =>
      simp only [RV] at v2
      refine ⟨v2, p2 t2 H2 _ Ext.refl R2 ?_⟩
      simp only [RV]
      exact ⟨q, rfl, e2.at (push_at R1)⟩
    | _ => exact p2.elim
/-- o.m(..) -/
structure MethM (P : Program) (w : World) (K : PySem.W.Frag) (mg : Str → Option Value) (base : Heap) (J : Inf) (cx : Ctx) (n : Nat) (m : Str) (C k : Nat) : Prop where
  cls : Cls K (J.cls C)
  ok : ∃ f, Meth K (J.cls C) m f ∧ FnM P w K mg base J cx n f k
theorem fs_none {t : Tr} {L : Addr → Prop} {H : Hp} {m : Str} (hn : ∀ i, J.fld i ≠ m) : ∀ {gs : List (Nat × D)} {ws : List (Str × V)}, ws.map (·.1) = gs.map (fun p => J.fld p.1) → ws.lookup m = none
  | gs, [], _ => rfl
  | [], w :: ws, e => by simp at e
  | q :: gs, w :: ws, e => by
    simp only [List.map_cons, List.cons.injEq] at e
    rw [List.lookup_cons]
    have : (m == w.1) = false := by
      rw [beq_eq_false_iff_ne, e.1]
      exact fun z => hn _ z.symm
    rw [this]
    exact fs_none (t := t) (L := L) (H := H) hn e.2
theorem lookM_mem {k v : Nat} : ∀ {ms : List (Nat × Nat)}, lookM k ms = some v → (k, v) ∈ ms
  | [], e => by simp [lookM] at e
  | p :: ps, e => by
    unfold lookM at e
    split at e
    · rename_i h
      cases e
      rw [← h]
      exact List.mem_cons_self
    · exact List.mem_cons_of_mem _ (lookM_mem e)
/-- which rule, by the machine's end -/
theorem meth_pick {X : Cx} {J : Inf} {E : XK} {cx : Ctx} {ee : Expr} {fo : FE} {ms : List (Nat × Nat)} {f : FE} {u : Nat × Nat → TE} {q0 : Nat × Nat} (h0 : q0 ∈ ms) (hp : ∀ q ∈ ms, PE X ee (u q))
    (hb : ∀ cx r h, fo cx r h = .bad → f cx r h = .bad)
    (hok : ∀ cx r h d h1, fo cx r h = .ok d h1 → f cx r h ≠ .bad → ∃ C gs k, insAt h1 d = some (C, gs) ∧ lookM C ms = some k)
    (hu : ∀ q ∈ ms, ∀ s H Q t r h, RepH J t h H → Slots J t (live t h) H r s → PostE J E t h H (f cx r h) Q → (∀ d h1, fo cx r h = .ok d h1 → ∃ gs, insAt h1 d = some (q.1, gs) ∧ lookM q.1 ms = some q.2) → u q s H Q) : SE X J E cx ee f := by
  refine ⟨fun pins s σ H Q I ⟨t, r, h, R, S, p⟩ => ?_⟩
  cases q : fo cx r h with
  | bad => rw [hb cx r h q] at p; exact p.elim
  | exc c h1 => exact (hp q0 h0).run pins s σ H Q I (hu q0 h0 _ _ _ t r h R S p fun d h1 z => by rw [q] at z; cases z)
  | ok d h1 =>
    obtain ⟨C, gs, k, z1, z2⟩ := hok cx r h d h1 q fun z => by rw [z] at p; exact p
    refine (hp (C, k) (lookM_mem z2)).run pins s σ H Q I (hu (C, k) (lookM_mem z2) _ _ _ t r h R S p fun d' h1' z => ?_)
    rw [q] at z
    cases z
    exact ⟨gs, z1, z2⟩
theorem meth_bad {ms : List (Nat × Nat)} {fo : FE} {fs : List FE} (cx : Ctx) (r : Env) (h : Hh) (e : fo cx r h = .bad) : eMeth ms fo fs cx r h = .bad := by
  unfold eMeth
  rw [e]
  rfl
theorem meth_ok {ms : List (Nat × Nat)} {fo : FE} {fs : List FE} (cx : Ctx) (r : Env) (h : Hh) (d : D) (h1 : Hh) (e : fo cx r h = .ok d h1) (nb : eMeth ms fo fs cx r h ≠ .bad) : ∃ C gs k, insAt h1 d = some (C, gs) ∧ lookM C ms = some k := by
  unfold eMeth at nb
  rw [e] at nb
  simp only [M.R.bind_ok] at nb
  split at nb
  · rename_i C gs e1
    split at nb
    · rename_i k e2
      exact ⟨C, gs, k, e1, e2⟩
    · exact absurd rfl nb
  · exact absurd rfl nb
theorem meth_use {J : Inf} {E : XK} {cx : Ctx} {ms : List (Nat × Nat)} {fo : FE} {fs : List FE} {m : Str} (hn : ∀ i, J.fld i ≠ m) {q : Nat × Nat} {s : St} {H : Hp} {Q : VK} {t : Tr} {r : Env} {h : Hh} (ta : TA)
    (hta : ∀ H Q, tAs J E cx (evs fs) s H Q → ta s H Q) (R : RepH J t h H) (S : Slots J t (live t h) H r s) (p : PostE J E t h H (eMeth ms fo fs cx r h) Q)
    (hc : ∀ d h1, fo cx r h = .ok d h1 → ∃ gs, insAt h1 d = some (q.1, gs) ∧ lookM q.1 ms = some q.2) : tMeth (J.cls q.1) m (spC J cx q.2) [] E (tE J E cx fo) ta s H Q := by
  refine ⟨t, r, h, R, S, ?_⟩
  unfold eMeth at p
  cases q1 : fo cx r h with
  | bad => rw [q1] at p; exact p.elim
  | exc c h1 => rw [q1] at p; exact p
  | ok d h1 =>
    rw [q1] at p
    obtain ⟨gs, z1, z2⟩ := hc d h1 q1
    simp only [M.R.bind_ok] at p
    rw [z1] at p
    simp only [z2] at p
    intro t1 H1 v e1 R1 v1
    obtain ⟨c, a, dx, ws, rfl, hc', hq, rfl, hi, hf⟩ := ins_at R1 v1 z1
    refine ⟨a, dx, ws, rfl, hi, fs_none (t := t1) (L := fun _ => True) (H := H1) hn hf.1, hta _ _ ⟨t1, r, h1, R1, S.mono e1, ?_⟩⟩
    refine Post.imp (Post.bind (rel := RVs J) (Post.ext p e1)) fun vs H2 ⟨t2, h2, ds, e2, R2, v2, p2⟩ => ?_
    rw [List.append_nil]
    exact ⟨t2, h2, .cell c :: ds, R2, .cons (v1.mono e2) v2, p2⟩
theorem se_meth {m : Str} {pl : Sem Bool} (ms : List (Nat × Nat)) (g : Good X J E n) (hk : ∀ q ∈ ms, MethM X.prog X.w X.K X.mg X.base J cx n m q.1 q.2) (hn : ∀ i, J.fld i ≠ m) (ho : SE X J E cx o fo) (ha : SA X J E cx (e :: es) fs) (h0 : ms ≠ [] := by decide)
    (hst : starEach (e :: es) X.env = (false, eval e X.env) :: starEach es X.env := by rfl) (hpl : (backTo pos (starEach es X.env)).any (·.1) = false := by rfl)
    (ht : eval (.Call (.Attribute o m apos) (e :: es) [] pos) X.env = (do
      let ov ← eval o X.env
      standAt apos.atName
      let (f, first) ← holding [ov] (getMethod ov m pl)
      callWith pos f first (backTo pos (starEach (e :: es) X.env)) (backToKw pos (keywordEach [] X.env))) := by rfl) :
    SE X J E cx (.Call (.Attribute o m apos) (e :: es) [] pos) (eMeth ms fo fs) := by
  obtain ⟨q0, h0'⟩ := List.exists_mem_of_ne_nil ms h0
  refine meth_pick (fo := fo) (u := fun q => tMeth (J.cls q.1) m (spC J cx q.2) [] E (tE J E cx fo) (tAs J E cx (evs fs))) h0' (fun q hq => ?_) meth_bad meth_ok (fun q hq s H Q t r h R S p hc => meth_use hn _ (fun _ _ z => z) R S p hc)
  obtain ⟨k1, f, k2, k3⟩ := hk q hq
  obtain ⟨fd, ps, hb, F1⟩ := k3.ok
  exact pe_meth ho k1 k2 F1 g.room hb (.nil) (passes_call g.tk fun _ _ _ _ z => z) ha hst hpl ht
theorem se_meth0 {m : Str} {pl : Sem Bool} (ms : List (Nat × Nat)) (g : Good X J E n) (hk : ∀ q ∈ ms, MethM X.prog X.w X.K X.mg X.base J cx n m q.1 q.2) (hn : ∀ i, J.fld i ≠ m) (ho : SE X J E cx o fo) (h0 : ms ≠ [] := by decide)
    (ht : eval (.Call (.Attribute o m apos) [] [] pos) X.env = (do
      let ov ← eval o X.env
      standAt apos.atName
      let (f, first) ← holding [ov] (getMethod ov m pl)
      callWith pos f first (backTo pos (starEach [] X.env)) (backToKw pos (keywordEach [] X.env))) := by rfl) :
    SE X J E cx (.Call (.Attribute o m apos) [] [] pos) (eMeth ms fo []) := by
  obtain ⟨q0, h0'⟩ := List.exists_mem_of_ne_nil ms h0
  refine meth_pick (fo := fo) (u := fun q => tMeth (J.cls q.1) m (spC J cx q.2) [] E (tE J E cx fo) tNil) h0' (fun q hq => ?_) meth_bad meth_ok (fun q hq s H Q t r h R S p hc => meth_use hn _ (fun H Q ⟨t, r, h, R, S, p⟩ => p t H [] Ext.refl R RVs.nil) R S p hc)
  obtain ⟨k1, f, k2, k3⟩ := hk q hq
  obtain ⟨fd, ps, hb, F1⟩ := k3.ok
  exact pe_meth0 ho k1 k2 F1 g.room hb (.nil) (passes_call g.tk fun _ _ _ _ z => z) ht
end
end M

set_option Elab.async false
set_option linter.all false
set_option maxRecDepth 100000
set_option maxHeartbeats 4000000
/-! Defs: from the body to the promise. -/
namespace M
open PySem L2

def Tr.cut (t : Tr) (n : Nat) : Tr := ⟨t.l.take n, t.av⟩
/- no cell from n on -/
mutual
def bnd (n : Nat) : D → Prop
  | .tup xs => bnds n xs
  | .lst xs => bnds n xs
  | .dct _ vs => bnds n vs
  | .cell c => c < n
  | .non => True
  | .bl _ => True
  | .int _ => True
  | .str _ => True
  | .edict => True
  | .fn _ => True
  | .ktp _ => True
def bnds (n : Nat) : List D → Prop
  | [] => True
  | x :: xs => bnd n x ∧ bnds n xs
end
section
variable {J : Inf} {t : Tr} {L L' : Addr → Prop} {H : Hp} {n : Nat}
mutual
theorem RV.bnd : ∀ {d : D} {v : V}, RV J t L H d v → bnd t.l.length d
  | .tup xs, _, x => by
    simp only [RV] at x
    obtain ⟨a, vs, _, _, _, r⟩ := x
    simp only [M.bnd]
    exact RVs.bnd r
  | .lst xs, _, x => by
    simp only [RV] at x
    obtain ⟨a, vs, _, _, _, r⟩ := x
    simp only [M.bnd]
    exact RVs.bnd r
  | .dct ks vs, _, x => by
    simp only [RV] at x
    obtain ⟨a, vs, _, _, _, r⟩ := x
    simp only [M.bnd]
    exact RVs.bnd r
  | .cell c, _, x => by
    simp only [RV] at x
    obtain ⟨a, _, q⟩ := x
    simp only [M.bnd]
    exact (List.getElem?_eq_some_iff.mp q).1
  | .non, _, _ => by simp only [M.bnd]
  | .bl _, _, _ => by simp only [M.bnd]
  | .int _, _, _ => by simp only [M.bnd]
  | .str _, _, _ => by simp only [M.bnd]
  | .edict, _, _ => by simp only [M.bnd]
  | .fn _, _, _ => by simp only [M.bnd]
  | .ktp _, _, _ => by simp only [M.bnd]
theorem RVs.bnd : ∀ {ds : List D} {vs : List V}, RVs J t L H ds vs → bnds t.l.length ds
  | [], _, _ => by simp only [M.bnds]
  | d :: ds, _, x => by
    simp only [RVs] at x
    obtain ⟨v, r, _, p, q⟩ := x
    simp only [M.bnds]
    exact ⟨RV.bnd p, RVs.bnd q⟩
end
theorem cut_at {c : Nat} {a : Addr} (h : c < n) (q : t.l[c]? = some a) : (t.cut n).l[c]? = some a := by
  show (t.l.take n)[c]? = some a
  rw [List.getElem?_take, if_pos h]
  exact q
theorem at_cut {c : Nat} {a : Addr} (q : (t.cut n).l[c]? = some a) : c < n ∧ t.l[c]? = some a := by
  have q' : (t.l.take n)[c]? = some a := q
  rw [List.getElem?_take] at q'
  split at q'
  · exact ⟨by assumption, q'⟩
  · cases q'
theorem KeyOk.sub (sub : ∀ a, L' a → L a) {b : Addr} {k : List Int} (x : KeyOk H L b k) : KeyOk H L' b k := by
  obtain ⟨o, h1, h2, h3⟩ := x
  exact ⟨o, h1, fun z => h2 (sub b z), h3⟩
theorem DctAt.sub (sub : ∀ a, L' a → L a) {a : Addr} {ks : List (List Int)} {vs : List V} (x : DctAt L H a ks vs) : DctAt L' H a ks vs := by
  obtain ⟨o, xs, x1, x2, x3, x4, x5⟩ := x
  exact ⟨o, xs, x1, x2, x3, fun y hy => (x4 y hy).sub sub, x5⟩
mutual
theorem RV.cut (sub : ∀ a, L' a → L a) : ∀ {d : D} {v : V}, RV J t L H d v → bnd n d → RV J (t.cut n) L' H d v
  | .tup xs, _, x, b => by
    simp only [RV] at x ⊢
    simp only [M.bnd] at b
    obtain ⟨a, vs, e, q, nl, r⟩ := x
    exact ⟨a, vs, e, q, fun z => nl (sub a z), RVs.cut sub r b⟩
  | .lst xs, _, x, b => by
    simp only [RV] at x ⊢
    simp only [M.bnd] at b
    obtain ⟨a, vs, e, q, nl, r⟩ := x
    exact ⟨a, vs, e, q, fun z => nl (sub a z), RVs.cut sub r b⟩
  | .dct ks vs, _, x, b => by
    simp only [RV] at x ⊢
    simp only [M.bnd] at b
    obtain ⟨a, vs, e, q, nl, r⟩ := x
    exact ⟨a, vs, e, q.sub sub, fun z => nl (sub a z), RVs.cut sub r b⟩
  | .edict, _, x, b => by
    simp only [RV] at x ⊢
    obtain ⟨a, e, q, nl⟩ := x
    exact ⟨a, e, q, fun z => nl (sub a z)⟩
  | .cell c, _, x, b => by
    simp only [RV] at x ⊢
    simp only [M.bnd] at b
    obtain ⟨a, e, q⟩ := x
    exact ⟨a, e, cut_at b q⟩
  | .non, _, x, _ => by simpa only [RV] using x
  | .bl _, _, x, _ => by simpa only [RV] using x
  | .int _, _, x, _ => by simpa only [RV] using x
  | .str _, _, x, _ => by simpa only [RV] using x
  | .fn _, _, x, _ => by simpa only [RV] using x
  | .ktp _, _, x, _ => by
    simp only [RV] at x ⊢
    obtain ⟨a, e, q⟩ := x
    exact ⟨a, e, q.sub sub⟩
theorem RVs.cut (sub : ∀ a, L' a → L a) : ∀ {ds : List D} {vs : List V}, RVs J t L H ds vs → bnds n ds → RVs J (t.cut n) L' H ds vs
  | [], _, x, _ => by simpa only [RVs] using x
  | d :: ds, _, x, b => by
    simp only [RVs] at x ⊢
    simp only [M.bnds] at b
    obtain ⟨v, r, e, p, q⟩ := x
    exact ⟨v, r, e, RV.cut sub p b.1, RVs.cut sub q b.2⟩
end
theorem samef_eq : ∀ {as bs : List (Nat × D)}, samef as bs = true → as = bs
  | [], [], _ => rfl
  | [], _ :: _, e => by simp [samef] at e
  | _ :: _, [], e => by simp [samef] at e
  | a :: as, b :: bs, e => by
    simp only [samef, Bool.and_eq_true, beq_iff_eq] at e
    rw [samef_eq e.2]
    congr 1
    exact Prod.ext e.1.1 (same_eq e.1.2)
theorem sameC_eq : ∀ {x y : Cell}, sameC x y = true → x = y
  | .lst xs, y, e => by
    cases y <;> simp [sameC] at e
    rw [sames_eq e]
  | .dct ks vs, y, e => by
    cases y <;> simp [sameC] at e
    rw [e.1, sames_eq e.2]
  | .ins C fs, y, e => by
    cases y <;> simp [sameC] at e
    rw [e.1, samef_eq e.2]
  | .dead, y, e => by
    cases y <;> simp [sameC] at e
    rfl
theorem sameH_eq : ∀ {as bs : Hh}, sameH as bs = true → as = bs
  | [], [], _ => rfl
  | [], _ :: _, e => by simp [sameH] at e
  | _ :: _, [], e => by simp [sameH] at e
  | a :: as, b :: bs, e => by
    simp only [sameH, Bool.and_eq_true] at e
    rw [sameC_eq e.1, sameH_eq e.2]

variable {t' : Tr} {h h' : Hh} {H' : Hp}
theorem live_cut (h' : Hh) {a : Addr} (z : live (t'.cut n) (h'.take n) a) : live t' h' a := by
  rcases z with ⟨c, x, q1, q2, q3⟩ | z
  · obtain ⟨l1, l2⟩ := at_cut q1
    rw [List.getElem?_take, if_pos l1] at q2
    exact .inl ⟨c, x, l2, q2, q3⟩
  · exact .inr z
theorem CellOk.bnd (R : RepH J t h H) {c : Nat} {x : Cell} (e : h[c]? = some x) : match x with
    | .lst xs => bnds h.length xs
    | .dct _ vs => bnds h.length vs
    | .ins _ fs => bnds h.length (fs.map (·.2))
    | .dead => True := by
  have hc : c < t.l.length := by rw [R.len]; exact (List.getElem?_eq_some_iff.mp e).1
  have := R.cells c x (t.l[c]) e (by simp [hc])
  rw [← R.len]
  cases x with
  | lst xs => exact this.elim fun vs z => z.2.bnd
  | dct ks vs => exact this.elim fun kvs z => z.2.bnd
  | ins C fs => exact this.elim fun dx z => z.elim fun gs y => y.2.2.bnd
  | dead => trivial
/-- back to the cells that stood before -/
theorem RepH.cut (R : RepH J t h H) (e : Ext t h H t' h' H') (R' : RepH J t' h' H') (s : sameH (h'.take h.length) h = true) : RepH J (t'.cut h.length) h H' ∧ Ext t h H (t'.cut h.length) h H' := by
  have hh := sameH_eq s
  have sub : ∀ a, live (t'.cut h.length) h a → live t' h' a := fun a z => live_cut (n := h.length) h' (by rw [hh]; exact z)
  have tl : t'.l.take h.length = t.l := by
    obtain ⟨u, eu⟩ := e.pre
    rw [eu, ← R.len, List.take_left']
    rfl
  have at' : ∀ c x, h[c]? = some x → c < h.length ∧ h'[c]? = some x := fun c x q => by
    have hc : c < h.length := (List.getElem?_eq_some_iff.mp q).1
    refine ⟨hc, ?_⟩
    have q' : (h'.take h.length)[c]? = some x := by rw [hh]; exact q
    rw [List.getElem?_take, if_pos hc] at q'
    exact q'
  have eC : Ext t h H (t'.cut h.length) h H' := by
    refine ⟨⟨⟨[], by show t'.l.take h.length = t.l ++ []; rw [tl, List.append_nil]⟩, ?_, e.keep, e.dict⟩, e.av, e.stays, e.same⟩
    intro a z
    refine .inl ?_
    rcases z with ⟨c, x, q1, q2, q3⟩ | z
    · have q1' : (t'.l.take h.length)[c]? = some a := q1
      rw [tl] at q1'
      exact .inl ⟨c, x, q1', q2, q3⟩
    · refine .inr ?_
      have z' : t'.av a := z
      rw [e.av] at z'
      exact z'
  refine ⟨?_, eC⟩
  · refine ⟨?_, ?_, ?_, ?_, R'.there, R'.tabs, J.imono eC.toExt0 R.inv⟩
    · show (t'.l.take h.length).length = h.length
      rw [tl, R.len]
    · show (t'.l.take h.length).Nodup
      rw [tl]
      exact R.nd
    · intro c x a q1 q2
      obtain ⟨l1, l2⟩ := at_cut q2
      have C := R'.cells c x a (at' c x q1).2 l2
      have B := CellOk.bnd R q1
      cases x with
      | lst xs => exact C.elim fun vs z => ⟨vs, z.1, z.2.cut sub B⟩
      | dct ks vs => exact C.elim fun vs z => ⟨vs, z.1.sub sub, z.2.cut sub B⟩
      | ins D fs => exact C.elim fun dx z => z.elim fun gs y => ⟨dx, gs, y.1, y.2.1, y.2.2.cut sub B⟩
      | dead => exact C
    · exact fun a z => R'.apart a (List.mem_of_mem_take z)
theorem mapM_rv {f : D → Option D} {t2 : Tr} {L2 : Addr → Prop} (ih : ∀ d e v, f d = some e → RV J t L H d v → RV J t2 L2 H e v) : ∀ {xs ys : List D} {vs : List V}, xs.mapM f = some ys → RVs J t L H xs vs → RVs J t2 L2 H ys vs
  | [], ys, vs, e, r => by
    simp at e
    subst e
    simpa only [RVs] using r
  | x :: xs, ys, vs, e, r => by
    simp only [List.mapM_cons] at e
    simp only [RVs] at r
    obtain ⟨v, w, rfl, r1, r2⟩ := r
    cases q : f x with
    | none => rw [q] at e; simp at e
    | some y =>
      rw [q] at e
      cases q2 : xs.mapM f with
      | none => rw [q2] at e; simp at e
      | some zs =>
        rw [q2] at e
        simp at e
        subst e
        exact .cons (ih x y v q r1) (mapM_rv ih q2 r2)
theorem RV.thru (R : RepH J t h H) : ∀ (k : Nat) (d e : D) (v : V), thru n h k d = some e → RV J t (live t h) H d v → RV J (t.cut n) (live (t.cut n) (h.take n)) H e v
  | 0, _, _, _, q, _ => by simp [M.thru] at q
  | k + 1, d, e, v, q, x => by
    have ih := RV.thru R k
    have sub : ∀ a, live (t.cut n) (h.take n) a → live t h a := fun a z => live_cut h z
    cases d with
    | tup xs =>
      simp only [M.thru, Option.map_eq_some_iff] at q
      obtain ⟨ys, q1, rfl⟩ := q
      simp only [RV] at x ⊢
      obtain ⟨a, vs, e, g, nl, r⟩ := x
      exact ⟨a, vs, e, g, fun z => nl (sub a z), mapM_rv ih q1 r⟩
    | lst xs =>
      simp only [M.thru, Option.map_eq_some_iff] at q
      obtain ⟨ys, q1, rfl⟩ := q
      simp only [RV] at x ⊢
      obtain ⟨a, vs, e, g, nl, r⟩ := x
      exact ⟨a, vs, e, g, fun z => nl (sub a z), mapM_rv ih q1 r⟩
    | dct ks ws =>
      simp only [M.thru, Option.map_eq_some_iff] at q
      obtain ⟨ys, q1, rfl⟩ := q
      simp only [RV] at x ⊢
      obtain ⟨a, vs, e, g, nl, r⟩ := x
      exact ⟨a, vs, e, g.sub sub, fun z => nl (sub a z), mapM_rv ih q1 r⟩
    | cell c =>
      simp only [M.thru] at q
      have x0 := x
      simp only [RV] at x
      obtain ⟨a, rfl, qa⟩ := x
      split at q
      · rename_i hc
        cases q
        simp only [RV]
        exact ⟨a, rfl, cut_at hc qa⟩
      · rename_i hc
        have nl : ¬ live (t.cut n) (h.take n) a := by
          rintro (⟨c', y, z1, z2, z3⟩ | z)
          · obtain ⟨l1, l2⟩ := at_cut z1
            have l3 : c' < t.l.length := (List.getElem?_eq_some_iff.mp l2).1
            have : c' = c := (List.getElem?_inj l3 R.nd).mp (by rw [l2, qa])
            omega
          · exact R.apart a (List.mem_of_getElem? qa) z
        split at q
        · rename_i xs hx
          simp only [Option.map_eq_some_iff] at q
          obtain ⟨ys, q1, rfl⟩ := q
          obtain ⟨vs, g1, g2⟩ := R.cells c _ a hx qa
          simp only [RV]
          exact ⟨a, vs, rfl, g1, nl, mapM_rv ih q1 g2⟩
        · rename_i ks ws hx
          simp only [Option.map_eq_some_iff] at q
          obtain ⟨ys, q1, rfl⟩ := q
          obtain ⟨vs, g1, g3⟩ := R.cells c _ a hx qa
          simp only [RV]
          exact ⟨a, vs, rfl, g1.sub sub, nl, mapM_rv ih q1 g3⟩
        · cases q
    | non => simp only [M.thru, Option.some.injEq] at q; subst q; simpa only [RV] using x
    | bl b => simp only [M.thru, Option.some.injEq] at q; subst q; simpa only [RV] using x
    | int i => simp only [M.thru, Option.some.injEq] at q; subst q; simpa only [RV] using x
    | str s => simp only [M.thru, Option.some.injEq] at q; subst q; simpa only [RV] using x
    | edict =>
      simp only [M.thru, Option.some.injEq] at q
      subst q
      simp only [RV] at x ⊢
      obtain ⟨a, e, g, nl⟩ := x
      exact ⟨a, e, g, fun z => nl (sub a z)⟩
    | fn j => simp only [M.thru, Option.some.injEq] at q; subst q; simpa only [RV] using x
    | ktp j =>
      simp only [M.thru, Option.some.injEq] at q
      subst q
      simp only [RV] at x ⊢
      obtain ⟨a, e, g⟩ := x
      exact ⟨a, e, g.sub sub⟩
theorem finish_ok {E : XK} {p : Bool} {d : D} {Q : VK} (R : RepH J t h H) (z : PostE J E t h H (finish p h d h') Q) (H' : Hp) (t' : Tr) (v : V) (e : Ext t h H t' h' H') (R' : RepH J t' h' H') (w : RV J t' (live t' h') H' d v) : Q v H' := by
  unfold finish at z
  split at z
  · split at z
    · rename_i d2 q
      split at z
      · rename_i s
        obtain ⟨R2, e2⟩ := R.cut e R' s
        have w2 := RV.thru R' 12 d d2 v q w
        rw [sameH_eq s] at w2
        exact z _ _ _ e2 R2 w2
      · exact z.elim
    · exact z.elim
  · exact z t' H' v e R' w
end

section
variable {P : Program} {w : World} {K : PySem.W.Frag} {mg : Str → Option Value} {base : Heap} {J : Inf} {G : Nat → Option Fn}
/-- a def of the text, its code object told -/
structure FunP (K : PySem.W.Frag) (x qual : Str) (st : Stmt) (f : Addr) (fd : FuncData) (C : Value → Prop) : Prop where
  ex : ∃ (oc : Value) (od : Option Addr) (kV doc pm : Value) (an : Option Addr) (cdv ct : Value) (osl : Array (Option Value)),
    fd = PySem.W.fnOf x qual (defArgs st) (defBody st) (defScope st) .none kV doc pm an cdv ct ∧ K.lookup f = some ⟨oc, od, .func fd, osl⟩ ∧ PySem.W.codeIn K cdv qual = true ∧ C cdv
  kp : PySem.W.keepIn K (.ref f) = true
theorem FunP.ofFun {x qual : Str} {st : Stmt} {f : Addr} {fd : FuncData} (U : Fun K x qual st f fd) : FunP K x qual st f fd (fun _ => True) := by
  obtain ⟨⟨oc, od, kV, doc, pm, an, cdv, ct, osl, e, lk, hcd⟩, kp⟩ := U
  exact ⟨⟨oc, od, kV, doc, pm, an, cdv, ct, osl, e, lk, hcd, trivial⟩, kp⟩
/-- a def by its body -/
theorem fn_okP {C : Value → Prop} {x qual : Str} {st : Stmt} {f : Addr} {fd : FuncData} {N ps : List Str} {n k : Nat} {F : Fn} (U : FunP K x qual st f fd C) (S : FnScope N ps (defScope st)) (hG : G k = some F) (hp : F.pars = ps.length) (hs : F.slots = N.length)
    (hb : ∀ (X : Cx) (E : XK), (∃ cdv A outer s H, C cdv ∧ X = cxOf (L2.CX P w) P w K mg base N qual (defScope st) f cdv A outer s H E) → Good X J E (n + 3) → SSs X J E (ctxN G (n + 3)) (defBody st) F.body) :
    FnOk P w K mg base (L2.CX P w) (n + 4) f fd ps (spC J (ctxN G (n + 4)) k) := by
  have hc : ∀ ds h, (ctxN G (n + 4)).call k ds h = runFn F (ctxN G (n + 3)) ds h := ctxN_call G hG n
  have hl : ∀ {vs H Q E t h ds}, RVs J t (live t h) H ds vs → PostE J E t h H ((ctxN G (n + 4)).call k ds h) Q → ds.length = F.pars := fun {vs H Q E t h ds} r p => by
    rw [hc] at p
    unfold runFn at p
    split at p
    · assumption
    · exact p.elim
  obtain ⟨⟨oc, od, kV, doc, pm, an, cdv, ct, osl, rfl, lk, hcd, hC⟩, kp⟩ := U
  refine fn_of lk hcd S (fun vs H Q E ⟨t, h, ds, R, r, p⟩ => by rw [r.length, hl r p, hp]) fun A outer s H vs Q E hr ⟨t, h, ds, R, r, p⟩ => ?_
  have len := hl r p
  refine ⟨_, hb _ E ⟨cdv, A, outer, s, H, hC, rfl⟩ ⟨hr, rfl, S.nd, takes_of rfl rfl rfl rfl, passes_of rfl⟩, ?_⟩
  rw [hc] at p
  unfold runFn at p
  rw [if_pos len] at p
  refine ⟨t, ds.map some ++ List.replicate (F.slots - F.pars) none, h, R, ?_, ?_⟩
  · refine ⟨?_, fun i d q => ?_⟩
    · unfold L2.start
      simp [r.length, hs, len]
    · have hi : i < ds.length := by
        rcases Nat.lt_or_ge i ds.length with z | z
        · exact z
        · rw [List.getElem?_append_right (by simpa using z)] at q
          rw [List.getElem?_replicate] at q
          split at q <;> cases q
      rw [List.getElem?_append_left (by simpa using hi), List.getElem?_map] at q
      simp only [Option.map_eq_some_iff] at q
      obtain ⟨d', q1, q2⟩ := q
      cases q2
      obtain ⟨v, g1, g2⟩ := r.get q1
      refine ⟨v, ?_, g2⟩
      unfold L2.start
      rw [List.getElem?_append_left (by rw [List.length_map, r.length]; exact hi), List.getElem?_map, g1]
      rfl
  · cases q : F.body (ctxN G (n + 3)) (ds.map some ++ List.replicate (F.slots - F.pars) none) h with
    | nx r' h' => rw [q] at p; exact fun t' H' s' e R' S' => finish_ok R p H' t' .non e R' rv_non
    | rt d h' => rw [q] at p; exact fun t' H' v e R' w => finish_ok R p H' t' v e R' w
    | bk r' h' => rw [q] at p; exact p.elim
    | bad => rw [q] at p; exact p.elim
    | exc c h' =>
      rw [q] at p
      dsimp only at p
      split at p
      · split at p
        · rename_i sm
          intro t' H' e R'
          obtain ⟨R2, e2⟩ := R.cut e R' sm
          exact p _ _ e2 R2
        · exact p.elim
      · exact p
theorem fn_ok {x qual : Str} {st : Stmt} {f : Addr} {fd : FuncData} {N ps : List Str} {n k : Nat} {F : Fn} (U : Fun K x qual st f fd) (S : FnScope N ps (defScope st)) (hG : G k = some F) (hp : F.pars = ps.length) (hs : F.slots = N.length)
    (hb : ∀ (X : Cx) (E : XK), (∃ cdv A outer s H, X = cxOf (L2.CX P w) P w K mg base N qual (defScope st) f cdv A outer s H E) → Good X J E (n + 3) → SSs X J E (ctxN G (n + 3)) (defBody st) F.body) :
    FnOk P w K mg base (L2.CX P w) (n + 4) f fd ps (spC J (ctxN G (n + 4)) k) :=
  fn_okP (FunP.ofFun U) S hG hp hs fun X E ⟨cdv, A, outer, s, H, _, e⟩ => hb X E ⟨cdv, A, outer, s, H, e⟩
/-- the same below all calls -/
theorem fn_none {f : Addr} {fd : FuncData} {ps : List Str} {k n : Nat} (h : n ≤ 3) : FnOk P w K mg base (L2.CX P w) n f fd ps (spC J (ctxN G n) k) := by
  have no : ∀ vs H Q E, ¬ spC J (ctxN G n) k vs H Q E := fun vs H Q E ⟨t, h', ds, _, _, p⟩ => by
    match n, h with
    | 0, _ => exact p
    | m + 1, h =>
      have e : (ctxN G (m + 1)).call k ds h' = .bad := if_pos (by omega)
      rw [e] at p
      exact p
  exact ⟨fun vs H Q E z => absurd z (no vs H Q E), fun A outer s H args us vs Q E _ _ _ _ z => absurd z (no vs H Q E)⟩
/-- the same, as it is handed on -/
theorem fnM_low {x qual : Str} {st : Stmt} {f : Addr} {ps : List Str} {k n : Nat} (h : ∃ fd, Fun K x qual st f fd ∧ Binds K fd ps []) (hn : n ≤ 3) : FnM P w K mg base J (ctxN G n) n f k := by
  obtain ⟨fd, U, b⟩ := h
  exact ⟨U.kp, fd, ps, b, fn_none hn⟩
theorem fnM_of {x qual : Str} {st : Stmt} {f : Addr} {N ps : List Str} {n k : Nat} {F : Fn} (h : ∃ fd, Fun K x qual st f fd ∧ Binds K fd ps []) (S : FnScope N ps (defScope st)) (hG : G k = some F) (hp : F.pars = ps.length) (hs : F.slots = N.length)
    (hb : ∀ (X : Cx) (E : XK), (∃ cdv A outer s H, X = cxOf (L2.CX P w) P w K mg base N qual (defScope st) f cdv A outer s H E) → Good X J E (n + 3) → SSs X J E (ctxN G (n + 3)) (defBody st) F.body) :
    FnM P w K mg base J (ctxN G (n + 4)) (n + 4) f k := by
  obtain ⟨fd, U, b⟩ := h
  exact ⟨U.kp, fd, ps, b, fn_ok U S hG hp hs hb⟩
theorem fnM_lowP {C : Value → Prop} {x qual : Str} {st : Stmt} {f : Addr} {ps : List Str} {k n : Nat} (h : ∃ fd, FunP K x qual st f fd C ∧ Binds K fd ps []) (hn : n ≤ 3) : FnM P w K mg base J (ctxN G n) n f k := by
  obtain ⟨fd, U, b⟩ := h
  exact ⟨U.kp, fd, ps, b, fn_none hn⟩
theorem fnM_ofP {C : Value → Prop} {x qual : Str} {st : Stmt} {f : Addr} {N ps : List Str} {n k : Nat} {F : Fn} (h : ∃ fd, FunP K x qual st f fd C ∧ Binds K fd ps []) (S : FnScope N ps (defScope st)) (hG : G k = some F) (hp : F.pars = ps.length) (hs : F.slots = N.length)
    (hb : ∀ (X : Cx) (E : XK), (∃ cdv A outer s H, C cdv ∧ X = cxOf (L2.CX P w) P w K mg base N qual (defScope st) f cdv A outer s H E) → Good X J E (n + 3) → SSs X J E (ctxN G (n + 3)) (defBody st) F.body) :
    FnM P w K mg base J (ctxN G (n + 4)) (n + 4) f k := by
  obtain ⟨fd, U, b⟩ := h
  exact ⟨U.kp, fd, ps, b, fn_okP U S hG hp hs hb⟩
end
end M

set_option Elab.async false
set_option linter.all false
set_option maxRecDepth 100000
set_option maxHeartbeats 4000000
/-! The rules under short names, as the printer uses them. -/
namespace M
open PySem L2
theorem ip_addR {X : Cx} : OpR X (inplaceOp .Add) (rI0 fun i j => .int (i + j)) := opI0 fun _ _ _ _ _ _ _ q => PyProof.Rows.iadd_int q
theorem ip_subR {X : Cx} : OpR X (inplaceOp .Sub) (rI0 fun i j => .int (i - j)) := opI0 fun _ _ _ _ _ _ _ q => PyProof.Rows.isub_int q
section
variable {X : Cx} {J : Inf} {E : XK} {cx : Ctx} {n : Nat} {pos pos' p p2 tpos : Pos} {a b c o i e : Expr} {fa fb fc fo fi fe : FE}
theorem a_add (m : Bool) (ha : SE X J E cx a fa) (hb : SE X J E cx b fb) : SE X J E cx (.BinOp a .Add b pos) (e2 (pAdd m) fa fb) := se_bin or_add (ok_add m) ha hb
theorem a_sub (ha : SE X J E cx a fa) (hb : SE X J E cx b fb) : SE X J E cx (.BinOp a .Sub b pos) (e2 pSub fa fb) := se_bin op_sub ok_sub ha hb
theorem a_mul (m : Bool) (ha : SE X J E cx a fa) (hb : SE X J E cx b fb) : SE X J E cx (.BinOp a .Mult b pos) (e2 (pMul m) fa fb) := se_bin or_mul (ok_mul m) ha hb
theorem a_fdiv (ha : SE X J E cx a fa) (hb : SE X J E cx b fb) : SE X J E cx (.BinOp a .FloorDiv b pos) (e2 pFdiv fa fb) := se_bin op_fdivNW ok_fdiv ha hb
theorem a_mod (ha : SE X J E cx a fa) (hb : SE X J E cx b fb) : SE X J E cx (.BinOp a .Mod b pos) (e2 pMod fa fb) := se_bin op_modN ok_mod ha hb
theorem a_pow (ha : SE X J E cx a fa) (hb : SE X J E cx b fb) : SE X J E cx (.BinOp a .Pow b pos) (e2 pPow fa fb) := se_bin op_pow ok_pow ha hb
theorem a_shr (ha : SE X J E cx a fa) (hb : SE X J E cx b fb) : SE X J E cx (.BinOp a .RShift b pos) (e2 pShr fa fb) := se_bin op_shr ok_shr ha hb
theorem a_neg (ha : SE X J E cx a fa) : SE X J E cx (.UnaryOp .USub a pos) (e1 pNeg fa) := se_un un_neg ok_neg ha
theorem a_lt (ha : SE X J E cx a fa) (hb : SE X J E cx b fb) : SE X J E cx (.Compare a [.Lt] [b] pos) (e2 pLt fa fb) := se_cmp op_lt (ok_cmp _) ha hb (nomark _)
theorem a_le (ha : SE X J E cx a fa) (hb : SE X J E cx b fb) : SE X J E cx (.Compare a [.LtE] [b] pos) (e2 pLe fa fb) := se_cmp op_le (ok_cmp _) ha hb (nomark _)
theorem a_gt (ha : SE X J E cx a fa) (hb : SE X J E cx b fb) : SE X J E cx (.Compare a [.Gt] [b] pos) (e2 pGt fa fb) := se_cmp op_gt (ok_cmp _) ha hb (nomark _)
theorem a_ge (ha : SE X J E cx a fa) (hb : SE X J E cx b fb) : SE X J E cx (.Compare a [.GtE] [b] pos) (e2 pGe fa fb) := se_cmp op_ge (ok_cmp _) ha hb (nomark _)
theorem t_lt (ha : SE X J E cx a fa) (hb : SE X J E cx b fb) : ST X J E cx (.Compare a [.Lt] [b] pos) (e2 pLt fa fb) := st_cmp op_lt (ok_cmp _) ha hb (nomark _)
theorem t_le (ha : SE X J E cx a fa) (hb : SE X J E cx b fb) : ST X J E cx (.Compare a [.LtE] [b] pos) (e2 pLe fa fb) := st_cmp op_le (ok_cmp _) ha hb (nomark _)
theorem t_gt (ha : SE X J E cx a fa) (hb : SE X J E cx b fb) : ST X J E cx (.Compare a [.Gt] [b] pos) (e2 pGt fa fb) := st_cmp op_gt (ok_cmp _) ha hb (nomark _)
theorem t_ge (ha : SE X J E cx a fa) (hb : SE X J E cx b fb) : ST X J E cx (.Compare a [.GtE] [b] pos) (e2 pGe fa fb) := st_cmp op_ge (ok_cmp _) ha hb (nomark _)
theorem hu64 (g : Good X J E n) : X.A.units + 64 < cLine := g.room.units
theorem a_eq (g : Good X J E n) (ha : SE X J E cx a fa) (hb : SE X J E cx b fb) : SE X J E cx (.Compare a [.Eq] [b] pos) (e2 (pEq false) fa fb) := se_cmp (op_eqD (hu64 g)) (ok_eq _) ha hb (nomark _)
theorem a_ne (g : Good X J E n) (ha : SE X J E cx a fa) (hb : SE X J E cx b fb) : SE X J E cx (.Compare a [.NotEq] [b] pos) (e2 (pEq true) fa fb) := se_cmp (op_neD (hu64 g)) (ok_ne _) ha hb (nomark _)
theorem t_eq (g : Good X J E n) (ha : SE X J E cx a fa) (hb : SE X J E cx b fb) : ST X J E cx (.Compare a [.Eq] [b] pos) (e2 (pEq false) fa fb) := st_cmp (op_eqD (hu64 g)) (ok_eq _) ha hb (nomark _)
theorem t_ne (g : Good X J E n) (ha : SE X J E cx a fa) (hb : SE X J E cx b fb) : ST X J E cx (.Compare a [.NotEq] [b] pos) (e2 (pEq true) fa fb) := st_cmp (op_neD (hu64 g)) (ok_ne _) ha hb (nomark _)
theorem a_in (g : Good X J E n) (ha : SE X J E cx a fa) (hb : SE X J E cx b fb) (hm : behindInMarks .In b = false := by rfl) : SE X J E cx (.Compare a [.In] [b] pos) (e2 (pIn false) fa fb) := se_cmp (or_in g.room) (ok_in _) ha hb hm
theorem a_notIn (g : Good X J E n) (ha : SE X J E cx a fa) (hb : SE X J E cx b fb) (hm : behindInMarks .NotIn b = false := by rfl) : SE X J E cx (.Compare a [.NotIn] [b] pos) (e2 (pIn true) fa fb) := se_cmp (or_notIn g.room) (ok_notIn _) ha hb hm
theorem t_in (g : Good X J E n) (ha : SE X J E cx a fa) (hb : SE X J E cx b fb) (hm : behindInMarks .In b = false := by rfl) : ST X J E cx (.Compare a [.In] [b] pos) (e2 (pIn false) fa fb) := st_cmp (or_in g.room) (ok_in _) ha hb hm
theorem t_notIn (g : Good X J E n) (ha : SE X J E cx a fa) (hb : SE X J E cx b fb) (hm : behindInMarks .NotIn b = false := by rfl) : ST X J E cx (.Compare a [.NotIn] [b] pos) (e2 (pIn true) fa fb) := st_cmp (or_notIn g.room) (ok_notIn _) ha hb hm
theorem a_isInt (BB : Blt X.mg) (ha : SE X J E cx a fa) (hg : Gl X "isinstance" := by rfl) (hgT : Gl X "int" := by rfl) (hs : starEach [a, .Name "int" p2] X.env = (false, eval a X.env) :: starEach [.Name "int" p2] X.env := by rfl) : SE X J E cx (.Call (.Name "isinstance" p) [a, .Name "int" p2] [] pos) (e1 (pIsTy .int) fa) := se_isTy .int BB BB.int rfl ha hg hgT hs
theorem a_isBool (BB : Blt X.mg) (ha : SE X J E cx a fa) (hg : Gl X "isinstance" := by rfl) (hgT : Gl X "bool" := by rfl) (hs : starEach [a, .Name "bool" p2] X.env = (false, eval a X.env) :: starEach [.Name "bool" p2] X.env := by rfl) : SE X J E cx (.Call (.Name "isinstance" p) [a, .Name "bool" p2] [] pos) (e1 (pIsTy .bool) fa) := se_isTy .bool BB BB.bool rfl ha hg hgT hs
theorem a_isList (BB : Blt X.mg) (ha : SE X J E cx a fa) (hg : Gl X "isinstance" := by rfl) (hgT : Gl X "list" := by rfl) (hs : starEach [a, .Name "list" p2] X.env = (false, eval a X.env) :: starEach [.Name "list" p2] X.env := by rfl) : SE X J E cx (.Call (.Name "isinstance" p) [a, .Name "list" p2] [] pos) (e1 (pIsTy .list) fa) := se_isTy .list BB BB.list rfl ha hg hgT hs
theorem a_isTuple (BB : Blt X.mg) (ha : SE X J E cx a fa) (hg : Gl X "isinstance" := by rfl) (hgT : Gl X "tuple" := by rfl) (hs : starEach [a, .Name "tuple" p2] X.env = (false, eval a X.env) :: starEach [.Name "tuple" p2] X.env := by rfl) : SE X J E cx (.Call (.Name "isinstance" p) [a, .Name "tuple" p2] [] pos) (e1 (pIsTy .tuple) fa) := se_isTy .tuple BB BB.tuple rfl ha hg hgT hs
theorem x_add (ho : SE X J E cx o fo) (hi : SE X J E cx i fi) (he : SE X J E cx e fe) (ha : ∀ ov iv new, augStore i ov iv new = (do holding [new, ov, iv] (setItem ov iv new); release [new, ov, iv] []; pure .next) := by intros; rfl) :
    SS X J E cx (.AugAssign (.Subscript o i tpos) .Add e pos) (sAugIx pAddI fo fi fe) := ss_augIx ip_addR ok_addI ho hi he ha
theorem x_sub (ho : SE X J E cx o fo) (hi : SE X J E cx i fi) (he : SE X J E cx e fe) (ha : ∀ ov iv new, augStore i ov iv new = (do holding [new, ov, iv] (setItem ov iv new); release [new, ov, iv] []; pure .next) := by intros; rfl) :
    SS X J E cx (.AugAssign (.Subscript o i tpos) .Sub e pos) (sAugIx pSub fo fi fe) := ss_augIx ip_subR ok_sub ho hi he ha
theorem a_str (cs : List Nat) {x : Str} {j : Nat} (h : x.cps.toList = cs := by rfl) : SE X J E cx (.Constant (.str x) j pos) (eK (.str cs)) := by
  subst h
  exact se_str
end
/-! ### what is told of a class, of an error, of a field -/
structure ExcT (K : PySem.W.Frag) (mg : Str → Option Value) (J : Inf) (k : Nat) (x : Str) : Prop where
  q : PySem.W.excIn K (J.exc k) [.type "ValueError", .type "Exception", .type "BaseException", .type "object"] "ValueError.__new__" = true
  mg : mg x = some (.ref (J.exc k))
  kp : PySem.W.keepIn K (.ref (J.exc k)) = true
  sub : PySem.W.subIn K (.ref (J.exc k)) (.type "BaseException") = some true
  ty : PySem.W.typeIn K (.ref (J.exc k)) = some (.type "type")
def isFld (m : Str) : Bool := m == "table" || m == "stands" || m == "pairs" || m == "order" || m == "one" || m == "other" || m == "times" || m == "weights" || m == "modulus" || decide (20 ≤ m.cps.size)
theorem fld_no {m : Str} (h : isFld m = false) : ∀ i, fldName i ≠ m := fun i e => by
  subst e
  match i, h with
  | 0, h => exact absurd h (by decide +kernel)
  | 1, h => exact absurd h (by decide +kernel)
  | 2, h => exact absurd h (by decide +kernel)
  | 3, h => exact absurd h (by decide +kernel)
  | 4, h => exact absurd h (by decide +kernel)
  | 5, h => exact absurd h (by decide +kernel)
  | 6, h => exact absurd h (by decide +kernel)
  | 7, h => exact absurd h (by decide +kernel)
  | 8, h => exact absurd h (by decide +kernel)
  | n + 9, h =>
    have z : 20 ≤ (fldName (n + 9)).cps.size := by
      show 20 ≤ ((List.replicate (n + 20) 97).toArray).size
      simp
    unfold isFld at h
    simp only [Bool.or_eq_false_iff, decide_eq_false_iff_not] at h
    exact h.2 z
section
variable {X : Cx} {J : Inf} {E : XK} {cx : Ctx} {n : Nat} {pos pos' p p2 tpos : Pos}
theorem r_raise {x m : Str} {j : Nat} (k : Nat) (g : Good X J E n) (T : ExcT X.K X.mg J k x) (hg : Gl X x := by rfl) (hdb : (x == ("__debug__" : Str)) = false := by decide) :
    SS X J E cx (.Raise (some (.Call (.Name x p) [.Constant (.str m) j p2] [] pos')) none pos) (sRaise k) :=
  ss_raise k g PySem.F.excBase_ValueError rfl T.q T.mg T.kp (raises_own T.sub T.ty) hg hdb
end
end M

set_option Elab.async false
set_option linter.all false
set_option maxRecDepth 100000
set_option maxHeartbeats 4000000
/-! A lambda handed to a def that asks it: _law_kinds. -/
namespace M
open PySem L2

theorem PE.more {X : Cx} {e : Expr} {t : TE} (p : PE X e t) : PE X e (fun σ H Q => ∃ Qc : VK, (∀ v H', Qc v H' → Q v H') ∧ t σ H Qc) :=
  ⟨fun pins s σ H Q I ⟨Qc, w, h⟩ => wpAny_mono (p.run pins s σ H Qc I h) (fun u s1 ⟨v, H1, I1, r, q⟩ => ⟨v, H1, I1, r, w v H1 q⟩) fun _ _ z => z⟩
section
variable {J : Inf} {t : Tr} {h : Hh} {H H1 : Hp}
theorem ExtN.nt (eN : LamX.ExtN H H1) {a : Addr} (n : Nt (H a)) : H1 a = H a := by
  cases q : H a with
  | none => rw [q] at n; exact n.elim
  | some o =>
    rw [q] at n
    exact eN a o q fun ps z => by subst z; exact n
/-- a lambda is made: tables of code grow -/
theorem Ext.lam (R : RepH J t h H) (eN : LamX.ExtN H H1) : Ext t h H t h H1 where
  pre := ⟨[], by simp⟩
  lv := fun _ z => .inl z
  keep := fun a o _ e st => by rw [ExtN.nt eN (by rw [e]; exact st.2)]; exact e
  dict := fun a kvs _ e => by
    unfold Rd
    rw [ExtN.nt eN (Rd.nt e)]
    exact e
  av := rfl
  stays := fun a z => by rw [ExtN.nt eN z]; exact z
  same := fun a z => by
    obtain ⟨vs, e⟩ := R.there a z
    exact ExtN.nt eN (by rw [e]; exact trivial)
theorem RepH.lam (R : RepH J t h H) (eN : LamX.ExtN H H1) (T : LamX.Tabs J.tabs H1) : RepH J t h H1 where
  len := R.len
  nd := R.nd
  cells := fun c x a e1 e2 => (R.cells c x a e1 e2).mono (Ext.lam R eN) (ExtN.nt eN (R.nt e2))
  apart := R.apart
  there := fun a z => by
    obtain ⟨vs, e⟩ := R.there a z
    exact ⟨vs, by rw [ExtN.nt eN (by rw [e]; exact trivial)]; exact e⟩
  tabs := T
  inv := J.imono (Ext.lam R eN).toExt0 R.inv
end
/-- what is told of the errors' classes -/
structure KiT (K : PySem.W.Frag) (mg : Str → Option Value) (J : Inf) : Prop where
  blt : Blt mg
  e0 : mg "MarbleError" = some (.ref (J.exc 0))
  e1 : mg "BadTable" = some (.ref (J.exc 1))
  e2 : mg "BadUrn" = some (.ref (J.exc 2))
  e3 : mg "BadDraw" = some (.ref (J.exc 3))
  e4 : mg "NotThere" = some (.ref (J.exc 4))
  e5 : mg "Nothing" = some (.ref (J.exc 5))
  ve : mg "ValueError" = none
  ec : ∀ c, 1 ≤ c → c ≤ 5 → ExcC K (J.exc c)
  ex : ∀ c, 1 ≤ c → c ≤ 5 → PySem.W.exmOne K (.ref (J.exc c)) (.ref (J.exc 0)) = some true
  is : ∀ c i, 1 ≤ c → c ≤ 5 → 1 ≤ i → i ≤ 5 → PySem.W.kitOne K (.ref (J.exc c)) (.ref (J.exc i)) = some (c == i)
  isv : ∀ c, 1 ≤ c → c ≤ 5 → PySem.W.kitOne K (.ref (J.exc c)) (.type "ValueError") = some true

section
variable {X : Cx} {J : Inf} {E : XK} {cx : Ctx} {n : Nat} {pos p p1 p2 : Pos}
/-- isinstance(error, y) of a caught error -/
theorem pe_isE {a D C : Addr} {oe : Obj} {pn : List (Addr × Obj)} {y z : Str} {i : Nat} {b : Bool} (BB : Blt X.mg) (ec : ExcC X.K D) (hz : Zc (.ref D) none oe) (hf : ∃ vs, oe.data = .fields vs) (hm : X.mg y = some (.ref C)) (hk : PySem.W.kitOne X.K (.ref D) (.ref C) = some b)
    (hN : X.N[i]? = some z) (hv : Vis X.env.scope z) (hg : Gl X "isinstance") (hgT : Gl X y) (hd : (z == ("__debug__" : Str)) = false) (hcd : (z == ("__classdict__" : Str)) = false) (hdT : (y == ("__debug__" : Str)) = false) :
    PE (X.suite a ((a, oe) :: pn)) (.Call (.Name "isinstance" p) [.Name z p1, .Name y p2] [] pos) (fun σ H Q => σ[i]? = some (some (.ref a)) ∧ Q (.bl b) H) := by
  refine PE.weak (pe_callB (X := X.suite a ((a, oe) :: pn)) (call_isE ec hz hf) hg BB.isinstance (by decide +kernel) (pa_cons (pe_var (X := X.suite a ((a, oe) :: pn)) hN hv hd hcd) (pa_cons (pe_glob (X := X.suite a ((a, oe) :: pn)) (v := .ref C) hgT hm rfl hdT) pa_nil rfl) rfl) (by decide) (by decide) rfl rfl) fun σ H Q ⟨h1, h2⟩ => ?_
  exact ⟨.ref a, h1, .ref C, .ref C, b, rfl, fun u hu => hu, hk, h2⟩
theorem pe_isEv {a D : Addr} {oe : Obj} {pn : List (Addr × Obj)} {y z : Str} {i : Nat} {b : Bool} {t : String} (BB : Blt X.mg) (ec : ExcC X.K D) (hz : Zc (.ref D) none oe) (hf : ∃ vs, oe.data = .fields vs) (hm : X.mg y = none) (hbT : bootBuiltins y = some (.type t)) (hk : PySem.W.kitOne X.K (.ref D) (.type t) = some b)
    (hN : X.N[i]? = some z) (hv : Vis X.env.scope z) (hg : Gl X "isinstance") (hgT : Gl X y) (hd : (z == ("__debug__" : Str)) = false) (hcd : (z == ("__classdict__" : Str)) = false) (hdT : (y == ("__debug__" : Str)) = false) (hnT : y ≠ "__name__") :
    PE (X.suite a ((a, oe) :: pn)) (.Call (.Name "isinstance" p) [.Name z p1, .Name y p2] [] pos) (fun σ H Q => σ[i]? = some (some (.ref a)) ∧ Q (.bl b) H) := by
  refine PE.weak (pe_callB (X := X.suite a ((a, oe) :: pn)) (call_isE ec hz hf) hg BB.isinstance (by decide +kernel) (pa_cons (pe_var (X := X.suite a ((a, oe) :: pn)) hN hv hd hcd) (pa_cons (pe_bltn (X := X.suite a ((a, oe) :: pn)) (v := .ty t) hgT hm hbT rfl hnT hdT) pa_nil rfl) rfl) (by decide) (by decide) rfl rfl) fun σ H Q ⟨h1, h2⟩ => ?_
  exact ⟨.ref a, h1, .ty t, .type t, b, rfl, fun u hu => hu, hk, h2⟩

def bs1 (c : Nat) : List V := [.bl (c == 1), .bl (c == 2), .bl (c == 3)]
def bs2 (c : Nat) : List V := [.bl (c == 4), .bl (c == 5), .bl true]
/-- what _law_kinds makes of what it asks -/
def TTk (J : Inf) : (XK → Hp → VK → Prop) → Hp → VK → Prop := fun tl H Q => ∀ p, H p = none →
  tl (fun cls d H' => ∃ c, 1 ≤ c ∧ c ≤ 5 ∧ cls = .ref (J.exc c) ∧ d = none ∧ ∀ q1 q2 q3, H' q1 = none → upd H' q1 (.lst (bs1 c)) q2 = none → upd (upd H' q1 (.lst (bs1 c))) q2 (.lst (bs2 c)) q3 = none →
    Q (.ref q3) (upd (upd (upd H' q1 (.lst (bs1 c))) q2 (.lst (bs2 c))) q3 (.lst (bs1 c ++ bs2 c)))) (upd H p (.lst [])) (fun _ H' => Q (.ref p) H')
theorem rvs_bls {t : Tr} {L : Addr → Prop} {H : Hp} : ∀ bs : List Bool, RVs J t L H (bs.map D.bl) (bs.map V.bl)
  | [] => RVs.nil
  | b :: bs => .cons (by simp only [RV]) (rvs_bls bs)
/-- what is wanted of the code that makes lambdas -/
structure LamT (X : Cx) (J : Inf) : Prop where
  tab : ∃ c Pp, LamX.TabB X.base X.mg c Pp ∧ X.env.code = .ref c ∧ (Pp, X.env.qual ++ "<lambda>") ∈ J.tabs ∧ ∀ p ∈ J.tabs, p.1 = Pp → p.2 = X.env.qual ++ "<lambda>"
/-- _law_kinds(lambda: body) -/
theorem se_kinds {st : Stmt} {gA : Addr} {Ng : List Str} {params : Arguments} {body : Expr} {scope : Scope} {lpos : Pos} {fe : FE} (g : Good X J E (n + 2)) (LT : LamT X J) (hm : X.mg "_law_kinds" = some (.ref gA))
    (U : ∃ fd, Fun X.K "_law_kinds" "_law_kinds" st gA fd ∧ Binds X.K fd ["_law_ask"] []) (Sg : FnScope Ng ["_law_ask"] (defScope st)) (hNg : Ng[0]? = some ("_law_ask" : Str)) (hva : Vis (defScope st) "_law_ask")
    (hG : ∀ cdg, LamX.GivesTo X Ng "_law_kinds" (defScope st) gA cdg (defBody st) "_law_ask" (X.env.qual ++ "<lambda>") (TTk J)) (L : LamX.LamS X.env.scope scope)
    (hbody : ∀ (A : Around) (outer : List PySem.Env) (s : Shared) (H : Hp) (E' : XK) (f c' : Addr), Good (LamX.lamCx X A outer s H E' scope f c') J E' n → SE (LamX.lamCx X A outer s H E' scope f c') J E' cx.down.down body fe)
    (hg : Gl X "_law_kinds" := by rfl) (hdef : defaultsOf params X.env = ([], []) := by rfl)
    (hbind : ∀ (q : Str) (cl : List (Str × Addr)) (pm cv ctv : Value), bindArgs (PySem.W.kla_fn "<lambda>" q params body scope cl pm cv ctv) ⟨[], []⟩ = pure [] := by intros; rfl) :
    SE X J E cx (.Call (.Name "_law_kinds" p) [.Lambda params body scope lpos] [] pos) (eKinds fe) := by
  obtain ⟨c, Pp, TB, hcode, hmT, hu⟩ := LT.tab
  obtain ⟨fd, ⟨⟨oc, od, kV, doc, pm, an, cdv, ct, osl, rfl, lk, hcd⟩, kp⟩, hb⟩ := U
  refine PE.weak (LamX.pe_lamcall (T := J.tabs) (TT := TTk J) (t := fun E' => tE J E' cx.down.down fe) (k := n) hg hm kp lk hcd hb Sg hNg hva (hG cdv) TB hcode hmT hu g.room L hdef hbind
    (fun A outer s H E' f c' hr => hbody A outer s H E' f c' ⟨hr, rfl, g.nd, takes_of rfl rfl rfl rfl, passes_of rfl⟩) (by decide) (by decide) (by decide)) fun s H Q ⟨t, r, h, R, S, p⟩ => ?_
  refine ⟨R.tabs, fun H1 eN T1 q nq => ?_⟩
  have e1 := Ext.lam R eN
  have R1 := R.lam eN T1
  have e2 := Ext.laid (o := .lst []) R1 nq
  have R2 := R1.laid (o := .lst []) nq
  have e12 := e1.trans e2
  refine ⟨t, r, h, R2, S.mono e12, ?_⟩
  unfold eKinds at p
  cases q1 : fe cx.down.down r h with
  | bad => rw [q1] at p; exact p.elim
  | ok d h1 =>
    rw [q1] at p
    intro t' H' v e' R' w
    refine p t' H' (.ref q) (e12.trans e') R' ?_
    have w0 : RV J t (live t h) (upd H1 q (.lst [])) (.lst []) (.ref q) := by
      simp only [RV]
      exact ⟨q, [], rfl, upd_same, R1.fresh nq, RVs.nil⟩
    exact w0.mono e'
  | exc c1 h1 =>
    rw [q1] at p
    dsimp only at p
    split at p
    · rename_i hc
      intro t' H' e' R'
      refine ⟨c1, hc.1, hc.2, rfl, rfl, fun a1 a2 a3 n1 n2 n3 => ?_⟩
      have l1 := R'.laid (o := .lst (bs1 c1)) n1
      have l2 := l1.laid (o := .lst (bs2 c1)) n2
      have l3 := l2.laid (o := .lst (bs1 c1 ++ bs2 c1)) n3
      refine p t' _ (.ref a3) (((e12.trans e').trans (Ext.laid R' n1)).trans ((Ext.laid l1 n2).trans (Ext.laid l2 n3))) l3 ?_
      simp only [RV]
      exact ⟨a3, _, rfl, upd_same, l2.fresh n3, rvs_bls (sixB c1)⟩
    · exact p.elim
end
end M

set_option Elab.async false
set_option linter.all false
set_option maxRecDepth 100000
set_option maxHeartbeats 4000000
/-! The law itself. -/
namespace M
open PySem L2
section
variable {P : Program} {w : World} {K : PySem.W.Frag} {mg : Str → Option Value} {base : Heap} {J : Inf} {G : Nat → Option Fn}
def spLaw (K : PySem.W.Frag) (J : Inf) : Sp := fun vs H Q _ => ∃ (a : Addr) (ns : List Int), vs = [.ref a] ∧ SqL K H a (ns.map V.int) ∧ ns.length ≤ 63 ∧ LamX.Tabs J.tabs H ∧ ∀ H', Q (.bl true) H'
/-- the first statement: the script cut -/
abbrev tCut (K : PySem.W.Frag) : TS := tAsg (tSl (rSlL K) (tVar 0) tNoPart (tPart (tC (.int 63)))) (gName 0)
theorem cut_all (xs : List V) (h : xs.length ≤ 63) : cutV xs none (some 63) = xs := by
  have e1 : HT.sIx xs.length 0 none = 0 := rfl
  have e2 : HT.sIx xs.length xs.length (some 63) = xs.length := by
    unfold HT.sIx
    simp only [show ¬ ((63 : Int) < 0) by decide, if_false]
    show min 63 xs.length = xs.length
    omega
  unfold cutV
  rw [e1, e2]
  simp
theorem rvs_int {t : Tr} {L : Addr → Prop} {H : Hp} : ∀ ns : List Int, RVs J t L H (ns.map D.int) (ns.map V.int)
  | [] => RVs.nil
  | n :: ns => .cons (by simp only [RV]) (rvs_int ns)
def law0 (k : Nat) (ns : List Int) : Env := some (.lst (ns.map D.int)) :: List.replicate k none
theorem law_fn (hJ : ∀ t h H, J.inv t h H) {C : Value → Prop} {st : Stmt} {f : Addr} {fd : FuncData} {N : List Str} {n k : Nat} {F : FS} {cx : Ctx} (U : FunP K "law" "law" st f fd C) (S : FnScope N ["_law_script"] (defScope st)) (hN : N.length = k + 1)
    (hb : ∀ (X : Cx) (E : XK), (∃ cdv A outer s H, C cdv ∧ X = cxOf (L2.CX P w) P w K mg base N "law" (defScope st) f cdv A outer s H E) → Good X J E n → PSs X (defBody st) (tSeq (tCut K) (tS J E cx F)))
    (hF : ∀ ns : List Int, ns.length ≤ 63 → ∃ h', F cx (law0 k ns) [] = .rt (.bl true) h') :
    FnOk P w K mg base (L2.CX P w) (n + 1) f fd ["_law_script"] (spLaw K J) := by
  obtain ⟨⟨oc, od, kV, doc, pm, an, cdv, ct, osl, rfl, lk, hcd, hC⟩, kp⟩ := U
  refine fn_of lk hcd S (fun vs H Q E ⟨a, ns, e, _⟩ => by rw [e]; rfl) fun A outer s H vs Q E hr ⟨a, ns, e, hS, hl, hT, hQ⟩ => ?_
  subst e
  have hp := hb _ E ⟨cdv, A, outer, s, H, hC, rfl⟩ ⟨hr, rfl, S.nd, takes_of rfl rfl rfl rfl, passes_of rfl⟩
  refine ⟨_, hp, ?_⟩
  refine ⟨.ref a, rfl, 63, rfl, a, ns.map V.int, rfl, hS, fun q nq => ?_⟩
  rw [cut_all _ (by simpa using hl)]
  obtain ⟨h', e⟩ := hF ns hl
  refine ⟨⟨[], fun _ => False⟩, law0 k ns, [], ⟨rfl, List.nodup_nil, nofun, nofun, nofun, tabs_upd hT (.inl nq), hJ _ _ _⟩, ?_, ?_⟩
  · have hs : (L2.start N [V.ref a]).set 0 (some (.ref q)) = some (.ref q) :: List.replicate k none := by
      unfold L2.start
      rw [hN]
      rfl
    rw [hs]
    refine ⟨by simp [law0], fun i d z => ?_⟩
    cases i with
    | zero =>
      have : d = .lst (ns.map D.int) := by
        have z' : some (some (D.lst (ns.map D.int))) = some (some d) := z
        cases z'
        rfl
      subst this
      refine ⟨.ref q, rfl, ?_⟩
      simp only [RV]
      refine ⟨q, _, rfl, upd_same, ?_, rvs_int ns⟩
      rintro (⟨c, x, z1, _⟩ | z1)
      · exact nomatch z1
      · exact z1
    | succ i =>
      have z' : (List.replicate k (none : Option D))[i]? = some (some d) := z
      rw [List.getElem?_replicate] at z'
      split at z' <;> cases z'
  · rw [e]
    intro t' H' v _ _ wv
    simp only [RV] at wv
    subst wv
    exact hQ H'
end
end M

set_option autoImplicit false
set_option linter.all false
/-! More of the machine: a dict of one pair, lists of walks, sets of numbers, defs as values, lambdas handed on. -/
namespace M

/-- {k: v}: the dict is there before its pair -/
def one1 (c : Nat) (k v : D) (h : Hh) : R D :=
  match h[c]?, keyOf k with
  | some (.dct [] []), some q => .ok (.cell c) (h.set c (.dct [q] [v]))
  | _, _ => .bad
def eDict1 (a b : FE) : FE := fun cx r h => (a cx r (h ++ [.dct [] []])).bind fun k h1 => (b cx r h1).bind fun v h2 => one1 h.length k v h2
/-- list(zip(a, b)) of two lists -/
def lzip (m : Bool) (x y : D) (h : Hh) : R D :=
  match viewL h x, viewL h y with
  | some xs, some ys => if xs.length ≤ LIM then up (mkL m (zipT xs ys) h) else .bad
  | _, _ => .bad
def eListZ (m : Bool) (a b : FE) : FE := fun cx r h => (a cx r h).bind fun x h1 => (b cx r h1).bind fun y h2 => lzip m x y h2
/-- isinstance(x, str) -/
def isStr : D → Bool
  | .str _ => true
  | _ => false
def pIsStr (x : D) (h : Hh) : Option (D × Hh) := if tyOk h x then some ((.bl (isStr x)), h) else none
/-- x.count(True) of a list of truths -/
def pCountT (x : D) (h : Hh) : Option (D × Hh) :=
  match (viewL h x).bind boolsOf with
  | some bs => some ((.int (bs.count true : Nat)), h)
  | none => none
/-- f(..), f a def as a value, one of ks -/
def asFn (ks : List Nat) (d : D) (k : Nat → R D) : R D :=
  match d with
  | .fn j => if ks.contains j then k j else .bad
  | _ => .bad
def eCallV (ks : List Nat) (f : FE) (es : List FE) : FE := fun cx r h => (f cx r h).bind fun d h1 => asFn ks d fun j => (evs es cx r h1).bind fun ds h2 => cx.call j ds h2

/- no def as a value is in it -/
mutual
def noFn : D → Bool
  | .fn _ => false
  | .tup xs => noFns xs
  | .lst xs => noFns xs
  | .dct _ vs => noFns vs
  | _ => true
def noFns : List D → Bool
  | [] => true
  | x :: xs => noFn x && noFns xs
end
def noFnF : List (Nat × D) → Bool
  | [] => true
  | x :: xs => noFn x.2 && noFnF xs
def noFnC : Cell → Bool
  | .lst xs => noFns xs
  | .dct _ vs => noFns vs
  | .ins _ fs => noFnF fs
  | .dead => true
def noFnH : Hh → Bool
  | [] => true
  | x :: xs => noFnC x && noFnH xs
def noFnR (m : R D) : R D :=
  match m with
  | .ok d h => if noFn d && noFnH h then .ok d h else .bad
  | .exc _ _ => .bad
  | .bad => .bad
/-- f(a, b, lambda: e): F is the def's meaning by the lambda's -/
def eLam2 (F : (Hh → R D) → Fn) (a b e : FE) : FE := fun cx r h => (a cx r h).bind fun x h1 => (b cx r h1).bind fun y h2 =>
  if noFn x && noFn y && noFnH h2 then noFnR (runFn (F fun h3 => e cx.down.down r h3) cx.down [x, y, .fn 0] h2) else .bad
/-- the lambda called -/
def askL (g : Hh → R D) (d : D) (h : Hh) : R D :=
  match d with
  | .fn 0 => if noFnH h then noFnR (g h) else .bad
  | _ => .bad
def eAskL (g : Hh → R D) (f : FE) : FE := fun cx r h => (f cx r h).bind fun d h1 => askL g d h1

/-- _law_told(lambda: e) -/
def toldD (c : Nat) : D := if c == 4 then .str [110, 111, 116, 32, 116, 104, 101, 114, 101] else if c == 5 then .str [110, 111, 116, 104, 105, 110, 103] else .str [111, 116, 104, 101, 114]
def eTold (e : FE) : FE := fun cx r h =>
  match e cx.down.down r h with
  | .ok d h1 => .ok d h1
  | .exc c h1 => if 1 ≤ c ∧ c ≤ 5 then .ok (toldD c) h1 else .bad
  | .bad => .bad
end M
namespace M
/-- x.index(y), x a list or a key -/
def isKtp : D → Bool
  | .ktp _ => true
  | _ => false
def idxA (x y : D) (h : Hh) : R D := if isKtp x then up (pIndexT x y h) else up (pIndex x y h)
def eIndexA (o a : FE) : FE := fun cx r h => (o cx r h).bind fun x h1 => if isKtp x || (viewL h1 x).isSome then (a cx r h1).bind fun y h2 => idxA x y h2 else .bad
end M
namespace M
/-- x == [] of a list of any things -/
def pNil (x : D) (h : Hh) : Option (D × Hh) :=
  match viewL h x with
  | some xs => some (.bl xs.isEmpty, h)
  | none => none
end M

set_option Elab.async false
set_option linter.all false
set_option maxRecDepth 100000
set_option maxHeartbeats 4000000
/-! A dict of one pair, its key a tuple. -/
namespace M
open PySem L2

section
variable {prog : Program} {w : World} {A : Around} {E : Value → Shared → Prop} {s : Shared} {env : PySem.Env}
/-- the display's walk: one pair, its key hashed in the heap -/
theorem disp_one {k v : Expr} {pos : Pos} {Q : Value → Shared → Prop} {K : Type} [DecidableEq K] {knd : HeapKind prog w K} (hu : knd.room A)
    (h : wpAny (model prog w) A (eval k env) (fun ku s1 => wpAny (model prog w) A (eval v env) (fun vu s2 => ∃ (b : Addr) (q : K), ku = .ref b ∧ knd.is s2.heap q b ∧ s2.heap.DictOfH knd s.heap.objs.size [] ∧
      ∀ h', h'.DictOfH knd s.heap.objs.size (storedH [] q b vu) → Heap.SameBut s.heap.objs.size s2.heap h' → Q (.ref s.heap.objs.size) { s2 with heap := h', toks := s2.toks + knd.draws q }) E s1) E
      { s with heap := s.heap.push { cls := .type "dict", data := .dict #[] } }) :
    wpAny (model prog w) A (eval (.Dict [some k] [v] pos) env) Q E s := by
  have ln : (pairTrees [some k] [v] env pos).length = 1 := pairTrees_length [some k] [v] env pos rfl rfl
  rw [arm_eval_Dict, zip_pairTrees [some k] [v] env pos rfl rfl, dictDisplay_pairs _ (fun z => by rw [z] at ln; cases ln) (by omega)]
  refine wpAny_bind (wpAny_standAt (wpAny_bind ?_))
  unfold subDict
  refine wpAny_bind (wpAny_alloc (wpAny_bind (wpAny_holding ?_)))
  rw [if_pos (by omega)]
  refine wpAny_bind (pairTrees_cons_walk (wpAny_mono h (fun ku s1 h1 => wpAny_mono h1 (fun vu s2 h2 => pairTrees_nil_walk ?_) fun _ _ z => z) fun _ _ z => z))
  obtain ⟨b, q, rfl, hk, hd, hQ⟩ := h2
  refine wpAny_holding (wpAny_bind ?_)
  rw [List.forIn_cons]
  refine wpAny_bind (wpAny_bind (wpAny_dictSet_heap (hsz := by simp) hu hk hd fun h' d1 d2 => wpAny_pure ?_))
  exact wpAny_pure (wpAny_pure (wpAny_pure (wpAny_pure (hQ h' d1 d2))))
end
section
variable {X : Cx} {J : Inf} {E : XK} {cx : Ctx} {n : Nat} {pos : Pos} {a b : Expr} {fa fb : FE} {ta tb : TE}
/-- {a: b}, a a key -/
def tDisp1 (ta tb : TE) : TE := fun σ H Q => ∀ p, H p = none → (p == sysModules) = false → ta σ (upd H p (ExO p dict0)) fun x H1 => tb σ H1 fun y H2 => ∃ (o0 : Obj) (L : Addr → Prop) (k : List Int) (q : Addr), H2 p = some (ExO p o0) ∧ DictIs p o0 [] ∧ x = .ref q ∧ KeyOk H2 L q k ∧
  ∀ o u, RelV y u → DictIs p o [(k, q, u)] → Q (.ref p) (upd H2 p (ExO p o))
theorem pe_disp1 (hu : X.A.units + 1 < cLine) (ha : PE X a ta) (hb : PE X b tb) : PE X (.Dict [some a] [b] pos) (tDisp1 ta tb) := by
  refine ⟨fun pins s σ H Q I h => ?_⟩
  have fr := I.hok.fresh (Nat.le_refl s.heap.objs.size)
  have ns : (s.heap.objs.size == sysModules) = false := beq_eq_false_iff_ne.mpr (Ne.symm (Nat.ne_of_lt I.big))
  have I0 := I.laid (a := s.heap.objs.size) (o := ExO s.heap.objs.size dict0) (h' := s.heap.push dict0) (t' := s.toks) (fun _ _ z => Heap.get?_push_of_some _ z) (Nat.le_refl _) (exO_new (Heap.get?_push_size _ rfl))
  refine disp_one (knd := kd X.prog X.w) (show X.A.units < cLine by omega) (thn (ha.run pins _ σ _ _ I0 (h _ fr ns)) fun ku s1 ⟨x, H1, I1, rx, q1⟩ => thn (hb.run pins s1 σ H1 _ I1 q1) fun vu s2 ⟨y, H2, I2, ry, q2⟩ => ?_)
  obtain ⟨o0, L, k, q, e0, i0, rfl, hk, qq⟩ := q2
  cases (show ku = Value.ref q from rx)
  refine ⟨q, k, rfl, key_is I2 hk, dict_is (L := L) I2 e0 i0 nofun, fun h' d1 sb => ?_⟩
  obtain ⟨o1, es, ep, g1, g2, g3, g4, _, g5⟩ := d1
  exact ⟨.ref s.heap.objs.size, _, d_write I2 (by rw [e0]; exact True.intro) sb ⟨o1, g1⟩ (exO_new g1), rfl, qq o1 vu ry ⟨ns, g2, ⟨es, ep, g3, g4⟩, g5, by rw [sizeLine_eq]; simp⟩⟩
theorem se_dict1 (g : Good X J E n) (ha : SE X J E cx a fa) (hb : SE X J E cx b fb) : SE X J E cx (.Dict [some a] [b] pos) (eDict1 fa fb) := by
  refine PE.weak (pe_disp1 (by have := g.room.units; omega) ha hb) fun s H Q ⟨t, r, h, R, S, p⟩ q nq ns => ?_
  have e0 := Ext.cell (o := ExO q dict0) R nq (.dct [] [])
  have R0 := R.cell (o := ExO q dict0) nq (.dct [] []) ⟨[], dct_nil ns upd_same, RVs.nil⟩
  refine ⟨t.push q, r, h ++ [.dct [] []], R0, S.mono e0, Post.imp (Post.bind (rel := RV J) (Post.ext p e0)) fun x H1 ⟨t1, h1, dk, e1, R1, v1, p1⟩ => ?_⟩
  refine ⟨t1, r, h1, R1, (S.mono e0).mono e1, Post.imp (Post.bind (rel := RV J) p1) fun y H2 ⟨t2, h2, dv, e2, R2, v2, p2⟩ => ?_⟩
  have at2 : t2.l[h.length]? = some q := e2.at (e1.at (push_at R))
  dsimp only at p2
  unfold one1 at p2
  split at p2
  · rename_i k hc hk
    obtain ⟨vs, ⟨o0, xs, y1, y2, y3, y4, y5⟩, rr⟩ := R2.cells h.length _ q hc at2
    have xn : xs = [] := by simpa using y3
    subst xn
    obtain ⟨b1, rfl, hb1⟩ := key_rv (v1.mono e2) hk
    refine ⟨o0, live t2 h2, k, b1, y1, y2, rfl, hb1, fun o u ru di => ?_⟩
    have W := Ext.write (y := .dct [k] [dv]) (o := ExO q o) R2 hc nofun at2
    refine p2 t2 _ (.ref q) W (R2.write hc nofun at2 ⟨[y], ⟨o, [(k, b1, u)], upd_same, di, rfl, fun x hx => ?_, .cons ru .nil⟩, .cons (v2.mono W) RVs.nil⟩) ?_
    · cases List.mem_singleton.mp hx
      exact hb1.mono0 W.toExt0
    · simp only [RV]
      exact ⟨q, rfl, at2⟩
  · exact p2.elim
end
end M

set_option Elab.async false
set_option linter.all false
set_option maxRecDepth 100000
set_option maxHeartbeats 4000000
/-! sorted(set(x)), sorted pairs, list(range()), list(zip()). -/
namespace M
open PySem L2
section
variable {P : Program} {w : World} {A : Around} {E : Value → Shared → Prop} {s : Shared}
/-- the set that is new -/
abbrev fresh (w : World) : Obj := { cls := .type "set", dict := none, data := .set #[] 0 (.fresh 0 0 (!w.params.followText "set-order")) }
theorem set_of_list {q : Addr} {xs : Array Value} (ns : List Int) {Q : Value → Shared → Prop} (nh : A.handled = none) (hq : s.heap.IsList q xs) (hx : PyProof.Rows.IntsAre xs.toList ns) (few : ns.length + 1 < scanBound)
    (k : ∀ (h2 : Heap) (tk c : Nat), SetR w h2 s.heap.objs.size (fun j => decide (j ∈ ns)) c → c ≤ ns.length → (∀ b o, s.heap.get? b = some o → h2.get? b = some o) → Q (.ref s.heap.objs.size) { s with heap := h2, toks := tk }) :
    wpAny (model P w) A (call (.type "set") [.ref q]) Q E s := by
  have sz : xs.size = ns.length := by simpa using PyProof.Rows.IntsAre.length hx
  obtain ⟨c0, tl, mro⟩ := F.called_set.mro
  have made := F.called_set.made
  have sub := F.called_set.sub
  refine wpAny_call (codeAny_of_tree (show wpAny _ _ (callAny (.type "set") _) _ _ _ from wpAny_pure ⟨Code.quiet_builtin _ (by decide +kernel), codeAny_builtin F.entry_type_call ?_⟩))
  rw [Around.under_plain (weight_type_call_type "set" [.ref q] []) rfl]
  have f1 := F.called_set.notType
  have f2 := F.called_set.canCreate
  have f3 := F.typeCall_set_1 (.ref q)
  repeat (any_goals (first | assumption | wp_step))
  refine codeAny_mono (code_set_led1 (.ref q) (E := E) (Q₁ := fun v s1 => v = .ref s.heap.objs.size ∧ s1 = { s with heap := s.heap.push (fresh w) }) ⟨rfl, rfl⟩) fun r s1 hr => ?_
  cases r with
  | error e => exact hr
  | ok fl =>
    cases fl with
    | ret v =>
      obtain ⟨rfl, rfl⟩ := hr
      have g0 : (s.heap.push (fresh w)).get? s.heap.objs.size = some (fresh w) := Heap.get?_push_size _ rfl
      have ty : Shared.TypeIs { s with heap := s.heap.push (fresh w) } (.ref s.heap.objs.size) "set" := ⟨_, g0, rfl⟩
      have li := F.called_set.init.lookup
      have bi := F.called_set.init.bind (.ref s.heap.objs.size)
      repeat (any_goals (first | assumption | wp_step))
      refine codeAny_mono (codeAny_call_builtin (R := wants (fun r s2 => r = .none ∧ ∃ h2 tk c, s2 = { s with heap := h2, toks := tk } ∧ SetR w h2 s.heap.objs.size (fun j => decide (j ∈ ns)) c ∧ c ≤ ns.length ∧
          (∀ b o, s.heap.get? b = some o → h2.get? b = some o)) E) F.called_set.init.plain F.entry_set_init (check_set_init_1 ty ?_)) fun r2 s2 hr2 => ?_
      · obtain ⟨⟨ocl, odi, oda, osl⟩, hol, hcl, nl, hdl⟩ := hq
        simp only at hcl hdl
        subst hcl hdl
        have hol1 := Heap.get?_push_of_some (h := s.heap) (fresh w) hol
        have u1 := F.sub_list_set
        have u2 := F.sub_list_frozenset
        have u3 : (Value.type "list" == Value.type "dict") = false := by decide
        have lst1 : (s.heap.push (fresh w)).IsList q xs := ⟨_, hol1, rfl, nl, rfl⟩
        unfold Builtin.«set.__init__» noKeywords Builtin.Frozenset.updateFrom
        generalize ePI : pyIter = PI
        wp_walk
        subst ePI
        refine wpAny_pyIter_list lst1 (wpAny_bind (wpAny_runValue ?_))
        have lq : q < s.heap.objs.size := Heap.lt_size hol
        have nh3 : A.in1.in1.in1.handled = none := by simp [nh]
        have s1 : (s.heap.push (fresh w)).objs.size = s.heap.objs.size + 1 := Heap.size_push ..
        have ne1 : q ≠ (s.heap.push (fresh w)).objs.size := by rw [s1]; exact Nat.ne_of_lt (Nat.lt_succ_of_lt lq)
        have out : s.heap.objs.size ∉ [(s.heap.push (fresh w)).objs.size, q] := by
          simp only [s1, List.mem_cons, List.not_mem_nil, or_false, not_or]
          exact ⟨Nat.ne_of_lt (Nat.lt_succ_self _), Nat.ne_of_gt lq⟩
        refine set_update_ints ((Walks.list nh3 _ q ne1 xs).toS) s.heap.objs.size out ns sz few (fun i v hv => ?_) (xs.size - 0) 0 _ (by omega) (Nat.zero_le _)
          ⟨⟨_, Heap.get?_push_size _ rfl, rfl, rfl⟩, (lst1.push _)⟩ ⟨0, Nat.le_refl 0, setR_new_at (Heap.get?_push_of_some _ g0)⟩ ?_
        · have hi : i < ns.length := by rw [← sz]; exact (Array.getElem?_eq_some_iff.mp hv).1
          obtain ⟨t, e⟩ := PyProof.Rows.IntsAre.int_at hx i v (by rw [Array.getElem?_toList]; exact hv)
          exact ⟨ns[i], t, List.getElem?_eq_getElem hi, by rw [e, List.getD_eq_getElem?_getD, List.getElem?_eq_getElem hi]; rfl⟩
        · rintro ⟨h2, g2, d2, tk2, os2⟩ c2 hm hc2 hS2
          obtain rfl : g2 = s.gens := hm.gens
          obtain rfl : d2 = s.drawn := hm.drawn
          obtain rfl : os2 = s.os := hm.os
          show wpAny _ _ _ _ _ _
          refine wpAny_pure (show wpAny _ _ (ret Value.none) _ _ _ from ?_)
          refine wpAny_pure ⟨rfl, h2, tk2, c2, rfl, hS2, by omega, fun b o e => ?_⟩
          have lb : b < s.heap.objs.size := Heap.lt_size e
          refine hm.heap b o ?_ (Heap.get?_push_of_some _ (Heap.get?_push_of_some _ e))
          simp only [s1, List.mem_cons, List.not_mem_nil, or_false, not_or]
          exact ⟨Nat.ne_of_lt lb, Nat.ne_of_lt (Nat.lt_succ_of_lt lb)⟩
      · cases r2 with
        | error e => exact hr2
        | ok f2 =>
          cases f2 with
          | ret r =>
            obtain ⟨rfl, h2, tk, c2, rfl, hS2, hc2, hk2⟩ := hr2
            repeat (any_goals (first | assumption | wp_step))
            exact k _ _ _ hS2 hc2 hk2
          | next => exact hr2.elim
          | brk => exact hr2.elim
          | cont => exact hr2.elim
    | next => exact hr.elim
    | brk => exact hr.elim
    | cont => exact hr.elim
end
end M

set_option Elab.async false
set_option linter.all false
set_option maxRecDepth 100000
set_option maxHeartbeats 4000000
/-! Rules for these: sorted(set(x)), sorted of pairs, list(range(n)), defs as values, isinstance(x, str). -/
namespace M
open PySem L2

section
variable {X : Cx} {J : Inf} {E : XK} {cx : Ctx} {n : Nat} {pos p p2 p3 : Pos} {a b c e : Expr} {es : List Expr} {fa fb fc ff : FE} {fs : List FE}
/-- set(x), x a list of numbers -/
def rSetI (K : PySem.W.Frag) (w : World) : List V → Hp → VK → Prop := fun vs H Q => ∃ (l : Addr) (ns : List Int), vs = [.ref l] ∧ SqL K H l (ns.map V.int) ∧ ns.length ≤ 60 ∧
  ∀ q c, H q = none → c ≤ ns.length → Q (.ref q) (upd H q (SetO w q (fun j => decide (j ∈ ns)) c))
theorem cr_setI (hc : X.calm = true) : CallR X (.type "set") (rSetI X.K X.w) := by
  intro pins s σ H vs us Q I r h
  obtain ⟨l, ns, rfl, hl, few, q⟩ := h
  obtain ⟨u, rfl, ru⟩ := r.one
  cases ru
  obtain ⟨its, rv, pl, hz⟩ := I.list hl
  refine set_of_list ns (I.ok.hd hc) pl.isList (by simpa using ints_of_vals rv) (by unfold scanBound; omega) fun h2 tk c hS hle kp => ?_
  exact ⟨.ref s.heap.objs.size, _, I.laid (t' := tk) kp (Nat.le_refl _) (setO_new hS), rfl, q _ c (I.hok.fresh (Nat.le_refl _)) hle⟩
theorem dedup_mem (i : Int) : ∀ is : List Int, i ∈ dedup is ↔ i ∈ is
  | [] => by simp [dedup]
  | j :: is => by
    have ih := dedup_mem i is
    unfold dedup
    split
    · rename_i hc
      have hc' : j ∈ is := (dedup_mem j is).mp (by simpa using hc)
      rw [ih, List.mem_cons]
      exact ⟨.inr, fun z => z.elim (fun e => by rw [e]; exact hc') id⟩
    · rw [List.mem_cons, List.mem_cons, ih]
theorem dedup_nodup : ∀ is : List Int, (dedup is).Nodup
  | [] => List.nodup_nil
  | j :: is => by
    unfold dedup
    split
    · exact dedup_nodup is
    · rename_i hc
      exact List.nodup_cons.mpr ⟨by simpa using hc, dedup_nodup is⟩
theorem rising_eq {l m : List Int} (h1 : l.Pairwise (· < ·)) (h2 : m.Pairwise (· ≤ ·)) (nd : m.Nodup) (hm : ∀ k, k ∈ l ↔ k ∈ m) : l = m := by
  have nl : l.Nodup := h1.imp fun h => Int.ne_of_lt h
  have pm : l.Perm m := (List.perm_ext_iff_of_nodup nl nd).mpr hm
  exact sorted_same pm (h1.imp fun h => Int.le_of_lt h) h2
theorem se_sortedSet (g : Good X J E n) (BB : Blt X.mg) (ha : SE X J E cx a fa) (hg : Gl X "sorted" := by rfl) (hg2 : Gl X "set" := by rfl) (hs : starEach [a] X.env = (false, eval a X.env) :: starEach [] X.env := by rfl)
    (hs2 : starEach [.Call (.Name "set" p2) [a] [] p3] X.env = (false, eval (.Call (.Name "set" p2) [a] [] p3) X.env) :: starEach [] X.env := by rfl) :
    SE X J E cx (.Call (.Name "sorted" p) [.Call (.Name "set" p2) [a] [] p3] [] pos) (e1 pSortedSet fa) := by
  have inner := pe_callTy (p := p2) (pos := p3) (cr_setI g.calm) hg2 BB.set (by decide +kernel) (pa_cons ha pa_nil hs) (by decide) (by decide) hs rfl
  refine PE.weak (pe_callB (cr_sortedSet g.calm) hg BB.sorted (by decide +kernel) (pa_cons inner pa_nil hs2) (by decide) (by decide) hs2 rfl) fun s H Q ⟨t, r, h, R, S, pp⟩ => ?_
  refine ⟨t, r, h, R, S, Post.imp (Post.bind (rel := RV J) pp) fun x H1 ⟨t1, h1, d, e1, R1, v1, p1⟩ => ?_⟩
  dsimp only at p1
  unfold pSortedSet at p1
  split at p1
  · rename_i is q
    split at p1
    · rename_i few
      obtain ⟨l, vs, rfl, hl, rs⟩ := view_l R1 v1 (bind_ints q)
      have ev := rs.ints
      subst ev
      refine ⟨l, is, rfl, SqL.of hl, few, fun q c nq hle => ⟨q, _, c, rfl, upd_same, by omega, fun ns p0 h1 h2 h3 np => ?_⟩⟩
      have R2 := R1.laid (o := SetO X.w q (fun j => decide (j ∈ is)) c) nq
      have x2 := Ext.laid (o := SetO X.w q (fun j => decide (j ∈ is)) c) R1 nq
      have en : ns = sortI (dedup is) := rising_eq h1 (sortI_sorted _) ((sortI_perm _).nodup_iff.mpr (dedup_nodup is)) fun k => by rw [h2 k, decide_eq_true_iff, (sortI_perm _).mem_iff, dedup_mem]
      subst en
      refine p1 t1 _ _ (x2.trans (Ext.laid R2 np)) (R2.laid np) ?_
      simp only [RV]
      exact ⟨p0, _, rfl, upd_same, R2.fresh np, RVs.of_ints _⟩
    · exact p1.elim
  · exact p1.elim

/-- list(range(n)) -/
theorem rangeL_rg {t : Tr} {L : Addr → Prop} {H : Hp} : ∀ (m : Nat) (i : Int), RVs J t L H (rangeL i m) ((List.range m).map fun j => V.int (i + (j : Nat)))
  | 0, _ => by simpa [rangeL] using RVs.nil
  | m + 1, i => by
    rw [List.range_succ_eq_map, List.map_cons, List.map_map]
    refine RVs.cons (by simp only [RV]; simp) ?_
    have := rangeL_rg (t := t) (L := L) (H := H) m (i + 1)
    have e : (List.range m).map ((fun j : Nat => V.int (i + (j : Nat))) ∘ Nat.succ) = (List.range m).map fun j => V.int (i + 1 + (j : Nat)) := by
      refine List.map_congr_left fun j _ => ?_
      simp only [Function.comp, Nat.succ_eq_add_one]
      congr 1
      omega
    rw [e]
    exact this
theorem se_listR (m : Bool) (g : Good X J E n) (BB : Blt X.mg) (ha : SE X J E cx a fa) (hg : Gl X "list" := by rfl) (hg2 : Gl X "range" := by rfl) (hs : starEach [a] X.env = (false, eval a X.env) :: starEach [] X.env := by rfl)
    (hs2 : starEach [.Call (.Name "range" p2) [a] [] p3] X.env = (false, eval (.Call (.Name "range" p2) [a] [] p3) X.env) :: starEach [] X.env := by rfl) :
    SE X J E cx (.Call (.Name "list" p) [.Call (.Name "range" p2) [a] [] p3] [] pos) (eListR m fa) := by
  refine PE.weak (pe_listRg g.calm hg BB.list (prg_1 hg2 BB.range ha hs) hs2) fun s H Q ⟨t, r, h, R, S, pp⟩ => ?_
  refine ⟨t, r, h, R, S, Post.imp (Post.bind (rel := RV J) pp) fun x H1 ⟨t1, h1, d, e1, R1, v1, p1⟩ => ?_⟩
  dsimp only at p1
  split at p1
  · rename_i k
    split at p1
    · rename_i hk
      simp only [RV] at v1
      subst v1
      refine ⟨k, rfl, RgOk.of_le (by omega) (by omega) (by omega) (by omega), fun q nq => ?_⟩
      refine new_list R1 ?_ p1 q nq
      have := rangeL_rg (J := J) (t := t1) (L := live t1 h1) (H := H1) k.toNat 0
      unfold rgV
      simpa using this
    · exact p1.elim
  · exact p1.elim

/-- a def as a value -/
theorem se_fn {x : Str} (k : Nat) (hm : X.mg x = some (.ref (J.fnv k))) (hg : Gl X x := by rfl) (hd : (x == ("__debug__" : Str)) = false := by decide) : SE X J E cx (.Name x pos) (eK (.fn k)) :=
  se_K (v := .ref (J.fnv k)) (pe_glob hg hm rfl hd) fun _ _ _ _ => by simp only [RV]
/-- f(..), f a name of the def's own that holds a def -/
theorem se_callV {x : Str} (ks : List Nat) (i : Nat) (g : Good X J E n) (F : ∀ k ∈ ks, FnM X.prog X.w X.K X.mg X.base J cx n (J.fnv k) k) (ha : SA X J E cx (e :: es) fs) (hN : X.N[i]? = some x := by rfl) (hv : Vis X.env.scope x := by first | exact Or.inl rfl | exact Or.inr (Or.inl rfl) | exact Or.inr (Or.inr rfl))
    (hd : (x == ("__debug__" : Str)) = false := by decide) (hcd : (x == ("__classdict__" : Str)) = false := by decide)
    (he : starEach (e :: es) X.env = (false, eval e X.env) :: starEach es X.env := by rfl) (hpl : (backTo pos (starEach es X.env)).any (·.1) = false := by rfl) :
    SE X J E cx (.Call (.Name x p) (e :: es) [] pos) (eCallV ks (eVar i) fs) := by
  refine ⟨fun pins s σ H Q I ⟨t, r, h, R, S, pp⟩ => ?_⟩
  cases q : r[i]? with
  | none => exact (show False by unfold eCallV eVar at pp; rw [q] at pp; exact pp).elim
  | some o =>
    cases o with
    | none => exact (show False by unfold eCallV eVar at pp; rw [q] at pp; exact pp).elim
    | some d =>
      have pq : PostE J E t h H (asFn ks d fun j => (evs fs cx r h).bind fun ds h2 => cx.call j ds h2) Q := by
        unfold eCallV eVar at pp
        rw [q] at pp
        exact pp
      unfold asFn at pq
      split at pq
      · rename_i k
        split at pq
        · rename_i hk
          have Fk := F k (List.contains_iff_mem.mp hk)
          obtain ⟨fd, ps, hb, F1⟩ := Fk.ok
          obtain ⟨v, sv, rv⟩ := S.2 i _ q
          simp only [RV] at rv
          subst rv
          refine wpAny_Call_Name_kw (thn ((pe_var (pos := p) (i := i) hN hv hd hcd).run pins s σ H (fun w H1 => w = .ref (J.fnv k) ∧ H1 = H) I ⟨_, sv, rfl, rfl⟩) fun u s1 ⟨w, H1, I1, r1, ew, eH⟩ => ?_)
          subst ew eH
          obtain rfl : u = Value.ref (J.fnv k) := r1
          refine PySem.W.callWith_K (h₀ := X.base) I1.ok.mod.kin Fk.keep (thn (ha.run pos pins s1 σ H1 _ I1 ⟨t, r, h, R, S, Post.bind (rel := RVs J) pq⟩) fun us s2 ⟨vs, H2, I2, rr, qq⟩ => ⟨I2.kIn, ?_⟩) he hpl
          refine run_fn (ds := []) (dvs := []) F1 g.room hb .nil (passes_call g.tk fun _ _ _ _ z => z) I2 rr ?_
          obtain ⟨t1, h1, ds, e1, R1, v1, p1⟩ := qq
          rw [List.append_nil]
          exact ⟨t1, h1, ds, R1, v1, p1⟩
        · exact pq.elim
      · exact pq.elim

/-- isinstance(x, str) -/
theorem kit_strB (T : String) (h : T = "NoneType" ∨ T = "bool" ∨ T = "int" ∨ T = "str" ∨ T = "tuple" ∨ T = "list" ∨ T = "dict") : kitB T "str" = some (T == "str") := by
  rcases h with rfl | rfl | rfl | rfl | rfl | rfl | rfl <;> decide +kernel
theorem tyD_str {h : Hh} {d : D} (e : tyOk h d = true) : (tyD d = "NoneType" ∨ tyD d = "bool" ∨ tyD d = "int" ∨ tyD d = "str" ∨ tyD d = "tuple" ∨ tyD d = "list" ∨ tyD d = "dict") ∧ (tyD d == "str") = isStr d := by
  cases d <;> first | (simp [tyD, isStr]; done) | (simp [tyOk] at e; done)
theorem a_isStr (BB : Blt X.mg) (hmT : X.mg "str" = none) (ha : SE X J E cx a fa) (hg : Gl X "isinstance" := by rfl) (hgT : Gl X "str" := by rfl)
    (hs : starEach [a, .Name "str" p2] X.env = (false, eval a X.env) :: starEach [.Name "str" p2] X.env := by rfl) : SE X J E cx (.Call (.Name "isinstance" p) [a, .Name "str" p2] [] pos) (e1 pIsStr fa) := by
  refine PE.weak (pe_callB call_isi hg BB.isinstance (by decide +kernel) (pa_cons ha (pa_cons (pe_bltn (v := .ty "str") hgT hmT (by decide +kernel) rfl (by decide) (by decide)) pa_nil rfl) hs) (by decide) (by decide) hs rfl) fun s H Q ⟨t, r, h, R, S, pp⟩ => ?_
  refine ⟨t, r, h, R, S, Post.imp (Post.bind (rel := RV J) pp) fun x H1 ⟨t1, h1, d, e1, R1, v1, p1⟩ => ?_⟩
  dsimp only at p1
  unfold pIsStr at p1
  split at p1
  · rename_i ok
    obtain ⟨g1, _⟩ := ty_rv (K := X.K) R1 v1 ok .int
    obtain ⟨g3, g4⟩ := tyD_str ok
    have g2 := kit_strB _ g3
    rw [g4] at g2
    exact ⟨x, .ty "str", _, _, _, rfl, .ty _, g1, kit_ty g2, p1 t1 H1 _ Ext.refl R1 (by simp only [RV])⟩
  · exact p1.elim
end
end M

set_option Elab.async false
set_option linter.all false
set_option maxRecDepth 100000
set_option maxHeartbeats 4000000
/-! sorted of pairs of numbers. -/
namespace M
open PySem L2
theorem leP_iff {p q : Int × Int} : leP p q = true ↔ p.1 < q.1 ∨ (p.1 = q.1 ∧ p.2 ≤ q.2) := by simp [leP]
theorem leP_total {p q : Int × Int} (h : leP p q = false) : leP q p = true := by
  have h' : ¬ leP p q = true := by rw [h]; simp
  rw [leP_iff] at h' ⊢
  omega
theorem leP_trans {p q r : Int × Int} (h1 : leP p q = true) (h2 : leP q r = true) : leP p r = true := by
  rw [leP_iff] at h1 h2 ⊢
  omega
theorem leP_anti {p q : Int × Int} (h1 : leP p q = true) (h2 : leP q p = true) : p = q := by
  rw [leP_iff] at h1 h2
  exact Prod.ext (by omega) (by omega)
theorem insP_perm (p : Int × Int) : ∀ qs : List (Int × Int), (insP p qs).Perm (p :: qs)
  | [] => .refl _
  | q :: qs => by
    unfold insP
    split
    · exact .refl _
    · exact ((insP_perm p qs).cons q).trans (.swap _ _ _)
theorem sortP_perm : ∀ ps : List (Int × Int), (sortP ps).Perm ps
  | [] => .refl _
  | p :: ps => (insP_perm p _).trans ((sortP_perm ps).cons p)
theorem insP_sorted (p : Int × Int) : ∀ qs : List (Int × Int), qs.Pairwise (leP · · = true) → (insP p qs).Pairwise (leP · · = true)
  | [], _ => List.pairwise_cons.mpr ⟨by simp, .nil⟩
  | q :: qs, h => by
    unfold insP
    rw [List.pairwise_cons] at h
    split
    · rename_i hp
      refine List.pairwise_cons.mpr ⟨fun r hr => ?_, List.pairwise_cons.mpr h⟩
      rcases List.mem_cons.mp hr with rfl | hr
      · exact hp
      · exact leP_trans hp (h.1 r hr)
    · rename_i hp
      refine List.pairwise_cons.mpr ⟨fun r hr => ?_, insP_sorted p qs h.2⟩
      rcases List.mem_cons.mp ((insP_perm p qs).mem_iff.mp hr) with rfl | hr
      · exact leP_total (by simpa using hp)
      · exact h.1 r hr
theorem sortP_sorted : ∀ ps : List (Int × Int), (sortP ps).Pairwise (leP · · = true)
  | [] => .nil
  | p :: ps => insP_sorted p _ (sortP_sorted ps)
theorem pairsI_some : ∀ {xs : List D} {ps : List (Int × Int)}, pairsI xs = some ps → xs = ps.map fun p => D.tup [.int p.1, .int p.2]
  | [], ps, e => by simp [pairsI] at e; subst e; rfl
  | x :: xs, ps, e => by
    unfold pairsI at e
    split at e
    · cases ‹_ :: _ = []›
    · rename_i i j ys z
      cases z
      simp only [Option.map_eq_some_iff] at e
      obtain ⟨qs, e1, rfl⟩ := e
      rw [pairsI_some e1]
      rfl
    · cases e
section
variable {X : Cx} {J : Inf} {E : XK} {cx : Ctx} {n : Nat} {pos p p2 p3 : Pos} {a b c e : Expr} {fa fb fc : FE}
/-- the two numbers of a pair in the heap -/
def keyAt (H : Hp) : V → Int × Int
  | .ref t => match H t with
    | some (.tup [.int i, .int j]) => (i, j)
    | _ => (0, 0)
  | _ => (0, 0)
theorem pairK_rv {t : Tr} {L : Addr → Prop} {H : Hp} {i j : Int} {v : V} (x : RV J t L H (.tup [.int i, .int j]) v) : keyAt H v = (i, j) ∧ ∃ a, v = .ref a ∧ H a = some (.tup [.int i, .int j]) := by
  simp only [RV, RVs] at x
  obtain ⟨a, vs, rfl, h1, _, v1, r1, rfl, rfl, v2, r2, rfl, rfl, rfl⟩ := x
  exact ⟨by simp only [keyAt, h1], a, rfl, h1⟩
theorem pairs_rvs {t : Tr} {L : Addr → Prop} {H : Hp} : ∀ {ps : List (Int × Int)} {vs : List V}, RVs J t L H (ps.map fun p => D.tup [.int p.1, .int p.2]) vs → vs.map (keyAt H) = ps ∧ ∀ v ∈ vs, RV J t L H (.tup [.int (keyAt H v).1, .int (keyAt H v).2]) v
  | [], vs, x => by
    simp only [List.map_nil, RVs] at x
    subst x
    exact ⟨rfl, by simp⟩
  | p :: ps, vs, x => by
    simp only [List.map_cons, RVs] at x
    obtain ⟨v, r, rfl, x1, x2⟩ := x
    obtain ⟨i1, i2⟩ := pairs_rvs x2
    have k := (pairK_rv x1).1
    refine ⟨by rw [List.map_cons, i1, k], fun w hw => ?_⟩
    rcases List.mem_cons.mp hw with rfl | hw
    · rw [k]; exact x1
    · exact i2 w hw
theorem rvs_pairs {t : Tr} {L : Addr → Prop} {H : Hp} : ∀ {vs : List V}, (∀ v ∈ vs, RV J t L H (.tup [.int (keyAt H v).1, .int (keyAt H v).2]) v) → RVs J t L H ((vs.map (keyAt H)).map fun p => D.tup [.int p.1, .int p.2]) vs
  | [], _ => RVs.nil
  | v :: vs, h => RVs.cons (h v List.mem_cons_self) (rvs_pairs fun w hw => h w (List.mem_cons_of_mem _ hw))
theorem oc_sortedP (K : PySem.W.Frag) : OkC1 J pSortedP (rSortedPO K) := fun t h H d x Q R v pp => by
  unfold pSortedP at pp
  split at pp
  · rename_i ps q
    have q' : viewL h d = some (ps.map fun p => D.tup [.int p.1, .int p.2]) := by
      cases z : viewL h d with
      | none => rw [z] at q; cases q
      | some ys => rw [z] at q; exact congrArg some (pairsI_some q)
    obtain ⟨l, vs, rfl, hl, rs⟩ := view_l R v q'
    obtain ⟨k1, k2⟩ := pairs_rvs rs
    refine ⟨l, vs, keyAt H, rfl, SqL.of hl, fun x hx => ?_, fun ys p0 h1 h2 np => ?_⟩
    · obtain ⟨a, e1, e2⟩ := (pairK_rv (k2 x hx)).2
      exact ⟨a, e1, e2⟩
    · have pm : (ys.map (keyAt H)).Perm ps := by rw [← k1]; exact h2.perm.map _
      have so : (ys.map (keyAt H)).Pairwise (leP · · = true) := List.pairwise_map.mpr (h1.imp fun {u v} hz => by
        have hz' : ¬ SrtO.lexB (keyAt H v) (keyAt H u) = true := by rw [show SrtO.lexB (keyAt H v) (keyAt H u) = false from hz]; simp
        rw [SrtO.lexB_iff] at hz'
        rw [leP_iff]
        omega)
      have e : ys.map (keyAt H) = sortP ps := (pm.trans (sortP_perm ps).symm).eq_of_pairwise (fun _ _ _ _ h h' => leP_anti h h') so (sortP_sorted ps)
      have rv := rvs_pairs (J := J) (t := t) (L := live t h) (H := H) (vs := ys) fun v hv => k2 v (h2.perm.mem_iff.mp hv)
      rw [e] at rv
      refine pp t _ _ (Ext.laid R np) (R.laid np) ?_
      simp only [RV]
      exact ⟨p0, _, rfl, upd_same, R.fresh np, rv.mono (Ext.laid R np)⟩
  · exact pp.elim
theorem se_sortedP (BB : Blt X.mg) (ha : SE X J E cx a fa) (hg : Gl X "sorted" := by rfl) (hs : starEach [a] X.env = (false, eval a X.env) :: starEach [] X.env := by rfl) : SE X J E cx (.Call (.Name "sorted" p) [a] [] pos) (e1 pSortedP fa) :=
  se_b1 cr_sortedPO (oc_sortedP _) BB.sorted (by decide +kernel) ha hg (by decide) (by decide) hs
end
end M

set_option Elab.async false
set_option linter.all false
set_option maxRecDepth 100000
set_option maxHeartbeats 4000000
/-! A lambda handed on behind two other arguments. -/
namespace M
open PySem L2 PySem.Spec PyProof.Rows

section
variable {X : Cx}
/-- what the def that gets it makes of it -/
def Takes3 (X : Cx) (Ng : List Str) (x : Str) (sg : Scope) (g : Addr) (cdg : Value) (bg : List Stmt) (l : Str) (i : Nat) (q : Str) (TT : (XK → Hp → VK → Prop) → Addr → Addr → V → V → Hp → VK → Prop) (k : Nat) : Prop :=
  ∀ (f c' : Addr) (s : Shared) (H : Hp) (Q : VK) (tl : XK → Hp → VK → Prop) (u v : V),
    Room k (X.A.deeper (envOfC x sg s.heap.objs.size g cdg)) →
    (∀ (W : WX) (pn : List (Addr × Obj)) (xe : Value → Shared → Prop) (E : XK) (p1 p2 : Pos), L2.Takes ((cxOf (L2.CX X.prog X.w) X.prog X.w X.K X.mg X.base Ng x sg g cdg X.A X.stack s H E0).tr pn xe) W → (∀ cls d σ' H', E cls d H' → W cls d σ' H') →
      PE ((cxOf (L2.CX X.prog X.w) X.prog X.w X.K X.mg X.base Ng x sg g cdg X.A X.stack s H E0).tr pn xe) (.Call (.Name l p1) [] [] p2) (fun σZ HZ Q => σZ[i]? = some (some (.ref f)) ∧ HZ c' = some (LamX.CodeO c' q) ∧ tl E HZ Q)) →
    H c' = some (LamX.CodeO c' q) → TT tl f c' u v H Q →
    ∃ t, PSs (cxOf (L2.CX X.prog X.w) X.prog X.w X.K X.mg X.base Ng x sg g cdg X.A X.stack s H E0) bg t ∧ t { nx := fun _ H' => Q .non H', rt := Q } (L2.start Ng [u, v, .ref f]) H
def tLam3 (T : List (Addr × Str)) (q : Str) (TT : (XK → Hp → VK → Prop) → Addr → Addr → V → V → Hp → VK → Prop) (ta tb : TE) (t : XK → TE) : TE := fun σ H Q => ta σ H fun u H1 => tb σ H1 fun v H2 => LamX.Tabs T H2 ∧
  ∀ H3 f c', LamX.ExtN H2 H3 → LamX.Tabs T H3 → H3 c' = some (LamX.CodeO c' q) → TT (fun E H' Q' => t E σ H' Q') f c' u v H3 Q
theorem pe_lam3 {T : List (Addr × Str)} {TT : (XK → Hp → VK → Prop) → Addr → Addr → V → V → Hp → VK → Prop} {x a1 a2 l : Str} {g c Pp : Addr} {k : Nat} {pg : Arguments} {bg : List Stmt} {sg : Scope} {dV kV doc pm cdv ct oc : Value} {an od : Option Addr} {osl : Array (Option Value)} {Ng : List Str}
    {params : Arguments} {ea eb body : Expr} {scope : Scope} {ta tb : TE} {t : XK → TE} {p lpos pos : Pos} (hg : Gl X x) (hm : X.mg x = some (.ref g)) (hk : PySem.W.keepIn X.K (.ref g) = true)
    (lk : X.K.lookup g = some ⟨oc, od, .func (PySem.W.fnOf x x pg bg sg dV kV doc pm an cdv ct), osl⟩) (hcg : PySem.W.codeIn X.K cdv x = true) (hb : L2.Binds X.K (PySem.W.fnOf x x pg bg sg dV kV doc pm an cdv ct) [a1, a2, l] []) (Sg : FnScope Ng [a1, a2, l] sg) (hNg : Ng[2]? = some l) (hva : Vis sg l)
    (hG : Takes3 X Ng x sg g cdv bg l 2 (X.env.qual ++ "<lambda>") TT (k + 1))
    (TB : LamX.TabB X.base X.mg c Pp) (hcode : X.env.code = .ref c) (hmT : (Pp, X.env.qual ++ "<lambda>") ∈ T) (hu : ∀ p ∈ T, p.1 = Pp → p.2 = X.env.qual ++ "<lambda>") (hr : Room (k + 2) X.A) (L : LamX.LamS X.env.scope scope) (hdef : defaultsOf params X.env = ([], []))
    (hbind : ∀ (q : Str) (cl : List (Str × Addr)) (pm cv ctv : Value), bindArgs (PySem.W.kla_fn "<lambda>" q params body scope cl pm cv ctv) ⟨[], []⟩ = pure [])
    (ha : PE X ea ta) (hb2 : PE X eb tb)
    (hbody : ∀ (A : Around) (outer : List PySem.Env) (s : Shared) (H : Hp) (E : XK) (f c' : Addr), Room k (A.deeper (LamX.lamEnv X scope s.heap.objs.size f c')) → PE (LamX.lamCx X A outer s H E scope f c') body (t E))
    (hst : starEach [ea, eb, .Lambda params body scope lpos] X.env = (false, eval ea X.env) :: (false, eval eb X.env) :: (false, eval (.Lambda params body scope lpos) X.env) :: starEach [] X.env)
    (hst1 : starEach [eb, .Lambda params body scope lpos] X.env = (false, eval eb X.env) :: (false, eval (.Lambda params body scope lpos) X.env) :: starEach [] X.env)
    (hdb : (x == ("__debug__" : Str)) = false := by decide) (hd : (l == ("__debug__" : Str)) = false := by decide) (hcd : (l == ("__classdict__" : Str)) = false := by decide) :
    PE X (.Call (.Name x p) [ea, eb, .Lambda params body scope lpos] [] pos) (tLam3 T (X.env.qual ++ "<lambda>") TT ta tb t) := by
  refine ⟨fun pins s σ H Q I h => ?_⟩
  refine wpAny_Call_Name_kw (ld_glob I hg hm ?_ hdb)
  refine PySem.W.callWith_K (h₀ := X.base) I.ok.mod.kin hk ?_ (by rw [hst, hst1]) (by rw [hst1]; rfl)
  rw [hst]
  show wpAny _ _ (spliced ((false, eval ea X.env) :: (false, eval eb X.env) :: (false, eval (.Lambda params body scope lpos) X.env) :: backTo pos (starEach [] X.env))) _ _ s
  refine Calls.spliced_cons (thn (ha.run pins s σ H _ I h) fun u1 s1 ⟨u, H1, I1, ru, q1⟩ => ?_)
  refine Calls.spliced_cons (thn (hb2.run pins s1 σ H1 _ I1 q1) fun v1 s2 ⟨v, H2, I2, rv, q2⟩ => ?_)
  obtain ⟨hT, q3⟩ := q2
  refine Calls.spliced_cons (LamX.lam_make2 I2 TB hcode hmT hu hT hdef (L.has I2.ok) fun f c' pm' ctv H3 s3 I3 eN T3 hf hfn hfr hco => ?_)
  refine Calls.spliced_nil ⟨I3.kIn, ?_⟩
  have rc : codeAny (model X.prog X.w) X.A (.call (.ref g) ⟨[u1, v1, .ref f], []⟩) (CR (L2.CX X.prog X.w) X.stack X.prog X.w H3 s3 Q E0) s3 := by
    refine LamX.run_ofS (N := Ng) (ps := [a1, a2, l]) (us := [u1, v1, .ref f]) (vs := [u, v, .ref f]) lk hcg Sg hr I3.env0 (hb s3 [u1, v1, .ref f] I3.kIn rfl) (.cons ru (.cons rv (.cons rfl .nil))) rfl fun hr' => ?_
    exact hG f c' s3 H3 Q (fun E H' Q' => t E σ H' Q') u v hr' (fun W pn xe E p1 p2 tk hW => LamX.pe_act (i := 2) I3 L hf hfn hfr (hbind _ _ _ _ _) tk hW hr' (fun A outer s H hr2 => hbody A outer s H E f c' hr2) hNg hva hd hcd) hco (q3 H3 f c' eN T3 hco)
  refine wpAny_call (codeAny_mono rc fun r s4 hq => ?_)
  cases r with
  | error e =>
    obtain ⟨_, _, _, _, _, _, _, _, _, _, _, _, z⟩ := hq
    exact z.elim
  | ok fl =>
    cases fl with
    | ret u => exact I3.after hq
    | next => exact False.elim hq
    | brk => exact False.elim hq
    | cont => exact False.elim hq
end
end M

set_option Elab.async false
set_option linter.all false
set_option maxRecDepth 100000
set_option maxHeartbeats 4000000
/-! f(a, b, lambda: e) by the machine. -/
namespace M
open PySem L2 PySem.Spec PyProof.Rows

section
variable {J J2 : Inf} {t : Tr} {L : Addr → Prop} {H : Hp}
mutual
theorem rv_J : ∀ {d : D} {v : V}, noFn d = true → RV J t L H d v → RV J2 t L H d v
  | .non, _, _, x => by simpa only [RV] using x
  | .bl _, _, _, x => by simpa only [RV] using x
  | .int _, _, _, x => by simpa only [RV] using x
  | .str _, _, _, x => by simpa only [RV] using x
  | .tup xs, _, n, x => by
    simp only [noFn] at n
    simp only [RV] at x ⊢
    obtain ⟨a, vs, e, q, nl, r⟩ := x
    exact ⟨a, vs, e, q, nl, rvs_J n r⟩
  | .lst xs, _, n, x => by
    simp only [noFn] at n
    simp only [RV] at x ⊢
    obtain ⟨a, vs, e, q, nl, r⟩ := x
    exact ⟨a, vs, e, q, nl, rvs_J n r⟩
  | .dct ks ws, _, n, x => by
    simp only [noFn] at n
    simp only [RV] at x ⊢
    obtain ⟨a, vs, e, q, nl, r⟩ := x
    exact ⟨a, vs, e, q, nl, rvs_J n r⟩
  | .edict, _, _, x => by simpa only [RV] using x
  | .cell c, _, _, x => by simpa only [RV] using x
  | .fn _, _, n, _ => by simp [noFn] at n
  | .ktp _, _, _, x => by simpa only [RV] using x
theorem rvs_J : ∀ {ds : List D} {vs : List V}, noFns ds = true → RVs J t L H ds vs → RVs J2 t L H ds vs
  | [], _, _, x => by simpa only [RVs] using x
  | d :: ds, _, n, x => by
    simp only [noFns, Bool.and_eq_true] at n
    simp only [RVs] at x ⊢
    obtain ⟨v, r, e, p, q⟩ := x
    exact ⟨v, r, e, rv_J n.1 p, rvs_J n.2 q⟩
end
theorem noFnF_map : ∀ {fs : List (Nat × D)}, noFnF fs = true → noFns (fs.map (·.2)) = true
  | [], _ => rfl
  | f :: fs, h => by
    simp only [noFnF, Bool.and_eq_true] at h
    simp only [List.map_cons, noFns, h.1, noFnF_map h.2, Bool.and_self]
theorem noFnH_at : ∀ {h : Hh} {c : Nat} {x : Cell}, noFnH h = true → h[c]? = some x → noFnC x = true
  | [], _, _, _, e => by simp at e
  | y :: h, 0, x, n, e => by
    simp only [noFnH, Bool.and_eq_true] at n
    simp at e
    rw [← e]
    exact n.1
  | y :: h, c + 1, x, n, e => by
    simp only [noFnH, Bool.and_eq_true] at n
    exact noFnH_at n.2 (by simpa using e)
/-- the two tell the same of all but defs as values -/
structure Sib (J J2 : Inf) : Prop where
  cls : J2.cls = J.cls
  fld : J2.fld = J.fld
  tabs : J2.tabs = J.tabs
theorem Sib.symm (s : Sib J J2) : Sib J2 J := ⟨s.cls.symm, s.fld.symm, s.tabs.symm⟩
theorem RepH.sib {h : Hh} (s : Sib J J2) (R : RepH J t h H) (n : noFnH h = true) (i : J2.inv t h H) : RepH J2 t h H where
  len := R.len
  nd := R.nd
  cells := fun c x a e1 e2 => by
    have z := R.cells c x a e1 e2
    have nx := noFnH_at n e1
    cases x with
    | lst xs => exact z.elim fun vs y => ⟨vs, y.1, rvs_J nx y.2⟩
    | dct ks ws => exact z.elim fun vs y => ⟨vs, y.1, rvs_J nx y.2⟩
    | ins C fs =>
      obtain ⟨dx, gs, y1, y2, y3⟩ := z
      refine ⟨dx, gs, by rw [s.cls]; exact y1, by rw [s.fld]; exact y2, rvs_J (noFnF_map nx) y3⟩
    | dead => exact z
  apart := R.apart
  there := R.there
  tabs := by rw [s.tabs]; exact R.tabs
  inv := i
end

theorem notlive_ext {J : Inf} {t : Tr} {h : Hh} {H : Hp} {a c : Addr} {q : Str} (R : RepH J t h H) (e : H a = some (LamX.CodeO c q)) : ¬ live t h a := by
  rintro (⟨c, x, q1, q2, q3⟩ | z)
  · have z := R.cells c x a q2 q1
    cases x with
    | lst xs => obtain ⟨vs, z, _⟩ := z; rw [z] at e; cases e
    | dct ks ws =>
      obtain ⟨vs, ⟨o, xs, z, ⟨_, _, ⟨es, ep, d1, _⟩, _⟩, _⟩, _⟩ := z
      rw [z] at e
      exact exO_ne d1 (Option.some.inj e)
    | ins C fs => obtain ⟨dx, gs, z, _⟩ := z; rw [z] at e; cases e
    | dead => exact q3 rfl
  · obtain ⟨vs, z⟩ := R.there a z
    rw [z] at e
    cases e
/-- a result without defs as values, told of another J -/
theorem post_sib {J J2 : Inf} {E E2 : XK} {t : Tr} {h : Hh} {H : Hp} {m : R D} {Q : VK} (s : Sib J J2) (hi : ∀ t' h' H', Ext t h H t' h' H' → J2.inv t' h' H' → J.inv t' h' H') (pp : PostE J E t h H (noFnR m) Q) : PostE J2 E2 t h H (noFnR m) Q := by
  cases m with
  | ok d h' =>
    unfold noFnR at pp ⊢
    dsimp only at pp ⊢
    split at pp
    · rename_i hn
      rw [if_pos hn]
      simp only [Bool.and_eq_true] at hn
      intro t' H' v e R' w
      exact pp t' H' v e (R'.sib s.symm hn.2 (hi _ _ _ e R'.inv)) (rv_J hn.1 w)
    · exact pp.elim
  | exc c h' => exact pp.elim
  | bad => exact pp.elim
theorem post_calm {J : Inf} {E : XK} {t : Tr} {h : Hh} {H : Hp} {m : R D} {Q : VK} (pp : PostE J E t h H (noFnR m) Q) : PostE J E t h H m Q := by
  cases m with
  | ok d h' =>
    unfold noFnR at pp
    dsimp only at pp
    split at pp
    · exact pp
    · exact pp.elim
  | exc c h' => exact pp.elim
  | bad => exact pp.elim
/-- J with the lambda's def as a value, and the maker's names kept -/
def Inf.lam (J : Inf) (f c' : Addr) (q : Str) (r : Env) (σ : L2.St) : Inf where
  cls := J.cls
  exc := J.exc
  fld := J.fld
  fnv := fun _ => f
  tabs := J.tabs
  inj := J.inj
  inv := fun t h H => J.inv t h H ∧ Slots J t (live t h) H r σ ∧ H c' = some (LamX.CodeO c' q) ∧ ¬ live t h c'
  imono := fun {t h H t1 h1 H1} e ⟨i1, i2, i3, i4⟩ => ⟨J.imono e i1, i2.mono0 e, e.keep c' _ i4 i3 ⟨fun _ => nofun, trivial⟩, e.notlive i4 (by rw [i3]; exact trivial)⟩
theorem Inf.lam_sib (J : Inf) (f c' : Addr) (q : Str) (r : Env) (σ : L2.St) : Sib J (J.lam f c' q r σ) := ⟨rfl, rfl, rfl⟩

section
variable {X : Cx} {J : Inf} {E : XK} {cx : Ctx} {n : Nat} {pos p p1 p2 : Pos}
/-- what the def makes of the lambda, by the machine -/
def TT3 (FB : (Hh → R D) → Fn) (cx : Ctx) (q : Str) : (XK → Hp → VK → Prop) → Addr → Addr → V → V → Hp → VK → Prop := fun tl f c' u v H Q =>
  ∃ (gl : Hh → R D) (J2 : Inf) (t : Tr) (h : Hh) (du dv : D), J2.fnv 0 = f ∧ RepH J2 t h H ∧ RV J2 t (live t h) H du u ∧ RV J2 t (live t h) H dv v ∧ (∀ t h H, J2.inv t h H → H c' = some (LamX.CodeO c' q)) ∧
    (∀ t h H Q, RepH J2 t h H → PostE J2 E0 t h H (askL gl (.fn 0) h) Q → tl E0 H Q) ∧ PostE J2 E0 t h H (runFn (FB gl) cx [du, dv, .fn 0] h) Q
theorem se_askL {l : Str} {Z : Cx} {J2 : Inf} {f c' : Addr} {q : Str} {tl : XK → Hp → VK → Prop} {gl : Hh → R D} (act : PE Z (.Call (.Name l p1) [] [] p2) (fun σZ HZ Q => σZ[2]? = some (some (.ref f)) ∧ HZ c' = some (LamX.CodeO c' q) ∧ tl E0 HZ Q))
    (hf : J2.fnv 0 = f) (hi : ∀ t h H, J2.inv t h H → H c' = some (LamX.CodeO c' q)) (hl : ∀ t h H Q, RepH J2 t h H → PostE J2 E0 t h H (askL gl (.fn 0) h) Q → tl E0 H Q) :
    SE Z J2 E0 cx (.Call (.Name l p1) [] [] p2) (eAskL gl (eVar 2)) := by
  refine PE.weak act fun s H Q ⟨t, r, h, R, S, pp⟩ => ?_
  unfold eAskL eVar at pp
  split at pp
  · rename_i d e
    simp only [M.R.bind_ok] at pp
    obtain ⟨v, sv, rv⟩ := S.2 2 d e
    cases d with
    | fn k =>
      cases k with
      | zero =>
        simp only [RV, hf] at rv
        subst rv
        exact ⟨sv, hi t h H R.inv, hl t h H Q R pp⟩
      | succ k => exact pp.elim
    | _ => exact pp.elim
  · exact pp.elim
theorem takes3 {st : Stmt} {gA : Addr} {cdg : Value} {Ng : List Str} {x l : Str} {q : Str} {FB : (Hh → R D) → Fn} {k : Nat} (Sg : Ng.Nodup) (hp : ∀ gl, (FB gl).pars = 3) (hs : ∀ gl, (FB gl).slots = Ng.length) (h3 : 3 ≤ Ng.length)
    (hb : ∀ (gl : Hh → R D) (Z : Cx) (J2 : Inf), Z.mg = X.mg → Z.K = X.K → (∃ A outer s H, Z = cxOf (L2.CX X.prog X.w) X.prog X.w X.K X.mg X.base Ng x (defScope st) gA cdg A outer s H E0) → Good Z J2 E0 k → (∀ p1 p2, SE Z J2 E0 cx (.Call (.Name l p1) [] [] p2) (eAskL gl (eVar 2))) → SSs Z J2 E0 cx (defBody st) (FB gl).body) :
    Takes3 X Ng x (defScope st) gA cdg (defBody st) l 2 q (TT3 FB cx q) k := by
  intro f c' s H Q tl u v hr act hco ⟨gl, J2, t, h, du, dv, ef, R, ru, rv, hi, hl, pp⟩
  have ask : ∀ p1 p2, SE (cxOf (L2.CX X.prog X.w) X.prog X.w X.K X.mg X.base Ng x (defScope st) gA cdg X.A X.stack s H E0) J2 E0 cx (.Call (.Name l p1) [] [] p2) (eAskL gl (eVar 2)) := fun p1 p2 =>
    se_askL (act (fun _ _ _ _ => False) _ _ E0 p1 p2 LamX.takes0 fun _ _ _ _ z => z) ef hi hl
  refine ⟨_, hb gl _ J2 rfl rfl ⟨X.A, X.stack, s, H, rfl⟩ ⟨hr, rfl, Sg, takes_of rfl rfl rfl rfl, passes_of rfl⟩ ask, ?_⟩
  unfold runFn at pp
  rw [if_pos (by rw [hp]; rfl)] at pp
  refine ⟨t, [some du, some dv, some (.fn 0)] ++ List.replicate ((FB gl).slots - (FB gl).pars) none, h, R, ⟨?_, fun i d e => ?_⟩, ?_⟩
  · unfold L2.start
    simp [hp, hs]
  · have rf : RV J2 t (live t h) H (.fn 0) (.ref f) := by simp only [RV, ef]
    match i, e with
    | 0, e => cases e; exact ⟨u, rfl, ru⟩
    | 1, e => cases e; exact ⟨v, rfl, rv⟩
    | 2, e => cases e; exact ⟨.ref f, rfl, rf⟩
    | i + 3, e =>
      have e' : (List.replicate ((FB gl).slots - (FB gl).pars) (none : Option D))[i]? = some (some d) := e
      rw [List.getElem?_replicate] at e'
      split at e' <;> cases e'
  · have pp' : PostE J2 E0 t h H (match (FB gl).body cx ([some du, some dv, some (.fn 0)] ++ List.replicate ((FB gl).slots - (FB gl).pars) none) h with
      | .nx _ h' => finish (FB gl).pure h .non h'
      | .rt d h' => finish (FB gl).pure h d h'
      | .exc c h' => if (FB gl).pure then (if sameH (h'.take h.length) h then .exc c h else .bad) else .exc c h'
      | _ => .bad) Q := pp
    cases qb : (FB gl).body cx ([some du, some dv, some (.fn 0)] ++ List.replicate ((FB gl).slots - (FB gl).pars) none) h with
    | nx r' h' => rw [qb] at pp'; exact fun t' H' s' e R' S' => finish_ok R pp' H' t' .non e R' rv_non
    | rt d h' => rw [qb] at pp'; exact fun t' H' v e R' w => finish_ok R pp' H' t' v e R' w
    | bk r' h' => rw [qb] at pp'; exact pp'.elim
    | bad => rw [qb] at pp'; exact pp'.elim
    | exc c h' =>
      rw [qb] at pp'
      dsimp only at pp'
      split at pp'
      · split at pp'
        · rename_i sm
          intro t' H' e R'
          obtain ⟨R2, e2⟩ := R.cut e R' sm
          exact pp' _ _ e2 R2
        · exact pp'.elim
      · exact pp'
/-- f(a, b, lambda: e) -/
theorem se_lam3 {st : Stmt} {x a1 a2 l : Str} {gA : Addr} {Ng : List Str} {params : Arguments} {ea eb body : Expr} {scope : Scope} {lpos : Pos} {fa fb fe : FE} (FB : (Hh → R D) → Fn) (g : Good X J E (n + 2)) (LT : LamT X J) (hm : X.mg x = some (.ref gA))
    (U : ∃ fd, Fun X.K x x st gA fd ∧ Binds X.K fd [a1, a2, l] []) (Sg : FnScope Ng [a1, a2, l] (defScope st)) (hNg : Ng[2]? = some l) (hva : Vis (defScope st) l) (hp : ∀ gl, (FB gl).pars = 3) (hs : ∀ gl, (FB gl).slots = Ng.length) (h3 : 3 ≤ Ng.length)
    (hb : ∀ (cdg : Value) (gl : Hh → R D) (Z : Cx) (J2 : Inf), Z.mg = X.mg → Z.K = X.K → (∃ A outer s H, Z = cxOf (L2.CX X.prog X.w) X.prog X.w X.K X.mg X.base Ng x (defScope st) gA cdg A outer s H E0) → Good Z J2 E0 (n + 1) → (∀ p1 p2, SE Z J2 E0 cx.down (.Call (.Name l p1) [] [] p2) (eAskL gl (eVar 2))) → SSs Z J2 E0 cx.down (defBody st) (FB gl).body)
    (L : LamX.LamS X.env.scope scope) (ha : SE X J E cx ea fa) (hb2 : SE X J E cx eb fb)
    (hbody : ∀ (A : Around) (outer : List PySem.Env) (s : Shared) (H : Hp) (E' : XK) (f c' : Addr), Good (LamX.lamCx X A outer s H E' scope f c') J E' n → SE (LamX.lamCx X A outer s H E' scope f c') J E' cx.down.down body fe)
    (hg : Gl X x := by rfl) (hdef : defaultsOf params X.env = ([], []) := by rfl)
    (hst : starEach [ea, eb, .Lambda params body scope lpos] X.env = (false, eval ea X.env) :: (false, eval eb X.env) :: (false, eval (.Lambda params body scope lpos) X.env) :: starEach [] X.env := by rfl)
    (hst1 : starEach [eb, .Lambda params body scope lpos] X.env = (false, eval eb X.env) :: (false, eval (.Lambda params body scope lpos) X.env) :: starEach [] X.env := by rfl)
    (hbind : ∀ (q : Str) (cl : List (Str × Addr)) (pm cv ctv : Value), bindArgs (PySem.W.kla_fn "<lambda>" q params body scope cl pm cv ctv) ⟨[], []⟩ = pure [] := by intros; rfl)
    (hdb : (x == ("__debug__" : Str)) = false := by decide) (hd : (l == ("__debug__" : Str)) = false := by decide) (hcd : (l == ("__classdict__" : Str)) = false := by decide) :
    SE X J E cx (.Call (.Name x p) [ea, eb, .Lambda params body scope lpos] [] pos) (eLam2 FB fa fb fe) := by
  obtain ⟨c, Pp, TB, hcode, hmT, hu⟩ := LT.tab
  obtain ⟨fd, ⟨⟨oc, od, kV, doc, pm, an, cdv, ct, osl, rfl, lk, hcd2⟩, kp⟩, hbd⟩ := U
  refine PE.weak (pe_lam3 (T := J.tabs) (TT := TT3 FB cx.down (X.env.qual ++ "<lambda>")) (t := fun E' => tE J E' cx.down.down fe) (k := n) hg hm kp lk hcd2 hbd Sg hNg hva (takes3 Sg.nd hp hs h3 (hb cdv)) TB hcode hmT hu g.room L hdef hbind ha hb2
    (fun A outer s H E' f c' hr => hbody A outer s H E' f c' ⟨hr, rfl, g.nd, takes_of rfl rfl rfl rfl, passes_of rfl⟩) hst hst1 hdb hd hcd) fun s H Q ⟨t, r, h, R, S, pp⟩ => ?_
  refine ⟨t, r, h, R, S, Post.imp (Post.bind (rel := RV J) pp) fun u H1 ⟨t1, h1, du, e1, R1, v1, q1⟩ => ?_⟩
  refine ⟨t1, r, h1, R1, S.mono e1, Post.imp (Post.bind (rel := RV J) q1) fun v H2 ⟨t2, h2, dv, e2, R2, v2, q2⟩ => ?_⟩
  refine ⟨R2.tabs, fun H3 f c' eN T3 hco => ?_⟩
  dsimp only at q2
  split at q2
  · rename_i hn
    simp only [Bool.and_eq_true] at hn
    obtain ⟨⟨n1, n2⟩, n3⟩ := hn
    have e3 := Ext.lam R2 eN
    have R3 := R2.lam eN T3
    have S3 := ((S.mono e1).mono e2).mono e3
    have nl : ¬ live t2 h2 c' := notlive_ext R3 hco
    have sib := J.lam_sib f c' (X.env.qual ++ "<lambda>") r s
    have RJ : RepH (J.lam f c' (X.env.qual ++ "<lambda>") r s) t2 h2 H3 := R3.sib sib n3 ⟨R3.inv, S3, hco, nl⟩
    refine ⟨fun h3 => fe cx.down.down r h3, J.lam f c' (X.env.qual ++ "<lambda>") r s, t2, h2, du, dv, rfl, RJ, rv_J n1 ((v1.mono e2).mono e3), rv_J n2 (v2.mono e3), fun _ _ _ i => i.2.2.1, fun t4 h4 H4 Q4 R4 p4 => ?_, ?_⟩
    · have p4 : PostE (J.lam f c' (X.env.qual ++ "<lambda>") r s) E0 t4 h4 H4 (if noFnH h4 then noFnR (fe cx.down.down r h4) else .bad) Q4 := p4
      split at p4
      · rename_i n4
        refine ⟨t4, r, h4, R4.sib sib.symm n4 R4.inv.1, R4.inv.2.1, post_calm (post_sib (E := E0) sib.symm (fun t' h' H' e i => ?_) p4)⟩
        exact (J.lam f c' (X.env.qual ++ "<lambda>") r s).imono e.toExt0 R4.inv
      · exact p4.elim
    · exact post_calm (post_sib sib (fun _ _ _ _ i => i.1) (Post.ext q2 e3))
  · exact q2.elim
end
end M

set_option Elab.async false
set_option linter.all false
set_option maxRecDepth 100000
set_option maxHeartbeats 4000000
/-! x.index(y) of a tuple of numbers; x.count(True). -/
namespace M
open PySem L2

section
variable {X : Cx} {J : Inf} {E : XK} {cx : Ctx} {n : Nat} {pos p apos cpos : Pos} {a o : Expr} {fa fo : FE}
/-- x.index(k), x a key -/
def rIdxT : V → List V → Hp → VK → Prop := fun x xs H Q => ∃ (q : Addr) (o : Obj) (ns : List Int) (k : Int), x = .ref q ∧ xs = [.int k] ∧ H q = some (ExO q o) ∧ TupIs o ns ∧ k ∈ ns ∧ Q (.int (ns.idxOf k : Nat)) H
theorem mt_idxT : MtR X "tuple.index" rIdxT := by
  intro pins s σ H x xs v us Q I rx rxs h
  obtain ⟨q, o, ns, k, rfl, rfl, hs, hi, hk, qq⟩ := h
  cases rx
  obtain ⟨u, rfl, ru⟩ := rxs.one
  obtain ⟨t, rfl⟩ := ru
  obtain ⟨its, rv, _, it, _⟩ := key_tup I hs hi
  exact PySem.SeqAt.call_tuple_index it (PySem.SeqAt.ItemsEq.ints rv) hk ⟨.int (ns.idxOf k : Nat), H, I.tok _, ⟨_, rfl⟩, qq⟩
theorem findV_idx (k : Int) : ∀ (ns : List Int) (j : Nat), findV (.int k) (ns.map D.int) = some j → k ∈ ns ∧ ns.idxOf k = j
  | [], j, e => by simp [findV] at e
  | m :: ns, j, e => by
    have ev : eqv (.int m) (.int k) = (m == k) := by simp only [eqv]
    unfold findV at e
    simp only [List.map_cons] at e
    by_cases hm : m = k
    · subst hm
      simp [ev] at e
      subst e
      simp
    · have hm' : (m == k) = false := by simpa using hm
      simp only [ev, hm', Bool.false_eq_true, if_false, Option.map_eq_some_iff] at e
      obtain ⟨i, e1, rfl⟩ := e
      obtain ⟨g1, g2⟩ := findV_idx k ns i e1
      exact ⟨List.mem_cons_of_mem _ g1, by rw [List.idxOf_cons, hm']; simp [g2]⟩
/-- o.m(e), o a key -/
theorem pe_bmK {name : Str} {id : String} {rr : V → List V → Hp → VK → Prop} {to : TE} {ta : TA} (slot : Slot "tuple" name id) (hty : typeOf (.builtin id) = pure (.type "method_descriptor")) (hm : MtR X id rr) (ho : PE X o to) (ha : PA X [a] ta) (hbase : attributeBase o name X.env (eval o X.env) = eval o X.env)
    (few : ((backTo cpos (starEach [a] X.env)).all (fun x => !x.1) && (backToKw cpos (keywordEach [] X.env)).all (fun x => x.1.isSome) && decide (([a] : List Expr).length + ([] : List Keyword).length + (if ([] : List Keyword).isEmpty then 0 else 1) < 30)) = true)
    (hline : (apos.endLine == cpos.line) = true) (hs : starEach [a] X.env = (false, eval a X.env) :: starEach [] X.env) :
    PE X (.Call (.Attribute o name apos) [a] [] cpos) (fun σ H Q => to σ H fun x H1 => (∃ q ob is, x = .ref q ∧ H1 q = some (ExO q ob) ∧ TupIs ob is) ∧ ta σ H1 fun xs H2 => rr x xs H2 Q) := by
  refine ⟨fun pins s σ H Q I h => ?_⟩
  refine wpAny_Call_method_late hbase few hline rfl (thn (ho.run pins s σ H _ I h) fun v s1 ⟨x, H1, I1, r1, ⟨q, ob, is, ex, hq, hi⟩, q1⟩ => ?_)
  subst ex
  obtain rfl : v = Value.ref q := r1
  have g : s1.heap.get? q = some ob := (I1.hok q _ hq).1
  refine ⟨"tuple", id, PySem.F.plainAttrs_tuple, slot, hty, ⟨ob, g, hi.1⟩, fun b e => by cases e; exact ⟨ob, g, hi.2.1⟩, ?_⟩
  have hA := ha.run cpos pins s1 σ H1 _ I1 q1
  rw [hs] at hA ⊢
  refine Calls.callWith_builtin rfl (Calls.evalArgs_plain ?_)
  exact thn hA fun us s2 ⟨vs, H2, I2, r2, q2⟩ => hm pins s2 σ H2 (.ref q) vs (.ref q) us Q I2 rfl r2 q2
theorem se_indexA {n : Nat} (hr : Room n X.A) (ho : SE X J E cx o fo) (ha : SE X J E cx a fa) (hbase : attributeBase o "index" X.env (eval o X.env) = eval o X.env := by rfl) (hline : (apos.endLine == cpos.line) = true := by rfl)
    (hs : starEach [a] X.env = (false, eval a X.env) :: starEach [] X.env := by rfl) : SE X J E cx (.Call (.Attribute o "index" apos) [a] [] cpos) (eIndexA fo fa) := by
  have few : ((backTo cpos (starEach (a :: []) X.env)).all (fun x => !x.1) && (backToKw cpos (keywordEach [] X.env)).all (fun x => x.1.isSome) && decide ((a :: []).length + ([] : List Keyword).length + (if ([] : List Keyword).isEmpty then 0 else 1) < 30)) = true := by rw [hs]; rfl
  have rl := pe_bm (apos := apos) PySem.F.plainAttrs_list PySem.F.slot_list_index PySem.F.type_list_index (mt_indexD (X := X) (by have := hr.un; omega)) ho (pa_cons ha pa_nil hs) hbase few hline hs rfl
  have rt := pe_bmK (apos := apos) PySem.F.slot_tuple_index PySem.F.type_tuple_index (mt_idxT (X := X)) ho (pa_cons ha pa_nil hs) hbase few hline hs
  refine ⟨fun pins s σ H Q I ⟨t, r, h, R, S, pp⟩ => ?_⟩
  unfold eIndexA at pp
  cases q : fo cx r h with
  | bad => rw [q] at pp; exact pp.elim
  | exc c h1 =>
    refine rl.run pins s σ H Q I ⟨t, r, h, R, S, ?_⟩
    rw [q] at pp ⊢
    exact pp
  | ok d h1 =>
    rw [q] at pp
    simp only [M.R.bind_ok] at pp
    split at pp
    · rename_i hd
      by_cases ht : isKtp d = true
      · refine rt.run pins s σ H Q I ⟨t, r, h, R, S, ?_⟩
        rw [q]
        intro t1 H1 x e1 R1 v1
        cases d with
        | ktp is =>
          have v1' := v1
          simp only [RV] at v1
          obtain ⟨b, rfl, ob, k1, k2, k3⟩ := v1
          refine ⟨⟨b, ob, is, rfl, k1, k3⟩, t1, r, h1, R1, S.mono e1, Post.imp (Post.bind (rel := RV J) (Post.ext pp e1)) fun y H2 ⟨t2, h2, dy, e2, R2, v2, p2⟩ => ?_⟩
          have v3 := v1'.mono e2
          simp only [RV] at v3
          obtain ⟨b', eb, ob', k1', k2', k3'⟩ := v3
          cases eb
          have p2 : PostE J E t2 h2 H2 (up (pIndexT (.ktp is) dy h2)) Q := p2
          cases dy with
          | int i =>
            have p2 : PostE J E t2 h2 H2 (up (match findV (.int i) (is.map D.int) with | some k => some (.int k, h2) | none => none)) Q := p2
            split at p2
            · rename_i j hj
              obtain ⟨g1, g2⟩ := findV_idx _ _ _ hj
              simp only [RV] at v2
              subst v2
              refine ⟨b, ob', is, i, rfl, rfl, k1', k3', g1, p2 t2 H2 _ Ext.refl R2 ?_⟩
              rw [g2]
              simp only [RV]
            · exact p2.elim
          | _ => exact p2.elim
        | _ => simp [isKtp] at ht
      · have hv : (viewL h1 d).isSome = true := by
          simp only [Bool.or_eq_true] at hd
          exact hd.resolve_left ht
        refine rl.run pins s σ H Q I ⟨t, r, h, R, S, ?_⟩
        rw [q]
        intro t1 H1 x e1 R1 v1
        refine ⟨ty_list R1 v1 hv, t1, r, h1, R1, S.mono e1, Post.imp (Post.bind (rel := RV J) (Post.ext pp e1)) fun y H2 ⟨t2, h2, dy, e2, R2, v2, p2⟩ => ?_⟩
        have p2 : PostE J E t2 h2 H2 (idxA d dy h2) Q := p2
        unfold idxA at p2
        rw [if_neg ht] at p2
        exact om_index X.K t2 h2 H2 d dy x y Q R2 (v1.mono e2) v2 (Post.noexc p2)
    · exact pp.elim
end
end M

set_option Elab.async false
set_option linter.all false
set_option maxRecDepth 100000
set_option maxHeartbeats 4000000
/-! _law_told(lambda: e). -/
namespace M
open PySem L2
section
variable {X : Cx} {J : Inf} {E : XK} {cx : Ctx} {n : Nat} {pos p : Pos}
/-- what _law_told makes of what it asks -/
def TTt (J : Inf) : (XK → Hp → VK → Prop) → Hp → VK → Prop := fun tl H Q =>
  tl (fun cls d H' => ∃ c t h, 1 ≤ c ∧ c ≤ 5 ∧ cls = .ref (J.exc c) ∧ d = none ∧ RepH J t h H' ∧ PostE J E0 t h H' (.ok (toldD c) h) Q) H Q
theorem se_told {st : Stmt} {gA : Addr} {Ng : List Str} {params : Arguments} {body : Expr} {scope : Scope} {lpos : Pos} {fe : FE} (g : Good X J E (n + 2)) (LT : LamT X J) (hm : X.mg "_law_told" = some (.ref gA))
    (U : ∃ fd, Fun X.K "_law_told" "_law_told" st gA fd ∧ Binds X.K fd ["_law_ask"] []) (Sg : FnScope Ng ["_law_ask"] (defScope st)) (hNg : Ng[0]? = some ("_law_ask" : Str)) (hva : Vis (defScope st) "_law_ask")
    (hG : ∀ cdg, LamX.GivesTo X Ng "_law_told" (defScope st) gA cdg (defBody st) "_law_ask" (X.env.qual ++ "<lambda>") (TTt J)) (L : LamX.LamS X.env.scope scope)
    (hbody : ∀ (A : Around) (outer : List PySem.Env) (s : Shared) (H : Hp) (E' : XK) (f c' : Addr), Good (LamX.lamCx X A outer s H E' scope f c') J E' n → SE (LamX.lamCx X A outer s H E' scope f c') J E' cx.down.down body fe)
    (hg : Gl X "_law_told" := by rfl) (hdef : defaultsOf params X.env = ([], []) := by rfl)
    (hbind : ∀ (q : Str) (cl : List (Str × Addr)) (pm cv ctv : Value), bindArgs (PySem.W.kla_fn "<lambda>" q params body scope cl pm cv ctv) ⟨[], []⟩ = pure [] := by intros; rfl) :
    SE X J E cx (.Call (.Name "_law_told" p) [.Lambda params body scope lpos] [] pos) (eTold fe) := by
  obtain ⟨c, Pp, TB, hcode, hmT, hu⟩ := LT.tab
  obtain ⟨fd, ⟨⟨oc, od, kV, doc, pm, an, cdv, ct, osl, rfl, lk, hcd⟩, kp⟩, hb⟩ := U
  refine PE.weak (LamX.pe_lamcall (T := J.tabs) (TT := TTt J) (t := fun E' => tE J E' cx.down.down fe) (k := n) hg hm kp lk hcd hb Sg hNg hva (hG cdv) TB hcode hmT hu g.room L hdef hbind
    (fun A outer s H E' f c' hr => hbody A outer s H E' f c' ⟨hr, rfl, g.nd, takes_of rfl rfl rfl rfl, passes_of rfl⟩) (by decide) (by decide) (by decide)) fun s H Q ⟨t, r, h, R, S, p⟩ => ?_
  refine ⟨R.tabs, fun H1 eN T1 => ?_⟩
  have e1 := Ext.lam R eN
  have R1 := R.lam eN T1
  refine ⟨t, r, h, R1, S.mono e1, ?_⟩
  unfold eTold at p
  cases q1 : fe cx.down.down r h with
  | bad => rw [q1] at p; exact p.elim
  | ok d h1 =>
    rw [q1] at p
    exact fun t' H' v e' R' w => p t' H' v (e1.trans e') R' w
  | exc c1 h1 =>
    rw [q1] at p
    dsimp only at p
    split at p
    · rename_i hc
      intro t' H' e' R'
      exact ⟨c1, t', h1, hc.1, hc.2, rfl, rfl, R', fun t2 H2 v e2 R2 w => p t2 H2 v ((e1.trans e').trans e2) R2 w⟩
    · exact p.elim
end
end M

set_option Elab.async false
set_option linter.all false
set_option maxRecDepth 100000
set_option maxHeartbeats 4000000
/-! list(zip(x, y)) of two lists. -/
namespace M
open PySem L2

section
variable {prog : Program} {w : World} {A : Around} {E : Value → Shared → Prop} {s : Shared}
theorem zip_no_len : typeLookup (.type "zip") "__len__" = pure none := am_miss_of_fast (by decide +kernel)
theorem zip_no_hint : typeLookup (.type "zip") "__length_hint__" = pure none := am_miss_of_fast (by decide +kernel)
theorem zip_hint {r : Addr} {Q : Bool → Shared → Prop} (hT : s.TypeIs (.ref r) "zip") (h : Q true s) : wpAny (model prog w) A (Builtin.List.listLengthHint (.ref r)) Q E s := by
  unfold Builtin.List.listLengthHint
  refine wpAny_bind (wpAny_specialOf hT zip_no_len ?_)
  exact wpAny_bind (wpAny_specialOf hT zip_no_hint (wpAny_pure h))
/-- a zip at its i-th turn, the tuple that it gave out held by the list at S -/
structure ZSt (h : Heap) (z TI TO i1 i2 l1 l2 S : Addr) (xs ys : Array Value) (i : Nat) : Prop where
  ti : IsPair h TI (.ref i1) (.ref i2)
  a1 : h.IsListIter i1 l1 i
  a2 : h.IsListIter i2 l2 i
  b1 : h.IsList l1 xs
  b2 : h.IsList l2 ys
  zz : (IsZip h z TI TO .none ∧ ∃ a b, IsPair h TO a b) ∨ ∃ T f oT, IsZipHeld h z TI TO T f ∧ h.get? T = some oT ∧ T ≠ z ∧ T ≠ i1 ∧ T ≠ i2 ∧ T ≠ S
/-- all of them lie below S -/
structure ZLt (z TI TO i1 i2 l1 l2 S : Addr) : Prop where
  z : z < S
  ti : TI < S
  to : TO < S
  i1 : i1 < S
  i2 : i2 < S
  l1 : l1 < S
  l2 : l2 < S
structure ZG (xs ys : Array Value) (lo : Addr) (h : Heap) (as : List Addr) : Prop where
  rise : as.Pairwise (· < ·)
  above : ∀ a ∈ as, lo < a
  pairs : ∀ (j : Nat) (a : Addr), as[j]? = some a → ∃ x y, xs[j]? = some x ∧ ys[j]? = some y ∧ IsPair h a x y
variable {z TI TO i1 i2 l1 l2 S : Addr} {xs ys : Array Value}
theorem ZSt.keep {h h2 : Heap} {i : Nat} (x : ZSt h z TI TO i1 i2 l1 l2 S xs ys i) (lt : ZLt z TI TO i1 i2 l1 l2 S) (k : ∀ b o, b ≠ S → h.get? b = some o → h2.get? b = some o) : ZSt h2 z TI TO i1 i2 l1 l2 S xs ys i := by
  have ne : ∀ {b : Addr}, b < S → b ≠ S := fun l => Nat.ne_of_lt l
  refine ⟨k _ _ (ne lt.ti) x.ti, x.a1.at fun o e => k _ o (ne lt.i1) e, x.a2.at fun o e => k _ o (ne lt.i2) e, x.b1.at fun o e => k _ o (ne lt.l1) e, x.b2.at fun o e => k _ o (ne lt.l2) e, ?_⟩
  rcases x.zz with ⟨y1, a, b, y2⟩ | ⟨T, f, oT, y1, y2, y3, y4, y5, y6⟩
  · exact .inl ⟨k _ _ (ne lt.z) y1, a, b, k _ _ (ne lt.to) y2⟩
  · exact .inr ⟨T, f, oT, k _ _ (ne lt.z) y1, k _ _ y6 y2, y3, y4, y5, y6⟩
theorem zl_item {i : Nat} {Q : Option Value → Shared → Prop} (D : ZipApart z TI TO i1 i2 l1 l2) (x : ZSt s.heap z TI TO i1 i2 l1 l2 S xs ys i) (hS : S < s.heap.objs.size) (h1 : i < xs.size) (h2 : i < ys.size)
    (k : ∀ h', ZSt h' z TI TO i1 i2 l1 l2 S xs ys (i + 1) → IsPair h' s.heap.objs.size xs[i] ys[i] → h'.objs.size = s.heap.objs.size + 1 → (∀ b o, b ≠ z → b ≠ TO → b ≠ i1 → b ≠ i2 → s.heap.get? b = some o → h'.get? b = some o) → Q (some (.ref s.heap.objs.size)) { s with heap := h' }) :
    wpAny (model prog w) A (pyNext (.ref z)) Q E s := by
  obtain ⟨hti, ha1, ha2, hb1, hb2, hzz⟩ := x
  have e1 := Array.getElem?_eq_getElem h1
  have e2 := Array.getElem?_eq_getElem h2
  have up : ∀ {c o}, s.heap.get? c = some o → s.heap.objs.size ≠ c := fun e => Nat.ne_of_gt (Heap.lt_size e)
  have n1 : s.heap.objs.size ≠ i1 := let ⟨_, e, _⟩ := ha1; up e
  have n2 : s.heap.objs.size ≠ i2 := let ⟨_, e, _⟩ := ha2; up e
  rcases hzz with ⟨hz, a, b, hto⟩ | ⟨T, f, oT, hz, hT, r1, r2, r3, r4⟩
  · refine wpAny_pyNext_zip_item D hz hti hto ha1 ha2 hb1 hb2 e1 e2 fun h' q1 q2 q3 q4 q5 q6 q7 => ?_
    exact k h' ⟨q7 _ _ D.TIz D.TITO D.TIi1 D.TIi2 hti, q3, q4, hb1.at fun o e => q7 _ o D.l1z D.l1TO D.l1i1 D.l1i2 e, hb2.at fun o e => q7 _ o D.l2z D.l2TO D.l2i1 D.l2i2 e,
      .inr ⟨s.heap.objs.size, false, _, q1, q5, up hz, n1, n2, Nat.ne_of_gt hS⟩⟩ q5 q6 q7
  · refine wpAny_pyNext_zip_item_held D hz hT hti ha1 ha2 hb1 hb2 e1 e2 fun h' q1 q3 q4 q5 q6 q7 => ?_
    exact k h' ⟨q7 _ _ D.TIz D.TIi1 D.TIi2 hti, q3, q4, hb1.at fun o e => q7 _ o D.l1z D.l1i1 D.l1i2 e, hb2.at fun o e => q7 _ o D.l2z D.l2i1 D.l2i2 e,
      .inr ⟨T, true, oT, q1, q7 _ _ r1 r2 r3 hT, r1, r2, r3, r4⟩⟩ q5 q6 fun b o c1 _ c3 c4 e => q7 b o c1 c3 c4 e
theorem zl_done {i : Nat} {Q : Option Value → Shared → Prop} (nh : A.handled = none) (D : ZipApart z TI TO i1 i2 l1 l2) (x : ZSt s.heap z TI TO i1 i2 l1 l2 S xs ys i) (he : xs[i]? = none ∨ ys[i]? = none)
    (k : ∀ h', (∀ b o, b ≠ z → b ≠ TO → b ≠ i1 → b ≠ i2 → s.heap.get? b = some o → h'.get? b = some o) → Q none { s with heap := h' }) : wpAny (model prog w) A (pyNext (.ref z)) Q E s := by
  obtain ⟨hti, ha1, ha2, hb1, hb2, hzz⟩ := x
  rcases hzz with ⟨hz, a, b, hto⟩ | ⟨T, f, oT, hz, hT, r1, r2, r3, r4⟩
  · exact wpAny_pyNext_zip_end nh D hz hti hto ha1 ha2 hb1 hb2 he fun h' q => k h' q
  · exact wpAny_pyNext_zip_end_held nh D hz hT hti ha1 ha2 hb1 hb2 he fun h' q => k h' fun b o c1 _ c3 c4 e => q b o c1 c3 c4 e
/-- the pairs of h, told of a heap that keeps all above S -/
theorem ZG.keep {h h2 : Heap} {as : List Addr} (g : ZG xs ys S h as) (k : ∀ b o, S < b → h.get? b = some o → h2.get? b = some o) : ZG xs ys S h2 as :=
  ⟨g.rise, g.above, fun j a e => by
    obtain ⟨x, y, e1, e2, e3⟩ := g.pairs j a e
    exact ⟨x, y, e1, e2, k a _ (g.above a (List.mem_of_getElem? e)) e3⟩⟩
theorem ZG.snoc {h : Heap} {as : List Addr} {b : Addr} {x y : Value} (g : ZG xs ys S h as) (hb : S < b) (ab : ∀ a ∈ as, a < b) (e1 : xs[as.length]? = some x) (e2 : ys[as.length]? = some y) (e3 : IsPair h b x y) : ZG xs ys S h (as ++ [b]) := by
  refine ⟨List.pairwise_append.mpr ⟨g.rise, List.pairwise_singleton _ _, fun a ha c hc => ?_⟩, fun a ha => ?_, fun j a e => ?_⟩
  · cases List.mem_singleton.mp hc
    exact ab a ha
  · rcases List.mem_append.mp ha with ha | ha
    · exact g.above a ha
    · cases List.mem_singleton.mp ha
      exact hb
  · by_cases hj : j < as.length
    · rw [List.getElem?_append_left hj] at e
      exact g.pairs j a e
    · rw [List.getElem?_append_right (by omega)] at e
      cases q : j - as.length with
      | zero =>
        rw [q] at e
        have ej : j = as.length := by omega
        subst ej
        cases Option.some.inj e
        exact ⟨x, y, e1, e2, e3⟩
      | succ m => rw [q] at e; simp at e
/-- a list's object -/
abbrev lobj (acc : Array Value) (c : Nat) : Obj := { cls := .type "list", dict := none, data := .seq acc c, slots := #[] }
theorem zl_loop (nh : A.handled = none) (D : ZipApart z TI TO i1 i2 l1 l2) (lt : ZLt z TI TO i1 i2 l1 l2 S) (few : xs.size ≤ sizeLine) (res : Value) {h0 : Heap} {R : Result → Shared → Prop}
    (k : ∀ h' tk acc c as, (∀ b o, b ≠ S → b ≠ z → b ≠ TO → b ≠ i1 → b ≠ i2 → h0.get? b = some o → h'.get? b = some o) → h'.get? S = some (lobj acc c) → as.length = min xs.size ys.size → ZG xs ys S h' as → acc.toList = as.map Value.ref → R (.ok (.ret res)) { s with heap := h', toks := tk }) :
    ∀ (m i : Nat) (h : Heap) (tk c : Nat) (acc : Array Value) (as : List Addr), min xs.size ys.size - i = m → i ≤ min xs.size ys.size → ZSt h z TI TO i1 i2 l1 l2 S xs ys i → (∀ b o, b ≠ S → b ≠ z → b ≠ TO → b ≠ i1 → b ≠ i2 → h0.get? b = some o → h.get? b = some o) →
      h.get? S = some (lobj acc c) → acc.toList = as.map Value.ref → as.length = i → ZG xs ys S h as → (∀ a ∈ as, a < h.objs.size) →
      codeAny (model prog w) A (.builtin "list.extend.loop" ⟨[.ref S, .ref z, res], []⟩) R { s with heap := h, toks := tk } := by
  have nS : ∀ {b : Addr}, S < b → b ≠ z ∧ b ≠ TO ∧ b ≠ i1 ∧ b ≠ i2 := fun l => ⟨Nat.ne_of_gt (Nat.lt_trans lt.z l), Nat.ne_of_gt (Nat.lt_trans lt.to l), Nat.ne_of_gt (Nat.lt_trans lt.i1 l), Nat.ne_of_gt (Nat.lt_trans lt.i2 l)⟩
  have zS := Nat.ne_of_gt lt.z
  have tS := Nat.ne_of_gt lt.to
  have iS := Nat.ne_of_gt lt.i1
  have jS := Nat.ne_of_gt lt.i2
  intro m
  induction m with
  | zero =>
    intro i h tk c acc as hm hi hst hk hS hacc hal hG hsz
    refine codeAny_builtin PySem.F.entry_extend_loop ?_
    rw [Around.under_plainId PySem.F.plain_extend_loop _]
    show wpAny _ A.in1 (pyNext (.ref z) >>= _) _ _ _
    have he : xs[i]? = none ∨ ys[i]? = none := by
      rcases Nat.le_total xs.size ys.size with l | l
      · exact .inl (Array.getElem?_eq_none (by omega))
      · exact .inr (Array.getElem?_eq_none (by omega))
    refine wpAny_bind (zl_done (s := { s with heap := h, toks := tk }) (A := A.in1) nh D hst he fun h' q => ?_)
    exact wpAny_pure (k h' tk acc c as (fun b o c1 c2 c3 c4 c5 e => q b o c2 c3 c4 c5 (hk b o c1 c2 c3 c4 c5 e)) (q S _ zS tS iS jS hS) (by omega) (hG.keep fun b o l e => q b o (nS l).1 (nS l).2.1 (nS l).2.2.1 (nS l).2.2.2 e) hacc)
  | succ m ih =>
    intro i h tk c acc as hm hi hst hk hS hacc hal hG hsz
    have h1 : i < xs.size := by omega
    have h2 : i < ys.size := by omega
    have ac : acc.size = i := by rw [← Array.length_toList, hacc, List.length_map, hal]
    refine codeAny_builtin PySem.F.entry_extend_loop ?_
    rw [Around.under_plainId PySem.F.plain_extend_loop _]
    show wpAny _ A.in1 (pyNext (.ref z) >>= _) _ _ _
    refine wpAny_bind (zl_item (s := { s with heap := h, toks := tk }) (S := S) D hst (Heap.lt_size hS) h1 h2 fun h' hst' hp hz q => ?_)
    dsimp only at hp hz q ⊢
    have hS' := q S _ zS tS iS jS hS
    have SS : S < h.objs.size := Heap.lt_size hS
    have up : ∀ b o, b ≠ S → h'.get? b = some o → (h'.update S (Obj.mapSeq (·.push (Value.ref h.objs.size)))).get? b = some o := fun b o hb e => (Heap.get?_update_other _ _ (Ne.symm hb)).trans e
    show wpAny _ A.in1 (updateSeq S (·.push (Value.ref h.objs.size)) >>= _) _ _ _
    refine wpAny_bind (wpAny_updateSeq hS' rfl (wpAny_pure ⟨plainId_quiet PySem.F.plain_extend_loop _, ih (i + 1) _ tk _ (acc.push (Value.ref h.objs.size)) (as ++ [h.objs.size]) (by omega) (by omega) (hst'.keep lt up)
      (fun b o c1 c2 c3 c4 c5 e => up b o c1 (q b o c2 c3 c4 c5 (hk b o c1 c2 c3 c4 c5 e))) (Heap.get?_update_self _ hS' rfl) (by rw [Array.toList_push, hacc, List.map_append]; rfl) (by rw [List.length_append, hal]; rfl) ?_ ?_⟩) (by rw [ac]; omega)
      (by show (acc.push (Value.ref h.objs.size)).size ≤ sizeLine + 1; rw [Array.size_push, ac]; omega))
    · have g2 := (hG.keep fun b o l e => q b o (nS l).1 (nS l).2.1 (nS l).2.2.1 (nS l).2.2.2 e).keep fun b o l e => up b o (Nat.ne_of_gt l) e
      subst hal
      exact g2.snoc SS hsz (Array.getElem?_eq_getElem h1) (Array.getElem?_eq_getElem h2) (up _ _ (Nat.ne_of_gt SS) hp)
    · intro a ha
      have e : (h'.update S (Obj.mapSeq (·.push (Value.ref h.objs.size)))).get? h.objs.size = _ := up _ _ (Nat.ne_of_gt SS) hp
      have l := Heap.lt_size e
      rcases List.mem_append.mp ha with ha | ha
      · exact Nat.lt_trans (hsz a ha) l
      · cases List.mem_singleton.mp ha
        exact l
theorem zl_extend {R : Result → Shared → Prop} (nh : A.handled = none) (D : ZipApart z TI TO i1 i2 l1 l2) (lt : ZLt z TI TO i1 i2 l1 l2 S) (few : xs.size ≤ sizeLine) (res : Value) (c0 : Nat) (hst : ZSt s.heap z TI TO i1 i2 l1 l2 S xs ys 0) (hz : IsZip s.heap z TI TO .none) (hS : s.heap.get? S = some (lobj #[] c0))
    (k : ∀ h' tk acc c as, (∀ b o, b ≠ S → b ≠ z → b ≠ TO → b ≠ i1 → b ≠ i2 → s.heap.get? b = some o → h'.get? b = some o) → h'.get? S = some (lobj acc c) → as.length = min xs.size ys.size → ZG xs ys S h' as → acc.toList = as.map Value.ref → R (.ok (.ret res)) { s with heap := h', toks := tk }) :
    wpAny (model prog w) A.in1 (Builtin.List.listExtendWith (.ref S) (.ref z) res)
      (fun fin s' => match fin with | .done f => R (.ok f) s' | .again c' => c'.quiet = true ∧ codeAny (model prog w) A c' R s') (fun e s' => R (.error e) s') s := by
  have run : ∀ (h : Heap) (c1 tk : Nat), (∀ b o, b ≠ S → s.heap.get? b = some o → h.get? b = some o) → h.get? S = some (lobj #[] c1) → codeAny (model prog w) A (.builtin "list.extend.loop" ⟨[.ref S, .ref z, res], []⟩) R { s with heap := h, toks := tk } := fun h c1 tk hk hS1 =>
    zl_loop (s := s) nh D lt few res k _ 0 h tk c1 #[] [] rfl (Nat.zero_le _) (hst.keep lt hk) (fun b o n1 _ _ _ _ e => hk b o n1 e) hS1 rfl rfl ⟨.nil, nofun, fun j a e => by simp at e⟩ nofun
  have ty : s.TypeIs (.ref z) "zip" := ⟨_, hz, rfl⟩
  unfold Builtin.List.listExtendWith
  refine wpAny_bind (wpAny_typeOf (T := "zip") ty ?_)
  have f1 : Builtin.List.listSameRef (.ref S) (.ref z) = false := by simp [Builtin.List.listSameRef, Nat.ne_of_gt lt.z]
  have f2 : (Value.type "zip" == Value.type "list") = false := by decide
  have f3 : (Value.type "zip" == Value.type "tuple") = false := by decide
  simp only [f1, f2, f3, Bool.or_false, Bool.false_eq_true, if_false]
  refine wpAny_bind (wpAny_pyIter_zip hz ?_)
  refine wpAny_bind (wpAny_holding (zip_hint ty ?_))
  refine wpAny_ite_split (fun _ => ?_) (fun _ => wpAny_pure ⟨plainId_quiet PySem.F.plain_extend_loop _, run _ c0 _ (fun b o _ e => e) hS⟩)
  refine wpAny_bind (wpAny_rule (wpAny_bind ?_))
  show wpAny _ _ (updateSeq S (·.push .none) >>= fun _ => updateSeq S (·.pop)) _ _ _
  refine wpAny_bind (wpAny_updateSeq hS rfl ?_)
  have g2 := Heap.get?_update_self (Obj.mapSeq (·.push Value.none)) hS rfl
  refine wpAny_updateSeq (hz := by seq_fits) g2 rfl ?_
  have g3 := Heap.get?_update_self (Obj.mapSeq (·.pop)) g2 rfl
  exact wpAny_pure ⟨plainId_quiet PySem.F.plain_extend_loop _, run _ _ _ (fun b o hb e => (Heap.get?_update_other _ _ (Ne.symm hb)).trans ((Heap.get?_update_other _ _ (Ne.symm hb)).trans e)) g3⟩
theorem zl_init {R : Result → Shared → Prop} (nh : A.handled = none) (D : ZipApart z TI TO i1 i2 l1 l2) (lt : ZLt z TI TO i1 i2 l1 l2 S) (few : xs.size ≤ sizeLine) (hst : ZSt s.heap z TI TO i1 i2 l1 l2 S xs ys 0) (hz : IsZip s.heap z TI TO .none) (hS : s.heap.get? S = some (lobj #[] 0))
    (k : ∀ h' tk acc c as, (∀ b o, b ≠ S → b ≠ z → b ≠ TO → b ≠ i1 → b ≠ i2 → s.heap.get? b = some o → h'.get? b = some o) → h'.get? S = some (lobj acc c) → as.length = min xs.size ys.size → ZG xs ys S h' as → acc.toList = as.map Value.ref → R (.ok (.ret .none)) { s with heap := h', toks := tk }) :
    wpAny (model prog w) A.in1 (Builtin.«list.__init__» ⟨[.ref S, .ref z], []⟩)
      (fun fin s' => match fin with | .done f => R (.ok f) s' | .again c' => c'.quiet = true ∧ codeAny (model prog w) A c' R s') (fun e s' => R (.error e) s') s := by
  show wpAny _ _ (do let old ← Builtin.List.listItems (.ref S); Builtin.List.listUpdate (.ref S) (fun _ => #[]); letGo old.toList.reverse; Builtin.List.listExtendWith (.ref S) (.ref z) .none) _ _ s
  refine wpAny_bind ?_
  unfold Builtin.List.listItems
  refine wpAny_bind (wpAny_seqItems hS rfl (wpAny_pure ?_))
  show wpAny _ _ (updateSeq S (fun _ => #[]) >>= fun _ => letGo (#[] : Array Value).toList.reverse >>= fun _ => Builtin.List.listExtendWith (.ref S) (.ref z) .none) _ _ s
  refine wpAny_bind (wpAny_updateSeq hS rfl ?_)
  have g2 := Heap.get?_update_self (Obj.mapSeq (fun _ => (#[] : Array Value))) hS rfl
  have oth : ∀ b o, b ≠ S → s.heap.get? b = some o → (s.heap.update S (Obj.mapSeq (fun _ => (#[] : Array Value)))).get? b = some o := fun b o hb e => (Heap.get?_update_other _ _ (Ne.symm hb)).trans e
  refine wpAny_bind (wpAny_letGo ?_)
  refine zl_extend nh D lt few .none _ (hst.keep lt oth) (oth _ _ (Nat.ne_of_lt lt.z) hz) g2 fun h' tk acc c as q1 q2 q3 q4 q5 => ?_
  exact k h' tk acc c as (fun b o c1 c2 c3 c4 c5 e => q1 b o c1 c2 c3 c4 c5 (oth b o c1 e)) q2 q3 q4 q5
/-- list(z), z a new zip of two lists -/
theorem zl_call {Q : Value → Shared → Prop} (nh : A.handled = none) (D : ZipApart z TI TO i1 i2 l1 l2) (lt : ZLt z TI TO i1 i2 l1 l2 s.heap.objs.size) (few : xs.size ≤ sizeLine) (hst : ZSt s.heap z TI TO i1 i2 l1 l2 s.heap.objs.size xs ys 0) (hz : IsZip s.heap z TI TO .none)
    (k : ∀ h' tk acc c as, (∀ b o, b ≠ z → b ≠ TO → b ≠ i1 → b ≠ i2 → s.heap.get? b = some o → h'.get? b = some o) → h'.get? s.heap.objs.size = some (lobj acc c) → as.length = min xs.size ys.size → ZG xs ys s.heap.objs.size h' as → acc.toList = as.map Value.ref → Q (.ref s.heap.objs.size) { s with heap := h', toks := tk }) :
    wpAny (model prog w) A (call (.type "list") [.ref z]) Q E s := by
  refine callType_codes (Q₁ := fun v s1 => v = .ref s.heap.objs.size ∧ s1 = { s with heap := s.heap.push { cls := .type "list", data := .seq #[] } }) PySem.F.called_list (PySem.F.typeCall_list_1 _) PySem.F.entry_list_init (code_list_new _ ⟨rfl, rfl⟩) fun v s1 hv => ?_
  obtain ⟨rfl, rfl⟩ := hv
  have hS : (s.heap.push { cls := .type "list", data := .seq #[] }).get? s.heap.objs.size = some { cls := .type "list", data := .seq #[] } := Heap.get?_push_size _ rfl
  have kp : ∀ b o, s.heap.get? b = some o → (s.heap.push { cls := .type "list", data := .seq #[] }).get? b = some o := fun b o e => Heap.get?_push_of_some _ e
  refine ⟨⟨_, hS, rfl⟩, PySem.F.args_list_init_2 _ _, zl_init (A := A.in1) nh D lt few (hst.keep lt fun b o _ e => kp b o e) (kp _ _ hz) hS fun h' tk acc c as q1 q2 q3 q4 q5 => ?_⟩
  exact ⟨rfl, k h' tk acc c as (fun b o c2 c3 c4 c5 e => q1 b o (Nat.ne_of_lt (Heap.lt_size e)) c2 c3 c4 c5 (kp b o e)) q2 q3 q4 q5⟩
end
end M

set_option Elab.async false
set_option linter.all false
set_option maxRecDepth 100000
set_option maxHeartbeats 4000000
/-! list(zip(x, y)) by the machine. -/
namespace M
open PySem L2
/-- pairs told at their places -/
def layP : Hp → List Addr → List (V × V) → Hp
  | H, a :: as, p :: ps => layP (upd H a (.tup [p.1, p.2])) as ps
  | H, _, _ => H
theorem layP_off {b : Addr} : ∀ {as : List Addr} {ps : List (V × V)} {H : Hp}, b ∉ as → layP H as ps b = H b
  | [], _, _, _ => rfl
  | _ :: _, [], _, _ => rfl
  | a :: as, p :: ps, H, h => by
    have e := layP_off (as := as) (ps := ps) (H := upd H a (.tup [p.1, p.2])) fun z => h (List.mem_cons_of_mem _ z)
    exact e.trans (upd_ne fun z => h (z ▸ List.mem_cons_self))
theorem layP_at : ∀ {as : List Addr} {ps : List (V × V)} {H : Hp} {j : Nat} {a : Addr} {p : V × V}, as.Nodup → as[j]? = some a → ps[j]? = some p → layP H as ps a = some (.tup [p.1, p.2])
  | [], _, _, _, _, _, _, e, _ => by simp at e
  | _ :: _, [], _, _, _, _, _, _, e => by simp at e
  | b :: as, q :: ps, H, 0, a, p, nd, e1, e2 => by
    simp at e1 e2
    subst e1 e2
    exact (layP_off (List.nodup_cons.mp nd).1).trans upd_same
  | b :: as, q :: ps, H, j + 1, a, p, nd, e1, e2 => by
    show layP (upd H b (.tup [q.1, q.2])) as ps a = _
    exact layP_at (as := as) (ps := ps) (j := j) (List.nodup_cons.mp nd).2 (by simpa using e1) (by simpa using e2)
theorem refs_vals : ∀ as : List Addr, Vals (as.map V.ref) (as.map Value.ref)
  | [] => .nil
  | _ :: as => .cons rfl (refs_vals as)
section
variable {X : Cx} {pins : List (Addr × Obj)} {σ : L2.St} {H : Hp} {s : Shared}
theorem zip_laid {h' : Heap} {tk : Nat} {us vs : List V} {xs ys : List Value} {acc : Array Value} {c : Nat} {as : List Addr} {S : Addr} (I : Inv X pins σ H s) (hS : s.heap.objs.size ≤ S) (few : us.length ≤ sizeLine) (r1 : Vals us xs) (r2 : Vals vs ys) (k : ∀ b o, s.heap.get? b = some o → h'.get? b = some o)
    (g : h'.get? S = some (lobj acc c)) (hl : as.length = min xs.length ys.length) (G : ZG xs.toArray ys.toArray S h' as) (ha : acc.toList = as.map Value.ref) :
    ∃ H' : Hp, (∀ b o, H b = some o → H' b = some o) ∧ H S = none ∧ (∀ a ∈ as, H a = none) ∧ H' S = some (.lst (as.map V.ref)) ∧ (∀ (j : Nat) a, as[j]? = some a → ∃ u v, us[j]? = some u ∧ vs[j]? = some v ∧ H' a = some (.tup [u, v])) ∧ Inv X pins σ H' { s with heap := h', toks := tk } := by
  have l1 := r1.length
  have l2 := r2.length
  have nd : as.Nodup := G.rise.imp fun l => Nat.ne_of_lt l
  have fS : H S = none := I.hok.fresh hS
  have fa : ∀ a ∈ as, H a = none := fun a h => I.hok.fresh (Nat.le_of_lt (Nat.lt_of_le_of_lt hS (G.above a h)))
  have Sa : S ∉ as := fun z => Nat.lt_irrefl _ (G.above S z)
  generalize hH : layP (upd H S (.lst (as.map V.ref))) as (us.zip vs) = H'
  have off : ∀ b, b ∉ as → b ≠ S → H' b = H b := fun b h1 h2 => by rw [← hH, layP_off h1, upd_ne h2]
  have atS : H' S = some (.lst (as.map V.ref)) := by rw [← hH, layP_off Sa, upd_same]
  have atA : ∀ (j : Nat) a, as[j]? = some a → ∃ u v, us[j]? = some u ∧ vs[j]? = some v ∧ H' a = some (.tup [u, v]) := fun j a e => by
    have jl : j < as.length := (List.getElem?_eq_some_iff.mp e).1
    have j1 : j < us.length := by omega
    have j2 : j < vs.length := by omega
    refine ⟨us[j], vs[j], List.getElem?_eq_getElem j1, List.getElem?_eq_getElem j2, ?_⟩
    rw [← hH]
    exact layP_at (p := (us[j], vs[j])) nd e (by simp [List.getElem?_zip_eq_some, j1, j2])
  have kp : ∀ b o, H b = some o → H' b = some o := fun b o e => by
    rw [off b (fun z => by rw [fa b z] at e; cases e) fun z => by rw [z, fS] at e; cases e]
    exact e
  have low : ∀ b o, s.heap.get? b = some o → b ∉ as ∧ b ≠ S := fun b o e => ⟨fun z => Nat.lt_irrefl _ (Nat.lt_trans (Heap.lt_size e) (Nat.lt_of_le_of_lt hS (G.above b z))), Nat.ne_of_lt (Nat.lt_of_lt_of_le (Heap.lt_size e) hS)⟩
  refine ⟨H', kp, fS, fa, atS, atA, I.call' (ch := []) rfl ⟨fun b o e _ _ _ => k b o e, fun b o e _ _ _ => ⟨o.slots, k b o e⟩, fun b o e n _ => by rw [off b (low b o e).1 (low b o e).2]; exact n, fun b o e _ => ⟨o, k b o e⟩, fun b _ e => kp b _ e, fun b _ _ e => kp b _ e, fun b ps e => ⟨#[], by rw [kp b _ e]; simp⟩⟩ (fun b u e => ?_) I.bare fun _ z => nomatch z⟩
  by_cases hb : b ∈ as
  · obtain ⟨j, ej⟩ := List.mem_iff_getElem?.mp hb
    obtain ⟨u', v', e1, e2, e3⟩ := atA j b ej
    rw [e3] at e
    cases e
    obtain ⟨x, y, e4, e5, e6⟩ := G.pairs j b ej
    obtain ⟨x', g1, g2⟩ := r1.get e1
    obtain ⟨y', g3, g4⟩ := r2.get e2
    have ex : x' = x := by rw [List.getElem?_toArray] at e4; rw [g1] at e4; exact Option.some.inj e4
    have ey : y' = y := by rw [List.getElem?_toArray] at e5; rw [g3] at e5; exact Option.some.inj e5
    subst ex ey
    exact ⟨by show 2 ≤ sizeLine; decide, [x', y'], .cons g2 (.cons g4 .nil), ⟨_, e6, rfl, _, rfl⟩⟩
  · by_cases hb2 : b = S
    · subst hb2
      rw [atS] at e
      cases e
      refine ⟨by rw [List.length_map]; omega, acc.toList, c, by rw [ha]; exact refs_vals as, ?_⟩
      rw [Array.toArray_toList]
      exact g
    · rw [off b hb hb2] at e
      exact (I.hok b u e).stay (fun d v _ y => k d v y) (fun d y => kp d _ y) fun d z y => kp d _ y
end
section
variable {X : Cx} {J : Inf} {E : XK} {cx : Ctx} {n : Nat} {pos p p2 p3 : Pos} {a b : Expr} {fa fb : FE} {ta tb : TE}
def rZipL (K : PySem.W.Frag) : V → V → Hp → VK → Prop := fun x y H Q => ∃ (l m : Addr) (us vs : List V), x = .ref l ∧ y = .ref m ∧ SqL K H l us ∧ SqL K H m vs ∧ us.length ≤ sizeLine ∧
  ∀ (H' : Hp) (q : Addr) (as : List Addr), (∀ b o, H b = some o → H' b = some o) → H q = none → (∀ a ∈ as, H a = none) → H' q = some (.lst (as.map V.ref)) → as.length = min us.length vs.length → (∀ (j : Nat) a, as[j]? = some a → ∃ u v, us[j]? = some u ∧ vs[j]? = some v ∧ H' a = some (.tup [u, v])) → Q (.ref q) H'
theorem pe_listZ (hc : X.calm = true) (hg : Gl X "list") (hm : X.mg "list" = none) (hg2 : Gl X "zip") (hm2 : X.mg "zip" = none) (ha : PE X a ta) (hb : PE X b tb) (na : starEach [a, b] X.env = (false, eval a X.env) :: starEach [b] X.env) (nb : starEach [b] X.env = (false, eval b X.env) :: starEach [] X.env)
    (nz : starEach [.Call (.Name "zip" p2) [a, b] [] p3] X.env = (false, eval (.Call (.Name "zip" p2) [a, b] [] p3) X.env) :: starEach [] X.env) :
    PE X (.Call (.Name "list" p) [.Call (.Name "zip" p2) [a, b] [] p3] [] pos) (fun σ H Q => ta σ H fun x H1 => tb σ H1 fun y H2 => rZipL X.K x y H2 Q) := by
  refine ⟨fun pins s σ H Q I h => ?_⟩
  have hp : (backTo p3 (starEach [b] X.env)).any (·.1) = false := by rw [nb]; rfl
  refine PyProof.Rows.Call_ (ld_blt I hg hm PyProof.Rows.boot_list (PyProof.Rows.callWith_type1 (PyProof.Rows.args_cons ?_ nz) nz))
  refine PyProof.Rows.Call_ (ld_blt I hg2 hm2 PyProof.Rows.boot_zip (PyProof.Rows.callWith_type1 (PyProof.Rows.args_cons (thn (ha.run pins s σ H _ I h) fun v s1 ⟨x, H1, I1, rx, q1⟩ => PyProof.Rows.args_cons (thn (hb.run pins s1 σ H1 _ I1 q1) fun u s2 ⟨y, H2, I2, ry, q2⟩ => PyProof.Rows.args_nil ?_) nb) na) na hp))
  obtain ⟨l, m, us, vs, rfl, rfl, hl, hm, few, qq⟩ := q2
  cases rx
  cases ry
  obtain ⟨xs, r1, pl, z1⟩ := I2.list hl
  obtain ⟨ys, r2, pm, z2⟩ := I2.list hm
  have lt1 : l < s2.heap.objs.size := pl.isList.typeIs.elim fun o e => Heap.lt_size e.1
  have lt2 : m < s2.heap.objs.size := pm.isList.typeIs.elim fun o e => Heap.lt_size e.1
  refine call_zip_2 pl.isList pm.isList fun h1 hz hti hto hi1 hi2 hsz kp => PyProof.Rows.args_nil ?_
  have D := PySem.W.ktu_apart s2.heap.objs.size l m lt1 lt2
  have i1 := I2.kept (t' := s2.toks) kp
  refine zl_call (s := { s2 with heap := h1 }) (xs := xs.toArray) (ys := ys.toArray) (i1.ok.hd hc) D ?_ (by simp only [List.size_toArray]; have := r1.length; omega) ⟨hti, hi1, hi2, pl.isList.at fun o e => kp _ o e, pm.isList.at fun o e => kp _ o e, .inl ⟨hz, _, _, hto⟩⟩ hz fun h2 tk acc c as q1 q2 q3 q4 q5 => ?_
  · show ZLt _ _ _ _ _ _ _ h1.objs.size
    rw [hsz]
    exact ⟨Nat.lt_succ_self _, by show s2.heap.objs.size + 2 < s2.heap.objs.size + 5; omega, by show s2.heap.objs.size + 3 < s2.heap.objs.size + 5; omega, by show s2.heap.objs.size < s2.heap.objs.size + 5; omega, by show s2.heap.objs.size + 1 < s2.heap.objs.size + 5; omega, Nat.lt_trans lt1 (by show s2.heap.objs.size < s2.heap.objs.size + 5; omega), Nat.lt_trans lt2 (by show s2.heap.objs.size < s2.heap.objs.size + 5; omega)⟩
  · have big : s2.heap.objs.size ≤ h1.objs.size := by rw [hsz]; exact Nat.le_add_right _ _
    have ne : ∀ {b : Addr} (j : Nat), b < s2.heap.objs.size → b ≠ s2.heap.objs.size + j := fun j l => Nat.ne_of_lt (Nat.lt_of_lt_of_le l (Nat.le_add_right _ j))
    obtain ⟨H', w1, w2, w3, w4, w5, w6⟩ := zip_laid (tk := tk) (s := s2) I2 big z1 r1 r2 (fun b o e => q1 b o (ne 4 (Heap.lt_size e)) (ne 3 (Heap.lt_size e)) (ne 0 (Heap.lt_size e)) (ne 1 (Heap.lt_size e)) (kp b o e)) q2 (by simpa using q3) q4 q5
    exact ⟨.ref h1.objs.size, H', w6, rfl, qq H' _ as w1 w2 w3 w4 (by have := r1.length; have := r2.length; simp only [List.size_toArray] at q3; omega) w5⟩
theorem Ext.more {t : Tr} {h : Hh} {H H' : Hp} (R : RepH J t h H) (e : ∀ b o, H b = some o → H' b = some o) : Ext t h H t h H' where
  pre := ⟨[], by simp⟩
  lv := fun _ z => .inl z
  keep := fun b o _ q _ => e b o q
  dict := fun b kvs _ q => q.imp (e b _) fun ⟨o, q⟩ => ⟨o, e b _ q⟩
  av := rfl
  stays := fun b z => by
    cases q : H b with
    | none => exact absurd z (Nt.not q)
    | some o => rw [e b o q, ← q]; exact z
  same := fun b z => by
    obtain ⟨vs, q⟩ := R.there b z
    rw [q]
    exact e b _ q
theorem RepH.more {t : Tr} {h : Hh} {H H' : Hp} (R : RepH J t h H) (e : ∀ b o, H b = some o → H' b = some o) : RepH J t h H' where
  len := R.len
  nd := R.nd
  cells := fun c x b e1 e2 => (R.cells c x b e1 e2).mono (Ext.more R e) (by
    cases q : H b with
    | none => exact absurd q (R.ne_none e2)
    | some o => exact e b o q)
  apart := R.apart
  there := fun b z => by
    obtain ⟨vs, q⟩ := R.there b z
    exact ⟨vs, e b _ q⟩
  tabs := LamX.Tabs.ext R.tabs e
  inv := J.imono (Ext.more R e).toExt0 R.inv
theorem rvs_zip {t : Tr} {L : Addr → Prop} {H : Hp} : ∀ {xs ys : List D} {us vs : List V} {as : List Addr}, RVs J t L H xs us → RVs J t L H ys vs → as.length = min us.length vs.length → (∀ a ∈ as, ¬ L a) →
    (∀ (j : Nat) a, as[j]? = some a → ∃ u v, us[j]? = some u ∧ vs[j]? = some v ∧ H a = some (.tup [u, v])) → RVs J t L H (zipT xs ys) (as.map V.ref)
  | [], ys, us, vs, as, r1, r2, hl, nl, hp => by
    simp only [RVs] at r1
    subst r1
    have : as = [] := by simpa using hl
    subst this
    simpa [zipT] using RVs.nil
  | x :: xs, [], us, vs, as, r1, r2, hl, nl, hp => by
    simp only [RVs] at r2
    subst r2
    have : as = [] := by simpa using hl
    subst this
    simpa [zipT] using RVs.nil
  | x :: xs, y :: ys, us, vs, as, r1, r2, hl, nl, hp => by
    simp only [RVs] at r1 r2
    obtain ⟨u, us', rfl, u1, u2⟩ := r1
    obtain ⟨v, vs', rfl, v1, v2⟩ := r2
    cases as with
    | nil => simp at hl
    | cons a as =>
      obtain ⟨u', v', e1, e2, e3⟩ := hp 0 a rfl
      simp at e1 e2
      subst e1 e2
      simp only [zipT, List.map_cons]
      refine RVs.cons ?_ (rvs_zip u2 v2 (by simp at hl; omega) (fun b hb => nl b (List.mem_cons_of_mem _ hb)) fun j b e => ?_)
      · simp only [RV]
        exact ⟨a, _, rfl, e3, nl a List.mem_cons_self, RVs.cons u1 (RVs.cons v1 RVs.nil)⟩
      · obtain ⟨u2, v2, g1, g2, g3⟩ := hp (j + 1) b (by simpa using e)
        exact ⟨u2, v2, by simpa using g1, by simpa using g2, g3⟩
theorem se_listZ (m : Bool) (g : Good X J E n) (BB : Blt X.mg) (ha : SE X J E cx a fa) (hb : SE X J E cx b fb) (hmf : m = false := by rfl) (hg : Gl X "list" := by rfl) (hg2 : Gl X "zip" := by rfl) (na : starEach [a, b] X.env = (false, eval a X.env) :: starEach [b] X.env := by rfl)
    (nb : starEach [b] X.env = (false, eval b X.env) :: starEach [] X.env := by rfl) (nz : starEach [.Call (.Name "zip" p2) [a, b] [] p3] X.env = (false, eval (.Call (.Name "zip" p2) [a, b] [] p3) X.env) :: starEach [] X.env := by rfl) :
    SE X J E cx (.Call (.Name "list" p) [.Call (.Name "zip" p2) [a, b] [] p3] [] pos) (eListZ m fa fb) := by
  subst hmf
  refine PE.weak (pe_listZ g.calm hg BB.list hg2 BB.zip ha hb na nb nz) fun s H Q ⟨t, r, h, R, S, p⟩ => ?_
  refine ⟨t, r, h, R, S, Post.imp (Post.bind (rel := RV J) p) fun x H1 ⟨t1, h1, d, e1, R1, v1, p1⟩ => ?_⟩
  refine ⟨t1, r, h1, R1, S.mono e1, Post.imp (Post.bind (rel := RV J) p1) fun y H2 ⟨t2, h2, dy, e2, R2, v2, p2⟩ => ?_⟩
  dsimp only at p2
  unfold lzip at p2
  split at p2
  · rename_i xs ys q1 q2
    split at p2
    · rename_i few
      obtain ⟨l, us, rfl, hl, rl⟩ := view_l R2 (v1.mono e2) q1
      obtain ⟨m, vs, rfl, hm, rm⟩ := view_l R2 v2 q2
      refine ⟨l, m, us, vs, rfl, rfl, SqL.of hl, SqL.of hm, by rw [rl.length]; exact lim_size few, fun H' q as w1 w2 w3 w4 w5 w6 => ?_⟩
      have E1 := Ext.more R2 w1
      refine p2 t2 H' (.ref q) E1 (R2.more w1) ?_
      simp only [RV]
      exact ⟨q, _, rfl, w4, R2.fresh w2, rvs_zip (rl.mono E1) (rm.mono E1) w5 (fun a ha => R2.fresh (w3 a ha)) w6⟩
    · exact p2.elim
  · exact p2.elim
/-- x.count(True) -/
theorem countT_eq : ∀ {bs : List Bool} {us : List Value}, Vals (bs.map V.bl) us → us.countP (eqU (.bl true)) = bs.count true
  | [], _, .nil => rfl
  | b :: bs, _, .cons r t => by
    rw [List.countP_cons, countT_eq t, List.count_cons]
    congr 1
    rw [eqU_of r (by rfl)]
    cases b <;> rfl
def rCntT (K : PySem.W.Frag) : V → List V → Hp → VK → Prop := fun x xs H Q => ∃ (q : Addr) (bs : List Bool), x = .ref q ∧ xs = [.bl true] ∧ SqL K H q (bs.map V.bl) ∧ Q (.int (bs.count true : Nat)) H
theorem mt_countT : MtR X "list.count" (rCntT X.K) := by
  intro pins s σ H x xs v us Q I rx rxs h
  obtain ⟨q, bs, rfl, rfl, hs, qq⟩ := h
  cases rx
  obtain ⟨u, rfl, ru⟩ := rxs.one
  obtain ⟨its, rv, ⟨⟨cls, dd, data, sl⟩, k, ho, hc, hdn, hd⟩, hlen⟩ := I.list hs
  simp only at hc hd
  subst hc hd
  have fl : (bs.map V.bl).all flatV = true := by simp [flatV]
  refine call_meets PySem.F.slot_list_count ⟨_, ho, rfl⟩ PySem.F.entry_list_count (PySem.F.args_list_count_2 _ _) (SeqAt.list_countAt q its.toArray k dd sl u (eqU (.bl true))) ⟨ho, fun y hy => mem_eqAt ru rfl rv fl y (by simpa using hy), ?_⟩
  refine ⟨.int (bs.count true : Nat), H, I.tok _, ⟨s.toks, ?_⟩, qq⟩
  rw [← countT_eq rv]
theorem om_countT (K : PySem.W.Frag) {t : Tr} {h : Hh} {H : Hp} {d : D} {x : V} {Q : VK} (R : RepH J t h H) (v : RV J t (live t h) H d x) (p : PostE J E t h H (up (pCountT d h)) Q) : rCntT K x [.bl true] H Q := by
  unfold pCountT at p
  split at p
  · rename_i bs q
    obtain ⟨l, vs, rfl, hl, r⟩ := view_l R v (bind_bools q)
    have e := r.bools
    subst e
    exact ⟨l, bs, rfl, rfl, SqL.of hl, p t H _ Ext.refl R (by simp only [RV])⟩
  · exact p.elim
theorem se_countT {o : Expr} {fo : FE} {apos cpos : Pos} {j : Nat} (g : Good X J E n) (ho : SE X J E cx o fo) (hbase : attributeBase o "count" X.env (eval o X.env) = eval o X.env := by rfl) (hline : (apos.endLine == cpos.line) = true := by rfl)
    (hs : starEach [.Constant (.bool true) j p] X.env = (false, eval (.Constant (.bool true) j p) X.env) :: starEach [] X.env := by rfl) : SE X J E cx (.Call (.Attribute o "count" apos) [.Constant (.bool true) j p] [] cpos) (e1 pCountT fo) := by
  have few : ((backTo cpos (starEach [.Constant (.bool true) j p] X.env)).all (fun x => !x.1) && (backToKw cpos (keywordEach [] X.env)).all (fun x => x.1.isSome) && decide (([Expr.Constant (.bool true) j p] : List Expr).length + ([] : List Keyword).length + (if ([] : List Keyword).isEmpty then 0 else 1) < 30)) = true := by rw [hs]; rfl
  refine PE.weak (pe_bm (apos := apos) PySem.F.plainAttrs_list PySem.F.slot_list_count PySem.F.type_list_count (mt_countT (X := X)) ho (pa_cons pe_bl pa_nil hs) hbase few hline hs rfl) fun s H Q ⟨t, r, h, R, S, pp⟩ => ?_
  refine ⟨t, r, h, R, S, Post.imp (Post.bind (rel := RV J) pp) fun x H1 ⟨t1, h1, d, e1, R1, v1, p1⟩ => ?_⟩
  have q := om_countT X.K R1 v1 p1
  obtain ⟨l, bs, rfl, _, hl, qq⟩ := id q
  exact ⟨.inl ⟨rfl, _, hl⟩, q⟩
end
end M

set_option Elab.async false
set_option linter.all false
set_option maxRecDepth 100000
set_option maxHeartbeats 4000000
/-! Tests of dicts; defs that are never reached. -/
namespace M
open PySem L2
section
variable {X : Cx} {J : Inf} {E : XK} {cx : Ctx} {n : Nat} {pos : Pos} {a b : Expr} {fa fb : FE}
theorem inX_test {op : CmpOp} {neg : Bool} (ho : ∀ L, OpR X (compareOp op) (rInX L neg)) (ha : SE X J E cx a fa) (hb : SE X J E cx b fb) (hm : behindInMarks op b = false) : ST X J E cx (.Compare a [op] [b] pos) (e2 (pInD neg) fa fb) := by
  have all : OpR X (compareOp op) (fun x y H Q => ∃ L, rInX L neg x y H Q) := fun pins s σ H x y v u Q I rx ry ⟨L, h⟩ => ho L pins s σ H x y v u Q I rx ry h
  refine PT.weak (pt_cmpR all ha hb hm) fun s H Q ⟨t, r, h, R, S, p⟩ => ?_
  refine ⟨t, r, h, R, S, Post.imp (Post.bind (rel := RV J) p) fun x H1 ⟨t1, h1, d, e1, R1, v1, p1⟩ => ?_⟩
  refine ⟨t1, r, h1, R1, S.mono e1, Post.imp (Post.bind (rel := RV J) p1) fun y H2 ⟨t2, h2, e, x2, R2, v2, p2⟩ => ?_⟩
  exact ⟨_, ok_inX neg R2 (v1.mono x2) v2 p2⟩
theorem st_inD {n : Nat} (hr : Room n X.A) (ha : SE X J E cx a fa) (hb : SE X J E cx b fb) (hm : behindInMarks .In b = false := by rfl) : ST X J E cx (.Compare a [.In] [b] pos) (e2 (pInD false) fa fb) :=
  inX_test (fun _ => op_inX (hu_of hr)) ha hb hm
theorem st_notInD {n : Nat} (hr : Room n X.A) (ha : SE X J E cx a fa) (hb : SE X J E cx b fb) (hm : behindInMarks .NotIn b = false := by rfl) : ST X J E cx (.Compare a [.NotIn] [b] pos) (e2 (pInD true) fa fb) :=
  inX_test (fun _ => op_notInX (hu_of hr)) ha hb hm
/-- x == [] -/
def rEqNil (K : PySem.W.Frag) : R2 := fun x y H Q => ∃ (l m : Addr) (us : List V), x = .ref l ∧ y = .ref m ∧ SqL K H l us ∧ SqL K H m [] ∧ Q (.bl us.isEmpty) H
theorem op_eqNil (hu : X.A.units + 64 < cLine) : OpR X (compareOp .Eq) (rEqNil X.K) := by
  intro pins s σ H x y v u Q I rx ry h
  obtain ⟨l, m, us, rfl, rfl, hl, hm, q⟩ := h
  cases rx
  cases ry
  obtain ⟨xs, r1, pl, z1⟩ := I.list hl
  obtain ⟨ys, r2, pm, z2⟩ := I.list hm
  cases r2
  cases us with
  | nil =>
    cases r1
    refine SeqAt.eq_listAt (e := fun _ => true) pl.isList pm.isList rfl (by omega) (fun j h1 h2 => absurd h1 (by simp)) ?_
    exact ⟨.bl true, H, I, rfl, q⟩
  | cons a us =>
    cases r1 with
    | cons r t => exact SeqAt.eq_list_lengthsAt pl.isList pm.isList (by simp) (by omega) ⟨.bl false, H, I, rfl, q⟩
theorem nil_read {t : Tr} {h : Hh} {H : Hp} {d : D} {x : V} {Q : VK} (K : PySem.W.Frag) (R : RepH J t h H) (v : RV J t (live t h) H d x) (p : PostE J E t h H (up (pNil d h)) Q) (q : Addr) (hq : H q = none) : rEqNil K x (.ref q) (upd H q (.lst [])) Q := by
  unfold pNil at p
  split at p
  · rename_i xs e
    obtain ⟨l, us, rfl, hl, r⟩ := view_l R v e
    refine ⟨l, q, us, rfl, rfl, SqL.of (by rw [upd_ne (ne_of_none hl hq)]; exact hl), SqL.of upd_same, p t _ _ (Ext.laid R hq) (R.laid hq) ?_⟩
    simp only [RV]
    have := r.length
    cases xs <;> cases us <;> simp at this <;> rfl
  · exact p.elim
theorem st_nil {p2 : Pos} (g : Good X J E n) (ha : SE X J E cx a fa) : ST X J E cx (.Compare a [.Eq] [.List [] p2] pos) (e1 pNil fa) := by
  refine PT.weak (pt_cmpR (op_eqNil (hu64 g)) ha (pe_lst pa_nil) (nomark _)) fun s H Q ⟨t, r, h, R, S, p⟩ => ?_
  refine ⟨t, r, h, R, S, Post.imp (Post.bind (rel := RV J) p) fun x H1 ⟨t1, h1, d, e1, R1, v1, p1⟩ => ?_⟩
  exact ⟨small_size (by simp), fun q hq => nil_read X.K R1 v1 p1 q hq⟩
end
section
variable {P : Program} {w : World} {K : PySem.W.Frag} {mg : Str → Option Value} {base : Heap} {J : Inf} {G : Nat → Option Fn}
theorem no_call {k : Nat} (e : G k = none) : ∀ (n : Nat) (ds : List D) (h : Hh), (ctxN G n).call k ds h = .bad
  | 0, _, _ => rfl
  | n + 1, ds, h => by
    show (if n < 3 then M.R.bad else match G k with | some f => runFn f (ctxN G n) ds h | none => .bad) = .bad
    rw [e]
    split <;> rfl
theorem fnM_none {x qual : Str} {st : Stmt} {f : Addr} {ps : List Str} {k n : Nat} (h : ∃ fd, Fun K x qual st f fd ∧ Binds K fd ps []) (e : G k = none) : FnM P w K mg base J (ctxN G n) n f k := by
  obtain ⟨fd, U, b⟩ := h
  have no : ∀ vs H Q E, ¬ spC J (ctxN G n) k vs H Q E := fun vs H Q E ⟨t, h', ds, _, _, p⟩ => by
    rw [no_call e] at p
    exact p
  exact ⟨U.kp, fd, ps, b, fun vs H Q E z => absurd z (no vs H Q E), fun A outer s H args us vs Q E _ _ _ _ z => absurd z (no vs H Q E)⟩
end
end M

set_option autoImplicit false
set_option linter.all false
/-! The defs of the text in the machine: printed by gen.py. -/
namespace M
/-- is_whole -/
def f_is_whole : Fn where
  slots := 1
  pars := 1
  pure := true
  body := sAll [sRet (eAnd (e1 (pIsTy .int) (eVar 0)) (eNot (e1 (pIsTy .bool) (eVar 0))))]
/-- is_count -/
def f_is_count : Fn where
  slots := 3
  pars := 3
  pure := true
  body := sAll [sRet (eAnd (eCall 0 [eVar 0]) (eChain (eVar 1) (eVar 0) (eVar 2)))]
/-- pairs_of -/
def f_pairs_of : Fn where
  slots := 4
  pars := 1
  pure := true
  body := sAll [sAsg (.n 1) (eLst true []),
    sFor (.n 2) (iRange1 (eVar 0)) (sAll [sExpr (eM1 pExtend (eVar 1) (eComp false [3] (.n 3) (iRange2 (eVar 2) (eVar 0)) (eYes) (eTup [eVar 2, eVar 3])))]),
    sRet (eVar 1)]
/-- are_back -/
def f_are_back : Fn where
  slots := 3
  pars := 2
  pure := true
  body := sAll [sIf (eOr (eNot (e1 (pIsTy .list) (eVar 0))) (eOr (e2 pGt (e1 pLen (eVar 0)) (eK (.int 2))) (eNot (e1 pAll (eComp false [2] (.n 2) (iSeq (eVar 0)) (eYes) (eCall 1 [eVar 2, eK (.int 0), e2 pSub (eVar 1) (eK (.int 1))])))))) (sAll [sRet (eK (.bl false))]) (sAll []),
    sRet (e2 (pEq false) (eVar 0) (e1 pSorted (eVar 0)))]
/-- check_table -/
def f_check_table : Fn where
  slots := 2
  pars := 1
  pure := true
  body := sAll [sIf (eOr (eNot (e1 (pIsTy .tuple) (eVar 0))) (eOr (e2 (pEq true) (e1 pLen (eVar 0)) (eK (.int 2))) (eNot (eCall 1 [e2 pIx (eVar 0) (eK (.int 0)), eK (.int 1), eK (.int 4)])))) (sAll [sRaise 1]) (sAll []),
    sIf (eOr (eNot (e1 (pIsTy .list) (e2 pIx (eVar 0) (eK (.int 1))))) (e2 (pEq true) (e1 pLen (e2 pIx (eVar 0) (eK (.int 1)))) (e1 pLen (eCall 2 [e2 pIx (eVar 0) (eK (.int 0))])))) (sAll [sRaise 1]) (sAll []),
    sIf (eNot (e1 pAll (eComp false [1] (.n 1) (iSeq (e2 pIx (eVar 0) (eK (.int 1)))) (eYes) (eCall 3 [eVar 1, e2 pIx (eVar 0) (eK (.int 0))])))) (sAll [sRaise 1]) (sAll [])]
/-- check_urn -/
def f_check_urn : Fn where
  slots := 4
  pars := 3
  pure := true
  body := sAll [sIf (eOr (eNot (e1 (pIsTy .list) (eVar 1))) (eOr (e2 (pEq true) (e1 pLen (eVar 1)) (e2 pIx (eVar 0) (eK (.int 0)))) (eNot (e1 pAll (eComp false [3] (.n 3) (iSeq (eVar 1)) (eYes) (eAnd (eCall 0 [eVar 3]) (e2 pGe (eVar 3) (eK (.int 0))))))))) (sAll [sRaise 2]) (sAll []),
    sIf (eAnd (e1 (pIsN true) (eVar 2)) (e2 pGt (e1 pSum (eVar 1)) (eVar 2))) (sAll [sRaise 2]) (sAll [])]
/-- back_of -/
def f_back_of : Fn where
  slots := 2
  pars := 2
  pure := true
  body := sAll [sRet (e2 pIx (e2 pIx (eVar 0) (eK (.int 1))) (eM1 pIndex (eCall 2 [e2 pIx (eVar 0) (eK (.int 0))]) (eVar 1)))]
/-- change_of -/
def f_change_of : Fn where
  slots := 4
  pars := 2
  pure := true
  body := sAll [sAsg (.n 2) (e2 (pMul true) (eLst false [eK (.int 0)]) (e2 pIx (eVar 0) (eK (.int 0)))),
    sAugIx pSub (eVar 2) (e2 pIx (eVar 1) (eK (.int 0))) (eK (.int 1)),
    sAugIx pSub (eVar 2) (e2 pIx (eVar 1) (eK (.int 1))) (eK (.int 1)),
    sFor (.n 3) (iSeq (eCall 6 [eVar 0, eVar 1])) (sAll [sAugIx pAddI (eVar 2) (eVar 3) (eK (.int 1))]),
    sRet (eVar 2)]
/-- can_draw -/
def f_can_draw : Fn where
  slots := 2
  pars := 2
  pure := true
  body := sAll [sRet (eAnd (e2 pGe (e2 pIx (eVar 0) (e2 pIx (eVar 1) (eK (.int 0)))) (eK (.int 1))) (e2 pGe (e2 pIx (eVar 0) (e2 pIx (eVar 1) (eK (.int 1)))) (e2 (pAdd false) (eK (.int 1)) (e1 pInt (e2 (pEq false) (e2 pIx (eVar 1) (eK (.int 0))) (e2 pIx (eVar 1) (eK (.int 1))))))))]
/-- open_draws@k01 -/
def f_open_draws : Fn where
  slots := 3
  pars := 2
  pure := false
  body := sAll [sRet (eComp true [2] (.n 2) (iSeq (eCall 2 [e2 pIx (eVar 0) (eK (.int 0))])) (eCall 8 [eVar 1, eVar 2]) (eVar 2))]
/-- behind -/
def f_behind : Fn where
  slots := 5
  pars := 3
  pure := true
  body := sAll [sRet (eComp false [3, 4] (.t [.n 3, .n 4]) (M.iZip (eVar 1) (eCall 7 [eVar 0, eVar 2])) (eYes) (e2 (pAdd false) (eVar 3) (eVar 4)))]
/-- Bag.__init__ -/
def f_Bag_init : Fn where
  slots := 4
  pars := 3
  pure := false
  body := sAll [sExpr (eCall 4 [eVar 1]),
    sExpr (eCall 5 [eVar 1, eVar 2, eK (.int 60)]),
    sAttr [0] 0 (eVar 0) (eTup [e2 pIx (eVar 1) (eK (.int 0)), eComp false [3] (.n 3) (iSeq (e2 pIx (eVar 1) (eK (.int 1)))) (eYes) (e1 (pList false) (eVar 3))]),
    sAttr [0] 1 (eVar 0) (eLst true [e1 (pList false) (eVar 2)]),
    sAttr [0] 2 (eVar 0) (eLst true [])]
/-- Bag.draw@k01 -/
def f_Bag_draw : Fn where
  slots := 3
  pars := 3
  pure := false
  body := sAll [sIf (eOr (eNot (eCall 1 [eVar 2, eK (.int 0), e2 pSub (e2 pIx (e1 (pAttr [0] 0) (eVar 0)) (eK (.int 0))) (eK (.int 1))])) (eNot (eCall 1 [eVar 1, eK (.int 0), eVar 2]))) (sAll [sRaise 3]) (sAll []),
    sIf (eNot (eCall 8 [e2 pIx (e1 (pAttr [0] 1) (eVar 0)) (e1 pNeg (eK (.int 1))), eTup [eVar 1, eVar 2]])) (sAll [sRaise 4]) (sAll []),
    sExpr (eM1 pAppend (e1 (pAttr [0] 1) (eVar 0)) (eCall 10 [e1 (pAttr [0] 0) (eVar 0), e2 pIx (e1 (pAttr [0] 1) (eVar 0)) (e1 pNeg (eK (.int 1))), eTup [eVar 1, eVar 2]])),
    sExpr (eM1 pAppend (e1 (pAttr [0] 2) (eVar 0)) (eTup [eVar 1, eVar 2])),
    sRet (e1 (pList true) (eCall 6 [e1 (pAttr [0] 0) (eVar 0), eTup [eVar 1, eVar 2]]))]
/-- Bag.undo -/
def f_Bag_undo : Fn where
  slots := 1
  pars := 1
  pure := false
  body := sAll [sIf (e2 (pEq false) (e1 (pAttr [0] 2) (eVar 0)) (eLst false [])) (sAll [sRaise 5]) (sAll []),
    sExpr (eM0 pPop (e1 (pAttr [0] 1) (eVar 0))),
    sRet (eM0 pPop (e1 (pAttr [0] 2) (eVar 0)))]
/-- Bag.marbles -/
def f_Bag_marbles : Fn where
  slots := 1
  pars := 1
  pure := false
  body := sAll [sRet (e1 (pList true) (e2 pIx (e1 (pAttr [0] 1) (eVar 0)) (e1 pNeg (eK (.int 1)))))]
/-- Bag.done -/
def f_Bag_done : Fn where
  slots := 1
  pars := 1
  pure := false
  body := sAll [sRet (e1 (pList true) (e1 (pAttr [0] 2) (eVar 0)))]
/-- Bag.can_do@k01 -/
def f_Bag_can_do : Fn where
  slots := 1
  pars := 1
  pure := false
  body := sAll [sRet (eCall 9 [e1 (pAttr [0] 0) (eVar 0), e2 pIx (e1 (pAttr [0] 1) (eVar 0)) (e1 pNeg (eK (.int 1)))])]
/-- Bag.ended -/
def f_Bag_ended : Fn where
  slots := 1
  pars := 1
  pure := false
  body := sAll [sRet (e2 pLt (e1 pSum (e2 pIx (e1 (pAttr [0] 1) (eVar 0)) (e1 pNeg (eK (.int 1))))) (eK (.int 2)))]
/-- _law_cell_at -/
def f_law_cell_at : Fn where
  slots := 2
  pars := 2
  pure := true
  body := sAll [sIf (e2 pLt (eVar 1) (e1 pLen (eVar 0))) (sAll [sRet (e2 pIx (eVar 0) (eVar 1))]) (sAll []),
    sRet (eK (.int 0))]
/-- _law_draw -/
def f_law_draw : Fn where
  slots := 4
  pars := 3
  pure := true
  body := sAll [sAsg (.n 3) (eTup [eK (.int 1000003), eK (.int 1000033), eK (.int 1000037), eK (.int 1000039), eK (.int 1000081), eK (.int 1000099), eK (.int 1000117), eK (.int 1000121), eK (.int 1000133), eK (.int 1000151), eK (.int 1000159), eK (.int 1000171), eK (.int 1000183), eK (.int 1000187), eK (.int 1000193), eK (.int 1000199)]),
    sRet (e2 pMod (e2 pMod (e2 (pAdd false) (e2 (pMul false) (eVar 0) (eK (.int 48271))) (e2 (pMul false) (eVar 1) (eK (.int 69621)))) (e2 pIx (eVar 3) (e2 pMod (eVar 1) (eK (.int 16))))) (eVar 2))]
/-- _law_value -/
def f_law_value : Fn where
  slots := 4
  pars := 2
  pure := true
  body := sAll [sIf (e2 pGe (eVar 0) (e2 pPow (eK (.int 10)) (eK (.int 18)))) (sAll [sRet (e2 pShr (e2 pMod (e2 pSub (eVar 0) (e2 pPow (eK (.int 10)) (eK (.int 18)))) (e2 pPow (eK (.int 10)) (eK (.int 40)))) (e2 (pMul false) (eK (.int 3)) (eVar 1)))]) (sAll []),
    sAsg (.n 2) (e2 pMod (eVar 0) (e2 pPow (eK (.int 10)) (eK (.int 18)))),
    sAsg (.n 3) (eCall 19 [e2 (pMul false) (e2 (pAdd false) (eVar 2) (e2 (pMul false) (eK (.int 977)) (eVar 1))) (e2 (pAdd false) (e2 (pAdd false) (eVar 2) (e2 (pMul false) (eK (.int 31)) (eVar 1))) (eK (.int 5))), e2 (pAdd false) (e2 pMod (eVar 1) (eK (.int 9))) (eK (.int 1)), eK (.int 999983)]),
    sRet (e2 (pAdd false) (e2 (pMul false) (eVar 3) (eK (.int 1000003))) (eCall 19 [e2 (pAdd false) (e2 (pMul false) (e2 (pAdd false) (eVar 2) (e2 (pMul false) (eK (.int 31)) (eVar 1))) (e2 (pAdd false) (eVar 2) (eK (.int 7)))) (e2 (pMul false) (eK (.int 977)) (eVar 1)), e2 (pAdd false) (e2 pMod (eVar 1) (eK (.int 7))) (eK (.int 2)), eK (.int 1000003)]))]
/-- _law_says -/
def f_law_says : Fn where
  slots := 2
  pars := 2
  pure := true
  body := sAll [sRet (eAnd (e1 (pIsTy .bool) (eVar 0)) (e2 (pEq false) (eVar 0) (eVar 1)))]
/-- _law_pairs -/
def f_law_pairs : Fn where
  slots := 4
  pars := 1
  pure := true
  body := sAll [sAsg (.n 1) (eLst true []),
    sFor (.n 2) (iRange1 (eVar 0)) (sAll [sExpr (eM1 pExtend (eVar 1) (eComp false [3] (.n 3) (iRange2 (eVar 2) (eVar 0)) (eYes) (eTup [eVar 2, eVar 3])))]),
    sRet (eVar 1)]
/-- _law_backs -/
def f_law_backs : Fn where
  slots := 3
  pars := 1
  pure := true
  body := sAll [sRet (e2 (pAdd false) (e2 (pAdd false) (eLst false [eLst false []]) (eComp false [1] (.n 1) (iRange1 (eVar 0)) (eYes) (eLst false [eVar 1]))) (eComp false [2] (.n 2) (iSeq (eCall 22 [eVar 0])) (eYes) (e1 (pList false) (eVar 2))))]
/-- _law_table -/
def f_law_table : Fn where
  slots := 18
  pars := 3
  pure := true
  body := sAll [sPar [3, 4] [eCall 20 [eCall 18 [eVar 0, eVar 1], eK (.int 1)], eLst true []],
    sPar [5, 6] [e2 (pAdd false) (eK (.int 1)) (e2 pMod (e2 pSub (e2 (pAdd false) (eVar 3) (eVar 2)) (eK (.int 2))) (eVar 2)), e2 pMod (e2 pFdiv (eVar 3) (eK (.int 12))) (eK (.int 5))],
    sAsg (.n 7) (e2 (pAdd false) (eK (.int 2)) (e2 pMod (e2 pFdiv (eVar 3) (eK (.int 60))) (eK (.int 4)))),
    sAsg (.n 9) (eComp false [8] (.n 8) (iRange1 (eVar 5)) (eYes) (e2 pMod (e2 pFdiv (eCall 20 [eCall 18 [eVar 0, e2 (pAdd false) (eVar 1) (eVar 8)], eK (.int 5)]) (eK (.int 3))) (eK (.int 5)))),
    sFor (.t [.n 10, .t [.n 11, .n 12]]) (M.iEnum (eCall 22 [eVar 5])) (sAll [sAsg (.n 13) (e2 pFdiv (eCall 20 [e2 (pAdd false) (eCall 18 [eVar 0, e2 (pAdd false) (eVar 1) (e2 pMod (eVar 10) (eK (.int 4)))]) (e2 (pMul false) (eK (.int 13)) (eVar 10)), eK (.int 2)]) (eK (.int 3))),
    sPar [14, 15] [e2 (pAdd false) (e2 pIx (eVar 9) (eVar 11)) (e2 pIx (eVar 9) (eVar 12)), eLst true []],
    sFor (.n 16) (iSeq (eCall 23 [eVar 5])) (sAll [sAsg (.n 17) (e2 pSub (e1 pSum (eComp false [8] (.n 8) (iSeq (eVar 16)) (eYes) (e2 pIx (eVar 9) (eVar 8)))) (eVar 14)),
    sIf (eOr (e2 (pIn true) (eVar 6) (eTup [eK (.int 1), eK (.int 2)])) (eOr (e2 (pEq false) (eVar 17) (eK (.int 0))) (eAnd (e2 (pEq false) (eVar 6) (eK (.int 1))) (e2 (pEq false) (e2 pMod (eVar 17) (eVar 7)) (eK (.int 0)))))) (sAll [sExpr (eM1 pAppend (eVar 15) (eVar 16))]) (sAll [])]),
    sIf (e2 (pEq false) (eVar 6) (eK (.int 3))) (sAll [sAsg (.n 15) (eLst true [eLst false [eVar 12], eLst false [], eLst false [eVar 12]])]) (sAll []),
    sIf (e2 (pEq false) (eVar 6) (eK (.int 4))) (sAll [sAsg (.n 15) (e2 (pTo true) (eVar 15) (e2 (pAdd false) (eK (.int 1)) (eVar 5)))]) (sAll []),
    sExpr (eM1 pAppend (eVar 4) (eIte (e2 (pEq true) (eVar 15) (eLst false [])) (e1 (pList false) (e2 pIx (eVar 15) (e2 pMod (eVar 13) (e1 pLen (eVar 15))))) (eLst false [])))]),
    sRet (eTup [eVar 5, eVar 4])]
/-- _law_urn@k01 -/
def f_law_urn : Fn where
  slots := 9
  pars := 4
  pure := false
  body := sAll [sPar [4, 5] [eLst true [], eVar 3],
    sAsg (.n 6) (eCall 20 [eCall 18 [eVar 0, eVar 1], eK (.int 3)]),
    sFor (.n 7) (iRange1 (eVar 2)) (sAll [sAsg (.n 8) (e2 pFdiv (eCall 20 [e2 (pAdd false) (eCall 18 [eVar 0, e2 (pAdd false) (eVar 1) (eVar 7)]) (e2 (pMul false) (eK (.int 7)) (eVar 7)), eK (.int 4)]) (eK (.int 3))),
    sExpr (eM1 pAppend (eVar 4) (e2 pMin2 (eVar 5) (e2 pMod (eVar 8) (e2 pIx (eTup [eK (.int 4), eK (.int 6), eK (.int 2), eK (.int 10)]) (e2 pMod (eVar 6) (eK (.int 4))))))),
    sAsg (.n 5) (e2 pSub (eVar 5) (e2 pIx (eVar 4) (e1 pNeg (eK (.int 1)))))]),
    sRet (eVar 4)]
/-- _law_behind -/
def f_law_behind : Fn where
  slots := 5
  pars := 3
  pure := true
  body := sAll [sAsg (.n 3) (e1 (pList true) (eVar 1)),
    sFor (.n 4) (iSeq (eVar 2)) (sAll [sSetIx (eVar 3) (eVar 4) (e2 pSub (e2 pIx (eVar 3) (eVar 4)) (eK (.int 1)))]),
    sIf (e2 pLt (e1 pMin1 (eVar 3)) (eK (.int 0))) (sAll [sRet (eK .non)]) (sAll []),
    sFor (.n 4) (iSeq (e2 pIx (e2 pIx (eVar 0) (eK (.int 1))) (eM1 pIndex (eCall 22 [e2 pIx (eVar 0) (eK (.int 0))]) (eVar 2)))) (sAll [sSetIx (eVar 3) (eVar 4) (e2 (pAdd false) (e2 pIx (eVar 3) (eVar 4)) (eK (.int 1)))]),
    sRet (eVar 3)]
/-- _law_copied -/
def f_law_copied : Fn where
  slots := 2
  pars := 1
  pure := false
  body := sAll [sRet (eTup [e2 pIx (eVar 0) (eK (.int 0)), eComp true [1] (.n 1) (iSeq (e2 pIx (eVar 0) (eK (.int 1)))) (eYes) (e1 (pList true) (eVar 1))])]
/-- _law_same -/
def f_law_same : Fn where
  slots := 10
  pars := 4
  pure := true
  body := sAll [sAsg (.n 4) (eLst true []),
    sFor (.n 5) (iSeq (eCall 22 [e2 pIx (eVar 1) (eK (.int 0))])) (sAll [sIf (e1 (pIsN true) (eCall 26 [eVar 1, e2 pIx (eVar 2) (e1 pNeg (eK (.int 1))), eVar 5])) (sAll [sExpr (eM1 pAppend (eVar 4) (eVar 5))]) (sAll [])]),
    sFor (.n 6) (iRange1 (eK (.int 2))) (sAll [sPar [7, 8, 9] [eMeth [(0, 14)] (eVar 0) [], eMeth [(0, 15)] (eVar 0) [], eMeth [(0, 16)] (eVar 0) []],
    sIf (eOr (e2 (pEq true) (eVar 7) (e2 pIx (eVar 2) (e1 pNeg (eK (.int 1))))) (eOr (e2 (pEq true) (eVar 8) (eVar 3)) (e2 (pEq true) (eVar 9) (eVar 4)))) (sAll [sRet (eK (.bl false))]) (sAll []),
    sIf (eNot (eCall 21 [eMeth [(0, 17)] (eVar 0) [], e2 pLt (e1 pSum (e2 pIx (eVar 2) (e1 pNeg (eK (.int 1))))) (eK (.int 2))])) (sAll [sRet (eK (.bl false))]) (sAll []),
    sIf (eNot (e1 pAll (eComp false [5] (.n 5) (iSeq (e2 (pAdd false) (eVar 8) (eVar 9))) (eYes) (e1 (pIsTy .tuple) (eVar 5))))) (sAll [sRet (eK (.bl false))]) (sAll []),
    sExpr (eM1 pAppend (eVar 7) (eK (.int 1))),
    sExpr (eM1 pAppend (eVar 8) (eTup [eK (.int 0), eK (.int 0)])),
    sExpr (eM1 pAppend (eVar 9) (eTup [eK (.int 0), eK (.int 0)]))]),
    sRet (eK (.bl true))]
/-- _law_deed_right -/
def f_law_deed_right : Fn where
  slots := 9
  pars := 5
  pure := false
  body := sAll [sIf (e2 (pEq false) (e2 pMod (eVar 4) (eK (.int 5))) (eK (.int 0))) (sAll [sAsg (.n 5) (eTold (eMeth [(0, 13)] (eVar 0) [])),
    sIf (e2 (pEq false) (eVar 3) (eLst false [])) (sAll [sRet (e2 (pEq false) (eVar 5) (eK (.str [110, 111, 116, 104, 105, 110, 103])))]) (sAll []),
    sExpr (eM0 pPop (eVar 2)),
    sRet (e2 (pEq false) (eVar 5) (eM0 pPop (eVar 3)))]) (sAll []),
    sAsg (.n 6) (eCall 22 [e2 pIx (eVar 1) (eK (.int 0))]),
    sAsg (.n 7) (e2 pIx (eVar 6) (e2 pMod (e2 pFdiv (eVar 4) (eK (.int 5))) (e1 pLen (eVar 6)))),
    sAsg (.n 8) (eCall 26 [eVar 1, e2 pIx (eVar 2) (e1 pNeg (eK (.int 1))), eVar 7]),
    sAsg (.n 5) (eTold (eMeth [(0, 12)] (eVar 0) [e2 pIx (eVar 7) (eK (.int 0)), e2 pIx (eVar 7) (eK (.int 1))])),
    sIf (e1 (pIsN false) (eVar 8)) (sAll [sRet (e2 (pEq false) (eVar 5) (eK (.str [110, 111, 116, 32, 116, 104, 101, 114, 101])))]) (sAll []),
    sExpr (eM1 pAppend (eVar 2) (eVar 8)),
    sExpr (eM1 pAppend (eVar 3) (eVar 7)),
    sIf (e2 (pEq true) (eVar 5) (e2 pIx (e2 pIx (eVar 1) (eK (.int 1))) (eM1 pIndex (eVar 6) (eVar 7)))) (sAll [sRet (eK (.bl false))]) (sAll []),
    sExpr (eM1 pAppend (eVar 5) (eK (.int 9))),
    sRet (eK (.bl true))]
/-- law -/
def f_law_k01 : Fn where
  slots := 13
  pars := 1
  pure := true
  body := sAll [sAsg (.n 1) (eCall 24 [eVar 0, eK (.int 0), eK (.int 4)]),
    sAsg (.n 2) (eCall 25 [eVar 0, eK (.int 0), e2 pIx (eVar 1) (eK (.int 0)), eK (.int 60)]),
    sSetIx (eVar 2) (eK (.int 0)) (e2 (pAdd false) (e2 pIx (eVar 2) (eK (.int 0))) (e2 pMod (eCall 20 [eCall 18 [eVar 0, eK (.int 0)], eK (.int 8)]) (e2 pSub (eK (.int 61)) (e1 pSum (eVar 2))))),
    sPar [3, 4] [eCall 27 [eVar 1], e1 (pList true) (eVar 2)],
    sPar [5, 6] [eMake 0 11 [eVar 3, eVar 4], eMake 0 11 [eVar 1, eVar 2]],
    sPar [7, 8] [eLst true [eVar 2], eLst true []],
    sExpr (eM0 pReverse (e2 pIx (eVar 3) (eK (.int 1)))),
    sExpr (eM1 pAppend (e2 pIx (e2 pIx (eVar 3) (eK (.int 1))) (eK (.int 0))) (eK (.int 9))),
    sExpr (eM1 pAppend (eVar 4) (eK (.int 0))),
    sFor (.t [.n 9, .n 10]) (M.iEnum (eVar 0)) (sAll [sIf (eNot (eCall 30 [eVar 5, eVar 1, eVar 7, eVar 8, e2 pFdiv (eCall 20 [eVar 10, e2 pMod (eVar 9) (eK (.int 5))]) (eK (.int 3))])) (sAll [sRet (eK (.bl false))]) (sAll []),
    sIf (eAnd (e2 (pEq false) (e2 pMod (eVar 9) (eK (.int 4))) (eK (.int 0))) (eNot (eCall 28 [eVar 5, eVar 1, eVar 7, eVar 8]))) (sAll [sRet (eK (.bl false))]) (sAll [])]),
    sIf (eOr (eNot (eCall 28 [eVar 5, eVar 1, eVar 7, eVar 8])) (eNot (eCall 28 [eVar 6, eVar 1, eLst false [eVar 2], eLst false []]))) (sAll [sRet (eK (.bl false))]) (sAll []),
    sAsg (.n 5) (eMake 0 11 [eTup [eK (.int 2), eLst false [eLst false [eK (.int 0)], eLst false [eK (.int 0), eK (.int 1)], eLst false []]], eLst false [eK (.int 1), eK (.int 2)]]),
    sFor (.n 11) (iRange1 (eK (.int 99))) (sAll [sIf (e2 (pEq true) (eMeth [(0, 12)] (eVar 5) [eK (.int 0), eK (.int 1)]) (eLst false [eK (.int 0), eK (.int 1)])) (sAll [sRet (eK (.bl false))]) (sAll [])]),
    sFor (.n 11) (iRange1 (eK (.int 99))) (sAll [sIf (eOr (e2 (pEq true) (eMeth [(0, 13)] (eVar 5) []) (eTup [eK (.int 0), eK (.int 1)])) (e2 (pEq true) (eMeth [(0, 14)] (eVar 5) []) (eLst false [eK (.int 1), eK (.int 2)]))) (sAll [sRet (eK (.bl false))]) (sAll [])]),
    sAsg (.n 5) (eMake 0 11 [eTup [eK (.int 2), eLst false [eLst false [eK (.int 0)], eLst false [eK (.int 1)], eLst false [eK (.int 0)]]], eLst false [eK (.int 1), eK (.int 2)]]),
    sAsg (.n 12) (eLst false [eMeth [(0, 12)] (eVar 5) [eK (.int 0), eK (.int 1)], eMeth [(0, 12)] (eVar 5) [eK (.int 1), eK (.int 1)], eMeth [(0, 17)] (eVar 5) [], eMeth [(0, 13)] (eVar 5) [], eMeth [(0, 15)] (eVar 5) [], eMeth [(0, 14)] (eVar 5) []]),
    sRet (eAnd (e2 (pEq false) (eVar 12) (eLst false [eLst false [eK (.int 1)], eLst false [eK (.int 0)], eK (.bl true), eTup [eK (.int 1), eK (.int 1)], eLst false [eTup [eK (.int 0), eK (.int 1)]], eLst false [eK (.int 0), eK (.int 2)]])) (e2 (pEq false) (eMeth [(0, 16)] (eVar 5) []) (eLst false [eTup [eK (.int 1), eK (.int 1)]])))]
/-- open_draws -/
def f_open_drawsb : Fn where
  slots := 3
  pars := 2
  pure := true
  body := sAll [sRet (eComp false [2] (.n 2) (iSeq (eCall 2 [e2 pIx (eVar 0) (eK (.int 0))])) (eCall 8 [eVar 1, eVar 2]) (eVar 2))]
/-- last_of -/
def f_last_of : Fn where
  slots := 1
  pars := 1
  pure := true
  body := sAll [sRet (eIte (e2 (pIn false) (eK (.int 1)) (eVar 0)) (eIndexA (eVar 0) (eK (.int 1))) (eK .non))]
/-- end_of -/
def f_end_of : Fn where
  slots := 5
  pars := 3
  pure := true
  body := sAll [sAsg (.n 3) (e1 (pList false) (eVar 1)),
    sFor (.n 4) (iSeq (eVar 2)) (sAll [sIf (eOr (e2 (pIn true) (eVar 4) (eCall 2 [e2 pIx (eVar 0) (eK (.int 0))])) (eNot (eCall 8 [eVar 3, eVar 4]))) (sAll [sRet (eK .non)]) (sAll []),
    sAsg (.n 3) (eCall 10 [eVar 0, eVar 3, eVar 4])]),
    sRet (eIte (e2 pLt (e1 pSum (eVar 3)) (eK (.int 2))) (eVar 3) (eK .non))]
/-- are_closed -/
def f_are_closed : Fn where
  slots := 6
  pars := 3
  pure := true
  body := sAll [sIf (e2 (pIn true) (eVar 1) (eVar 2)) (sAll [sRet (eK (.bl false))]) (sAll []),
    sFor (.n 3) (iSeq (eVar 2)) (sAll [sIf (eOr (e2 (pEq true) (e1 pLen (eVar 3)) (e2 pIx (eVar 0) (eK (.int 0)))) (e1 pAny (eComp false [4] (.n 4) (iSeq (eVar 3)) (eYes) (e2 pLt (eVar 4) (eK (.int 0)))))) (sAll [sRet (eK (.bl false))]) (sAll []),
    sIf (eNot (e1 pAll (eComp false [5] (.n 5) (iSeq (eCall 32 [eVar 0, eVar 3])) (eYes) (e2 (pIn false) (eCall 10 [eVar 0, eVar 3, eVar 5]) (eVar 2))))) (sAll [sRet (eK (.bl false))]) (sAll [])]),
    sRet (eK (.bl true))]
/-- Alike.__init__ -/
def f_Alike_init : Fn where
  slots := 4
  pars := 3
  pure := false
  body := sAll [sAttr [2] 3 (eVar 0) (e1 (pList true) (eVar 1)),
    sAttr [2] 1 (eVar 0) (eComp true [3] (.n 3) (iSeq (eVar 2)) (eYes) (e1 (pList true) (eVar 3)))]
/-- Alike.shows -/
def f_Alike_shows : Fn where
  slots := 5
  pars := 3
  pure := true
  body := sAll [sAsg (.n 3) (eCall 34 [eVar 1, eVar 2, e1 (pAttr [2] 3) (eVar 0)]),
    sIf (eOr (e1 (pIsN false) (eVar 3)) (eNot (eCall 35 [eVar 1, eVar 2, e1 (pAttr [2] 1) (eVar 0)]))) (sAll [sRet (eK (.bl false))]) (sAll []),
    sRet (e1 pAll (eComp false [4] (.n 4) (iSeq (e1 (pAttr [2] 1) (eVar 0))) (e2 pLt (e1 pSum (eVar 4)) (eK (.int 2))) (e2 (pEq false) (eCall 33 [eVar 4]) (eCall 33 [eVar 3]))))]
/-- Endless.__init__ -/
def f_Endless_init : Fn where
  slots := 3
  pars := 2
  pure := false
  body := sAll [sAttr [3] 1 (eVar 0) (eComp true [2] (.n 2) (iSeq (eVar 1)) (eYes) (e1 (pList true) (eVar 2)))]
/-- Endless.shows -/
def f_Endless_shows : Fn where
  slots := 4
  pars := 3
  pure := true
  body := sAll [sRet (eAnd (eCall 35 [eVar 1, eVar 2, e1 (pAttr [3] 1) (eVar 0)]) (e1 pAll (eComp false [3] (.n 3) (iSeq (e1 (pAttr [3] 1) (eVar 0))) (eYes) (e2 pGt (e1 pSum (eVar 3)) (eK (.int 1))))))]
/-- Differ.__init__ -/
def f_Differ_init : Fn where
  slots := 3
  pars := 3
  pure := false
  body := sAll [sAttr [4] 4 (eVar 0) (e1 (pList true) (eVar 1)),
    sAttr [4] 5 (eVar 0) (e1 (pList true) (eVar 2))]
/-- Differ.shows -/
def f_Differ_shows : Fn where
  slots := 5
  pars := 3
  pure := true
  body := sAll [sAsg (.n 4) (eComp false [3] (.n 3) (iSeq (eTup [e1 (pAttr [4] 4) (eVar 0), e1 (pAttr [4] 5) (eVar 0)])) (eYes) (eCall 34 [eVar 1, eVar 2, eVar 3])),
    sRet (eAnd (e2 (pIn true) (eK .non) (eVar 4)) (e2 (pEq true) (eCall 33 [e2 pIx (eVar 4) (eK (.int 0))]) (eCall 33 [e2 pIx (eVar 4) (eK (.int 1))])))]
/-- Led.__init__ -/
def f_Led_init : Fn where
  slots := 2
  pars := 2
  pure := false
  body := sAll [sAttr [5] 6 (eVar 0) (e1 (pList true) (eVar 1))]
/-- Led.shows -/
def f_Led_shows : Fn where
  slots := 10
  pars := 4
  pure := true
  body := sAll [sPar [4, 5] [eCall 2 [e2 pIx (eVar 1) (eK (.int 0))], e1 (pList false) (eVar 2)],
    sIf (e2 (pEq true) (e1 pLen (e1 (pAttr [5] 6) (eVar 0))) (e1 pLen (eVar 4))) (sAll [sRet (eK (.bl false))]) (sAll []),
    sFor (.t [.n 6, .n 7]) (M.iZip (eVar 4) (e1 (pAttr [5] 6) (eVar 0))) (sAll [sAsg (.n 5) (eComp false [8, 9] (.t [.n 8, .n 9]) (M.iZip (eVar 5) (eCall 7 [eVar 1, eVar 6])) (eYes) (e2 (pAdd false) (eVar 8) (e2 (pMul false) (eVar 7) (eVar 9))))]),
    sRet (e2 (pEq false) (eVar 5) (eVar 3))]
/-- Kept.__init__ -/
def f_Kept_init : Fn where
  slots := 3
  pars := 3
  pure := false
  body := sAll [sAttr [6] 7 (eVar 0) (e1 (pList true) (eVar 1)),
    sAttr [6] 8 (eVar 0) (eVar 2)]
/-- Kept.weighs_none -/
def f_Kept_weighs_none : Fn where
  slots := 5
  pars := 2
  pure := true
  body := sAll [sAsg (.n 4) (e1 pSum (eComp false [2, 3] (.t [.n 2, .n 3]) (M.iZip (e1 (pAttr [6] 7) (eVar 0)) (eVar 1)) (eYes) (e2 (pMul false) (eVar 2) (eVar 3)))),
    sRet (eIte (e2 pGt (e1 (pAttr [6] 8) (eVar 0)) (eK (.int 0))) (e2 (pEq false) (e2 pMod (eVar 4) (e1 (pAttr [6] 8) (eVar 0))) (eK (.int 0))) (e2 (pEq false) (eVar 4) (eK (.int 0))))]
/-- Kept.shows -/
def f_Kept_shows : Fn where
  slots := 7
  pars := 4
  pure := true
  body := sAll [sIf (eOr (e2 (pEq true) (e1 pLen (e1 (pAttr [6] 7) (eVar 0))) (e2 pIx (eVar 1) (eK (.int 0)))) (e2 pLt (e1 (pAttr [6] 8) (eVar 0)) (eK (.int 0)))) (sAll [sRet (eK (.bl false))]) (sAll []),
    sIf (eNot (e1 pAll (eComp false [4] (.n 4) (iSeq (eCall 2 [e2 pIx (eVar 1) (eK (.int 0))])) (eYes) (eMeth [(6, 45)] (eVar 0) [eCall 7 [eVar 1, eVar 4]])))) (sAll [sRet (eK (.bl false))]) (sAll []),
    sRet (eNot (eMeth [(6, 45)] (eVar 0) [eComp false [5, 6] (.t [.n 5, .n 6]) (M.iZip (eVar 2) (eVar 3)) (eYes) (e2 pSub (eVar 6) (eVar 5))]))]
/-- check_both -/
def f_check_both : Fn where
  slots := 2
  pars := 2
  pure := true
  body := sAll [sExpr (eCall 4 [eVar 0]),
    sExpr (eCall 5 [eVar 0, eVar 1, eK (.int 9)])]
/-- first_orders -/
def f_first_orders : Fn where
  slots := 8
  pars := 2
  pure := true
  body := sAll [sPar [2, 3] [eDict1 (e1 pTuple (eVar 1)) (eLst false []), eLst false [e1 (pList false) (eVar 1)]],
    sWhile 100000 (e2 (pEq true) (eVar 3) (eLst false [])) (sAll [sAsg (.n 4) (eLst true []),
    sFor (.n 5) (iSeq (eVar 3)) (sAll [sFor (.n 6) (iSeq (eCall 32 [eVar 0, eVar 5])) (sAll [sAsg (.n 7) (eCall 10 [eVar 0, eVar 5, eVar 6]),
    sIf (e2 (pInD true) (e1 pTuple (eVar 7)) (eVar 2)) (sAll [sSetKey (eVar 2) (e1 pTuple (eVar 7)) (e2 (pAdd false) (e2 pIxD (eVar 2) (e1 pTuple (eVar 5))) (eLst false [eVar 6])),
    sExpr (eM1 pAppend (eVar 4) (eVar 7))]) (sAll [])])]),
    sAsg (.n 3) (eVar 4)]),
    sRet (eVar 2)]
/-- judged -/
def f_judged : Fn where
  slots := 6
  pars := 2
  pure := false
  body := sAll [sExpr (eCall 47 [eVar 0, eVar 1]),
    sAsg (.n 2) (eCall 48 [eVar 0, eVar 1]),
    sAsg (.n 4) (eComp false [3] (.n 3) (iDict (eVar 2)) (eYes) (e1 (pList false) (eVar 3))),
    sAsg (.n 5) (eComp false [3] (.n 3) (iDict (eVar 2)) (e2 pLt (e1 pSum (eVar 3)) (eK (.int 2))) (eVar 3)),
    sIf (e1 pNil (eVar 5)) (sAll [sRet (eMake 3 38 [eVar 4])]) (sAll []),
    sFor (.n 3) (iSeq (eVar 5)) (sAll [sIf (e2 (pEq true) (eCall 33 [eVar 3]) (eCall 33 [e2 pIx (eVar 5) (eK (.int 0))])) (sAll [sRet (eMake 4 40 [e2 pIxD (eVar 2) (e2 pIx (eVar 5) (eK (.int 0))), e2 pIxD (eVar 2) (eVar 3)])]) (sAll [])]),
    sRet (eMake 2 36 [e2 pIxD (eVar 2) (e2 pIx (eVar 5) (eK (.int 0))), eVar 4])]
/-- lasts@k02 -/
def f_lasts : Fn where
  slots := 6
  pars := 2
  pure := false
  body := sAll [sExpr (eCall 47 [eVar 0, eVar 1]),
    sAsg (.n 3) (eComp false [2] (.n 2) (iDict (eCall 48 [eVar 0, eVar 1])) (e2 pLt (e1 pSum (eVar 2)) (eK (.int 2))) (eCall 33 [eVar 2])),
    sAsg (.n 5) (e1 pSortedSet (eComp false [4] (.n 4) (iSeq (eVar 3)) (e1 (pIsN true) (eVar 4)) (eVar 4))),
    sRet (e2 (pAdd true) (eIte (e2 (pIn false) (eK .non) (eVar 3)) (eLst false [eK .non]) (eLst false [])) (eVar 5))]
/-- longest -/
def f_longest : Fn where
  slots := 9
  pars := 2
  pure := true
  body := sAll [sAsg (.t [.n 3, .n 4]) (eTup [eComp false [2] (.n 2) (iDict (eCall 48 [eVar 0, eVar 1])) (eYes) (e1 (pList false) (eVar 2)), eDict]),
    sWhile 100000 (e2 (pEq true) (eVar 3) (eLst false [])) (sAll [sAsg (.n 5) (eLst true []),
    sFor (.n 2) (iSeq (eVar 3)) (sAll [sAsg (.n 7) (eComp false [6] (.n 6) (iSeq (eCall 32 [eVar 0, eVar 2])) (eYes) (e1 pTuple (eCall 10 [eVar 0, eVar 2, eVar 6]))),
    sIf (e1 pAll (eComp false [8] (.n 8) (iSeq (eVar 7)) (eYes) (e2 (pInD false) (eVar 8) (eVar 4)))) (sAll [sSetKey (eVar 4) (e1 pTuple (eVar 2)) (e1 pMax1 (e2 (pAdd false) (eLst false [eK (.int 0)]) (eComp false [8] (.n 8) (iSeq (eVar 7)) (eYes) (e2 (pAdd false) (eK (.int 1)) (e2 pIxD (eVar 4) (eVar 8))))))]) (sAll [sExpr (eM1 pAppend (eVar 5) (eVar 2))])]),
    sIf (e2 (pEq false) (e1 pLen (eVar 5)) (e1 pLen (eVar 3))) (sAll [sRet (eK .non)]) (sAll []),
    sAsg (.n 3) (eVar 5)]),
    sRet (e2 pIxD (eVar 4) (e1 pTuple (eVar 1)))]
/-- draws -/
def f_draws : Fn where
  slots := 5
  pars := 2
  pure := true
  body := sAll [sExpr (eCall 47 [eVar 0, eVar 1]),
    sAsg (.n 2) (eCall 48 [eVar 0, eVar 1]),
    sAsg (.n 4) (eComp false [3] (.n 3) (iDict (eVar 2)) (e2 pLt (e1 pSum (eVar 3)) (eK (.int 2))) (e1 pLen (e2 pIxD (eVar 2) (eVar 3)))),
    sRet (eTup [eIte (e2 (pEq true) (eVar 4) (eLst false [])) (e1 pMin1 (eVar 4)) (eK .non), eCall 51 [eVar 0, eVar 1]])]
/-- _law_says -/
def f_law_saysb : Fn where
  slots := 2
  pars := 2
  pure := true
  body := sAll [sRet (eAnd (e1 (pIsTy .bool) (eVar 0)) (e2 (pEq false) (eVar 0) (eVar 1)))]
/-- _law_urn -/
def f_law_urnb : Fn where
  slots := 9
  pars := 4
  pure := true
  body := sAll [sPar [4, 5] [eLst true [], eVar 3],
    sAsg (.n 6) (eCall 20 [eCall 18 [eVar 0, eVar 1], eK (.int 3)]),
    sFor (.n 7) (iRange1 (eVar 2)) (sAll [sAsg (.n 8) (e2 pFdiv (eCall 20 [e2 (pAdd false) (eCall 18 [eVar 0, e2 (pAdd false) (eVar 1) (eVar 7)]) (e2 (pMul false) (eK (.int 7)) (eVar 7)), eK (.int 4)]) (eK (.int 3))),
    sExpr (eM1 pAppend (eVar 4) (e2 pMin2 (eVar 5) (e2 pMod (eVar 8) (e2 pIx (eTup [eK (.int 4), eK (.int 6), eK (.int 2), eK (.int 10)]) (e2 pMod (eVar 6) (eK (.int 4))))))),
    sAsg (.n 5) (e2 pSub (eVar 5) (e2 pIx (eVar 4) (e1 pNeg (eK (.int 1)))))]),
    sRet (eVar 4)]
/-- _law_last -/
def f_law_last : Fn where
  slots := 1
  pars := 1
  pure := true
  body := sAll [sRet (eIte (e2 (pEq false) (e1 pSum (eVar 0)) (eK (.int 1))) (eM1 pIndex (eVar 0) (eK (.int 1))) (eK .non))]
/-- _law_end -/
def f_law_end : Fn where
  slots := 5
  pars := 3
  pure := true
  body := sAll [sAsg (.n 3) (e1 (pList false) (eVar 1)),
    sFor (.n 4) (iSeq (eVar 2)) (sAll [sIf (e2 (pIn true) (eVar 4) (eCall 22 [e2 pIx (eVar 0) (eK (.int 0))])) (sAll [sRet (eK .non)]) (sAll []),
    sAsg (.n 3) (eCall 26 [eVar 0, eVar 3, eVar 4]),
    sIf (e1 (pIsN false) (eVar 3)) (sAll [sRet (eK .non)]) (sAll [])]),
    sRet (eIte (e2 pLt (e1 pSum (eVar 3)) (eK (.int 2))) (eVar 3) (eK .non))]
/-- _law_closed -/
def f_law_closed : Fn where
  slots := 6
  pars := 3
  pure := true
  body := sAll [sIf (e2 (pIn true) (eVar 1) (eVar 2)) (sAll [sRet (eK (.bl false))]) (sAll []),
    sFor (.n 3) (iSeq (eVar 2)) (sAll [sIf (eOr (e2 (pEq true) (e1 pLen (eVar 3)) (e2 pIx (eVar 0) (eK (.int 0)))) (e2 pLt (e1 pMin1 (eVar 3)) (eK (.int 0)))) (sAll [sRet (eK (.bl false))]) (sAll []),
    sFor (.n 4) (iSeq (eCall 22 [e2 pIx (eVar 0) (eK (.int 0))])) (sAll [sAsg (.n 5) (eCall 26 [eVar 0, eVar 3, eVar 4]),
    sIf (eAnd (e1 (pIsN true) (eVar 5)) (e2 (pIn true) (eVar 5) (eVar 2))) (sAll [sRet (eK (.bl false))]) (sAll [])])]),
    sRet (eK (.bl true))]
/-- _law_due -/
def f_law_due : Fn where
  slots := 8
  pars := 3
  pure := true
  body := sAll [sIf (e1 (pIsC [(2, false), (3, false), (4, true)]) (eVar 2)) (sAll [sAsg (.n 3) (eLst false [eCall 56 [eVar 0, eVar 1, e1 (pAttr [4] 4) (eVar 2)], eCall 56 [eVar 0, eVar 1, e1 (pAttr [4] 5) (eVar 2)]]),
    sRet (eAnd (e2 (pIn true) (eK .non) (eVar 3)) (e2 (pEq true) (eCall 55 [e2 pIx (eVar 3) (eK (.int 0))]) (eCall 55 [e2 pIx (eVar 3) (eK (.int 1))])))]) (sAll []),
    sIf (eNot (eCall 57 [eVar 0, eVar 1, e1 (pAttr [2, 3] 1) (eVar 2)])) (sAll [sRet (eK (.bl false))]) (sAll []),
    sAsg (.n 5) (eComp false [4] (.n 4) (iSeq (e1 (pAttr [2, 3] 1) (eVar 2))) (e2 pLt (e1 pSum (eVar 4)) (eK (.int 2))) (eCall 55 [eVar 4])),
    sIf (e1 (pIsC [(2, false), (3, true), (4, false)]) (eVar 2)) (sAll [sRet (e2 (pEq false) (eVar 5) (eLst false []))]) (sAll []),
    sAsg (.n 6) (eCall 56 [eVar 0, eVar 1, e1 (pAttr [2] 3) (eVar 2)]),
    sRet (eAnd (e1 (pIsN true) (eVar 6)) (e1 pAll (eComp false [7] (.n 7) (iSeq (eVar 5)) (eYes) (e2 (pEq false) (eVar 7) (eCall 55 [eVar 6])))))]
/-- _law_stands -/
def f_law_stands : Fn where
  slots := 6
  pars := 2
  pure := true
  body := sAll [sPar [2, 3] [eLst true [e1 (pList false) (eVar 1)], eK (.int 0)],
    sWhile 100000 (e2 pLt (eVar 3) (e1 pLen (eVar 2))) (sAll [sFor (.n 4) (iSeq (eCall 22 [e2 pIx (eVar 0) (eK (.int 0))])) (sAll [sAsg (.n 5) (eCall 26 [eVar 0, e2 pIx (eVar 2) (eVar 3), eVar 4]),
    sIf (eAnd (e1 (pIsN true) (eVar 5)) (e2 (pIn true) (eVar 5) (eVar 2))) (sAll [sExpr (eM1 pAppend (eVar 2) (eVar 5))]) (sAll [])]),
    sAsg (.n 3) (e2 (pAdd false) (eVar 3) (eK (.int 1)))]),
    sRet (eVar 2)]
/-- _law_lengths -/
def f_law_lengths : Fn where
  slots := 10
  pars := 3
  pure := true
  body := sAll [sPar [3, 4, 5] [eLst false [e1 (pList false) (eVar 1)], eK .non, eK (.int 0)],
    sWhile 100000 (e2 (pEq true) (eVar 3) (eLst false [])) (sAll [sIf (eAnd (e1 (pIsN false) (eVar 4)) (e1 pAny (eComp false [6] (.n 6) (iSeq (eVar 3)) (eYes) (e2 pLt (e1 pSum (eVar 6)) (eK (.int 2)))))) (sAll [sAsg (.n 4) (eVar 5)]) (sAll []),
    sIf (e2 pGt (eVar 5) (eVar 2)) (sAll [sRet (eTup [eVar 4, eK .non])]) (sAll []),
    sAsg (.n 7) (eLst true []),
    sFor (.n 6) (iSeq (eVar 3)) (sAll [sFor (.n 8) (iSeq (eCall 22 [e2 pIx (eVar 0) (eK (.int 0))])) (sAll [sAsg (.n 9) (eCall 26 [eVar 0, eVar 6, eVar 8]),
    sIf (eAnd (e1 (pIsN true) (eVar 9)) (e2 (pIn true) (eVar 9) (eVar 7))) (sAll [sExpr (eM1 pAppend (eVar 7) (eVar 9))]) (sAll [])])]),
    sPar [3, 5] [eVar 7, e2 (pAdd false) (eVar 5) (eK (.int 1))]]),
    sRet (eTup [eVar 4, e2 pSub (eVar 5) (eK (.int 1))])]
/-- _law_put_back -/
def f_law_put_back (lam : Hh → R D) : Fn where
  slots := 3
  pars := 3
  pure := false
  body := sAll [sExpr (eM1 pAppend (eVar 0) (eVar 1)),
    sIf (e1 (pIsB true false) (eAskL lam (eVar 2))) (sAll [sRet (eK (.bl false))]) (sAll []),
    sExpr (eM0 pPop (eVar 0)),
    sRet (e1 (pIsB false true) (eAskL lam (eVar 2)))]
/-- _law_answer_right -/
def f_law_answer_right : Fn where
  slots := 12
  pars := 5
  pure := true
  body := sAll [sAsg (.n 5) (eLst false [e1 (pIsC [(2, false), (3, true), (4, false)]) (eVar 2), e1 (pIsC [(2, true), (3, false), (4, false)]) (eVar 2), e1 (pIsC [(2, false), (3, false), (4, true)]) (eVar 2)]),
    sIf (eOr (eNot (e1 (pIsC [(2, true), (3, true), (4, true)]) (eVar 2))) (eOr (e1 (pIsC [(2, false), (3, false), (4, false)]) (eVar 2)) (e1 (pIsC [(2, false), (3, false), (4, false)]) (eVar 2)))) (sAll [sRet (eK (.bl false))]) (sAll []),
    sIf (e2 (pEq true) (eVar 5) (eLst false [e2 (pEq false) (eVar 3) (eLst false []), e2 (pEq false) (e1 pLen (eVar 3)) (eK (.int 1)), e2 pGt (e1 pLen (eVar 3)) (eK (.int 1))])) (sAll [sRet (eK (.bl false))]) (sAll []),
    sIf (eOr (eNot (eCall 58 [eVar 0, eVar 1, eVar 2])) (e1 (pIsB true true) (eMeth [(2, 37), (3, 39), (4, 41)] (eVar 2) [eVar 0, eVar 1]))) (sAll [sRet (eK (.bl false))]) (sAll []),
    sFor (.t [.n 6, .n 7]) (iSeq (eVar 4)) (sAll [sIf (e2 (pEq false) (e2 pIx (eVar 6) (eK (.int 0))) (e2 pIx (eVar 0) (eK (.int 0)))) (sAll [sAsg (.n 8) (eCall 58 [eVar 6, eVar 7, eVar 2]),
    sIf (eNot (eCall 53 [eMeth [(2, 37), (3, 39), (4, 41)] (eVar 2) [eVar 6, eVar 7], eVar 8])) (sAll [sRet (eK (.bl false))]) (sAll [])]) (sAll [])]),
    sAsg (.n 9) (eIte (e2 pIx (eVar 5) (eK (.int 2))) (eLst true [eTup [e1 (pAttr [4] 4) (eVar 2), eTup [eK (.int 0), eK (.int 0)]], eTup [e1 (pAttr [4] 5) (eVar 2), eTup [eK (.int 0), eK (.int 0)]]]) (eLst true [eTup [e2 pIx (e1 (pAttr [2, 3] 1) (eVar 2)) (eK (.int 0)), eK (.int 0)]])),
    sIf (eNot (e2 pIx (eVar 5) (eK (.int 2)))) (sAll [sExpr (eM1 pAppend (eVar 9) (eTup [e1 (pAttr [2, 3] 1) (eVar 2), e2 (pMul false) (eLst false [e1 pNeg (eK (.int 1))]) (e2 pIx (eVar 0) (eK (.int 0)))]))]) (sAll []),
    sIf (e2 pIx (eVar 5) (eK (.int 1))) (sAll [sExpr (eM1 pAppend (eVar 9) (eTup [e1 (pAttr [2] 3) (eVar 2), eTup [eK (.int 0), eK (.int 0)]]))]) (sAll []),
    sFor (.t [.n 10, .n 11]) (iSeq (eVar 9)) (sAll [sIf (eNot (eLam2 f_law_put_back (eVar 10) (eVar 11) (eMeth [(2, 37), (3, 39), (4, 41)] (eVar 2) [eVar 0, eVar 1]))) (sAll [sRet (eK (.bl false))]) (sAll [])]),
    sRet (eK (.bl true))]
/-- _law_right -/
def f_law_right : Fn where
  slots := 16
  pars := 3
  pure := true
  body := sAll [sPar [3, 4] [eCall 27 [eVar 0], e1 (pList true) (eVar 1)],
    sAsg (.n 5) (eCall 59 [eVar 0, eVar 1]),
    sAsg (.n 7) (eComp false [6] (.n 6) (iSeq (eVar 5)) (e2 pLt (e1 pSum (eVar 6)) (eK (.int 2))) (eCall 55 [eVar 6])),
    sAsg (.n 8) (e2 (pAdd false) (eLst false [eK .non]) (eListR false (e2 pIx (eVar 0) (eK (.int 0))))),
    sAsg (.n 10) (eComp false [9] (.n 9) (iSeq (eVar 8)) (e2 (pIn false) (eVar 9) (eVar 7)) (eVar 9)),
    sAsg (.n 11) (eCall 60 [eVar 0, eVar 1, e1 pLen (eVar 5)]),
    sIf (eOr (e2 (pEq true) (eCall 50 [eVar 3, eVar 4]) (eVar 10)) (e2 (pEq true) (eCall 52 [eVar 3, eVar 4]) (eVar 11))) (sAll [sRet (eK (.bl false))]) (sAll []),
    sFor (.n 12) (iRange1 (eK (.int 2))) (sAll [sAsg (.n 13) (eCall 49 [eVar 3, eVar 4]),
    sIf (eNot (eCall 62 [eVar 0, eVar 1, eVar 13, eVar 10, eVar 2])) (sAll [sRet (eK (.bl false))]) (sAll []),
    sIf (eOr (e2 (pEq true) (eVar 3) (eVar 0)) (e2 (pEq true) (eVar 4) (eVar 1))) (sAll [sRet (eK (.bl false))]) (sAll [])]),
    sExpr (eM1 pAppend (eCall 50 [eVar 3, eVar 4]) (eK (.int 9))),
    sIf (e2 (pEq true) (eCall 50 [eVar 3, eVar 4]) (eVar 10)) (sAll [sRet (eK (.bl false))]) (sAll []),
    sExpr (eM0 pReverse (e2 pIx (eVar 3) (eK (.int 1)))),
    sExpr (eM0 pReverse (eVar 4)),
    sFor (.n 14) (iRange1 (eK (.int 2))) (sAll [sAsg (.n 15) (eCall 27 [eVar 3]),
    sIf (eOr (eNot (eCall 58 [eVar 15, eVar 4, eCall 49 [eVar 3, eVar 4]])) (e2 (pEq true) (eCall 50 [eVar 3, eVar 4]) (eCall 50 [eVar 15, e1 (pList false) (eVar 4)]))) (sAll [sRet (eK (.bl false))]) (sAll []),
    sIf (e2 (pEq true) (eCall 52 [eVar 3, eVar 4]) (eCall 52 [eVar 15, e1 (pList false) (eVar 4)])) (sAll [sRet (eK (.bl false))]) (sAll []),
    sExpr (eM0 pClear (e2 pIx (e2 pIx (eVar 3) (eK (.int 1))) (eK (.int 0))))]),
    sRet (eK (.bl true))]
/-- law -/
def f_law_k02 : Fn where
  slots := 10
  pars := 1
  pure := true
  body := sAll [sAsg (.n 1) (eTup [eTup [eK (.int 1), eLst false [eLst false [eK (.int 0)]]], eLst false [eK (.int 1)]]),
    sFor (.n 2) (iRange3 2 (eK (.int 0)) (e2 pMax2 (eK (.int 1)) (e2 pMin2 (eK (.int 4)) (e1 pLen (eVar 0))))) (sAll [sAsg (.n 3) (eCall 24 [eVar 0, eVar 2, eK (.int 4)]),
    sAsg (.n 4) (eCall 54 [eVar 0, eVar 2, e2 pIx (eVar 3) (eK (.int 0)), e2 pIx (eTup [eK (.int 9), eK (.int 7), eK (.int 5), eK (.int 4)]) (e2 pSub (e2 pIx (eVar 3) (eK (.int 0))) (eK (.int 1)))]),
    sAsg (.n 5) (eTup [e2 pIx (eVar 3) (eK (.int 0)), e1 (pRev false) (e2 pIx (eVar 3) (eK (.int 1)))]),
    sIf (eNot (eCall 63 [eVar 3, eVar 4, eLst false [eVar 1, eTup [eVar 3, e1 (pRev false) (eVar 4)], eTup [eVar 5, eVar 4]]])) (sAll [sRet (eK (.bl false))]) (sAll []),
    sAsg (.n 1) (eTup [eVar 3, eVar 4])]),
    sAsg (.t [.n 6, .n 7]) (eTup [eTup [eK (.int 2), eLst false [eLst false [eK (.int 0)], eLst false [eK (.int 1)], eLst false [eK (.int 0)]]], eTup [eK (.int 3), e2 (pMul false) (eLst false [eLst false []]) (eK (.int 6))]]),
    sAsg (.n 8) (eComp false [4] (.n 4) (iSeq (eTup [eLst false [eK (.int 0), eK (.int 0)], eLst false [eK (.int 1), eK (.int 0)], eLst false [eK (.int 3), eK (.int 4)], eLst false [eK (.int 4), eK (.int 5)]])) (eYes) (eCall 50 [eVar 6, eVar 4])),
    sIf (e2 (pEq true) (eVar 8) (eLst false [eLst false [eK .non], eLst false [eK (.int 0)], eLst false [eK (.int 0)], eLst false [eK (.int 1)]])) (sAll [sRet (eK (.bl false))]) (sAll []),
    sAsg (.n 9) (eTup [eK (.int 2), eLst false [eLst false [eK (.int 1), eK (.int 1)], eLst false [eK (.int 0), eK (.int 1)], eLst false [eK (.int 0), eK (.int 0)]]]),
    sIf (eOr (eNot (e1 (pIsC [(2, false), (3, true), (4, false)]) (eCall 49 [eVar 9, eLst false [eK (.int 1), eK (.int 2)]]))) (e2 (pEq true) (eCall 52 [eVar 9, eLst false [eK (.int 1), eK (.int 2)]]) (eTup [eK .non, eK .non]))) (sAll [sRet (eK (.bl false))]) (sAll []),
    sRet (eAnd (e2 (pEq false) (eCall 50 [eVar 7, eLst false [eK (.int 1), eK (.int 1), eK (.int 1)]]) (eLst false [eK (.int 0), eK (.int 1), eK (.int 2)])) (e2 (pEq false) (eCall 52 [eTup [eK (.int 2), eLst false [eLst false [eK (.int 0)], eLst false [eK (.int 0), eK (.int 1)], eLst false []]], eLst false [eK (.int 1), eK (.int 2)]]) (eTup [eK (.int 1), eK .non])))]
/-- _law_closed -/
def f_law_closedb : Fn where
  slots := 6
  pars := 3
  pure := true
  body := sAll [sIf (e2 (pIn true) (eVar 1) (eVar 2)) (sAll [sRet (eK (.bl false))]) (sAll []),
    sFor (.n 3) (iSeq (eVar 2)) (sAll [sIf (eOr (e2 (pEq true) (e1 pLen (eVar 3)) (e2 pIx (eVar 0) (eK (.int 0)))) (e2 pLt (e1 pMin1 (eVar 3)) (eK (.int 0)))) (sAll [sRet (eK (.bl false))]) (sAll []),
    sFor (.n 4) (iSeq (eCall 22 [e2 pIx (eVar 0) (eK (.int 0))])) (sAll [sAsg (.n 5) (eCall 26 [eVar 0, eVar 3, eVar 4]),
    sIf (eAnd (e1 (pIsN true) (eVar 5)) (e2 (pIn true) (eVar 5) (eVar 2))) (sAll [sRet (eK (.bl false))]) (sAll [])])]),
    sRet (eK (.bl true))]
/-- _law_due -/
def f_law_dueb : Fn where
  slots := 8
  pars := 3
  pure := true
  body := sAll [sIf (e1 (pIsC [(2, false), (3, false), (4, true)]) (eVar 2)) (sAll [sAsg (.n 3) (eLst false [eCall 56 [eVar 0, eVar 1, e1 (pAttr [4] 4) (eVar 2)], eCall 56 [eVar 0, eVar 1, e1 (pAttr [4] 5) (eVar 2)]]),
    sRet (eAnd (e2 (pIn true) (eK .non) (eVar 3)) (e2 (pEq true) (eCall 55 [e2 pIx (eVar 3) (eK (.int 0))]) (eCall 55 [e2 pIx (eVar 3) (eK (.int 1))])))]) (sAll []),
    sIf (eNot (eCall 65 [eVar 0, eVar 1, e1 (pAttr [2, 3] 1) (eVar 2)])) (sAll [sRet (eK (.bl false))]) (sAll []),
    sAsg (.n 5) (eComp false [4] (.n 4) (iSeq (e1 (pAttr [2, 3] 1) (eVar 2))) (e2 pLt (e1 pSum (eVar 4)) (eK (.int 2))) (eCall 55 [eVar 4])),
    sIf (e1 (pIsC [(2, false), (3, true), (4, false)]) (eVar 2)) (sAll [sRet (e2 (pEq false) (eVar 5) (eLst false []))]) (sAll []),
    sAsg (.n 6) (eCall 56 [eVar 0, eVar 1, e1 (pAttr [2] 3) (eVar 2)]),
    sRet (eAnd (e1 (pIsN true) (eVar 6)) (e1 pAll (eComp false [7] (.n 7) (iSeq (eVar 5)) (eYes) (e2 (pEq false) (eVar 7) (eCall 55 [eVar 6])))))]
/-- _law_alike_right -/
def f_law_alike_right : Fn where
  slots := 9
  pars := 4
  pure := true
  body := sAll [sPar [5, 6] [eComp true [4] (.n 4) (iSeq (eVar 3)) (eYes) (e1 (pList true) (eVar 4)), e1 (pList true) (eVar 2)],
    sAsg (.n 7) (eMake 2 36 [eVar 6, eVar 5]),
    sFor (.n 4) (iSeq (eVar 5)) (sAll [sExpr (eM1 pAppend (eVar 4) (eK (.int 0)))]),
    sExpr (eM1 pAppend (eVar 5) (eLst false [])),
    sExpr (eM1 pAppend (eVar 6) (eTup [eK (.int 0), eK (.int 0)])),
    sIf (eOr (e2 (pEq true) (e1 (pAttr [2, 3] 1) (eVar 7)) (eVar 3)) (e2 (pEq true) (e1 (pAttr [2] 3) (eVar 7)) (eVar 2))) (sAll [sRet (eK (.bl false))]) (sAll []),
    sAsg (.n 8) (eCall 128 [eVar 0, eVar 1, eVar 7]),
    sRet (eCall 53 [eMeth [(2, 37), (3, 39), (4, 41)] (eVar 7) [eVar 0, eVar 1], eVar 8])]
/-- _law_endless_right -/
def f_law_endless_right : Fn where
  slots := 7
  pars := 3
  pure := true
  body := sAll [sAsg (.n 4) (eComp true [3] (.n 3) (iSeq (eVar 2)) (eYes) (e1 (pList true) (eVar 3))),
    sAsg (.n 5) (eMake 3 38 [eVar 4]),
    sFor (.n 3) (iSeq (eVar 4)) (sAll [sExpr (eM1 pAppend (eVar 3) (eK (.int 0)))]),
    sAsg (.n 6) (eCall 128 [eVar 0, eVar 1, eVar 5]),
    sRet (eAnd (e2 (pEq false) (e1 (pAttr [2, 3] 1) (eVar 5)) (eVar 2)) (eCall 53 [eMeth [(2, 37), (3, 39), (4, 41)] (eVar 5) [eVar 0, eVar 1], eVar 6]))]
/-- _law_differ_right -/
def f_law_differ_right : Fn where
  slots := 7
  pars := 4
  pure := true
  body := sAll [sAsg (.n 4) (eLst false [e1 (pList true) (eVar 2), e1 (pList true) (eVar 3)]),
    sAsg (.n 5) (eMake 4 40 [e2 pIx (eVar 4) (eK (.int 0)), e2 pIx (eVar 4) (eK (.int 1))]),
    sExpr (eM1 pAppend (e2 pIx (eVar 4) (eK (.int 0))) (eTup [eK (.int 0), eK (.int 0)])),
    sExpr (eM1 pAppend (e2 pIx (eVar 4) (eK (.int 1))) (eTup [eK (.int 0), eK (.int 0)])),
    sAsg (.n 6) (eCall 128 [eVar 0, eVar 1, eVar 5]),
    sRet (eAnd (e2 (pEq false) (eLst false [e1 (pAttr [4] 4) (eVar 5), e1 (pAttr [4] 5) (eVar 5)]) (eLst false [eVar 2, eVar 3])) (eCall 53 [eMeth [(2, 37), (3, 39), (4, 41)] (eVar 5) [eVar 0, eVar 1], eVar 6]))]
/-- _law_orders -/
def f_law_orders : Fn where
  slots := 7
  pars := 3
  pure := true
  body := sAll [sAsg (.n 3) (eLst true [eTup [eVar 0, eVar 1], eTup [eVar 1, eVar 0], eTup [eVar 0, eVar 0], eTup [e2 (pFrom false) (eVar 0) (eK (.int 1)), eVar 1], eTup [eVar 0, e2 (pTo false) (eVar 1) (e1 pNeg (eK (.int 1)))], eTup [eLst false [], eLst false []]]),
    sAsg (.n 3) (e2 (pAdd true) (eVar 3) (eLst false [eTup [e2 (pAdd false) (eVar 0) (eLst false [eTup [eK (.int 0), eK (.int 0)]]), eVar 1], eTup [e1 (pRev false) (eVar 0), eVar 1], eTup [eVar 0, eLst false []], eTup [e2 (pAdd false) (eLst false [eTup [eK (.int 1), eK (.int 0)]]) (eVar 0), eVar 1]])),
    sAsg (.n 3) (e2 (pAdd true) (eVar 3) (eLst false [eTup [eVar 0, eLst false [eTup [eK (.int 9), eK (.int 9)]]], eTup [eLst false [eTup [e1 pNeg (eK (.int 1)), e1 pNeg (eK (.int 1))]], eVar 1]])),
    sFor (.n 4) (iRange1 (e1 pLen (eVar 0))) (sAll [sAsg (.n 5) (e2 pIx (eVar 2) (e2 pMod (e2 (pAdd false) (eVar 4) (e1 pLen (eVar 0))) (e1 pLen (eVar 2)))),
    sAsg (.n 6) (e2 (pAdd false) (e2 (pAdd false) (e2 (pTo false) (eVar 0) (eVar 4)) (eLst false [eVar 5])) (e2 (pFrom false) (eVar 0) (e2 (pAdd false) (eVar 4) (eK (.int 1))))),
    sExpr (eM1 pAppend (eVar 3) (eTup [eVar 6, eVar 1]))]),
    sRet (eVar 3)]
/-- law -/
def f_law_k03 : Fn where
  slots := 21
  pars := 1
  pure := true
  body := sAll [sFor (.n 1) (iRange3 2 (eK (.int 0)) (e2 pMax2 (eK (.int 1)) (e2 pMin2 (eK (.int 4)) (e1 pLen (eVar 0))))) (sAll [sAsg (.n 2) (eCall 24 [eVar 0, eVar 1, eK (.int 3)]),
    sAsg (.n 3) (eCall 54 [eVar 0, eVar 1, e2 pIx (eVar 2) (eK (.int 0)), eK (.int 4)]),
    sPar [4, 5] [eCall 49 [eVar 2, eVar 3], eCall 22 [e2 pIx (eVar 2) (eK (.int 0))]],
    sAsg (.n 6) (eIte (e1 (pIsC [(2, false), (3, false), (4, true)]) (eVar 4)) (eLst false [eVar 3, e2 (pMul false) (eLst false [eK (.int 0)]) (e2 pIx (eVar 2) (eK (.int 0)))]) (e1 (pAttr [2, 3] 1) (eVar 4))),
    sAsg (.n 7) (eIte (e1 (pIsC [(2, true), (3, false), (4, false)]) (eVar 4)) (e1 (pAttr [2] 3) (eVar 4)) (eLst false [])),
    sAsg (.n 8) (eVar 7),
    sIf (e1 (pIsC [(2, false), (3, false), (4, true)]) (eVar 4)) (sAll [sPar [7, 8] [e1 (pAttr [4] 4) (eVar 4), e1 (pAttr [4] 5) (eVar 4)]]) (sAll []),
    sAsg (.n 9) (eLst true [eVar 6, e1 (pRev false) (eVar 6), e2 (pAdd false) (eVar 6) (e2 (pTo false) (eVar 6) (eK (.int 1))), eLst false [], eLst false [eVar 3], e2 (pAdd false) (eVar 6) (eLst false [e2 (pMul false) (eLst false [eK (.int 0)]) (e2 pIx (eVar 2) (eK (.int 0)))])]),
    sAsg (.n 9) (e2 (pAdd true) (eVar 9) (eLst false [e2 (pAdd false) (eVar 6) (eLst false [e2 (pMul false) (eLst false [eK (.int 1)]) (e2 (pAdd false) (e2 pIx (eVar 2) (eK (.int 0))) (eK (.int 1)))]), e2 (pAdd false) (eVar 6) (eLst false [e2 (pAdd false) (eLst false [e1 pNeg (eK (.int 1))]) (e2 (pMul false) (eLst false [eK (.int 2)]) (e2 pSub (e2 pIx (eVar 2) (eK (.int 0))) (eK (.int 1))))])])),
    sFor (.n 10) (iRange1 (e2 pMin2 (eK (.int 6)) (e1 pLen (eVar 6)))) (sAll [sExpr (eM1 pAppend (eVar 9) (e2 (pAdd false) (e2 (pTo false) (eVar 6) (eVar 10)) (e2 (pFrom false) (eVar 6) (e2 (pAdd false) (eVar 10) (eK (.int 1))))))]),
    sFor (.n 11) (iSeq (eVar 9)) (sAll [sFor (.n 12) (iSeq (eTup [eVar 7, e2 (pFrom false) (eVar 7) (eK (.int 1)), eVar 8])) (sAll [sIf (eNot (eCall 66 [eVar 2, eVar 3, eVar 12, eVar 11])) (sAll [sRet (eK (.bl false))]) (sAll [])]),
    sIf (eNot (eCall 67 [eVar 2, eVar 3, eVar 11])) (sAll [sRet (eK (.bl false))]) (sAll [])]),
    sFor (.t [.n 13, .n 14]) (iSeq (eCall 69 [eVar 7, eVar 8, eVar 5])) (sAll [sIf (eNot (eCall 68 [eVar 2, eVar 3, eVar 13, eVar 14])) (sAll [sRet (eK (.bl false))]) (sAll [])])]),
    sAsg (.n 15) (eTup [eK (.int 2), e2 (pMul false) (eLst false [eLst false []]) (eK (.int 3))]),
    sAsg (.n 17) (eComp false [16] (.n 16) (iSeq (eTup [eTup [eK (.int 0), eK (.int 1)], eTup [eK (.int 1), eK (.int 1)]])) (eYes) (eMeth [(2, 37), (3, 39), (4, 41)] (eMake 4 40 [eLst false [eTup [eK (.int 0), eK (.int 0)]], eLst false [eVar 16]]) [eVar 15, eLst false [eK (.int 2), eK (.int 1)]])),
    sAsg (.n 18) (eComp false [12] (.n 12) (iSeq (eTup [eLst false [eTup [eK (.int 0), eK (.int 1)]], eLst false [], eLst false [eTup [eK (.int 0), eK (.int 0)]]])) (eYes) (eMeth [(2, 37), (3, 39), (4, 41)] (eMake 2 36 [eVar 12, eLst false [eLst false [eK (.int 1), eK (.int 1)], eLst false [eK (.int 0), eK (.int 0)]]]) [eVar 15, eLst false [eK (.int 1), eK (.int 1)]])),
    sPar [19, 20] [eMake 3 38 [eLst false [eLst false [eK (.int 1), eK (.int 1)]]], eTup [eK (.int 2), eLst false [eLst false [eK (.int 0)], eLst false [eK (.int 0), eK (.int 1)], eLst false []]]],
    sIf (e1 (pIsB true true) (eMeth [(2, 37), (3, 39), (4, 41)] (eMake 2 36 [e2 (pAdd false) (e2 (pMul false) (eLst false [eTup [eK (.int 0), eK (.int 1)]]) (eK (.int 300))) (eLst false [eTup [eK (.int 1), eK (.int 1)]]), eLst false [eLst false [eK (.int 1), eK (.int 2)], eLst false [eK (.int 1), eK (.int 0)]]]) [eVar 20, eLst false [eK (.int 1), eK (.int 2)]])) (sAll [sRet (eK (.bl false))]) (sAll []),
    sIf (eOr (e2 (pEq true) (eVar 17) (eLst false [eK (.bl true), eK (.bl false)])) (eOr (e2 (pEq true) (eVar 18) (eLst false [eK (.bl true), eK (.bl false), eK (.bl false)])) (e1 (pIsB true false) (eMeth [(2, 37), (3, 39), (4, 41)] (eVar 19) [eVar 15, eLst false [eK (.int 1), eK (.int 1)]])))) (sAll [sRet (eK (.bl false))]) (sAll []),
    sRet (eAnd (e1 (pIsB false true) (eMeth [(2, 37), (3, 39), (4, 41)] (eVar 19) [eTup [eK (.int 2), eLst false [eLst false [], eLst false [eK (.int 0), eK (.int 1)], eLst false []]], eLst false [eK (.int 1), eK (.int 1)]])) (e1 (pIsB false false) (eMeth [(2, 37), (3, 39), (4, 41)] (eMake 3 38 [eLst false []]) [eVar 15, eLst false [eK (.int 1), eK (.int 1)]])))]
/-- taken_off -/
def f_taken_off : Fn where
  slots := 5
  pars := 3
  pure := true
  body := sAll [sRet (eComp false [3, 4] (.t [.n 3, .n 4]) (M.iZip (eVar 0) (eVar 1)) (eYes) (e2 pSub (eVar 3) (e2 (pMul false) (eVar 2) (eVar 4))))]
/-- echelon -/
def f_echelon : Fn where
  slots := 12
  pars := 1
  pure := true
  body := sAll [sAsg (.t [.n 1, .n 2]) (eTup [e1 pLen (eVar 0), e1 pLen (e2 pIx (eVar 0) (eK (.int 0)))]),
    sAsg (.n 6) (eComp true [4, 5] (.t [.n 4, .n 5]) (M.iEnum (eVar 0)) (eYes) (e2 (pAdd false) (e1 (pList false) (eVar 5)) (eComp false [3] (.n 3) (iRange1 (eVar 1)) (eYes) (e1 pInt (e2 (pEq false) (eVar 4) (eVar 3)))))),
    sPar [7, 8] [eK (.int 0), eLst true []],
    sFor (.n 9) (iRange1 (eVar 2)) (sAll [sWhile 100000 (eK (.bl true)) (sAll [sAsg (.n 10) (e1 pSortedP (eComp false [4] (.n 4) (iRange2 (eVar 7) (eVar 1)) (e2 (pEq true) (e2 pIx (e2 pIx (eVar 6) (eVar 4)) (eVar 9)) (eK (.int 0))) (eTup [e1 pAbs (e2 pIx (e2 pIx (eVar 6) (eVar 4)) (eVar 9)), eVar 4]))),
    sIf (e2 (pEq false) (eVar 10) (eLst false [])) (sAll [sBreak]) (sAll []),
    sAsg (.n 11) (e2 pIx (e2 pIx (eVar 10) (eK (.int 0))) (eK (.int 1))),
    sAsg (.n 5) (eM1 pPopAt (eVar 6) (eVar 11)),
    sExpr (eM2 pInsert (eVar 6) (eVar 7) (eVar 5)),
    sFor (.n 4) (iRange2 (e2 (pAdd false) (eVar 7) (eK (.int 1))) (eVar 1)) (sAll [sSetIx (eVar 6) (eVar 4) (eCall 71 [e2 pIx (eVar 6) (eVar 4), eVar 5, e2 pFdiv (e2 pIx (e2 pIx (eVar 6) (eVar 4)) (eVar 9)) (e2 pIx (eVar 5) (eVar 9))])]),
    sIf (e2 (pEq false) (e1 pLen (eVar 10)) (eK (.int 1))) (sAll [sExpr (eM1 pAppend (eVar 8) (eVar 9)),
    sAugN pAddI 7 (eK (.int 1)),
    sBreak]) (sAll [])])]),
    sRet (eTup [eComp false [5] (.n 5) (iSeq (e2 (pTo false) (eVar 6) (eVar 7))) (eYes) (eTup [e2 (pTo false) (eVar 5) (eVar 2), e2 (pFrom false) (eVar 5) (eVar 2)]), eVar 8])]
/-- common -/
def f_common : Fn where
  slots := 2
  pars := 2
  pure := true
  body := sAll [sWhile 100000 (e2 (pEq true) (eVar 1) (eK (.int 0))) (sAll [sPar [0, 1] [eVar 1, e2 pMod (eVar 0) (eVar 1)]]),
    sRet (e1 pAbs (eVar 0))]
/-- kept_by -/
def f_kept_by : Fn where
  slots := 13
  pars := 4
  pure := true
  body := sAll [sPar [4, 5] [e2 (pMul true) (eLst false [eK (.int 0)]) (eVar 3), eK (.int 1)],
    sSetIx (eVar 4) (eVar 2) (eK (.int 1)),
    sIf (e2 (pIn false) (eVar 2) (eVar 1)) (sAll [sAsg (.n 5) (e1 pAbs (e2 pIx (e2 pIx (e2 pIx (eVar 0) (eM1 pIndex (eVar 1) (eVar 2))) (eK (.int 0))) (eVar 2)))]) (sAll []),
    sFor (.t [.t [.n 6, .n 7], .n 8]) (iSeq (e1 (pRev false) (eListZ false (eVar 0) (eVar 1)))) (sAll [sIf (e2 pLt (eVar 8) (eVar 2)) (sAll [sAsg (.n 11) (e1 pSum (eComp false [9, 10] (.t [.n 9, .n 10]) (M.iZip (eVar 4) (eVar 6)) (eYes) (e2 (pMul false) (eVar 9) (eVar 10)))),
    sAsg (.n 12) (e2 pFdiv (e2 pIx (eVar 6) (eVar 8)) (eCall 73 [e2 pIx (eVar 6) (eVar 8), eVar 11])),
    sAsg (.n 4) (eComp true [9] (.n 9) (iSeq (eVar 4)) (eYes) (e2 (pMul false) (eVar 9) (eVar 12))),
    sAugN pMulI 5 (e1 pAbs (eVar 12)),
    sSetIx (eVar 4) (eVar 8) (e2 pFdiv (e2 (pMul false) (e1 pNeg (eVar 11)) (eVar 12)) (e2 pIx (eVar 6) (eVar 8)))]) (sAll [])]),
    sRet (eTup [eVar 4, eIte (e2 (pIn false) (eVar 2) (eVar 1)) (eVar 5) (eK (.int 0))])]
/-- compared -/
def f_compared : Fn where
  slots := 19
  pars := 3
  pure := false
  body := sAll [sExpr (eCall 4 [eVar 0]),
    sExpr (eCall 5 [eVar 0, eVar 1, eK .non]),
    sExpr (eCall 5 [eVar 0, eVar 2, eK .non]),
    sAsg (.n 3) (eCall 2 [e2 pIx (eVar 0) (eK (.int 0))]),
    sAsg (.t [.n 5, .n 6]) (eCall 72 [eComp false [4] (.n 4) (iSeq (eVar 3)) (eYes) (eCall 7 [eVar 0, eVar 4])]),
    sPar [9, 10] [eComp false [7, 8] (.t [.n 7, .n 8]) (M.iZip (eVar 1) (eVar 2)) (eYes) (e2 pSub (eVar 8) (eVar 7)), e2 (pMul false) (eLst false [eK (.int 0)]) (e1 pLen (eVar 3))],
    sFor (.t [.t [.n 11, .n 12], .n 13]) (M.iZip (eVar 5) (eVar 6)) (sAll [sIf (e2 (pEq true) (e2 pMod (e2 pIx (eVar 9) (eVar 13)) (e2 pIx (eVar 11) (eVar 13))) (eK (.int 0))) (sAll [sAsg (.t [.n 14, .n 15]) (eCall 74 [eVar 5, eVar 6, eVar 13, e2 pIx (eVar 0) (eK (.int 0))]),
    sRet (eMake 6 44 [eVar 14, eVar 15])]) (sAll []),
    sAsg (.n 16) (e2 pFdiv (e2 pIx (eVar 9) (eVar 13)) (e2 pIx (eVar 11) (eVar 13))),
    sAsg (.n 9) (eCall 71 [eVar 9, eVar 11, eVar 16]),
    sAsg (.n 10) (eCall 71 [eVar 10, eVar 12, e1 pNeg (eVar 16)])]),
    sFor (.t [.n 17, .n 18]) (M.iEnum (eVar 9)) (sAll [sIf (e2 (pEq true) (eVar 18) (eK (.int 0))) (sAll [sAsg (.t [.n 14, .n 15]) (eCall 74 [eVar 5, eVar 6, eVar 17, e2 pIx (eVar 0) (eK (.int 0))]),
    sRet (eMake 6 44 [eVar 14, eVar 15])]) (sAll [])]),
    sRet (eMake 5 42 [eVar 10])]
/-- _law_whole -/
def f_law_whole : Fn where
  slots := 1
  pars := 1
  pure := true
  body := sAll [sRet (eAnd (e1 (pIsTy .int) (eVar 0)) (eNot (e1 (pIsTy .bool) (eVar 0))))]
/-- _law_table -/
def f_law_tableb : Fn where
  slots := 18
  pars := 3
  pure := true
  body := sAll [sPar [3, 4] [eCall 20 [eCall 18 [eVar 0, eVar 1], eK (.int 1)], eLst true []],
    sPar [5, 6] [e2 (pAdd false) (eK (.int 1)) (e2 pMod (e2 pSub (e2 (pAdd false) (eVar 3) (eVar 2)) (eK (.int 2))) (eVar 2)), e2 pMod (e2 pFdiv (eVar 3) (eK (.int 12))) (eK (.int 5))],
    sAsg (.n 7) (e2 (pAdd false) (eK (.int 2)) (e2 pMod (e2 pFdiv (eVar 3) (eK (.int 60))) (eK (.int 4)))),
    sAsg (.n 9) (eComp false [8] (.n 8) (iRange1 (eVar 5)) (eYes) (e2 pMod (e2 pFdiv (eCall 20 [eCall 18 [eVar 0, e2 (pAdd false) (eVar 1) (eVar 8)], eK (.int 5)]) (eK (.int 3))) (eK (.int 5)))),
    sFor (.t [.n 10, .t [.n 11, .n 12]]) (M.iEnum (eCall 22 [eVar 5])) (sAll [sAsg (.n 13) (e2 pFdiv (eCall 20 [e2 (pAdd false) (eCall 18 [eVar 0, e2 (pAdd false) (eVar 1) (e2 pMod (eVar 10) (eK (.int 4)))]) (e2 (pMul false) (eK (.int 13)) (eVar 10)), eK (.int 2)]) (eK (.int 3))),
    sPar [14, 15] [e2 (pAdd false) (e2 pIx (eVar 9) (eVar 11)) (e2 pIx (eVar 9) (eVar 12)), eLst true []],
    sFor (.n 16) (iSeq (eCall 23 [eVar 5])) (sAll [sAsg (.n 17) (e2 pSub (e1 pSum (eComp false [8] (.n 8) (iSeq (eVar 16)) (eYes) (e2 pIx (eVar 9) (eVar 8)))) (eVar 14)),
    sIf (eOr (e2 (pIn true) (eVar 6) (eTup [eK (.int 1), eK (.int 2)])) (eOr (e2 (pEq false) (eVar 17) (eK (.int 0))) (eAnd (e2 (pEq false) (eVar 6) (eK (.int 1))) (e2 (pEq false) (e2 pMod (eVar 17) (eVar 7)) (eK (.int 0)))))) (sAll [sExpr (eM1 pAppend (eVar 15) (eVar 16))]) (sAll [])]),
    sIf (e2 (pEq false) (eVar 6) (eK (.int 3))) (sAll [sAsg (.n 15) (eLst true [eLst false [eVar 12], eLst false [], eLst false [eVar 12]])]) (sAll []),
    sIf (e2 (pEq false) (eVar 6) (eK (.int 4))) (sAll [sAsg (.n 15) (e2 (pTo true) (eVar 15) (e2 (pAdd false) (eK (.int 1)) (eVar 5)))]) (sAll []),
    sExpr (eM1 pAppend (eVar 4) (eIte (e2 (pEq true) (eVar 15) (eLst false [])) (e1 (pList false) (e2 pIx (eVar 15) (e2 pMod (eVar 13) (e1 pLen (eVar 15))))) (eLst false [])))]),
    sRet (eTup [eVar 5, eVar 4])]
/-- _law_change -/
def f_law_change : Fn where
  slots := 5
  pars := 3
  pure := true
  body := sAll [sAsg (.n 3) (e2 (pMul true) (eLst false [eK (.int 0)]) (e2 pIx (eVar 0) (eK (.int 0)))),
    sFor (.n 4) (iSeq (eVar 2)) (sAll [sSetIx (eVar 3) (eVar 4) (e2 pSub (e2 pIx (eVar 3) (eVar 4)) (eK (.int 1)))]),
    sFor (.n 4) (iSeq (e2 pIx (e2 pIx (eVar 0) (eK (.int 1))) (eVar 1))) (sAll [sSetIx (eVar 3) (eVar 4) (e2 (pAdd false) (e2 pIx (eVar 3) (eVar 4)) (eK (.int 1)))]),
    sRet (eVar 3)]
/-- _law_led -/
def f_law_led : Fn where
  slots := 10
  pars := 4
  pure := true
  body := sAll [sPar [4, 5] [eCall 22 [e2 pIx (eVar 0) (eK (.int 0))], e1 (pList true) (eVar 1)],
    sIf (e2 (pEq true) (e1 pLen (eVar 3)) (e1 pLen (eVar 4))) (sAll [sRet (eK (.bl false))]) (sAll []),
    sFor (.t [.n 6, .n 7]) (M.iEnum (eVar 4)) (sAll [sFor (.t [.n 8, .n 9]) (M.iEnum (eCall 78 [eVar 0, eVar 6, eVar 7])) (sAll [sSetIx (eVar 5) (eVar 8) (e2 (pAdd false) (e2 pIx (eVar 5) (eVar 8)) (e2 (pMul false) (e2 pIx (eVar 3) (eVar 6)) (eVar 9)))])]),
    sRet (e2 (pEq false) (eVar 5) (eVar 2))]
/-- _law_kept -/
def f_law_kept : Fn where
  slots := 14
  pars := 5
  pure := true
  body := sAll [sIf (eOr (e2 (pEq true) (e1 pLen (eVar 3)) (e2 pIx (eVar 0) (eK (.int 0)))) (e2 pLt (eVar 4) (eK (.int 0)))) (sAll [sRet (eK (.bl false))]) (sAll []),
    sPar [5, 6] [eLst true [], eLst true []],
    sFor (.t [.n 7, .n 8]) (M.iEnum (eCall 22 [e2 pIx (eVar 0) (eK (.int 0))])) (sAll [sExpr (eM1 pAppend (eVar 5) (eCall 78 [eVar 0, eVar 7, eVar 8]))]),
    sExpr (eM1 pAppend (eVar 5) (eComp false [9] (.n 9) (iRange1 (e2 pIx (eVar 0) (eK (.int 0)))) (eYes) (e2 pSub (e2 pIx (eVar 2) (eVar 9)) (e2 pIx (eVar 1) (eVar 9))))),
    sFor (.n 10) (iSeq (eVar 5)) (sAll [sAsg (.n 11) (eK (.int 0)),
    sFor (.t [.n 12, .n 13]) (M.iZip (eVar 3) (eVar 10)) (sAll [sAsg (.n 11) (e2 (pAdd false) (eVar 11) (e2 (pMul false) (eVar 12) (eVar 13)))]),
    sExpr (eM1 pAppend (eVar 6) (eIte (e2 (pEq false) (eVar 4) (eK (.int 0))) (e2 (pEq false) (eVar 11) (eK (.int 0))) (e2 (pEq false) (e2 pMod (eVar 11) (eVar 4)) (eK (.int 0)))))]),
    sRet (eAnd (e1 pAll (e2 (pTo false) (eVar 6) (e1 pNeg (eK (.int 1))))) (eNot (e2 pIx (eVar 6) (e1 pNeg (eK (.int 1))))))]
/-- _law_sums_due -/
def f_law_sums_due : Fn where
  slots := 4
  pars := 4
  pure := true
  body := sAll [sIf (e1 (pIsC [(5, true), (6, false)]) (eVar 3)) (sAll [sRet (eCall 79 [eVar 0, eVar 1, eVar 2, e1 (pAttr [5] 6) (eVar 3)])]) (sAll []),
    sRet (eCall 80 [eVar 0, eVar 1, eVar 2, e1 (pAttr [6] 7) (eVar 3), e1 (pAttr [6] 8) (eVar 3)])]
/-- _law_answer_right -/
def f_law_answer_rightb : Fn where
  slots := 13
  pars := 5
  pure := true
  body := sAll [sAsg (.n 5) (eLst false [e1 (pIsC [(5, true), (6, false)]) (eVar 3), e1 (pIsC [(5, false), (6, true)]) (eVar 3)]),
    sIf (eOr (eNot (e1 (pIsC [(5, true), (6, true)]) (eVar 3))) (eOr (e2 (pEq true) (e1 pCountT (eVar 5)) (eK (.int 1))) (e1 (pIsC [(5, false), (6, false)]) (eVar 3)))) (sAll [sRet (eK (.bl false))]) (sAll []),
    sIf (eOr (e1 (pIsC [(5, false), (6, false)]) (eVar 3)) (eOr (e1 (pIsC [(5, false), (6, false)]) (eVar 3)) (eNot (eCall 81 [eVar 0, eVar 1, eVar 2, eVar 3])))) (sAll [sRet (eK (.bl false))]) (sAll []),
    sAsg (.n 6) (eIte (e2 pIx (eVar 5) (eK (.int 0))) (e1 (pAttr [5] 6) (eVar 3)) (e2 (pAdd false) (e1 (pAttr [6] 7) (eVar 3)) (eLst false [e1 (pAttr [6] 8) (eVar 3)]))),
    sIf (eOr (e1 (pIsB true true) (eMeth [(5, 43), (6, 46)] (eVar 3) [eVar 0, eVar 1, eVar 2])) (eNot (e1 pAll (eComp false [7] (.n 7) (iSeq (eVar 6)) (eYes) (eCall 76 [eVar 7]))))) (sAll [sRet (eK (.bl false))]) (sAll []),
    sFor (.t [.n 8, .n 9, .n 10]) (iSeq (eVar 4)) (sAll [sAsg (.n 11) (eCall 81 [eVar 8, eVar 9, eVar 10, eVar 3]),
    sIf (eNot (eCall 21 [eMeth [(5, 43), (6, 46)] (eVar 3) [eVar 8, eVar 9, eVar 10], eVar 11])) (sAll [sRet (eK (.bl false))]) (sAll [])]),
    sAsg (.n 12) (eIte (e2 pIx (eVar 5) (eK (.int 0))) (e1 (pAttr [5] 6) (eVar 3)) (e1 (pAttr [6] 7) (eVar 3))),
    sRet (eLam2 f_law_put_back (eVar 12) (eK (.int 0)) (eMeth [(5, 43), (6, 46)] (eVar 3) [eVar 0, eVar 1, eVar 2]))]
/-- _law_right -/
def f_law_rightb : Fn where
  slots := 8
  pars := 4
  pure := true
  body := sAll [sPar [4, 5, 6] [eCall 27 [eVar 0], e1 (pList true) (eVar 1), e1 (pList true) (eVar 2)],
    sFor (.n 7) (iRange1 (eK (.int 2))) (sAll [sIf (eNot (eCall 82 [eVar 0, eVar 1, eVar 2, eCall 75 [eVar 4, eVar 5, eVar 6], eVar 3])) (sAll [sRet (eK (.bl false))]) (sAll []),
    sIf (eOr (e2 (pEq true) (eVar 4) (eVar 0)) (e2 (pEq true) (eLst false [eVar 5, eVar 6]) (eLst false [eVar 1, eVar 2]))) (sAll [sRet (eK (.bl false))]) (sAll [])]),
    sSetIx (eVar 5) (eK (.int 0)) (e2 (pAdd false) (e2 pIx (eVar 5) (eK (.int 0))) (eK (.int 1))),
    sSetIx (eVar 6) (e1 pNeg (eK (.int 1))) (e2 (pAdd false) (e2 pIx (eVar 6) (e1 pNeg (eK (.int 1)))) (eK (.int 3))),
    sExpr (eM0 pReverse (e2 pIx (eVar 4) (eK (.int 1)))),
    sRet (eCall 81 [eVar 4, eVar 5, eVar 6, eCall 75 [eVar 4, eVar 5, eVar 6]])]
/-- _law_urns -/
def f_law_urns : Fn where
  slots := 13
  pars := 4
  pure := true
  body := sAll [sAsg (.n 4) (eLst true []),
    sFor (.n 5) (iRange1 (e2 pIx (eVar 2) (eK (.int 0)))) (sAll [sAsg (.n 6) (e2 pFdiv (eCall 20 [e2 (pAdd false) (eCall 18 [eVar 0, e2 (pAdd false) (eVar 1) (eVar 5)]) (e2 (pMul false) (eK (.int 11)) (eVar 5)), eK (.int 5)]) (eK (.int 3))),
    sExpr (eM1 pAppend (eVar 4) (e2 pMod (eVar 6) (e2 pIx (eTup [eK (.int 5), eK (.int 1000), e2 pPow (eK (.int 10)) (eK (.int 15))]) (e2 pMod (eVar 3) (eK (.int 3))))))]),
    sAsg (.n 7) (e1 (pList true) (eVar 4)),
    sFor (.t [.n 8, .n 9]) (M.iEnum (eCall 22 [e2 pIx (eVar 2) (eK (.int 0))])) (sAll [sAsg (.n 10) (e2 pSub (e2 pMod (e2 pFdiv (eCall 20 [e2 (pAdd false) (eCall 18 [eVar 0, e2 (pAdd false) (eVar 1) (e2 pMod (eVar 8) (eK (.int 3)))]) (e2 (pMul false) (eK (.int 17)) (eVar 8)), eK (.int 6)]) (eK (.int 3))) (eK (.int 7))) (eK (.int 3))),
    sFor (.t [.n 5, .n 11]) (M.iEnum (eCall 78 [eVar 2, eVar 8, eVar 9])) (sAll [sSetIx (eVar 7) (eVar 5) (e2 (pAdd false) (e2 pIx (eVar 7) (eVar 5)) (e2 (pMul false) (eVar 10) (eVar 11)))])]),
    sIf (e2 pGt (e2 pMod (e2 pFdiv (eVar 3) (eK (.int 3))) (eK (.int 3))) (eK (.int 0))) (sAll [sAsg (.n 5) (e2 pMod (e2 pFdiv (eVar 3) (eK (.int 9))) (e2 pIx (eVar 2) (eK (.int 0)))),
    sSetIx (eVar 7) (eVar 5) (e2 (pAdd false) (e2 (pAdd false) (e2 pIx (eVar 7) (eVar 5)) (eK (.int 1))) (e2 pMod (e2 pFdiv (eVar 3) (eK (.int 36))) (eK (.int 6))))]) (sAll []),
    sAsg (.n 12) (e2 pMax2 (eK (.int 0)) (e1 pNeg (e1 pMin1 (eVar 7)))),
    sRet (eTup [eComp false [10] (.n 10) (iSeq (eVar 4)) (eYes) (e2 (pAdd false) (eVar 10) (eVar 12)), eComp false [10] (.n 10) (iSeq (eVar 7)) (eYes) (e2 (pAdd false) (eVar 10) (eVar 12))])]
/-- law -/
def f_law_k04 : Fn where
  slots := 14
  pars := 1
  pure := true
  body := sAll [sFor (.n 1) (iRange3 2 (eK (.int 0)) (e2 pMax2 (eK (.int 1)) (e2 pMin2 (eK (.int 9)) (e1 pLen (eVar 0))))) (sAll [sAsg (.n 2) (eCall 77 [eVar 0, eVar 1, eK (.int 4)]),
    sAsg (.t [.n 3, .n 4]) (eCall 84 [eVar 0, eVar 1, eVar 2, eCall 20 [eCall 18 [eVar 0, eVar 1], eK (.int 7)]]),
    sAsg (.n 5) (eTup [e2 pIx (eVar 2) (eK (.int 0)), e1 (pRev false) (e2 pIx (eVar 2) (eK (.int 1)))]),
    sAsg (.n 6) (eLst true [eTup [eVar 2, eVar 4, eVar 3], eTup [eVar 5, eVar 3, eVar 4], eTup [eVar 2, eVar 3, eVar 3]]),
    sExpr (eM1 pAppend (eVar 6) (eTup [eVar 2, eVar 3, eComp false [7] (.n 7) (iSeq (eVar 4)) (eYes) (e2 (pAdd false) (eVar 7) (eK (.int 1)))])),
    sIf (eNot (eCall 83 [eVar 2, eVar 3, eVar 4, eVar 6])) (sAll [sRet (eK (.bl false))]) (sAll []),
    sIf (eOr (eNot (eCall 83 [eVar 2, e2 (pMul false) (eLst false [eK (.int 0)]) (e2 pIx (eVar 2) (eK (.int 0))), eVar 3, eLst false []])) (eNot (e1 (pIsC [(5, true), (6, false)]) (eCall 75 [eVar 2, eVar 3, eVar 3])))) (sAll [sRet (eK (.bl false))]) (sAll [])]),
    sPar [8, 9, 10] [eTup [eK (.int 2), eLst false [eLst false [eK (.int 0)], eLst false [eK (.int 1)], eLst false [eK (.int 0)]]], eTup [eK (.int 2), eLst false [eLst false [eK (.int 0), eK (.int 0)], eLst false [eK (.int 0), eK (.int 1)], eLst false [eK (.int 1), eK (.int 1)]]], eTup [eK (.int 2), e2 (pMul false) (eLst false [eLst false []]) (eK (.int 3))]],
    sAsg (.n 11) (eLst false [eTup [eVar 8, eLst false [e2 pPow (eK (.int 10)) (eK (.int 30)), eK (.int 3)], eLst false [eK (.int 1), eK (.int 2)]], eTup [eVar 8, eLst false [eK (.int 7), eK (.int 3)], eLst false [eK (.int 1), eK (.int 5)]], eTup [eVar 10, eLst false [eK (.int 3), eK (.int 0)], eLst false [eK (.int 0), eK (.int 2)]], eTup [eVar 10, eLst false [eK (.int 3), eK (.int 1)], eLst false [eK (.int 0), eK (.int 2)]]]),
    sAsg (.n 11) (e2 (pAdd false) (eVar 11) (eLst false [eTup [eTup [eK (.int 1), eLst false [eLst false []]], eLst false [eK (.int 9)], eLst false [eK (.int 4)]], eTup [eTup [eK (.int 1), eLst false [eLst false [eK (.int 0)]]], eLst false [eK (.int 9)], eLst false [eK (.int 4)]], eTup [eVar 9, eLst false [eK (.int 1), eK (.int 2)], eLst false [eK (.int 2), eK (.int 1)]], eTup [eVar 9, eLst false [eK (.int 1), eK (.int 2)], eLst false [eK (.int 1), eK (.int 2)]]])),
    sAsg (.n 11) (e2 (pAdd false) (eVar 11) (eLst false [eTup [eTup [eK (.int 2), eLst false [eLst false [eK (.int 1)], eLst false [eK (.int 0), eK (.int 1)], eLst false [eK (.int 1), eK (.int 1)]]], eLst false [eK (.int 4), eK (.int 0)], eLst false [eK (.int 0), eK (.int 2)]], eTup [eTup [eK (.int 2), eLst false [eLst false [eK (.int 1)], eLst false [eK (.int 0), eK (.int 1)], eLst false [eK (.int 1), eK (.int 1)]]], eLst false [eK (.int 5), eK (.int 0)], eLst false [eK (.int 0), eK (.int 2)]]])),
    sAsg (.n 13) (eComp false [12, 3, 4] (.t [.n 12, .n 3, .n 4]) (iSeq (eVar 11)) (eYes) (e1 (pIsC [(5, true), (6, false)]) (eCall 75 [eVar 12, eVar 3, eVar 4]))),
    sRet (e2 (pEq false) (eVar 13) (eLst false [eK (.bl false), eK (.bl true), eK (.bl false), eK (.bl true), eK (.bl false), eK (.bl true), eK (.bl false), eK (.bl true), eK (.bl true), eK (.bl false)]))]
/-- _law_table -/
def f_law_tablec : Fn where
  slots := 18
  pars := 3
  pure := true
  body := sAll [sPar [3, 4] [eCall 20 [eCall 18 [eVar 0, eVar 1], eK (.int 1)], eLst true []],
    sPar [5, 6] [e2 (pAdd false) (eK (.int 1)) (e2 pMod (e2 pSub (e2 (pAdd false) (eVar 3) (eVar 2)) (eK (.int 2))) (eVar 2)), e2 pMod (e2 pFdiv (eVar 3) (eK (.int 12))) (eK (.int 5))],
    sAsg (.n 7) (e2 (pAdd false) (eK (.int 2)) (e2 pMod (e2 pFdiv (eVar 3) (eK (.int 60))) (eK (.int 4)))),
    sAsg (.n 9) (eComp false [8] (.n 8) (iRange1 (eVar 5)) (eYes) (e2 pMod (e2 pFdiv (eCall 20 [eCall 18 [eVar 0, e2 (pAdd false) (eVar 1) (eVar 8)], eK (.int 5)]) (eK (.int 3))) (eK (.int 5)))),
    sFor (.t [.n 10, .t [.n 11, .n 12]]) (M.iEnum (eCall 22 [eVar 5])) (sAll [sAsg (.n 13) (e2 pFdiv (eCall 20 [e2 (pAdd false) (eCall 18 [eVar 0, e2 (pAdd false) (eVar 1) (e2 pMod (eVar 10) (eK (.int 4)))]) (e2 (pMul false) (eK (.int 13)) (eVar 10)), eK (.int 2)]) (eK (.int 3))),
    sPar [14, 15] [e2 (pAdd false) (e2 pIx (eVar 9) (eVar 11)) (e2 pIx (eVar 9) (eVar 12)), eLst true []],
    sFor (.n 16) (iSeq (eCall 23 [eVar 5])) (sAll [sAsg (.n 17) (e2 pSub (e1 pSum (eComp false [8] (.n 8) (iSeq (eVar 16)) (eYes) (e2 pIx (eVar 9) (eVar 8)))) (eVar 14)),
    sIf (eOr (e2 (pIn true) (eVar 6) (eTup [eK (.int 1), eK (.int 2)])) (eOr (e2 (pEq false) (eVar 17) (eK (.int 0))) (eAnd (e2 (pEq false) (eVar 6) (eK (.int 1))) (e2 (pEq false) (e2 pMod (eVar 17) (eVar 7)) (eK (.int 0)))))) (sAll [sExpr (eM1 pAppend (eVar 15) (eVar 16))]) (sAll [])]),
    sIf (e2 (pEq false) (eVar 6) (eK (.int 3))) (sAll [sAsg (.n 15) (eLst true [eLst false [eVar 12], eLst false [], eLst false [eVar 12]])]) (sAll []),
    sIf (e2 (pEq false) (eVar 6) (eK (.int 4))) (sAll [sAsg (.n 15) (e2 (pTo true) (eVar 15) (e2 (pAdd false) (eK (.int 1)) (eVar 5)))]) (sAll []),
    sExpr (eM1 pAppend (eVar 4) (eIte (e2 (pEq true) (eVar 15) (eLst false [])) (e1 (pList false) (e2 pIx (eVar 15) (e2 pMod (eVar 13) (e1 pLen (eVar 15))))) (eLst false [])))]),
    sRet (eTup [eVar 5, eVar 4])]
/-- _law_kept -/
def f_law_keptb : Fn where
  slots := 14
  pars := 5
  pure := true
  body := sAll [sIf (eOr (e2 (pEq true) (e1 pLen (eVar 3)) (e2 pIx (eVar 0) (eK (.int 0)))) (e2 pLt (eVar 4) (eK (.int 0)))) (sAll [sRet (eK (.bl false))]) (sAll []),
    sPar [5, 6] [eLst true [], eLst true []],
    sFor (.t [.n 7, .n 8]) (M.iEnum (eCall 22 [e2 pIx (eVar 0) (eK (.int 0))])) (sAll [sExpr (eM1 pAppend (eVar 5) (eCall 78 [eVar 0, eVar 7, eVar 8]))]),
    sExpr (eM1 pAppend (eVar 5) (eComp false [9] (.n 9) (iRange1 (e2 pIx (eVar 0) (eK (.int 0)))) (eYes) (e2 pSub (e2 pIx (eVar 2) (eVar 9)) (e2 pIx (eVar 1) (eVar 9))))),
    sFor (.n 10) (iSeq (eVar 5)) (sAll [sAsg (.n 11) (eK (.int 0)),
    sFor (.t [.n 12, .n 13]) (M.iZip (eVar 3) (eVar 10)) (sAll [sAsg (.n 11) (e2 (pAdd false) (eVar 11) (e2 (pMul false) (eVar 12) (eVar 13)))]),
    sExpr (eM1 pAppend (eVar 6) (eIte (e2 (pEq false) (eVar 4) (eK (.int 0))) (e2 (pEq false) (eVar 11) (eK (.int 0))) (e2 (pEq false) (e2 pMod (eVar 11) (eVar 4)) (eK (.int 0)))))]),
    sRet (eAnd (e1 pAll (e2 (pTo false) (eVar 6) (e1 pNeg (eK (.int 1))))) (eNot (e2 pIx (eVar 6) (e1 pNeg (eK (.int 1))))))]
/-- _law_led_right -/
def f_law_led_right : Fn where
  slots := 7
  pars := 4
  pure := true
  body := sAll [sAsg (.n 4) (e1 (pList true) (eVar 3)),
    sAsg (.n 5) (eMake 5 42 [eVar 4]),
    sExpr (eM1 pAppend (eVar 4) (eK (.int 0))),
    sAsg (.n 6) (eCall 79 [eVar 0, eVar 1, eVar 2, eVar 3]),
    sRet (eAnd (e2 (pEq false) (e1 (pAttr [5] 6) (eVar 5)) (eVar 3)) (eCall 21 [eMeth [(5, 43), (6, 46)] (eVar 5) [eVar 0, eVar 1, eVar 2], eVar 6]))]
/-- _law_kept_right -/
def f_law_kept_right : Fn where
  slots := 8
  pars := 5
  pure := true
  body := sAll [sAsg (.n 5) (e1 (pList true) (eVar 3)),
    sAsg (.n 6) (eMake 6 44 [eVar 5, eVar 4]),
    sExpr (eM1 pAppend (eVar 5) (eK (.int 0))),
    sAsg (.n 7) (eCall 87 [eVar 0, eVar 1, eVar 2, eVar 3, eVar 4]),
    sIf (e2 (pEq true) (eLst false [e1 (pAttr [6] 7) (eVar 6), e1 (pAttr [6] 8) (eVar 6)]) (eLst false [eVar 3, eVar 4])) (sAll [sRet (eK (.bl false))]) (sAll []),
    sRet (eCall 21 [eMeth [(5, 43), (6, 46)] (eVar 6) [eVar 0, eVar 1, eVar 2], eVar 7])]
/-- _law_bent -/
def f_law_bent : Fn where
  slots := 5
  pars := 1
  pure := true
  body := sAll [sAsg (.n 1) (eLst true [eVar 0, e2 (pMul false) (eLst false [eK (.int 0)]) (e1 pLen (eVar 0)), e1 (pRev false) (eVar 0), e2 (pAdd false) (eVar 0) (eLst false [eK (.int 0)]), e2 (pFrom false) (eVar 0) (eK (.int 1)), e2 (pMul false) (eLst false [e2 pPow (eK (.int 10)) (eK (.int 20))]) (e1 pLen (eVar 0))]),
    sAsg (.n 1) (e2 (pAdd true) (eVar 1) (eLst false [eComp false [2] (.n 2) (iSeq (eVar 0)) (eYes) (e2 (pMul false) (eK (.int 2)) (eVar 2)), eComp false [2] (.n 2) (iSeq (eVar 0)) (eYes) (e1 pNeg (eVar 2)), eListR false (e1 pLen (eVar 0))])),
    sFor (.n 3) (iRange1 (e1 pLen (eVar 0))) (sAll [sFor (.n 4) (iSeq (eTup [eK (.int 1), e1 pNeg (eK (.int 1))])) (sAll [sExpr (eM1 pAppend (eVar 1) (e2 (pAdd false) (e2 (pAdd false) (e2 (pTo false) (eVar 0) (eVar 3)) (eLst false [e2 (pAdd false) (e2 pIx (eVar 0) (eVar 3)) (eVar 4)])) (e2 (pFrom false) (eVar 0) (e2 (pAdd false) (eVar 3) (eK (.int 1))))))])]),
    sRet (eVar 1)]
/-- law -/
def f_law_k05 : Fn where
  slots := 16
  pars := 1
  pure := true
  body := sAll [sFor (.n 1) (iRange3 2 (eK (.int 0)) (e2 pMax2 (eK (.int 1)) (e2 pMin2 (eK (.int 6)) (e1 pLen (eVar 0))))) (sAll [sAsg (.n 2) (eCall 86 [eVar 0, eVar 1, eK (.int 4)]),
    sAsg (.n 3) (eCall 20 [eCall 18 [eVar 0, eVar 1], eK (.int 7)]),
    sAsg (.n 4) (eCall 54 [eVar 0, eVar 1, e2 pIx (eVar 2) (eK (.int 0)), eK (.int 30)]),
    sAsg (.n 5) (eCall 54 [eVar 0, e2 (pAdd false) (eVar 1) (eK (.int 2)), e2 pIx (eVar 2) (eK (.int 0)), eK (.int 30)]),
    sIf (e2 (pEq false) (e2 pMod (eVar 3) (eK (.int 2))) (eK (.int 0))) (sAll [sAsg (.n 5) (eComp false [6, 7] (.t [.n 6, .n 7]) (M.iEnum (eVar 4)) (eYes) (e2 (pAdd false) (eVar 7) (e2 (pMul false) (eK (.int 2)) (e2 pMod (eVar 6) (eK (.int 2))))))]) (sAll []),
    sAsg (.n 8) (eCall 75 [eVar 2, eVar 4, eVar 5]),
    sPar [9, 10, 11] [e2 (pMul false) (eLst false [eK (.int 0)]) (e1 pLen (e2 pIx (eVar 2) (eK (.int 1)))), e2 (pMul false) (eLst false [eK (.int 1)]) (e2 pIx (eVar 2) (eK (.int 0))), eK (.int 2)],
    sIf (e1 (pIsC [(5, true), (6, false)]) (eVar 8)) (sAll [sAsg (.n 9) (e1 (pAttr [5] 6) (eVar 8))]) (sAll [sPar [10, 11] [e1 (pAttr [6] 7) (eVar 8), e1 (pAttr [6] 8) (eVar 8)]]),
    sIf (eNot (e1 pAll (eComp false [12] (.n 12) (iSeq (eCall 90 [eVar 9])) (eYes) (eCall 88 [eVar 2, eVar 4, eVar 5, eVar 12])))) (sAll [sRet (eK (.bl false))]) (sAll []),
    sFor (.n 12) (iSeq (eCall 90 [eVar 10])) (sAll [sFor (.n 13) (iSeq (eTup [eVar 11, eK (.int 0), eK (.int 1), eK (.int 2), eK (.int 3), e2 (pMul false) (eK (.int 2)) (eVar 11), e2 pFdiv (eVar 11) (eK (.int 2)), e1 pNeg (eVar 11), e1 pNeg (eK (.int 2))])) (sAll [sIf (eNot (eCall 89 [eVar 2, eVar 4, eVar 5, eVar 12, eVar 13])) (sAll [sRet (eK (.bl false))]) (sAll [])])])]),
    sAsg (.n 14) (eTup [eK (.int 2), eLst false [eLst false [eK (.int 0)], eLst false [eK (.int 1)], eLst false [eK (.int 0)]]]),
    sAsg (.n 15) (eComp false [13] (.n 13) (iSeq (eTup [eK (.int 2), eK (.int 0), e1 pNeg (eK (.int 2)), eK (.int 1)])) (eYes) (eMeth [(5, 43), (6, 46)] (eMake 6 44 [eLst false [eK (.int 0), eK (.int 1)], eVar 13]) [eVar 14, eLst false [eK (.int 5), eK (.int 3)], eLst false [eK (.int 9), eK (.int 4)]])),
    sIf (eOr (e2 (pEq true) (eVar 15) (eLst false [eK (.bl true), eK (.bl false), eK (.bl false), eK (.bl false)])) (e1 (pIsB true false) (eMeth [(5, 43), (6, 46)] (eMake 6 44 [eLst false [eK (.int 0), eK (.int 1)], eK (.int 2)]) [eVar 14, eLst false [eK (.int 5), eK (.int 3)], eLst false [eK (.int 9), eK (.int 5)]]))) (sAll [sRet (eK (.bl false))]) (sAll []),
    sIf (e1 (pIsB true true) (eMeth [(5, 43), (6, 46)] (eMake 5 42 [eLst false [eK (.int 2), eK (.int 0), e1 pNeg (eK (.int 1))]]) [eVar 14, eLst false [eK (.int 5), eK (.int 3)], eLst false [eK (.int 2), eK (.int 5)]])) (sAll [sRet (eK (.bl false))]) (sAll []),
    sRet (e1 (pIsB false true) (eMeth [(5, 43), (6, 46)] (eMake 6 44 [eLst false [eK (.int 1), eK (.int 1)], eK (.int 0)]) [eTup [eK (.int 2), eLst false [eLst false [eK (.int 0), eK (.int 0)], eLst false [eK (.int 0), eK (.int 1)], eLst false [eK (.int 1), eK (.int 1)]]], eLst false [eK (.int 1), eK (.int 2)], eLst false [eK (.int 2), eK (.int 2)]]))]
/-- _wall -/
def f_wall : Fn where
  slots := 1
  pars := 1
  pure := true
  body := sAll [sWhile 100000 (eK (.bl true)) (sAll [sPass])]
/-- Led.shows -/
def f_Led_showsb : Fn where
  slots := 4
  pars := 4
  pure := true
  body := sAll [sExpr (eCall 92 [eK (.int 0)])]
/-- Kept.weighs_none -/
def f_Kept_weighs_noneb : Fn where
  slots := 2
  pars := 2
  pure := true
  body := sAll [sExpr (eCall 92 [eK (.int 1)])]
/-- Kept.shows -/
def f_Kept_showsb : Fn where
  slots := 4
  pars := 4
  pure := true
  body := sAll [sExpr (eCall 92 [eK (.int 2)])]
/-- lasts -/
def f_lastsb : Fn where
  slots := 6
  pars := 2
  pure := true
  body := sAll [sExpr (eCall 47 [eVar 0, eVar 1]),
    sAsg (.n 3) (eComp false [2] (.n 2) (iDict (eCall 48 [eVar 0, eVar 1])) (e2 pLt (e1 pSum (eVar 2)) (eK (.int 2))) (eCall 33 [eVar 2])),
    sAsg (.n 5) (e1 pSortedSet (eComp false [4] (.n 4) (iSeq (eVar 3)) (e1 (pIsN true) (eVar 4)) (eVar 4))),
    sRet (e2 (pAdd false) (eIte (e2 (pIn false) (eK .non) (eVar 3)) (eLst false [eK .non]) (eLst false [])) (eVar 5))]
/-- _law_renamed -/
def f_law_renamed : Fn where
  slots := 8
  pars := 1
  pure := true
  body := sAll [sAsg (.t [.n 1, .n 2]) (eTup [e2 pIx (eVar 0) (eK (.int 0)), eCall 22 [e2 pIx (eVar 0) (eK (.int 0))]]),
    sAsg (.n 3) (eLst true []),
    sFor (.t [.n 4, .n 5]) (iSeq (eVar 2)) (sAll [sAsg (.n 6) (e2 pIx (e2 pIx (eVar 0) (eK (.int 1))) (eM1 pIndex (eVar 2) (eTup [e2 pSub (e2 pSub (eVar 1) (eK (.int 1))) (eVar 5), e2 pSub (e2 pSub (eVar 1) (eK (.int 1))) (eVar 4)]))),
    sExpr (eM1 pAppend (eVar 3) (e1 pSorted (eComp false [7] (.n 7) (iSeq (eVar 6)) (eYes) (e2 pSub (e2 pSub (eVar 1) (eK (.int 1))) (eVar 7)))))]),
    sRet (eTup [eVar 1, eVar 3])]
/-- law -/
def f_law_k06 : Fn where
  slots := 15
  pars := 1
  pure := true
  body := sAll [sFor (.n 1) (iRange3 2 (eK (.int 0)) (e2 pMax2 (eK (.int 1)) (e2 pMin2 (eK (.int 4)) (e1 pLen (eVar 0))))) (sAll [sAsg (.n 2) (eCall 24 [eVar 0, eVar 1, eK (.int 4)]),
    sAsg (.n 3) (eCall 54 [eVar 0, eVar 1, e2 pIx (eVar 2) (eK (.int 0)), e2 pIx (eTup [eK (.int 9), eK (.int 6), eK (.int 4), eK (.int 3)]) (e2 pSub (e2 pIx (eVar 2) (eK (.int 0))) (eK (.int 1)))]),
    sAsg (.n 4) (eCall 97 [eVar 2]),
    sIf (eNot (eCall 98 [eVar 2, eVar 3, eVar 4])) (sAll [sRet (eK (.bl false))]) (sAll []),
    sAsg (.t [.n 5, .n 6]) (eTup [eCall 54 [eVar 0, e2 (pAdd false) (eVar 1) (eK (.int 1)), e2 pIx (eVar 2) (eK (.int 0)), eK (.int 20)], e2 pMod (eCall 20 [eCall 18 [eVar 0, eVar 1], eK (.int 7)]) (e2 pPow (eK (.int 10)) (eK (.int 12)))]),
    sAsg (.n 7) (e1 (pIsC [(5, true), (6, false)]) (eCall 75 [eVar 2, eVar 3, eVar 5])),
    sPar [9, 10] [eComp false [8] (.n 8) (iSeq (eVar 3)) (eYes) (e2 (pAdd false) (eVar 8) (eVar 6)), eComp false [8] (.n 8) (iSeq (eVar 5)) (eYes) (e2 (pAdd false) (eVar 8) (eVar 6))],
    sFor (.t [.n 11, .n 12, .n 13]) (iSeq (eTup [eTup [eVar 2, eVar 9, eVar 10], eTup [eVar 2, eVar 10, eVar 9], eTup [eVar 4, e1 (pRev false) (eVar 3), e1 (pRev false) (eVar 5)]])) (sAll [sIf (e2 (pEq true) (e1 (pIsC [(5, true), (6, false)]) (eCall 75 [eVar 11, eVar 12, eVar 13])) (eVar 7)) (sAll [sRet (eK (.bl false))]) (sAll [])])]),
    sAsg (.n 14) (eTup [eK (.int 4), eComp false [12, 5] (.t [.n 12, .n 5]) (iSeq (eCall 22 [eK (.int 4)])) (eYes) (eLst false [e2 pMod (e2 (pAdd false) (eVar 12) (eVar 5)) (eK (.int 4))])]),
    sIf (eOr (e2 (pEq true) (eCall 96 [eVar 14, eLst false [eK (.int 2), eK (.int 2), eK (.int 2), eK (.int 1)]]) (eLst false [eK (.int 1)])) (e2 (pEq true) (eCall 52 [eVar 14, eLst false [eK (.int 2), eK (.int 2), eK (.int 2), eK (.int 1)]]) (eTup [eK (.int 6), eK (.int 6)]))) (sAll [sRet (eK (.bl false))]) (sAll []),
    sRet (e1 (pIsC [(5, true), (6, false)]) (eCall 75 [eTup [eK (.int 1), eLst false [eLst false [eK (.int 0)]]], eLst false [eK (.int 0)], eLst false [eK (.int 5)]]))]
/-- Alike.shows -/
def f_Alike_showsb : Fn where
  slots := 3
  pars := 3
  pure := true
  body := sAll [sExpr (eCall 92 [eK (.int 0)])]
/-- Endless.shows -/
def f_Endless_showsb : Fn where
  slots := 3
  pars := 3
  pure := true
  body := sAll [sExpr (eCall 92 [eK (.int 1)])]
/-- Differ.shows -/
def f_Differ_showsb : Fn where
  slots := 3
  pars := 3
  pure := true
  body := sAll [sExpr (eCall 92 [eK (.int 2)])]
/-- Led.shows -/
def f_Led_showsc : Fn where
  slots := 4
  pars := 4
  pure := true
  body := sAll [sExpr (eCall 92 [eK (.int 3)])]
/-- Kept.weighs_none -/
def f_Kept_weighs_nonec : Fn where
  slots := 2
  pars := 2
  pure := true
  body := sAll [sExpr (eCall 92 [eK (.int 4)])]
/-- Kept.shows -/
def f_Kept_showsc : Fn where
  slots := 4
  pars := 4
  pure := true
  body := sAll [sExpr (eCall 92 [eK (.int 5)])]
/-- _law_due_of -/
def f_law_due_of : Fn where
  slots := 2
  pars := 1
  pure := true
  body := sAll [sRet (e2 (pAdd false) (eComp false [1] (.n 1) (iRange1 (eK (.int 5))) (eYes) (e2 (pEq false) (eVar 0) (eVar 1))) (eLst false [eK (.bl true)]))]
/-- _law_strange -/
def f_law_strange : Fn where
  slots := 1
  pars := 1
  pure := true
  body := sAll [sRet (eLst false [eK .non, eK (.str [49]), eK (.bl true), eK (.bl false), eLst false [eK (.int 1)], eTup [eK (.int 1)], eK .edict, e1 pNeg (eK (.int 1)), e2 pSub (e1 pNeg (eK (.int 1))) (eVar 0)])]
/-- _law_no_tables -/
def f_law_no_tables : Fn where
  slots := 3
  pars := 1
  pure := true
  body := sAll [sAsg (.n 1) (eLst true [eK .non, eK (.int 5), eK (.str [116, 97, 98, 108, 101]), eTup [], eK .edict, eLst false [eK (.int 1), eLst false [eLst false [eK (.int 0)]]], eTup [eK (.int 1)], eTup [eK (.int 1), eLst false [eLst false [eK (.int 0)]], eK (.int 0)], eTup [eK (.int 1), eK .non], eTup [eK (.int 1), eTup [eLst false [eK (.int 0)]]], eTup [eK (.int 1), eLst false []]]),
    sAsg (.n 1) (e2 (pAdd true) (eVar 1) (eLst false [eTup [eK (.int 1), eLst false [eLst false [eK (.int 0)], eLst false [eK (.int 0)]]], eTup [eK (.int 2), eLst false [eLst false [eK (.int 0)], eLst false [eK (.int 0)]]], eTup [eK (.int 1), eLst false [eK (.int 0)]], eTup [eK (.int 1), eLst false [eK .non]], eTup [eK (.int 1), eLst false [eTup [eK (.int 0)]]], eTup [eK (.int 1), eLst false [eLst false [eK (.int 0), eK (.int 0), eK (.int 0)]]]])),
    sAsg (.n 1) (e2 (pAdd true) (eVar 1) (eLst false [eTup [eK (.int 2), eLst false [eLst false [eK (.int 1), eK (.int 0)], eLst false [], eLst false []]], eTup [eK (.int 2), eLst false [eLst false [], eLst false [], eLst false [eK (.int 1), eK (.int 0)]]], eTup [eK (.int 2), eLst false [eLst false [eK (.int 0)], eLst false [eK (.int 0)], eLst false [eK (.int 0), eK (.int 0), eK (.int 1)]]], eTup [eK (.int 2), eLst false [eLst false [eK (.int 0)], eLst false [eK (.int 0)], eK .non]]])),
    sExpr (eM1 pAppend (eVar 1) (eTup [eK (.int 2), eLst false [eLst false [eK (.int 0)], eLst false [eK (.int 0)], eTup [eK (.int 0)]]])),
    sFor (.n 2) (iSeq (e2 (pAdd false) (eCall 108 [eVar 0]) (eLst false [eK (.int 0), eK (.int 5), e2 (pAdd false) (eK (.int 4)) (eVar 0)]))) (sAll [sExpr (eM1 pAppend (eVar 1) (eTup [eVar 2, eLst false [eLst false [eK (.int 0)]]]))]),
    sFor (.n 2) (iSeq (e2 (pAdd false) (eCall 108 [eVar 0]) (eLst false [eK (.int 2), e2 (pAdd false) (eK (.int 1)) (eVar 0)]))) (sAll [sAsg (.n 1) (e2 (pAdd true) (eVar 1) (eLst false [eTup [eK (.int 2), eLst false [eLst false [eVar 2], eLst false [eK (.int 0)], eLst false [eK (.int 0)]]], eTup [eK (.int 2), eLst false [eLst false [eK (.int 0)], eLst false [], eLst false [eK (.int 0), eVar 2]]]]))]),
    sRet (eVar 1)]
/-- _law_no_urns -/
def f_law_no_urns : Fn where
  slots := 3
  pars := 1
  pure := true
  body := sAll [sAsg (.n 1) (eLst false [eK .non, eK (.int 5), eK (.str [49, 49]), eTup [eK (.int 1), eK (.int 1)], eK .edict, eLst false [], eLst false [eK (.int 1)], eLst false [eK (.int 1), eK (.int 1), eK (.int 1)]]),
    sFor (.n 2) (iSeq (eCall 108 [eVar 0])) (sAll [sAsg (.n 1) (e2 (pAdd false) (eVar 1) (eLst false [eLst false [eVar 2, eK (.int 0)], eLst false [eK (.int 1), eVar 2]]))]),
    sRet (eVar 1)]
/-- _law_spoiled_right -/
def f_law_spoiled_right : Fn where
  slots := 7
  pars := 1
  pure := true
  body := sAll [sFor (.n 1) (iSeq (e2 (pAdd false) (eCall 108 [eVar 0]) (eLst false [eK (.int 4), e2 (pAdd false) (eK (.int 3)) (eVar 0)]))) (sAll [sFor (.n 2) (iSeq (eTup [e2 pMod (eVar 0) (eK (.int 10)), eK (.int 9)])) (sAll [sAsg (.n 4) (eComp true [3] (.n 3) (iRange1 (eK (.int 10))) (eYes) (eLst false [e2 pMod (eVar 3) (eK (.int 4))])),
    sSetIx (eVar 4) (eVar 2) (eIte (e2 (pEq false) (e2 pMod (e2 pFdiv (eVar 0) (eK (.int 10))) (eK (.int 2))) (eK (.int 0))) (eLst false [eVar 1]) (eLst false [eK (.int 0), eVar 1])),
    sIf (e2 (pEq true) (eKinds (eCall 49 [eTup [eK (.int 4), eVar 4], eK .non])) (eCall 107 [eK (.int 0)])) (sAll [sRet (eK (.bl false))]) (sAll []),
    sIf (e2 (pEq true) (eKinds (eCall 75 [eTup [eK (.int 4), eVar 4], eK .non, eK .non])) (eCall 107 [eK (.int 0)])) (sAll [sRet (eK (.bl false))]) (sAll [])])]),
    sAsg (.n 5) (eTup [eK (.int 4), eComp false [3] (.n 3) (iRange1 (eK (.int 10))) (eYes) (eLst false [e2 pMod (eVar 3) (eK (.int 4))])]),
    sFor (.n 1) (iSeq (eCall 108 [eVar 0])) (sAll [sFor (.n 2) (iSeq (eTup [e2 pMod (e2 pFdiv (eVar 0) (eK (.int 20))) (eK (.int 4)), eK (.int 3)])) (sAll [sAsg (.n 6) (eLst true [eK (.int 1), eK (.int 1), eK (.int 1), eK (.int 1)]),
    sSetIx (eVar 6) (eVar 2) (eVar 1),
    sIf (e2 (pEq true) (eKinds (eCall 96 [eVar 5, eVar 6])) (eCall 107 [eK (.int 1)])) (sAll [sRet (eK (.bl false))]) (sAll []),
    sIf (e2 (pEq true) (eKinds (eCall 75 [eVar 5, eLst false [eK (.int 1), eK (.int 1), eK (.int 1), eK (.int 1)], eVar 6])) (eCall 107 [eK (.int 1)])) (sAll [sRet (eK (.bl false))]) (sAll [])])]),
    sRet (eK (.bl true))]
/-- _law_right -/
def f_law_rightc : Fn where
  slots := 4
  pars := 1
  pure := true
  body := sAll [sAsg (.n 1) (eTup [eK (.int 2), eLst false [eLst false [eK (.int 0)], eLst false [eK (.int 1)], eLst false [eK (.int 0)]]]),
    sFor (.n 2) (iSeq (eCall 109 [eVar 0])) (sAll [sFor (.n 3) (iSeq (eTup [eK (.fn 49), eK (.fn 96), eK (.fn 52)])) (sAll [sIf (e2 (pEq true) (eKinds (eCallV [49, 52, 96] (eVar 3) [eVar 2, eK .non])) (eCall 107 [eK (.int 0)])) (sAll [sRet (eK (.bl false))]) (sAll [])]),
    sIf (e2 (pEq true) (eKinds (eCall 75 [eVar 2, eK .non, eK .non])) (eCall 107 [eK (.int 0)])) (sAll [sRet (eK (.bl false))]) (sAll [])]),
    sFor (.n 2) (iSeq (e2 (pAdd false) (eCall 110 [eVar 0]) (eLst false [eLst false [eK (.int 9), eK (.int 1)], eLst false [eK (.int 0), eK (.int 10)], eLst false [e2 (pAdd false) (eK (.int 9)) (eVar 0), eK (.int 0)], eLst false [eK (.int 5), e2 (pAdd false) (eK (.int 4)) (eVar 0)]]))) (sAll [sFor (.n 3) (iSeq (eTup [eK (.fn 49), eK (.fn 96), eK (.fn 52)])) (sAll [sIf (e2 (pEq true) (eKinds (eCallV [49, 52, 96] (eVar 3) [eVar 1, eVar 2])) (eCall 107 [eK (.int 1)])) (sAll [sRet (eK (.bl false))]) (sAll [])])]),
    sFor (.n 2) (iSeq (eCall 110 [eVar 0])) (sAll [sIf (e2 (pEq true) (eKinds (eCall 75 [eVar 1, eVar 2, eK .non])) (eCall 107 [eK (.int 1)])) (sAll [sRet (eK (.bl false))]) (sAll []),
    sIf (e2 (pEq true) (eKinds (eCall 75 [eVar 1, eVar 2, eLst false [eVar 0, eK (.int 0)]])) (eCall 107 [eK (.int 1)])) (sAll [sRet (eK (.bl false))]) (sAll []),
    sIf (e2 (pEq true) (eKinds (eCall 75 [eVar 1, eLst false [eVar 0, eK (.int 0)], eVar 2])) (eCall 107 [eK (.int 1)])) (sAll [sRet (eK (.bl false))]) (sAll [])]),
    sRet (eK (.bl true))]
/-- law -/
def f_law_k07 : Fn where
  slots := 4
  pars := 1
  pure := true
  body := sAll [sFor (.n 1) (iSeq (eTup [eK (.int 0), eK (.int 3)])) (sAll [sAsg (.n 2) (e2 (pAdd false) (eK (.int 1)) (e2 pMod (eCall 20 [eCall 18 [eVar 0, eVar 1], eK (.int 7)]) (e2 pPow (eK (.int 10)) (eK (.int 20))))),
    sIf (eOr (eNot (eCall 112 [eVar 2])) (eNot (eCall 111 [eVar 2]))) (sAll [sRet (eK (.bl false))]) (sAll [])]),
    sAsg (.n 3) (eTup [eK (.int 4), e2 (pMul false) (eLst false [eLst false []]) (eK (.int 10))]),
    sRet (eAnd (e2 (pEq false) (eCall 52 [eVar 3, eLst false [eK (.int 9), eK (.int 0), eK (.int 0), eK (.int 0)]]) (eTup [eK (.int 4), eK (.int 4)])) (eAnd (e2 (pEq false) (eCall 96 [eTup [eK (.int 1), eLst false [eLst false [eK (.int 0)]]], eLst false [eK (.int 9)]]) (eLst false [eK (.int 0)])) (e2 (pEq false) (eCall 96 [eTup [eK (.int 1), eLst false [eLst false [eK (.int 0), eK (.int 0)]]], eLst false [eK (.int 9)]]) (eLst false []))))]
/-- Bag.draw -/
def f_Bag_drawb : Fn where
  slots := 3
  pars := 3
  pure := false
  body := sAll [sIf (eOr (eNot (eCall 1 [eVar 2, eK (.int 0), e2 pSub (e2 pIx (e1 (pAttr [0] 0) (eVar 0)) (eK (.int 0))) (eK (.int 1))])) (eNot (eCall 1 [eVar 1, eK (.int 0), eVar 2]))) (sAll [sRaise 3]) (sAll []),
    sIf (eNot (eCall 8 [e2 pIx (e1 (pAttr [0] 1) (eVar 0)) (e1 pNeg (eK (.int 1))), eTup [eVar 1, eVar 2]])) (sAll [sRaise 4]) (sAll []),
    sExpr (eM1 pAppend (e1 (pAttr [0] 1) (eVar 0)) (eCall 10 [e1 (pAttr [0] 0) (eVar 0), e2 pIx (e1 (pAttr [0] 1) (eVar 0)) (e1 pNeg (eK (.int 1))), eTup [eVar 1, eVar 2]])),
    sExpr (eM1 pAppend (e1 (pAttr [0] 2) (eVar 0)) (eTup [eVar 1, eVar 2])),
    sRet (e1 (pList false) (eCall 6 [e1 (pAttr [0] 0) (eVar 0), eTup [eVar 1, eVar 2]]))]
/-- Bag.can_do -/
def f_Bag_can_dob : Fn where
  slots := 1
  pars := 1
  pure := false
  body := sAll [sRet (eCall 32 [e1 (pAttr [0] 0) (eVar 0), e2 pIx (e1 (pAttr [0] 1) (eVar 0)) (e1 pNeg (eK (.int 1)))])]
/-- _law_right -/
def f_law_rightd : Fn where
  slots := 6
  pars := 1
  pure := true
  body := sAll [sAsg (.n 1) (eTup [eK (.int 2), eLst false [eLst false [eK (.int 0)], eLst false [eK (.int 1)], eLst false [eK (.int 0)]]]),
    sFor (.n 2) (iSeq (eCall 109 [eVar 0])) (sAll [sIf (e2 (pEq true) (eKinds (eMake 0 11 [eVar 2, eK .non])) (eCall 107 [eK (.int 0)])) (sAll [sRet (eK (.bl false))]) (sAll [])]),
    sFor (.n 2) (iSeq (e2 (pAdd false) (eCall 110 [eVar 0]) (eLst false [eLst false [eK (.int 60), eK (.int 1)], eLst false [eK (.int 0), eK (.int 61)], eLst false [e2 (pAdd false) (eK (.int 60)) (eVar 0), eK (.int 0)]]))) (sAll [sIf (e2 (pEq true) (eKinds (eMake 0 11 [eVar 1, eVar 2])) (eCall 107 [eK (.int 1)])) (sAll [sRet (eK (.bl false))]) (sAll [])]),
    sAsg (.n 3) (eMake 0 11 [eVar 1, eLst false [eK (.int 2), eK (.int 1)]]),
    sIf (eOr (e2 (pEq true) (eKinds (eMeth [(0, 13)] (eVar 3) [])) (eCall 107 [eK (.int 4)])) (e2 (pEq true) (eMeth [(0, 114)] (eVar 3) [eK (.int 0), eK (.int 0)]) (eLst false [eK (.int 0)]))) (sAll [sRet (eK (.bl false))]) (sAll []),
    sAsg (.n 4) (eLst false [eMeth [(0, 14)] (eVar 3) [], eMeth [(0, 15)] (eVar 3) [], eMeth [(0, 115)] (eVar 3) []]),
    sFor (.n 2) (iSeq (e2 (pAdd false) (eCall 108 [eVar 0]) (eLst false [eK (.int 2), e2 (pAdd false) (eK (.int 1)) (eVar 0)]))) (sAll [sIf (e2 (pEq true) (eKinds (eMeth [(0, 114)] (eVar 3) [eVar 2, eK (.int 1)])) (eCall 107 [eK (.int 2)])) (sAll [sRet (eK (.bl false))]) (sAll []),
    sIf (e2 (pEq true) (eKinds (eMeth [(0, 114)] (eVar 3) [eK (.int 0), eVar 2])) (eCall 107 [eK (.int 2)])) (sAll [sRet (eK (.bl false))]) (sAll [])]),
    sIf (e2 (pEq true) (eKinds (eMeth [(0, 114)] (eVar 3) [eK (.int 1), eK (.int 0)])) (eCall 107 [eK (.int 2)])) (sAll [sRet (eK (.bl false))]) (sAll []),
    sFor (.n 5) (iSeq (eTup [eK (.int 0), eK (.int 1)])) (sAll [sIf (e2 (pEq true) (eKinds (eMeth [(0, 114)] (eVar 3) [eVar 5, eVar 5])) (eCall 107 [eK (.int 3)])) (sAll [sRet (eK (.bl false))]) (sAll [])]),
    sIf (eOr (e2 (pEq true) (eLst false [eMeth [(0, 14)] (eVar 3) [], eMeth [(0, 15)] (eVar 3) [], eMeth [(0, 115)] (eVar 3) []]) (eVar 4)) (e2 (pEq true) (eMeth [(0, 13)] (eVar 3) []) (eTup [eK (.int 0), eK (.int 0)]))) (sAll [sRet (eK (.bl false))]) (sAll []),
    sRet (eAnd (e2 (pEq false) (eKinds (eMeth [(0, 13)] (eVar 3) [])) (eCall 107 [eK (.int 4)])) (e2 (pEq false) (eMeth [(0, 14)] (eVar 3) []) (eLst false [eK (.int 2), eK (.int 1)])))]
/-- law -/
def f_law_k08 : Fn where
  slots := 4
  pars := 1
  pure := true
  body := sAll [sFor (.n 1) (iSeq (eTup [eK (.int 0), eK (.int 3)])) (sAll [sIf (eNot (eCall 116 [e2 (pAdd false) (eK (.int 1)) (e2 pMod (eCall 20 [eCall 18 [eVar 0, eVar 1], eK (.int 7)]) (e2 pPow (eK (.int 10)) (eK (.int 20))))])) (sAll [sRet (eK (.bl false))]) (sAll [])]),
    sAsg (.n 2) (eMake 0 11 [eTup [eK (.int 4), e2 (pMul false) (eLst false [eLst false []]) (eK (.int 10))], eLst false [eK (.int 60), eK (.int 0), eK (.int 0), eK (.int 0)]]),
    sFor (.n 3) (iRange1 (eK (.int 30))) (sAll [sIf (e2 (pEq true) (eMeth [(0, 114)] (eVar 2) [eK (.int 0), eK (.int 0)]) (eLst false [])) (sAll [sRet (eK (.bl false))]) (sAll [])]),
    sIf (eOr (e2 (pEq true) (eKinds (eMeth [(0, 114)] (eVar 2) [eK (.int 0), eK (.int 0)])) (eCall 107 [eK (.int 3)])) (e1 (pIsB true true) (eMeth [(0, 17)] (eVar 2) []))) (sAll [sRet (eK (.bl false))]) (sAll []),
    sIf (e2 (pEq true) (eKinds (eMeth [(0, 114)] (eVar 2) [eK (.int 3), eK (.int 2)])) (eCall 107 [eK (.int 2)])) (sAll [sRet (eK (.bl false))]) (sAll []),
    sRet (eAnd (e2 (pEq false) (eMeth [(0, 115)] (eMake 0 11 [eTup [eK (.int 1), eLst false [eLst false [eK (.int 0)]]], eLst false [eK (.int 0)]]) []) (eLst false [])) (eAnd (e2 (pEq false) (eMeth [(0, 14)] (eVar 2) []) (eLst false [eK (.int 0), eK (.int 0), eK (.int 0), eK (.int 0)])) (e2 (pEq false) (e1 pLen (eMeth [(0, 15)] (eVar 2) [])) (eK (.int 30)))))]
/-- _law_order_right -/
def f_law_order_right : Fn where
  slots := 6
  pars := 3
  pure := true
  body := sAll [sAsg (.n 3) (eMake 0 11 [eVar 0, eVar 1]),
    sFor (.t [.n 4, .n 5]) (iSeq (eVar 2)) (sAll [sIf (e2 (pIn true) (eTup [eVar 4, eVar 5]) (eMeth [(0, 115)] (eVar 3) [])) (sAll [sRet (eK (.bl false))]) (sAll []),
    sExpr (eMeth [(0, 114)] (eVar 3) [eVar 4, eVar 5])]),
    sIf (eOr (e1 (pIsB true true) (eMeth [(0, 17)] (eVar 3) [])) (eOr (e2 (pEq true) (eMeth [(0, 15)] (eVar 3) []) (eVar 2)) (e2 pLt (e1 pLen (eVar 2)) (e2 pIx (eCall 52 [eVar 0, eVar 1]) (eK (.int 0)))))) (sAll [sRet (eK (.bl false))]) (sAll []),
    sIf (e2 (pIn true) (eCall 55 [eMeth [(0, 14)] (eVar 3) []]) (eCall 96 [eVar 0, eVar 1])) (sAll [sRet (eK (.bl false))]) (sAll []),
    sWhile 100000 (e2 (pEq true) (eMeth [(0, 15)] (eVar 3) []) (eLst false [])) (sAll [sExpr (eMeth [(0, 13)] (eVar 3) [])]),
    sRet (e2 (pEq false) (eMeth [(0, 14)] (eVar 3) []) (eVar 1))]
/-- law -/
def f_law_k09 : Fn where
  slots := 13
  pars := 1
  pure := true
  body := sAll [sFor (.n 1) (iRange3 2 (eK (.int 0)) (e2 pMax2 (eK (.int 1)) (e2 pMin2 (eK (.int 4)) (e1 pLen (eVar 0))))) (sAll [sAsg (.n 2) (eCall 24 [eVar 0, eVar 1, eK (.int 4)]),
    sAsg (.n 3) (eCall 54 [eVar 0, eVar 1, e2 pIx (eVar 2) (eK (.int 0)), e2 pIx (eTup [eK (.int 9), eK (.int 6), eK (.int 4), eK (.int 4)]) (e2 pSub (e2 pIx (eVar 2) (eK (.int 0))) (eK (.int 1)))]),
    sPar [4, 5] [eCall 49 [eVar 2, eVar 3], eMake 0 11 [eVar 2, eVar 3]],
    sAsg (.n 6) (eIte (e1 (pIsC [(2, true), (3, false), (4, false)]) (eVar 4)) (eLst false [e1 (pAttr [2] 3) (eVar 4)]) (eLst false [])),
    sIf (e1 (pIsC [(2, false), (3, false), (4, true)]) (eVar 4)) (sAll [sAsg (.n 6) (eLst false [e1 (pAttr [4] 4) (eVar 4), e1 (pAttr [4] 5) (eVar 4)])]) (sAll []),
    sIf (eNot (e1 pAll (eComp false [7] (.n 7) (iSeq (eVar 6)) (eYes) (eCall 118 [eVar 2, eVar 3, eVar 7])))) (sAll [sRet (eK (.bl false))]) (sAll []),
    sAsg (.n 8) (eLst true [eVar 3]),
    sFor (.n 9) (iRange1 (eK (.int 9))) (sAll [sAsg (.n 10) (eMeth [(0, 115)] (eVar 5) []),
    sIf (e2 (pEq true) (eVar 10) (eLst false [])) (sAll [sAsg (.t [.n 11, .n 12]) (e2 pIx (eVar 10) (e2 pMod (e2 pFdiv (eCall 20 [eCall 18 [eVar 0, e2 (pAdd false) (eVar 1) (eVar 9)], e2 pMod (eVar 9) (eK (.int 5))]) (eK (.int 3))) (e1 pLen (eVar 10)))),
    sExpr (eMeth [(0, 114)] (eVar 5) [eVar 11, eVar 12]),
    sExpr (eM1 pAppend (eVar 8) (eMeth [(0, 14)] (eVar 5) [])),
    sIf (eNot (e1 (pIsC [(5, true), (6, false)]) (eCall 75 [eVar 2, eVar 3, eMeth [(0, 14)] (eVar 5) []]))) (sAll [sRet (eK (.bl false))]) (sAll [])]) (sAll [])]),
    sIf (eAnd (e1 (pIsC [(2, false), (3, true), (4, false)]) (eVar 4)) (eMeth [(0, 17)] (eVar 5) [])) (sAll [sRet (eK (.bl false))]) (sAll []),
    sAsg (.n 12) (eCall 54 [eVar 0, e2 (pAdd false) (eVar 1) (eK (.int 1)), e2 pIx (eVar 2) (eK (.int 0)), eK (.int 6)]),
    sIf (eAnd (e1 (pIsC [(5, false), (6, true)]) (eCall 75 [eVar 2, eVar 3, eVar 12])) (e2 (pIn false) (eVar 12) (eVar 8))) (sAll [sRet (eK (.bl false))]) (sAll []),
    sIf (eAnd (e1 (pIsN true) (e2 pIx (eCall 52 [eVar 2, eVar 3]) (eK (.int 1)))) (e2 pGt (e1 pLen (eMeth [(0, 15)] (eVar 5) [])) (e2 pIx (eCall 52 [eVar 2, eVar 3]) (eK (.int 1))))) (sAll [sRet (eK (.bl false))]) (sAll [])]),
    sRet (e1 (pIsC [(2, true), (3, false), (4, false)]) (eCall 49 [eTup [eK (.int 1), eLst false [eLst false [eK (.int 0)]]], eLst false [eK (.int 3)]]))]
/-- Bag.ended -/
def f_Bag_endedb : Fn where
  slots := 1
  pars := 1
  pure := false
  body := sAll [sExpr (eCall 92 [eK (.int 0)])]
/-- _law_made_into -/
def f_law_made_into (lam : Hh → R D) : Fn where
  slots := 7
  pars := 3
  pure := false
  body := sAll [sAsg (.n 3) (e1 (pList false) (eVar 0)),
    sFor (.t [.n 4, .n 5]) (iSeq (eVar 1)) (sAll [sExpr (eM0 pClear (eVar 0)),
    sExpr (eM1 pExtend (eVar 0) (eVar 4)),
    sAsg (.n 6) (eAskL lam (eVar 2)),
    sIf (eOr (eNot (e1 (pIsTy .bool) (eVar 6))) (e2 (pEq true) (eVar 6) (eVar 5))) (sAll [sRet (eK (.bl false))]) (sAll [])]),
    sExpr (eM0 pClear (eVar 0)),
    sExpr (eM1 pExtend (eVar 0) (eVar 3)),
    sRet (e1 (pIsB false true) (eAskL lam (eVar 2)))]
/-- _law_fields_right -/
def f_law_fields_right : Fn where
  slots := 9
  pars := 2
  pure := true
  body := sAll [sAsg (.n 2) (eCall 49 [eVar 0, eLst false [eK (.int 2), eK (.int 1)]]),
    sAsg (.n 3) (eLst false [eTup [e2 (pAdd false) (e1 (pAttr [2] 3) (eVar 2)) (eLst false [eTup [eK (.int 0), eK (.int 0)]]), eK (.bl false)], eTup [eLst false [eTup [eK (.int 0), eK (.int 1)], eTup [eK (.int 0), eK (.int 1)]], eK (.bl true)], eTup [eLst false [eTup [eK (.int 0), eK (.int 0)], eTup [eK (.int 0), eK (.int 1)]], eK (.bl true)], eTup [eLst false [], eK (.bl false)]]),
    sIf (eNot (eLam2 f_law_made_into (e1 (pAttr [2] 3) (eVar 2)) (eVar 3) (eMeth [(2, 37), (3, 39), (4, 41)] (eVar 2) [eVar 0, eLst false [eK (.int 2), eK (.int 1)]]))) (sAll [sRet (eK (.bl false))]) (sAll []),
    sAsg (.n 5) (eComp false [4] (.n 4) (iSeq (e1 (pAttr [2, 3] 1) (eVar 2))) (e2 (pEq true) (eVar 4) (eLst false [eK (.int 2), eK (.int 1)])) (eVar 4)),
    sAsg (.n 3) (eLst false [eTup [e1 (pRev false) (e1 (pAttr [2, 3] 1) (eVar 2)), eK (.bl true)], eTup [eVar 5, eK (.bl false)], eTup [e2 (pMul false) (e1 (pAttr [2, 3] 1) (eVar 2)) (eK (.int 2)), eK (.bl true)], eTup [eLst false [], eK (.bl false)]]),
    sIf (eNot (eLam2 f_law_made_into (e1 (pAttr [2, 3] 1) (eVar 2)) (eVar 3) (eMeth [(2, 37), (3, 39), (4, 41)] (eVar 2) [eVar 0, eLst false [eK (.int 2), eK (.int 1)]]))) (sAll [sRet (eK (.bl false))]) (sAll []),
    sAsg (.n 6) (eCall 49 [eVar 1, eLst false [eK (.int 2), eK (.int 1)]]),
    sAsg (.n 3) (eLst false [eTup [e2 (pAdd false) (e1 (pAttr [4] 5) (eVar 6)) (eLst false [eTup [eK (.int 0), eK (.int 0)]]), eK (.bl false)], eTup [e1 (pAttr [4] 4) (eVar 6), eK (.bl false)], eTup [eLst false [], eK (.bl false)]]),
    sIf (eNot (eLam2 f_law_made_into (e1 (pAttr [4] 5) (eVar 6)) (eVar 3) (eMeth [(2, 37), (3, 39), (4, 41)] (eVar 6) [eVar 1, eLst false [eK (.int 2), eK (.int 1)]]))) (sAll [sRet (eK (.bl false))]) (sAll []),
    sAsg (.n 7) (eCall 75 [eVar 0, eLst false [eK (.int 5), eK (.int 3)], eLst false [eK (.int 2), eK (.int 5)]]),
    sAsg (.n 3) (eLst false [eTup [eLst false [eK (.int 2), eK (.int 0), e1 pNeg (eK (.int 1))], eK (.bl true)], eTup [eLst false [eK (.int 0), eK (.int 2), e1 pNeg (eK (.int 1))], eK (.bl true)], eTup [eLst false [eK (.int 7), e1 pNeg (eK (.int 5)), e1 pNeg (eK (.int 1))], eK (.bl true)], eTup [eLst false [eK (.int 0), eK (.int 0), e1 pNeg (eK (.int 1))], eK (.bl false)], eTup [eLst false [eK (.int 2), eK (.int 0), e1 pNeg (eK (.int 1)), eK (.int 0)], eK (.bl false)]]),
    sIf (eNot (eLam2 f_law_made_into (e1 (pAttr [5] 6) (eVar 7)) (eVar 3) (eMeth [(5, 43), (6, 46)] (eVar 7) [eVar 0, eLst false [eK (.int 5), eK (.int 3)], eLst false [eK (.int 2), eK (.int 5)]]))) (sAll [sRet (eK (.bl false))]) (sAll []),
    sAsg (.n 8) (eCall 75 [eVar 0, eLst false [eK (.int 5), eK (.int 3)], eLst false [eK (.int 9), eK (.int 4)]]),
    sAsg (.n 3) (eLst false [eTup [e2 (pAdd false) (e1 (pAttr [6] 7) (eVar 8)) (eLst false [eK (.int 0)]), eK (.bl false)], eTup [eLst false [eK (.int 0), eK (.int 0)], eK (.bl false)], eTup [e2 (pTo false) (e1 (pAttr [6] 7) (eVar 8)) (eK (.int 1)), eK (.bl false)]]),
    sRet (eLam2 f_law_made_into (e1 (pAttr [6] 7) (eVar 8)) (eVar 3) (eMeth [(5, 43), (6, 46)] (eVar 8) [eVar 0, eLst false [eK (.int 5), eK (.int 3)], eLst false [eK (.int 9), eK (.int 4)]]))]
/-- _law_hand_right -/
def f_law_hand_right : Fn where
  slots := 13
  pars := 3
  pure := true
  body := sAll [sAsg (.n 3) (eLst true [eTup [eLst false [], eLst false [eLst false [eK (.int 1), eK (.int 0)], eLst false [eK (.int 0), eK (.int 1)]], eLst false [eK (.int 1), eK (.int 0)], eK (.bl false)], eTup [eLst false [], eLst false [eLst false [eK (.int 1), eK (.int 0)], eLst false [eK (.int 1), eK (.int 0)]], eLst false [eK (.int 1), eK (.int 0)], eK (.bl true)]]),
    sFor (.n 4) (iSeq (eTup [eLst false [eTup [eK (.int 0), eK (.int 1)]], eLst false [eTup [eK (.int 0), eK (.int 0)]]])) (sAll [sExpr (eM1 pAppend (eVar 3) (eTup [eVar 4, eLst false [eLst false [eK (.int 2), eK (.int 1)], eLst false [eK (.int 0), eK (.int 1)], eLst false [eK (.int 1), eK (.int 0)]], eLst false [eK (.int 2), eK (.int 1)], eK (.bl false)]))]),
    sExpr (eM1 pAppend (eVar 3) (eTup [eLst false [eTup [eK (.int 0), eK (.int 1)]], eLst false [eLst false [eK (.int 1), eK (.int 1)], eLst false [eK (.int 0), eK (.int 0)], eLst false [eK (.int 3), eK (.int 0)]], eLst false [eK (.int 1), eK (.int 1)], eK (.bl false)])),
    sExpr (eM1 pAppend (eVar 3) (eTup [eLst false [eTup [eK (.int 0), eK (.int 1)]], eLst false [eLst false [eK (.int 1), eK (.int 1)], eLst false [eK (.int 0), eK (.int 0)], eLst false [eK (.int 4), eK (.int 0)], eLst false [eK (.int 2), eK (.int 0)]], eLst false [eK (.int 1), eK (.int 1)], eK (.bl true)])),
    sFor (.t [.n 4, .n 5, .n 6, .n 7]) (iSeq (eVar 3)) (sAll [sIf (e2 (pEq true) (eMeth [(2, 37), (3, 39), (4, 41)] (eMake 2 36 [eVar 4, eVar 5]) [eVar 1, eVar 6]) (eVar 7)) (sAll [sRet (eK (.bl false))]) (sAll [])]),
    sAsg (.n 8) (eTup [eK (.int 2), eLst false [eLst false [], eLst false [eK (.int 0), eK (.int 1)], eLst false []]]),
    sFor (.t [.n 5, .n 7]) (iSeq (eTup [eTup [eLst false [eLst false [eK (.int 1), eK (.int 1)], eLst false [eK (.int 2), eK (.int 0)]], eK (.bl false)], eTup [eLst false [eLst false [eK (.int 1), eK (.int 1)], eLst false [eK (.int 1), eK (.int 1)]], eK (.bl true)], eTup [eLst false [eLst false [eK (.int 1), eK (.int 1)], eLst false [eK (.int 0), eK (.int 3)]], eK (.bl false)]])) (sAll [sIf (e2 (pEq true) (eMeth [(2, 37), (3, 39), (4, 41)] (eMake 3 38 [eVar 5]) [eVar 8, eLst false [eK (.int 1), eK (.int 1)]]) (eVar 7)) (sAll [sRet (eK (.bl false))]) (sAll [])]),
    sFor (.t [.n 9, .n 10, .n 7]) (iSeq (eTup [eTup [eLst false [eK (.int 0), eK (.int 5)], eK (.int 10), eK (.bl true)], eTup [eLst false [eK (.int 2), eK (.int 1)], eK (.int 2), eK (.bl true)], eTup [eLst false [eK (.int 0), e1 pNeg (eK (.int 1))], eK (.int 2), eK (.bl true)], eTup [eLst false [eK (.int 1), eK (.int 1)], eK (.int 2), eK (.bl false)]])) (sAll [sIf (e2 (pEq true) (eMeth [(5, 43), (6, 46)] (eMake 6 44 [eVar 9, eVar 10]) [eVar 0, eLst false [eK (.int 5), eK (.int 3)], eLst false [eK (.int 9), eK (.int 4)]]) (eVar 7)) (sAll [sRet (eK (.bl false))]) (sAll [])]),
    sAsg (.n 11) (eTup [eK (.int 3), eLst false [eLst false [], eLst false [eK (.int 0), eK (.int 1)], eLst false [], eLst false [], eLst false [], eLst false []]]),
    sPar [6, 12] [eLst false [eK (.int 1), eK (.int 1), eK (.int 1)], e2 (pMul false) (eLst false [eTup [eK (.int 0), eK (.int 1)]]) (eVar 2)],
    sIf (e1 (pIsB true true) (eMeth [(2, 37), (3, 39), (4, 41)] (eMake 4 40 [e2 (pAdd false) (eVar 12) (eLst false [eTup [eK (.int 0), eK (.int 2)]]), e2 (pAdd false) (e2 (pFrom false) (eVar 12) (eK (.int 1))) (eLst false [eTup [eK (.int 1), eK (.int 2)]])]) [eVar 11, eVar 6])) (sAll [sRet (eK (.bl false))]) (sAll []),
    sRet (e1 (pIsB false false) (eMeth [(2, 37), (3, 39), (4, 41)] (eMake 4 40 [e2 (pAdd false) (eVar 12) (eLst false [eTup [eK (.int 0), eK (.int 2)]]), e2 (pAdd false) (e2 (pFrom false) (eVar 12) (eK (.int 1))) (eLst false [eTup [eK (.int 0), eK (.int 2)]])]) [eVar 11, eVar 6]))]
/-- _law_nine_right -/
def f_law_nine_right : Fn where
  slots := 4
  pars := 0
  pure := true
  body := sAll [sAsg (.n 0) (eTup [eK (.int 4), e2 (pMul false) (eLst false [eLst false []]) (eK (.int 10))]),
    sAsg (.n 2) (eTup [eK (.int 4), eComp false [1] (.n 1) (iSeq (eCall 22 [eK (.int 4)])) (eYes) (eLst false [e2 pIx (eVar 1) (eK (.int 1))])]),
    sIf (eOr (e2 (pEq true) (eCall 96 [eVar 0, eLst false [eK (.int 3), eK (.int 2), eK (.int 2), eK (.int 2)]]) (eLst false [eK (.int 0), eK (.int 1), eK (.int 2), eK (.int 3)])) (e2 (pEq true) (eCall 52 [eVar 0, eLst false [eK (.int 3), eK (.int 2), eK (.int 2), eK (.int 2)]]) (eTup [eK (.int 4), eK (.int 4)]))) (sAll [sRet (eK (.bl false))]) (sAll []),
    sAsg (.n 3) (eCall 49 [eVar 0, eLst false [eK (.int 3), eK (.int 2), eK (.int 2), eK (.int 2)]]),
    sIf (eOr (eNot (e1 (pIsC [(2, false), (3, false), (4, true)]) (eVar 3))) (e1 (pIsB true true) (eMeth [(2, 37), (3, 39), (4, 41)] (eVar 3) [eVar 0, eLst false [eK (.int 3), eK (.int 2), eK (.int 2), eK (.int 2)]]))) (sAll [sRet (eK (.bl false))]) (sAll []),
    sIf (eOr (e2 (pEq true) (eCall 96 [eVar 0, eLst false [eK (.int 2), eK (.int 2), eK (.int 2), eK (.int 2)]]) (eLst false [eK .non])) (e2 (pEq true) (eCall 96 [eVar 2, eLst false [eK (.int 4), eK (.int 3), eK (.int 1), eK (.int 1)]]) (eLst false [eK (.int 3)]))) (sAll [sRet (eK (.bl false))]) (sAll []),
    sIf (e2 (pEq true) (eCall 52 [eVar 2, eLst false [eK (.int 4), eK (.int 3), eK (.int 1), eK (.int 1)]]) (eTup [eK (.int 8), eK (.int 8)])) (sAll [sRet (eK (.bl false))]) (sAll []),
    sAsg (.n 3) (eCall 49 [eVar 2, eLst false [eK (.int 4), eK (.int 3), eK (.int 1), eK (.int 1)]]),
    sRet (eAnd (e1 (pIsC [(2, true), (3, false), (4, false)]) (eVar 3)) (e1 (pIsB false true) (eMeth [(2, 37), (3, 39), (4, 41)] (eVar 3) [eVar 2, eLst false [eK (.int 4), eK (.int 3), eK (.int 1), eK (.int 1)]])))]
/-- _law_all_whole -/
def f_law_all_whole : Fn where
  slots := 3
  pars := 1
  pure := true
  body := sAll [sAsg (.n 1) (eLst true [eVar 0]),
    sWhile 100000 (e2 (pEq true) (eVar 1) (eLst false [])) (sAll [sAsg (.n 2) (eM0 pPop (eVar 1)),
    sIf (eOr (e1 (pIsTy .list) (eVar 2)) (e1 (pIsTy .tuple) (eVar 2))) (sAll [sExpr (eM1 pExtend (eVar 1) (e1 (pList false) (eVar 2)))]) (sAll [sIf (eAnd (e1 (pIsN true) (eVar 2)) (eNot (e1 pIsStr (eVar 2)))) (sAll [sIf (eOr (eNot (e1 (pIsTy .int) (eVar 2))) (e1 (pIsTy .bool) (eVar 2))) (sAll [sRet (eK (.bl false))]) (sAll [])]) (sAll [])])]),
    sRet (eK (.bl true))]
/-- _law_wholes_right -/
def f_law_wholes_right : Fn where
  slots := 10
  pars := 0
  pure := true
  body := sAll [sPar [0, 1, 2] [eTup [eK (.int 2), eLst false [eLst false [eK (.int 0)], eLst false [eK (.int 1)], eLst false [eK (.int 0)]]], eTup [eK (.int 2), e2 (pMul false) (eLst false [eLst false []]) (eK (.int 3))], eTup [eK (.int 2), eLst false [eLst false [], eLst false [eK (.int 0), eK (.int 1)], eLst false []]]],
    sPar [3, 4, 5] [eCall 49 [eVar 0, eLst false [eK (.int 2), eK (.int 1)]], eCall 49 [eVar 1, eLst false [eK (.int 2), eK (.int 1)]], eCall 49 [eVar 2, eLst false [eK (.int 1), eK (.int 1)]]],
    sAsg (.n 6) (eLst true [e1 (pAttr [2] 3) (eVar 3), e1 (pAttr [2, 3] 1) (eVar 3), e1 (pAttr [4] 4) (eVar 4), e1 (pAttr [4] 5) (eVar 4), e1 (pAttr [2, 3] 1) (eVar 5), eCall 96 [eVar 1, eLst false [eK (.int 2), eK (.int 1)]]]),
    sExpr (eM1 pAppend (eVar 6) (eLst false [eCall 52 [eVar 1, eLst false [eK (.int 2), eK (.int 1)]], eCall 52 [eVar 0, eLst false [eK (.int 2), eK (.int 1)]], eCall 96 [eVar 0, eLst false [eK (.int 3), eK (.int 2)]]])),
    sPar [7, 8] [eCall 75 [eVar 0, eLst false [eK (.int 5), eK (.int 3)], eLst false [eK (.int 2), eK (.int 5)]], eCall 75 [eVar 0, eLst false [eK (.int 5), eK (.int 3)], eLst false [eK (.int 9), eK (.int 4)]]],
    sExpr (eM1 pAppend (eVar 6) (eLst false [e1 (pAttr [5] 6) (eVar 7), e1 (pAttr [6] 7) (eVar 8), e1 (pAttr [6] 8) (eVar 8)])),
    sAsg (.n 9) (eMake 0 11 [eVar 0, eLst false [eK (.int 3), eK (.int 2)]]),
    sExpr (eM1 pAppend (eVar 6) (eLst false [eMeth [(0, 114)] (eVar 9) [eK (.int 0), eK (.int 1)], eMeth [(0, 114)] (eVar 9) [eK (.int 0), eK (.int 0)], eMeth [(0, 15)] (eVar 9) [], eMeth [(0, 115)] (eVar 9) [], eMeth [(0, 14)] (eVar 9) [], eMeth [(0, 13)] (eVar 9) []])),
    sRet (eCall 125 [eVar 6])]
/-- law -/
def f_law_k10 : Fn where
  slots := 4
  pars := 1
  pure := true
  body := sAll [sIf (eNot (eCall 126 [])) (sAll [sRet (eK (.bl false))]) (sAll []),
    sPar [1, 2] [eTup [eK (.int 2), eLst false [eLst false [eK (.int 0)], eLst false [eK (.int 1)], eLst false [eK (.int 0)]]], eTup [eK (.int 2), e2 (pMul false) (eLst false [eLst false []]) (eK (.int 3))]],
    sIf (eOr (eNot (e1 (pIsC [(5, true), (6, false)]) (eCall 75 [eVar 1, eLst false [eK (.int 5), eK (.int 3)], eLst false [eK (.int 2), eK (.int 5)]]))) (eNot (eCall 122 [eVar 1, eVar 2]))) (sAll [sRet (eK (.bl false))]) (sAll []),
    sAsg (.n 3) (e2 (pAdd false) (eK (.int 9)) (e2 pMod (eCall 20 [eCall 18 [eVar 0, eK (.int 0)], eK (.int 2)]) (eK (.int 300)))),
    sRet (eAnd (eCall 123 [eVar 1, eVar 2, eVar 3]) (eCall 124 []))]
def G : Nat → Option Fn
  | 0 => some f_is_whole
  | 1 => some f_is_count
  | 2 => some f_pairs_of
  | 3 => some f_are_back
  | 4 => some f_check_table
  | 5 => some f_check_urn
  | 6 => some f_back_of
  | 7 => some f_change_of
  | 8 => some f_can_draw
  | 9 => some f_open_draws
  | 10 => some f_behind
  | 11 => some f_Bag_init
  | 12 => some f_Bag_draw
  | 13 => some f_Bag_undo
  | 14 => some f_Bag_marbles
  | 15 => some f_Bag_done
  | 16 => some f_Bag_can_do
  | 17 => some f_Bag_ended
  | 18 => some f_law_cell_at
  | 19 => some f_law_draw
  | 20 => some f_law_value
  | 21 => some f_law_says
  | 22 => some f_law_pairs
  | 23 => some f_law_backs
  | 24 => some f_law_table
  | 25 => some f_law_urn
  | 26 => some f_law_behind
  | 27 => some f_law_copied
  | 28 => some f_law_same
  | 30 => some f_law_deed_right
  | 31 => some f_law_k01
  | 32 => some f_open_drawsb
  | 33 => some f_last_of
  | 34 => some f_end_of
  | 35 => some f_are_closed
  | 36 => some f_Alike_init
  | 37 => some f_Alike_shows
  | 38 => some f_Endless_init
  | 39 => some f_Endless_shows
  | 40 => some f_Differ_init
  | 41 => some f_Differ_shows
  | 42 => some f_Led_init
  | 43 => some f_Led_shows
  | 44 => some f_Kept_init
  | 45 => some f_Kept_weighs_none
  | 46 => some f_Kept_shows
  | 47 => some f_check_both
  | 48 => some f_first_orders
  | 49 => some f_judged
  | 50 => some f_lasts
  | 51 => some f_longest
  | 52 => some f_draws
  | 53 => some f_law_saysb
  | 54 => some f_law_urnb
  | 55 => some f_law_last
  | 56 => some f_law_end
  | 57 => some f_law_closed
  | 58 => some f_law_due
  | 59 => some f_law_stands
  | 60 => some f_law_lengths
  | 62 => some f_law_answer_right
  | 63 => some f_law_right
  | 64 => some f_law_k02
  | 65 => some f_law_closedb
  | 128 => some f_law_dueb
  | 66 => some f_law_alike_right
  | 67 => some f_law_endless_right
  | 68 => some f_law_differ_right
  | 69 => some f_law_orders
  | 70 => some f_law_k03
  | 71 => some f_taken_off
  | 72 => some f_echelon
  | 73 => some f_common
  | 74 => some f_kept_by
  | 75 => some f_compared
  | 76 => some f_law_whole
  | 77 => some f_law_tableb
  | 78 => some f_law_change
  | 79 => some f_law_led
  | 80 => some f_law_kept
  | 81 => some f_law_sums_due
  | 82 => some f_law_answer_rightb
  | 83 => some f_law_rightb
  | 84 => some f_law_urns
  | 85 => some f_law_k04
  | 86 => some f_law_tablec
  | 87 => some f_law_keptb
  | 88 => some f_law_led_right
  | 89 => some f_law_kept_right
  | 90 => some f_law_bent
  | 91 => some f_law_k05
  | 93 => some f_Led_showsb
  | 94 => some f_Kept_weighs_noneb
  | 95 => some f_Kept_showsb
  | 96 => some f_lastsb
  | 97 => some f_law_renamed
  | 99 => some f_law_k06
  | 100 => some f_Alike_showsb
  | 101 => some f_Endless_showsb
  | 102 => some f_Differ_showsb
  | 103 => some f_Led_showsc
  | 104 => some f_Kept_weighs_nonec
  | 105 => some f_Kept_showsc
  | 107 => some f_law_due_of
  | 108 => some f_law_strange
  | 109 => some f_law_no_tables
  | 110 => some f_law_no_urns
  | 111 => some f_law_spoiled_right
  | 112 => some f_law_rightc
  | 113 => some f_law_k07
  | 114 => some f_Bag_drawb
  | 115 => some f_Bag_can_dob
  | 116 => some f_law_rightd
  | 117 => some f_law_k08
  | 118 => some f_law_order_right
  | 119 => some f_law_k09
  | 120 => some f_Bag_endedb
  | 122 => some f_law_fields_right
  | 123 => some f_law_hand_right
  | 124 => some f_law_nine_right
  | 125 => some f_law_all_whole
  | 126 => some f_law_wholes_right
  | 127 => some f_law_k10
  | _ => none
end M

set_option Elab.async false
set_option linter.all false
set_option maxRecDepth 100000
set_option maxHeartbeats 4000000
/-! law_k01_whole_bag: the text, def by def. Printed by gen.py. -/
namespace M
open PySem L2
def top (i : Nat) : Stmt := PySem.Challenge.pw_lastmarble_k01_whole_bag.main.body.getD i (.Pass ⟨0, 0, 0, 0⟩)
abbrev s_is_whole : Stmt := top 10
abbrev s_is_count : Stmt := top 11
abbrev s_pairs_of : Stmt := top 12
abbrev s_are_back : Stmt := top 13
abbrev s_check_table : Stmt := top 14
abbrev s_check_urn : Stmt := top 15
abbrev s_back_of : Stmt := top 16
abbrev s_change_of : Stmt := top 17
abbrev s_can_draw : Stmt := top 18
abbrev s_open_draws : Stmt := top 19
abbrev s_behind : Stmt := top 20
abbrev s_Bag_init : Stmt := inClass (top 23) 0
abbrev s_Bag_draw : Stmt := inClass (top 23) 1
abbrev s_Bag_undo : Stmt := inClass (top 23) 2
abbrev s_Bag_marbles : Stmt := inClass (top 23) 3
abbrev s_Bag_done : Stmt := inClass (top 23) 4
abbrev s_Bag_can_do : Stmt := inClass (top 23) 5
abbrev s_Bag_ended : Stmt := inClass (top 23) 6
abbrev s_law_cell_at : Stmt := top 25
abbrev s_law_draw : Stmt := top 26
abbrev s_law_value : Stmt := top 27
abbrev s_law_says : Stmt := top 28
abbrev s_law_pairs : Stmt := top 29
abbrev s_law_backs : Stmt := top 30
abbrev s_law_table : Stmt := top 31
abbrev s_law_urn : Stmt := top 32
abbrev s_law_behind : Stmt := top 33
abbrev s_law_copied : Stmt := top 34
abbrev s_law_same : Stmt := top 35
abbrev s_law_told : Stmt := top 36
abbrev s_law_deed_right : Stmt := top 37
abbrev s_law_k01 : Stmt := top 38
def ids : List Nat := [0, 1, 2, 3, 4, 5, 6, 7, 8, 9, 10, 11, 12, 13, 14, 15, 16, 17, 18, 19, 20, 21, 22, 23, 24, 25, 26, 27, 28, 30]
def lamIds : List Nat := [30]
structure Txt (K : PySem.W.Frag) (mg : Str → Option Value) (J : Inf) (A Ca Pa : Nat → Addr) : Prop where
  blt : Blt mg
  fld : J.fld = fldName
  b_str : mg "str" = none
  ki : KiT K mg J
  k_MOST_KINDS : ∃ u, mg "MOST_KINDS" = some (.int 4 u)
  k_MOST_BACK : ∃ u, mg "MOST_BACK" = some (.int 2 u)
  k_MOST_BAG : ∃ u, mg "MOST_BAG" = some (.int 60 u)
  e_MarbleError : ExcT K mg J 0 "MarbleError"
  e_BadTable : ExcT K mg J 1 "BadTable"
  e_BadUrn : ExcT K mg J 2 "BadUrn"
  e_BadDraw : ExcT K mg J 3 "BadDraw"
  e_NotThere : ExcT K mg J 4 "NotThere"
  e_Nothing : ExcT K mg J 5 "Nothing"
  cls_Bag : Cls K (J.cls 0)
  m_Bag : mg "Bag" = some (.ref (J.cls 0))
  mk_Bag : Mk K (J.cls 0) (A 11)
  na_Bag_table : NoAttr K (J.cls 0) "table"
  na_Bag_stands : NoAttr K (J.cls 0) "stands"
  na_Bag_pairs : NoAttr K (J.cls 0) "pairs"
  m_is_whole : mg "is_whole" = some (.ref (A 0))
  fn_is_whole : ∃ fd, Fun K "is_whole" "is_whole" s_is_whole (A 0) fd ∧ Binds K fd ["thing"] []
  m_is_count : mg "is_count" = some (.ref (A 1))
  fn_is_count : ∃ fd, Fun K "is_count" "is_count" s_is_count (A 1) fd ∧ Binds K fd ["thing", "least", "most"] []
  m_pairs_of : mg "pairs_of" = some (.ref (A 2))
  fn_pairs_of : ∃ fd, Fun K "pairs_of" "pairs_of" s_pairs_of (A 2) fd ∧ Binds K fd ["kinds"] []
  m_are_back : mg "are_back" = some (.ref (A 3))
  fn_are_back : ∃ fd, Fun K "are_back" "are_back" s_are_back (A 3) fd ∧ Binds K fd ["thing", "kinds"] []
  m_check_table : mg "check_table" = some (.ref (A 4))
  fn_check_table : ∃ fd, Fun K "check_table" "check_table" s_check_table (A 4) fd ∧ Binds K fd ["table"] []
  m_check_urn : mg "check_urn" = some (.ref (A 5))
  fn_check_urn : ∃ fd, Fun K "check_urn" "check_urn" s_check_urn (A 5) fd ∧ Binds K fd ["table", "urn", "most"] []
  m_back_of : mg "back_of" = some (.ref (A 6))
  fn_back_of : ∃ fd, Fun K "back_of" "back_of" s_back_of (A 6) fd ∧ Binds K fd ["table", "pair"] []
  m_change_of : mg "change_of" = some (.ref (A 7))
  fn_change_of : ∃ fd, Fun K "change_of" "change_of" s_change_of (A 7) fd ∧ Binds K fd ["table", "pair"] []
  m_can_draw : mg "can_draw" = some (.ref (A 8))
  fn_can_draw : ∃ fd, Fun K "can_draw" "can_draw" s_can_draw (A 8) fd ∧ Binds K fd ["urn", "pair"] []
  m_open_draws : mg "open_draws" = some (.ref (A 9))
  fn_open_draws : ∃ fd, Fun K "open_draws" "open_draws" s_open_draws (A 9) fd ∧ Binds K fd ["table", "urn"] []
  m_behind : mg "behind" = some (.ref (A 10))
  fn_behind : ∃ fd, Fun K "behind" "behind" s_behind (A 10) fd ∧ Binds K fd ["table", "urn", "pair"] []
  fn_Bag_init : ∃ fd, Fun K "__init__" "Bag.__init__" s_Bag_init (A 11) fd ∧ Binds K fd ["self", "table", "urn"] []
  me_Bag_draw : Meth K (J.cls 0) "draw" (A 12)
  fn_Bag_draw : ∃ fd, Fun K "draw" "Bag.draw" s_Bag_draw (A 12) fd ∧ Binds K fd ["self", "one", "other"] []
  me_Bag_undo : Meth K (J.cls 0) "undo" (A 13)
  fn_Bag_undo : ∃ fd, Fun K "undo" "Bag.undo" s_Bag_undo (A 13) fd ∧ Binds K fd ["self"] []
  me_Bag_marbles : Meth K (J.cls 0) "marbles" (A 14)
  fn_Bag_marbles : ∃ fd, Fun K "marbles" "Bag.marbles" s_Bag_marbles (A 14) fd ∧ Binds K fd ["self"] []
  me_Bag_done : Meth K (J.cls 0) "done" (A 15)
  fn_Bag_done : ∃ fd, Fun K "done" "Bag.done" s_Bag_done (A 15) fd ∧ Binds K fd ["self"] []
  me_Bag_can_do : Meth K (J.cls 0) "can_do" (A 16)
  fn_Bag_can_do : ∃ fd, Fun K "can_do" "Bag.can_do" s_Bag_can_do (A 16) fd ∧ Binds K fd ["self"] []
  me_Bag_ended : Meth K (J.cls 0) "ended" (A 17)
  fn_Bag_ended : ∃ fd, Fun K "ended" "Bag.ended" s_Bag_ended (A 17) fd ∧ Binds K fd ["self"] []
  m__law_cell_at : mg "_law_cell_at" = some (.ref (A 18))
  fn_law_cell_at : ∃ fd, Fun K "_law_cell_at" "_law_cell_at" s_law_cell_at (A 18) fd ∧ Binds K fd ["_law_script", "_law_k"] []
  m__law_draw : mg "_law_draw" = some (.ref (A 19))
  fn_law_draw : ∃ fd, Fun K "_law_draw" "_law_draw" s_law_draw (A 19) fd ∧ Binds K fd ["_law_cell", "_law_k", "_law_many"] []
  m__law_value : mg "_law_value" = some (.ref (A 20))
  fn_law_value : ∃ fd, Fun K "_law_value" "_law_value" s_law_value (A 20) fd ∧ Binds K fd ["_law_cell", "_law_turn"] []
  m__law_says : mg "_law_says" = some (.ref (A 21))
  fn_law_says : ∃ fd, Fun K "_law_says" "_law_says" s_law_says (A 21) fd ∧ Binds K fd ["_law_said", "_law_due"] []
  m__law_pairs : mg "_law_pairs" = some (.ref (A 22))
  fn_law_pairs : ∃ fd, Fun K "_law_pairs" "_law_pairs" s_law_pairs (A 22) fd ∧ Binds K fd ["_law_kinds"] []
  m__law_backs : mg "_law_backs" = some (.ref (A 23))
  fn_law_backs : ∃ fd, Fun K "_law_backs" "_law_backs" s_law_backs (A 23) fd ∧ Binds K fd ["_law_kinds"] []
  m__law_table : mg "_law_table" = some (.ref (A 24))
  fn_law_table : ∃ fd, Fun K "_law_table" "_law_table" s_law_table (A 24) fd ∧ Binds K fd ["_law_script", "_law_by", "_law_most"] []
  m__law_urn : mg "_law_urn" = some (.ref (A 25))
  fn_law_urn : ∃ fd, Fun K "_law_urn" "_law_urn" s_law_urn (A 25) fd ∧ Binds K fd ["_law_script", "_law_by", "_law_kinds", "_law_most"] []
  m__law_behind : mg "_law_behind" = some (.ref (A 26))
  fn_law_behind : ∃ fd, Fun K "_law_behind" "_law_behind" s_law_behind (A 26) fd ∧ Binds K fd ["_law_table_here", "_law_urn_here", "_law_pair"] []
  m__law_copied : mg "_law_copied" = some (.ref (A 27))
  fn_law_copied : ∃ fd, Fun K "_law_copied" "_law_copied" s_law_copied (A 27) fd ∧ Binds K fd ["_law_table_here"] []
  m__law_same : mg "_law_same" = some (.ref (A 28))
  fn_law_same : ∃ fd, Fun K "_law_same" "_law_same" s_law_same (A 28) fd ∧ Binds K fd ["_law_bag", "_law_table_here", "_law_urns", "_law_pairs_here"] []
  m__law_told : mg "_law_told" = some (.ref (A 29))
  fn_law_told : ∃ fd, Fun K "_law_told" "_law_told" s_law_told (A 29) fd ∧ Binds K fd ["_law_ask"] []
  m__law_deed_right : mg "_law_deed_right" = some (.ref (A 30))
  fn_law_deed_right : ∃ fd, FunP K "_law_deed_right" "_law_deed_right" s_law_deed_right (A 30) fd (fun v => v = .ref (Ca 30)) ∧ Binds K fd ["_law_bag", "_law_table_here", "_law_urns", "_law_pairs_here", "_law_number"] []
  tb_30 : (Pa 30, (("_law_deed_right" : Str) ++ ".<locals>." ++ "<lambda>")) ∈ J.tabs
  tu_30 : ∀ p ∈ J.tabs, p.1 = Pa 30 → p.2 = (("_law_deed_right" : Str) ++ ".<locals>." ++ "<lambda>")
  m_law : mg "law" = some (.ref (A 31))
  fn_law_k01 : ∃ fd, Fun K "law" "law" s_law_k01 (A 31) fd ∧ Binds K fd ["_law_script"] []
section
variable {P : Program} {w : World} {K : PySem.W.Frag} {mg : Str → Option Value} {base : Heap} {J : Inf} {A Ca Pa : Nat → Addr}
theorem Txt.fl (T : Txt K mg J A Ca Pa) {y : Str} (f : Nat) (h : fldName f = y) : J.fld f = y := by rw [T.fld]; exact h
theorem Txt.nofl (T : Txt K mg J A Ca Pa) {m : Str} (h : isFld m = false) : ∀ i, J.fld i ≠ m := by rw [T.fld]; exact fld_no h
theorem at_0_pairs (T : Txt K mg J A Ca Pa) : ∀ C ∈ ([0] : List Nat), Cls K (J.cls C) ∧ NoAttr K (J.cls C) "pairs" := fun C hC => by
  simp only [List.mem_cons, List.not_mem_nil, or_false] at hC
  rcases hC with rfl
  · exact ⟨T.cls_Bag, T.na_Bag_pairs⟩
theorem at_0_stands (T : Txt K mg J A Ca Pa) : ∀ C ∈ ([0] : List Nat), Cls K (J.cls C) ∧ NoAttr K (J.cls C) "stands" := fun C hC => by
  simp only [List.mem_cons, List.not_mem_nil, or_false] at hC
  rcases hC with rfl
  · exact ⟨T.cls_Bag, T.na_Bag_stands⟩
theorem at_0_table (T : Txt K mg J A Ca Pa) : ∀ C ∈ ([0] : List Nat), Cls K (J.cls C) ∧ NoAttr K (J.cls C) "table" := fun C hC => by
  simp only [List.mem_cons, List.not_mem_nil, or_false] at hC
  rcases hC with rfl
  · exact ⟨T.cls_Bag, T.na_Bag_table⟩
theorem me_can_do_0 {cx : Ctx} {n : Nat} (T : Txt K mg J A Ca Pa) (ih : ∀ k ∈ ids, FnM P w K mg base J cx n (A k) k) : ∀ q ∈ ([(0, 16)] : List (Nat × Nat)), MethM P w K mg base J cx n "can_do" q.1 q.2 := fun q hq => by
  simp only [List.mem_cons, List.not_mem_nil, or_false] at hq
  rcases hq with rfl
  · exact ⟨T.cls_Bag, A 16, T.me_Bag_can_do, ih 16 (by decide)⟩
theorem me_done_0 {cx : Ctx} {n : Nat} (T : Txt K mg J A Ca Pa) (ih : ∀ k ∈ ids, FnM P w K mg base J cx n (A k) k) : ∀ q ∈ ([(0, 15)] : List (Nat × Nat)), MethM P w K mg base J cx n "done" q.1 q.2 := fun q hq => by
  simp only [List.mem_cons, List.not_mem_nil, or_false] at hq
  rcases hq with rfl
  · exact ⟨T.cls_Bag, A 15, T.me_Bag_done, ih 15 (by decide)⟩
theorem me_draw_0 {cx : Ctx} {n : Nat} (T : Txt K mg J A Ca Pa) (ih : ∀ k ∈ ids, FnM P w K mg base J cx n (A k) k) : ∀ q ∈ ([(0, 12)] : List (Nat × Nat)), MethM P w K mg base J cx n "draw" q.1 q.2 := fun q hq => by
  simp only [List.mem_cons, List.not_mem_nil, or_false] at hq
  rcases hq with rfl
  · exact ⟨T.cls_Bag, A 12, T.me_Bag_draw, ih 12 (by decide)⟩
theorem me_ended_0 {cx : Ctx} {n : Nat} (T : Txt K mg J A Ca Pa) (ih : ∀ k ∈ ids, FnM P w K mg base J cx n (A k) k) : ∀ q ∈ ([(0, 17)] : List (Nat × Nat)), MethM P w K mg base J cx n "ended" q.1 q.2 := fun q hq => by
  simp only [List.mem_cons, List.not_mem_nil, or_false] at hq
  rcases hq with rfl
  · exact ⟨T.cls_Bag, A 17, T.me_Bag_ended, ih 17 (by decide)⟩
theorem me_marbles_0 {cx : Ctx} {n : Nat} (T : Txt K mg J A Ca Pa) (ih : ∀ k ∈ ids, FnM P w K mg base J cx n (A k) k) : ∀ q ∈ ([(0, 14)] : List (Nat × Nat)), MethM P w K mg base J cx n "marbles" q.1 q.2 := fun q hq => by
  simp only [List.mem_cons, List.not_mem_nil, or_false] at hq
  rcases hq with rfl
  · exact ⟨T.cls_Bag, A 14, T.me_Bag_marbles, ih 14 (by decide)⟩
theorem me_undo_0 {cx : Ctx} {n : Nat} (T : Txt K mg J A Ca Pa) (ih : ∀ k ∈ ids, FnM P w K mg base J cx n (A k) k) : ∀ q ∈ ([(0, 13)] : List (Nat × Nat)), MethM P w K mg base J cx n "undo" q.1 q.2 := fun q hq => by
  simp only [List.mem_cons, List.not_mem_nil, or_false] at hq
  rcases hq with rfl
  · exact ⟨T.cls_Bag, A 13, T.me_Bag_undo, ih 13 (by decide)⟩
abbrev IH (P : Program) (w : World) (K : PySem.W.Frag) (mg : Str → Option Value) (base : Heap) (J : Inf) (A : Nat → Addr) (n : Nat) : Prop := (∀ k ∈ ids, FnM P w K mg base J (ctxN G (n + 3)) (n + 3) (A k) k) ∧ (∀ k ∈ ids, FnM P w K mg base J (ctxN G (n + 3)).down (n + 2) (A k) k) ∧ (∀ k ∈ ids, FnM P w K mg base J (ctxN G (n + 3)).down.down (n + 1) (A k) k) ∧ (∀ k ∈ ids, FnM P w K mg base J (ctxN G (n + 3)).down.down.down n (A k) k)
theorem sc_law_told : FnScope ["_law_ask", "error", "_law_sorts"] ["_law_ask"] (defScope s_law_told) := ⟨rfl, rfl, rfl, by decide +kernel, rfl, by decide +kernel, by decide +kernel⟩
abbrev CxT (X : Cx) (g : Addr) (cdg : Value) (s : Shared) (H : Hp) : Cx := (cxOf C8.CX0 X.prog X.w X.K X.mg X.base ["_law_ask", "error", "_law_sorts"] "_law_told" (defScope s_law_told) g cdg X.A X.stack s H C8.E0).nox
def tsT (J : Inf) : Addr → Value → Option Addr → TS := fun a cls d D σ H' => σ.length = 3 → ∃ c t h, 1 ≤ c ∧ c ≤ 5 ∧ cls = .ref (J.exc c) ∧ d = none ∧ σ[1]? = some (some (.ref a)) ∧ RepH J t h H' ∧ PostE J E0 t h H' (.ok (toldD c) h) D.rt
def toldF : FS := sAll [sIf (e2 (pEq false) (eVar 2) (eLst false [eK (.bl true), eK (.bl false)])) (sAll [sRet (eK (.str [110, 111, 116, 32, 116, 104, 101, 114, 101]))]) (sAll []),
  sRet (eIte (e2 (pEq false) (eVar 2) (eLst false [eK (.bl false), eK (.bl true)])) (eK (.str [110, 111, 116, 104, 105, 110, 103])) (eK (.str [111, 116, 104, 101, 114])))]
theorem gives_told {X : Cx} {J : Inf} {E : XK} {n : Nat} {g : Addr} {cdg : Value} {qn : Str} (G2 : Good X J E (n + 2)) (T : KiT X.K X.mg J) : LamX.GivesTo X ["_law_ask", "error", "_law_sorts"] "_law_told" (defScope s_law_told) g cdg (defBody s_law_told) "_law_ask" qn (TTt J) := by
  intro f c' s H Q tl act hc h
  refine ⟨_, pss_one (ps_try_as (X := CxT X g cdg s H) (i := 1) (c := .ref (J.exc 0))
      (tb := fun W D σ H => ∃ Ech : XK, (∀ cls d σ' H', Ech cls d H' → W cls d σ' H') ∧ σ[0]? = some (some (.ref f)) ∧ H c' = some (LamX.CodeO c' qn) ∧ tl Ech H D.rt)
      (ts := tsT J)
      rfl rfl sc_law_told.nd rfl rfl ⟨rfl, by decide, .inl T.e0⟩ L2.takes0 (fun W pn xe tk _ => ?_) (fun a oe cls d pn hz hf => ?_)), ?_⟩
  · refine ⟨fun pins s' σ H' D I h' => ?_⟩
    obtain ⟨Ech, hW, h1, h2, h3⟩ := h'
    have hp := fun p1 p2 => act W pn xe Ech p1 p2 tk hW
    exact PSs.run (pss_one (ps_ret (hp _ _))) pins s' σ H' D I ⟨h1, h2, h3⟩
  · refine ⟨fun pins s' σ H' D I h' => ?_⟩
    have hl : σ.length = 3 := I.len
    obtain ⟨c, t, hh, c1, c2, rfl, rfl, h2, R, pp⟩ := h' hl
    have ec := T.ec c c1 c2
    have is := fun i (i1 : 1 ≤ i) (i2 : i ≤ 5) => T.is c i c1 c2 i1 i2
    have hu : ((CxT X g cdg s H).suite a ((a, oe) :: pn)).A.units + 64 < cLine := by
      have r1 : X.A.units + 16 * (n + 2) + 200 < cLine := G2.room.un
      show X.A.units + 3 + 64 < cLine
      omega
    refine PSs.run (pss_cons (ps_set (X := (CxT X g cdg s H).suite a ((a, oe) :: pn)) (i := 2) sc_law_told.nd rfl (Or.inl rfl)
        (pe_lst (pa_cons (pe_isE (X := CxT X g cdg s H) (i := 1) T.blt ec hz hf T.e4 (is 4 (by decide) (by decide)) rfl (Or.inl rfl) rfl rfl (by decide) (by decide) (by decide))
          (pa_cons (pe_isE (X := CxT X g cdg s H) (i := 1) T.blt ec hz hf T.e5 (is 5 (by decide) (by decide)) rfl (Or.inl rfl) rfl rfl (by decide) (by decide) (by decide)) pa_nil))))
      (ss_cons (X := (CxT X g cdg s H).suite a ((a, oe) :: pn)) (J := J) (E := E0) (cx := .z) (ss_if (st_cmp (op_eqD hu) (ok_eq _) (se_var 2) (se_lst false (sa_cons se_bl (sa_cons se_bl sa_nil))) (nomark _)) (ss_one (ss_ret (a_str [110, 111, 116, 32, 116, 104, 101, 114, 101]))) ss_nil)
        (ss_one (ss_ret (se_ite (st_cmp (op_eqD hu) (ok_eq _) (se_var 2) (se_lst false (sa_cons se_bl (sa_cons se_bl sa_nil))) (nomark _)) (a_str [110, 111, 116, 104, 105, 110, 103]) (a_str [111, 116, 104, 101, 114])))))) pins s' σ H' D I ?_
    match σ, hl, h2 with
    | [x0, x1, x2], _, h2 =>
      have e1 : x1 = some (.ref a) := Option.some.inj h2
      subst e1
      refine ⟨rfl, rfl, (by show 2 ≤ sizeLine; decide), fun q1 n1 => ?_⟩
      have R1 := R.laid (o := .lst [.bl (c == 4), .bl (c == 5)]) n1
      have X1 := Ext.laid (o := .lst [.bl (c == 4), .bl (c == 5)]) R n1
      refine ⟨t, [none, none, some (.lst [.bl (c == 4), .bl (c == 5)])], hh, R1, ⟨rfl, fun i d e => ?_⟩, ?_⟩
      · match i, e with
        | 0, e => cases e
        | 1, e => cases e
        | 2, e =>
          cases e
          refine ⟨.ref q1, rfl, ?_⟩
          simp only [RV]
          exact ⟨q1, _, rfl, upd_same, R.fresh n1, rvs_bls [c == 4, c == 5]⟩
        | i + 3, e => cases e
      · have hv : toldF .z [none, none, some (.lst [.bl (c == 4), .bl (c == 5)])] hh = .rt (toldD c) hh := by
          have hc : c = 1 ∨ c = 2 ∨ c = 3 ∨ c = 4 ∨ c = 5 := by omega
          rcases hc with rfl | rfl | rfl | rfl | rfl <;> rfl
        have goal : PostS J E0 t hh (upd H' q1 (.lst [.bl (c == 4), .bl (c == 5)])) (toldF .z [none, none, some (.lst [.bl (c == 4), .bl (c == 5)])] hh) D := by
          rw [hv]
          exact fun t2 H2 v e2 R2 w => pp t2 H2 v (X1.trans e2) R2 w
        exact goal
  · refine ⟨_, fun cls d σ' H' hE => ?_, rfl, hc, h⟩
    obtain ⟨c, t, hh, c1, c2, rfl, rfl, R, pp⟩ := hE
    refine ⟨true, T.ex c c1 c2, fun _ a ha hl => ⟨c, t, hh, c1, c2, rfl, rfl, ?_, R, pp⟩, nofun⟩
    have hl' : σ'.length = 3 := by simpa using hl
    rw [List.getElem?_set_self (by omega)]

theorem sc_is_whole : FnScope ["thing"] ["thing"] (defScope s_is_whole) := ⟨rfl, rfl, rfl, by decide +kernel, rfl, by decide +kernel, by decide +kernel⟩
theorem ok_is_whole {n : Nat} (T : Txt K mg J A Ca Pa) (hB : ∀ k ∈ lamIds, LamX.TabB base mg (Ca k) (Pa k)) (ih : IH P w K mg base J A n) (X : Cx) (E : XK) (hX : ∃ cdv A0 outer s H, X = cxOf (L2.CX P w) P w K mg base ["thing"] "is_whole" (defScope s_is_whole) (A 0) cdv A0 outer s H E) (g : Good X J E (n + 3)) :
    SSs X J E (ctxN G (n + 3)) (defBody s_is_whole) f_is_whole.body := by
  obtain ⟨cdv, A0, outer, s, H, rfl⟩ := hX
  exact ss_one (ss_ret (se_and (a_isInt T.blt (se_var 0)) (se_one (se_not (a_isBool T.blt (se_var 0))))))
theorem sc_is_count : FnScope ["thing", "least", "most"] ["thing", "least", "most"] (defScope s_is_count) := ⟨rfl, rfl, rfl, by decide +kernel, rfl, by decide +kernel, by decide +kernel⟩
theorem ok_is_count {n : Nat} (T : Txt K mg J A Ca Pa) (hB : ∀ k ∈ lamIds, LamX.TabB base mg (Ca k) (Pa k)) (ih : IH P w K mg base J A n) (X : Cx) (E : XK) (hX : ∃ cdv A0 outer s H, X = cxOf (L2.CX P w) P w K mg base ["thing", "least", "most"] "is_count" (defScope s_is_count) (A 1) cdv A0 outer s H E) (g : Good X J E (n + 3)) :
    SSs X J E (ctxN G (n + 3)) (defBody s_is_count) f_is_count.body := by
  obtain ⟨cdv, A0, outer, s, H, rfl⟩ := hX
  exact ss_one (ss_ret (se_and (se_call g (ih.1 0 (by decide)) T.m_is_whole (sa_cons (se_var 0) (sa_nil))) (se_one (se_chain (se_var 1) (se_var 0) (se_var 2)))))
theorem sc_pairs_of : FnScope ["kinds", "found", "one", "other"] ["kinds"] (defScope s_pairs_of) := ⟨rfl, rfl, rfl, by decide +kernel, rfl, by decide +kernel, by decide +kernel⟩
theorem ok_pairs_of {n : Nat} (T : Txt K mg J A Ca Pa) (hB : ∀ k ∈ lamIds, LamX.TabB base mg (Ca k) (Pa k)) (ih : IH P w K mg base J A n) (X : Cx) (E : XK) (hX : ∃ cdv A0 outer s H, X = cxOf (L2.CX P w) P w K mg base ["kinds", "found", "one", "other"] "pairs_of" (defScope s_pairs_of) (A 2) cdv A0 outer s H E) (g : Good X J E (n + 3)) :
    SSs X J E (ctxN G (n + 3)) (defBody s_pairs_of) f_pairs_of.body := by
  obtain ⟨cdv, A0, outer, s, H, rfl⟩ := hX
  exact ss_cons (ss_set 1 g.nd (se_lst true (sa_nil)))
    (ss_cons (ss_for g (si_range1 T.blt (se_var 0)) (sg_name 2 g.nd) (ss_one (ss_expr (se_extend (se_var 1) (se_comp false [("other", 3)] (.n 3) g (si_range2 T.blt (se_var 2) (se_var 0)) (blkOk_by (N := ["kinds", "found", "one", "other"]) (sc := defScope s_pairs_of) (by decide +kernel)) (fun _ _ _ _ _ g1 => sg_name 3 g1.nd) (fun _ _ _ _ _ g1 => sts_nil) (fun _ _ _ _ _ g1 => se_tup (sa_cons (se_var 2) (sa_cons (se_var 3) (sa_nil)))))))))
    (ss_one (ss_ret (se_var 1))))
theorem sc_are_back : FnScope ["thing", "kinds", "one"] ["thing", "kinds"] (defScope s_are_back) := ⟨rfl, rfl, rfl, by decide +kernel, rfl, by decide +kernel, by decide +kernel⟩
theorem ok_are_back {n : Nat} (T : Txt K mg J A Ca Pa) (hB : ∀ k ∈ lamIds, LamX.TabB base mg (Ca k) (Pa k)) (ih : IH P w K mg base J A n) (X : Cx) (E : XK) (hX : ∃ cdv A0 outer s H, X = cxOf (L2.CX P w) P w K mg base ["thing", "kinds", "one"] "are_back" (defScope s_are_back) (A 3) cdv A0 outer s H E) (g : Good X J E (n + 3)) :
    SSs X J E (ctxN G (n + 3)) (defBody s_are_back) f_are_back.body := by
  obtain ⟨_, c_MOST_BACK⟩ := T.k_MOST_BACK
  obtain ⟨cdv, A0, outer, s, H, rfl⟩ := hX
  exact ss_cons (ss_if (st_w (sw_or (st_not (st_val (a_isList T.blt (se_var 0)))) (sw_or (t_gt (se_len T.blt (se_var 0)) (se_glob c_MOST_BACK)) (sw_or1 (st_not (st_val (se_all T.blt g.calm (se_comp false [("one", 2)] (.n 2) g (si_seq (se_var 0)) (blkOk_by (N := ["thing", "kinds", "one"]) (sc := defScope s_are_back) (by decide +kernel)) (fun _ _ _ _ _ g1 => sg_name 2 g1.nd) (fun _ _ _ _ _ g1 => sts_nil) (fun _ _ _ _ _ g1 => se_call g1 (ih.1 1 (by decide)) T.m_is_count (sa_cons (se_var 2) (sa_cons (se_int) (sa_cons (a_sub (se_var 1) (se_int)) (sa_nil))))))))))))) (ss_one (ss_ret (se_bl))) (ss_nil))
    (ss_one (ss_ret (a_eq g (se_var 0) (se_sorted T.blt (se_var 0)))))
theorem sc_check_table : FnScope ["table", "kinds"] ["table"] (defScope s_check_table) := ⟨rfl, rfl, rfl, by decide +kernel, rfl, by decide +kernel, by decide +kernel⟩
theorem ok_check_table {n : Nat} (T : Txt K mg J A Ca Pa) (hB : ∀ k ∈ lamIds, LamX.TabB base mg (Ca k) (Pa k)) (ih : IH P w K mg base J A n) (X : Cx) (E : XK) (hX : ∃ cdv A0 outer s H, X = cxOf (L2.CX P w) P w K mg base ["table", "kinds"] "check_table" (defScope s_check_table) (A 4) cdv A0 outer s H E) (g : Good X J E (n + 3)) :
    SSs X J E (ctxN G (n + 3)) (defBody s_check_table) f_check_table.body := by
  obtain ⟨_, c_MOST_KINDS⟩ := T.k_MOST_KINDS
  obtain ⟨cdv, A0, outer, s, H, rfl⟩ := hX
  exact ss_cons (ss_if (st_w (sw_or (st_not (st_val (a_isTuple T.blt (se_var 0)))) (sw_or (t_ne g (se_len T.blt (se_var 0)) (se_int)) (sw_or1 (st_not (st_val (se_call g (ih.1 1 (by decide)) T.m_is_count (sa_cons (se_ix (se_var 0) (se_int)) (sa_cons (se_int) (sa_cons (se_glob c_MOST_KINDS) (sa_nil))))))))))) (ss_one (r_raise 1 g T.e_BadTable)) (ss_nil))
    (ss_cons (ss_if (st_w (sw_or (st_not (st_val (a_isList T.blt (se_ix (se_var 0) (se_int))))) (sw_or1 (t_ne g (se_len T.blt (se_ix (se_var 0) (se_int))) (se_len T.blt (se_call g (ih.1 2 (by decide)) T.m_pairs_of (sa_cons (se_ix (se_var 0) (se_int)) (sa_nil)))))))) (ss_one (r_raise 1 g T.e_BadTable)) (ss_nil))
    (ss_one (ss_if (st_not (st_val (se_all T.blt g.calm (se_comp false [("kinds", 1)] (.n 1) g (si_seq (se_ix (se_var 0) (se_int))) (blkOk_by (N := ["table", "kinds"]) (sc := defScope s_check_table) (by decide +kernel)) (fun _ _ _ _ _ g1 => sg_name 1 g1.nd) (fun _ _ _ _ _ g1 => sts_nil) (fun _ _ _ _ _ g1 => se_call g1 (ih.1 3 (by decide)) T.m_are_back (sa_cons (se_var 1) (sa_cons (se_ix (se_var 0) (se_int)) (sa_nil)))))))) (ss_one (r_raise 1 g T.e_BadTable)) (ss_nil))))
theorem sc_check_urn : FnScope ["table", "urn", "most", "many"] ["table", "urn", "most"] (defScope s_check_urn) := ⟨rfl, rfl, rfl, by decide +kernel, rfl, by decide +kernel, by decide +kernel⟩
theorem ok_check_urn {n : Nat} (T : Txt K mg J A Ca Pa) (hB : ∀ k ∈ lamIds, LamX.TabB base mg (Ca k) (Pa k)) (ih : IH P w K mg base J A n) (X : Cx) (E : XK) (hX : ∃ cdv A0 outer s H, X = cxOf (L2.CX P w) P w K mg base ["table", "urn", "most", "many"] "check_urn" (defScope s_check_urn) (A 5) cdv A0 outer s H E) (g : Good X J E (n + 3)) :
    SSs X J E (ctxN G (n + 3)) (defBody s_check_urn) f_check_urn.body := by
  obtain ⟨cdv, A0, outer, s, H, rfl⟩ := hX
  exact ss_cons (ss_if (st_w (sw_or (st_not (st_val (a_isList T.blt (se_var 1)))) (sw_or (t_ne g (se_len T.blt (se_var 1)) (se_ix (se_var 0) (se_int))) (sw_or1 (st_not (st_val (se_all T.blt g.calm (se_comp false [("many", 3)] (.n 3) g (si_seq (se_var 1)) (blkOk_by (N := ["table", "urn", "most", "many"]) (sc := defScope s_check_urn) (by decide +kernel)) (fun _ _ _ _ _ g1 => sg_name 3 g1.nd) (fun _ _ _ _ _ g1 => sts_nil) (fun _ _ _ _ _ g1 => se_and (se_call g1 (ih.1 0 (by decide)) T.m_is_whole (sa_cons (se_var 3) (sa_nil))) (se_one (a_ge (se_var 3) (se_int)))))))))))) (ss_one (r_raise 2 g T.e_BadUrn)) (ss_nil))
    (ss_one (ss_if (st_w (sw_and (st_notN (se_var 2)) (sw_and1 (t_gt (se_sum T.blt g.calm (se_var 1)) (se_var 2))))) (ss_one (r_raise 2 g T.e_BadUrn)) (ss_nil)))
theorem sc_back_of : FnScope ["table", "pair"] ["table", "pair"] (defScope s_back_of) := ⟨rfl, rfl, rfl, by decide +kernel, rfl, by decide +kernel, by decide +kernel⟩
theorem ok_back_of {n : Nat} (T : Txt K mg J A Ca Pa) (hB : ∀ k ∈ lamIds, LamX.TabB base mg (Ca k) (Pa k)) (ih : IH P w K mg base J A n) (X : Cx) (E : XK) (hX : ∃ cdv A0 outer s H, X = cxOf (L2.CX P w) P w K mg base ["table", "pair"] "back_of" (defScope s_back_of) (A 6) cdv A0 outer s H E) (g : Good X J E (n + 3)) :
    SSs X J E (ctxN G (n + 3)) (defBody s_back_of) f_back_of.body := by
  obtain ⟨cdv, A0, outer, s, H, rfl⟩ := hX
  exact ss_one (ss_ret (se_ix (se_ix (se_var 0) (se_int)) (se_index g.room (se_call g (ih.1 2 (by decide)) T.m_pairs_of (sa_cons (se_ix (se_var 0) (se_int)) (sa_nil))) (se_var 1))))
theorem sc_change_of : FnScope ["table", "pair", "found", "kind"] ["table", "pair"] (defScope s_change_of) := ⟨rfl, rfl, rfl, by decide +kernel, rfl, by decide +kernel, by decide +kernel⟩
theorem ok_change_of {n : Nat} (T : Txt K mg J A Ca Pa) (hB : ∀ k ∈ lamIds, LamX.TabB base mg (Ca k) (Pa k)) (ih : IH P w K mg base J A n) (X : Cx) (E : XK) (hX : ∃ cdv A0 outer s H, X = cxOf (L2.CX P w) P w K mg base ["table", "pair", "found", "kind"] "change_of" (defScope s_change_of) (A 7) cdv A0 outer s H E) (g : Good X J E (n + 3)) :
    SSs X J E (ctxN G (n + 3)) (defBody s_change_of) f_change_of.body := by
  obtain ⟨cdv, A0, outer, s, H, rfl⟩ := hX
  exact ss_cons (ss_set 2 g.nd (a_mul true (se_lst false (sa_cons (se_int) (sa_nil))) (se_ix (se_var 0) (se_int))))
    (ss_cons (x_sub (se_var 2) (se_ix (se_var 1) (se_int)) (se_int))
    (ss_cons (x_sub (se_var 2) (se_ix (se_var 1) (se_int)) (se_int))
    (ss_cons (ss_for g (si_seq (se_call g (ih.1 6 (by decide)) T.m_back_of (sa_cons (se_var 0) (sa_cons (se_var 1) (sa_nil))))) (sg_name 3 g.nd) (ss_one (x_add (se_var 2) (se_var 3) (se_int))))
    (ss_one (ss_ret (se_var 2))))))
theorem sc_can_draw : FnScope ["urn", "pair"] ["urn", "pair"] (defScope s_can_draw) := ⟨rfl, rfl, rfl, by decide +kernel, rfl, by decide +kernel, by decide +kernel⟩
theorem ok_can_draw {n : Nat} (T : Txt K mg J A Ca Pa) (hB : ∀ k ∈ lamIds, LamX.TabB base mg (Ca k) (Pa k)) (ih : IH P w K mg base J A n) (X : Cx) (E : XK) (hX : ∃ cdv A0 outer s H, X = cxOf (L2.CX P w) P w K mg base ["urn", "pair"] "can_draw" (defScope s_can_draw) (A 8) cdv A0 outer s H E) (g : Good X J E (n + 3)) :
    SSs X J E (ctxN G (n + 3)) (defBody s_can_draw) f_can_draw.body := by
  obtain ⟨cdv, A0, outer, s, H, rfl⟩ := hX
  exact ss_one (ss_ret (se_and (a_ge (se_ix (se_var 0) (se_ix (se_var 1) (se_int))) (se_int)) (se_one (a_ge (se_ix (se_var 0) (se_ix (se_var 1) (se_int))) (a_add false (se_int) (se_toint T.blt (a_eq g (se_ix (se_var 1) (se_int)) (se_ix (se_var 1) (se_int)))))))))
theorem sc_open_draws : FnScope ["table", "urn", "pair"] ["table", "urn"] (defScope s_open_draws) := ⟨rfl, rfl, rfl, by decide +kernel, rfl, by decide +kernel, by decide +kernel⟩
theorem ok_open_draws {n : Nat} (T : Txt K mg J A Ca Pa) (hB : ∀ k ∈ lamIds, LamX.TabB base mg (Ca k) (Pa k)) (ih : IH P w K mg base J A n) (X : Cx) (E : XK) (hX : ∃ cdv A0 outer s H, X = cxOf (L2.CX P w) P w K mg base ["table", "urn", "pair"] "open_draws" (defScope s_open_draws) (A 9) cdv A0 outer s H E) (g : Good X J E (n + 3)) :
    SSs X J E (ctxN G (n + 3)) (defBody s_open_draws) f_open_draws.body := by
  obtain ⟨cdv, A0, outer, s, H, rfl⟩ := hX
  exact ss_one (ss_ret (se_comp true [("pair", 2)] (.n 2) g (si_seq (se_call g (ih.1 2 (by decide)) T.m_pairs_of (sa_cons (se_ix (se_var 0) (se_int)) (sa_nil)))) (blkOk_by (N := ["table", "urn", "pair"]) (sc := defScope s_open_draws) (by decide +kernel)) (fun _ _ _ _ _ g1 => sg_name 2 g1.nd) (fun _ _ _ _ _ g1 => sts_one (st_val (se_call g1 (ih.1 8 (by decide)) T.m_can_draw (sa_cons (se_var 1) (sa_cons (se_var 2) (sa_nil)))))) (fun _ _ _ _ _ g1 => se_var 2)))
theorem sc_behind : FnScope ["table", "urn", "pair", "one", "other"] ["table", "urn", "pair"] (defScope s_behind) := ⟨rfl, rfl, rfl, by decide +kernel, rfl, by decide +kernel, by decide +kernel⟩
theorem ok_behind {n : Nat} (T : Txt K mg J A Ca Pa) (hB : ∀ k ∈ lamIds, LamX.TabB base mg (Ca k) (Pa k)) (ih : IH P w K mg base J A n) (X : Cx) (E : XK) (hX : ∃ cdv A0 outer s H, X = cxOf (L2.CX P w) P w K mg base ["table", "urn", "pair", "one", "other"] "behind" (defScope s_behind) (A 10) cdv A0 outer s H E) (g : Good X J E (n + 3)) :
    SSs X J E (ctxN G (n + 3)) (defBody s_behind) f_behind.body := by
  obtain ⟨cdv, A0, outer, s, H, rfl⟩ := hX
  exact ss_one (ss_ret (se_comp false [("one", 3), ("other", 4)] (.t [.n 3, .n 4]) g (si_zip T.blt (se_var 1) (se_call g (ih.1 7 (by decide)) T.m_change_of (sa_cons (se_var 0) (sa_cons (se_var 2) (sa_nil))))) (blkOk_by (N := ["table", "urn", "pair", "one", "other"]) (sc := defScope s_behind) (by decide +kernel)) (fun _ _ _ _ _ g1 => sg_tup g1.calm (sgs_cons (sg_name 3 g1.nd) (sgs_cons (sg_name 4 g1.nd) (sgs_nil)))) (fun _ _ _ _ _ g1 => sts_nil) (fun _ _ _ _ _ g1 => a_add false (se_var 3) (se_var 4))))
theorem sc_Bag_init : FnScope ["self", "table", "urn", "kinds"] ["self", "table", "urn"] (defScope s_Bag_init) := ⟨rfl, rfl, rfl, by decide +kernel, rfl, by decide +kernel, by decide +kernel⟩
theorem ok_Bag_init {n : Nat} (T : Txt K mg J A Ca Pa) (hB : ∀ k ∈ lamIds, LamX.TabB base mg (Ca k) (Pa k)) (ih : IH P w K mg base J A n) (X : Cx) (E : XK) (hX : ∃ cdv A0 outer s H, X = cxOf (L2.CX P w) P w K mg base ["self", "table", "urn", "kinds"] "Bag.__init__" (defScope s_Bag_init) (A 11) cdv A0 outer s H E) (g : Good X J E (n + 3)) :
    SSs X J E (ctxN G (n + 3)) (defBody s_Bag_init) f_Bag_init.body := by
  obtain ⟨_, c_MOST_BAG⟩ := T.k_MOST_BAG
  obtain ⟨cdv, A0, outer, s, H, rfl⟩ := hX
  exact ss_cons (ss_expr (se_call g (ih.1 4 (by decide)) T.m_check_table (sa_cons (se_var 1) (sa_nil))))
    (ss_cons (ss_expr (se_call g (ih.1 5 (by decide)) T.m_check_urn (sa_cons (se_var 1) (sa_cons (se_var 2) (sa_cons (se_glob c_MOST_BAG) (sa_nil))))))
    (ss_cons (ss_attr [0] 0 (T.fl 0 rfl) (at_0_table T) (se_var 0) (se_tup (sa_cons (se_ix (se_var 1) (se_int)) (sa_cons (se_comp false [("kinds", 3)] (.n 3) g (si_seq (se_ix (se_var 1) (se_int))) (blkOk_by (N := ["self", "table", "urn", "kinds"]) (sc := defScope s_Bag_init) (by decide +kernel)) (fun _ _ _ _ _ g1 => sg_name 3 g1.nd) (fun _ _ _ _ _ g1 => sts_nil) (fun _ _ _ _ _ g1 => se_list T.blt false (se_var 3))) (sa_nil)))))
    (ss_cons (ss_attr [0] 1 (T.fl 1 rfl) (at_0_stands T) (se_var 0) (se_lst true (sa_cons (se_list T.blt false (se_var 2)) (sa_nil))))
    (ss_one (ss_attr [0] 2 (T.fl 2 rfl) (at_0_pairs T) (se_var 0) (se_lst true (sa_nil)))))))
theorem sc_Bag_draw : FnScope ["self", "one", "other"] ["self", "one", "other"] (defScope s_Bag_draw) := ⟨rfl, rfl, rfl, by decide +kernel, rfl, by decide +kernel, by decide +kernel⟩
theorem ok_Bag_draw {n : Nat} (T : Txt K mg J A Ca Pa) (hB : ∀ k ∈ lamIds, LamX.TabB base mg (Ca k) (Pa k)) (ih : IH P w K mg base J A n) (X : Cx) (E : XK) (hX : ∃ cdv A0 outer s H, X = cxOf (L2.CX P w) P w K mg base ["self", "one", "other"] "Bag.draw" (defScope s_Bag_draw) (A 12) cdv A0 outer s H E) (g : Good X J E (n + 3)) :
    SSs X J E (ctxN G (n + 3)) (defBody s_Bag_draw) f_Bag_draw.body := by
  obtain ⟨cdv, A0, outer, s, H, rfl⟩ := hX
  exact ss_cons (ss_if (st_w (sw_or (st_not (st_val (se_call g (ih.1 1 (by decide)) T.m_is_count (sa_cons (se_var 2) (sa_cons (se_int) (sa_cons (a_sub (se_ix (se_attr [0] 0 (T.fl 0 rfl) (at_0_table T) (se_var 0)) (se_int)) (se_int)) (sa_nil))))))) (sw_or1 (st_not (st_val (se_call g (ih.1 1 (by decide)) T.m_is_count (sa_cons (se_var 1) (sa_cons (se_int) (sa_cons (se_var 2) (sa_nil)))))))))) (ss_one (r_raise 3 g T.e_BadDraw)) (ss_nil))
    (ss_cons (ss_if (st_not (st_val (se_call g (ih.1 8 (by decide)) T.m_can_draw (sa_cons (se_ix (se_attr [0] 1 (T.fl 1 rfl) (at_0_stands T) (se_var 0)) (a_neg (se_int))) (sa_cons (se_tup (sa_cons (se_var 1) (sa_cons (se_var 2) (sa_nil)))) (sa_nil)))))) (ss_one (r_raise 4 g T.e_NotThere)) (ss_nil))
    (ss_cons (ss_expr (se_append (se_attr [0] 1 (T.fl 1 rfl) (at_0_stands T) (se_var 0)) (se_call g (ih.1 10 (by decide)) T.m_behind (sa_cons (se_attr [0] 0 (T.fl 0 rfl) (at_0_table T) (se_var 0)) (sa_cons (se_ix (se_attr [0] 1 (T.fl 1 rfl) (at_0_stands T) (se_var 0)) (a_neg (se_int))) (sa_cons (se_tup (sa_cons (se_var 1) (sa_cons (se_var 2) (sa_nil)))) (sa_nil)))))))
    (ss_cons (ss_expr (se_append (se_attr [0] 2 (T.fl 2 rfl) (at_0_pairs T) (se_var 0)) (se_tup (sa_cons (se_var 1) (sa_cons (se_var 2) (sa_nil))))))
    (ss_one (ss_ret (se_list T.blt true (se_call g (ih.1 6 (by decide)) T.m_back_of (sa_cons (se_attr [0] 0 (T.fl 0 rfl) (at_0_table T) (se_var 0)) (sa_cons (se_tup (sa_cons (se_var 1) (sa_cons (se_var 2) (sa_nil)))) (sa_nil))))))))))
theorem sc_Bag_undo : FnScope ["self"] ["self"] (defScope s_Bag_undo) := ⟨rfl, rfl, rfl, by decide +kernel, rfl, by decide +kernel, by decide +kernel⟩
theorem ok_Bag_undo {n : Nat} (T : Txt K mg J A Ca Pa) (hB : ∀ k ∈ lamIds, LamX.TabB base mg (Ca k) (Pa k)) (ih : IH P w K mg base J A n) (X : Cx) (E : XK) (hX : ∃ cdv A0 outer s H, X = cxOf (L2.CX P w) P w K mg base ["self"] "Bag.undo" (defScope s_Bag_undo) (A 13) cdv A0 outer s H E) (g : Good X J E (n + 3)) :
    SSs X J E (ctxN G (n + 3)) (defBody s_Bag_undo) f_Bag_undo.body := by
  obtain ⟨cdv, A0, outer, s, H, rfl⟩ := hX
  exact ss_cons (ss_if (t_eq g (se_attr [0] 2 (T.fl 2 rfl) (at_0_pairs T) (se_var 0)) (se_lst false (sa_nil))) (ss_one (r_raise 5 g T.e_Nothing)) (ss_nil))
    (ss_cons (ss_expr (se_pop (se_attr [0] 1 (T.fl 1 rfl) (at_0_stands T) (se_var 0))))
    (ss_one (ss_ret (se_pop (se_attr [0] 2 (T.fl 2 rfl) (at_0_pairs T) (se_var 0))))))
theorem sc_Bag_marbles : FnScope ["self"] ["self"] (defScope s_Bag_marbles) := ⟨rfl, rfl, rfl, by decide +kernel, rfl, by decide +kernel, by decide +kernel⟩
theorem ok_Bag_marbles {n : Nat} (T : Txt K mg J A Ca Pa) (hB : ∀ k ∈ lamIds, LamX.TabB base mg (Ca k) (Pa k)) (ih : IH P w K mg base J A n) (X : Cx) (E : XK) (hX : ∃ cdv A0 outer s H, X = cxOf (L2.CX P w) P w K mg base ["self"] "Bag.marbles" (defScope s_Bag_marbles) (A 14) cdv A0 outer s H E) (g : Good X J E (n + 3)) :
    SSs X J E (ctxN G (n + 3)) (defBody s_Bag_marbles) f_Bag_marbles.body := by
  obtain ⟨cdv, A0, outer, s, H, rfl⟩ := hX
  exact ss_one (ss_ret (se_list T.blt true (se_ix (se_attr [0] 1 (T.fl 1 rfl) (at_0_stands T) (se_var 0)) (a_neg (se_int)))))
theorem sc_Bag_done : FnScope ["self"] ["self"] (defScope s_Bag_done) := ⟨rfl, rfl, rfl, by decide +kernel, rfl, by decide +kernel, by decide +kernel⟩
theorem ok_Bag_done {n : Nat} (T : Txt K mg J A Ca Pa) (hB : ∀ k ∈ lamIds, LamX.TabB base mg (Ca k) (Pa k)) (ih : IH P w K mg base J A n) (X : Cx) (E : XK) (hX : ∃ cdv A0 outer s H, X = cxOf (L2.CX P w) P w K mg base ["self"] "Bag.done" (defScope s_Bag_done) (A 15) cdv A0 outer s H E) (g : Good X J E (n + 3)) :
    SSs X J E (ctxN G (n + 3)) (defBody s_Bag_done) f_Bag_done.body := by
  obtain ⟨cdv, A0, outer, s, H, rfl⟩ := hX
  exact ss_one (ss_ret (se_list T.blt true (se_attr [0] 2 (T.fl 2 rfl) (at_0_pairs T) (se_var 0))))
theorem sc_Bag_can_do : FnScope ["self"] ["self"] (defScope s_Bag_can_do) := ⟨rfl, rfl, rfl, by decide +kernel, rfl, by decide +kernel, by decide +kernel⟩
theorem ok_Bag_can_do {n : Nat} (T : Txt K mg J A Ca Pa) (hB : ∀ k ∈ lamIds, LamX.TabB base mg (Ca k) (Pa k)) (ih : IH P w K mg base J A n) (X : Cx) (E : XK) (hX : ∃ cdv A0 outer s H, X = cxOf (L2.CX P w) P w K mg base ["self"] "Bag.can_do" (defScope s_Bag_can_do) (A 16) cdv A0 outer s H E) (g : Good X J E (n + 3)) :
    SSs X J E (ctxN G (n + 3)) (defBody s_Bag_can_do) f_Bag_can_do.body := by
  obtain ⟨cdv, A0, outer, s, H, rfl⟩ := hX
  exact ss_one (ss_ret (se_call g (ih.1 9 (by decide)) T.m_open_draws (sa_cons (se_attr [0] 0 (T.fl 0 rfl) (at_0_table T) (se_var 0)) (sa_cons (se_ix (se_attr [0] 1 (T.fl 1 rfl) (at_0_stands T) (se_var 0)) (a_neg (se_int))) (sa_nil)))))
theorem sc_Bag_ended : FnScope ["self"] ["self"] (defScope s_Bag_ended) := ⟨rfl, rfl, rfl, by decide +kernel, rfl, by decide +kernel, by decide +kernel⟩
theorem ok_Bag_ended {n : Nat} (T : Txt K mg J A Ca Pa) (hB : ∀ k ∈ lamIds, LamX.TabB base mg (Ca k) (Pa k)) (ih : IH P w K mg base J A n) (X : Cx) (E : XK) (hX : ∃ cdv A0 outer s H, X = cxOf (L2.CX P w) P w K mg base ["self"] "Bag.ended" (defScope s_Bag_ended) (A 17) cdv A0 outer s H E) (g : Good X J E (n + 3)) :
    SSs X J E (ctxN G (n + 3)) (defBody s_Bag_ended) f_Bag_ended.body := by
  obtain ⟨cdv, A0, outer, s, H, rfl⟩ := hX
  exact ss_one (ss_ret (a_lt (se_sum T.blt g.calm (se_ix (se_attr [0] 1 (T.fl 1 rfl) (at_0_stands T) (se_var 0)) (a_neg (se_int)))) (se_int)))
theorem sc_law_cell_at : FnScope ["_law_script", "_law_k"] ["_law_script", "_law_k"] (defScope s_law_cell_at) := ⟨rfl, rfl, rfl, by decide +kernel, rfl, by decide +kernel, by decide +kernel⟩
theorem ok_law_cell_at {n : Nat} (T : Txt K mg J A Ca Pa) (hB : ∀ k ∈ lamIds, LamX.TabB base mg (Ca k) (Pa k)) (ih : IH P w K mg base J A n) (X : Cx) (E : XK) (hX : ∃ cdv A0 outer s H, X = cxOf (L2.CX P w) P w K mg base ["_law_script", "_law_k"] "_law_cell_at" (defScope s_law_cell_at) (A 18) cdv A0 outer s H E) (g : Good X J E (n + 3)) :
    SSs X J E (ctxN G (n + 3)) (defBody s_law_cell_at) f_law_cell_at.body := by
  obtain ⟨cdv, A0, outer, s, H, rfl⟩ := hX
  exact ss_cons (ss_if (t_lt (se_var 1) (se_len T.blt (se_var 0))) (ss_one (ss_ret (se_ix (se_var 0) (se_var 1)))) (ss_nil))
    (ss_one (ss_ret (se_int)))
theorem sc_law_draw : FnScope ["_law_cell", "_law_k", "_law_many", "_law_primes"] ["_law_cell", "_law_k", "_law_many"] (defScope s_law_draw) := ⟨rfl, rfl, rfl, by decide +kernel, rfl, by decide +kernel, by decide +kernel⟩
theorem ok_law_draw {n : Nat} (T : Txt K mg J A Ca Pa) (hB : ∀ k ∈ lamIds, LamX.TabB base mg (Ca k) (Pa k)) (ih : IH P w K mg base J A n) (X : Cx) (E : XK) (hX : ∃ cdv A0 outer s H, X = cxOf (L2.CX P w) P w K mg base ["_law_cell", "_law_k", "_law_many", "_law_primes"] "_law_draw" (defScope s_law_draw) (A 19) cdv A0 outer s H E) (g : Good X J E (n + 3)) :
    SSs X J E (ctxN G (n + 3)) (defBody s_law_draw) f_law_draw.body := by
  obtain ⟨cdv, A0, outer, s, H, rfl⟩ := hX
  exact ss_cons (ss_set 3 g.nd (se_tup (sa_cons (se_int) (sa_cons (se_int) (sa_cons (se_int) (sa_cons (se_int) (sa_cons (se_int) (sa_cons (se_int) (sa_cons (se_int) (sa_cons (se_int) (sa_cons (se_int) (sa_cons (se_int) (sa_cons (se_int) (sa_cons (se_int) (sa_cons (se_int) (sa_cons (se_int) (sa_cons (se_int) (sa_cons (se_int) (sa_nil)))))))))))))))))))
    (ss_one (ss_ret (a_mod (a_mod (a_add false (a_mul false (se_var 0) (se_int)) (a_mul false (se_var 1) (se_int))) (se_ix (se_var 3) (a_mod (se_var 1) (se_int)))) (se_var 2))))
theorem sc_law_value : FnScope ["_law_cell", "_law_turn", "_law_rest", "_law_blend"] ["_law_cell", "_law_turn"] (defScope s_law_value) := ⟨rfl, rfl, rfl, by decide +kernel, rfl, by decide +kernel, by decide +kernel⟩
theorem ok_law_value {n : Nat} (T : Txt K mg J A Ca Pa) (hB : ∀ k ∈ lamIds, LamX.TabB base mg (Ca k) (Pa k)) (ih : IH P w K mg base J A n) (X : Cx) (E : XK) (hX : ∃ cdv A0 outer s H, X = cxOf (L2.CX P w) P w K mg base ["_law_cell", "_law_turn", "_law_rest", "_law_blend"] "_law_value" (defScope s_law_value) (A 20) cdv A0 outer s H E) (g : Good X J E (n + 3)) :
    SSs X J E (ctxN G (n + 3)) (defBody s_law_value) f_law_value.body := by
  obtain ⟨cdv, A0, outer, s, H, rfl⟩ := hX
  exact ss_cons (ss_if (t_ge (se_var 0) (a_pow (se_int) (se_int))) (ss_one (ss_ret (a_shr (a_mod (a_sub (se_var 0) (a_pow (se_int) (se_int))) (a_pow (se_int) (se_int))) (a_mul false (se_int) (se_var 1))))) (ss_nil))
    (ss_cons (ss_set 2 g.nd (a_mod (se_var 0) (a_pow (se_int) (se_int))))
    (ss_cons (ss_set 3 g.nd (se_call g (ih.1 19 (by decide)) T.m__law_draw (sa_cons (a_mul false (a_add false (se_var 2) (a_mul false (se_int) (se_var 1))) (a_add false (a_add false (se_var 2) (a_mul false (se_int) (se_var 1))) (se_int))) (sa_cons (a_add false (a_mod (se_var 1) (se_int)) (se_int)) (sa_cons (se_int) (sa_nil))))))
    (ss_one (ss_ret (a_add false (a_mul false (se_var 3) (se_int)) (se_call g (ih.1 19 (by decide)) T.m__law_draw (sa_cons (a_add false (a_mul false (a_add false (se_var 2) (a_mul false (se_int) (se_var 1))) (a_add false (se_var 2) (se_int))) (a_mul false (se_int) (se_var 1))) (sa_cons (a_add false (a_mod (se_var 1) (se_int)) (se_int)) (sa_cons (se_int) (sa_nil))))))))))
theorem sc_law_says : FnScope ["_law_said", "_law_due"] ["_law_said", "_law_due"] (defScope s_law_says) := ⟨rfl, rfl, rfl, by decide +kernel, rfl, by decide +kernel, by decide +kernel⟩
theorem ok_law_says {n : Nat} (T : Txt K mg J A Ca Pa) (hB : ∀ k ∈ lamIds, LamX.TabB base mg (Ca k) (Pa k)) (ih : IH P w K mg base J A n) (X : Cx) (E : XK) (hX : ∃ cdv A0 outer s H, X = cxOf (L2.CX P w) P w K mg base ["_law_said", "_law_due"] "_law_says" (defScope s_law_says) (A 21) cdv A0 outer s H E) (g : Good X J E (n + 3)) :
    SSs X J E (ctxN G (n + 3)) (defBody s_law_says) f_law_says.body := by
  obtain ⟨cdv, A0, outer, s, H, rfl⟩ := hX
  exact ss_one (ss_ret (se_and (a_isBool T.blt (se_var 0)) (se_one (a_eq g (se_var 0) (se_var 1)))))
theorem sc_law_pairs : FnScope ["_law_kinds", "_law_found", "_law_one", "_law_other"] ["_law_kinds"] (defScope s_law_pairs) := ⟨rfl, rfl, rfl, by decide +kernel, rfl, by decide +kernel, by decide +kernel⟩
theorem ok_law_pairs {n : Nat} (T : Txt K mg J A Ca Pa) (hB : ∀ k ∈ lamIds, LamX.TabB base mg (Ca k) (Pa k)) (ih : IH P w K mg base J A n) (X : Cx) (E : XK) (hX : ∃ cdv A0 outer s H, X = cxOf (L2.CX P w) P w K mg base ["_law_kinds", "_law_found", "_law_one", "_law_other"] "_law_pairs" (defScope s_law_pairs) (A 22) cdv A0 outer s H E) (g : Good X J E (n + 3)) :
    SSs X J E (ctxN G (n + 3)) (defBody s_law_pairs) f_law_pairs.body := by
  obtain ⟨cdv, A0, outer, s, H, rfl⟩ := hX
  exact ss_cons (ss_set 1 g.nd (se_lst true (sa_nil)))
    (ss_cons (ss_for g (si_range1 T.blt (se_var 0)) (sg_name 2 g.nd) (ss_one (ss_expr (se_extend (se_var 1) (se_comp false [("_law_other", 3)] (.n 3) g (si_range2 T.blt (se_var 2) (se_var 0)) (blkOk_by (N := ["_law_kinds", "_law_found", "_law_one", "_law_other"]) (sc := defScope s_law_pairs) (by decide +kernel)) (fun _ _ _ _ _ g1 => sg_name 3 g1.nd) (fun _ _ _ _ _ g1 => sts_nil) (fun _ _ _ _ _ g1 => se_tup (sa_cons (se_var 2) (sa_cons (se_var 3) (sa_nil)))))))))
    (ss_one (ss_ret (se_var 1))))
theorem sc_law_backs : FnScope ["_law_kinds", "_law_kind", "_law_pair"] ["_law_kinds"] (defScope s_law_backs) := ⟨rfl, rfl, rfl, by decide +kernel, rfl, by decide +kernel, by decide +kernel⟩
theorem ok_law_backs {n : Nat} (T : Txt K mg J A Ca Pa) (hB : ∀ k ∈ lamIds, LamX.TabB base mg (Ca k) (Pa k)) (ih : IH P w K mg base J A n) (X : Cx) (E : XK) (hX : ∃ cdv A0 outer s H, X = cxOf (L2.CX P w) P w K mg base ["_law_kinds", "_law_kind", "_law_pair"] "_law_backs" (defScope s_law_backs) (A 23) cdv A0 outer s H E) (g : Good X J E (n + 3)) :
    SSs X J E (ctxN G (n + 3)) (defBody s_law_backs) f_law_backs.body := by
  obtain ⟨cdv, A0, outer, s, H, rfl⟩ := hX
  exact ss_one (ss_ret (a_add false (a_add false (se_lst false (sa_cons (se_lst false (sa_nil)) (sa_nil))) (se_comp false [("_law_kind", 1)] (.n 1) g (si_range1 T.blt (se_var 0)) (blkOk_by (N := ["_law_kinds", "_law_kind", "_law_pair"]) (sc := defScope s_law_backs) (by decide +kernel)) (fun _ _ _ _ _ g1 => sg_name 1 g1.nd) (fun _ _ _ _ _ g1 => sts_nil) (fun _ _ _ _ _ g1 => se_lst false (sa_cons (se_var 1) (sa_nil))))) (se_comp false [("_law_pair", 2)] (.n 2) g (si_seq (se_call g (ih.1 22 (by decide)) T.m__law_pairs (sa_cons (se_var 0) (sa_nil)))) (blkOk_by (N := ["_law_kinds", "_law_kind", "_law_pair"]) (sc := defScope s_law_backs) (by decide +kernel)) (fun _ _ _ _ _ g1 => sg_name 2 g1.nd) (fun _ _ _ _ _ g1 => sts_nil) (fun _ _ _ _ _ g1 => se_list T.blt false (se_var 2)))))
theorem sc_law_table : FnScope ["_law_script", "_law_by", "_law_most", "_law_value_here", "_law_back", "_law_kinds", "_law_sort", "_law_modulus", "_law_kind", "_law_weights", "_law_at", "_law_one", "_law_other", "_law_number", "_law_whole", "_law_some", "_law_kept", "_law_more"] ["_law_script", "_law_by", "_law_most"] (defScope s_law_table) := ⟨rfl, rfl, rfl, by decide +kernel, rfl, by decide +kernel, by decide +kernel⟩
theorem ok_law_table {n : Nat} (T : Txt K mg J A Ca Pa) (hB : ∀ k ∈ lamIds, LamX.TabB base mg (Ca k) (Pa k)) (ih : IH P w K mg base J A n) (X : Cx) (E : XK) (hX : ∃ cdv A0 outer s H, X = cxOf (L2.CX P w) P w K mg base ["_law_script", "_law_by", "_law_most", "_law_value_here", "_law_back", "_law_kinds", "_law_sort", "_law_modulus", "_law_kind", "_law_weights", "_law_at", "_law_one", "_law_other", "_law_number", "_law_whole", "_law_some", "_law_kept", "_law_more"] "_law_table" (defScope s_law_table) (A 24) cdv A0 outer s H E) (g : Good X J E (n + 3)) :
    SSs X J E (ctxN G (n + 3)) (defBody s_law_table) f_law_table.body := by
  obtain ⟨cdv, A0, outer, s, H, rfl⟩ := hX
  exact ss_cons (ss_par (i := 3) (j := 4) g.calm g.nd (sa_cons (se_call g (ih.1 20 (by decide)) T.m__law_value (sa_cons (se_call g (ih.1 18 (by decide)) T.m__law_cell_at (sa_cons (se_var 0) (sa_cons (se_var 1) (sa_nil)))) (sa_cons (se_int) (sa_nil)))) (sa_cons (se_lst true (sa_nil)) (sa_nil))))
    (ss_cons (ss_par (i := 5) (j := 6) g.calm g.nd (sa_cons (a_add false (se_int) (a_mod (a_sub (a_add false (se_var 3) (se_var 2)) (se_int)) (se_var 2))) (sa_cons (a_mod (a_fdiv (se_var 3) (se_int)) (se_int)) (sa_nil))))
    (ss_cons (ss_set 7 g.nd (a_add false (se_int) (a_mod (a_fdiv (se_var 3) (se_int)) (se_int))))
    (ss_cons (ss_set 9 g.nd (se_comp false [("_law_kind", 8)] (.n 8) g (si_range1 T.blt (se_var 5)) (blkOk_by (N := ["_law_script", "_law_by", "_law_most", "_law_value_here", "_law_back", "_law_kinds", "_law_sort", "_law_modulus", "_law_kind", "_law_weights", "_law_at", "_law_one", "_law_other", "_law_number", "_law_whole", "_law_some", "_law_kept", "_law_more"]) (sc := defScope s_law_table) (by decide +kernel)) (fun _ _ _ _ _ g1 => sg_name 8 g1.nd) (fun _ _ _ _ _ g1 => sts_nil) (fun _ _ _ _ _ g1 => a_mod (a_fdiv (se_call g1 (ih.1 20 (by decide)) T.m__law_value (sa_cons (se_call g1 (ih.1 18 (by decide)) T.m__law_cell_at (sa_cons (se_var 0) (sa_cons (a_add false (se_var 1) (se_var 8)) (sa_nil)))) (sa_cons (se_int) (sa_nil)))) (se_int)) (se_int))))
    (ss_cons (ss_for g (si_enum T.blt (se_call g (ih.1 22 (by decide)) T.m__law_pairs (sa_cons (se_var 5) (sa_nil)))) (sg_tup g.calm (sgs_cons (sg_name 10 g.nd) (sgs_cons (sg_tup g.calm (sgs_cons (sg_name 11 g.nd) (sgs_cons (sg_name 12 g.nd) (sgs_nil)))) (sgs_nil)))) (ss_cons (ss_set 13 g.nd (a_fdiv (se_call g (ih.1 20 (by decide)) T.m__law_value (sa_cons (a_add false (se_call g (ih.1 18 (by decide)) T.m__law_cell_at (sa_cons (se_var 0) (sa_cons (a_add false (se_var 1) (a_mod (se_var 10) (se_int))) (sa_nil)))) (a_mul false (se_int) (se_var 10))) (sa_cons (se_int) (sa_nil)))) (se_int)))
    (ss_cons (ss_par (i := 14) (j := 15) g.calm g.nd (sa_cons (a_add false (se_ix (se_var 9) (se_var 11)) (se_ix (se_var 9) (se_var 12))) (sa_cons (se_lst true (sa_nil)) (sa_nil))))
    (ss_cons (ss_for g (si_seq (se_call g (ih.1 23 (by decide)) T.m__law_backs (sa_cons (se_var 5) (sa_nil)))) (sg_name 16 g.nd) (ss_cons (ss_set 17 g.nd (a_sub (se_sum T.blt g.calm (se_comp false [("_law_kind", 8)] (.n 8) g (si_seq (se_var 16)) (blkOk_by (N := ["_law_script", "_law_by", "_law_most", "_law_value_here", "_law_back", "_law_kinds", "_law_sort", "_law_modulus", "_law_kind", "_law_weights", "_law_at", "_law_one", "_law_other", "_law_number", "_law_whole", "_law_some", "_law_kept", "_law_more"]) (sc := defScope s_law_table) (by decide +kernel)) (fun _ _ _ _ _ g1 => sg_name 8 g1.nd) (fun _ _ _ _ _ g1 => sts_nil) (fun _ _ _ _ _ g1 => se_ix (se_var 9) (se_var 8)))) (se_var 14)))
    (ss_one (ss_if (st_w (sw_or (t_notIn g (se_var 6) (se_tup (sa_cons (se_int) (sa_cons (se_int) (sa_nil))))) (sw_or (t_eq g (se_var 17) (se_int)) (sw_or1 (st_w (sw_and (t_eq g (se_var 6) (se_int)) (sw_and1 (t_eq g (a_mod (se_var 17) (se_var 7)) (se_int))))))))) (ss_one (ss_expr (se_append (se_var 15) (se_var 16)))) (ss_nil)))))
    (ss_cons (ss_if (t_eq g (se_var 6) (se_int)) (ss_one (ss_set 15 g.nd (se_lst true (sa_cons (se_lst false (sa_cons (se_var 12) (sa_nil))) (sa_cons (se_lst false (sa_nil)) (sa_cons (se_lst false (sa_cons (se_var 12) (sa_nil))) (sa_nil))))))) (ss_nil))
    (ss_cons (ss_if (t_eq g (se_var 6) (se_int)) (ss_one (ss_set 15 g.nd (se_to true (se_var 15) (a_add false (se_int) (se_var 5))))) (ss_nil))
    (ss_one (ss_expr (se_append (se_var 4) (se_ite (t_ne g (se_var 15) (se_lst false (sa_nil))) (se_list T.blt false (se_ix (se_var 15) (a_mod (se_var 13) (se_len T.blt (se_var 15))))) (se_lst false (sa_nil))))))))))))
    (ss_one (ss_ret (se_tup (sa_cons (se_var 5) (sa_cons (se_var 4) (sa_nil))))))))))
theorem sc_law_urn : FnScope ["_law_script", "_law_by", "_law_kinds", "_law_most", "_law_found", "_law_left", "_law_value_here", "_law_kind", "_law_number"] ["_law_script", "_law_by", "_law_kinds", "_law_most"] (defScope s_law_urn) := ⟨rfl, rfl, rfl, by decide +kernel, rfl, by decide +kernel, by decide +kernel⟩
theorem ok_law_urn {n : Nat} (T : Txt K mg J A Ca Pa) (hB : ∀ k ∈ lamIds, LamX.TabB base mg (Ca k) (Pa k)) (ih : IH P w K mg base J A n) (X : Cx) (E : XK) (hX : ∃ cdv A0 outer s H, X = cxOf (L2.CX P w) P w K mg base ["_law_script", "_law_by", "_law_kinds", "_law_most", "_law_found", "_law_left", "_law_value_here", "_law_kind", "_law_number"] "_law_urn" (defScope s_law_urn) (A 25) cdv A0 outer s H E) (g : Good X J E (n + 3)) :
    SSs X J E (ctxN G (n + 3)) (defBody s_law_urn) f_law_urn.body := by
  obtain ⟨cdv, A0, outer, s, H, rfl⟩ := hX
  exact ss_cons (ss_par (i := 4) (j := 5) g.calm g.nd (sa_cons (se_lst true (sa_nil)) (sa_cons (se_var 3) (sa_nil))))
    (ss_cons (ss_set 6 g.nd (se_call g (ih.1 20 (by decide)) T.m__law_value (sa_cons (se_call g (ih.1 18 (by decide)) T.m__law_cell_at (sa_cons (se_var 0) (sa_cons (se_var 1) (sa_nil)))) (sa_cons (se_int) (sa_nil)))))
    (ss_cons (ss_for g (si_range1 T.blt (se_var 2)) (sg_name 7 g.nd) (ss_cons (ss_set 8 g.nd (a_fdiv (se_call g (ih.1 20 (by decide)) T.m__law_value (sa_cons (a_add false (se_call g (ih.1 18 (by decide)) T.m__law_cell_at (sa_cons (se_var 0) (sa_cons (a_add false (se_var 1) (se_var 7)) (sa_nil)))) (a_mul false (se_int) (se_var 7))) (sa_cons (se_int) (sa_nil)))) (se_int)))
    (ss_cons (ss_expr (se_append (se_var 4) (se_min2 T.blt g.calm (se_var 5) (a_mod (se_var 8) (se_ix (se_tup (sa_cons (se_int) (sa_cons (se_int) (sa_cons (se_int) (sa_cons (se_int) (sa_nil)))))) (a_mod (se_var 6) (se_int)))))))
    (ss_one (ss_set 5 g.nd (a_sub (se_var 5) (se_ix (se_var 4) (a_neg (se_int)))))))))
    (ss_one (ss_ret (se_var 4)))))
theorem sc_law_behind : FnScope ["_law_table_here", "_law_urn_here", "_law_pair", "_law_found", "_law_kind"] ["_law_table_here", "_law_urn_here", "_law_pair"] (defScope s_law_behind) := ⟨rfl, rfl, rfl, by decide +kernel, rfl, by decide +kernel, by decide +kernel⟩
theorem ok_law_behind {n : Nat} (T : Txt K mg J A Ca Pa) (hB : ∀ k ∈ lamIds, LamX.TabB base mg (Ca k) (Pa k)) (ih : IH P w K mg base J A n) (X : Cx) (E : XK) (hX : ∃ cdv A0 outer s H, X = cxOf (L2.CX P w) P w K mg base ["_law_table_here", "_law_urn_here", "_law_pair", "_law_found", "_law_kind"] "_law_behind" (defScope s_law_behind) (A 26) cdv A0 outer s H E) (g : Good X J E (n + 3)) :
    SSs X J E (ctxN G (n + 3)) (defBody s_law_behind) f_law_behind.body := by
  obtain ⟨cdv, A0, outer, s, H, rfl⟩ := hX
  exact ss_cons (ss_set 3 g.nd (se_list T.blt true (se_var 1)))
    (ss_cons (ss_for g (si_seq (se_var 2)) (sg_name 4 g.nd) (ss_one (ss_setIx (se_var 3) (se_var 4) (a_sub (se_ix (se_var 3) (se_var 4)) (se_int)))))
    (ss_cons (ss_if (t_lt (se_min1 T.blt g.calm (se_var 3)) (se_int)) (ss_one (ss_ret (se_non))) (ss_nil))
    (ss_cons (ss_for g (si_seq (se_ix (se_ix (se_var 0) (se_int)) (se_index g.room (se_call g (ih.1 22 (by decide)) T.m__law_pairs (sa_cons (se_ix (se_var 0) (se_int)) (sa_nil))) (se_var 2)))) (sg_name 4 g.nd) (ss_one (ss_setIx (se_var 3) (se_var 4) (a_add false (se_ix (se_var 3) (se_var 4)) (se_int)))))
    (ss_one (ss_ret (se_var 3))))))
theorem sc_law_copied : FnScope ["_law_table_here", "_law_kinds"] ["_law_table_here"] (defScope s_law_copied) := ⟨rfl, rfl, rfl, by decide +kernel, rfl, by decide +kernel, by decide +kernel⟩
theorem ok_law_copied {n : Nat} (T : Txt K mg J A Ca Pa) (hB : ∀ k ∈ lamIds, LamX.TabB base mg (Ca k) (Pa k)) (ih : IH P w K mg base J A n) (X : Cx) (E : XK) (hX : ∃ cdv A0 outer s H, X = cxOf (L2.CX P w) P w K mg base ["_law_table_here", "_law_kinds"] "_law_copied" (defScope s_law_copied) (A 27) cdv A0 outer s H E) (g : Good X J E (n + 3)) :
    SSs X J E (ctxN G (n + 3)) (defBody s_law_copied) f_law_copied.body := by
  obtain ⟨cdv, A0, outer, s, H, rfl⟩ := hX
  exact ss_one (ss_ret (se_tup (sa_cons (se_ix (se_var 0) (se_int)) (sa_cons (se_comp true [("_law_kinds", 1)] (.n 1) g (si_seq (se_ix (se_var 0) (se_int))) (blkOk_by (N := ["_law_table_here", "_law_kinds"]) (sc := defScope s_law_copied) (by decide +kernel)) (fun _ _ _ _ _ g1 => sg_name 1 g1.nd) (fun _ _ _ _ _ g1 => sts_nil) (fun _ _ _ _ _ g1 => se_list T.blt true (se_var 1))) (sa_nil)))))
theorem sc_law_same : FnScope ["_law_bag", "_law_table_here", "_law_urns", "_law_pairs_here", "_law_some", "_law_pair", "_law_again", "_law_counts", "_law_done", "_law_more"] ["_law_bag", "_law_table_here", "_law_urns", "_law_pairs_here"] (defScope s_law_same) := ⟨rfl, rfl, rfl, by decide +kernel, rfl, by decide +kernel, by decide +kernel⟩
theorem ok_law_same {n : Nat} (T : Txt K mg J A Ca Pa) (hB : ∀ k ∈ lamIds, LamX.TabB base mg (Ca k) (Pa k)) (ih : IH P w K mg base J A n) (X : Cx) (E : XK) (hX : ∃ cdv A0 outer s H, X = cxOf (L2.CX P w) P w K mg base ["_law_bag", "_law_table_here", "_law_urns", "_law_pairs_here", "_law_some", "_law_pair", "_law_again", "_law_counts", "_law_done", "_law_more"] "_law_same" (defScope s_law_same) (A 28) cdv A0 outer s H E) (g : Good X J E (n + 3)) :
    SSs X J E (ctxN G (n + 3)) (defBody s_law_same) f_law_same.body := by
  obtain ⟨cdv, A0, outer, s, H, rfl⟩ := hX
  exact ss_cons (ss_set 4 g.nd (se_lst true (sa_nil)))
    (ss_cons (ss_for g (si_seq (se_call g (ih.1 22 (by decide)) T.m__law_pairs (sa_cons (se_ix (se_var 1) (se_int)) (sa_nil)))) (sg_name 5 g.nd) (ss_one (ss_if (st_notN (se_call g (ih.1 26 (by decide)) T.m__law_behind (sa_cons (se_var 1) (sa_cons (se_ix (se_var 2) (a_neg (se_int))) (sa_cons (se_var 5) (sa_nil)))))) (ss_one (ss_expr (se_append (se_var 4) (se_var 5)))) (ss_nil))))
    (ss_cons (ss_for g (si_range1 T.blt (se_int)) (sg_name 6 g.nd) (ss_cons (ss_par3 (i := 7) (j := 8) (l := 9) g.calm g.nd (sa_cons (se_meth0 [(0, 14)] g (me_marbles_0 T ih.1) (T.nofl (by decide +kernel)) (se_var 0)) (sa_cons (se_meth0 [(0, 15)] g (me_done_0 T ih.1) (T.nofl (by decide +kernel)) (se_var 0)) (sa_cons (se_meth0 [(0, 16)] g (me_can_do_0 T ih.1) (T.nofl (by decide +kernel)) (se_var 0)) (sa_nil)))))
    (ss_cons (ss_if (st_w (sw_or (t_ne g (se_var 7) (se_ix (se_var 2) (a_neg (se_int)))) (sw_or (t_ne g (se_var 8) (se_var 3)) (sw_or1 (t_ne g (se_var 9) (se_var 4)))))) (ss_one (ss_ret (se_bl))) (ss_nil))
    (ss_cons (ss_if (st_not (st_val (se_call g (ih.1 21 (by decide)) T.m__law_says (sa_cons (se_meth0 [(0, 17)] g (me_ended_0 T ih.1) (T.nofl (by decide +kernel)) (se_var 0)) (sa_cons (a_lt (se_sum T.blt g.calm (se_ix (se_var 2) (a_neg (se_int)))) (se_int)) (sa_nil)))))) (ss_one (ss_ret (se_bl))) (ss_nil))
    (ss_cons (ss_if (st_not (st_val (se_all T.blt g.calm (se_comp false [("_law_pair", 5)] (.n 5) g (si_seq (a_add false (se_var 8) (se_var 9))) (blkOk_by (N := ["_law_bag", "_law_table_here", "_law_urns", "_law_pairs_here", "_law_some", "_law_pair", "_law_again", "_law_counts", "_law_done", "_law_more"]) (sc := defScope s_law_same) (by decide +kernel)) (fun _ _ _ _ _ g1 => sg_name 5 g1.nd) (fun _ _ _ _ _ g1 => sts_nil) (fun _ _ _ _ _ g1 => a_isTuple T.blt (se_var 5)))))) (ss_one (ss_ret (se_bl))) (ss_nil))
    (ss_cons (ss_expr (se_append (se_var 7) (se_int)))
    (ss_cons (ss_expr (se_append (se_var 8) (se_tup (sa_cons (se_int) (sa_cons (se_int) (sa_nil))))))
    (ss_one (ss_expr (se_append (se_var 9) (se_tup (sa_cons (se_int) (sa_cons (se_int) (sa_nil))))))))))))))
    (ss_one (ss_ret (se_bl)))))
theorem sc_law_deed_right : FnScope ["_law_bag", "_law_table_here", "_law_urns", "_law_pairs_here", "_law_number", "_law_told_here", "_law_some", "_law_pair", "_law_there"] ["_law_bag", "_law_table_here", "_law_urns", "_law_pairs_here", "_law_number"] (defScope s_law_deed_right) := ⟨rfl, rfl, rfl, by decide +kernel, rfl, by decide +kernel, by decide +kernel⟩
theorem ok_law_deed_right {n : Nat} (T : Txt K mg J A Ca Pa) (hB : ∀ k ∈ lamIds, LamX.TabB base mg (Ca k) (Pa k)) (ih : IH P w K mg base J A n) (X : Cx) (E : XK) (hX : ∃ cdv A0 outer s H, cdv = .ref (Ca 30) ∧ X = cxOf (L2.CX P w) P w K mg base ["_law_bag", "_law_table_here", "_law_urns", "_law_pairs_here", "_law_number", "_law_told_here", "_law_some", "_law_pair", "_law_there"] "_law_deed_right" (defScope s_law_deed_right) (A 30) cdv A0 outer s H E) (g : Good X J E (n + 3)) :
    SSs X J E (ctxN G (n + 3)) (defBody s_law_deed_right) f_law_deed_right.body := by
  obtain ⟨cdv, A0, outer, s, H, rfl, rfl⟩ := hX
  have LT : LamT (cxOf (L2.CX P w) P w K mg base ["_law_bag", "_law_table_here", "_law_urns", "_law_pairs_here", "_law_number", "_law_told_here", "_law_some", "_law_pair", "_law_there"] "_law_deed_right" (defScope s_law_deed_right) (A 30) (.ref (Ca 30)) A0 outer s H E) J := ⟨Ca 30, Pa 30, hB 30 (by decide), rfl, T.tb_30, T.tu_30⟩
  exact ss_cons (ss_if (t_eq g (a_mod (se_var 4) (se_int)) (se_int)) (ss_cons (ss_set 5 g.nd (se_told g LT T.m__law_told T.fn_law_told sc_law_told rfl (Or.inl rfl) (fun _ => gives_told g T.ki) (LamX.lamS_by (sc := defScope s_law_deed_right) (by decide +kernel)) (fun _ _ _ _ _ _ _ g1 => se_meth0 [(0, 13)] g1 (me_undo_0 T ih.2.2.1) (T.nofl (by decide +kernel)) (se_var 0))))
    (ss_cons (ss_if (t_eq g (se_var 3) (se_lst false (sa_nil))) (ss_one (ss_ret (a_eq g (se_var 5) (a_str [110, 111, 116, 104, 105, 110, 103])))) (ss_nil))
    (ss_cons (ss_expr (se_pop (se_var 2)))
    (ss_one (ss_ret (a_eq g (se_var 5) (se_pop (se_var 3)))))))) (ss_nil))
    (ss_cons (ss_set 6 g.nd (se_call g (ih.1 22 (by decide)) T.m__law_pairs (sa_cons (se_ix (se_var 1) (se_int)) (sa_nil))))
    (ss_cons (ss_set 7 g.nd (se_ix (se_var 6) (a_mod (a_fdiv (se_var 4) (se_int)) (se_len T.blt (se_var 6)))))
    (ss_cons (ss_set 8 g.nd (se_call g (ih.1 26 (by decide)) T.m__law_behind (sa_cons (se_var 1) (sa_cons (se_ix (se_var 2) (a_neg (se_int))) (sa_cons (se_var 7) (sa_nil))))))
    (ss_cons (ss_set 5 g.nd (se_told g LT T.m__law_told T.fn_law_told sc_law_told rfl (Or.inl rfl) (fun _ => gives_told g T.ki) (LamX.lamS_by (sc := defScope s_law_deed_right) (by decide +kernel)) (fun _ _ _ _ _ _ _ g1 => se_meth [(0, 12)] g1 (me_draw_0 T ih.2.2.1) (T.nofl (by decide +kernel)) (se_var 0) (sa_cons (se_ix (se_var 7) (se_int)) (sa_cons (se_ix (se_var 7) (se_int)) (sa_nil))))))
    (ss_cons (ss_if (st_isN (se_var 8)) (ss_one (ss_ret (a_eq g (se_var 5) (a_str [110, 111, 116, 32, 116, 104, 101, 114, 101])))) (ss_nil))
    (ss_cons (ss_expr (se_append (se_var 2) (se_var 8)))
    (ss_cons (ss_expr (se_append (se_var 3) (se_var 7)))
    (ss_cons (ss_if (t_ne g (se_var 5) (se_ix (se_ix (se_var 1) (se_int)) (se_index g.room (se_var 6) (se_var 7)))) (ss_one (ss_ret (se_bl))) (ss_nil))
    (ss_cons (ss_expr (se_append (se_var 5) (se_int)))
    (ss_one (ss_ret (se_bl))))))))))))
theorem sc_law_k01 : FnScope ["_law_script", "_law_table_here", "_law_urn_here", "_law_handed", "_law_mine", "_law_bag", "_law_beside", "_law_urns", "_law_pairs_here", "_law_at", "_law_cell", "_law_turn", "_law_told_here"] ["_law_script"] (defScope s_law_k01) := ⟨rfl, rfl, rfl, by decide +kernel, rfl, by decide +kernel, by decide +kernel⟩
theorem ok_law_k01 {n : Nat} (T : Txt K mg J A Ca Pa) (hB : ∀ k ∈ lamIds, LamX.TabB base mg (Ca k) (Pa k)) (ih : IH P w K mg base J A n) (X : Cx) (E : XK) (hX : ∃ cdv A0 outer s H, X = cxOf (L2.CX P w) P w K mg base ["_law_script", "_law_table_here", "_law_urn_here", "_law_handed", "_law_mine", "_law_bag", "_law_beside", "_law_urns", "_law_pairs_here", "_law_at", "_law_cell", "_law_turn", "_law_told_here"] "law" (defScope s_law_k01) (A 31) cdv A0 outer s H E) (g : Good X J E (n + 3)) :
    PSs X (defBody s_law_k01) (tSeq (tCut K) (tS J E (ctxN G (n + 3)) f_law_k01.body)) := by
  obtain ⟨cdv, A0, outer, s, H, rfl⟩ := hX
  exact pss_cons (ps_set (i := 0) g.nd rfl (by first | exact Or.inl rfl | exact Or.inr rfl) (pe_slice sl_list (pv 0) po_none (po_some pe_int)))
    (ss_cons (ss_set 1 g.nd (se_call g (ih.1 24 (by decide)) T.m__law_table (sa_cons (se_var 0) (sa_cons (se_int) (sa_cons (se_int) (sa_nil))))))
    (ss_cons (ss_set 2 g.nd (se_call g (ih.1 25 (by decide)) T.m__law_urn (sa_cons (se_var 0) (sa_cons (se_int) (sa_cons (se_ix (se_var 1) (se_int)) (sa_cons (se_int) (sa_nil)))))))
    (ss_cons (ss_setIx (se_var 2) (se_int) (a_add false (se_ix (se_var 2) (se_int)) (a_mod (se_call g (ih.1 20 (by decide)) T.m__law_value (sa_cons (se_call g (ih.1 18 (by decide)) T.m__law_cell_at (sa_cons (se_var 0) (sa_cons (se_int) (sa_nil)))) (sa_cons (se_int) (sa_nil)))) (a_sub (se_int) (se_sum T.blt g.calm (se_var 2))))))
    (ss_cons (ss_par (i := 3) (j := 4) g.calm g.nd (sa_cons (se_call g (ih.1 27 (by decide)) T.m__law_copied (sa_cons (se_var 1) (sa_nil))) (sa_cons (se_list T.blt true (se_var 2)) (sa_nil))))
    (ss_cons (ss_par (i := 5) (j := 6) g.calm g.nd (sa_cons (se_make g T.mk_Bag (ih.2.1 11 (by decide)) T.m_Bag (sa_cons (se_var 3) (sa_cons (se_var 4) (sa_nil)))) (sa_cons (se_make g T.mk_Bag (ih.2.1 11 (by decide)) T.m_Bag (sa_cons (se_var 1) (sa_cons (se_var 2) (sa_nil)))) (sa_nil))))
    (ss_cons (ss_par (i := 7) (j := 8) g.calm g.nd (sa_cons (se_lst true (sa_cons (se_var 2) (sa_nil))) (sa_cons (se_lst true (sa_nil)) (sa_nil))))
    (ss_cons (ss_expr (se_reverse (se_ix (se_var 3) (se_int))))
    (ss_cons (ss_expr (se_append (se_ix (se_ix (se_var 3) (se_int)) (se_int)) (se_int)))
    (ss_cons (ss_expr (se_append (se_var 4) (se_int)))
    (ss_cons (ss_for g (si_enum T.blt (se_var 0)) (sg_tup g.calm (sgs_cons (sg_name 9 g.nd) (sgs_cons (sg_name 10 g.nd) (sgs_nil)))) (ss_cons (ss_if (st_not (st_val (se_call g (ih.1 30 (by decide)) T.m__law_deed_right (sa_cons (se_var 5) (sa_cons (se_var 1) (sa_cons (se_var 7) (sa_cons (se_var 8) (sa_cons (a_fdiv (se_call g (ih.1 20 (by decide)) T.m__law_value (sa_cons (se_var 10) (sa_cons (a_mod (se_var 9) (se_int)) (sa_nil)))) (se_int)) (sa_nil))))))))) (ss_one (ss_ret (se_bl))) (ss_nil))
    (ss_one (ss_if (st_w (sw_and (t_eq g (a_mod (se_var 9) (se_int)) (se_int)) (sw_and1 (st_not (st_val (se_call g (ih.1 28 (by decide)) T.m__law_same (sa_cons (se_var 5) (sa_cons (se_var 1) (sa_cons (se_var 7) (sa_cons (se_var 8) (sa_nil))))))))))) (ss_one (ss_ret (se_bl))) (ss_nil)))))
    (ss_cons (ss_if (st_w (sw_or (st_not (st_val (se_call g (ih.1 28 (by decide)) T.m__law_same (sa_cons (se_var 5) (sa_cons (se_var 1) (sa_cons (se_var 7) (sa_cons (se_var 8) (sa_nil)))))))) (sw_or1 (st_not (st_val (se_call g (ih.1 28 (by decide)) T.m__law_same (sa_cons (se_var 6) (sa_cons (se_var 1) (sa_cons (se_lst false (sa_cons (se_var 2) (sa_nil))) (sa_cons (se_lst false (sa_nil)) (sa_nil))))))))))) (ss_one (ss_ret (se_bl))) (ss_nil))
    (ss_cons (ss_set 5 g.nd (se_make g T.mk_Bag (ih.2.1 11 (by decide)) T.m_Bag (sa_cons (se_tup (sa_cons (se_int) (sa_cons (se_lst false (sa_cons (se_lst false (sa_cons (se_int) (sa_nil))) (sa_cons (se_lst false (sa_cons (se_int) (sa_cons (se_int) (sa_nil)))) (sa_cons (se_lst false (sa_nil)) (sa_nil))))) (sa_nil)))) (sa_cons (se_lst false (sa_cons (se_int) (sa_cons (se_int) (sa_nil)))) (sa_nil)))))
    (ss_cons (ss_for g (si_range1 T.blt (se_int)) (sg_name 11 g.nd) (ss_one (ss_if (t_ne g (se_meth [(0, 12)] g (me_draw_0 T ih.1) (T.nofl (by decide +kernel)) (se_var 5) (sa_cons (se_int) (sa_cons (se_int) (sa_nil)))) (se_lst false (sa_cons (se_int) (sa_cons (se_int) (sa_nil))))) (ss_one (ss_ret (se_bl))) (ss_nil))))
    (ss_cons (ss_for g (si_range1 T.blt (se_int)) (sg_name 11 g.nd) (ss_one (ss_if (st_w (sw_or (t_ne g (se_meth0 [(0, 13)] g (me_undo_0 T ih.1) (T.nofl (by decide +kernel)) (se_var 5)) (se_tup (sa_cons (se_int) (sa_cons (se_int) (sa_nil))))) (sw_or1 (t_ne g (se_meth0 [(0, 14)] g (me_marbles_0 T ih.1) (T.nofl (by decide +kernel)) (se_var 5)) (se_lst false (sa_cons (se_int) (sa_cons (se_int) (sa_nil)))))))) (ss_one (ss_ret (se_bl))) (ss_nil))))
    (ss_cons (ss_set 5 g.nd (se_make g T.mk_Bag (ih.2.1 11 (by decide)) T.m_Bag (sa_cons (se_tup (sa_cons (se_int) (sa_cons (se_lst false (sa_cons (se_lst false (sa_cons (se_int) (sa_nil))) (sa_cons (se_lst false (sa_cons (se_int) (sa_nil))) (sa_cons (se_lst false (sa_cons (se_int) (sa_nil))) (sa_nil))))) (sa_nil)))) (sa_cons (se_lst false (sa_cons (se_int) (sa_cons (se_int) (sa_nil)))) (sa_nil)))))
    (ss_cons (ss_set 12 g.nd (se_lst false (sa_cons (se_meth [(0, 12)] g (me_draw_0 T ih.1) (T.nofl (by decide +kernel)) (se_var 5) (sa_cons (se_int) (sa_cons (se_int) (sa_nil)))) (sa_cons (se_meth [(0, 12)] g (me_draw_0 T ih.1) (T.nofl (by decide +kernel)) (se_var 5) (sa_cons (se_int) (sa_cons (se_int) (sa_nil)))) (sa_cons (se_meth0 [(0, 17)] g (me_ended_0 T ih.1) (T.nofl (by decide +kernel)) (se_var 5)) (sa_cons (se_meth0 [(0, 13)] g (me_undo_0 T ih.1) (T.nofl (by decide +kernel)) (se_var 5)) (sa_cons (se_meth0 [(0, 15)] g (me_done_0 T ih.1) (T.nofl (by decide +kernel)) (se_var 5)) (sa_cons (se_meth0 [(0, 14)] g (me_marbles_0 T ih.1) (T.nofl (by decide +kernel)) (se_var 5)) (sa_nil)))))))))
    (ss_one (ss_ret (se_and (a_eq g (se_var 12) (se_lst false (sa_cons (se_lst false (sa_cons (se_int) (sa_nil))) (sa_cons (se_lst false (sa_cons (se_int) (sa_nil))) (sa_cons (se_bl) (sa_cons (se_tup (sa_cons (se_int) (sa_cons (se_int) (sa_nil)))) (sa_cons (se_lst false (sa_cons (se_tup (sa_cons (se_int) (sa_cons (se_int) (sa_nil)))) (sa_nil))) (sa_cons (se_lst false (sa_cons (se_int) (sa_cons (se_int) (sa_nil)))) (sa_nil))))))))) (se_one (a_eq g (se_meth0 [(0, 16)] g (me_can_do_0 T ih.1) (T.nofl (by decide +kernel)) (se_var 5)) (se_lst false (sa_cons (se_tup (sa_cons (se_int) (sa_cons (se_int) (sa_nil)))) (sa_nil))))))))))))))))))))))))
theorem all_ok (T : Txt K mg J A Ca Pa) (hB : ∀ k ∈ lamIds, LamX.TabB base mg (Ca k) (Pa k)) : ∀ (n k : Nat), k ∈ ids → FnM P w K mg base J (ctxN G n) n (A k) k := by
  intro n
  induction n using Nat.strongRecOn with
  | _ n IHn =>
    intro k hk
    unfold ids at hk
    simp only [List.mem_cons, List.not_mem_nil, or_false] at hk
    by_cases hn : n ≤ 3
    · rcases hk with rfl | rfl | rfl | rfl | rfl | rfl | rfl | rfl | rfl | rfl | rfl | rfl | rfl | rfl | rfl | rfl | rfl | rfl | rfl | rfl | rfl | rfl | rfl | rfl | rfl | rfl | rfl | rfl | rfl | rfl
      · exact fnM_low T.fn_is_whole hn
      · exact fnM_low T.fn_is_count hn
      · exact fnM_low T.fn_pairs_of hn
      · exact fnM_low T.fn_are_back hn
      · exact fnM_low T.fn_check_table hn
      · exact fnM_low T.fn_check_urn hn
      · exact fnM_low T.fn_back_of hn
      · exact fnM_low T.fn_change_of hn
      · exact fnM_low T.fn_can_draw hn
      · exact fnM_low T.fn_open_draws hn
      · exact fnM_low T.fn_behind hn
      · exact fnM_low T.fn_Bag_init hn
      · exact fnM_low T.fn_Bag_draw hn
      · exact fnM_low T.fn_Bag_undo hn
      · exact fnM_low T.fn_Bag_marbles hn
      · exact fnM_low T.fn_Bag_done hn
      · exact fnM_low T.fn_Bag_can_do hn
      · exact fnM_low T.fn_Bag_ended hn
      · exact fnM_low T.fn_law_cell_at hn
      · exact fnM_low T.fn_law_draw hn
      · exact fnM_low T.fn_law_value hn
      · exact fnM_low T.fn_law_says hn
      · exact fnM_low T.fn_law_pairs hn
      · exact fnM_low T.fn_law_backs hn
      · exact fnM_low T.fn_law_table hn
      · exact fnM_low T.fn_law_urn hn
      · exact fnM_low T.fn_law_behind hn
      · exact fnM_low T.fn_law_copied hn
      · exact fnM_low T.fn_law_same hn
      · exact fnM_lowP T.fn_law_deed_right hn
    · obtain ⟨m, rfl⟩ : ∃ m, n = m + 4 := ⟨n - 4, by omega⟩
      have ih : IH P w K mg base J A m := ⟨IHn _ (by omega), IHn _ (by omega), IHn _ (by omega), IHn _ (by omega)⟩
      rcases hk with rfl | rfl | rfl | rfl | rfl | rfl | rfl | rfl | rfl | rfl | rfl | rfl | rfl | rfl | rfl | rfl | rfl | rfl | rfl | rfl | rfl | rfl | rfl | rfl | rfl | rfl | rfl | rfl | rfl | rfl
      · exact fnM_of T.fn_is_whole sc_is_whole rfl rfl rfl (ok_is_whole T hB ih)
      · exact fnM_of T.fn_is_count sc_is_count rfl rfl rfl (ok_is_count T hB ih)
      · exact fnM_of T.fn_pairs_of sc_pairs_of rfl rfl rfl (ok_pairs_of T hB ih)
      · exact fnM_of T.fn_are_back sc_are_back rfl rfl rfl (ok_are_back T hB ih)
      · exact fnM_of T.fn_check_table sc_check_table rfl rfl rfl (ok_check_table T hB ih)
      · exact fnM_of T.fn_check_urn sc_check_urn rfl rfl rfl (ok_check_urn T hB ih)
      · exact fnM_of T.fn_back_of sc_back_of rfl rfl rfl (ok_back_of T hB ih)
      · exact fnM_of T.fn_change_of sc_change_of rfl rfl rfl (ok_change_of T hB ih)
      · exact fnM_of T.fn_can_draw sc_can_draw rfl rfl rfl (ok_can_draw T hB ih)
      · exact fnM_of T.fn_open_draws sc_open_draws rfl rfl rfl (ok_open_draws T hB ih)
      · exact fnM_of T.fn_behind sc_behind rfl rfl rfl (ok_behind T hB ih)
      · exact fnM_of T.fn_Bag_init sc_Bag_init rfl rfl rfl (ok_Bag_init T hB ih)
      · exact fnM_of T.fn_Bag_draw sc_Bag_draw rfl rfl rfl (ok_Bag_draw T hB ih)
      · exact fnM_of T.fn_Bag_undo sc_Bag_undo rfl rfl rfl (ok_Bag_undo T hB ih)
      · exact fnM_of T.fn_Bag_marbles sc_Bag_marbles rfl rfl rfl (ok_Bag_marbles T hB ih)
      · exact fnM_of T.fn_Bag_done sc_Bag_done rfl rfl rfl (ok_Bag_done T hB ih)
      · exact fnM_of T.fn_Bag_can_do sc_Bag_can_do rfl rfl rfl (ok_Bag_can_do T hB ih)
      · exact fnM_of T.fn_Bag_ended sc_Bag_ended rfl rfl rfl (ok_Bag_ended T hB ih)
      · exact fnM_of T.fn_law_cell_at sc_law_cell_at rfl rfl rfl (ok_law_cell_at T hB ih)
      · exact fnM_of T.fn_law_draw sc_law_draw rfl rfl rfl (ok_law_draw T hB ih)
      · exact fnM_of T.fn_law_value sc_law_value rfl rfl rfl (ok_law_value T hB ih)
      · exact fnM_of T.fn_law_says sc_law_says rfl rfl rfl (ok_law_says T hB ih)
      · exact fnM_of T.fn_law_pairs sc_law_pairs rfl rfl rfl (ok_law_pairs T hB ih)
      · exact fnM_of T.fn_law_backs sc_law_backs rfl rfl rfl (ok_law_backs T hB ih)
      · exact fnM_of T.fn_law_table sc_law_table rfl rfl rfl (ok_law_table T hB ih)
      · exact fnM_of T.fn_law_urn sc_law_urn rfl rfl rfl (ok_law_urn T hB ih)
      · exact fnM_of T.fn_law_behind sc_law_behind rfl rfl rfl (ok_law_behind T hB ih)
      · exact fnM_of T.fn_law_copied sc_law_copied rfl rfl rfl (ok_law_copied T hB ih)
      · exact fnM_of T.fn_law_same sc_law_same rfl rfl rfl (ok_law_same T hB ih)
      · exact fnM_ofP T.fn_law_deed_right sc_law_deed_right rfl rfl rfl (ok_law_deed_right T hB ih)
theorem law_at (T : Txt K mg J A Ca Pa) (hJ : ∀ t h H, J.inv t h H) (hB : ∀ k ∈ lamIds, LamX.TabB base mg (Ca k) (Pa k)) (hF : ∀ ns : List Int, ns.length ≤ 63 → ∃ h', f_law_k01.body (ctxN G 39) (law0 12 ns) [] = .rt (.bl true) h') {fd : FuncData} (U : Fun K "law" "law" s_law_k01 (A 31) fd) :
    FnOk P w K mg base (L2.CX P w) 40 (A 31) fd ["_law_script"] (spLaw K J) :=
  law_fn hJ (n := 39) (FunP.ofFun U) sc_law_k01 rfl (fun X E hX g => ok_law_k01 (n := 36) T hB ⟨all_ok T hB 39, all_ok T hB 38, all_ok T hB 37, all_ok T hB 36⟩ X E (hX.imp fun _ h => h.imp fun _ h => h.imp fun _ h => h.imp fun _ h => h.imp fun _ h => h.2) g) hF
end
def adr (l : List (Nat × Addr)) (n : Nat) : Addr := (l.lookup n).getD 0
theorem all_mk {l : PySem.W.OpenLaw} {w : World} {K : PySem.W.Frag} {h : Heap} {mg : Str → Option Value} {fa : Addr} (X : K.In h) (Gn : h.Ns mainGlobals mg) (hfa : mg "law" = some (.ref fa))
    {u_MOST_KINDS : Tok} {u_MOST_BACK : Tok} {u_MOST_BAG : Tok} {E0 : Addr} {E1 : Addr} {E2 : Addr} {E3 : Addr} {E4 : Addr} {E5 : Addr} {C0 : Addr} {f0 : Addr} {od0 an0 : Option Addr} {sl0 : Array (Option Value)} {oc0 kV0 dc0 pm0 ct0 : Value} {cd0 : Value} {f1 : Addr} {od1 an1 : Option Addr} {sl1 : Array (Option Value)} {oc1 kV1 dc1 pm1 ct1 : Value} {cd1 : Value} {f2 : Addr} {od2 an2 : Option Addr} {sl2 : Array (Option Value)} {oc2 kV2 dc2 pm2 ct2 : Value} {cd2 : Value} {f3 : Addr} {od3 an3 : Option Addr} {sl3 : Array (Option Value)} {oc3 kV3 dc3 pm3 ct3 : Value} {cd3 : Value} {f4 : Addr} {od4 an4 : Option Addr} {sl4 : Array (Option Value)} {oc4 kV4 dc4 pm4 ct4 : Value} {cd4 : Value} {f5 : Addr} {od5 an5 : Option Addr} {sl5 : Array (Option Value)} {oc5 kV5 dc5 pm5 ct5 : Value} {cd5 : Value} {f6 : Addr} {od6 an6 : Option Addr} {sl6 : Array (Option Value)} {oc6 kV6 dc6 pm6 ct6 : Value} {cd6 : Value} {f7 : Addr} {od7 an7 : Option Addr} {sl7 : Array (Option Value)} {oc7 kV7 dc7 pm7 ct7 : Value} {cd7 : Value} {f8 : Addr} {od8 an8 : Option Addr} {sl8 : Array (Option Value)} {oc8 kV8 dc8 pm8 ct8 : Value} {cd8 : Value} {f9 : Addr} {od9 an9 : Option Addr} {sl9 : Array (Option Value)} {oc9 kV9 dc9 pm9 ct9 : Value} {cd9 : Value} {f10 : Addr} {od10 an10 : Option Addr} {sl10 : Array (Option Value)} {oc10 kV10 dc10 pm10 ct10 : Value} {cd10 : Value} {f11 : Addr} {od11 an11 : Option Addr} {sl11 : Array (Option Value)} {oc11 kV11 dc11 pm11 ct11 : Value} {cd11 : Value} {f12 : Addr} {od12 an12 : Option Addr} {sl12 : Array (Option Value)} {oc12 kV12 dc12 pm12 ct12 : Value} {cd12 : Value} {f13 : Addr} {od13 an13 : Option Addr} {sl13 : Array (Option Value)} {oc13 kV13 dc13 pm13 ct13 : Value} {cd13 : Value} {f14 : Addr} {od14 an14 : Option Addr} {sl14 : Array (Option Value)} {oc14 kV14 dc14 pm14 ct14 : Value} {cd14 : Value} {f15 : Addr} {od15 an15 : Option Addr} {sl15 : Array (Option Value)} {oc15 kV15 dc15 pm15 ct15 : Value} {cd15 : Value} {f16 : Addr} {od16 an16 : Option Addr} {sl16 : Array (Option Value)} {oc16 kV16 dc16 pm16 ct16 : Value} {cd16 : Value} {f17 : Addr} {od17 an17 : Option Addr} {sl17 : Array (Option Value)} {oc17 kV17 dc17 pm17 ct17 : Value} {cd17 : Value} {f18 : Addr} {od18 an18 : Option Addr} {sl18 : Array (Option Value)} {oc18 kV18 dc18 pm18 ct18 : Value} {cd18 : Value} {f19 : Addr} {od19 an19 : Option Addr} {sl19 : Array (Option Value)} {oc19 kV19 dc19 pm19 ct19 : Value} {cd19 : Value} {f20 : Addr} {od20 an20 : Option Addr} {sl20 : Array (Option Value)} {oc20 kV20 dc20 pm20 ct20 : Value} {cd20 : Value} {f21 : Addr} {od21 an21 : Option Addr} {sl21 : Array (Option Value)} {oc21 kV21 dc21 pm21 ct21 : Value} {cd21 : Value} {f22 : Addr} {od22 an22 : Option Addr} {sl22 : Array (Option Value)} {oc22 kV22 dc22 pm22 ct22 : Value} {cd22 : Value} {f23 : Addr} {od23 an23 : Option Addr} {sl23 : Array (Option Value)} {oc23 kV23 dc23 pm23 ct23 : Value} {cd23 : Value} {f24 : Addr} {od24 an24 : Option Addr} {sl24 : Array (Option Value)} {oc24 kV24 dc24 pm24 ct24 : Value} {cd24 : Value} {f25 : Addr} {od25 an25 : Option Addr} {sl25 : Array (Option Value)} {oc25 kV25 dc25 pm25 ct25 : Value} {cd25 : Value} {f26 : Addr} {od26 an26 : Option Addr} {sl26 : Array (Option Value)} {oc26 kV26 dc26 pm26 ct26 : Value} {cd26 : Value} {f27 : Addr} {od27 an27 : Option Addr} {sl27 : Array (Option Value)} {oc27 kV27 dc27 pm27 ct27 : Value} {cd27 : Value} {f28 : Addr} {od28 an28 : Option Addr} {sl28 : Array (Option Value)} {oc28 kV28 dc28 pm28 ct28 : Value} {cd28 : Value} {f29 : Addr} {od29 an29 : Option Addr} {sl29 : Array (Option Value)} {oc29 kV29 dc29 pm29 ct29 : Value} {cd29 : Value} {f30 : Addr} {od30 an30 : Option Addr} {sl30 : Array (Option Value)} {oc30 kV30 dc30 pm30 ct30 : Value} {c30 p30 : Addr} {f31 : Addr} {od31 an31 : Option Addr} {sl31 : Array (Option Value)} {oc31 kV31 dc31 pm31 ct31 : Value} {cd31 : Value} {v30 : Array Value} {q30 : Option Addr} {r30 : Array (Option Value)}
    (b_len : PySem.W.nsIn K mainGlobals "len" = some none)
    (b_list : PySem.W.nsIn K mainGlobals "list" = some none)
    (b_tuple : PySem.W.nsIn K mainGlobals "tuple" = some none)
    (b_int : PySem.W.nsIn K mainGlobals "int" = some none)
    (b_bool : PySem.W.nsIn K mainGlobals "bool" = some none)
    (b_sum : PySem.W.nsIn K mainGlobals "sum" = some none)
    (b_all : PySem.W.nsIn K mainGlobals "all" = some none)
    (b_any : PySem.W.nsIn K mainGlobals "any" = some none)
    (b_abs : PySem.W.nsIn K mainGlobals "abs" = some none)
    (b_max : PySem.W.nsIn K mainGlobals "max" = some none)
    (b_min : PySem.W.nsIn K mainGlobals "min" = some none)
    (b_sorted : PySem.W.nsIn K mainGlobals "sorted" = some none)
    (b_set : PySem.W.nsIn K mainGlobals "set" = some none)
    (b_isinstance : PySem.W.nsIn K mainGlobals "isinstance" = some none)
    (b_range : PySem.W.nsIn K mainGlobals "range" = some none)
    (b_enumerate : PySem.W.nsIn K mainGlobals "enumerate" = some none)
    (b_zip : PySem.W.nsIn K mainGlobals "zip" = some none)
    (b_str : PySem.W.nsIn K mainGlobals "str" = some none)
    (b_ValueError : PySem.W.nsIn K mainGlobals "ValueError" = some none)
    (k_MOST_KINDS : PySem.W.nsIn K mainGlobals "MOST_KINDS" = some (some (.int 4 u_MOST_KINDS)))
    (k_MOST_BACK : PySem.W.nsIn K mainGlobals "MOST_BACK" = some (some (.int 2 u_MOST_BACK)))
    (k_MOST_BAG : PySem.W.nsIn K mainGlobals "MOST_BAG" = some (some (.int 60 u_MOST_BAG)))
    (ea0 : PySem.W.nsIn K mainGlobals "MarbleError" = some (some (.ref E0)))
    (eq0 : PySem.W.excIn K E0 [.type "ValueError", .type "Exception", .type "BaseException", .type "object"] "ValueError.__new__" = true)
    (ek0 : PySem.W.keepIn K (.ref E0) = true)
    (es0 : PySem.W.subIn K (.ref E0) (.type "BaseException") = some true)
    (et0 : PySem.W.typeIn K (.ref E0) = some (.type "type"))
    (ea1 : PySem.W.nsIn K mainGlobals "BadTable" = some (some (.ref E1)))
    (eq1 : PySem.W.excIn K E1 [.type "ValueError", .type "Exception", .type "BaseException", .type "object"] "ValueError.__new__" = true)
    (ek1 : PySem.W.keepIn K (.ref E1) = true)
    (es1 : PySem.W.subIn K (.ref E1) (.type "BaseException") = some true)
    (et1 : PySem.W.typeIn K (.ref E1) = some (.type "type"))
    (ea2 : PySem.W.nsIn K mainGlobals "BadUrn" = some (some (.ref E2)))
    (eq2 : PySem.W.excIn K E2 [.type "ValueError", .type "Exception", .type "BaseException", .type "object"] "ValueError.__new__" = true)
    (ek2 : PySem.W.keepIn K (.ref E2) = true)
    (es2 : PySem.W.subIn K (.ref E2) (.type "BaseException") = some true)
    (et2 : PySem.W.typeIn K (.ref E2) = some (.type "type"))
    (ea3 : PySem.W.nsIn K mainGlobals "BadDraw" = some (some (.ref E3)))
    (eq3 : PySem.W.excIn K E3 [.type "ValueError", .type "Exception", .type "BaseException", .type "object"] "ValueError.__new__" = true)
    (ek3 : PySem.W.keepIn K (.ref E3) = true)
    (es3 : PySem.W.subIn K (.ref E3) (.type "BaseException") = some true)
    (et3 : PySem.W.typeIn K (.ref E3) = some (.type "type"))
    (ea4 : PySem.W.nsIn K mainGlobals "NotThere" = some (some (.ref E4)))
    (eq4 : PySem.W.excIn K E4 [.type "ValueError", .type "Exception", .type "BaseException", .type "object"] "ValueError.__new__" = true)
    (ek4 : PySem.W.keepIn K (.ref E4) = true)
    (es4 : PySem.W.subIn K (.ref E4) (.type "BaseException") = some true)
    (et4 : PySem.W.typeIn K (.ref E4) = some (.type "type"))
    (ea5 : PySem.W.nsIn K mainGlobals "Nothing" = some (some (.ref E5)))
    (eq5 : PySem.W.excIn K E5 [.type "ValueError", .type "Exception", .type "BaseException", .type "object"] "ValueError.__new__" = true)
    (ek5 : PySem.W.keepIn K (.ref E5) = true)
    (es5 : PySem.W.subIn K (.ref E5) (.type "BaseException") = some true)
    (et5 : PySem.W.typeIn K (.ref E5) = some (.type "type"))
    (xn : PySem.W.specialIn K (.builtin "object.__class__") "__get__" = some (some (.builtin "getset_descriptor.__get__")))
    (xt : PySem.W.takesIn K (.builtin "object.__class__") = some true)
    (xd0 : PySem.W.hasDictIn K E0 = true)
    (xg1 : PySem.W.findIn K (.ref E1) "__getattribute__" = some (some (.builtin "BaseException.__getattribute__")))
    (xk1 : PySem.W.findIn K (.ref E1) "__getattr__" = some none)
    (xd1 : PySem.W.hasDictIn K E1 = true)
    (xa1 : PySem.W.findIn K (.ref E1) "__class__" = some (some (.builtin "object.__class__")))
    (xm1 : PySem.W.mroIn K E1 (.type "object") = some true)
    (xs1 : PySem.W.subIn K (.ref E1) (.ref E0) = some true)
    (xv1 : PySem.W.kitOne K (.ref E1) (.type "ValueError") = some true)
    (xi1_1 : PySem.W.kitOne K (.ref E1) (.ref E1) = some true)
    (xi1_2 : PySem.W.kitOne K (.ref E1) (.ref E2) = some false)
    (xi1_3 : PySem.W.kitOne K (.ref E1) (.ref E3) = some false)
    (xi1_4 : PySem.W.kitOne K (.ref E1) (.ref E4) = some false)
    (xi1_5 : PySem.W.kitOne K (.ref E1) (.ref E5) = some false)
    (xg2 : PySem.W.findIn K (.ref E2) "__getattribute__" = some (some (.builtin "BaseException.__getattribute__")))
    (xk2 : PySem.W.findIn K (.ref E2) "__getattr__" = some none)
    (xd2 : PySem.W.hasDictIn K E2 = true)
    (xa2 : PySem.W.findIn K (.ref E2) "__class__" = some (some (.builtin "object.__class__")))
    (xm2 : PySem.W.mroIn K E2 (.type "object") = some true)
    (xs2 : PySem.W.subIn K (.ref E2) (.ref E0) = some true)
    (xv2 : PySem.W.kitOne K (.ref E2) (.type "ValueError") = some true)
    (xi2_1 : PySem.W.kitOne K (.ref E2) (.ref E1) = some false)
    (xi2_2 : PySem.W.kitOne K (.ref E2) (.ref E2) = some true)
    (xi2_3 : PySem.W.kitOne K (.ref E2) (.ref E3) = some false)
    (xi2_4 : PySem.W.kitOne K (.ref E2) (.ref E4) = some false)
    (xi2_5 : PySem.W.kitOne K (.ref E2) (.ref E5) = some false)
    (xg3 : PySem.W.findIn K (.ref E3) "__getattribute__" = some (some (.builtin "BaseException.__getattribute__")))
    (xk3 : PySem.W.findIn K (.ref E3) "__getattr__" = some none)
    (xd3 : PySem.W.hasDictIn K E3 = true)
    (xa3 : PySem.W.findIn K (.ref E3) "__class__" = some (some (.builtin "object.__class__")))
    (xm3 : PySem.W.mroIn K E3 (.type "object") = some true)
    (xs3 : PySem.W.subIn K (.ref E3) (.ref E0) = some true)
    (xv3 : PySem.W.kitOne K (.ref E3) (.type "ValueError") = some true)
    (xi3_1 : PySem.W.kitOne K (.ref E3) (.ref E1) = some false)
    (xi3_2 : PySem.W.kitOne K (.ref E3) (.ref E2) = some false)
    (xi3_3 : PySem.W.kitOne K (.ref E3) (.ref E3) = some true)
    (xi3_4 : PySem.W.kitOne K (.ref E3) (.ref E4) = some false)
    (xi3_5 : PySem.W.kitOne K (.ref E3) (.ref E5) = some false)
    (xg4 : PySem.W.findIn K (.ref E4) "__getattribute__" = some (some (.builtin "BaseException.__getattribute__")))
    (xk4 : PySem.W.findIn K (.ref E4) "__getattr__" = some none)
    (xd4 : PySem.W.hasDictIn K E4 = true)
    (xa4 : PySem.W.findIn K (.ref E4) "__class__" = some (some (.builtin "object.__class__")))
    (xm4 : PySem.W.mroIn K E4 (.type "object") = some true)
    (xs4 : PySem.W.subIn K (.ref E4) (.ref E0) = some true)
    (xv4 : PySem.W.kitOne K (.ref E4) (.type "ValueError") = some true)
    (xi4_1 : PySem.W.kitOne K (.ref E4) (.ref E1) = some false)
    (xi4_2 : PySem.W.kitOne K (.ref E4) (.ref E2) = some false)
    (xi4_3 : PySem.W.kitOne K (.ref E4) (.ref E3) = some false)
    (xi4_4 : PySem.W.kitOne K (.ref E4) (.ref E4) = some true)
    (xi4_5 : PySem.W.kitOne K (.ref E4) (.ref E5) = some false)
    (xg5 : PySem.W.findIn K (.ref E5) "__getattribute__" = some (some (.builtin "BaseException.__getattribute__")))
    (xk5 : PySem.W.findIn K (.ref E5) "__getattr__" = some none)
    (xd5 : PySem.W.hasDictIn K E5 = true)
    (xa5 : PySem.W.findIn K (.ref E5) "__class__" = some (some (.builtin "object.__class__")))
    (xm5 : PySem.W.mroIn K E5 (.type "object") = some true)
    (xs5 : PySem.W.subIn K (.ref E5) (.ref E0) = some true)
    (xv5 : PySem.W.kitOne K (.ref E5) (.type "ValueError") = some true)
    (xi5_1 : PySem.W.kitOne K (.ref E5) (.ref E1) = some false)
    (xi5_2 : PySem.W.kitOne K (.ref E5) (.ref E2) = some false)
    (xi5_3 : PySem.W.kitOne K (.ref E5) (.ref E3) = some false)
    (xi5_4 : PySem.W.kitOne K (.ref E5) (.ref E4) = some false)
    (xi5_5 : PySem.W.kitOne K (.ref E5) (.ref E5) = some true)
    (ca0 : PySem.W.nsIn K mainGlobals "Bag" = some (some (.ref C0)))
    (cg0 : PySem.W.plainGet K C0 Str.empty = true)
    (ch0 : PySem.W.hasDictIn K C0 = true)
    (co0 : PySem.W.plainOver K C0 = true)
    (cs0 : PySem.W.findIn K (.ref C0) "__setattr__" = some (some (.builtin "object.__setattr__")))
    (cm0 : PySem.W.makesIn K C0 = true)
    (ck0 : PySem.W.keepIn K (.ref C0) = true)
    (cn0_table : PySem.W.findIn K (.ref C0) "table" = some none)
    (cn0_stands : PySem.W.findIn K (.ref C0) "stands" = some none)
    (cn0_pairs : PySem.W.findIn K (.ref C0) "pairs" = some none)
    (fa0 : PySem.W.nsIn K mainGlobals "is_whole" = some (some (.ref f0)))
    (fl0 : K.lookup f0 = some ⟨oc0, od0, .func (PySem.W.fnOf "is_whole" "is_whole" (defArgs s_is_whole) (defBody s_is_whole) (defScope s_is_whole) .none kV0 dc0 pm0 an0 cd0 ct0), sl0⟩)
    (fc0 : PySem.W.codeIn K cd0 "is_whole" = true)
    (fk0 : PySem.W.keepIn K (.ref f0) = true)
    (fa1 : PySem.W.nsIn K mainGlobals "is_count" = some (some (.ref f1)))
    (fl1 : K.lookup f1 = some ⟨oc1, od1, .func (PySem.W.fnOf "is_count" "is_count" (defArgs s_is_count) (defBody s_is_count) (defScope s_is_count) .none kV1 dc1 pm1 an1 cd1 ct1), sl1⟩)
    (fc1 : PySem.W.codeIn K cd1 "is_count" = true)
    (fk1 : PySem.W.keepIn K (.ref f1) = true)
    (fa2 : PySem.W.nsIn K mainGlobals "pairs_of" = some (some (.ref f2)))
    (fl2 : K.lookup f2 = some ⟨oc2, od2, .func (PySem.W.fnOf "pairs_of" "pairs_of" (defArgs s_pairs_of) (defBody s_pairs_of) (defScope s_pairs_of) .none kV2 dc2 pm2 an2 cd2 ct2), sl2⟩)
    (fc2 : PySem.W.codeIn K cd2 "pairs_of" = true)
    (fk2 : PySem.W.keepIn K (.ref f2) = true)
    (fa3 : PySem.W.nsIn K mainGlobals "are_back" = some (some (.ref f3)))
    (fl3 : K.lookup f3 = some ⟨oc3, od3, .func (PySem.W.fnOf "are_back" "are_back" (defArgs s_are_back) (defBody s_are_back) (defScope s_are_back) .none kV3 dc3 pm3 an3 cd3 ct3), sl3⟩)
    (fc3 : PySem.W.codeIn K cd3 "are_back" = true)
    (fk3 : PySem.W.keepIn K (.ref f3) = true)
    (fa4 : PySem.W.nsIn K mainGlobals "check_table" = some (some (.ref f4)))
    (fl4 : K.lookup f4 = some ⟨oc4, od4, .func (PySem.W.fnOf "check_table" "check_table" (defArgs s_check_table) (defBody s_check_table) (defScope s_check_table) .none kV4 dc4 pm4 an4 cd4 ct4), sl4⟩)
    (fc4 : PySem.W.codeIn K cd4 "check_table" = true)
    (fk4 : PySem.W.keepIn K (.ref f4) = true)
    (fa5 : PySem.W.nsIn K mainGlobals "check_urn" = some (some (.ref f5)))
    (fl5 : K.lookup f5 = some ⟨oc5, od5, .func (PySem.W.fnOf "check_urn" "check_urn" (defArgs s_check_urn) (defBody s_check_urn) (defScope s_check_urn) .none kV5 dc5 pm5 an5 cd5 ct5), sl5⟩)
    (fc5 : PySem.W.codeIn K cd5 "check_urn" = true)
    (fk5 : PySem.W.keepIn K (.ref f5) = true)
    (fa6 : PySem.W.nsIn K mainGlobals "back_of" = some (some (.ref f6)))
    (fl6 : K.lookup f6 = some ⟨oc6, od6, .func (PySem.W.fnOf "back_of" "back_of" (defArgs s_back_of) (defBody s_back_of) (defScope s_back_of) .none kV6 dc6 pm6 an6 cd6 ct6), sl6⟩)
    (fc6 : PySem.W.codeIn K cd6 "back_of" = true)
    (fk6 : PySem.W.keepIn K (.ref f6) = true)
    (fa7 : PySem.W.nsIn K mainGlobals "change_of" = some (some (.ref f7)))
    (fl7 : K.lookup f7 = some ⟨oc7, od7, .func (PySem.W.fnOf "change_of" "change_of" (defArgs s_change_of) (defBody s_change_of) (defScope s_change_of) .none kV7 dc7 pm7 an7 cd7 ct7), sl7⟩)
    (fc7 : PySem.W.codeIn K cd7 "change_of" = true)
    (fk7 : PySem.W.keepIn K (.ref f7) = true)
    (fa8 : PySem.W.nsIn K mainGlobals "can_draw" = some (some (.ref f8)))
    (fl8 : K.lookup f8 = some ⟨oc8, od8, .func (PySem.W.fnOf "can_draw" "can_draw" (defArgs s_can_draw) (defBody s_can_draw) (defScope s_can_draw) .none kV8 dc8 pm8 an8 cd8 ct8), sl8⟩)
    (fc8 : PySem.W.codeIn K cd8 "can_draw" = true)
    (fk8 : PySem.W.keepIn K (.ref f8) = true)
    (fa9 : PySem.W.nsIn K mainGlobals "open_draws" = some (some (.ref f9)))
    (fl9 : K.lookup f9 = some ⟨oc9, od9, .func (PySem.W.fnOf "open_draws" "open_draws" (defArgs s_open_draws) (defBody s_open_draws) (defScope s_open_draws) .none kV9 dc9 pm9 an9 cd9 ct9), sl9⟩)
    (fc9 : PySem.W.codeIn K cd9 "open_draws" = true)
    (fk9 : PySem.W.keepIn K (.ref f9) = true)
    (fa10 : PySem.W.nsIn K mainGlobals "behind" = some (some (.ref f10)))
    (fl10 : K.lookup f10 = some ⟨oc10, od10, .func (PySem.W.fnOf "behind" "behind" (defArgs s_behind) (defBody s_behind) (defScope s_behind) .none kV10 dc10 pm10 an10 cd10 ct10), sl10⟩)
    (fc10 : PySem.W.codeIn K cd10 "behind" = true)
    (fk10 : PySem.W.keepIn K (.ref f10) = true)
    (fa11 : PySem.W.findIn K (.ref C0) "__init__" = some (some (.ref f11)))
    (fi11 : PySem.W.isFn K (.ref f11) = true)
    (fl11 : K.lookup f11 = some ⟨oc11, od11, .func (PySem.W.fnOf "__init__" "Bag.__init__" (defArgs s_Bag_init) (defBody s_Bag_init) (defScope s_Bag_init) .none kV11 dc11 pm11 an11 cd11 ct11), sl11⟩)
    (fc11 : PySem.W.codeIn K cd11 "Bag.__init__" = true)
    (fk11 : PySem.W.keepIn K (.ref f11) = true)
    (fa12 : PySem.W.findIn K (.ref C0) "draw" = some (some (.ref f12)))
    (fi12 : PySem.W.isFn K (.ref f12) = true)
    (fl12 : K.lookup f12 = some ⟨oc12, od12, .func (PySem.W.fnOf "draw" "Bag.draw" (defArgs s_Bag_draw) (defBody s_Bag_draw) (defScope s_Bag_draw) .none kV12 dc12 pm12 an12 cd12 ct12), sl12⟩)
    (fc12 : PySem.W.codeIn K cd12 "Bag.draw" = true)
    (fk12 : PySem.W.keepIn K (.ref f12) = true)
    (fa13 : PySem.W.findIn K (.ref C0) "undo" = some (some (.ref f13)))
    (fi13 : PySem.W.isFn K (.ref f13) = true)
    (fl13 : K.lookup f13 = some ⟨oc13, od13, .func (PySem.W.fnOf "undo" "Bag.undo" (defArgs s_Bag_undo) (defBody s_Bag_undo) (defScope s_Bag_undo) .none kV13 dc13 pm13 an13 cd13 ct13), sl13⟩)
    (fc13 : PySem.W.codeIn K cd13 "Bag.undo" = true)
    (fk13 : PySem.W.keepIn K (.ref f13) = true)
    (fa14 : PySem.W.findIn K (.ref C0) "marbles" = some (some (.ref f14)))
    (fi14 : PySem.W.isFn K (.ref f14) = true)
    (fl14 : K.lookup f14 = some ⟨oc14, od14, .func (PySem.W.fnOf "marbles" "Bag.marbles" (defArgs s_Bag_marbles) (defBody s_Bag_marbles) (defScope s_Bag_marbles) .none kV14 dc14 pm14 an14 cd14 ct14), sl14⟩)
    (fc14 : PySem.W.codeIn K cd14 "Bag.marbles" = true)
    (fk14 : PySem.W.keepIn K (.ref f14) = true)
    (fa15 : PySem.W.findIn K (.ref C0) "done" = some (some (.ref f15)))
    (fi15 : PySem.W.isFn K (.ref f15) = true)
    (fl15 : K.lookup f15 = some ⟨oc15, od15, .func (PySem.W.fnOf "done" "Bag.done" (defArgs s_Bag_done) (defBody s_Bag_done) (defScope s_Bag_done) .none kV15 dc15 pm15 an15 cd15 ct15), sl15⟩)
    (fc15 : PySem.W.codeIn K cd15 "Bag.done" = true)
    (fk15 : PySem.W.keepIn K (.ref f15) = true)
    (fa16 : PySem.W.findIn K (.ref C0) "can_do" = some (some (.ref f16)))
    (fi16 : PySem.W.isFn K (.ref f16) = true)
    (fl16 : K.lookup f16 = some ⟨oc16, od16, .func (PySem.W.fnOf "can_do" "Bag.can_do" (defArgs s_Bag_can_do) (defBody s_Bag_can_do) (defScope s_Bag_can_do) .none kV16 dc16 pm16 an16 cd16 ct16), sl16⟩)
    (fc16 : PySem.W.codeIn K cd16 "Bag.can_do" = true)
    (fk16 : PySem.W.keepIn K (.ref f16) = true)
    (fa17 : PySem.W.findIn K (.ref C0) "ended" = some (some (.ref f17)))
    (fi17 : PySem.W.isFn K (.ref f17) = true)
    (fl17 : K.lookup f17 = some ⟨oc17, od17, .func (PySem.W.fnOf "ended" "Bag.ended" (defArgs s_Bag_ended) (defBody s_Bag_ended) (defScope s_Bag_ended) .none kV17 dc17 pm17 an17 cd17 ct17), sl17⟩)
    (fc17 : PySem.W.codeIn K cd17 "Bag.ended" = true)
    (fk17 : PySem.W.keepIn K (.ref f17) = true)
    (fa18 : PySem.W.nsIn K mainGlobals "_law_cell_at" = some (some (.ref f18)))
    (fl18 : K.lookup f18 = some ⟨oc18, od18, .func (PySem.W.fnOf "_law_cell_at" "_law_cell_at" (defArgs s_law_cell_at) (defBody s_law_cell_at) (defScope s_law_cell_at) .none kV18 dc18 pm18 an18 cd18 ct18), sl18⟩)
    (fc18 : PySem.W.codeIn K cd18 "_law_cell_at" = true)
    (fk18 : PySem.W.keepIn K (.ref f18) = true)
    (fa19 : PySem.W.nsIn K mainGlobals "_law_draw" = some (some (.ref f19)))
    (fl19 : K.lookup f19 = some ⟨oc19, od19, .func (PySem.W.fnOf "_law_draw" "_law_draw" (defArgs s_law_draw) (defBody s_law_draw) (defScope s_law_draw) .none kV19 dc19 pm19 an19 cd19 ct19), sl19⟩)
    (fc19 : PySem.W.codeIn K cd19 "_law_draw" = true)
    (fk19 : PySem.W.keepIn K (.ref f19) = true)
    (fa20 : PySem.W.nsIn K mainGlobals "_law_value" = some (some (.ref f20)))
    (fl20 : K.lookup f20 = some ⟨oc20, od20, .func (PySem.W.fnOf "_law_value" "_law_value" (defArgs s_law_value) (defBody s_law_value) (defScope s_law_value) .none kV20 dc20 pm20 an20 cd20 ct20), sl20⟩)
    (fc20 : PySem.W.codeIn K cd20 "_law_value" = true)
    (fk20 : PySem.W.keepIn K (.ref f20) = true)
    (fa21 : PySem.W.nsIn K mainGlobals "_law_says" = some (some (.ref f21)))
    (fl21 : K.lookup f21 = some ⟨oc21, od21, .func (PySem.W.fnOf "_law_says" "_law_says" (defArgs s_law_says) (defBody s_law_says) (defScope s_law_says) .none kV21 dc21 pm21 an21 cd21 ct21), sl21⟩)
    (fc21 : PySem.W.codeIn K cd21 "_law_says" = true)
    (fk21 : PySem.W.keepIn K (.ref f21) = true)
    (fa22 : PySem.W.nsIn K mainGlobals "_law_pairs" = some (some (.ref f22)))
    (fl22 : K.lookup f22 = some ⟨oc22, od22, .func (PySem.W.fnOf "_law_pairs" "_law_pairs" (defArgs s_law_pairs) (defBody s_law_pairs) (defScope s_law_pairs) .none kV22 dc22 pm22 an22 cd22 ct22), sl22⟩)
    (fc22 : PySem.W.codeIn K cd22 "_law_pairs" = true)
    (fk22 : PySem.W.keepIn K (.ref f22) = true)
    (fa23 : PySem.W.nsIn K mainGlobals "_law_backs" = some (some (.ref f23)))
    (fl23 : K.lookup f23 = some ⟨oc23, od23, .func (PySem.W.fnOf "_law_backs" "_law_backs" (defArgs s_law_backs) (defBody s_law_backs) (defScope s_law_backs) .none kV23 dc23 pm23 an23 cd23 ct23), sl23⟩)
    (fc23 : PySem.W.codeIn K cd23 "_law_backs" = true)
    (fk23 : PySem.W.keepIn K (.ref f23) = true)
    (fa24 : PySem.W.nsIn K mainGlobals "_law_table" = some (some (.ref f24)))
    (fl24 : K.lookup f24 = some ⟨oc24, od24, .func (PySem.W.fnOf "_law_table" "_law_table" (defArgs s_law_table) (defBody s_law_table) (defScope s_law_table) .none kV24 dc24 pm24 an24 cd24 ct24), sl24⟩)
    (fc24 : PySem.W.codeIn K cd24 "_law_table" = true)
    (fk24 : PySem.W.keepIn K (.ref f24) = true)
    (fa25 : PySem.W.nsIn K mainGlobals "_law_urn" = some (some (.ref f25)))
    (fl25 : K.lookup f25 = some ⟨oc25, od25, .func (PySem.W.fnOf "_law_urn" "_law_urn" (defArgs s_law_urn) (defBody s_law_urn) (defScope s_law_urn) .none kV25 dc25 pm25 an25 cd25 ct25), sl25⟩)
    (fc25 : PySem.W.codeIn K cd25 "_law_urn" = true)
    (fk25 : PySem.W.keepIn K (.ref f25) = true)
    (fa26 : PySem.W.nsIn K mainGlobals "_law_behind" = some (some (.ref f26)))
    (fl26 : K.lookup f26 = some ⟨oc26, od26, .func (PySem.W.fnOf "_law_behind" "_law_behind" (defArgs s_law_behind) (defBody s_law_behind) (defScope s_law_behind) .none kV26 dc26 pm26 an26 cd26 ct26), sl26⟩)
    (fc26 : PySem.W.codeIn K cd26 "_law_behind" = true)
    (fk26 : PySem.W.keepIn K (.ref f26) = true)
    (fa27 : PySem.W.nsIn K mainGlobals "_law_copied" = some (some (.ref f27)))
    (fl27 : K.lookup f27 = some ⟨oc27, od27, .func (PySem.W.fnOf "_law_copied" "_law_copied" (defArgs s_law_copied) (defBody s_law_copied) (defScope s_law_copied) .none kV27 dc27 pm27 an27 cd27 ct27), sl27⟩)
    (fc27 : PySem.W.codeIn K cd27 "_law_copied" = true)
    (fk27 : PySem.W.keepIn K (.ref f27) = true)
    (fa28 : PySem.W.nsIn K mainGlobals "_law_same" = some (some (.ref f28)))
    (fl28 : K.lookup f28 = some ⟨oc28, od28, .func (PySem.W.fnOf "_law_same" "_law_same" (defArgs s_law_same) (defBody s_law_same) (defScope s_law_same) .none kV28 dc28 pm28 an28 cd28 ct28), sl28⟩)
    (fc28 : PySem.W.codeIn K cd28 "_law_same" = true)
    (fk28 : PySem.W.keepIn K (.ref f28) = true)
    (fa29 : PySem.W.nsIn K mainGlobals "_law_told" = some (some (.ref f29)))
    (fl29 : K.lookup f29 = some ⟨oc29, od29, .func (PySem.W.fnOf "_law_told" "_law_told" (defArgs s_law_told) (defBody s_law_told) (defScope s_law_told) .none kV29 dc29 pm29 an29 cd29 ct29), sl29⟩)
    (fc29 : PySem.W.codeIn K cd29 "_law_told" = true)
    (fk29 : PySem.W.keepIn K (.ref f29) = true)
    (fa30 : PySem.W.nsIn K mainGlobals "_law_deed_right" = some (some (.ref f30)))
    (fl30 : K.lookup f30 = some ⟨oc30, od30, .func (PySem.W.fnOf "_law_deed_right" "_law_deed_right" (defArgs s_law_deed_right) (defBody s_law_deed_right) (defScope s_law_deed_right) .none kV30 dc30 pm30 an30 (.ref c30) ct30), sl30⟩)
    (fc30 : PySem.W.codeIn K (.ref c30) "_law_deed_right" = true)
    (fk30 : PySem.W.keepIn K (.ref f30) = true)
    (fa31 : PySem.W.nsIn K mainGlobals "law" = some (some (.ref f31)))
    (fl31 : K.lookup f31 = some ⟨oc31, od31, .func (PySem.W.fnOf "law" "law" (defArgs s_law_k01) (defBody s_law_k01) (defScope s_law_k01) .none kV31 dc31 pm31 an31 cd31 ct31), sl31⟩)
    (fc31 : PySem.W.codeIn K cd31 "law" = true)
    (fk31 : PySem.W.keepIn K (.ref f31) = true)
    (tc30 : K.lookup c30 = some ⟨.type "code", q30, .fields v30, r30⟩)
    (tp30 : v30[11]? = some (.ref p30))
    (th30 : PySem.W.codeHdIn K c30 p30 = true)
    (tn30 : K.lookup p30 = none)
    (tt30 : h.get? p30 = some (PySem.W.tabObj #[]))
    (hF : ∀ ns : List Int, ns.length ≤ 63 → ∃ h', f_law_k01.body (ctxN G 39) (law0 12 ns) [] = .rt (.bl true) h') :
    LamX.LawAtS l w K (L2.CX l.prog w) 40 63 "_law_script" mg fa h := by
  have e : f31 = fa := (Value.ref.inj (Option.some.inj (hfa.symm.trans (PySem.W.mg_of X Gn fa31)))).symm
  subst e
  let J : Inf := ⟨adr [(0, C0)], adr [(0, E0), (1, E1), (2, E2), (3, E3), (4, E4), (5, E5)], fldName, adr [], [(p30, (("_law_deed_right" : Str) ++ ".<locals>." ++ "<lambda>"))], fldName_inj, fun _ _ _ => True, fun _ _ => trivial⟩
  have KI : KiT K mg J := {
    blt := ⟨PySem.W.mg_none_of X Gn b_len, PySem.W.mg_none_of X Gn b_list, PySem.W.mg_none_of X Gn b_tuple, PySem.W.mg_none_of X Gn b_int, PySem.W.mg_none_of X Gn b_bool, PySem.W.mg_none_of X Gn b_sum, PySem.W.mg_none_of X Gn b_all, PySem.W.mg_none_of X Gn b_any, PySem.W.mg_none_of X Gn b_abs, PySem.W.mg_none_of X Gn b_max, PySem.W.mg_none_of X Gn b_min, PySem.W.mg_none_of X Gn b_sorted, PySem.W.mg_none_of X Gn b_set, PySem.W.mg_none_of X Gn b_isinstance, PySem.W.mg_none_of X Gn b_range, PySem.W.mg_none_of X Gn b_enumerate, PySem.W.mg_none_of X Gn b_zip⟩
    e0 := PySem.W.mg_of X Gn ea0
    e1 := PySem.W.mg_of X Gn ea1
    e2 := PySem.W.mg_of X Gn ea2
    e3 := PySem.W.mg_of X Gn ea3
    e4 := PySem.W.mg_of X Gn ea4
    e5 := PySem.W.mg_of X Gn ea5
    ve := PySem.W.mg_none_of X Gn b_ValueError
    ec := fun c h1 h2 => by
      have hc : c = 1 ∨ c = 2 ∨ c = 3 ∨ c = 4 ∨ c = 5 := by omega
      rcases hc with rfl | rfl | rfl | rfl | rfl
      · exact ⟨xg1, xk1, es1, xd1, xa1, xn, xt, xm1⟩
      · exact ⟨xg2, xk2, es2, xd2, xa2, xn, xt, xm2⟩
      · exact ⟨xg3, xk3, es3, xd3, xa3, xn, xt, xm3⟩
      · exact ⟨xg4, xk4, es4, xd4, xa4, xn, xt, xm4⟩
      · exact ⟨xg5, xk5, es5, xd5, xa5, xn, xt, xm5⟩
    ex := fun c h1 h2 => by
      have hc : c = 1 ∨ c = 2 ∨ c = 3 ∨ c = 4 ∨ c = 5 := by omega
      rcases hc with rfl | rfl | rfl | rfl | rfl
      · exact PySem.W.exm_ref es0 xd0 et0 xs1
      · exact PySem.W.exm_ref es0 xd0 et0 xs2
      · exact PySem.W.exm_ref es0 xd0 et0 xs3
      · exact PySem.W.exm_ref es0 xd0 et0 xs4
      · exact PySem.W.exm_ref es0 xd0 et0 xs5
    isv := fun c h1 h2 => by
      have hc : c = 1 ∨ c = 2 ∨ c = 3 ∨ c = 4 ∨ c = 5 := by omega
      rcases hc with rfl | rfl | rfl | rfl | rfl
      · exact xv1
      · exact xv2
      · exact xv3
      · exact xv4
      · exact xv5
    is := fun c i h1 h2 h3 h4 => by
      have hc : c = 1 ∨ c = 2 ∨ c = 3 ∨ c = 4 ∨ c = 5 := by omega
      have hi : i = 1 ∨ i = 2 ∨ i = 3 ∨ i = 4 ∨ i = 5 := by omega
      rcases hc with rfl | rfl | rfl | rfl | rfl <;> rcases hi with rfl | rfl | rfl | rfl | rfl
      · exact xi1_1
      · exact xi1_2
      · exact xi1_3
      · exact xi1_4
      · exact xi1_5
      · exact xi2_1
      · exact xi2_2
      · exact xi2_3
      · exact xi2_4
      · exact xi2_5
      · exact xi3_1
      · exact xi3_2
      · exact xi3_3
      · exact xi3_4
      · exact xi3_5
      · exact xi4_1
      · exact xi4_2
      · exact xi4_3
      · exact xi4_4
      · exact xi4_5
      · exact xi5_1
      · exact xi5_2
      · exact xi5_3
      · exact xi5_4
      · exact xi5_5 }
  have T : Txt K mg J (adr [(0, f0), (1, f1), (2, f2), (3, f3), (4, f4), (5, f5), (6, f6), (7, f7), (8, f8), (9, f9), (10, f10), (11, f11), (12, f12), (13, f13), (14, f14), (15, f15), (16, f16), (17, f17), (18, f18), (19, f19), (20, f20), (21, f21), (22, f22), (23, f23), (24, f24), (25, f25), (26, f26), (27, f27), (28, f28), (29, f29), (30, f30), (31, f31)]) (adr [(30, c30)]) (adr [(30, p30)]) := {
    blt := ⟨PySem.W.mg_none_of X Gn b_len, PySem.W.mg_none_of X Gn b_list, PySem.W.mg_none_of X Gn b_tuple, PySem.W.mg_none_of X Gn b_int, PySem.W.mg_none_of X Gn b_bool, PySem.W.mg_none_of X Gn b_sum, PySem.W.mg_none_of X Gn b_all, PySem.W.mg_none_of X Gn b_any, PySem.W.mg_none_of X Gn b_abs, PySem.W.mg_none_of X Gn b_max, PySem.W.mg_none_of X Gn b_min, PySem.W.mg_none_of X Gn b_sorted, PySem.W.mg_none_of X Gn b_set, PySem.W.mg_none_of X Gn b_isinstance, PySem.W.mg_none_of X Gn b_range, PySem.W.mg_none_of X Gn b_enumerate, PySem.W.mg_none_of X Gn b_zip⟩
    fld := rfl
    b_str := PySem.W.mg_none_of X Gn b_str
    ki := KI
    k_MOST_KINDS := ⟨_, PySem.W.mg_of X Gn k_MOST_KINDS⟩
    k_MOST_BACK := ⟨_, PySem.W.mg_of X Gn k_MOST_BACK⟩
    k_MOST_BAG := ⟨_, PySem.W.mg_of X Gn k_MOST_BAG⟩
    e_MarbleError := ⟨eq0, PySem.W.mg_of X Gn ea0, ek0, es0, et0⟩
    e_BadTable := ⟨eq1, PySem.W.mg_of X Gn ea1, ek1, es1, et1⟩
    e_BadUrn := ⟨eq2, PySem.W.mg_of X Gn ea2, ek2, es2, et2⟩
    e_BadDraw := ⟨eq3, PySem.W.mg_of X Gn ea3, ek3, es3, et3⟩
    e_NotThere := ⟨eq4, PySem.W.mg_of X Gn ea4, ek4, es4, et4⟩
    e_Nothing := ⟨eq5, PySem.W.mg_of X Gn ea5, ek5, es5, et5⟩
    cls_Bag := ⟨cg0, ch0, co0, cs0⟩
    m_Bag := PySem.W.mg_of X Gn ca0
    mk_Bag := ⟨cm0, fa11, fi11, ck0⟩
    na_Bag_table := cn0_table
    na_Bag_stands := cn0_stands
    na_Bag_pairs := cn0_pairs
    m_is_whole := PySem.W.mg_of X Gn fa0
    fn_is_whole := ⟨_, fun_mk fl0 fc0 fk0, .all (fun us hl => match us, hl with | [_], _ => rfl)⟩
    m_is_count := PySem.W.mg_of X Gn fa1
    fn_is_count := ⟨_, fun_mk fl1 fc1 fk1, .all (fun us hl => match us, hl with | [_, _, _], _ => rfl)⟩
    m_pairs_of := PySem.W.mg_of X Gn fa2
    fn_pairs_of := ⟨_, fun_mk fl2 fc2 fk2, .all (fun us hl => match us, hl with | [_], _ => rfl)⟩
    m_are_back := PySem.W.mg_of X Gn fa3
    fn_are_back := ⟨_, fun_mk fl3 fc3 fk3, .all (fun us hl => match us, hl with | [_, _], _ => rfl)⟩
    m_check_table := PySem.W.mg_of X Gn fa4
    fn_check_table := ⟨_, fun_mk fl4 fc4 fk4, .all (fun us hl => match us, hl with | [_], _ => rfl)⟩
    m_check_urn := PySem.W.mg_of X Gn fa5
    fn_check_urn := ⟨_, fun_mk fl5 fc5 fk5, .all (fun us hl => match us, hl with | [_, _, _], _ => rfl)⟩
    m_back_of := PySem.W.mg_of X Gn fa6
    fn_back_of := ⟨_, fun_mk fl6 fc6 fk6, .all (fun us hl => match us, hl with | [_, _], _ => rfl)⟩
    m_change_of := PySem.W.mg_of X Gn fa7
    fn_change_of := ⟨_, fun_mk fl7 fc7 fk7, .all (fun us hl => match us, hl with | [_, _], _ => rfl)⟩
    m_can_draw := PySem.W.mg_of X Gn fa8
    fn_can_draw := ⟨_, fun_mk fl8 fc8 fk8, .all (fun us hl => match us, hl with | [_, _], _ => rfl)⟩
    m_open_draws := PySem.W.mg_of X Gn fa9
    fn_open_draws := ⟨_, fun_mk fl9 fc9 fk9, .all (fun us hl => match us, hl with | [_, _], _ => rfl)⟩
    m_behind := PySem.W.mg_of X Gn fa10
    fn_behind := ⟨_, fun_mk fl10 fc10 fk10, .all (fun us hl => match us, hl with | [_, _, _], _ => rfl)⟩
    fn_Bag_init := ⟨_, fun_mk fl11 fc11 fk11, .all (fun us hl => match us, hl with | [_, _, _], _ => rfl)⟩
    me_Bag_draw := ⟨fa12, fi12, fk12⟩
    fn_Bag_draw := ⟨_, fun_mk fl12 fc12 fk12, .all (fun us hl => match us, hl with | [_, _, _], _ => rfl)⟩
    me_Bag_undo := ⟨fa13, fi13, fk13⟩
    fn_Bag_undo := ⟨_, fun_mk fl13 fc13 fk13, .all (fun us hl => match us, hl with | [_], _ => rfl)⟩
    me_Bag_marbles := ⟨fa14, fi14, fk14⟩
    fn_Bag_marbles := ⟨_, fun_mk fl14 fc14 fk14, .all (fun us hl => match us, hl with | [_], _ => rfl)⟩
    me_Bag_done := ⟨fa15, fi15, fk15⟩
    fn_Bag_done := ⟨_, fun_mk fl15 fc15 fk15, .all (fun us hl => match us, hl with | [_], _ => rfl)⟩
    me_Bag_can_do := ⟨fa16, fi16, fk16⟩
    fn_Bag_can_do := ⟨_, fun_mk fl16 fc16 fk16, .all (fun us hl => match us, hl with | [_], _ => rfl)⟩
    me_Bag_ended := ⟨fa17, fi17, fk17⟩
    fn_Bag_ended := ⟨_, fun_mk fl17 fc17 fk17, .all (fun us hl => match us, hl with | [_], _ => rfl)⟩
    m__law_cell_at := PySem.W.mg_of X Gn fa18
    fn_law_cell_at := ⟨_, fun_mk fl18 fc18 fk18, .all (fun us hl => match us, hl with | [_, _], _ => rfl)⟩
    m__law_draw := PySem.W.mg_of X Gn fa19
    fn_law_draw := ⟨_, fun_mk fl19 fc19 fk19, .all (fun us hl => match us, hl with | [_, _, _], _ => rfl)⟩
    m__law_value := PySem.W.mg_of X Gn fa20
    fn_law_value := ⟨_, fun_mk fl20 fc20 fk20, .all (fun us hl => match us, hl with | [_, _], _ => rfl)⟩
    m__law_says := PySem.W.mg_of X Gn fa21
    fn_law_says := ⟨_, fun_mk fl21 fc21 fk21, .all (fun us hl => match us, hl with | [_, _], _ => rfl)⟩
    m__law_pairs := PySem.W.mg_of X Gn fa22
    fn_law_pairs := ⟨_, fun_mk fl22 fc22 fk22, .all (fun us hl => match us, hl with | [_], _ => rfl)⟩
    m__law_backs := PySem.W.mg_of X Gn fa23
    fn_law_backs := ⟨_, fun_mk fl23 fc23 fk23, .all (fun us hl => match us, hl with | [_], _ => rfl)⟩
    m__law_table := PySem.W.mg_of X Gn fa24
    fn_law_table := ⟨_, fun_mk fl24 fc24 fk24, .all (fun us hl => match us, hl with | [_, _, _], _ => rfl)⟩
    m__law_urn := PySem.W.mg_of X Gn fa25
    fn_law_urn := ⟨_, fun_mk fl25 fc25 fk25, .all (fun us hl => match us, hl with | [_, _, _, _], _ => rfl)⟩
    m__law_behind := PySem.W.mg_of X Gn fa26
    fn_law_behind := ⟨_, fun_mk fl26 fc26 fk26, .all (fun us hl => match us, hl with | [_, _, _], _ => rfl)⟩
    m__law_copied := PySem.W.mg_of X Gn fa27
    fn_law_copied := ⟨_, fun_mk fl27 fc27 fk27, .all (fun us hl => match us, hl with | [_], _ => rfl)⟩
    m__law_same := PySem.W.mg_of X Gn fa28
    fn_law_same := ⟨_, fun_mk fl28 fc28 fk28, .all (fun us hl => match us, hl with | [_, _, _, _], _ => rfl)⟩
    m__law_told := PySem.W.mg_of X Gn fa29
    fn_law_told := ⟨_, fun_mk fl29 fc29 fk29, .all (fun us hl => match us, hl with | [_], _ => rfl)⟩
    m__law_deed_right := PySem.W.mg_of X Gn fa30
    fn_law_deed_right := ⟨_, ⟨⟨_, _, _, _, _, _, _, _, _, rfl, fl30, fc30, rfl⟩, fk30⟩, .all (fun us hl => match us, hl with | [_, _, _, _, _], _ => rfl)⟩
    tb_30 := by show (p30, _) ∈ ([(p30, (("_law_deed_right" : Str) ++ ".<locals>." ++ "<lambda>"))] : List (Addr × Str)); simp
    tu_30 := fun p hm hp => by
      have hm : p ∈ ([(p30, (("_law_deed_right" : Str) ++ ".<locals>." ++ "<lambda>"))] : List (Addr × Str)) := hm
      simp only [List.mem_cons, List.not_mem_nil, or_false] at hm
      rcases hm with rfl
      · rfl
    m_law := PySem.W.mg_of X Gn fa31
    fn_law_k01 := ⟨_, fun_mk fl31 fc31 fk31, .all (fun us hl => match us, hl with | [_], _ => rfl)⟩ }
  refine ⟨_, [(c30, p30)], spLaw K J, fun p hp => by
      simp only [List.mem_cons, List.not_mem_nil, or_false] at hp
      rcases hp with rfl
      · exact tt30, fun p hp => by
      simp only [List.mem_cons, List.not_mem_nil, or_false] at hp
      rcases hp with rfl
      · exact tn30, fun p hp => by
      simp only [List.mem_cons, List.not_mem_nil, or_false] at hp
      rcases hp with rfl
      · exact PySem.W.codeHd_of_K X th30, fun s u => .of_eq rfl, fun H a ns hl _ hT hS => ⟨a, ns, rfl, hS, hl, ?_, fun _ => rfl⟩, fun base _ _ hB => law_at T (fun _ _ _ => trivial) (fun k hk => ?_) hF (fun_mk fl31 fc31 fk31)⟩
  · intro p hp
    have hp : p ∈ ([(p30, (("_law_deed_right" : Str) ++ ".<locals>." ++ "<lambda>"))] : List (Addr × Str)) := hp
    simp only [List.mem_cons, List.not_mem_nil, or_false] at hp
    rcases hp with rfl
    · exact LamX.TabS.nil (hT (c30, p30) (by simp))
  · unfold lamIds at hk
    simp only [List.mem_cons, List.not_mem_nil, or_false] at hk
    rcases hk with rfl
    · exact hB (c30, p30) (by simp)
end M

set_option autoImplicit false
set_option linter.all false
set_option maxRecDepth 100000
/-! Plain facts about the machine's defs: tables. -/
namespace M

mutual
theorem sm_refl : ∀ d : D, same d d = true
  | .non => rfl
  | .bl b => by simp [same]
  | .int i => by simp [same]
  | .str s => by simp [same]
  | .tup xs => by simp only [same]; exact sms_refl xs
  | .lst xs => by simp only [same]; exact sms_refl xs
  | .dct ks vs => by simp only [same, Bool.and_eq_true]; exact ⟨by simp, sms_refl vs⟩
  | .edict => rfl
  | .cell c => by simp [same]
  | .fn k => by simp [same]
  | .ktp k => by simp [same]
theorem sms_refl : ∀ ds : List D, sames ds ds = true
  | [] => rfl
  | d :: ds => by simp only [sames, sm_refl d, sms_refl ds, Bool.and_self]
end
theorem smf_refl : ∀ fs : List (Nat × D), samef fs fs = true
  | [] => rfl
  | f :: fs => by simp [samef, sm_refl, smf_refl fs]
theorem smC_refl : ∀ c : Cell, sameC c c = true
  | .lst xs => by simp [sameC, sms_refl]
  | .dct ks vs => by simp [sameC, sms_refl]
  | .ins C fs => by simp [sameC, smf_refl]
  | .dead => rfl
theorem smH_refl : ∀ h : Hh, sameH h h = true
  | [] => rfl
  | c :: h => by simp [sameH, smC_refl, smH_refl h]
theorem take_app (h u : Hh) : (h ++ u).take h.length = h := by simp
/-- a pure def's end -/
theorem fin_ok {h u : Hh} {d e : D} (t : thru h.length (h ++ u) 12 d = some e) : finish true h d (h ++ u) = .ok e h := by
  simp only [finish, if_true, t, take_app, smH_refl]
theorem fin_flat {h u : Hh} {d : D} (f : flatD d = true) : finish true h d (h ++ u) = .ok d h := by
  refine fin_ok ?_
  cases d <;> first | rfl | simp [flatD] at f
theorem fin_same {h : Hh} {d : D} (f : flatD d = true) : finish true h d h = .ok d h := by
  have := fin_flat (h := h) (u := []) f
  simpa using this
/-- a pure def whose body ends so -/
theorem run_rt {f : Fn} {cx : Ctx} {args : List D} {h u : Hh} {d e : D} (hp : f.pure = true) (ha : args.length = f.pars) (hb : f.body cx (args.map some ++ List.replicate (f.slots - f.pars) none) h = .rt d (h ++ u)) (t : thru h.length (h ++ u) 12 d = some e) : runFn f cx args h = .ok e h := by
  unfold runFn
  rw [if_pos ha, hb, hp]
  exact fin_ok t
theorem run_rtF {f : Fn} {cx : Ctx} {args : List D} {h : Hh} {d : D} (hp : f.pure = true) (ha : args.length = f.pars) (hb : f.body cx (args.map some ++ List.replicate (f.slots - f.pars) none) h = .rt d h) (t : flatD d = true) : runFn f cx args h = .ok d h := by
  unfold runFn
  rw [if_pos ha, hb, hp]
  exact fin_same t
theorem run_nx {f : Fn} {cx : Ctx} {args : List D} {h u : Hh} {r : Env} (hp : f.pure = true) (ha : args.length = f.pars) (hb : f.body cx (args.map some ++ List.replicate (f.slots - f.pars) none) h = .nx r (h ++ u)) : runFn f cx args h = .ok .non h := by
  unfold runFn
  rw [if_pos ha, hb, hp]
  exact fin_flat rfl
theorem run_exc {f : Fn} {cx : Ctx} {args : List D} {h u : Hh} {c : Nat} (hp : f.pure = true) (ha : args.length = f.pars) (hb : f.body cx (args.map some ++ List.replicate (f.slots - f.pars) none) h = .exc c (h ++ u)) : runFn f cx args h = .exc c h := by
  unfold runFn
  rw [if_pos ha, hb]
  simp only [hp, if_true, take_app, smH_refl]

/-! ### is_whole, is_count -/
def isWhole : D → Bool
  | .int _ => true
  | _ => false
theorem is_whole_run (cx : Ctx) (d : D) (h : Hh) (hd : tyOk h d = true) : runFn f_is_whole cx [d] h = .ok (.bl (isWhole d)) h := by
  refine run_rtF rfl rfl ?_ rfl
  cases d with
  | cell c => simp [f_is_whole, sAll, sRet, eAnd, eNot, e1, eVar, pIsTy, hd, isTy, isWhole]
  | _ => first | (simp [tyOk] at hd; done) | simp [f_is_whole, sAll, sRet, eAnd, eNot, e1, eVar, pIsTy, tyOk, isTy, isWhole]
def isCount (d : D) (lo hi : Int) : Bool :=
  match d with
  | .int i => decide (lo ≤ i) && decide (i ≤ hi)
  | _ => false
theorem is_count_run (n : Nat) (d : D) (lo hi : Int) (h : Hh) (hd : tyOk h d = true) : runFn f_is_count (ctxN G (n + 4)) [d, .int lo, .int hi] h = .ok (.bl (isCount d lo hi)) h := by
  refine run_rtF rfl rfl ?_ rfl
  have e : (ctxN G (n + 4)).call 0 [d] h = .ok (.bl (isWhole d)) h := by
    rw [ctxN_call G (k := 0) rfl]
    exact is_whole_run _ d h hd
  cases d with
  | int i =>
    by_cases h1 : lo ≤ i <;> simp [f_is_count, sAll, sRet, eAnd, eCall, evs, eVar, eChain, e, isWhole, pLe, pCmp, isCount, h1]
  | _ => simp [f_is_count, sAll, sRet, eAnd, eCall, evs, eVar, e, isWhole, isCount]
end M

set_option autoImplicit false
set_option linter.all false
set_option maxRecDepth 100000
/-! Plain facts about walks and comprehensions; pairs_of. -/
namespace M

theorem compL_map {cx : Ctx} {s : Src} {own : List Nat} {t : T} {elt : FE} {r : Env} {h : Hh} {f : D → D} (hs : still s h = true) :
    ∀ {items : List D}, (∀ x ∈ items, ∃ r2, asg t x (wipeE r own) = some r2 ∧ elt cx r2 h = .ok (f x) h) → compL cx s own t eYes elt r items h = .ok (items.map f) h
  | [], _ => rfl
  | x :: xs, hx => by
    obtain ⟨r2, e1, e2⟩ := hx x List.mem_cons_self
    have ih := compL_map (cx := cx) (s := s) (own := own) (t := t) (elt := elt) (r := r) (f := f) hs (items := xs) fun y hy => hx y (List.mem_cons_of_mem _ hy)
    have y : ∀ r h, eYes cx r h = .ok (.bl true) h := fun _ _ => rfl
    simp [compL, e1, y, e2, hs, ih]
theorem compL_filter {cx : Ctx} {s : Src} {own : List Nat} {t : T} {cond elt : FE} {r : Env} {h : Hh} {f : D → D} {c : D → Bool} (hs : still s h = true) :
    ∀ {items : List D}, (∀ x ∈ items, ∃ r2, asg t x (wipeE r own) = some r2 ∧ cond cx r2 h = .ok (.bl (c x)) h ∧ (c x = true → elt cx r2 h = .ok (f x) h)) → compL cx s own t cond elt r items h = .ok ((items.filter c).map f) h
  | [], _ => rfl
  | x :: xs, hx => by
    obtain ⟨r2, e1, e2, e3⟩ := hx x List.mem_cons_self
    have ih := compL_filter (cx := cx) (s := s) (own := own) (t := t) (cond := cond) (elt := elt) (r := r) (f := f) (c := c) hs (items := xs) fun y hy => hx y (List.mem_cons_of_mem _ hy)
    cases q : c x with
    | true => simp [compL, e1, e2, q, e3 q, hs, ih]
    | false => simp [compL, e1, e2, q, hs, ih]
theorem forL_fold {cx : Ctx} {s : Src} {t : T} {body : FS} {S : Type} (env : S → Env) (hp : S → Hh) (step : S → D → S) (hs : ∀ st, still s (hp st) = true) :
    ∀ {items : List D} (st : S), (∀ st x, x ∈ items → ∃ r1, asg t x (env st) = some r1 ∧ body cx r1 (hp st) = .nx (env (step st x)) (hp (step st x))) →
      forL cx s t body items (env st) (hp st) = .nx (env (items.foldl step st)) (hp (items.foldl step st))
  | [], st, _ => rfl
  | x :: xs, st, hb => by
    obtain ⟨r1, e1, e2⟩ := hb st x List.mem_cons_self
    have ih := forL_fold (cx := cx) (s := s) (t := t) (body := body) env hp step hs (items := xs) (step st x) fun st y hy => hb st y (List.mem_cons_of_mem _ hy)
    simp [forL, e1, e2, hs, ih]
theorem viewW_still {h : Hh} {d : D} {p : List (Nat × List D) × List D} (e : viewW h d = some p) : stillA h p.1 = true := by
  unfold viewW at e
  split at e
  · cases e; rfl
  · split at e
    · rename_i xs hc
      cases e
      simp [stillA, hc, sms_refl]
    · cases e
  · cases e

theorem rangeL_mem : ∀ {n : Nat} {lo : Int} {x : D}, x ∈ rangeL lo n → ∃ i : Int, x = .int i ∧ lo ≤ i ∧ i < lo + n
  | 0, _, _, h => by simp [rangeL] at h
  | n + 1, lo, x, h => by
    simp only [rangeL, List.mem_cons] at h
    rcases h with rfl | h
    · exact ⟨lo, rfl, by omega, by omega⟩
    · obtain ⟨i, e, h1, h2⟩ := rangeL_mem h
      exact ⟨i, e, by omega, by omega⟩
theorem rangeL_ln : ∀ (lo : Int) (n : Nat), (rangeL lo n).length = n
  | _, 0 => rfl
  | lo, n + 1 => by simp [rangeL, rangeL_ln]

/-! ### pairs_of -/
/-- the pairs that begin with i -/
def pairRow (k : Int) : D → List D
  | .int i => (rangeL i (k - i).toNat).map fun j => .tup [.int i, j]
  | _ => []
def pairsD (k : Int) : List D := (rangeL 0 k.toNat).flatMap (pairRow k)
theorem pairRow_len (k i : Int) (h1 : 0 ≤ i) (h2 : k ≤ 1000) : (pairRow k (.int i)).length ≤ 1000 := by
  simp only [pairRow, List.length_map, rangeL_ln]
  omega
theorem pairs_for (cx : Ctx) (k : Int) (h : Hh) (h2 : k ≤ 1000) (ha : 0 ≤ k) : ∀ (n : Nat) (lo : Int) (v : Option D) (acc : List D), 0 ≤ lo → lo + n ≤ k → acc.length + 1000 * n ≤ 1000000 →
    ∃ v', forL cx ⟨[], rangeL 0 k.toNat⟩ (.n 2) (sAll [sExpr (eM1 pExtend (eVar 1) (eComp false [3] (.n 3) (iRange2 (eVar 2) (eVar 0)) (eYes) (eTup [eVar 2, eVar 3])))]) (rangeL lo n) [some (.int k), some (.cell h.length), v, none] (h ++ [.lst acc]) =
      .nx [some (.int k), some (.cell h.length), v', none] (h ++ [.lst (acc ++ (rangeL lo n).flatMap (pairRow k))])
  | 0, lo, v, acc, _, _, _ => ⟨v, by simp [rangeL, forL]⟩
  | n + 1, lo, v, acc, hl, hk, hc => by
    have hrow := pairRow_len k lo hl h2
    obtain ⟨v', ih⟩ := pairs_for cx k h h2 ha n (lo + 1) (some (.int lo)) (acc ++ pairRow k (.int lo)) (by omega) (by omega) (by rw [List.length_append]; omega)
    refine ⟨v', ?_⟩
    have hcomp : compL cx ⟨[], rangeL lo (k - lo).toNat⟩ [3] (.n 3) eYes (eTup [eVar 2, eVar 3]) [some (.int k), some (.cell h.length), some (.int lo), none] (rangeL lo (k - lo).toNat) (h ++ [.lst acc]) = .ok (pairRow k (.int lo)) (h ++ [.lst acc]) := by
      refine compL_map (f := fun j => .tup [.int lo, j]) rfl fun x hx => ⟨[some (.int k), some (.cell h.length), some (.int lo), some x], rfl, ?_⟩
      simp [eTup, evs, eVar]
    have hlen : (rangeL lo (k - lo).toNat).length ≤ LIM := by rw [rangeL_ln]; unfold LIM; omega
    have hext : acc.length + (pairRow k (.int lo)).length ≤ LIM := by unfold LIM; omega
    rw [rangeL]
    rw [forL]
    simp only [asg, List.length_cons, List.length_nil]
    rw [if_pos (by omega)]
    simp only [List.set_cons_succ, List.set_cons_zero, sAll, sExpr, eM1, eVar, List.getElem?_cons_succ, List.getElem?_cons_zero, R.bind_ok]
    have hv : viewL (h ++ [.lst acc]) (.cell h.length) = some acc := by simp [viewL]
    simp only [hv, Option.isSome_some, if_true, eComp, iRange2, eVar, List.getElem?_cons_succ, List.getElem?_cons_zero, R.bind_ok]
    rw [if_pos (by omega)]
    simp only [R.bind_ok]
    rw [if_pos hlen, hcomp]
    simp only [R.calm_ok, R.bind_ok, mkL, up_some, Bool.false_eq_true, if_false]
    have hp : pExtend (.cell h.length) (.lst (pairRow k (.int lo))) (h ++ [.lst acc]) = some (.non, h ++ [.lst (acc ++ pairRow k (.int lo))]) := by
      simp [pExtend, viewL, hext]
    rw [hp]
    simp only [up_some, still, stillA, if_true]
    simp only [sAll] at ih
    rw [ih]
    simp [List.append_assoc]
theorem pairs_flat (k : Int) (h : Hh) : ∀ x ∈ pairsD k, ∀ n, thru h.length (h ++ [.lst (pairsD k)]) (n + 2) x = some x := fun x hx n => by
  simp only [pairsD, List.mem_flatMap] at hx
  obtain ⟨i, hi, hx⟩ := hx
  obtain ⟨a, rfl, _, _⟩ := rangeL_mem hi
  simp only [pairRow, List.mem_map] at hx
  obtain ⟨j, hj, rfl⟩ := hx
  obtain ⟨b, rfl, _, _⟩ := rangeL_mem hj
  simp [thru]
theorem mapM_id {f : D → Option D} : ∀ {xs : List D}, (∀ x ∈ xs, f x = some x) → xs.mapM f = some xs
  | [], _ => rfl
  | x :: xs, h => by
    rw [List.mapM_cons, h x List.mem_cons_self, mapM_id fun y hy => h y (List.mem_cons_of_mem _ hy)]
    rfl
theorem pairs_of_run (cx : Ctx) (k : Int) (h : Hh) (h1 : 0 ≤ k) (h2 : k ≤ 1000) : runFn f_pairs_of cx [.int k] h = .ok (.lst (pairsD k)) h := by
  obtain ⟨v', e⟩ := pairs_for cx k h h2 h1 k.toNat 0 none [] (by omega) (by omega) (by simp; omega)
  refine run_rt (u := [.lst (pairsD k)]) (d := .cell h.length) rfl rfl ?_ ?_
  · simp only [f_pairs_of, sAll, sSeq, sAsg, eLst, evs, R.bind_ok, mkL, if_true, up_some, List.map_cons, List.map_nil, List.cons_append, List.nil_append, List.replicate, asg, List.length_cons, List.length_nil]
    simp only [show 1 < 0 + 1 + 1 + 1 + 1 by omega, if_true, List.set_cons_succ, List.set_cons_zero, sFor, iRange1, eVar, List.getElem?_cons_zero, R.bind_ok]
    rw [if_pos (by omega)]
    simp only [sAll] at e
    simp only [e]
    simp [sRet, eVar, pairsD]
  · simp only [thru, Nat.lt_irrefl, if_false]
    have : (h ++ [Cell.lst (pairsD k)])[h.length]? = some (.lst (pairsD k)) := by simp
    rw [this]
    simp only [mapM_id fun x hx => pairs_flat k h x hx 9]
    rfl
end M

set_option autoImplicit false
set_option linter.all false
set_option maxRecDepth 100000
/-! Plain facts: are_back, check_table. -/
namespace M

theorem isTy_list {h : Hh} {d : D} : isTy h .list d = (viewL h d).isSome := by
  cases d with
  | cell c =>
    simp only [isTy, viewL]
    cases q : h[c]? with
    | none => rfl
    | some x => cases x <;> rfl
  | _ => rfl
theorem intsOf_eq : ∀ {xs : List D} {is : List Int}, intsOf xs = some is → xs = is.map D.int
  | [], is, e => by simp [intsOf] at e; subst e; rfl
  | x :: xs, is, e => by
    cases x with
    | int i =>
      simp only [intsOf, Option.map_eq_some_iff] at e
      obtain ⟨js, e1, rfl⟩ := e
      rw [intsOf_eq e1]
      rfl
    | _ => simp [intsOf] at e
theorem intsOf_map : ∀ is : List Int, intsOf (is.map D.int) = some is
  | [] => rfl
  | i :: is => by simp [intsOf, intsOf_map is]
theorem thru_ints (n : Nat) (h : Hh) (k : Nat) (is : List Int) : (is.map D.int).mapM (thru n h (k + 1)) = some (is.map D.int) :=
  mapM_id fun x hx => by
    obtain ⟨i, _, rfl⟩ := List.mem_map.mp hx
    rfl
theorem plains_ints : ∀ is : List Int, plains (is.map D.int) = true
  | [] => rfl
  | i :: is => by simp [plains, plain, plains_ints is]
theorem deep_ints {h : Hh} {d : D} {is : List Int} (e : viewL h d = some (is.map D.int)) : deep h d = some (.lst (is.map D.int)) := by
  have key : thru 0 h 12 d = some (.lst (is.map D.int)) := by
    cases d with
    | lst xs =>
      simp only [viewL, Option.some.injEq] at e
      subst e
      simp only [thru, thru_ints 0 h 10 is, Option.map_some]
    | cell c =>
      simp only [viewL] at e
      split at e
      · rename_i xs hc
        simp only [Option.some.injEq] at e
        subst e
        simp only [thru, Nat.not_lt_zero, if_false, hc, thru_ints 0 h 10 is, Option.map_some]
      · cases e
    | _ => simp [viewL] at e
  unfold deep
  rw [key]
  simp [plain, plains_ints]
theorem eqvs_ints : ∀ is js : List Int, eqvs (is.map D.int) (js.map D.int) = (is == js)
  | [], [] => rfl
  | [], _ :: _ => rfl
  | _ :: _, [] => rfl
  | i :: is, j :: js => by
    simp only [List.map_cons, eqvs, eqv, eqvs_ints is js]
    rfl
theorem boolsOf_map : ∀ bs : List Bool, boolsOf (bs.map D.bl) = some bs
  | [] => rfl
  | b :: bs => by simp [boolsOf, boolsOf_map bs]
theorem all_map {xs : List D} {f : D → Bool} : (xs.map f).all id = xs.all f := by simp [List.all_map]

def isBack (h : Hh) (d : D) (k : Int) : Bool :=
  match viewL h d with
  | some xs => decide (xs.length ≤ 2) && (xs.all fun x => isCount x 0 (k - 1)) && (match intsOf xs with
    | some is => is == sortI is
    | none => false)
  | none => false
theorem count_ints {lo hi : Int} : ∀ {xs : List D}, (xs.all fun x => isCount x lo hi) = true → ∃ is, intsOf xs = some is
  | [], _ => ⟨[], rfl⟩
  | x :: xs, h => by
    simp only [List.all_cons, Bool.and_eq_true] at h
    obtain ⟨is, e⟩ := count_ints h.2
    cases x with
    | int i => exact ⟨i :: is, by simp [intsOf, e]⟩
    | _ => simp [isCount] at h
theorem viewW_of {h : Hh} {d : D} {xs : List D} (e : viewL h d = some xs) : ∃ a, viewW h d = some (a, xs) ∧ stillA h a = true := by
  have key : ∃ a, viewW h d = some (a, xs) := by
    cases d with
    | lst ys => simp only [viewL, Option.some.injEq] at e; subst e; exact ⟨[], rfl⟩
    | cell c =>
      simp only [viewL] at e
      split at e
      · rename_i ys hc
        simp only [Option.some.injEq] at e
        subst e
        exact ⟨[(c, ys)], by simp [viewW, hc]⟩
      · cases e
    | _ => simp [viewL] at e
  obtain ⟨a, e2⟩ := key
  exact ⟨a, e2, viewW_still e2⟩
theorem iSeq_view {cx : Ctx} {r : Env} {h h1 : Hh} {d : D} {xs : List D} {fa : FE} (e : fa cx r h = .ok d h1) (v : viewL h1 d = some xs) : ∃ a, iSeq fa cx r h = .ok ⟨a, xs⟩ h1 ∧ stillA h1 a = true := by
  obtain ⟨a, e2, e3⟩ := viewW_of v
  refine ⟨a, ?_, e3⟩
  unfold iSeq
  rw [e]
  cases d with
  | tup ys => simp [viewL] at v
  | _ => simp [e2]
/-- all([f(x) for x in d]), d a list -/
theorem all_comp {cx : Ctx} {r : Env} {h : Hh} {d : D} {xs : List D} {fa elt : FE} {own : List Nat} {t : T} {f : D → Bool} (e : fa cx r h = .ok d h) (v : viewL h d = some xs) (hl : xs.length ≤ LIM)
    (hx : ∀ x ∈ xs, ∃ r2, asg t x (wipeE r own) = some r2 ∧ elt cx r2 h = .ok (.bl (f x)) h) : e1 pAll (eComp false own t (iSeq fa) eYes elt) cx r h = .ok (.bl (xs.all f)) h := by
  obtain ⟨a, e1', e2'⟩ := iSeq_view e v
  have hc := compL_map (cx := cx) (s := ⟨a, xs⟩) (own := own) (t := t) (elt := elt) (r := r) (h := h) (f := fun x => .bl (f x)) e2' hx
  have : xs.map (fun x => D.bl (f x)) = (xs.map f).map D.bl := by simp
  simp only [M.e1, eComp, e1', R.bind_ok, hl, if_true, hc, R.calm_ok, mkL, Bool.false_eq_true, if_false, up_some, pAll, viewL, Option.bind_some, this, boolsOf_map, all_map]
theorem are_back_run (n : Nat) (d : D) (k : Int) (h : Hh) (hd : tyOk h d = true) (hx : ∀ xs, viewL h d = some xs → ∀ x ∈ xs, tyOk h x = true) : runFn f_are_back (ctxN G (n + 5)) [d, .int k] h = .ok (.bl (isBack h d k)) h := by
  refine run_rtF rfl rfl ?_ rfl
  have ty : e1 (pIsTy .list) (eVar 0) (ctxN G (n + 5)) [some d, some (.int k), none] h = .ok (.bl (viewL h d).isSome) h := by
    simp [e1, eVar, pIsTy, hd, isTy_list]
  simp only [f_are_back, List.map_cons, List.map_nil, List.cons_append, List.nil_append, List.replicate, sAll, sSeq, sIf, eOr, eNot, ty, R.bind_ok]
  cases v : viewL h d with
  | none => simp [isBack, v, sRet, eK]
  | some xs =>
    have hlen : e2 pGt (e1 pLen (eVar 0)) (eK (.int 2)) (ctxN G (n + 5)) [some d, some (.int k), none] h = .ok (.bl (decide ((2 : Int) < xs.length))) h := by
      have vs : viewS h d = some xs := by
        cases d with
        | tup ys => simp [viewL] at v
        | _ => simpa [viewS] using v
      simp [e2, e1, eVar, pLen, vs, eK, pGt, pCmp]
    simp only [Option.isSome_some, Bool.not_true, hlen, R.bind_ok]
    by_cases hl : xs.length ≤ 2
    · have h2 : decide ((2 : Int) < xs.length) = false := by simp; omega
      have hall := all_comp (cx := ctxN G (n + 5)) (r := [some d, some (.int k), none]) (h := h) (d := d) (xs := xs) (fa := eVar 0) (elt := eCall 1 [eVar 2, eK (.int 0), e2 pSub (eVar 1) (eK (.int 1))]) (own := [2]) (t := .n 2) (f := fun x => isCount x 0 (k - 1)) rfl v (by unfold LIM; omega) fun x hx' =>
        ⟨[some d, some (.int k), some x], rfl, by
          have : (ctxN G (n + 5)).call 1 [x, .int 0, .int (k - 1)] h = .ok (.bl (isCount x 0 (k - 1))) h := by
            rw [ctxN_call G (k := 1) (f := f_is_count) rfl]
            exact is_count_run n x 0 (k - 1) h (hx xs v x hx')
          simp [eCall, evs, eVar, eK, e2, pSub, this]⟩
      simp only [h2, hall, R.bind_ok]
      cases q : xs.all fun x => isCount x 0 (k - 1) with
      | false => simp [isBack, v, q, sRet, eK]
      | true =>
        obtain ⟨is, ei⟩ := count_ints q
        have exs := intsOf_eq ei
        have d1 : deep h d = some (.lst (is.map D.int)) := deep_ints (by rw [v, exs])
        have d2 : deep h (.lst ((sortI is).map D.int)) = some (.lst ((sortI is).map D.int)) := deep_ints rfl
        simp [isBack, v, q, hl, ei, sPass, sRet, e2, e1, eVar, pSorted, pEq, d1, d2, eqv, eqvs_ints]
    · have h2 : decide ((2 : Int) < xs.length) = true := by simp; omega
      simp [h2, isBack, v, hl, sRet, eK]
end M

set_option autoImplicit false
set_option linter.all false
set_option maxRecDepth 100000
/-! Plain facts: check_table, check_urn. -/
namespace M

/-- what can be asked by isinstance, all through -/
structure TabOk (h : Hh) (d : D) : Prop where
  ty : tyOk h d = true
  two : ∀ a b, d = .tup [a, b] → tyOk h a = true ∧ tyOk h b = true ∧ ∀ ks, viewL h b = some ks → ∀ x ∈ ks, tyOk h x = true ∧ ∀ xs, viewL h x = some xs → ∀ y ∈ xs, tyOk h y = true
def isTable (h : Hh) (d : D) : Bool :=
  match d with
  | .tup [.int a, b] => decide (1 ≤ a) && decide (a ≤ 4) && (match viewL h b with
    | some ks => decide (ks.length = (pairsD a).length) && ks.all fun x => isBack h x a
    | none => false)
  | _ => false
theorem deep_int {h : Hh} {i : Int} : deep h (.int i) = some (.int i) := rfl
theorem pEq_int {b : Bool} {h : Hh} {i j : Int} : pEq b (.int i) (.int j) h = some (.bl (if b then !(i == j) else i == j), h) := by
  simp [pEq, deep_int, eqv]
theorem isTy_tuple {h : Hh} {d : D} (n : ∀ xs, d ≠ .tup xs) : isTy h .tuple d = false := by
  cases d with
  | tup xs => exact absurd rfl (n xs)
  | cell c => rfl
  | _ => rfl
theorem ix0 {h : Hh} {cx : Ctx} {v : Option D} {a : D} {xs : List D} : e2 pIx (eVar 0) (eK (.int 0)) cx [some (.tup (a :: xs)), v] h = .ok a h := by
  simp [e2, eVar, eK, pIx, viewS, atI, ixN]
theorem ix1 {h : Hh} {cx : Ctx} {v : Option D} {a b : D} {xs : List D} : e2 pIx (eVar 0) (eK (.int 1)) cx [some (.tup (a :: b :: xs)), v] h = .ok b h := by
  have hl : (1 : Int) < (xs.length : Int) + 1 + 1 := by omega
  simp [e2, eVar, eK, pIx, viewS, atI, ixN, hl]
theorem pairsD_len {a : Int} (h1 : 1 ≤ a) (h2 : a ≤ 4) : (pairsD a).length ≤ 10 := by
  have : a = 1 ∨ a = 2 ∨ a = 3 ∨ a = 4 := by omega
  rcases this with rfl | rfl | rfl | rfl <;> decide
theorem check_table_run (n : Nat) (d : D) (h : Hh) (hd : TabOk h d) : runFn f_check_table (ctxN G (n + 6)) [d] h = if isTable h d then .ok .non h else .exc 1 h := by
  have fin : ∀ o : O, (f_check_table.body (ctxN G (n + 6)) [some d, none] h = o) → (o = .nx [some d, none] h → runFn f_check_table (ctxN G (n + 6)) [d] h = .ok .non h) ∧ (o = .exc 1 h → runFn f_check_table (ctxN G (n + 6)) [d] h = .exc 1 h) := fun o e =>
    ⟨fun z => run_nx (u := []) (r := [some d, none]) rfl rfl (by rw [List.append_nil]; exact e.trans z), fun z => run_exc (u := []) rfl rfl (by rw [List.append_nil]; exact e.trans z)⟩
  have go : ∀ b : Bool, isTable h d = b → f_check_table.body (ctxN G (n + 6)) [some d, none] h = (if b then .nx [some d, none] h else .exc 1 h) → runFn f_check_table (ctxN G (n + 6)) [d] h = if isTable h d then .ok .non h else .exc 1 h := fun b e1 e2 => by
    rw [e1]
    cases b with
    | true => exact (fin _ e2).1 rfl
    | false => exact (fin _ e2).2 rfl
  refine go _ rfl ?_
  simp only [f_check_table, sAll, sSeq, sIf, eOr, eNot]
  by_cases ht : ∃ xs, d = .tup xs
  · obtain ⟨xs, rfl⟩ := ht
    have ty : e1 (pIsTy .tuple) (eVar 0) (ctxN G (n + 6)) [some (.tup xs), none] h = .ok (.bl true) h := by simp [e1, eVar, pIsTy, tyOk, isTy]
    have ln : e2 (pEq true) (e1 pLen (eVar 0)) (eK (.int 2)) (ctxN G (n + 6)) [some (.tup xs), none] h = .ok (.bl (!((xs.length : Int) == 2))) h := by
      simp [e2, e1, eVar, pLen, viewS, eK, pEq_int]
    simp only [ty, ln, R.bind_ok, Bool.not_true]
    match xs with
    | [] => simp [isTable, sRaise]
    | [_] => simp [isTable, sRaise]
    | x :: y :: z :: us =>
      have hb : (!(((x :: y :: z :: us).length : Int) == 2)) = true := by simp; omega
      simp only [hb]
      simp [isTable, sRaise]
    | [a, b] =>
      obtain ⟨ta, tb, tk⟩ := hd.two a b rfl
      have cnt : eCall 1 [e2 pIx (eVar 0) (eK (.int 0)), eK (.int 1), eK (.int 4)] (ctxN G (n + 6)) [some (.tup [a, b]), none] h = .ok (.bl (isCount a 1 4)) h := by
        have c1 : (ctxN G (n + 6)).call 1 [a, .int 1, .int 4] h = .ok (.bl (isCount a 1 4)) h := by
          rw [ctxN_call G (k := 1) (f := f_is_count) rfl]
          exact is_count_run (n + 1) a 1 4 h ta
        simp only [eCall, evs, ix0, R.bind_ok, eK]
        exact c1
      have l2 : (!((([a, b] : List D).length : Int) == 2)) = false := rfl
      simp only [l2, cnt, R.bind_ok]
      cases a with
      | int a =>
        by_cases hc : 1 ≤ a ∧ a ≤ 4
        · have hc' : isCount (.int a) 1 4 = true := by simp [isCount, hc.1, hc.2]
          simp only [hc', Bool.not_true, sPass]
          have ty2 : e1 (pIsTy .list) (e2 pIx (eVar 0) (eK (.int 1))) (ctxN G (n + 6)) [some (.tup [.int a, b]), none] h = .ok (.bl (viewL h b).isSome) h := by
            simp only [e1, ix1, R.bind_ok, pIsTy, tb, if_true, up_some, isTy_list]
          simp only [ty2, R.bind_ok]
          cases v : viewL h b with
          | none => simp [isTable, v, sRaise]
          | some ks =>
            have vs : viewS h b = some ks := by
              cases b with
              | tup ys => simp [viewL] at v
              | _ => simpa [viewS] using v
            have c2 : (ctxN G (n + 6)).call 2 [.int a] h = .ok (.lst (pairsD a)) h := by
              rw [ctxN_call G (k := 2) (f := f_pairs_of) rfl]
              exact pairs_of_run _ a h (by omega) (by omega)
            have ln2 : e2 (pEq true) (e1 pLen (e2 pIx (eVar 0) (eK (.int 1)))) (e1 pLen (eCall 2 [e2 pIx (eVar 0) (eK (.int 0))])) (ctxN G (n + 6)) [some (.tup [.int a, b]), none] h = .ok (.bl (!((ks.length : Int) == (pairsD a).length))) h := by
              have x1 : e1 pLen (e2 pIx (eVar 0) (eK (.int 1))) (ctxN G (n + 6)) [some (.tup [.int a, b]), none] h = .ok (.int ks.length) h := by
                simp only [e1, ix1, R.bind_ok, pLen, vs, up_some]
              have x2 : e1 pLen (eCall 2 [e2 pIx (eVar 0) (eK (.int 0))]) (ctxN G (n + 6)) [some (.tup [.int a, b]), none] h = .ok (.int (pairsD a).length) h := by
                simp only [e1, eCall, evs, ix0, R.bind_ok, c2, pLen, viewS, viewL, up_some]
              rw [e2]
              simp only [x1, x2, R.bind_ok, pEq_int, up_some, if_true]
            simp only [Option.isSome_some, Bool.not_true, ln2, R.bind_ok]
            by_cases hl : ks.length = (pairsD a).length
            · have hl' : (!((ks.length : Int) == (pairsD a).length)) = false := by simp [hl]
              have hall := all_comp (cx := ctxN G (n + 6)) (r := [some (.tup [.int a, b]), none]) (h := h) (d := b) (xs := ks) (fa := e2 pIx (eVar 0) (eK (.int 1))) (elt := eCall 3 [eVar 1, e2 pIx (eVar 0) (eK (.int 0))]) (own := [1]) (t := .n 1) (f := fun x => isBack h x a) ix1 v (by have := pairsD_len hc.1 hc.2; unfold LIM; omega) fun x hx' =>
                ⟨[some (.tup [.int a, b]), some x], rfl, by
                  have c3 : (ctxN G (n + 6)).call 3 [x, .int a] h = .ok (.bl (isBack h x a)) h := by
                    rw [ctxN_call G (k := 3) (f := f_are_back) rfl]
                    exact are_back_run n x a h (tk ks v x hx').1 (tk ks v x hx').2
                  simp only [eCall, evs, eVar, List.getElem?_cons_succ, List.getElem?_cons_zero, R.bind_ok]
                  have := ix0 (h := h) (cx := ctxN G (n + 6)) (v := some x) (a := .int a) (xs := [b])
                  rw [this]
                  simp only [R.bind_ok]
                  exact c3⟩
              simp only [hl', hall, R.bind_ok]
              cases q : ks.all fun x => isBack h x a with
              | true => simp [isTable, v, hl, q, hc.1, hc.2]
              | false => simp [isTable, v, hl, q, sRaise]
            · have hl' : (!((ks.length : Int) == (pairsD a).length)) = true := by simp; omega
              simp [hl', isTable, v, hl, sRaise]
        · have hc' : isCount (.int a) 1 4 = false := by
            simp only [isCount, Bool.and_eq_false_iff, decide_eq_false_iff_not]
            omega
          have ht : isTable h (.tup [.int a, b]) = false := by
            simp only [isTable, Bool.and_eq_false_iff, decide_eq_false_iff_not]
            omega
          simp [hc', ht, sRaise]
      | _ => simp [isCount, isTable, sRaise]
  · have hn : ∀ xs, d ≠ .tup xs := fun xs e => ht ⟨xs, e⟩
    have ty : e1 (pIsTy .tuple) (eVar 0) (ctxN G (n + 6)) [some d, none] h = .ok (.bl false) h := by simp [e1, eVar, pIsTy, hd.ty, isTy_tuple hn]
    have hf : isTable h d = false := by
      unfold isTable
      split
      · exact absurd rfl (hn _)
      · rfl
    simp [ty, hf, sRaise]
end M

set_option autoImplicit false
set_option linter.all false
set_option maxRecDepth 100000
/-! Plain facts: check_urn, can_draw. -/
namespace M

def isNat : D → Bool
  | .int i => decide (0 ≤ i)
  | _ => false
def mostD : Option Int → D
  | none => .non
  | some m => .int m
def isUrn (h : Hh) (a : Int) (d : D) (m : Option Int) : Bool :=
  match viewL h d with
  | some xs => decide ((xs.length : Int) = a) && xs.all isNat && (match m, intsOf xs with
    | some m, some is => decide (isum is ≤ m)
    | none, _ => true
    | _, _ => false)
  | none => false
theorem nat_ints : ∀ {xs : List D}, xs.all isNat = true → ∃ is, intsOf xs = some is
  | [], _ => ⟨[], rfl⟩
  | x :: xs, h => by
    simp only [List.all_cons, Bool.and_eq_true] at h
    obtain ⟨is, e⟩ := nat_ints h.2
    cases x with
    | int i => exact ⟨i :: is, by simp [intsOf, e]⟩
    | _ => simp [isNat] at h
theorem viewS_of {h : Hh} {d : D} {xs : List D} (v : viewL h d = some xs) : viewS h d = some xs := by
  cases d with
  | tup ys => simp [viewL] at v
  | _ => simpa [viewS] using v
theorem viewK_of {h : Hh} {d : D} {xs : List D} (v : viewL h d = some xs) : viewK h d = some xs := by
  cases d with
  | ktp is => simp [viewL] at v
  | _ => simpa [viewK] using viewS_of v
theorem check_urn_run (n : Nat) (a : Int) (tl : List D) (d : D) (m : Option Int) (h : Hh) (ha : a ≤ 1000) (hd : tyOk h d = true) (hx : ∀ xs, viewL h d = some xs → ∀ x ∈ xs, tyOk h x = true) :
    runFn f_check_urn (ctxN G (n + 5)) [.tup (.int a :: tl), d, mostD m] h = if isUrn h a d m then .ok .non h else .exc 2 h := by
  have go : ∀ b : Bool, isUrn h a d m = b → f_check_urn.body (ctxN G (n + 5)) [some (.tup (.int a :: tl)), some d, some (mostD m), none] h = (if b then .nx [some (.tup (.int a :: tl)), some d, some (mostD m), none] h else .exc 2 h) → runFn f_check_urn (ctxN G (n + 5)) [.tup (.int a :: tl), d, mostD m] h = if isUrn h a d m then .ok .non h else .exc 2 h := fun b e1 e2 => by
    rw [e1]
    cases b with
    | true => exact run_nx (u := []) (r := [some (.tup (.int a :: tl)), some d, some (mostD m), none]) rfl rfl (by rw [List.append_nil]; exact e2)
    | false => exact run_exc (u := []) rfl rfl (by rw [List.append_nil]; exact e2)
  refine go _ rfl ?_
  simp only [f_check_urn, sAll, sSeq, sIf, eOr, eNot, eAnd]
  have ty : e1 (pIsTy .list) (eVar 1) (ctxN G (n + 5)) [some (.tup (.int a :: tl)), some d, some (mostD m), none] h = .ok (.bl (viewL h d).isSome) h := by
    simp [e1, eVar, pIsTy, hd, isTy_list]
  simp only [ty, R.bind_ok]
  cases v : viewL h d with
  | none => simp [isUrn, v, sRaise]
  | some xs =>
    have vs := viewS_of v
    have ln : e2 (pEq true) (e1 pLen (eVar 1)) (e2 pIx (eVar 0) (eK (.int 0))) (ctxN G (n + 5)) [some (.tup (.int a :: tl)), some d, some (mostD m), none] h = .ok (.bl (!((xs.length : Int) == a))) h := by
      have x1 : e1 pLen (eVar 1) (ctxN G (n + 5)) [some (.tup (.int a :: tl)), some d, some (mostD m), none] h = .ok (.int xs.length) h := by simp [e1, eVar, pLen, vs]
      have x2 : e2 pIx (eVar 0) (eK (.int 0)) (ctxN G (n + 5)) [some (.tup (.int a :: tl)), some d, some (mostD m), none] h = .ok (.int a) h := by simp [e2, eVar, eK, pIx, viewS, atI, ixN]
      rw [e2]
      simp only [x1, x2, R.bind_ok, pEq_int, up_some, if_true]
    simp only [Option.isSome_some, Bool.not_true, ln, R.bind_ok]
    by_cases hl : (xs.length : Int) = a
    · have hl' : (!((xs.length : Int) == a)) = false := by simp [hl]
      have hall := all_comp (cx := ctxN G (n + 5)) (r := [some (.tup (.int a :: tl)), some d, some (mostD m), none]) (h := h) (d := d) (xs := xs) (fa := eVar 1) (elt := eAnd (eCall 0 [eVar 3]) (e2 pGe (eVar 3) (eK (.int 0)))) (own := [3]) (t := .n 3) (f := isNat) rfl v (by unfold LIM; omega) fun x hx' =>
        ⟨[some (.tup (.int a :: tl)), some d, some (mostD m), some x], rfl, by
          have c0 : (ctxN G (n + 5)).call 0 [x] h = .ok (.bl (isWhole x)) h := by
            rw [ctxN_call G (k := 0) (f := f_is_whole) rfl]
            exact is_whole_run _ x h (hx xs v x hx')
          cases x with
          | int i => simp [eAnd, eCall, evs, eVar, c0, isWhole, e2, eK, pGe, pCmp, isNat]
          | _ => simp [eAnd, eCall, evs, eVar, c0, isWhole, isNat]⟩
      simp only [hl', hall, R.bind_ok]
      cases q : xs.all isNat with
      | false => simp [isUrn, v, q, sRaise]
      | true =>
        obtain ⟨is, ei⟩ := nat_ints q
        cases m with
        | none => simp [isUrn, v, q, hl, sPass, mostD, e1, eVar, pIsN, isNon]
        | some m =>
          have sm : e2 pGt (e1 pSum (eVar 1)) (eVar 2) (ctxN G (n + 5)) [some (.tup (.int a :: tl)), some d, some (.int m), none] h = .ok (.bl (decide (m < isum is))) h := by
            simp [e2, e1, eVar, pSum, viewK_of v, ei, pGt, pCmp]
          have nn : e1 (pIsN true) (eVar 2) (ctxN G (n + 5)) [some (.tup (.int a :: tl)), some d, some (.int m), none] h = .ok (.bl true) h := by
            simp [e1, eVar, pIsN, isNon]
          simp only [mostD, Bool.not_true, sPass, nn, R.bind_ok, sm]
          by_cases hm : isum is ≤ m
          · have : decide (m < isum is) = false := by simp; omega
            simp [this, isUrn, v, q, hl, ei, hm]
          · have : decide (m < isum is) = true := by simp; omega
            simp [this, isUrn, v, q, hl, ei, hm, sRaise]
    · have hl' : (!((xs.length : Int) == a)) = true := by simp; omega
      simp [hl', isUrn, v, hl, sRaise]
end M

set_option autoImplicit false
set_option linter.all false
set_option maxRecDepth 100000
/-! Plain facts: a Bag is made. -/
namespace M

theorem call_table (n : Nat) (t : D) (h : Hh) (hT : TabOk h t) : (ctxN G (n + 7)).call 4 [t] h = if isTable h t then .ok .non h else .exc 1 h := by
  rw [ctxN_call G (k := 4) (f := f_check_table) rfl]
  exact check_table_run n t h hT
theorem call_urn (n : Nat) (a : Int) (tl : List D) (d : D) (m : Option Int) (h : Hh) (ha : a ≤ 1000) (hd : tyOk h d = true) (hx : ∀ xs, viewL h d = some xs → ∀ x ∈ xs, tyOk h x = true) : (ctxN G (n + 6)).call 5 [.tup (.int a :: tl), d, mostD m] h = if isUrn h a d m then .ok .non h else .exc 2 h := by
  rw [ctxN_call G (k := 5) (f := f_check_urn) rfl]
  exact check_urn_run n a tl d m h ha hd hx
theorem isTable_shape {h : Hh} {t : D} (e : isTable h t = true) : ∃ a b ks, t = .tup [.int a, b] ∧ 1 ≤ a ∧ a ≤ 4 ∧ viewL h b = some ks ∧ ks.length = (pairsD a).length ∧ ∀ x ∈ ks, isBack h x a = true := by
  unfold isTable at e
  split at e
  · rename_i a b
    simp only [Bool.and_eq_true, decide_eq_true_eq] at e
    obtain ⟨⟨e1, e2⟩, e3⟩ := e
    split at e3
    · rename_i ks v
      simp only [Bool.and_eq_true, decide_eq_true_eq, List.all_eq_true] at e3
      exact ⟨a, b, ks, rfl, e1, e2, v, e3.1, e3.2⟩
    · cases e3
  · cases e
theorem bag_no_table (n c : Nat) (t u : D) (h : Hh) (hT : TabOk h t) (hf : isTable h t = false) : runFn f_Bag_init (ctxN G (n + 7)) [.cell c, t, u] h = .exc 1 h := by
  have c4 := call_table n t h hT
  rw [hf] at c4
  simp [runFn, f_Bag_init, sAll, sSeq, sExpr, eCall, evs, eVar, c4]
theorem bag_no_urn (n c : Nat) (a : Int) (b u : D) (h : Hh) (hT : TabOk h (.tup [.int a, b])) (ht : isTable h (.tup [.int a, b]) = true) (hu : tyOk h u = true) (hx : ∀ xs, viewL h u = some xs → ∀ x ∈ xs, tyOk h x = true) (hf : isUrn h a u (some 60) = false) :
    runFn f_Bag_init (ctxN G (n + 7)) [.cell c, .tup [.int a, b], u] h = .exc 2 h := by
  have c4 := call_table n _ h hT
  rw [ht] at c4
  obtain ⟨a', b', ks, e, h1, h2, _⟩ := isTable_shape ht
  cases e
  have c5 := call_urn (n + 1) a [b] u (some 60) h (by omega) hu hx
  rw [hf] at c5
  simp only [mostD] at c5
  simp [runFn, f_Bag_init, sAll, sSeq, sExpr, eCall, evs, eVar, eK, c4, c5]
/-- a copy of a list -/
def copyD (h : Hh) (x : D) : D := .lst ((viewL h x).getD [])
theorem isBack_view {h : Hh} {x : D} {k : Int} (e : isBack h x k = true) : ∃ xs, viewL h x = some xs := by
  unfold isBack at e
  split at e
  · rename_i xs v
    exact ⟨xs, v⟩
  · cases e
theorem isUrn_view {h : Hh} {x : D} {a : Int} {m : Option Int} (e : isUrn h a x m = true) : ∃ xs, viewL h x = some xs := by
  unfold isUrn at e
  split at e
  · rename_i xs v
    exact ⟨xs, v⟩
  · cases e
theorem bag_made (n c : Nat) (a : Int) (b u : D) (ks us : List D) (h : Hh) (hc : h[c]? = some (.ins 0 [])) (hT : TabOk h (.tup [.int a, b])) (ht : isTable h (.tup [.int a, b]) = true) (hu : tyOk h u = true) (hx : ∀ xs, viewL h u = some xs → ∀ x ∈ xs, tyOk h x = true) (hf : isUrn h a u (some 60) = true)
    (vb : viewL h b = some ks) (vu : viewL h u = some us) (keepU : ∀ y, viewL (h.set c y) u = some us) :
    runFn f_Bag_init (ctxN G (n + 7)) [.cell c, .tup [.int a, b], u] h = .ok .non (h.set c (.ins 0 [(0, .tup [.int a, .lst (ks.map (copyD h))]), (1, .cell h.length), (2, .cell (h.length + 1))]) ++ [.lst [.lst us], .lst []]) := by
  have c4 := call_table n _ h hT
  rw [ht] at c4
  obtain ⟨a', b', ks', e, h1, h2, vb', hl, hk⟩ := isTable_shape ht
  cases e
  rw [vb] at vb'
  cases vb'
  have c5 := call_urn (n + 1) a [b] u (some 60) h (by omega) hu hx
  rw [hf] at c5
  simp only [mostD] at c5
  have hcl : c < h.length := (List.getElem?_eq_some_iff.mp hc).1
  obtain ⟨at', es, st⟩ := iSeq_view (cx := ctxN G (n + 7)) (r := [some (.cell c), some (.tup [.int a, b]), some u, none]) (h := h) (fa := e2 pIx (eVar 1) (eK (.int 1))) (d := b) (by simp [e2, eVar, eK, pIx, viewS, atI, ixN]) vb
  have hcomp := compL_map (cx := ctxN G (n + 7)) (s := ⟨at', ks⟩) (own := [3]) (t := .n 3) (elt := e1 (pList false) (eVar 3)) (r := [some (.cell c), some (.tup [.int a, b]), some u, none]) (h := h) (f := copyD h) st (items := ks) fun x hx' =>
    ⟨[some (.cell c), some (.tup [.int a, b]), some u, some x], rfl, by
      obtain ⟨xs, v⟩ := isBack_view (hk x hx')
      simp [e1, eVar, pList, viewK_of v, mkL, copyD, v]⟩
  have hlim : ks.length ≤ LIM := by have := pairsD_len h1 h2; unfold LIM; omega
  have x3 : eTup [e2 pIx (eVar 1) (eK (.int 0)), eComp false [3] (.n 3) (iSeq (e2 pIx (eVar 1) (eK (.int 1)))) eYes (e1 (pList false) (eVar 3))] (ctxN G (n + 7)) [some (.cell c), some (.tup [.int a, b]), some u, none] h = .ok (.tup [.int a, .lst (ks.map (copyD h))]) h := by
    have y0 : e2 pIx (eVar 1) (eK (.int 0)) (ctxN G (n + 7)) [some (.cell c), some (.tup [.int a, b]), some u, none] h = .ok (.int a) h := by simp [e2, eVar, eK, pIx, viewS, atI, ixN]
    simp only [eTup, evs, y0, R.bind_ok, eComp, es, hlim, if_true, hcomp, R.calm_ok, mkL, Bool.false_eq_true, if_false, up_some]
  have s3 : sAttr [0] 0 (eVar 0) (eTup [e2 pIx (eVar 1) (eK (.int 0)), eComp false [3] (.n 3) (iSeq (e2 pIx (eVar 1) (eK (.int 1)))) eYes (e1 (pList false) (eVar 3))]) (ctxN G (n + 7)) [some (.cell c), some (.tup [.int a, b]), some u, none] h = .nx [some (.cell c), some (.tup [.int a, b]), some u, none] (h.set c (.ins 0 [(0, .tup [.int a, .lst (ks.map (copyD h))])])) := by
    simp [sAttr, x3, eVar, hc, putN]
  have s4 : sAttr [0] 1 (eVar 0) (eLst true [e1 (pList false) (eVar 2)]) (ctxN G (n + 7)) [some (.cell c), some (.tup [.int a, b]), some u, none] (h.set c (.ins 0 [(0, .tup [.int a, .lst (ks.map (copyD h))])])) =
      .nx [some (.cell c), some (.tup [.int a, b]), some u, none] (h.set c (.ins 0 [(0, .tup [.int a, .lst (ks.map (copyD h))]), (1, .cell h.length)]) ++ [.lst [.lst us]]) := by
    have v' := viewK_of (keepU (.ins 0 [(0, .tup [.int a, .lst (ks.map (copyD h))])]))
    have g1 : (h.set c (.ins 0 [(0, .tup [.int a, .lst (ks.map (copyD h))])]) ++ [.lst [.lst us]])[c]? = some (.ins 0 [(0, .tup [.int a, .lst (ks.map (copyD h))])]) := by
      rw [List.getElem?_append_left (by simpa using hcl), List.getElem?_set_self hcl]
    simp [sAttr, eLst, evs, e1, eVar, pList, v', mkL, g1, putN, List.set_append, hcl]
  have s5 : sAttr [0] 2 (eVar 0) (eLst true []) (ctxN G (n + 7)) [some (.cell c), some (.tup [.int a, b]), some u, none] (h.set c (.ins 0 [(0, .tup [.int a, .lst (ks.map (copyD h))]), (1, .cell h.length)]) ++ [.lst [.lst us]]) =
      .nx [some (.cell c), some (.tup [.int a, b]), some u, none] (h.set c (.ins 0 [(0, .tup [.int a, .lst (ks.map (copyD h))]), (1, .cell h.length), (2, .cell (h.length + 1))]) ++ [.lst [.lst us], .lst []]) := by
    have g1 : (h.set c (.ins 0 [(0, .tup [.int a, .lst (ks.map (copyD h))]), (1, .cell h.length)]) ++ [.lst [.lst us], .lst []])[c]? = some (.ins 0 [(0, .tup [.int a, .lst (ks.map (copyD h))]), (1, .cell h.length)]) := by
      rw [List.getElem?_append_left (by simpa using hcl), List.getElem?_set_self hcl]
    simp [sAttr, eLst, evs, eVar, mkL, g1, putN, List.set_append, hcl]
  have q1 : sExpr (eCall 4 [eVar 1]) (ctxN G (n + 7)) [some (.cell c), some (.tup [.int a, b]), some u, none] h = .nx [some (.cell c), some (.tup [.int a, b]), some u, none] h := by
    simp [sExpr, eCall, evs, eVar, c4]
  have q2 : sExpr (eCall 5 [eVar 1, eVar 2, eK (.int 60)]) (ctxN G (n + 7)) [some (.cell c), some (.tup [.int a, b]), some u, none] h = .nx [some (.cell c), some (.tup [.int a, b]), some u, none] h := by
    simp [sExpr, eCall, evs, eVar, eK, c5]
  have hb : f_Bag_init.body (ctxN G (n + 7)) [some (.cell c), some (.tup [.int a, b]), some u, none] h = .nx [some (.cell c), some (.tup [.int a, b]), some u, none] (h.set c (.ins 0 [(0, .tup [.int a, .lst (ks.map (copyD h))]), (1, .cell h.length), (2, .cell (h.length + 1))]) ++ [.lst [.lst us], .lst []]) := by
    simp only [f_Bag_init, sAll, sSeq, q1, q2, s3, s4, s5]
  unfold runFn
  rw [if_pos (by rfl)]
  show (match f_Bag_init.body (ctxN G (n + 7)) [some (.cell c), some (.tup [.int a, b]), some u, none] h with | .nx _ h' => finish f_Bag_init.pure h .non h' | .rt d h' => finish f_Bag_init.pure h d h' | .exc c h' => if f_Bag_init.pure then (if sameH (h'.take h.length) h then .exc c h else .bad) else .exc c h' | _ => .bad) = _
  rw [hb]
  rfl
end M

set_option autoImplicit false
set_option linter.all false
set_option maxRecDepth 100000
/-! Plain facts: a Bag's draws. -/
namespace M
theorem call_count (n : Nat) (d : D) (lo hi : Int) (h : Hh) (hd : tyOk h d = true) : (ctxN G (n + 5)).call 1 [d, .int lo, .int hi] h = .ok (.bl (isCount d lo hi)) h := by
  rw [ctxN_call G (k := 1) (f := f_is_count) rfl]
  exact is_count_run n d lo hi h hd
theorem draw_no (n c : Nat) (a : Int) (tl : List D) (fs : List (Nat × D)) (one other : D) (h : Hh) (hc : h[c]? = some (.ins 0 fs)) (hf : lookN 0 fs = some (.tup (.int a :: tl))) (t1 : tyOk h one = true) (t2 : tyOk h other = true)
    (hb : isCount other 0 (a - 1) = false ∨ ∃ o, other = .int o ∧ isCount one 0 o = false) : runFn f_Bag_draw (ctxN G (n + 5)) [.cell c, one, other] h = .exc 3 h := by
  have at0 : e1 (pAttr [0] 0) (eVar 0) (ctxN G (n + 5)) [some (.cell c), some one, some other] h = .ok (.tup (.int a :: tl)) h := by
    simp [e1, eVar, pAttr, insAt, hc, hf]
  have ix : e2 pIx (e1 (pAttr [0] 0) (eVar 0)) (eK (.int 0)) (ctxN G (n + 5)) [some (.cell c), some one, some other] h = .ok (.int a) h := by
    rw [e2]
    simp only [at0, R.bind_ok]
    simp [eK, pIx, viewS, atI, ixN]
  have c1 := call_count n other 0 (a - 1) h t2
  have k1 : eCall 1 [eVar 2, eK (.int 0), e2 pSub (e2 pIx (e1 (pAttr [0] 0) (eVar 0)) (eK (.int 0))) (eK (.int 1))] (ctxN G (n + 5)) [some (.cell c), some one, some other] h = .ok (.bl (isCount other 0 (a - 1))) h := by
    have sb : e2 pSub (e2 pIx (e1 (pAttr [0] 0) (eVar 0)) (eK (.int 0))) (eK (.int 1)) (ctxN G (n + 5)) [some (.cell c), some one, some other] h = .ok (.int (a - 1)) h := by
      rw [e2]
      simp only [ix, R.bind_ok]
      simp [eK, pSub]
    have k0 : ∀ h, eK (.int 0) (ctxN G (n + 5)) [some (.cell c), some one, some other] h = .ok (.int 0) h := fun _ => rfl
    simp only [eCall, evs, eVar, List.getElem?_cons_succ, List.getElem?_cons_zero, R.bind_ok, k0, sb]
    exact c1
  unfold runFn
  rw [if_pos (by rfl)]
  have hbody : f_Bag_draw.body (ctxN G (n + 5)) [some (.cell c), some one, some other] h = .exc 3 h := by
    simp only [f_Bag_draw, sAll, sSeq, sIf, eOr, eNot, k1, R.bind_ok]
    cases q : isCount other 0 (a - 1) with
    | false => simp [sRaise]
    | true =>
      rcases hb with hb | ⟨o, rfl, hb⟩
      · rw [hb] at q; cases q
      · have c2 := call_count n one 0 o h t1
        have k2 : eCall 1 [eVar 1, eK (.int 0), eVar 2] (ctxN G (n + 5)) [some (.cell c), some one, some (.int o)] h = .ok (.bl false) h := by
          rw [hb] at c2
          simp only [eCall, evs, eVar, eK, List.getElem?_cons_succ, List.getElem?_cons_zero, R.bind_ok]
          exact c2
        simp [k2, sRaise]
  show (match f_Bag_draw.body (ctxN G (n + 5)) [some (.cell c), some one, some other] h with | .nx _ h' => finish f_Bag_draw.pure h .non h' | .rt d h' => finish f_Bag_draw.pure h d h' | .exc c h' => if f_Bag_draw.pure then (if sameH (h'.take h.length) h then .exc c h else .bad) else .exc c h' | _ => .bad) = _
  rw [hbody]
  rfl
end M

set_option autoImplicit false
set_option linter.all false
set_option maxRecDepth 100000
/-! How terms of the machine are reckoned: each construct's equation, all its arguments there. -/
namespace M

/-- by a truth -/
def ifb (x : D) (a b : R D) : R D :=
  match x with
  | .bl true => a
  | .bl false => b
  | _ => .bad
@[simp] theorem ifb_bl (p : Bool) (a b : R D) : ifb (.bl p) a b = if p then a else b := by cases p <;> rfl
def notb (x : D) (h : Hh) : R D :=
  match x with
  | .bl b => .ok (.bl (!b)) h
  | _ => .bad
@[simp] theorem notb_bl (p : Bool) (h : Hh) : notb (.bl p) h = .ok (.bl (!p)) h := rfl
/-- a statement behind an expression -/
def R.st (m : R D) (k : D → Hh → O) : O :=
  match m with
  | .ok d h => k d h
  | .exc c h => .exc c h
  | .bad => .bad
@[simp] theorem R.st_ok (d : D) (h : Hh) (k : D → Hh → O) : (R.ok d h).st k = k d h := rfl
@[simp] theorem R.st_exc (c : Nat) (h : Hh) (k : D → Hh → O) : (R.exc c h : R D).st k = .exc c h := rfl
@[simp] theorem R.st_bad (k : D → Hh → O) : (R.bad : R D).st k = .bad := rfl
def ifo (x : D) (a b : O) : O :=
  match x with
  | .bl true => a
  | .bl false => b
  | _ => .bad
@[simp] theorem ifo_bl (p : Bool) (a b : O) : ifo (.bl p) a b = if p then a else b := by cases p <;> rfl
def O.then (o : O) (k : Env → Hh → O) : O :=
  match o with
  | .nx r h => k r h
  | o => o
@[simp] theorem O.then_nx (r : Env) (h : Hh) (k : Env → Hh → O) : (O.nx r h).then k = k r h := rfl
@[simp] theorem O.then_rt (d : D) (h : Hh) (k : Env → Hh → O) : (O.rt d h).then k = .rt d h := rfl
@[simp] theorem O.then_bk (r : Env) (h : Hh) (k : Env → Hh → O) : (O.bk r h).then k = .bk r h := rfl
@[simp] theorem O.then_exc (c : Nat) (h : Hh) (k : Env → Hh → O) : (O.exc c h).then k = .exc c h := rfl
@[simp] theorem O.then_bad (k : Env → Hh → O) : O.bad.then k = .bad := rfl
/-- the next turn of a walk -/
def O.turn (o : O) (k : Env → Hh → O) : O :=
  match o with
  | .nx r h => k r h
  | .bk r h => .nx r h
  | o => o
@[simp] theorem O.turn_nx (r : Env) (h : Hh) (k : Env → Hh → O) : (O.nx r h).turn k = k r h := rfl
@[simp] theorem O.turn_rt (d : D) (h : Hh) (k : Env → Hh → O) : (O.rt d h).turn k = .rt d h := rfl
@[simp] theorem O.turn_bk (r : Env) (h : Hh) (k : Env → Hh → O) : (O.bk r h).turn k = .nx r h := rfl
@[simp] theorem O.turn_exc (c : Nat) (h : Hh) (k : Env → Hh → O) : (O.exc c h).turn k = .exc c h := rfl
@[simp] theorem O.turn_bad (k : Env → Hh → O) : O.bad.turn k = .bad := rfl
def put (t : T) (d : D) (r : Env) (k : Env → O) : O :=
  match asg t d r with
  | some r1 => k r1
  | none => .bad
@[simp] theorem asg_n (i : Nat) (d : D) (r : Env) : asg (.n i) d r = if i < r.length then some (r.set i (some d)) else none := by simp only [asg]
@[simp] theorem asg_t (ts : List T) (ds : List D) (r : Env) : asg (.t ts) (.tup ds) r = asgs ts ds r := by simp only [asg]
@[simp] theorem asgs_nil (r : Env) : asgs [] [] r = some r := by simp only [asgs]
@[simp] theorem asgs_cons (t : T) (ts : List T) (d : D) (ds : List D) (r : Env) : asgs (t :: ts) (d :: ds) r = (asg t d r).bind fun r1 => asgs ts ds r1 := by
  simp only [asgs]
  cases asg t d r <;> rfl
@[simp] theorem put_n (i : Nat) (d : D) (r : Env) (k : Env → O) : put (.n i) d r k = if i < r.length then k (r.set i (some d)) else .bad := by
  unfold put
  rw [asg_n]
  by_cases h : i < r.length <;> simp [h]
@[simp] theorem wipe_nil (r : Env) : wipeE r [] = r := rfl
@[simp] theorem wipe_cons (r : Env) (v : Nat) (vs : List Nat) : wipeE r (v :: vs) = (wipeE r vs).set v none := rfl

section eqs
variable (cx : Ctx) (r : Env) (h : Hh)
def look (o : Option (Option D)) (h : Hh) : R D :=
  match o with
  | some (some d) => .ok d h
  | _ => .bad
@[simp] theorem look_some (d : D) : look (some (some d)) h = .ok d h := rfl
@[simp] theorem look_none : look (some none) h = .bad := rfl
@[simp] theorem eVar_eq (i : Nat) : eVar i cx r h = look r[i]? h := by unfold eVar look; rfl
@[simp] theorem eK_eq (d : D) : eK d cx r h = .ok d h := rfl
@[simp] theorem eYes_eq : eYes cx r h = .ok (.bl true) h := rfl
@[simp] theorem evs_nil : evs [] cx r h = .ok [] h := rfl
@[simp] theorem evs_cons (e : FE) (es : List FE) : evs (e :: es) cx r h = (e cx r h).bind fun d h1 => (evs es cx r h1).bind fun ds h2 => .ok (d :: ds) h2 := rfl
@[simp] theorem eTup_eq (es : List FE) : eTup es cx r h = (evs es cx r h).bind fun ds h1 => .ok (.tup ds) h1 := rfl
@[simp] theorem eLst_eqF (es : List FE) : eLst false es cx r h = (evs es cx r h).bind fun ds h1 => .ok (.lst ds) h1 := rfl
@[simp] theorem eLst_eqT (es : List FE) : eLst true es cx r h = (evs es cx r h).bind fun ds h1 => .ok (.cell h1.length) (h1 ++ [.lst ds]) := rfl
@[simp] theorem mkL_F (xs : List D) : mkL false xs h = some (.lst xs, h) := rfl
@[simp] theorem mkL_T (xs : List D) : mkL true xs h = some (.cell h.length, h ++ [.lst xs]) := rfl
@[simp] theorem eDict_eq : eDict cx r h = .ok (.cell h.length) (h ++ [.dct [] []]) := rfl
@[simp] theorem e1_eq (f : D → Hh → Option (D × Hh)) (a : FE) : e1 f a cx r h = (a cx r h).bind fun x h1 => up (f x h1) := rfl
@[simp] theorem e2_eq (f : D → D → Hh → Option (D × Hh)) (a b : FE) : e2 f a b cx r h = (a cx r h).bind fun x h1 => (b cx r h1).bind fun y h2 => up (f x y h2) := rfl
@[simp] theorem e3_eq (f : D → D → D → Hh → Option (D × Hh)) (a b c : FE) : e3 f a b c cx r h = (a cx r h).bind fun x h1 => (b cx r h1).bind fun y h2 => (c cx r h2).bind fun z h3 => up (f x y z h3) := rfl
@[simp] theorem eNot_eq (a : FE) : eNot a cx r h = (a cx r h).bind fun x h1 => notb x h1 := rfl
@[simp] theorem eAnd_eq (a b : FE) : eAnd a b cx r h = (a cx r h).bind fun x h1 => ifb x (b cx r h1) (.ok (.bl false) h1) := rfl
@[simp] theorem eOr_eq (a b : FE) : eOr a b cx r h = (a cx r h).bind fun x h1 => ifb x (.ok (.bl true) h1) (b cx r h1) := rfl
@[simp] theorem eIte_eq (c a b : FE) : eIte c a b cx r h = (c cx r h).bind fun x h1 => ifb x (a cx r h1) (b cx r h1) := rfl
@[simp] theorem eChain_eq (a b c : FE) : eChain a b c cx r h = (a cx r h).bind fun x h1 => (b cx r h1).bind fun y h2 => (up (pLe x y h2)).bind fun z h3 => ifb z ((c cx r h3).bind fun w h4 => up (pLe y w h4)) (.ok (.bl false) h3) := rfl
@[simp] theorem eCall_eq (k : Nat) (es : List FE) : eCall k es cx r h = (evs es cx r h).bind fun ds h1 => cx.call k ds h1 := rfl
def mkd (c : Nat) (v : D) (h : Hh) : R D :=
  match v with
  | .non => .ok (.cell c) h
  | _ => .bad
@[simp] theorem mkd_non (c : Nat) : mkd c .non h = .ok (.cell c) h := rfl
@[simp] theorem eMake_eq (C init : Nat) (es : List FE) : eMake C init es cx r h = (evs es cx r h).bind fun ds h1 => (cx.down.call init (.cell h1.length :: ds) (h1 ++ [.ins C []])).bind fun v h2 => mkd h1.length v h2 := rfl
def meth (ms : List (Nat × Nat)) (o : Option (Nat × List (Nat × D))) (k : Nat → R D) : R D :=
  match o with
  | some (C, _) => match lookM C ms with
    | some j => k j
    | none => .bad
  | none => .bad
@[simp] theorem meth_some (ms : List (Nat × Nat)) (C : Nat) (fs : List (Nat × D)) (k : Nat → R D) : meth ms (some (C, fs)) k = match lookM C ms with | some j => k j | none => .bad := rfl
@[simp] theorem eMeth_eq (ms : List (Nat × Nat)) (o : FE) (es : List FE) : eMeth ms o es cx r h = (o cx r h).bind fun x h1 => meth ms (insAt h1 x) fun k => (evs es cx r h1).bind fun ds h2 => cx.call k (x :: ds) h2 := rfl
def kindsR (m : R D) : R D :=
  match m with
  | .ok _ h1 => .ok (.lst []) h1
  | .exc c h1 => if 1 ≤ c ∧ c ≤ 5 then .ok (.lst ((sixB c).map D.bl)) h1 else .bad
  | .bad => .bad
@[simp] theorem kindsR_ok (d : D) : kindsR (.ok d h) = .ok (.lst []) h := rfl
@[simp] theorem kindsR_exc (c : Nat) : kindsR (.exc c h) = if 1 ≤ c ∧ c ≤ 5 then .ok (.lst ((sixB c).map D.bl)) h else .bad := rfl
@[simp] theorem eKinds_eq (e : FE) : eKinds e cx r h = kindsR (e cx.down.down r h) := rfl
@[simp] theorem eM0_eq (f : D → Hh → Option (D × Hh)) (o : FE) : eM0 f o cx r h = (o cx r h).bind fun x h1 => if (viewL h1 x).isSome then up (f x h1) else .bad := rfl
@[simp] theorem eM1_eq (f : D → D → Hh → Option (D × Hh)) (o a : FE) : eM1 f o a cx r h = (o cx r h).bind fun x h1 => if (viewL h1 x).isSome then (a cx r h1).bind fun y h2 => up (f x y h2) else .bad := rfl
@[simp] theorem eM2_eq (f : D → D → D → Hh → Option (D × Hh)) (o a b : FE) : eM2 f o a b cx r h = (o cx r h).bind fun x h1 => if (viewL h1 x).isSome then (a cx r h1).bind fun y h2 => (b cx r h2).bind fun z h3 => up (f x y z h3) else .bad := rfl

@[simp] theorem sPass_eq : sPass cx r h = .nx r h := rfl
@[simp] theorem sSeq_eq (a b : FS) : sSeq a b cx r h = (a cx r h).then fun r1 h1 => b cx r1 h1 := by
  unfold sSeq O.then
  cases a cx r h <;> rfl
@[simp] theorem sAll_nil : sAll [] cx r h = .nx r h := rfl
@[simp] theorem sAll_one (a : FS) : sAll [a] cx r h = a cx r h := rfl
@[simp] theorem sAll_cons (a b : FS) (as : List FS) : sAll (a :: b :: as) cx r h = (a cx r h).then fun r1 h1 => sAll (b :: as) cx r1 h1 := sSeq_eq cx r h a (sAll (b :: as))
@[simp] theorem sAsg_eq (t : T) (e : FE) : sAsg t e cx r h = (e cx r h).st fun d h1 => put t d r fun r1 => .nx r1 h1 := by
  unfold sAsg R.st put
  cases e cx r h <;> rfl
def R.stA (m : R (List D)) (k : List D → Hh → O) : O :=
  match m with
  | .ok d h => k d h
  | .exc c h => .exc c h
  | .bad => .bad
@[simp] theorem R.stA_ok (d : List D) (k : List D → Hh → O) : (R.ok d h).stA k = k d h := rfl
@[simp] theorem R.stA_exc (c : Nat) (k : List D → Hh → O) : (R.exc c h : R (List D)).stA k = .exc c h := rfl
@[simp] theorem R.stA_bad (k : List D → Hh → O) : (R.bad : R (List D)).stA k = .bad := rfl
def optO (o : Option Env) (k : Env → O) : O :=
  match o with
  | some r => k r
  | none => .bad
@[simp] theorem optO_some (k : Env → O) : optO (some r) k = k r := rfl
@[simp] theorem sPar_eq (is : List Nat) (es : List FE) : sPar is es cx r h = (evs es cx r h).stA fun ds h1 => optO (asgs (is.map T.n) ds r) fun r1 => .nx r1 h1 := by
  unfold sPar R.stA optO
  cases evs es cx r h <;> rfl
@[simp] theorem sExpr_eq (e : FE) : sExpr e cx r h = (e cx r h).st fun _ h1 => .nx r h1 := by
  unfold sExpr R.st
  cases e cx r h <;> rfl
@[simp] theorem sRet_eq (e : FE) : sRet e cx r h = (e cx r h).st fun d h1 => .rt d h1 := by
  unfold sRet R.st
  cases e cx r h <;> rfl
@[simp] theorem sIf_eq (c : FE) (a b : FS) : sIf c a b cx r h = (c cx r h).st fun x h1 => ifo x (a cx r h1) (b cx r h1) := by
  unfold sIf R.st ifo
  cases c cx r h with
  | ok d h1 => cases d with
    | bl b => cases b <;> rfl
    | _ => rfl
  | exc _ _ => rfl
  | bad => rfl
@[simp] theorem sRaise_eq (c : Nat) : sRaise c cx r h = .exc c h := rfl
@[simp] theorem sBreak_eq : sBreak cx r h = .bk r h := rfl
def optH (o : Option Hh) : R D :=
  match o with
  | some h => .ok .non h
  | none => .bad
@[simp] theorem optH_some : optH (some h) = .ok .non h := rfl
@[simp] theorem sSetIx_eq (o i e : FE) : sSetIx o i e cx r h = ((e cx r h).bind fun d h1 => (o cx r h1).bind fun x h2 => (i cx r h2).bind fun y h3 => optH (setIx x y d h3)).st fun _ h1 => .nx r h1 := by
  have e' : sSetIx o i e cx r h = ((e cx r h).bind fun d h1 => (o cx r h1).bind fun x h2 => (i cx r h2).bind fun y h3 => (match setIx x y d h3 with | some h4 => R.ok D.non h4 | none => .bad)).st fun _ h1 => .nx r h1 := by
    unfold sSetIx R.st
    rfl
  rw [e']
  rfl
@[simp] theorem sSetKey_eq (o i e : FE) : sSetKey o i e cx r h = ((e cx r h).bind fun d h1 => (o cx r h1).bind fun x h2 => (i cx r h2).bind fun y h3 => optH (setKey x y d h3)).st fun _ h1 => .nx r h1 := by
  have e' : sSetKey o i e cx r h = ((e cx r h).bind fun d h1 => (o cx r h1).bind fun x h2 => (i cx r h2).bind fun y h3 => (match setKey x y d h3 with | some h4 => R.ok D.non h4 | none => .bad)).st fun _ h1 => .nx r h1 := by
    unfold sSetKey R.st
    rfl
  rw [e']
  rfl
@[simp] theorem sAugIx_eq (f : D → D → Hh → Option (D × Hh)) (o i e : FE) : sAugIx f o i e cx r h = ((o cx r h).bind fun x h1 => (i cx r h1).bind fun y h2 => (up (pIxC x y h2)).bind fun a h3 => (e cx r h3).bind fun b h4 => (up (f a b h4)).bind fun d h5 => optH (setIx x y d h5)).st fun _ h1 => .nx r h1 := by
  have e' : sAugIx f o i e cx r h = ((o cx r h).bind fun x h1 => (i cx r h1).bind fun y h2 => (up (pIxC x y h2)).bind fun a h3 => (e cx r h3).bind fun b h4 => (up (f a b h4)).bind fun d h5 => (match setIx x y d h5 with | some h6 => R.ok D.non h6 | none => .bad)).st fun _ h1 => .nx r h1 := by
    unfold sAugIx R.st
    rfl
  rw [e']
  rfl
@[simp] theorem sAugN_eq (f : D → D → Hh → Option (D × Hh)) (i : Nat) (e : FE) : sAugN f i e cx r h = ((eVar i cx r h).bind fun a h1 => (e cx r h1).bind fun b h2 => up (f a b h2)).st fun d h1 => .nx (r.set i (some d)) h1 := by
  unfold sAugN R.st
  rfl
def attrAt (cs : List Nat) (f : Nat) (d x : D) (h : Hh) : R D :=
  match x with
  | .cell c => match h[c]? with
    | some (.ins C fs) => if fs.length < 100 ∧ cs.contains C = true then R.ok D.non (h.set c (.ins C (putN f d fs))) else .bad
    | _ => .bad
  | _ => .bad
theorem attrAt_ok {cs : List Nat} {f c C : Nat} {d : D} {h : Hh} {fs : List (Nat × D)} (e : h[c]? = some (.ins C fs)) (hl : fs.length < 100) (hc : cs.contains C = true) : attrAt cs f d (.cell c) h = .ok .non (h.set c (.ins C (putN f d fs))) := by
  simp only [attrAt, e, hl, hc, and_self, if_true]
@[simp] theorem sAttr_eq (cs : List Nat) (f : Nat) (o e : FE) : sAttr cs f o e cx r h = ((e cx r h).bind fun d h1 => (o cx r h1).bind fun x h2 => attrAt cs f d x h2).st fun _ h1 => .nx r h1 := by
  have e' : sAttr cs f o e cx r h = ((e cx r h).bind fun d h1 => (o cx r h1).bind fun x h2 => (match x with
    | .cell c => match h2[c]? with
      | some (.ins C fs) => if fs.length < 100 ∧ cs.contains C = true then R.ok D.non (h2.set c (.ins C (putN f d fs))) else .bad
      | _ => .bad
    | _ => .bad)).st fun _ h1 => .nx r h1 := by
    unfold sAttr R.st
    rfl
  rw [e']
  rfl
def R.stS (m : R Src) (k : Src → Hh → O) : O :=
  match m with
  | .ok d h => k d h
  | .exc c h => .exc c h
  | .bad => .bad
@[simp] theorem R.stS_ok (d : Src) (k : Src → Hh → O) : (R.ok d h).stS k = k d h := rfl
@[simp] theorem R.stS_exc (c : Nat) (k : Src → Hh → O) : (R.exc c h : R Src).stS k = .exc c h := rfl
@[simp] theorem R.stS_bad (k : Src → Hh → O) : (R.bad : R Src).stS k = .bad := rfl
@[simp] theorem sFor_eq (t : T) (it : FI) (body : FS) : sFor t it body cx r h = (it cx r h).stS fun s h1 => forL cx s t body s.items r h1 := by
  unfold sFor R.stS
  cases it cx r h <;> rfl
@[simp] theorem forL_nil (s : Src) (t : T) (body : FS) : forL cx s t body [] r h = .nx r h := rfl
theorem forL_cons (s : Src) (t : T) (body : FS) (x : D) (xs : List D) : forL cx s t body (x :: xs) r h = put t x r fun r1 => (body cx r1 h).turn fun r2 h2 => if still s h2 then forL cx s t body xs r2 h2 else .bad := by
  rw [forL]
  unfold put
  cases asg t x r with
  | none => rfl
  | some r1 =>
    show (match body cx r1 h with
      | .nx r2 h2 => if still s h2 then forL cx s t body xs r2 h2 else .bad
      | .bk r2 h2 => .nx r2 h2
      | o => o) = (body cx r1 h).turn fun r2 h2 => if still s h2 then forL cx s t body xs r2 h2 else .bad
    cases body cx r1 h <;> rfl
@[simp] theorem sWhile_eq (n : Nat) (c : FE) (body : FS) : sWhile n c body cx r h = whileN cx c body n r h := rfl
theorem whileN_succ (n : Nat) (c : FE) (body : FS) : whileN cx c body (n + 1) r h = (c cx r h).st fun x h1 => ifo x ((body cx r h1).turn fun r2 h2 => whileN cx c body n r2 h2) (.nx r h1) := by
  rw [whileN]
  cases c cx r h with
  | ok d h1 => cases d with
    | bl b =>
      cases b with
      | true =>
        show (match body cx r h1 with
          | .nx r2 h2 => whileN cx c body n r2 h2
          | .bk r2 h2 => .nx r2 h2
          | o => o) = (body cx r h1).turn fun r2 h2 => whileN cx c body n r2 h2
        cases body cx r h1 <;> rfl
      | false => rfl
    | _ => rfl
  | exc _ _ => rfl
  | bad => rfl
def seqW (x : D) (h : Hh) : R Src :=
  match x with
  | .tup xs => .ok ⟨[], xs⟩ h
  | x => match viewW h x with
    | some p => .ok ⟨p.1, p.2⟩ h
    | none => .bad
@[simp] theorem seqW_tup (xs : List D) : seqW (.tup xs) h = .ok ⟨[], xs⟩ h := rfl
@[simp] theorem seqW_lst (xs : List D) : seqW (.lst xs) h = .ok ⟨[], xs⟩ h := rfl
theorem seqW_view {h : Hh} {d : D} {xs : List D} (v : viewL h d = some xs) : ∃ a, seqW d h = .ok ⟨a, xs⟩ h ∧ stillA h a = true := by
  obtain ⟨a, e2, e3⟩ := viewW_of v
  refine ⟨a, ?_, e3⟩
  cases d with
  | tup ys => simp [viewL] at v
  | _ => simp [seqW, e2]
@[simp] theorem iSeq_eq (a : FE) : iSeq a cx r h = (a cx r h).bind fun x h1 => seqW x h1 := rfl
def rng1 (x : D) (h : Hh) : R Src :=
  match x with
  | .int n => if n ≤ 1000000 ∧ -1000000 ≤ n then .ok ⟨[], rangeL 0 n.toNat⟩ h else .bad
  | _ => .bad
@[simp] theorem rng1_int (n : Int) : rng1 (.int n) h = if n ≤ 1000000 ∧ -1000000 ≤ n then .ok ⟨[], rangeL 0 n.toNat⟩ h else .bad := rfl
@[simp] theorem iRange1_eq (a : FE) : iRange1 a cx r h = (a cx r h).bind fun x h1 => rng1 x h1 := rfl
def rng2 (x y : D) (h : Hh) : R Src :=
  match x, y with
  | .int i, .int j => if -1000000 ≤ i ∧ i ≤ 1000000 ∧ j ≤ 1000000 ∧ -1000000 ≤ j then .ok ⟨[], rangeL i (j - i).toNat⟩ h else .bad
  | _, _ => .bad
@[simp] theorem rng2_int (i j : Int) : rng2 (.int i) (.int j) h = if -1000000 ≤ i ∧ i ≤ 1000000 ∧ j ≤ 1000000 ∧ -1000000 ≤ j then .ok ⟨[], rangeL i (j - i).toNat⟩ h else .bad := rfl
@[simp] theorem iRange2_eq (a b : FE) : iRange2 a b cx r h = (a cx r h).bind fun x h1 => (b cx r h1).bind fun y h2 => rng2 x y h2 := rfl
def zipW (x y : D) (h : Hh) : R Src :=
  match viewW h x, viewW h y with
  | some p, some q => .ok ⟨p.1 ++ q.1, zipT p.2 q.2⟩ h
  | _, _ => .bad
@[simp] theorem iZip_eq (a b : FE) : iZip a b cx r h = (a cx r h).bind fun x h1 => (b cx r h1).bind fun y h2 => zipW x y h2 := rfl
theorem stillA_ap (h : Hh) : ∀ a b : List (Nat × List D), stillA h (a ++ b) = (stillA h a && stillA h b)
  | [], b => by simp [stillA]
  | p :: a, b => by
    simp only [List.cons_append, stillA, stillA_ap h a b, Bool.and_assoc]
theorem zipW_view {h : Hh} {d e : D} {xs ys : List D} (v : viewL h d = some xs) (w : viewL h e = some ys) : ∃ a, zipW d e h = .ok ⟨a, zipT xs ys⟩ h ∧ stillA h a = true := by
  obtain ⟨a, e2, e3⟩ := viewW_of v
  obtain ⟨b, f2, f3⟩ := viewW_of w
  refine ⟨a ++ b, by simp [zipW, e2, f2], by rw [stillA_ap, e3, f3]; rfl⟩
def enumW (x : D) (h : Hh) : R Src :=
  match viewW h x with
  | some p => .ok ⟨p.1, enumT 0 p.2⟩ h
  | none => .bad
@[simp] theorem iEnum_eq (a : FE) : iEnum a cx r h = (a cx r h).bind fun x h1 => enumW x h1 := rfl
theorem enumW_view {h : Hh} {d : D} {xs : List D} (v : viewL h d = some xs) : ∃ a, enumW d h = .ok ⟨a, enumT 0 xs⟩ h ∧ stillA h a = true := by
  obtain ⟨a, e2, e3⟩ := viewW_of v
  exact ⟨a, by simp [enumW, e2], e3⟩
@[simp] theorem eComp_eq (m : Bool) (own : List Nat) (t : T) (it : FI) (cond elt : FE) : eComp m own t it cond elt cx r h = (it cx r h).bind fun s h1 => if s.items.length ≤ LIM then (compL cx s own t cond elt r s.items h1).calm.bind fun ys h2 => up (mkL m ys h2) else .bad := rfl
@[simp] theorem still_nil (xs : List D) : still ⟨[], xs⟩ h = true := rfl
end eqs
@[simp] theorem down_ctx (G : Nat → Option Fn) (n : Nat) : (ctxN G (n + 1)).down = ctxN G n := rfl
/-! ### primitives of numbers -/
@[simp] theorem pAdd_int (m : Bool) (i j : Int) (h : Hh) : pAdd m (.int i) (.int j) h = some (.int (i + j), h) := rfl
@[simp] theorem pAddI_int (i j : Int) (h : Hh) : pAddI (.int i) (.int j) h = some (.int (i + j), h) := rfl
@[simp] theorem pSub_int (i j : Int) (h : Hh) : pSub (.int i) (.int j) h = some (.int (i - j), h) := rfl
@[simp] theorem pNeg_int (i : Int) (h : Hh) : pNeg (.int i) h = some (.int (-i), h) := rfl
theorem pMul_int {m : Bool} {i j : Int} {h : Hh} (a : okI i = true) (b : okI j = true) : pMul m (.int i) (.int j) h = some (.int (i * j), h) := by simp [pMul, a, b]
theorem pMod_int {i j : Int} {h : Hh} (n : j ≠ 0) : pMod (.int i) (.int j) h = some (.int (i.fmod j), h) := by simp [pMod, n]
theorem pFdiv_int {i j : Int} {h : Hh} (n : j ≠ 0) (o : okI j = true) : pFdiv (.int i) (.int j) h = some (.int (i.fdiv j), h) := by simp [pFdiv, n, o]
@[simp] theorem pLt_int (i j : Int) (h : Hh) : pLt (.int i) (.int j) h = some (.bl (decide (i < j)), h) := rfl
@[simp] theorem pLe_int (i j : Int) (h : Hh) : pLe (.int i) (.int j) h = some (.bl (decide (i ≤ j)), h) := rfl
@[simp] theorem pGt_int (i j : Int) (h : Hh) : pGt (.int i) (.int j) h = some (.bl (decide (j < i)), h) := rfl
@[simp] theorem pGe_int (i j : Int) (h : Hh) : pGe (.int i) (.int j) h = some (.bl (decide (j ≤ i)), h) := rfl
@[simp] theorem pEq_intT (i j : Int) (h : Hh) : pEq true (.int i) (.int j) h = some (.bl (!(i == j)), h) := by simp [pEq_int]
@[simp] theorem pEq_intF (i j : Int) (h : Hh) : pEq false (.int i) (.int j) h = some (.bl (i == j), h) := by simp [pEq_int]
@[simp] theorem pIsN_F (x : D) (h : Hh) : pIsN false x h = some (.bl (isNon x), h) := rfl
@[simp] theorem pIsN_T (x : D) (h : Hh) : pIsN true x h = some (.bl (!isNon x), h) := rfl
@[simp] theorem pIx_tup0 (a : D) (xs : List D) (h : Hh) : pIx (.tup (a :: xs)) (.int 0) h = some (a, h) := by simp [pIx, viewS, atI, ixN]
@[simp] theorem pIx_tup1 (a b : D) (xs : List D) (h : Hh) : pIx (.tup (a :: b :: xs)) (.int 1) h = some (b, h) := by
  have hl : (1 : Int) < (xs.length : Int) + 1 + 1 := by omega
  simp [pIx, viewS, atI, ixN, hl]
@[simp] theorem viewL_lst (h : Hh) (xs : List D) : viewL h (.lst xs) = some xs := rfl
@[simp] theorem viewS_lst (h : Hh) (xs : List D) : viewS h (.lst xs) = some xs := rfl
@[simp] theorem viewS_tup (h : Hh) (xs : List D) : viewS h (.tup xs) = some xs := rfl
end M

set_option autoImplicit false
set_option linter.all false
set_option maxRecDepth 100000
/-! Plain facts: numbers by the script's cells. -/
namespace M

theorem okI_of {i : Int} (b : Nat) (h : i.natAbs ≤ 2 ^ b) (hb : b < 8000) : okI i = true := by
  unfold okI
  rw [decide_eq_true_iff]
  exact Nat.lt_of_le_of_lt h (Nat.pow_lt_pow_right (m := b) (n := 8000) (by omega) hb)
def primesD : List D := [.int 1000003, .int 1000033, .int 1000037, .int 1000039, .int 1000081, .int 1000099, .int 1000117, .int 1000121, .int 1000133, .int 1000151, .int 1000159, .int 1000171, .int 1000183, .int 1000187, .int 1000193, .int 1000199]
theorem prime_at (k : Int) : ∃ p : Int, 0 < p ∧ atI primesD (k.fmod 16) = some (.int p) := by
  have h1 : 0 ≤ k.fmod 16 := Int.fmod_nonneg_of_pos _ (by omega)
  have h2 : k.fmod 16 < 16 := Int.fmod_lt_of_pos _ (by omega)
  generalize k.fmod 16 = j at h1 h2
  have : j = 0 ∨ j = 1 ∨ j = 2 ∨ j = 3 ∨ j = 4 ∨ j = 5 ∨ j = 6 ∨ j = 7 ∨ j = 8 ∨ j = 9 ∨ j = 10 ∨ j = 11 ∨ j = 12 ∨ j = 13 ∨ j = 14 ∨ j = 15 := by omega
  rcases this with rfl | rfl | rfl | rfl | rfl | rfl | rfl | rfl | rfl | rfl | rfl | rfl | rfl | rfl | rfl | rfl <;> exact ⟨_, by decide, rfl⟩
theorem law_draw_run (c k m : Int) (hc : okI c = true) (hk : okI k = true) (hm : 0 < m) : ∃ v : Int, 0 ≤ v ∧ v < m ∧ ∀ cx h, runFn f_law_draw cx [.int c, .int k, .int m] h = .ok (.int v) h := by
  obtain ⟨p, hp, ep⟩ := prime_at k
  refine ⟨((c * 48271 + k * 69621).fmod p).fmod m, Int.fmod_nonneg_of_pos _ hm, Int.fmod_lt_of_pos _ hm, fun cx h => ?_⟩
  refine run_rtF rfl rfl ?_ rfl
  have o1 : okI 48271 = true := okI_of 20 (by decide) (by omega)
  have o2 : okI 69621 = true := okI_of 20 (by decide) (by omega)
  have hp0 : p ≠ 0 := by omega
  have hm0 : m ≠ 0 := by omega
  have ep' : ∀ h, pIx (.tup primesD) (.int (k.fmod 16)) h = some (.int p, h) := fun h => by simp [pIx, ep]
  unfold primesD at ep'
  simp [f_law_draw, pMul_int hc o1, pMul_int hk o2, pMod_int, hp0, hm0, ep']
theorem cell_at_run (ns : List Int) (k : Int) (hk : 0 ≤ k) : ∃ c : Int, ∀ cx h, runFn f_law_cell_at cx [.lst (ns.map D.int), .int k] h = .ok (.int c) h := by
  by_cases hl : k < ns.length
  · have hj : k.toNat < ns.length := by omega
    refine ⟨ns[k.toNat], fun cx h => run_rtF rfl rfl ?_ rfl⟩
    simp [f_law_cell_at, sAll, sSeq, sIf, e2, e1, eVar, pLen, viewS, viewL, pLt, pCmp, hl, sRet, pIx, atI, ixN, hk, List.getElem?_eq_getElem hj]
  · refine ⟨0, fun cx h => run_rtF rfl rfl ?_ rfl⟩
    simp [f_law_cell_at, sAll, sSeq, sIf, e2, e1, eVar, pLen, viewS, viewL, pLt, pCmp, hl, sRet, sPass, eK]
theorem value_run (c t : Int) (h0 : 0 ≤ t) (h1 : t ≤ 100) : ∃ v : Int, 0 ≤ v ∧ v < 10 ^ 40 ∧ ∀ n h, runFn f_law_value (ctxN G (n + 4)) [.int c, .int t] h = .ok (.int v) h := by
  have q18 : ∀ h, pPow (.int 10) (.int 18) h = some (.int (10 ^ 18), h) := fun _ => rfl
  have q40 : ∀ h, pPow (.int 10) (.int 40) h = some (.int (10 ^ 40), h) := fun _ => rfl
  have n18 : (10 : Int) ^ 18 ≠ 0 := by decide
  have n40 : (10 : Int) ^ 40 ≠ 0 := by decide
  have ot : okI t = true := okI_of 20 (by omega) (by omega)
  have o3 : okI 3 = true := okI_of 20 (by decide) (by omega)
  have oa : okI 977 = true := okI_of 20 (by decide) (by omega)
  have ob : okI 31 = true := okI_of 20 (by decide) (by omega)
  have oc : okI 1000003 = true := okI_of 20 (by decide) (by omega)
  by_cases hc : (10 : Int) ^ 18 ≤ c
  · refine ⟨(c - 10 ^ 18).fmod (10 ^ 40) / 2 ^ (3 * t).toNat, ?_, ?_, fun n h => run_rtF rfl rfl ?_ rfl⟩
    · exact Int.ediv_nonneg (Int.fmod_nonneg_of_pos _ (by decide)) (Int.pow_nonneg (by decide))
    · have q := Int.fmod_lt_of_pos (c - 10 ^ 18) (show (0 : Int) < 10 ^ 40 by decide)
      have q0 := Int.fmod_nonneg_of_pos (c - 10 ^ 18) (show (0 : Int) < 10 ^ 40 by decide)
      exact Int.lt_of_le_of_lt (Int.ediv_le_self _ q0) q
    · have hs : ∀ (i j : Int) h, 0 ≤ j → pShr (.int i) (.int j) h = some (.int (i / 2 ^ j.toNat), h) := fun i j h hj => by simp [pShr, hj]
      have hd : decide ((10 : Int) ^ 18 ≤ c) = true := by simpa using hc
      simp only [f_law_value, List.map_cons, List.map_nil, List.cons_append, List.nil_append, List.replicate, sAll_cons, sAll_one, sIf_eq, e2_eq, eK_eq, eVar_eq, List.getElem?_cons_succ, List.getElem?_cons_zero, look_some, R.bind_ok, up_some, q18, q40, pGe_int, hd, ifo_bl, if_true, R.st_ok, sRet_eq, pSub_int, pMod_int n40, pMul_int o3 ot, hs _ _ _ (show 0 ≤ 3 * t by omega), O.then_rt]
  · have hr0 := Int.fmod_nonneg_of_pos c (show (0 : Int) < 10 ^ 18 by decide)
    have hr1 := Int.fmod_lt_of_pos c (show (0 : Int) < 10 ^ 18 by decide)
    have e18 : (10 : Int) ^ 18 = 1000000000000000000 := by decide
    generalize hrest : c.fmod (10 ^ 18) = rest at hr0 hr1
    have mulB : ∀ a b : Int, 0 ≤ a → a ≤ 2 ^ 60 → 0 ≤ b → b ≤ 2 ^ 60 → (a * b).natAbs ≤ 2 ^ 120 ∧ 0 ≤ a * b := fun a b ha ha' hb hb' => by
      have h3 : a.natAbs ≤ 2 ^ 60 := by omega
      have h4 : b.natAbs ≤ 2 ^ 60 := by omega
      refine ⟨?_, Int.mul_nonneg ha hb⟩
      rw [Int.natAbs_mul, show (2 : Nat) ^ 120 = 2 ^ 60 * 2 ^ 60 by decide]
      exact Nat.mul_le_mul h3 h4
    obtain ⟨b1, b1p⟩ := mulB (rest + 977 * t) (rest + 31 * t + 5) (by omega) (by omega) (by omega) (by omega)
    obtain ⟨b2, b2p⟩ := mulB (rest + 31 * t) (rest + 7) (by omega) (by omega) (by omega) (by omega)
    have ok1 : okI ((rest + 977 * t) * (rest + 31 * t + 5)) = true := okI_of 120 b1 (by omega)
    have ok2 : okI ((rest + 31 * t) * (rest + 7) + 977 * t) = true := okI_of 121 (by omega) (by omega)
    have k1a := Int.fmod_nonneg_of_pos t (show (0 : Int) < 9 by omega)
    have k1b := Int.fmod_lt_of_pos t (show (0 : Int) < 9 by omega)
    have k2a := Int.fmod_nonneg_of_pos t (show (0 : Int) < 7 by omega)
    have k2b := Int.fmod_lt_of_pos t (show (0 : Int) < 7 by omega)
    obtain ⟨v1, v1a, v1b, v1e⟩ := law_draw_run _ (t.fmod 9 + 1) 999983 ok1 (okI_of 20 (by omega) (by omega)) (by omega)
    obtain ⟨v2, v2a, v2b, v2e⟩ := law_draw_run _ (t.fmod 7 + 2) 1000003 ok2 (okI_of 20 (by omega) (by omega)) (by omega)
    refine ⟨v1 * 1000003 + v2, by omega, by omega, fun n h => run_rtF rfl rfl ?_ rfl⟩
    have c1 : ∀ h, (ctxN G (n + 4)).call 19 [.int ((rest + 977 * t) * (rest + 31 * t + 5)), .int (t.fmod 9 + 1), .int 999983] h = .ok (.int v1) h := fun h => by
      rw [ctxN_call G (k := 19) (f := f_law_draw) rfl]
      exact v1e _ _
    have c2 : ∀ h, (ctxN G (n + 4)).call 19 [.int ((rest + 31 * t) * (rest + 7) + 977 * t), .int (t.fmod 7 + 2), .int 1000003] h = .ok (.int v2) h := fun h => by
      rw [ctxN_call G (k := 19) (f := f_law_draw) rfl]
      exact v2e _ _
    have hd : decide ((10 : Int) ^ 18 ≤ c) = false := by simpa using hc
    have or1 : okI (rest + 977 * t) = true := okI_of 60 (by omega) (by omega)
    have or2 : okI (rest + 31 * t + 5) = true := okI_of 60 (by omega) (by omega)
    have or3 : okI (rest + 31 * t) = true := okI_of 60 (by omega) (by omega)
    have or4 : okI (rest + 7) = true := okI_of 60 (by omega) (by omega)
    have ov1 : okI v1 = true := okI_of 60 (by omega) (by omega)
    simp only [f_law_value, List.map_cons, List.map_nil, List.cons_append, List.nil_append, List.replicate, sAll_cons, sAll_one, sAll_nil, sIf_eq, e2_eq, eK_eq, eVar_eq, List.getElem?_cons_succ, List.getElem?_cons_zero, look_some, R.bind_ok, up_some, q18, q40, pGe_int, hd, ifo_bl, if_true, Bool.false_eq_true, if_false, R.st_ok, sRet_eq, sAsg_eq, put_n, List.length_cons, List.length_nil, show 2 < 0 + 1 + 1 + 1 + 1 by omega, show 3 < 0 + 1 + 1 + 1 + 1 by omega, List.set_cons_succ, List.set_cons_zero, O.then_nx, pMod_int n18, hrest, eCall_eq, evs_cons, evs_nil, pMul_int oa ot, pMul_int ob ot, pAdd_int, pMul_int or1 or2, pMul_int or3 or4, pMod_int (show (9 : Int) ≠ 0 by omega), pMod_int (show (7 : Int) ≠ 0 by omega), c1, c2, pMul_int ov1 oc]
end M

set_option autoImplicit false
set_option linter.all false
set_option maxRecDepth 100000
/-! k08, k07: what is handed in wrongly. -/
namespace M
/-- data without cells, so deep -/
def nc : Nat → D → Bool
  | 0, _ => false
  | k + 1, .tup xs => xs.all (nc k)
  | k + 1, .lst xs => xs.all (nc k)
  | _ + 1, .cell _ => false
  | _ + 1, .dct _ _ => false
  | _ + 1, .fn _ => false
  | _ + 1, .ktp _ => false
  | _ + 1, _ => true
theorem nc_thru (n : Nat) (h : Hh) : ∀ (k : Nat) (d : D), nc k d = true → thru n h k d = some d
  | 0, d, e => by simp [nc] at e
  | k + 1, d, e => by
    cases d with
    | tup xs =>
      simp only [nc, List.all_eq_true] at e
      simp only [thru, mapM_id fun x hx => nc_thru n h k x (e x hx), Option.map_some]
    | lst xs =>
      simp only [nc, List.all_eq_true] at e
      simp only [thru, mapM_id fun x hx => nc_thru n h k x (e x hx), Option.map_some]
    | cell c => simp [nc] at e
    | dct _ _ => simp [nc] at e
    | fn _ => simp [nc] at e
    | ktp _ => simp [nc] at e
    | _ => rfl
theorem nc_ty {k : Nat} {d : D} (e : nc k d = true) (h : Hh) : tyOk h d = true := by
  cases k with
  | zero => simp [nc] at e
  | succ k => cases d <;> first | rfl | simp [nc] at e
theorem nc_view {k : Nat} {d : D} (e : nc (k + 1) d = true) {h : Hh} {xs : List D} (v : viewL h d = some xs) : ∀ x ∈ xs, nc k x = true := by
  cases d with
  | lst ys =>
    simp only [viewL, Option.some.injEq] at v
    subst v
    simpa [nc] using e
  | cell c => simp [nc] at e
  | _ => simp [viewL] at v
theorem nc_tab {k : Nat} {d : D} (e : nc (k + 3) d = true) (h : Hh) : TabOk h d where
  ty := nc_ty e h
  two := fun a b ed => by
    subst ed
    simp only [nc, List.all_cons, List.all_nil, Bool.and_true, Bool.and_eq_true] at e
    exact ⟨nc_ty e.1 h, nc_ty e.2 h, fun ks v x hx => ⟨nc_ty (nc_view e.2 v x hx) h, fun xs w y hy => nc_ty (k := k) (by
      have := nc_view e.2 v x hx
      exact nc_view this w y hy) h⟩⟩

def strange (far : Int) : List D := [.non, .str [49], .bl true, .bl false, .lst [.int 1], .tup [.int 1], .edict, .int (-1), .int (-1 - far)]
def tab1 : List D := [.non, .int 5, .str [116, 97, 98, 108, 101], .tup [], .edict, .lst [.int 1, .lst [.lst [.int 0]]], .tup [.int 1], .tup [.int 1, .lst [.lst [.int 0]], .int 0], .tup [.int 1, .non], .tup [.int 1, .tup [.lst [.int 0]]], .tup [.int 1, .lst []]]
def tab2 : List D := [.tup [.int 1, .lst [.lst [.int 0], .lst [.int 0]]], .tup [.int 2, .lst [.lst [.int 0], .lst [.int 0]]], .tup [.int 1, .lst [.int 0]], .tup [.int 1, .lst [.non]], .tup [.int 1, .lst [.tup [.int 0]]], .tup [.int 1, .lst [.lst [.int 0, .int 0, .int 0]]]]
def tab3 : List D := [.tup [.int 2, .lst [.lst [.int 1, .int 0], .lst [], .lst []]], .tup [.int 2, .lst [.lst [], .lst [], .lst [.int 1, .int 0]]], .tup [.int 2, .lst [.lst [.int 0], .lst [.int 0], .lst [.int 0, .int 0, .int 1]]], .tup [.int 2, .lst [.lst [.int 0], .lst [.int 0], .non]]]
def tab4 : List D := [.tup [.int 2, .lst [.lst [.int 0], .lst [.int 0], .tup [.int 0]]]]
def badKinds (x : D) : D := .tup [x, .lst [.lst [.int 0]]]
def badBack1 (x : D) : D := .tup [.int 2, .lst [.lst [x], .lst [.int 0], .lst [.int 0]]]
def badBack2 (x : D) : D := .tup [.int 2, .lst [.lst [.int 0], .lst [], .lst [.int 0, x]]]
def noTables (far : Int) : List D := (tab1 ++ tab2 ++ tab3 ++ tab4 ++ (strange far ++ [D.int 0, D.int 5, D.int (4 + far)]).map badKinds) ++ (strange far ++ [D.int 2, D.int (1 + far)]).flatMap fun x => [badBack1 x, badBack2 x]
def noUrns (far : Int) : List D := [.non, .int 5, .str [49, 49], .tup [.int 1, .int 1], .edict, .lst [], .lst [.int 1], .lst [.int 1, .int 1, .int 1]] ++ (strange far).flatMap fun x => [.lst [x, .int 0], .lst [.int 1, x]]
theorem strange_run (cx : Ctx) (far : Int) (h : Hh) : runFn f_law_strange cx [.int far] h = .ok (.lst (strange far)) h := by
  refine run_rt (u := []) (d := .lst (strange far)) rfl rfl ?_ ?_
  · rw [List.append_nil]; rfl
  · rw [List.append_nil]; rfl
theorem call_strange (n : Nat) (far : Int) (h : Hh) : (ctxN G (n + 4)).call 108 [.int far] h = .ok (.lst (strange far)) h := by
  rw [ctxN_call G (k := 108) (f := f_law_strange) rfl]
  exact strange_run _ _ _
theorem pAdd_lst {m : Bool} {xs ys : List D} {h : Hh} (hl : xs.length + ys.length ≤ LIM) : pAdd m (.lst xs) (.lst ys) h = mkL m (xs ++ ys) h := by
  simp [pAdd, hl]
theorem pAdd_view {m : Bool} {d e : D} {xs ys : List D} {h : Hh} (v : viewL h d = some xs) (w : viewL h e = some ys) (hl : xs.length + ys.length ≤ LIM) : pAdd m d e h = mkL m (xs ++ ys) h := by
  cases d with
  | int _ => simp [viewL] at v
  | _ => simp [pAdd, v, w, hl]
theorem viewL_last (h : Hh) (xs : List D) : viewL (h ++ [.lst xs]) (.cell h.length) = some xs := by simp [viewL]
theorem pAppend_last (h : Hh) (xs : List D) (y : D) (hl : xs.length < LIM) : pAppend (.cell h.length) y (h ++ [.lst xs]) = some (.non, h ++ [.lst (xs ++ [y])]) := by
  simp [pAppend, hl]
theorem tables_for1 (cx : Ctx) (s : Src) (hs : ∀ h, still s h = true) (f : D) (H : Hh) : ∀ (items acc : List D) (v : Option D), acc.length + items.length ≤ 1000 →
    ∃ v', forL cx s (.n 2) (sAll [sExpr (eM1 pAppend (eVar 1) (eTup [eVar 2, eLst false [eLst false [eK (.int 0)]]]))]) items [some f, some (.cell H.length), v] (H ++ [.lst acc]) = .nx [some f, some (.cell H.length), v'] (H ++ [.lst (acc ++ items.map badKinds)])
  | [], acc, v, _ => ⟨v, by simp⟩
  | x :: xs, acc, v, hl => by
    obtain ⟨v', ih⟩ := tables_for1 cx s hs f H xs (acc ++ [badKinds x]) (some x) (by simp at hl ⊢; omega)
    refine ⟨v', ?_⟩
    have hl' : acc.length < LIM := by simp at hl; unfold LIM; omega
    simp at ih
    simp [forL_cons, viewL_last, pAppend_last _ _ _ hl', hs]
    exact ih
theorem tables_for2 (cx : Ctx) (s : Src) (hs : ∀ h, still s h = true) (f : D) : ∀ (items acc : List D) (H : Hh) (v : Option D), acc.length + 2 * items.length ≤ 1000 →
    ∃ v' H', forL cx s (.n 2) (sAll [sAsg (.n 1) (e2 (pAdd true) (eVar 1) (eLst false [eTup [eK (.int 2), eLst false [eLst false [eVar 2], eLst false [eK (.int 0)], eLst false [eK (.int 0)]]], eTup [eK (.int 2), eLst false [eLst false [eK (.int 0)], eLst false [], eLst false [eK (.int 0), eVar 2]]]]))]) items [some f, some (.cell H.length), v] (H ++ [.lst acc]) =
      .nx [some f, some (.cell (H ++ H').length), v'] (H ++ H' ++ [.lst (acc ++ items.flatMap fun x => [badBack1 x, badBack2 x])])
  | [], acc, H, v, _ => ⟨v, [], by simp⟩
  | x :: xs, acc, H, v, hl => by
    obtain ⟨v', H', ih⟩ := tables_for2 cx s hs f xs (acc ++ [badBack1 x, badBack2 x]) (H ++ [.lst acc]) (some x) (by simp at hl ⊢; omega)
    refine ⟨v', .lst acc :: H', ?_⟩
    have hl' : acc.length + [badBack1 x, badBack2 x].length ≤ LIM := by simp at hl ⊢; unfold LIM; omega
    have ad := pAdd_view (m := true) (viewL_last H acc) (viewL_lst (H ++ [.lst acc]) [badBack1 x, badBack2 x]) hl'
    simp only [mkL_T] at ad
    have st : sAll [sAsg (.n 1) (e2 (pAdd true) (eVar 1) (eLst false [eTup [eK (.int 2), eLst false [eLst false [eVar 2], eLst false [eK (.int 0)], eLst false [eK (.int 0)]]], eTup [eK (.int 2), eLst false [eLst false [eK (.int 0)], eLst false [], eLst false [eK (.int 0), eVar 2]]]]))] cx [some f, some (.cell H.length), some x] (H ++ [.lst acc]) = .nx [some f, some (.cell (H ++ [Cell.lst acc]).length), some x] (H ++ [.lst acc] ++ [.lst (acc ++ [badBack1 x, badBack2 x])]) := by
      unfold badBack1 badBack2 at ad ⊢
      simp only [sAll_one, sAsg_eq, e2_eq, eVar_eq, List.getElem?_cons_succ, List.getElem?_cons_zero, look_some, R.bind_ok, eLst_eqF, evs_cons, evs_nil, eTup_eq, eK_eq, ad, up_some, R.st_ok, put_n, List.length_cons, List.length_nil, show 1 < 0 + 1 + 1 + 1 by omega, if_true, List.set_cons_succ, List.set_cons_zero]
    rw [forL_cons, put_n, if_pos (by simp)]
    simp only [List.set_cons_succ, List.set_cons_zero, st, O.turn_nx, hs, if_true]
    rw [ih]
    simp [List.append_assoc]
theorem sAll_step {cx : Ctx} {r r1 : Env} {h h1 : Hh} {a b : FS} {as : List FS} (e : a cx r h = .nx r1 h1) : sAll (a :: b :: as) cx r h = sAll (b :: as) cx r1 h1 := by
  rw [sAll_cons, e, O.then_nx]
theorem sAll_cut (cx : Ctx) (r : Env) (h : Hh) (b : FS) (bs : List FS) : ∀ (a : FS) (as : List FS) {r1 : Env} {h1 : Hh}, sAll (a :: as) cx r h = .nx r1 h1 → sAll (a :: (as ++ b :: bs)) cx r h = sAll (b :: bs) cx r1 h1
  | a, [], r1, h1, e => by
    have e' : a cx r h = .nx r1 h1 := e
    exact sAll_step e'
  | a, c :: as, r1, h1, e => by
    rw [sAll_cons] at e
    show sAll (a :: c :: (as ++ b :: bs)) cx r h = _
    rw [sAll_cons]
    cases q : a cx r h with
    | nx r2 h2 =>
      rw [q, O.then_nx] at e
      rw [O.then_nx]
      exact sAll_cut cx _ _ b bs c as e
    | _ => rw [q] at e; cases e
theorem tables_run (n : Nat) (far : Int) (h : Hh) : runFn f_law_no_tables (ctxN G (n + 4)) [.int far] h = .ok (.lst (noTables far)) h := by
  obtain ⟨v1, e1⟩ := tables_for1 (ctxN G (n + 4)) ⟨[], strange far ++ [.int 0, .int 5, .int (4 + far)]⟩ (fun _ => rfl) (.int far) (h ++ [Cell.lst tab1] ++ [Cell.lst (tab1 ++ tab2)]) (strange far ++ [.int 0, .int 5, .int (4 + far)]) (tab1 ++ tab2 ++ tab3 ++ tab4) none (by simp [strange, tab1, tab2, tab3, tab4])
  obtain ⟨v2, H2, e2⟩ := tables_for2 (ctxN G (n + 4)) ⟨[], strange far ++ [.int 2, .int (1 + far)]⟩ (fun _ => rfl) (.int far) (strange far ++ [.int 2, .int (1 + far)]) (tab1 ++ tab2 ++ tab3 ++ tab4 ++ (strange far ++ [D.int 0, D.int 5, D.int (4 + far)]).map badKinds) (h ++ [Cell.lst tab1] ++ [Cell.lst (tab1 ++ tab2)]) v1 (by simp [strange, tab1, tab2, tab3, tab4])
  have a1 : pAdd true (.cell h.length) (.lst tab2) (h ++ [Cell.lst tab1]) = some (.cell (h ++ [Cell.lst tab1]).length, h ++ [Cell.lst tab1] ++ [Cell.lst (tab1 ++ tab2)]) := pAdd_view (viewL_last _ _) (viewL_lst _ _) (by simp [tab1, tab2, tab3, tab4, LIM])
  have a2 : pAdd true (.cell (h ++ [Cell.lst tab1]).length) (.lst tab3) (h ++ [Cell.lst tab1] ++ [Cell.lst (tab1 ++ tab2)]) = some (.cell (h ++ [Cell.lst tab1] ++ [Cell.lst (tab1 ++ tab2)]).length, h ++ [Cell.lst tab1] ++ [Cell.lst (tab1 ++ tab2)] ++ [Cell.lst (tab1 ++ tab2 ++ tab3)]) := pAdd_view (viewL_last _ _) (viewL_lst _ _) (by simp [tab1, tab2, tab3, tab4, LIM])
  have a3 := pAppend_last (h ++ [Cell.lst tab1] ++ [Cell.lst (tab1 ++ tab2)]) (tab1 ++ tab2 ++ tab3) (.tup [.int 2, .lst [.lst [.int 0], .lst [.int 0], .tup [.int 0]]]) (by simp [tab1, tab2, tab3, tab4, LIM])
  have p1 := pAdd_lst (m := false) (xs := strange far) (ys := [.int 0, .int 5, .int (4 + far)]) (h := h ++ [Cell.lst tab1] ++ [Cell.lst (tab1 ++ tab2)] ++ [Cell.lst (tab1 ++ tab2 ++ tab3 ++ tab4)]) (by simp [strange, LIM])
  have p2 := pAdd_lst (m := false) (xs := strange far) (ys := [.int 2, .int (1 + far)]) (h := h ++ [Cell.lst tab1] ++ [Cell.lst (tab1 ++ tab2)] ++ [Cell.lst (tab1 ++ tab2 ++ tab3 ++ tab4 ++ (strange far ++ [D.int 0, D.int 5, D.int (4 + far)]).map badKinds)]) (by simp [strange, LIM])
  refine run_rt (u := [Cell.lst tab1] ++ [Cell.lst (tab1 ++ tab2)] ++ H2 ++ [.lst (noTables far)]) (d := .cell (h ++ [Cell.lst tab1] ++ [Cell.lst (tab1 ++ tab2)] ++ H2).length) rfl rfl ?_ ?_
  · dsimp only [f_law_no_tables]
    refine (sAll_step (r1 := [some (.int far), some (.cell h.length), none]) (h1 := h ++ [Cell.lst tab1]) rfl).trans ?_
    refine (sAll_step (r1 := [some (.int far), some (.cell (h ++ [Cell.lst tab1]).length), none]) (h1 := h ++ [Cell.lst tab1] ++ [Cell.lst (tab1 ++ tab2)]) ?_).trans ?_
    · show (R.st (up (pAdd true (.cell h.length) (.lst tab2) (h ++ [Cell.lst tab1]))) _) = _
      rw [a1]; rfl
    refine (sAll_step (r1 := [some (.int far), some (.cell (h ++ [Cell.lst tab1] ++ [Cell.lst (tab1 ++ tab2)]).length), none]) (h1 := h ++ [Cell.lst tab1] ++ [Cell.lst (tab1 ++ tab2)] ++ [Cell.lst (tab1 ++ tab2 ++ tab3)]) ?_).trans ?_
    · show (R.st (up (pAdd true (.cell (h ++ [Cell.lst tab1]).length) (.lst tab3) (h ++ [Cell.lst tab1] ++ [Cell.lst (tab1 ++ tab2)]))) _) = _
      rw [a2]; rfl
    refine (sAll_step (r1 := [some (.int far), some (.cell (h ++ [Cell.lst tab1] ++ [Cell.lst (tab1 ++ tab2)]).length), none]) (h1 := h ++ [Cell.lst tab1] ++ [Cell.lst (tab1 ++ tab2)] ++ [Cell.lst (tab1 ++ tab2 ++ tab3 ++ tab4)]) ?_).trans ?_
    · simp only [sExpr_eq, eM1_eq, eVar_eq, List.getElem?_cons_succ, List.getElem?_cons_zero, look_some, R.bind_ok, viewL_last, Option.isSome_some, if_true, eTup_eq, evs_cons, evs_nil, eK_eq, eLst_eqF, a3, up_some, R.st_ok]
      rfl
    refine (sAll_step (r1 := [some (.int far), some (.cell (h ++ [Cell.lst tab1] ++ [Cell.lst (tab1 ++ tab2)]).length), v1]) (h1 := h ++ [Cell.lst tab1] ++ [Cell.lst (tab1 ++ tab2)] ++ [Cell.lst (tab1 ++ tab2 ++ tab3 ++ tab4 ++ (strange far ++ [D.int 0, D.int 5, D.int (4 + far)]).map badKinds)]) ?_).trans ?_
    · simp only [sFor_eq, iSeq_eq, e2_eq, eCall_eq, evs_cons, evs_nil, eVar_eq, List.getElem?_cons_zero, look_some, R.bind_ok, call_strange, eLst_eqF, eK_eq, pAdd_int, up_some, p1, mkL_F, seqW_lst, R.stS_ok]
      exact e1
    refine (sAll_step (r1 := [some (.int far), some (.cell (h ++ [Cell.lst tab1] ++ [Cell.lst (tab1 ++ tab2)] ++ H2).length), v2]) (h1 := h ++ [Cell.lst tab1] ++ [Cell.lst (tab1 ++ tab2)] ++ H2 ++ [.lst (noTables far)]) ?_).trans ?_
    · simp only [sFor_eq, iSeq_eq, e2_eq, eCall_eq, evs_cons, evs_nil, eVar_eq, List.getElem?_cons_zero, look_some, R.bind_ok, call_strange, eLst_eqF, eK_eq, pAdd_int, up_some, p2, mkL_F, seqW_lst, R.stS_ok]
      exact e2
    simp only [sAll_one, sRet_eq, eVar_eq, List.getElem?_cons_succ, List.getElem?_cons_zero, look_some, R.st_ok, List.append_assoc]
  · have hnc : ∀ x ∈ noTables far, nc 11 x = true := by
      have : (noTables far).all (nc 11) = true := rfl
      simpa using this
    have hg : (h ++ ([Cell.lst tab1] ++ [Cell.lst (tab1 ++ tab2)] ++ H2 ++ [.lst (noTables far)]))[(h ++ [Cell.lst tab1] ++ [Cell.lst (tab1 ++ tab2)] ++ H2).length]? = some (.lst (noTables far)) := by
      have := List.getElem?_concat_length (l := h ++ [Cell.lst tab1] ++ [Cell.lst (tab1 ++ tab2)] ++ H2) (a := Cell.lst (noTables far))
      simpa [List.append_assoc] using this
    rw [thru, if_neg (by simp), hg]
    simp only [mapM_id fun x hx => nc_thru h.length _ 11 x (hnc x hx), Option.map_some]
theorem urns_for (cx : Ctx) (s : Src) (hs : ∀ h, still s h = true) (f : D) (h : Hh) : ∀ (items acc : List D) (v : Option D), acc.length + 2 * items.length ≤ 1000 →
    ∃ v', forL cx s (.n 2) (sAll [sAsg (.n 1) (e2 (pAdd false) (eVar 1) (eLst false [eLst false [eVar 2, eK (.int 0)], eLst false [eK (.int 1), eVar 2]]))]) items [some f, some (.lst acc), v] h =
      .nx [some f, some (.lst (acc ++ items.flatMap fun x => [.lst [x, .int 0], .lst [.int 1, x]])), v'] h
  | [], acc, v, _ => ⟨v, by simp⟩
  | x :: xs, acc, v, hl => by
    obtain ⟨v', ih⟩ := urns_for cx s hs f h xs (acc ++ [.lst [x, .int 0], .lst [.int 1, x]]) (some x) (by simp at hl ⊢; omega)
    refine ⟨v', ?_⟩
    have ad := pAdd_lst (m := false) (xs := acc) (ys := [.lst [x, .int 0], .lst [.int 1, x]]) (h := h) (by simp at hl ⊢; unfold LIM; omega)
    simp only [mkL_F] at ad
    have st : sAll [sAsg (.n 1) (e2 (pAdd false) (eVar 1) (eLst false [eLst false [eVar 2, eK (.int 0)], eLst false [eK (.int 1), eVar 2]]))] cx [some f, some (.lst acc), some x] h = .nx [some f, some (.lst (acc ++ [.lst [x, .int 0], .lst [.int 1, x]])), some x] h := by
      simp [ad]
    rw [forL_cons, put_n, if_pos (by simp)]
    simp only [List.set_cons_succ, List.set_cons_zero, st, O.turn_nx, hs, if_true]
    rw [ih]
    simp [List.append_assoc]
theorem urns_run (n : Nat) (far : Int) (h : Hh) : runFn f_law_no_urns (ctxN G (n + 4)) [.int far] h = .ok (.lst (noUrns far)) h := by
  obtain ⟨v, e⟩ := urns_for (ctxN G (n + 4)) ⟨[], strange far⟩ (fun _ => rfl) (.int far) h (strange far) [.non, .int 5, .str [49, 49], .tup [.int 1, .int 1], .edict, .lst [], .lst [.int 1], .lst [.int 1, .int 1, .int 1]] none (by simp [strange])
  refine run_rt (u := []) (d := .lst (noUrns far)) rfl rfl ?_ ?_
  · rw [List.append_nil]
    dsimp only [f_law_no_urns]
    refine (sAll_step (r1 := [some (.int far), some (.lst [.non, .int 5, .str [49, 49], .tup [.int 1, .int 1], .edict, .lst [], .lst [.int 1], .lst [.int 1, .int 1, .int 1]]), none]) (h1 := h) rfl).trans ?_
    refine (sAll_step (r1 := [some (.int far), some (.lst (noUrns far)), v]) (h1 := h) ?_).trans ?_
    · simp only [sFor_eq, iSeq_eq, eCall_eq, evs_cons, evs_nil, eVar_eq, List.getElem?_cons_zero, look_some, R.bind_ok, call_strange, seqW_lst, R.stS_ok]
      exact e
    rfl
  · rw [List.append_nil]
    have hnc : nc 12 (.lst (noUrns far)) = true := rfl
    exact nc_thru _ _ _ _ hnc
theorem due_run (cx : Ctx) (k : Int) (hk : k = 0 ∨ k = 1 ∨ k = 2 ∨ k = 3 ∨ k = 4) (h : Hh) : runFn f_law_due_of cx [.int k] h = .ok (.lst ((sixB (k.toNat + 1)).map D.bl)) h := by
  refine run_rt (u := []) (d := .lst ((sixB (k.toNat + 1)).map D.bl)) rfl rfl ?_ ?_
  · rw [List.append_nil]
    rcases hk with rfl | rfl | rfl | rfl | rfl <;> rfl
  · rw [List.append_nil]
    rfl
end M

set_option autoImplicit false
set_option linter.all false
set_option maxRecDepth 100000
/-! Shared by k07, k08 and others: walks, what is no table or urn. -/
namespace M
theorem call_due (n : Nat) (k : Int) (hk : k = 0 ∨ k = 1 ∨ k = 2 ∨ k = 3 ∨ k = 4) (h : Hh) : (ctxN G (n + 4)).call 107 [.int k] h = .ok (.lst ((sixB (k.toNat + 1)).map D.bl)) h := by
  rw [ctxN_call G (k := 107) (f := f_law_due_of) rfl]
  exact due_run _ _ hk _
theorem call_tables (n : Nat) (far : Int) (h : Hh) : (ctxN G (n + 5)).call 109 [.int far] h = .ok (.lst (noTables far)) h := by
  rw [ctxN_call G (k := 109) (f := f_law_no_tables) rfl]
  exact tables_run _ _ _
theorem call_urns (n : Nat) (far : Int) (h : Hh) : (ctxN G (n + 5)).call 110 [.int far] h = .ok (.lst (noUrns far)) h := by
  rw [ctxN_call G (k := 110) (f := f_law_no_urns) rfl]
  exact urns_run _ _ _
theorem for_grow {cx : Ctx} {s : Src} (hs : ∀ h, still s h = true) {body : FS} (env : Option D → Env) (j : Nat) (hset : ∀ v x, asg (.n j) x (env v) = some (env (some x))) (u : Hh) : ∀ (items : List D) (h : Hh) (v : Option D),
    (∀ x ∈ items, ∀ h, body cx (env (some x)) h = .nx (env (some x)) (h ++ u)) → ∃ v', forL cx s (.n j) body items (env v) h = .nx (env v') (h ++ (List.replicate items.length u).flatten)
  | [], h, v, _ => ⟨v, by simp⟩
  | x :: xs, h, v, hb => by
    obtain ⟨v', ih⟩ := for_grow hs env j hset u xs (h ++ u) (some x) fun y hy => hb y (List.mem_cons_of_mem _ hy)
    refine ⟨v', ?_⟩
    rw [forL_cons]
    simp only [put, hset, hb x List.mem_cons_self, O.turn_nx, hs, if_true, ih, List.length_cons, List.replicate_succ, List.flatten_cons, List.append_assoc]
/-- a walk that changes no cell -/
theorem for_calm {cx : Ctx} {s : Src} {body : FS} (env : Option D → Env) (j : Nat) (hset : ∀ v x, asg (.n j) x (env v) = some (env (some x))) (h : Hh) (hs : still s h = true) : ∀ (items : List D) (v : Option D),
    (∀ x ∈ items, body cx (env (some x)) h = .nx (env (some x)) h) → ∃ v', forL cx s (.n j) body items (env v) h = .nx (env v') h
  | [], v, _ => ⟨v, by simp⟩
  | x :: xs, v, hb => by
    obtain ⟨v', ih⟩ := for_calm env j hset h hs xs (some x) fun y hy => hb y (List.mem_cons_of_mem _ hy)
    refine ⟨v', ?_⟩
    rw [forL_cons]
    simp only [put, hset, hb x List.mem_cons_self, O.turn_nx, hs, if_true, ih]
theorem six_ne (c : Nat) (hc : c = 1 ∨ c = 2 ∨ c = 3 ∨ c = 4 ∨ c = 5) (h : Hh) : pEq true (.lst ((sixB c).map D.bl)) (.lst ((sixB c).map D.bl)) h = some (.bl false, h) := by
  rcases hc with rfl | rfl | rfl | rfl | rfl <;> rfl
/-! ### what is no table, no urn -/
theorem strange_not (far : Int) (hf : 1 ≤ far) : ∀ x ∈ strange far, (∀ hi, isCount x 0 hi = false) ∧ (∀ hi, isCount x 1 hi = false) ∧ isNat x = false ∧ nc 6 x = true := by
  intro x hx
  simp only [strange, List.mem_cons, List.not_mem_nil, or_false] at hx
  rcases hx with rfl | rfl | rfl | rfl | rfl | rfl | rfl | rfl | rfl <;>
    refine ⟨fun hi => ?_, fun hi => ?_, ?_, rfl⟩ <;> first | rfl | (simp [isCount]; omega) | (simp [isNat]; omega) | simp [isCount] | simp [isNat]
theorem kinds_not {x : D} (h : isCount x 1 4 = false) (hh : Hh) : isTable hh (badKinds x) = false := by
  unfold badKinds isTable
  cases x with
  | int i =>
    simp only [isCount] at h
    simp only [h, Bool.false_and]
  | _ => rfl
theorem back_not {x : D} (h : isCount x 0 1 = false) (hh : Hh) : isTable hh (badBack1 x) = false ∧ isTable hh (badBack2 x) = false := by
  refine ⟨?_, ?_⟩
  · simp [badBack1, isTable, isBack, h]
  · simp [badBack2, isTable, isBack, h]
theorem tables_not (far : Int) (hf : 1 ≤ far) : ∀ x ∈ noTables far, (∀ h, isTable h x = false) ∧ nc 12 x = true := by
  intro x hx
  refine ⟨fun h => ?_, ?_⟩
  · simp only [noTables, List.mem_append, List.mem_map, List.mem_flatMap] at hx
    have hcon : ((tab1 ++ tab2 ++ tab3 ++ tab4).all fun x => !isTable h x) = true := rfl
    simp only [List.all_eq_true, List.mem_append, Bool.not_eq_true'] at hcon
    rcases hx with (hx | ⟨y, hy, rfl⟩) | ⟨y, hy, hx⟩
    · exact hcon x hx
    · refine kinds_not ?_ h
      rcases hy with hy | hy
      · exact (strange_not far hf y hy).2.1 4
      · simp only [List.mem_cons, List.not_mem_nil, or_false] at hy
        rcases hy with rfl | rfl | rfl
        · rfl
        · rfl
        · simp [isCount]; omega
    · have hb : isCount y 0 1 = false := by
        rcases hy with hy | hy
        · exact (strange_not far hf y hy).1 1
        · simp only [List.mem_cons, List.not_mem_nil, or_false] at hy
          rcases hy with rfl | rfl
          · rfl
          · simp [isCount]; omega
      simp only [List.mem_cons, List.not_mem_nil, or_false] at hx
      rcases hx with rfl | rfl
      · exact (back_not hb h).1
      · exact (back_not hb h).2
  · have : (noTables far).all (nc 12) = true := rfl
    exact (List.all_eq_true.mp this) x hx
theorem urns_not (far : Int) (hf : 1 ≤ far) (m : Option Int) : ∀ x ∈ noUrns far, (∀ h, isUrn h 2 x m = false) ∧ nc 12 x = true := by
  intro x hx
  refine ⟨fun h => ?_, ?_⟩
  · simp only [noUrns, List.mem_append, List.mem_flatMap] at hx
    rcases hx with hx | ⟨y, hy, hx⟩
    · simp only [List.mem_cons, List.not_mem_nil, or_false] at hx
      rcases hx with rfl | rfl | rfl | rfl | rfl | rfl | rfl | rfl <;> simp [isUrn, viewL]
    · have hb := (strange_not far hf y hy).2.2.1
      simp only [List.mem_cons, List.not_mem_nil, or_false] at hx
      rcases hx with rfl | rfl <;> simp [isUrn, viewL, hb]
  · have : (noUrns far).all (nc 12) = true := rfl
    exact (List.all_eq_true.mp this) x hx
theorem run_any {f : Fn} {cx : Ctx} {args : List D} {h h' : Hh} {d : D} (hp : f.pure = true) (ha : args.length = f.pars) (hb : f.body cx (args.map some ++ List.replicate (f.slots - f.pars) none) h = .rt d h') (ht : h'.take h.length = h) (t : flatD d = true) : runFn f cx args h = .ok d h := by
  have : h' = h ++ h'.drop h.length := by
    have := List.take_append_drop h.length h'
    rw [ht] at this
    exact this.symm
  rw [this] at hb
  refine run_rt hp ha hb ?_
  cases d <;> first | rfl | simp [flatD] at t
def isT : O → Bool
  | .rt (.bl true) _ => true
  | _ => false
theorem isT_of {o : O} (e : isT o = true) : ∃ h', o = .rt (.bl true) h' := by
  unfold isT at e
  split at e
  · exact ⟨_, rfl⟩
  · cases e
theorem call_cell (ns : List Int) (k : Int) (hk : 0 ≤ k) : ∃ c : Int, ∀ n h, (ctxN G (n + 4)).call 18 [.lst (ns.map D.int), .int k] h = .ok (.int c) h := by
  obtain ⟨c, e⟩ := cell_at_run ns k hk
  exact ⟨c, fun n h => by rw [ctxN_call G (k := 18) (f := f_law_cell_at) rfl]; exact e _ _⟩
theorem call_value (c t : Int) (h0 : 0 ≤ t) (h1 : t ≤ 100) : ∃ v : Int, 0 ≤ v ∧ v < 10 ^ 40 ∧ ∀ n h, (ctxN G (n + 5)).call 20 [.int c, .int t] h = .ok (.int v) h := by
  obtain ⟨v, a, b, e⟩ := value_run c t h0 h1
  exact ⟨v, a, b, fun n h => by rw [ctxN_call G (k := 20) (f := f_law_value) (n := n + 1) rfl]; exact e _ _⟩
/-- a walk whose turns keep P of the names, the cells free -/
theorem for_inv {cx : Ctx} {s : Src} (hs : ∀ h, still s h = true) {t : T} {body : FS} (P : Env → Prop) (Q : D → Env → Prop) : ∀ (items : List D), (∀ x ∈ items, ∀ r, P r → ∃ r', asg t x r = some r' ∧ Q x r') → (∀ x ∈ items, ∀ r h, Q x r → ∃ r' h', body cx r h = .nx r' h' ∧ P r') →
    ∀ r h, P r → ∃ r' h', forL cx s t body items r h = .nx r' h' ∧ P r'
  | [], _, _, r, h, p => ⟨r, h, by simp, p⟩
  | x :: xs, ha, hb, r, h, p => by
    obtain ⟨r1, e1, q⟩ := ha x List.mem_cons_self r p
    obtain ⟨r2, h2, e2, p2⟩ := hb x List.mem_cons_self r1 h q
    obtain ⟨r3, h3, e3, p3⟩ := for_inv hs P Q xs (fun y hy => ha y (List.mem_cons_of_mem _ hy)) (fun y hy => hb y (List.mem_cons_of_mem _ hy)) r2 h2 p2
    refine ⟨r3, h3, ?_, p3⟩
    rw [forL_cons]
    simp only [put, e1, e2, O.turn_nx, hs, if_true, e3]
end M

set_option autoImplicit false
set_option linter.all false
set_option maxRecDepth 100000
/-! Plain facts: tables and urns as plain things; back_of, change_of, can_draw, open_draws, behind. -/
namespace M
abbrev Pr := Int × Int
def pD (p : Pr) : D := .tup [.int p.1, .int p.2]
def uD (u : List Int) : D := .lst (u.map D.int)
def prs (k : Nat) : List Pr := (List.range k).flatMap fun i => (List.range' i (k - i)).map fun (j : Nat) => ((i : Int), (j : Int))
structure Tb where
  k : Nat
  bs : List (List Int)
structure Tb.Ok (t : Tb) : Prop where
  k1 : 1 ≤ t.k
  k4 : t.k ≤ 4
  len : t.bs.length = (prs t.k).length
  two : ∀ b ∈ t.bs, b.length ≤ 2
  rng : ∀ b ∈ t.bs, ∀ i ∈ b, 0 ≤ i ∧ i < t.k
  srt : ∀ b ∈ t.bs, b = sortI b
def Tb.d (t : Tb) : D := .tup [.int t.k, .lst (t.bs.map uD)]
theorem prs_D {k : Nat} (h1 : 1 ≤ k) (h4 : k ≤ 4) : pairsD k = (prs k).map pD := by
  have : k = 1 ∨ k = 2 ∨ k = 3 ∨ k = 4 := by omega
  rcases this with rfl | rfl | rfl | rfl <;> rfl
theorem prs_rng {k : Nat} {p : Pr} (h : p ∈ prs k) : 0 ≤ p.1 ∧ p.1 ≤ p.2 ∧ p.2 < k := by
  simp only [prs, List.mem_flatMap, List.mem_map, List.mem_range, List.mem_range'_1] at h
  obtain ⟨i, hi, j, hj, rfl⟩ := h
  simp only
  omega
theorem prs_len {k : Nat} (h4 : k ≤ 4) : (prs k).length ≤ 10 := by
  have : k = 0 ∨ k = 1 ∨ k = 2 ∨ k = 3 ∨ k = 4 := by omega
  rcases this with rfl | rfl | rfl | rfl | rfl <;> decide
/-- where a pair stands -/
def ixP (p : Pr) : List Pr → Nat
  | [] => 0
  | q :: qs => if q = p then 0 else ixP p qs + 1
theorem ixP_lt {p : Pr} : ∀ {L : List Pr}, p ∈ L → ixP p L < L.length
  | [], h => by cases h
  | q :: qs, h => by
    unfold ixP
    by_cases e : q = p
    · simp [e]
    · simp only [e, if_false, List.length_cons]
      rcases List.mem_cons.mp h with rfl | h
      · exact absurd rfl e
      · have := ixP_lt h
        omega
theorem eqv_pD (p q : Pr) : eqv (pD p) (pD q) = decide (p = q) := by
  obtain ⟨a, b⟩ := p
  obtain ⟨c, d⟩ := q
  simp only [pD, eqv, eqvs, Bool.and_true]
  by_cases h1 : a = c <;> by_cases h2 : b = d <;> simp [h1, h2]
theorem findV_pD {p : Pr} : ∀ {L : List Pr}, p ∈ L → findV (pD p) (L.map pD) = some (ixP p L)
  | [], h => by cases h
  | q :: qs, h => by
    simp only [List.map_cons, findV, eqv_pD, ixP]
    by_cases e : q = p
    · simp [e]
    · rcases List.mem_cons.mp h with rfl | h
      · exact absurd rfl e
      · simp [e, findV_pD h]
theorem deep_pD (h : Hh) (p : Pr) : deep h (pD p) = some (pD p) := by
  simp [deep, pD, thru, plain, plains]
theorem mapM_deep (h : Hh) (L : List Pr) : (L.map pD).mapM (deep h) = some (L.map pD) := mapM_id fun x hx => by
  obtain ⟨p, _, rfl⟩ := List.mem_map.mp hx
  exact deep_pD h p
theorem pIndex_pD {h : Hh} {p : Pr} {L : List Pr} (hp : p ∈ L) : pIndex (.lst (L.map pD)) (pD p) h = some (.int (ixP p L), h) := by
  simp only [pIndex, viewL, deep_pD, mapM_deep, findV_pD hp]
theorem atI_nat (xs : List D) (i : Nat) : atI xs (i : Int) = xs[i]? := by
  unfold atI ixN
  by_cases h : i < xs.length
  · have : (i : Int) < xs.length := by omega
    simp [this]
  · have : ¬ (i : Int) < xs.length := by omega
    simp [this]; omega
def Tb.back (t : Tb) (p : Pr) : List Int := t.bs.getD (ixP p (prs t.k)) []
theorem Tb.Ok.back_mem {t : Tb} (o : t.Ok) {p : Pr} (hp : p ∈ prs t.k) : t.bs[ixP p (prs t.k)]? = some (t.back p) ∧ t.back p ∈ t.bs := by
  have hl : ixP p (prs t.k) < t.bs.length := by rw [o.len]; exact ixP_lt hp
  have e : t.bs[ixP p (prs t.k)]? = some (t.back p) := by
    simp [Tb.back, List.getD, hl]
  exact ⟨e, List.mem_of_getElem? e⟩
theorem nc_ints (k : Nat) (u : List Int) : nc (k + 2) (uD u) = true := by
  simp [nc, uD]
theorem nc_pD (k : Nat) (p : Pr) : nc (k + 2) (pD p) = true := by simp [nc, pD]
/-- a pure def whose answer has no cells -/
theorem run_nc {f : Fn} {cx : Ctx} {args : List D} {h u : Hh} {d : D} (hp : f.pure = true) (ha : args.length = f.pars) (hb : f.body cx (args.map some ++ List.replicate (f.slots - f.pars) none) h = .rt d (h ++ u)) (t : nc 12 d = true) : runFn f cx args h = .ok d h :=
  run_rt hp ha hb (nc_thru _ _ 12 d t)
theorem run_nc0 {f : Fn} {cx : Ctx} {args : List D} {h : Hh} {d : D} (hp : f.pure = true) (ha : args.length = f.pars) (hb : f.body cx (args.map some ++ List.replicate (f.slots - f.pars) none) h = .rt d h) (t : nc 12 d = true) : runFn f cx args h = .ok d h :=
  run_nc (u := []) hp ha (by simpa using hb) t
theorem call_pairs (n k : Nat) (h4 : k ≤ 4) (h1 : 1 ≤ k) (h : Hh) : (ctxN G (n + 4)).call 2 [.int k] h = .ok (.lst ((prs k).map pD)) h := by
  rw [ctxN_call G (k := 2) (f := f_pairs_of) rfl, pairs_of_run _ _ _ (by omega) (by omega), prs_D h1 h4]
theorem pIx_nat {h : Hh} {d x : D} {xs : List D} {i : Nat} (v : viewS h d = some xs) (e : xs[i]? = some x) : pIx d (.int i) h = some (x, h) := by
  simp only [pIx, v, atI_nat, e]
theorem Tb.ix0 (t : Tb) (h : Hh) : pIx t.d (.int 0) h = some (.int t.k, h) := by simp [Tb.d]
theorem Tb.ix1 (t : Tb) (h : Hh) : pIx t.d (.int 1) h = some (.lst (t.bs.map uD), h) := by simp [Tb.d]
theorem call_back (n : Nat) (t : Tb) (o : t.Ok) (p : Pr) (hp : p ∈ prs t.k) (h : Hh) : (ctxN G (n + 5)).call 6 [t.d, pD p] h = .ok (uD (t.back p)) h := by
  rw [ctxN_call G (k := 6) (f := f_back_of) (n := n + 1) rfl]
  refine run_nc0 rfl rfl ?_ (nc_ints 10 _)
  have c2 := call_pairs n t.k o.k4 o.k1 h
  have e : (t.bs.map uD)[ixP p (prs t.k)]? = some (uD (t.back p)) := by rw [List.getElem?_map, (o.back_mem hp).1]; rfl
  have i := pIx_nat (h := h) (d := .lst (t.bs.map uD)) rfl e
  simp [f_back_of, t.ix0, t.ix1, c2, pIndex_pD hp, i]
/-! ### change_of -/
/-- d more at i -/
def addAt (u : List Int) (i d : Int) : List Int := u.set i.toNat (u.getD i.toNat 0 + d)
theorem addAt_len (u : List Int) (i d : Int) : (addAt u i d).length = u.length := by simp [addAt]
theorem setIx_lastN (h : Hh) (xs : List D) (p : Int) (d : D) (h0 : 0 ≤ p) (h1 : p < xs.length) : setIx (.cell h.length) (.int p) d (h ++ [.lst xs]) = some (h ++ [.lst (xs.set p.toNat d)]) := by
  have g : (h ++ [Cell.lst xs])[h.length]? = some (.lst xs) := by simp
  have i : ixN xs.length p = some p.toNat := by simp [ixN, h0, h1]
  simp only [setIx, g, i]
  simp
theorem augIx_last (f : D → D → Hh → Option (D × Hh)) (cx : Ctx) (r : Env) (h : Hh) (u : List Int) (i d : Int) (fo fi fe : FE) (h0 : 0 ≤ i) (h1 : i < u.length) (e : Int)
    (eo : fo cx r (h ++ [.lst (u.map D.int)]) = .ok (.cell h.length) (h ++ [.lst (u.map D.int)])) (ei : fi cx r (h ++ [.lst (u.map D.int)]) = .ok (.int i) (h ++ [.lst (u.map D.int)])) (ee : fe cx r (h ++ [.lst (u.map D.int)]) = .ok (.int e) (h ++ [.lst (u.map D.int)]))
    (hf : ∀ a, f (.int a) (.int e) (h ++ [.lst (u.map D.int)]) = some (.int (a + d), h ++ [.lst (u.map D.int)])) :
    sAugIx f fo fi fe cx r (h ++ [.lst (u.map D.int)]) = .nx r (h ++ [.lst ((addAt u i d).map D.int)]) := by
  have hl : i.toNat < u.length := by omega
  have p : pIxC (.cell h.length) (.int i) (h ++ [.lst (u.map D.int)]) = some (.int (u.getD i.toNat 0), h ++ [.lst (u.map D.int)]) := by
    have q := atI_nat (u.map D.int) i.toNat
    rw [Int.toNat_of_nonneg h0, List.getElem?_map] at q
    simp only [List.getElem?_eq_getElem hl, Option.map_some] at q
    simp [pIxC, q, List.getD, hl]
  have s := setIx_lastN h (u.map D.int) i (.int (u.getD i.toNat 0 + d)) h0 (by simpa using h1)
  rw [sAugIx_eq]
  simp only [eo, ei, R.bind_ok, p, up_some, ee, hf, s, optH_some, R.st_ok, addAt, List.map_set]
def zeros (k : Nat) : List Int := List.replicate k 0
def addAll (u : List Int) (b : List Int) : List Int := b.foldl (fun v i => addAt v i 1) u
theorem addAll_len (u : List Int) : ∀ b : List Int, (addAll u b).length = u.length := by
  intro b
  induction b generalizing u with
  | nil => rfl
  | cons i b ih =>
    show (addAll (addAt u i 1) b).length = _
    rw [ih, addAt_len]
def Tb.chg (t : Tb) (p : Pr) : List Int := addAll (addAt (addAt (zeros t.k) p.1 (-1)) p.2 (-1)) (t.back p)
def Tb.beh (t : Tb) (u : List Int) (p : Pr) : List Int := addAll (addAt (addAt u p.1 (-1)) p.2 (-1)) (t.back p)
end M

set_option autoImplicit false
set_option linter.all false
set_option maxRecDepth 100000
/-! Plain facts: change_of, can_draw, open_draws, behind. -/
namespace M
theorem chg_for (cx : Ctx) (s : Src) (hs : ∀ h, still s h = true) (a b : D) (h : Hh) : ∀ (bk : List Int) (u : List Int) (v : Option D), (∀ i ∈ bk, 0 ≤ i ∧ i < u.length) →
    ∃ v', forL cx s (.n 3) (sAll [sAugIx pAddI (eVar 2) (eVar 3) (eK (.int 1))]) (bk.map D.int) [some a, some b, some (.cell h.length), v] (h ++ [.lst (u.map D.int)]) = .nx [some a, some b, some (.cell h.length), v'] (h ++ [.lst ((addAll u bk).map D.int)])
  | [], u, v, _ => ⟨v, by simp [addAll]⟩
  | i :: bk, u, v, hb => by
    obtain ⟨h0, h1⟩ := hb i List.mem_cons_self
    obtain ⟨v', ih⟩ := chg_for cx s hs a b h bk (addAt u i 1) (some (.int i)) fun j hj => by
      rw [addAt_len]
      exact hb j (List.mem_cons_of_mem _ hj)
    refine ⟨v', ?_⟩
    have e := augIx_last pAddI cx [some a, some b, some (.cell h.length), some (.int i)] h u i 1 (eVar 2) (eVar 3) (eK (.int 1)) h0 h1 1 (by simp) (by simp) (by simp) (by simp)
    rw [List.map_cons, forL_cons]
    simp only [put_n, List.length_cons, List.length_nil, show 3 < 0 + 1 + 1 + 1 + 1 by omega, if_true, List.set_cons_succ, List.set_cons_zero, sAll_one, e, O.turn_nx, hs]
    simpa [addAll] using ih
theorem zeros_mul (k : Nat) (hk : k ≤ 4) (h : Hh) : pMul true (.lst [.int 0]) (.int k) h = some (.cell h.length, h ++ [.lst ((zeros k).map D.int)]) := by
  have e : (List.replicate k [D.int 0]).flatten = (zeros k).map D.int := by
    simp [zeros, List.map_replicate]
  have h1 : (0 : Int) ≤ k ∧ (k : Int) ≤ 1000000 ∧ 1 * k ≤ LIM := ⟨by omega, by omega, by unfold LIM; omega⟩
  simp only [pMul, viewL, List.length_singleton, Int.toNat_natCast, if_pos h1, e, mkL_T]
theorem thru_cell (h : Hh) (u : List Int) : thru h.length (h ++ [.lst (u.map D.int)]) 12 (.cell h.length) = some (uD u) := by
  have : (h ++ [Cell.lst (u.map D.int)])[h.length]? = some (.lst (u.map D.int)) := by simp
  simp only [thru, Nat.lt_irrefl, if_false, this, thru_ints, Option.map_some, uD]
theorem pIx_p0 (p : Pr) (h : Hh) : pIx (pD p) (.int 0) h = some (.int p.1, h) := by simp [pD]
theorem pIx_p1 (p : Pr) (h : Hh) : pIx (pD p) (.int 1) h = some (.int p.2, h) := by simp [pD]
theorem call_chg (n : Nat) (t : Tb) (o : t.Ok) (p : Pr) (hp : p ∈ prs t.k) (h : Hh) : (ctxN G (n + 6)).call 7 [t.d, pD p] h = .ok (uD (t.chg p)) h := by
  rw [ctxN_call G (k := 7) (f := f_change_of) (n := n + 2) rfl]
  obtain ⟨r0, r1, r2⟩ := prs_rng hp
  have lz : (zeros t.k).length = t.k := by simp [zeros]
  refine run_rt (u := [.lst ((t.chg p).map D.int)]) (d := .cell h.length) rfl rfl ?_ (thru_cell h _)
  dsimp only [f_change_of, List.map, List.cons_append, List.nil_append, List.replicate]
  have c6 := fun h => call_back n t o p hp h
  obtain ⟨v', e⟩ := chg_for (ctxN G (n + 5)) ⟨[], (t.back p).map D.int⟩ (fun _ => rfl) t.d (pD p) h (t.back p) (addAt (addAt (zeros t.k) p.1 (-1)) p.2 (-1)) none fun i hi => by
    rw [addAt_len, addAt_len, lz]
    exact o.rng _ (o.back_mem hp).2 i hi
  refine (sAll_step (r1 := [some t.d, some (pD p), some (.cell h.length), none]) (h1 := h ++ [.lst ((zeros t.k).map D.int)]) ?_).trans ?_
  · simp [t.ix0, zeros_mul t.k o.k4]
  refine (sAll_step (augIx_last pSub (ctxN G (n + 5)) _ h (zeros t.k) p.1 (-1) _ _ _ r0 (by omega) 1 (by simp) (by simp [pIx_p0]) (by simp) (fun a => by simp; omega))).trans ?_
  refine (sAll_step (augIx_last pSub (ctxN G (n + 5)) _ h (addAt (zeros t.k) p.1 (-1)) p.2 (-1) _ _ _ (by omega) (by rw [addAt_len]; omega) 1 (by simp) (by simp [pIx_p1]) (by simp) (fun a => by simp; omega))).trans ?_
  refine (sAll_step (r1 := [some t.d, some (pD p), some (.cell h.length), v']) (h1 := h ++ [.lst ((t.chg p).map D.int)]) ?_).trans ?_
  · rw [sFor_eq, iSeq_eq, eCall_eq]
    simp only [evs_cons, evs_nil, eVar_eq, List.getElem?_cons_succ, List.getElem?_cons_zero, look_some, R.bind_ok, c6, uD, seqW_lst, R.stS_ok]
    exact e
  simp
/-! ### can_draw -/
def can (u : List Int) (p : Pr) : Bool := decide (1 ≤ u.getD p.1.toNat 0) && decide (1 + (if p.1 = p.2 then 1 else 0) ≤ u.getD p.2.toNat 0)
theorem pIx_ints {h : Hh} {d : D} {u : List Int} (v : viewL h d = some (u.map D.int)) (i : Int) (h0 : 0 ≤ i) (h1 : i < u.length) : pIx d (.int i) h = some (.int (u.getD i.toNat 0), h) := by
  have hl : i.toNat < u.length := by omega
  have := pIx_nat (h := h) (x := .int (u.getD i.toNat 0)) (i := i.toNat) (viewS_of v) (by simp [List.getElem?_map, hl, List.getD])
  rwa [Int.toNat_of_nonneg h0] at this
theorem call_can (n : Nat) (d : D) (u : List Int) (p : Pr) (h : Hh) (v : viewL h d = some (u.map D.int)) (h0 : 0 ≤ p.1) (h1 : p.1 ≤ p.2) (h2 : p.2 < u.length) : (ctxN G (n + 4)).call 8 [d, pD p] h = .ok (.bl (can u p)) h := by
  rw [ctxN_call G (k := 8) (f := f_can_draw) rfl]
  refine run_nc0 rfl rfl ?_ rfl
  have i1 := pIx_ints v p.1 h0 (by omega)
  have i2 := pIx_ints v p.2 (by omega) h2
  have hif : ∀ h : Hh, pInt (.bl (p.1 == p.2)) h = some (.int (if p.1 = p.2 then 1 else 0), h) := fun h => by
    by_cases q : p.1 = p.2 <;> simp [pInt, q]
  simp only [f_can_draw, List.map, List.cons_append, List.nil_append, List.replicate, sAll_one, sRet_eq, eAnd_eq, e2_eq, e1_eq, eVar_eq, List.getElem?_cons_succ, List.getElem?_cons_zero, look_some, eK_eq, R.bind_ok, pIx_p0, pIx_p1, up_some, i1, i2, pGe_int, ifb_bl, pEq_intF, hif, pAdd_int]
  by_cases q : 1 ≤ u.getD p.1.toNat 0
  · simp only [q, decide_true, if_true, R.st_ok, can, Bool.true_and]
  · simp only [q, decide_false, Bool.false_eq_true, if_false, R.st_ok, can, Bool.false_and]
def Tb.opens (t : Tb) (u : List Int) : List Pr := (prs t.k).filter (can u)
theorem filter_pD (c : Pr → Bool) (g : D → Bool) (hg : ∀ p, g (pD p) = c p) : ∀ L : List Pr, (L.map pD).filter g = (L.filter c).map pD
  | [] => rfl
  | p :: L => by
    simp only [List.map_cons, List.filter_cons, hg, filter_pD c g hg L]
    by_cases q : c p <;> simp [q]
def pOf : D → Pr
  | .tup [.int i, .int j] => (i, j)
  | _ => (0, 0)
theorem pOf_pD (p : Pr) : pOf (pD p) = p := rfl
theorem opens_comp (n : Nat) (t : Tb) (o : t.Ok) (d : D) (u : List Int) (h : Hh) (v : viewL h d = some (u.map D.int)) (hl : u.length = t.k) (m : Bool) : eComp m [2] (.n 2) (iSeq (eCall 2 [e2 pIx (eVar 0) (eK (.int 0))])) (eCall 8 [eVar 1, eVar 2]) (eVar 2) (ctxN G (n + 4)) [some t.d, some d, none] h = up (mkL m ((t.opens u).map pD) h) := by
  have c2 := call_pairs n t.k o.k4 o.k1 h
  have hc := compL_filter (cx := ctxN G (n + 4)) (s := ⟨[], (prs t.k).map pD⟩) (own := [2]) (t := .n 2) (cond := eCall 8 [eVar 1, eVar 2]) (elt := eVar 2) (r := [some t.d, some d, none]) (h := h) (f := fun x => x) (c := fun x => can u (pOf x)) rfl (items := (prs t.k).map pD) fun x hx => by
    obtain ⟨p, hp, rfl⟩ := List.mem_map.mp hx
    obtain ⟨r0, r1, r2⟩ := prs_rng hp
    refine ⟨[some t.d, some d, some (pD p)], rfl, ?_, fun _ => by simp⟩
    have c8 := call_can n d u p h v r0 r1 (by omega)
    simp [c8, pOf_pD]
  have hlen : ((prs t.k).map pD).length ≤ LIM := by
    have := prs_len o.k4
    simp only [List.length_map, LIM]
    omega
  rw [eComp_eq, iSeq_eq, eCall_eq]
  simp only [evs_cons, evs_nil, e2_eq, eVar_eq, List.getElem?_cons_zero, look_some, eK_eq, R.bind_ok, t.ix0, up_some, c2, seqW_lst, hlen, if_true, hc, R.calm_ok, filter_pD (can u) (fun x => can u (pOf x)) (fun p => by rw [pOf_pD]), Tb.opens, List.map_id']
theorem call_opens (n : Nat) (t : Tb) (o : t.Ok) (d : D) (u : List Int) (h : Hh) (v : viewL h d = some (u.map D.int)) (hl : u.length = t.k) : (ctxN G (n + 5)).call 32 [t.d, d] h = .ok (.lst ((t.opens u).map pD)) h := by
  rw [ctxN_call G (k := 32) (f := f_open_drawsb) (n := n + 1) rfl]
  refine run_nc0 rfl rfl ?_ ?_
  · have e := opens_comp n t o d u h v hl false
    simp only [f_open_drawsb, List.map, List.cons_append, List.nil_append, List.replicate, sAll_one, sRet_eq, e, mkL_F, up_some, R.st_ok]
  · simp [nc, pD]
theorem call_opensC (n : Nat) (t : Tb) (o : t.Ok) (d : D) (u : List Int) (h : Hh) (v : viewL h d = some (u.map D.int)) (hl : u.length = t.k) : (ctxN G (n + 5)).call 9 [t.d, d] h = .ok (.cell h.length) (h ++ [.lst ((t.opens u).map pD)]) := by
  rw [ctxN_call G (k := 9) (f := f_open_draws) (n := n + 1) rfl]
  have e := opens_comp n t o d u h v hl true
  simp only [runFn, f_open_draws, List.length_cons, List.length_nil, if_true, List.map, List.cons_append, List.nil_append, List.replicate, sAll_one, sRet_eq, e, mkL_T, up_some, R.st_ok, finish, Bool.false_eq_true, if_false]
/-! ### behind -/
theorem addAt_zip (d i : Int) : ∀ (u v : List Int), u.length = v.length → List.zipWith (· + ·) u (addAt v i d) = addAt (List.zipWith (· + ·) u v) i d := by
  intro u v hl
  apply List.ext_getElem?
  intro j
  simp only [addAt, List.getElem?_zipWith, List.getElem?_set, List.getD, List.length_zipWith, hl, Nat.min_self]
  by_cases e : i.toNat = j
  · subst e
    by_cases q : i.toNat < v.length
    · have q' : i.toNat < u.length := by omega
      simp [q, q', Int.add_assoc]
    · have q' : ¬ i.toNat < u.length := by omega
      simp [q, q']
  · simp only [e, if_false]
theorem addAll_zip : ∀ (b u v : List Int), u.length = v.length → List.zipWith (· + ·) u (addAll v b) = addAll (List.zipWith (· + ·) u v) b
  | [], u, v, _ => rfl
  | i :: b, u, v, hl => by
    show List.zipWith (· + ·) u (addAll (addAt v i 1) b) = addAll (addAt (List.zipWith (· + ·) u v) i 1) b
    rw [addAll_zip b u _ (by rw [addAt_len]; exact hl), addAt_zip 1 i u v hl]
theorem zip_zeros : ∀ (u : List Int), List.zipWith (· + ·) u (zeros u.length) = u
  | [] => rfl
  | i :: u => by
    have := zip_zeros u
    simp only [zeros] at this ⊢
    simp [List.replicate_succ, this]
theorem beh_eq (t : Tb) (u : List Int) (p : Pr) (hl : u.length = t.k) : List.zipWith (· + ·) u (t.chg p) = t.beh u p := by
  unfold Tb.chg Tb.beh
  have lz : (zeros t.k).length = t.k := by simp [zeros]
  rw [addAll_zip _ _ _ (by simp only [addAt_len]; omega), addAt_zip _ _ _ _ (by simp only [addAt_len]; omega), addAt_zip _ _ _ _ (by omega), ← hl, zip_zeros]
theorem zipT_ints : ∀ u v : List Int, zipT (u.map D.int) (v.map D.int) = (List.zip u v).map fun q => D.tup [.int q.1, .int q.2]
  | [], _ => rfl
  | _ :: _, [] => rfl
  | i :: u, j :: v => by simp [zipT, zipT_ints u v]
theorem call_beh (n : Nat) (t : Tb) (o : t.Ok) (d : D) (u : List Int) (p : Pr) (h : Hh) (v : viewL h d = some (u.map D.int)) (hl : u.length = t.k) (hp : p ∈ prs t.k) : (ctxN G (n + 7)).call 10 [t.d, d, pD p] h = .ok (uD (t.beh u p)) h := by
  rw [ctxN_call G (k := 10) (f := f_behind) (n := n + 3) rfl]
  refine run_nc0 rfl rfl ?_ (nc_ints 10 _)
  have c7 := call_chg n t o p hp h
  obtain ⟨a, ez, st⟩ := zipW_view v (show viewL h (uD (t.chg p)) = some ((t.chg p).map D.int) from rfl)
  have hc := compL_map (cx := ctxN G (n + 6)) (s := ⟨a, zipT (u.map D.int) ((t.chg p).map D.int)⟩) (own := [3, 4]) (t := .t [.n 3, .n 4]) (elt := e2 (pAdd false) (eVar 3) (eVar 4)) (r := [some t.d, some d, some (pD p), none, none]) (h := h) (f := fun x => .int ((pOf x).1 + (pOf x).2)) st (items := zipT (u.map D.int) ((t.chg p).map D.int)) fun x hx => by
    rw [zipT_ints] at hx
    obtain ⟨q, _, rfl⟩ := List.mem_map.mp hx
    refine ⟨[some t.d, some d, some (pD p), some (.int q.1), some (.int q.2)], by simp [asg, asgs], by simp [pOf]⟩
  have hlen : (zipT (u.map D.int) ((t.chg p).map D.int)).length ≤ LIM := by
    rw [zipT_ints]
    have := o.k4
    simp only [List.length_map, List.length_zip, LIM]
    omega
  have hz : (zipT (u.map D.int) ((t.chg p).map D.int)).map (fun x => D.int ((pOf x).1 + (pOf x).2)) = (t.beh u p).map D.int := by
    rw [zipT_ints, ← beh_eq t u p hl, List.map_map, List.zip, List.map_zipWith, List.map_zipWith]
    rfl
  show sAll [sRet _] (ctxN G (n + 6)) [some t.d, some d, some (pD p), none, none] h = _
  rw [sAll_one, sRet_eq, eComp_eq, iZip_eq]
  simp only [eCall_eq, evs_cons, evs_nil, eVar_eq, List.getElem?_cons_succ, List.getElem?_cons_zero, look_some, R.bind_ok, c7, ez, hlen, if_true, hc, R.calm_ok, hz, mkL_F, up_some, R.st_ok]
  rfl
end M

set_option autoImplicit false
set_option linter.all false
set_option maxRecDepth 100000
/-! Plain facts: the tables that the laws make. -/
namespace M
theorem okI_small {i : Int} (h : i.natAbs ≤ 2 ^ 40) : okI i = true := okI_of 40 h (by omega)
def okB (k : Nat) (b : List Int) : Prop := b.length ≤ 2 ∧ (∀ i ∈ b, 0 ≤ i ∧ i < k) ∧ b = sortI b
theorem call_lpairs (n k : Nat) (h4 : k ≤ 4) (h1 : 1 ≤ k) (h : Hh) : (ctxN G (n + 4)).call 22 [.int k] h = .ok (.lst ((prs k).map pD)) h := by
  rw [ctxN_call G (k := 22) (f := f_law_pairs) rfl, show f_law_pairs = f_pairs_of from rfl, pairs_of_run _ _ _ (by omega) (by omega), prs_D h1 h4]
def backsL (k : Nat) : List (List Int) := [[]] ++ (List.range k).map (fun (i : Nat) => [(i : Int)]) ++ (prs k).map fun p => [p.1, p.2]
theorem sort2 {a b : Int} (h : a ≤ b) : [a, b] = sortI [a, b] := by simp [sortI, insI, h]
theorem backsL_ok (k : Nat) : ∀ b ∈ backsL k, okB k b := by
  intro b hb
  simp only [backsL, List.mem_append, List.mem_cons, List.not_mem_nil, or_false, List.mem_map, List.mem_range] at hb
  rcases hb with (rfl | ⟨i, hi, rfl⟩) | ⟨p, hp, rfl⟩
  · exact ⟨by simp, by simp, rfl⟩
  · refine ⟨by simp, fun j hj => ?_, rfl⟩
    simp only [List.mem_cons, List.not_mem_nil, or_false] at hj
    omega
  · obtain ⟨r0, r1, r2⟩ := prs_rng hp
    refine ⟨by simp, fun j hj => ?_, sort2 r1⟩
    simp only [List.mem_cons, List.not_mem_nil, or_false] at hj
    omega
theorem backsL_len {k : Nat} (h4 : k ≤ 4) : (backsL k).length ≤ 15 := by
  have := prs_len h4
  simp only [backsL, List.length_append, List.length_cons, List.length_nil, List.length_map, List.length_range]
  omega
theorem range_D : ∀ (n : Nat) (lo : Nat), rangeL lo n = (List.range' lo n).map fun (i : Nat) => D.int i
  | 0, _ => rfl
  | n + 1, lo => by
    rw [rangeL, List.range'_succ, List.map_cons]
    have := range_D n (lo + 1)
    rw [show ((lo : Int) + 1) = ((lo + 1 : Nat) : Int) by omega, this]
theorem range0_D (n : Nat) : rangeL 0 n = (List.range n).map fun (i : Nat) => D.int i := by
  rw [List.range_eq_range']
  exact range_D n 0
theorem rng1_nat (k : Nat) (hk : k ≤ 1000) (h : Hh) : rng1 (.int k) h = .ok ⟨[], (List.range k).map fun (i : Nat) => D.int i⟩ h := by
  rw [rng1_int, if_pos ⟨by omega, by omega⟩, Int.toNat_natCast, range0_D]
theorem call_backs (n k : Nat) (h4 : k ≤ 4) (h1 : 1 ≤ k) (h : Hh) : (ctxN G (n + 5)).call 23 [.int k] h = .ok (.lst ((backsL k).map uD)) h := by
  rw [ctxN_call G (k := 23) (f := f_law_backs) (n := n + 1) rfl]
  refine run_nc0 rfl rfl ?_ ?_
  · show sAll [sRet _] (ctxN G (n + 4)) [some (.int k), none, none] h = _
    have c1 := compL_map (cx := ctxN G (n + 4)) (s := ⟨[], (List.range k).map fun (i : Nat) => D.int i⟩) (own := [1]) (t := .n 1) (elt := eLst false [eVar 1]) (r := [some (.int k), none, none]) (h := h) (f := fun x => .lst [x]) rfl (items := (List.range k).map fun (i : Nat) => D.int i) fun x hx => ⟨[some (.int k), some x, none], rfl, by simp⟩
    have c2 := compL_map (cx := ctxN G (n + 4)) (s := ⟨[], (prs k).map pD⟩) (own := [2]) (t := .n 2) (elt := e1 (pList false) (eVar 2)) (r := [some (.int k), none, none]) (h := h) (f := fun x => match x with | .tup xs => .lst xs | x => x) rfl (items := (prs k).map pD) fun x hx => by
      obtain ⟨p, _, rfl⟩ := List.mem_map.mp hx
      exact ⟨[some (.int k), none, some (pD p)], rfl, by simp [pD, pList, viewK]⟩
    have l1 : ((List.range k).map fun (i : Nat) => D.int i).length ≤ LIM := by simp only [List.length_map, List.length_range, LIM]; omega
    have l2 : ((prs k).map pD).length ≤ LIM := by
      have := prs_len h4
      simp only [List.length_map, LIM]
      omega
    have q := call_lpairs n k h4 h1 h
    simp only [sAll_one, sRet_eq, e2_eq, eComp_eq, iRange1_eq, iSeq_eq, eCall_eq, eLst_eqF, evs_cons, evs_nil, eVar_eq, List.getElem?_cons_succ, List.getElem?_cons_zero, look_some, R.bind_ok, rng1_nat k (by omega) h, l1, if_true, c1, R.calm_ok, mkL_F, up_some, q, seqW_lst, l2, c2]
    rw [pAdd_lst (by simp [LIM]; omega), mkL_F, up_some, R.bind_ok]
    simp only [q, R.bind_ok, seqW_lst, l2, if_true, c2, R.calm_ok]
    rw [pAdd_lst (by have := prs_len h4; simp [LIM]; omega), mkL_F, up_some, R.st_ok]
    simp [backsL, uD, pD, List.map_map, Function.comp_def]
  · simp [nc, uD]
/-! ### the table -/
abbrev tEnv (ns a m v : D) (c : Nat) (kd so se w : D) (x10 x11 x12 x13 x14 x15 x16 x17 : Option D) : Env := [some ns, some a, some m, some v, some (.cell c), some kd, some so, some se, none, some w, x10, x11, x12, x13, x14, x15, x16, x17]
abbrev inB : FS := sAll [sAsg (.n 17) (e2 pSub (e1 pSum (eComp false [8] (.n 8) (iSeq (eVar 16)) (eYes) (e2 pIx (eVar 9) (eVar 8)))) (eVar 14)),
    sIf (eOr (e2 (pIn true) (eVar 6) (eTup [eK (.int 1), eK (.int 2)])) (eOr (e2 (pEq false) (eVar 17) (eK (.int 0))) (eAnd (e2 (pEq false) (eVar 6) (eK (.int 1))) (e2 (pEq false) (e2 pMod (eVar 17) (eVar 7)) (eK (.int 0)))))) (sAll [sExpr (eM1 pAppend (eVar 15) (eVar 16))]) (sAll [])]
def wAt (ws : List Int) : D → D
  | .int i => .int (ws.getD i.toNat 0)
  | x => x
theorem in_sum (cx : Ctx) (r : Env) (h : Hh) (ws b : List Int) (e16 : r[16]? = some (some (uD b))) (e9 : r[9]? = some (some (uD ws))) (hl : 9 < r.length) (hb : ∀ i ∈ b, 0 ≤ i ∧ i < ws.length) (h2 : b.length ≤ 2) : ∃ s : Int, e1 pSum (eComp false [8] (.n 8) (iSeq (eVar 16)) (eYes) (e2 pIx (eVar 9) (eVar 8))) cx r h = .ok (.int s) h := by
  have hc := compL_map (cx := cx) (s := ⟨[], b.map D.int⟩) (own := [8]) (t := .n 8) (elt := e2 pIx (eVar 9) (eVar 8)) (r := r) (h := h) (f := wAt ws) rfl (items := b.map D.int) fun x hx => by
    obtain ⟨i, hi, rfl⟩ := List.mem_map.mp hx
    refine ⟨(r.set 8 none).set 8 (some (.int i)), by simp [show 8 < r.length by omega], ?_⟩
    have g8 : (List.set r 8 (some (D.int i)))[8]? = some (some (.int i)) := by simp [List.getElem?_set, show 8 < r.length by omega]
    have g9 : (List.set r 8 (some (D.int i)))[9]? = some (some (uD ws)) := by simp [List.getElem?_set, e9]
    have p := pIx_ints (h := h) (d := uD ws) (u := ws) rfl i (hb i hi).1 (hb i hi).2
    simp [g8, g9, p, wAt]
  have hm : (b.map D.int).map (wAt ws) = (b.map fun i => ws.getD i.toNat 0).map D.int := by simp [List.map_map, Function.comp_def, wAt]
  have hlen : (b.map D.int).length ≤ LIM := by simp [LIM]; omega
  refine ⟨isum (b.map fun i => ws.getD i.toNat 0), ?_⟩
  rw [e1_eq, eComp_eq, iSeq_eq, eVar_eq, e16]
  simp only [look_some, R.bind_ok, uD, seqW_lst, hlen, if_true, hc, R.calm_ok, hm, mkL_F, up_some, pSum, viewK, viewS, viewL, Option.bind_some, intsOf_map]
theorem pIn12 (i : Int) (h : Hh) : ∃ b, pIn true (.int i) (.tup [.int 1, .int 2]) h = some (.bl b, h) := by
  simp [pIn, flatD]
theorem in_turn (cx : Ctx) (ns a m v : D) (c : Nat) (kd : D) (so se : Int) (hse : se ≠ 0) (ws : List Int) (x10 x11 x12 x13 : Option D) (s14 : Int) (b : List Int) (hb : ∀ i ∈ b, 0 ≤ i ∧ i < ws.length) (h2 : b.length ≤ 2) (x17 : Option D) (H : Hh) (acc : List D) (ha : acc.length ≤ 1000) :
    ∃ y acc', (acc' = acc ∨ acc' = acc ++ [uD b]) ∧ inB cx (tEnv ns a m v c kd (.int so) (.int se) (uD ws) x10 x11 x12 x13 (some (.int s14)) (some (.cell H.length)) (some (uD b)) x17) (H ++ [.lst acc]) = .nx (tEnv ns a m v c kd (.int so) (.int se) (uD ws) x10 x11 x12 x13 (some (.int s14)) (some (.cell H.length)) (some (uD b)) (some y)) (H ++ [.lst acc']) := by
  obtain ⟨s, es⟩ := in_sum cx (tEnv ns a m v c kd (.int so) (.int se) (uD ws) x10 x11 x12 x13 (some (.int s14)) (some (.cell H.length)) (some (uD b)) x17) (H ++ [.lst acc]) ws b rfl rfl (by simp) hb h2
  obtain ⟨q, eq⟩ := pIn12 so (H ++ [.lst acc])
  have key : ∃ p : Bool, (eOr (e2 (pIn true) (eVar 6) (eTup [eK (.int 1), eK (.int 2)])) (eOr (e2 (pEq false) (eVar 17) (eK (.int 0))) (eAnd (e2 (pEq false) (eVar 6) (eK (.int 1))) (e2 (pEq false) (e2 pMod (eVar 17) (eVar 7)) (eK (.int 0)))))) cx (tEnv ns a m v c kd (.int so) (.int se) (uD ws) x10 x11 x12 x13 (some (.int s14)) (some (.cell H.length)) (some (uD b)) (some (.int (s - s14)))) (H ++ [.lst acc]) = .ok (.bl p) (H ++ [.lst acc]) := by
    simp only [eOr_eq, e2_eq, eVar_eq, List.getElem?_cons_succ, List.getElem?_cons_zero, look_some, R.bind_ok, eTup_eq, evs_cons, evs_nil, eK_eq, eq, up_some, ifb_bl, pEq_intF, eAnd_eq, pMod_int hse]
    cases q with
    | true => exact ⟨true, rfl⟩
    | false =>
      by_cases q1 : (s - s14 == 0) = true
      · exact ⟨true, by simp [q1]⟩
      · by_cases q2 : (so == 1) = true
        · exact ⟨(s - s14).fmod se == 0, by simp [q1, q2]⟩
        · exact ⟨false, by simp [q1, q2]⟩
  obtain ⟨p, ep⟩ := key
  refine ⟨.int (s - s14), if p then acc ++ [uD b] else acc, by cases p <;> simp, ?_⟩
  refine (sAll_step (r1 := tEnv ns a m v c kd (.int so) (.int se) (uD ws) x10 x11 x12 x13 (some (.int s14)) (some (.cell H.length)) (some (uD b)) (some (.int (s - s14)))) (h1 := H ++ [.lst acc]) ?_).trans ?_
  · rw [sAsg_eq, e2_eq, es]
    simp
  rw [sAll_one, sIf_eq, ep, R.st_ok, ifo_bl]
  cases p with
  | false => simp
  | true =>
    have ap := pAppend_last H acc (uD b) (by unfold LIM; omega)
    have vw := viewL_last H acc
    simp [vw, ap]
theorem in_for (cx : Ctx) (s : Src) (hs : ∀ h, still s h = true) (ns a m v : D) (c : Nat) (kd : D) (so se : Int) (hse : se ≠ 0) (ws : List Int) (x10 x11 x12 x13 : Option D) (s14 : Int) (H : Hh) : ∀ (L acc : List (List Int)) (x16 x17 : Option D), (∀ b ∈ L, okB ws.length b) → (∀ b ∈ acc, okB ws.length b) → acc.length + L.length ≤ 1000 →
    ∃ (y16 y17 : Option D) (acc' : List (List Int)), (∀ b ∈ acc', okB ws.length b) ∧ acc'.length ≤ 1000 ∧ forL cx s (.n 16) inB (L.map uD) (tEnv ns a m v c kd (.int so) (.int se) (uD ws) x10 x11 x12 x13 (some (.int s14)) (some (.cell H.length)) x16 x17) (H ++ [.lst (acc.map uD)]) = .nx (tEnv ns a m v c kd (.int so) (.int se) (uD ws) x10 x11 x12 x13 (some (.int s14)) (some (.cell H.length)) y16 y17) (H ++ [.lst (acc'.map uD)])
  | [], acc, x16, x17, _, ha, hl => ⟨x16, x17, acc, ha, by simpa using hl, by simp⟩
  | b :: L, acc, x16, x17, hb, ha, hl => by
    have ob := hb b List.mem_cons_self
    simp only [List.length_cons] at hl
    obtain ⟨y, acc', hacc, e⟩ := in_turn cx ns a m v c kd so se hse ws x10 x11 x12 x13 s14 b ob.2.1 ob.1 x17 H (acc.map uD) (by simp; omega)
    have : ∃ ac : List (List Int), acc' = ac.map uD ∧ (∀ b ∈ ac, okB ws.length b) ∧ ac.length ≤ acc.length + 1 := by
      rcases hacc with rfl | rfl
      · exact ⟨acc, rfl, ha, by omega⟩
      · refine ⟨acc ++ [b], by simp, fun x hx => ?_, by simp⟩
        rcases List.mem_append.mp hx with hx | hx
        · exact ha x hx
        · simp only [List.mem_cons, List.not_mem_nil, or_false] at hx
          exact hx ▸ ob
    obtain ⟨ac, rfl, h1, h2⟩ := this
    obtain ⟨y16, y17, ac', g1, g2, ih⟩ := in_for cx s hs ns a m v c kd so se hse ws x10 x11 x12 x13 s14 H L ac (some (uD b)) (some y) (fun x hx => hb x (List.mem_cons_of_mem _ hx)) h1 (by omega)
    refine ⟨y16, y17, ac', g1, g2, ?_⟩
    rw [List.map_cons, forL_cons]
    simp only [put_n, List.length_cons, List.length_nil, show 16 < 0 + 1 + 1 + 1 + 1 + 1 + 1 + 1 + 1 + 1 + 1 + 1 + 1 + 1 + 1 + 1 + 1 + 1 + 1 by omega, if_true, List.set_cons_succ, List.set_cons_zero]
    rw [e]
    simp only [O.turn_nx, hs, if_true]
    exact ih
end M

set_option autoImplicit false
set_option linter.all false
set_option maxRecDepth 100000
/-! Plain facts: the tables that the laws make (the walk over the pairs). -/
namespace M
theorem plains_all : ∀ {xs : List D}, (∀ x ∈ xs, plain x = true) → plains xs = true
  | [], _ => rfl
  | x :: xs, h => by simp [plains, h x List.mem_cons_self, plains_all fun y hy => h y (List.mem_cons_of_mem _ hy)]
theorem deep_view {h : Hh} {d : D} {xs : List D} (v : viewL h d = some xs) (hn : ∀ x ∈ xs, nc 11 x = true ∧ plain x = true) : deep h d = some (.lst xs) := by
  have m : xs.mapM (thru 0 h 11) = some xs := mapM_id fun x hx => nc_thru 0 h 11 x (hn x hx).1
  have key : thru 0 h 12 d = some (.lst xs) := by
    cases d with
    | lst ys =>
      simp only [viewL, Option.some.injEq] at v
      subst v
      simp only [thru, m, Option.map_some]
    | cell c =>
      simp only [viewL] at v
      split at v
      · rename_i ys hc
        simp only [Option.some.injEq] at v
        subst v
        simp only [thru, Nat.not_lt_zero, if_false, hc, m, Option.map_some]
      · cases v
    | _ => simp [viewL] at v
  unfold deep
  rw [key]
  simp [plain, plains_all fun x hx => (hn x hx).2]
theorem plain_uD (u : List Int) : plain (uD u) = true := by simp [plain, uD, plains_ints]
theorem plain_pD (p : Pr) : plain (pD p) = true := by simp [plain, pD, plains]
theorem deep_uDs {h : Hh} {d : D} {us : List (List Int)} (v : viewL h d = some (us.map uD)) : deep h d = some (.lst (us.map uD)) := deep_view v fun x hx => by
  obtain ⟨u, _, rfl⟩ := List.mem_map.mp hx
  exact ⟨nc_ints 9 u, plain_uD u⟩
theorem deep_pDs {h : Hh} {d : D} {ps : List Pr} (v : viewL h d = some (ps.map pD)) : deep h d = some (.lst (ps.map pD)) := deep_view v fun x hx => by
  obtain ⟨u, _, rfl⟩ := List.mem_map.mp hx
  exact ⟨nc_pD 9 u, plain_pD u⟩
theorem neq_nil {h : Hh} {d : D} {xs : List D} (e : deep h d = some (.lst xs)) : pEq true d (.lst []) h = some (.bl (!xs.isEmpty), h) := by
  have e2 : deep h (.lst []) = some (.lst []) := by simp [deep, thru, plain, plains]
  simp only [pEq, e, e2]
  cases xs <;> rfl
theorem eq_nil {h : Hh} {d : D} {xs : List D} (e : deep h d = some (.lst xs)) : pEq false d (.lst []) h = some (.bl xs.isEmpty, h) := by
  have e2 : deep h (.lst []) = some (.lst []) := by simp [deep, thru, plain, plains]
  simp only [pEq, e, e2]
  cases xs <;> rfl
/-- a comprehension of numbers -/
theorem compL_ints {cx : Ctx} {s : Src} {own : List Nat} {t : T} {elt : FE} {r : Env} {h : Hh} (hs : still s h = true) :
    ∀ {items : List D}, (∀ x ∈ items, ∃ r2, asg t x (wipeE r own) = some r2 ∧ ∃ i : Int, elt cx r2 h = .ok (.int i) h) → ∃ is : List Int, is.length = items.length ∧ compL cx s own t eYes elt r items h = .ok (is.map D.int) h
  | [], _ => ⟨[], rfl, rfl⟩
  | x :: xs, hx => by
    obtain ⟨r2, e1, i, e2⟩ := hx x List.mem_cons_self
    obtain ⟨is, hl, ih⟩ := compL_ints (cx := cx) (s := s) (own := own) (t := t) (elt := elt) (r := r) hs (items := xs) fun y hy => hx y (List.mem_cons_of_mem _ hy)
    have y : ∀ r h, eYes cx r h = .ok (.bl true) h := fun _ _ => rfl
    exact ⟨i :: is, by simp [hl], by simp [compL, e1, y, e2, hs, ih]⟩
theorem mid_get (h g : Hh) (x : Cell) : (h ++ x :: g)[h.length]? = some x := by simp
theorem mid_set (h g : Hh) (x y : Cell) : (h ++ x :: g).set h.length y = h ++ y :: g := by simp
theorem mid_append (h g : Hh) (xs : List D) (y : D) (hl : xs.length < LIM) : pAppend (.cell h.length) y (h ++ .lst xs :: g) = some (.non, h ++ .lst (xs ++ [y]) :: g) := by
  simp [pAppend, hl]
theorem mid_view (h g : Hh) (xs : List D) : viewL (h ++ .lst xs :: g) (.cell h.length) = some xs := by simp [viewL]
abbrev outB : FS := sAll [sAsg (.n 13) (e2 pFdiv (eCall 20 [e2 (pAdd false) (eCall 18 [eVar 0, e2 (pAdd false) (eVar 1) (e2 pMod (eVar 10) (eK (.int 4)))]) (e2 (pMul false) (eK (.int 13)) (eVar 10)), eK (.int 2)]) (eK (.int 3))),
    sPar [14, 15] [e2 (pAdd false) (e2 pIx (eVar 9) (eVar 11)) (e2 pIx (eVar 9) (eVar 12)), eLst true []],
    sFor (.n 16) (iSeq (eCall 23 [eVar 5])) inB,
    sIf (e2 (pEq false) (eVar 6) (eK (.int 3))) (sAll [sAsg (.n 15) (eLst true [eLst false [eVar 12], eLst false [], eLst false [eVar 12]])]) (sAll []),
    sIf (e2 (pEq false) (eVar 6) (eK (.int 4))) (sAll [sAsg (.n 15) (e2 (pTo true) (eVar 15) (e2 (pAdd false) (eK (.int 1)) (eVar 5)))]) (sAll []),
    sExpr (eM1 pAppend (eVar 4) (eIte (e2 (pEq true) (eVar 15) (eLst false [])) (e1 (pList false) (e2 pIx (eVar 15) (e2 pMod (eVar 13) (e1 pLen (eVar 15))))) (eLst false [])))]
/-- what the walk over the pairs keeps, within a turn -/
structure MidT (ns a m v : D) (k : Nat) (so se : Int) (ws : List Int) (h : Hh) (marks : List (List Int)) (p : Pr) (x10 : Option D) (r : Env) (H : Hh) : Prop where
  ex : ∃ (n13 : Int) (s14 : Int) (c : Nat) (x16 x17 : Option D) (g : Hh) (fits : List (List Int)), r = tEnv ns a m v h.length (.int k) (.int so) (.int se) (uD ws) x10 (some (.int p.1)) (some (.int p.2)) (some (.int n13)) (some (.int s14)) (some (.cell c)) x16 x17 ∧ H = h ++ .lst (marks.map uD) :: g ∧ H[c]? = some (.lst (fits.map uD)) ∧ (∀ b ∈ fits, okB k b) ∧ fits.length ≤ 1000
theorem mid_3 (cx : Ctx) (ns a m v : D) (k : Nat) (so se : Int) (ws : List Int) (h : Hh) (marks : List (List Int)) (p : Pr) (hp : p ∈ prs k) (x10 : Option D) (r : Env) (H : Hh) (M : MidT ns a m v k so se ws h marks p x10 r H) :
    ∃ r' H', sIf (e2 (pEq false) (eVar 6) (eK (.int 3))) (sAll [sAsg (.n 15) (eLst true [eLst false [eVar 12], eLst false [], eLst false [eVar 12]])]) (sAll []) cx r H = .nx r' H' ∧ MidT ns a m v k so se ws h marks p x10 r' H' := by
  obtain ⟨n13, s14, c, x16, x17, g, fits, rfl, rfl, gc, fo, fl⟩ := M.ex
  by_cases q : (so == 3) = true
  · obtain ⟨r0, r1, r2⟩ := prs_rng hp
    refine ⟨_, (h ++ .lst (marks.map uD) :: g) ++ [.lst [uD [p.2], uD [], uD [p.2]]], ?_, ⟨n13, s14, (h ++ .lst (marks.map uD) :: g).length, x16, x17, g ++ [.lst [uD [p.2], uD [], uD [p.2]]], [[p.2], [], [p.2]], rfl, ?_, ?_, ?_, ?_⟩⟩
    · simp [q, uD]
    · simp
    · rw [List.getElem?_append_right (Nat.le_refl _)]
      simp
    · intro b hb
      simp only [List.mem_cons, List.not_mem_nil, or_false] at hb
      rcases hb with rfl | rfl | rfl
      · exact ⟨by simp, by simp; omega, rfl⟩
      · exact ⟨by simp, by simp, rfl⟩
      · exact ⟨by simp, by simp; omega, rfl⟩
    · simp
  · exact ⟨_, _, by simp [q], ⟨n13, s14, c, x16, x17, g, fits, rfl, rfl, gc, fo, fl⟩⟩
theorem mem_cut {α : Type} (i j : Nat) (xs : List α) (x : α) (h : x ∈ (xs.take i).drop j) : x ∈ xs := List.mem_of_mem_take (List.mem_of_mem_drop h)
end M

set_option autoImplicit false
set_option linter.all false
set_option maxRecDepth 100000
/-! Plain facts: the tables that the laws make, to the end. -/
namespace M
theorem cut_map (fits : List (List Int)) (lo hi : Option Int) : ∃ f2 : List (List Int), cut (fits.map uD) lo hi = f2.map uD ∧ (∀ b ∈ f2, b ∈ fits) ∧ f2.length ≤ fits.length := by
  refine ⟨(fits.drop (sIx fits.length 0 lo)).take (sIx fits.length fits.length hi - sIx fits.length 0 lo), ?_, fun b hb => List.mem_of_mem_drop (List.mem_of_mem_take hb), ?_⟩
  · simp [cut, List.map_drop, List.map_take]
  · simp only [List.length_take, List.length_drop]
    omega
theorem view_at {H : Hh} {c : Nat} {xs : List D} (g : H[c]? = some (.lst xs)) : viewL H (.cell c) = some xs := by simp [viewL, g]
theorem mid_4 (cx : Ctx) (ns a m v : D) (k : Nat) (so se : Int) (ws : List Int) (h : Hh) (marks : List (List Int)) (p : Pr) (x10 : Option D) (r : Env) (H : Hh) (M : MidT ns a m v k so se ws h marks p x10 r H) :
    ∃ r' H', sIf (e2 (pEq false) (eVar 6) (eK (.int 4))) (sAll [sAsg (.n 15) (e2 (pTo true) (eVar 15) (e2 (pAdd false) (eK (.int 1)) (eVar 5)))]) (sAll []) cx r H = .nx r' H' ∧ MidT ns a m v k so se ws h marks p x10 r' H' := by
  obtain ⟨n13, s14, c, x16, x17, g, fits, rfl, rfl, gc, fo, fl⟩ := M.ex
  by_cases q : (so == 4) = true
  · obtain ⟨f2, e2', m2, l2⟩ := cut_map fits none (some (1 + (k : Int)))
    have pt : pTo true (.cell c) (.int (1 + (k : Int))) (h ++ .lst (marks.map uD) :: g) = some (.cell (h ++ .lst (marks.map uD) :: g).length, (h ++ .lst (marks.map uD) :: g) ++ [.lst (f2.map uD)]) := by
      simp only [pTo, view_at gc, e2', mkL_T]
    refine ⟨_, (h ++ .lst (marks.map uD) :: g) ++ [.lst (f2.map uD)], ?_, ⟨n13, s14, (h ++ .lst (marks.map uD) :: g).length, x16, x17, g ++ [.lst (f2.map uD)], f2, rfl, ?_, ?_, fun b hb => fo b (m2 b hb), by omega⟩⟩
    · simp only [sIf_eq, e2_eq, eVar_eq, List.getElem?_cons_succ, List.getElem?_cons_zero, look_some, eK_eq, R.bind_ok, pEq_intF, q, up_some, R.st_ok, ifo_bl, if_true, sAll_one, sAsg_eq, pAdd_int, pt, put_n]
      rfl
    · simp
    · rw [List.getElem?_append_right (Nat.le_refl _)]
      simp
  · exact ⟨_, _, by simp [q], ⟨n13, s14, c, x16, x17, g, fits, rfl, rfl, gc, fo, fl⟩⟩
theorem fmod_nat (n : Int) (l : Nat) (hl : 0 < l) : ∃ j : Nat, n.fmod (l : Int) = j ∧ j < l := by
  have h0 := Int.fmod_nonneg_of_pos n (show (0 : Int) < l by omega)
  have h1 := Int.fmod_lt_of_pos n (show (0 : Int) < l by omega)
  exact ⟨(n.fmod l).toNat, by omega, by omega⟩
abbrev pick : FE := eIte (e2 (pEq true) (eVar 15) (eLst false [])) (e1 (pList false) (e2 pIx (eVar 15) (e2 pMod (eVar 13) (e1 pLen (eVar 15))))) (eLst false [])
theorem mid_end (cx : Ctx) (ns a m v : D) (k : Nat) (so se : Int) (ws : List Int) (h : Hh) (marks : List (List Int)) (hm : marks.length ≤ 1000) (p : Pr) (x10 : Option D) (r : Env) (H : Hh) (M : MidT ns a m v k so se ws h marks p x10 r H) :
    ∃ (b : List Int) (g : Hh), okB k b ∧ sExpr (eM1 pAppend (eVar 4) pick) cx r H = .nx r (h ++ .lst ((marks ++ [b]).map uD) :: g) := by
  obtain ⟨n13, s14, c, x16, x17, g, fits, rfl, rfl, gc, fo, fl⟩ := M.ex
  have vw := view_at gc
  have nn := neq_nil (deep_uDs vw)
  have fin : ∀ b, okB k b → pick cx (tEnv ns a m v h.length (.int k) (.int so) (.int se) (uD ws) x10 (some (.int p.1)) (some (.int p.2)) (some (.int n13)) (some (.int s14)) (some (.cell c)) x16 x17) (h ++ .lst (marks.map uD) :: g) = .ok (uD b) (h ++ .lst (marks.map uD) :: g) → ∃ (b : List Int) (g' : Hh), okB k b ∧ sExpr (eM1 pAppend (eVar 4) pick) cx (tEnv ns a m v h.length (.int k) (.int so) (.int se) (uD ws) x10 (some (.int p.1)) (some (.int p.2)) (some (.int n13)) (some (.int s14)) (some (.cell c)) x16 x17) (h ++ .lst (marks.map uD) :: g) = .nx (tEnv ns a m v h.length (.int k) (.int so) (.int se) (uD ws) x10 (some (.int p.1)) (some (.int p.2)) (some (.int n13)) (some (.int s14)) (some (.cell c)) x16 x17) (h ++ .lst ((marks ++ [b]).map uD) :: g') := fun b hb e => by
    have ap := mid_append h g (marks.map uD) (uD b) (by simp [LIM]; omega)
    have mv := mid_view h g (marks.map uD)
    refine ⟨b, g, hb, ?_⟩
    have e4 : eVar 4 cx (tEnv ns a m v h.length (.int k) (.int so) (.int se) (uD ws) x10 (some (.int p.1)) (some (.int p.2)) (some (.int n13)) (some (.int s14)) (some (.cell c)) x16 x17) (h ++ .lst (marks.map uD) :: g) = .ok (.cell h.length) (h ++ .lst (marks.map uD) :: g) := rfl
    rw [sExpr_eq, eM1_eq, e4, R.bind_ok, mv, e, R.bind_ok, ap]
    simp only [Option.isSome_some, if_true, up_some, R.st_ok, List.map_append, List.map_cons, List.map_nil]
  by_cases q : fits = []
  · subst q
    refine fin [] ⟨by simp, by simp, rfl⟩ ?_
    simp only [eIte_eq, e2_eq, eVar_eq, List.getElem?_cons_succ, List.getElem?_cons_zero, look_some, eLst_eqF, evs_nil, R.bind_ok, nn, up_some, ifb_bl]
    rfl
  · have fp : 0 < fits.length := List.length_pos_iff.mpr q
    obtain ⟨j, ej, hj⟩ := fmod_nat n13 fits.length fp
    have gl : fits[j]? = some fits[j] := List.getElem?_eq_getElem hj
    have pl : pLen (.cell c) (h ++ .lst (marks.map uD) :: g) = some (.int fits.length, h ++ .lst (marks.map uD) :: g) := by
      simp [pLen, viewS_of vw]
    have px := pIx_nat (h := h ++ .lst (marks.map uD) :: g) (d := .cell c) (x := uD fits[j]) (i := j) (viewS_of vw) (by rw [List.getElem?_map, gl]; rfl)
    have pli : pList false (uD fits[j]) (h ++ .lst (marks.map uD) :: g) = some (uD fits[j], h ++ .lst (marks.map uD) :: g) := rfl
    refine fin fits[j] (fo _ (List.getElem_mem hj)) ?_
    have ne : (fits.map uD).isEmpty = false := by
      cases fits with
      | nil => exact absurd rfl q
      | cons _ _ => rfl
    simp only [eIte_eq, e2_eq, e1_eq, eVar_eq, List.getElem?_cons_succ, List.getElem?_cons_zero, look_some, eLst_eqF, evs_nil, R.bind_ok, nn, up_some, ifb_bl, ne, Bool.not_false, if_true, pl, pMod_int (show (fits.length : Int) ≠ 0 by omega), ej, px, pli]

theorem value_any (ns : List Int) (k t : Int) (hk : 0 ≤ k) (d : Int) (h0 : 0 ≤ t) (h1 : t ≤ 100) : ∃ c v : Int, 0 ≤ v ∧ v < 10 ^ 40 ∧ (∀ n h, (ctxN G (n + 4)).call 18 [.lst (ns.map D.int), .int k] h = .ok (.int c) h) ∧ ∀ n h, (ctxN G (n + 5)).call 20 [.int (c + d), .int t] h = .ok (.int v) h := by
  obtain ⟨c, ec⟩ := call_cell ns k hk
  obtain ⟨v, v0, v1, ev⟩ := call_value (c + d) t h0 h1
  exact ⟨c, v, v0, v1, ec, ev⟩
theorem out_turn (n : Nat) (ns : List Int) (a : Int) (ha : 0 ≤ a) (m v : D) (k : Nat) (hk1 : 1 ≤ k) (hk4 : k ≤ 4) (so se : Int) (hse : se ≠ 0) (ws : List Int) (hw : ws.length = k) (h : Hh) (marks : List (List Int)) (hm : marks.length ≤ 1000) (p : Pr) (hp : p ∈ prs k) (i : Int) (hi0 : 0 ≤ i) (hi1 : i ≤ 1000) (x13 x14 x15 x16 x17 : Option D) (g : Hh) :
    ∃ (y13 y14 y15 y16 y17 : Option D) (b : List Int) (g' : Hh), okB k b ∧ outB (ctxN G (n + 5)) (tEnv (.lst (ns.map D.int)) (.int a) m v h.length (.int k) (.int so) (.int se) (uD ws) (some (.int i)) (some (.int p.1)) (some (.int p.2)) x13 x14 x15 x16 x17) (h ++ .lst (marks.map uD) :: g) = .nx (tEnv (.lst (ns.map D.int)) (.int a) m v h.length (.int k) (.int so) (.int se) (uD ws) (some (.int i)) (some (.int p.1)) (some (.int p.2)) y13 y14 y15 y16 y17) (h ++ .lst ((marks ++ [b]).map uD) :: g') := by
  obtain ⟨r0, r1, r2⟩ := prs_rng hp
  have i4 := Int.fmod_nonneg_of_pos i (show (0 : Int) < 4 by omega)
  obtain ⟨c, w, w0, _, ec, ew⟩ := value_any ns (a + i.fmod 4) 2 (by omega) (13 * i) (by omega) (by omega)
  have o13 : okI 13 = true := okI_small (by decide)
  have oi : okI i = true := okI_small (by omega)
  have o3 : okI 3 = true := okI_small (by decide)
  have w1 := pIx_ints (h := h ++ .lst (marks.map uD) :: g) (d := uD ws) (u := ws) rfl p.1 r0 (by omega)
  have w2 := pIx_ints (h := h ++ .lst (marks.map uD) :: g) (d := uD ws) (u := ws) rfl p.2 (by omega) (by omega)
  obtain ⟨y16, y17, acc, ao, al, ef⟩ := in_for (ctxN G (n + 5)) ⟨[], (backsL k).map uD⟩ (fun _ => rfl) (.lst (ns.map D.int)) (.int a) m v h.length (.int k) so se hse ws (some (.int i)) (some (.int p.1)) (some (.int p.2)) (some (.int (w.fdiv 3))) (ws.getD p.1.toNat 0 + ws.getD p.2.toNat 0) (h ++ .lst (marks.map uD) :: g) (backsL k) [] x16 x17 (fun b hb => hw ▸ backsL_ok k b hb) (by simp) (by have := backsL_len hk4; simp; omega)
  have cb := call_backs n k hk4 hk1 ((h ++ .lst (marks.map uD) :: g) ++ [.lst []])
  have M0 : MidT (.lst (ns.map D.int)) (.int a) m v k so se ws h marks p (some (.int i)) (tEnv (.lst (ns.map D.int)) (.int a) m v h.length (.int k) (.int so) (.int se) (uD ws) (some (.int i)) (some (.int p.1)) (some (.int p.2)) (some (.int (w.fdiv 3))) (some (.int (ws.getD p.1.toNat 0 + ws.getD p.2.toNat 0))) (some (.cell (h ++ .lst (marks.map uD) :: g).length)) y16 y17) ((h ++ .lst (marks.map uD) :: g) ++ [.lst (acc.map uD)]) := by
    refine ⟨_, _, _, y16, y17, g ++ [.lst (acc.map uD)], acc, rfl, by simp, ?_, fun b hb => hw ▸ ao b hb, al⟩
    rw [List.getElem?_append_right (Nat.le_refl _)]
    simp
  obtain ⟨r3, H3, e3, M3⟩ := mid_3 (ctxN G (n + 5)) _ _ _ _ k so se ws h marks p hp _ _ _ M0
  obtain ⟨r4, H4, e4, M4⟩ := mid_4 (ctxN G (n + 5)) _ _ _ _ k so se ws h marks p _ _ _ M3
  obtain ⟨b, g', ob, e5⟩ := mid_end (ctxN G (n + 5)) _ _ _ _ k so se ws h marks hm p _ _ _ M4
  obtain ⟨n13, s14, c15, z16, z17, g4, f4, rfl, -, -, -, -⟩ := M4.ex
  refine ⟨some (.int n13), some (.int s14), some (.cell c15), z16, z17, b, g', ob, ?_⟩
  refine (sAll_step (r1 := tEnv (.lst (ns.map D.int)) (.int a) m v h.length (.int k) (.int so) (.int se) (uD ws) (some (.int i)) (some (.int p.1)) (some (.int p.2)) (some (.int (w.fdiv 3))) x14 x15 x16 x17) (h1 := h ++ .lst (marks.map uD) :: g) ?_).trans ?_
  · simp only [sAsg_eq, e2_eq, eCall_eq, evs_cons, evs_nil, eVar_eq, List.getElem?_cons_succ, List.getElem?_cons_zero, look_some, eK_eq, R.bind_ok, pMod_int (show (4 : Int) ≠ 0 by decide), up_some, pAdd_int, ec (n + 1), pMul_int o13 oi, ew n, pFdiv_int (show (3 : Int) ≠ 0 by decide) o3, R.st_ok, put_n]
    rfl
  refine (sAll_step (r1 := tEnv (.lst (ns.map D.int)) (.int a) m v h.length (.int k) (.int so) (.int se) (uD ws) (some (.int i)) (some (.int p.1)) (some (.int p.2)) (some (.int (w.fdiv 3))) (some (.int (ws.getD p.1.toNat 0 + ws.getD p.2.toNat 0))) (some (.cell (h ++ .lst (marks.map uD) :: g).length)) x16 x17) (h1 := (h ++ .lst (marks.map uD) :: g) ++ [.lst []]) ?_).trans ?_
  · simp only [sPar_eq, e2_eq, evs_cons, evs_nil, eVar_eq, List.getElem?_cons_succ, List.getElem?_cons_zero, look_some, R.bind_ok, w1, w2, up_some, pAdd_int, eLst_eqT, R.stA_ok]
    rfl
  refine (sAll_step (r1 := tEnv (.lst (ns.map D.int)) (.int a) m v h.length (.int k) (.int so) (.int se) (uD ws) (some (.int i)) (some (.int p.1)) (some (.int p.2)) (some (.int (w.fdiv 3))) (some (.int (ws.getD p.1.toNat 0 + ws.getD p.2.toNat 0))) (some (.cell (h ++ .lst (marks.map uD) :: g).length)) y16 y17) (h1 := (h ++ .lst (marks.map uD) :: g) ++ [.lst (acc.map uD)]) ?_).trans ?_
  · rw [sFor_eq, iSeq_eq, eCall_eq]
    simp only [evs_cons, evs_nil, eVar_eq, List.getElem?_cons_succ, List.getElem?_cons_zero, look_some, R.bind_ok, cb, seqW_lst, R.stS_ok]
    exact ef
  refine (sAll_step e3).trans ((sAll_step e4).trans ?_)
  rw [sAll_one]
  exact e5
end M

set_option autoImplicit false
set_option linter.all false
set_option maxRecDepth 100000
/-! Plain facts: _law_table makes a table. -/
namespace M
theorem out_for (n : Nat) (s : Src) (hs : ∀ h, still s h = true) (ns : List Int) (a : Int) (ha : 0 ≤ a) (m v : D) (k : Nat) (hk1 : 1 ≤ k) (hk4 : k ≤ 4) (so se : Int) (hse : se ≠ 0) (ws : List Int) (hw : ws.length = k) (h : Hh) : ∀ (L : List Pr) (i : Int) (marks : List (List Int)) (x10 x11 x12 x13 x14 x15 x16 x17 : Option D) (g : Hh), (∀ p ∈ L, p ∈ prs k) → (∀ b ∈ marks, okB k b) → 0 ≤ i → i + L.length ≤ 1000 → marks.length + L.length ≤ 1000 →
    ∃ (r' : Env) (bs : List (List Int)) (g' : Hh), (∀ b ∈ bs, okB k b) ∧ bs.length = marks.length + L.length ∧ r'[5]? = some (some (.int k)) ∧ r'[4]? = some (some (.cell h.length)) ∧ forL (ctxN G (n + 5)) s (.t [.n 10, .t [.n 11, .n 12]]) outB (enumT i (L.map pD)) (tEnv (.lst (ns.map D.int)) (.int a) m v h.length (.int k) (.int so) (.int se) (uD ws) x10 x11 x12 x13 x14 x15 x16 x17) (h ++ .lst (marks.map uD) :: g) = .nx r' (h ++ .lst (bs.map uD) :: g')
  | [], i, marks, x10, x11, x12, x13, x14, x15, x16, x17, g, _, hm, _, _, _ => ⟨tEnv (.lst (ns.map D.int)) (.int a) m v h.length (.int k) (.int so) (.int se) (uD ws) x10 x11 x12 x13 x14 x15 x16 x17, marks, g, hm, by simp, rfl, rfl, by simp [enumT]⟩
  | p :: L, i, marks, x10, x11, x12, x13, x14, x15, x16, x17, g, hL, hm, h0, h1, h2 => by
    simp only [List.length_cons] at h1 h2
    obtain ⟨y13, y14, y15, y16, y17, b, g1, ob, e⟩ := out_turn n ns a ha m v k hk1 hk4 so se hse ws hw h marks (by omega) p (hL p List.mem_cons_self) i h0 (by omega) x13 x14 x15 x16 x17 g
    obtain ⟨r', bs, g', h3, h4, h5, h6, ih⟩ := out_for n s hs ns a ha m v k hk1 hk4 so se hse ws hw h L (i + 1) (marks ++ [b]) (some (.int i)) (some (.int p.1)) (some (.int p.2)) y13 y14 y15 y16 y17 g1 (fun q hq => hL q (List.mem_cons_of_mem _ hq)) (fun x hx => by
      rcases List.mem_append.mp hx with hx | hx
      · exact hm x hx
      · simp only [List.mem_cons, List.not_mem_nil, or_false] at hx
        exact hx ▸ ob) (by omega) (by omega) (by simp; omega)
    refine ⟨r', bs, g', h3, by simp at h4 ⊢; omega, h5, h6, ?_⟩
    rw [List.map_cons, enumT, forL_cons]
    have ea : asg (.t [.n 10, .t [.n 11, .n 12]]) (.tup [.int i, pD p]) (tEnv (.lst (ns.map D.int)) (.int a) m v h.length (.int k) (.int so) (.int se) (uD ws) x10 x11 x12 x13 x14 x15 x16 x17) = some (tEnv (.lst (ns.map D.int)) (.int a) m v h.length (.int k) (.int so) (.int se) (uD ws) (some (.int i)) (some (.int p.1)) (some (.int p.2)) x13 x14 x15 x16 x17) := by
      simp [pD]
    simp only [put, ea, e, O.turn_nx, hs, if_true, ih]

theorem thru_tab (h g : Hh) (k : Int) (bs : List (List Int)) : thru h.length (h ++ .lst (bs.map uD) :: g) 12 (.tup [.int k, .cell h.length]) = some (.tup [.int k, .lst (bs.map uD)]) := by
  have m : (bs.map uD).mapM (thru h.length (h ++ .lst (bs.map uD) :: g) 10) = some (bs.map uD) := mapM_id fun x hx => by
    obtain ⟨u, _, rfl⟩ := List.mem_map.mp hx
    exact nc_thru _ _ 10 _ (nc_ints 8 u)
  have c : thru h.length (h ++ .lst (bs.map uD) :: g) 11 (.cell h.length) = some (.lst (bs.map uD)) := by
    simp only [thru, Nat.lt_irrefl, if_false, mid_get, m, Option.map_some]
  have i : thru h.length (h ++ .lst (bs.map uD) :: g) 11 (.int k) = some (.int k) := rfl
  show (List.mapM (thru h.length (h ++ .lst (bs.map uD) :: g) 11) [.int k, .cell h.length]).map D.tup = _
  simp only [List.mapM_cons, List.mapM_nil, c, i]
  rfl
/-- the laws' tables are tables -/
theorem table_run (n : Nat) (ns : List Int) (a : Int) (ha : 0 ≤ a) (mst : Int) (m1 : 2 ≤ mst) (m4 : mst ≤ 4) (h : Hh) : ∃ t : Tb, t.Ok ∧ (t.k : Int) ≤ mst ∧ (ctxN G (n + 6)).call 24 [.lst (ns.map D.int), .int a, .int mst] h = .ok t.d h := by
  obtain ⟨c, ec⟩ := call_cell ns a ha
  obtain ⟨v, v0, v1, ev⟩ := call_value c 1 (by omega) (by omega)
  have hk0 := Int.fmod_nonneg_of_pos (v + mst - 2) (show 0 < mst by omega)
  have hk1 := Int.fmod_lt_of_pos (v + mst - 2) (show 0 < mst by omega)
  obtain ⟨k, ek⟩ : ∃ k : Nat, 1 + (v + mst - 2).fmod mst = (k : Int) := ⟨(1 + (v + mst - 2).fmod mst).toNat, by omega⟩
  have k1 : 1 ≤ k := by omega
  have k4 : k ≤ 4 := by omega
  have s4 := Int.fmod_nonneg_of_pos (v.fdiv 60) (show (0 : Int) < 4 by omega)
  have o12 : okI 12 = true := okI_small (by decide)
  have o60 : okI 60 = true := okI_small (by decide)
  have o3 : okI 3 = true := okI_small (by decide)
  have r8 : ∀ (r : Env) (H : Hh) , r = [some (.lst (ns.map D.int)), some (.int a), some (.int mst), some (.int v), some (.cell h.length), some (.int k), some (.int ((v.fdiv 12).fmod 5)), some (.int (2 + (v.fdiv 60).fmod 4)), none, none, none, none, none, none, none, none, none, none] → ∃ is : List Int, is.length = k ∧ eComp false [8] (.n 8) (iRange1 (eVar 5)) (eYes) (e2 pMod (e2 pFdiv (eCall 20 [eCall 18 [eVar 0, e2 (pAdd false) (eVar 1) (eVar 8)], eK (.int 5)]) (eK (.int 3))) (eK (.int 5))) (ctxN G (n + 5)) r H = .ok (uD is) H := fun r H er => by
    subst er
    obtain ⟨is, hl, e⟩ := compL_ints (cx := ctxN G (n + 5)) (s := ⟨[], (List.range k).map fun (i : Nat) => D.int i⟩) (own := [8]) (t := .n 8) (elt := e2 pMod (e2 pFdiv (eCall 20 [eCall 18 [eVar 0, e2 (pAdd false) (eVar 1) (eVar 8)], eK (.int 5)]) (eK (.int 3))) (eK (.int 5))) (r := [some (.lst (ns.map D.int)), some (.int a), some (.int mst), some (.int v), some (.cell h.length), some (.int k), some (.int ((v.fdiv 12).fmod 5)), some (.int (2 + (v.fdiv 60).fmod 4)), none, none, none, none, none, none, none, none, none, none]) (h := H) rfl (items := (List.range k).map fun (i : Nat) => D.int i) fun x hx => by
      obtain ⟨j, _, rfl⟩ := List.mem_map.mp hx
      obtain ⟨c, ec⟩ := call_cell ns (a + j) (by omega)
      obtain ⟨w, w0, w1, ew⟩ := call_value c 5 (by omega) (by omega)
      refine ⟨[some (.lst (ns.map D.int)), some (.int a), some (.int mst), some (.int v), some (.cell h.length), some (.int k), some (.int ((v.fdiv 12).fmod 5)), some (.int (2 + (v.fdiv 60).fmod 4)), some (.int j), none, none, none, none, none, none, none, none, none], rfl, (w.fdiv 3).fmod 5, ?_⟩
      simp only [e2_eq, eCall_eq, evs_cons, evs_nil, eVar_eq, List.getElem?_cons_succ, List.getElem?_cons_zero, look_some, eK_eq, R.bind_ok, pAdd_int, up_some, ec (n + 1), ew n, pFdiv_int (show (3 : Int) ≠ 0 by decide) o3, pMod_int (show (5 : Int) ≠ 0 by decide)]
    have hlen : ((List.range k).map fun (i : Nat) => D.int i).length ≤ LIM := by simp only [List.length_map, List.length_range, LIM]; omega
    refine ⟨is, by simpa using hl, ?_⟩
    rw [eComp_eq, iRange1_eq]
    simp only [eVar_eq, List.getElem?_cons_succ, List.getElem?_cons_zero, look_some, R.bind_ok, rng1_nat k (by omega) H, hlen, if_true, e, R.calm_ok, mkL_F, up_some, uD]
  obtain ⟨ws, hw, ew⟩ := r8 _ (h ++ [.lst []]) rfl
  obtain ⟨r', bs, g', b1, b2, b3, b4, ef⟩ := out_for n ⟨[], enumT 0 ((prs k).map pD)⟩ (fun _ => rfl) ns a ha (.int mst) (.int v) k k1 k4 ((v.fdiv 12).fmod 5) (2 + (v.fdiv 60).fmod 4) (by omega) ws hw h (prs k) 0 [] none none none none none none none none [] (fun p hp => hp) (by simp) (by omega) (by have := prs_len k4; omega) (by have := prs_len k4; simp; omega)
  refine ⟨⟨k, bs⟩, ⟨k1, k4, by simpa using b2, fun b hb => (b1 b hb).1, fun b hb => (b1 b hb).2.1, fun b hb => (b1 b hb).2.2⟩, by show (k : Int) ≤ mst; omega, ?_⟩
  rw [ctxN_call G (k := 24) (f := f_law_table) (n := n + 2) rfl]
  refine run_rt (u := .lst (bs.map uD) :: g') (d := .tup [.int k, .cell h.length]) rfl rfl ?_ (thru_tab h g' k bs)
  have cp := call_lpairs (n + 1) k k4 k1 (h ++ [.lst []])
  show sAll _ (ctxN G (n + 5)) [some (.lst (ns.map D.int)), some (.int a), some (.int mst), none, none, none, none, none, none, none, none, none, none, none, none, none, none, none] h = _
  refine (sAll_step (r1 := [some (.lst (ns.map D.int)), some (.int a), some (.int mst), some (.int v), some (.cell h.length), none, none, none, none, none, none, none, none, none, none, none, none, none]) (h1 := h ++ [.lst []]) ?_).trans ?_
  · simp only [sPar_eq, eCall_eq, evs_cons, evs_nil, eVar_eq, List.getElem?_cons_succ, List.getElem?_cons_zero, look_some, eK_eq, R.bind_ok, ec (n + 1), ev n, eLst_eqT, R.stA_ok]
    rfl
  refine (sAll_step (r1 := [some (.lst (ns.map D.int)), some (.int a), some (.int mst), some (.int v), some (.cell h.length), some (.int k), some (.int ((v.fdiv 12).fmod 5)), none, none, none, none, none, none, none, none, none, none, none]) (h1 := h ++ [.lst []]) ?_).trans ?_
  · simp only [sPar_eq, e2_eq, evs_cons, evs_nil, eVar_eq, List.getElem?_cons_succ, List.getElem?_cons_zero, look_some, eK_eq, R.bind_ok, pAdd_int, pSub_int, up_some, pMod_int (show mst ≠ 0 by omega), ek, pFdiv_int (show (12 : Int) ≠ 0 by decide) o12, pMod_int (show (5 : Int) ≠ 0 by decide), R.stA_ok]
    rfl
  refine (sAll_step (r1 := [some (.lst (ns.map D.int)), some (.int a), some (.int mst), some (.int v), some (.cell h.length), some (.int k), some (.int ((v.fdiv 12).fmod 5)), some (.int (2 + (v.fdiv 60).fmod 4)), none, none, none, none, none, none, none, none, none, none]) (h1 := h ++ [.lst []]) ?_).trans ?_
  · simp only [sAsg_eq, e2_eq, evs_cons, evs_nil, eVar_eq, List.getElem?_cons_succ, List.getElem?_cons_zero, look_some, eK_eq, R.bind_ok, pAdd_int, up_some, pFdiv_int (show (60 : Int) ≠ 0 by decide) o60, pMod_int (show (4 : Int) ≠ 0 by decide), R.st_ok, put_n]
    rfl
  refine (sAll_step (r1 := tEnv (.lst (ns.map D.int)) (.int a) (.int mst) (.int v) h.length (.int k) (.int ((v.fdiv 12).fmod 5)) (.int (2 + (v.fdiv 60).fmod 4)) (uD ws) none none none none none none none none) (h1 := h ++ [.lst []]) ?_).trans ?_
  · rw [sAsg_eq, ew]
    simp
  refine (sAll_step (r1 := r') (h1 := h ++ .lst (bs.map uD) :: g') ?_).trans ?_
  · rw [sFor_eq, iEnum_eq, eCall_eq]
    simp only [evs_cons, evs_nil, eVar_eq, List.getElem?_cons_succ, List.getElem?_cons_zero, look_some, R.bind_ok, cp, enumW, viewW, R.stS_ok]
    exact ef
  rw [sAll_one, sRet_eq, eTup_eq]
  simp only [evs_cons, evs_nil, eVar_eq, b3, b4, look_some, R.bind_ok, R.st_ok]
end M

set_option autoImplicit false
set_option linter.all false
set_option maxRecDepth 100000
/-! Plain facts: the urns that the laws make. -/
namespace M
theorem run_imp {f : Fn} {cx : Ctx} {args : List D} {h h' : Hh} {d : D} (hp : f.pure = false) (ha : args.length = f.pars) (hb : f.body cx (args.map some ++ List.replicate (f.slots - f.pars) none) h = .rt d h') : runFn f cx args h = .ok d h' := by
  simp [runFn, ha, hb, finish, hp]
theorem run_impN {f : Fn} {cx : Ctx} {args : List D} {h h' : Hh} {r : Env} (hp : f.pure = false) (ha : args.length = f.pars) (hb : f.body cx (args.map some ++ List.replicate (f.slots - f.pars) none) h = .nx r h') : runFn f cx args h = .ok .non h' := by
  simp [runFn, ha, hb, finish, hp]
theorem run_impE {f : Fn} {cx : Ctx} {args : List D} {h h' : Hh} {c : Nat} (hp : f.pure = false) (ha : args.length = f.pars) (hb : f.body cx (args.map some ++ List.replicate (f.slots - f.pars) none) h = .exc c h') : runFn f cx args h = .exc c h' := by
  simp [runFn, ha, hb, hp]
abbrev urnB : FS := sAll [sAsg (.n 8) (e2 pFdiv (eCall 20 [e2 (pAdd false) (eCall 18 [eVar 0, e2 (pAdd false) (eVar 1) (eVar 7)]) (e2 (pMul false) (eK (.int 7)) (eVar 7)), eK (.int 4)]) (eK (.int 3))),
    sExpr (eM1 pAppend (eVar 4) (e2 pMin2 (eVar 5) (e2 pMod (eVar 8) (e2 pIx (eTup [eK (.int 4), eK (.int 6), eK (.int 2), eK (.int 10)]) (e2 pMod (eVar 6) (eK (.int 4))))))),
    sAsg (.n 5) (e2 pSub (eVar 5) (e2 pIx (eVar 4) (e1 pNeg (eK (.int 1)))))]
theorem isum_append : ∀ (a b : List Int), isum (a ++ b) = isum a + isum b
  | [], b => by simp [isum]
  | x :: a, b => by
    simp only [List.cons_append, isum, isum_append a b]
    omega
theorem caps (i : Int) (h : Hh) : ∃ c : Int, 0 < c ∧ pIx (.tup [.int 4, .int 6, .int 2, .int 10]) (.int (i.fmod 4)) h = some (.int c, h) := by
  obtain ⟨j, ej, hj⟩ := fmod_nat i 4 (by omega)
  rw [show i.fmod 4 = (j : Int) from ej]
  have : j = 0 ∨ j = 1 ∨ j = 2 ∨ j = 3 := by omega
  rcases this with rfl | rfl | rfl | rfl
  · exact ⟨4, by decide, rfl⟩
  · exact ⟨6, by decide, rfl⟩
  · exact ⟨2, by decide, rfl⟩
  · exact ⟨10, by decide, rfl⟩
theorem pIx_lastI (h g : Hh) (u : List Int) (x : Int) : pIx (.cell h.length) (.int (-1)) (h ++ .lst ((u ++ [x]).map D.int) :: g) = some (.int x, h ++ .lst ((u ++ [x]).map D.int) :: g) := by
  have v := viewS_of (mid_view h g ((u ++ [x]).map D.int))
  simp only [pIx, v, atI, ixN, List.length_map, List.length_append, List.length_cons, List.length_nil]
  rw [if_neg (by omega), if_pos (by omega)]
  have : (-1 + ((u.length + (0 + 1) : Nat) : Int)).toNat = u.length := by omega
  simp only [Option.bind_some, this]
  simp
theorem urn_for (n : Nat) (s : Src) (hs : ∀ h, still s h = true) (ns : List Int) (a : Int) (ha : 0 ≤ a) (x2 x3 : Option D) (v6 : Int) (mst : Int) (h : Hh) : ∀ (L : List Nat) (u : List Int) (left : Int) (x7 x8 : Option D), (∀ i ∈ L, i ≤ 1000) → (∀ i ∈ u, 0 ≤ i) → 0 ≤ left → isum u + left = mst → u.length + L.length ≤ 1000 →
    ∃ (r' : Env) (u' : List Int), (∀ i ∈ u', 0 ≤ i) ∧ isum u' ≤ mst ∧ u'.length = u.length + L.length ∧ r'[4]? = some (some (.cell h.length)) ∧ forL (ctxN G (n + 5)) s (.n 7) urnB (L.map fun (i : Nat) => D.int i) [some (.lst (ns.map D.int)), some (.int a), x2, x3, some (.cell h.length), some (.int left), some (.int v6), x7, x8] (h ++ [.lst (u.map D.int)]) = .nx r' (h ++ [.lst (u'.map D.int)])
  | [], u, left, x7, x8, _, hu, hl, hs2, _ => ⟨[some (.lst (ns.map D.int)), some (.int a), x2, x3, some (.cell h.length), some (.int left), some (.int v6), x7, x8], u, hu, by omega, by simp, rfl, by simp⟩
  | i :: L, u, left, x7, x8, hL, hu, hl, hsm, hlen => by
    simp only [List.length_cons] at hlen
    obtain ⟨c, w, w0, _, ec, ew⟩ := value_any ns (a + i) 4 (by omega) (7 * i) (by omega) (by omega)
    have o7 : okI 7 = true := okI_small (by decide)
    have hi := hL i List.mem_cons_self
    have oi : okI (i : Int) = true := okI_small (by omega)
    have o3 : okI 3 = true := okI_small (by decide)
    obtain ⟨cp, cp0, ecp⟩ := caps v6 (h ++ [.lst (u.map D.int)])
    have md := Int.fmod_nonneg_of_pos (w.fdiv 3) cp0
    obtain ⟨x, ex⟩ : ∃ x : Int, x = if (w.fdiv 3).fmod cp < left then (w.fdiv 3).fmod cp else left := ⟨_, rfl⟩
    have x0 : 0 ≤ x := by rw [ex]; split <;> omega
    have x1 : x ≤ left := by rw [ex]; split <;> omega
    obtain ⟨r', u', h1, h2, h3, h4, ih⟩ := urn_for n s hs ns a ha x2 x3 v6 mst h L (u ++ [x]) (left - x) (some (.int i)) (some (.int (w.fdiv 3))) (fun j hj => hL j (List.mem_cons_of_mem _ hj)) (fun j hj => by
      rcases List.mem_append.mp hj with hj | hj
      · exact hu j hj
      · simp only [List.mem_cons, List.not_mem_nil, or_false] at hj
        omega) (by omega) (by rw [isum_append]; simp only [isum]; omega) (by simp; omega)
    refine ⟨r', u', h1, h2, by simp at h3 ⊢; omega, h4, ?_⟩
    have ap := pAppend_last h (u.map D.int) (.int x) (by simp [LIM]; omega)
    have vw := viewL_last h (u.map D.int)
    have pm : pMin2 (.int left) (.int ((w.fdiv 3).fmod cp)) (h ++ [.lst (u.map D.int)]) = some (.int x, h ++ [.lst (u.map D.int)]) := by simp [pMin2, ex]
    have px := pIx_lastI h [] u x
    have e : urnB (ctxN G (n + 5)) [some (.lst (ns.map D.int)), some (.int a), x2, x3, some (.cell h.length), some (.int left), some (.int v6), some (.int i), x8] (h ++ [.lst (u.map D.int)]) = .nx [some (.lst (ns.map D.int)), some (.int a), x2, x3, some (.cell h.length), some (.int (left - x)), some (.int v6), some (.int i), some (.int (w.fdiv 3))] (h ++ [.lst ((u ++ [x]).map D.int)]) := by
      refine (sAll_step (r1 := [some (.lst (ns.map D.int)), some (.int a), x2, x3, some (.cell h.length), some (.int left), some (.int v6), some (.int i), some (.int (w.fdiv 3))]) (h1 := h ++ [.lst (u.map D.int)]) ?_).trans ?_
      · simp only [sAsg_eq, e2_eq, eCall_eq, evs_cons, evs_nil, eVar_eq, List.getElem?_cons_succ, List.getElem?_cons_zero, look_some, eK_eq, R.bind_ok, up_some, pAdd_int, ec (n + 1), pMul_int o7 oi, ew n, pFdiv_int (show (3 : Int) ≠ 0 by decide) o3, R.st_ok, put_n]
        rfl
      refine (sAll_step (r1 := [some (.lst (ns.map D.int)), some (.int a), x2, x3, some (.cell h.length), some (.int left), some (.int v6), some (.int i), some (.int (w.fdiv 3))]) (h1 := h ++ [.lst ((u ++ [x]).map D.int)]) ?_).trans ?_
      · simp only [sExpr_eq, eM1_eq, e2_eq, eTup_eq, evs_cons, evs_nil, eVar_eq, List.getElem?_cons_succ, List.getElem?_cons_zero, look_some, eK_eq, R.bind_ok, vw, Option.isSome_some, if_true, pMod_int (show (4 : Int) ≠ 0 by decide), up_some, ecp, pMod_int (show cp ≠ 0 by omega), pm, ap, R.st_ok, List.map_append, List.map_cons, List.map_nil]
      rw [sAll_one, sAsg_eq]
      simp only [e2_eq, e1_eq, eVar_eq, List.getElem?_cons_succ, List.getElem?_cons_zero, look_some, eK_eq, R.bind_ok, pNeg_int, up_some, px, pSub_int, R.st_ok, put_n]
      rfl
    rw [List.map_cons, forL_cons]
    simp only [put_n, List.length_cons, List.length_nil, show 7 < 0 + 1 + 1 + 1 + 1 + 1 + 1 + 1 + 1 + 1 by omega, if_true, List.set_cons_succ, List.set_cons_zero]
    rw [e]
    simp only [O.turn_nx, hs, if_true]
    exact ih
theorem urn_body (n : Nat) (ns : List Int) (a : Int) (ha : 0 ≤ a) (k : Nat) (hk : k ≤ 4) (mst : Int) (hm : 0 ≤ mst) (h : Hh) : ∃ u : List Int, (∀ i ∈ u, 0 ≤ i) ∧ isum u ≤ mst ∧ u.length = k ∧ f_law_urn.body (ctxN G (n + 5)) [some (.lst (ns.map D.int)), some (.int a), some (.int k), some (.int mst), none, none, none, none, none] h = .rt (.cell h.length) (h ++ [.lst (u.map D.int)]) := by
  obtain ⟨c, ec⟩ := call_cell ns a ha
  obtain ⟨v, v0, v1, ev⟩ := call_value c 3 (by omega) (by omega)
  obtain ⟨r', u, h1, h2, h3, h4, e⟩ := urn_for n ⟨[], (List.range k).map fun (i : Nat) => D.int i⟩ (fun _ => rfl) ns a ha (some (.int k)) (some (.int mst)) v mst h (List.range k) [] mst none none (fun i hi => by
    simp only [List.mem_range] at hi
    omega) (by simp) hm (by simp [isum]) (by simp; omega)
  refine ⟨u, h1, h2, by simpa using h3, ?_⟩
  dsimp only [f_law_urn]
  refine (sAll_step (r1 := [some (.lst (ns.map D.int)), some (.int a), some (.int k), some (.int mst), some (.cell h.length), some (.int mst), none, none, none]) (h1 := h ++ [.lst []]) ?_).trans ?_
  · simp only [sPar_eq, evs_cons, evs_nil, eVar_eq, List.getElem?_cons_succ, List.getElem?_cons_zero, look_some, R.bind_ok, eLst_eqT, R.stA_ok]
    rfl
  refine (sAll_step (r1 := [some (.lst (ns.map D.int)), some (.int a), some (.int k), some (.int mst), some (.cell h.length), some (.int mst), some (.int v), none, none]) (h1 := h ++ [.lst []]) ?_).trans ?_
  · simp only [sAsg_eq, eCall_eq, evs_cons, evs_nil, eVar_eq, List.getElem?_cons_succ, List.getElem?_cons_zero, look_some, eK_eq, R.bind_ok, ec (n + 1), ev n, R.st_ok, put_n]
    rfl
  refine (sAll_step (r1 := r') (h1 := h ++ [.lst (u.map D.int)]) ?_).trans ?_
  · rw [sFor_eq, iRange1_eq]
    simp only [eVar_eq, List.getElem?_cons_succ, List.getElem?_cons_zero, look_some, R.bind_ok, rng1_nat k (by omega), R.stS_ok]
    exact e
  rw [sAll_one, sRet_eq, eVar_eq, h4]
  rfl
/-- an urn, a cell of its own (k01) -/
theorem urn_cell (n : Nat) (ns : List Int) (a : Int) (ha : 0 ≤ a) (k : Nat) (hk : k ≤ 4) (mst : Int) (hm : 0 ≤ mst) (h : Hh) : ∃ u : List Int, (∀ i ∈ u, 0 ≤ i) ∧ isum u ≤ mst ∧ u.length = k ∧ (ctxN G (n + 6)).call 25 [.lst (ns.map D.int), .int a, .int k, .int mst] h = .ok (.cell h.length) (h ++ [.lst (u.map D.int)]) := by
  obtain ⟨u, h1, h2, h3, e⟩ := urn_body n ns a ha k hk mst hm h
  refine ⟨u, h1, h2, h3, ?_⟩
  rw [ctxN_call G (k := 25) (f := f_law_urn) (n := n + 2) rfl]
  exact run_imp rfl rfl e
/-- an urn (the other laws) -/
theorem urn_run (n : Nat) (ns : List Int) (a : Int) (ha : 0 ≤ a) (k : Nat) (hk : k ≤ 4) (mst : Int) (hm : 0 ≤ mst) (h : Hh) : ∃ u : List Int, (∀ i ∈ u, 0 ≤ i) ∧ isum u ≤ mst ∧ u.length = k ∧ (ctxN G (n + 6)).call 54 [.lst (ns.map D.int), .int a, .int k, .int mst] h = .ok (uD u) h := by
  obtain ⟨u, h1, h2, h3, e⟩ := urn_body n ns a ha k hk mst hm h
  refine ⟨u, h1, h2, h3, ?_⟩
  rw [ctxN_call G (k := 54) (f := f_law_urnb) (n := n + 2) rfl]
  exact run_rt (u := [.lst (u.map D.int)]) (d := .cell h.length) rfl rfl e (thru_cell h u)
end M

set_option autoImplicit false
set_option linter.all false
set_option maxRecDepth 100000
/-! Plain facts: what a Bag does. -/
namespace M
structure BagAt (H : Hh) (c c1 c2 : Nat) (t : Tb) (us : List (List Int)) (u : List Int) (ps : List Pr) : Prop where
  ins : H[c]? = some (.ins 0 [(0, t.d), (1, .cell c1), (2, .cell c2)])
  urns : H[c1]? = some (.lst ((us ++ [u]).map uD))
  done : H[c2]? = some (.lst (ps.map pD))
  n01 : c ≠ c1
  n02 : c ≠ c2
  n12 : c1 ≠ c2
  lu : us.length ≤ 1000
  lp : ps.length ≤ 1000
  uk : u.length = t.k
theorem BagAt.grow {H : Hh} {c c1 c2 : Nat} {t : Tb} {us : List (List Int)} {u : List Int} {ps : List Pr} (b : BagAt H c c1 c2 t us u ps) (g : Hh) : BagAt (H ++ g) c c1 c2 t us u ps where
  ins := by rw [List.getElem?_append_left (List.getElem?_eq_some_iff.mp b.ins).1]; exact b.ins
  urns := by rw [List.getElem?_append_left (List.getElem?_eq_some_iff.mp b.urns).1]; exact b.urns
  done := by rw [List.getElem?_append_left (List.getElem?_eq_some_iff.mp b.done).1]; exact b.done
  n01 := b.n01
  n02 := b.n02
  n12 := b.n12
  lu := b.lu
  lp := b.lp
  uk := b.uk
theorem BagAt.off {H : Hh} {c c1 c2 : Nat} {t : Tb} {us : List (List Int)} {u : List Int} {ps : List Pr} (b : BagAt H c c1 c2 t us u ps) {i : Nat} (x : Cell) (h0 : i ≠ c) (h1 : i ≠ c1) (h2 : i ≠ c2) : BagAt (H.set i x) c c1 c2 t us u ps where
  ins := by rw [List.getElem?_set_ne h0]; exact b.ins
  urns := by rw [List.getElem?_set_ne h1]; exact b.urns
  done := by rw [List.getElem?_set_ne h2]; exact b.done
  n01 := b.n01
  n02 := b.n02
  n12 := b.n12
  lu := b.lu
  lp := b.lp
  uk := b.uk
section
variable {H : Hh} {c c1 c2 : Nat} {t : Tb} {us : List (List Int)} {u : List Int} {ps : List Pr}
theorem BagAt.insAt (b : BagAt H c c1 c2 t us u ps) : M.insAt H (.cell c) = some (0, [(0, t.d), (1, .cell c1), (2, .cell c2)]) := by simp [M.insAt, b.ins]
theorem BagAt.at0 (b : BagAt H c c1 c2 t us u ps) : pAttr [0] 0 (.cell c) H = some (t.d, H) := by simp [pAttr, b.insAt, lookN]
theorem BagAt.at1 (b : BagAt H c c1 c2 t us u ps) : pAttr [0] 1 (.cell c) H = some (.cell c1, H) := by simp [pAttr, b.insAt, lookN]
theorem BagAt.at2 (b : BagAt H c c1 c2 t us u ps) : pAttr [0] 2 (.cell c) H = some (.cell c2, H) := by simp [pAttr, b.insAt, lookN]
theorem atI_last (xs : List D) (x : D) : atI (xs ++ [x]) (-1) = some x := by
  simp only [atI, ixN, List.length_append, List.length_cons, List.length_nil]
  rw [if_neg (by omega), if_pos (by omega)]
  have : (-1 + ((xs.length + (0 + 1) : Nat) : Int)).toNat = xs.length := by omega
  simp only [Option.bind_some, this]
  simp
theorem pIx_last {h : Hh} {d x : D} {xs : List D} (v : viewS h d = some (xs ++ [x])) : pIx d (.int (-1)) h = some (x, h) := by
  simp only [pIx, v, atI_last]
theorem BagAt.last (b : BagAt H c c1 c2 t us u ps) : pIx (.cell c1) (.int (-1)) H = some (uD u, H) := by
  have v := view_at b.urns
  rw [List.map_append] at v
  exact pIx_last (viewS_of v)
theorem append_at {xs : List D} {i : Nat} (g : H[i]? = some (.lst xs)) (y : D) (hl : xs.length < LIM) : pAppend (.cell i) y H = some (.non, H.set i (.lst (xs ++ [y]))) := by
  simp [pAppend, g, hl]
theorem pop_at {xs : List D} {y : D} {i : Nat} (g : H[i]? = some (.lst (xs ++ [y]))) : pPop (.cell i) H = some (y, H.set i (.lst xs)) := by
  simp [pPop, g]
def bagDrawn (H : Hh) (c1 c2 : Nat) (us : List (List Int)) (ps : List Pr) (p : Pr) : Hh := (H.set c1 (.lst (us.map uD))).set c2 (.lst ((ps ++ [p]).map pD))
theorem BagAt.drawn (b : BagAt H c c1 c2 t us u ps) (p : Pr) (v : List Int) (hv : v.length = t.k) (h1 : us.length < 1000) (h2 : ps.length < 1000) : BagAt (bagDrawn H c1 c2 (us ++ [u] ++ [v]) ps p) c c1 c2 t (us ++ [u]) v (ps ++ [p]) where
  ins := by
    unfold bagDrawn
    rw [List.getElem?_set_ne b.n02.symm, List.getElem?_set_ne b.n01.symm]
    exact b.ins
  urns := by
    unfold bagDrawn
    rw [List.getElem?_set_ne b.n12.symm, List.getElem?_set_self (List.getElem?_eq_some_iff.mp b.urns).1]
  done := by
    unfold bagDrawn
    rw [List.getElem?_set_self (by simpa using (List.getElem?_eq_some_iff.mp b.done).1)]
  n01 := b.n01
  n02 := b.n02
  n12 := b.n12
  lu := by simp; omega
  lp := by simp; omega
  uk := hv
theorem beh_len (t : Tb) (u : List Int) (p : Pr) : (t.beh u p).length = u.length := by
  simp only [Tb.beh, addAll_len, addAt_len]
theorem prs_count {k : Nat} {p : Pr} (hp : p ∈ prs k) : isCount (.int p.2) 0 ((k : Int) - 1) = true ∧ isCount (.int p.1) 0 p.2 = true := by
  obtain ⟨r0, r1, r2⟩ := prs_rng hp
  simp only [isCount, Bool.and_eq_true, decide_eq_true_eq]
  omega
theorem bag_draw (n : Nat) (o : t.Ok) (b : BagAt H c c1 c2 t us u ps) (p : Pr) (hp : p ∈ prs t.k) (h1 : us.length < 1000) (h2 : ps.length < 1000) :
    (ctxN G (n + 8)).call 12 [.cell c, .int p.1, .int p.2] H = if can u p then .ok (.cell H.length) (bagDrawn H c1 c2 (us ++ [u] ++ [t.beh u p]) ps p ++ [.lst ((t.back p).map D.int)]) else .exc 4 H := by
  rw [ctxN_call G (k := 12) (f := f_Bag_draw) (n := n + 4) rfl]
  obtain ⟨r0, r1, r2⟩ := prs_rng hp
  obtain ⟨q1, q2⟩ := prs_count hp
  have e1' := call_count (n + 2) (.int p.2) 0 ((t.k : Int) - 1) H rfl
  rw [q1] at e1'
  have e2' := call_count (n + 2) (.int p.1) 0 p.2 H rfl
  rw [q2] at e2'
  have e8 := call_can (n + 3) (uD u) u p H rfl r0 r1 (by rw [b.uk]; omega)
  have a0 := b.at0
  have a1 := b.at1
  have la := b.last
  have neg1 : ∀ h, pNeg (.int 1) h = some (.int (-1), h) := fun _ => rfl
  have s1 : sIf (eOr (eNot (eCall 1 [eVar 2, eK (.int 0), e2 pSub (e2 pIx (e1 (pAttr [0] 0) (eVar 0)) (eK (.int 0))) (eK (.int 1))])) (eNot (eCall 1 [eVar 1, eK (.int 0), eVar 2]))) (sAll [sRaise 3]) (sAll []) (ctxN G (n + 7)) [some (.cell c), some (.int p.1), some (.int p.2)] H = .nx [some (.cell c), some (.int p.1), some (.int p.2)] H := by
    simp only [sIf_eq, eOr_eq, eNot_eq, eCall_eq, evs_cons, evs_nil, e2_eq, e1_eq, eVar_eq, List.getElem?_cons_succ, List.getElem?_cons_zero, look_some, eK_eq, R.bind_ok, a0, up_some, t.ix0, pSub_int, e1', e2', notb_bl, Bool.not_true, ifb_bl, Bool.false_eq_true, if_false, R.st_ok, ifo_bl, sAll_nil]
  have s2 : (eNot (eCall 8 [e2 pIx (e1 (pAttr [0] 1) (eVar 0)) (e1 pNeg (eK (.int 1))), eTup [eVar 1, eVar 2]])) (ctxN G (n + 7)) [some (.cell c), some (.int p.1), some (.int p.2)] H = .ok (.bl (!can u p)) H := by
    simp only [eNot_eq, eCall_eq, evs_cons, evs_nil, e2_eq, e1_eq, eTup_eq, eVar_eq, List.getElem?_cons_succ, List.getElem?_cons_zero, look_some, eK_eq, R.bind_ok, a1, up_some, neg1, la]
    rw [show (D.tup [.int p.1, .int p.2]) = pD p from rfl, e8]
    rfl
  cases q : can u p with
  | false =>
    rw [q] at s2
    refine run_impE rfl rfl ?_
    show sAll _ (ctxN G (n + 7)) [some (.cell c), some (.int p.1), some (.int p.2)] H = _
    refine (sAll_step s1).trans ?_
    rw [sAll_cons, sIf_eq, s2]
    simp
  | true =>
    rw [q] at s2
    have e10 := call_beh n t o (uD u) u p H rfl b.uk hp
    have ap1 := append_at b.urns (uD (t.beh u p)) (by have := b.lu; simp [LIM]; omega)
    have b1 : (H.set c1 (.lst ((us ++ [u] ++ [t.beh u p]).map uD)))[c2]? = some (.lst (ps.map pD)) := by rw [List.getElem?_set_ne b.n12]; exact b.done
    have bi : (H.set c1 (.lst ((us ++ [u] ++ [t.beh u p]).map uD)))[c]? = some (.ins 0 [(0, t.d), (1, .cell c1), (2, .cell c2)]) := by rw [List.getElem?_set_ne b.n01.symm]; exact b.ins
    have ap2 := append_at b1 (pD p) (by have := b.lp; simp [LIM]; omega)
    have bd := b.drawn p (t.beh u p) (by rw [beh_len]; exact b.uk) h1 h2
    have e6 := call_back (n + 2) t o p hp (bagDrawn H c1 c2 (us ++ [u] ++ [t.beh u p]) ps p)
    have v1 := view_at b.urns
    have v2 := view_at b1
    have at2 : pAttr [0] 2 (.cell c) (H.set c1 (.lst ((us ++ [u] ++ [t.beh u p]).map uD))) = some (.cell c2, H.set c1 (.lst ((us ++ [u] ++ [t.beh u p]).map uD))) := by
      simp only [pAttr, M.insAt, bi]
      rfl
    have at0' := bd.at0
    refine run_imp rfl rfl ?_
    show sAll _ (ctxN G (n + 7)) [some (.cell c), some (.int p.1), some (.int p.2)] H = _
    refine (sAll_step s1).trans ?_
    refine (sAll_step (r1 := [some (.cell c), some (.int p.1), some (.int p.2)]) (h1 := H) ?_).trans ?_
    · rw [sIf_eq, s2]
      simp
    refine (sAll_step (r1 := [some (.cell c), some (.int p.1), some (.int p.2)]) (h1 := H.set c1 (.lst ((us ++ [u] ++ [t.beh u p]).map uD))) ?_).trans ?_
    · simp only [sExpr_eq, eM1_eq, e2_eq, e1_eq, eCall_eq, evs_cons, evs_nil, eTup_eq, eVar_eq, List.getElem?_cons_succ, List.getElem?_cons_zero, look_some, eK_eq, R.bind_ok, a0, a1, up_some, neg1, la, v1, Option.isSome_some, if_true]
      rw [show (D.tup [.int p.1, .int p.2]) = pD p from rfl, e10, R.bind_ok, ap1]
      simp only [up_some, R.st_ok, List.map_append, List.map_cons, List.map_nil]
    refine (sAll_step (r1 := [some (.cell c), some (.int p.1), some (.int p.2)]) (h1 := bagDrawn H c1 c2 (us ++ [u] ++ [t.beh u p]) ps p) ?_).trans ?_
    · simp only [sExpr_eq, eM1_eq, e1_eq, eTup_eq, evs_cons, evs_nil, eVar_eq, List.getElem?_cons_succ, List.getElem?_cons_zero, look_some, R.bind_ok, at2, up_some, v2, Option.isSome_some, if_true]
      rw [show (D.tup [.int p.1, .int p.2]) = pD p from rfl, ap2]
      simp only [up_some, R.st_ok, bagDrawn, List.map_append, List.map_cons, List.map_nil]
    rw [sAll_one, sRet_eq]
    simp only [e1_eq, eCall_eq, evs_cons, evs_nil, eTup_eq, eVar_eq, List.getElem?_cons_succ, List.getElem?_cons_zero, look_some, R.bind_ok, at0', up_some]
    rw [show (D.tup [.int p.1, .int p.2]) = pD p from rfl, e6]
    have hl : (bagDrawn H c1 c2 (us ++ [u] ++ [t.beh u p]) ps p).length = H.length := by simp [bagDrawn]
    have pl : pList true (uD (t.back p)) (bagDrawn H c1 c2 (us ++ [u] ++ [t.beh u p]) ps p) = some (.cell H.length, bagDrawn H c1 c2 (us ++ [u] ++ [t.beh u p]) ps p ++ [.lst ((t.back p).map D.int)]) := by
      simp only [pList, uD, viewK, viewS, viewL, mkL_T, hl]
    rw [R.bind_ok, pl]
    rfl

/-! ### undo, marbles, done, can_do, ended -/
theorem bag_undo0 (n : Nat) (b : BagAt H c c1 c2 t us u []) : (ctxN G (n + 4)).call 13 [.cell c] H = .exc 5 H := by
  rw [ctxN_call G (k := 13) (f := f_Bag_undo) rfl]
  refine run_impE rfl rfl ?_
  show sAll _ (ctxN G (n + 3)) [some (.cell c)] H = _
  have q := eq_nil (deep_pDs (ps := []) (view_at b.done))
  rw [sAll_cons, sIf_eq]
  simp only [e2_eq, e1_eq, eVar_eq, List.getElem?_cons_zero, look_some, R.bind_ok, b.at2, up_some, eLst_eqF, evs_nil, q]
  simp
def bagUndone (H : Hh) (c1 c2 : Nat) (us : List (List Int)) (ps : List Pr) : Hh := (H.set c1 (.lst (us.map uD))).set c2 (.lst (ps.map pD))
theorem bag_undo {us : List (List Int)} {v u : List Int} {ps : List Pr} {p : Pr} (n : Nat) (b : BagAt H c c1 c2 t (us ++ [v]) u (ps ++ [p])) : (ctxN G (n + 4)).call 13 [.cell c] H = .ok (pD p) (bagUndone H c1 c2 (us ++ [v]) ps) := by
  rw [ctxN_call G (k := 13) (f := f_Bag_undo) rfl]
  refine run_imp rfl rfl ?_
  show sAll _ (ctxN G (n + 3)) [some (.cell c)] H = _
  have q := eq_nil (deep_pDs (view_at b.done))
  have ne : ((ps ++ [p]).map pD).isEmpty = false := by cases ps <;> rfl
  rw [ne] at q
  have g1 := b.urns
  rw [List.map_append] at g1
  have p1 := pop_at g1
  have g2 : (H.set c1 (.lst ((us ++ [v]).map uD)))[c2]? = some (.lst (ps.map pD ++ [pD p])) := by
    rw [List.getElem?_set_ne b.n12, b.done]
    simp
  have p2 := pop_at g2
  have gi : (H.set c1 (.lst ((us ++ [v]).map uD)))[c]? = some (.ins 0 [(0, t.d), (1, .cell c1), (2, .cell c2)]) := by rw [List.getElem?_set_ne b.n01.symm]; exact b.ins
  have at2 : pAttr [0] 2 (.cell c) (H.set c1 (.lst ((us ++ [v]).map uD))) = some (.cell c2, H.set c1 (.lst ((us ++ [v]).map uD))) := by
    simp only [pAttr, M.insAt, gi]
    rfl
  refine (sAll_step (r1 := [some (.cell c)]) (h1 := H) ?_).trans ?_
  · rw [sIf_eq]
    simp only [e2_eq, e1_eq, eVar_eq, List.getElem?_cons_zero, look_some, R.bind_ok, b.at2, up_some, eLst_eqF, evs_nil, q, R.st_ok, ifo_bl, Bool.false_eq_true, if_false, sAll_nil]
  refine (sAll_step (r1 := [some (.cell c)]) (h1 := H.set c1 (.lst ((us ++ [v]).map uD))) ?_).trans ?_
  · have vw := view_at g1
    simp only [sExpr_eq, eM0_eq, e1_eq, eVar_eq, List.getElem?_cons_zero, look_some, R.bind_ok, b.at1, up_some, vw, Option.isSome_some, if_true]
    rw [p1]
    rfl
  · have vw := view_at g2
    rw [sAll_one, sRet_eq]
    simp only [eM0_eq, e1_eq, eVar_eq, List.getElem?_cons_zero, look_some, R.bind_ok, at2, up_some, vw, Option.isSome_some, if_true]
    rw [p2]
    rfl
theorem BagAt.undone {us : List (List Int)} {v u : List Int} {ps : List Pr} {p : Pr} (b : BagAt H c c1 c2 t (us ++ [v]) u (ps ++ [p])) (hv : v.length = t.k) : BagAt (bagUndone H c1 c2 (us ++ [v]) ps) c c1 c2 t us v ps where
  ins := by
    unfold bagUndone
    rw [List.getElem?_set_ne b.n02.symm, List.getElem?_set_ne b.n01.symm]
    exact b.ins
  urns := by
    unfold bagUndone
    rw [List.getElem?_set_ne b.n12.symm, List.getElem?_set_self (List.getElem?_eq_some_iff.mp b.urns).1]
  done := by
    unfold bagUndone
    rw [List.getElem?_set_self (by simpa using (List.getElem?_eq_some_iff.mp b.done).1)]
  n01 := b.n01
  n02 := b.n02
  n12 := b.n12
  lu := by have := b.lu; simp at this; omega
  lp := by have := b.lp; simp at this; omega
  uk := hv
theorem bag_marbles (n : Nat) (b : BagAt H c c1 c2 t us u ps) : (ctxN G (n + 4)).call 14 [.cell c] H = .ok (.cell H.length) (H ++ [.lst (u.map D.int)]) := by
  rw [ctxN_call G (k := 14) (f := f_Bag_marbles) rfl]
  refine run_imp rfl rfl ?_
  show sAll [sRet _] (ctxN G (n + 3)) [some (.cell c)] H = _
  rw [sAll_one, sRet_eq]
  simp only [e2_eq, e1_eq, eVar_eq, List.getElem?_cons_zero, look_some, R.bind_ok, b.at1, up_some, eK_eq, pNeg_int, b.last]
  rfl
theorem bag_done (n : Nat) (b : BagAt H c c1 c2 t us u ps) : (ctxN G (n + 4)).call 15 [.cell c] H = .ok (.cell H.length) (H ++ [.lst (ps.map pD)]) := by
  rw [ctxN_call G (k := 15) (f := f_Bag_done) rfl]
  refine run_imp rfl rfl ?_
  show sAll [sRet _] (ctxN G (n + 3)) [some (.cell c)] H = _
  have vw := viewK_of (view_at b.done)
  have pl : pList true (.cell c2) H = some (.cell H.length, H ++ [.lst (ps.map pD)]) := by simp only [pList, vw, mkL_T]
  rw [sAll_one, sRet_eq]
  simp only [e1_eq, eVar_eq, List.getElem?_cons_zero, look_some, R.bind_ok, b.at2, up_some, pl, R.st_ok]
theorem bag_can (n : Nat) (o : t.Ok) (b : BagAt H c c1 c2 t us u ps) : (ctxN G (n + 6)).call 16 [.cell c] H = .ok (.cell H.length) (H ++ [.lst ((t.opens u).map pD)]) := by
  rw [ctxN_call G (k := 16) (f := f_Bag_can_do) (n := n + 2) rfl]
  refine run_imp rfl rfl ?_
  show sAll [sRet _] (ctxN G (n + 5)) [some (.cell c)] H = _
  have e := call_opensC n t o (uD u) u H rfl b.uk
  rw [sAll_one, sRet_eq]
  simp only [eCall_eq, evs_cons, evs_nil, e2_eq, e1_eq, eVar_eq, List.getElem?_cons_zero, look_some, R.bind_ok, b.at0, b.at1, up_some, eK_eq, pNeg_int, b.last, e, R.st_ok]
theorem bag_ended (n : Nat) (b : BagAt H c c1 c2 t us u ps) : (ctxN G (n + 4)).call 17 [.cell c] H = .ok (.bl (decide (isum u < 2))) H := by
  rw [ctxN_call G (k := 17) (f := f_Bag_ended) rfl]
  refine run_imp rfl rfl ?_
  show sAll [sRet _] (ctxN G (n + 3)) [some (.cell c)] H = _
  have s : pSum (uD u) H = some (.int (isum u), H) := by simp [pSum, uD, viewK, viewS, viewL, intsOf_map]
  rw [sAll_one, sRet_eq]
  simp only [e2_eq, e1_eq, eVar_eq, List.getElem?_cons_zero, look_some, R.bind_ok, b.at1, up_some, eK_eq, pNeg_int, b.last, s, pLt_int, R.st_ok]
end
end M

set_option autoImplicit false
set_option linter.all false
set_option maxRecDepth 100000
/-! Plain facts: _law_behind. -/
namespace M
theorem setIx_add (cx : Ctx) (r : Env) (h : Hh) (u : List Int) (i d : Int) (f : D → D → Hh → Option (D × Hh)) (h0 : 0 ≤ i) (h1 : i < u.length) (e3 : r[3]? = some (some (.cell h.length))) (e4 : r[4]? = some (some (.int i)))
    (hf : ∀ a h, f (.int a) (.int 1) h = some (.int (a + d), h)) : sSetIx (eVar 3) (eVar 4) (e2 f (e2 pIx (eVar 3) (eVar 4)) (eK (.int 1))) cx r (h ++ [.lst (u.map D.int)]) = .nx r (h ++ [.lst ((addAt u i d).map D.int)]) := by
  have px := pIx_ints (viewL_last h (u.map D.int)) i h0 h1
  have s := setIx_lastN h (u.map D.int) i (.int (u.getD i.toNat 0 + d)) h0 (by simpa using h1)
  rw [sSetIx_eq]
  simp only [e2_eq, eVar_eq, e3, e4, look_some, R.bind_ok, px, up_some, eK_eq, hf, s, optH_some, R.st_ok, addAt, List.map_set]
def addD (u : List Int) (d : Int) (L : List Int) : List Int := L.foldl (fun v i => addAt v i d) u
theorem lb_for (cx : Ctx) (s : Src) (hs : ∀ h, still s h = true) (f : D → D → Hh → Option (D × Hh)) (d : Int) (hf : ∀ a h, f (.int a) (.int 1) h = some (.int (a + d), h)) (a b c : Option D) (h : Hh) : ∀ (L u : List Int) (v : Option D), (∀ i ∈ L, 0 ≤ i ∧ i < u.length) →
    ∃ v', forL cx s (.n 4) (sAll [sSetIx (eVar 3) (eVar 4) (e2 f (e2 pIx (eVar 3) (eVar 4)) (eK (.int 1)))]) (L.map D.int) [a, b, c, some (.cell h.length), v] (h ++ [.lst (u.map D.int)]) = .nx [a, b, c, some (.cell h.length), v'] (h ++ [.lst ((addD u d L).map D.int)])
  | [], u, v, _ => ⟨v, by simp [addD]⟩
  | i :: L, u, v, hb => by
    obtain ⟨h0, h1⟩ := hb i List.mem_cons_self
    obtain ⟨v', ih⟩ := lb_for cx s hs f d hf a b c h L (addAt u i d) (some (.int i)) fun j hj => by
      rw [addAt_len]
      exact hb j (List.mem_cons_of_mem _ hj)
    refine ⟨v', ?_⟩
    have e := setIx_add cx [a, b, c, some (.cell h.length), some (.int i)] h u i d f h0 h1 rfl rfl hf
    rw [List.map_cons, forL_cons]
    simp only [put_n, List.length_cons, List.length_nil, show 4 < 0 + 1 + 1 + 1 + 1 + 1 by omega, if_true, List.set_cons_succ, List.set_cons_zero, sAll_one, e, O.turn_nx, hs]
    simpa [addD] using ih
theorem imin_neg : ∀ (is : List Int) (i : Int), decide (imin i is < 0) = (i :: is).any fun x => decide (x < 0)
  | [], i => by
    show decide (i < 0) = _
    simp
  | j :: is, i => by
    have ih := imin_neg is (if j < i then j else i)
    show decide (imin (if j < i then j else i) is < 0) = _
    simp only [List.any_cons] at ih ⊢
    rw [ih]
    by_cases q : j < i
    · simp only [q, if_true]
      by_cases p : j < 0
      · simp [p]
      · have : ¬ i < 0 := by omega
        simp [p, this]
    · simp only [q, if_false]
      by_cases p : i < 0
      · simp [p]
      · have : ¬ j < 0 := by omega
        simp [p, this]
theorem addAt_get (u : List Int) (i d : Int) (j : Nat) (hi : 0 ≤ i) : (addAt u i d).getD j 0 = if i.toNat = j ∧ j < u.length then u.getD j 0 + d else u.getD j 0 := by
  simp only [addAt, List.getD, List.getElem?_set]
  by_cases e : i.toNat = j
  · subst e
    by_cases q : i.toNat < u.length <;> simp [q]
  · simp [e]
theorem any_get {w : List Int} : (w.any fun x => decide (x < 0)) = true ↔ ∃ j, j < w.length ∧ w.getD j 0 < 0 := by
  rw [List.any_eq_true]
  constructor
  · rintro ⟨x, hx, h⟩
    obtain ⟨j, hj, rfl⟩ := List.mem_iff_getElem.mp hx
    exact ⟨j, hj, by simpa [List.getD, hj] using h⟩
  · rintro ⟨j, hj, h⟩
    exact ⟨w[j], List.getElem_mem hj, by simpa [List.getD, hj] using h⟩
theorem get_nonneg {u : List Int} (h : ∀ i ∈ u, 0 ≤ i) (j : Nat) : 0 ≤ u.getD j 0 := by
  by_cases q : j < u.length
  · have : u.getD j 0 = u[j] := by simp [List.getD, q]
    rw [this]
    exact h _ (List.getElem_mem q)
  · have : u.getD j 0 = 0 := by simp [List.getD, q]
    omega
theorem taken_neg (u : List Int) (hu : ∀ i ∈ u, 0 ≤ i) (p : Pr) (h0 : 0 ≤ p.1) (h1 : p.1 ≤ p.2) (h2 : p.2 < u.length) : ((addAt (addAt u p.1 (-1)) p.2 (-1)).any fun x => decide (x < 0)) = !can u p := by
  have key : ((addAt (addAt u p.1 (-1)) p.2 (-1)).any fun x => decide (x < 0)) = true ↔ can u p = false := by
    rw [any_get]
    have g : ∀ j, j < u.length → (addAt (addAt u p.1 (-1)) p.2 (-1)).getD j 0 = u.getD j 0 + (if p.1.toNat = j then -1 else 0) + (if p.2.toNat = j then -1 else 0) := fun j hj => by
      rw [addAt_get _ _ _ _ (by omega), addAt_get _ _ _ _ h0, addAt_len]
      by_cases a : p.1.toNat = j <;> by_cases b : p.2.toNat = j <;> simp [a, b, hj]
    have n1 := get_nonneg hu p.1.toNat
    have n2 := get_nonneg hu p.2.toNat
    constructor
    · rintro ⟨j, hj, hn⟩
      simp only [addAt_len] at hj
      rw [g j hj] at hn
      have nj := get_nonneg hu j
      simp only [can, Bool.and_eq_false_iff, decide_eq_false_iff_not]
      by_cases a : p.1.toNat = j
      · by_cases b : p.2.toNat = j
        · right
          have : p.1 = p.2 := by omega
          simp only [a, b, if_true] at hn
          simp only [this, if_true, b]
          omega
        · left
          simp only [a, b, if_true, if_false] at hn
          rw [a]
          omega
      · by_cases b : p.2.toNat = j
        · right
          have : p.1 ≠ p.2 := by omega
          simp only [a, b, if_true, if_false] at hn
          simp only [this, if_false, b]
          omega
        · simp only [a, b, if_false] at hn
          omega
    · intro hc
      simp only [can, Bool.and_eq_false_iff, decide_eq_false_iff_not] at hc
      by_cases e : p.1 = p.2
      · refine ⟨p.2.toNat, by simp only [addAt_len]; omega, ?_⟩
        rw [g _ (by omega)]
        simp only [e, if_true] at hc ⊢
        omega
      · rcases hc with hc | hc
        · refine ⟨p.1.toNat, by simp only [addAt_len]; omega, ?_⟩
          rw [g _ (by omega)]
          have : p.2.toNat ≠ p.1.toNat := by omega
          simp only [this, if_true, if_false]
          omega
        · refine ⟨p.2.toNat, by simp only [addAt_len]; omega, ?_⟩
          rw [g _ (by omega)]
          have : p.1.toNat ≠ p.2.toNat := by omega
          simp only [this, if_true, if_false]
          simp only [e, if_false] at hc
          omega
  cases q : can u p with
  | false => simpa using key.mpr q
  | true =>
    rw [Bool.not_true, ← Bool.not_eq_true]
    intro w
    rw [key.mp w] at q
    cases q
theorem call_lbeh (n : Nat) (t : Tb) (o : t.Ok) (d : D) (u : List Int) (p : Pr) (h : Hh) (v : viewL h d = some (u.map D.int)) (hl : u.length = t.k) (hu : ∀ i ∈ u, 0 ≤ i) (hp : p ∈ prs t.k) : (ctxN G (n + 5)).call 26 [t.d, d, pD p] h = .ok (if can u p then uD (t.beh u p) else .non) h := by
  rw [ctxN_call G (k := 26) (f := f_law_behind) (n := n + 1) rfl]
  obtain ⟨r0, r1, r2⟩ := prs_rng hp
  have c22 := fun h => call_lpairs n t.k o.k4 o.k1 h
  obtain ⟨v1, e1'⟩ := lb_for (ctxN G (n + 4)) ⟨[], [.int p.1, .int p.2]⟩ (fun _ => rfl) pSub (-1) (fun a h => by simp; omega) (some t.d) (some d) (some (pD p)) h [p.1, p.2] u none fun i hi => by
    simp only [List.mem_cons, List.not_mem_nil, or_false] at hi
    omega
  have hw : addD u (-1) [p.1, p.2] = addAt (addAt u p.1 (-1)) p.2 (-1) := rfl
  rw [hw] at e1'
  obtain ⟨v2, e2'⟩ := lb_for (ctxN G (n + 4)) ⟨[], (t.back p).map D.int⟩ (fun _ => rfl) (pAdd false) 1 (fun a h => rfl) (some t.d) (some d) (some (pD p)) h (t.back p) (addAt (addAt u p.1 (-1)) p.2 (-1)) v1 fun i hi => by
    rw [addAt_len, addAt_len, hl]
    exact o.rng _ (o.back_mem hp).2 i hi
  have hw2 : addD (addAt (addAt u p.1 (-1)) p.2 (-1)) 1 (t.back p) = t.beh u p := rfl
  rw [hw2] at e2'
  have pm : ∃ m : Int, pMin1 (.cell h.length) (h ++ [.lst ((addAt (addAt u p.1 (-1)) p.2 (-1)).map D.int)]) = some (.int m, h ++ [.lst ((addAt (addAt u p.1 (-1)) p.2 (-1)).map D.int)]) ∧ decide (m < 0) = !can u p := by
    have tn := taken_neg u hu p r0 r1 (by omega)
    cases q : addAt (addAt u p.1 (-1)) p.2 (-1) with
    | nil =>
      have := congrArg List.length q
      simp only [addAt_len, List.length_nil] at this
      have := o.k1
      omega
    | cons x xs =>
      rw [q] at tn
      refine ⟨imin x xs, ?_, by rw [imin_neg]; exact tn⟩
      have := viewL_last h ((x :: xs).map D.int)
      simp only [pMin1, this, Option.bind_some, intsOf_map]
  obtain ⟨m, em, hm⟩ := pm
  have pl : pList true d h = some (.cell h.length, h ++ [.lst (u.map D.int)]) := by simp only [pList, viewK_of v, mkL_T]
  have s1 : sAsg (.n 3) (e1 (pList true) (eVar 1)) (ctxN G (n + 4)) [some t.d, some d, some (pD p), none, none] h = .nx [some t.d, some d, some (pD p), some (.cell h.length), none] (h ++ [.lst (u.map D.int)]) := by
    simp only [sAsg_eq, e1_eq, eVar_eq, List.getElem?_cons_succ, List.getElem?_cons_zero, look_some, R.bind_ok, pl, up_some, R.st_ok, put_n]
    rfl
  have s2 : sFor (.n 4) (iSeq (eVar 2)) (sAll [sSetIx (eVar 3) (eVar 4) (e2 pSub (e2 pIx (eVar 3) (eVar 4)) (eK (.int 1)))]) (ctxN G (n + 4)) [some t.d, some d, some (pD p), some (.cell h.length), none] (h ++ [.lst (u.map D.int)]) = .nx [some t.d, some d, some (pD p), some (.cell h.length), v1] (h ++ [.lst ((addAt (addAt u p.1 (-1)) p.2 (-1)).map D.int)]) := by
    rw [sFor_eq, iSeq_eq]
    simp only [eVar_eq, List.getElem?_cons_succ, List.getElem?_cons_zero, look_some, R.bind_ok]
    exact e1'
  have s3 : (e2 pLt (e1 pMin1 (eVar 3)) (eK (.int 0))) (ctxN G (n + 4)) [some t.d, some d, some (pD p), some (.cell h.length), v1] (h ++ [.lst ((addAt (addAt u p.1 (-1)) p.2 (-1)).map D.int)]) = .ok (.bl (!can u p)) (h ++ [.lst ((addAt (addAt u p.1 (-1)) p.2 (-1)).map D.int)]) := by
    simp only [e2_eq, e1_eq, eVar_eq, List.getElem?_cons_succ, List.getElem?_cons_zero, look_some, R.bind_ok, em, up_some, eK_eq, pLt_int, hm]
  cases q : can u p with
  | false =>
    rw [q] at s3
    refine run_rt (u := [.lst ((addAt (addAt u p.1 (-1)) p.2 (-1)).map D.int)]) (d := .non) rfl rfl ?_ rfl
    show sAll _ (ctxN G (n + 4)) [some t.d, some d, some (pD p), none, none] h = _
    refine (sAll_step s1).trans ((sAll_step s2).trans ?_)
    rw [sAll_cons, sIf_eq, s3]
    simp
  | true =>
    rw [q] at s3
    have ei : (t.bs.map uD)[ixP p (prs t.k)]? = some (uD (t.back p)) := by rw [List.getElem?_map, (o.back_mem hp).1]; rfl
    refine run_rt (u := [.lst ((t.beh u p).map D.int)]) (d := .cell h.length) rfl rfl ?_ (thru_cell h _)
    show sAll _ (ctxN G (n + 4)) [some t.d, some d, some (pD p), none, none] h = _
    refine (sAll_step s1).trans ((sAll_step s2).trans ?_)
    refine (sAll_step (r1 := [some t.d, some d, some (pD p), some (.cell h.length), v1]) (h1 := h ++ [.lst ((addAt (addAt u p.1 (-1)) p.2 (-1)).map D.int)]) ?_).trans ?_
    · rw [sIf_eq, s3]
      simp
    refine (sAll_step (r1 := [some t.d, some d, some (pD p), some (.cell h.length), v2]) (h1 := h ++ [.lst ((t.beh u p).map D.int)]) ?_).trans ?_
    · have i := pIx_nat (h := h ++ [.lst ((addAt (addAt u p.1 (-1)) p.2 (-1)).map D.int)]) (d := .lst (t.bs.map uD)) rfl ei
      rw [sFor_eq, iSeq_eq]
      simp only [e2_eq, eM1_eq, eCall_eq, evs_cons, evs_nil, eVar_eq, List.getElem?_cons_succ, List.getElem?_cons_zero, look_some, eK_eq, R.bind_ok, t.ix0, t.ix1, up_some, c22, viewL_lst, Option.isSome_some, if_true, pIndex_pD hp, i]
      exact e2'
    simp
end M

set_option autoImplicit false
set_option linter.all false
set_option maxRecDepth 100000
/-! Plain facts: _law_same. -/
namespace M
theorem for_invH {cx : Ctx} {s : Src} (hs : ∀ h, still s h = true) {t : T} {body : FS} (P : Env → Hh → Prop) : ∀ (items : List D), (∀ x ∈ items, ∀ r h, P r h → ∃ r1, asg t x r = some r1 ∧ ∃ r' h', body cx r1 h = .nx r' h' ∧ P r' h') → ∀ r h, P r h → ∃ r' h', forL cx s t body items r h = .nx r' h' ∧ P r' h'
  | [], _, r, h, p => ⟨r, h, by simp, p⟩
  | x :: xs, hb, r, h, p => by
    obtain ⟨r1, e1, r2, h2, e2, p2⟩ := hb x List.mem_cons_self r h p
    obtain ⟨r3, h3, e3, p3⟩ := for_invH hs P xs (fun y hy => hb y (List.mem_cons_of_mem _ hy)) r2 h2 p2
    refine ⟨r3, h3, ?_, p3⟩
    rw [forL_cons]
    simp only [put, e1, e2, O.turn_nx, hs, if_true, e3]
theorem eqvs_pDs : ∀ ps : List Pr, eqvs (ps.map pD) (ps.map pD) = true
  | [] => rfl
  | p :: ps => by simp [eqvs, eqv_pD, eqvs_pDs ps]
theorem neq_pDs {h : Hh} {d e : D} {ps : List Pr} (v : viewL h d = some (ps.map pD)) (w : viewL h e = some (ps.map pD)) : pEq true d e h = some (.bl false, h) := by
  simp only [pEq, deep_pDs v, deep_pDs w, eqv, eqvs_pDs]
  rfl
theorem neq_ints {h : Hh} {d e : D} {u : List Int} (v : viewL h d = some (u.map D.int)) (w : viewL h e = some (u.map D.int)) : pEq true d e h = some (.bl false, h) := by
  simp only [pEq, deep_ints v, deep_ints w, eqv, eqvs_ints]
  simp
theorem call_says (n : Nat) (a : Bool) (h : Hh) : (ctxN G (n + 4)).call 21 [.bl a, .bl a] h = .ok (.bl true) h := by
  rw [ctxN_call G (k := 21) (f := f_law_says) rfl]
  refine run_nc0 rfl rfl ?_ rfl
  have q : pEq false (.bl a) (.bl a) h = some (.bl true, h) := by
    have : deep h (.bl a) = some (.bl a) := by simp [deep, thru, plain]
    simp only [pEq, this, eqv]
    cases a <;> rfl
  have y : pIsTy .bool (.bl a) h = some (.bl true, h) := by simp [pIsTy, tyOk, isTy]
  simp only [f_law_says, List.map, List.cons_append, List.nil_append, sAll_one, sRet_eq, eAnd_eq, e1_eq, e2_eq, eVar_eq, List.getElem?_cons_succ, List.getElem?_cons_zero, look_some, R.bind_ok, y, up_some, ifb_bl, if_true, q, R.st_ok]
theorem pSum_view {h : Hh} {d : D} {u : List Int} (v : viewL h d = some (u.map D.int)) : pSum d h = some (.int (isum u), h) := by
  simp only [pSum, viewK_of v, Option.bind_some, intsOf_map]
abbrev sameB1 : FS := sAll [sIf (e1 (pIsN true) (eCall 26 [eVar 1, e2 pIx (eVar 2) (e1 pNeg (eK (.int 1))), eVar 5])) (sAll [sExpr (eM1 pAppend (eVar 4) (eVar 5))]) (sAll [])]
abbrev sameB2 : FS := sAll [sPar [7, 8, 9] [eMeth [(0, 14)] (eVar 0) [], eMeth [(0, 15)] (eVar 0) [], eMeth [(0, 16)] (eVar 0) []],
    sIf (eOr (e2 (pEq true) (eVar 7) (e2 pIx (eVar 2) (e1 pNeg (eK (.int 1))))) (eOr (e2 (pEq true) (eVar 8) (eVar 3)) (e2 (pEq true) (eVar 9) (eVar 4)))) (sAll [sRet (eK (.bl false))]) (sAll []),
    sIf (eNot (eCall 21 [eMeth [(0, 17)] (eVar 0) [], e2 pLt (e1 pSum (e2 pIx (eVar 2) (e1 pNeg (eK (.int 1))))) (eK (.int 2))])) (sAll [sRet (eK (.bl false))]) (sAll []),
    sIf (eNot (e1 pAll (eComp false [5] (.n 5) (iSeq (e2 (pAdd false) (eVar 8) (eVar 9))) (eYes) (e1 (pIsTy .tuple) (eVar 5))))) (sAll [sRet (eK (.bl false))]) (sAll []),
    sExpr (eM1 pAppend (eVar 7) (eK (.int 1))),
    sExpr (eM1 pAppend (eVar 8) (eTup [eK (.int 0), eK (.int 0)])),
    sExpr (eM1 pAppend (eVar 9) (eTup [eK (.int 0), eK (.int 0)]))]
/-- what _law_same is given -/
structure SameIn (H : Hh) (c c1 c2 : Nat) (t : Tb) (us : List (List Int)) (u : List Int) (ps : List Pr) (d2 d3 : D) (L : List D) (x : D) : Prop where
  bag : BagAt H c c1 c2 t us u ps
  st : ∀ g, viewS (H ++ g) d2 = some (L ++ [x])
  xu : ∀ g, viewL (H ++ g) x = some (u.map D.int)
  dn : ∀ g, viewL (H ++ g) d3 = some (ps.map pD)
  pos : ∀ i ∈ u, 0 ≤ i
section
variable {H : Hh} {c c1 c2 : Nat} {t : Tb} {us : List (List Int)} {u : List Int} {ps : List Pr} {d2 d3 x : D} {L : List D}
theorem same_for1 (n : Nat) (o : t.Ok) (S : SameIn H c c1 c2 t us u ps d2 d3 L x) (s : Src) (hs : ∀ h, still s h = true) : ∀ (Q acc : List Pr) (v5 : Option D), (∀ p ∈ Q, p ∈ prs t.k) → acc.length + Q.length ≤ 1000 →
    ∃ v5', forL (ctxN G (n + 5)) s (.n 5) sameB1 (Q.map pD) [some (.cell c), some t.d, some d2, some d3, some (.cell H.length), v5, none, none, none, none] (H ++ [.lst (acc.map pD)]) = .nx [some (.cell c), some t.d, some d2, some d3, some (.cell H.length), v5', none, none, none, none] (H ++ [.lst ((acc ++ Q.filter (can u)).map pD)])
  | [], acc, v5, _, _ => ⟨v5, by simp⟩
  | p :: Q, acc, v5, hQ, hl => by
    simp only [List.length_cons] at hl
    have hp := hQ p List.mem_cons_self
    have e26 := call_lbeh n t o x u p (H ++ [.lst (acc.map pD)]) (S.xu _) S.bag.uk S.pos hp
    have la := pIx_last (S.st [.lst (acc.map pD)])
    have neg1 : ∀ h, pNeg (.int 1) h = some (.int (-1), h) := fun _ => rfl
    have cond : (e1 (pIsN true) (eCall 26 [eVar 1, e2 pIx (eVar 2) (e1 pNeg (eK (.int 1))), eVar 5])) (ctxN G (n + 5)) [some (.cell c), some t.d, some d2, some d3, some (.cell H.length), some (pD p), none, none, none, none] (H ++ [.lst (acc.map pD)]) = .ok (.bl (can u p)) (H ++ [.lst (acc.map pD)]) := by
      simp only [e1_eq, e2_eq, eCall_eq, evs_cons, evs_nil, eVar_eq, List.getElem?_cons_succ, List.getElem?_cons_zero, look_some, eK_eq, R.bind_ok, neg1, up_some, la, e26, pIsN_T]
      cases can u p <;> rfl
    have ap := pAppend_last H (acc.map pD) (pD p) (by simp [LIM]; omega)
    have vw := viewL_last H (acc.map pD)
    rw [List.map_cons, forL_cons]
    simp only [put_n, List.length_cons, List.length_nil, show 5 < 0 + 1 + 1 + 1 + 1 + 1 + 1 + 1 + 1 + 1 + 1 by omega, if_true, List.set_cons_succ, List.set_cons_zero, sAll_one, sIf_eq, cond, R.st_ok, ifo_bl]
    cases q : can u p with
    | false =>
      obtain ⟨v', ih⟩ := same_for1 n o S s hs Q acc (some (pD p)) (fun y hy => hQ y (List.mem_cons_of_mem _ hy)) (by omega)
      refine ⟨v', ?_⟩
      simp only [Bool.false_eq_true, if_false, sAll_nil, O.turn_nx, hs, if_true, List.filter_cons, q]
      exact ih
    | true =>
      obtain ⟨v', ih⟩ := same_for1 n o S s hs Q (acc ++ [p]) (some (pD p)) (fun y hy => hQ y (List.mem_cons_of_mem _ hy)) (by simp; omega)
      refine ⟨v', ?_⟩
      simp only [if_true, sAll_one, sExpr_eq, eM1_eq, eVar_eq, List.getElem?_cons_succ, List.getElem?_cons_zero, look_some, R.bind_ok, vw, Option.isSome_some, ap, up_some, R.st_ok, O.turn_nx, hs, List.filter_cons, q]
      simpa [List.map_append, List.append_assoc] using ih
theorem opens_len (o : t.Ok) (u : List Int) : (t.opens u).length ≤ 10 := Nat.le_trans (List.length_filter_le _ _) (prs_len o.k4)
theorem cell_at3 (K : Hh) (a b d : Cell) : ((K ++ [a]) ++ [b] ++ [d])[K.length]? = some a ∧ ((K ++ [a]) ++ [b] ++ [d])[(K ++ [a]).length]? = some b ∧ ((K ++ [a]) ++ [b] ++ [d])[(K ++ [a] ++ [b]).length]? = some d := by
  refine ⟨by simp, ?_, ?_⟩
  · rw [List.getElem?_append_left (by simp), List.getElem?_append_right (Nat.le_refl _)]
    simp
  · rw [List.getElem?_append_right (Nat.le_refl _)]
    simp
theorem same_turn (n : Nat) (o : t.Ok) (S : SameIn H c c1 c2 t us u ps d2 d3 L x) (g : Hh) (v5 v6 v7 v8 v9 : Option D) : ∃ (w7 w8 w9 : Option D) (g' : Hh), sameB2 (ctxN G (n + 6)) [some (.cell c), some t.d, some d2, some d3, some (.cell H.length), v5, v6, v7, v8, v9] (H ++ .lst ((t.opens u).map pD) :: g) = .nx [some (.cell c), some t.d, some d2, some d3, some (.cell H.length), v5, v6, w7, w8, w9] (H ++ .lst ((t.opens u).map pD) :: g') := by
  obtain ⟨K, eK⟩ : ∃ K, K = H ++ .lst ((t.opens u).map pD) :: g := ⟨_, rfl⟩
  have bK : BagAt K c c1 c2 t us u ps := by rw [eK]; exact S.bag.grow _
  have b1 := bK.grow [.lst (u.map D.int)]
  have b2 := b1.grow [.lst (ps.map pD)]
  have b3 := b2.grow [.lst ((t.opens u).map pD)]
  have m1 := bag_marbles (n + 2) bK
  have m2 := bag_done (n + 2) b1
  have m3 := bag_can n o b2
  obtain ⟨g1, g2, g3⟩ := cell_at3 K (.lst (u.map D.int)) (.lst (ps.map pD)) (.lst ((t.opens u).map pD))
  obtain ⟨K3, eK3⟩ : ∃ K3, K3 = K ++ [.lst (u.map D.int)] ++ [.lst (ps.map pD)] ++ [.lst ((t.opens u).map pD)] := ⟨_, rfl⟩
  have eK3' : K3 = H ++ (.lst ((t.opens u).map pD) :: g ++ [.lst (u.map D.int), .lst (ps.map pD), .lst ((t.opens u).map pD)]) := by rw [eK3, eK]; simp
  rw [← eK3] at b3 g1 g2 g3 m3
  have n1 : K.length ≠ (K ++ [Cell.lst (u.map D.int)]).length := by simp
  have n2 : K.length ≠ (K ++ [Cell.lst (u.map D.int)] ++ [Cell.lst (ps.map pD)]).length := by simp
  have n3 : (K ++ [Cell.lst (u.map D.int)]).length ≠ (K ++ [Cell.lst (u.map D.int)] ++ [Cell.lst (ps.map pD)]).length := by simp
  obtain ⟨i7, e7⟩ : ∃ i, i = K.length := ⟨_, rfl⟩
  obtain ⟨i8, e8⟩ : ∃ i, i = (K ++ [Cell.lst (u.map D.int)]).length := ⟨_, rfl⟩
  obtain ⟨i9, e9⟩ : ∃ i, i = (K ++ [Cell.lst (u.map D.int)] ++ [Cell.lst (ps.map pD)]).length := ⟨_, rfl⟩
  rw [← e7] at m1 g1 n1 n2
  rw [← e8] at m2 g2 n1 n3
  rw [← e9] at m3 g3 n2 n3
  have l7 : H.length + 1 + g.length = i7 := by rw [e7, eK]; simp; omega
  have l8 : i8 = i7 + 1 := by rw [e8, e7]; simp
  have l9 : i9 = i7 + 2 := by rw [e9, e7]; simp
  have la : pIx d2 (.int (-1)) K3 = some (x, K3) := by rw [eK3']; exact pIx_last (S.st _)
  have xv : viewL K3 x = some (u.map D.int) := by rw [eK3']; exact S.xu _
  have dv : viewL K3 d3 = some (ps.map pD) := by rw [eK3']; exact S.dn _
  have ov : viewL K3 (.cell H.length) = some ((t.opens u).map pD) := by rw [eK3']; exact mid_view H _ _
  have neg1 : ∀ h, pNeg (.int 1) h = some (.int (-1), h) := fun _ => rfl
  have q7 := neq_ints (view_at g1) xv
  have q8 := neq_pDs (view_at g2) dv
  have q9 := neq_pDs (view_at g3) ov
  have en := bag_ended (n + 2) b3
  have sy := call_says (n + 2) (decide (isum u < 2)) K3
  have sm := pSum_view xv
  have lk : ∀ j : Nat, lookM 0 [(0, j)] = some j := fun j => rfl
  have pa : pAdd false (.cell i8) (.cell i9) K3 = some (.lst ((ps ++ t.opens u).map pD), K3) := by
    rw [pAdd_view (view_at g2) (view_at g3) (by have := opens_len o u; have := S.bag.lp; simp [LIM]; omega), mkL_F, List.map_append]
  have al : e1 pAll (eComp false [5] (.n 5) (iSeq (e2 (pAdd false) (eVar 8) (eVar 9))) (eYes) (e1 (pIsTy .tuple) (eVar 5))) (ctxN G (n + 6)) [some (.cell c), some t.d, some d2, some d3, some (.cell H.length), v5, v6, some (.cell i7), some (.cell i8), some (.cell i9)] K3 = .ok (.bl true) K3 := by
    have := all_comp (cx := ctxN G (n + 6)) (r := [some (.cell c), some t.d, some d2, some d3, some (.cell H.length), v5, v6, some (.cell i7), some (.cell i8), some (.cell i9)]) (h := K3) (d := .lst ((ps ++ t.opens u).map pD)) (xs := (ps ++ t.opens u).map pD) (fa := e2 (pAdd false) (eVar 8) (eVar 9)) (elt := e1 (pIsTy .tuple) (eVar 5)) (own := [5]) (t := .n 5) (f := fun _ => true) (by
      simp only [e2_eq, eVar_eq, List.getElem?_cons_succ, List.getElem?_cons_zero, look_some, R.bind_ok, pa, up_some]) rfl (by have := opens_len o u; have := S.bag.lp; simp [LIM]; omega) (fun y hy => by
      obtain ⟨p, _, rfl⟩ := List.mem_map.mp hy
      exact ⟨[some (.cell c), some t.d, some d2, some d3, some (.cell H.length), some (pD p), v6, some (.cell i7), some (.cell i8), some (.cell i9)], rfl, by simp [pIsTy, tyOk, isTy, pD]⟩)
    rw [this]
    simp
  have a7 := append_at g1 (.int 1) (by have := S.bag.uk; have := o.k4; simp [LIM]; omega)
  obtain ⟨K4, eK4⟩ : ∃ K4, K4 = K3.set i7 (.lst (u.map D.int ++ [.int 1])) := ⟨_, rfl⟩
  rw [← eK4] at a7
  have g2' : K4[i8]? = some (.lst (ps.map pD)) := by rw [eK4, List.getElem?_set_ne n1]; exact g2
  have a8 := append_at g2' (.tup [.int 0, .int 0]) (by have := S.bag.lp; simp [LIM]; omega)
  obtain ⟨K5, eK5⟩ : ∃ K5, K5 = K4.set i8 (.lst (ps.map pD ++ [.tup [.int 0, .int 0]])) := ⟨_, rfl⟩
  rw [← eK5] at a8
  have g3' : K5[i9]? = some (.lst ((t.opens u).map pD)) := by rw [eK5, List.getElem?_set_ne n3, eK4, List.getElem?_set_ne n2]; exact g3
  have a9 := append_at g3' (.tup [.int 0, .int 0]) (by have := opens_len o u; simp [LIM]; omega)
  have v7' := view_at g1
  have v8' := view_at g2'
  have v9' := view_at g3'
  have fin : ∃ g', K5.set i9 (.lst ((t.opens u).map pD ++ [.tup [.int 0, .int 0]])) = H ++ .lst ((t.opens u).map pD) :: g' := by
    have sp : ∀ (g : Hh) (i : Nat) (y : Cell), H.length + 1 ≤ i → (H ++ .lst ((t.opens u).map pD) :: g).set i y = H ++ .lst ((t.opens u).map pD) :: g.set (i - H.length - 1) y := fun g i y hi => by
      rw [List.set_append_right _ _ (by omega)]
      obtain ⟨j, hj⟩ : ∃ j, i - H.length = j + 1 := ⟨i - H.length - 1, by omega⟩
      rw [hj]
      simp
    rw [eK5, eK4, eK3', List.cons_append, sp _ _ _ (by omega), sp _ _ _ (by omega), sp _ _ _ (by omega)]
    exact ⟨_, rfl⟩
  obtain ⟨g', fin⟩ := fin
  refine ⟨some (.cell i7), some (.cell i8), some (.cell i9), g', ?_⟩
  rw [← eK]
  refine (sAll_step (r1 := [some (.cell c), some t.d, some d2, some d3, some (.cell H.length), v5, v6, some (.cell i7), some (.cell i8), some (.cell i9)]) (h1 := K3) ?_).trans ?_
  · simp only [sPar_eq, evs_cons, evs_nil, eMeth_eq, eVar_eq, List.getElem?_cons_succ, List.getElem?_cons_zero, look_some, R.bind_ok, bK.insAt, meth_some, lk, m1, b1.insAt, m2, b2.insAt, m3, R.stA_ok]
    rfl
  refine (sAll_step (r1 := [some (.cell c), some t.d, some d2, some d3, some (.cell H.length), v5, v6, some (.cell i7), some (.cell i8), some (.cell i9)]) (h1 := K3) ?_).trans ?_
  · simp only [sIf_eq, eOr_eq, e2_eq, e1_eq, eVar_eq, List.getElem?_cons_succ, List.getElem?_cons_zero, look_some, eK_eq, R.bind_ok, neg1, up_some, la, q7, q8, q9, ifb_bl, Bool.false_eq_true, if_false, R.st_ok, ifo_bl, sAll_nil]
  refine (sAll_step (r1 := [some (.cell c), some t.d, some d2, some d3, some (.cell H.length), v5, v6, some (.cell i7), some (.cell i8), some (.cell i9)]) (h1 := K3) ?_).trans ?_
  · simp only [sIf_eq, eNot_eq, eCall_eq, evs_cons, evs_nil, eMeth_eq, e2_eq, e1_eq, eVar_eq, List.getElem?_cons_succ, List.getElem?_cons_zero, look_some, eK_eq, R.bind_ok, b3.insAt, meth_some, lk, en, neg1, up_some, la, sm, pLt_int, sy, notb_bl, Bool.not_true, R.st_ok, ifo_bl, Bool.false_eq_true, if_false, sAll_nil]
  refine (sAll_step (r1 := [some (.cell c), some t.d, some d2, some d3, some (.cell H.length), v5, v6, some (.cell i7), some (.cell i8), some (.cell i9)]) (h1 := K3) ?_).trans ?_
  · rw [sIf_eq, eNot_eq, al]
    simp
  refine (sAll_step (r1 := [some (.cell c), some t.d, some d2, some d3, some (.cell H.length), v5, v6, some (.cell i7), some (.cell i8), some (.cell i9)]) (h1 := K4) ?_).trans ?_
  · simp only [sExpr_eq, eM1_eq, eVar_eq, List.getElem?_cons_succ, List.getElem?_cons_zero, look_some, eK_eq, R.bind_ok, v7', Option.isSome_some, if_true, a7, up_some, R.st_ok]
  refine (sAll_step (r1 := [some (.cell c), some t.d, some d2, some d3, some (.cell H.length), v5, v6, some (.cell i7), some (.cell i8), some (.cell i9)]) (h1 := K5) ?_).trans ?_
  · simp only [sExpr_eq, eM1_eq, eTup_eq, evs_cons, evs_nil, eVar_eq, List.getElem?_cons_succ, List.getElem?_cons_zero, look_some, eK_eq, R.bind_ok, v8', Option.isSome_some, if_true, a8, up_some, R.st_ok]
  rw [sAll_one]
  simp only [sExpr_eq, eM1_eq, eTup_eq, evs_cons, evs_nil, eVar_eq, List.getElem?_cons_succ, List.getElem?_cons_zero, look_some, eK_eq, R.bind_ok, v9', Option.isSome_some, if_true, a9, up_some, R.st_ok, fin]
theorem call_same (n : Nat) (o : t.Ok) (S : SameIn H c c1 c2 t us u ps d2 d3 L x) : (ctxN G (n + 7)).call 28 [.cell c, t.d, d2, d3] H = .ok (.bl true) H := by
  rw [ctxN_call G (k := 28) (f := f_law_same) (n := n + 3) rfl]
  obtain ⟨v5, e1'⟩ := same_for1 (n + 1) o S ⟨[], (prs t.k).map pD⟩ (fun _ => rfl) (prs t.k) [] none (fun p hp => hp) (by have := prs_len o.k4; simp; omega)
  obtain ⟨r', h', e2', g', hg⟩ := for_invH (cx := ctxN G (n + 6)) (s := ⟨[], rangeL 0 2⟩) (fun _ => rfl) (t := .n 6) (body := sameB2) (fun r h => ∃ v6 v7 v8 v9 g, r = [some (.cell c), some t.d, some d2, some d3, some (.cell H.length), v5, v6, v7, v8, v9] ∧ h = H ++ .lst ((t.opens u).map pD) :: g) (rangeL 0 2) (fun y _ r h ⟨v6, v7, v8, v9, g, er, eh⟩ => by
    subst er eh
    obtain ⟨w7, w8, w9, g', e⟩ := same_turn n o S g v5 (some y) v7 v8 v9
    exact ⟨_, rfl, _, _, e, some y, w7, w8, w9, g', rfl, rfl⟩) [some (.cell c), some t.d, some d2, some d3, some (.cell H.length), v5, none, none, none, none] (H ++ .lst ((t.opens u).map pD) :: []) ⟨_, _, _, _, _, rfl, rfl⟩
  obtain ⟨v7, v8, v9, g, er, eh⟩ := hg
  subst er eh
  refine run_any rfl rfl (h' := H ++ .lst ((t.opens u).map pD) :: g) ?_ (by simp) rfl
  show sAll _ (ctxN G (n + 6)) [some (.cell c), some t.d, some d2, some d3, none, none, none, none, none, none] H = _
  have c22 := call_lpairs (n + 2) t.k o.k4 o.k1 (H ++ [.lst []])
  refine (sAll_step (r1 := [some (.cell c), some t.d, some d2, some d3, some (.cell H.length), none, none, none, none, none]) (h1 := H ++ [.lst []]) rfl).trans ?_
  refine (sAll_step (r1 := [some (.cell c), some t.d, some d2, some d3, some (.cell H.length), v5, none, none, none, none]) (h1 := H ++ [.lst ((t.opens u).map pD)]) ?_).trans ?_
  · rw [sFor_eq, iSeq_eq]
    simp only [eCall_eq, evs_cons, evs_nil, e2_eq, eVar_eq, List.getElem?_cons_succ, List.getElem?_cons_zero, look_some, eK_eq, R.bind_ok, t.ix0, up_some, c22, seqW_lst, R.stS_ok]
    exact e1'
  refine (sAll_step e2').trans ?_
  simp
end
end M

set_option autoImplicit false
set_option linter.all false
set_option maxRecDepth 100000
/-! k01: what a deed does. -/
namespace M
theorem addAt_pos {u : List Int} (h : ∀ i ∈ u, 0 ≤ i) (i : Int) : ∀ j ∈ addAt u i 1, 0 ≤ j := fun j hj => by
  unfold addAt at hj
  rcases List.mem_or_eq_of_mem_set hj with hj | rfl
  · exact h j hj
  · have := get_nonneg h i.toNat
    omega
theorem addAll_pos : ∀ (b : List Int) {u : List Int}, (∀ i ∈ u, 0 ≤ i) → ∀ j ∈ addAll u b, 0 ≤ j
  | [], u, h => h
  | i :: b, u, h => addAll_pos b (addAt_pos h i)
theorem beh_pos (t : Tb) {u : List Int} (hu : ∀ i ∈ u, 0 ≤ i) {p : Pr} (hp : p ∈ prs t.k) (hl : u.length = t.k) (hc : can u p = true) : ∀ j ∈ t.beh u p, 0 ≤ j := by
  obtain ⟨r0, r1, r2⟩ := prs_rng hp
  have tn := taken_neg u hu p r0 r1 (by omega)
  rw [hc, Bool.not_true, List.any_eq_false] at tn
  exact addAll_pos _ fun i hi => by
    have := tn i hi
    simp only [decide_eq_true_eq] at this
    omega
/-- the law's own states: the first is the urn's cell -/
def stD (cu : Nat) : List (List Int) → List D
  | [] => []
  | _ :: vs => .cell cu :: vs.map uD
theorem stD_add (cu : Nat) (us : List (List Int)) (u v : List Int) : stD cu (us ++ [u] ++ [v]) = stD cu (us ++ [u]) ++ [uD v] := by
  cases us <;> simp [stD]
theorem stD_len (cu : Nat) (us : List (List Int)) : (stD cu us).length = us.length := by cases us <;> simp [stD]
structure W (H : Hh) (c c1 c2 cs cd cu e e1 e2 : Nat) (t : Tb) (u0 : List Int) (us : List (List Int)) (u : List Int) (ps : List Pr) : Prop where
  bag : BagAt H c c1 c2 t us u ps
  hs : H[cs]? = some (.lst (stD cu (us ++ [u])))
  hd : H[cd]? = some (.lst (ps.map pD))
  hu : H[cu]? = some (.lst (u0.map D.int))
  head : (us ++ [u]).head? = some u0
  len : us.length = ps.length
  good : ∀ w ∈ us ++ [u], w.length = t.k ∧ ∀ i ∈ w, 0 ≤ i
  other : BagAt H e e1 e2 t [] u0 []
  ne : cu < c ∧ c < c1 ∧ c1 < c2 ∧ c2 < e ∧ e < e1 ∧ e1 < e2 ∧ e2 < cs ∧ cs < cd
section
variable {H : Hh} {c c1 c2 cs cd cu e e1 e2 : Nat} {t : Tb} {u0 : List Int} {us : List (List Int)} {u : List Int} {ps : List Pr}
theorem W.last (w : W H c c1 c2 cs cd cu e e1 e2 t u0 us u ps) : ∃ L x, stD cu (us ++ [u]) = L ++ [x] ∧ ∀ g, viewL (H ++ g) x = some (u.map D.int) := by
  have hd := w.head
  cases us with
  | nil =>
    simp only [List.nil_append, List.head?_cons, Option.some.injEq] at hd
    subst hd
    refine ⟨[], .cell cu, rfl, fun g => view_at ?_⟩
    rw [List.getElem?_append_left (List.getElem?_eq_some_iff.mp w.hu).1]
    exact w.hu
  | cons v vs => exact ⟨.cell cu :: vs.map uD, uD u, by simp [stD], fun g => rfl⟩
theorem W.same (w : W H c c1 c2 cs cd cu e e1 e2 t u0 us u ps) : ∃ L x, SameIn H c c1 c2 t us u ps (.cell cs) (.cell cd) L x := by
  obtain ⟨L, x, h1, h2⟩ := w.last
  refine ⟨L, x, w.bag, fun g => ?_, h2, fun g => ?_, (w.good u (by simp)).2⟩
  · rw [← h1]
    refine viewS_of (view_at ?_)
    rw [List.getElem?_append_left (List.getElem?_eq_some_iff.mp w.hs).1]
    exact w.hs
  · refine view_at ?_
    rw [List.getElem?_append_left (List.getElem?_eq_some_iff.mp w.hd).1]
    exact w.hd
theorem W.same2 (w : W H c c1 c2 cs cd cu e e1 e2 t u0 us u ps) (h0 : ∀ i ∈ u0, 0 ≤ i) : SameIn H e e1 e2 t [] u0 [] (.lst [.cell cu]) (.lst []) [] (.cell cu) where
  bag := w.other
  st := fun g => rfl
  xu := fun g => view_at (by
    rw [List.getElem?_append_left (List.getElem?_eq_some_iff.mp w.hu).1]
    exact w.hu)
  dn := fun g => rfl
  pos := h0
theorem set2_get {H : Hh} {i j k : Nat} {x y : Cell} (h1 : i ≠ k) (h2 : j ≠ k) : ((H.set i x).set j y)[k]? = H[k]? := by
  rw [List.getElem?_set_ne h2, List.getElem?_set_ne h1]
theorem BagAt.off2 (b : BagAt H c c1 c2 t us u ps) {i j : Nat} (x y : Cell) (h0 : i ≠ c) (h1 : i ≠ c1) (h2 : i ≠ c2) (k0 : j ≠ c) (k1 : j ≠ c1) (k2 : j ≠ c2) : BagAt ((H.set i x).set j y) c c1 c2 t us u ps := (b.off x h0 h1 h2).off y k0 k1 k2
/-- after a draw, the law's lists brought up, too -/
theorem W.drawn (w : W H c c1 c2 cs cd cu e e1 e2 t u0 us u ps) (p : Pr) (hp : p ∈ prs t.k) (hc : can u p = true) (h1 : us.length < 1000) (g : Hh) :
    W (((bagDrawn H c1 c2 (us ++ [u] ++ [t.beh u p]) ps p ++ g).set cs (.lst (stD cu (us ++ [u]) ++ [uD (t.beh u p)]))).set cd (.lst (ps.map pD ++ [pD p]))) c c1 c2 cs cd cu e e1 e2 t u0 (us ++ [u]) (t.beh u p) (ps ++ [p]) := by
  have ne := w.ne
  obtain ⟨o1, o2, o3, o4, o5, o6, o7, o8⟩ := ne
  have lk := w.len
  have gu := w.good u (by simp)
  have bl : (bagDrawn H c1 c2 (us ++ [u] ++ [t.beh u p]) ps p).length = H.length := by simp [bagDrawn]
  have lcs := (List.getElem?_eq_some_iff.mp w.hs).1
  have lcd := (List.getElem?_eq_some_iff.mp w.hd).1
  have lcu := (List.getElem?_eq_some_iff.mp w.hu).1
  have bd := (w.bag.drawn p (t.beh u p) (by rw [beh_len]; exact w.bag.uk) h1 (by omega)).grow g
  refine ⟨bd.off2 _ _ ?_ ?_ ?_ ?_ ?_ ?_, ?_, ?_, ?_, ?_, ?_, ?_, ?_, w.ne⟩
  any_goals omega
  · rw [List.getElem?_set_ne (by omega), List.getElem?_set_self (by simp only [List.length_append, bl]; omega), stD_add]
  · rw [List.getElem?_set_self (by simp only [List.length_set, List.length_append, bl]; omega)]
    simp
  · rw [set2_get (by omega) (by omega), List.getElem?_append_left (by rw [bl]; exact lcu)]
    unfold bagDrawn
    rw [set2_get (by omega) (by omega)]
    exact w.hu
  · have := w.head
    cases us <;> simpa using this
  · simp [lk]
  · intro x hx
    rcases List.mem_append.mp hx with hx | hx
    · exact w.good x hx
    · simp only [List.mem_cons, List.not_mem_nil, or_false] at hx
      subst hx
      exact ⟨by rw [beh_len]; exact gu.1, beh_pos t gu.2 hp gu.1 hc⟩
  · have b2 := ((w.other.off2 (i := c1) (j := c2) (.lst ((us ++ [u] ++ [t.beh u p]).map uD)) (.lst ((ps ++ [p]).map pD)) (by omega) (by omega) (by omega) (by omega) (by omega) (by omega)).grow g)
    exact b2.off2 _ _ (by omega) (by omega) (by omega) (by omega) (by omega) (by omega)
end
end M

set_option autoImplicit false
set_option linter.all false
set_option maxRecDepth 100000
/-! k01: _law_deed_right. -/
namespace M
section
variable {H : Hh} {c c1 c2 cs cd cu z z1 z2 : Nat} {t : Tb} {u0 : List Int} {us : List (List Int)} {u : List Int} {ps : List Pr}
theorem W.off (w : W H c c1 c2 cs cd cu z z1 z2 t u0 us u ps) (i : Nat) (x : Cell) (hi : cd < i) : W (H.set i x) c c1 c2 cs cd cu z z1 z2 t u0 us u ps := by
  obtain ⟨o1, o2, o3, o4, o5, o6, o7, o8⟩ := w.ne
  refine ⟨w.bag.off x (by omega) (by omega) (by omega), ?_, ?_, ?_, w.head, w.len, w.good, w.other.off x (by omega) (by omega) (by omega), w.ne⟩
  · rw [List.getElem?_set_ne (by omega)]; exact w.hs
  · rw [List.getElem?_set_ne (by omega)]; exact w.hd
  · rw [List.getElem?_set_ne (by omega)]; exact w.hu
theorem W.undone {v : List Int} {p : Pr} (w : W H c c1 c2 cs cd cu z z1 z2 t u0 (us ++ [v]) u (ps ++ [p])) :
    W (((bagUndone H c1 c2 (us ++ [v]) ps).set cs (.lst (stD cu (us ++ [v])))).set cd (.lst (ps.map pD))) c c1 c2 cs cd cu z z1 z2 t u0 us v ps := by
  obtain ⟨o1, o2, o3, o4, o5, o6, o7, o8⟩ := w.ne
  have lk := w.len
  simp only [List.length_append, List.length_cons, List.length_nil] at lk
  have gv := w.good v (by simp)
  have bl : (bagUndone H c1 c2 (us ++ [v]) ps).length = H.length := by simp [bagUndone]
  have lcs := (List.getElem?_eq_some_iff.mp w.hs).1
  have lcd := (List.getElem?_eq_some_iff.mp w.hd).1
  have lcu := (List.getElem?_eq_some_iff.mp w.hu).1
  refine ⟨(w.bag.undone gv.1).off2 _ _ ?_ ?_ ?_ ?_ ?_ ?_, ?_, ?_, ?_, ?_, ?_, ?_, ?_, w.ne⟩
  any_goals omega
  · rw [List.getElem?_set_ne (by omega), List.getElem?_set_self (by rw [bl]; omega)]
  · rw [List.getElem?_set_self (by simp only [List.length_set, bl]; omega)]
  · rw [set2_get (by omega) (by omega)]
    unfold bagUndone
    rw [set2_get (by omega) (by omega)]
    exact w.hu
  · have := w.head
    cases us <;> simpa using this
  · intro x hx
    exact w.good x (List.mem_append_left _ hx)
  · exact (w.other.off2 (i := c1) (j := c2) _ _ (by omega) (by omega) (by omega) (by omega) (by omega) (by omega)).off2 _ _ (by omega) (by omega) (by omega) (by omega) (by omega) (by omega)
theorem eTold_ok (x : FE) (cx : Ctx) (r : Env) (h h1 : Hh) (d : D) (ex : x cx.down.down r h = .ok d h1) : eTold x cx r h = .ok d h1 := by simp [eTold, ex]
theorem eTold_exc (x : FE) (cx : Ctx) (r : Env) (h h1 : Hh) (k : Nat) (hk : 1 ≤ k ∧ k ≤ 5) (ex : x cx.down.down r h = .exc k h1) : eTold x cx r h = .ok (toldD k) h1 := by
  simp only [eTold, ex, if_pos hk]
theorem str_eq (s : List Nat) (hs : s.all (fun c => decide (c < 1114112)) = true) (h : Hh) : pEq false (.str s) (.str s) h = some (.bl true, h) := by
  have : deep h (.str s) = some (.str s) := by simp [deep, thru, plain, hs]
  simp [pEq, this, eqv]
theorem pD_eq (p : Pr) (h : Hh) : pEq false (pD p) (pD p) h = some (.bl true, h) := by
  simp [pEq, deep_pD, eqv_pD]
theorem deed_undo (n : Nat) (o : t.Ok) (w : W H c c1 c2 cs cd cu z z1 z2 t u0 us u ps) (v : Int) (hv : v.fmod 5 = 0) :
    ∃ H' us' u' ps', us'.length ≤ us.length + 1 ∧ W H' c c1 c2 cs cd cu z z1 z2 t u0 us' u' ps' ∧ (ctxN G (n + 11)).call 30 [.cell c, t.d, .cell cs, .cell cd, .int v] H = .ok (.bl true) H' := by
  rw [ctxN_call G (k := 30) (f := f_law_deed_right) (n := n + 7) rfl]
  obtain ⟨o1, o2, o3, o4, o5, o6, o7, o8⟩ := w.ne
  have cond : (e2 (pEq false) (e2 pMod (eVar 4) (eK (.int 5))) (eK (.int 0))) (ctxN G (n + 10)) [some (.cell c), some t.d, some (.cell cs), some (.cell cd), some (.int v), none, none, none, none] H = .ok (.bl true) H := by
    simp [pMod_int, hv]
  have lk : ∀ j : Nat, lookM 0 [(0, j)] = some j := fun j => rfl
  rcases List.eq_nil_or_concat ps with rfl | ⟨ps', p, rfl⟩
  · have un := bag_undo0 (n + 4) w.bag
    have told : eTold (eMeth [(0, 13)] (eVar 0) []) (ctxN G (n + 10)) [some (.cell c), some t.d, some (.cell cs), some (.cell cd), some (.int v), none, none, none, none] H = .ok (toldD 5) H := by
      refine eTold_exc _ _ _ _ _ 5 (by omega) ?_
      simp only [down_ctx, eMeth_eq, evs_nil, eVar_eq, List.getElem?_cons_succ, List.getElem?_cons_zero, look_some, R.bind_ok, w.bag.insAt, meth_some, lk, un]
    have q := eq_nil (deep_pDs (ps := []) (view_at w.hd))
    have se := str_eq [110, 111, 116, 104, 105, 110, 103] (by decide) H
    refine ⟨H, us, u, [], by omega, w, ?_⟩
    refine run_imp rfl rfl ?_
    show sAll _ (ctxN G (n + 10)) [some (.cell c), some t.d, some (.cell cs), some (.cell cd), some (.int v), none, none, none, none] H = _
    rw [sAll_cons, sIf_eq, cond, R.st_ok, ifo_bl, if_pos rfl]
    rw [show sAll [sAsg (.n 5) (eTold (eMeth [(0, 13)] (eVar 0) [])), sIf (e2 (pEq false) (eVar 3) (eLst false [])) (sAll [sRet (e2 (pEq false) (eVar 5) (eK (.str [110, 111, 116, 104, 105, 110, 103])))]) (sAll []), sExpr (eM0 pPop (eVar 2)), sRet (e2 (pEq false) (eVar 5) (eM0 pPop (eVar 3)))] (ctxN G (n + 10)) [some (.cell c), some t.d, some (.cell cs), some (.cell cd), some (.int v), none, none, none, none] H = .rt (.bl true) H from ?_]
    · rfl
    refine (sAll_step (r1 := [some (.cell c), some t.d, some (.cell cs), some (.cell cd), some (.int v), some (toldD 5), none, none, none]) (h1 := H) ?_).trans ?_
    · rw [sAsg_eq, told]
      simp
    · rw [sAll_cons, sIf_eq]
      simp only [e2_eq, eVar_eq, List.getElem?_cons_succ, List.getElem?_cons_zero, look_some, R.bind_ok, eLst_eqF, evs_nil, q, up_some, R.st_ok, List.map_nil, List.isEmpty_nil, ifo_bl, if_true, sAll_one, sRet_eq, eK_eq]
      rw [show toldD 5 = .str [110, 111, 116, 104, 105, 110, 103] from rfl, se]
      rfl
  · rw [List.concat_eq_append] at *
    have hl := w.len
    rcases List.eq_nil_or_concat us with rfl | ⟨us', v', rfl⟩
    · simp at hl
    rw [List.concat_eq_append] at *
    have un := bag_undo (n + 4) w.bag
    have wu := w.undone
    obtain ⟨K1, eK1⟩ : ∃ K, K = bagUndone H c1 c2 (us' ++ [v']) ps' := ⟨_, rfl⟩
    rw [← eK1] at un wu
    have gs : K1[cs]? = some (.lst (stD cu (us' ++ [v']) ++ [uD u])) := by
      rw [eK1]
      unfold bagUndone
      rw [set2_get (by omega) (by omega), w.hs, stD_add]
    have gd : (K1.set cs (.lst (stD cu (us' ++ [v']))))[cd]? = some (.lst (ps'.map pD ++ [pD p])) := by
      rw [List.getElem?_set_ne (by omega), eK1]
      unfold bagUndone
      rw [set2_get (by omega) (by omega), w.hd]
      simp
    have gd1 : K1[cd]? = some (.lst ((ps' ++ [p]).map pD)) := by
      rw [eK1]
      unfold bagUndone
      rw [set2_get (by omega) (by omega), w.hd]
    have p1 := pop_at gs
    have p2 := pop_at gd
    have told : eTold (eMeth [(0, 13)] (eVar 0) []) (ctxN G (n + 10)) [some (.cell c), some t.d, some (.cell cs), some (.cell cd), some (.int v), none, none, none, none] H = .ok (pD p) K1 := by
      refine eTold_ok _ _ _ _ _ _ ?_
      simp only [down_ctx, eMeth_eq, evs_nil, eVar_eq, List.getElem?_cons_succ, List.getElem?_cons_zero, look_some, R.bind_ok, w.bag.insAt, meth_some, lk, un]
    have q := eq_nil (deep_pDs (view_at gd1))
    have ne : ((ps' ++ [p]).map pD).isEmpty = false := by cases ps' <;> rfl
    rw [ne] at q
    refine ⟨_, us', v', ps', by simp only [List.length_append]; omega, wu, ?_⟩
    refine run_imp rfl rfl ?_
    show sAll _ (ctxN G (n + 10)) [some (.cell c), some t.d, some (.cell cs), some (.cell cd), some (.int v), none, none, none, none] H = _
    rw [sAll_cons, sIf_eq, cond, R.st_ok, ifo_bl, if_pos rfl]
    rw [show sAll [sAsg (.n 5) (eTold (eMeth [(0, 13)] (eVar 0) [])), sIf (e2 (pEq false) (eVar 3) (eLst false [])) (sAll [sRet (e2 (pEq false) (eVar 5) (eK (.str [110, 111, 116, 104, 105, 110, 103])))]) (sAll []), sExpr (eM0 pPop (eVar 2)), sRet (e2 (pEq false) (eVar 5) (eM0 pPop (eVar 3)))] (ctxN G (n + 10)) [some (.cell c), some t.d, some (.cell cs), some (.cell cd), some (.int v), none, none, none, none] H = .rt (.bl true) ((K1.set cs (.lst (stD cu (us' ++ [v'])))).set cd (.lst (ps'.map pD))) from ?_]
    · rfl
    refine (sAll_step (r1 := [some (.cell c), some t.d, some (.cell cs), some (.cell cd), some (.int v), some (pD p), none, none, none]) (h1 := K1) ?_).trans ?_
    · rw [sAsg_eq, told]
      simp
    refine (sAll_step (r1 := [some (.cell c), some t.d, some (.cell cs), some (.cell cd), some (.int v), some (pD p), none, none, none]) (h1 := K1) ?_).trans ?_
    · rw [sIf_eq]
      simp only [e2_eq, eVar_eq, List.getElem?_cons_succ, List.getElem?_cons_zero, look_some, R.bind_ok, eLst_eqF, evs_nil, q, up_some, R.st_ok, ifo_bl, Bool.false_eq_true, if_false, sAll_nil]
    refine (sAll_step (r1 := [some (.cell c), some t.d, some (.cell cs), some (.cell cd), some (.int v), some (pD p), none, none, none]) (h1 := K1.set cs (.lst (stD cu (us' ++ [v'])))) ?_).trans ?_
    · have vw := view_at gs
      simp only [sExpr_eq, eM0_eq, eVar_eq, List.getElem?_cons_succ, List.getElem?_cons_zero, look_some, R.bind_ok, vw, Option.isSome_some, if_true, p1, up_some, R.st_ok]
    · have vw := view_at gd
      rw [sAll_one, sRet_eq]
      simp only [e2_eq, eM0_eq, eVar_eq, List.getElem?_cons_succ, List.getElem?_cons_zero, look_some, R.bind_ok, vw, Option.isSome_some, if_true, p2, up_some, pD_eq, R.st_ok]

theorem pIx_mod (xs : List D) (i : Int) (hl : 0 < xs.length) (h : Hh) : ∃ x ∈ xs, pIx (.lst xs) (.int (i.fmod xs.length)) h = some (x, h) := by
  obtain ⟨j, ej, hj⟩ := fmod_nat i xs.length hl
  refine ⟨xs[j], List.getElem_mem hj, ?_⟩
  rw [ej]
  exact pIx_nat rfl (List.getElem?_eq_getElem hj)
theorem prs_pos {k : Nat} (h1 : 1 ≤ k) (h4 : k ≤ 4) : 0 < (prs k).length := by
  have : k = 1 ∨ k = 2 ∨ k = 3 ∨ k = 4 := by omega
  rcases this with rfl | rfl | rfl | rfl <;> decide
theorem deed_draw (n : Nat) (o : t.Ok) (w : W H c c1 c2 cs cd cu z z1 z2 t u0 us u ps) (v : Int) (hv : v.fmod 5 ≠ 0) (h1 : us.length < 1000) :
    ∃ H' us' u' ps', us'.length ≤ us.length + 1 ∧ W H' c c1 c2 cs cd cu z z1 z2 t u0 us' u' ps' ∧ (ctxN G (n + 11)).call 30 [.cell c, t.d, .cell cs, .cell cd, .int v] H = .ok (.bl true) H' := by
  rw [ctxN_call G (k := 30) (f := f_law_deed_right) (n := n + 7) rfl]
  obtain ⟨o1, o2, o3, o4, o5, o6, o7, o8⟩ := w.ne
  have hlen := w.len
  have cond : (e2 (pEq false) (e2 pMod (eVar 4) (eK (.int 5))) (eK (.int 0))) (ctxN G (n + 10)) [some (.cell c), some t.d, some (.cell cs), some (.cell cd), some (.int v), none, none, none, none] H = .ok (.bl false) H := by
    simp [pMod_int, hv]
  have lk : ∀ j : Nat, lookM 0 [(0, j)] = some j := fun j => rfl
  have o5' : okI 5 = true := okI_small (by decide)
  have neg1 : ∀ h, pNeg (.int 1) h = some (.int (-1), h) := fun _ => rfl
  have c22 := call_lpairs (n + 6) t.k o.k4 o.k1 H
  obtain ⟨x, hx, ex⟩ := pIx_mod ((prs t.k).map pD) (v.fdiv 5) (by simpa using prs_pos o.k1 o.k4) H
  obtain ⟨p, hp, rfl⟩ := List.mem_map.mp hx
  rw [List.length_map] at ex
  obtain ⟨r0, r1, r2⟩ := prs_rng hp
  obtain ⟨L, x, eL, xv⟩ := w.last
  have la : pIx (.cell cs) (.int (-1)) H = some (x, H) := pIx_last (viewS_of (by rw [← eL]; exact view_at w.hs))
  have gu := w.good u (by simp)
  have lb := call_lbeh (n + 5) t o x u p H (by simpa using xv []) w.bag.uk gu.2 hp
  have dr := bag_draw n o w.bag p hp h1 (by omega)
  have ne0 : ((prs t.k).length : Int) ≠ 0 := by have := prs_pos o.k1 o.k4; omega
  refine (fun (main : ∃ H' us' u' ps', us'.length ≤ us.length + 1 ∧ W H' c c1 c2 cs cd cu z z1 z2 t u0 us' u' ps' ∧ f_law_deed_right.body (ctxN G (n + 10)) [some (.cell c), some t.d, some (.cell cs), some (.cell cd), some (.int v), none, none, none, none] H = .rt (.bl true) H') => ?_) ?_
  · obtain ⟨H', us', u', ps', a, b, d⟩ := main
    exact ⟨H', us', u', ps', a, b, run_imp rfl rfl d⟩
  have s1 : ∀ as : List FS, ∀ a : FS, sAll (sIf (e2 (pEq false) (e2 pMod (eVar 4) (eK (.int 5))) (eK (.int 0))) (sAll [sAsg (.n 5) (eTold (eMeth [(0, 13)] (eVar 0) [])),
    sIf (e2 (pEq false) (eVar 3) (eLst false [])) (sAll [sRet (e2 (pEq false) (eVar 5) (eK (.str [110, 111, 116, 104, 105, 110, 103])))]) (sAll []),
    sExpr (eM0 pPop (eVar 2)),
    sRet (e2 (pEq false) (eVar 5) (eM0 pPop (eVar 3)))]) (sAll []) :: sAsg (.n 6) (eCall 22 [e2 pIx (eVar 1) (eK (.int 0))]) :: sAsg (.n 7) (e2 pIx (eVar 6) (e2 pMod (e2 pFdiv (eVar 4) (eK (.int 5))) (e1 pLen (eVar 6)))) :: sAsg (.n 8) (eCall 26 [eVar 1, e2 pIx (eVar 2) (e1 pNeg (eK (.int 1))), eVar 7]) :: a :: as) (ctxN G (n + 10)) [some (.cell c), some t.d, some (.cell cs), some (.cell cd), some (.int v), none, none, none, none] H = sAll (a :: as) (ctxN G (n + 10)) [some (.cell c), some t.d, some (.cell cs), some (.cell cd), some (.int v), none, some (.lst ((prs t.k).map pD)), some (pD p), some (if can u p then uD (t.beh u p) else .non)] H := fun as a => by
    refine (sAll_step (r1 := [some (.cell c), some t.d, some (.cell cs), some (.cell cd), some (.int v), none, none, none, none]) (h1 := H) ?_).trans ?_
    · rw [sIf_eq, cond]
      simp
    refine (sAll_step (r1 := [some (.cell c), some t.d, some (.cell cs), some (.cell cd), some (.int v), none, some (.lst ((prs t.k).map pD)), none, none]) (h1 := H) ?_).trans ?_
    · simp only [sAsg_eq, eCall_eq, evs_cons, evs_nil, e2_eq, eVar_eq, List.getElem?_cons_succ, List.getElem?_cons_zero, look_some, eK_eq, R.bind_ok, t.ix0, up_some, c22, R.st_ok, put_n]
      rfl
    refine (sAll_step (r1 := [some (.cell c), some t.d, some (.cell cs), some (.cell cd), some (.int v), none, some (.lst ((prs t.k).map pD)), some (pD p), none]) (h1 := H) ?_).trans ?_
    · have pl : pLen (.lst ((prs t.k).map pD)) H = some (.int (prs t.k).length, H) := by simp [pLen]
      simp only [sAsg_eq, e2_eq, e1_eq, eVar_eq, List.getElem?_cons_succ, List.getElem?_cons_zero, look_some, eK_eq, R.bind_ok, pFdiv_int (show (5 : Int) ≠ 0 by decide) o5', up_some, pl, pMod_int ne0, ex, R.st_ok, put_n]
      rfl
    refine (sAll_step (r1 := [some (.cell c), some t.d, some (.cell cs), some (.cell cd), some (.int v), none, some (.lst ((prs t.k).map pD)), some (pD p), some (if can u p then uD (t.beh u p) else .non)]) (h1 := H) ?_).trans rfl
    simp only [sAsg_eq, eCall_eq, evs_cons, evs_nil, e2_eq, e1_eq, eVar_eq, List.getElem?_cons_succ, List.getElem?_cons_zero, look_some, eK_eq, R.bind_ok, neg1, up_some, la, lb, R.st_ok, put_n]
    rfl
  have meth : (eMeth [(0, 12)] (eVar 0) [e2 pIx (eVar 7) (eK (.int 0)), e2 pIx (eVar 7) (eK (.int 1))]) (ctxN G (n + 8)) [some (.cell c), some t.d, some (.cell cs), some (.cell cd), some (.int v), none, some (.lst ((prs t.k).map pD)), some (pD p), some (if can u p then uD (t.beh u p) else .non)] H = if can u p then .ok (.cell H.length) (bagDrawn H c1 c2 (us ++ [u] ++ [t.beh u p]) ps p ++ [.lst ((t.back p).map D.int)]) else .exc 4 H := by
    simp only [eMeth_eq, evs_cons, evs_nil, e2_eq, eVar_eq, List.getElem?_cons_succ, List.getElem?_cons_zero, look_some, eK_eq, R.bind_ok, w.bag.insAt, meth_some, lk, pIx_p0, pIx_p1, up_some]
    exact dr
  cases q : can u p with
  | false =>
    rw [q] at meth s1
    have told := eTold_exc _ (ctxN G (n + 10)) _ _ _ 4 (by omega) (by simp only [down_ctx]; exact meth)
    have se := str_eq [110, 111, 116, 32, 116, 104, 101, 114, 101] (by decide) H
    refine ⟨H, us, u, ps, by omega, w, ?_⟩
    dsimp only [f_law_deed_right]
    refine (s1 _ _).trans ?_
    refine (sAll_step (r1 := [some (.cell c), some t.d, some (.cell cs), some (.cell cd), some (.int v), some (toldD 4), some (.lst ((prs t.k).map pD)), some (pD p), some .non]) (h1 := H) ?_).trans ?_
    · rw [sAsg_eq]
      simp only [Bool.false_eq_true, if_false] at told ⊢
      rw [told]
      simp
    · rw [sAll_cons, sIf_eq]
      simp only [e1_eq, eVar_eq, List.getElem?_cons_succ, List.getElem?_cons_zero, look_some, R.bind_ok, pIsN_F, isNon, up_some, R.st_ok, ifo_bl, if_true, sAll_one, sRet_eq, e2_eq, eK_eq]
      rw [show toldD 4 = .str [110, 111, 116, 32, 116, 104, 101, 114, 101] from rfl, se]
      rfl
  | true =>
    rw [q] at meth s1
    simp only [if_true] at meth s1
    have told := eTold_ok _ (ctxN G (n + 10)) _ _ _ _ (by simp only [down_ctx]; exact meth)
    have wd := w.drawn p hp q h1 [.lst ((t.back p).map D.int)]
    obtain ⟨B, eB⟩ : ∃ B, B = bagDrawn H c1 c2 (us ++ [u] ++ [t.beh u p]) ps p := ⟨_, rfl⟩
    have bl : B.length = H.length := by rw [eB]; simp [bagDrawn]
    rw [← eB] at told wd meth
    have lcd := (List.getElem?_eq_some_iff.mp w.hd).1
    have gs : (B ++ [Cell.lst ((t.back p).map D.int)])[cs]? = some (.lst (stD cu (us ++ [u]))) := by
      rw [List.getElem?_append_left (by omega), eB]
      unfold bagDrawn
      rw [set2_get (by omega) (by omega), w.hs]
    obtain ⟨K1, eK1⟩ : ∃ K, K = (B ++ [Cell.lst ((t.back p).map D.int)]).set cs (.lst (stD cu (us ++ [u]) ++ [uD (t.beh u p)])) := ⟨_, rfl⟩
    have gd : K1[cd]? = some (.lst (ps.map pD)) := by
      rw [eK1, List.getElem?_set_ne (by omega), List.getElem?_append_left (by omega), eB]
      unfold bagDrawn
      rw [set2_get (by omega) (by omega), w.hd]
    have a1 := append_at gs (uD (t.beh u p)) (by rw [stD_len]; have := w.bag.lu; simp [LIM]; omega)
    have a2 := append_at gd (pD p) (by have := w.bag.lp; simp [LIM]; omega)
    rw [← eK1] at a1 wd
    obtain ⟨K2, eK2⟩ : ∃ K, K = K1.set cd (.lst (ps.map pD ++ [pD p])) := ⟨_, rfl⟩
    rw [← eK2] at a2 wd
    have gb : K2[H.length]? = some (.lst ((t.back p).map D.int)) := by
      rw [eK2, List.getElem?_set_ne (by omega), eK1, List.getElem?_set_ne (by omega), ← bl]
      simp
    have a3 := append_at gb (.int 9) (by have := o.two _ (o.back_mem hp).2; simp [LIM]; omega)
    have ei : (t.bs.map uD)[ixP p (prs t.k)]? = some (uD (t.back p)) := by rw [List.getElem?_map, (o.back_mem hp).1]; rfl
    have ix := pIx_nat (h := K2) (d := .lst (t.bs.map uD)) rfl ei
    have nq := neq_ints (view_at gb) (show viewL K2 (uD (t.back p)) = some ((t.back p).map D.int) from rfl)
    refine ⟨_, us ++ [u], t.beh u p, ps ++ [p], by simp, wd.off H.length (.lst ((t.back p).map D.int ++ [.int 9])) lcd, ?_⟩
    dsimp only [f_law_deed_right]
    refine (s1 _ _).trans ?_
    refine (sAll_step (r1 := [some (.cell c), some t.d, some (.cell cs), some (.cell cd), some (.int v), some (.cell H.length), some (.lst ((prs t.k).map pD)), some (pD p), some (uD (t.beh u p))]) (h1 := B ++ [.lst ((t.back p).map D.int)]) ?_).trans ?_
    · rw [sAsg_eq, told]
      simp
    refine (sAll_step (r1 := [some (.cell c), some t.d, some (.cell cs), some (.cell cd), some (.int v), some (.cell H.length), some (.lst ((prs t.k).map pD)), some (pD p), some (uD (t.beh u p))]) (h1 := B ++ [.lst ((t.back p).map D.int)]) ?_).trans ?_
    · simp [uD, isNon]
    refine (sAll_step (r1 := [some (.cell c), some t.d, some (.cell cs), some (.cell cd), some (.int v), some (.cell H.length), some (.lst ((prs t.k).map pD)), some (pD p), some (uD (t.beh u p))]) (h1 := K1) ?_).trans ?_
    · have vw := view_at gs
      simp only [sExpr_eq, eM1_eq, eVar_eq, List.getElem?_cons_succ, List.getElem?_cons_zero, look_some, R.bind_ok, vw, Option.isSome_some, if_true, a1, up_some, R.st_ok]
    refine (sAll_step (r1 := [some (.cell c), some t.d, some (.cell cs), some (.cell cd), some (.int v), some (.cell H.length), some (.lst ((prs t.k).map pD)), some (pD p), some (uD (t.beh u p))]) (h1 := K2) ?_).trans ?_
    · have vw := view_at gd
      simp only [sExpr_eq, eM1_eq, eVar_eq, List.getElem?_cons_succ, List.getElem?_cons_zero, look_some, R.bind_ok, vw, Option.isSome_some, if_true, a2, up_some, R.st_ok]
    refine (sAll_step (r1 := [some (.cell c), some t.d, some (.cell cs), some (.cell cd), some (.int v), some (.cell H.length), some (.lst ((prs t.k).map pD)), some (pD p), some (uD (t.beh u p))]) (h1 := K2) ?_).trans ?_
    · simp only [sIf_eq, e2_eq, eM1_eq, eVar_eq, List.getElem?_cons_succ, List.getElem?_cons_zero, look_some, eK_eq, R.bind_ok, t.ix1, up_some, viewL_lst, Option.isSome_some, if_true, pIndex_pD hp, ix, nq, R.st_ok, ifo_bl, Bool.false_eq_true, if_false, sAll_nil]
    refine (sAll_step (r1 := [some (.cell c), some t.d, some (.cell cs), some (.cell cd), some (.int v), some (.cell H.length), some (.lst ((prs t.k).map pD)), some (pD p), some (uD (t.beh u p))]) (h1 := K2.set H.length (.lst ((t.back p).map D.int ++ [.int 9]))) ?_).trans ?_
    · have vw := view_at gb
      simp only [sExpr_eq, eM1_eq, eVar_eq, List.getElem?_cons_succ, List.getElem?_cons_zero, look_some, eK_eq, R.bind_ok, vw, Option.isSome_some, if_true, a3, up_some, R.st_ok]
    simp
theorem deed (n : Nat) (o : t.Ok) (w : W H c c1 c2 cs cd cu z z1 z2 t u0 us u ps) (v : Int) (h1 : us.length < 1000) :
    ∃ H' us' u' ps', us'.length ≤ us.length + 1 ∧ W H' c c1 c2 cs cd cu z z1 z2 t u0 us' u' ps' ∧ (ctxN G (n + 11)).call 30 [.cell c, t.d, .cell cs, .cell cd, .int v] H = .ok (.bl true) H' := by
  by_cases q : v.fmod 5 = 0
  · exact deed_undo n o w v q
  · exact deed_draw n o w v q h1
end
end M

set_option autoImplicit false
set_option linter.all false
set_option maxRecDepth 100000
/-! Plain facts: a new Bag. -/
namespace M
theorem isBack_of {t : Tb} (o : t.Ok) {b : List Int} (hb : b ∈ t.bs) {h : Hh} {d : D} (v : viewL h d = some (b.map D.int)) : isBack h d t.k = true := by
  have h1 := o.two b hb
  have h2 := o.rng b hb
  have h3 := o.srt b hb
  have al : ((b.map D.int).all fun x => isCount x 0 ((t.k : Int) - 1)) = true := by
    rw [List.all_eq_true]
    intro x hx
    obtain ⟨i, hi, rfl⟩ := List.mem_map.mp hx
    have := h2 i hi
    simp only [isCount, Bool.and_eq_true, decide_eq_true_eq]
    omega
  unfold isBack
  simp only [v, al, intsOf_map, List.length_map, decide_eq_true h1, Bool.true_and]
  simpa using h3
/-- a table, its entries seen through cells or not -/
theorem isTable_of {t : Tb} (o : t.Ok) {h : Hh} {d : D} {ks : List D} (v : viewL h d = some ks) (hl : ks.length = t.bs.length) (hk : ∀ x ∈ ks, ∃ b ∈ t.bs, viewL h x = some (b.map D.int)) : isTable h (.tup [.int t.k, d]) = true := by
  have k1 := o.k1
  have k4 := o.k4
  have al : (ks.all fun x => isBack h x t.k) = true := by
    rw [List.all_eq_true]
    intro x hx
    obtain ⟨b, hb, e⟩ := hk x hx
    exact isBack_of o hb e
  have hp : ks.length = (pairsD (t.k : Int)).length := by rw [prs_D k1 k4, List.length_map, hl, o.len]
  unfold isTable
  simp only [v, al, hp, Bool.and_true, decide_true, Bool.and_eq_true, decide_eq_true_eq]
  omega
theorem isUrn_of {u : List Int} {k : Nat} (hl : u.length = k) (hu : ∀ i ∈ u, 0 ≤ i) (m : Int) (hs : isum u ≤ m) {h : Hh} {d : D} (v : viewL h d = some (u.map D.int)) : isUrn h k d (some m) = true := by
  have al : ((u.map D.int).all isNat) = true := by
    rw [List.all_eq_true]
    intro x hx
    obtain ⟨i, hi, rfl⟩ := List.mem_map.mp hx
    simpa [isNat] using hu i hi
  unfold isUrn
  simp [v, al, intsOf_map, hl, hs]
theorem ty_view {h : Hh} {d : D} {xs : List D} (v : viewL h d = some xs) : tyOk h d = true := by
  cases d with
  | cell c =>
    simp only [viewL] at v
    split at v
    · rename_i ys hc
      simp [tyOk, hc]
    · cases v
  | lst ys => rfl
  | _ => simp [viewL] at v
theorem tabOk_of {t : Tb} {h : Hh} {d : D} {ks : List D} (v : viewL h d = some ks) (hk : ∀ x ∈ ks, ∃ b ∈ t.bs, viewL h x = some (b.map D.int)) : TabOk h (.tup [.int t.k, d]) where
  ty := rfl
  two := fun a b e => by
    simp only [D.tup.injEq, List.cons.injEq, and_true] at e
    obtain ⟨rfl, rfl⟩ := e
    refine ⟨rfl, ty_view v, fun ks' w x hx => ?_⟩
    rw [v] at w
    cases w
    obtain ⟨b, hb, e⟩ := hk x hx
    refine ⟨ty_view e, fun xs w y hy => ?_⟩
    rw [e] at w
    cases w
    obtain ⟨i, _, rfl⟩ := List.mem_map.mp hy
    rfl
inductive All2 {A B : Type} (R : A → B → Prop) : List A → List B → Prop where
  | nil : All2 R [] []
  | cons {a : A} {b : B} {as : List A} {bs : List B} (h1 : R a b) (h2 : All2 R as bs) : All2 R (a :: as) (b :: bs)
theorem All2.length_eq {A B : Type} {R : A → B → Prop} {as : List A} {bs : List B} (h : All2 R as bs) : as.length = bs.length := by
  induction h with
  | nil => rfl
  | cons _ _ ih => simp [ih]
def bagNew (H : Hh) (t : Tb) (u : List Int) : Hh := H ++ [.ins 0 [(0, t.d), (1, .cell (H.length + 1)), (2, .cell (H.length + 2))], .lst [uD u], .lst []]
theorem bagNew_at (H : Hh) (t : Tb) (u : List Int) (hl : u.length = t.k) : BagAt (bagNew H t u) H.length (H.length + 1) (H.length + 2) t [] u [] where
  ins := by simp [bagNew]
  urns := by
    unfold bagNew
    rw [List.getElem?_append_right (by omega)]
    simp
  done := by
    unfold bagNew
    rw [List.getElem?_append_right (by omega)]
    simp
  n01 := by omega
  n02 := by omega
  n12 := by omega
  lu := by simp
  lp := by simp
  uk := hl
theorem all2_mem {h : Hh} {ks : List D} {bs : List (List Int)} (hf : All2 (fun x b => viewL h x = some (b.map D.int)) ks bs) : ∀ x ∈ ks, ∃ b ∈ bs, viewL h x = some (b.map D.int) := by
  induction hf with
  | nil => intro x hx; cases hx
  | cons h1 h2 ih =>
    intro x hx
    rcases List.mem_cons.mp hx with rfl | hx
    · exact ⟨_, List.mem_cons_self, h1⟩
    · obtain ⟨b, hb, e⟩ := ih x hx
      exact ⟨b, List.mem_cons_of_mem _ hb, e⟩
theorem all2_copy {h : Hh} {ks : List D} {bs : List (List Int)} (hf : All2 (fun x b => viewL h x = some (b.map D.int)) ks bs) : ks.map (copyD h) = bs.map uD := by
  induction hf with
  | nil => rfl
  | cons h1 h2 ih => simp [copyD, h1, uD, ih]
theorem call_bag (n : Nat) {t : Tb} (o : t.Ok) {u : List Int} (hl : u.length = t.k) (hu : ∀ i ∈ u, 0 ≤ i) (hs : isum u ≤ 60) (H : Hh) (d du : D) (ks : List D) (v : ∀ y, viewL (H ++ [y]) d = some ks) (hk : ∀ y, All2 (fun x b => viewL (H ++ [y]) x = some (b.map D.int)) ks t.bs) (vu : ∀ y, viewL (H ++ [y]) du = some (u.map D.int)) :
    (ctxN G (n + 8)).call 11 [.cell H.length, .tup [.int t.k, d], du] (H ++ [.ins 0 []]) = .ok .non (bagNew H t u) := by
  rw [ctxN_call G (k := 11) (f := f_Bag_init) (n := n + 4) rfl]
  have hf := hk (.ins 0 [])
  have hm := all2_mem hf
  have hc := all2_copy hf
  have st : ∀ y, (H ++ [Cell.ins 0 []]).set H.length y = H ++ [y] := fun y => by simp
  have := bag_made n H.length t.k d du ks (u.map D.int) (H ++ [.ins 0 []]) (by simp) (tabOk_of (t := t) (v _) hm) (isTable_of o (v _) hf.length_eq hm) (ty_view (vu _)) (fun xs w x hx => by
    rw [vu] at w
    cases w
    obtain ⟨i, _, rfl⟩ := List.mem_map.mp hx
    rfl) (isUrn_of hl hu 60 hs (vu _)) (v _) (vu _) (fun y => by rw [st]; exact vu y)
  rw [this, st, hc]
  simp [bagNew, Tb.d, uD]
theorem make_bag (n : Nat) {t : Tb} (o : t.Ok) {u : List Int} (hl : u.length = t.k) (hu : ∀ i ∈ u, 0 ≤ i) (hs : isum u ≤ 60) (H : Hh) (d du : D) (ks : List D) (v : ∀ y, viewL (H ++ [y]) d = some ks) (hk : ∀ y, All2 (fun x b => viewL (H ++ [y]) x = some (b.map D.int)) ks t.bs) (vu : ∀ y, viewL (H ++ [y]) du = some (u.map D.int)) (fa fb : FE) (r : Env) (H0 : Hh)
    (ev : evs [fa, fb] (ctxN G (n + 9)) r H0 = .ok [.tup [.int t.k, d], du] H) : eMake 0 11 [fa, fb] (ctxN G (n + 9)) r H0 = .ok (.cell H.length) (bagNew H t u) := by
  rw [eMake_eq, ev, R.bind_ok, down_ctx, call_bag n o hl hu hs H d du ks v hk vu]
  rfl
theorem all2_tree (t : Tb) (h : Hh) : All2 (fun x b => viewL h x = some (b.map D.int)) (t.bs.map uD) t.bs := by
  generalize t.bs = bs
  induction bs with
  | nil => exact .nil
  | cons b bs ih => exact .cons rfl ih
theorem make_tree (n : Nat) {t : Tb} (o : t.Ok) {u : List Int} (hl : u.length = t.k) (hu : ∀ i ∈ u, 0 ≤ i) (hs : isum u ≤ 60) (H : Hh) (du : D) (vu : ∀ y, viewL (H ++ [y]) du = some (u.map D.int)) (fa fb : FE) (r : Env) (H0 : Hh)
    (ev : evs [fa, fb] (ctxN G (n + 9)) r H0 = .ok [t.d, du] H) : eMake 0 11 [fa, fb] (ctxN G (n + 9)) r H0 = .ok (.cell H.length) (bagNew H t u) :=
  make_bag n o hl hu hs H (.lst (t.bs.map uD)) du (t.bs.map uD) (fun _ => rfl) (fun _ => all2_tree t _) vu fa fb r H0 ev
end M

set_option autoImplicit false
set_option linter.all false
set_option maxRecDepth 100000
/-! k01: the law's end, two bags by hand. -/
namespace M
def ta : Tb := ⟨2, [[0], [0, 1], []]⟩
def tb : Tb := ⟨2, [[0], [1], [0]]⟩
theorem ta_ok : ta.Ok := ⟨by decide, by decide, by decide, by decide, by decide, by decide⟩
theorem tb_ok : tb.Ok := ⟨by decide, by decide, by decide, by decide, by decide, by decide⟩
def E5 (c : Nat) (r : Env) : Prop := r.length = 13 ∧ r[5]? = some (some (.cell c))
theorem E5.put {c : Nat} {r : Env} (h : E5 c r) (j : Nat) (hj : j ≠ 5) (hl : j < 13) (x : D) : ∃ r1, asg (.n j) x r = some r1 ∧ E5 c r1 := by
  refine ⟨r.set j (some x), by simp [h.1, hl], by simp [h.1], ?_⟩
  rw [List.getElem?_set_ne hj]
  exact h.2
abbrev drawB : FS := sAll [sIf (e2 (pEq true) (eMeth [(0, 12)] (eVar 5) [eK (.int 0), eK (.int 1)]) (eLst false [eK (.int 0), eK (.int 1)])) (sAll [sRet (eK (.bl false))]) (sAll [])]
abbrev undoB : FS := sAll [sIf (eOr (e2 (pEq true) (eMeth [(0, 13)] (eVar 5) []) (eTup [eK (.int 0), eK (.int 1)])) (e2 (pEq true) (eMeth [(0, 14)] (eVar 5) []) (eLst false [eK (.int 1), eK (.int 2)]))) (sAll [sRet (eK (.bl false))]) (sAll [])]
theorem lkM (j : Nat) : lookM 0 [(0, j)] = some j := rfl
abbrev rp (i : Nat) : List (List Int) := List.replicate i [1, 2]
abbrev rq (i : Nat) : List Pr := List.replicate i (0, 1)
theorem draw_turn (n : Nat) {c c1 c2 : Nat} (r : Env) (hr : E5 c r) (i : Nat) (hi : i < 99) (H : Hh) (b : BagAt H c c1 c2 ta (rp i) [1, 2] (rq i)) : ∃ H', drawB (ctxN G (n + 8)) r H = .nx r H' ∧ BagAt H' c c1 c2 ta (rp (i + 1)) [1, 2] (rq (i + 1)) := by
  have d := bag_draw n ta_ok b (0, 1) (by decide) (by simp; omega) (by simp; omega)
  have cn : can [1, 2] (0, 1) = true := by decide
  have be : ta.beh [1, 2] (0, 1) = [1, 2] := by decide
  have bk : ta.back (0, 1) = [0, 1] := by decide
  rw [cn, be, bk, if_pos rfl] at d
  have bd := (b.drawn (0, 1) [1, 2] rfl (by simp; omega) (by simp; omega)).grow [.lst [.int 0, .int 1]]
  have er : rp i ++ [[1, 2]] = rp (i + 1) := by simp [rp, List.replicate_succ']
  have eq' : rq i ++ [(0, 1)] = rq (i + 1) := by simp [rq, List.replicate_succ']
  rw [er, eq'] at bd
  rw [er] at d
  refine ⟨_, ?_, bd⟩
  have gl : (bagDrawn H c1 c2 (rp (i + 1) ++ [[1, 2]]) (rq i) (0, 1) ++ [Cell.lst [.int 0, .int 1]])[H.length]? = some (.lst [.int 0, .int 1]) := by
    have : (bagDrawn H c1 c2 (rp (i + 1) ++ [[1, 2]]) (rq i) (0, 1)).length = H.length := by simp [bagDrawn]
    rw [← this]
    simp
  have nq := neq_ints (u := [0, 1]) (view_at gl) (show viewL _ (.lst [.int 0, .int 1]) = some ([0, 1].map D.int) from rfl)
  show sAll [_] _ _ _ = _
  rw [sAll_one, sIf_eq]
  simp only [e2_eq, eMeth_eq, evs_cons, evs_nil, eVar_eq, hr.2, look_some, eK_eq, R.bind_ok, b.insAt, meth_some, lkM, List.map_cons, List.map_nil] at d ⊢
  rw [d]
  simp only [R.bind_ok, eLst_eqF, evs_cons, evs_nil, eK_eq, nq, up_some, R.st_ok, ifo_bl, Bool.false_eq_true, if_false, sAll_nil]
theorem undo_turn (n : Nat) {c c1 c2 : Nat} (r : Env) (hr : E5 c r) (i : Nat) (H : Hh) (b : BagAt H c c1 c2 ta (rp (i + 1)) [1, 2] (rq (i + 1))) : ∃ H', undoB (ctxN G (n + 8)) r H = .nx r H' ∧ BagAt H' c c1 c2 ta (rp i) [1, 2] (rq i) := by
  have er : rp i ++ [[1, 2]] = rp (i + 1) := by simp [rp, List.replicate_succ']
  have eq' : rq i ++ [(0, 1)] = rq (i + 1) := by simp [rq, List.replicate_succ']
  rw [← er, ← eq'] at b
  have un := bag_undo (n + 4) b
  have bu := b.undone rfl
  have mb := bag_marbles (n + 4) bu
  obtain ⟨K, eK⟩ : ∃ K, K = bagUndone H c1 c2 (rp i ++ [[1, 2]]) (rq i) := ⟨_, rfl⟩
  rw [← eK] at un bu mb
  have bg := bu.grow [.lst [.int 1, .int 2]]
  refine ⟨_, ?_, bg⟩
  have q1 : pEq true (pD (0, 1)) (.tup [.int 0, .int 1]) K = some (.bl false, K) := by
    rw [show D.tup [.int 0, .int 1] = pD (0, 1) from rfl]
    simp [pEq, deep_pD, eqv_pD]
  have gl : (K ++ [Cell.lst [.int 1, .int 2]])[K.length]? = some (.lst [.int 1, .int 2]) := by simp
  have q2 := neq_ints (u := [1, 2]) (view_at gl) (show viewL _ (.lst [.int 1, .int 2]) = some ([1, 2].map D.int) from rfl)
  show sAll [_] _ _ _ = _
  rw [sAll_one, sIf_eq]
  simp only [eOr_eq, e2_eq, eMeth_eq, evs_cons, evs_nil, eVar_eq, hr.2, look_some, eK_eq, R.bind_ok, b.insAt, meth_some, lkM, un, eTup_eq, q1, up_some, ifb_bl, Bool.false_eq_true, if_false, bu.insAt, mb, eLst_eqF, List.map_cons, List.map_nil, q2, R.st_ok, ifo_bl, sAll_nil]
theorem draw_for (n : Nat) (s : Src) (hs : ∀ h, still s h = true) {c c1 c2 : Nat} : ∀ (L : List D) (i : Nat) (r : Env) (H : Hh), i + L.length ≤ 99 → E5 c r → BagAt H c c1 c2 ta (rp i) [1, 2] (rq i) → ∃ r' H', forL (ctxN G (n + 8)) s (.n 11) drawB L r H = .nx r' H' ∧ E5 c r' ∧ BagAt H' c c1 c2 ta (rp (i + L.length)) [1, 2] (rq (i + L.length))
  | [], i, r, H, _, hr, b => ⟨r, H, by simp, hr, b⟩
  | x :: L, i, r, H, hl, hr, b => by
    simp only [List.length_cons] at hl
    obtain ⟨r1, e1, h1⟩ := hr.put 11 (by omega) (by omega) x
    obtain ⟨H1, e2, b1⟩ := draw_turn n r1 h1 i (by omega) H b
    obtain ⟨r', H', e3, h3, b3⟩ := draw_for n s hs L (i + 1) r1 H1 (by omega) h1 b1
    refine ⟨r', H', ?_, h3, by rw [show i + (x :: L).length = i + 1 + L.length by simp; omega]; exact b3⟩
    rw [forL_cons]
    simp only [put, e1, e2, O.turn_nx, hs, if_true, e3]
theorem undo_for (n : Nat) (s : Src) (hs : ∀ h, still s h = true) {c c1 c2 : Nat} : ∀ (L : List D) (r : Env) (H : Hh), E5 c r → BagAt H c c1 c2 ta (rp L.length) [1, 2] (rq L.length) → ∃ r' H', forL (ctxN G (n + 8)) s (.n 11) undoB L r H = .nx r' H' ∧ E5 c r'
  | [], r, H, hr, b => ⟨r, H, by simp, hr⟩
  | x :: L, r, H, hr, b => by
    obtain ⟨r1, e1, h1⟩ := hr.put 11 (by omega) (by omega) x
    obtain ⟨H1, e2, b1⟩ := undo_turn n r1 h1 L.length H b
    obtain ⟨r', H', e3, h3⟩ := undo_for n s hs L r1 H1 h1 b1
    refine ⟨r', H', ?_, h3⟩
    rw [forL_cons]
    simp only [put, e1, e2, O.turn_nx, hs, if_true, e3]

abbrev six : FE := eLst false [eMeth [(0, 12)] (eVar 5) [eK (.int 0), eK (.int 1)], eMeth [(0, 12)] (eVar 5) [eK (.int 1), eK (.int 1)], eMeth [(0, 17)] (eVar 5) [], eMeth [(0, 13)] (eVar 5) [], eMeth [(0, 15)] (eVar 5) [], eMeth [(0, 14)] (eVar 5) []]
theorem six_run (n : Nat) {c c1 c2 : Nat} (r : Env) (hr : E5 c r) (H : Hh) (b : BagAt H c c1 c2 tb [] [1, 2] []) : ∃ a1 a2 a3 a4 K us, six (ctxN G (n + 8)) r H = .ok (.lst [.cell a1, .cell a2, .bl true, pD (1, 1), .cell a3, .cell a4]) K ∧ K[a1]? = some (.lst [.int 1]) ∧ K[a2]? = some (.lst [.int 0]) ∧ K[a3]? = some (.lst [pD (0, 1)]) ∧ K[a4]? = some (.lst [.int 0, .int 2]) ∧ BagAt K c c1 c2 tb us [0, 2] [(0, 1)] := by
  have d1 := bag_draw n tb_ok b (0, 1) (by decide) (by simp) (by simp)
  rw [show can [1, 2] (0, 1) = true by decide, show tb.beh [1, 2] (0, 1) = [0, 2] by decide, show tb.back (0, 1) = [1] by decide, if_pos rfl] at d1
  have b1 := (b.drawn (0, 1) [0, 2] rfl (by simp) (by simp)).grow [.lst [.int 1]]
  obtain ⟨B1, e1⟩ : ∃ B, B = bagDrawn H c1 c2 ([] ++ [[1, 2]] ++ [[0, 2]]) [] (0, 1) := ⟨_, rfl⟩
  rw [← e1] at d1 b1
  have l1 : B1.length = H.length := by rw [e1]; simp [bagDrawn]
  obtain ⟨K1, k1⟩ : ∃ K, K = B1 ++ [Cell.lst [D.int 1]] := ⟨_, rfl⟩
  have g1 : K1[H.length]? = some (.lst [.int 1]) := by rw [k1, ← l1]; simp
  have m1 : K1.length = H.length + 1 := by rw [k1]; simp [l1]
  rw [← k1] at b1
  simp only [List.map_cons, List.map_nil] at d1
  rw [← k1] at d1
  have d2 := bag_draw n tb_ok b1 (1, 1) (by decide) (by simp) (by simp)
  rw [show can [0, 2] (1, 1) = true by decide, show tb.beh [0, 2] (1, 1) = [1, 0] by decide, show tb.back (1, 1) = [0] by decide, if_pos rfl] at d2
  have b2 := (b1.drawn (1, 1) [1, 0] rfl (by simp) (by simp)).grow [.lst [.int 0]]
  obtain ⟨B2, e2⟩ : ∃ B, B = bagDrawn K1 c1 c2 ([] ++ [[1, 2]] ++ [[0, 2]] ++ [[1, 0]]) ([] ++ [(0, 1)]) (1, 1) := ⟨_, rfl⟩
  rw [← e2] at d2 b2
  have l2 : B2.length = K1.length := by rw [e2]; simp [bagDrawn]
  have lc1 := (List.getElem?_eq_some_iff.mp b.urns).1
  have lc2 := (List.getElem?_eq_some_iff.mp b.done).1
  obtain ⟨K2, k2⟩ : ∃ K, K = B2 ++ [Cell.lst [D.int 0]] := ⟨_, rfl⟩
  have g12 : K2[H.length]? = some (.lst [.int 1]) := by
    rw [k2, List.getElem?_append_left (by omega), e2]
    unfold bagDrawn
    rw [set2_get (by omega) (by omega)]
    exact g1
  have g22 : K2[K1.length]? = some (.lst [.int 0]) := by rw [k2, ← l2]; simp
  have m2 : K2.length = K1.length + 1 := by rw [k2]; simp [l2]
  rw [← k2] at b2
  simp only [List.map_cons, List.map_nil] at d2
  rw [← k2] at d2
  have en := bag_ended (n + 4) b2
  rw [show decide (isum [1, 0] < 2) = true by decide] at en
  have un := bag_undo (n + 4) (us := [] ++ [[1, 2]]) (v := [0, 2]) (ps := [] ++ [(0, 1)]) (p := (1, 1)) b2
  have b3 := BagAt.undone (us := [] ++ [[1, 2]]) (v := [0, 2]) (ps := [] ++ [(0, 1)]) (p := (1, 1)) b2 rfl
  obtain ⟨K3, k3⟩ : ∃ K, K = bagUndone K2 c1 c2 ([] ++ [[1, 2]] ++ [[0, 2]]) ([] ++ [(0, 1)]) := ⟨_, rfl⟩
  rw [← k3] at un b3
  have m3 : K3.length = K2.length := by rw [k3]; simp [bagUndone]
  have k3g : ∀ i, c1 ≠ i → c2 ≠ i → K3[i]? = K2[i]? := fun i h1 h2 => by
    rw [k3]
    unfold bagUndone
    rw [set2_get h1 h2]
  have dn := bag_done (n + 4) b3
  have b4 := b3.grow [.lst (([] ++ [(0, 1)] : List Pr).map pD)]
  have mb := bag_marbles (n + 4) b4
  have b5 := b4.grow [.lst (([0, 2] : List Int).map D.int)]
  refine ⟨H.length, K1.length, K3.length, K3.length + 1, K3 ++ [.lst (([] ++ [(0, 1)] : List Pr).map pD)] ++ [.lst (([0, 2] : List Int).map D.int)], _, ?_, ?_, ?_, ?_, ?_, b5⟩
  · simp only [List.length_append, List.length_cons, List.length_nil] at mb
    simp only [six, eLst_eqF, evs_cons, evs_nil, eMeth_eq, eVar_eq, hr.2, look_some, eK_eq, R.bind_ok, b.insAt, meth_some, lkM]
    rw [d1]
    simp only [R.bind_ok, b1.insAt, meth_some, lkM]
    rw [d2]
    simp only [R.bind_ok, b2.insAt, meth_some, lkM, en, un, b3.insAt, dn, b4.insAt, mb]
  · rw [List.getElem?_append_left (by simp; omega), List.getElem?_append_left (by omega), k3g _ (by omega) (by omega)]
    exact g12
  · rw [List.getElem?_append_left (by simp; omega), List.getElem?_append_left (by omega), k3g _ (by omega) (by omega)]
    exact g22
  · rw [List.getElem?_append_left (by simp)]
    simp
  · rw [List.getElem?_append_right (by simp)]
    simp

theorem pEq_six {K : Hh} {a1 a2 a3 a4 : Nat} (g1 : K[a1]? = some (.lst [.int 1])) (g2 : K[a2]? = some (.lst [.int 0])) (g3 : K[a3]? = some (.lst [pD (0, 1)])) (g4 : K[a4]? = some (.lst [.int 0, .int 2])) :
    pEq false (.lst [.cell a1, .cell a2, .bl true, pD (1, 1), .cell a3, .cell a4]) (.lst [.lst [.int 1], .lst [.int 0], .bl true, .tup [.int 1, .int 1], .lst [.tup [.int 0, .int 1]], .lst [.int 0, .int 2]]) K = some (.bl true, K) := by
  have t1 : thru 0 K 12 (.lst [.cell a1, .cell a2, .bl true, pD (1, 1), .cell a3, .cell a4]) = some (.lst [.lst [.int 1], .lst [.int 0], .bl true, .tup [.int 1, .int 1], .lst [.tup [.int 0, .int 1]], .lst [.int 0, .int 2]]) := by
    simp [thru, g1, g2, g3, g4, pD]
  have t2 : thru 0 K 12 (.lst [.lst [.int 1], .lst [.int 0], .bl true, .tup [.int 1, .int 1], .lst [.tup [.int 0, .int 1]], .lst [.int 0, .int 2]]) = some (.lst [.lst [.int 1], .lst [.int 0], .bl true, .tup [.int 1, .int 1], .lst [.tup [.int 0, .int 1]], .lst [.int 0, .int 2]]) := by
    simp [thru]
  simp [pEq, deep, t1, t2, plain, plains, eqv, eqvs]
abbrev tail1 : List FS := [sAsg (.n 5) (eMake 0 11 [eTup [eK (.int 2), eLst false [eLst false [eK (.int 0)], eLst false [eK (.int 0), eK (.int 1)], eLst false []]], eLst false [eK (.int 1), eK (.int 2)]]),
    sFor (.n 11) (iRange1 (eK (.int 99))) drawB,
    sFor (.n 11) (iRange1 (eK (.int 99))) undoB,
    sAsg (.n 5) (eMake 0 11 [eTup [eK (.int 2), eLst false [eLst false [eK (.int 0)], eLst false [eK (.int 1)], eLst false [eK (.int 0)]]], eLst false [eK (.int 1), eK (.int 2)]]),
    sAsg (.n 12) six,
    sRet (eAnd (e2 (pEq false) (eVar 12) (eLst false [eLst false [eK (.int 1)], eLst false [eK (.int 0)], eK (.bl true), eTup [eK (.int 1), eK (.int 1)], eLst false [eTup [eK (.int 0), eK (.int 1)]], eLst false [eK (.int 0), eK (.int 2)]])) (e2 (pEq false) (eMeth [(0, 16)] (eVar 5) []) (eLst false [eTup [eK (.int 1), eK (.int 1)]])))]
theorem set_E5 (r : Env) (hr : r.length = 13) (c : Nat) : E5 c (r.set 5 (some (.cell c))) := ⟨by simp [hr], by simp [List.getElem?_set, hr]⟩
theorem tail_run (r : Env) (hr : r.length = 13) (H : Hh) : ∃ h', sAll tail1 (ctxN G 39) r H = .rt (.bl true) h' := by
  have mk1 := make_tree 30 ta_ok (u := [1, 2]) rfl (by decide) (by decide) H (.lst [.int 1, .int 2]) (fun _ => rfl) (eTup [eK (.int 2), eLst false [eLst false [eK (.int 0)], eLst false [eK (.int 0), eK (.int 1)], eLst false []]]) (eLst false [eK (.int 1), eK (.int 2)]) r H rfl
  have b1 := bagNew_at H ta [1, 2] rfl
  obtain ⟨r2, H2, e2, h2, b2⟩ := draw_for 31 ⟨[], rangeL 0 99⟩ (fun _ => rfl) (rangeL 0 99) 0 (r.set 5 (some (.cell H.length))) (bagNew H ta [1, 2]) (by rw [rangeL_ln]; omega) (set_E5 r hr _) b1
  rw [Nat.zero_add] at b2
  obtain ⟨r3, H3, e3, h3⟩ := undo_for 31 ⟨[], rangeL 0 99⟩ (fun _ => rfl) (rangeL 0 99) r2 H2 h2 b2
  have mk2 := make_tree 30 tb_ok (u := [1, 2]) rfl (by decide) (by decide) H3 (.lst [.int 1, .int 2]) (fun _ => rfl) (eTup [eK (.int 2), eLst false [eLst false [eK (.int 0)], eLst false [eK (.int 1)], eLst false [eK (.int 0)]]]) (eLst false [eK (.int 1), eK (.int 2)]) r3 H3 rfl
  have b4 := bagNew_at H3 tb [1, 2] rfl
  have h4 := set_E5 r3 h3.1 H3.length
  obtain ⟨a1, a2, a3, a4, K, us, e5, g1, g2, g3, g4, b5⟩ := six_run 31 (r3.set 5 (some (.cell H3.length))) h4 (bagNew H3 tb [1, 2]) b4
  have cd := bag_can 33 tb_ok b5
  rw [show tb.opens [0, 2] = [(1, 1)] by decide] at cd
  have q6 := pEq_six g1 g2 g3 g4
  have rng : ∀ h, rng1 (.int 99) h = .ok ⟨[], rangeL 0 99⟩ h := fun _ => rfl
  refine ⟨K ++ [.lst ([(1, 1)].map pD)], ?_⟩
  refine (sAll_step (r1 := r.set 5 (some (.cell H.length))) (h1 := bagNew H ta [1, 2]) ?_).trans ?_
  · rw [sAsg_eq, mk1, R.st_ok, put_n, if_pos (by omega)]
  refine (sAll_step (r1 := r2) (h1 := H2) ?_).trans ?_
  · rw [sFor_eq, iRange1_eq, eK_eq, R.bind_ok, rng, R.stS_ok]
    exact e2
  refine (sAll_step (r1 := r3) (h1 := H3) ?_).trans ?_
  · rw [sFor_eq, iRange1_eq, eK_eq, R.bind_ok, rng, R.stS_ok]
    exact e3
  refine (sAll_step (r1 := r3.set 5 (some (.cell H3.length))) (h1 := bagNew H3 tb [1, 2]) ?_).trans ?_
  · rw [sAsg_eq, mk2, R.st_ok, put_n, if_pos (by rw [h3.1]; omega)]
  obtain ⟨r6, e6⟩ : ∃ r6, r6 = (r3.set 5 (some (.cell H3.length))).set 12 (some (.lst [.cell a1, .cell a2, .bl true, pD (1, 1), .cell a3, .cell a4])) := ⟨_, rfl⟩
  refine (sAll_step (r1 := r6) (h1 := K) ?_).trans ?_
  · rw [sAsg_eq, e5, R.st_ok, put_n, if_pos (by rw [h4.1]; omega), e6]
  have g12 : r6[12]? = some (some (.lst [.cell a1, .cell a2, .bl true, pD (1, 1), .cell a3, .cell a4])) := by rw [e6]; simp [List.getElem?_set, h3.1]
  have g5 : r6[5]? = some (some (.cell H3.length)) := by rw [e6, List.getElem?_set_ne (by omega)]; exact h4.2
  have q7 : pEq false (.cell K.length) (.lst [.tup [.int 1, .int 1]]) (K ++ [.lst ([(1, 1)].map pD)]) = some (.bl true, K ++ [.lst ([(1, 1)].map pD)]) := by
    have v1 := viewL_last K ([(1, 1)].map pD)
    simp only [pEq, deep_pDs v1, deep_pDs (ps := [(1, 1)]) (show viewL (K ++ [.lst ([(1, 1)].map pD)]) (.lst [.tup [.int 1, .int 1]]) = some ([(1, 1)].map pD) from rfl), eqv, eqvs_pDs]
    rfl
  rw [sAll_one, sRet_eq]
  simp only [eAnd_eq, e2_eq, eMeth_eq, eTup_eq, evs_cons, evs_nil, eVar_eq, g12, g5, look_some, eK_eq, R.bind_ok, eLst_eqF, q6, up_some, ifb_bl, if_true, b5.insAt, meth_some, lkM, cd, q7, R.st_ok]
end M

set_option autoImplicit false
set_option linter.all false
set_option maxRecDepth 100000
/-! k01: the walk over the script, and what stands before it. -/
namespace M
abbrev loopB : FS := sAll [sIf (eNot (eCall 30 [eVar 5, eVar 1, eVar 7, eVar 8, e2 pFdiv (eCall 20 [eVar 10, e2 pMod (eVar 9) (eK (.int 5))]) (eK (.int 3))])) (sAll [sRet (eK (.bl false))]) (sAll []),
    sIf (eAnd (e2 (pEq false) (e2 pMod (eVar 9) (eK (.int 4))) (eK (.int 0))) (eNot (eCall 28 [eVar 5, eVar 1, eVar 7, eVar 8]))) (sAll [sRet (eK (.bl false))]) (sAll [])]
abbrev lEnv (ns : D) (t : Tb) (cu : Nat) (x3 x4 : Option D) (c z cs cd : Nat) (x9 x10 : Option D) : Env := [some ns, some t.d, some (.cell cu), x3, x4, some (.cell c), some (.cell z), some (.cell cs), some (.cell cd), x9, x10, none, none]
section
variable {c c1 c2 cs cd cu z z1 z2 : Nat} {t : Tb} {u0 : List Int}
theorem loop_turn (o : t.Ok) (ns : D) (x3 x4 : Option D) (i v : Int) {H : Hh} {us : List (List Int)} {u : List Int} {ps : List Pr} (w : W H c c1 c2 cs cd cu z z1 z2 t u0 us u ps) (hl : us.length < 1000) :
    ∃ H' us' u' ps', us'.length ≤ us.length + 1 ∧ W H' c c1 c2 cs cd cu z z1 z2 t u0 us' u' ps' ∧ loopB (ctxN G 39) (lEnv ns t cu x3 x4 c z cs cd (some (.int i)) (some (.int v))) H = .nx (lEnv ns t cu x3 x4 c z cs cd (some (.int i)) (some (.int v))) H' := by
  have i0 := Int.fmod_nonneg_of_pos i (show (0 : Int) < 5 by omega)
  have i1 := Int.fmod_lt_of_pos i (show (0 : Int) < 5 by omega)
  obtain ⟨y, y0, _, ey⟩ := call_value v (i.fmod 5) i0 (by omega)
  have o3 : okI 3 = true := okI_small (by decide)
  obtain ⟨H', us', u', ps', h1, w', e⟩ := deed 28 o w (y.fdiv 3) hl
  obtain ⟨L, x, S⟩ := w'.same
  have sm := call_same 32 o S
  refine ⟨H', us', u', ps', h1, w', ?_⟩
  refine (sAll_step (r1 := lEnv ns t cu x3 x4 c z cs cd (some (.int i)) (some (.int v))) (h1 := H') ?_).trans ?_
  · simp only [sIf_eq, eNot_eq, eCall_eq, evs_cons, evs_nil, e2_eq, eVar_eq, List.getElem?_cons_succ, List.getElem?_cons_zero, look_some, eK_eq, R.bind_ok, pMod_int (show (5 : Int) ≠ 0 by decide), up_some, ey 34, pFdiv_int (show (3 : Int) ≠ 0 by decide) o3, e, notb_bl, Bool.not_true, R.st_ok, ifo_bl, Bool.false_eq_true, if_false, sAll_nil]
  · rw [sAll_one, sIf_eq]
    simp only [eAnd_eq, eNot_eq, eCall_eq, evs_cons, evs_nil, e2_eq, eVar_eq, List.getElem?_cons_succ, List.getElem?_cons_zero, look_some, eK_eq, R.bind_ok, pMod_int (show (4 : Int) ≠ 0 by decide), up_some, pEq_intF, ifb_bl, sm, notb_bl, Bool.not_true]
    by_cases q : (i.fmod 4 == 0) = true
    · simp [q]
    · simp [q]
theorem loop_for (o : t.Ok) (ns : D) (x3 x4 : Option D) (s : Src) (hs : ∀ h, still s h = true) : ∀ (Q : List Int) (i : Int) (x9 x10 : Option D) (H : Hh) (us : List (List Int)) (u : List Int) (ps : List Pr), W H c c1 c2 cs cd cu z z1 z2 t u0 us u ps → us.length + Q.length < 1000 →
    ∃ y9 y10 H' us' u' ps', W H' c c1 c2 cs cd cu z z1 z2 t u0 us' u' ps' ∧ forL (ctxN G 39) s (.t [.n 9, .n 10]) loopB (enumT i (Q.map D.int)) (lEnv ns t cu x3 x4 c z cs cd x9 x10) H = .nx (lEnv ns t cu x3 x4 c z cs cd y9 y10) H'
  | [], i, x9, x10, H, us, u, ps, w, _ => ⟨x9, x10, H, us, u, ps, w, by simp [enumT]⟩
  | v :: Q, i, x9, x10, H, us, u, ps, w, hl => by
    simp only [List.length_cons] at hl
    obtain ⟨H1, us1, u1, ps1, l1, w1, e1⟩ := loop_turn o ns x3 x4 i v w (by omega)
    obtain ⟨y9, y10, H', us', u', ps', w', e2⟩ := loop_for o ns x3 x4 s hs Q (i + 1) (some (.int i)) (some (.int v)) H1 us1 u1 ps1 w1 (by omega)
    refine ⟨y9, y10, H', us', u', ps', w', ?_⟩
    have ea : asg (.t [.n 9, .n 10]) (.tup [.int i, .int v]) (lEnv ns t cu x3 x4 c z cs cd x9 x10) = some (lEnv ns t cu x3 x4 c z cs cd (some (.int i)) (some (.int v))) := by simp
    rw [List.map_cons, enumT, forL_cons]
    simp only [put, ea, e1, O.turn_nx, hs, if_true, e2]
end
/-! ### what stands before -/
def cellsFrom (i n : Nat) : List D := (List.range' i n).map D.cell
def lstOf (b : List Int) : Cell := .lst (b.map D.int)
theorem compL_cells (cx : Ctx) (s : Src) (hs : ∀ h, still s h = true) (a : Option D) : ∀ (bs : List (List Int)) (h : Hh), compL cx s [1] (.n 1) eYes (e1 (pList true) (eVar 1)) [a, none] (bs.map uD) h = .ok (cellsFrom h.length bs.length) (h ++ bs.map lstOf)
  | [], h => by simp [compL, cellsFrom]
  | b :: bs, h => by
    have ih := compL_cells cx s hs a bs (h ++ [lstOf b])
    have y : ∀ r h, eYes cx r h = .ok (.bl true) h := fun _ _ => rfl
    have p : e1 (pList true) (eVar 1) cx [a, some (uD b)] h = .ok (.cell h.length) (h ++ [lstOf b]) := rfl
    have ea : asg (.n 1) (uD b) (wipeE [a, none] [1]) = some [a, some (uD b)] := rfl
    rw [List.map_cons, compL, ea]
    simp only [y, R.bind_ok, p, hs, if_true, ih]
    simp [cellsFrom, List.range'_succ, lstOf]
theorem call_copied (n : Nat) (t : Tb) (o : t.Ok) (H : Hh) : (ctxN G (n + 4)).call 27 [t.d] H = .ok (.tup [.int t.k, .cell (H.length + t.bs.length)]) (H ++ t.bs.map lstOf ++ [.lst (cellsFrom H.length t.bs.length)]) := by
  rw [ctxN_call G (k := 27) (f := f_law_copied) rfl]
  refine run_imp rfl rfl ?_
  have hc := compL_cells (ctxN G (n + 3)) ⟨[], t.bs.map uD⟩ (fun _ => rfl) (some t.d) t.bs H
  have hlen : t.bs.length ≤ LIM := by
    have := prs_len o.k4
    rw [o.len]
    unfold LIM
    omega
  show sAll [sRet _] (ctxN G (n + 3)) [some t.d, none] H = _
  rw [sAll_one, sRet_eq, eTup_eq]
  simp only [evs_cons, evs_nil, e2_eq, eVar_eq, List.getElem?_cons_succ, List.getElem?_cons_zero, look_some, eK_eq, R.bind_ok, t.ix0, up_some, eComp_eq, iSeq_eq, t.ix1, seqW_lst, hlen, if_true, hc, R.calm_ok, mkL_T, R.st_ok, List.length_append, List.length_map]
theorem cells_all2 : ∀ (bs : List (List Int)) (pre post : Hh) , All2 (fun x b => viewL (pre ++ bs.map lstOf ++ post) x = some (b.map D.int)) (cellsFrom pre.length bs.length) bs
  | [], pre, post => .nil
  | b :: bs, pre, post => by
    have ih := cells_all2 bs (pre ++ [lstOf b]) post
    have e : pre ++ [lstOf b] ++ bs.map lstOf ++ post = pre ++ (b :: bs).map lstOf ++ post := by simp
    rw [e] at ih
    simp only [cellsFrom, List.length_cons, List.range'_succ, List.map_cons]
    refine .cons (view_at ?_) (by simpa [cellsFrom] using ih)
    simp [lstOf]
end M

set_option autoImplicit false
set_option linter.all false
set_option maxRecDepth 100000
/-! k01: the law holds in the machine. -/
namespace M
/-- the urn, its copies and the copied table -/
def A1 (t : Tb) (u0 : List Int) : Hh := [lstOf u0] ++ t.bs.map lstOf ++ [.lst (cellsFrom 1 t.bs.length)] ++ [lstOf u0]
def B1 (t : Tb) (u0 : List Int) : Hh := bagNew (bagNew (A1 t u0) t u0) t u0
def C1 (t : Tb) (u0 : List Int) : Hh := B1 t u0 ++ [.lst [.cell 0]] ++ [.lst []]
theorem A1_len (t : Tb) (u0 : List Int) : (A1 t u0).length = t.bs.length + 3 := by simp [A1]
theorem B1_len (t : Tb) (u0 : List Int) : (B1 t u0).length = t.bs.length + 9 := by simp [B1, bagNew, A1_len]
theorem C1_eq (t : Tb) (u0 : List Int) : ∃ g, C1 t u0 = A1 t u0 ++ g := by
  simp only [C1, B1, bagNew, List.append_assoc]
  exact ⟨_, rfl⟩
theorem A1_0 (t : Tb) (u0 : List Int) (g : Hh) : (A1 t u0 ++ g)[0]? = some (.lst (u0.map D.int)) := by simp [A1, lstOf]
theorem A1_bs (t : Tb) (u0 : List Int) (g : Hh) (j : Nat) (hj : j < t.bs.length) : (A1 t u0 ++ g)[j + 1]? = some (lstOf t.bs[j]) := by
  simp [A1, hj, List.getElem?_append_left]
theorem A1_tab (t : Tb) (u0 : List Int) (g : Hh) : (A1 t u0 ++ g)[t.bs.length + 1]? = some (.lst (cellsFrom 1 t.bs.length)) := by
  simp only [A1, List.append_assoc]
  rw [List.getElem?_append_right (by simp), List.getElem?_append_right (by simp)]
  simp
theorem A1_urn (t : Tb) (u0 : List Int) (g : Hh) : (A1 t u0 ++ g)[t.bs.length + 2]? = some (.lst (u0.map D.int)) := by
  simp only [A1, List.append_assoc]
  rw [List.getElem?_append_right (by simp), List.getElem?_append_right (by simp)]
  simp [lstOf]
theorem W1 (t : Tb) (u0 : List Int) (hl : u0.length = t.k) (hu : ∀ i ∈ u0, 0 ≤ i) : W (C1 t u0) (t.bs.length + 3) (t.bs.length + 4) (t.bs.length + 5) (t.bs.length + 9) (t.bs.length + 10) 0 (t.bs.length + 6) (t.bs.length + 7) (t.bs.length + 8) t u0 [] u0 [] := by
  have b1 := bagNew_at (A1 t u0) t u0 hl
  have b2 := bagNew_at (bagNew (A1 t u0) t u0) t u0 hl
  have l1 := A1_len t u0
  have l2 : (bagNew (A1 t u0) t u0).length = t.bs.length + 6 := by simp [bagNew, l1]
  have l3 := B1_len t u0
  rw [l1] at b1
  rw [l2] at b2
  have b1' := ((b1.grow [.ins 0 [(0, t.d), (1, .cell ((bagNew (A1 t u0) t u0).length + 1)), (2, .cell ((bagNew (A1 t u0) t u0).length + 2))], .lst [uD u0], .lst []]).grow [.lst [.cell 0]]).grow [.lst []]
  have b2' := (b2.grow [.lst [.cell 0]]).grow [.lst []]
  obtain ⟨g, eg⟩ := C1_eq t u0
  refine ⟨b1', ?_, ?_, ?_, rfl, rfl, fun w hw => ?_, b2', by omega⟩
  · unfold C1
    rw [List.getElem?_append_left (by simp [l3]), ← l3]
    simp [stD]
  · unfold C1
    have : t.bs.length + 10 = (B1 t u0 ++ [Cell.lst [.cell 0]]).length := by simp [l3]
    rw [this]
    simp
  · rw [eg]
    exact A1_0 t u0 g
  · simp only [List.nil_append, List.mem_cons, List.not_mem_nil, or_false] at hw
    subst hw
    exact ⟨hl, hu⟩
theorem W.offm {H : Hh} {c c1 c2 cs cd cu z z1 z2 : Nat} {t : Tb} {u0 : List Int} {us : List (List Int)} {u : List Int} {ps : List Pr} (w : W H c c1 c2 cs cd cu z z1 z2 t u0 us u ps) (i : Nat) (x : Cell) (hi : cu < i) (hj : i < c) : W (H.set i x) c c1 c2 cs cd cu z z1 z2 t u0 us u ps := by
  obtain ⟨o1, o2, o3, o4, o5, o6, o7, o8⟩ := w.ne
  refine ⟨w.bag.off x (by omega) (by omega) (by omega), ?_, ?_, ?_, w.head, w.len, w.good, w.other.off x (by omega) (by omega) (by omega), w.ne⟩
  · rw [List.getElem?_set_ne (by omega)]; exact w.hs
  · rw [List.getElem?_set_ne (by omega)]; exact w.hd
  · rw [List.getElem?_set_ne (by omega)]; exact w.hu
theorem isum_add0 (u : List Int) (d : Int) (hl : 0 < u.length) : isum (addAt u 0 d) = isum u + d := by
  cases u with
  | nil => simp at hl
  | cons x xs => simp [addAt, isum]; omega
theorem addAt_posd {u : List Int} (h : ∀ i ∈ u, 0 ≤ i) (d : Int) (hd : 0 ≤ d) : ∀ j ∈ addAt u 0 d, 0 ≤ j := fun j hj => by
  unfold addAt at hj
  rcases List.mem_or_eq_of_mem_set hj with hj | rfl
  · exact h j hj
  · have := get_nonneg h (0 : Int).toNat
    omega
theorem cells_rev (n : Nat) (hn : 0 < n) : ∃ j, j < n ∧ ∃ tl, (cellsFrom 1 n).reverse = .cell (j + 1) :: tl := by
  obtain ⟨m, rfl⟩ : ∃ m, n = m + 1 := ⟨n - 1, by omega⟩
  refine ⟨m, by omega, (cellsFrom 1 m).reverse, ?_⟩
  simp [cellsFrom, List.range'_concat, Nat.add_comm]
theorem k1_law (ns : List Int) (hl : ns.length ≤ 63) : ∃ h', f_law_k01.body (ctxN G 39) (some (.lst (ns.map D.int)) :: List.replicate 12 none) [] = .rt (.bl true) h' := by
  obtain ⟨t, o, tk, e24⟩ := table_run 33 ns 0 (by omega) 4 (by omega) (by omega) []
  obtain ⟨u, up, us, ul, e25⟩ := urn_cell 33 ns 0 (by omega) t.k o.k4 60 (by omega) []
  obtain ⟨cc, ec⟩ := call_cell ns 0 (by omega)
  obtain ⟨y, y0, _, ey⟩ := call_value cc 8 (by omega) (by omega)
  have k1 := o.k1
  obtain ⟨d, ed⟩ : ∃ d, d = y.fmod (61 - isum u) := ⟨_, rfl⟩
  have d0 : 0 ≤ d := by rw [ed]; exact Int.fmod_nonneg_of_pos _ (by omega)
  have d1 : d < 61 - isum u := by rw [ed]; exact Int.fmod_lt_of_pos _ (by omega)
  obtain ⟨u0, eu⟩ : ∃ u0, u0 = addAt u 0 d := ⟨_, rfl⟩
  have hu0 : u0.length = t.k := by rw [eu, addAt_len, ul]
  have pu0 : ∀ i ∈ u0, 0 ≤ i := by rw [eu]; exact addAt_posd up d d0
  have su0 : isum u0 ≤ 60 := by rw [eu, isum_add0 _ _ (by omega)]; omega
  have cpy := call_copied 35 t o [lstOf u0]
  have m1 := make_bag 30 o hu0 pu0 su0 (A1 t u0) (.cell (t.bs.length + 1)) (.cell (t.bs.length + 2)) (cellsFrom 1 t.bs.length) (fun y => view_at (A1_tab t u0 [y])) (fun y => by
    have := cells_all2 t.bs [lstOf u0] ([.lst (cellsFrom 1 t.bs.length)] ++ [lstOf u0] ++ [y])
    simpa [A1, List.append_assoc] using this) (fun y => view_at (A1_urn t u0 [y])) (eVar 3) (eVar 4) [some (.lst (ns.map D.int)), some t.d, some (.cell 0), some (.tup [.int t.k, .cell (t.bs.length + 1)]), some (.cell (t.bs.length + 2)), none, none, none, none, none, none, none, none] (A1 t u0) (by simp)
  have v0 : ∀ z : Cell, viewL (bagNew (A1 t u0) t u0 ++ [z]) (.cell 0) = some (u0.map D.int) := fun z => view_at (by
    unfold bagNew
    rw [List.append_assoc]
    exact A1_0 t u0 _)
  have m2 := make_tree 30 o hu0 pu0 su0 (bagNew (A1 t u0) t u0) (.cell 0) v0 (eVar 1) (eVar 2) [some (.lst (ns.map D.int)), some t.d, some (.cell 0), some (.tup [.int t.k, .cell (t.bs.length + 1)]), some (.cell (t.bs.length + 2)), none, none, none, none, none, none, none, none] (bagNew (A1 t u0) t u0) (by simp)
  have w0 := W1 t u0 hu0 pu0
  obtain ⟨g, eg⟩ := C1_eq t u0
  have bpos : 0 < t.bs.length := by rw [o.len]; exact prs_pos o.k1 o.k4
  obtain ⟨j, hj, tl, ej⟩ := cells_rev t.bs.length bpos
  -- the copies changed
  have c1 : (C1 t u0)[t.bs.length + 1]? = some (.lst (cellsFrom 1 t.bs.length)) := by rw [eg]; exact A1_tab t u0 g
  obtain ⟨D1, eD1⟩ : ∃ K, K = (C1 t u0).set (t.bs.length + 1) (.lst (cellsFrom 1 t.bs.length).reverse) := ⟨_, rfl⟩
  have w1 := w0.offm (t.bs.length + 1) (.lst (cellsFrom 1 t.bs.length).reverse) (by omega) (by omega)
  rw [← eD1] at w1
  have lC : (C1 t u0).length = t.bs.length + 11 := by simp [C1, B1_len]
  have c2 : D1[t.bs.length + 1]? = some (.lst (.cell (j + 1) :: tl)) := by rw [eD1, List.getElem?_set_self (by omega), ej]
  have c3 : D1[j + 1]? = some (.lst (t.bs[j].map D.int)) := by
    rw [eD1, List.getElem?_set_ne (by omega), eg]
    exact A1_bs t u0 g j hj
  obtain ⟨D2, eD2⟩ : ∃ K, K = D1.set (j + 1) (.lst (t.bs[j].map D.int ++ [.int 9])) := ⟨_, rfl⟩
  have w2 := w1.offm (j + 1) (.lst (t.bs[j].map D.int ++ [.int 9])) (by omega) (by omega)
  rw [← eD2] at w2
  have c4 : D2[t.bs.length + 2]? = some (.lst (u0.map D.int)) := by
    rw [eD2, List.getElem?_set_ne (by omega), eD1, List.getElem?_set_ne (by omega), eg]
    exact A1_urn t u0 g
  obtain ⟨D3, eD3⟩ : ∃ K, K = D2.set (t.bs.length + 2) (.lst (u0.map D.int ++ [.int 0])) := ⟨_, rfl⟩
  have w3 := w2.offm (t.bs.length + 2) (.lst (u0.map D.int ++ [.int 0])) (by omega) (by omega)
  rw [← eD3] at w3
  have a1 := append_at c3 (.int 9) (by have := o.two _ (List.getElem_mem hj); simp [LIM]; omega)
  rw [← eD2] at a1
  have a2 := append_at c4 (.int 0) (by have := o.k4; simp [LIM]; omega)
  rw [← eD3] at a2
  obtain ⟨y9, y10, HL, us', u', ps', wl, el⟩ := loop_for o (.lst (ns.map D.int)) (some (.tup [.int t.k, .cell (t.bs.length + 1)])) (some (.cell (t.bs.length + 2))) ⟨[], enumT 0 (ns.map D.int)⟩ (fun _ => rfl) ns 0 none none D3 [] u0 [] w3 (by simp; omega)
  obtain ⟨L, x, S⟩ := wl.same
  have sm1 := call_same 32 o S
  have sm2 := call_same 32 o (wl.same2 pu0)
  obtain ⟨h', et⟩ := tail_run (lEnv (.lst (ns.map D.int)) t 0 (some (.tup [.int t.k, .cell (t.bs.length + 1)])) (some (.cell (t.bs.length + 2))) (t.bs.length + 3) (t.bs.length + 6) (t.bs.length + 9) (t.bs.length + 10) y9 y10) rfl HL
  refine ⟨h', ?_⟩
  show sAll _ (ctxN G 39) [some (.lst (ns.map D.int)), none, none, none, none, none, none, none, none, none, none, none, none] [] = _
  refine (sAll_step (r1 := [some (.lst (ns.map D.int)), some t.d, none, none, none, none, none, none, none, none, none, none, none]) (h1 := []) ?_).trans ?_
  · simp only [sAsg_eq, eCall_eq, evs_cons, evs_nil, eVar_eq, List.getElem?_cons_zero, look_some, eK_eq, R.bind_ok, e24, R.st_ok, put_n]
    rfl
  refine (sAll_step (r1 := [some (.lst (ns.map D.int)), some t.d, some (.cell 0), none, none, none, none, none, none, none, none, none, none]) (h1 := [lstOf u]) ?_).trans ?_
  · simp only [sAsg_eq, eCall_eq, evs_cons, evs_nil, e2_eq, eVar_eq, List.getElem?_cons_succ, List.getElem?_cons_zero, look_some, eK_eq, R.bind_ok, t.ix0, up_some, e25, R.st_ok, put_n]
    rfl
  refine (sAll_step (r1 := [some (.lst (ns.map D.int)), some t.d, some (.cell 0), none, none, none, none, none, none, none, none, none, none]) (h1 := [lstOf u0]) ?_).trans ?_
  · have vu : viewL [lstOf u] (.cell 0) = some (u.map D.int) := rfl
    have px := pIx_ints vu 0 (by omega) (by omega)
    have ps := pSum_view vu
    have st : setIx (.cell 0) (.int 0) (.int (u.getD (0 : Int).toNat 0 + d)) [lstOf u] = some [lstOf u0] := by
      have := setIx_lastN [] (u.map D.int) 0 (.int (u.getD (0 : Int).toNat 0 + d)) (by omega) (by simp; omega)
      simpa [lstOf, eu, addAt, List.map_set] using this
    rw [sSetIx_eq]
    simp only [e2_eq, e1_eq, eCall_eq, evs_cons, evs_nil, eVar_eq, List.getElem?_cons_succ, List.getElem?_cons_zero, look_some, eK_eq, R.bind_ok, px, up_some, ec 35, ey 34, ps, pSub_int, pMod_int (show 61 - isum u ≠ 0 by omega), ← ed, pAdd_int, st, optH_some, R.st_ok]
  refine (sAll_step (r1 := [some (.lst (ns.map D.int)), some t.d, some (.cell 0), some (.tup [.int t.k, .cell (t.bs.length + 1)]), some (.cell (t.bs.length + 2)), none, none, none, none, none, none, none, none]) (h1 := A1 t u0) ?_).trans ?_
  · have pl : pList true (.cell 0) ([lstOf u0] ++ t.bs.map lstOf ++ [.lst (cellsFrom 1 t.bs.length)]) = some (.cell (t.bs.length + 2), A1 t u0) := by
      have : viewK ([lstOf u0] ++ t.bs.map lstOf ++ [.lst (cellsFrom 1 t.bs.length)]) (.cell 0) = some (u0.map D.int) := viewK_of rfl
      simp only [pList, this, mkL_T]
      simp [A1, lstOf]
    rw [sPar_eq]
    simp only [evs_cons, evs_nil, eCall_eq, e1_eq, eVar_eq, List.getElem?_cons_succ, List.getElem?_cons_zero, look_some, R.bind_ok]
    rw [cpy]
    simp only [R.bind_ok, List.length_cons, List.length_nil, Nat.zero_add, pl, up_some, R.stA_ok]
    rw [Nat.add_comm 1]
    rfl
  refine (sAll_step (r1 := [some (.lst (ns.map D.int)), some t.d, some (.cell 0), some (.tup [.int t.k, .cell (t.bs.length + 1)]), some (.cell (t.bs.length + 2)), some (.cell (t.bs.length + 3)), some (.cell (t.bs.length + 6)), none, none, none, none, none, none]) (h1 := B1 t u0) ?_).trans ?_
  · have l2 : (bagNew (A1 t u0) t u0).length = t.bs.length + 6 := by simp [bagNew, A1_len]
    rw [sPar_eq, evs_cons, m1, R.bind_ok, evs_cons, m2, A1_len, l2]
    rfl
  refine (sAll_step (r1 := lEnv (.lst (ns.map D.int)) t 0 (some (.tup [.int t.k, .cell (t.bs.length + 1)])) (some (.cell (t.bs.length + 2))) (t.bs.length + 3) (t.bs.length + 6) (t.bs.length + 9) (t.bs.length + 10) none none) (h1 := C1 t u0) ?_).trans ?_
  · have l3 := B1_len t u0
    simp only [sPar_eq, evs_cons, evs_nil, eLst_eqT, eVar_eq, List.getElem?_cons_succ, List.getElem?_cons_zero, look_some, R.bind_ok, R.stA_ok, List.length_append, List.length_cons, List.length_nil, l3]
    rfl
  refine (sAll_step (r1 := lEnv (.lst (ns.map D.int)) t 0 (some (.tup [.int t.k, .cell (t.bs.length + 1)])) (some (.cell (t.bs.length + 2))) (t.bs.length + 3) (t.bs.length + 6) (t.bs.length + 9) (t.bs.length + 10) none none) (h1 := D1) ?_).trans ?_
  · have vw := view_at c1
    have pr : pReverse (.cell (t.bs.length + 1)) (C1 t u0) = some (.non, D1) := by simp only [pReverse, c1, eD1]
    simp only [sExpr_eq, eM0_eq, e2_eq, eVar_eq, List.getElem?_cons_succ, List.getElem?_cons_zero, look_some, eK_eq, R.bind_ok, pIx_tup1, up_some, vw, Option.isSome_some, if_true, pr, R.st_ok]
  refine (sAll_step (r1 := lEnv (.lst (ns.map D.int)) t 0 (some (.tup [.int t.k, .cell (t.bs.length + 1)])) (some (.cell (t.bs.length + 2))) (t.bs.length + 3) (t.bs.length + 6) (t.bs.length + 9) (t.bs.length + 10) none none) (h1 := D2) ?_).trans ?_
  · have px := pIx_nat (h := D1) (x := .cell (j + 1)) (i := 0) (viewS_of (view_at c2)) rfl
    have vw := view_at c3
    simp only [sExpr_eq, eM1_eq, e2_eq, eVar_eq, List.getElem?_cons_succ, List.getElem?_cons_zero, look_some, eK_eq, R.bind_ok, pIx_tup1, up_some, Int.natCast_zero] at px ⊢
    simp only [px, up_some, R.bind_ok, vw, Option.isSome_some, if_true, a1, R.st_ok]
  refine (sAll_step (r1 := lEnv (.lst (ns.map D.int)) t 0 (some (.tup [.int t.k, .cell (t.bs.length + 1)])) (some (.cell (t.bs.length + 2))) (t.bs.length + 3) (t.bs.length + 6) (t.bs.length + 9) (t.bs.length + 10) none none) (h1 := D3) ?_).trans ?_
  · have vw := view_at c4
    simp only [sExpr_eq, eM1_eq, eVar_eq, List.getElem?_cons_succ, List.getElem?_cons_zero, look_some, eK_eq, R.bind_ok, vw, Option.isSome_some, if_true, a2, up_some, R.st_ok]
  refine (sAll_step (r1 := lEnv (.lst (ns.map D.int)) t 0 (some (.tup [.int t.k, .cell (t.bs.length + 1)])) (some (.cell (t.bs.length + 2))) (t.bs.length + 3) (t.bs.length + 6) (t.bs.length + 9) (t.bs.length + 10) y9 y10) (h1 := HL) ?_).trans ?_
  · rw [sFor_eq, iEnum_eq]
    simp only [eVar_eq, List.getElem?_cons_zero, look_some, R.bind_ok, enumW, viewW, R.stS_ok]
    exact el
  refine (sAll_step (r1 := lEnv (.lst (ns.map D.int)) t 0 (some (.tup [.int t.k, .cell (t.bs.length + 1)])) (some (.cell (t.bs.length + 2))) (t.bs.length + 3) (t.bs.length + 6) (t.bs.length + 9) (t.bs.length + 10) y9 y10) (h1 := HL) ?_).trans et
  simp only [sIf_eq, eOr_eq, eNot_eq, eCall_eq, evs_cons, evs_nil, eLst_eqF, eVar_eq, List.getElem?_cons_succ, List.getElem?_cons_zero, look_some, R.bind_ok, sm1, sm2, notb_bl, Bool.not_true, ifb_bl, Bool.false_eq_true, if_false, R.st_ok, ifo_bl, sAll_nil]
end M

namespace M
theorem law_true : ∀ ns : List Int, ns.length ≤ 63 → ∃ h', f_law_k01.body (ctxN G 39) (law0 12 ns) [] = .rt (.bl true) h' := fun ns h => k1_law ns h
end M

open PySem PySem.W PyProof.Rows
set_option maxRecDepth 100000 in
set_option maxHeartbeats 0 in
theorem PySem.Challenge.cw_lastmarble_k01_whole_bag_holds : PySem.Challenge.rw_lastmarble_k01_whole_bag.Holds := by
  w_on; o_law; k_head; (case hw => w_witness2)
  k_fill
  refine LamX.walk_ofTs (l := PySem.Challenge.rw_lastmarble_k01_whole_bag) (n := 63) (k := 40) (x := "_law_script") (CX := fun w => L2.CX PySem.Challenge.rw_lastmarble_k01_whole_bag.prog w) rfl (by decide) rfl ⟨rfl, by decide, by decide⟩ (fun w h Y => PySem.W.km_in_of Y) ?F (fun w H s e s2 z => ?_)
  case F =>
    intro w mg fa h Y KX Gn hmg
    refine' M.all_mk KX Gn hmg ?b_len ?b_list ?b_tuple ?b_int ?b_bool ?b_sum ?b_all ?b_any ?b_abs ?b_max ?b_min ?b_sorted ?b_set ?b_isinstance ?b_range ?b_enumerate ?b_zip ?b_str ?b_ValueError ?k_MOST_KINDS ?k_MOST_BACK ?k_MOST_BAG ?ea0 ?eq0 ?ek0 ?es0 ?et0 ?ea1 ?eq1 ?ek1 ?es1 ?et1 ?ea2 ?eq2 ?ek2 ?es2 ?et2 ?ea3 ?eq3 ?ek3 ?es3 ?et3 ?ea4 ?eq4 ?ek4 ?es4 ?et4 ?ea5 ?eq5 ?ek5 ?es5 ?et5 ?xn ?xt ?xd0 ?xg1 ?xk1 ?xd1 ?xa1 ?xm1 ?xs1 ?xv1 ?xi1_1 ?xi1_2 ?xi1_3 ?xi1_4 ?xi1_5 ?xg2 ?xk2 ?xd2 ?xa2 ?xm2 ?xs2 ?xv2 ?xi2_1 ?xi2_2 ?xi2_3 ?xi2_4 ?xi2_5 ?xg3 ?xk3 ?xd3 ?xa3 ?xm3 ?xs3 ?xv3 ?xi3_1 ?xi3_2 ?xi3_3 ?xi3_4 ?xi3_5 ?xg4 ?xk4 ?xd4 ?xa4 ?xm4 ?xs4 ?xv4 ?xi4_1 ?xi4_2 ?xi4_3 ?xi4_4 ?xi4_5 ?xg5 ?xk5 ?xd5 ?xa5 ?xm5 ?xs5 ?xv5 ?xi5_1 ?xi5_2 ?xi5_3 ?xi5_4 ?xi5_5 ?ca0 ?cg0 ?ch0 ?co0 ?cs0 ?cm0 ?ck0 ?cn0_table ?cn0_stands ?cn0_pairs ?fa0 ?fl0 ?fc0 ?fk0 ?fa1 ?fl1 ?fc1 ?fk1 ?fa2 ?fl2 ?fc2 ?fk2 ?fa3 ?fl3 ?fc3 ?fk3 ?fa4 ?fl4 ?fc4 ?fk4 ?fa5 ?fl5 ?fc5 ?fk5 ?fa6 ?fl6 ?fc6 ?fk6 ?fa7 ?fl7 ?fc7 ?fk7 ?fa8 ?fl8 ?fc8 ?fk8 ?fa9 ?fl9 ?fc9 ?fk9 ?fa10 ?fl10 ?fc10 ?fk10 ?fa11 ?fi11 ?fl11 ?fc11 ?fk11 ?fa12 ?fi12 ?fl12 ?fc12 ?fk12 ?fa13 ?fi13 ?fl13 ?fc13 ?fk13 ?fa14 ?fi14 ?fl14 ?fc14 ?fk14 ?fa15 ?fi15 ?fl15 ?fc15 ?fk15 ?fa16 ?fi16 ?fl16 ?fc16 ?fk16 ?fa17 ?fi17 ?fl17 ?fc17 ?fk17 ?fa18 ?fl18 ?fc18 ?fk18 ?fa19 ?fl19 ?fc19 ?fk19 ?fa20 ?fl20 ?fc20 ?fk20 ?fa21 ?fl21 ?fc21 ?fk21 ?fa22 ?fl22 ?fc22 ?fk22 ?fa23 ?fl23 ?fc23 ?fk23 ?fa24 ?fl24 ?fc24 ?fk24 ?fa25 ?fl25 ?fc25 ?fk25 ?fa26 ?fl26 ?fc26 ?fk26 ?fa27 ?fl27 ?fc27 ?fk27 ?fa28 ?fl28 ?fc28 ?fk28 ?fa29 ?fl29 ?fc29 ?fk29 ?fa30 ?fl30 ?fc30 ?fk30 ?fa31 ?fl31 ?fc31 ?fk31 ?tc30 ?tp30 ?th30 ?tn30 ?tt30 M.law_true
    (case b_len => first | k_is | rfl)
    (case b_list => first | k_is | rfl)
    (case b_tuple => first | k_is | rfl)
    (case b_int => first | k_is | rfl)
    (case b_bool => first | k_is | rfl)
    (case b_sum => first | k_is | rfl)
    (case b_all => first | k_is | rfl)
    (case b_any => first | k_is | rfl)
    (case b_abs => first | k_is | rfl)
    (case b_max => first | k_is | rfl)
    (case b_min => first | k_is | rfl)
    (case b_sorted => first | k_is | rfl)
    (case b_set => first | k_is | rfl)
    (case b_isinstance => first | k_is | rfl)
    (case b_range => first | k_is | rfl)
    (case b_enumerate => first | k_is | rfl)
    (case b_zip => first | k_is | rfl)
    (case b_str => first | k_is | rfl)
    (case b_ValueError => first | k_is | rfl)
    (case k_MOST_KINDS => first | k_is | rfl)
    (case k_MOST_BACK => first | k_is | rfl)
    (case k_MOST_BAG => first | k_is | rfl)
    (case ea0 => first | k_is | rfl)
    (case eq0 => k_exc)
    (case ek0 => first | k_is | rfl)
    (case es0 => first | k_is | rfl)
    (case et0 => first | k_is | rfl)
    (case ea1 => first | k_is | rfl)
    (case eq1 => k_exc)
    (case ek1 => first | k_is | rfl)
    (case es1 => first | k_is | rfl)
    (case et1 => first | k_is | rfl)
    (case ea2 => first | k_is | rfl)
    (case eq2 => k_exc)
    (case ek2 => first | k_is | rfl)
    (case es2 => first | k_is | rfl)
    (case et2 => first | k_is | rfl)
    (case ea3 => first | k_is | rfl)
    (case eq3 => k_exc)
    (case ek3 => first | k_is | rfl)
    (case es3 => first | k_is | rfl)
    (case et3 => first | k_is | rfl)
    (case ea4 => first | k_is | rfl)
    (case eq4 => k_exc)
    (case ek4 => first | k_is | rfl)
    (case es4 => first | k_is | rfl)
    (case et4 => first | k_is | rfl)
    (case ea5 => first | k_is | rfl)
    (case eq5 => k_exc)
    (case ek5 => first | k_is | rfl)
    (case es5 => first | k_is | rfl)
    (case et5 => first | k_is | rfl)
    (case xn => first | k_is | rfl)
    (case xt => first | k_is | rfl)
    (case xd0 => first | k_is | rfl)
    (case xg1 => first | k_is | rfl)
    (case xk1 => first | k_is | rfl)
    (case xd1 => first | k_is | rfl)
    (case xa1 => first | k_is | rfl)
    (case xm1 => first | k_is | rfl)
    (case xs1 => first | k_is | rfl)
    (case xv1 => first | k_is | rfl)
    (case xi1_1 => first | k_is | rfl)
    (case xi1_2 => first | k_is | rfl)
    (case xi1_3 => first | k_is | rfl)
    (case xi1_4 => first | k_is | rfl)
    (case xi1_5 => first | k_is | rfl)
    (case xg2 => first | k_is | rfl)
    (case xk2 => first | k_is | rfl)
    (case xd2 => first | k_is | rfl)
    (case xa2 => first | k_is | rfl)
    (case xm2 => first | k_is | rfl)
    (case xs2 => first | k_is | rfl)
    (case xv2 => first | k_is | rfl)
    (case xi2_1 => first | k_is | rfl)
    (case xi2_2 => first | k_is | rfl)
    (case xi2_3 => first | k_is | rfl)
    (case xi2_4 => first | k_is | rfl)
    (case xi2_5 => first | k_is | rfl)
    (case xg3 => first | k_is | rfl)
    (case xk3 => first | k_is | rfl)
    (case xd3 => first | k_is | rfl)
    (case xa3 => first | k_is | rfl)
    (case xm3 => first | k_is | rfl)
    (case xs3 => first | k_is | rfl)
    (case xv3 => first | k_is | rfl)
    (case xi3_1 => first | k_is | rfl)
    (case xi3_2 => first | k_is | rfl)
    (case xi3_3 => first | k_is | rfl)
    (case xi3_4 => first | k_is | rfl)
    (case xi3_5 => first | k_is | rfl)
    (case xg4 => first | k_is | rfl)
    (case xk4 => first | k_is | rfl)
    (case xd4 => first | k_is | rfl)
    (case xa4 => first | k_is | rfl)
    (case xm4 => first | k_is | rfl)
    (case xs4 => first | k_is | rfl)
    (case xv4 => first | k_is | rfl)
    (case xi4_1 => first | k_is | rfl)
    (case xi4_2 => first | k_is | rfl)
    (case xi4_3 => first | k_is | rfl)
    (case xi4_4 => first | k_is | rfl)
    (case xi4_5 => first | k_is | rfl)
    (case xg5 => first | k_is | rfl)
    (case xk5 => first | k_is | rfl)
    (case xd5 => first | k_is | rfl)
    (case xa5 => first | k_is | rfl)
    (case xm5 => first | k_is | rfl)
    (case xs5 => first | k_is | rfl)
    (case xv5 => first | k_is | rfl)
    (case xi5_1 => first | k_is | rfl)
    (case xi5_2 => first | k_is | rfl)
    (case xi5_3 => first | k_is | rfl)
    (case xi5_4 => first | k_is | rfl)
    (case xi5_5 => first | k_is | rfl)
    (case ca0 => first | k_is | rfl)
    (case cg0 => first | k_is | rfl)
    (case ch0 => first | k_is | rfl)
    (case co0 => first | k_is | rfl)
    (case cs0 => first | k_is | rfl)
    (case cm0 => first | k_is | rfl)
    (case ck0 => first | k_is | rfl)
    (case cn0_table => first | k_is | rfl)
    (case cn0_stands => first | k_is | rfl)
    (case cn0_pairs => first | k_is | rfl)
    (case fa0 => first | k_is | rfl)
    (case fl0 => first | k_is | rfl)
    (case fc0 => first | k_is | rfl)
    (case fk0 => first | k_is | rfl)
    (case fa1 => first | k_is | rfl)
    (case fl1 => first | k_is | rfl)
    (case fc1 => first | k_is | rfl)
    (case fk1 => first | k_is | rfl)
    (case fa2 => first | k_is | rfl)
    (case fl2 => first | k_is | rfl)
    (case fc2 => first | k_is | rfl)
    (case fk2 => first | k_is | rfl)
    (case fa3 => first | k_is | rfl)
    (case fl3 => first | k_is | rfl)
    (case fc3 => first | k_is | rfl)
    (case fk3 => first | k_is | rfl)
    (case fa4 => first | k_is | rfl)
    (case fl4 => first | k_is | rfl)
    (case fc4 => first | k_is | rfl)
    (case fk4 => first | k_is | rfl)
    (case fa5 => first | k_is | rfl)
    (case fl5 => first | k_is | rfl)
    (case fc5 => first | k_is | rfl)
    (case fk5 => first | k_is | rfl)
    (case fa6 => first | k_is | rfl)
    (case fl6 => first | k_is | rfl)
    (case fc6 => first | k_is | rfl)
    (case fk6 => first | k_is | rfl)
    (case fa7 => first | k_is | rfl)
    (case fl7 => first | k_is | rfl)
    (case fc7 => first | k_is | rfl)
    (case fk7 => first | k_is | rfl)
    (case fa8 => first | k_is | rfl)
    (case fl8 => first | k_is | rfl)
    (case fc8 => first | k_is | rfl)
    (case fk8 => first | k_is | rfl)
    (case fa9 => first | k_is | rfl)
    (case fl9 => first | k_is | rfl)
    (case fc9 => first | k_is | rfl)
    (case fk9 => first | k_is | rfl)
    (case fa10 => first | k_is | rfl)
    (case fl10 => first | k_is | rfl)
    (case fc10 => first | k_is | rfl)
    (case fk10 => first | k_is | rfl)
    (case fa11 => first | k_is | rfl)
    (case fi11 => first | k_is | rfl)
    (case fl11 => first | k_is | rfl)
    (case fc11 => first | k_is | rfl)
    (case fk11 => first | k_is | rfl)
    (case fa12 => first | k_is | rfl)
    (case fi12 => first | k_is | rfl)
    (case fl12 => first | k_is | rfl)
    (case fc12 => first | k_is | rfl)
    (case fk12 => first | k_is | rfl)
    (case fa13 => first | k_is | rfl)
    (case fi13 => first | k_is | rfl)
    (case fl13 => first | k_is | rfl)
    (case fc13 => first | k_is | rfl)
    (case fk13 => first | k_is | rfl)
    (case fa14 => first | k_is | rfl)
    (case fi14 => first | k_is | rfl)
    (case fl14 => first | k_is | rfl)
    (case fc14 => first | k_is | rfl)
    (case fk14 => first | k_is | rfl)
    (case fa15 => first | k_is | rfl)
    (case fi15 => first | k_is | rfl)
    (case fl15 => first | k_is | rfl)
    (case fc15 => first | k_is | rfl)
    (case fk15 => first | k_is | rfl)
    (case fa16 => first | k_is | rfl)
    (case fi16 => first | k_is | rfl)
    (case fl16 => first | k_is | rfl)
    (case fc16 => first | k_is | rfl)
    (case fk16 => first | k_is | rfl)
    (case fa17 => first | k_is | rfl)
    (case fi17 => first | k_is | rfl)
    (case fl17 => first | k_is | rfl)
    (case fc17 => first | k_is | rfl)
    (case fk17 => first | k_is | rfl)
    (case fa18 => first | k_is | rfl)
    (case fl18 => first | k_is | rfl)
    (case fc18 => first | k_is | rfl)
    (case fk18 => first | k_is | rfl)
    (case fa19 => first | k_is | rfl)
    (case fl19 => first | k_is | rfl)
    (case fc19 => first | k_is | rfl)
    (case fk19 => first | k_is | rfl)
    (case fa20 => first | k_is | rfl)
    (case fl20 => first | k_is | rfl)
    (case fc20 => first | k_is | rfl)
    (case fk20 => first | k_is | rfl)
    (case fa21 => first | k_is | rfl)
    (case fl21 => first | k_is | rfl)
    (case fc21 => first | k_is | rfl)
    (case fk21 => first | k_is | rfl)
    (case fa22 => first | k_is | rfl)
    (case fl22 => first | k_is | rfl)
    (case fc22 => first | k_is | rfl)
    (case fk22 => first | k_is | rfl)
    (case fa23 => first | k_is | rfl)
    (case fl23 => first | k_is | rfl)
    (case fc23 => first | k_is | rfl)
    (case fk23 => first | k_is | rfl)
    (case fa24 => first | k_is | rfl)
    (case fl24 => first | k_is | rfl)
    (case fc24 => first | k_is | rfl)
    (case fk24 => first | k_is | rfl)
    (case fa25 => first | k_is | rfl)
    (case fl25 => first | k_is | rfl)
    (case fc25 => first | k_is | rfl)
    (case fk25 => first | k_is | rfl)
    (case fa26 => first | k_is | rfl)
    (case fl26 => first | k_is | rfl)
    (case fc26 => first | k_is | rfl)
    (case fk26 => first | k_is | rfl)
    (case fa27 => first | k_is | rfl)
    (case fl27 => first | k_is | rfl)
    (case fc27 => first | k_is | rfl)
    (case fk27 => first | k_is | rfl)
    (case fa28 => first | k_is | rfl)
    (case fl28 => first | k_is | rfl)
    (case fc28 => first | k_is | rfl)
    (case fk28 => first | k_is | rfl)
    (case fa29 => first | k_is | rfl)
    (case fl29 => first | k_is | rfl)
    (case fc29 => first | k_is | rfl)
    (case fk29 => first | k_is | rfl)
    (case fa30 => first | k_is | rfl)
    (case fl30 => first | k_is | rfl)
    (case fc30 => first | k_is | rfl)
    (case fk30 => first | k_is | rfl)
    (case fa31 => first | k_is | rfl)
    (case fl31 => first | k_is | rfl)
    (case fc31 => first | k_is | rfl)
    (case fk31 => first | k_is | rfl)
    (case tc30 => first | k_is | rfl)
    (case tp30 => first | k_is | rfl)
    (case th30 => first | k_is | rfl)
    (case tn30 => first | k_is | rfl)
    (case tt30 => exact PySem.W.km_tabs_of Y _ (by decide))
  obtain ⟨_, _, _, _, _, _, _, _, _, _, _, _, z⟩ := z
  exact z
#print axioms PySem.Challenge.cw_lastmarble_k01_whole_bag_holds
