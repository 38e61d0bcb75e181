import PyProof.Rows.All
import Wide.All
import OpenK.AllK
import Wide.FinOn
import HandS.ForMost
import HandS.Exc
import HandS.ExcOwn
import HandS.Defaults
import HandS.MakeKw
import HandS.Property
import HandS.Flow
import HandS.Deep
import HandS.TupAny
import HandS.DictComp
import HandS.IsInst
import HandS.Conv
import HandS.More
import HandS.TupLe
import HandS.Style
import HandS.SortInts
import HandS.SlotsOwn
import HandS.RaiseMore
import KE.KExcSuper
import HandS.ExcInit
import HandS.ClsMeth
import HandS.TupSets
import HandS.TryMany
import HandS.ExcIs
import HandS.ExcField
import HandS.WordsExc
import HandS.OwnIter
import HandS.IterVal
import HandS.HeadHook1
import HandS.HeadHook2
import KE.KStateDown
import HandS.Head0
import HandS.Head1
import HandS.Head2
import HandS.HeadEnd
import PySem.Challenge.RW_keptpairs_k06_a_book_and_its_names
set_option Elab.async false
set_option linter.all false
set_option autoImplicit false
namespace Kp
inductive T where
  | non
  | bl (b : Bool)
  | int (i : Int)
  | str (s : List Nat)
  | tup (xs : List T)
  | lst (xs : List T)
  /-- a list that is read alone -/
  | ro (xs : List T)
  | dct (ks : List (List Nat)) (vs : List T)
  | ins (c : Nat) (ks : List Nat) (vs : List T)
inductive D where
  | t (x : T)
  | r (n : Nat)
inductive Ob where
  | lst (xs : List D)
  | dct (ks : List (List Nat)) (vs : List T)
  | ins (c : Nat) (ks : List Nat) (vs : List D)
  | dead
abbrev AH := List Ob
abbrev Env := List (Option D)
mutual
def eqT : T → T → Bool
  | .non, .non => true
  | .bl a, .bl b => a == b
  | .bl a, .int j => (if a then 1 else 0) == j
  | .int i, .bl b => i == (if b then 1 else 0)
  | .int i, .int j => i == j
  | .str x, .str y => x == y
  | .lst xs, .lst ys => eqTs xs ys
  | .tup xs, .tup ys => eqTs xs ys
  | _, _ => false
def eqTs : List T → List T → Bool
  | [], [] => true
  | x :: xs, y :: ys => eqT x y && eqTs xs ys
  | _, _ => false
end
def plain : Nat → T → Bool
  | _, .non => true
  | _, .bl _ => true
  | _, .int _ => true
  | _, .str _ => true
  | n + 1, .tup xs => xs.all (plain n)
  | n + 1, .lst xs => xs.all (plain n)
  | _, _ => false
def deep : Nat := 40
inductive R (α : Type) where
  | ok (a : α) (h : AH)
  | ex (c : Nat) (ks : List Nat) (vs : List T) (h : AH)
  | no
namespace R
def bind {α β : Type} (m : R α) (f : α → AH → R β) : R β :=
  match m with
  | .ok a h => f a h
  | .ex c ks vs h => .ex c ks vs h
  | .no => .no
def of {α : Type} (o : Option α) (h : AH) : R α :=
  match o with
  | some a => .ok a h
  | none => .no
end R
inductive SR where
  | nx (e : Env) (h : AH)
  | rt (d : D) (h : AH)
  | ct (e : Env) (h : AH)
  | ex (c : Nat) (ks : List Nat) (vs : List T) (e : Env) (h : AH)
  | no
def lk {α β : Type} [DecidableEq α] : List α → List β → α → Option β
  | k :: ks, v :: vs, x => if k = x then some v else lk ks vs x
  | _, _, _ => none
def put {α β : Type} [DecidableEq α] (v : β) (x : α) : List α → List β → List α × List β
  | k :: ks, w :: ws => if k = x then (k :: ks, v :: ws) else let r := put v x ks ws; (k :: r.1, w :: r.2)
  | _, _ => ([x], [v])
def frzL (f : D → AH → Option (T × AH)) : List D → AH → Option (List T × AH)
  | [], h => some ([], h)
  | d :: ds, h =>
    match f d h with
    | some (x, h1) =>
      match frzL f ds h1 with
      | some (xs, h2) => some (x :: xs, h2)
      | none => none
    | none => none
def frz : Nat → D → AH → Option (T × AH)
  | _, .t x, h => some (x, h)
  | 0, .r _, _ => none
  | k + 1, .r n, h =>
    match h[n]? with
    | some (.lst ds) =>
      match frzL (frz k) ds h with
      | some (xs, h1) => some (.lst xs, h1.set n .dead)
      | none => none
    | some (.dct ks vs) => some (.dct ks vs, h.set n .dead)
    | some (.ins c ks ds) =>
      match frzL (frz k) ds h with
      | some (xs, h1) => some (.ins c ks xs, h1.set n .dead)
      | none => none
    | _ => none
def snapL (f : D → Option T) : List D → Option (List T)
  | [] => some []
  | d :: ds =>
    match f d with
    | some x =>
      match snapL f ds with
      | some xs => some (x :: xs)
      | none => none
    | none => none
def snap (h : AH) : Nat → D → Option T
  | _, .t x => some x
  | 0, .r _ => none
  | k + 1, .r n =>
    match h[n]? with
    | some (.lst ds) =>
      match snapL (snap h k) ds with
      | some xs => some (.lst xs)
      | none => none
    | _ => none
def frzR (d : D) (h : AH) : R T :=
  match frz 4 d h with
  | some (x, h') => .ok x h'
  | none => .no
def frzsR (ds : List D) (h : AH) : R (List T) :=
  match frzL (frz 4) ds h with
  | some (x, h') => .ok x h'
  | none => .no
inductive Bop where
  | add | sub | mul | fdiv | mod | pow | band | bor
  deriving DecidableEq
inductive Cop where
  | eq | ne | lt | le | gt | ge | isin | notin | isN | isnot
  deriving DecidableEq
inductive Ty where
  | int | bool | str | tuple | list | cls (c : Nat)
  deriving DecidableEq
inductive Bi where
  | len | abs | int | str | list | listL | tuple | sum | max2 | sorted | keys | dcp | dict | dictL | rev | index | isi (t : Ty)
  deriving DecidableEq
inductive Tg where
  | n (i : Nat)
  | ns (is : List Nat)
mutual
inductive Ex where
  | v (i : Nat)
  | k (x : T)
  | g (i : Nat)
  | neg (a : Ex)
  | not_ (a : Ex)
  | bin (o : Bop) (a b : Ex)
  | cmp (o : Cop) (a b : Ex)
  | chain (o p : Cop) (a b c : Ex)
  | bool (isAnd : Bool) (es : Exs)
  | attr (a : Ex) (f : Nat)
  | idx (a b : Ex)
  | slc (a lo hi : Ex)
  | no_
  | bad
  | tup (es : Exs)
  | lst (live : Bool) (es : Exs)
  | dct (ks : List (List Nat)) (es : Exs)
  | bi (b : Bi) (es : Exs)
  | call (f : Nat) (es : Exs) (kns : List Nat) (kes : Exs)
  | meth (m : Nat) (o : Ex) (es : Exs) (kns : List Nat) (kes : Exs)
  | new (c : Nat) (es : Exs) (kns : List Nat) (kes : Exs)
  | lc (live : Bool) (elt : Ex) (own : List Nat) (tg : Tg) (it : It) (cond : Ex) (more : Gens)
  | dc (live : Bool) (key val : Ex) (own : List Nat) (tg : Tg) (it : It) (cond : Ex)
  | ss (elt : Ex) (own : List Nat) (tg : Tg) (it : It) (more : Gens)
inductive Exs where
  | nil
  | cons (e : Ex) (es : Exs)
inductive It where
  | val (e : Ex)
  | rng1 (e : Ex)
  | rng2 (a b : Ex)
inductive Gens where
  | nil
  | cons (tg : Tg) (it : It) (cond : Ex) (more : Gens)
end
mutual
inductive XE where
  /-- isinstance(e, C), e the caught exception; 0: ValueError -/
  | isi (n : Nat)
  | fld (f : Nat)
  | k (x : T)
  | v (i : Nat)
  | not_ (a : XE)
  | bool (isAnd : Bool) (es : XEs)
  | tup (es : XEs)
  | lst (es : XEs)
  | eq (a b : XE)
  | ty (a : XE) (t : Ty)
inductive XEs where
  | nil
  | cons (e : XE) (es : XEs)
end
mutual
inductive XS where
  | asg (i : Nat) (e : XE)
  | ite (c : XE) (a b : XSs)
  | ret (e : XE)
inductive XSs where
  | nil
  | cons (s : XS) (r : XSs)
end
mutual
inductive St where
  | bad
  | asg (i : Nat) (e : Ex)
  | asgT (is : List Nat) (e : Ex)
  | setA (o : Ex) (f : Nat) (e : Ex)
  | setI (o i e : Ex)
  | app (o e : Ex)
  | expr (e : Ex)
  | ite (c : Ex) (a b : Sts)
  | for_ (tg : Tg) (it : It) (b : Sts)
  | ret (e : Ex)
  | retN
  | pas
  | cont
  | rais (c : Nat) (es : Exs)
  | tri (b : Sts) (hs : List (Nat × Nat × XSs))
  | ior (i : Nat) (e : Ex)
inductive Sts where
  | nil
  | cons (s : St) (r : Sts)
end
structure Fn where
  np : Nat
  /-- those that may be given by place -/
  po : Nat
  ns : Nat
  live : Bool
  body : Sts
structure Info where
  tbl : Nat → Option Fn
  gcon : Nat → T
  meth : Nat → Nat → Option Nat
  prop : Nat → Nat → Option Nat
  init : Nat → Option Nat
  liveC : Nat → Bool
  iter : Nat → Option Nat
  exc : Nat → Option (List Nat)
  fld : Nat → Nat → Bool
  /-- the default of a def's parameter -/
  dflt : Nat → Nat → Option T
  /-- is an exception of the one class caught by the other's name -/
  sub : Nat → Nat → Option Bool
abbrev Call := Nat → List D → AH → R D
def mContains : Nat := 1
def mLen : Nat := 2
def mEq : Nat := 3
def mLe : Nat := 4
def mAnd : Nat := 5
def mOr : Nat := 6
def mSub : Nat := 7
def mGet : Nat := 8
def mSet : Nat := 9
def mCall : Nat := 10
def mIor : Nat := 11
def mIter : Nat := 12
def sizeMax : Nat := 16777216
def clsOf (h : AH) : D → Option Nat
  | .t (.ins c _ _) => some c
  | .r n => match h[n]? with
    | some (.ins c _ _) => some c
    | _ => none
  | _ => none
def seqOf (h : AH) : D → Option (List D)
  | .t (.lst xs) => some (xs.map .t)
  | .t (.ro xs) => some (xs.map .t)
  | .t (.tup xs) => some (xs.map .t)
  | .r n => match h[n]? with
    | some (.lst ds) => some ds
    | _ => none
  | _ => none
def lstOf (h : AH) : D → Option (List D)
  | .t (.lst xs) => some (xs.map .t)
  | .r n => match h[n]? with
    | some (.lst ds) => some ds
    | _ => none
  | _ => none
def fldOf (h : AH) (d : D) (f : Nat) : Option D :=
  match d with
  | .t (.ins _ ks vs) => (lk ks vs f).map .t
  | .r n => match h[n]? with
    | some (.ins _ ks vs) => lk ks vs f
    | _ => none
  | _ => none
def iterB (I : Info) (h : AH) (d : D) : Option (List T) :=
  match clsOf h d with
  | some k => match I.iter k with
    | some f => match fldOf h d f with
      | some (.t (.lst ts)) => some ts
      | _ => none
    | none => none
  | none => none
def tupOf : D → Option (List T)
  | .t (.tup xs) => some xs
  | _ => none
def itemsOf (I : Info) (h : AH) (d : D) : Option (List D) :=
  match lstOf h d with
  | some ds => some ds
  | none => match tupOf d with
    | some ts => some (ts.map .t)
    | none => (iterB I h d).map fun ts => ts.map .t
def walkOf (I : Info) (h : AH) (d : D) : Option (D × List D) :=
  match lstOf h d with
  | some ds => some (d, ds)
  | none => match tupOf d with
    | some ts => some (d, ts.map .t)
    | none => match d with
      | .t (.str s) => some (.t .non, s.map fun c => .t (.str [c]))
      | d => (iterB I h d).map fun ts => (.t .non, ts.map .t)
def truth (h : AH) : D → Option Bool
  | .t .non => some false
  | .t (.bl b) => some b
  | .t (.int i) => some (decide (i ≠ 0))
  | .t (.str s) => some (!s.isEmpty)
  | .t (.lst xs) => some (!xs.isEmpty)
  | .t (.tup xs) => some (!xs.isEmpty)
  | .r n => match h[n]? with
    | some (.lst ds) => some (!ds.isEmpty)
    | _ => none
  | _ => none
def place (n : Nat) (i : Int) : Option Nat :=
  if 0 ≤ i then (if i < n then some i.toNat else none) else (if 0 ≤ i + n then some (i + n).toNat else none)
def clip (n : Nat) (i : Int) : Nat :=
  if 0 ≤ i then min i.toNat n else (i + n).toNat
def clipO (n d : Nat) : Option Int → Nat
  | some i => clip n i
  | none => d
def cut {α : Type} (xs : List α) (lo hi : Option Int) : List α := (xs.take (clipO xs.length xs.length hi)).drop (clipO xs.length 0 lo)
def oInt : D → Option (Option Int)
  | .t (.int i) => some (some i)
  | .t .non => some none
  | _ => none
def isPart (xs : List Nat) : List Nat → Bool
  | [] => xs.isEmpty
  | y :: ys => xs.isPrefixOf (y :: ys) || isPart xs ys
def ltS : List Nat → List Nat → Bool
  | [], [] => false
  | [], _ :: _ => true
  | _ :: _, [] => false
  | x :: xs, y :: ys => decide (x < y) || (decide (x = y) && ltS xs ys)
def leS (x y : List Nat) : Bool := !ltS y x
def insS (x : List Nat) : List (List Nat) → List (List Nat)
  | [] => [x]
  | y :: ys => if ltS y x then y :: insS x ys else x :: y :: ys
def sortS : List (List Nat) → List (List Nat)
  | [] => []
  | x :: xs => insS x (sortS xs)
def insI (x : Int) : List Int → List Int
  | [] => [x]
  | y :: ys => if y < x then y :: insI x ys else x :: y :: ys
def sortI : List Int → List Int
  | [] => []
  | x :: xs => insI x (sortI xs)
def dedup {α : Type} [DecidableEq α] : List α → List α
  | [] => []
  | x :: xs => if x ∈ xs then dedup xs else x :: dedup xs
def strs? : List D → Option (List (List Nat))
  | [] => some []
  | .t (.str s) :: r => (strs? r).map (s :: ·)
  | _ => none
def ints? : List D → Option (List Int)
  | [] => some []
  | .t (.int s) :: r => (ints? r).map (s :: ·)
  | _ => none
def sorted (ds : List D) : Option T :=
  match strs? ds with
  | some xs => some (.lst ((sortS xs).map .str))
  | none => match ints? ds with
    | some xs => some (.lst ((sortI xs).map .int))
    | none => none
def sortedSet (ds : List D) : Option T :=
  match strs? ds with
  | some xs => some (.lst ((sortS (dedup xs)).map .str))
  | none => match ints? ds with
    | some xs => some (.lst ((sortI (dedup xs)).map .int))
    | none => none
def bitsOk (i j : Int) : Bool := decide (-(2 ^ 64) < i ∧ i < 2 ^ 64) || decide (i.natAbs < 2 ^ 1100000 ∧ j.natAbs < 2 ^ 64)
def arith (o : Bop) (i j : Int) : Option Int :=
  match o with
  | .add => some (i + j)
  | .sub => some (i - j)
  | .mul => if decide (-(2 ^ 64) < i ∧ i < 2 ^ 64) then some (i * j) else none
  | .fdiv => if decide (j ≠ 0 ∧ j.natAbs < 1073741824) then some (i.fdiv j) else none
  | .mod => if decide (j ≠ 0) then some (i.fmod j) else none
  | .pow => if decide (0 ≤ j ∧ j ≤ 1000 ∧ i.natAbs < 2 ^ 64) then some (i ^ j.toNat) else none
  | _ => none
def mOfB : Bop → Option Nat
  | .band => some mAnd
  | .bor => some mOr
  | .sub => some mSub
  | _ => none
def int2 : D → D → Option (Int × Int)
  | .t (.int i), .t (.int j) => some (i, j)
  | _, _ => none
def str2 : D → D → Option (List Nat × List Nat)
  | .t (.str i), .t (.str j) => some (i, j)
  | _, _ => none
def tup2 : D → D → Option (List T × List T)
  | .t (.tup i), .t (.tup j) => some (i, j)
  | _, _ => none
def lst2 (h : AH) (x y : D) : Option (List D × List D) :=
  match lstOf h x, lstOf h y with
  | some xs, some ys => some (xs, ys)
  | _, _ => none
def cls2 (h : AH) (x y : D) : Option Nat :=
  match clsOf h x, clsOf h y with
  | some a, some b => if a = b then some a else none
  | _, _ => none
def own2 (I : Info) (h : AH) (x y : D) (m : Nat) : Option Nat :=
  match cls2 h x y with
  | some a => I.meth a m
  | none => none
def binD (I : Info) (c : Call) (o : Bop) (x y : D) (h : AH) : R D :=
  match int2 x y with
  | some (i, j) => R.of ((arith o i j).map fun z => .t (.int z)) h
  | none =>
    match str2 x y with
    | some (s, z) => if o = .add ∧ s.length + z.length ≤ sizeMax then .ok (.t (.str (s ++ z))) h else .no
    | none =>
      match tup2 x y with
      | some (xs, ys) => if o = .add ∧ xs.length + ys.length ≤ sizeMax then .ok (.t (.tup (xs ++ ys))) h else .no
      | none =>
        match lst2 h x y with
        | some (xs, ys) => if o = .add ∧ xs.length + ys.length ≤ sizeMax then (frzsR (xs ++ ys) h).bind fun ts h => .ok (.t (.lst ts)) h else .no
        | none =>
          match mOfB o with
          | some m => match own2 I h x y m with
            | some f => c f [x, y] h
            | none => .no
          | none => .no
def cmpI (o : Cop) (i j : Int) : Option Bool :=
  match o with
  | .lt => some (decide (i < j))
  | .le => some (decide (i ≤ j))
  | .gt => some (decide (j < i))
  | .ge => some (decide (j ≤ i))
  | .eq => some (decide (i = j))
  | .ne => some (!decide (i = j))
  | _ => none
def intsT : List T → Option (List Int)
  | [] => some []
  | .int x :: xs => match intsT xs with
    | some r => some (x :: r)
    | none => none
  | _ => none
def ltI : List Int → List Int → Bool
  | [], [] => false
  | [], _ :: _ => true
  | _ :: _, [] => false
  | x :: xs, y :: ys => if x = y then ltI xs ys else decide (x < y)
def isN : D → Bool
  | .t .non => true
  | _ => false
def own1 (I : Info) (h : AH) (x : D) (m : Nat) : Option Nat :=
  match clsOf h x with
  | some a => I.meth a m
  | none => none
def dctOf (h : AH) : D → Option (List (List Nat) × List T)
  | .t (.dct ks vs) => some (ks, vs)
  | .r n => match h[n]? with
    | some (.dct ks vs) => some (ks, vs)
    | _ => none
  | _ => none
def strOf : D → Option (List Nat)
  | .t (.str s) => some s
  | _ => none
def intOf : D → Option Int
  | .t (.int s) => some s
  | _ => none
def blOf : D → Option Bool
  | .t (.bl b) => some b
  | _ => none
def seqT : T → Option (List T)
  | .lst xs => some xs
  | .tup xs => some xs
  | _ => none
def inD (I : Info) (c : Call) (x y : D) (h : AH) : R Bool :=
  match own1 I h y mContains with
  | some f => (c f [y, x] h).bind fun d h => R.of (blOf d) h
  | none =>
    match strOf y with
    | some s => match strOf x with
      | some [z] => .ok (decide (z ∈ s)) h
      | _ => .no
    | none =>
      match dctOf h y with
      | some (ks, _) => R.of ((strOf x).map fun z => decide (z ∈ ks)) h
      | none =>
        match snap h 3 x, snap h 4 y with
        | some tx, some ty => match seqT ty with
          | some ts => if plain deep tx && ts.all (plain deep) then .ok (ts.any fun z => eqT z tx) h else .no
          | none => .no
        | _, _ => .no
def eqD (I : Info) (c : Call) (x y : D) (h : AH) : R Bool :=
  match own2 I h x y mEq with
  | some f => (c f [x, y] h).bind fun d h => R.of (blOf d) h
  | none =>
    match snap h 4 x, snap h 4 y with
    | some a, some b => if plain deep a && plain deep b then .ok (eqT a b) h else .no
    | _, _ => .no
def bD (b : Bool) : D := .t (.bl b)
def isD (x y : D) : Option Bool :=
  match y, x with
  | .t .non, _ => some (isN x)
  | .t (.bl b), .t (.bl a) => some (decide (a = b))
  | _, _ => none
def cmpD (I : Info) (c : Call) (o : Cop) (x y : D) (h : AH) : R D :=
  match o with
  | .isN => R.of ((isD x y).map bD) h
  | .isnot => R.of ((isD x y).map fun b => bD (!b)) h
  | .isin => (inD I c x y h).bind fun b h => .ok (bD b) h
  | .notin => (inD I c x y h).bind fun b h => .ok (bD (!b)) h
  | .eq => (eqD I c x y h).bind fun b h => .ok (bD b) h
  | .ne => if (own2 I h x y mEq).isSome then .no else (eqD I c x y h).bind fun b h => .ok (bD (!b)) h
  | _ =>
    match int2 x y with
    | some (i, j) => R.of ((cmpI o i j).map bD) h
    | none =>
      match tup2 x y with
      | some (xs, ys) => match intsT xs, intsT ys with
        | some ns, some ms => if o = .lt then .ok (bD (ltI ns ms)) h else .no
        | _, _ => .no
      | none =>
        match own2 I h x y mLe with
        | some f => if o = .le then c f [x, y] h else .no
        | none => .no
def idxD (I : Info) (c : Call) (x y : D) (h : AH) : R D :=
  match own1 I h x mGet with
  | some f => c f [x, y] h
  | none =>
    match dctOf h x with
    | some (ks, vs) => match strOf y with
      | some z => R.of ((lk ks vs z).map .t) h
      | none => .no
    | none =>
      match intOf y with
      | some i =>
        match seqOf h x with
        | some ds => match place ds.length i with
          | some n => R.of ds[n]? h
          | none => .no
        | none =>
          match strOf x with
          | some s => match place s.length i with
            | some n => R.of ((s[n]?).map fun c => .t (.str [c])) h
            | none => .no
          | none => .no
      | none => .no
def slcD (x a b : D) (h : AH) : R D :=
  match oInt a, oInt b with
  | some lo, some hi =>
    match strOf x with
    | some s => .ok (.t (.str (cut s lo hi))) h
    | none =>
      match tupOf x with
      | some xs => .ok (.t (.tup (cut xs lo hi))) h
      | none => match lstOf h x with
        | some ds => (frzsR (cut ds lo hi) h).bind fun ts h => .ok (.t (.lst ts)) h
        | none => .no
  | _, _ => .no
def Ty.isC : Ty → Bool
  | .cls _ => true
  | _ => false
def isiD (h : AH) (x : D) (t : Ty) : Option Bool :=
  match clsOf h x with
  | some c => if t = .cls c then some true else none
  | none =>
    if t.isC then none
    else match x with
      | .t (.int _) => some (decide (t = .int))
      | .t (.bl _) => some (decide (t = .int ∨ t = .bool))
      | .t (.str _) => some (decide (t = .str))
      | .t (.tup _) => some (decide (t = .tuple))
      | .t (.lst _) => some (decide (t = .list))
      | .t .non => some false
      | .t (.dct _ _) => some false
      | .r n => match h[n]? with
        | some (.lst _) => some (decide (t = .list))
        | _ => none
      | _ => none
def lenD (I : Info) (c : Call) (x : D) (h : AH) : R D :=
  match own1 I h x mLen with
  | some f => (c f [x] h).bind fun d h => match intOf d with
    | some i => if 0 ≤ i ∧ i ≤ sizeMax then .ok (.t (.int i)) h else .no
    | none => .no
  | none =>
    match seqOf h x with
    | some ds => .ok (.t (.int ds.length)) h
    | none =>
      match strOf x with
      | some s => .ok (.t (.int s.length)) h
      | none =>
        match dctOf h x with
        | some (ks, _) => .ok (.t (.int ks.length)) h
        | none => .no
def b2i (b : Bool) : Int := if b then 1 else 0
def frzLst (ds : List D) (h : AH) : R D := (frzsR ds h).bind fun ts h => .ok (.t (.lst ts)) h
def biD0 (I : Info) (c : Call) (b : Bi) (xs : List D) (h : AH) : R D :=
  match xs with
  | [x] =>
    match b with
    | .len => lenD I c x h
    | .abs => R.of ((intOf x).map fun i => .t (.int (if i < 0 then -i else i))) h
    | .int => match intOf x with
      | some i => .ok (.t (.int i)) h
      | none => R.of ((blOf x).map fun b => .t (.int (b2i b))) h
    | .str => R.of ((strOf x).map fun s => .t (.str s)) h
    | .list => match itemsOf I h x with
      | some ds => frzLst ds h
      | none => .no
    | .listL => match itemsOf I h x with
      | some ds => (frzsR ds h).bind fun ts h => .ok (.r h.length) (h ++ [.lst (ts.map .t)])
      | none => .no
    | .rev => match lstOf h x with
      | some ds => frzLst ds.reverse h
      | none => .no
    | .dict => R.of ((dctOf h x).map fun p => .t (.dct p.1 p.2)) h
    | .dictL => match dctOf h x with
      | some p => .ok (.r h.length) (h ++ [.dct p.1 p.2])
      | none => .no
    | .tuple => match tupOf x with
      | some ts => .ok (.t (.tup ts)) h
      | none => match lstOf h x with
        | some ds => (frzsR ds h).bind fun ts h => .ok (.t (.tup ts)) h
        | none => .no
    | .sum => match lstOf h x with
      | some ds => R.of ((ints? ds).map fun zs => .t (.int zs.sum)) h
      | none => .no
    | .sorted => match lstOf h x with
      | some ds => if ds.length < 64 then R.of ((sorted ds).map .t) h else .no
      | none => .no
    | .keys => match dctOf h x with
      | some p => .ok (.t (.lst (p.1.map .str))) h
      | none => .no
    | .dcp => match dctOf h x with
      | some p => .ok (.r h.length) (h ++ [.dct p.1 p.2])
      | none => .no
    | .isi t => R.of ((isiD h x t).map bD) h
    | _ => .no
  | [x, y] =>
    match b with
    | .max2 => match int2 x y with
      | some (i, j) => .ok (.t (.int (if j > i then j else i))) h
      | none => .no
    | .index => match snap h 4 x, snap h 3 y with
      | some tx, some y => match seqT tx with
        | some xs => if plain deep y && xs.all (plain deep) then R.of ((xs.findIdx? fun z => eqT z y).map fun n => .t (.int n)) h else .no
        | none => .no
      | _, _ => .no
    | _ => .no
  | _ => .no
def plainBi (h : AH) (b : Bi) (dx : D) : Bool :=
  match b with
  | .list => (lstOf h dx).isSome || (tupOf dx).isSome
  | .listL => (lstOf h dx).isSome || (tupOf dx).isSome
  | .len => true
  | .abs => true
  | .int => true
  | .str => true
  | .tuple => true
  | .sum => true
  | .sorted => true
  | _ => false
def biOk (I : Info) (h : AH) (b : Bi) (x : D) : Bool :=
  plainBi h b x || (match b with
    | .list => (iterB I h x).isSome
    | .listL => (iterB I h x).isSome
    | .rev => true
    | .keys => true
    | .dcp => true
    | .isi _ => true
    | _ => false)
def biD (I : Info) (c : Call) (b : Bi) (xs : List D) (h : AH) : R D :=
  match xs with
  | [x] => if biOk I h b x then biD0 I c b [x] h else .no
  | xs => biD0 I c b xs h
def Tg.set (tg : Tg) (d : D) (h : AH) (env : Env) : Option Env :=
  match tg with
  | .n i => some (env.set i (some d))
  | .ns is => match d with
    | .t (.tup xs) => if xs.length = is.length then some ((is.zip xs).foldl (fun e p => e.set p.1 (some (.t p.2))) env) else none
    | _ => none
def Tg.is : Tg → List Nat
  | .n i => [i]
  | .ns is => is
def wipe (env : Env) : List Nat → Env
  | [] => env
  | i :: is => (wipe env is).set i none
def rng (a b : Int) : List D := (List.range (b - a).toNat).map fun (k : Nat) => .t (.int (a + k))
def rngOk (i : Int) : Bool := decide (i.natAbs < 4611686018427387904)
def noEx {α : Type} : R α → R α
  | .ok a h => .ok a h
  | _ => .no
def loopR (k : AH → Bool) (f : D → AH → R (List D)) : List D → AH → R (List D)
  | [], h => .ok [] h
  | d :: ds, h => (f d h).bind fun xs h => if k h then (loopR k f ds h).bind fun ys h => .ok (xs ++ ys) h else .no
mutual
def beqT : T → T → Bool
  | .non, .non => true
  | .bl a, .bl b => a == b
  | .int i, .int j => i == j
  | .str x, .str y => x == y
  | .lst xs, .lst ys => beqTs xs ys
  | .tup xs, .tup ys => beqTs xs ys
  | .ro xs, .ro ys => beqTs xs ys
  | .dct ks xs, .dct ls ys => ks == ls && beqTs xs ys
  | .ins c ks xs, .ins d ls ys => c == d && ks == ls && beqTs xs ys
  | _, _ => false
def beqTs : List T → List T → Bool
  | [], [] => true
  | x :: xs, y :: ys => beqT x y && beqTs xs ys
  | _, _ => false
end
def beqD : D → D → Bool
  | .t x, .t y => beqT x y
  | .r n, .r m => n == m
  | _, _ => false
def beqDs : List D → List D → Bool
  | [], [] => true
  | x :: xs, y :: ys => beqD x y && beqDs xs ys
  | _, _ => false
def still (d : D) (ds : List D) (h : AH) : Bool :=
  match d with
  | .t _ => true
  | .r n => match h[n]? with
    | some (.lst es) => beqDs es ds
    | _ => false
def forL (d : D) (all : List D) (f : D → Env → AH → SR) : List D → Env → AH → SR
  | [], env, h => .nx env h
  | x :: xs, env, h =>
    match f x env h with
    | .nx env h => if still d all h then forL d all f xs env h else .no
    | .ct env h => if still d all h then forL d all f xs env h else .no
    | .rt x h => .rt x h
    | .ex c ks vs e h => .ex c ks vs e h
    | .no => .no
def dctR (k : AH → Bool) (f : D → AH → R (Option (List Nat × T))) : List D → List (List Nat) → List T → AH → R (List (List Nat) × List T)
  | [], ks, vs, h => .ok (ks, vs) h
  | d :: ds, ks, vs, h => (f d h).bind fun p h => if k h then (match p with
    | some p => if ks.length < sizeMax then (let q := put p.2 p.1 ks vs; dctR k f ds q.1 q.2 h) else .no
    | none => dctR k f ds ks vs h) else .no
def isNil : Exs → Bool
  | .nil => true
  | _ => false
def isNo : Ex → Bool
  | .no_ => true
  | _ => false
def clause {α : Type} (z : α) (tg : Tg) (env : Env) (test : Env → AH → R Bool) (body : Env → AH → R α) (d : D) (h : AH) : R α :=
  match tg.set d h env with
  | some env => (test env h).bind fun b h => if b then body env h else .ok z h
  | none => .no
def arrD (I : Info) (f : Nat) (kns : List Nat) (ks : List D) : Nat → Nat → Option (List D)
  | _, 0 => some []
  | p, n + 1 =>
    match (match lk kns ks p with
      | some d => some d
      | none => (I.dflt f p).map .t), arrD I f kns ks (p + 1) n with
    | some d, some ds => some (d :: ds)
    | _, _ => none
def callD (I : Info) (c : Call) (f : Nat) (ds : List D) (kns : List Nat) (ks : List D) (h : AH) : R D :=
  match I.tbl f with
  | some fd => if ds.length ≤ fd.po then (match arrD I f kns ks ds.length (fd.np - ds.length) with
    | some es => c f (ds ++ es) h
    | none => .no) else .no
  | none => .no
def newD (I : Info) (c : Call) (k : Nat) (ds : List D) (kns : List Nat) (ks : List D) (h : AH) : R D :=
  match I.init k with
  | some f => (callD I c f (.r h.length :: ds) kns ks (h ++ [.ins k [] []])).bind fun d h' =>
    if isN d then
      if I.liveC k then .ok (.r h.length) h'
      else (frzR (.r h.length) h').bind fun x h'' => .ok (.t x) (h''.take h.length)
    else .no
  | none => .no
def xNil : XEs → Bool
  | .nil => true
  | _ => false
section
variable (I : Info) (k : Nat) (ks : List Nat) (ts : List T)
mutual
def xev : XE → Env → AH → R D
  | .isi n, _, h => if n = 0 then .ok (.t (.bl true)) h else R.of ((I.sub k n).map bD) h
  | .fld f, _, h => match I.exc k with
    | some fs => if fs.reverse = ks ∧ f ∈ fs then R.of ((lk ks ts f).map .t) h else .no
    | none => .no
  | .k x, _, h => .ok (.t x) h
  | .v i, env, h => match env[i]? with
    | some (some d) => .ok d h
    | _ => .no
  | .not_ a, env, h => (xev a env h).bind fun d h => R.of ((truth h d).map fun b => bD (!b)) h
  | .bool o es, env, h => xevB o es env h
  | .tup es, env, h => (xevs es env h).bind fun ds h => (frzsR ds h).bind fun ts h => .ok (.t (.tup ts)) h
  | .lst es, env, h => (xevs es env h).bind fun ds h => (frzsR ds h).bind fun ts h => .ok (.t (.lst ts)) h
  | .eq a b, env, h => (xev a env h).bind fun x h => (xev b env h).bind fun y h => match snap h 4 x, snap h 4 y with
    | some s, some t => if plain deep s && plain deep t then .ok (bD (eqT s t)) h else .no
    | _, _ => .no
  | .ty a t, env, h => (xev a env h).bind fun d h => if t.isC then .no else R.of ((isiD h d t).map bD) h
termination_by structural e => e
def xevs : XEs → Env → AH → R (List D)
  | .nil, _, h => .ok [] h
  | .cons e es, env, h => (xev e env h).bind fun d h => (xevs es env h).bind fun ds h => .ok (d :: ds) h
termination_by structural e => e
def xevB (o : Bool) : XEs → Env → AH → R D
  | .nil, _, _ => .no
  | .cons e es, env, h => (xev e env h).bind fun x h => match xNil es with
    | true => .ok x h
    | false => match truth h x with
      | some b => if b = o then xevB o es env h else .ok x h
      | none => .no
termination_by structural e => e
end
end
section
variable (I : Info) (c : Call)
mutual
def ev : Ex → Env → AH → R D
  | .v i, env, h => match env[i]? with
    | some (some d) => .ok d h
    | _ => .no
  | .k x, _, h => .ok (.t x) h
  | .g i, _, h => .ok (.t (I.gcon i)) h
  | .neg a, env, h => (ev a env h).bind fun d h => match d with
    | .t (.int i) => .ok (.t (.int (-i))) h
    | _ => .no
  | .not_ a, env, h => (ev a env h).bind fun d h => R.of ((truth h d).map fun b => bD (!b)) h
  | .bin o a b, env, h => (ev a env h).bind fun x h => (ev b env h).bind fun y h => binD I c o x y h
  | .cmp o a b, env, h => (ev a env h).bind fun x h => (ev b env h).bind fun y h => cmpD I c o x y h
  | .chain o p a b e, env, h => (ev a env h).bind fun x h => (ev b env h).bind fun y h => (cmpD I c o x y h).bind fun d h => match d with
    | .t (.bl true) => (ev e env h).bind fun z h => cmpD I c p y z h
    | .t (.bl false) => .ok (bD false) h
    | _ => .no
  | .bool o es, env, h => evB o es env h
  | .attr a f, env, h => (ev a env h).bind fun x h => match clsOf h x with
    | some k => match I.prop k f with
      | some g => noEx (c g [x] h)
      | none => if I.fld k f then R.of (fldOf h x f) h else .no
    | none => .no
  | .idx a b, env, h => (ev a env h).bind fun x h => (ev b env h).bind fun y h => idxD I c x y h
  | .slc a lo hi, env, h => (ev a env h).bind fun x h => (ev lo env h).bind fun y h => if (oInt y).isSome then (ev hi env h).bind fun z h => slcD x y z h else .no
  | .no_, _, h => .ok (.t .non) h
  | .bad, _, _ => .no
  | .tup es, env, h => (evs es env h).bind fun ds h => (frzsR ds h).bind fun ts h => .ok (.t (.tup ts)) h
  | .lst live es, env, h => (evs es env h).bind fun ds h =>
    if live then .ok (.r h.length) (h ++ [.lst ds]) else (frzsR ds h).bind fun ts h => .ok (.t (.lst ts)) h
  | .dct ks es, env, h => (evs es env h).bind fun ds h => (frzsR ds h).bind fun ts h => if ks.length = ts.length then .ok (.r h.length) (h ++ [.dct ks ts]) else .no
  | .bi b es, env, h => (evs es env h).bind fun ds h => biD I c b ds h
  | .call f es kns kes, env, h => (evs es env h).bind fun ds h => (evs kes env h).bind fun ks h => callD I c f ds kns ks h
  | .meth m o es kns kes, env, h => (ev o env h).bind fun x h => match own1 I h x m with
    | some f => (evs es env h).bind fun ds h => (evs kes env h).bind fun ks h => callD I c f (x :: ds) kns ks h
    | none => .no
  | .new k es kns kes, env, h => (evs es env h).bind fun ds h => (evs kes env h).bind fun ks h => newD I c k ds kns ks h
  | .lc live elt own tg it cond more, env, h => (evI it env h).bind fun p h => (noEx (loopR (still p.1 p.2) (clause [] tg (wipe env own) (fun env h => if isNo cond then .ok true h else (ev cond env h).bind fun d h => R.of (truth h d) h)
      fun env h => evG more (fun env h => (ev elt env h).bind fun d h => .ok [d] h) env h) p.2 h)).bind fun ds h => if ds.length < sizeMax then (if live then .ok (.r h.length) (h ++ [.lst ds]) else (frzsR ds h).bind fun ts h => .ok (.t (.lst ts)) h) else .no
  | .dc live key val own tg it cond, env, h => (evI it env h).bind fun p h => (noEx (dctR (still p.1 p.2) (clause none tg (wipe env own) (fun env h => if isNo cond then .ok true h else (ev cond env h).bind fun d h => R.of (truth h d) h)
      fun env h => (ev key env h).bind fun k h => (ev val env h).bind fun d h => match k with
        | .t (.str s) => (frzR d h).bind fun x h => .ok (some (s, x)) h
        | _ => .no) p.2 [] [] h)).bind fun q h => if live then .ok (.r h.length) (h ++ [.dct q.1 q.2]) else .ok (.t (.dct q.1 q.2)) h
  | .ss elt own tg it more, env, h => (evI it env h).bind fun p h => (noEx (loopR (still p.1 p.2) (clause [] tg (wipe env own) (fun _ h => .ok true h)
      fun env h => evG more (fun env h => (ev elt env h).bind fun d h => .ok [d] h) env h) p.2 h)).bind fun ds h => if ds.length < 4096 then R.of ((sortedSet ds).map .t) h else .no
termination_by structural e => e
def evs : Exs → Env → AH → R (List D)
  | .nil, _, h => .ok [] h
  | .cons e es, env, h => (ev e env h).bind fun d h => (evs es env h).bind fun ds h => .ok (d :: ds) h
termination_by structural e => e
def evB (o : Bool) : Exs → Env → AH → R D
  | .nil, _, _ => .no
  | .cons e es, env, h => (ev e env h).bind fun x h => match isNil es with
    | true => .ok x h
    | false => match truth h x with
      | some b => if b = o then evB o es env h else .ok x h
      | none => .no
termination_by structural e => e
def evI : It → Env → AH → R (D × List D)
  | .val e, env, h => (ev e env h).bind fun d h => R.of (walkOf I h d) h
  | .rng1 e, env, h => (ev e env h).bind fun d h => match d with
    | .t (.int i) => if rngOk i then .ok (.t .non, rng 0 i) h else .no
    | _ => .no
  | .rng2 a b, env, h => (ev a env h).bind fun x h => (ev b env h).bind fun y h => match x, y with
    | .t (.int i), .t (.int j) => if rngOk i && rngOk j then .ok (.t .non, rng i j) h else .no
    | _, _ => .no
termination_by structural e => e
def evG : Gens → (Env → AH → R (List D)) → Env → AH → R (List D)
  | .nil, leaf, env, h => leaf env h
  | .cons tg it cond more, leaf, env, h => (evI it env h).bind fun p h => loopR (still p.1 p.2) (clause [] tg (wipe env tg.is) (fun env h => if isNo cond then .ok true h else (ev cond env h).bind fun d h => R.of (truth h d) h)
      fun env h => evG more leaf env h) p.2 h
termination_by structural e => e
end
def turn (tg : Tg) (body : Env → AH → SR) (d : D) (env : Env) (h : AH) : SR :=
  match tg.set d h env with
  | some env => body env h
  | none => .no
def liftS {α : Type} (m : R α) (env : Env) (f : α → AH → SR) : SR :=
  match m with
  | .ok a h => f a h
  | .ex c ks vs h => .ex c ks vs env h
  | .no => .no
def lstRef (h : AH) : D → Bool
  | .r n => match h[n]? with
    | some (.lst _) => true
    | _ => false
  | _ => false
def appD (x d : D) (h : AH) : R Unit :=
  match x with
  | .r n => (frzR d h).bind fun t h =>
      match h[n]? with
      | some (.lst ds) => if ds.length < sizeMax then .ok () (h.set n (.lst (ds ++ [.t t]))) else .no
      | _ => .no
  | _ => .no
def setAD (I : Info) (x : D) (f : Nat) (d : D) (h : AH) : R Unit :=
  match x with
  | .r n => (frzR d h).bind fun t h =>
      match h[n]? with
      | some (.ins c ks vs) => if I.fld c f = true ∧ ks.length < 1000 then let q := put (.t t) f ks vs; .ok () (h.set n (.ins c q.1 q.2)) else .no
      | _ => .no
  | _ => .no
def setID (I : Info) (c : Call) (x i d : D) (h : AH) : R Unit :=
  match x with
  | .r n => (frzR d h).bind fun t h =>
    match h[n]? with
    | some (.lst ds) => match intOf i with
      | some k => match place ds.length k with
        | some j => .ok () (h.set n (.lst (ds.set j (.t t))))
        | none => .no
      | none => .no
    | some (.dct ks vs) => match strOf i with
      | some z => if ks.length < sizeMax then let q := put t z ks vs; .ok () (h.set n (.dct q.1 q.2)) else .no
      | none => .no
    | _ => .no
  | _ => .no
section
variable (I : Info) (k : Nat) (ks : List Nat) (ts : List T)
mutual
def xsv : XS → Env → AH → SR
  | .asg i e, env, h => liftS (xev I k ks ts e env h) env fun d h => .nx (env.set i (some d)) h
  | .ite e a b, env, h => liftS (xev I k ks ts e env h) env fun d h => match truth h d with
    | some true => xssv a env h
    | some false => xssv b env h
    | none => .no
  | .ret e, env, h => liftS (xev I k ks ts e env h) env fun d h => .rt d h
termination_by structural e => e
def xssv : XSs → Env → AH → SR
  | .nil, env, h => .nx env h
  | .cons s r, env, h => match xsv s env h with
    | .nx env h => xssv r env h
    | .rt d h => .rt d h
    | .ct env h => .ct env h
    | .ex c ks vs env h => .ex c ks vs env h
    | .no => .no
termination_by structural e => e
end
end
def SR.unset (i : Nat) : SR → SR
  | .nx e h => .nx (e.set i none) h
  | .ct e h => .ct (e.set i none) h
  | .rt d h => .rt d h
  | _ => .no
def xhs (I : Info) (k : Nat) (ks : List Nat) (ts : List T) (env : Env) (h : AH) : List (Nat × Nat × XSs) → SR
  | [] => .ex k ks ts env h
  | (cl, i, b) :: r => match I.sub k cl with
    | some true => if i < env.length then (xssv I k ks ts b (env.set i none) h).unset i else .no
    | some false => xhs I k ks ts env h r
    | none => .no
mutual
def evS : St → Env → AH → SR
  | .bad, _, _ => .no
  | .asg i e, env, h => liftS (ev I c e env h) env fun d h => .nx (env.set i (some d)) h
  | .asgT is e, env, h => liftS (ev I c e env h) env fun d h => match (Tg.ns is).set d h env with
    | some env => .nx env h
    | none => .no
  | .setA o f e, env, h => liftS (ev I c e env h) env fun d h => liftS (ev I c o env h) env fun x h => liftS (setAD I x f d h) env fun _ h => .nx env h
  | .setI o i e, env, h => liftS (ev I c e env h) env fun d h => liftS (ev I c o env h) env fun x h => liftS (ev I c i env h) env fun y h => liftS (setID I c x y d h) env fun _ h => .nx env h
  | .app o e, env, h => liftS (ev I c o env h) env fun x h => if lstRef h x then liftS (ev I c e env h) env fun d h => liftS (appD x d h) env fun _ h => .nx env h else .no
  | .expr e, env, h => liftS (ev I c e env h) env fun _ h => .nx env h
  | .ite e a b, env, h => liftS (ev I c e env h) env fun d h => match truth h d with
    | some true => evSs a env h
    | some false => evSs b env h
    | none => .no
  | .for_ tg it b, env, h => liftS (evI I c it env h) env fun p h => forL p.1 p.2 (turn tg fun env h => evSs b env h) p.2 env h
  | .ret e, env, h => liftS (ev I c e env h) env fun d h => .rt d h
  | .retN, _, h => .rt (.t .non) h
  | .pas, env, h => .nx env h
  | .cont, env, h => .ct env h
  | .rais k es, env, h => match I.exc k with
    | some ks => liftS (evs I c es env h) env fun ds h => liftS (frzsR ds h) env fun ts h => if ks.length = ts.length then .ex k ks.reverse ts.reverse env h else .no
    | none => .no
  | .tri b hs, env, h => match evSs b env h with
    | .ex k ks ts env h => xhs I k ks ts env h hs
    | r => r
  | .ior i e, env, h => match env[i]? with
    | some (some x) => liftS (ev I c e env h) env fun y h => match clsOf h x with
      | some k => match I.meth k mIor with
        | some f => liftS (c f [x, y] h) env fun d h => .nx (env.set i (some d)) h
        | none => .no
      | none => .no
    | _ => .no
termination_by structural e => e
def evSs : Sts → Env → AH → SR
  | .nil, env, h => .nx env h
  | .cons s r, env, h => match evS s env h with
    | .nx env h => evSs r env h
    | .rt d h => .rt d h
    | .ct env h => .ct env h
    | .ex c ks vs env h => .ex c ks vs env h
    | .no => .no
termination_by structural e => e
end
end
def lives (h : AH) (n : Nat) : Bool :=
  match h[n]? with
  | some .dead => false
  | some _ => true
  | none => false
def retV (live : Bool) (base : Nat) (d : D) (h : AH) : R D :=
  match d with
  | .t x => .ok (.t x) (h.take base)
  | .r n =>
    if n < base then .ok (.r n) (h.take base)
    else if live then
      match h[n]? with
      | some (.lst ds) => (frzsR ds h).bind fun ts h => if lives h n then .ok (.r base) (h.take base ++ [.lst (ts.map .t)]) else .no
      | some (.dct ks vs) => .ok (.r base) (h.take base ++ [.dct ks vs])
      | some (.ins c ks ds) => (frzsR ds h).bind fun ts h => if lives h n then .ok (.r base) (h.take base ++ [.ins c ks (ts.map .t)]) else .no
      | _ => .no
    else (frzR d h).bind fun x h => .ok (.t x) (h.take base)
def retS (live : Bool) (base : Nat) : SR → R D
  | .nx _ h => .ok (.t .non) (h.take base)
  | .rt d h => retV live base d h
  | .ex c ks vs _ h => .ex c ks vs (h.take base)
  | _ => .no
def start (ns : Nat) (args : List D) : Env := args.map some ++ List.replicate (ns - args.length) none
def runF (I : Info) (c : Call) (fd : Fn) (args : List D) (h : AH) : R D :=
  if args.length = fd.np then retS fd.live h.length (evSs I c fd.body (start fd.ns args) h) else .no
def callN (I : Info) : Nat → Call
  | 0 => fun _ _ _ => .no
  | n + 1 => fun f args h => match I.tbl f with
    | some fd => runF I (callN I n) fd args h
    | none => .no
end Kp
set_option autoImplicit false
namespace Kp
structure Tb where
  defs : List (Nat × Fn)
  con : List (Nat × T)
  meth : List ((Nat × Nat) × Nat)
  prop : List ((Nat × Nat) × Nat)
  init : List (Nat × Nat)
  live : List Nat
  iter : List (Nat × Nat)
  exc : List (Nat × List Nat)
  fld : List (Nat × Nat)
  dfl : List ((Nat × Nat) × T)
  sub : List ((Nat × Nat) × Bool) := []
def Tb.info (t : Tb) : Info where
  tbl f := t.defs.lookup f
  gcon g := (t.con.lookup g).getD .non
  meth c m := t.meth.lookup (c, m)
  prop c m := t.prop.lookup (c, m)
  init c := t.init.lookup c
  liveC c := t.live.contains c
  iter c := t.iter.lookup c
  exc c := t.exc.lookup c
  fld c f := t.fld.contains (c, f)
  dflt f p := t.dfl.lookup (f, p)
  sub k c := t.sub.lookup (k, c)
end Kp
namespace Kp.B
open Kp
def b344 : Sts := (.cons (.ret (.bool true (.cons (.bi (.isi .tuple) (.cons (.v 0) .nil)) (.cons (.cmp .eq (.bi .len (.cons (.v 0) .nil)) (.k (.int (2)))) (.cons (.cmp .isin (.idx (.v 0) (.k (.int (0)))) (.g 2)) (.cons (.cmp .isin (.idx (.v 0) (.k (.int (1)))) (.g 2)) .nil)))))) .nil)
def b123_1 : Sts := (.cons (.ite (.cmp .isin (.tup (.cons (.v 5) (.cons (.v 6) .nil))) (.v 2)) (.cons (.app (.v 4) (.tup (.cons (.v 5) (.cons (.v 6) .nil)))) .nil) .nil) .nil)
def b123_2 : Sts := (.cons (.for_ (.n 6) (.val (.g 2)) b123_1) .nil)
def b123_3 : Sts := (.cons (.ite (.not_ (.call 344 (.cons (.v 3) .nil) [] .nil)) (.cons (.rais 3 (.cons (.v 3) .nil)) .nil) .nil) (.cons (.app (.v 2) (.v 3)) .nil))
def b123 : Sts := (.cons (.asg 2 (.lst true .nil)) (.cons (.for_ (.n 3) (.val (.v 1)) b123_3) (.cons (.asg 4 (.lst true .nil)) (.cons (.for_ (.n 5) (.val (.g 2)) b123_2) (.cons (.setA (.v 0) 32 (.v 4)) .nil)))))
def b126 : Sts := (.cons (.ret (.bi .len (.cons (.attr (.v 0) 32) .nil))) .nil)
def b121 : Sts := (.cons (.ret (.cmp .isin (.v 1) (.attr (.v 0) 32))) .nil)
def b122 : Sts := (.cons (.ret (.bool true (.cons (.bi (.isi (.cls 12)) (.cons (.v 1) .nil)) (.cons (.cmp .eq (.attr (.v 0) 32) (.attr (.v 1) 32)) .nil)))) .nil)
def b125_1 : Ex := (.cmp .notin (.v 2) (.attr (.v 1) 32))
def b125 : Sts := (.cons (.ite (.not_ (.bi (.isi (.cls 12)) (.cons (.v 1) .nil))) (.cons (.ret (.bad)) .nil) .nil) (.cons (.ret (.not_ (.lc false (.v 2) [2] (.n 2) (.val (.attr (.v 0) 32)) b125_1 .nil))) .nil))
def b120_1 : Ex := (.cmp .isin (.v 2) (.attr (.v 1) 32))
def b120 : Sts := (.cons (.ret (.new 12 (.cons (.lc false (.v 2) [2] (.n 2) (.val (.attr (.v 0) 32)) b120_1 .nil) .nil) [] .nil)) .nil)
def b127 : Sts := (.cons (.ret (.new 12 (.cons (.bin .add (.attr (.v 0) 32) (.attr (.v 1) 32)) .nil) [] .nil)) .nil)
def b128_1 : Ex := (.cmp .notin (.v 2) (.attr (.v 1) 32))
def b128 : Sts := (.cons (.ret (.new 12 (.cons (.lc false (.v 2) [2] (.n 2) (.val (.attr (.v 0) 32)) b128_1 .nil) .nil) [] .nil)) .nil)
def b183_1 : Sts := (.cons (.ite (.bool true (.cons (.v 5) (.cons (.cmp .gt (.v 4) (.k (.int (0)))) .nil))) (.cons (.app (.v 7) (.bin .mod (.bi .int (.cons (.v 4) .nil)) (.k (.int (1000))))) (.cons (.asg 4 (.bin .fdiv (.v 4) (.k (.int (1000))))) .nil)) (.cons (.asg 6 (.bin .mod (.bi .int (.cons (.bin .add (.bin .mul (.v 6) (.k (.int (48271)))) (.bin .mul (.k (.int (69621))) (.v 8))) .nil)) (.k (.int (2147483647))))) (.cons (.app (.v 7) (.bin .mod (.bi .int (.cons (.bin .fdiv (.v 6) (.k (.int (11)))) .nil)) (.k (.int (1000))))) .nil))) .nil)
def b183 : Sts := (.cons (.asg 3 (.k (.int (0)))) (.cons (.ite (.cmp .lt (.v 1) (.bi .len (.cons (.v 0) .nil))) (.cons (.asg 3 (.bi .int (.cons (.idx (.v 0) (.v 1)) .nil))) .nil) .nil) (.cons (.asg 4 (.bin .add (.bin .mul (.k (.int (2))) (.bi .abs (.cons (.v 3) .nil))) (.bi .int (.cons (.cmp .lt (.v 3) (.k (.int (0)))) .nil)))) (.cons (.asg 5 (.cmp .ge (.v 4) (.bin .mul (.k (.int (2))) (.bin .pow (.k (.int (10))) (.k (.int (18))))))) (.cons (.asg 6 (.bin .add (.bin .add (.bin .mod (.bi .int (.cons (.v 4) .nil)) (.k (.int (2147483629)))) (.bin .mul (.k (.int (7919))) (.v 1))) (.k (.int (1))))) (.cons (.asg 7 (.lst true .nil)) (.cons (.for_ (.n 8) (.rng1 (.v 2)) b183_1) (.cons (.ret (.v 7)) .nil))))))))
def b215 : Sts := (.cons (.ret (.lst false (.cons (.k (.str [114, 101, 97, 100])) (.cons (.k (.str [97, 99, 113, 117, 105, 114, 101])) (.cons (.k (.str [119, 114, 105, 116, 101])) (.cons (.k (.str [114, 101, 108, 101, 97, 115, 101])) .nil)))))) .nil)
def b149_1 : Sts := (.cons (.app (.v 0) (.tup (.cons (.v 1) (.cons (.v 2) .nil)))) .nil)
def b149_2 : Sts := (.cons (.for_ (.n 2) (.val (.call 215 .nil [] .nil)) b149_1) .nil)
def b149 : Sts := (.cons (.asg 0 (.lst true .nil)) (.cons (.for_ (.n 1) (.val (.call 215 .nil [] .nil)) b149_2) (.cons (.ret (.v 0)) .nil)))
def b256 : Sts := (.cons (.ret (.lst false (.cons (.k (.str [114, 101, 97, 100])) (.cons (.k (.str [97, 99, 113, 117, 105, 114, 101])) .nil)))) .nil)
def b279_1 : Sts := (.cons (.asg 4 (.cmp .isin (.idx (.v 3) (.k (.int (0)))) (.call 256 .nil [] .nil))) (.cons (.asg 5 (.cmp .eq (.bin .mod (.bi .int (.cons (.v 1) .nil)) (.k (.int (2)))) (.k (.int (1))))) (.cons (.asg 1 (.bin .fdiv (.v 1) (.k (.int (2))))) (.cons (.asg 6 (.lst false (.cons (.k (.bl false)) (.cons (.k (.bl true)) (.cons (.bool false (.cons (.v 4) (.cons (.cmp .notin (.idx (.v 3) (.k (.int (1)))) (.call 256 .nil [] .nil)) .nil))) (.cons (.bool false (.cons (.cmp .eq (.idx (.v 3) (.k (.int (0)))) (.k (.str [97, 99, 113, 117, 105, 114, 101]))) (.cons (.cmp .eq (.idx (.v 3) (.k (.int (1)))) (.k (.str [114, 101, 108, 101, 97, 115, 101]))) .nil))) .nil)))))) (.cons (.asg 6 (.bin .add (.v 6) (.lst false (.cons (.bool true (.cons (.v 5) (.cons (.v 4) .nil))) (.cons (.v 5) (.cons (.v 5) (.cons (.v 5) .nil))))))) (.cons (.ite (.idx (.v 6) (.v 0)) (.cons (.app (.v 2) (.v 3)) .nil) .nil) .nil))))))
def b279 : Sts := (.cons (.asg 2 (.lst true .nil)) (.cons (.for_ (.n 3) (.val (.call 149 .nil [] .nil)) b279_1) (.cons (.ret (.v 2)) .nil)))
def b296_1 : Ex := (.cmp .ne (.v 8) (.v 7))
def b296_2 : Sts := (.cons (.asg 7 (.idx (.call 149 .nil [] .nil) (.bin .mod (.idx (.v 1) (.bin .add (.v 2) (.v 6))) (.k (.int (16)))))) (.cons (.ite (.cmp .notin (.v 7) (.v 5)) (.cons (.app (.v 5) (.v 7)) .nil) (.cons (.ite (.not_ (.v 4)) (.cons (.asg 5 (.lc true (.v 8) [8] (.n 8) (.val (.v 5)) b296_1 .nil)) .nil) .nil) .nil)) .nil))
def b296 : Sts := (.cons (.asg 5 (.bi .listL (.cons (.v 0) .nil))) (.cons (.for_ (.n 6) (.rng1 (.v 3)) b296_2) (.cons (.ret (.v 5)) .nil)))
def b270 : Sts := (.cons (.ret (.bool true (.cons (.bi (.isi .bool) (.cons (.v 0) .nil)) (.cons (.cmp .eq (.v 0) (.v 1)) .nil)))) .nil)
def b129_1 : Ex := (.tup (.cons (.v 2) (.cons (.v 3) .nil)))
def b129 : Sts := (.cons (.ret (.new 12 (.cons (.lc false b129_1 [2, 3] (.n 2) (.val (.v 0)) .no_ (.cons (.n 3) (.val (.v 1)) .no_ .nil)) .nil) [] .nil)) .nil)
def b339_1 : Sts := (.cons (.ite (.cmp .notin (.v 1) (.g 3)) (.cons (.ret (.k (.bl false))) .nil) .nil) .nil)
def b339 : Sts := (.cons (.ite (.bool false (.cons (.not_ (.bi (.isi .str) (.cons (.v 0) .nil))) (.cons (.cmp .isin (.v 0) (.g 2)) (.cons (.cmp .lt (.bi .len (.cons (.v 0) .nil)) (.k (.int (1)))) (.cons (.cmp .gt (.bi .len (.cons (.v 0) .nil)) (.k (.int (8)))) .nil))))) (.cons (.ret (.k (.bl false))) .nil) .nil) (.cons (.for_ (.n 1) (.val (.v 0)) b339_1) (.cons (.ret (.k (.bl true))) .nil)))
def b343 : Sts := (.cons (.ite (.bool false (.cons (.not_ (.bi (.isi .int) (.cons (.v 0) .nil))) (.cons (.bi (.isi .bool) (.cons (.v 0) .nil)) .nil))) (.cons (.ret (.k (.bl false))) .nil) .nil) (.cons (.ret (.chain .le .le (.v 1) (.v 0) (.v 2))) .nil))
def b340 : Sts := (.cons (.ite (.bool false (.cons (.not_ (.bi (.isi .tuple) (.cons (.v 0) .nil))) (.cons (.cmp .lt (.bi .len (.cons (.v 0) .nil)) (.k (.int (1)))) (.cons (.cmp .gt (.bi .len (.cons (.v 0) .nil)) (.k (.int (3)))) .nil)))) (.cons (.ret (.k (.bl false))) .nil) .nil) (.cons (.ite (.cmp .eq (.bi .len (.cons (.v 0) .nil)) (.k (.int (1)))) (.cons (.ret (.call 339 (.cons (.idx (.v 0) (.k (.int (0)))) .nil) [] .nil)) .nil) .nil) (.cons (.ite (.not_ (.call 343 (.cons (.idx (.v 0) (.k (.int (1)))) (.cons (.k (.int (0))) (.cons (.k (.int (9))) .nil))) [] .nil)) (.cons (.ret (.k (.bl false))) .nil) .nil) (.cons (.ite (.cmp .eq (.bi .len (.cons (.v 0) .nil)) (.k (.int (2)))) (.cons (.ret (.cmp .isin (.idx (.v 0) (.k (.int (0)))) (.g 4))) .nil) .nil) (.cons (.ret (.bool true (.cons (.cmp .isin (.idx (.v 0) (.k (.int (0)))) (.g 5)) (.cons (.call 343 (.cons (.idx (.v 0) (.k (.int (2)))) (.cons (.k (.int (1))) (.cons (.k (.int (1000000000))) .nil))) [] .nil) .nil)))) .nil)))))
def b319_1 : Sts := (.cons (.ite (.not_ (.call 340 (.cons (.idx (.idx (.v 0) (.v 1)) (.v 2)) .nil) [] .nil)) (.cons (.rais 5 (.cons (.v 1) (.cons (.v 2) .nil))) .nil) .nil) .nil)
def b319_2 : Sts := (.cons (.for_ (.n 2) (.rng1 (.bi .len (.cons (.idx (.v 0) (.v 1)) .nil))) b319_1) .nil)
def b319 : Sts := (.cons (.for_ (.n 1) (.rng1 (.bi .len (.cons (.v 0) .nil))) b319_2) .nil)
def b236_1 : Sts := (.cons (.asg 3 (.bin .add (.bin .mul (.v 3) (.k (.int (1000)))) (.idx (.v 0) (.bin .add (.v 1) (.v 4))))) .nil)
def b236 : Sts := (.cons (.asg 3 (.k (.int (0)))) (.cons (.for_ (.n 4) (.rng1 (.v 2)) b236_1) (.cons (.ret (.v 3)) .nil)))
def b189_1 : Sts := (.cons (.asg 3 (.bin .add (.v 3) (.idx (.v 1) (.bin .mod (.bi .int (.cons (.v 2) .nil)) (.k (.int (26))))))) (.cons (.asg 2 (.bin .fdiv (.v 2) (.k (.int (26))))) .nil))
def b189 : Sts := (.cons (.asg 1 (.k (.str [97, 98, 99, 100, 101, 102, 103, 104, 105, 106, 107, 108, 109, 110, 111, 112, 113, 114, 115, 116, 117, 118, 119, 120, 121, 122]))) (.cons (.asg 2 (.bin .fdiv (.v 0) (.k (.int (8))))) (.cons (.asg 3 (.k (.str []))) (.cons (.for_ (.n 4) (.rng1 (.bin .add (.k (.int (1))) (.bin .mod (.bi .int (.cons (.v 0) .nil)) (.k (.int (8)))))) b189_1) (.cons (.ite (.bool false (.cons (.cmp .isin (.v 3) (.call 215 .nil [] .nil)) (.cons (.cmp .eq (.v 3) (.k (.str [102, 117, 108, 108]))) .nil))) (.cons (.asg 3 (.bin .add (.k (.str [122])) (.slc (.v 3) (.k (.int (1))) .no_))) .nil) .nil) (.cons (.ret (.v 3)) .nil))))))
def b310_1 : Ex := (.cmp .gt (.bi .len (.cons (.idx (.v 0) (.v 1)) .nil)) (.k (.int (1))))
def b310 : Sts := (.cons (.ret (.lc false (.v 1) [1] (.n 1) (.rng1 (.bi .len (.cons (.v 0) .nil))) b310_1 .nil)) .nil)
def b311_1 : Ex := (.cmp .gt (.bi .len (.cons (.v 1) .nil)) (.k (.int (1))))
def b311 : Sts := (.cons (.ret (.lc false (.v 1) [1] (.n 1) (.val (.v 0)) b311_1 .nil)) .nil)
def b354_1 : Ex := (.meth 27 (.v 0) (.cons (.v 3) (.cons (.idx (.v 4) (.v 7)) (.cons (.idx (.v 4) (.v 6)) .nil))) [] .nil)
def b354_2 : Sts := (.cons (.app (.v 5) (.lc false (.v 7) [7] (.n 7) (.rng1 (.v 6)) b354_1 .nil)) .nil)
def b354_3 : Sts := (.cons (.asg 4 (.call 310 (.cons (.v 3) .nil) [] .nil)) (.cons (.asg 5 (.lst true .nil)) (.cons (.for_ (.n 6) (.rng1 (.bi .len (.cons (.v 4) .nil))) b354_2) (.cons (.app (.v 2) (.v 5)) .nil))))
def b354 : Sts := (.cons (.asg 2 (.lst true .nil)) (.cons (.for_ (.n 3) (.val (.v 1)) b354_3) (.cons (.ret (.v 2)) .nil)))
def b345_1 : Sts := (.cons (.ite (.cmp .notin (.tup (.cons (.idx (.v 2) (.k (.int (0)))) (.cons (.v 3) .nil))) (.v 1)) (.cons (.ret (.k (.bl false))) .nil) .nil) .nil)
def b345 : Sts := (.cons (.ite (.cmp .isin (.v 2) (.v 1)) (.cons (.ret (.k (.bl false))) .nil) .nil) (.cons (.for_ (.n 3) (.val (.idx (.idx (.v 0) (.idx (.v 2) (.k (.int (0))))) (.idx (.v 2) (.k (.int (1)))))) b345_1) (.cons (.ret (.k (.bl true))) .nil)))
def b355_1 : Sts := (.cons (.ite (.call 345 (.cons (.v 0) (.cons (.v 1) (.cons (.tup (.cons (.v 3) (.cons (.v 4) .nil))) .nil))) [] .nil) (.cons (.app (.v 2) (.tup (.cons (.v 3) (.cons (.v 4) .nil)))) .nil) .nil) .nil)
def b355_2 : Sts := (.cons (.for_ (.n 4) (.rng1 (.bi .len (.cons (.idx (.v 0) (.v 3)) .nil))) b355_1) .nil)
def b355 : Sts := (.cons (.asg 2 (.lst true .nil)) (.cons (.for_ (.n 3) (.rng1 (.bi .len (.cons (.v 0) .nil))) b355_2) (.cons (.ret (.v 2)) .nil)))
def b384_1 : Sts := (.cons (.asg 9 (.idx (.idx (.v 0) (.idx (.v 6) (.k (.int (0))))) (.idx (.v 6) (.k (.int (1)))))) (.cons (.ite (.bool true (.cons (.cmp .eq (.bi .len (.cons (.v 9) .nil)) (.k (.int (3)))) (.cons (.cmp .eq (.idx (.v 9) (.k (.int (1)))) (.v 3)) .nil))) (.cons (.ret (.idx (.v 9) (.k (.int (2))))) .nil) .nil) .nil))
def b384_2 : Sts := (.cons (.asg 9 (.idx (.idx (.v 0) (.v 7)) (.v 5))) (.cons (.ite (.bool true (.cons (.cmp .eq (.bi .len (.cons (.v 9) .nil)) (.k (.int (3)))) (.cons (.cmp .eq (.idx (.v 9) (.k (.int (1)))) (.v 3)) (.cons (.cmp .notin (.tup (.cons (.v 7) (.cons (.v 5) .nil))) (.v 1)) .nil)))) (.cons (.asg 4 (.idx (.v 9) (.k (.int (2))))) .nil) .nil) .nil))
def b384 : Sts := (.cons (.asgT [7, 8] (.v 2)) (.cons (.asg 3 (.idx (.idx (.idx (.v 0) (.v 7)) (.v 8)) (.k (.int (1))))) (.cons (.asg 4 (.k (.int (0)))) (.cons (.for_ (.n 5) (.rng1 (.v 8)) b384_2) (.cons (.ite (.cmp .gt (.v 4) (.k (.int (0)))) (.cons (.ret (.v 4)) .nil) .nil) (.cons (.for_ (.n 6) (.val (.bi .rev (.cons (.v 1) .nil))) b384_1) (.cons (.ret (.k (.int (0)))) .nil)))))))
def b322 : Sts := (.cons (.asg 2 (.lst true .nil)) (.cons .bad (.cons (.ret (.bi .tuple (.cons (.v 2) .nil))) .nil)))
def b369_1 : Sts := (.cons (.ite (.cmp .eq (.bi .len (.cons (.idx (.idx (.v 0) (.v 2)) (.v 3)) .nil)) (.k (.int (2)))) (.cons (.app (.v 1) (.tup (.cons (.v 2) (.cons (.v 3) .nil)))) .nil) .nil) .nil)
def b369_2 : Sts := (.cons (.for_ (.n 3) (.rng1 (.bi .len (.cons (.idx (.v 0) (.v 2)) .nil))) b369_1) .nil)
def b369 : Sts := (.cons (.asg 1 (.lst true .nil)) (.cons (.for_ (.n 2) (.rng1 (.bi .len (.cons (.v 0) .nil))) b369_2) (.cons (.ret (.v 1)) .nil)))
def b379_1 : Sts := (.cons (.ite (.cmp .eq (.idx (.v 4) (.v 5)) (.v 2)) (.cons (.ret (.cmp .eq (.call 384 (.cons (.v 0) (.cons (.v 1) (.cons (.v 2) .nil))) [] .nil) (.idx (.v 3) (.v 5)))) .nil) .nil) .nil)
def b379 : Sts := (.cons (.asg 4 (.call 369 (.cons (.v 0) .nil) [] .nil)) (.cons (.for_ (.n 5) (.rng1 (.bi .len (.cons (.v 4) .nil))) b379_1) (.cons (.ret (.k (.bl true))) .nil)))
def b337_1 : Sts := (.cons (.ite (.call 379 (.cons (.v 0) (.cons (.v 2) (.cons (.v 5) (.cons (.idx (.v 3) (.k (.int (0)))) .nil)))) [] .nil) (.cons (.ite (.call 337 (.cons (.v 0) (.cons (.v 1) (.cons (.bin .add (.v 2) (.lst false (.cons (.v 5) .nil))) (.cons (.v 3) .nil)))) [] .nil) (.cons (.ret (.k (.bl true))) .nil) .nil) .nil) .nil) .nil)
def b337 : Sts := (.cons (.asg 4 (.call 355 (.cons (.v 1) (.cons (.v 2) .nil)) [] .nil)) (.cons (.ite (.not_ (.v 4)) (.cons (.ret (.cmp .eq (.call 322 (.cons (.v 0) (.cons (.v 2) .nil)) [] .nil) (.idx (.v 3) (.k (.int (1)))))) .nil) .nil) (.cons (.for_ (.n 5) (.val (.v 4)) b337_1) (.cons (.ret (.k (.bl false))) .nil))))
def b316_1 : Sts := (.cons (.ite (.bool true (.cons (.cmp .eq (.bi .len (.cons (.v 3) .nil)) (.k (.int (1)))) (.cons (.cmp .notin (.idx (.v 3) (.k (.int (0)))) (.attr (.v 0) 9)) .nil))) (.cons (.rais 16 (.cons (.idx (.v 3) (.k (.int (0)))) .nil)) .nil) .nil) .nil)
def b316_2 : Sts := (.cons (.for_ (.n 3) (.val (.v 2)) b316_1) .nil)
def b316 : Sts := (.cons (.expr (.call 319 (.cons (.v 1) .nil) [] .nil)) (.cons (.for_ (.n 2) (.val (.v 1)) b316_2) .nil))
def b101_1 : Sts := (.cons (.ite (.bool false (.cons (.cmp .eq (.v 6) (.g 1)) (.cons (.not_ (.call 339 (.cons (.v 6) .nil) [] .nil)) .nil))) (.cons (.rais 2 (.cons (.v 6) .nil)) .nil) .nil) .nil)
def b101 : Sts := (.cons (.asg 5 (.dct [] .nil)) (.cons (.ite (.cmp .isnot (.v 2) (.k (.non))) (.cons (.asg 5 (.bi .dcp (.cons (.v 2) .nil))) .nil) .nil) (.cons (.for_ (.n 6) (.val (.bi .sorted (.cons (.bi .keys (.cons (.v 5) .nil)) .nil))) b101_1) (.cons (.setI (.v 5) (.g 1) (.call 129 (.cons (.g 2) (.cons (.g 2) .nil)) [] .nil)) (.cons (.setA (.v 0) 15 (.v 1)) (.cons (.setA (.v 0) 9 (.dc false (.v 6) (.idx (.v 5) (.v 6)) [6] (.n 6) (.val (.bi .sorted (.cons (.bi .keys (.cons (.v 5) .nil)) .nil))) .no_)) (.cons (.setA (.v 0) 8 (.v 3)) (.cons (.setA (.v 0) 6 (.v 4)) .nil))))))))
def b105 : Sts := (.cons (.ret (.bi .tuple (.cons (.bi .keys (.cons (.attr (.v 0) 9) .nil)) .nil))) .nil)
def b100_1 : Ex := (.call 311 (.cons (.v 5) .nil) [] .nil)
def b100 : Sts := (.cons (.asgT [3, 4] (.v 1)) (.cons (.expr (.call 316 (.cons (.v 0) (.cons (.v 3) .nil)) [] .nil)) (.cons (.asg 2 (.lc false b100_1 [5] (.n 5) (.val (.v 3)) .no_ .nil)) (.cons (.ite (.cmp .ne (.bi .len (.cons (.idx (.v 4) (.k (.int (0)))) .nil)) (.bi .len (.cons (.call 369 (.cons (.v 2) .nil) [] .nil) .nil))) (.cons (.ret (.k (.bl false))) .nil) .nil) (.cons (.ret (.call 337 (.cons (.v 2) (.cons (.call 354 (.cons (.v 0) (.cons (.v 3) .nil)) [] .nil) (.cons (.lst false .nil) (.cons (.v 4) .nil)))) [] .nil)) .nil)))))
def b103_1 : Sts := (.cons (.ite (.cmp .isin (.tup (.cons (.v 1) (.cons (.v 2) .nil))) (.idx (.attr (.v 0) 9) (.v 4))) (.cons (.ret (.k (.bl true))) .nil) .nil) .nil)
def b103_2 : Sts := (.cons (.ite (.cmp .notin (.v 4) (.attr (.v 0) 9)) (.cons (.rais 16 (.cons (.v 4) .nil)) .nil) .nil) .nil)
def b103 : Sts := (.cons (.ite (.not_ (.call 344 (.cons (.tup (.cons (.v 1) (.cons (.v 2) .nil))) .nil) [] .nil)) (.cons (.rais 3 (.cons (.tup (.cons (.v 1) (.cons (.v 2) .nil))) .nil)) .nil) .nil) (.cons (.for_ (.n 4) (.val (.v 3)) b103_2) (.cons (.ite (.cmp .isin (.tup (.cons (.v 1) (.cons (.v 2) .nil))) (.attr (.v 0) 15)) (.cons (.ret (.k (.bl true))) .nil) .nil) (.cons (.for_ (.n 4) (.val (.v 3)) b103_1) (.cons (.ret (.k (.bl false))) .nil)))))
def b106_1 : Ex := (.idx (.v 7) (.k (.int (0))))
def b106_2 : Ex := (.cmp .eq (.bi .len (.cons (.v 7) .nil)) (.k (.int (1))))
def b106 : Sts := (.cons (.asgT [5, 6] (.tup (.cons (.idx (.v 1) (.v 2)) (.cons (.idx (.v 1) (.v 3)) .nil)))) (.cons (.asg 4 (.lc false b106_1 [7] (.n 7) (.val (.slc (.v 1) (.bin .add (.v 2) (.k (.int (1)))) (.v 3))) b106_2 .nil)) (.cons (.ite (.meth 24 (.v 0) (.cons (.idx (.v 5) (.k (.int (0)))) (.cons (.idx (.v 6) (.k (.int (0)))) .nil)) [3] (.cons (.v 4) .nil)) (.cons (.ret (.k (.bl true))) .nil) .nil) (.cons (.ite (.cmp .ne (.idx (.v 5) (.k (.int (1)))) (.idx (.v 6) (.k (.int (1))))) (.cons (.ret (.k (.bl false))) .nil) .nil) (.cons (.ite (.cmp .eq (.bi .len (.cons (.v 6) .nil)) (.k (.int (3)))) (.cons (.ret (.k (.bl true))) .nil) .nil) (.cons (.ite (.cmp .eq (.bi .len (.cons (.v 5) .nil)) (.k (.int (2)))) (.cons (.ret (.attr (.v 0) 6)) .nil) .nil) (.cons (.ret (.not_ (.attr (.v 0) 8))) .nil)))))))
def b224 : Sts := (.cons (.asg 2 (.call 189 (.cons (.call 236 (.cons (.v 0) (.cons (.v 1) (.cons (.k (.int (4))) .nil))) [] .nil) .nil) [] .nil)) (.cons (.asg 3 (.call 189 (.cons (.call 236 (.cons (.v 0) (.cons (.bin .add (.v 1) (.k (.int (4)))) (.cons (.k (.int (4))) .nil))) [] .nil) .nil) [] .nil)) (.cons (.ite (.cmp .eq (.bin .mod (.idx (.v 0) (.bin .add (.v 1) (.k (.int (1))))) (.k (.int (2)))) (.k (.int (0)))) (.cons (.asg 4 (.bin .mod (.idx (.v 0) (.bin .add (.v 1) (.k (.int (2))))) (.bi .len (.cons (.v 2) .nil)))) (.cons (.asg 5 (.idx (.k (.str [97, 98, 99, 100, 101, 102, 103, 104, 105, 106, 107, 108, 109, 110, 111, 112, 113, 114, 115, 116, 117, 118, 119, 120, 121, 122])) (.bin .mod (.idx (.v 0) (.bin .add (.v 1) (.k (.int (5))))) (.k (.int (26)))))) (.cons (.asg 3 (.bin .add (.bin .add (.slc (.v 2) .no_ (.v 4)) (.v 5)) (.slc (.v 2) (.bin .add (.v 4) (.k (.int (1)))) .no_))) .nil))) .nil) (.cons (.ite (.bool false (.cons (.cmp .eq (.v 3) (.v 2)) (.cons (.cmp .isin (.v 3) (.call 215 .nil [] .nil)) (.cons (.cmp .eq (.v 3) (.k (.str [102, 117, 108, 108]))) .nil)))) (.cons (.asg 3 (.k (.str [98]))) (.cons (.ite (.cmp .eq (.v 2) (.k (.str [98]))) (.cons (.asg 3 (.k (.str [99]))) .nil) .nil) .nil)) .nil) (.cons (.ret (.lst false (.cons (.v 2) (.cons (.v 3) .nil)))) .nil)))))
def b164_1 : Sts := (.cons (.asg 6 (.bin .add (.idx (.v 0) (.bin .add (.bin .add (.v 1) (.k (.int (5)))) (.bin .mul (.k (.int (3))) (.v 5)))) (.bin .mul (.k (.int (1000))) (.idx (.v 0) (.bin .add (.bin .add (.v 1) (.k (.int (6)))) (.bin .mul (.k (.int (3))) (.v 5))))))) (.cons (.app (.v 4) (.lst false (.cons (.idx (.v 2) (.v 5)) (.cons (.call 279 (.cons (.bin .mod (.idx (.v 0) (.bin .add (.bin .add (.v 1) (.k (.int (4)))) (.bin .mul (.k (.int (3))) (.v 5)))) (.k (.int (8)))) (.cons (.v 6) .nil)) [] .nil) .nil)))) .nil))
def b164 : Sts := (.cons (.asg 3 (.call 279 (.cons (.bin .mod (.idx (.v 0) (.v 1)) (.k (.int (8)))) (.cons (.bin .add (.idx (.v 0) (.bin .add (.v 1) (.k (.int (1))))) (.bin .mul (.k (.int (1000))) (.idx (.v 0) (.bin .add (.v 1) (.k (.int (2))))))) .nil)) [] .nil)) (.cons (.asg 4 (.lst true (.cons (.lst false (.cons (.k (.str [102, 117, 108, 108])) (.cons (.call 149 .nil [] .nil) .nil))) .nil))) (.cons (.for_ (.n 5) (.rng1 (.bi .len (.cons (.v 2) .nil))) b164_1) (.cons (.ret (.lst false (.cons (.v 3) (.cons (.v 4) (.cons (.cmp .eq (.bin .mod (.idx (.v 0) (.bin .add (.v 1) (.k (.int (3))))) (.k (.int (2)))) (.k (.int (0)))) (.cons (.cmp .eq (.bin .mod (.bin .fdiv (.idx (.v 0) (.bin .add (.v 1) (.k (.int (3))))) (.k (.int (2)))) (.k (.int (2)))) (.k (.int (0)))) .nil)))))) .nil))))
def b157 : Sts := (.cons (.asg 1 (.lst false (.cons (.k (.str [102, 117, 108, 108])) (.cons (.k (.str [114, 101, 97, 100])) (.cons (.k (.str [97, 99, 113, 117, 105, 114, 101])) (.cons (.k (.str [119, 114, 105, 116, 101])) (.cons (.k (.str [114, 101, 108, 101, 97, 115, 101])) (.cons (.k (.str [])) (.cons (.k (.str [110, 105, 110, 101, 115, 105, 103, 110, 115])) (.cons (.k (.str [83, 116, 111, 114, 101])) (.cons (.k (.str [97, 49])) (.cons (.k (.str [97, 32, 98])) (.cons (.k (.str [122, 46])) .nil))))))))))))) (.cons (.ret (.idx (.v 1) (.bin .mod (.bi .int (.cons (.v 0) .nil)) (.k (.int (11)))))) .nil))
def b257v1_1 : Sts := (.cons (.expr (.new 1 (.cons (.v 0) .nil) [2] (.cons (.v 1) .nil))) .nil)
def b257v1 : Sts := (.cons (.tri b257v1_1 [(2, 2, (.cons (.asg 3 (.bool true (.cons (.isi 11) (.cons (.isi 0) .nil)))) (.cons (.ite (.bool true (.cons (.v 3) (.cons (.not_ (.isi 16)) (.cons (.not_ (.isi 3)) .nil)))) (.cons (.ret (.fld 19)) .nil) .nil) .nil)))]) (.cons (.ret (.k (.non))) .nil))
def b350v5_1 : Ex := (.bi .str (.cons (.v 11) .nil))
def b350v5_2 : Sts := (.cons (.setI (.v 5) (.v 11) (.new 12 .nil [] .nil)) .nil)
def b350v5_3 : Ex := (.bi .str (.cons (.v 11) .nil))
def b350v5_4 : Sts := (.cons (.setI (.v 5) (.idx (.v 6) (.k (.int (0)))) (.new 12 (.cons (.idx (.v 6) (.k (.int (1)))) .nil) [] .nil)) .nil)
def b350v5 : Sts := (.cons (.asg 1 (.call 183 (.cons (.v 0) (.cons (.k (.int (0))) (.cons (.k (.int (30))) .nil))) [] .nil)) (.cons (.asg 2 (.slc (.call 224 (.cons (.v 1) (.cons (.k (.int (0))) .nil)) [] .nil) .no_ (.bin .mod (.idx (.v 1) (.k (.int (8)))) (.k (.int (3)))))) (.cons (.asg 3 (.call 164 (.cons (.v 1) (.cons (.k (.int (9))) (.cons (.v 2) .nil))) [] .nil)) (.cons (.asg 4 (.new 12 (.cons (.idx (.v 3) (.k (.int (0)))) .nil) [] .nil)) (.cons (.asg 5 (.dct [] .nil)) (.cons (.for_ (.n 6) (.val (.slc (.idx (.v 3) (.k (.int (1)))) (.k (.int (1))) .no_)) b350v5_4) (.cons (.asg 7 (.new 1 (.cons (.v 4) .nil) [2, 3, 4] (.cons (.v 5) (.cons (.idx (.v 3) (.k (.int (2)))) (.cons (.idx (.v 3) (.k (.int (3)))) .nil))))) (.cons (.ite (.cmp .ne (.bi .len (.cons (.v 5) .nil)) (.bi .len (.cons (.v 2) .nil))) (.cons (.ret (.k (.bl false))) .nil) .nil) (.cons (.setI (.v 5) (.k (.str [122, 122])) (.new 12 .nil [] .nil)) (.cons (.asg 8 (.bi .tuple (.cons (.bi .sorted (.cons (.lc false b350v5_3 [11] (.n 11) (.val (.bin .add (.lst false (.cons (.k (.str [102, 117, 108, 108])) .nil)) (.v 2))) .no_ .nil) .nil)) .nil))) (.cons (.ite (.bool false (.cons (.cmp .ne (.attr (.v 7) 20) (.v 8)) (.cons (.not_ (.bi (.isi .tuple) (.cons (.attr (.v 7) 20) .nil))) (.cons (.cmp .ne (.bi .list (.cons (.attr (.v 7) 15) .nil)) (.idx (.v 3) (.k (.int (0))))) .nil)))) (.cons (.ret (.k (.bl false))) .nil) .nil) (.cons (.ite (.bool false (.cons (.not_ (.call 270 (.cons (.attr (.v 7) 8) (.cons (.idx (.v 3) (.k (.int (2)))) .nil)) [] .nil)) (.cons (.not_ (.call 270 (.cons (.attr (.v 7) 6) (.cons (.idx (.v 3) (.k (.int (3)))) .nil)) [] .nil)) .nil))) (.cons (.ret (.k (.bl false))) .nil) .nil) (.cons (.asg 9 (.new 1 (.cons (.v 4) .nil) [] .nil)) (.cons (.ite (.bool false (.cons (.cmp .ne (.attr (.v 9) 20) (.tup (.cons (.k (.str [102, 117, 108, 108])) .nil))) (.cons (.cmp .isnot (.attr (.v 9) 8) (.k (.bl false))) (.cons (.cmp .isnot (.attr (.v 9) 6) (.k (.bl true))) .nil)))) (.cons (.ret (.k (.bl false))) .nil) .nil) (.cons (.ite (.cmp .ne (.bi .list (.cons (.attr (.v 9) 15) .nil)) (.idx (.v 3) (.k (.int (0))))) (.cons (.ret (.k (.bl false))) .nil) .nil) (.cons (.ite (.bool false (.cons (.cmp .isnot (.attr (.new 1 (.cons (.v 4) .nil) [3] (.cons (.k (.bl true)) .nil)) 6) (.k (.bl true))) (.cons (.cmp .isnot (.attr (.new 1 (.cons (.v 4) .nil) [4] (.cons (.k (.bl false)) .nil)) 8) (.k (.bl false))) .nil))) (.cons (.ret (.k (.bl false))) .nil) .nil) (.cons (.asg 10 (.lst true (.cons (.call 157 (.cons (.idx (.v 1) (.k (.int (24)))) .nil) [] .nil) .nil))) (.cons (.ite (.cmp .eq (.bin .mod (.idx (.v 1) (.k (.int (25)))) (.k (.int (2)))) (.k (.int (0)))) (.cons (.app (.v 10) (.call 157 (.cons (.idx (.v 1) (.k (.int (26)))) .nil) [] .nil)) .nil) .nil) (.cons (.asg 5 (.dct [] .nil)) (.cons (.for_ (.n 11) (.val (.bin .add (.bin .add (.slc (.v 2) .no_ (.k (.int (1)))) (.v 10)) (.slc (.v 2) (.k (.int (1))) .no_))) b350v5_2) (.cons (.ret (.bool true (.cons (.cmp .eq (.call 257 (.cons (.v 4) (.cons (.v 5) .nil)) [] .nil) (.idx (.bi .sorted (.cons (.lc false b350v5_1 [11] (.n 11) (.val (.v 10)) .no_ .nil) .nil)) (.k (.int (0))))) (.cons (.cmp .eq (.attr (.v 7) 20) (.v 8)) .nil)))) .nil)))))))))))))))))))))
def b222_1 : Sts := (.cons (.ite (.cmp .ne (.idx (.v 2) (.k (.int (0)))) (.k (.str [102, 117, 108, 108]))) (.cons (.setI (.v 1) (.idx (.v 2) (.k (.int (0)))) (.new 12 (.cons (.bi .list (.cons (.idx (.v 2) (.k (.int (1)))) .nil)) .nil) [] .nil)) .nil) .nil) .nil)
def b222 : Sts := (.cons (.asg 1 (.dct [] .nil)) (.cons (.for_ (.n 2) (.val (.idx (.v 0) (.k (.int (1))))) b222_1) (.cons (.ret (.new 1 (.cons (.new 12 (.cons (.bi .list (.cons (.idx (.v 0) (.k (.int (0)))) .nil)) .nil) [] .nil) .nil) [2, 3, 4] (.cons (.v 1) (.cons (.idx (.v 0) (.k (.int (2)))) (.cons (.idx (.v 0) (.k (.int (3)))) .nil))))) .nil)))
end Kp.B
set_option autoImplicit false
namespace Kq
open Kp
section
variable {α β : Type}
@[scoped simp] theorem bind_okk (a : α) (h : AH) (f : α → AH → R β) : (R.ok a h).bind f = f a h := rfl
@[scoped simp] theorem bind_no (f : α → AH → R β) : (R.no : R α).bind f = .no := rfl
@[scoped simp] theorem bind_exx (c : Nat) (ks : List Nat) (vs : List T) (h : AH) (f : α → AH → R β) : (R.ex c ks vs h : R α).bind f = .ex c ks vs h := rfl
@[scoped simp] theorem of_some (a : α) (h : AH) : R.of (some a) h = .ok a h := rfl
@[scoped simp] theorem of_none (h : AH) : R.of (none : Option α) h = .no := rfl
@[scoped simp] theorem lift_ok (a : α) (h : AH) (e : Env) (f : α → AH → SR) : liftS (.ok a h) e f = f a h := rfl
@[scoped simp] theorem lift_no (e : Env) (f : α → AH → SR) : liftS (R.no : R α) e f = .no := rfl
@[scoped simp] theorem noEx_ok (a : α) (h : AH) : noEx (.ok a h) = .ok a h := rfl
end
section
variable {α : Type} (h l : List α) (k : Nat) (x : α)
theorem hget : (h ++ l)[h.length + k]? = l[k]? := by rw [List.getElem?_append_right (Nat.le_add_right _ _), Nat.add_sub_cancel_left]
theorem hget0 : (h ++ l)[h.length]? = l[0]? := hget h l 0
theorem hset : (h ++ l).set (h.length + k) x = h ++ l.set k x := by rw [List.set_append_right _ _ (Nat.le_add_right _ _), Nat.add_sub_cancel_left]
theorem hset0 : (h ++ l).set h.length x = h ++ l.set 0 x := hset h l 0 x
theorem htake : (h ++ l).take h.length = h := by rw [List.take_append_of_le_length (Nat.le_refl _), List.take_length]
end
theorem beqTs_refl' : (∀ x : T, beqT x x = true) ∧ ∀ x : List T, beqTs x x = true := by
  have h : ∀ x : T, beqT x x = true := by
    intro x
    induction x using T.rec (motive_2 := fun xs => beqTs xs xs = true) with
    | non => rfl
    | bl b => simp [beqT]
    | int i => simp [beqT]
    | str s => simp [beqT]
    | tup xs ih => simpa [beqT] using ih
    | lst xs ih => simpa [beqT] using ih
    | ro xs ih => simpa [beqT] using ih
    | dct ks vs ih => simp [beqT, ih]
    | ins c ks vs ih => simp [beqT, ih]
    | nil => rfl
    | cons x xs ih1 ih2 => simp [beqTs, ih1, ih2]
  refine ⟨h, fun xs => ?_⟩
  induction xs with
  | nil => rfl
  | cons x xs ih => simp [beqTs, h x, ih]
theorem beqD_rfl (x : D) : beqD x x = true := by cases x <;> simp [beqD, beqTs_refl'.1]
theorem beqDs_rfl : ∀ x : List D, beqDs x x = true
  | [] => rfl
  | x :: xs => by simp [beqDs, beqD_rfl, beqDs_rfl xs]
theorem frzL_t (k : Nat) (ts : List T) (h : AH) : frzL (frz k) (ts.map .t) h = some (ts, h) := by
  induction ts with
  | nil => rfl
  | cons t ts ih => 
    simp only [List.map_cons, frzL]
    have : frz k (.t t) h = some (t, h) := by cases k <;> rfl
    rw [this]; simp [ih]
theorem frzsR_t (ts : List T) (h : AH) : frzsR (ts.map .t) h = .ok ts h := by unfold frzsR; rw [frzL_t]
theorem frzR_t (t : T) (h : AH) : frzR (.t t) h = .ok t h := rfl
theorem frzR_l {n : Nat} {ts : List T} {h : AH} (e : h[n]? = some (.lst (ts.map .t))) : frzR (.r n) h = .ok (.lst ts) (h.set n .dead) := by
  unfold frzR frz
  rw [e]
  simp only [frzL_t]
theorem snapL_t (h : AH) (k : Nat) (ts : List T) : snapL (snap h k) (ts.map .t) = some ts := by
  induction ts with
  | nil => rfl
  | cons t ts ih =>
    simp only [List.map_cons, snapL]
    have : snap h k (.t t) = some t := by cases k <;> rfl
    rw [this]; simp [ih]
theorem snap_t (h : AH) (k : Nat) (t : T) : snap h k (.t t) = some t := by cases k <;> rfl
theorem snap_l {h : AH} {n k : Nat} {ts : List T} (e : h[n]? = some (.lst (ts.map .t))) : snap h (k + 1) (.r n) = some (.lst ts) := by
  unfold snap
  rw [e]
  simp only [snapL_t]
theorem forL_ok {d : D} {all : List D} {f : D → Env → AH → SR} (P : Nat → Env → AH → Prop) :
    ∀ (xs : List D) (i : Nat) (env : Env) (h : AH), P i env h → (∀ j env h, P j env h → still d all h = true) →
      (∀ j x env h, xs[j]? = some x → P (i + j) env h → ∃ env' h', (f x env h = .nx env' h' ∨ f x env h = .ct env' h') ∧ P (i + j + 1) env' h') →
      ∃ env' h', forL d all f xs env h = .nx env' h' ∧ P (i + xs.length) env' h'
  | [], i, env, h, p, _, _ => ⟨env, h, rfl, p⟩
  | x :: xs, i, env, h, p, st, tn => by
    obtain ⟨env1, h1, e, p1⟩ := tn 0 x env h rfl p
    have s1 := st _ _ _ p1
    obtain ⟨env2, h2, e2, p2⟩ := forL_ok P xs (i + 1) env1 h1 p1 st fun j y env h ey py => by
      have := tn (j + 1) y env h (by simpa using ey) (by rw [show i + (j + 1) = i + 1 + j by omega]; exact py)
      rw [show i + (j + 1) + 1 = i + 1 + j + 1 by omega] at this
      exact this
    refine ⟨env2, h2, ?_, by rw [List.length_cons, show i + (xs.length + 1) = i + 1 + xs.length by omega]; exact p2⟩
    rw [forL]
    rcases e with e | e <;> (rw [e]; simp only [s1, if_true]; exact e2)
theorem add_ok (i j : Int) : arith .add i j = some (i + j) := rfl
theorem call_eq {I : Info} {f : Nat} {fd : Fn} (e : I.tbl f = some fd) (n : Nat) (args : List D) (h : AH) (l : args.length = fd.np) : callN I (n + 1) f args h = retS fd.live h.length (evSs I (callN I n) fd.body (start fd.ns args) h) := by
  have q : callN I (n + 1) f args h = (match I.tbl f with | some fd => runF I (callN I n) fd args h | none => .no) := rfl
  rw [q, e]
  dsimp only
  unfold runF
  rw [if_pos l]
section
variable {I : Info} {c : Call} {env : Env} {h : AH}
@[scoped simp] theorem ev_v {i : Nat} : ev I c (.v i) env h = (match env[i]? with | some (some d) => .ok d h | _ => .no) := by rw [ev]; try (cases env[i]? <;> rfl)
@[scoped simp] theorem ev_k {x : T} : ev I c (.k x) env h = .ok (.t x) h := by rw [ev]
@[scoped simp] theorem ev_g {x : Nat} : ev I c (.g x) env h = .ok (.t (I.gcon x)) h := by rw [ev]
@[scoped simp] theorem ev_not {a : Ex} : ev I c (.not_ a) env h = (ev I c a env h).bind fun d h => R.of ((truth h d).map fun b => .t (.bl (!b))) h := by rw [ev]; try rfl
@[scoped simp] theorem ev_neg {a : Ex} : ev I c (.neg a) env h = (ev I c a env h).bind fun d h => match d with
    | .t (.int i) => .ok (.t (.int (-i))) h
    | _ => .no := by rw [ev]; try rfl
@[scoped simp] theorem ev_bin {o : Bop} {a b : Ex} : ev I c (.bin o a b) env h = (ev I c a env h).bind fun x h => (ev I c b env h).bind fun y h => binD I c o x y h := by rw [ev]
@[scoped simp] theorem ev_cmp {o : Cop} {a b : Ex} : ev I c (.cmp o a b) env h = (ev I c a env h).bind fun x h => (ev I c b env h).bind fun y h => cmpD I c o x y h := by rw [ev]
@[scoped simp] theorem ev_bool {o : Bool} {es : Exs} : ev I c (.bool o es) env h = evB I c o es env h := by rw [ev]
@[scoped simp] theorem evB_one {o : Bool} {e : Ex} : evB I c o (.cons e .nil) env h = ev I c e env h := by
  rw [evB]; cases ev I c e env h <;> rfl
@[scoped simp] theorem evB_more {o : Bool} {e f : Ex} {es : Exs} : evB I c o (.cons e (.cons f es)) env h = (ev I c e env h).bind fun x h => match truth h x with
      | some b => if b = o then evB I c o (.cons f es) env h else .ok x h
      | none => .no := by rw [evB]; try rfl
@[scoped simp] theorem or_ite {x y : Bool} : (if x = false then R.ok (D.t (.bl y)) h else R.ok (D.t (.bl x)) h) = R.ok (D.t (.bl (x || y))) h := by cases x <;> rfl
@[scoped simp] theorem and_ite {x y : Bool} : (if x = true then R.ok (D.t (.bl y)) h else R.ok (D.t (.bl x)) h) = R.ok (D.t (.bl (x && y))) h := by cases x <;> rfl
@[scoped simp] theorem ev_attr {a : Ex} {f : Nat} : ev I c (.attr a f) env h = (ev I c a env h).bind fun x h => match clsOf h x with
    | some k => match I.prop k f with
      | some g => noEx (c g [x] h)
      | none => if I.fld k f then R.of (fldOf h x f) h else .no
    | none => .no := by rw [ev]; try rfl
@[scoped simp] theorem ev_idx {a b : Ex} : ev I c (.idx a b) env h = (ev I c a env h).bind fun x h => (ev I c b env h).bind fun y h => idxD I c x y h := by rw [ev]
@[scoped simp] theorem ev_slc {a lo hi : Ex} : ev I c (.slc a lo hi) env h = (ev I c a env h).bind fun x h => (ev I c lo env h).bind fun y h => if (oInt y).isSome then (ev I c hi env h).bind fun z h => slcD x y z h else .no := by rw [ev]
@[scoped simp] theorem ev_no : ev I c .no_ env h = .ok (.t .non) h := by rw [ev]
@[scoped simp] theorem ev_bad : ev I c .bad env h = .no := by rw [ev]
@[scoped simp] theorem ev_tup {es : Exs} : ev I c (.tup es) env h = (evs I c es env h).bind fun ds h => (frzsR ds h).bind fun ts h => .ok (.t (.tup ts)) h := by rw [ev]
@[scoped simp] theorem ev_lstL {es : Exs} : ev I c (.lst true es) env h = (evs I c es env h).bind fun ds h => .ok (.r h.length) (h ++ [.lst ds]) := by rw [ev]; try rfl
@[scoped simp] theorem ev_lstT {es : Exs} : ev I c (.lst false es) env h = (evs I c es env h).bind fun ds h => (frzsR ds h).bind fun ts h => .ok (.t (.lst ts)) h := by rw [ev]; try rfl
@[scoped simp] theorem ev_bi {b : Bi} {es : Exs} : ev I c (.bi b es) env h = (evs I c es env h).bind fun ds h => biD I c b ds h := by rw [ev]
@[scoped simp] theorem ev_call {f : Nat} {es kes : Exs} {kns : List Nat} : ev I c (.call f es kns kes) env h = (evs I c es env h).bind fun ds h => (evs I c kes env h).bind fun ks h => callD I c f ds kns ks h := by rw [ev]
@[scoped simp] theorem ev_meth {m : Nat} {o : Ex} {es kes : Exs} {kns : List Nat} : ev I c (.meth m o es kns kes) env h = (ev I c o env h).bind fun x h => match own1 I h x m with
    | some f => (evs I c es env h).bind fun ds h => (evs I c kes env h).bind fun ks h => callD I c f (x :: ds) kns ks h
    | none => .no := by rw [ev]; try rfl
@[scoped simp] theorem ev_new {k : Nat} {es kes : Exs} {kns : List Nat} : ev I c (.new k es kns kes) env h = (evs I c es env h).bind fun ds h => (evs I c kes env h).bind fun ks h => newD I c k ds kns ks h := by rw [ev]
@[scoped simp] theorem evs_nil : evs I c .nil env h = .ok [] h := by rw [evs]
@[scoped simp] theorem evs_cons {e : Ex} {es : Exs} : evs I c (.cons e es) env h = (ev I c e env h).bind fun d h => (evs I c es env h).bind fun ds h => .ok (d :: ds) h := by rw [evs]
@[scoped simp] theorem evI_val {e : Ex} : evI I c (.val e) env h = (ev I c e env h).bind fun d h => R.of (walkOf I h d) h := by rw [evI]
def rngR (d : D) (h : AH) : R (D × List D) := match d with
    | .t (.int i) => if rngOk i then .ok (.t .non, rng 0 i) h else .no
    | _ => .no
def rngR2 (x y : D) (h : AH) : R (D × List D) := match x, y with
    | .t (.int i), .t (.int j) => if rngOk i && rngOk j then .ok (.t .non, rng i j) h else .no
    | _, _ => .no
@[scoped simp] theorem rngR_ok {i : Int} (r : rngOk i = true) : rngR (.t (.int i)) h = .ok (.t .non, rng 0 i) h := by
  unfold rngR; dsimp only; rw [if_pos r]
@[scoped simp] theorem rngR2_ok {i j : Int} (r : rngOk i = true) (q : rngOk j = true) : rngR2 (.t (.int i)) (.t (.int j)) h = .ok (.t .non, rng i j) h := by
  unfold rngR2; dsimp only; rw [r, q]; rfl
@[scoped simp] theorem evI_rng1 {e : Ex} : evI I c (.rng1 e) env h = (ev I c e env h).bind rngR := by rw [evI]; try rfl
@[scoped simp] theorem evI_rng2 {a b : Ex} : evI I c (.rng2 a b) env h = (ev I c a env h).bind fun x h => (ev I c b env h).bind fun y h => rngR2 x y h := by rw [evI]; try rfl
@[scoped simp] theorem evSs_nil : evSs I c .nil env h = .nx env h := by rw [evSs]
theorem evSs_cons {s : St} {r : Sts} : evSs I c (.cons s r) env h = (match evS I c s env h with
    | .nx env h => evSs I c r env h
    | .rt d h => .rt d h
    | .ct env h => .ct env h
    | .ex c ks vs env h => .ex c ks vs env h
    | .no => .no) := by rw [evSs]; try (cases evS I c s env h <;> rfl)
@[scoped simp] theorem evS_asg {i : Nat} {e : Ex} : evS I c (.asg i e) env h = liftS (ev I c e env h) env fun d h => .nx (env.set i (some d)) h := by rw [evS]
@[scoped simp] theorem evS_app {o e : Ex} : evS I c (.app o e) env h = liftS (ev I c o env h) env fun x h => if lstRef h x then liftS (ev I c e env h) env fun d h => liftS (appD x d h) env fun _ h => .nx env h else .no := by rw [evS]
@[scoped simp] theorem evS_expr {e : Ex} : evS I c (.expr e) env h = liftS (ev I c e env h) env fun _ h => .nx env h := by rw [evS]
@[scoped simp] theorem evS_ite {e : Ex} {a b : Sts} : evS I c (.ite e a b) env h = liftS (ev I c e env h) env fun d h => match truth h d with
    | some true => evSs I c a env h
    | some false => evSs I c b env h
    | none => .no := by rw [evS]; try rfl
@[scoped simp] theorem evS_for {tg : Tg} {it : It} {b : Sts} : evS I c (.for_ tg it b) env h = liftS (evI I c it env h) env fun p h => forL p.1 p.2 (turn tg fun env h => evSs I c b env h) p.2 env h := by rw [evS]
@[scoped simp] theorem evS_ret {e : Ex} : evS I c (.ret e) env h = liftS (ev I c e env h) env fun d h => .rt d h := by rw [evS]
@[scoped simp] theorem evS_retN : evS I c .retN env h = .rt (.t .non) h := by rw [evS]
@[scoped simp] theorem evS_bad : evS I c .bad env h = .no := by rw [evS]
@[scoped simp] theorem evS_setA {o e : Ex} {f : Nat} : evS I c (.setA o f e) env h = liftS (ev I c e env h) env fun d h => liftS (ev I c o env h) env fun x h => liftS (setAD I x f d h) env fun _ h => .nx env h := by rw [evS]
@[scoped simp] theorem evS_asgT {is : List Nat} {e : Ex} : evS I c (.asgT is e) env h = liftS (ev I c e env h) env fun d h => match (Tg.ns is).set d h env with
    | some env => .nx env h
    | none => .no := by rw [evS]; try rfl
end
section
variable {I : Info} {c : Call} {h : AH} {i j : Int}
@[scoped simp] theorem truth_bl {b : Bool} : truth h (.t (.bl b)) = some b := rfl
@[scoped simp] theorem bD_eq {b : Bool} : bD b = .t (.bl b) := rfl
@[scoped simp] theorem bin_add : binD I c .add (.t (.int i)) (.t (.int j)) h = .ok (.t (.int (i + j))) h := rfl
@[scoped simp] theorem bin_sub : binD I c .sub (.t (.int i)) (.t (.int j)) h = .ok (.t (.int (i - j))) h := rfl
theorem bin_mul (q : -(2 ^ 64) < i ∧ i < 2 ^ 64) : binD I c .mul (.t (.int i)) (.t (.int j)) h = .ok (.t (.int (i * j))) h := by
  unfold binD arith; simp only [int2]; rw [if_pos (decide_eq_true q)]; rfl
theorem bin_mod (q : j ≠ 0) : binD I c .mod (.t (.int i)) (.t (.int j)) h = .ok (.t (.int (i.fmod j))) h := by
  unfold binD arith; simp only [int2]; rw [if_pos (decide_eq_true q)]; rfl
theorem bin_fdiv (q : j ≠ 0 ∧ j.natAbs < 1073741824) : binD I c .fdiv (.t (.int i)) (.t (.int j)) h = .ok (.t (.int (i.fdiv j))) h := by
  unfold binD arith; simp only [int2]; rw [if_pos (decide_eq_true q)]; rfl
theorem bin_pow (q : 0 ≤ j ∧ j ≤ 1000 ∧ i.natAbs < 2 ^ 64) : binD I c .pow (.t (.int i)) (.t (.int j)) h = .ok (.t (.int (i ^ j.toNat))) h := by
  unfold binD arith; simp only [int2]; rw [if_pos (decide_eq_true q)]; rfl
@[scoped simp] theorem cmp_lt : cmpD I c .lt (.t (.int i)) (.t (.int j)) h = .ok (.t (.bl (decide (i < j)))) h := rfl
@[scoped simp] theorem cmp_le : cmpD I c .le (.t (.int i)) (.t (.int j)) h = .ok (.t (.bl (decide (i ≤ j)))) h := rfl
@[scoped simp] theorem cmp_gt : cmpD I c .gt (.t (.int i)) (.t (.int j)) h = .ok (.t (.bl (decide (j < i)))) h := rfl
@[scoped simp] theorem cmp_ge : cmpD I c .ge (.t (.int i)) (.t (.int j)) h = .ok (.t (.bl (decide (j ≤ i)))) h := rfl
@[scoped simp] theorem bi_intI : biD I c .int [.t (.int i)] h = .ok (.t (.int i)) h := rfl
@[scoped simp] theorem bi_intB {b : Bool} : biD I c .int [.t (.bl b)] h = .ok (.t (.int (b2i b))) h := rfl
@[scoped simp] theorem bi_abs : biD I c .abs [.t (.int i)] h = .ok (.t (.int (if i < 0 then -i else i))) h := rfl
theorem cmp_isin {x y : D} : cmpD I c .isin x y h = (inD I c x y h).bind fun b h => .ok (.t (.bl b)) h := rfl
theorem cmp_notin {x y : D} : cmpD I c .notin x y h = (inD I c x y h).bind fun b h => .ok (.t (.bl (!b))) h := rfl
def noIns : T → Bool
  | .ins _ _ _ => false
  | _ => true
theorem cls_no {t : T} (q : noIns t = true) : clsOf h (.t t) = none := by cases t <;> first | rfl | cases q
theorem cls_lst {n : Nat} {ds : List D} (e : h[n]? = some (.lst ds)) : clsOf h (.r n) = none := by simp only [clsOf, e]
theorem own1_no {x : D} {m : Nat} (e : clsOf h x = none) : own1 I h x m = none := by unfold own1; rw [e]
theorem own2_no {x y : D} {m : Nat} (e : clsOf h x = none) : own2 I h x y m = none := by unfold own2 cls2; rw [e]
theorem own2_no' {x y : D} {m : Nat} (e : clsOf h y = none) : own2 I h x y m = none := by unfold own2 cls2; rw [e]; cases clsOf h x <;> rfl
theorem eq_val {x y : D} {a b : T} (n : clsOf h x = none) (e1 : snap h 4 x = some a) (e2 : snap h 4 y = some b) (p1 : plain deep a = true) (p2 : plain deep b = true) : cmpD I c .eq x y h = .ok (.t (.bl (eqT a b))) h := by
  unfold cmpD eqD
  dsimp only
  rw [own2_no n, e1, e2]
  dsimp only
  rw [p1, p2]; rfl
theorem ne_val {x y : D} {a b : T} (n : clsOf h x = none) (e1 : snap h 4 x = some a) (e2 : snap h 4 y = some b) (p1 : plain deep a = true) (p2 : plain deep b = true) : cmpD I c .ne x y h = .ok (.t (.bl (!eqT a b))) h := by
  unfold cmpD eqD
  dsimp only
  rw [own2_no n, e1, e2]
  dsimp only
  rw [p1, p2]; rfl
theorem in_val {x y : D} {a b : T} {ts : List T} (n : clsOf h y = none) (ns : strOf y = none) (nd : dctOf h y = none) (e1 : snap h 3 x = some a) (e2 : snap h 4 y = some b) (e3 : seqT b = some ts) (p1 : plain deep a = true) (p2 : ts.all (plain deep) = true) :
    inD I c x y h = .ok (ts.any fun z => eqT z a) h := by
  unfold inD
  rw [own1_no n, ns, nd, e1, e2]
  dsimp only
  rw [e3]
  dsimp only
  rw [p1, p2]; rfl
theorem app_l {n : Nat} {ds : List D} {t : T} (e : h[n]? = some (.lst ds)) (l : ds.length < sizeMax) : appD (.r n) (.t t) h = .ok () (h.set n (.lst (ds ++ [.t t]))) := by
  unfold appD
  rw [frzR_t]
  show (match h[n]? with
      | some (.lst ds) => if ds.length < sizeMax then R.ok () (h.set n (.lst (ds ++ [D.t t]))) else .no
      | _ => .no) = _
  rw [e]
  dsimp only
  rw [if_pos l]
theorem lstRef_l {n : Nat} {ds : List D} (e : h[n]? = some (.lst ds)) : lstRef h (.r n) = true := by simp only [lstRef, e]
theorem lstOf_l {n : Nat} {ds : List D} (e : h[n]? = some (.lst ds)) : lstOf h (.r n) = some ds := by simp only [lstOf, e]
end
section
variable {I : Info} {c : Call} {h : AH}
theorem bi_len_seq {x : D} {ds : List D} (n : clsOf h x = none) (e : seqOf h x = some ds) : biD I c .len [x] h = .ok (.t (.int ds.length)) h := by
  have : biD I c .len [x] h = lenD I c x h := rfl
  rw [this]
  unfold lenD
  rw [own1_no n]
  dsimp only
  rw [e]
theorem idx_seq {x : D} {ds : List D} {i : Int} {m : Nat} {d : D} (n : clsOf h x = none) (nd : dctOf h x = none) (e : seqOf h x = some ds) (p : place ds.length i = some m) (q : ds[m]? = some d) : idxD I c x (.t (.int i)) h = .ok d h := by
  unfold idxD
  rw [own1_no n, nd]
  show (match seqOf h x with
        | some ds => match place ds.length i with
          | some n => R.of ds[n]? h
          | none => .no
        | none => _) = _
  rw [e]
  dsimp only
  rw [p]
  dsimp only
  rw [q]; rfl
theorem place_ok {n : Nat} {i : Int} (a : 0 ≤ i) (b : i < n) : place n i = some i.toNat := by
  unfold place; rw [if_pos a, if_pos b]
theorem ret_lk {l : AH} {k : Nat} {ts : List T} (e : l[k]? = some (.lst (ts.map .t))) : retS false h.length (.rt (.r (h.length + k)) (h ++ l)) = .ok (.t (.lst ts)) h := by
  unfold retS retV
  dsimp only
  rw [if_neg (by omega)]
  simp only [Bool.false_eq_true, if_false]
  rw [frzR_l (ts := ts) (by rw [hget]; exact e)]
  simp only [bind_okk, hset, htake]
theorem ret_l {ts : List T} : retS false h.length (.rt (.r h.length) (h ++ [.lst (ts.map .t)])) = .ok (.t (.lst ts)) h := ret_lk (k := 0) rfl
theorem ret_t {lv : Bool} {t : T} {l : AH} : retS lv h.length (.rt (.t t) (h ++ l)) = .ok (.t t) h := by
  unfold retS retV; dsimp only; rw [htake]
theorem ret_t0 {lv : Bool} {t : T} : retS lv h.length (.rt (.t t) h) = .ok (.t t) h := by
  have := ret_t (lv := lv) (t := t) (h := h) (l := [])
  rwa [List.append_nil] at this
theorem rng_get {a b : Int} {j : Nat} {x : D} (e : (rng a b)[j]? = some x) : x = .t (.int (a + j)) ∧ (j : Int) < b - a := by
  unfold rng at e
  rw [List.getElem?_map] at e
  cases q : (List.range (b - a).toNat)[j]? with
  | none => rw [q] at e; cases e
  | some m =>
    rw [q] at e
    obtain ⟨lt, em⟩ := List.getElem?_eq_some_iff.mp q
    simp at em lt
    cases e
    subst em
    exact ⟨rfl, by omega⟩
theorem rng_len {a b : Int} : (rng a b).length = (b - a).toNat := by simp [rng]
theorem still_t {t : T} {ds : List D} : still (.t t) ds h = true := rfl
theorem still_l {n : Nat} {ds : List D} (e : h[n]? = some (.lst ds)) : still (.r n) ds h = true := by simp only [still, e]; exact beqDs_rfl ds
end
section
variable {I : Info} {c : Call} {h : AH} {env : Env}
def lcF (I : Info) (c : Call) (elt : Ex) (own : List Nat) (tg : Tg) (cond : Ex) (env : Env) : D → AH → R (List D) :=
  clause [] tg (wipe env own) (fun env h => if isNo cond then .ok true h else (ev I c cond env h).bind fun d h => R.of (truth h d) h) (fun env h => (ev I c elt env h).bind fun d h => .ok [d] h)
theorem evG_nil {leaf : Env → AH → R (List D)} : evG I c .nil leaf env h = leaf env h := by rw [evG]
theorem ev_lc {live : Bool} {elt : Ex} {own : List Nat} {tg : Tg} {it : It} {cond : Ex} : ev I c (.lc live elt own tg it cond .nil) env h = (evI I c it env h).bind fun p h => (noEx (loopR (still p.1 p.2) (lcF I c elt own tg cond env) p.2 h)).bind fun ds h =>
    if ds.length < sizeMax then (if live then .ok (.r h.length) (h ++ [.lst ds]) else (frzsR ds h).bind fun ts h => .ok (.t (.lst ts)) h) else .no := by
  rw [ev]
  unfold lcF
  simp only [evG_nil]
theorem loopR_ok {k : AH → Bool} {f : D → AH → R (List D)} {g : D → List D} (hk : k h = true) : ∀ {xs : List D}, (∀ x ∈ xs, f x h = .ok (g x) h) → loopR k f xs h = .ok (xs.flatMap g) h
  | [], _ => rfl
  | x :: xs, q => by
    rw [loopR, q x (List.mem_cons_self ..)]
    simp only [bind_okk, hk, if_true]
    rw [loopR_ok hk fun y hy => q y (List.mem_cons_of_mem _ hy)]
    rfl
theorem lc_filter {elt : Ex} {own : List Nat} {tg : Tg} {it : It} {cond : Ex} {d : D} {ts : List T} {p : T → Bool} {g : T → T} (hit : evI I c it env h = .ok (d, ts.map .t) h) (hs : still d (ts.map .t) h = true) (hl : ts.length < sizeMax)
    (hf : ∀ x ∈ ts, lcF I c elt own tg cond env (.t x) h = .ok (if p x then [.t (g x)] else []) h) : ev I c (.lc false elt own tg it cond .nil) env h = .ok (.t (.lst ((ts.filter p).map g))) h := by
  rw [ev_lc, hit]
  simp only [bind_okk]
  rw [loopR_ok (g := fun x => match x with | .t x => if p x then [.t (g x)] else [] | _ => []) hs (fun x hx => by
    obtain ⟨y, hy, rfl⟩ := List.mem_map.mp hx
    exact hf y hy)]
  have e : (ts.map D.t).flatMap (fun x => match x with | .t x => if p x then [D.t (g x)] else [] | _ => []) = ((ts.filter p).map g).map .t := by
    clear hit hs hl hf
    induction ts with
    | nil => rfl
    | cons t ts ih =>
      rw [List.map_cons, List.flatMap_cons, ih, List.filter_cons]
      cases q : p t <;> simp [q]
  simp only [noEx_ok, bind_okk]
  rw [e]
  have l := List.length_filter_le p ts
  rw [if_pos (by simp only [List.length_map]; omega)]
  simp only [Bool.false_eq_true, if_false]
  rw [frzsR_t]
  rfl
theorem lc_filterL {elt : Ex} {own : List Nat} {tg : Tg} {it : It} {cond : Ex} {d : D} {ts : List T} {p : T → Bool} {g : T → T} (hit : evI I c it env h = .ok (d, ts.map .t) h) (hs : still d (ts.map .t) h = true) (hl : ts.length < sizeMax)
    (hf : ∀ x ∈ ts, lcF I c elt own tg cond env (.t x) h = .ok (if p x then [.t (g x)] else []) h) : ev I c (.lc true elt own tg it cond .nil) env h = .ok (.r h.length) (h ++ [.lst (((ts.filter p).map g).map .t)]) := by
  rw [ev_lc, hit]
  simp only [bind_okk]
  rw [loopR_ok (g := fun x => match x with | .t x => if p x then [.t (g x)] else [] | _ => []) hs (fun x hx => by
    obtain ⟨y, hy, rfl⟩ := List.mem_map.mp hx
    exact hf y hy)]
  have e : (ts.map D.t).flatMap (fun x => match x with | .t x => if p x then [D.t (g x)] else [] | _ => []) = ((ts.filter p).map g).map .t := by
    clear hit hs hl hf
    induction ts with
    | nil => rfl
    | cons t ts ih =>
      rw [List.map_cons, List.flatMap_cons, ih, List.filter_cons]
      cases q : p t <;> simp [q]
  simp only [noEx_ok, bind_okk]
  rw [e]
  have l := List.length_filter_le p ts
  rw [if_pos (by simp only [List.length_map]; omega)]
  rfl
theorem bi_list {x : D} {ts : List T} (n : biOk I h .list x = true) (e : itemsOf I h x = some (ts.map .t)) : biD I c .list [x] h = .ok (.t (.lst ts)) h := by
  have q : biD I c .list [x] h = if biOk I h .list x then biD0 I c .list [x] h else .no := rfl
  rw [q, n]
  simp only [if_true]
  unfold biD0
  dsimp only
  rw [e]
  simp only [frzLst, frzsR_t, bind_okk]
theorem bi_listL {x : D} {ts : List T} (n : biOk I h .listL x = true) (e : itemsOf I h x = some (ts.map .t)) : biD I c .listL [x] h = .ok (.r h.length) (h ++ [.lst (ts.map .t)]) := by
  have q : biD I c .listL [x] h = if biOk I h .listL x then biD0 I c .listL [x] h else .no := rfl
  rw [q, n]
  simp only [if_true]
  unfold biD0
  dsimp only
  rw [e]
  simp only [frzsR_t, bind_okk]
end
end Kq
set_option autoImplicit false
set_option maxRecDepth 100000
namespace Kq
open Kp
open Kp.B
section
variable {I : Info} {c : Call}
def iD (i : Int) : D := .t (.int i)
@[scoped simp] theorem iD_eq {i : Int} : iD i = .t (.int i) := rfl
theorem iD_fun : iD = D.t ∘ T.int := rfl
def turn183 (I : Info) (c : Call) : D → Env → AH → SR := turn (.n 8) fun env h => evSs I c b183_1 env h
theorem turn183_ok (a b0 b1 b2 : Option D) (num mixed j : Int) (great : Bool) (z : Option D) (h : AH) (ds : List Int) (hm : -(2 ^ 40) < mixed ∧ mixed < 2 ^ 40) (hl : ds.length < 1000) :
    ∃ num' mixed' d, 0 ≤ d ∧ d < 1000 ∧ (-(2 ^ 40) < mixed' ∧ mixed' < 2 ^ 40) ∧ turn183 I c (.t (.int j)) [a, b0, b1, b2, some (.t (.int num)), some (.t (.bl great)), some (.t (.int mixed)), some (.r h.length), z] (h ++ [.lst (ds.map iD)]) =
      .nx [a, b0, b1, b2, some (.t (.int num')), some (.t (.bl great)), some (.t (.int mixed')), some (.r h.length), some (.t (.int j))] (h ++ [.lst ((ds ++ [d]).map iD)]) := by
  have len : (ds.map iD).length < sizeMax := by simp [sizeMax]; omega
  have g0 := hget0 h [Ob.lst (ds.map iD)]
  have la := lstRef_l g0
  have ap := fun t => app_l (t := t) g0 len
  have k48 : binD I c .mul (.t (.int mixed)) (.t (.int 48271)) = fun h => .ok (.t (.int (mixed * 48271))) h := funext fun h => bin_mul (by omega)
  have k69 : binD I c .mul (.t (.int 69621)) (.t (.int j)) = fun h => .ok (.t (.int (69621 * j))) h := funext fun h => bin_mul (by omega)
  by_cases hg : great = true ∧ 0 < num
  · refine ⟨num.fdiv 1000, mixed, num.fmod 1000, Int.fmod_nonneg_of_pos _ (by decide), Int.fmod_lt_of_pos _ (by decide), hm, ?_⟩
    obtain ⟨rfl, hn⟩ := hg
    simp [turn183, b183_1, turn, Tg.set, evSs_cons, hn, la, ap, bin_mod, bin_fdiv]
  · have m0 := Int.fmod_nonneg_of_pos (mixed * 48271 + 69621 * j) (show (0 : Int) < 2147483647 by decide)
    have m1 := Int.fmod_lt_of_pos (mixed * 48271 + 69621 * j) (show (0 : Int) < 2147483647 by decide)
    refine ⟨num, (mixed * 48271 + 69621 * j).fmod 2147483647, (((mixed * 48271 + 69621 * j).fmod 2147483647).fdiv 11).fmod 1000, Int.fmod_nonneg_of_pos _ (by decide), Int.fmod_lt_of_pos _ (by decide), ⟨by omega, by omega⟩, ?_⟩
    cases great with
    | false => simp [turn183, b183_1, turn, Tg.set, evSs_cons, la, ap, bin_mod, bin_fdiv, k48, k69]
    | true =>
      have hn : ¬ 0 < num := fun z => hg ⟨rfl, z⟩
      simp [turn183, b183_1, turn, Tg.set, evSs_cons, hn, la, ap, bin_mod, bin_fdiv, k48, k69]
def St183 (a b0 b1 b2 : Option D) (great : Bool) (h : AH) (i : Nat) (env : Env) (h' : AH) : Prop :=
  ∃ (num mixed : Int) (ds : List Int) (z : Option D), ds.length = i ∧ (∀ d ∈ ds, 0 ≤ d ∧ d < 1000) ∧ (-(2 ^ 40) < mixed ∧ mixed < 2 ^ 40) ∧
    env = [a, b0, b1, b2, some (.t (.int num)), some (.t (.bl great)), some (.t (.int mixed)), some (.r h.length), z] ∧ h' = h ++ [.lst (ds.map iD)]
theorem loop183 (a b0 b1 b2 : Option D) (num mixed : Int) (great : Bool) (h : AH) (count : Int) (hc : 0 ≤ count ∧ count ≤ 900) (hm : -(2 ^ 40) < mixed ∧ mixed < 2 ^ 40) :
    ∃ env' h', forL (.t .non) (rng 0 count) (turn183 I c) (rng 0 count) [a, b0, b1, b2, some (.t (.int num)), some (.t (.bl great)), some (.t (.int mixed)), some (.r h.length), none] (h ++ [Ob.lst []]) = .nx env' h' ∧ St183 a b0 b1 b2 great h (0 + (rng 0 count).length) env' h' := by
  refine forL_ok (St183 a b0 b1 b2 great h) _ 0 _ _ ⟨num, mixed, [], none, rfl, (fun d hd => by cases hd), hm, rfl, rfl⟩ (fun _ _ _ _ => rfl) ?_
  rintro j x env h' ex ⟨nu, mi, ds, z, q1, q2, q3, rfl, rfl⟩
  obtain ⟨rfl, hj⟩ := rng_get ex
  obtain ⟨nu', mi', d, t1, t2, t3, t4⟩ := turn183_ok (I := I) (c := c) a b0 b1 b2 nu mi (0 + j) great z h ds q3 (by omega)
  refine ⟨_, _, .inl t4, nu', mi', ds ++ [d], _, by simp [q1], fun y hy => ?_, t3, rfl, rfl⟩
  rcases List.mem_append.mp hy with hy | hy
  · exact q2 y hy
  · rw [List.mem_singleton.mp hy]; exact ⟨t1, t2⟩
theorem draws_ev (ns : List Int) (k count : Int) (hk : 0 ≤ k ∧ k ≤ 1000) (hc : 0 ≤ count ∧ count ≤ 900) (h : AH) (n : Nat) :
    ∃ ds : List Int, ds.length = count.toNat ∧ (∀ d ∈ ds, 0 ≤ d ∧ d < 1000) ∧ evSs I (callN I n) b183 (start 9 [.t (.ro (ns.map T.int)), .t (.int k), .t (.int count)]) h = .rt (.r h.length) (h ++ [.lst ((ds.map T.int).map .t)]) := by
  have hn : clsOf h (.t (.ro (ns.map T.int))) = none := rfl
  have hs : seqOf h (.t (.ro (ns.map T.int))) = some (ns.map fun i => D.t (.int i)) := by simp [seqOf]
  have hlen := bi_len_seq (I := I) (c := callN I n) hn hs
  obtain ⟨cell, hcell⟩ : ∃ cell : Int, evSs I (callN I n) b183 (start 9 [.t (.ro (ns.map T.int)), .t (.int k), .t (.int count)]) h =
      evSs I (callN I n) (match b183 with | .cons _ (.cons _ r) => r | _ => .nil) [some (.t (.ro (ns.map T.int))), some (.t (.int k)), some (.t (.int count)), some (.t (.int cell)), none, none, none, none, none] h := by
    by_cases hlt : k < ns.length
    · have hp : place (ns.map fun i => D.t (.int i)).length k = some k.toNat := place_ok hk.1 (by simpa using hlt)
      have hlt2 : k.toNat < ns.length := by omega
      have hidx := idx_seq (I := I) (c := callN I n) (m := k.toNat) (d := .t (.int ns[k.toNat])) hn rfl hs hp (by simp [hlt2])
      refine ⟨ns[k.toNat], ?_⟩
      simp [b183, start, evSs_cons, hlen, hlt, hidx]
    · refine ⟨0, ?_⟩
      simp [b183, start, evSs_cons, hlen, hlt]
  rw [hcell]
  clear hcell
  generalize hnum : (2 * (if cell < 0 then -cell else cell) + b2i (decide (cell < 0))) = num
  have m0 := Int.fmod_nonneg_of_pos num (show (0 : Int) < 2147483629 by decide)
  have m1 := Int.fmod_lt_of_pos num (show (0 : Int) < 2147483629 by decide)
  obtain ⟨env', h', e1, num', mixed', ds, z, l1, l2, l3, rfl, rfl⟩ := loop183 (I := I) (c := callN I n) (some (.t (.ro (ns.map T.int)))) (some (.t (.int k))) (some (.t (.int count))) (some (.t (.int cell))) num (num.fmod 2147483629 + 7919 * k + 1) (decide (2000000000000000000 ≤ num)) h count hc (by omega)
  refine ⟨ds, by rw [l1, rng_len]; simp, l2, ?_⟩
  rw [rng_len] at l1
  unfold turn183 at e1
  subst hnum
  have k2 : ∀ x : Int, binD I (callN I n) .mul (.t (.int 2)) (.t (.int x)) = fun h => .ok (.t (.int (2 * x))) h := fun x => funext fun h => bin_mul (by decide)
  have k79 : binD I (callN I n) .mul (.t (.int 7919)) (.t (.int k)) = fun h => .ok (.t (.int (7919 * k))) h := funext fun h => bin_mul (by omega)
  have kp : binD I (callN I n) .pow (.t (.int 10)) (.t (.int 18)) = fun h => .ok (.t (.int (10 ^ 18))) h := funext fun h => bin_pow (by decide)
  have hr : rngOk count = true := decide_eq_true (by omega)
  simp [b183, evSs_cons, bin_mod, k2, k79, kp, hr, e1, iD_fun]
theorem draws_ok (hI : I.tbl 183 = some ⟨3, 3, 9, false, b183⟩) (ns : List Int) (k count : Int) (hk : 0 ≤ k ∧ k ≤ 1000) (hc : 0 ≤ count ∧ count ≤ 900) (h : AH) (n : Nat) :
    ∃ ds : List Int, ds.length = count.toNat ∧ (∀ d ∈ ds, 0 ≤ d ∧ d < 1000) ∧ callN I (n + 1) 183 [.t (.ro (ns.map T.int)), .t (.int k), .t (.int count)] h = .ok (.t (.lst (ds.map .int))) h := by
  obtain ⟨ds, a, b, e⟩ := draws_ev (I := I) ns k count hk hc h n
  refine ⟨ds, a, b, ?_⟩
  rw [call_eq hI n _ h rfl]
  show retS false h.length (evSs I (callN I n) b183 (start 9 _) h) = _
  rw [e]
  exact ret_l
theorem draws_okL (hI : I.tbl 5183 = some ⟨3, 3, 9, true, b183⟩) (ns : List Int) (k count : Int) (hk : 0 ≤ k ∧ k ≤ 1000) (hc : 0 ≤ count ∧ count ≤ 900) (h : AH) (n : Nat) :
    ∃ ds : List Int, ds.length = count.toNat ∧ (∀ d ∈ ds, 0 ≤ d ∧ d < 1000) ∧ callN I (n + 1) 5183 [.t (.ro (ns.map T.int)), .t (.int k), .t (.int count)] h = .ok (.r h.length) (h ++ [.lst ((ds.map T.int).map .t)]) := by
  obtain ⟨ds, a, b, e⟩ := draws_ev (I := I) ns k count hk hc h n
  refine ⟨ds, a, b, ?_⟩
  rw [call_eq hI n _ h rfl]
  show retS true h.length (evSs I (callN I n) b183 (start 9 _) h) = _
  rw [e]
  unfold retS retV
  dsimp only
  rw [if_neg (by omega), if_pos rfl, hget0]
  simp only [List.getElem?_cons_zero]
  rw [frzsR_t]
  simp only [bind_okk, lives, hget0, List.getElem?_cons_zero, if_true, htake]
end
end Kq
set_option autoImplicit false
set_option maxRecDepth 100000
namespace Kq
open Kp
open Kp.B
def sR : List Nat := [114, 101, 97, 100]
def sA : List Nat := [97, 99, 113, 117, 105, 114, 101]
def sW : List Nat := [119, 114, 105, 116, 101]
def sL : List Nat := [114, 101, 108, 101, 97, 115, 101]
def kds : List (List Nat) := [sR, sA, sW, sL]
def kindsT : T := .tup (kds.map .str)
def pr (a b : List Nat) : T := .tup [.str a, .str b]
def all16 : List T := kds.flatMap fun a => kds.map (pr a)
theorem mem16 {g : T} (h : g ∈ all16) : ∃ a ∈ kds, ∃ b ∈ kds, g = pr a b := by
  obtain ⟨a, ha, h⟩ := List.mem_flatMap.mp h
  obtain ⟨b, hb, rfl⟩ := List.mem_map.mp h
  exact ⟨a, ha, b, hb, rfl⟩
def Wk (h : AH) (d : D) (ts : List T) : Prop := d = .t (.lst ts) ∨ d = .t (.tup ts) ∨ ∃ m, d = .r m ∧ h[m]? = some (.lst (ts.map .t))
theorem Wk.app {h : AH} {d : D} {ts : List T} (w : Wk h d ts) (l : AH) : Wk (h ++ l) d ts := by
  rcases w with w | w | ⟨m, e, q⟩
  · exact .inl w
  · exact .inr (.inl w)
  · exact .inr (.inr ⟨m, e, by rw [List.getElem?_append_left (List.getElem?_eq_some_iff.mp q).1]; exact q⟩)
theorem Wk.walk {I : Info} {h : AH} {d : D} {ts : List T} (w : Wk h d ts) : walkOf I h d = some (d, ts.map .t) := by
  rcases w with rfl | rfl | ⟨m, rfl, q⟩
  · rfl
  · rfl
  · unfold walkOf; rw [lstOf_l q]
theorem Wk.still {h : AH} {d : D} {ts : List T} (w : Wk h d ts) : Kp.still d (ts.map .t) h = true := by
  rcases w with rfl | rfl | ⟨m, rfl, q⟩
  · rfl
  · rfl
  · exact still_l q
structure HasP (I : Info) : Prop where
  t344 : I.tbl 344 = some ⟨1, 1, 1, false, b344⟩
  t123 : I.tbl 123 = some ⟨2, 2, 7, false, b123⟩
  kinds : I.gcon 2 = kindsT
  init : I.init 12 = some 123
  live : I.liveC 12 = false
  iter : I.iter 12 = some 32
  fld : I.fld 12 32 = true
  prop : I.prop 12 32 = none
  dflt : I.dflt 123 1 = some (.tup [])
  t126 : I.tbl 126 = some ⟨1, 1, 1, false, b126⟩
  t121 : I.tbl 121 = some ⟨2, 2, 2, false, b121⟩
  m1 : I.meth 12 1 = some 121
  m2 : I.meth 12 2 = some 126
section
variable {I : Info}
theorem kd_any {a : List Nat} (ha : a ∈ kds) : (kds.map T.str).any (fun z => eqT z (.str a)) = true := by
  rw [List.any_eq_true]
  exact ⟨.str a, List.mem_map.mpr ⟨a, ha, rfl⟩, by simp [eqT]⟩
theorem in_kinds {c : Call} {a : List Nat} {h : AH} (ha : a ∈ kds) : inD I c (.t (.str a)) (.t kindsT) h = .ok true h := by
  rw [in_val (a := .str a) (b := kindsT) (ts := kds.map .str) rfl rfl rfl (snap_t _ _ _) (snap_t _ _ _) rfl rfl (by decide), kd_any ha]
theorem is_pair_ok (P : HasP I) {g : T} (hg : g ∈ all16) (n : Nat) (h : AH) : callN I (n + 1) 344 [.t g] h = .ok (.t (.bl true)) h := by
  obtain ⟨a, ha, b, hb, rfl⟩ := mem16 hg
  rw [call_eq P.t344 n _ h rfl]
  have hl : biD I (callN I n) .len [.t (pr a b)] h = .ok (.t (.int 2)) h := bi_len_seq (ds := [.t (.str a), .t (.str b)]) rfl rfl
  have h0 : idxD I (callN I n) (.t (pr a b)) (.t (.int 0)) h = .ok (.t (.str a)) h := idx_seq (ds := [.t (.str a), .t (.str b)]) (m := 0) rfl rfl rfl rfl rfl
  have h1 : idxD I (callN I n) (.t (pr a b)) (.t (.int 1)) h = .ok (.t (.str b)) h := idx_seq (ds := [.t (.str a), .t (.str b)]) (m := 1) rfl rfl rfl rfl rfl
  have hi : biD I (callN I n) (.isi .tuple) [.t (pr a b)] h = .ok (.t (.bl true)) h := rfl
  have he : cmpD I (callN I n) .eq (.t (.int 2)) (.t (.int 2)) h = .ok (.t (.bl true)) h := eq_val (a := .int 2) (b := .int 2) rfl (snap_t _ _ _) (snap_t _ _ _) rfl rfl
  have hc : ∀ x, x ∈ kds → cmpD I (callN I n) .isin (.t (.str x)) (.t kindsT) h = .ok (.t (.bl true)) h := fun x hx => by
    rw [cmp_isin, in_kinds hx]; rfl
  simp [b344, start, evSs_cons, hi, hl, he, h0, h1, P.kinds, hc a ha, hc b hb, ret_t0]
theorem plain16 {g : T} (hg : g ∈ all16) : plain deep g = true := by
  obtain ⟨a, ha, b, hb, rfl⟩ := mem16 hg
  rfl
theorem allPlain {gs : List T} (h : ∀ g ∈ gs, g ∈ all16) : gs.all (plain deep) = true := List.all_eq_true.mpr fun g hg => plain16 (h g hg)
def mem_ (gs : List T) (p : T) : Bool := gs.any fun z => eqT z p
theorem in_live {c : Call} {h : AH} {n : Nat} {gs : List T} {p : T} (e : h[n]? = some (.lst (gs.map .t))) (hg : ∀ g ∈ gs, g ∈ all16) (hp : p ∈ all16) : cmpD I c .isin (.t p) (.r n) h = .ok (.t (.bl (mem_ gs p))) h := by
  rw [cmp_isin, in_val (a := p) (b := .lst gs) (ts := gs) (cls_lst e) rfl (by simp only [dctOf, e]) (snap_t _ _ _) (snap_l e) rfl (plain16 hp) (allPlain hg)]
  rfl
theorem in_tree {c : Call} {h : AH} {gs : List T} {p : T} (hg : ∀ g ∈ gs, g ∈ all16) (hp : p ∈ all16) : cmpD I c .isin (.t p) (.t (.lst gs)) h = .ok (.t (.bl (mem_ gs p))) h := by
  rw [cmp_isin, in_val (a := p) (b := .lst gs) (ts := gs) rfl rfl rfl (snap_t _ _ _) (snap_t _ _ _) rfl (plain16 hp) (allPlain hg)]
  rfl
theorem pr_mem {a b : List Nat} (ha : a ∈ kds) (hb : b ∈ kds) : pr a b ∈ all16 := List.mem_flatMap.mpr ⟨a, ha, List.mem_map.mpr ⟨b, hb, rfl⟩⟩
theorem turn123a (P : HasP I) (n : Nat) (h : AH) (x0 x1 : Option D) (o : Ob) (pre : List T) (g : T) (hg : g ∈ all16) (hl : pre.length < 10000) (z : Option D) :
    turn (.n 3) (fun env h => evSs I (callN I (n + 1)) b123_3 env h) (.t g) [x0, x1, some (.r (h.length + 1)), z, none, none, none] (h ++ [o, .lst (pre.map .t)]) =
      SR.nx [x0, x1, some (.r (h.length + 1)), some (.t g), none, none, none] (h ++ [o, .lst ((pre ++ [g]).map .t)]) := by
  have g1 := hget h [o, Ob.lst (pre.map .t)] 1
  have hlen : (pre.map D.t).length < sizeMax := by simp [sizeMax]; omega
  have ap := app_l (t := g) g1 hlen
  have lr := lstRef_l g1
  rw [hset] at ap
  have hcd : ∀ h', callD I (callN I (n + 1)) 344 [.t g] [] [] h' = .ok (.t (.bl true)) h' := fun h' => by
    unfold callD
    rw [P.t344]
    simp [arrD, is_pair_ok P hg]
  simp only [turn, Tg.set, List.set_cons_succ, List.set_cons_zero]
  simp [b123_3, evSs_cons, hcd, lr, ap]
theorem take_next {gs : List T} {j : Nat} {x : D} (ex : (gs.map D.t)[j]? = some x) : ∃ g, x = .t g ∧ g ∈ gs ∧ j < gs.length ∧ gs.take (0 + j + 1) = gs.take (0 + j) ++ [g] := by
  rw [List.getElem?_map] at ex
  cases q : gs[j]? with
  | none => rw [q] at ex; cases ex
  | some g =>
    rw [q] at ex
    cases ex
    exact ⟨g, rfl, List.mem_of_getElem? q, (List.getElem?_eq_some_iff.mp q).1, by rw [List.take_add_one, Nat.zero_add, q]; rfl⟩
theorem loop123a (P : HasP I) (n : Nat) (h : AH) (d x0 : D) (gs : List T) (o : Ob) (hl : gs.length < 10000) (w : Wk h d gs) (hg : ∀ g ∈ gs, g ∈ all16) :
    ∃ z, forL d (gs.map .t) (turn (.n 3) fun env h => evSs I (callN I (n + 1)) b123_3 env h) (gs.map .t) [some x0, some d, some (.r (h.length + 1)), none, none, none, none] (h ++ [o, .lst []]) =
      .nx [some x0, some d, some (.r (h.length + 1)), z, none, none, none] (h ++ [o, .lst (gs.map .t)]) := by
  obtain ⟨env', h', e, z, rfl, rfl⟩ := forL_ok (d := d) (all := gs.map .t) (f := turn (.n 3) fun env h => evSs I (callN I (n + 1)) b123_3 env h)
    (fun j env h' => ∃ z, env = [some x0, some d, some (.r (h.length + 1)), z, none, none, none] ∧ h' = h ++ [o, .lst ((gs.take j).map .t)]) (gs.map .t) 0 [some x0, some d, some (.r (h.length + 1)), none, none, none, none] (h ++ [o, .lst []])
    ⟨none, rfl, rfl⟩ (fun j env h' ⟨z, _, eh⟩ => by rw [eh]; exact (w.app _).still) (fun j x env h' ex ⟨z, e1, e2⟩ => by
      subst e1 e2
      obtain ⟨g, rfl, hm, hj, tk⟩ := take_next ex
      refine ⟨_, _, .inl (turn123a P n h _ _ o _ g (hg g hm) (by simp; omega) z), _, rfl, ?_⟩
      rw [tk])
  refine ⟨z, ?_⟩
  rw [e]
  simp
theorem turn123b (P : HasP I) {c : Call} (h : AH) (x0 x1 x3 : Option D) (o : Ob) (gs rows : List T) (a b : List Nat) (ha : a ∈ kds) (hb : b ∈ kds) (hg : ∀ g ∈ gs, g ∈ all16) (hl : rows.length < 10000) (z : Option D) :
    turn (.n 6) (fun env h => evSs I c b123_1 env h) (.t (.str b)) [x0, x1, some (.r (h.length + 1)), x3, some (.r (h.length + 2)), some (.t (.str a)), z] (h ++ [o, .lst (gs.map .t), .lst (rows.map .t)]) =
      SR.nx [x0, x1, some (.r (h.length + 1)), x3, some (.r (h.length + 2)), some (.t (.str a)), some (.t (.str b))] (h ++ [o, .lst (gs.map .t), .lst ((rows ++ [pr a b].filter (mem_ gs)).map .t)]) := by
  have g1 := hget h [o, Ob.lst (gs.map .t), .lst (rows.map .t)] 1
  have g2 := hget h [o, Ob.lst (gs.map .t), .lst (rows.map .t)] 2
  have hlen : (rows.map D.t).length < sizeMax := by simp [sizeMax]; omega
  have ap := app_l (t := pr a b) g2 hlen
  have lr := lstRef_l g2
  rw [hset] at ap
  have hin := in_live (I := I) (c := c) (p := pr a b) g1 hg (pr_mem ha hb)
  have hf : ∀ h', frzsR [.t (.str a), .t (.str b)] h' = .ok [.str a, .str b] h' := fun h' => frzsR_t [.str a, .str b] h'
  simp only [turn, Tg.set, List.set_cons_succ, List.set_cons_zero]
  unfold pr at hin ap
  cases hm : mem_ gs (pr a b) with
  | true =>
    have hm' := hm
    unfold pr at hm'
    simp [b123_1, evSs_cons, hf, hin, hm, hm', lr, ap]
    rfl
  | false =>
    have hm' := hm
    unfold pr at hm'
    simp [b123_1, evSs_cons, hf, hin, hm, hm', lr, ap]
theorem kds_next {ks : List (List Nat)} {j : Nat} {x : D} (ex : ((ks.map T.str).map D.t)[j]? = some x) : ∃ g, x = .t (.str g) ∧ g ∈ ks ∧ j < ks.length ∧ ks.take (0 + j + 1) = ks.take (0 + j) ++ [g] := by
  rw [List.map_map, List.getElem?_map] at ex
  cases q : ks[j]? with
  | none => rw [q] at ex; cases ex
  | some g =>
    rw [q] at ex
    cases ex
    exact ⟨g, rfl, List.mem_of_getElem? q, (List.getElem?_eq_some_iff.mp q).1, by rw [List.take_add_one, Nat.zero_add, q]; rfl⟩
theorem loop123b (P : HasP I) {c : Call} (h : AH) (x0 x1 x3 : Option D) (o : Ob) (gs rows : List T) (a : List Nat) (ha : a ∈ kds) (hg : ∀ g ∈ gs, g ∈ all16) (hl : rows.length < 9000) (z : Option D) :
    ∃ z', forL (.t kindsT) ((kds.map T.str).map D.t) (turn (.n 6) fun env h => evSs I c b123_1 env h) ((kds.map T.str).map D.t) [x0, x1, some (.r (h.length + 1)), x3, some (.r (h.length + 2)), some (.t (.str a)), z] (h ++ [o, .lst (gs.map .t), .lst (rows.map .t)]) =
      SR.nx [x0, x1, some (.r (h.length + 1)), x3, some (.r (h.length + 2)), some (.t (.str a)), z'] (h ++ [o, .lst (gs.map .t), .lst ((rows ++ (kds.map (pr a)).filter (mem_ gs)).map .t)]) := by
  obtain ⟨env', h', e, z', rfl, rfl⟩ := forL_ok (d := .t kindsT) (all := (kds.map T.str).map D.t) (f := turn (.n 6) fun env h => evSs I c b123_1 env h)
    (fun j env h' => ∃ z, env = [x0, x1, some (.r (h.length + 1)), x3, some (.r (h.length + 2)), some (.t (.str a)), z] ∧ h' = h ++ [o, .lst (gs.map .t), .lst ((rows ++ ((kds.take j).map (pr a)).filter (mem_ gs)).map .t)]) ((kds.map T.str).map D.t) 0 [x0, x1, some (.r (h.length + 1)), x3, some (.r (h.length + 2)), some (.t (.str a)), z] (h ++ [o, .lst (gs.map .t), .lst (rows.map .t)])
    ⟨z, rfl, by simp⟩ (fun j env h' ⟨z, _, eh⟩ => rfl) (fun j x env h' ex ⟨z, e1, e2⟩ => by
      subst e1 e2
      obtain ⟨b, rfl, hm, hj, tk⟩ := kds_next ex
      refine ⟨_, _, .inl (turn123b P h x0 x1 x3 o gs _ a b ha hm hg ?_ z), _, rfl, ?_⟩
      · rw [List.length_append]
        have := List.length_filter_le (mem_ gs) ((kds.take (0 + j)).map (pr a))
        have h4 : kds.length = 4 := rfl
        rw [List.length_map, List.length_take] at this
        omega
      · simp only [tk, List.map_append, List.filter_append, List.append_assoc, List.map_cons, List.map_nil])
  refine ⟨z', ?_⟩
  rw [e]
  simp only [List.length_map, Nat.zero_add, List.take_length]
theorem turn123c (P : HasP I) {c : Call} (h : AH) (x0 x1 x3 : Option D) (o : Ob) (gs rows : List T) (a : List Nat) (ha : a ∈ kds) (hg : ∀ g ∈ gs, g ∈ all16) (hl : rows.length < 9000) (y z : Option D) :
    ∃ z', turn (.n 5) (fun env h => evSs I c b123_2 env h) (.t (.str a)) [x0, x1, some (.r (h.length + 1)), x3, some (.r (h.length + 2)), y, z] (h ++ [o, .lst (gs.map .t), .lst (rows.map .t)]) =
      SR.nx [x0, x1, some (.r (h.length + 1)), x3, some (.r (h.length + 2)), some (.t (.str a)), z'] (h ++ [o, .lst (gs.map .t), .lst ((rows ++ (kds.map (pr a)).filter (mem_ gs)).map .t)]) := by
  obtain ⟨z', e⟩ := loop123b P (c := c) h x0 x1 x3 o gs rows a ha hg hl z
  refine ⟨z', ?_⟩
  have hw : ∀ h', walkOf I h' (.t kindsT) = some (.t kindsT, (kds.map T.str).map D.t) := fun h' => rfl
  simp only [turn, Tg.set, List.set_cons_succ, List.set_cons_zero, b123_2, evSs_cons, evS_for, evI_val, ev_g, P.kinds, bind_okk, hw, of_some, lift_ok, evSs_nil]
  rw [e]
theorem loop123c (P : HasP I) {c : Call} (h : AH) (x0 x1 x3 : Option D) (o : Ob) (gs : List T) (hg : ∀ g ∈ gs, g ∈ all16) (y z : Option D) :
    ∃ y' z', forL (.t kindsT) ((kds.map T.str).map D.t) (turn (.n 5) fun env h => evSs I c b123_2 env h) ((kds.map T.str).map D.t) [x0, x1, some (.r (h.length + 1)), x3, some (.r (h.length + 2)), y, z] (h ++ [o, .lst (gs.map .t), .lst []]) =
      SR.nx [x0, x1, some (.r (h.length + 1)), x3, some (.r (h.length + 2)), y', z'] (h ++ [o, .lst (gs.map .t), .lst ((all16.filter (mem_ gs)).map .t)]) := by
  obtain ⟨env', h', e, y', z', rfl, rfl⟩ := forL_ok (d := .t kindsT) (all := (kds.map T.str).map D.t) (f := turn (.n 5) fun env h => evSs I c b123_2 env h)
    (fun j env h' => ∃ y z, env = [x0, x1, some (.r (h.length + 1)), x3, some (.r (h.length + 2)), y, z] ∧ h' = h ++ [o, .lst (gs.map .t), .lst ((((kds.take j).flatMap fun a => kds.map (pr a)).filter (mem_ gs)).map .t)]) ((kds.map T.str).map D.t) 0 [x0, x1, some (.r (h.length + 1)), x3, some (.r (h.length + 2)), y, z] (h ++ [o, .lst (gs.map .t), .lst []])
    ⟨y, z, rfl, by simp⟩ (fun j env h' ⟨_, _, _, eh⟩ => rfl) (fun j x env h' ex ⟨y, z, e1, e2⟩ => by
      subst e1 e2
      obtain ⟨a, rfl, hm, hj, tk⟩ := kds_next ex
      obtain ⟨z', et⟩ := turn123c P (c := c) h x0 x1 x3 o gs (((kds.take (0 + j)).flatMap fun a => kds.map (pr a)).filter (mem_ gs)) a hm hg (by
        have := List.length_filter_le (mem_ gs) ((kds.take (0 + j)).flatMap fun a => kds.map (pr a))
        have h2 : ((kds.take (0 + j)).flatMap fun a => kds.map (pr a)).length ≤ 16 := by
          have h4 : kds.length = 4 := rfl
          have hj4 : j < 4 := by rw [← h4]; exact hj
          rw [Nat.zero_add]
          rcases j with _ | _ | _ | _ | j <;> first | (simp [kds]; done) | omega
        omega) y z
      refine ⟨_, _, .inl et, _, _, rfl, ?_⟩
      rw [tk, List.flatMap_append, List.filter_append]
      simp)
  refine ⟨y', z', ?_⟩
  rw [e]
  simp only [List.length_map, Nat.zero_add, List.take_length]
  rfl
def pairsT (rows : List T) : T := .ins 12 [32] [.lst rows]
theorem new_pairs (P : HasP I) (n : Nat) (h : AH) (d : D) (gs : List T) (hl : gs.length < 10000) (w : Wk h d gs) (hg : ∀ g ∈ gs, g ∈ all16) :
    newD I (callN I (n + 2)) 12 [d] [] [] h = .ok (.t (pairsT (all16.filter (mem_ gs)))) h := by
  have hc : callN I (n + 2) 123 [.r h.length, d] (h ++ [.ins 12 [] []]) = .ok (.t .non) (h ++ [.ins 12 [32] [.t (.lst (all16.filter (mem_ gs)))]]) := by
    rw [call_eq P.t123 (n + 1) _ _ rfl]
    obtain ⟨z, e1⟩ := loop123a P n h d (.r h.length) gs (.ins 12 [] []) hl w hg
    obtain ⟨y', z', e2⟩ := loop123c P (c := callN I (n + 1)) h (some (.r h.length)) (some d) z (.ins 12 [] []) gs hg none none
    have hw := (w.app [.ins 12 [] [], .lst []]).walk (I := I)
    have hk : ∀ h', walkOf I h' (.t kindsT) = some (.t kindsT, (kds.map T.str).map D.t) := fun h' => rfl
    have g2 := hget h [Ob.ins 12 [] [], Ob.lst (gs.map .t), .lst ((all16.filter (mem_ gs)).map .t)] 2
    have g0 := hget0 h [Ob.ins 12 [] [], Ob.lst (gs.map .t), .dead]
    have hs : setAD I (.r h.length) 32 (.r (h.length + 2)) (h ++ [Ob.ins 12 [] [], Ob.lst (gs.map .t), .lst ((all16.filter (mem_ gs)).map .t)]) = .ok () (h ++ [Ob.ins 12 [32] [.t (.lst (all16.filter (mem_ gs)))], Ob.lst (gs.map .t), .dead]) := by
      unfold setAD
      dsimp only
      rw [frzR_l g2, bind_okk, hset]
      simp only [List.set_cons_succ, List.set_cons_zero]
      rw [g0]
      simp [P.fld, put, hset0]
    have ht : ∀ a b c : Ob, (h ++ [a, b, c]).take (h.length + 1) = h ++ [a] := fun a b c => by
      have := htake (h ++ [a]) [b, c]
      simpa using this
    simp [b123, start, evSs_cons, hw, e1, P.kinds, hk, e2, hs, -List.map_map]
    simp [retS, ht]
  unfold newD
  rw [P.init]
  dsimp only
  unfold callD
  rw [P.t123]
  simp [arrD, hc, isN, P.live]
  unfold frzR frz
  rw [hget0]
  simp [frzL, frz, htake, pairsT]
theorem attr_rows (P : HasP I) {c : Call} {env : Env} {h : AH} {e : Ex} {rows : List T} (he : ev I c e env h = .ok (.t (pairsT rows)) h) : ev I c (.attr e 32) env h = .ok (.t (.lst rows)) h := by
  rw [ev_attr, he]
  simp only [bind_okk]
  have : clsOf h (.t (pairsT rows)) = some 12 := rfl
  rw [this]
  dsimp only
  rw [P.prop]
  simp only [P.fld, if_true]
  rfl
theorem len_pairs (P : HasP I) (n : Nat) (h : AH) (rows : List T) : callN I (n + 1) 126 [.t (pairsT rows)] h = .ok (.t (.int rows.length)) h := by
  rw [call_eq P.t126 n _ h rfl]
  have ha := attr_rows P (c := callN I n) (env := [some (.t (pairsT rows))]) (h := h) (e := .v 0) (rows := rows) (by simp)
  have hl : biD I (callN I n) .len [.t (.lst rows)] h = .ok (.t (.int rows.length)) h := by
    rw [bi_len_seq (ds := rows.map .t) rfl rfl, List.length_map]
  simp [b126, start, evSs_cons, ha, hl, ret_t0, -ev_attr]
theorem bi_len_pairs (P : HasP I) (n : Nat) (h : AH) (rows : List T) (hl : rows.length ≤ sizeMax) : biD I (callN I (n + 1)) .len [.t (pairsT rows)] h = .ok (.t (.int rows.length)) h := by
  have : biD I (callN I (n + 1)) .len [.t (pairsT rows)] h = lenD I (callN I (n + 1)) (.t (pairsT rows)) h := rfl
  rw [this]
  unfold lenD own1
  have hc : clsOf h (.t (pairsT rows)) = some 12 := rfl
  rw [hc]
  dsimp only
  rw [show mLen = 2 from rfl, P.m2]
  dsimp only
  rw [len_pairs P]
  simp only [bind_okk, intOf]
  rw [if_pos ⟨Int.natCast_nonneg _, by omega⟩]
theorem contains_pairs (P : HasP I) (n : Nat) (h : AH) (rows : List T) (p : T) (hr : ∀ g ∈ rows, g ∈ all16) (hp : p ∈ all16) : callN I (n + 1) 121 [.t (pairsT rows), .t p] h = .ok (.t (.bl (mem_ rows p))) h := by
  rw [call_eq P.t121 n _ h rfl]
  have ha := attr_rows P (c := callN I n) (env := [some (.t (pairsT rows)), some (.t p)]) (h := h) (e := .v 0) (rows := rows) (by simp)
  simp [b121, start, evSs_cons, ha, in_tree hr hp, ret_t0, -ev_attr]
theorem in_pairs (P : HasP I) (n : Nat) (h : AH) (rows : List T) (p : T) (hr : ∀ g ∈ rows, g ∈ all16) (hp : p ∈ all16) : inD I (callN I (n + 1)) (.t p) (.t (pairsT rows)) h = .ok (mem_ rows p) h := by
  unfold inD own1
  have hc : clsOf h (.t (pairsT rows)) = some 12 := rfl
  rw [hc]
  dsimp only
  rw [show mContains = 1 from rfl, P.m1]
  dsimp only
  rw [contains_pairs P n h rows p hr hp]
  rfl
theorem list_pairs (P : HasP I) (c : Call) (h : AH) (rows : List T) : biD I c .list [.t (pairsT rows)] h = .ok (.t (.lst rows)) h := by
  have hi : iterB I h (.t (pairsT rows)) = some rows := by
    unfold iterB
    have hc : clsOf h (.t (pairsT rows)) = some 12 := rfl
    rw [hc]
    dsimp only
    rw [P.iter]
    rfl
  refine bi_list ?_ ?_
  · unfold biOk plainBi
    simp [hi]
  · unfold itemsOf
    have h1 : lstOf h (.t (pairsT rows)) = none := rfl
    have h2 : tupOf (.t (pairsT rows)) = none := rfl
    rw [h1, h2, hi]; rfl
theorem eqT_pr {a b a' b' : List Nat} : eqT (pr a b) (pr a' b') = decide (a = a' ∧ b = b') := by
  unfold pr
  by_cases h1 : a = a' <;> by_cases h2 : b = b' <;> simp [eqT, eqTs, h1, h2]
theorem eq16 {x y : T} (hx : x ∈ all16) (hy : y ∈ all16) : eqT x y = true ↔ x = y := by
  obtain ⟨a, _, b, _, rfl⟩ := mem16 hx
  obtain ⟨a', _, b', _, rfl⟩ := mem16 hy
  rw [eqT_pr, decide_eq_true_iff]
  constructor
  · rintro ⟨rfl, rfl⟩; rfl
  · intro e; unfold pr at e; simpa using e
theorem mem_iff {gs : List T} {p : T} (hg : ∀ g ∈ gs, g ∈ all16) (hp : p ∈ all16) : mem_ gs p = true ↔ p ∈ gs := by
  unfold mem_
  rw [List.any_eq_true]
  constructor
  · rintro ⟨x, hx, e⟩
    rw [← (eq16 (hg x hx) hp).mp e]; exact hx
  · intro h
    exact ⟨p, h, (eq16 hp hp).mpr rfl⟩
theorem eqTs16 : ∀ {xs ys : List T}, (∀ g ∈ xs, g ∈ all16) → (∀ g ∈ ys, g ∈ all16) → (eqTs xs ys = true ↔ xs = ys)
  | [], [], _, _ => by simp [eqTs]
  | [], _ :: _, _, _ => by simp [eqTs]
  | _ :: _, [], _, _ => by simp [eqTs]
  | x :: xs, y :: ys, hx, hy => by
    simp only [eqTs, Bool.and_eq_true]
    rw [eq16 (hx x (List.mem_cons_self ..)) (hy y (List.mem_cons_self ..)), eqTs16 (fun g hg => hx g (List.mem_cons_of_mem _ hg)) (fun g hg => hy g (List.mem_cons_of_mem _ hg))]
    simp
theorem plainL {gs : List T} (h : ∀ g ∈ gs, g ∈ all16) : plain deep (.lst gs) = true := by
  show (gs.all (plain 39)) = true
  refine List.all_eq_true.mpr fun g hg => ?_
  obtain ⟨a, _, b, _, rfl⟩ := mem16 (h g hg)
  rfl
theorem filter16 (p : T → Bool) : ∀ g ∈ all16.filter p, g ∈ all16 := fun g hg => (List.mem_filter.mp hg).1
theorem mem_filter {gs : List T} {p : T} (hg : ∀ g ∈ gs, g ∈ all16) (hp : p ∈ all16) : mem_ (all16.filter (mem_ gs)) p = mem_ gs p := by
  rw [Bool.eq_iff_iff, mem_iff (filter16 _) hp, List.mem_filter]
  exact ⟨fun h => h.2, fun h => ⟨hp, h⟩⟩
end
end Kq
set_option autoImplicit false
set_option maxRecDepth 100000
namespace Kq
open Kp
open Kp.B
section
variable {I : Info}
theorem kinds_ok (hI : I.tbl 215 = some ⟨0, 0, 0, false, b215⟩) (n : Nat) (h : AH) : callN I (n + 1) 215 [] h = .ok (.t (.lst (kds.map .str))) h := by
  rw [call_eq hI n _ h rfl]
  have hf : ∀ h', frzsR [.t (.str sR), .t (.str sA), .t (.str sW), .t (.str sL)] h' = .ok (kds.map .str) h' := fun h' => frzsR_t (kds.map .str) h'
  unfold sR sA sW sL at hf
  simp [b215, start, evSs_cons, hf, ret_t0]
theorem call0 {f : Nat} {b : Sts} {lv : Bool} {ns : Nat} (hI : I.tbl f = some ⟨0, 0, ns, lv, b⟩) (c : Call) (h : AH) : callD I c f [] [] [] h = c f [] h := by
  unfold callD
  rw [hI]
  simp [arrD]
theorem turn149a {c : Call} (h : AH) (rows : List T) (a b : List Nat) (hl : rows.length < 10000) (z : Option D) :
    turn (.n 2) (fun env h => evSs I c b149_1 env h) (.t (.str b)) [some (.r h.length), some (.t (.str a)), z] (h ++ [.lst (rows.map .t)]) =
      SR.nx [some (.r h.length), some (.t (.str a)), some (.t (.str b))] (h ++ [.lst ((rows ++ [pr a b]).map .t)]) := by
  have g1 := hget0 h [Ob.lst (rows.map .t)]
  have hlen : (rows.map D.t).length < sizeMax := by simp [sizeMax]; omega
  have ap := app_l (t := pr a b) g1 hlen
  have lr := lstRef_l g1
  rw [hset0] at ap
  have hf : ∀ h', frzsR [.t (.str a), .t (.str b)] h' = .ok [.str a, .str b] h' := fun h' => frzsR_t [.str a, .str b] h'
  simp only [turn, Tg.set, List.set_cons_succ, List.set_cons_zero]
  unfold pr at ap
  simp [b149_1, evSs_cons, hf, lr, ap]
  rfl
theorem loop149a {c : Call} (h : AH) (rows : List T) (a : List Nat) (hl : rows.length < 9000) (z : Option D) :
    ∃ z', forL (.t (.lst (kds.map T.str))) ((kds.map T.str).map D.t) (turn (.n 2) fun env h => evSs I c b149_1 env h) ((kds.map T.str).map D.t) [some (.r h.length), some (.t (.str a)), z] (h ++ [.lst (rows.map .t)]) =
      SR.nx [some (.r h.length), some (.t (.str a)), z'] (h ++ [.lst ((rows ++ kds.map (pr a)).map .t)]) := by
  obtain ⟨env', h', e, z', rfl, rfl⟩ := forL_ok (d := .t (.lst (kds.map T.str))) (all := (kds.map T.str).map D.t) (f := turn (.n 2) fun env h => evSs I c b149_1 env h)
    (fun j env h' => ∃ z, env = [some (.r h.length), some (.t (.str a)), z] ∧ h' = h ++ [.lst ((rows ++ (kds.take j).map (pr a)).map .t)]) ((kds.map T.str).map D.t) 0 [some (.r h.length), some (.t (.str a)), z] (h ++ [.lst (rows.map .t)])
    ⟨z, rfl, by simp⟩ (fun j env h' ⟨z, _, eh⟩ => rfl) (fun j x env h' ex ⟨z, e1, e2⟩ => by
      subst e1 e2
      obtain ⟨b, rfl, hm, hj, tk⟩ := kds_next ex
      refine ⟨_, _, .inl (turn149a h _ a b ?_ z), _, rfl, ?_⟩
      · have h4 : kds.length = 4 := rfl
        simp only [List.length_append, List.length_map, List.length_take]
        omega
      · simp only [tk, List.map_append, List.append_assoc, List.map_cons, List.map_nil])
  refine ⟨z', ?_⟩
  rw [e]
  simp only [List.length_map, Nat.zero_add, List.take_length]
theorem all_pairs_ok (hI : I.tbl 149 = some ⟨0, 0, 3, false, b149⟩) (hK : I.tbl 215 = some ⟨0, 0, 0, false, b215⟩) (n : Nat) (h : AH) : callN I (n + 2) 149 [] h = .ok (.t (.lst all16)) h := by
  rw [call_eq hI (n + 1) _ h rfl]
  have hk : ∀ h', callD I (callN I (n + 1)) 215 [] [] [] h' = .ok (.t (.lst (kds.map .str))) h' := fun h' => by rw [call0 hK, kinds_ok hK]
  have hw : ∀ h', walkOf I h' (.t (.lst (kds.map T.str))) = some (.t (.lst (kds.map T.str)), (kds.map T.str).map D.t) := fun h' => rfl
  obtain ⟨env', h', e, y', z', rfl, rfl⟩ := forL_ok (d := .t (.lst (kds.map T.str))) (all := (kds.map T.str).map D.t) (f := turn (.n 1) fun env h => evSs I (callN I (n + 1)) b149_2 env h)
    (fun j env h' => ∃ y z, env = [some (.r h.length), y, z] ∧ h' = h ++ [.lst (((kds.take j).flatMap fun a => kds.map (pr a)).map .t)]) ((kds.map T.str).map D.t) 0 [some (.r h.length), none, none] (h ++ [.lst []])
    ⟨none, none, rfl, by simp⟩ (fun j env h' ⟨y, z, _, eh⟩ => rfl) (fun j x env h' ex ⟨y, z, e1, e2⟩ => by
      subst e1 e2
      obtain ⟨a, rfl, hm, hj, tk⟩ := kds_next ex
      obtain ⟨z', et⟩ := loop149a (I := I) (c := callN I (n + 1)) h ((kds.take (0 + j)).flatMap fun a => kds.map (pr a)) a (by
        have h4 : kds.length = 4 := rfl
        have hj4 : j < 4 := by rw [← h4]; exact hj
        rw [Nat.zero_add]
        rcases j with _ | _ | _ | _ | j <;> first | (simp [kds]; done) | omega) z
      refine ⟨_, _, .inl (?_ : _ = SR.nx [some (.r h.length), some (.t (.str a)), z'] (h ++ [.lst ((((kds.take (0 + j)).flatMap fun a => kds.map (pr a)) ++ kds.map (pr a)).map .t)])), _, _, rfl, ?_⟩
      · simp only [turn, Tg.set, List.set_cons_succ, List.set_cons_zero, b149_2, evSs_cons, evS_for, evI_val, ev_call, evs_nil, bind_okk, hk, hw, of_some, lift_ok, evSs_nil]
        rw [et]
      · rw [tk, List.flatMap_append]
        simp)
  simp only [List.length_map, Nat.zero_add] at e
  have r1 := ret_l (h := h) (ts := all16)
  rw [show ((kds.take kds.length).flatMap fun a => kds.map (pr a)) = all16 from rfl] at e
  simp [b149, start, evSs_cons, hk, hw, e, r1, -List.map_map]
end
end Kq
set_option autoImplicit false
set_option maxRecDepth 100000
namespace Kq
open Kp
open Kp.B
def fil (p : T → Bool) : List T := all16.filter p
theorem fil_mem {p : T → Bool} : ∀ g ∈ fil p, g ∈ all16 := filter16 p
theorem fil_congr {p q : T → Bool} (h : ∀ g ∈ all16, p g = q g) : fil p = fil q := List.filter_congr h
theorem mem_fil {p : T → Bool} {g : T} (hg : g ∈ all16) : mem_ (fil p) g = p g := by
  rw [Bool.eq_iff_iff, mem_iff fil_mem hg]
  unfold fil
  rw [List.mem_filter]
  exact ⟨fun h => h.2, fun h => ⟨hg, h⟩⟩
theorem fil_len {p : T → Bool} : (fil p).length ≤ 16 := List.length_filter_le _ _
theorem fil_fil {p q : T → Bool} : (fil p).filter q = fil fun g => p g && q g := by
  unfold fil
  rw [List.filter_filter]
  exact List.filter_congr fun g _ => Bool.and_comm _ _
theorem mem_app {xs ys : List T} {g : T} : mem_ (xs ++ ys) g = (mem_ xs g || mem_ ys g) := List.any_append
theorem mem_rev {xs : List T} {g : T} : mem_ xs.reverse g = mem_ xs g := List.any_reverse
theorem nodup16 : all16.Pairwise fun a b => eqT a b = false := by decide
theorem sub_fil {rows : List T} (h : rows.Sublist all16) : rows = fil (mem_ rows) := by
  have gen : ∀ (l : List T), (∀ g ∈ l, g ∈ all16) → l.Pairwise (fun a b => eqT a b = false) → ∀ rows : List T, rows.Sublist l → rows = l.filter (mem_ rows) := by
    intro l
    induction l with
    | nil => intro _ _ rows h; cases h; rfl
    | cons x l ih =>
      intro hm hp rows h
      have hx := hm x (List.mem_cons_self ..)
      have hl : ∀ g ∈ l, g ∈ all16 := fun g hg => hm g (List.mem_cons_of_mem _ hg)
      obtain ⟨hp1, hp2⟩ := List.pairwise_cons.mp hp
      cases h with
      | cons _ h =>
        have e := ih hl hp2 rows h
        have : mem_ rows x = false := by
          cases q : mem_ rows x with
          | false => rfl
          | true =>
            obtain ⟨z, hz, ez⟩ := List.any_eq_true.mp q
            have hz2 := h.subset hz
            have := (eq16 (hl z hz2) hx).mp ez
            have := hp1 z hz2
            rw [‹z = x›] at this
            rw [(eq16 hx hx).mpr rfl] at this; cases this
        rw [List.filter_cons, this]; exact e
      | cons_cons _ h =>
        rename_i rows
        have e := ih hl hp2 rows h
        have t : mem_ (x :: rows) x = true := by
          unfold mem_
          rw [List.any_cons, (eq16 hx hx).mpr rfl]; rfl
        rw [List.filter_cons, t]
        simp only [if_true]
        congr 1
        rw [e]
        have : ∀ g ∈ l, mem_ (x :: l.filter (mem_ rows)) g = mem_ rows g := fun g hg => by
          unfold mem_
          rw [List.any_cons]
          have n : eqT x g = false := hp1 g hg
          rw [n, Bool.false_or]
          have q : (l.filter (mem_ rows)).any (fun z => eqT z g) = mem_ (l.filter (mem_ rows)) g := rfl
          rw [show l.filter (fun p => rows.any fun z => eqT z p) = l.filter (mem_ rows) from rfl, q, ← e]
          rfl
        rw [List.filter_congr this, ← e]
  exact gen all16 (fun g h => h) nodup16 rows h
structure HasP2 (I : Info) : Prop extends HasP I where
  t122 : I.tbl 122 = some ⟨2, 2, 2, false, b122⟩
  t125 : I.tbl 125 = some ⟨2, 2, 3, false, b125⟩
  t120 : I.tbl 120 = some ⟨2, 2, 3, false, b120⟩
  t127 : I.tbl 127 = some ⟨2, 2, 2, false, b127⟩
  t128 : I.tbl 128 = some ⟨2, 2, 3, false, b128⟩
  m3 : I.meth 12 3 = some 122
  m4 : I.meth 12 4 = some 125
  m5 : I.meth 12 5 = some 120
  m6 : I.meth 12 6 = some 127
  m7 : I.meth 12 7 = some 128
section
variable {I : Info}
abbrev pS (p : T → Bool) : T := pairsT (fil p)
theorem new_list (P : HasP I) (n : Nat) (h : AH) (ts : List T) (hl : ts.length < 10000) (hm : ∀ g ∈ ts, g ∈ all16) : newD I (callN I (n + 2)) 12 [.t (.lst ts)] [] [] h = .ok (.t (pS (mem_ ts))) h :=
  new_pairs P n h _ ts hl (.inl rfl) hm
theorem in_rows {c : Call} {h : AH} {p : T → Bool} {g : T} (hg : g ∈ all16) : cmpD I c .isin (.t g) (.t (.lst (fil p))) h = .ok (.t (.bl (p g))) h := by
  rw [in_tree fil_mem hg, mem_fil hg]
theorem notin_tree {c : Call} {h : AH} {gs : List T} {p : T} (hg : ∀ g ∈ gs, g ∈ all16) (hp : p ∈ all16) : cmpD I c .notin (.t p) (.t (.lst gs)) h = .ok (.t (.bl (!mem_ gs p))) h := by
  rw [cmp_notin, in_val (a := p) (b := .lst gs) (ts := gs) rfl rfl rfl (snap_t _ _ _) (snap_t _ _ _) rfl (plain16 hp) (allPlain hg)]
  rfl
theorem lcs {c : Call} {env : Env} {h : AH} {it : It} {cond : Ex} {i : Nat} {p q : T → Bool} (hit : evI I c it env h = .ok (.t (.lst (fil p)), (fil p).map .t) h)
    (hf : ∀ x ∈ all16, lcF I c (.v i) [i] (.n i) cond env (.t x) h = .ok (if q x then [.t x] else []) h) : ev I c (.lc false (.v i) [i] (.n i) it cond .nil) env h = .ok (.t (.lst (fil fun g => p g && q g))) h := by
  rw [lc_filter (g := fun x => x) (p := q) hit rfl (Nat.lt_of_le_of_lt fil_len (by decide)) (fun x hx => hf x (fil_mem x hx)), List.map_id', fil_fil]
theorem and_pairs (P : HasP2 I) (n : Nat) (h : AH) (p q : T → Bool) : callN I (n + 3) 120 [.t (pS p), .t (pS q)] h = .ok (.t (pS fun g => p g && q g)) h := by
  rw [call_eq P.t120 (n + 2) _ h rfl]
  have hl : ev I (callN I (n + 2)) (.lc false (.v 2) [2] (.n 2) (.val (.attr (.v 0) 32)) b120_1 .nil) [some (.t (pS p)), some (.t (pS q)), none] h = .ok (.t (.lst (fil fun g => p g && q g))) h := by
    refine lcs ?_ fun x hx => ?_
    · rw [evI_val, attr_rows P.toHasP (rows := fil p) (by simp)]; rfl
    · have ha := attr_rows P.toHasP (c := callN I (n + 2)) (env := [some (.t (pS p)), some (.t (pS q)), some (.t x)]) (h := h) (e := .v 1) (rows := fil q) (by simp)
      have hin := in_rows (I := I) (c := callN I (n + 2)) (h := h) (p := q) hx
      simp only [lcF, clause, Tg.set, wipe, List.set_cons_succ, List.set_cons_zero, b120_1, isNo]
      cases hm : q x <;> simp [ha, hin, hm, -ev_attr]
  have hn := new_list P.toHasP n h (fil fun g => p g && q g) (Nat.lt_of_le_of_lt fil_len (by decide)) fil_mem
  have e : pS (mem_ (fil fun g => p g && q g)) = pS fun g => p g && q g := congrArg pairsT (fil_congr fun g hg => mem_fil hg)
  rw [e] at hn
  simp [b120, start, evSs_cons, hl, hn, ret_t0]
theorem sub_pairs (P : HasP2 I) (n : Nat) (h : AH) (p q : T → Bool) : callN I (n + 3) 128 [.t (pS p), .t (pS q)] h = .ok (.t (pS fun g => p g && !q g)) h := by
  rw [call_eq P.t128 (n + 2) _ h rfl]
  have hl : ev I (callN I (n + 2)) (.lc false (.v 2) [2] (.n 2) (.val (.attr (.v 0) 32)) b128_1 .nil) [some (.t (pS p)), some (.t (pS q)), none] h = .ok (.t (.lst (fil fun g => p g && !q g))) h := by
    refine lcs (q := fun g => !q g) ?_ fun x hx => ?_
    · rw [evI_val, attr_rows P.toHasP (rows := fil p) (by simp)]; rfl
    · have ha := attr_rows P.toHasP (c := callN I (n + 2)) (env := [some (.t (pS p)), some (.t (pS q)), some (.t x)]) (h := h) (e := .v 1) (rows := fil q) (by simp)
      have hin := notin_tree (I := I) (c := callN I (n + 2)) (h := h) (gs := fil q) fil_mem hx
      rw [mem_fil hx] at hin
      simp only [lcF, clause, Tg.set, wipe, List.set_cons_succ, List.set_cons_zero, b128_1, isNo]
      cases hm : q x <;> simp [ha, hin, hm, -ev_attr]
  have hn := new_list P.toHasP n h (fil fun g => p g && !q g) (Nat.lt_of_le_of_lt fil_len (by decide)) fil_mem
  have e : pS (mem_ (fil fun g => p g && !q g)) = pS fun g => p g && !q g := congrArg pairsT (fil_congr fun g hg => mem_fil hg)
  rw [e] at hn
  simp [b128, start, evSs_cons, hl, hn, ret_t0]
theorem or_pairs (P : HasP2 I) (n : Nat) (h : AH) (p q : T → Bool) : callN I (n + 3) 127 [.t (pS p), .t (pS q)] h = .ok (.t (pS fun g => p g || q g)) h := by
  rw [call_eq P.t127 (n + 2) _ h rfl]
  have h1 := attr_rows P.toHasP (c := callN I (n + 2)) (env := [some (.t (pS p)), some (.t (pS q))]) (h := h) (e := .v 0) (rows := fil p) (by simp)
  have h2 := attr_rows P.toHasP (c := callN I (n + 2)) (env := [some (.t (pS p)), some (.t (pS q))]) (h := h) (e := .v 1) (rows := fil q) (by simp)
  have l1 := fil_len (p := p)
  have l2 := fil_len (p := q)
  have hb : binD I (callN I (n + 2)) .add (.t (.lst (fil p))) (.t (.lst (fil q))) h = .ok (.t (.lst (fil p ++ fil q))) h := by
    unfold binD
    simp only [int2, str2, tup2, lst2, lstOf]
    rw [if_pos (by refine ⟨trivial, ?_⟩; simp only [List.length_map, sizeMax]; omega), ← List.map_append, frzsR_t]
    rfl
  have hn := new_list P.toHasP n h (fil p ++ fil q) (by simp only [List.length_append]; omega) (fun g hg => by
    rcases List.mem_append.mp hg with hg | hg
    · exact fil_mem g hg
    · exact fil_mem g hg)
  have e : pS (mem_ (fil p ++ fil q)) = pS fun g => p g || q g := congrArg pairsT (fil_congr fun g hg => by rw [mem_app, mem_fil hg, mem_fil hg])
  rw [e] at hn
  simp [b127, start, evSs_cons, h1, h2, hb, hn, ret_t0, -ev_attr]
theorem bin_own {o : Bop} {m f : Nat} {c : Call} {h : AH} {p q : List T} (hm : mOfB o = some m) (hI : I.meth 12 m = some f) : binD I c o (.t (pairsT p)) (.t (pairsT q)) h = c f [.t (pairsT p), .t (pairsT q)] h := by
  unfold binD
  have h1 : int2 (.t (pairsT p)) (.t (pairsT q)) = none := rfl
  have h2 : str2 (.t (pairsT p)) (.t (pairsT q)) = none := rfl
  have h3 : tup2 (.t (pairsT p)) (.t (pairsT q)) = none := rfl
  have h4 : lst2 h (.t (pairsT p)) (.t (pairsT q)) = none := rfl
  have h5 : own2 I h (.t (pairsT p)) (.t (pairsT q)) m = I.meth 12 m := rfl
  rw [h1, h2, h3, h4, hm]
  dsimp only
  rw [h5, hI]
theorem rev_rows {c : Call} {h : AH} {ts : List T} : biD I c .rev [.t (.lst ts)] h = .ok (.t (.lst ts.reverse)) h := by
  have q : biD I c .rev [.t (.lst ts)] h = biD0 I c .rev [.t (.lst ts)] h := by
    unfold biD biOk
    simp
  rw [q]
  unfold biD0
  dsimp only [lstOf]
  unfold frzLst
  rw [← List.map_reverse, frzsR_t]; rfl
end
end Kq
set_option autoImplicit false
set_option maxRecDepth 100000
namespace Kq
open Kp
open Kp.B
section
variable {I : Info}
def rdsT : T := .lst [.str sR, .str sA]
theorem reads_ok (hI : I.tbl 256 = some ⟨0, 0, 0, false, b256⟩) (n : Nat) (h : AH) : callN I (n + 1) 256 [] h = .ok (.t rdsT) h := by
  rw [call_eq hI n _ h rfl]
  have hf : ∀ h', frzsR [.t (.str sR), .t (.str sA)] h' = .ok [.str sR, .str sA] h' := fun h' => frzsR_t [.str sR, .str sA] h'
  unfold sR sA at hf
  simp [b256, start, evSs_cons, hf, ret_t0]
  rfl
theorem in_reads {c : Call} {a : List Nat} {h : AH} : cmpD I c .isin (.t (.str a)) (.t rdsT) h = .ok (.t (.bl (a == sR || a == sA))) h := by
  rw [cmp_isin, in_val (a := .str a) (b := rdsT) (ts := [.str sR, .str sA]) rfl rfl rfl (snap_t _ _ _) (snap_t _ _ _) rfl rfl rfl]
  simp [eqT, Bool.beq_comm (α := List Nat)]
theorem notin_reads {c : Call} {a : List Nat} {h : AH} : cmpD I c .notin (.t (.str a)) (.t rdsT) h = .ok (.t (.bl (!(a == sR || a == sA)))) h := by
  have := in_reads (I := I) (c := c) (a := a) (h := h)
  rw [cmp_isin] at this
  rw [cmp_notin]
  cases q : inD I c (.t (.str a)) (.t rdsT) h with
  | ok b h' => rw [q] at this; simp at this ⊢; simp [this]
  | ex a b c d => rw [q] at this; cases this
  | no => rw [q] at this; cases this
theorem eq_str {c : Call} {h : AH} {a b : List Nat} : cmpD I c .eq (.t (.str a)) (.t (.str b)) h = .ok (.t (.bl (a == b))) h := eq_val (a := .str a) (b := .str b) rfl (snap_t _ _ _) (snap_t _ _ _) rfl rfl
theorem eq_int {c : Call} {h : AH} {i j : Int} : cmpD I c .eq (.t (.int i)) (.t (.int j)) h = .ok (.t (.bl (i == j))) h := eq_val (a := .int i) (b := .int j) rfl (snap_t _ _ _) (snap_t _ _ _) rfl rfl
theorem eq_bl {c : Call} {h : AH} {a b : Bool} : cmpD I c .eq (.t (.bl a)) (.t (.bl b)) h = .ok (.t (.bl (a == b))) h := eq_val (a := .bl a) (b := .bl b) rfl (snap_t _ _ _) (snap_t _ _ _) rfl rfl
theorem ne_bl {c : Call} {h : AH} {a b : Bool} : cmpD I c .ne (.t (.bl a)) (.t (.bl b)) h = .ok (.t (.bl (!(a == b)))) h := ne_val (a := .bl a) (b := .bl b) rfl (snap_t _ _ _) (snap_t _ _ _) rfl rfl
theorem ne_int {c : Call} {h : AH} {i j : Int} : cmpD I c .ne (.t (.int i)) (.t (.int j)) h = .ok (.t (.bl (!(i == j)))) h := ne_val (a := .int i) (b := .int j) rfl (snap_t _ _ _) (snap_t _ _ _) rfl rfl
theorem idx0_pr {c : Call} {h : AH} {a b : List Nat} : idxD I c (.t (pr a b)) (.t (.int 0)) h = .ok (.t (.str a)) h := idx_seq (ds := [.t (.str a), .t (.str b)]) (m := 0) rfl rfl rfl rfl rfl
theorem idx1_pr {c : Call} {h : AH} {a b : List Nat} : idxD I c (.t (pr a b)) (.t (.int 1)) h = .ok (.t (.str b)) h := idx_seq (ds := [.t (.str a), .t (.str b)]) (m := 1) rfl rfl rfl rfl rfl
theorem turn279 (h256 : I.tbl 256 = some ⟨0, 0, 0, false, b256⟩) (n : Nat) (h : AH) (style : Int) (hs : 0 ≤ style ∧ style < 8) (mask : Int) (rows : List T) (hl : rows.length < 10000) (a b : List Nat) (z3 z4 z5 z6 : Option D) :
    ∃ (mask' : Int) (rows' : List T) (y4 y5 y6 : Option D), (rows' = rows ∨ rows' = rows ++ [pr a b]) ∧ turn (.n 3) (fun env h => evSs I (callN I (n + 1)) b279_1 env h) (.t (pr a b)) [some (.t (.int style)), some (.t (.int mask)), some (.r h.length), z3, z4, z5, z6] (h ++ [.lst (rows.map .t)]) =
      SR.nx [some (.t (.int style)), some (.t (.int mask')), some (.r h.length), some (.t (pr a b)), y4, y5, y6] (h ++ [.lst (rows'.map .t)]) := by
  have cR : ∀ h', callD I (callN I (n + 1)) 256 [] [] [] h' = .ok (.t rdsT) h' := fun h' => by rw [call0 h256, reads_ok h256]
  have m2 : ∀ h', binD I (callN I (n + 1)) .mod (.t (.int mask)) (.t (.int 2)) h' = .ok (.t (.int (mask.fmod 2))) h' := fun h' => bin_mod (by decide)
  have d2 : ∀ h', binD I (callN I (n + 1)) .fdiv (.t (.int mask)) (.t (.int 2)) h' = .ok (.t (.int (mask.fdiv 2))) h' := fun h' => bin_fdiv (by decide)
  have g1 := hget0 h [Ob.lst (rows.map .t)]
  have hlen : (rows.map D.t).length < sizeMax := by simp [sizeMax]; omega
  have ap := app_l (t := pr a b) g1 hlen
  have lr := lstRef_l g1
  rw [hset0] at ap
  have f4 : ∀ (x y z w : T) (h' : AH), frzsR [.t x, .t y, .t z, .t w] h' = .ok [x, y, z, w] h' := fun x y z w h' => frzsR_t [x, y, z, w] h'
  have la : ∀ (x y z w x' y' z' w' : T) (h' : AH), binD I (callN I (n + 1)) .add (.t (.lst [x, y, z, w])) (.t (.lst [x', y', z', w'])) h' = .ok (.t (.lst [x, y, z, w, x', y', z', w'])) h' := fun x y z w x' y' z' w' h' => by
    unfold binD
    simp only [int2, str2, tup2, lst2, lstOf]
    have := frzsR_t [x, y, z, w, x', y', z', w'] h'
    simp only [List.map_cons, List.map_nil] at this
    simp [sizeMax, this]
  have ix : ∀ (x0 x1 x2 x3 x4 x5 x6 x7 : Bool), ∃ f : Bool, ∀ h', idxD I (callN I (n + 1)) (.t (.lst [.bl x0, .bl x1, .bl x2, .bl x3, .bl x4, .bl x5, .bl x6, .bl x7])) (.t (.int style)) h' = .ok (.t (.bl f)) h' := fun x0 x1 x2 x3 x4 x5 x6 x7 => by
    have hst : style.toNat < 8 := by omega
    refine ⟨[x0, x1, x2, x3, x4, x5, x6, x7][style.toNat], fun h' => idx_seq (ds := ([x0, x1, x2, x3, x4, x5, x6, x7].map T.bl).map .t) (m := style.toNat) rfl rfl rfl (place_ok hs.1 (by simp; omega)) ?_⟩
    rw [List.map_map, List.getElem?_map, List.getElem?_eq_getElem (by simpa using hst)]
    rfl
  simp only [turn, Tg.set, List.set_cons_succ, List.set_cons_zero]
  generalize hA : (a == sR || a == sA) = A
  generalize hB : (b == sR || b == sA) = Bq
  generalize hC : (a == sA) = C
  generalize hD : (b == sL) = Dq
  generalize hE : (mask.fmod 2 == 1) = E
  have hC' : (a == [97, 99, 113, 117, 105, 114, 101]) = C := hC
  have hD' : (b == [114, 101, 108, 101, 97, 115, 101]) = Dq := hD
  obtain ⟨f, hf⟩ := ix false true (A || !Bq) (C || Dq) (E && A) E E E
  have ir := fun h' => in_reads (I := I) (c := callN I (n + 1)) (a := a) (h := h')
  have nr := fun h' => notin_reads (I := I) (c := callN I (n + 1)) (a := b) (h := h')
  simp only [hA] at ir
  simp only [hB] at nr
  refine ⟨mask.fdiv 2, if f then rows ++ [pr a b] else rows, some (.t (.bl A)), some (.t (.bl E)), some (.t (.lst [.bl false, .bl true, .bl (A || !Bq), .bl (C || Dq), .bl (E && A), .bl E, .bl E, .bl E])), by cases f <;> simp, ?_⟩
  generalize hp : pr a b = p at *
  have i0 := fun h' => idx0_pr (I := I) (c := callN I (n + 1)) (a := a) (b := b) (h := h')
  have i1 := fun h' => idx1_pr (I := I) (c := callN I (n + 1)) (a := a) (b := b) (h := h')
  rw [hp] at i0 i1
  cases f <;> simp [b279_1, evSs_cons, cR, m2, d2, lr, ap, f4, la, eq_int, eq_str, i0, i1, ir, nr, hE, hC', hD', hf]
theorem some_pairs_ok (h279 : I.tbl 279 = some ⟨2, 2, 7, false, b279⟩) (h149 : I.tbl 149 = some ⟨0, 0, 3, false, b149⟩) (h215 : I.tbl 215 = some ⟨0, 0, 0, false, b215⟩) (h256 : I.tbl 256 = some ⟨0, 0, 0, false, b256⟩)
    (n : Nat) (h : AH) (style : Int) (hs : 0 ≤ style ∧ style < 8) (mask : Int) : ∃ p : T → Bool, callN I (n + 3) 279 [.t (.int style), .t (.int mask)] h = .ok (.t (.lst (fil p))) h := by
  rw [call_eq h279 (n + 2) _ h rfl]
  have cA : ∀ h', callD I (callN I (n + 2)) 149 [] [] [] h' = .ok (.t (.lst all16)) h' := fun h' => by rw [call0 h149, all_pairs_ok h149 h215]
  have hw : ∀ h', walkOf I h' (.t (.lst all16)) = some (.t (.lst all16), all16.map D.t) := fun h' => rfl
  obtain ⟨env', h', e, mask', rows, z3, z4, z5, z6, hsub, rfl, rfl⟩ := forL_ok (d := .t (.lst all16)) (all := all16.map D.t) (f := turn (.n 3) fun env h => evSs I (callN I (n + 2)) b279_1 env h)
    (fun j env h' => ∃ (mask : Int) (rows : List T) (z3 z4 z5 z6 : Option D), rows.Sublist (all16.take j) ∧ env = [some (.t (.int style)), some (.t (.int mask)), some (.r h.length), z3, z4, z5, z6] ∧ h' = h ++ [.lst (rows.map .t)]) (all16.map D.t) 0
    [some (.t (.int style)), some (.t (.int mask)), some (.r h.length), none, none, none, none] (h ++ [.lst []])
    ⟨mask, [], none, none, none, none, List.nil_sublist _, rfl, rfl⟩ (fun j env h' _ => rfl) (fun j x env h' ex ⟨mask, rows, z3, z4, z5, z6, hsub, e1, e2⟩ => by
      subst e1 e2
      obtain ⟨g, rfl, hm, hj, tk⟩ := take_next ex
      obtain ⟨a, ha, b, hb, rfl⟩ := mem16 hm
      have hl := hsub.length_le
      rw [List.length_take] at hl
      have h16 : all16.length = 16 := rfl
      obtain ⟨mask', rows', y4, y5, y6, hr, et⟩ := turn279 h256 (n + 1) h style hs mask rows (by omega) a b z3 z4 z5 z6
      refine ⟨_, _, .inl et, mask', rows', _, _, _, _, ?_, rfl, rfl⟩
      rw [tk]
      rcases hr with rfl | rfl
      · exact hsub.trans (List.sublist_append_left _ _)
      · exact List.Sublist.append hsub (List.Sublist.refl _))
  simp only [List.length_map, Nat.zero_add, List.take_length] at hsub
  have r1 := ret_l (h := h) (ts := rows)
  refine ⟨mem_ rows, ?_⟩
  rw [← sub_fil hsub]
  simp [b279, start, evSs_cons, cA, hw, e, r1, -List.map_map]
end
end Kq
set_option autoImplicit false
set_option maxRecDepth 100000
namespace Kq
open Kp
open Kp.B
section
variable {I : Info}
theorem bi_len_lst {c : Call} {h : AH} {ts : List T} : biD I c .len [.t (.lst ts)] h = .ok (.t (.int ts.length)) h := by
  rw [bi_len_seq (ds := ts.map .t) rfl rfl, List.length_map]
def leP (p q : T → Bool) : Bool := (fil fun g => p g && !q g).isEmpty
def eqP (p q : T → Bool) : Bool := eqT (.lst (fil p)) (.lst (fil q))
theorem isi_pairs {c : Call} {h : AH} {rows : List T} : biD I c (.isi (.cls 12)) [.t (pairsT rows)] h = .ok (.t (.bl true)) h := rfl
theorem le_pairs (P : HasP2 I) (n : Nat) (h : AH) (p q : T → Bool) : callN I (n + 1) 125 [.t (pS p), .t (pS q)] h = .ok (.t (.bl (leP p q))) h := by
  rw [call_eq P.t125 n _ h rfl]
  have hl : ev I (callN I n) (.lc false (.v 2) [2] (.n 2) (.val (.attr (.v 0) 32)) b125_1 .nil) [some (.t (pS p)), some (.t (pS q)), none] h = .ok (.t (.lst (fil fun g => p g && !q g))) h := by
    refine lcs (q := fun g => !q g) ?_ fun x hx => ?_
    · rw [evI_val, attr_rows P.toHasP (rows := fil p) (by simp)]; rfl
    · have ha := attr_rows P.toHasP (c := callN I n) (env := [some (.t (pS p)), some (.t (pS q)), some (.t x)]) (h := h) (e := .v 1) (rows := fil q) (by simp)
      have hin := notin_tree (I := I) (c := callN I n) (h := h) (gs := fil q) fil_mem hx
      rw [mem_fil hx] at hin
      simp only [lcF, clause, Tg.set, wipe, List.set_cons_succ, List.set_cons_zero, b125_1, isNo]
      cases hm : q x <;> simp [ha, hin, hm, -ev_attr]
  have tr : truth h (.t (.lst (fil fun g => p g && !q g))) = some (!leP p q) := rfl
  simp [b125, start, evSs_cons, hl, isi_pairs, tr, ret_t0]
theorem eq_pairs (P : HasP2 I) (n : Nat) (h : AH) (p q : T → Bool) : callN I (n + 1) 122 [.t (pS p), .t (pS q)] h = .ok (.t (.bl (eqP p q))) h := by
  rw [call_eq P.t122 n _ h rfl]
  have h1 := attr_rows P.toHasP (c := callN I n) (env := [some (.t (pS p)), some (.t (pS q))]) (h := h) (e := .v 0) (rows := fil p) (by simp)
  have h2 := attr_rows P.toHasP (c := callN I n) (env := [some (.t (pS p)), some (.t (pS q))]) (h := h) (e := .v 1) (rows := fil q) (by simp)
  have he : cmpD I (callN I n) .eq (.t (.lst (fil p))) (.t (.lst (fil q))) h = .ok (.t (.bl (eqP p q))) h := eq_val (a := .lst (fil p)) (b := .lst (fil q)) rfl (snap_t _ _ _) (snap_t _ _ _) (plainL fil_mem) (plainL fil_mem)
  simp [b122, start, evSs_cons, isi_pairs, h1, h2, he, ret_t0, -ev_attr]
theorem cmp_le_own (P : HasP2 I) {c : Call} {h : AH} {p q : List T} : cmpD I c .le (.t (pairsT p)) (.t (pairsT q)) h = c 125 [.t (pairsT p), .t (pairsT q)] h := by
  have h1 : cmpD I c .le (.t (pairsT p)) (.t (pairsT q)) h = (match own2 I h (.t (pairsT p)) (.t (pairsT q)) mLe with
        | some f => if Cop.le = .le then c f [.t (pairsT p), .t (pairsT q)] h else .no
        | none => .no) := rfl
  rw [h1]
  have h5 : own2 I h (.t (pairsT p)) (.t (pairsT q)) mLe = I.meth 12 4 := rfl
  rw [h5, P.m4]
  rfl
theorem cmp_eq_own (P : HasP2 I) {c : Call} {h : AH} {p q : List T} : cmpD I c .eq (.t (pairsT p)) (.t (pairsT q)) h = ((c 122 [.t (pairsT p), .t (pairsT q)] h).bind fun d h => R.of (blOf d) h).bind fun b h => .ok (.t (.bl b)) h := by
  have h1 : cmpD I c .eq (.t (pairsT p)) (.t (pairsT q)) h = (eqD I c (.t (pairsT p)) (.t (pairsT q)) h).bind fun b h => .ok (bD b) h := rfl
  rw [h1]
  unfold eqD
  have h5 : own2 I h (.t (pairsT p)) (.t (pairsT q)) mEq = I.meth 12 3 := rfl
  rw [h5, P.m3]
  rfl
theorem same_ok (h270 : I.tbl 270 = some ⟨2, 2, 2, false, b270⟩) (n : Nat) (h : AH) (a b : Bool) : callN I (n + 1) 270 [.t (.bl a), .t (.bl b)] h = .ok (.t (.bl (a == b))) h := by
  rw [call_eq h270 n _ h rfl]
  have hi : biD I (callN I n) (.isi .bool) [.t (.bl a)] h = .ok (.t (.bl true)) h := rfl
  simp [b270, start, evSs_cons, hi, eq_bl, ret_t0]
theorem leP_iff {p q : T → Bool} : leP p q = true ↔ ∀ g ∈ all16, p g = true → q g = true := by
  unfold leP fil
  rw [List.isEmpty_iff, List.filter_eq_nil_iff]
  constructor
  · intro h g hg hp
    have := h g hg
    cases hq : q g with
    | true => rfl
    | false => exact absurd (by rw [hp, hq]; rfl) this
  · intro h g hg hp
    simp only [Bool.and_eq_true, Bool.not_eq_true'] at hp
    rw [h g hg hp.1] at hp
    exact Bool.noConfusion hp.2
theorem eqP_iff {p q : T → Bool} : eqP p q = true ↔ ∀ g ∈ all16, p g = q g := by
  unfold eqP
  have : eqT (.lst (fil p)) (.lst (fil q)) = eqTs (fil p) (fil q) := rfl
  rw [this, eqTs16 fil_mem fil_mem]
  constructor
  · intro h g hg
    rw [← mem_fil (p := p) hg, h, mem_fil hg]
  · exact fil_congr
theorem eqT16_dec {x y : T} (hx : x ∈ all16) (hy : y ∈ all16) {c : Call} {h : AH} : cmpD I c .ne (.t x) (.t y) h = .ok (.t (.bl (!eqT x y))) h := by
  obtain ⟨a, _, b, _, rfl⟩ := mem16 hx
  obtain ⟨a', _, b', _, rfl⟩ := mem16 hy
  exact ne_val (a := pr a b) (b := pr a' b') rfl (snap_t _ _ _) (snap_t _ _ _) rfl rfl
def St296 (h : AH) (x0 x1 x2 x3 x4 : Option D) (k : Nat) (env : Env) (h' : AH) : Prop :=
  ∃ (l : AH) (n : Nat) (ts : List T) (z6 z7 z8 : Option D), h' = h ++ l ∧ l[n]? = some (.lst (ts.map .t)) ∧ (∀ g ∈ ts, g ∈ all16) ∧ ts.length ≤ 16 + k ∧ env = [x0, x1, x2, x3, x4, some (.r (h.length + n)), z6, z7, z8]
theorem notin_live {c : Call} {h : AH} {n : Nat} {gs : List T} {p : T} (e : h[n]? = some (.lst (gs.map .t))) (hg : ∀ g ∈ gs, g ∈ all16) (hp : p ∈ all16) : cmpD I c .notin (.t p) (.r n) h = .ok (.t (.bl (!mem_ gs p))) h := by
  rw [cmp_notin, in_val (a := p) (b := .lst gs) (ts := gs) (cls_lst e) rfl (by simp only [dctOf, e]) (snap_t _ _ _) (snap_l e) rfl (plain16 hp) (allPlain hg)]
  rfl
theorem turn296 (h149 : I.tbl 149 = some ⟨0, 0, 3, false, b149⟩) (h215 : I.tbl 215 = some ⟨0, 0, 0, false, b215⟩) (n : Nat) (h : AH) (x0 x3 : Option D) (ds : List Int) (hd : ∀ d ∈ ds, 0 ≤ d ∧ d < 1000) (at_ : Int) (j : Nat) (ha : 0 ≤ at_ ∧ at_ + j < ds.length) (grow : Bool) (k : Nat) (hk : k < 5000)
    {env : Env} {h' : AH} (st : St296 h x0 (some (.t (.lst (ds.map .int)))) (some (.t (.int at_))) x3 (some (.t (.bl grow))) k env h') :
    ∃ env' h'', turn (.n 6) (fun env h => evSs I (callN I (n + 2)) b296_2 env h) (.t (.int j)) env h' = SR.nx env' h'' ∧ St296 h x0 (some (.t (.lst (ds.map .int)))) (some (.t (.int at_))) x3 (some (.t (.bl grow))) (k + 1) env' h'' := by
  obtain ⟨l, m, ts, z6, z7, z8, rfl, e1, hg, hl, rfl⟩ := st
  have cA : ∀ h', callD I (callN I (n + 2)) 149 [] [] [] h' = .ok (.t (.lst all16)) h' := fun h' => by rw [call0 h149, all_pairs_ok h149 h215]
  have hidx : (at_ + j).toNat < ds.length := by omega
  have hx := hd ds[(at_ + j).toNat] (List.getElem_mem hidx)
  have i1 : ∀ h, idxD I (callN I (n + 2)) (.t (.lst (ds.map .int))) (.t (.int (at_ + j))) h = .ok (.t (.int ds[(at_ + j).toNat])) h := fun h =>
    idx_seq (ds := (ds.map T.int).map .t) (m := (at_ + j).toNat) rfl rfl rfl (by rw [place_ok (by omega) (by simp; omega)]) (by simp [hidx])
  generalize ds[(at_ + j).toNat] = dx at *
  have m0 := Int.fmod_nonneg_of_pos dx (show (0 : Int) < 16 by decide)
  have m1 := Int.fmod_lt_of_pos dx (show (0 : Int) < 16 by decide)
  have l16 : all16.length = 16 := rfl
  have lt16 : (dx.fmod 16).toNat < all16.length := by rw [l16]; omega
  have i2 : ∀ h, idxD I (callN I (n + 2)) (.t (.lst all16)) (.t (.int (dx.fmod 16))) h = .ok (.t all16[(dx.fmod 16).toNat]) h := fun h =>
    idx_seq (ds := all16.map .t) (m := (dx.fmod 16).toNat) rfl rfl rfl (place_ok m0 (by simp [l16]; omega)) (by rw [List.getElem?_map, List.getElem?_eq_getElem lt16]; rfl)
  have hgm : all16[(dx.fmod 16).toNat] ∈ all16 := List.getElem_mem lt16
  generalize all16[(dx.fmod 16).toNat] = g at *
  have bm : ∀ h, binD I (callN I (n + 2)) .mod (.t (.int dx)) (.t (.int 16)) h = .ok (.t (.int (dx.fmod 16))) h := fun h => bin_mod (by decide)
  have e1' : (h ++ l)[h.length + m]? = some (.lst (ts.map .t)) := by rw [hget]; exact e1
  have lr := lstRef_l e1'
  have hni := notin_live (I := I) (c := callN I (n + 2)) e1' hg hgm
  have hlen : (ts.map D.t).length < sizeMax := by simp [sizeMax]; omega
  have ap := app_l (t := g) e1' hlen
  rw [hset] at ap
  simp only [turn, Tg.set, List.set_cons_succ, List.set_cons_zero]
  cases hm : mem_ ts g with
  | false =>
    rw [hm] at hni
    refine ⟨[x0, some (.t (.lst (ds.map .int))), some (.t (.int at_)), x3, some (.t (.bl grow)), some (.r (h.length + m)), some (.t (.int j)), some (.t g), z8], _, ?_, l.set m (.lst ((ts ++ [g]).map .t)), m, ts ++ [g], _, _, _, rfl, ?_, ?_, by simp; omega, rfl⟩
    · simp [b296_2, evSs_cons, i1, i2, cA, bm, hni, lr, ap]
    · rw [List.getElem?_set_self (List.getElem?_eq_some_iff.mp e1).1]
    · intro y hy
      rcases List.mem_append.mp hy with hy | hy
      · exact hg y hy
      · rw [List.mem_singleton.mp hy]; exact hgm
  | true =>
    rw [hm] at hni
    cases grow with
    | true =>
      refine ⟨[x0, some (.t (.lst (ds.map .int))), some (.t (.int at_)), x3, some (.t (.bl true)), some (.r (h.length + m)), some (.t (.int j)), some (.t g), z8], h ++ l, ?_, l, m, ts, _, _, _, rfl, e1, hg, by omega, rfl⟩
      simp [b296_2, evSs_cons, i1, i2, cA, bm, hni]
    | false =>
      have hlc : ev I (callN I (n + 2)) (.lc true (.v 8) [8] (.n 8) (.val (.v 5)) b296_1 .nil) [x0, some (.t (.lst (ds.map .int))), some (.t (.int at_)), x3, some (.t (.bl false)), some (.r (h.length + m)), some (.t (.int j)), some (.t g), z8] (h ++ l) =
          .ok (.r (h ++ l).length) ((h ++ l) ++ [.lst (((ts.filter fun x => !eqT x g).map fun x => x).map .t)]) := by
        refine lc_filterL (d := .r (h.length + m)) (p := fun x => !eqT x g) (g := fun x => x) ?_ (still_l e1') (by simpa using hlen) fun x hx => ?_
        · simp [walkOf, lstOf_l e1']
        · have := eqT16_dec (I := I) (c := callN I (n + 2)) (h := h ++ l) (hg x hx) hgm
          simp only [lcF, clause, Tg.set, wipe, List.set_cons_succ, List.set_cons_zero, b296_1, isNo]
          cases hq : eqT x g <;> simp [this, hq]
      have lf := List.length_filter_le (fun x => !eqT x g) ts
      refine ⟨[x0, some (.t (.lst (ds.map .int))), some (.t (.int at_)), x3, some (.t (.bl false)), some (.r (h ++ l).length), some (.t (.int j)), some (.t g), z8], _, ?_, l ++ [.lst ((ts.filter fun x => !eqT x g).map .t)], l.length, ts.filter fun x => !eqT x g, some (.t (.int j)), some (.t g), z8, rfl, by simp, fun y hy => hg y (List.mem_filter.mp hy).1, by omega, by rw [List.length_append]⟩
      simp [b296_2, evSs_cons, i1, i2, cA, bm, hni, hlc, -List.length_append]
theorem toggled_ok (h296 : I.tbl 296 = some ⟨5, 5, 9, false, b296⟩) (h149 : I.tbl 149 = some ⟨0, 0, 3, false, b149⟩) (h215 : I.tbl 215 = some ⟨0, 0, 0, false, b215⟩) (n : Nat) (h : AH) (p : T → Bool) (ds : List Int) (hd : ∀ d ∈ ds, 0 ≤ d ∧ d < 1000) (at_ many : Int) (ha : 0 ≤ at_ ∧ at_ + many ≤ ds.length) (hm : 0 ≤ many ∧ many < 1000) (grow : Bool) :
    ∃ ts : List T, (∀ g ∈ ts, g ∈ all16) ∧ ts.length < 5000 ∧ callN I (n + 3) 296 [.t (.lst (fil p)), .t (.lst (ds.map .int)), .t (.int at_), .t (.int many), .t (.bl grow)] h = .ok (.t (.lst ts)) h := by
  rw [call_eq h296 (n + 2) _ h rfl]
  have hL : biD I (callN I (n + 2)) .listL [.t (.lst (fil p))] h = .ok (.r h.length) (h ++ [.lst ((fil p).map .t)]) := bi_listL (ts := fil p) rfl rfl
  have l0 := fil_len (p := p)
  obtain ⟨env', h', e, l, m, ts, z6, z7, z8, rfl, e1, hg, hl, rfl⟩ := forL_ok (d := .t .non) (all := rng 0 many) (f := turn (.n 6) fun env h => evSs I (callN I (n + 2)) b296_2 env h)
    (St296 h (some (.t (.lst (fil p)))) (some (.t (.lst (ds.map .int)))) (some (.t (.int at_))) (some (.t (.int many))) (some (.t (.bl grow)))) (rng 0 many) 0
    [some (.t (.lst (fil p))), some (.t (.lst (ds.map .int))), some (.t (.int at_)), some (.t (.int many)), some (.t (.bl grow)), some (.r h.length), none, none, none] (h ++ [.lst ((fil p).map .t)])
    ⟨[.lst ((fil p).map .t)], 0, fil p, none, none, none, rfl, rfl, fil_mem, by omega, rfl⟩ (fun _ _ _ _ => rfl) (fun j x env h' ex st => by
      obtain ⟨rfl, hj⟩ := rng_get ex
      obtain ⟨env', h'', e, st'⟩ := turn296 h149 h215 n h (some (.t (.lst (fil p)))) (some (.t (.int many))) ds hd at_ j ⟨ha.1, by omega⟩ grow (0 + j) (by omega) st
      rw [Int.zero_add]
      exact ⟨env', h'', .inl e, st'⟩)
  rw [rng_len] at hl
  refine ⟨ts, hg, by omega, ?_⟩
  have hr : rngOk many = true := decide_eq_true (by omega)
  have r1 := ret_lk (h := h) (l := l) (k := m) (ts := ts) e1
  simp [b296, start, evSs_cons, hL, hr, e, r1]
end
end Kq
set_option autoImplicit false
set_option maxRecDepth 100000
namespace Kq
open Kp
open Kp.B
def geti {α : Type} (xs : List α) (i : Int) : Option α := match place xs.length i with
  | some n => xs[n]?
  | none => none
section
variable {α β : Type}
theorem geti_ok {xs : List α} {i : Int} (a : 0 ≤ i) : geti xs i = xs[i.toNat]? := by
  unfold geti place
  rw [if_pos a]
  by_cases b : i < xs.length
  · rw [if_pos b]
  · rw [if_neg b, List.getElem?_eq_none (by omega)]
@[scoped simp] theorem geti_map {xs : List α} {f : α → β} {i : Int} : geti (xs.map f) i = (geti xs i).map f := by
  unfold geti
  rw [List.length_map]
  cases place xs.length i <;> simp
theorem gi0 {xs : List α} : geti xs 0 = xs[0]? := geti_ok (by decide)
theorem gi1 {xs : List α} : geti xs 1 = xs[1]? := geti_ok (by decide)
theorem gi2 {xs : List α} : geti xs 2 = xs[2]? := geti_ok (by decide)
theorem gi3 {xs : List α} : geti xs 3 = xs[3]? := geti_ok (by decide)
theorem gi4 {xs : List α} : geti xs 4 = xs[4]? := geti_ok (by decide)
theorem gi5 {xs : List α} : geti xs 5 = xs[5]? := geti_ok (by decide)
theorem gi6 {xs : List α} : geti xs 6 = xs[6]? := geti_ok (by decide)
theorem gi7 {xs : List α} : geti xs 7 = xs[7]? := geti_ok (by decide)
theorem gi8 {xs : List α} : geti xs 8 = xs[8]? := geti_ok (by decide)
theorem gi9 {xs : List α} : geti xs 9 = xs[9]? := geti_ok (by decide)
theorem gi10 {xs : List α} : geti xs 10 = xs[10]? := geti_ok (by decide)
theorem gi11 {xs : List α} : geti xs 11 = xs[11]? := geti_ok (by decide)
theorem gi12 {xs : List α} : geti xs 12 = xs[12]? := geti_ok (by decide)
theorem gi13 {xs : List α} : geti xs 13 = xs[13]? := geti_ok (by decide)
theorem gi14 {xs : List α} : geti xs 14 = xs[14]? := geti_ok (by decide)
theorem gi15 {xs : List α} : geti xs 15 = xs[15]? := geti_ok (by decide)
theorem gi16 {xs : List α} : geti xs 16 = xs[16]? := geti_ok (by decide)
theorem gi17 {xs : List α} : geti xs 17 = xs[17]? := geti_ok (by decide)
theorem gi18 {xs : List α} : geti xs 18 = xs[18]? := geti_ok (by decide)
theorem gi19 {xs : List α} : geti xs 19 = xs[19]? := geti_ok (by decide)
theorem gi20 {xs : List α} : geti xs 20 = xs[20]? := geti_ok (by decide)
theorem gi21 {xs : List α} : geti xs 21 = xs[21]? := geti_ok (by decide)
theorem gi22 {xs : List α} : geti xs 22 = xs[22]? := geti_ok (by decide)
theorem gi23 {xs : List α} : geti xs 23 = xs[23]? := geti_ok (by decide)
theorem gi24 {xs : List α} : geti xs 24 = xs[24]? := geti_ok (by decide)
theorem gi25 {xs : List α} : geti xs 25 = xs[25]? := geti_ok (by decide)
theorem gi26 {xs : List α} : geti xs 26 = xs[26]? := geti_ok (by decide)
theorem gi27 {xs : List α} : geti xs 27 = xs[27]? := geti_ok (by decide)
theorem gi28 {xs : List α} : geti xs 28 = xs[28]? := geti_ok (by decide)
theorem gi29 {xs : List α} : geti xs 29 = xs[29]? := geti_ok (by decide)
theorem gi30 {xs : List α} : geti xs 30 = xs[30]? := geti_ok (by decide)
theorem gi31 {xs : List α} : geti xs 31 = xs[31]? := geti_ok (by decide)
theorem gi32 {xs : List α} : geti xs 32 = xs[32]? := geti_ok (by decide)
theorem gi33 {xs : List α} : geti xs 33 = xs[33]? := geti_ok (by decide)
theorem gi34 {xs : List α} : geti xs 34 = xs[34]? := geti_ok (by decide)
theorem gi35 {xs : List α} : geti xs 35 = xs[35]? := geti_ok (by decide)
theorem gi36 {xs : List α} : geti xs 36 = xs[36]? := geti_ok (by decide)
theorem gi37 {xs : List α} : geti xs 37 = xs[37]? := geti_ok (by decide)
theorem gi38 {xs : List α} : geti xs 38 = xs[38]? := geti_ok (by decide)
theorem gi39 {xs : List α} : geti xs 39 = xs[39]? := geti_ok (by decide)
theorem gi40 {xs : List α} : geti xs 40 = xs[40]? := geti_ok (by decide)
theorem gi41 {xs : List α} : geti xs 41 = xs[41]? := geti_ok (by decide)
theorem gi42 {xs : List α} : geti xs 42 = xs[42]? := geti_ok (by decide)
theorem gi43 {xs : List α} : geti xs 43 = xs[43]? := geti_ok (by decide)
theorem gi44 {xs : List α} : geti xs 44 = xs[44]? := geti_ok (by decide)
theorem gi45 {xs : List α} : geti xs 45 = xs[45]? := geti_ok (by decide)
theorem gi46 {xs : List α} : geti xs 46 = xs[46]? := geti_ok (by decide)
theorem gi47 {xs : List α} : geti xs 47 = xs[47]? := geti_ok (by decide)
theorem gi48 {xs : List α} : geti xs 48 = xs[48]? := geti_ok (by decide)
theorem gi49 {xs : List α} : geti xs 49 = xs[49]? := geti_ok (by decide)
theorem gi50 {xs : List α} : geti xs 50 = xs[50]? := geti_ok (by decide)
theorem gi51 {xs : List α} : geti xs 51 = xs[51]? := geti_ok (by decide)
theorem gi52 {xs : List α} : geti xs 52 = xs[52]? := geti_ok (by decide)
theorem gi53 {xs : List α} : geti xs 53 = xs[53]? := geti_ok (by decide)
theorem gi54 {xs : List α} : geti xs 54 = xs[54]? := geti_ok (by decide)
theorem gi55 {xs : List α} : geti xs 55 = xs[55]? := geti_ok (by decide)
theorem gi56 {xs : List α} : geti xs 56 = xs[56]? := geti_ok (by decide)
theorem gi57 {xs : List α} : geti xs 57 = xs[57]? := geti_ok (by decide)
theorem gi58 {xs : List α} : geti xs 58 = xs[58]? := geti_ok (by decide)
theorem gi59 {xs : List α} : geti xs 59 = xs[59]? := geti_ok (by decide)
theorem gi60 {xs : List α} : geti xs 60 = xs[60]? := geti_ok (by decide)
theorem gi61 {xs : List α} : geti xs 61 = xs[61]? := geti_ok (by decide)
theorem gi62 {xs : List α} : geti xs 62 = xs[62]? := geti_ok (by decide)
theorem gi63 {xs : List α} : geti xs 63 = xs[63]? := geti_ok (by decide)
@[scoped simp] theorem geti_cast {xs : List α} {n : Nat} : geti xs (n : Int) = xs[n]? := by
  rw [geti_ok (Int.natCast_nonneg n)]; rfl
theorem geti_neg1 {xs : List α} {x : α} : geti (xs ++ [x]) (-1) = some x := by
  unfold geti place
  rw [if_neg (by decide), if_pos (by simp; omega)]
  have : ((-1 : Int) + (xs ++ [x]).length).toNat = xs.length := by simp; omega
  rw [this]
  simp
def dr (ds : List Int) (i : Int) : Int := (geti ds i).getD 0
theorem geti_dr {ds : List Int} {i : Int} (a : 0 ≤ i) (b : i < ds.length) : geti ds i = some (dr ds i) := by
  unfold dr
  rw [geti_ok a, List.getElem?_eq_getElem (by omega)]; rfl
def Drw (ds : List Int) : Prop := ∀ d ∈ ds, 0 ≤ d ∧ d < 1000
theorem Drw.bd {ds : List Int} (H : Drw ds) (i : Int) : 0 ≤ dr ds i ∧ dr ds i < 1000 := by
  unfold dr geti
  cases place ds.length i with
  | none => simp
  | some n =>
    dsimp only
    cases q : ds[n]? with
    | none => simp
    | some d => exact H d (List.mem_of_getElem? q)
end
section
variable {I : Info} {c : Call} {env : Env} {h l : AH} {k n : Nat}
@[scoped simp] theorem frzsR_nil : frzsR [] h = .ok [] h := rfl
@[scoped simp] theorem frzsR_cons {t : T} {ds : List D} : frzsR (.t t :: ds) h = (frzsR ds h).bind fun ts h => .ok (t :: ts) h := by
  unfold frzsR
  have : frzL (frz 4) (.t t :: ds) h = (match frzL (frz 4) ds h with
      | some (xs, h2) => some (t :: xs, h2)
      | none => none) := rfl
  rw [this]
  cases frzL (frz 4) ds h with
  | none => rfl
  | some p => rfl
@[scoped simp] theorem frzsR_map {ts : List T} : frzsR (ts.map .t) h = .ok ts h := frzsR_t ts h
@[scoped simp] theorem frzsR_map2 {α : Type} {ts : List α} {f : α → T} : frzsR (ts.map (D.t ∘ f)) h = .ok (ts.map f) h := by rw [← List.map_map]; exact frzsR_t _ h
@[scoped simp] theorem frzR_tt {t : T} : frzR (.t t) h = .ok t h := rfl
@[scoped simp] theorem hg {x : AH} : (h ++ x)[h.length + k]? = x[k]? := hget h x k
@[scoped simp] theorem hg0 {x : AH} : (h ++ x)[h.length]? = x[0]? := hget0 h x
@[scoped simp] theorem hs {x : AH} {o : Ob} : (h ++ x).set (h.length + k) o = h ++ x.set k o := hset h x k o
@[scoped simp] theorem hs0 {x : AH} {o : Ob} : (h ++ x).set h.length o = h ++ x.set 0 o := hset0 h x o
@[scoped simp] theorem ht {x : AH} : (h ++ x).take h.length = h := htake h x
@[scoped simp] theorem truth_int {i : Int} : truth h (.t (.int i)) = some (decide (i ≠ 0)) := rfl
@[scoped simp] theorem truth_str {s : List Nat} : truth h (.t (.str s)) = some (!s.isEmpty) := rfl
@[scoped simp] theorem truth_lst {s : List T} : truth h (.t (.lst s)) = some (!s.isEmpty) := rfl
@[scoped simp] theorem truth_tup {s : List T} : truth h (.t (.tup s)) = some (!s.isEmpty) := rfl
@[scoped simp] theorem truth_non : truth h (.t .non) = some false := rfl
@[scoped simp] theorem lstRef_r : lstRef h (.r n) = (match h[n]? with | some (.lst _) => true | _ => false) := by
  unfold lstRef; first | rfl | (dsimp only; split <;> simp_all)
@[scoped simp] theorem gz {α : Type} {x : α} {xs : List α} : (x :: xs)[0]? = some x := rfl
@[scoped simp] theorem app_r {t : T} : appD (.r n) (.t t) h = (match h[n]? with
      | some (.lst ds) => if ds.length < sizeMax then R.ok () (h.set n (.lst (ds ++ [.t t]))) else .no
      | _ => .no) := by
  unfold appD
  rw [frzR_t]
  rfl
@[scoped simp] theorem idx_lst {ts : List T} {i : Int} : idxD I c (.t (.lst ts)) (.t (.int i)) h = R.of ((geti ts i).map .t) h := by
  have : idxD I c (.t (.lst ts)) (.t (.int i)) h = (match place (ts.map D.t).length i with
          | some n => R.of (ts.map D.t)[n]? h
          | none => .no) := rfl
  rw [this, List.length_map]
  unfold geti
  cases place ts.length i with
  | none => rfl
  | some n => simp
@[scoped simp] theorem idx_tup {ts : List T} {i : Int} : idxD I c (.t (.tup ts)) (.t (.int i)) h = R.of ((geti ts i).map .t) h := by
  have : idxD I c (.t (.tup ts)) (.t (.int i)) h = (match place (ts.map D.t).length i with
          | some n => R.of (ts.map D.t)[n]? h
          | none => .no) := rfl
  rw [this, List.length_map]
  unfold geti
  cases place ts.length i with
  | none => rfl
  | some n => simp
theorem idx_liv {ds : List D} {i : Int} (e : h[n]? = some (.lst ds)) : idxD I c (.r n) (.t (.int i)) h = R.of (geti ds i) h := by
  unfold idxD
  rw [own1_no (cls_lst e)]
  simp only [dctOf, e, intOf, seqOf]
  unfold geti
  cases place ds.length i with
  | none => rfl
  | some n => rfl
@[scoped simp] theorem idx_str {s : List Nat} {i : Int} : idxD I c (.t (.str s)) (.t (.int i)) h = R.of ((geti s i).map fun c => .t (.str [c])) h := by
  have : idxD I c (.t (.str s)) (.t (.int i)) h = (match place s.length i with
            | some n => R.of ((s[n]?).map fun c => D.t (.str [c])) h
            | none => .no) := rfl
  rw [this]
  unfold geti
  cases place s.length i <;> rfl
@[scoped simp] theorem bin_mulq {i j : Int} (a : -18446744073709551616 < i) (b : i < 18446744073709551616) : binD I c .mul (.t (.int i)) (.t (.int j)) h = .ok (.t (.int (i * j))) h := bin_mul (by omega)
@[scoped simp] theorem bin_modq {i j : Int} (a : j ≠ 0) : binD I c .mod (.t (.int i)) (.t (.int j)) h = .ok (.t (.int (i.fmod j))) h := bin_mod a
@[scoped simp] theorem bin_fdivq {i j : Int} (a : 0 < j) (b : j < 1073741824) : binD I c .fdiv (.t (.int i)) (.t (.int j)) h = .ok (.t (.int (i.fdiv j))) h := bin_fdiv (by omega)
@[scoped simp] theorem bin_str {s z : List Nat} (a : s.length + z.length ≤ 16777216) : binD I c .add (.t (.str s)) (.t (.str z)) h = .ok (.t (.str (s ++ z))) h := by
  have : binD I c .add (.t (.str s)) (.t (.str z)) h = if Bop.add = .add ∧ s.length + z.length ≤ sizeMax then .ok (.t (.str (s ++ z))) h else .no := rfl
  rw [this, if_pos ⟨rfl, a⟩]
@[scoped simp] theorem bin_tup {s z : List T} (a : s.length + z.length ≤ 16777216) : binD I c .add (.t (.tup s)) (.t (.tup z)) h = .ok (.t (.tup (s ++ z))) h := by
  have : binD I c .add (.t (.tup s)) (.t (.tup z)) h = if Bop.add = .add ∧ s.length + z.length ≤ sizeMax then .ok (.t (.tup (s ++ z))) h else .no := rfl
  rw [this, if_pos ⟨rfl, a⟩]
@[scoped simp] theorem bin_lst {s z : List T} (a : s.length + z.length ≤ 16777216) : binD I c .add (.t (.lst s)) (.t (.lst z)) h = .ok (.t (.lst (s ++ z))) h := by
  have : binD I c .add (.t (.lst s)) (.t (.lst z)) h = if Bop.add = .add ∧ (s.map D.t).length + (z.map D.t).length ≤ sizeMax then (frzsR (s.map D.t ++ z.map D.t) h).bind fun ts h => .ok (.t (.lst ts)) h else .no := rfl
  rw [this, if_pos ⟨rfl, by simpa [sizeMax] using a⟩, ← List.map_append, frzsR_t]; rfl
@[scoped simp] theorem ceq_int {i j : Int} : cmpD I c .eq (.t (.int i)) (.t (.int j)) h = .ok (.t (.bl (i == j))) h := eq_int
@[scoped simp] theorem ceq_str {i j : List Nat} : cmpD I c .eq (.t (.str i)) (.t (.str j)) h = .ok (.t (.bl (i == j))) h := eq_str
@[scoped simp] theorem ceq_bl {i j : Bool} : cmpD I c .eq (.t (.bl i)) (.t (.bl j)) h = .ok (.t (.bl (i == j))) h := eq_bl
@[scoped simp] theorem cne_int {i j : Int} : cmpD I c .ne (.t (.int i)) (.t (.int j)) h = .ok (.t (.bl (!(i == j)))) h := ne_int
@[scoped simp] theorem cne_str {i j : List Nat} : cmpD I c .ne (.t (.str i)) (.t (.str j)) h = .ok (.t (.bl (!(i == j)))) h := ne_val (a := .str i) (b := .str j) rfl (snap_t _ _ _) (snap_t _ _ _) rfl rfl
theorem ceq_lst {x y : List T} (a : plain deep (.lst x) = true) (b : plain deep (.lst y) = true) : cmpD I c .eq (.t (.lst x)) (.t (.lst y)) h = .ok (.t (.bl (eqTs x y))) h := eq_val (a := .lst x) (b := .lst y) rfl (snap_t _ _ _) (snap_t _ _ _) a b
theorem ceq_tup {x y : List T} (a : plain deep (.tup x) = true) (b : plain deep (.tup y) = true) : cmpD I c .eq (.t (.tup x)) (.t (.tup y)) h = .ok (.t (.bl (eqTs x y))) h := eq_val (a := .tup x) (b := .tup y) rfl (snap_t _ _ _) (snap_t _ _ _) a b
theorem cin_lst {x : T} {ts : List T} (a : plain deep x = true) (b : ts.all (plain deep) = true) : cmpD I c .isin (.t x) (.t (.lst ts)) h = .ok (.t (.bl (ts.any fun z => eqT z x))) h := by
  rw [cmp_isin, in_val (a := x) (b := .lst ts) (ts := ts) rfl rfl rfl (snap_t _ _ _) (snap_t _ _ _) rfl a b]; rfl
theorem cin_tup {x : T} {ts : List T} (a : plain deep x = true) (b : ts.all (plain deep) = true) : cmpD I c .isin (.t x) (.t (.tup ts)) h = .ok (.t (.bl (ts.any fun z => eqT z x))) h := by
  rw [cmp_isin, in_val (a := x) (b := .tup ts) (ts := ts) rfl rfl rfl (snap_t _ _ _) (snap_t _ _ _) rfl a b]; rfl
theorem cnin_lst {x : T} {ts : List T} (a : plain deep x = true) (b : ts.all (plain deep) = true) : cmpD I c .notin (.t x) (.t (.lst ts)) h = .ok (.t (.bl (!ts.any fun z => eqT z x))) h := by
  rw [cmp_notin, in_val (a := x) (b := .lst ts) (ts := ts) rfl rfl rfl (snap_t _ _ _) (snap_t _ _ _) rfl a b]; rfl
def inS (ss : List (List Nat)) (a : List Nat) : Bool := ss.contains a
theorem inS_t {ss : List (List Nat)} {a : List Nat} (h : a ∈ ss) : inS ss a = true := by unfold inS; simpa using h
theorem inS_f {ss : List (List Nat)} {a : List Nat} (h : a ∉ ss) : inS ss a = false := by unfold inS; simpa using h
theorem inS_iff {ss : List (List Nat)} {a : List Nat} : inS ss a = true ↔ a ∈ ss := by unfold inS; simp
theorem any_str {ss : List (List Nat)} {a : List Nat} : ((ss.map T.str).any fun z => eqT z (.str a)) = inS ss a := by
  unfold inS
  rw [Bool.eq_iff_iff]
  simp [eqT]
theorem plain_strs {ss : List (List Nat)} : (ss.map T.str).all (plain deep) = true := by
  rw [List.all_eq_true]
  intro x hx
  obtain ⟨s, _, rfl⟩ := List.mem_map.mp hx
  rfl
@[scoped simp] theorem cin_strs {a : List Nat} {ss : List (List Nat)} : cmpD I c .isin (.t (.str a)) (.t (.lst (ss.map .str))) h = .ok (.t (.bl (inS ss a))) h := by
  rw [cin_lst rfl plain_strs, any_str]
@[scoped simp] theorem cin_strt {a : List Nat} {ss : List (List Nat)} : cmpD I c .isin (.t (.str a)) (.t (.tup (ss.map .str))) h = .ok (.t (.bl (inS ss a))) h := by
  rw [cin_tup rfl plain_strs, any_str]
@[scoped simp] theorem cnin_strs {a : List Nat} {ss : List (List Nat)} : cmpD I c .notin (.t (.str a)) (.t (.lst (ss.map .str))) h = .ok (.t (.bl (!inS ss a))) h := by
  rw [cnin_lst rfl plain_strs, any_str]
@[scoped simp] theorem len_lst {ts : List T} : biD I c .len [.t (.lst ts)] h = .ok (.t (.int ts.length)) h := bi_len_lst
@[scoped simp] theorem len_tup {ts : List T} : biD I c .len [.t (.tup ts)] h = .ok (.t (.int ts.length)) h := by
  rw [bi_len_seq (ds := ts.map .t) rfl rfl, List.length_map]
@[scoped simp] theorem len_str {s : List Nat} : biD I c .len [.t (.str s)] h = .ok (.t (.int s.length)) h := rfl
theorem len_liv {ds : List D} (e : h[n]? = some (.lst ds)) : biD I c .len [.r n] h = .ok (.t (.int ds.length)) h := bi_len_seq (cls_lst e) (by simp only [seqOf, e])
@[scoped simp] theorem list_lst {ts : List T} : biD I c .list [.t (.lst ts)] h = .ok (.t (.lst ts)) h := bi_list rfl rfl
@[scoped simp] theorem list_tup {ts : List T} : biD I c .list [.t (.tup ts)] h = .ok (.t (.lst ts)) h := bi_list rfl rfl
theorem rngOk_ok {i : Int} (a : -1000000 ≤ i) (b : i < 1000000) : rngOk i = true := decide_eq_true (by omega)
@[scoped simp] theorem rngR_q {i : Int} (a : -1000000 ≤ i) (b : i < 1000000) : rngR (.t (.int i)) h = .ok (.t .non, rng 0 i) h := rngR_ok (rngOk_ok a b)
@[scoped simp] theorem rngR2_q {i j : Int} (a : -1000000 ≤ i) (b : i < 1000000) (a' : -1000000 ≤ j) (b' : j < 1000000) : rngR2 (.t (.int i)) (.t (.int j)) h = .ok (.t .non, rng i j) h := rngR2_ok (rngOk_ok a b) (rngOk_ok a' b')
theorem callD_ok {f : Nat} {fd : Fn} {ds : List D} (e : I.tbl f = some fd) (a : ds.length = fd.np) (b : fd.np ≤ fd.po) : callD I c f ds [] [] h = c f ds h := by
  unfold callD
  rw [e]
  dsimp only
  rw [if_pos (by omega), a, Nat.sub_self]
  simp [arrD]
theorem callD_eq {f n : Nat} {fd : Fn} {ds : List D} (e : I.tbl f = some fd) (a : ds.length = fd.np) (b : fd.np ≤ fd.po) : callD I (callN I (n + 1)) f ds [] [] h = retS fd.live h.length (evSs I (callN I n) fd.body (start fd.ns ds) h) := by
  rw [callD_ok e a b, call_eq e _ _ _ a]
@[scoped simp] theorem ret_0 {lv : Bool} {t : T} : retS lv h.length (.rt (.t t) h) = .ok (.t t) h := ret_t0
@[scoped simp] theorem ret_1 {lv : Bool} {t : T} : retS lv h.length (.rt (.t t) (h ++ l)) = .ok (.t t) h := ret_t
@[scoped simp] theorem ret_nx {lv : Bool} {e : Env} : retS lv h.length (.nx e (h ++ l)) = .ok (.t .non) h := by unfold retS; dsimp only; rw [htake]
@[scoped simp] theorem ret_nx0 {lv : Bool} {e : Env} : retS lv h.length (.nx e h) = .ok (.t .non) h := by unfold retS; dsimp only; rw [List.take_length]
end
theorem frzsR_l {h : AH} {n : Nat} {ts : List T} {ds : List D} (e : h[n]? = some (.lst (ts.map .t))) : frzsR (.r n :: ds) h = (frzsR ds (h.set n .dead)).bind fun xs h => .ok (.lst ts :: xs) h := by
  have e1 := frzR_l e
  unfold frzR at e1
  unfold frzsR
  rw [frzL]
  cases q : frz 4 (.r n) h with
  | none => rw [q] at e1; cases e1
  | some p =>
    rw [q] at e1
    injection e1 with e2 e3
    dsimp only
    rw [e3, e2]
    cases frzL (frz 4) ds (h.set n .dead) with
    | none => rfl
    | some z => rfl
def attrD (I : Info) (c : Call) (x : D) (f : Nat) (h : AH) : R D := match clsOf h x with
    | some k => match I.prop k f with
      | some g => noEx (c g [x] h)
      | none => if I.fld k f then R.of (fldOf h x f) h else .no
    | none => .no
theorem ev_attrq {I : Info} {c : Call} {env : Env} {h : AH} {a : Ex} {f : Nat} : ev I c (.attr a f) env h = (ev I c a env h).bind fun x h => attrD I c x f h := by rw [ev]; try rfl
theorem attr_ins {I : Info} {c : Call} {h : AH} {k f : Nat} {ks : List Nat} {vs : List T} (p : I.prop k f = none) (q : I.fld k f = true) : attrD I c (.t (.ins k ks vs)) f h = R.of ((lk ks vs f).map .t) h := by
  unfold attrD
  rw [show clsOf h (.t (.ins k ks vs)) = some k from rfl]
  dsimp only
  rw [p]
  simp only [q, if_true]
  rfl
theorem htk {h x : AH} {k : Nat} : (h ++ x).take (h.length + k) = h ++ x.take k := by
  rw [List.take_append, List.take_of_length_le (by omega)]
  congr 2; omega
@[scoped simp] theorem isi_str {s : List Nat} {I : Info} {c : Call} {h : AH} : biD I c (.isi .str) [.t (.str s)] h = .ok (.t (.bl true)) h := rfl
@[scoped simp] theorem isi_tup {s : List T} {I : Info} {c : Call} {h : AH} : biD I c (.isi .tuple) [.t (.tup s)] h = .ok (.t (.bl true)) h := rfl
@[scoped simp] theorem isi_lst {s : List T} {I : Info} {c : Call} {h : AH} : biD I c (.isi .list) [.t (.lst s)] h = .ok (.t (.bl true)) h := rfl
@[scoped simp] theorem isi_int {s : Int} {I : Info} {c : Call} {h : AH} : biD I c (.isi .int) [.t (.int s)] h = .ok (.t (.bl true)) h := rfl
@[scoped simp] theorem isi_bli {s : Int} {I : Info} {c : Call} {h : AH} : biD I c (.isi .bool) [.t (.int s)] h = .ok (.t (.bl false)) h := rfl
@[scoped simp] theorem isi_blb {s : Bool} {I : Info} {c : Call} {h : AH} : biD I c (.isi .bool) [.t (.bl s)] h = .ok (.t (.bl true)) h := rfl
@[scoped simp] theorem walk_lst {s : List T} {I : Info} {h : AH} : walkOf I h (.t (.lst s)) = some (.t (.lst s), s.map .t) := rfl
@[scoped simp] theorem walk_tup {s : List T} {I : Info} {h : AH} : walkOf I h (.t (.tup s)) = some (.t (.tup s), s.map .t) := rfl
@[scoped simp] theorem walk_str {s : List Nat} {I : Info} {h : AH} : walkOf I h (.t (.str s)) = some (.t .non, (s.map fun c => T.str [c]).map .t) := by rw [List.map_map]; rfl
@[scoped simp] theorem cnin_chr {x : Nat} {s : List Nat} {I : Info} {c : Call} {h : AH} : cmpD I c .notin (.t (.str [x])) (.t (.str s)) h = .ok (.t (.bl (!decide (x ∈ s)))) h := rfl
@[scoped simp] theorem cin_chr {x : Nat} {s : List Nat} {I : Info} {c : Call} {h : AH} : cmpD I c .isin (.t (.str [x])) (.t (.str s)) h = .ok (.t (.bl (decide (x ∈ s)))) h := rfl
@[scoped simp] theorem is_non_t {t : T} {I : Info} {c : Call} {h : AH} : cmpD I c .isnot (.t t) (.t .non) h = .ok (.t (.bl (!isN (.t t)))) h := rfl
@[scoped simp] theorem is_non_r {n : Nat} {I : Info} {c : Call} {h : AH} : cmpD I c .isnot (.r n) (.t .non) h = .ok (.t (.bl true)) h := rfl
@[scoped simp] theorem cnin_strt {I : Info} {c : Call} {h : AH} {a : List Nat} {ss : List (List Nat)} : cmpD I c .notin (.t (.str a)) (.t (.tup (ss.map .str))) h = .ok (.t (.bl (!inS ss a))) h := by
  rw [cmp_notin, in_val (a := .str a) (b := .tup (ss.map .str)) (ts := ss.map .str) rfl rfl rfl (snap_t _ _ _) (snap_t _ _ _) rfl rfl plain_strs, any_str]; rfl
theorem oI_int {i : Int} : oInt (.t (.int i)) = some (some i) := rfl
theorem oI_non : oInt (.t .non) = some none := rfl
section
variable {d : D} {ts : List T} {f : D → Env → AH → SR} {env : Env} {h : AH}
theorem forE (P : Nat → Env → AH → Prop) (Q : D → AH → Prop) (h0 : P 0 env h) (st : ∀ j env h, P j env h → still d (ts.map .t) h = true)
    (tn : ∀ j x env h, ts[j]? = some x → P j env h → (∃ env' h', f (.t x) env h = .nx env' h' ∧ P (j + 1) env' h') ∨ (∃ y h', f (.t x) env h = .rt y h' ∧ Q y h')) :
    (∃ env' h', forL d (ts.map .t) f (ts.map .t) env h = .nx env' h' ∧ P ts.length env' h') ∨ ∃ y h', forL d (ts.map .t) f (ts.map .t) env h = .rt y h' ∧ Q y h' := by
  have gen : ∀ (rest pre : List T) (env : Env) (h : AH), ts = pre ++ rest → P pre.length env h →
      (∃ env' h', forL d (ts.map .t) f (rest.map .t) env h = .nx env' h' ∧ P ts.length env' h') ∨ ∃ y h', forL d (ts.map .t) f (rest.map .t) env h = .rt y h' ∧ Q y h' := by
    intro rest
    induction rest with
    | nil => intro pre env h e p; rw [List.append_nil] at e; rw [e]; exact .inl ⟨env, h, rfl, p⟩
    | cons x rest ih =>
      intro pre env h e p
      rcases tn pre.length x env h (by rw [e]; simp) p with ⟨env', h', e1, p1⟩ | ⟨y, h', e1, q⟩
      · have s1 := st _ _ _ p1
        rw [List.map_cons, forL, e1]
        dsimp only
        rw [s1]
        simp only [if_true]
        exact ih (pre ++ [x]) env' h' (by rw [e]; simp) (by simpa using p1)
      · refine .inr ⟨y, h', ?_, q⟩
        rw [List.map_cons, forL, e1]
  exact gen ts [] env h rfl h0
theorem forI (P : Nat → Env → AH → Prop) (h0 : P 0 env h) (st : ∀ j env h, P j env h → still d (ts.map .t) h = true)
    (tn : ∀ j x env h, ts[j]? = some x → P j env h → ∃ env' h', f (.t x) env h = .nx env' h' ∧ P (j + 1) env' h') :
    ∃ env' h', forL d (ts.map .t) f (ts.map .t) env h = .nx env' h' ∧ P ts.length env' h' := by
  rcases forE (d := d) (ts := ts) (f := f) P (fun _ _ => False) h0 st (fun j x env h a b => .inl (tn j x env h a b)) with q | ⟨_, _, _, q⟩
  · exact q
  · exact q.elim
theorem forPE (P : Nat → Env → Prop) (Q : D → Prop) (h0 : P 0 env) (st : still d (ts.map .t) h = true)
    (tn : ∀ j x env, ts[j]? = some x → P j env → (∃ env', f (.t x) env h = .nx env' h ∧ P (j + 1) env') ∨ (∃ y, f (.t x) env h = .rt y h ∧ Q y)) :
    (∃ env', forL d (ts.map .t) f (ts.map .t) env h = .nx env' h ∧ P ts.length env') ∨ ∃ y, forL d (ts.map .t) f (ts.map .t) env h = .rt y h ∧ Q y := by
  rcases forE (d := d) (ts := ts) (f := f) (env := env) (h := h) (fun j e h' => h = h' ∧ P j e) (fun y h' => h = h' ∧ Q y) ⟨rfl, h0⟩ (fun j e h' p => by rw [← p.1]; exact st) (fun j x e h' ex ⟨p, q⟩ => by
    subst p
    rcases tn j x e ex q with ⟨e', a, b⟩ | ⟨y, a, b⟩
    · exact .inl ⟨e', h, a, rfl, b⟩
    · exact .inr ⟨y, h, a, rfl, b⟩) with ⟨e', h', a, rfl, b⟩ | ⟨y, h', a, rfl, b⟩
  · exact .inl ⟨e', a, b⟩
  · exact .inr ⟨y, a, b⟩
theorem forP (P : Nat → Env → Prop) (h0 : P 0 env) (st : still d (ts.map .t) h = true)
    (tn : ∀ j x env, ts[j]? = some x → P j env → ∃ env', f (.t x) env h = .nx env' h ∧ P (j + 1) env') :
    ∃ env', forL d (ts.map .t) f (ts.map .t) env h = .nx env' h ∧ P ts.length env' := by
  rcases forPE (d := d) (ts := ts) (f := f) (env := env) (h := h) P (fun _ => False) h0 st (fun j x e a b => .inl (tn j x e a b)) with q | ⟨_, _, q⟩
  · exact q
  · exact q.elim
def rngT (a b : Int) : List T := (List.range (b - a).toNat).map fun (k : Nat) => .int (a + k)
theorem rng_T {a b : Int} : rng a b = (rngT a b).map .t := by
  unfold rng rngT
  rw [List.map_map]; rfl
theorem rngT_len {a b : Int} : (rngT a b).length = (b - a).toNat := by simp [rngT]
theorem rngT_get {a b : Int} {j : Nat} {x : T} (e : (rngT a b)[j]? = some x) : x = .int (a + j) ∧ (j : Int) < b - a := by
  have := rng_get (a := a) (b := b) (j := j) (x := .t x) (by rw [rng_T, List.getElem?_map, e]; rfl)
  exact ⟨by injection this.1, this.2⟩
theorem forR {n : Int} (P : Nat → Env → AH → Prop) (h0 : P 0 env h)
    (tn : ∀ (j : Nat) env h, (j : Int) < n → P j env h → ∃ env' h', f (.t (.int j)) env h = .nx env' h' ∧ P (j + 1) env' h') :
    ∃ env' h', forL (.t .non) (rng 0 n) f (rng 0 n) env h = .nx env' h' ∧ P n.toNat env' h' := by
  rw [rng_T]
  obtain ⟨env', h', e, p⟩ := forI (d := .t .non) (ts := rngT 0 n) (f := f) P h0 (fun _ _ _ _ => rfl) (fun j x env h ex p => by
    obtain ⟨rfl, lt⟩ := rngT_get ex
    rw [Int.zero_add]
    exact tn j env h (by omega) p)
  rw [rngT_len, Int.sub_zero] at p
  exact ⟨env', h', e, p⟩
theorem forRE {n : Int} (P : Nat → Env → AH → Prop) (Q : D → AH → Prop) (h0 : P 0 env h)
    (tn : ∀ (j : Nat) env h, (j : Int) < n → P j env h → (∃ env' h', f (.t (.int j)) env h = .nx env' h' ∧ P (j + 1) env' h') ∨ (∃ y h', f (.t (.int j)) env h = .rt y h' ∧ Q y h')) :
    (∃ env' h', forL (.t .non) (rng 0 n) f (rng 0 n) env h = .nx env' h' ∧ P n.toNat env' h') ∨ ∃ y h', forL (.t .non) (rng 0 n) f (rng 0 n) env h = .rt y h' ∧ Q y h' := by
  rw [rng_T]
  have := forE (d := .t .non) (ts := rngT 0 n) (f := f) P Q h0 (fun _ _ _ _ => rfl) (fun j x env h ex p => by
    obtain ⟨rfl, lt⟩ := rngT_get ex
    rw [Int.zero_add]
    exact tn j env h (by omega) p)
  rw [rngT_len, Int.sub_zero] at this
  exact this
end
section
variable {I : Info} {c : Call} {env : Env} {h : AH} {α : Type}
theorem loopR_t {k : AH → Bool} {f : D → AH → R (List D)} {emb : α → T} {p : α → Bool} {g : α → T} (hk : k h = true) : ∀ (xs : List α), (∀ x ∈ xs, f (.t (emb x)) h = .ok (if p x then [.t (g x)] else []) h) → loopR k f ((xs.map emb).map .t) h = .ok (((xs.filter p).map g).map .t) h
  | [], _ => rfl
  | x :: xs, hf => by
    rw [List.map_cons, List.map_cons, loopR, hf x (List.mem_cons_self ..)]
    simp only [bind_okk, hk, if_true]
    rw [loopR_t hk xs (fun y hy => hf y (List.mem_cons_of_mem _ hy))]
    simp only [bind_okk, List.filter_cons]
    cases p x <;> rfl
theorem lc_t {elt : Ex} {own : List Nat} {tg : Tg} {it : It} {cond : Ex} {d : D} {emb : α → T} {xs : List α} {p : α → Bool} {g : α → T} (hit : evI I c it env h = .ok (d, (xs.map emb).map .t) h) (hs : still d ((xs.map emb).map .t) h = true) (hl : xs.length < sizeMax)
    (hf : ∀ x ∈ xs, lcF I c elt own tg cond env (.t (emb x)) h = .ok (if p x then [.t (g x)] else []) h) : ev I c (.lc false elt own tg it cond .nil) env h = .ok (.t (.lst ((xs.filter p).map g))) h := by
  rw [ev_lc, hit]
  simp only [bind_okk]
  rw [loopR_t hs xs hf]
  have l := List.length_filter_le p xs
  simp only [noEx_ok, bind_okk]
  rw [if_pos (by simp only [List.length_map]; omega)]
  simp only [Bool.false_eq_true, if_false]
  rw [frzsR_t]
  rfl
theorem lc_tL {elt : Ex} {own : List Nat} {tg : Tg} {it : It} {cond : Ex} {d : D} {emb : α → T} {xs : List α} {p : α → Bool} {g : α → T} (hit : evI I c it env h = .ok (d, (xs.map emb).map .t) h) (hs : still d ((xs.map emb).map .t) h = true) (hl : xs.length < sizeMax)
    (hf : ∀ x ∈ xs, lcF I c elt own tg cond env (.t (emb x)) h = .ok (if p x then [.t (g x)] else []) h) : ev I c (.lc true elt own tg it cond .nil) env h = .ok (.r h.length) (h ++ [.lst (((xs.filter p).map g).map .t)]) := by
  rw [ev_lc, hit]
  simp only [bind_okk]
  rw [loopR_t hs xs hf]
  have l := List.length_filter_le p xs
  simp only [noEx_ok, bind_okk]
  rw [if_pos (by simp only [List.length_map]; omega)]
  rfl
end
end Kq
set_option maxRecDepth 100000
local macro_rules | `(tactic| simp! [$ts,*]) => `(tactic| simp (disch := first | assumption | omega) only [Kq.bind_okk, Kq.bind_no, Kq.bind_exx, Kq.of_some, Kq.of_none, Kq.lift_ok, Kq.lift_no, Kq.noEx_ok, Kq.ev_v, Kq.ev_k, Kq.ev_g, Kq.ev_not, Kq.ev_neg, Kq.ev_bin, Kq.ev_cmp, Kq.ev_bool, Kq.evB_one, Kq.evB_more, Kq.or_ite, Kq.and_ite, Kq.ev_idx, Kq.ev_slc, Kq.ev_no, Kq.ev_bad, Kq.ev_tup, Kq.ev_lstL, Kq.ev_lstT, Kq.ev_bi, Kq.ev_call, Kq.ev_meth, Kq.ev_new, Kq.evs_nil, Kq.evs_cons, Kq.evI_val, Kq.rngR_ok, Kq.rngR2_ok, Kq.evI_rng1, Kq.evI_rng2, Kq.evSs_nil, Kq.evS_asg, Kq.evS_app, Kq.evS_expr, Kq.evS_ite, Kq.evS_for, Kq.evS_ret, Kq.evS_retN, Kq.evS_bad, Kq.evS_setA, Kq.evS_asgT, Kq.truth_bl, Kq.bD_eq, Kq.bin_add, Kq.bin_sub, Kq.cmp_lt, Kq.cmp_le, Kq.cmp_gt, Kq.cmp_ge, Kq.bi_intI, Kq.bi_intB, Kq.bi_abs, Kq.geti_map, Kq.geti_cast, Kq.frzsR_nil, Kq.frzsR_cons, Kq.frzsR_map, Kq.frzsR_map2, Kq.frzR_tt, Kq.hg, Kq.hg0, Kq.hs, Kq.hs0, Kq.ht, Kq.truth_int, Kq.truth_str, Kq.truth_lst, Kq.truth_tup, Kq.truth_non, Kq.lstRef_r, Kq.gz, Kq.app_r, Kq.idx_lst, Kq.idx_tup, Kq.idx_str, Kq.bin_mulq, Kq.bin_modq, Kq.bin_fdivq, Kq.bin_str, Kq.bin_tup, Kq.bin_lst, Kq.ceq_int, Kq.ceq_str, Kq.ceq_bl, Kq.cne_int, Kq.cne_str, Kq.cin_strs, Kq.cin_strt, Kq.cnin_strs, Kq.len_lst, Kq.len_tup, Kq.len_str, Kq.list_lst, Kq.list_tup, Kq.rngR_q, Kq.rngR2_q, Kq.ret_0, Kq.ret_1, Kq.ret_nx, Kq.ret_nx0, Kq.isi_str, Kq.isi_tup, Kq.isi_lst, Kq.isi_int, Kq.isi_bli, Kq.isi_blb, Kq.walk_lst, Kq.walk_tup, Kq.walk_str, Kq.cnin_chr, Kq.cin_chr, Kq.is_non_t, Kq.is_non_r, Kq.cnin_strt, Kq.evSs_cons, Kq.lcF, Kq.oI_int, Kq.oI_non, Kq.ev_attrq, Kq.gi0, Kq.gi1, Kq.gi2, Kq.gi3, Kq.gi4, Kq.gi5, Kq.gi6, Kq.gi7, Kq.gi8, Kq.gi9, Kq.gi10, Kq.gi11, Kq.gi12, Kq.gi13, Kq.gi14, Kq.gi15, Kq.gi16, Kq.gi17, Kq.gi18, Kq.gi19, Kq.gi20, Kq.gi21, Kq.gi22, Kq.gi23, Kq.gi24, Kq.gi25, Kq.gi26, Kq.gi27, Kq.gi28, Kq.gi29, Kq.gi30, Kq.gi31, Kq.gi32, Kq.gi33, Kq.gi34, Kq.gi35, Kq.gi36, Kq.gi37, Kq.gi38, Kq.gi39, Kq.gi40, Kq.gi41, Kq.gi42, Kq.gi43, Kq.gi44, Kq.gi45, Kq.gi46, Kq.gi47, Kq.gi48, Kq.gi49, Kq.gi50, Kq.gi51, Kq.gi52, Kq.gi53, Kq.gi54, Kq.gi55, Kq.gi56, Kq.gi57, Kq.gi58, Kq.gi59, Kq.gi60, Kq.gi61, Kq.gi62, Kq.gi63, Kp.start, Kp.turn, Kp.Tg.set, Kp.isNo, Kp.wipe, Kp.clause, List.map_cons, List.map_nil, List.length_cons, List.length_nil, List.replicate, List.cons_append, List.nil_append, List.set_cons_succ, List.set_cons_zero, List.getElem?_cons_succ, Option.map_some, Option.map_none, if_true, if_false, Bool.false_eq_true, Bool.not_true, Bool.not_false, Bool.true_and, Bool.false_and, Bool.and_true, Bool.and_false, Bool.or_true, Bool.or_false, Bool.true_or, Bool.false_or, beq_self_eq_true, decide_true, decide_false, reduceCtorEq, Option.isSome_some, Nat.add_zero, Nat.zero_add, Bool.not_not, ite_self, List.zip_cons_cons, List.zip_nil_left, List.zip_nil_right, List.foldl_cons, List.foldl_nil, $ts,*])
set_option autoImplicit false
namespace Kq
open Kp
open Kp.B
def sF : List Nat := [102, 117, 108, 108]
def lowers : List Nat := [97, 98, 99, 100, 101, 102, 103, 104, 105, 106, 107, 108, 109, 110, 111, 112, 113, 114, 115, 116, 117, 118, 119, 120, 121, 122]
structure Good (s : List Nat) : Prop where
  lo : 1 ≤ s.length
  hi : s.length ≤ 8
  low : ∀ c ∈ s, c ∈ lowers
  nk : s ∉ kds
  nf : s ≠ sF
structure HasN (I : Info) : Prop extends HasP2 I where
  t183 : I.tbl 183 = some ⟨3, 3, 9, false, b183⟩
  t215 : I.tbl 215 = some ⟨0, 0, 0, false, b215⟩
  t256 : I.tbl 256 = some ⟨0, 0, 0, false, b256⟩
  t149 : I.tbl 149 = some ⟨0, 0, 3, false, b149⟩
  t279 : I.tbl 279 = some ⟨2, 2, 7, false, b279⟩
section
variable {I : Info}
theorem kinds_c (P : HasN I) (n : Nat) (h : AH) : callD I (callN I (n + 1)) 215 [] [] [] h = .ok (.t (.lst (kds.map .str))) h := by rw [callD_ok P.t215 rfl (by decide), kinds_ok P.t215]
theorem reads_c (P : HasN I) (n : Nat) (h : AH) : callD I (callN I (n + 1)) 256 [] [] [] h = .ok (.t rdsT) h := by rw [callD_ok P.t256 rfl (by decide), reads_ok P.t256]
theorem all_c (P : HasN I) (n : Nat) (h : AH) : callD I (callN I (n + 2)) 149 [] [] [] h = .ok (.t (.lst all16)) h := by rw [callD_ok P.t149 rfl (by decide), all_pairs_ok P.t149 P.t215]
theorem fm_bd {x y : Int} (h : 0 < y) : 0 ≤ x.fmod y ∧ x.fmod y < y := ⟨Int.fmod_nonneg_of_pos _ h, Int.fmod_lt_of_pos _ h⟩
theorem fd_bd {x y : Int} (h : 0 < y) (a : 0 ≤ x) : 0 ≤ x.fdiv y ∧ x.fdiv y ≤ x := by
  rw [Int.fdiv_eq_ediv_of_nonneg _ (by omega)]
  exact ⟨Int.ediv_nonneg a (by omega), Int.ediv_le_self _ a⟩
theorem let26 {i : Int} (a : 0 ≤ i) (b : i < 26) : ∃ c ∈ lowers, geti lowers i = some c := by
  rw [geti_ok a]
  have : i.toNat < lowers.length := by have : lowers.length = 26 := rfl; omega
  exact ⟨lowers[i.toNat], List.getElem_mem this, List.getElem?_eq_getElem this⟩
def numV (ds : List Int) (a : Int) : Nat → Int
  | 0 => 0
  | n + 1 => numV ds a n * 1000 + dr ds (a + n)
theorem numV_bd {ds : List Int} (H : Drw ds) (a : Int) : ∀ n, 0 ≤ numV ds a n ∧ numV ds a n < ((1000 ^ n : Nat) : Int)
  | 0 => ⟨Int.le_refl _, by rw [numV]; decide⟩
  | n + 1 => by
    have := numV_bd H a n
    have := H.bd (a + n)
    rw [numV, Nat.pow_succ]
    generalize 1000 ^ n = z at *
    omega
theorem numV_lt {ds : List Int} (H : Drw ds) (a : Int) {n : Nat} (hn : n ≤ 6) : 0 ≤ numV ds a n ∧ numV ds a n < 1000000000000000000 := by
  have b := numV_bd H a n
  have b2 := Nat.pow_le_pow_right (n := 1000) (by decide) hn
  rw [show 1000 ^ 6 = 1000000000000000000 from rfl] at b2
  omega
theorem number_c (e : I.tbl 236 = some ⟨3, 3, 5, false, b236⟩) {ds : List Int} (H : Drw ds) (a m : Int) (m0 : 0 ≤ m) (hm : m ≤ 6) (ha : 0 ≤ a) (hl : a + m ≤ ds.length) (n : Nat) (h : AH) :
    callD I (callN I (n + 1)) 236 [.t (.lst (ds.map .int)), .t (.int a), .t (.int m)] [] [] h = .ok (.t (.int (numV ds a m.toNat))) h := by
  rw [callD_eq e rfl (by decide)]
  obtain ⟨env', h', e1, z, rfl, rfl⟩ := forR (n := m) (f := turn (.n 4) fun env h => evSs I (callN I n) b236_1 env h) (h := h)
    (fun j env h' => ∃ z, env = [some (.t (.lst (ds.map .int))), some (.t (.int a)), some (.t (.int m)), some (.t (.int (numV ds a j))), z] ∧ h' = h)
    (env := [some (.t (.lst (ds.map .int))), some (.t (.int a)), some (.t (.int m)), some (.t (.int 0)), none]) ⟨none, rfl, rfl⟩ (fun j env h' lt ⟨z, e1, e2⟩ => by
      subst e1 e2
      have b := numV_lt H a (show j ≤ 6 by omega)
      have g := geti_dr (ds := ds) (i := a + j) (by omega) (by omega)
      refine ⟨_, _, ?_, some (.t (.int j)), rfl, rfl⟩
      simp (disch := omega) [turn, Tg.set, b236_1, evSs_cons, g, numV])
  simp (disch := omega) [b236, start, evSs_cons, e1]
structure HasM (I : Info) : Prop extends HasN I where
  t236 : I.tbl 236 = some ⟨3, 3, 5, false, b236⟩
  t189 : I.tbl 189 = some ⟨1, 1, 5, false, b189⟩
  t224 : I.tbl 224 = some ⟨2, 2, 6, false, b224⟩
theorem good_z {s : List Nat} (a : 1 ≤ s.length) (b : s.length ≤ 8) (l : ∀ c ∈ s, c ∈ lowers) (k : s ∈ kds ∨ s = sF) : Good (122 :: s.tail) := by
  simp only [kds, List.mem_cons, List.not_mem_nil, or_false] at k
  rcases k with (rfl | rfl | rfl | rfl) | rfl <;> exact ⟨by decide, by decide, by decide, by decide, by decide⟩
theorem fence_name_c (P : HasM I) (v : Int) (hv : 0 ≤ v) : ∃ w, Good w ∧ ∀ (n : Nat) (h : AH), callD I (callN I (n + 2)) 189 [.t (.int v)] [] [] h = .ok (.t (.str w)) h := by
  have m8 := fm_bd (x := v) (show (0 : Int) < 8 by decide)
  have d8 := fd_bd (y := 8) (by decide) hv
  /- the loop, once -/
  have lp : ∀ (m : Nat), ∃ (r : Int) (w : List Nat), 0 ≤ r ∧ w.length = m ∧ (∀ c ∈ w, c ∈ lowers) ∧ (∀ M : Int, M = m → m ≤ 8 → ∀ (c : Call) (h : AH), ∃ z, forL (.t .non) (rng 0 M) (turn (.n 4) fun env h => evSs I c b189_1 env h) (rng 0 M)
      [some (.t (.int v)), some (.t (.str lowers)), some (.t (.int (v.fdiv 8))), some (.t (.str [])), none] h = .nx [some (.t (.int v)), some (.t (.str lowers)), some (.t (.int r)), some (.t (.str w)), z] h) := by
    intro m
    /- what is made, as a function -/
    let rec_ : Nat → Int × List Nat := fun j => j.rec (v.fdiv 8, []) fun _ p => (p.1.fdiv 26, p.2 ++ [(geti lowers (p.1.fmod 26)).getD 97])
    have inv : ∀ j, 0 ≤ (rec_ j).1 ∧ (rec_ j).2.length = j ∧ ∀ c ∈ (rec_ j).2, c ∈ lowers := by
      intro j
      induction j with
      | zero => exact ⟨d8.1, rfl, fun c hc => by cases hc⟩
      | succ j ih =>
        obtain ⟨i1, i2, i3⟩ := ih
        have f := fm_bd (x := (rec_ j).1) (show (0 : Int) < 26 by decide)
        obtain ⟨c, hc, gc⟩ := let26 f.1 f.2
        refine ⟨(fd_bd (y := 26) (by decide) i1).1, ?_, fun c' hc' => ?_⟩
        · show ((rec_ j).2 ++ [_]).length = _
          rw [List.length_append, i2]; rfl
        · have hc' : c' ∈ (rec_ j).2 ++ [(geti lowers ((rec_ j).1.fmod 26)).getD 97] := hc'
          rcases List.mem_append.mp hc' with hc' | hc'
          · exact i3 c' hc'
          · rw [gc] at hc'
            rw [List.mem_singleton.mp hc']; exact hc
    refine ⟨(rec_ m).1, (rec_ m).2, (inv m).1, (inv m).2.1, (inv m).2.2, fun M hM hm c h => ?_⟩
    obtain ⟨env', h', e1, z, rfl, rfl⟩ := forR (n := M) (f := turn (.n 4) fun env h => evSs I c b189_1 env h) (h := h)
      (fun j env h' => ∃ z, env = [some (.t (.int v)), some (.t (.str lowers)), some (.t (.int (rec_ j).1)), some (.t (.str (rec_ j).2)), z] ∧ h' = h)
      (env := [some (.t (.int v)), some (.t (.str lowers)), some (.t (.int (v.fdiv 8))), some (.t (.str [])), none]) ⟨none, rfl, rfl⟩ (fun j env h' lt ⟨z, e1, e2⟩ => by
        subst e1 e2
        obtain ⟨i1, i2, i3⟩ := inv j
        have f := fm_bd (x := (rec_ j).1) (show (0 : Int) < 26 by decide)
        obtain ⟨c, hc, gc⟩ := let26 f.1 f.2
        refine ⟨_, _, ?_, some (.t (.int j)), rfl, rfl⟩
        have e1 : (rec_ (j + 1)).1 = (rec_ j).1.fdiv 26 := rfl
        have e2 : (rec_ (j + 1)).2 = (rec_ j).2 ++ [c] := by
          show (rec_ j).2 ++ [(geti lowers ((rec_ j).1.fmod 26)).getD 97] = _
          rw [gc]; rfl
        rw [e1, e2]
        generalize rec_ j = p at *
        have l1 : p.2.length + [c].length ≤ 16777216 := by simp only [List.length_singleton]; omega
        simp (disch := first | omega | assumption) [turn, Tg.set, b189_1, evSs_cons, gc])
    rw [hM, Int.toNat_natCast, ← hM] at e1
    exact ⟨z, e1⟩
  obtain ⟨r, w, _, wl, wlow, el⟩ := lp (1 + v.fmod 8).toNat
  have wl1 : 1 ≤ w.length := by omega
  have wl8 : w.length ≤ 8 := by omega
  have cst : (((1 + v.fmod 8).toNat : Nat) : Int) = 1 + v.fmod 8 := by omega
  have el := el _ cst.symm (by omega)
  have lw : [97, 98, 99, 100, 101, 102, 103, 104, 105, 106, 107, 108, 109, 110, 111, 112, 113, 114, 115, 116, 117, 118, 119, 120, 121, 122] = lowers := rfl
  by_cases k : w ∈ kds ∨ w = sF
  · refine ⟨_, good_z wl1 wl8 wlow k, fun n h => ?_⟩
    rw [callD_eq P.t189 rfl (by decide)]
    obtain ⟨z, e1⟩ := el (callN I (n + 1)) h
    have hk := kinds_c P.toHasN n h
    have hc : slcD (.t (.str w)) (.t (.int 1)) (.t .non) h = .ok (.t (.str w.tail)) h := by
      have q : slcD (.t (.str w)) (.t (.int 1)) (.t .non) h = .ok (.t (.str (cut w (some 1) none))) h := rfl
      rw [q]
      have : cut w (some 1) none = w.tail := by
        rw [← List.drop_one]
        simp only [cut, clipO, clip, List.take_length]
        rw [if_pos (by decide)]
        congr 1
        simp; omega
      rw [this]
    have hk2 : inS kds w = true ∨ (w == sF) = true := by
      rcases k with k | k
      · exact .inl (inS_t k)
      · exact .inr (by simp [k])
    have sFe : [102, 117, 108, 108] = sF := rfl
    have oI : oInt (.t (.int 1)) = some (some 1) := rfl
    have l1 : [122].length + w.tail.length ≤ 16777216 := by simp; omega
    rcases hk2 with hk2 | hk2
    · simp (disch := first | omega | assumption) [b189, start, evSs_cons, lw, e1, hk, hk2, sFe, hc, oI]
    · simp (disch := first | omega | assumption) [b189, start, evSs_cons, lw, e1, hk, hk2, sFe, hc, oI]
  · have hk2 : inS kds w = false ∧ (w == sF) = false := by
      constructor
      · exact inS_f fun q => k (.inl q)
      · cases q : (w == sF) with
        | false => rfl
        | true => exact absurd (.inr (by simpa using q)) k
    refine ⟨w, ⟨wl1, wl8, wlow, fun q => k (.inl q), fun q => k (.inr q)⟩, fun n h => ?_⟩
    rw [callD_eq P.t189 rfl (by decide)]
    obtain ⟨z, e1⟩ := el (callN I (n + 1)) h
    have hk := kinds_c P.toHasN n h
    have sFe : [102, 117, 108, 108] = sF := rfl
    simp (disch := omega) [b189, start, evSs_cons, lw, e1, hk, hk2, sFe]
end
end Kq
set_option maxRecDepth 100000
set_option autoImplicit false
namespace Kq
open Kp
open Kp.B
def hd : Sts → St
  | .cons s _ => s
  | .nil => .pas
def tl : Sts → Sts
  | .cons _ r => r
  | .nil => .nil
def drp : Nat → Sts → Sts
  | 0, s => s
  | n + 1, s => drp n (tl s)
section
variable {I : Info}
theorem good_b : Good [98] := ⟨by decide, by decide, by decide, by decide, by decide⟩
theorem good_c : Good [99] := ⟨by decide, by decide, by decide, by decide, by decide⟩
theorem slc_to {s : List Nat} {k : Int} {h : AH} (a : 0 ≤ k) : slcD (.t (.str s)) (.t .non) (.t (.int k)) h = .ok (.t (.str (s.take k.toNat))) h := by
  have q : slcD (.t (.str s)) (.t .non) (.t (.int k)) h = .ok (.t (.str (cut s none (some k)))) h := rfl
  rw [q]
  have : cut s none (some k) = s.take k.toNat := by
    simp only [cut, clipO, clip, List.drop_zero]
    rw [if_pos a]
    by_cases b : k.toNat ≤ s.length
    · rw [Nat.min_eq_left b]
    · rw [Nat.min_eq_right (by omega), List.take_length, List.take_of_length_le (by omega)]
  rw [this]
theorem slc_from {s : List Nat} {k : Int} {h : AH} (a : 0 ≤ k) : slcD (.t (.str s)) (.t (.int k)) (.t .non) h = .ok (.t (.str (s.drop k.toNat))) h := by
  have q : slcD (.t (.str s)) (.t (.int k)) (.t .non) h = .ok (.t (.str (cut s (some k) none))) h := rfl
  rw [q]
  have : cut s (some k) none = s.drop k.toNat := by
    simp only [cut, clipO, clip, List.take_length]
    rw [if_pos a]
    by_cases b : k.toNat ≤ s.length
    · rw [Nat.min_eq_left b]
    · rw [Nat.min_eq_right (by omega), List.drop_length, List.drop_eq_nil_of_le (by omega)]
  rw [this]
theorem marks_c (P : HasM I) {ds : List Int} (H : Drw ds) (a : Int) (ha : 0 ≤ a) (hl : a + 8 ≤ ds.length) : ∃ m1 m2, Good m1 ∧ Good m2 ∧ m1 ≠ m2 ∧ ∀ (n : Nat) (h : AH), callD I (callN I (n + 3)) 224 [.t (.lst (ds.map .int)), .t (.int a)] [] [] h = .ok (.t (.lst [.str m1, .str m2])) h := by
  have nb : ∀ a, 0 ≤ numV ds a 4 := fun a => (numV_lt H a (by decide)).1
  obtain ⟨w1, g1, e1⟩ := fence_name_c P (numV ds a 4) (nb a)
  obtain ⟨w2, g2, e2⟩ := fence_name_c P (numV ds (a + 4) 4) (nb (a + 4))
  have n1 := fun n h => number_c (I := I) P.t236 H a 4 (by decide) (by decide) ha (by omega) n h
  have n2 := fun n h => number_c (I := I) P.t236 H (a + 4) 4 (by decide) (by decide) (by omega) (by omega) n h
  have t4 : (4 : Int).toNat = 4 := rfl
  simp only [t4] at n1 n2
  have x1 := geti_dr (ds := ds) (i := a + 1) (by omega) (by omega)
  have x2 := geti_dr (ds := ds) (i := a + 2) (by omega) (by omega)
  have x5 := geti_dr (ds := ds) (i := a + 5) (by omega) (by omega)
  have lw : [97, 98, 99, 100, 101, 102, 103, 104, 105, 106, 107, 108, 109, 110, 111, 112, 113, 114, 115, 116, 117, 118, 119, 120, 121, 122] = lowers := rfl
  have sFe : [102, 117, 108, 108] = sF := rfl
  have f26 := fm_bd (x := dr ds (a + 5)) (show (0 : Int) < 26 by decide)
  obtain ⟨ch, hch, gch⟩ := let26 f26.1 f26.2
  have lo := g1.lo
  have hi := g1.hi
  have fk := fm_bd (x := dr ds (a + 2)) (show (0 : Int) < w1.length by omega)
  generalize hk : (dr ds (a + 2)).fmod w1.length = k at *
  /- what the second one is before the last test -/
  let w3 : List Nat := if (dr ds (a + 1)).fmod 2 = 0 then w1.take k.toNat ++ [ch] ++ w1.drop (k + 1).toNat else w2
  have w3l : 1 ≤ w3.length ∧ w3.length ≤ 8 ∧ ∀ c ∈ w3, c ∈ lowers := by
    show 1 ≤ (ite _ _ _ : List Nat).length ∧ (ite _ _ _ : List Nat).length ≤ 8 ∧ ∀ c ∈ (ite _ _ _ : List Nat), c ∈ lowers
    split
    · refine ⟨by simp; omega, by simp; omega, fun c hc => ?_⟩
      rcases List.mem_append.mp hc with hc | hc
      · rcases List.mem_append.mp hc with hc | hc
        · exact g1.low c (List.mem_of_mem_take hc)
        · rw [List.mem_singleton.mp hc]; exact hch
      · exact g1.low c (List.mem_of_mem_drop hc)
    · exact ⟨g2.lo, g2.hi, g2.low⟩
  let w4 : List Nat := if (w3 == w1) || inS kds w3 || (w3 == sF) then (if w1 == [98] then [99] else [98]) else w3
  refine ⟨w1, w4, g1, ?_, ?_, fun n h => ?_⟩
  · show Good (ite _ _ _)
    split
    · split
      · exact good_c
      · exact good_b
    · rename_i q
      simp only [Bool.or_eq_true, not_or, beq_iff_eq, inS_iff] at q
      exact ⟨w3l.1, w3l.2.1, w3l.2.2, q.1.2, q.2⟩
  · show w1 ≠ ite _ _ _
    split
    · split
      · rename_i q; rw [eq_of_beq q]; decide
      · rename_i q; exact fun z => q (by rw [z]; rfl)
    · rename_i q
      simp only [Bool.or_eq_true, not_or, beq_iff_eq, inS_iff] at q
      exact fun z => q.1.1 z.symm
  · have hkc := fun n h => kinds_c P.toHasN n h
    rw [callD_eq P.t224 rfl (by decide)]
    have n1' := fun h => n1 (n + 1) h
    have w3e : (if (dr ds (a + 1)).fmod 2 = 0 then w1.take k.toNat ++ [ch] ++ w1.drop (k + 1).toNat else w2) = w3 := rfl
    have lt : (w1.take k.toNat).length ≤ 8 := by rw [List.length_take]; omega
    have ld : (w1.drop (k + 1).toNat).length ≤ 8 := by rw [List.length_drop]; omega
    have l1 : (w1.take k.toNat).length + [ch].length ≤ 16777216 := by simp only [List.length_singleton]; omega
    have l2 : (w1.take k.toNat ++ [ch]).length + (w1.drop (k + 1).toNat).length ≤ 16777216 := by rw [List.length_append]; simp only [List.length_singleton]; omega
    show _ = R.ok (D.t (.lst [.str w1, .str (if (w3 == w1) || inS kds w3 || (w3 == sF) then (if w1 == [98] then [99] else [98]) else w3)])) h
    clear_value w3
    have c1 : ∀ c h, cmpD I c .eq (.t (.str w3)) (.t (.str w1)) h = .ok (.t (.bl (w3 == w1))) h := fun c h => ceq_str
    have c2 : ∀ c h, cmpD I c .isin (.t (.str w3)) (.t (.lst (kds.map .str))) h = .ok (.t (.bl (inS kds w3))) h := fun c h => cin_strs
    have c3 : ∀ c h, cmpD I c .eq (.t (.str w3)) (.t (.str sF)) h = .ok (.t (.bl (w3 == sF))) h := fun c h => ceq_str
    have c4 : ∀ c h, cmpD I c .eq (.t (.str w1)) (.t (.str [98])) h = .ok (.t (.bl (w1 == [98]))) h := fun c h => ceq_str
    generalize (w3 == w1) = q1 at *
    generalize inS kds w3 = q2 at *
    generalize (w3 == sF) = q3 at *
    generalize (w1 == [98]) = q4 at *
    clear nb
    generalize numV ds a 4 = v1 at *
    generalize numV ds (a + 4) 4 = v2 at *
    generalize dr ds (a + 1) = d1 at *
    generalize dr ds (a + 2) = d2 at *
    generalize dr ds (a + 5) = d5 at *
    by_cases q : d1.fmod 2 = 0
    · have hk' : w1.length ≠ 0 := by omega
      rw [if_pos q] at w3e
      cases q1 <;> cases q2 <;> cases q3 <;> cases q4 <;> simp! [b224, hkc, c1, c2, c3, c4, sFe, n1, n2, e1, e2, x1, x2, x5, lw, gch, q, hk, slc_to, slc_from, w3e]
    · rw [if_neg q] at w3e
      subst w3e
      cases q1 <;> cases q2 <;> cases q3 <;> cases q4 <;> simp! [b224, hkc, c1, c2, c3, c4, sFe, n1, n2, e1, e2, x1, beq_false_of_ne q]
end
end Kq
set_option maxRecDepth 100000
set_option autoImplicit false
namespace Kq
open Kp
open Kp.B
structure Bk where
  kept : T → Bool
  fs : List (List Nat × (T → Bool))
  early : Bool
  coh : Bool
namespace Bk
def ms (b : Bk) : List (List Nat) := b.fs.map (·.1)
def by_ (b : Bk) (n : List Nat) : T → Bool := if n = sF then fun _ => true else match b.fs.find? (fun f => f.1 == n) with
  | some f => f.2
  | none => fun _ => false
def names (b : Bk) : List (List Nat) := sortS (b.ms ++ [sF])
structure Ok (b : Bk) : Prop where
  good : ∀ n ∈ b.ms, Good n
  nd : b.ms.Nodup
  few : b.fs.length ≤ 3
def row (f : List Nat × (T → Bool)) : T := .lst [.str f.1, .lst (fil f.2)]
def law (b : Bk) : T := .lst [.lst (fil b.kept), .lst (.lst [.str sF, .lst all16] :: b.fs.map row), .bl b.early, .bl b.coh]
def tree (b : Bk) : T := .ins 1 [15, 9, 8, 6] [pS b.kept, .dct b.names (b.names.map fun n => pS (b.by_ n)), .bl b.early, .bl b.coh]
end Bk
structure HasD (I : Info) : Prop extends HasM I where
  t164 : I.tbl 164 = some ⟨3, 3, 7, false, b164⟩
section
variable {I : Info}
def fitS (style : Int) (bit : Bool) : T → Bool
  | .tup [.str a, .str b] => [false, true, (a == sR || a == sA) || !(b == sR || b == sA), (a == sA) || (b == sL), bit && (a == sR || a == sA), bit, bit, bit].getD style.toNat false
  | _ => false
def MS (mask : Int) : Nat → Int
  | 0 => mask
  | j + 1 => (MS mask j).fdiv 2
def RS (style mask : Int) : Nat → List T
  | 0 => []
  | j + 1 => RS style mask j ++ (match all16[j]? with
    | some g => if fitS style ((MS mask j).fmod 2 == 1) g then [g] else []
    | none => [])
theorem RS_sub (style mask : Int) : ∀ j, (RS style mask j).Sublist (all16.take j)
  | 0 => List.nil_sublist _
  | j + 1 => by
    rw [RS, List.take_add_one]
    refine List.Sublist.append (RS_sub style mask j) ?_
    cases all16[j]? with
    | none => exact List.nil_sublist _
    | some g =>
      dsimp only [Option.toList]
      split
      · exact List.Sublist.refl _
      · exact List.nil_sublist _
theorem some_pairs_c (P : HasN I) (style mask : Int) (hs : 0 ≤ style ∧ style < 8) : ∃ p : T → Bool, ∀ (n : Nat) (h : AH), callD I (callN I (n + 3)) 279 [.t (.int style), .t (.int mask)] [] [] h = .ok (.t (.lst (fil p))) h := by
  have hsub := RS_sub style mask 16
  refine ⟨mem_ (RS style mask 16), fun n h => ?_⟩
  rw [← sub_fil (hsub.trans (List.take_sublist _ _))]
  rw [callD_eq P.t279 rfl (by decide)]
  have cA := fun h => all_c P (n) h
  have cR := fun h => reads_c P (n + 1) h
  obtain ⟨env', h', e, z3, z4, z5, z6, rfl, rfl⟩ := forI (d := .t (.lst all16)) (ts := all16) (f := turn (.n 3) fun env h => evSs I (callN I (n + 2)) b279_1 env h)
    (fun j env h' => ∃ (z3 z4 z5 z6 : Option D), env = [some (.t (.int style)), some (.t (.int (MS mask j))), some (.r h.length), z3, z4, z5, z6] ∧ h' = h ++ [.lst ((RS style mask j).map .t)])
    (env := [some (.t (.int style)), some (.t (.int mask)), some (.r h.length), none, none, none, none]) (h := h ++ [.lst []])
    ⟨none, none, none, none, rfl, rfl⟩ (fun j env h' _ => rfl) (fun j x env h' ex ⟨z3, z4, z5, z6, e1, e2⟩ => by
      subst e1 e2
      obtain ⟨a, ha, b, hb, rfl⟩ := mem16 (List.mem_of_getElem? ex)
      have hl := (RS_sub style mask j).length_le
      rw [List.length_take] at hl
      have h16 : all16.length = 16 := rfl
      have ln : ((RS style mask j).map D.t).length < sizeMax := by rw [List.length_map]; simp only [sizeMax]; omega
      have e1 : RS style mask (j + 1) = RS style mask j ++ (if fitS style ((MS mask j).fmod 2 == 1) (pr a b) then [pr a b] else []) := by rw [RS, ex]
      have e2 : MS mask (j + 1) = (MS mask j).fdiv 2 := rfl
      rw [e1, e2]
      generalize RS style mask j = rows at *
      generalize MS mask j = m at *
      have c1 : ∀ h', cmpD I (callN I (n + 2)) .isin (.t (.str a)) (.t rdsT) h' = .ok (.t (.bl (a == sR || a == sA))) h' := fun h' => in_reads
      have c2 : ∀ h', cmpD I (callN I (n + 2)) .notin (.t (.str b)) (.t rdsT) h' = .ok (.t (.bl (!(b == sR || b == sA)))) h' := fun h' => notin_reads
      have c3 : ∀ h', cmpD I (callN I (n + 2)) .eq (.t (.str a)) (.t (.str [97, 99, 113, 117, 105, 114, 101])) h' = .ok (.t (.bl (a == sA))) h' := fun h' => eq_str
      have c4 : ∀ h', cmpD I (callN I (n + 2)) .eq (.t (.str b)) (.t (.str [114, 101, 108, 101, 97, 115, 101])) h' = .ok (.t (.bl (b == sL))) h' := fun h' => eq_str
      have c5 : ∀ h', cmpD I (callN I (n + 2)) .eq (.t (.int (m.fmod 2))) (.t (.int 1)) h' = .ok (.t (.bl (m.fmod 2 == 1))) h' := fun h' => eq_int
      have fe : fitS style (m.fmod 2 == 1) (pr a b) = [false, true, (a == sR || a == sA) || !(b == sR || b == sA), (a == sA) || (b == sL), (m.fmod 2 == 1) && (a == sR || a == sA), (m.fmod 2 == 1), (m.fmod 2 == 1), (m.fmod 2 == 1)].getD style.toNat false := rfl
      rw [fe]
      have i0 := fun h' => idx0_pr (I := I) (c := callN I (n + 2)) (a := a) (b := b) (h := h')
      have i1 := fun h' => idx1_pr (I := I) (c := callN I (n + 2)) (a := a) (b := b) (h := h')
      generalize (a == sR || a == sA) = A at *
      generalize (b == sR || b == sA) = B at *
      generalize (a == sA) = C at *
      generalize (b == sL) = D' at *
      generalize (m.fmod 2 == 1) = E at *
      generalize hp : pr a b = p at *
      have la : ∀ (xs ys : List T) (h' : AH), xs.length = 4 → ys.length = 4 → binD I (callN I (n + 2)) .add (.t (.lst xs)) (.t (.lst ys)) h' = .ok (.t (.lst (xs ++ ys))) h' := fun xs ys h' l1 l2 => bin_lst (by omega)
      have la := fun h' => la [.bl false, .bl true, .bl (A || !B), .bl (C || D')] [.bl (E && A), .bl E, .bl E, .bl E] h' rfl rfl
      have ix : geti [T.bl false, .bl true, .bl (A || !B), .bl (C || D'), .bl (E && A), .bl E, .bl E, .bl E] style = some (.bl ([false, true, (A || !B), (C || D'), (E && A), E, E, E].getD style.toNat false)) := by
        have hst : style.toNat < 8 := by omega
        rw [show ([.bl false, .bl true, .bl (A || !B), .bl (C || D'), .bl (E && A), .bl E, .bl E, .bl E] : List T) = [false, true, (A || !B), (C || D'), (E && A), E, E, E].map .bl from rfl, geti_map, geti_ok hs.1]
        rw [List.getD_eq_getElem?_getD, List.getElem?_eq_getElem (by simpa using hst)]
        rfl
      refine ⟨_, _, ?_, some (.t p), some (.t (.bl A)), some (.t (.bl E)), some (.t (.lst ([.bl false, .bl true, .bl (A || !B), .bl (C || D'), .bl (E && A), .bl E, .bl E, .bl E]))), rfl, rfl⟩
      generalize [false, true, (A || !B), (C || D'), (E && A), E, E, E].getD style.toNat false = f at *
      have cb : ∀ x y : Bool, ∀ h', (if x = false then R.ok (D.t (.bl y)) h' else R.ok (D.t (.bl x)) h') = R.ok (D.t (.bl (x || y))) h' := fun x y h' => or_ite
      cases f <;> simp! [b279_1, cR, i0, i1, c1, c2, c3, c4, c5, la, ix, ln, or_ite, and_ite, List.map_append, List.append_nil])
  have r1 := ret_l (h := h) (ts := RS style mask 16)
  have hw : ∀ h', walkOf I h' (.t (.lst all16)) = some (.t (.lst all16), all16.map D.t) := fun h' => rfl
  simp! [b279, cA, hw, e]
  exact r1
theorem fil_all : fil (fun _ => true) = all16 := List.filter_eq_self.mpr fun _ _ => rfl
theorem law_book_c (P : HasD I) {ds : List Int} (H : Drw ds) (a : Int) (ha : 0 ≤ a) (ms : List (List Nat)) (hl : a + 4 + 3 * ms.length ≤ ds.length) (hf : ms.length ≤ 3) :
    ∃ b : Bk, b.ms = ms ∧ ∀ (n : Nat) (h : AH), callD I (callN I (n + 4)) 164 [.t (.lst (ds.map .int)), .t (.int a), .t (.lst (ms.map .str))] [] [] h = .ok (.t b.law) h := by
  have sFe : [102, 117, 108, 108] = sF := rfl
  have x0 := geti_dr (ds := ds) (i := a) (by omega) (by omega)
  have x1 := geti_dr (ds := ds) (i := a + 1) (by omega) (by omega)
  have x2 := geti_dr (ds := ds) (i := a + 2) (by omega) (by omega)
  have x3 := geti_dr (ds := ds) (i := a + 3) (by omega) (by omega)
  have m8 : ∀ x : Int, 0 ≤ x.fmod 8 ∧ x.fmod 8 < 8 := fun x => fm_bd (by decide)
  obtain ⟨p0, e0⟩ := some_pairs_c P.toHasN ((dr ds a).fmod 8) (dr ds (a + 1) + 1000 * dr ds (a + 2)) (m8 _)
  /- the rows -/
  obtain ⟨pf, ep⟩ := Classical.axiomOfChoice fun j : Nat => some_pairs_c P.toHasN ((dr ds (a + 4 + 3 * j)).fmod 8) (dr ds (a + 5 + 3 * j) + 1000 * dr ds (a + 6 + 3 * j)) (m8 _)
  let FS : Nat → List (List Nat × (T → Bool)) := fun j => (List.range j).map fun k => (ms.getD k [], pf k)
  have FSs : ∀ j, FS (j + 1) = FS j ++ [(ms.getD j [], pf j)] := fun j => by
    show (List.range (j + 1)).map _ = _
    rw [List.range_succ, List.map_append]; rfl
  have FSl : ∀ j, (FS j).length = j := fun j => by simp [FS]
  have FSm : (FS ms.length).map (·.1) = ms := by
    show ((List.range ms.length).map fun k => (ms.getD k [], pf k)).map (·.1) = ms
    rw [List.map_map]
    apply List.ext_getElem
    · simp
    · intro i h1 h2
      simp [h2]
  refine ⟨⟨p0, FS ms.length, (dr ds (a + 3)).fmod 2 == 0, ((dr ds (a + 3)).fdiv 2).fmod 2 == 0⟩, FSm, fun n h => ?_⟩
  have rw_ : ∃ y z, forL (.t .non) (rng 0 (ms.map T.str).length) (turn (.n 5) fun env h => evSs I (callN I (n + 3)) b164_1 env h) (rng 0 (ms.map T.str).length)
      [some (.t (.lst (ds.map .int))), some (.t (.int a)), some (.t (.lst (ms.map .str))), some (.t (.lst (fil p0))), some (.r h.length), none, none] (h ++ [.lst [.t (.lst [.str sF, .lst all16])]]) =
      .nx [some (.t (.lst (ds.map .int))), some (.t (.int a)), some (.t (.lst (ms.map .str))), some (.t (.lst (fil p0))), some (.r h.length), y, z] (h ++ [.lst ((T.lst [.str sF, .lst all16] :: (FS ms.length).map Bk.row).map .t)]) := by
    rw [List.length_map]
    obtain ⟨env', h', e1, y, z, rfl, rfl⟩ := forR (n := (ms.length : Int)) (f := turn (.n 5) fun env h => evSs I (callN I (n + 3)) b164_1 env h)
      (fun j env h' => ∃ y z, env = [some (.t (.lst (ds.map .int))), some (.t (.int a)), some (.t (.lst (ms.map .str))), some (.t (.lst (fil p0))), some (.r h.length), y, z] ∧ h' = h ++ [.lst ((T.lst [.str sF, .lst all16] :: (FS j).map Bk.row).map .t)])
      (env := [some (.t (.lst (ds.map .int))), some (.t (.int a)), some (.t (.lst (ms.map .str))), some (.t (.lst (fil p0))), some (.r h.length), none, none]) (h := h ++ [.lst [.t (.lst [.str sF, .lst all16])]]) ⟨none, none, rfl, rfl⟩ (fun j env h' lt ⟨y, z, e1, e2⟩ => by
        subst e1 e2
        have g4 := geti_dr (ds := ds) (i := a + 4 + 3 * j) (by omega) (by omega)
        have g5 := geti_dr (ds := ds) (i := a + 5 + 3 * j) (by omega) (by omega)
        have g6 := geti_dr (ds := ds) (i := a + 6 + 3 * j) (by omega) (by omega)
        have e := fun h => ep j n h
        have gm : ms[j]? = some (ms.getD j []) := by simp [show j < ms.length by omega]
        have ln : ((T.lst [.str sF, .lst all16] :: (FS j).map Bk.row).map D.t).length < sizeMax := by simp [FSl, sizeMax]; omega
        refine ⟨_, _, ?_, some (.t (.int j)), some (.t (.int (dr ds (a + 5 + 3 * j) + 1000 * dr ds (a + 6 + 3 * j)))), rfl, rfl⟩
        rw [FSs]
        generalize dr ds (a + 4 + 3 * j) = d4 at *
        generalize dr ds (a + 5 + 3 * j) = d5 at *
        generalize dr ds (a + 6 + 3 * j) = d6 at *
        generalize FS j = fs at *
        generalize ms.getD j [] = m at *
        rw [List.map_append (f := Bk.row), show [(m, pf j)].map Bk.row = [Bk.row (m, pf j)] from rfl]
        generalize hr : (T.lst [.str sF, .lst all16] :: fs.map Bk.row) = rows at *
        have hr2 : T.lst [.str sF, .lst all16] :: (fs.map Bk.row ++ [Bk.row (m, pf j)]) = rows ++ [Bk.row (m, pf j)] := by rw [← hr]; rfl
        rw [hr2, List.map_append]
        simp! [b164_1, g4, g5, g6, e, gm, ln, List.getElem?_map]
        rfl)
    rw [Int.toNat_natCast] at e1
    exact ⟨y, z, e1⟩
  obtain ⟨y, z, e1⟩ := rw_
  have ca := fun h => all_c P.toHasN (n + 1) h
  have r1 := ret_l (h := h) (ts := (T.lst [.str sF, .lst all16] :: (FS ms.length).map Bk.row))
  rw [callD_eq P.t164 rfl (by decide)]
  have rr : rngR (.t (.int (ms.map T.str).length)) = fun h => .ok (.t .non, rng 0 (ms.map T.str).length) h := funext fun h => rngR_q (by rw [List.length_map]; omega) (by rw [List.length_map]; omega)
  have fz : ∀ ds, frzsR (.r h.length :: ds) (h ++ [.lst ((T.lst [.str sF, .lst all16] :: (FS ms.length).map Bk.row).map .t)]) = _ := fun ds => frzsR_l (hg0.trans rfl)
  rw [List.map_cons] at fz
  simp! [b164, sFe, x0, x1, x2, x3, e0, ca, e1, rr, fz]
  rfl
end
end Kq
set_option maxRecDepth 100000
set_option autoImplicit false
namespace Kq
open Kp
open Kp.B
theorem insS_perm (x : List Nat) : ∀ xs, (insS x xs).Perm (x :: xs)
  | [] => List.Perm.refl _
  | y :: ys => by
    rw [insS]
    split
    · exact (List.Perm.cons y (insS_perm x ys)).trans (List.Perm.swap x y ys)
    · exact List.Perm.refl _
theorem sortS_perm : ∀ xs : List (List Nat), (sortS xs).Perm xs
  | [] => List.Perm.refl _
  | x :: xs => (insS_perm x _).trans (List.Perm.cons x (sortS_perm xs))
theorem put_new {α β : Type} [DecidableEq α] (v : β) (x : α) : ∀ (ks : List α) (vs : List β), ks.length = vs.length → x ∉ ks → put v x ks vs = (ks ++ [x], vs ++ [v])
  | [], [], _, _ => rfl
  | k :: ks, w :: ws, e, h => by
    rw [put, if_neg (fun z => h (by rw [z]; exact List.mem_cons_self ..))]
    have := put_new v x ks ws (by simpa using e) (fun z => h (List.mem_cons_of_mem _ z))
    rw [this]; rfl
theorem lk_app {α β : Type} [DecidableEq α] (x : α) : ∀ (ks : List α) (vs : List β) (ks' : List α) (vs' : List β), ks.length = vs.length → x ∉ ks → lk (ks ++ ks') (vs ++ vs') x = lk ks' vs' x
  | [], [], _, _, _, _ => rfl
  | k :: ks, w :: ws, ks', vs', e, h => by
    rw [List.cons_append, List.cons_append, lk, if_neg (fun z => h (by rw [z]; exact List.mem_cons_self ..))]
    exact lk_app x ks ws ks' vs' (by simpa using e) (fun z => h (List.mem_cons_of_mem _ z))
theorem lk_map {α β : Type} [DecidableEq α] (g : α → β) (x : α) : ∀ (ks : List α), x ∈ ks → lk ks (ks.map g) x = some (g x)
  | k :: ks, h => by
    rw [List.map_cons, lk]
    by_cases e : k = x
    · rw [if_pos e, e]
    · rw [if_neg e]
      rcases List.mem_cons.mp h with h | h
      · exact absurd h.symm e
      · exact lk_map g x ks h
theorem dctR_names {k : AH → Bool} {f : D → AH → R (Option (List Nat × T))} {h : AH} {g : List Nat → T} (hk : k h = true) : ∀ (ss : List (List Nat)) (ks : List (List Nat)) (vs : List T), ks.length = vs.length → (ks ++ ss).Nodup → ks.length + ss.length < 10000 →
    (∀ s ∈ ss, f (.t (.str s)) h = .ok (some (s, g s)) h) → dctR k f ((ss.map T.str).map .t) ks vs h = .ok (ks ++ ss, vs ++ ss.map g) h
  | [], ks, vs, _, _, _, _ => by simp [dctR]
  | s :: ss, ks, vs, e, nd, lt, hf => by
    rw [List.map_cons, List.map_cons, dctR, hf s (List.mem_cons_self ..)]
    simp only [bind_okk, hk, if_true]
    rw [if_pos (by simp only [sizeMax]; simp only [List.length_cons] at lt; omega)]
    have ni : s ∉ ks := fun z => by
      have := (List.nodup_append.mp nd).2.2 s z s (List.mem_cons_self ..)
      exact this rfl
    rw [put_new _ _ _ _ e ni]
    dsimp only
    rw [dctR_names hk ss (ks ++ [s]) (vs ++ [g s]) (by simp [e]) (by simpa using nd) (by simp only [List.length_append, List.length_cons, List.length_nil] at lt ⊢; omega) (fun z hz => hf z (List.mem_cons_of_mem _ hz))]
    simp
structure HasK (I : Info) : Prop extends HasD I where
  t101 : I.tbl 101 = some ⟨5, 2, 7, false, b101⟩
  t129 : I.tbl 129 = some ⟨2, 2, 4, false, b129⟩
  t339 : I.tbl 339 = some ⟨1, 1, 2, false, b339⟩
  letters : I.gcon 3 = .str lowers
  full : I.gcon 1 = .str sF
  init1 : I.init 1 = some 101
  live1 : I.liveC 1 = false
  f15 : I.fld 1 15 = true
  f9 : I.fld 1 9 = true
  f8 : I.fld 1 8 = true
  f6 : I.fld 1 6 = true
section
variable {I : Info}
theorem fence_ok_c (P : HasK I) {s : List Nat} (g : Good s) (n : Nat) (h : AH) : callD I (callN I (n + 1)) 339 [.t (.str s)] [] [] h = .ok (.t (.bl true)) h := by
  rw [callD_eq P.t339 rfl (by decide)]
  obtain ⟨env', h', e, z, rfl, rfl⟩ := forI (d := .t .non) (ts := s.map fun c => T.str [c]) (f := turn (.n 1) fun env h => evSs I (callN I n) b339_1 env h)
    (fun j env h' => ∃ z, env = [some (.t (.str s)), z] ∧ h' = h) (env := [some (.t (.str s)), none]) (h := h) ⟨none, rfl, rfl⟩ (fun _ _ _ _ => rfl) (fun j x env h' ex ⟨z, e1, e2⟩ => by
      subst e1 e2
      rw [List.getElem?_map] at ex
      obtain ⟨c, hc, rfl⟩ := Option.map_eq_some_iff.mp ex
      have hm := g.low c (List.mem_of_getElem? hc)
      refine ⟨_, _, ?_, some (.t (.str [c])), rfl, rfl⟩
      simp! [b339_1, P.letters, decide_eq_true hm])
  have c1 : inS kds s = false := inS_f g.nk
  have lo := g.lo
  have hi := g.hi
  have c2 : decide ((s.length : Int) < 1) = false := decide_eq_false (by omega)
  have c3 : decide ((8 : Int) < s.length) = false := decide_eq_false (by omega)
  simp! [b339, P.kinds, kindsT, c1, c2, c3, e]
theorem pS_all : pS (mem_ all16) = pS fun _ => true := congrArg pairsT (fil_congr fun g hg => (mem_iff (fun g h => h) hg).mpr hg)
theorem product_c (P : HasK I) (n : Nat) (h : AH) : callD I (callN I (n + 3)) 129 [.t kindsT, .t kindsT] [] [] h = .ok (.t (pS fun _ => true)) h := by
  rw [callD_eq P.t129 rfl (by decide)]
  have hl : ev I (callN I (n + 2)) (.lc false b129_1 [2, 3] (.n 2) (.val (.v 0)) .no_ (.cons (.n 3) (.val (.v 1)) .no_ .nil)) [some (.t kindsT), some (.t kindsT), none, none] h = .ok (.t (.lst all16)) h := by rfl
  have hn := new_list P.toHasP n h all16 (by decide) (fun g h => h)
  rw [pS_all] at hn
  simp! [b129, hl, hn]
end
end Kq
set_option maxRecDepth 100000
set_option autoImplicit false
namespace Kq
open Kp
open Kp.B
section
variable {I : Info} {c : Call} {h : AH} {m : Nat} {ks : List (List Nat)} {vs : List T}
theorem dcp_l (e : h[m]? = some (.dct ks vs)) : biD I c .dcp [.r m] h = .ok (.r h.length) (h ++ [.dct ks vs]) := by
  have q : biD I c .dcp [.r m] h = if biOk I h .dcp (.r m) then biD0 I c .dcp [.r m] h else .no := rfl
  have q2 : biOk I h .dcp (.r m) = true := by simp [biOk]
  rw [q, if_pos q2]
  unfold biD0
  simp only [dctOf, e]
theorem keys_l (e : h[m]? = some (.dct ks vs)) : biD I c .keys [.r m] h = .ok (.t (.lst (ks.map .str))) h := by
  have q : biD I c .keys [.r m] h = if biOk I h .keys (.r m) then biD0 I c .keys [.r m] h else .no := rfl
  have q2 : biOk I h .keys (.r m) = true := by simp [biOk]
  rw [q, if_pos q2]
  unfold biD0
  simp only [dctOf, e]
theorem keys_t : biD I c .keys [.t (.dct ks vs)] h = .ok (.t (.lst (ks.map .str))) h := by
  have q : biD I c .keys [.t (.dct ks vs)] h = if biOk I h .keys (.t (.dct ks vs)) then biD0 I c .keys [.t (.dct ks vs)] h else .no := rfl
  have q2 : biOk I h .keys (.t (.dct ks vs)) = true := by simp [biOk]
  rw [q, if_pos q2]
  rfl
theorem strs_map : ∀ ss : List (List Nat), strs? ((ss.map T.str).map .t) = some ss
  | [] => rfl
  | s :: ss => by simp only [List.map_cons, strs?]; rw [strs_map ss]; rfl
theorem sorted_strs {ss : List (List Nat)} (l : ss.length < 64) : biD I c .sorted [.t (.lst (ss.map .str))] h = .ok (.t (.lst ((sortS ss).map .str))) h := by
  have q : biD I c .sorted [.t (.lst (ss.map .str))] h = if ((ss.map T.str).map D.t).length < 64 then R.of ((sorted ((ss.map T.str).map D.t)).map .t) h else .no := rfl
  rw [q, if_pos (by simpa using l)]
  unfold sorted
  rw [strs_map]; rfl
theorem setI_dct {z : List Nat} {t : T} (e : h[m]? = some (.dct ks vs)) (l : ks.length < sizeMax) : setID I c (.r m) (.t (.str z)) (.t t) h = .ok () (h.set m (.dct (put t z ks vs).1 (put t z ks vs).2)) := by
  unfold setID
  show (frzR (.t t) h).bind _ = _
  rw [frzR_tt, bind_okk, e]
  simp only [strOf]
  rw [if_pos l]
theorem setA_ins {k f : Nat} {fs : List Nat} {ds : List D} {t : T} (e : h[m]? = some (.ins k fs ds)) (hf : I.fld k f = true) (l : fs.length < 1000) : setAD I (.r m) f (.t t) h = .ok () (h.set m (.ins k (put (.t t) f fs ds).1 (put (.t t) f fs ds).2)) := by
  unfold setAD
  show (frzR (.t t) h).bind _ = _
  rw [frzR_tt, bind_okk, e]
  simp only [hf, l, and_self, if_true]
theorem ev_dc {live : Bool} {key val : Ex} {own : List Nat} {tg : Tg} {it : It} {cond : Ex} {env : Env} : ev I c (.dc live key val own tg it cond) env h = (evI I c it env h).bind fun p h => (noEx (dctR (still p.1 p.2) (clause none tg (wipe env own) (fun env h => if isNo cond then .ok true h else (ev I c cond env h).bind fun d h => R.of (truth h d) h)
      fun env h => (ev I c key env h).bind fun k h => (ev I c val env h).bind fun d h => match k with
        | .t (.str s) => (frzR d h).bind fun x h => .ok (some (s, x)) h
        | _ => .no) p.2 [] [] h)).bind fun q h => if live then .ok (.r h.length) (h ++ [.dct q.1 q.2]) else .ok (.t (.dct q.1 q.2)) h := by rw [ev]; try rfl
theorem idx_dct {z : List Nat} (e : h[m]? = some (.dct ks vs)) : idxD I c (.r m) (.t (.str z)) h = R.of ((lk ks vs z).map .t) h := by
  unfold idxD
  have n : own1 I h (.r m) mGet = none := own1_no (by simp only [clsOf, e])
  rw [n]
  simp only [dctOf, e, strOf]
@[scoped simp] theorem idx_dctt {z : List Nat} : idxD I c (.t (.dct ks vs)) (.t (.str z)) h = R.of ((lk ks vs z).map .t) h := rfl
theorem evS_setIq {env : Env} {o i e : Ex} : evS I c (.setI o i e) env h = liftS (ev I c e env h) env fun d h => liftS (ev I c o env h) env fun x h => liftS (ev I c i env h) env fun y h => liftS (setID I c x y d h) env fun _ h => .nx env h := by rw [evS]
end
namespace Bk
theorem names_perm (b : Bk) : b.names.Perm (b.ms ++ [sF]) := sortS_perm _
theorem Ok.nodup {b : Bk} (ok : b.Ok) : (b.ms ++ [sF]).Nodup := by
  rw [List.nodup_append]
  refine ⟨ok.nd, by simp, fun x hx y hy => ?_⟩
  rw [List.mem_singleton.mp hy]
  exact (ok.good x hx).nf
theorem Ok.names_nodup {b : Bk} (ok : b.Ok) : b.names.Nodup := (names_perm b).nodup_iff.mpr ok.nodup
theorem ms_len (b : Bk) : b.ms.length = b.fs.length := List.length_map _
theorem names_len (b : Bk) : b.names.length = b.fs.length + 1 := by
  rw [(names_perm b).length_eq, List.length_append, ms_len]; rfl
theorem mem_names {b : Bk} {n : List Nat} : n ∈ b.names ↔ n ∈ b.ms ∨ n = sF := by
  rw [(names_perm b).mem_iff]; simp
theorem lk_by {b : Bk} (ok : b.Ok) {n : List Nat} (hn : n ∈ b.names) : lk (b.ms ++ [sF]) (b.fs.map (fun f => pS f.2) ++ [pS fun _ => true]) n = some (pS (b.by_ n)) := by
  rcases mem_names.mp hn with h | rfl
  · have nf := (ok.good n h).nf
    unfold by_
    rw [if_neg nf]
    unfold ms at h ⊢
    clear hn ok
    generalize b.fs = fs at *
    induction fs with
    | nil => cases h
    | cons f fs ih =>
      simp only [List.map_cons, List.cons_append, lk, List.find?_cons]
      by_cases e : f.1 = n
      · rw [if_pos e]; simp [e]
      · rw [if_neg e]
        rcases List.mem_cons.mp h with h | h
        · exact absurd h.symm e
        · rw [ih h]
          cases q : (f.1 == n) with
          | true => exact absurd (eq_of_beq q) e
          | false => rfl
  · rw [lk_app _ _ _ _ _ (by simp [ms]) (fun z => (ok.good sF z).nf rfl)]
    unfold by_
    rw [if_pos rfl]; rfl
end Bk
section
variable {I : Info}
theorem init_c (P : HasK I) (b : Bk) (ok : b.Ok) (n : Nat) (h : AH) (m : Nat) (hm : h[m]? = some (.dct b.ms (b.fs.map fun f => pS f.2))) :
    callN I (n + 4) 101 [.r h.length, .t (pS b.kept), .r m, .t (.bl b.early), .t (.bl b.coh)] (h ++ [.ins 1 [] []]) =
      .ok (.t .non) (h ++ [.ins 1 [15, 9, 8, 6] [.t (pS b.kept), .t (.dct b.names (b.names.map fun n => pS (b.by_ n))), .t (.bl b.early), .t (.bl b.coh)]]) := by
  rw [call_eq P.t101 (n + 3) _ _ rfl]
  have hmlt := (List.getElem?_eq_some_iff.mp hm).1
  have hm' : ∀ l : AH, (h ++ l)[m]? = some (.dct b.ms (b.fs.map fun f => pS f.2)) := fun l => by rw [List.getElem?_append_left hmlt]; exact hm
  have d1 : biD I (callN I (n + 3)) .dcp [.r m] (h ++ [.ins 1 [] [], .dct [] []]) = .ok (.r (h.length + 2)) (h ++ [.ins 1 [] [], .dct [] [], .dct b.ms (b.fs.map fun f => pS f.2)]) := by
    rw [dcp_l (hm' _)]; simp
  have ln := Bk.ms_len b
  have few := ok.few
  have k1 : ∀ o : Ob, biD I (callN I (n + 3)) .keys [.r (h.length + 2)] (h ++ [o, .dct [] [], .dct b.ms (b.fs.map fun f => pS f.2)]) = .ok (.t (.lst (b.ms.map .str))) (h ++ [o, .dct [] [], .dct b.ms (b.fs.map fun f => pS f.2)]) := fun o => keys_l (vs := b.fs.map fun f => pS f.2) (by simp)
  have k2 : ∀ o : Ob, biD I (callN I (n + 3)) .keys [.r (h.length + 2)] (h ++ [o, .dct [] [], .dct (b.ms ++ [sF]) (b.fs.map (fun f => pS f.2) ++ [pS fun _ => true])]) = .ok (.t (.lst ((b.ms ++ [sF]).map .str))) (h ++ [o, .dct [] [], .dct (b.ms ++ [sF]) (b.fs.map (fun f => pS f.2) ++ [pS fun _ => true])]) := fun o => keys_l (vs := b.fs.map (fun f => pS f.2) ++ [pS fun _ => true]) (by simp)
  have s1 : ∀ h, biD I (callN I (n + 3)) .sorted [.t (.lst (b.ms.map .str))] h = .ok (.t (.lst ((sortS b.ms).map .str))) h := fun h => sorted_strs (by omega)
  have s2 : ∀ h, biD I (callN I (n + 3)) .sorted [.t (.lst ((b.ms ++ [sF]).map .str))] h = .ok (.t (.lst (b.names.map .str))) h := fun h => sorted_strs (by simp; omega)
  /- the names are good -/
  have l1 : ∀ (x1 x2 x3 x4 x5 x6 : Option D) (h : AH), ∃ z, forL (.t (.lst ((sortS b.ms).map .str))) (((sortS b.ms).map T.str).map .t) (turn (.n 6) fun env h => evSs I (callN I (n + 3)) b101_1 env h) (((sortS b.ms).map T.str).map .t) [x1, x2, x3, x4, x5, x6, none] h = .nx [x1, x2, x3, x4, x5, x6, z] h := by
    intro x1 x2 x3 x4 x5 x6 h
    obtain ⟨env', h', e, z, rfl, rfl⟩ := forI (d := .t (.lst ((sortS b.ms).map .str))) (ts := (sortS b.ms).map T.str) (f := turn (.n 6) fun env h => evSs I (callN I (n + 3)) b101_1 env h)
      (fun j env h' => ∃ z, env = [x1, x2, x3, x4, x5, x6, z] ∧ h' = h) (env := [x1, x2, x3, x4, x5, x6, none]) (h := h) ⟨none, rfl, rfl⟩ (fun _ _ _ _ => rfl) (fun j x env h' ex ⟨z, e1, e2⟩ => by
        subst e1 e2
        rw [List.getElem?_map] at ex
        obtain ⟨s, hs, rfl⟩ := Option.map_eq_some_iff.mp ex
        have g := ok.good s ((sortS_perm b.ms).mem_iff.mp (List.mem_of_getElem? hs))
        have f := fun h => fence_ok_c P g (n + 2) h
        have nf : (s == sF) = false := beq_false_of_ne g.nf
        refine ⟨_, _, ?_, some (.t (.str s)), rfl, rfl⟩
        simp! [b101_1, P.full, nf, f])
    exact ⟨z, e⟩
  have pc := fun h => product_c P n h
  have st : ∀ o : Ob, setID I (callN I (n + 3)) (.r (h.length + 2)) (.t (.str sF)) (.t (pS fun _ => true)) (h ++ [o, .dct [] [], .dct b.ms (b.fs.map fun f => pS f.2)]) = .ok () (h ++ [o, .dct [] [], .dct (b.ms ++ [sF]) (b.fs.map (fun f => pS f.2) ++ [pS fun _ => true])]) := fun o => by
    have := setI_dct (I := I) (c := callN I (n + 3)) (h := h ++ [o, .dct [] [], .dct b.ms (b.fs.map fun f => pS f.2)]) (m := h.length + 2) (ks := b.ms) (vs := b.fs.map fun f => pS f.2) (z := sF) (t := pS fun _ => true) (by simp) (by simp only [sizeMax]; omega)
    rw [this, put_new _ _ _ _ (by simp [ln]) (fun z => (ok.good sF z).nf rfl), hs]
    rfl
  have sa : ∀ (f : Nat) (hf : I.fld 1 f = true) (t : T) (fs : List Nat) (ds : List D) (l : AH), fs.length < 1000 → setAD I (.r h.length) f (.t t) (h ++ Ob.ins 1 fs ds :: l) = .ok () (h ++ Ob.ins 1 (put (.t t) f fs ds).1 (put (.t t) f fs ds).2 :: l) := fun f hf t fs ds l lt => by
    have := setA_ins (I := I) (h := h ++ Ob.ins 1 fs ds :: l) (m := h.length) (k := 1) (f := f) (fs := fs) (ds := ds) (t := t) (by simp) hf lt
    rw [this, hs0]; rfl
  have dcE : ∀ (o : Ob) (x1 x2 x3 x4 x5 z : Option D), ev I (callN I (n + 3)) (.dc false (.v 6) (.idx (.v 5) (.v 6)) [6] (.n 6) (.val (.bi .sorted (.cons (.bi .keys (.cons (.v 5) .nil)) .nil))) .no_) [x1, x2, x3, x4, x5, some (.r (h.length + 2)), z] (h ++ [o, .dct [] [], .dct (b.ms ++ [sF]) (b.fs.map (fun f => pS f.2) ++ [pS fun _ => true])]) =
      .ok (.t (.dct b.names (b.names.map fun n => pS (b.by_ n)))) (h ++ [o, .dct [] [], .dct (b.ms ++ [sF]) (b.fs.map (fun f => pS f.2) ++ [pS fun _ => true])]) := fun o x1 x2 x3 x4 x5 z => by
    rw [ev_dc]
    simp! [k2, s2]
    rw [dctR_names (g := fun n => pS (b.by_ n)) rfl b.names [] [] rfl (by simpa using ok.names_nodup) (by have := Bk.names_len b; simp; omega) (fun s hs => by
      have e := Bk.lk_by ok hs
      have g := idx_dct (I := I) (c := callN I (n + 3)) (h := h ++ [o, .dct [] [], .dct (b.ms ++ [sF]) (b.fs.map (fun f => pS f.2) ++ [pS fun _ => true])]) (m := h.length + 2) (ks := b.ms ++ [sF]) (vs := b.fs.map (fun f => pS f.2) ++ [pS fun _ => true]) (z := s) (by simp)
      rw [e] at g
      simp! [g])]
    simp! []
  have tk : ∀ a b c : Ob, (h ++ [a, b, c]).take (h ++ [Ob.ins 1 [] []]).length = h ++ [a] := fun a b c => by
    rw [List.length_append]; exact htk
  obtain ⟨z, e1⟩ := l1 (some (.r h.length)) (some (.t (pS b.kept))) (some (.r m)) (some (.t (.bl b.early))) (some (.t (.bl b.coh))) (some (.r (h.length + 2))) (h ++ [.ins 1 [] [], .dct [] [], .dct b.ms (b.fs.map fun f => pS f.2)])
  have hl1 : (h ++ [Ob.ins 1 [] []]).length = h.length + 1 := by simp
  have ap1 : (h ++ [Ob.ins 1 [] []]) ++ [Ob.dct [] []] = h ++ [.ins 1 [] [], .dct [] []] := by simp
  have ed : ∀ env, ev I (callN I (n + 3)) (.dct [] .nil) env (h ++ [Ob.ins 1 [] []]) = .ok (.r (h.length + 1)) (h ++ [.ins 1 [] [], .dct [] []]) := fun env => by
    rw [ev]; simp
  have sa15 := fun t l => sa 15 P.f15 t [] [] l (by decide)
  have sa9 := fun t y l => sa 9 P.f9 t [15] [y] l (by decide)
  have sa8 := fun t y z l => sa 8 P.f8 t [15, 9] [y, z] l (by decide)
  have sa6 := fun t y z u l => sa 6 P.f6 t [15, 9, 8] [y, z, u] l (by decide)
  simp! [b101, ed, d1, k1, s1, e1, P.full, P.kinds, pc, evS_setIq, st, dcE, sa15, sa9, sa8, sa6, put]
  simp [sa8, sa6, put, retS, htk]
theorem new_pS (P : HasK I) (n : Nat) (h : AH) (p : T → Bool) : newD I (callN I (n + 2)) 12 [.t (.lst (fil p))] [] [] h = .ok (.t (pS p)) h := by
  have hn := new_list P.toHasP n h (fil p) (Nat.lt_of_le_of_lt fil_len (by decide)) fil_mem
  rwa [show pS (mem_ (fil p)) = pS p from congrArg pairsT (fil_congr fun g hg => mem_fil hg)] at hn
theorem made_c (P : HasK I) (t222 : I.tbl 222 = some ⟨1, 1, 3, false, b222⟩) (b : Bk) (ok : b.Ok) (n : Nat) (h : AH) : callD I (callN I (n + 6)) 222 [.t b.law] [] [] h = .ok (.t b.tree) h := by
  rw [callD_eq t222 rfl (by decide)]
  have few := ok.few
  have sFe : [102, 117, 108, 108] = sF := rfl
  have np := fun p h => new_pS P (n + 3) h p
  obtain ⟨env', h', e, z, rfl, rfl⟩ := forI (d := .t (.lst (.lst [.str sF, .lst all16] :: b.fs.map Bk.row))) (ts := .lst [.str sF, .lst all16] :: b.fs.map Bk.row) (f := turn (.n 2) fun env h => evSs I (callN I (n + 5)) b222_1 env h)
    (fun j env h' => ∃ z, env = [some (.t b.law), some (.r h.length), z] ∧ h' = h ++ [.dct (b.ms.take (j - 1)) ((b.fs.map fun f => pS f.2).take (j - 1))]) (env := [some (.t b.law), some (.r h.length), none]) (h := h ++ [.dct [] []]) ⟨none, rfl, rfl⟩ (fun _ _ _ _ => rfl) (fun j x env h' ex ⟨z, e1, e2⟩ => by
      subst e1 e2
      cases j with
      | zero =>
        cases ex
        refine ⟨_, _, ?_, some (.t (.lst [.str sF, .lst all16])), rfl, rfl⟩
        simp! [b222_1, sFe]
      | succ j =>
        rw [List.getElem?_cons_succ, List.getElem?_map] at ex
        obtain ⟨f, hf, rfl⟩ := Option.map_eq_some_iff.mp ex
        have hm : f.1 ∈ b.ms := List.mem_map.mpr ⟨f, List.mem_of_getElem? hf, rfl⟩
        have nf : (f.1 == sF) = false := beq_false_of_ne (ok.good _ hm).nf
        have jl := (List.getElem?_eq_some_iff.mp hf).1
        have f1 : b.ms[j]? = some f.1 := by unfold Bk.ms; rw [List.getElem?_map, hf]; rfl
        have ni : f.1 ∉ b.ms.take j := fun q => by
          have nd := ok.nd
          have e1 : b.ms = b.ms.take j ++ b.ms.drop j := (List.take_append_drop j _).symm
          rw [e1] at nd
          have e2 : b.ms.drop j = f.1 :: b.ms.drop (j + 1) := by
            rw [List.drop_eq_getElem_cons (by rw [Bk.ms_len]; exact jl)]
            congr 1
            have := List.getElem?_eq_some_iff.mp f1
            exact this.2
          rw [e2] at nd
          exact (List.nodup_append.mp nd).2.2 _ q _ (List.mem_cons_self ..) rfl
        have st := setI_dct (I := I) (c := callN I (n + 5)) (h := h ++ [.dct (b.ms.take j) ((b.fs.map fun f => pS f.2).take j)]) (m := h.length) (ks := b.ms.take j) (vs := (b.fs.map fun f => pS f.2).take j) (z := f.1) (t := pS f.2) (by simp) (by rw [List.length_take]; simp only [sizeMax]; omega)
        rw [put_new _ _ _ _ (by simp [Bk.ms_len]) ni, hs0] at st
        refine ⟨_, _, ?_, some (.t (Bk.row f)), rfl, rfl⟩
        show _ = SR.nx _ (h ++ [.dct (b.ms.take (j + 1)) ((b.fs.map fun f => pS f.2).take (j + 1))])
        have t1 : b.ms.take (j + 1) = b.ms.take j ++ [f.1] := by rw [List.take_add_one, f1]; rfl
        have t2 : (b.fs.map fun f => pS f.2).take (j + 1) = (b.fs.map fun f => pS f.2).take j ++ [pS f.2] := by rw [List.take_add_one, List.getElem?_map, hf]; rfl
        rw [t1, t2]
        simp only [List.set_cons_zero] at st
        have i0 : ∀ h, idxD I (callN I (n + 5)) (.t (Bk.row f)) (.t (.int 0)) h = .ok (.t (.str f.1)) h := fun h => rfl
        have i1 : ∀ h, idxD I (callN I (n + 5)) (.t (Bk.row f)) (.t (.int 1)) h = .ok (.t (.lst (fil f.2))) h := fun h => rfl
        simp! [b222_1, sFe, nf, i0, i1, np, evS_setIq, Nat.add_sub_cancel, st])
  have tk1 : b.ms.take ((.lst [.str sF, .lst all16] :: b.fs.map Bk.row : List T).length - 1) = b.ms := List.take_of_length_le (by simp [Bk.ms_len])
  have tk2 : (b.fs.map fun f => pS f.2).take ((.lst [.str sF, .lst all16] :: b.fs.map Bk.row : List T).length - 1) = (b.fs.map fun f => pS f.2) := List.take_of_length_le (by simp)
  rw [tk1, tk2] at e
  have nw : newD I (callN I (n + 5)) 1 [.t (pS b.kept)] [2, 3, 4] [.r h.length, .t (.bl b.early), .t (.bl b.coh)] (h ++ [.dct b.ms (b.fs.map fun f => pS f.2)]) = .ok (.t b.tree) (h ++ [.dct b.ms (b.fs.map fun f => pS f.2)]) := by
    unfold newD
    rw [P.init1]
    dsimp only
    have cd : callD I (callN I (n + 5)) 101 [.r (h ++ [Ob.dct b.ms (b.fs.map fun f => pS f.2)]).length, .t (pS b.kept)] [2, 3, 4] [.r h.length, .t (.bl b.early), .t (.bl b.coh)] = fun h' => callN I (n + 5) 101 [.r (h ++ [Ob.dct b.ms (b.fs.map fun f => pS f.2)]).length, .t (pS b.kept), .r h.length, .t (.bl b.early), .t (.bl b.coh)] h' := funext fun h' => by
      unfold callD
      rw [P.t101]
      rfl
    rw [cd]
    have ini := init_c P b ok (n + 1) (h ++ [.dct b.ms (b.fs.map fun f => pS f.2)]) h.length (by simp)
    rw [show n + 1 + 4 = n + 5 from rfl] at ini
    dsimp only
    rw [ini]
    simp only [bind_okk, isN, if_true, P.live1, Bool.false_eq_true, if_false]
    unfold frzR frz
    rw [hget0]
    simp only [gz, frzL, frz, hset0, List.set_cons_zero, bind_okk]
    rw [htake]
    rfl
  have ed : ∀ env, ev I (callN I (n + 5)) (.dct [] .nil) env h = .ok (.r h.length) (h ++ [.dct [] []]) := fun env => by
    rw [ev]; simp
  have i0 : ∀ h, idxD I (callN I (n + 5)) (.t b.law) (.t (.int 0)) h = .ok (.t (.lst (fil b.kept))) h := fun h => rfl
  have i1 : ∀ h, idxD I (callN I (n + 5)) (.t b.law) (.t (.int 1)) h = .ok (.t (.lst (.lst [.str sF, .lst all16] :: b.fs.map Bk.row))) h := fun h => rfl
  have i2 : ∀ h, idxD I (callN I (n + 5)) (.t b.law) (.t (.int 2)) h = .ok (.t (.bl b.early)) h := fun h => rfl
  have i3 : ∀ h, idxD I (callN I (n + 5)) (.t b.law) (.t (.int 3)) h = .ok (.t (.bl b.coh)) h := fun h => rfl
  rw [show (.lst [.str sF, .lst all16] :: b.fs.map Bk.row : List T).map D.t = (.lst [.str sF, .lst all16] :: b.fs.map Bk.row : List T).map D.t from rfl] at e
  simp only [List.map_cons] at e
  simp! [b222, ed, i0, i1, i2, i3, e, np, nw]
end
end Kq
set_option autoImplicit false
namespace Kq
open Kp
theorem lt_irr : ∀ x : List Nat, ltS x x = false
  | [] => rfl
  | a :: x => by simp [ltS, lt_irr x]
theorem lt_tri : ∀ x y : List Nat, ltS x y = false → ltS y x = false → x = y
  | [], [], _, _ => rfl
  | [], _ :: _, h, _ => by simp [ltS] at h
  | _ :: _, [], _, h => by simp [ltS] at h
  | a :: x, b :: y, h1, h2 => by
    simp only [ltS, Bool.or_eq_false_iff, Bool.and_eq_false_iff, decide_eq_false_iff_not] at h1 h2
    have e : a = b := by omega
    subst e
    rcases h1.2 with h | h
    · exact absurd rfl h
    · rcases h2.2 with h' | h'
      · exact absurd rfl h'
      · rw [lt_tri x y h h']
theorem lt_trans : ∀ x y z : List Nat, ltS x y = true → ltS y z = true → ltS x z = true
  | [], [], _, h, _ => by simp [ltS] at h
  | [], _ :: _, [], _, h => by simp [ltS] at h
  | [], _ :: _, _ :: _, _, _ => rfl
  | _ :: _, [], _, h, _ => by simp [ltS] at h
  | _ :: _, _ :: _, [], _, h => by simp [ltS] at h
  | a :: x, b :: y, c :: z, h1, h2 => by
    simp only [ltS, Bool.or_eq_true, Bool.and_eq_true, decide_eq_true_eq] at h1 h2 ⊢
    rcases h1 with h1 | ⟨rfl, h1⟩
    · rcases h2 with h2 | ⟨rfl, h2⟩
      · exact .inl (by omega)
      · exact .inl h1
    · rcases h2 with h2 | ⟨rfl, h2⟩
      · exact .inl h2
      · exact .inr ⟨rfl, lt_trans x y z h1 h2⟩
theorem le_trans_ {x y z : List Nat} (h1 : ltS y x = false) (h2 : ltS z y = false) : ltS z x = false := by
  cases q : ltS z x with
  | false => rfl
  | true =>
    cases q2 : ltS x y with
    | true => rw [lt_trans z x y q q2] at h2; cases h2
    | false => rw [lt_tri x y q2 h1, h2] at q; cases q
abbrev Srt (xs : List (List Nat)) : Prop := xs.Pairwise fun a b => ltS b a = false
theorem ins_srt (x : List Nat) : ∀ ys, Srt ys → Srt (insS x ys)
  | [], _ => by simp [insS]
  | y :: ys, h => by
    obtain ⟨h1, h2⟩ := List.pairwise_cons.mp h
    unfold insS
    split
    · rename_i q
      refine List.pairwise_cons.mpr ⟨fun z hz => ?_, ins_srt x ys h2⟩
      rcases List.mem_cons.mp ((insS_perm x ys).mem_iff.mp hz) with rfl | hz
      · cases q2 : ltS z y with
        | false => rfl
        | true => have := lt_trans _ _ _ q q2; rw [lt_irr] at this; cases this
      · exact h1 z hz
    · rename_i q
      have q : ltS y x = false := by cases e : ltS y x with | false => rfl | true => exact absurd e q
      refine List.pairwise_cons.mpr ⟨fun z hz => ?_, h⟩
      rcases List.mem_cons.mp hz with rfl | hz
      · exact q
      · exact le_trans_ q (h1 z hz)
theorem sort_srt : ∀ xs, Srt (sortS xs)
  | [] => .nil
  | x :: xs => ins_srt x _ (sort_srt xs)
theorem srt_eq : ∀ {xs ys : List (List Nat)}, xs.Perm ys → Srt xs → Srt ys → xs = ys
  | [], ys, p, _, _ => by rw [List.nil_perm.mp p]
  | x :: xs, [], p, _, _ => by have := p.length_eq; simp at this
  | x :: xs, y :: ys, p, h1, h2 => by
    obtain ⟨a1, a2⟩ := List.pairwise_cons.mp h1
    obtain ⟨b1, b2⟩ := List.pairwise_cons.mp h2
    have e : x = y := by
      rcases List.mem_cons.mp (p.mem_iff.mp (List.mem_cons_self ..)) with e | hx
      · exact e
      · rcases List.mem_cons.mp (p.mem_iff.mpr (List.mem_cons_self ..)) with e | hy
        · exact e.symm
        · exact lt_tri x y (b1 x hx) (a1 y hy)
    subst e
    rw [srt_eq (List.perm_cons x |>.mp p) a2 b2]
theorem sort_perm_eq {xs ys : List (List Nat)} (p : xs.Perm ys) : sortS xs = sortS ys :=
  srt_eq (((sortS_perm xs).trans p).trans (sortS_perm ys).symm) (sort_srt xs) (sort_srt ys)
theorem first_of {xs ms : List (List Nat)} (hm : ms ≠ []) (hs : ∀ m ∈ ms, m ∈ xs) : ∃ pre rest u, sortS xs = pre ++ u :: rest ∧ (∀ y ∈ pre, y ∉ ms) ∧ (∃ r, sortS ms = u :: r) ∧ u ∈ ms := by
  have gen : ∀ zs : List (List Nat), (∃ m ∈ ms, m ∈ zs) → ∃ pre rest u, zs = pre ++ u :: rest ∧ (∀ y ∈ pre, y ∉ ms) ∧ u ∈ ms := by
    intro zs
    induction zs with
    | nil => rintro ⟨_, _, h⟩; cases h
    | cons z zs ih =>
      rintro ⟨m, h1, h2⟩
      by_cases hz : z ∈ ms
      · exact ⟨[], zs, z, rfl, (by intro y h; cases h), hz⟩
      · rcases List.mem_cons.mp h2 with rfl | h2
        · exact absurd h1 hz
        · obtain ⟨pre, rest, u, e, a, b⟩ := ih ⟨m, h1, h2⟩
          exact ⟨z :: pre, rest, u, by rw [e]; rfl, fun y hy => by rcases List.mem_cons.mp hy with rfl | hy; exact hz; exact a y hy, b⟩
  obtain ⟨m0, hm0⟩ := List.exists_mem_of_ne_nil ms hm
  obtain ⟨pre, rest, u, e, a, hu⟩ := gen (sortS xs) ⟨m0, hm0, (sortS_perm xs).mem_iff.mpr (hs m0 hm0)⟩
  refine ⟨pre, rest, u, e, a, ?_, hu⟩
  cases q : sortS ms with
  | nil => have := (sortS_perm ms).mem_iff.mpr hu; rw [q] at this; cases this
  | cons m r =>
    have hmm : m ∈ ms := (sortS_perm ms).mem_iff.mp (by rw [q]; exact List.mem_cons_self ..)
    have s1 := sort_srt ms
    rw [q] at s1
    have s2 := sort_srt xs
    rw [e] at s2
    have hum : u ∈ m :: r := by rw [← q]; exact (sortS_perm ms).mem_iff.mpr hu
    have l1 : ltS u m = false := by
      rcases List.mem_cons.mp hum with rfl | h
      · exact lt_irr _
      · exact (List.pairwise_cons.mp s1).1 u h
    have hmx : m ∈ pre ++ u :: rest := by rw [← e]; exact (sortS_perm xs).mem_iff.mpr (hs m hmm)
    have l2 : ltS m u = false := by
      rcases List.mem_append.mp hmx with h | h
      · exact absurd hmm (a m h)
      · rcases List.mem_cons.mp h with rfl | h
        · exact lt_irr _
        · exact (List.pairwise_cons.mp (List.pairwise_append.mp s2).2.1).1 m h
    exact ⟨r, by rw [lt_tri u m l1 l2]⟩
end Kq
set_option maxRecDepth 100000
set_option autoImplicit false
namespace Kq
open Kp Kp.B
section
variable {I : Info} {c : Call} {env : Env} {h : AH}
theorem evS_rais {k : Nat} {es : Exs} : evS I c (.rais k es) env h = (match I.exc k with
    | some ks => liftS (evs I c es env h) env fun ds h => liftS (frzsR ds h) env fun ts h => if ks.length = ts.length then .ex k ks.reverse ts.reverse env h else .no
    | none => .no) := by rw [evS]; try rfl
theorem evS_tri {b : Sts} {hs : List (Nat × Nat × XSs)} : evS I c (.tri b hs) env h = (match evSs I c b env h with
    | .ex k ks ts env h => xhs I k ks ts env h hs
    | r => r) := by rw [evS]; try rfl
theorem lift_ex {α : Type} {k : Nat} {ks : List Nat} {ts : List T} {f : α → AH → SR} : liftS (.ex k ks ts h) env f = .ex k ks ts env h := rfl
theorem forL_app {d : D} {all xs ys : List D} {f : D → Env → AH → SR} {e' : Env} {h' : AH} : ∀ {env : Env} {h : AH}, forL d all f xs env h = .nx e' h' → forL d all f (xs ++ ys) env h = forL d all f ys e' h' := by
  induction xs with
  | nil => intro env h e; unfold forL at e; cases e; rfl
  | cons x xs ih =>
    intro env h e
    rw [List.cons_append]
    rw [forL] at e
    rw [forL]
    cases q : f x env h with
    | nx e1 h1 =>
      rw [q] at e
      dsimp only at e ⊢
      by_cases st : still d all h1 = true
      · rw [if_pos st] at e ⊢; exact ih e
      · rw [if_neg st] at e; cases e
    | ct e1 h1 =>
      rw [q] at e
      dsimp only at e ⊢
      by_cases st : still d all h1 = true
      · rw [if_pos st] at e ⊢; exact ih e
      · rw [if_neg st] at e; cases e
    | rt _ _ => rw [q] at e; cases e
    | ex _ _ _ _ _ => rw [q] at e; cases e
    | no => rw [q] at e; cases e
theorem loop123p (P : HasP I) (n : Nat) (h : AH) (d x0 : D) (all : List D) (gs : List T) (o : Ob) (hl : gs.length < 10000) (w : ∀ l, still d all (h ++ l) = true) (hg : ∀ g ∈ gs, g ∈ all16) :
    ∃ z, forL d all (turn (.n 3) fun env h => evSs I (callN I (n + 1)) b123_3 env h) (gs.map .t) [some x0, some d, some (.r (h.length + 1)), none, none, none, none] (h ++ [o, .lst []]) =
      .nx [some x0, some d, some (.r (h.length + 1)), z, none, none, none] (h ++ [o, .lst (gs.map .t)]) := by
  obtain ⟨env', h', e, z, rfl, rfl⟩ := forL_ok (d := d) (all := all) (f := turn (.n 3) fun env h => evSs I (callN I (n + 1)) b123_3 env h)
    (fun j env h' => ∃ z, env = [some x0, some d, some (.r (h.length + 1)), z, none, none, none] ∧ h' = h ++ [o, .lst ((gs.take j).map .t)]) (gs.map .t) 0 [some x0, some d, some (.r (h.length + 1)), none, none, none, none] (h ++ [o, .lst []])
    ⟨none, rfl, rfl⟩ (fun j env h' ⟨z, _, eh⟩ => by rw [eh]; exact w _) (fun j x env h' ex ⟨z, e1, e2⟩ => by
      subst e1 e2
      obtain ⟨g, rfl, hm, hj, tk⟩ := take_next ex
      refine ⟨_, _, .inl (turn123a P n h _ _ o _ g (hg g hm) (by simp; omega) z), _, rfl, ?_⟩
      rw [tk])
  refine ⟨z, ?_⟩
  rw [e]
  simp
def NoPair (I : Info) (b : T) : Prop := ∀ (n : Nat) (h : AH), callD I (callN I (n + 1)) 344 [.t b] [] [] h = .ok (.t (.bl false)) h
theorem new_bad (P : HasP I) (hx : I.exc 3 = some [25]) (n : Nat) (h : AH) (gs : List T) (b : T) (rest : List T) (hl : gs.length < 10000) (hg : ∀ g ∈ gs, g ∈ all16) (nb : NoPair I b) :
    newD I (callN I (n + 2)) 12 [.t (.lst (gs ++ b :: rest))] [] [] h = .ex 3 [25] [b] (h ++ [.ins 12 [] []]) := by
  have hc : callN I (n + 2) 123 [.r h.length, .t (.lst (gs ++ b :: rest))] (h ++ [.ins 12 [] []]) = .ex 3 [25] [b] (h ++ [.ins 12 [] []]) := by
    rw [call_eq P.t123 (n + 1) _ _ rfl]
    obtain ⟨z, e1⟩ := loop123p P n h (.t (.lst (gs ++ b :: rest))) (.r h.length) ((gs ++ b :: rest).map .t) gs (.ins 12 [] []) hl (fun _ => rfl) hg
    have e2 := forL_app (ys := (b :: rest).map .t) e1
    rw [← List.map_append] at e2
    have tn : turn (.n 3) (fun env h => evSs I (callN I (n + 1)) b123_3 env h) (.t b) [some (.r h.length), some (.t (.lst (gs ++ b :: rest))), some (.r (h.length + 1)), z, none, none, none] (h ++ [.ins 12 [] [], .lst (gs.map .t)]) =
        .ex 3 [25] [b] [some (.r h.length), some (.t (.lst (gs ++ b :: rest))), some (.r (h.length + 1)), some (.t b), none, none, none] (h ++ [.ins 12 [] [], .lst (gs.map .t)]) := by
      have hf : ∀ h', frzsR [D.t b] h' = .ok [b] h' := fun h' => frzsR_t [b] h'
      simp only [turn, Tg.set, List.set_cons_succ, List.set_cons_zero]
      simp [b123_3, evSs_cons, evS_rais, nb n, hx, hf]
    have e3 : forL (.t (.lst (gs ++ b :: rest))) ((gs ++ b :: rest).map .t) (turn (.n 3) fun env h => evSs I (callN I (n + 1)) b123_3 env h) ((b :: rest).map .t) [some (.r h.length), some (.t (.lst (gs ++ b :: rest))), some (.r (h.length + 1)), z, none, none, none] (h ++ [.ins 12 [] [], .lst (gs.map .t)]) =
        .ex 3 [25] [b] [some (.r h.length), some (.t (.lst (gs ++ b :: rest))), some (.r (h.length + 1)), some (.t b), none, none, none] (h ++ [.ins 12 [] [], .lst (gs.map .t)]) := by
      rw [List.map_cons]
      unfold forL
      rw [tn]
    rw [e3] at e2
    have hw : ∀ h', walkOf I h' (.t (.lst (gs ++ b :: rest))) = some (.t (.lst (gs ++ b :: rest)), (gs ++ b :: rest).map .t) := fun h' => rfl
    have ht : (h ++ [Ob.ins 12 [] [], Ob.lst (gs.map .t)]).take (h.length + 1) = h ++ [.ins 12 [] []] := by
      have := htake (h ++ [Ob.ins 12 [] []]) [Ob.lst (gs.map .t)]
      simpa using this
    simp only [List.map_append, List.map_cons] at e2 hw
    simp [b123, start, evSs_cons, hw, e2, -List.map_map]
    simp [retS, ht]
  unfold newD
  rw [P.init]
  dsimp only
  unfold callD
  rw [P.t123]
  simp [arrD, hc]
end
end Kq
set_option maxRecDepth 100000
set_option autoImplicit false
namespace Kq
open Kp Kp.B
open scoped Kq
section
variable {I : Info}
theorem new_book (P : HasK I) (b : Bk) (ok : b.Ok) (n : Nat) (h : AH) (m : Nat) (hm : h[m]? = some (.dct b.ms (b.fs.map fun f => pS f.2))) :
    newD I (callN I (n + 4)) 1 [.t (pS b.kept)] [2, 3, 4] [.r m, .t (.bl b.early), .t (.bl b.coh)] h = .ok (.t b.tree) h := by
  unfold newD
  rw [P.init1]
  dsimp only
  have cd : callD I (callN I (n + 4)) 101 [.r h.length, .t (pS b.kept)] [2, 3, 4] [.r m, .t (.bl b.early), .t (.bl b.coh)] = fun h' => callN I (n + 4) 101 [.r h.length, .t (pS b.kept), .r m, .t (.bl b.early), .t (.bl b.coh)] h' := funext fun h' => by
    unfold callD
    rw [P.t101]
    rfl
  rw [cd]
  have ini := init_c P b ok n h m hm
  dsimp only
  rw [ini]
  simp only [bind_okk, isN, if_true, P.live1, Bool.false_eq_true, if_false]
  unfold frzR frz
  rw [hget0]
  simp only [gz, frzL, frz, hset0, List.set_cons_zero, bind_okk]
  rw [htake]
  rfl
def Bk.bare (p : T → Bool) (e c : Bool) : Bk := ⟨p, [], e, c⟩
theorem init_none (P : HasK I) (p : T → Bool) (e c : Bool) (n : Nat) (h : AH) :
    callN I (n + 4) 101 [.r h.length, .t (pS p), .t .non, .t (.bl e), .t (.bl c)] (h ++ [.ins 1 [] []]) =
      .ok (.t .non) (h ++ [.ins 1 [15, 9, 8, 6] [.t (pS p), .t (.dct [sF] [pS fun _ => true]), .t (.bl e), .t (.bl c)]]) := by
  rw [call_eq P.t101 (n + 3) _ _ rfl]
  have k1 : ∀ o : Ob, biD I (callN I (n + 3)) .keys [.r (h.length + 1)] (h ++ [o, .dct [] []]) = .ok (.t (.lst [])) (h ++ [o, .dct [] []]) := fun o => keys_l (ks := []) (vs := []) (by simp)
  have k2 : ∀ o : Ob, biD I (callN I (n + 3)) .keys [.r (h.length + 1)] (h ++ [o, .dct [sF] [pS fun _ => true]]) = .ok (.t (.lst [.str sF])) (h ++ [o, .dct [sF] [pS fun _ => true]]) := fun o => keys_l (ks := [sF]) (vs := [pS fun _ => true]) (by simp)
  have s1 : ∀ h, biD I (callN I (n + 3)) .sorted [.t (.lst [])] h = .ok (.t (.lst [])) h := fun h => rfl
  have s2 : ∀ h, biD I (callN I (n + 3)) .sorted [.t (.lst [.str sF])] h = .ok (.t (.lst [.str sF])) h := fun h => rfl
  have pc := fun h => product_c P n h
  have st : ∀ o : Ob, setID I (callN I (n + 3)) (.r (h.length + 1)) (.t (.str sF)) (.t (pS fun _ => true)) (h ++ [o, .dct [] []]) = .ok () (h ++ [o, .dct [sF] [pS fun _ => true]]) := fun o => by
    have := setI_dct (I := I) (c := callN I (n + 3)) (h := h ++ [o, .dct [] []]) (m := h.length + 1) (ks := []) (vs := []) (z := sF) (t := pS fun _ => true) (by simp) (by decide)
    rw [this, hs]
    rfl
  have sa : ∀ (f : Nat) (hf : I.fld 1 f = true) (t : T) (fs : List Nat) (ds : List D) (l : AH), fs.length < 1000 → setAD I (.r h.length) f (.t t) (h ++ Ob.ins 1 fs ds :: l) = .ok () (h ++ Ob.ins 1 (put (.t t) f fs ds).1 (put (.t t) f fs ds).2 :: l) := fun f hf t fs ds l lt => by
    have := setA_ins (I := I) (h := h ++ Ob.ins 1 fs ds :: l) (m := h.length) (k := 1) (f := f) (fs := fs) (ds := ds) (t := t) (by simp) hf lt
    rw [this, hs0]; rfl
  have dcE : ∀ (o : Ob) (x1 x2 x3 x4 x5 z : Option D), ev I (callN I (n + 3)) (.dc false (.v 6) (.idx (.v 5) (.v 6)) [6] (.n 6) (.val (.bi .sorted (.cons (.bi .keys (.cons (.v 5) .nil)) .nil))) .no_) [x1, x2, x3, x4, x5, some (.r (h.length + 1)), z] (h ++ [o, .dct [sF] [pS fun _ => true]]) =
      .ok (.t (.dct [sF] [pS fun _ => true])) (h ++ [o, .dct [sF] [pS fun _ => true]]) := fun o x1 x2 x3 x4 x5 z => by
    rw [ev_dc]
    simp! [k2, s2]
    rw [show [D.t (T.str sF)] = ([sF].map T.str).map D.t from rfl]
    rw [dctR_names (g := fun _ => pS fun _ => true) rfl [sF] [] [] rfl (by decide) (by decide) (fun s hs => by
      have es : s = sF := List.mem_singleton.mp hs
      subst es
      have g := idx_dct (I := I) (c := callN I (n + 3)) (h := h ++ [o, .dct [sF] [pS fun _ => true]]) (m := h.length + 1) (ks := [sF]) (vs := [pS fun _ => true]) (z := sF) (by simp)
      rw [show lk [sF] [pS fun _ => true] sF = some (pS fun _ => true) from rfl] at g
      simp! [g])]
    simp! []
  have tk : ∀ a b : Ob, (h ++ [a, b]).take (h ++ [Ob.ins 1 [] []]).length = h ++ [a] := fun a b => by
    rw [List.length_append]; exact htk
  have hl1 : (h ++ [Ob.ins 1 [] []]).length = h.length + 1 := by simp
  have ed : ∀ env, ev I (callN I (n + 3)) (.dct [] .nil) env (h ++ [Ob.ins 1 [] []]) = .ok (.r (h.length + 1)) (h ++ [.ins 1 [] [], .dct [] []]) := fun env => by
    rw [ev]; simp
  have sa15 := fun t l => sa 15 P.f15 t [] [] l (by decide)
  have sa9 := fun t y l => sa 9 P.f9 t [15] [y] l (by decide)
  have sa8 := fun t y z l => sa 8 P.f8 t [15, 9] [y, z] l (by decide)
  have sa6 := fun t y z u l => sa 6 P.f6 t [15, 9, 8] [y, z, u] l (by decide)
  have isn : ∀ h, cmpD I (callN I (n + 3)) .isnot (.t .non) (.t .non) h = .ok (.t (.bl false)) h := fun h => rfl
  have fl : ∀ env h, forL (.t (.lst [])) [] (turn (.n 6) fun env h => evSs I (callN I (n + 3)) b101_1 env h) [] env h = .nx env h := fun env h => rfl
  simp! [b101, ed, isn, k1, s1, fl, P.full, P.kinds, pc, evS_setIq, st, dcE, sa15, sa9, sa8, sa6, put]
  simp [sa8, sa6, put, retS, htk]
def bareT (p : T → Bool) (e c : Bool) : T := .ins 1 [15, 9, 8, 6] [pS p, .dct [sF] [pS fun _ => true], .bl e, .bl c]
theorem new_bare (P : HasK I) (p : T → Bool) (e c : Bool) (kns : List Nat) (ks : List D) (n : Nat) (h : AH)
    (cd : ∀ (r : D) (h' : AH), callD I (callN I (n + 4)) 101 [r, .t (pS p)] kns ks h' = callN I (n + 4) 101 [r, .t (pS p), .t .non, .t (.bl e), .t (.bl c)] h') :
    newD I (callN I (n + 4)) 1 [.t (pS p)] kns ks h = .ok (.t (bareT p e c)) h := by
  unfold newD
  rw [P.init1]
  dsimp only
  rw [cd, init_none P p e c n h]
  simp only [bind_okk, isN, if_true, P.live1, Bool.false_eq_true, if_false]
  unfold frzR frz
  rw [hget0]
  simp only [gz, frzL, frz, hset0, List.set_cons_zero, bind_okk]
  rw [htake]
  rfl
def NoName (I : Info) (s : List Nat) : Prop := s = sF ∨ ∀ (n : Nat) (h : AH), callD I (callN I (n + 1)) 339 [.t (.str s)] [] [] h = .ok (.t (.bl false)) h
theorem new_badname (P : HasK I) (hx : I.exc 2 = some [19]) (p : T → Bool) (ks : List (List Nat)) (vs : List T) (kl : ks.length < 60) (pre rest : List (List Nat)) (u : List Nat) (es : sortS ks = pre ++ u :: rest) (hp : ∀ s ∈ pre, Good s) (hu : NoName I u) (n : Nat) (h : AH) (m : Nat) (hm : h[m]? = some (.dct ks vs))
    (cd : ∀ (r : D) (h' : AH), callD I (callN I (n + 4)) 101 [r, .t (pS p)] [2] [.r m] h' = callN I (n + 4) 101 [r, .t (pS p), .r m, .t (.bl false), .t (.bl true)] h') :
    newD I (callN I (n + 4)) 1 [.t (pS p)] [2] [.r m] h = .ex 2 [19] [.str u] (h ++ [.ins 1 [] []]) := by
  have hmlt := (List.getElem?_eq_some_iff.mp hm).1
  have hm' : ∀ l : AH, (h ++ l)[m]? = some (.dct ks vs) := fun l => by rw [List.getElem?_append_left hmlt]; exact hm
  have d1 : biD I (callN I (n + 3)) .dcp [.r m] (h ++ [.ins 1 [] [], .dct [] []]) = .ok (.r (h.length + 2)) (h ++ [.ins 1 [] [], .dct [] [], .dct ks vs]) := by
    rw [dcp_l (hm' _)]; simp
  have k1 : ∀ o : Ob, biD I (callN I (n + 3)) .keys [.r (h.length + 2)] (h ++ [o, .dct [] [], .dct ks vs]) = .ok (.t (.lst (ks.map .str))) (h ++ [o, .dct [] [], .dct ks vs]) := fun o => keys_l (vs := vs) (by simp)
  have s1 : ∀ h, biD I (callN I (n + 3)) .sorted [.t (.lst (ks.map .str))] h = .ok (.t (.lst ((pre ++ u :: rest).map .str))) h := fun h => by rw [sorted_strs (by omega), es]
  have wk : ∀ h, walkOf I h (.t (.lst ((pre ++ u :: rest).map .str))) = some (.t (.lst ((pre ++ u :: rest).map .str)), ((pre ++ u :: rest).map T.str).map .t) := fun h => rfl
  have hfz : ∀ h', frzsR [D.t (.str u)] h' = .ok [.str u] h' := fun h' => frzsR_t [.str u] h'
  have lp : ∀ (x1 x2 x3 x4 x5 x6 z : Option D) (h : AH), ∃ e', forL (.t (.lst ((pre ++ u :: rest).map .str))) (((pre ++ u :: rest).map T.str).map .t) (turn (.n 6) fun env h => evSs I (callN I (n + 3)) b101_1 env h) (((pre ++ u :: rest).map T.str).map .t) [x1, x2, x3, x4, x5, x6, z] h = .ex 2 [19] [.str u] e' h := by
    intro x1 x2 x3 x4 x5 x6 z h
    have gen : ∀ (d : D) (all : List D), (still d all h = true) → ∀ (pre : List (List Nat)), (∀ s ∈ pre, Good s) → ∀ z, ∃ e', forL d all (turn (.n 6) fun env h => evSs I (callN I (n + 3)) b101_1 env h) (((pre ++ u :: rest).map T.str).map .t) [x1, x2, x3, x4, x5, x6, z] h = .ex 2 [19] [.str u] e' h := by
      intro d all st pre
      induction pre with
      | nil =>
        intro _ z
        refine ⟨[x1, x2, x3, x4, x5, x6, some (.t (.str u))], ?_⟩
        rw [List.nil_append, List.map_cons, List.map_cons, forL]
        have tn : turn (.n 6) (fun env h => evSs I (callN I (n + 3)) b101_1 env h) (.t (.str u)) [x1, x2, x3, x4, x5, x6, z] h = .ex 2 [19] [.str u] [x1, x2, x3, x4, x5, x6, some (.t (.str u))] h := by
          cases q : (u == sF) with
          | true =>
            simp! [b101_1, P.full, q, evS_rais, hx, hfz]
            try rfl
          | false =>
            have f : ∀ h, callD I (callN I (n + 3)) 339 [.t (.str u)] [] [] h = .ok (.t (.bl false)) h := fun h => by
              rcases hu with e | f
              · rw [e] at q; simp at q
              · exact f (n + 2) h
            simp! [b101_1, P.full, q, f, evS_rais, hx, hfz]
            try rfl
        rw [tn]
      | cons g pre ih =>
        intro hg z
        have gg := hg g (List.mem_cons_self ..)
        have f := fun h => fence_ok_c P gg (n + 2) h
        have nf : (g == sF) = false := beq_false_of_ne gg.nf
        obtain ⟨e', e⟩ := ih (fun n hn => hg n (List.mem_cons_of_mem _ hn)) (some (.t (.str g)))
        refine ⟨e', ?_⟩
        rw [List.cons_append, List.map_cons, List.map_cons, forL]
        have tn : turn (.n 6) (fun env h => evSs I (callN I (n + 3)) b101_1 env h) (.t (.str g)) [x1, x2, x3, x4, x5, x6, z] h = .nx [x1, x2, x3, x4, x5, x6, some (.t (.str g))] h := by
          simp! [b101_1, P.full, nf, f]
        rw [tn]
        dsimp only
        rw [if_pos st]
        exact e
    exact gen (.t (.lst ((pre ++ u :: rest).map .str))) _ rfl pre hp z
  have hc : callN I (n + 4) 101 [.r h.length, .t (pS p), .r m, .t (.bl false), .t (.bl true)] (h ++ [.ins 1 [] []]) = .ex 2 [19] [.str u] (h ++ [.ins 1 [] []]) := by
    rw [call_eq P.t101 (n + 3) _ _ rfl]
    obtain ⟨e', lp⟩ := lp (some (.r h.length)) (some (.t (pS p))) (some (.r m)) (some (.t (.bl false))) (some (.t (.bl true))) (some (.r (h.length + 2))) none (h ++ [.ins 1 [] [], .dct [] [], .dct ks vs])
    have hl1 : (h ++ [Ob.ins 1 [] []]).length = h.length + 1 := by simp
    have ap1 : (h ++ [Ob.ins 1 [] []]) ++ [Ob.dct [] []] = h ++ [.ins 1 [] [], .dct [] []] := by simp
    have ed : ∀ env, ev I (callN I (n + 3)) (.dct [] .nil) env (h ++ [Ob.ins 1 [] []]) = .ok (.r (h.length + 1)) (h ++ [.ins 1 [] [], .dct [] []]) := fun env => by
      rw [ev]; simp
    have key : evSs I (callN I (n + 3)) b101 [some (.r h.length), some (.t (pS p)), some (.r m), some (.t (.bl false)), some (.t (.bl true)), none, none] (h ++ [Ob.ins 1 [] []]) = .ex 2 [19] [.str u] e' (h ++ [.ins 1 [] [], .dct [] [], .dct ks vs]) := by
      simp! [b101, ed, d1, k1, s1, wk, lp]
      try rfl
    rw [show start (Fn.ns ⟨5, 2, 7, false, b101⟩) [.r h.length, .t (pS p), .r m, .t (.bl false), .t (.bl true)] = [some (.r h.length), some (.t (pS p)), some (.r m), some (.t (.bl false)), some (.t (.bl true)), none, none] from rfl]
    show retS false (h ++ [Ob.ins 1 [] []]).length (evSs I (callN I (n + 3)) b101 _ _) = _
    rw [key]
    unfold retS
    dsimp only
    rw [List.length_append]
    rw [htk]
    rfl
  unfold newD
  rw [P.init1]
  dsimp only
  rw [cd, hc]
  rfl
theorem names_c (t105 : I.tbl 105 = some ⟨1, 1, 2, false, b105⟩) (p20 : I.prop 1 20 = some 105) (p9 : I.prop 1 9 = none) (f9 : I.fld 1 9 = true) (x y z : T) (ks : List (List Nat)) (vs : List T) (n : Nat) (h : AH) :
    attrD I (callN I (n + 1)) (.t (.ins 1 [15, 9, 8, 6] [x, .dct ks vs, y, z])) 20 h = .ok (.t (.tup (ks.map .str))) h := by
  have e : attrD I (callN I (n + 1)) (.t (.ins 1 [15, 9, 8, 6] [x, .dct ks vs, y, z])) 20 h = noEx (callN I (n + 1) 105 [.t (.ins 1 [15, 9, 8, 6] [x, .dct ks vs, y, z])] h) := by
    unfold attrD
    rw [show clsOf h (.t (.ins 1 [15, 9, 8, 6] [x, .dct ks vs, y, z])) = some 1 from rfl]
    dsimp only
    rw [p20]
  rw [e, call_eq t105 n _ h rfl]
  have a : attrD I (callN I n) (.t (.ins 1 [15, 9, 8, 6] [x, .dct ks vs, y, z])) 9 h = .ok (.t (.dct ks vs)) h := by
    unfold attrD
    rw [show clsOf h (.t (.ins 1 [15, 9, 8, 6] [x, .dct ks vs, y, z])) = some 1 from rfl]
    dsimp only
    rw [p9]
    dsimp only
    rw [f9]
    rfl
  have k := keys_t (I := I) (c := callN I n) (h := h) (ks := ks) (vs := vs)
  have tu : biD I (callN I n) .tuple [.t (.lst (ks.map .str))] h = .ok (.t (.tup (ks.map .str))) h := by
    have q : biD I (callN I n) .tuple [.t (.lst (ks.map .str))] h = (frzsR ((ks.map T.str).map .t) h).bind fun ts h => .ok (.t (.tup ts)) h := rfl
    rw [q, frzsR_t]; rfl
  simp! [b105, a, k, tu]
end
end Kq
set_option maxRecDepth 100000
namespace K6
open Kp
def tb : Tb where
  defs := [(344, ⟨1, 1, 1, false, B.b344⟩), (123, ⟨2, 2, 7, false, B.b123⟩), (126, ⟨1, 1, 1, false, B.b126⟩), (121, ⟨2, 2, 2, false, B.b121⟩), (122, ⟨2, 2, 2, false, B.b122⟩), (125, ⟨2, 2, 3, false, B.b125⟩), (120, ⟨2, 2, 3, false, B.b120⟩), (127, ⟨2, 2, 2, false, B.b127⟩), (128, ⟨2, 2, 3, false, B.b128⟩), (129, ⟨2, 2, 4, false, B.b129⟩), (339, ⟨1, 1, 2, false, B.b339⟩), (343, ⟨3, 3, 3, false, B.b343⟩), (340, ⟨1, 1, 1, false, B.b340⟩), (319, ⟨1, 1, 3, false, B.b319⟩), (310, ⟨1, 1, 2, false, B.b310⟩), (311, ⟨1, 1, 2, false, B.b311⟩), (354, ⟨2, 2, 8, false, B.b354⟩), (345, ⟨3, 3, 4, false, B.b345⟩), (355, ⟨2, 2, 5, false, B.b355⟩), (384, ⟨3, 3, 10, false, B.b384⟩), (322, ⟨2, 2, 8, false, B.b322⟩), (369, ⟨1, 1, 4, false, B.b369⟩), (379, ⟨4, 4, 6, false, B.b379⟩), (337, ⟨4, 4, 6, false, B.b337⟩), (316, ⟨2, 2, 4, false, B.b316⟩), (101, ⟨5, 2, 7, false, B.b101⟩), (105, ⟨1, 1, 2, false, B.b105⟩), (100, ⟨2, 2, 6, false, B.b100⟩), (103, ⟨4, 3, 5, false, B.b103⟩), (106, ⟨4, 4, 8, false, B.b106⟩), (183, ⟨3, 3, 9, false, B.b183⟩), (236, ⟨3, 3, 5, false, B.b236⟩), (215, ⟨0, 0, 0, false, B.b215⟩), (256, ⟨0, 0, 0, false, B.b256⟩), (149, ⟨0, 0, 3, false, B.b149⟩), (279, ⟨2, 2, 7, false, B.b279⟩), (189, ⟨1, 1, 5, false, B.b189⟩), (224, ⟨2, 2, 6, false, B.b224⟩), (164, ⟨3, 3, 7, false, B.b164⟩), (270, ⟨2, 2, 2, false, B.b270⟩), (157, ⟨1, 1, 2, false, B.b157⟩), (257, ⟨2, 2, 4, false, B.b257v1⟩), (350, ⟨1, 1, 12, false, B.b350v5⟩)]
  con := [(4, .tup [.str [114, 101, 97, 100], .str [97, 99, 113, 117, 105, 114, 101]]), (5, .tup [.str [119, 114, 105, 116, 101], .str [114, 101, 108, 101, 97, 115, 101]]), (2, .tup [.str [114, 101, 97, 100], .str [97, 99, 113, 117, 105, 114, 101], .str [119, 114, 105, 116, 101], .str [114, 101, 108, 101, 97, 115, 101]]), (1, .str [102, 117, 108, 108]), (3, .str [97, 98, 99, 100, 101, 102, 103, 104, 105, 106, 107, 108, 109, 110, 111, 112, 113, 114, 115, 116, 117, 118, 119, 120, 121, 122])]
  meth := [((12, 2), 126), ((12, 1), 121), ((12, 3), 122), ((12, 4), 125), ((12, 5), 120), ((12, 6), 127), ((12, 7), 128), ((1, 1), 100), ((1, 24), 103), ((1, 27), 106)]
  prop := [((1, 20), 105)]
  init := [(12, 123), (1, 101)]
  live := []
  iter := [(12, 32)]
  exc := [(3, [25]), (2, [19]), (5, [40, 12]), (16, [19])]
  fld := [(12, 32), (1, 15), (1, 9), (1, 8), (1, 6)]
  dfl := [((101, 2), .non), ((101, 3), .bl false), ((101, 4), .bl true), ((103, 3), .tup []), ((123, 1), .tup [])]
  sub := [((3, 11), true), ((3, 3), true), ((3, 2), false), ((3, 16), false), ((2, 11), true), ((2, 3), false), ((2, 2), true), ((2, 16), false), ((5, 11), true), ((5, 3), false), ((5, 2), false), ((5, 16), false), ((16, 11), true), ((16, 3), false), ((16, 2), false), ((16, 16), true)]
def idLaw : Nat := 350
end K6
set_option maxRecDepth 100000
set_option autoImplicit false
namespace K6
open Kp Kp.B Kq
open scoped Kq
abbrev I : Info := tb.info
theorem hB6 : HasK I where
  t344 := rfl
  t123 := rfl
  kinds := rfl
  init := rfl
  live := rfl
  iter := rfl
  fld := rfl
  prop := rfl
  dflt := rfl
  t126 := rfl
  t121 := rfl
  m1 := rfl
  m2 := rfl
  t122 := rfl
  t125 := rfl
  t120 := rfl
  t127 := rfl
  t128 := rfl
  m3 := rfl
  m4 := rfl
  m5 := rfl
  m6 := rfl
  m7 := rfl
  t183 := rfl
  t215 := rfl
  t256 := rfl
  t149 := rfl
  t279 := rfl
  t236 := rfl
  t189 := rfl
  t224 := rfl
  t164 := rfl
  t101 := rfl
  t129 := rfl
  t339 := rfl
  letters := rfl
  full := rfl
  init1 := rfl
  live1 := rfl
  f15 := rfl
  f9 := rfl
  f8 := rfl
  f6 := rfl
theorem slt_to {ts : List T} {k : Int} {h : AH} (a : 0 ≤ k) : slcD (.t (.lst ts)) (.t .non) (.t (.int k)) h = .ok (.t (.lst (ts.take k.toNat))) h := by
  have q : slcD (.t (.lst ts)) (.t .non) (.t (.int k)) h = (frzsR (cut (ts.map D.t) none (some k)) h).bind fun ts h => .ok (.t (.lst ts)) h := rfl
  have : cut (ts.map D.t) none (some k) = (ts.take k.toNat).map .t := by
    simp only [cut, clipO, clip, List.drop_zero]
    rw [if_pos a, List.length_map, List.map_take]
    by_cases b : k.toNat ≤ ts.length
    · rw [Nat.min_eq_left b]
    · rw [Nat.min_eq_right (by omega), List.take_of_length_le (by simp), List.take_of_length_le (by simp; omega)]
  rw [q, this, frzsR_t]; rfl
theorem slt_from {ts : List T} {k : Int} {h : AH} (a : 0 ≤ k) : slcD (.t (.lst ts)) (.t (.int k)) (.t .non) h = .ok (.t (.lst (ts.drop k.toNat))) h := by
  have q : slcD (.t (.lst ts)) (.t (.int k)) (.t .non) h = (frzsR (cut (ts.map D.t) (some k) none) h).bind fun ts h => .ok (.t (.lst ts)) h := rfl
  have : cut (ts.map D.t) (some k) none = (ts.drop k.toNat).map .t := by
    simp only [cut, clipO, clip]
    rw [if_pos a, List.length_map, List.map_drop, List.take_of_length_le (by simp)]
    by_cases b : k.toNat ≤ ts.length
    · rw [Nat.min_eq_left b]
    · rw [Nat.min_eq_right (by omega), List.drop_of_length_le (by simp), List.drop_of_length_le (by simp; omega)]
  rw [q, this, frzsR_t]; rfl
def bads : List (List Nat) := [sF, sR, sA, sW, sL, [], [110, 105, 110, 101, 115, 105, 103, 110, 115], [83, 116, 111, 114, 101], [97, 49], [97, 32, 98], [122, 46]]
theorem noName : ∀ s ∈ bads, NoName I s := by
  intro s hs
  unfold bads at hs
  simp only [List.mem_cons, List.not_mem_nil, or_false] at hs
  have go : ∀ s : List Nat, (∀ (n : Nat) (h : AH), evSs I (callN I n) b339 [some (.t (.str s)), none] h = .rt (.t (.bl false)) h) → NoName I s := fun s e => .inr fun n h => by
    rw [callD_eq (fd := ⟨1, 1, 2, false, b339⟩) rfl rfl (by decide)]
    show retS false h.length (evSs I (callN I n) b339 [some (.t (.str s)), none] h) = _
    rw [e, ret_0]
  rcases hs with rfl | rfl | rfl | rfl | rfl | rfl | rfl | rfl | rfl | rfl | rfl
  · exact .inl rfl
  all_goals exact go _ fun n h => rfl
theorem getN {α : Type} {xs : List α} {i : Int} (a : 0 ≤ i) (b : i < xs.length) : ∃ g ∈ xs, geti xs i = some g := by
  have hj : i.toNat < xs.length := by omega
  exact ⟨_, List.getElem_mem hj, by rw [geti_ok a, List.getElem?_eq_getElem hj]⟩
theorem bad_c (d : Int) : ∃ s ∈ bads, ∀ (n : Nat) (h : AH), callD I (callN I (n + 1)) 157 [.t (.int d)] [] [] h = .ok (.t (.str s)) h := by
  have m := fm_bd (x := d) (show (0 : Int) < 11 by decide)
  obtain ⟨s, hs, es⟩ := getN (xs := bads) m.1 m.2
  refine ⟨s, hs, fun n h => ?_⟩
  rw [callD_eq (fd := ⟨1, 1, 2, false, b157⟩) rfl rfl (by decide)]
  have g : ∀ h, idxD I (callN I n) (.t (.lst [.str [102, 117, 108, 108], .str [114, 101, 97, 100], .str [97, 99, 113, 117, 105, 114, 101], .str [119, 114, 105, 116, 101], .str [114, 101, 108, 101, 97, 115, 101], .str [], .str [110, 105, 110, 101, 115, 105, 103, 110, 115], .str [83, 116, 111, 114, 101], .str [97, 49], .str [97, 32, 98], .str [122, 46]])) (.t (.int (d.fmod 11))) h = .ok (.t (.str s)) h := fun h => by
    rw [idx_lst]
    have := geti_map (xs := bads) (f := T.str) (i := d.fmod 11)
    rw [es] at this
    have e : geti [T.str [102, 117, 108, 108], .str [114, 101, 97, 100], .str [97, 99, 113, 117, 105, 114, 101], .str [119, 114, 105, 116, 101], .str [114, 101, 108, 101, 97, 115, 101], .str [], .str [110, 105, 110, 101, 115, 105, 103, 110, 115], .str [83, 116, 111, 114, 101], .str [97, 49], .str [97, 32, 98], .str [122, 46]] (d.fmod 11) = some (.str s) := this
    rw [e]; rfl
  simp! [b157, g]
theorem refused_c (p : T → Bool) (ks : List (List Nat)) (vs : List T) (kl : ks.length < 60) (pre rest : List (List Nat)) (u : List Nat) (es : sortS ks = pre ++ u :: rest) (hp : ∀ s ∈ pre, Good s) (hu : NoName I u) (n : Nat) (h : AH) (m : Nat) (hm : h[m]? = some (.dct ks vs)) :
    callD I (callN I (n + 5)) 257 [.t (pS p), .r m] [] [] h = .ok (.t (.str u)) h := by
  rw [callD_eq (fd := ⟨2, 2, 4, false, b257v1⟩) rfl rfl (by decide)]
  have e := new_badname hB6 rfl p ks vs kl pre rest u es hp hu n h m hm (fun r h' => rfl)
  have e1 : evSs I (callN I (n + 4)) b257v1_1 [some (.t (pS p)), some (.r m), none, none] h = .ex 2 [19] [.str u] [some (.t (pS p)), some (.r m), none, none] (h ++ [.ins 1 [] []]) := by
    simp! [b257v1_1, e]
    try rfl
  have key : evSs I (callN I (n + 4)) b257v1 [some (.t (pS p)), some (.r m), none, none] h = .rt (.t (.str u)) (h ++ [.ins 1 [] []]) := by
    unfold b257v1
    rw [evSs_cons, evS_tri, e1]
    rfl
  show retS false h.length (evSs I (callN I (n + 4)) b257v1 [some (.t (pS p)), some (.r m), none, none] h) = _
  rw [key, ret_1]
theorem put_ok {v : T} {x : List Nat} : ∀ (ks : List (List Nat)) (vs : List T), ks.length = vs.length → (put v x ks vs).1.length = (put v x ks vs).2.length ∧ (put v x ks vs).1.length ≤ ks.length + 1 ∧ ∀ s, s ∈ (put v x ks vs).1 ↔ s ∈ ks ∨ s = x
  | [], [], _ => by simp [put]
  | [], _ :: _, h => by simp at h
  | _ :: _, [], h => by simp at h
  | k :: ks, w :: ws, h => by
    obtain ⟨a, b, c⟩ := put_ok (v := v) (x := x) ks ws (by simpa using h)
    by_cases e : k = x
    · have q : put v x (k :: ks) (w :: ws) = (k :: ks, v :: ws) := if_pos e
      rw [q]
      refine ⟨by simpa using h, by simp, fun s => ⟨.inl, fun z => z.elim id fun z => ?_⟩⟩
      rw [z, ← e]; exact List.mem_cons_self ..
    · have q : put v x (k :: ks) (w :: ws) = (k :: (put v x ks ws).1, w :: (put v x ks ws).2) := if_neg e
      rw [q]
      refine ⟨by simp [a], by simp only [List.length_cons]; omega, fun s => ?_⟩
      simp only [List.mem_cons, c s, or_assoc]
theorem new_empty (n : Nat) (h : AH) : newD I (callN I (n + 2)) 12 [] [] [] h = .ok (.t (pairsT (all16.filter (mem_ [])))) h := by
  have e := new_pairs hB6.toHasP n h (.t (.tup [])) [] (by decide) (.inr (.inl rfl)) (fun _ h => by cases h)
  rw [← e]
  rfl
theorem setq {h : AH} {m : Nat} {ks : List (List Nat)} {vs : List T} {z : List Nat} {t : T} (c : Call) (e : h[m]? = some (.dct ks vs)) (l : ks.length < sizeMax) : setID I c (.r m) (.t (.str z)) (.t t) h = .ok () (h.set m (.dct (put t z ks vs).1 (put t z ks vs).2)) := setI_dct e l
theorem words_loop (W : List (List Nat)) (wl : W.length < 60) (o1 o2 : Ob) (x0 x1 x2 x3 x4 x6 x7 x8 x9 x10 : Option D) : ∃ (z : Option D) (ks : List (List Nat)) (vs : List T), ks.length < 60 ∧ (∀ s, s ∈ ks ↔ s ∈ W) ∧
    forL (.t (.lst (W.map .str))) ((W.map T.str).map .t) (turn (.n 11) fun env h => evSs I (callN I 59) b350v5_2 env h) ((W.map T.str).map .t) [x0, x1, x2, x3, x4, some (.r 2), x6, x7, x8, x9, x10, none] [o1, o2, .dct [] []] =
      .nx [x0, x1, x2, x3, x4, some (.r 2), x6, x7, x8, x9, x10, z] [o1, o2, .dct ks vs] := by
  obtain ⟨env', h', e, z, ks, vs, l1, l2, mem, rfl, rfl⟩ := forI (d := .t (.lst (W.map .str))) (ts := W.map .str) (f := turn (.n 11) fun env h => evSs I (callN I 59) b350v5_2 env h)
    (fun j env h => ∃ (z : Option D) (ks : List (List Nat)) (vs : List T), ks.length = vs.length ∧ ks.length ≤ j ∧ (∀ s, s ∈ ks ↔ s ∈ W.take j) ∧ env = [x0, x1, x2, x3, x4, some (.r 2), x6, x7, x8, x9, x10, z] ∧ h = [o1, o2, .dct ks vs])
    (env := [x0, x1, x2, x3, x4, some (.r 2), x6, x7, x8, x9, x10, none]) (h := [o1, o2, .dct [] []]) (by exact ⟨none, [], [], rfl, Nat.le_refl _, by simp, rfl, rfl⟩) (fun _ _ _ _ => rfl) (fun j x env h ex ⟨z, ks, vs, l1, l2, mem, e1, e2⟩ => by
      subst e1 e2
      rw [List.getElem?_map] at ex
      obtain ⟨g, hg, rfl⟩ := Option.map_eq_some_iff.mp ex
      have jl := (List.getElem?_eq_some_iff.mp hg).1
      have ne := fun h => new_empty 57 h
      have st := setq (h := [o1, o2, .dct ks vs]) (m := 2) (ks := ks) (vs := vs) (z := g) (t := pairsT (all16.filter (mem_ []))) (callN I 59) rfl (by simp only [sizeMax]; omega)
      obtain ⟨a, b, c⟩ := put_ok (v := pairsT (all16.filter (mem_ []))) (x := g) ks vs l1
      refine ⟨_, [o1, o2, .dct (put (pairsT (all16.filter (mem_ []))) g ks vs).1 (put (pairsT (all16.filter (mem_ []))) g ks vs).2], ?_, some (.t (.str g)), _, _, a, by omega, fun s => ?_, rfl, rfl⟩
      · simp! [b350v5_2, evS_setIq, ne, st]
      · rw [c, mem, List.take_add_one, hg]
        simp [List.mem_append])
  rw [List.length_map, List.take_length] at mem
  exact ⟨z, ks, vs, by rw [List.length_map] at l2; omega, mem, e⟩
theorem rows_loop (b : Bk) (ok : b.Ok) (x0 x1 x2 x3 x4 x7 x8 x9 x10 x11 : Option D) : ∃ z : Option D, forL (.t (.lst (b.fs.map Bk.row))) ((b.fs.map Bk.row).map .t) (turn (.n 6) fun env h => evSs I (callN I 59) b350v5_4 env h) ((b.fs.map Bk.row).map .t) [x0, x1, x2, x3, x4, some (.r 0), none, x7, x8, x9, x10, x11] [.dct [] []] =
      .nx [x0, x1, x2, x3, x4, some (.r 0), z, x7, x8, x9, x10, x11] [.dct b.ms (b.fs.map fun f => pS f.2)] := by
  have few := ok.few
  obtain ⟨env', h', e, z, rfl, rfl⟩ := forI (d := .t (.lst (b.fs.map Bk.row))) (ts := b.fs.map Bk.row) (f := turn (.n 6) fun env h => evSs I (callN I 59) b350v5_4 env h)
    (fun j env h' => ∃ z : Option D, env = [x0, x1, x2, x3, x4, some (.r 0), z, x7, x8, x9, x10, x11] ∧ h' = [.dct (b.ms.take j) ((b.fs.map fun f => pS f.2).take j)]) (env := [x0, x1, x2, x3, x4, some (.r 0), none, x7, x8, x9, x10, x11]) (h := [.dct [] []]) (by exact ⟨none, rfl, by simp⟩) (fun _ _ _ _ => rfl) (fun j x env h' ex ⟨z, e1, e2⟩ => by
      subst e1 e2
      rw [List.getElem?_map] at ex
      obtain ⟨f, hf, rfl⟩ := Option.map_eq_some_iff.mp ex
      have hm : f.1 ∈ b.ms := List.mem_map.mpr ⟨f, List.mem_of_getElem? hf, rfl⟩
      have jl := (List.getElem?_eq_some_iff.mp hf).1
      have f1 : b.ms[j]? = some f.1 := by unfold Bk.ms; rw [List.getElem?_map, hf]; rfl
      have ni : f.1 ∉ b.ms.take j := fun q => by
        have nd := ok.nd
        have e1 : b.ms = b.ms.take j ++ b.ms.drop j := (List.take_append_drop j _).symm
        rw [e1] at nd
        have e2 : b.ms.drop j = f.1 :: b.ms.drop (j + 1) := by
          rw [List.drop_eq_getElem_cons (by rw [Bk.ms_len]; exact jl)]
          congr 1
          have := List.getElem?_eq_some_iff.mp f1
          exact this.2
        rw [e2] at nd
        exact (List.nodup_append.mp nd).2.2 _ q _ (List.mem_cons_self ..) rfl
      have st := setq (h := [.dct (b.ms.take j) ((b.fs.map fun f => pS f.2).take j)]) (m := 0) (ks := b.ms.take j) (vs := (b.fs.map fun f => pS f.2).take j) (z := f.1) (t := pS f.2) (callN I 59) rfl (by rw [List.length_take]; simp only [sizeMax]; omega)
      rw [put_new _ _ _ _ (by simp [Bk.ms_len]) ni] at st
      refine ⟨_, [.dct (b.ms.take (j + 1)) ((b.fs.map fun f => pS f.2).take (j + 1))], ?_, some (.t (Bk.row f)), rfl, rfl⟩
      have t1 : b.ms.take (j + 1) = b.ms.take j ++ [f.1] := by rw [List.take_add_one, f1]; rfl
      have t2 : (b.fs.map fun f => pS f.2).take (j + 1) = (b.fs.map fun f => pS f.2).take j ++ [pS f.2] := by rw [List.take_add_one, List.getElem?_map, hf]; rfl
      rw [t1, t2]
      have i0 : ∀ h, idxD I (callN I 59) (.t (Bk.row f)) (.t (.int 0)) h = .ok (.t (.str f.1)) h := fun h => rfl
      have i1 : ∀ h, idxD I (callN I 59) (.t (Bk.row f)) (.t (.int 1)) h = .ok (.t (.lst (fil f.2))) h := fun h => rfl
      have np := fun h => new_pS hB6 57 h f.2
      simp! [b350v5_4, i0, i1, np, evS_setIq, st]
      try rfl)
  have tk1 : b.ms.take (b.fs.map Bk.row).length = b.ms := List.take_of_length_le (by simp [Bk.ms_len])
  have tk2 : (b.fs.map fun f => pS f.2).take (b.fs.map Bk.row).length = (b.fs.map fun f => pS f.2) := List.take_of_length_le (by simp)
  rw [tk1, tk2] at e
  exact ⟨z, e⟩
theorem str_lc (ex : Ex) (hex : ex = .bi .str (.cons (.v 11) .nil)) (it : It) (d : D) (W : List (List Nat)) (wl : W.length < 60) (x0 x1 x2 x3 x4 x5 x6 x7 x8 x9 x10 x11 : Option D) (h : AH) (hit : evI I (callN I 59) it [x0, x1, x2, x3, x4, x5, x6, x7, x8, x9, x10, x11] h = .ok (d, (W.map T.str).map .t) h) (hs : still d ((W.map T.str).map .t) h = true) :
    ev I (callN I 59) (.lc false ex [11] (.n 11) it .no_ .nil) [x0, x1, x2, x3, x4, x5, x6, x7, x8, x9, x10, x11] h = .ok (.t (.lst (W.map .str))) h := by
  subst hex
  have q := lc_t (I := I) (c := callN I 59) (h := h) (env := [x0, x1, x2, x3, x4, x5, x6, x7, x8, x9, x10, x11]) (elt := .bi .str (.cons (.v 11) .nil)) (own := [11]) (tg := .n 11) (it := it) (cond := .no_)
      (d := d) (emb := T.str) (xs := W) (p := fun _ => true) (g := T.str) hit hs (by simp only [sizeMax]; omega) (fun s hs => by
        have e : ∀ h, biD I (callN I 59) .str [.t (.str s)] h = .ok (.t (.str s)) h := fun h => rfl
        simp! [e])
  rw [q, List.filter_eq_self.mpr (fun _ _ => rfl)]
theorem len_dct {h : AH} {m : Nat} {ks : List (List Nat)} {vs : List T} (c : Call) (e : h[m]? = some (.dct ks vs)) : biD I c .len [.r m] h = .ok (.t (.int ks.length)) h := by
  have q : biD I c .len [.r m] h = lenD I c (.r m) h := rfl
  rw [q]
  unfold lenD own1 clsOf seqOf strOf dctOf
  simp only [e]
theorem ne_strt (W : List (List Nat)) (c : Call) (h : AH) : cmpD I c .ne (.t (.tup (W.map .str))) (.t (.tup (W.map .str))) h = .ok (.t (.bl false)) h := by
  have p : plain deep (.tup (W.map .str)) = true := by
    show (W.map T.str).all (plain 39) = true
    simp [List.all_eq_true, Kp.plain]
  have e : ∀ W : List (List Nat), eqTs (W.map T.str) (W.map T.str) = true := by
    intro W
    induction W with
    | nil => rfl
    | cons w W ih => simp [eqTs, eqT, ih]
  rw [ne_val (a := .tup (W.map .str)) (b := .tup (W.map .str)) rfl (snap_t _ _ _) (snap_t _ _ _) p p]
  show R.ok (D.t (T.bl (!eqTs (W.map T.str) (W.map T.str)))) h = _
  rw [e]; rfl
theorem eq_strt (W : List (List Nat)) (c : Call) (h : AH) : cmpD I c .eq (.t (.tup (W.map .str))) (.t (.tup (W.map .str))) h = .ok (.t (.bl true)) h := by
  have p : plain deep (.tup (W.map .str)) = true := by
    show (W.map T.str).all (plain 39) = true
    simp [List.all_eq_true, Kp.plain]
  have e : ∀ W : List (List Nat), eqTs (W.map T.str) (W.map T.str) = true := by
    intro W
    induction W with
    | nil => rfl
    | cons w W ih => simp [eqTs, eqT, ih]
  rw [ceq_tup p p, e]
theorem bin_lr {c : Call} {h : AH} {A B : List T} {m : Nat} (e : h[m]? = some (.lst (B.map .t))) (l : A.length + B.length ≤ 16777216) : binD I c .add (.t (.lst A)) (.r m) h = .ok (.t (.lst (A ++ B))) h := by
  have q : binD I c .add (.t (.lst A)) (.r m) h = (match lst2 h (.t (.lst A)) (.r m) with
    | some (xs, ys) => if Bop.add = .add ∧ xs.length + ys.length ≤ sizeMax then (frzsR (xs ++ ys) h).bind fun ts h => .ok (.t (.lst ts)) h else .no
    | none => match mOfB .add with
      | some m' => match own2 I h (.t (.lst A)) (.r m) m' with
        | some f => c f [.t (.lst A), .r m] h
        | none => .no
      | none => .no) := rfl
  have q2 : lst2 h (.t (.lst A)) (.r m) = some (A.map .t, B.map .t) := by
    unfold lst2
    rw [show lstOf h (.t (.lst A)) = some (A.map .t) from rfl, lstOf_l e]
  rw [q, q2]
  dsimp only
  rw [if_pos ⟨rfl, by simpa [sizeMax] using l⟩, ← List.map_append, frzsR_t]
  rfl
theorem fin2 (b : Bk) (ok : b.Ok) (p : T → Bool) (B : List (List Nat)) (bn : B ≠ []) (bl : B.length ≤ 2) (hB : ∀ s ∈ B, s ∈ bads) (o1 : Ob) (x0 x1 x3 x5 x6 x9 : Option D) : ∃ HB, evSs I (callN I 59) (drp 18 b350v5) [x0, x1, some (.t (.lst (b.ms.map .str))), x3, some (.t (pS p)), x5, x6, some (.t b.tree), some (.t (.tup (b.names.map .str))), x9, some (.r 1), none] [o1, .lst ((B.map T.str).map .t)] = .rt (.t (.bl true)) HB := by
  have few := ok.few
  have ml := Bk.ms_len b
  let W := b.ms.take 1 ++ B ++ b.ms.drop 1
  have hW : (b.ms.map T.str).take 1 ++ B.map T.str ++ (b.ms.map T.str).drop 1 = W.map T.str := by simp [W]
  have wl : W.length < 60 := by simp only [W, List.length_append, List.length_take, List.length_drop]; omega
  obtain ⟨z, ks, vs, kl, mem, eW⟩ := words_loop W wl o1 (.lst ((B.map T.str).map .t)) x0 x1 (some (.t (.lst (b.ms.map .str)))) x3 (some (.t (pS p))) x6 (some (.t b.tree)) (some (.t (.tup (b.names.map .str)))) x9 (some (.r 1))
  have wm : ∀ s, s ∈ W ↔ s ∈ b.ms ∨ s ∈ B := fun s => by
    simp only [W, List.mem_append]
    have : s ∈ b.ms ↔ s ∈ b.ms.take 1 ∨ s ∈ b.ms.drop 1 := by rw [← List.mem_append, List.take_append_drop]
    rw [this]
    constructor
    · rintro ((h | h) | h)
      · exact .inl (.inl h)
      · exact .inr h
      · exact .inl (.inr h)
    · rintro ((h | h) | h)
      · exact .inl (.inl h)
      · exact .inr h
      · exact .inl (.inr h)
  obtain ⟨pre, rest, u, es, hp, ⟨r, er⟩, hu⟩ := first_of (xs := ks) (ms := B) bn (fun m hm => (mem m).mpr ((wm m).mpr (.inr hm)))
  have hg : ∀ s ∈ pre, Good s := fun s hs => by
    have h1 : s ∈ ks := (sortS_perm ks).mem_iff.mp (by rw [es]; exact List.mem_append_left _ hs)
    rcases (wm s).mp ((mem s).mp h1) with h | h
    · exact ok.good s h
    · exact absurd h (hp s hs)
  have rf := refused_c p ks vs kl pre rest u es hg (noName u (hB u hu)) 54 [o1, .lst ((B.map T.str).map .t), .dct ks vs] 2 rfl
  have ed : ∀ env, ev I (callN I 59) (.dct [] .nil) env [o1, .lst ((B.map T.str).map .t)] = .ok (.r 2) [o1, .lst ((B.map T.str).map .t), .dct [] []] := fun env => by rw [ev]; simp
  have t1 : ∀ h, slcD (.t (.lst (b.ms.map .str))) (.t .non) (.t (.int 1)) h = .ok (.t (.lst ((b.ms.map T.str).take 1))) h := fun h => slt_to (by decide)
  have t2 : ∀ h, slcD (.t (.lst (b.ms.map .str))) (.t (.int 1)) (.t .non) h = .ok (.t (.lst ((b.ms.map T.str).drop 1))) h := fun h => slt_from (by decide)
  have b1 := bin_lr (c := callN I 59) (h := [o1, .lst ((B.map T.str).map .t), .dct [] []]) (A := (b.ms.map T.str).take 1) (B := B.map T.str) (m := 1) rfl (by simp only [List.length_take, List.length_map]; omega)
  have b2 : ∀ h, binD I (callN I 59) .add (.t (.lst ((b.ms.map T.str).take 1 ++ B.map T.str))) (.t (.lst ((b.ms.map T.str).drop 1))) h = .ok (.t (.lst (W.map T.str))) h := fun h => by
    rw [bin_lst (by simp only [List.length_append, List.length_take, List.length_drop, List.length_map]; omega), hW]
  have wk : ∀ h, walkOf I h (.t (.lst (W.map .str))) = some (.t (.lst (W.map .str)), (W.map T.str).map .t) := fun h => rfl
  have H2 : ([o1, .lst ((B.map T.str).map .t), .dct ks vs] : AH)[1]? = some (.lst ((B.map T.str).map .t)) := rfl
  have lc := str_lc b350v5_1 rfl (.val (.v 10)) (.r 1) B (by omega) x0 x1 (some (.t (.lst (b.ms.map .str)))) x3 (some (.t (pS p))) (some (.r 2)) x6 (some (.t b.tree)) (some (.t (.tup (b.names.map .str)))) x9 (some (.r 1)) z [o1, .lst ((B.map T.str).map .t), .dct ks vs] (by
    have : walkOf I [o1, .lst ((B.map T.str).map .t), .dct ks vs] (.r 1) = some (.r 1, (B.map T.str).map .t) := rfl
    simp! [this]) (still_l H2)
  have so : ∀ h, biD I (callN I 59) .sorted [.t (.lst (B.map .str))] h = .ok (.t (.lst ((sortS B).map .str))) h := fun h => sorted_strs (by omega)
  have i0 : ∀ h, idxD I (callN I 59) (.t (.lst ((sortS B).map .str))) (.t (.int 0)) h = .ok (.t (.str u)) h := fun h => by
    rw [er, idx_lst, geti_map, gi0]; rfl
  have nm : ∀ h, attrD I (callN I 59) (.t b.tree) 20 h = .ok (.t (.tup (b.names.map .str))) h := fun h => names_c rfl rfl rfl rfl _ _ _ _ _ 58 h
  have en := fun h => eq_strt b.names (callN I 59) h
  have eu : ∀ h, cmpD I (callN I 59) .eq (.t (.str u)) (.t (.str u)) h = .ok (.t (.bl true)) h := fun h => by rw [ceq_str, beq_self_eq_true]
  refine ⟨[o1, .lst ((B.map T.str).map .t), .dct ks vs], ?_⟩
  generalize (B.map T.str).map D.t = BD at *
  simp! [drp, tl, b350v5, ed, t1, b1, t2, b2, wk, eW, rf, lc, so, i0, eu, nm, en]
theorem same_c (a b : Bool) (n : Nat) (h : AH) : callD I (callN I (n + 1)) 270 [.t (.bl a), .t (.bl b)] [] [] h = .ok (.t (.bl (a == b))) h := by
  rw [callD_ok (fd := ⟨2, 2, 2, false, b270⟩) rfl rfl (by decide)]
  exact same_ok rfl n h a b
theorem ne_fil {c : Call} {h : AH} {p : T → Bool} : cmpD I c .ne (.t (.lst (fil p))) (.t (.lst (fil p))) h = .ok (.t (.bl false)) h := by
  rw [ne_val (a := .lst (fil p)) (b := .lst (fil p)) rfl (snap_t _ _ _) (snap_t _ _ _) (plainL fil_mem) (plainL fil_mem)]
  show R.ok (D.t (T.bl (!eqTs (fil p) (fil p)))) h = _
  rw [(eqTs16 fil_mem fil_mem).mpr rfl]; rfl
theorem tu_strs (c : Call) (W : List (List Nat)) (h : AH) : biD I c .tuple [.t (.lst (W.map .str))] h = .ok (.t (.tup (W.map .str))) h := by
  have q : biD I c .tuple [.t (.lst (W.map .str))] h = (frzsR ((W.map T.str).map .t) h).bind fun ts h => .ok (.t (.tup ts)) h := rfl
  rw [q, frzsR_t]; rfl
theorem plain : ∀ ns : List Int, ns.length ≤ 63 → ∃ h', callN tb.info 60 idLaw [.t (.ro (ns.map T.int))] [] = .ok (.t (.bl true)) h' := by
  intro ns _
  rw [show idLaw = 350 from rfl, call_eq (fd := ⟨1, 1, 12, false, b350v5⟩) rfl 59 _ [] rfl]
  obtain ⟨ds, dl, dH, eD⟩ := draws_ok (I := I) rfl ns 0 30 (by decide) (by decide) [] 58
  have dl : ds.length = 30 := dl
  have cD : callD I (callN I 59) 183 [.t (.ro (ns.map T.int)), .t (.int 0), .t (.int 30)] [] [] [] = .ok (.t (.lst (ds.map .int))) [] := by
    rw [callD_ok (fd := ⟨3, 3, 9, false, b183⟩) rfl rfl (by decide)]; exact eD
  obtain ⟨m1, m2, g1, g2, ne, eM⟩ := marks_c hB6.toHasM dH 0 (by decide) (by omega)
  have m3 := fm_bd (x := dr ds 8) (show (0 : Int) < 3 by decide)
  obtain ⟨ms, hms⟩ : ∃ ms, ms = [m1, m2].take ((dr ds 8).fmod 3).toNat := ⟨_, rfl⟩
  have msl : ms.length ≤ 2 := by rw [hms, List.length_take]; simp only [List.length_cons, List.length_nil]; omega
  have msm : ∀ s ∈ ms, s = m1 ∨ s = m2 := fun s hs => by rw [hms] at hs; simpa using List.mem_of_mem_take hs
  have msd : ms.Nodup := by
    rw [hms]
    exact List.Nodup.sublist (List.take_sublist _ _) (by simpa using ne)
  obtain ⟨b, bm, eB⟩ := law_book_c hB6.toHasD dH 9 (by decide) ms (by omega) (by omega)
  have ok : b.Ok := ⟨fun n hn => by
      rw [bm] at hn
      rcases msm n hn with rfl | rfl
      · exact g1
      · exact g2, by rw [bm]; exact msd, by rw [← Bk.ms_len, bm]; omega⟩
  subst bm
  have few := ok.few
  have ml := Bk.ms_len b
  have gd : ∀ i : Int, 0 ≤ i → i < 30 → geti ds i = some (dr ds i) := fun i a b => geti_dr a (by omega)
  have i8 : (ds.map T.int)[8]? = some (T.int (dr ds 8)) := by rw [List.getElem?_map, ← gi8, gd 8 (by decide) (by decide)]; rfl
  have i24 : (ds.map T.int)[24]? = some (T.int (dr ds 24)) := by rw [List.getElem?_map, ← gi24, gd 24 (by decide) (by decide)]; rfl
  have i25 : (ds.map T.int)[25]? = some (T.int (dr ds 25)) := by rw [List.getElem?_map, ← gi25, gd 25 (by decide) (by decide)]; rfl
  have i26 : (ds.map T.int)[26]? = some (T.int (dr ds 26)) := by rw [List.getElem?_map, ← gi26, gd 26 (by decide) (by decide)]; rfl
  have eM := fun h => eM 56 h
  have eB := fun h => eB 55 h
  have sl : ∀ h, slcD (.t (.lst [.str m1, .str m2])) (.t .non) (.t (.int ((dr ds 8).fmod 3))) h = .ok (.t (.lst (b.ms.map .str))) h := fun h => by
    rw [slt_to m3.1, hms, List.map_take]; rfl
  have np := fun h => new_pS hB6 57 h b.kept
  have l0 : ∀ h, idxD I (callN I 59) (.t b.law) (.t (.int 0)) h = .ok (.t (.lst (fil b.kept))) h := fun h => rfl
  have l1 : ∀ h, idxD I (callN I 59) (.t b.law) (.t (.int 1)) h = .ok (.t (.lst (.lst [.str sF, .lst all16] :: b.fs.map Bk.row))) h := fun h => rfl
  have l2 : ∀ h, idxD I (callN I 59) (.t b.law) (.t (.int 2)) h = .ok (.t (.bl b.early)) h := fun h => rfl
  have l3 : ∀ h, idxD I (callN I 59) (.t b.law) (.t (.int 3)) h = .ok (.t (.bl b.coh)) h := fun h => rfl
  have ed : ∀ env, ev I (callN I 59) (.dct [] .nil) env [] = .ok (.r 0) [.dct [] []] := fun env => by rw [ev]; simp
  have s1 : ∀ h, slcD (.t (.lst (.lst [.str sF, .lst all16] :: b.fs.map Bk.row))) (.t (.int 1)) (.t .non) h = .ok (.t (.lst (b.fs.map Bk.row))) h := fun h => by rw [slt_from (by decide)]; rfl
  obtain ⟨z6, eR⟩ := rows_loop b ok (some (.t (.ro (ns.map T.int)))) (some (.t (.lst (ds.map .int)))) (some (.t (.lst (b.ms.map .str)))) (some (.t b.law)) (some (.t (pS b.kept))) none none none none none
  have nb := new_book hB6 b ok 55 [.dct b.ms (b.fs.map fun f => pS f.2)] 0 rfl
  have ld := len_dct (h := [.dct b.ms (b.fs.map fun f => pS f.2)]) (m := 0) (ks := b.ms) (vs := b.fs.map fun f => pS f.2) (callN I 59) rfl
  have lm : ∀ h, biD I (callN I 59) .len [.t (.lst (b.ms.map .str))] h = .ok (.t (.int b.ms.length)) h := fun h => by rw [len_lst, List.length_map]
  have nee := fun h => new_empty 57 h
  have st := setq (h := [.dct b.ms (b.fs.map fun f => pS f.2)]) (m := 0) (ks := b.ms) (vs := b.fs.map fun f => pS f.2) (z := [122, 122]) (t := pairsT (all16.filter (mem_ []))) (callN I 59) rfl (by simp only [sizeMax]; omega)
  simp only [List.set_cons_zero] at st
  generalize Ob.dct (put (pairsT (all16.filter (mem_ []))) [122, 122] b.ms (b.fs.map fun f => pS f.2)).1 (put (pairsT (all16.filter (mem_ []))) [122, 122] b.ms (b.fs.map fun f => pS f.2)).2 = o1 at st
  have sFe : [102, 117, 108, 108] = sF := rfl
  have ba : ∀ h, binD I (callN I 59) .add (.t (.lst [.str sF])) (.t (.lst (b.ms.map .str))) h = .ok (.t (.lst ((sF :: b.ms).map .str))) h := fun h => by
    rw [bin_lst (by simp only [List.length_map, List.length_cons, List.length_nil]; omega)]; rfl
  have lcD := fun x5 x6 x7 x8 x9 x10 x11 => str_lc b350v5_3 rfl (.val (.bin .add (.lst false (.cons (.k (.str sF)) .nil)) (.v 2))) (.t (.lst ((sF :: b.ms).map .str))) (sF :: b.ms) (by simp only [List.length_cons]; omega) (some (.t (.ro (ns.map T.int)))) (some (.t (.lst (ds.map .int)))) (some (.t (.lst (b.ms.map .str)))) (some (.t b.law)) (some (.t (pS b.kept))) x5 x6 x7 x8 x9 x10 x11 [o1] (by
    have wk : ∀ h, walkOf I h (.t (.lst ((sF :: b.ms).map .str))) = some (.t (.lst ((sF :: b.ms).map .str)), ((sF :: b.ms).map T.str).map .t) := fun h => rfl
    simp! [sFe, ba, wk]) rfl
  have so : ∀ h, biD I (callN I 59) .sorted [.t (.lst ((sF :: b.ms).map .str))] h = .ok (.t (.lst (b.names.map .str))) h := fun h => by
    rw [sorted_strs (by simp only [List.length_cons]; omega)]
    rw [show sortS (sF :: b.ms) = b.names from sort_perm_eq (List.perm_append_singleton sF b.ms).symm]
  have so : ∀ h, biD I (callN I 59) .sorted [.t (.lst (.str sF :: b.ms.map .str))] h = .ok (.t (.lst (b.names.map .str))) h := so
  have tu := fun h => tu_strs (callN I 59) b.names h
  have nm : ∀ h, attrD I (callN I 59) (.t b.tree) 20 h = .ok (.t (.tup (b.names.map .str))) h := fun h => names_c rfl rfl rfl rfl _ _ _ _ _ 58 h
  have nn := fun h => ne_strt b.names (callN I 59) h
  have k15 : ∀ h, attrD I (callN I 59) (.t b.tree) 15 h = .ok (.t (pS b.kept)) h := fun h => rfl
  have k8 : ∀ h, attrD I (callN I 59) (.t b.tree) 8 h = .ok (.t (.bl b.early)) h := fun h => rfl
  have k6 : ∀ h, attrD I (callN I 59) (.t b.tree) 6 h = .ok (.t (.bl b.coh)) h := fun h => rfl
  have lp := fun h => list_pairs hB6.toHasP (callN I 59) h (fil b.kept)
  have nf := fun h => ne_fil (c := callN I 59) (h := h) (p := b.kept)
  have sm := fun a b h => same_c a b 58 h
  have n1 := fun h => new_bare hB6 b.kept false true [] [] 55 h (fun r h' => rfl)
  have n2 := fun h => new_bare hB6 b.kept true true [3] [.t (.bl true)] 55 h (fun r h' => rfl)
  have n3 := fun h => new_bare hB6 b.kept false false [4] [.t (.bl false)] 55 h (fun r h' => rfl)
  have q20 : ∀ h, attrD I (callN I 59) (.t (bareT b.kept false true)) 20 h = .ok (.t (.tup [.str sF])) h := fun h => names_c rfl rfl rfl rfl _ _ _ [sF] _ 58 h
  have q8 : ∀ e c h, attrD I (callN I 59) (.t (bareT b.kept e c)) 8 h = .ok (.t (.bl e)) h := fun e c h => rfl
  have q6 : ∀ e c h, attrD I (callN I 59) (.t (bareT b.kept e c)) 6 h = .ok (.t (.bl c)) h := fun e c h => rfl
  have q15 : ∀ e c h, attrD I (callN I 59) (.t (bareT b.kept e c)) 15 h = .ok (.t (pS b.kept)) h := fun e c h => rfl
  have nF : ∀ h, cmpD I (callN I 59) .ne (.t (.tup [.str sF])) (.t (.tup [.str sF])) h = .ok (.t (.bl false)) h := fun h => ne_strt [sF] (callN I 59) h
  have isF : ∀ h, cmpD I (callN I 59) .isnot (.t (.bl false)) (.t (.bl false)) h = .ok (.t (.bl false)) h := fun h => rfl
  have isT : ∀ h, cmpD I (callN I 59) .isnot (.t (.bl true)) (.t (.bl true)) h = .ok (.t (.bl false)) h := fun h => rfl
  obtain ⟨w1, hw1, ew1⟩ := bad_c (dr ds 24)
  obtain ⟨w2, hw2, ew2⟩ := bad_c (dr ds 26)
  have ew1 := fun h => ew1 58 h
  have ew2 := fun h => ew2 58 h
  obtain ⟨rest, hrest⟩ : ∃ rest, rest = drp 18 b350v5 := ⟨_, rfl⟩
  have f1 := fun x6 x9 => fin2 b ok b.kept [w1] (by simp) (by simp) (fun s hs => by rw [List.mem_singleton.mp hs]; exact hw1) o1 (some (.t (.ro (ns.map T.int)))) (some (.t (.lst (ds.map .int)))) (some (.t b.law)) (some (.r 0)) x6 x9
  have f2 := fun x6 x9 => fin2 b ok b.kept [w1, w2] (by simp) (by simp) (fun s hs => by
    rcases List.mem_cons.mp hs with rfl | hs
    · exact hw1
    · rw [List.mem_singleton.mp hs]; exact hw2) o1 (some (.t (.ro (ns.map T.int)))) (some (.t (.lst (ds.map .int)))) (some (.t b.law)) (some (.r 0)) x6 x9
  rw [← hrest] at f1 f2
  have eb : b350v5 = .cons (hd b350v5) (.cons (hd (drp 1 b350v5)) (.cons (hd (drp 2 b350v5)) (.cons (hd (drp 3 b350v5)) (.cons (hd (drp 4 b350v5)) (.cons (hd (drp 5 b350v5)) (.cons (hd (drp 6 b350v5)) (.cons (hd (drp 7 b350v5)) (.cons (hd (drp 8 b350v5)) (.cons (hd (drp 9 b350v5)) (.cons (hd (drp 10 b350v5)) (.cons (hd (drp 11 b350v5)) (.cons (hd (drp 12 b350v5)) (.cons (hd (drp 13 b350v5)) (.cons (hd (drp 14 b350v5)) (.cons (hd (drp 15 b350v5)) (.cons (hd (drp 16 b350v5)) (.cons (hd (drp 17 b350v5)) rest))))))))))))))))) := by rw [hrest]; rfl
  have body : ∃ HB, evSs I (callN I 59) b350v5 [some (.t (.ro (ns.map T.int))), none, none, none, none, none, none, none, none, none, none, none] [] = .rt (.t (.bl true)) HB := by
    rw [eb]
    simp only [hd, drp, tl, b350v5]
    cases q : ((dr ds 25).fmod 2 == 0) with
    | false =>
      obtain ⟨HB, f1⟩ := f1 z6 (some (.t (bareT b.kept false true)))
      refine ⟨HB, ?_⟩
      simp! [cD, eM, i8, sl, eB, l0, np, ed, l1, s1, eR, l2, l3, nb, ld, lm, evS_setIq, nee, st, lcD, so, tu, nm, nn, k15, lp, nf, k8, k6, sm, n1, q20, sFe, nF, q8, q6, isF, isT, q15, n2, n3, i24, ew1, i25, q]
      exact f1
    | true =>
      obtain ⟨HB, f2⟩ := f2 z6 (some (.t (bareT b.kept false true)))
      refine ⟨HB, ?_⟩
      have sz : [D.t (T.str w1)].length < sizeMax := by simp [sizeMax]
      simp! [cD, eM, i8, sl, eB, l0, np, ed, l1, s1, eR, l2, l3, nb, ld, lm, evS_setIq, nee, st, lcD, so, tu, nm, nn, k15, lp, nf, k8, k6, sm, n1, q20, sFe, nF, q8, q6, isF, isT, q15, n2, n3, i24, ew1, i25, q, i26, ew2, sz]
      exact f2
  obtain ⟨HB, body⟩ := body
  refine ⟨[], ?_⟩
  have est : start (Fn.ns ⟨1, 1, 12, false, b350v5⟩) [.t (.ro (ns.map T.int))] = [some (.t (.ro (ns.map T.int))), none, none, none, none, none, none, none, none, none, none, none] := rfl
  rw [est]
  show retS false ([] : AH).length (evSs I (callN I 59) b350v5 _ []) = _
  rw [body]
  rfl
end K6
set_option autoImplicit false
set_option maxRecDepth 10000
set_option maxHeartbeats 1000000
namespace Kp
open PySem L2
structure Wd where
  K : PySem.W.Frag
  /-- the names of fields, of methods -/
  fnm : Nat → Str
  mnm : Nat → Str
  /-- where classes, defs stand -/
  ca : Nat → Addr
  fa : Nat → Addr
  /-- a class's fields -/
  fld : Nat → Nat → Bool
  /-- the defs that operators call: every parameter may be given by place -/
  dun : Nat → Bool
def sOf (l : List Nat) : Str := ⟨l.toArray⟩
theorem sOf_cps (x : Str) : sOf x.cps.toList = x := by cases x; simp [sOf]
theorem cps_sOf (l : List Nat) : (sOf l).cps.toList = l := by simp [sOf]
theorem sOf_inj {a b : List Nat} (h : sOf a = sOf b) : a = b := by have := congrArg (fun x : Str => x.cps.toList) h; simpa [sOf] using this
def tOK (x : Str) : Prop := PyData.strOk x = true ∧ x.length ≤ sizeLine
def KL (K : PySem.W.Frag) (a : Addr) (xs : List V) : Prop :=
  ∃ (o : Obj) (its : Array Value) (n : Nat), K.lookup a = some o ∧ o.cls = .type "list" ∧ o.dict = none ∧ o.data = .seq its n ∧ its.size ≤ sizeLine ∧ Vals xs its.toList
def KT (K : PySem.W.Frag) (a : Addr) (xs : List V) : Prop :=
  ∃ (o : Obj) (its : Array Value) (n : Nat), K.lookup a = some o ∧ o.cls = .type "tuple" ∧ o.data = .seq its n ∧ its.size ≤ sizeLine ∧ Vals xs its.toList
abbrev Lv := Addr → Prop
def PL (W : Wd) (L : Lv) (H : Hp) (a : Addr) (vs : List V) : Prop := H a = some (.lst vs) ∧ ¬ L a
def PT_ (W : Wd) (L : Lv) (H : Hp) (a : Addr) (vs : List V) : Prop := (H a = some (.tup vs) ∧ ¬ L a) ∨ KT W.K a vs
theorem PL.sq {W : Wd} {L : Lv} {H : Hp} {a : Addr} {vs : List V} (h : PL W L H a vs) : SqL W.K H a vs := .inl (.inl h.1)
theorem PT_.sq {W : Wd} {L : Lv} {H : Hp} {a : Addr} {vs : List V} (h : PT_ W L H a vs) : SqT W.K H a vs := h.imp (fun h => .inl h.1) id
abbrev kOf (k : List Nat) : Key := Sum.inr (sOf k)
mutual
inductive RepT (W : Wd) (L : Lv) (H : Hp) : V → T → Prop
  | non : RepT W L H .non .non
  | bl (b : Bool) : RepT W L H (.bl b) (.bl b)
  | int (i : Int) : RepT W L H (.int i) (.int i)
  | str (s : List Nat) (h : tOK (sOf s)) : RepT W L H (.str (sOf s)) (.str s)
  | tup {a : Addr} {vs : List V} {ts : List T} : PT_ W L H a vs → RepTs W L H vs ts → RepT W L H (.ref a) (.tup ts)
  | lst {a : Addr} {vs : List V} {ts : List T} : PL W L H a vs → RepTs W L H vs ts → RepT W L H (.ref a) (.lst ts)
  | ro {a : Addr} {is : List Int} : ((Rd H a (.lst (is.map V.int)) ∧ ¬ L a) ∨ KL W.K a (is.map V.int)) → RepT W L H (.ref a) (.ro (is.map T.int))
  | dct {a : Addr} {kvs : List (Key × V)} {ks : List (List Nat)} {ts : List T} : Rd H a (.dK kvs) → ¬ L a → kvs.map (·.1) = ks.map kOf → ks.Nodup → (∀ k ∈ ks, tOK (sOf k)) → RepTs W L H (kvs.map (·.2)) ts → RepT W L H (.ref a) (.dct ks ts)
  | ins {a dx : Addr} {fs : List (Str × V)} {c : Nat} {ks : List Nat} {ts : List T} : H a = some (.ins (W.ca c) dx fs) → ¬ L a → fs.map (·.1) = ks.map W.fnm → (∀ f ∈ ks, W.fld c f = true) → RepTs W L H (fs.map (·.2)) ts → RepT W L H (.ref a) (.ins c ks ts)
inductive RepTs (W : Wd) (L : Lv) (H : Hp) : List V → List T → Prop
  | nil : RepTs W L H [] []
  | cons {v : V} {vs : List V} {t : T} {ts : List T} : RepT W L H v t → RepTs W L H vs ts → RepTs W L H (v :: vs) (t :: ts)
end
def isDct : HO → Bool
  | .dK _ => true
  | .dT _ => true
  | _ => false
structure Stay (L : Lv) (H : Hp) (L' : Lv) (H' : Hp) : Prop where
  rd : ∀ a u, Rd H a u → ¬ L a → Rd H' a u
  keep : ∀ a o, H a = some o → ¬ L a → isDct o = false → H' a = some o
  off : ∀ a, H a ≠ none → ¬ L a → ¬ L' a
  dom : ∀ a, H a ≠ none → ¬ L a → H' a ≠ none
theorem nn {H : Hp} {a : Addr} {o : HO} (h : H a = some o) : H a ≠ none := by rw [h]; exact fun z => nomatch z
theorem Rd.some {H : Hp} {a : Addr} {u : HO} (h : Rd H a u) : H a ≠ none := by
  rcases h with h | ⟨o, h⟩ <;> rw [h] <;> exact fun z => nomatch z
section
variable {W : Wd} {L L' : Lv} {H H' : Hp}
theorem PL.stay {a : Addr} {vs : List V} (s : Stay L H L' H') (h : PL W L H a vs) : PL W L' H' a vs :=
  ⟨s.keep _ _ h.1 h.2 rfl, s.off _ (nn h.1) h.2⟩
theorem PT_.stay {a : Addr} {vs : List V} (s : Stay L H L' H') (h : PT_ W L H a vs) : PT_ W L' H' a vs :=
  h.imp (fun h => ⟨s.keep _ _ h.1 h.2 rfl, s.off _ (nn h.1) h.2⟩) id
mutual
theorem RepT.stay (s : Stay L H L' H') : ∀ {v : V} {t : T}, RepT W L H v t → RepT W L' H' v t
  | _, _, .non => .non
  | _, _, .bl b => .bl b
  | _, _, .int i => .int i
  | _, _, .str x h => .str x h
  | _, _, .tup h r => .tup (h.stay s) (RepTs.stay s r)
  | _, _, .lst h r => .lst (h.stay s) (RepTs.stay s r)
  | _, _, .ro h => .ro (h.imp (fun h => ⟨s.rd _ _ h.1 h.2, s.off _ (Kp.Rd.some h.1) h.2⟩) id)
  | _, _, .dct h n e d k r => .dct (s.rd _ _ h n) (s.off _ (Kp.Rd.some h) n) e d k (RepTs.stay s r)
  | _, _, .ins h n e k r => .ins (s.keep _ _ h n rfl) (s.off _ (nn h) n) e k (RepTs.stay s r)
theorem RepTs.stay (s : Stay L H L' H') : ∀ {vs : List V} {ts : List T}, RepTs W L H vs ts → RepTs W L' H' vs ts
  | _, _, .nil => .nil
  | _, _, .cons h r => .cons (RepT.stay s h) (RepTs.stay s r)
end
theorem RepTs.length : ∀ {vs : List V} {ts : List T}, RepTs W L H vs ts → vs.length = ts.length
  | _, _, .nil => rfl
  | _, _, .cons _ r => congrArg Nat.succ r.length
theorem RepTs.get : ∀ {vs : List V} {ts : List T} {i : Nat} {t : T}, RepTs W L H vs ts → ts[i]? = some t → ∃ v, vs[i]? = some v ∧ RepT W L H v t
  | _, _, _, _, .nil, e => by simp at e
  | _, _, 0, _, .cons h _, e => by simp at e; subst e; exact ⟨_, rfl, h⟩
  | _, _, i + 1, _, .cons _ r, e => by
    obtain ⟨v, h1, h2⟩ := RepTs.get (i := i) r (by simpa using e)
    exact ⟨v, by simpa using h1, h2⟩
theorem RepTs.append : ∀ {vs ws : List V} {ts us : List T}, RepTs W L H vs ts → RepTs W L H ws us → RepTs W L H (vs ++ ws) (ts ++ us)
  | _, _, _, _, .nil, s => s
  | _, _, _, _, .cons h r, s => .cons h (RepTs.append r s)
theorem RepTs.take : ∀ {vs : List V} {ts : List T} (n : Nat), RepTs W L H vs ts → RepTs W L H (vs.take n) (ts.take n)
  | _, _, 0, _ => .nil
  | _, _, _ + 1, .nil => .nil
  | _, _, n + 1, .cons h r => .cons h (RepTs.take n r)
theorem RepTs.drop : ∀ {vs : List V} {ts : List T} (n : Nat), RepTs W L H vs ts → RepTs W L H (vs.drop n) (ts.drop n)
  | _, _, 0, r => r
  | _, _, _ + 1, .nil => .nil
  | _, _, n + 1, .cons h r => RepTs.drop n r
theorem RepTs.reverse : ∀ {vs : List V} {ts : List T}, RepTs W L H vs ts → RepTs W L H vs.reverse ts.reverse
  | _, _, .nil => .nil
  | _, _, .cons h r => by rw [List.reverse_cons, List.reverse_cons]; exact (RepTs.reverse r).append (.cons h .nil)
end
inductive RepD (W : Wd) (ρ : List Addr) (L : Lv) (H : Hp) : V → D → Prop
  | t {v : V} {x : T} : RepT W L H v x → RepD W ρ L H v (.t x)
  | r {n : Nat} {a : Addr} : ρ[n]? = some a → RepD W ρ L H (.ref a) (.r n)
inductive RepDs (W : Wd) (ρ : List Addr) (L : Lv) (H : Hp) : List V → List D → Prop
  | nil : RepDs W ρ L H [] []
  | cons {v : V} {vs : List V} {d : D} {ds : List D} : RepD W ρ L H v d → RepDs W ρ L H vs ds → RepDs W ρ L H (v :: vs) (d :: ds)
def liveAt (ρ : List Addr) (h : AH) : Lv := fun a => ∃ (n : Nat) (o : Ob), ρ[n]? = some a ∧ h[n]? = some o ∧ o ≠ Ob.dead
def ObR (W : Wd) (ρ : List Addr) (L : Lv) (H : Hp) (a : Addr) : Ob → Prop
  | .lst ds => ∃ vs, H a = some (.lst vs) ∧ RepDs W ρ L H vs ds
  | .dct ks ts => ∃ kvs, H a = some (.dK kvs) ∧ kvs.map (·.1) = ks.map kOf ∧ ks.Nodup ∧ (∀ k ∈ ks, tOK (sOf k)) ∧ RepTs W L H (kvs.map (·.2)) ts
  | .ins c ks ds => ∃ dx fs, H a = some (.ins (W.ca c) dx fs) ∧ fs.map (·.1) = ks.map W.fnm ∧ (∀ f ∈ ks, W.fld c f = true) ∧ RepDs W ρ L H (fs.map (·.2)) ds
  | .dead => True
def refsLt (n : Nat) (ds : List D) : Prop := ∀ m, D.r m ∈ ds → m < n
def ObLt (n : Nat) : Ob → Prop
  | .lst ds => refsLt n ds
  | .ins _ _ ds => refsLt n ds
  | _ => True
def lv (X : Lv) (ρ : List Addr) (h : AH) : Lv := fun a => liveAt ρ h a ∨ X a
structure HRel (W : Wd) (X : Lv) (ρ : List Addr) (h : AH) (H : Hp) : Prop where
  len : ρ.length = h.length
  inj : ∀ (i j : Nat) (a : Addr) (o u : Ob), ρ[i]? = some a → ρ[j]? = some a → h[i]? = some o → o ≠ Ob.dead → h[j]? = some u → u ≠ Ob.dead → i = j
  ob : ∀ (n : Nat) (a : Addr) (o : Ob), ρ[n]? = some a → h[n]? = some o → ObR W ρ (lv X ρ h) H a o
  lt : ∀ (n : Nat) (o : Ob), h[n]? = some o → ObLt n o
  hid : ∀ a, X a → ¬ liveAt ρ h a ∧ H a ≠ none
abbrev RD (W : Wd) (X : Lv) (ρ : List Addr) (h : AH) (H : Hp) := RepD W ρ (lv X ρ h) H
abbrev RDs (W : Wd) (X : Lv) (ρ : List Addr) (h : AH) (H : Hp) := RepDs W ρ (lv X ρ h) H
abbrev RT (W : Wd) (X : Lv) (ρ : List Addr) (h : AH) (H : Hp) := RepT W (lv X ρ h) H
abbrev RTs (W : Wd) (X : Lv) (ρ : List Addr) (h : AH) (H : Hp) := RepTs W (lv X ρ h) H
structure Ext (ρ : List Addr) (h : AH) (H : Hp) (ρ' : List Addr) (h' : AH) (H' : Hp) : Prop where
  same : ∀ a, H a ≠ none → ¬ liveAt ρ h a → H' a = H a
  off : ∀ a, H a ≠ none → ¬ liveAt ρ h a → ¬ liveAt ρ' h' a
  ref : ∀ (n : Nat) (a : Addr), ρ[n]? = some a → ρ'[n]? = some a
theorem Stay.refl (L : Lv) (H : Hp) : Stay L H L H := ⟨fun _ _ h _ => h, fun _ _ h _ _ => h, fun _ _ h => h, fun _ h _ => h⟩
theorem Stay.trans {L L1 L2 : Lv} {H H1 H2 : Hp} (a : Stay L H L1 H1) (b : Stay L1 H1 L2 H2) : Stay L H L2 H2 :=
  ⟨fun x u h n => b.rd x u (a.rd x u h n) (a.off x (Kp.Rd.some h) n), fun x o h n d => b.keep _ _ (a.keep _ _ h n d) (a.off x (nn h) n) d,
   fun x h n => b.off x (a.dom x h n) (a.off x h n), fun x h n => b.dom x (a.dom x h n) (a.off x h n)⟩
theorem Stay.of_lv {L L' : Lv} {H : Hp} (h : ∀ a, H a ≠ none → L' a → L a) : Stay L H L' H := ⟨fun _ _ h _ => h, fun _ _ h _ _ => h, fun a e n z => n (h a e z), fun _ h _ => h⟩
theorem Stay.of_same {L L' : Lv} {H H' : Hp} (hs : ∀ a, H a ≠ none → ¬ L a → H' a = H a) (ho : ∀ a, H a ≠ none → ¬ L a → ¬ L' a) : Stay L H L' H' := by
  refine ⟨fun a u h n => ?_, fun a o h n _ => by rw [hs a (nn h) n]; exact h, ho, fun a h n => by rw [hs a h n]; exact h⟩
  · have e := hs a (Kp.Rd.some h) n
    rcases h with h | ⟨o, h⟩
    · exact .inl (by rw [e]; exact h)
    · exact .inr ⟨o, by rw [e]; exact h⟩
section
variable {W : Wd} {X : Lv} {ρ ρ' ρ'' : List Addr} {h h' h'' : AH} {H H' H'' : Hp}
theorem Ext.stay (e : Ext ρ h H ρ' h' H') (X : Lv) : Stay (lv X ρ h) H (lv X ρ' h') H' :=
  .of_same (fun a h n => e.same a h fun z => n (.inl z)) fun a h n z => z.elim (e.off a h fun z => n (.inl z)) fun z => n (.inr z)
theorem Ext.refl (ρ : List Addr) (h : AH) (H : Hp) : Ext ρ h H ρ h H := ⟨fun _ _ _ => rfl, fun _ _ n => n, fun _ _ e => e⟩
theorem Ext.trans (a : Ext ρ h H ρ' h' H') (b : Ext ρ' h' H' ρ'' h'' H'') : Ext ρ h H ρ'' h'' H'' :=
  ⟨fun x e n => (b.same x (by rw [a.same x e n]; exact e) (a.off x e n)).trans (a.same x e n), fun x e n => b.off x (by rw [a.same x e n]; exact e) (a.off x e n), fun n x e => b.ref n x (a.ref n x e)⟩
theorem RepD.mono {L L' : Lv} {v : V} {d : D} (s : Stay L H L' H') (r : ∀ (n : Nat) (a : Addr), ρ[n]? = some a → ρ'[n]? = some a) (x : RepD W ρ L H v d) : RepD W ρ' L' H' v d := by
  cases x with
  | t x => exact .t (x.stay s)
  | r e => exact .r (r _ _ e)
theorem RepDs.mono {L L' : Lv} (s : Stay L H L' H') (r : ∀ (n : Nat) (a : Addr), ρ[n]? = some a → ρ'[n]? = some a) : ∀ {vs : List V} {ds : List D}, RepDs W ρ L H vs ds → RepDs W ρ' L' H' vs ds
  | _, _, .nil => .nil
  | _, _, .cons x y => .cons (x.mono s r) (RepDs.mono s r y)
theorem RepD.ext {v : V} {d : D} (e : Ext ρ h H ρ' h' H') (x : RD W X ρ h H v d) : RD W X ρ' h' H' v d := x.mono (e.stay X) e.ref
theorem RepDs.ext {vs : List V} {ds : List D} (e : Ext ρ h H ρ' h' H') (x : RDs W X ρ h H vs ds) : RDs W X ρ' h' H' vs ds := x.mono (e.stay X) e.ref
theorem RepT.ext {v : V} {d : T} (e : Ext ρ h H ρ' h' H') (x : RT W X ρ h H v d) : RT W X ρ' h' H' v d := x.stay (e.stay X)
theorem RepTs.ext {v : List V} {d : List T} (e : Ext ρ h H ρ' h' H') (x : RTs W X ρ h H v d) : RTs W X ρ' h' H' v d := x.stay (e.stay X)
theorem RepDs.length {L : Lv} : ∀ {vs : List V} {ds : List D}, RepDs W ρ L H vs ds → vs.length = ds.length
  | _, _, .nil => rfl
  | _, _, .cons _ r => congrArg Nat.succ r.length
theorem RepDs.get {L : Lv} : ∀ {vs : List V} {ts : List D} {i : Nat} {t : D}, RepDs W ρ L H vs ts → ts[i]? = some t → ∃ v, vs[i]? = some v ∧ RepD W ρ L H v t
  | _, _, _, _, .nil, e => by simp at e
  | _, _, 0, _, .cons h _, e => by simp at e; subst e; exact ⟨_, rfl, h⟩
  | _, _, i + 1, _, .cons _ r, e => by
    obtain ⟨v, h1, h2⟩ := RepDs.get (i := i) r (by simpa using e)
    exact ⟨v, by simpa using h1, h2⟩
theorem RepDs.append {L : Lv} : ∀ {vs ws : List V} {ts us : List D}, RepDs W ρ L H vs ts → RepDs W ρ L H ws us → RepDs W ρ L H (vs ++ ws) (ts ++ us)
  | _, _, _, _, .nil, s => s
  | _, _, _, _, .cons h r, s => .cons h (RepDs.append r s)
theorem RepDs.take {L : Lv} : ∀ {vs : List V} {ts : List D} (n : Nat), RepDs W ρ L H vs ts → RepDs W ρ L H (vs.take n) (ts.take n)
  | _, _, 0, _ => .nil
  | _, _, _ + 1, .nil => .nil
  | _, _, n + 1, .cons h r => .cons h (RepDs.take n r)
theorem RepDs.drop {L : Lv} : ∀ {vs : List V} {ts : List D} (n : Nat), RepDs W ρ L H vs ts → RepDs W ρ L H (vs.drop n) (ts.drop n)
  | _, _, 0, r => r
  | _, _, _ + 1, .nil => .nil
  | _, _, n + 1, .cons h r => RepDs.drop n r
theorem RepDs.reverse {L : Lv} : ∀ {vs : List V} {ts : List D}, RepDs W ρ L H vs ts → RepDs W ρ L H vs.reverse ts.reverse
  | _, _, .nil => .nil
  | _, _, .cons h r => by rw [List.reverse_cons, List.reverse_cons]; exact (RepDs.reverse r).append (.cons h .nil)
theorem RepDs.set {L : Lv} {v : V} {d : D} (x : RepD W ρ L H v d) : ∀ {vs : List V} {ts : List D} (n : Nat), RepDs W ρ L H vs ts → RepDs W ρ L H (vs.set n v) (ts.set n d)
  | _, _, _, .nil => .nil
  | _, _, 0, .cons h r => .cons x r
  | _, _, n + 1, .cons h r => .cons h (RepDs.set x n r)
theorem RepDs.of_ts {L : Lv} : ∀ {vs : List V} {ts : List T}, RepTs W L H vs ts → RepDs W ρ L H vs (ts.map .t)
  | _, _, .nil => .nil
  | _, _, .cons h r => .cons (.t h) (RepDs.of_ts r)
theorem RepDs.to_ts {L : Lv} : ∀ {vs : List V} {ts : List T}, RepDs W ρ L H vs (ts.map .t) → RepTs W L H vs ts
  | _, [], .nil => .nil
  | _, _ :: _, .cons (.t h) r => .cons h (RepDs.to_ts r)
theorem HRel.ref_lt (R : HRel W X ρ h H) {n : Nat} {a : Addr} (e : ρ[n]? = some a) : n < h.length := by
  rw [← R.len]; exact (List.getElem?_eq_some_iff.mp e).1
theorem RepDs.refsLt {L : Lv} (R : HRel W X ρ h H) : ∀ {vs : List V} {ds : List D}, RepDs W ρ L H' vs ds → refsLt h.length ds
  | _, _, .nil => fun m e => by cases e
  | _, _, .cons x r => fun m e => by
    rcases List.mem_cons.mp e with e | e
    · subst e; cases x with | r q => exact R.ref_lt q
    · exact RepDs.refsLt R r m e
theorem ObR.mono {L L' : Lv} {a : Addr} {o : Ob} (x : ObR W ρ L H a o) (s : Stay L H L' H') (r : ∀ (n : Nat) (a : Addr), ρ[n]? = some a → ρ'[n]? = some a) (ha : ∀ u, H a = some u → H' a = some u) : ObR W ρ' L' H' a o := by
  cases o with
  | lst ds => obtain ⟨vs, e, q⟩ := x; exact ⟨vs, ha _ e, q.mono s r⟩
  | dct ks ts => obtain ⟨kvs, e, k, d, t, q⟩ := x; exact ⟨kvs, ha _ e, k, d, t, q.stay s⟩
  | ins c ks ds => obtain ⟨dx, fs, e, k, l, q⟩ := x; exact ⟨dx, fs, ha _ e, k, l, q.mono s r⟩
  | dead => trivial
theorem ObR.some {L : Lv} {a : Addr} {o : Ob} (x : ObR W ρ L H a o) (n : o ≠ Ob.dead) : H a ≠ none := by
  cases o with
  | lst ds => obtain ⟨vs, e, q⟩ := x; rw [e]; exact fun z => nomatch z
  | dct ks ts => obtain ⟨kvs, e, _⟩ := x; rw [e]; exact fun z => nomatch z
  | ins c ks ds => obtain ⟨dx, fs, e, _⟩ := x; rw [e]; exact fun z => nomatch z
  | dead => exact absurd rfl n
theorem HRel.live_some (R : HRel W X ρ h H) {a : Addr} (l : liveAt ρ h a) : H a ≠ none := by
  obtain ⟨n, o, e1, e2, e3⟩ := l
  exact (R.ob n a o e1 e2).some e3
theorem HRel.lv_some (R : HRel W X ρ h H) {a : Addr} (l : lv X ρ h a) : H a ≠ none := l.elim R.live_some fun x => (R.hid a x).2
theorem live_snoc {p : Addr} {o : Ob} (R : HRel W X ρ h H) {a : Addr} (l : liveAt (ρ ++ [p]) (h ++ [o]) a) : liveAt ρ h a ∨ a = p := by
  obtain ⟨n, u, e1, e2, e3⟩ := l
  by_cases c : n < h.length
  · rw [List.getElem?_append_left (by rw [R.len]; exact c)] at e1
    rw [List.getElem?_append_left c] at e2
    exact .inl ⟨n, u, e1, e2, e3⟩
  · have l1 := (List.getElem?_eq_some_iff.mp e1).1
    rw [List.length_append, R.len] at l1
    have e : n = ρ.length := by rw [R.len]; simp at l1; omega
    subst e
    rw [List.getElem?_append_right (Nat.le_refl _)] at e1
    simp at e1
    exact .inr e1.symm
theorem Ext.new {p : Addr} {o : HO} (hp : H p = none) : Ext ρ h H ρ h (upd H p o) :=
  ⟨fun a e _ => upd_ne fun z => e (by rw [z]; exact hp), fun _ _ n => n, fun _ _ e => e⟩
theorem HRel.new (R : HRel W X ρ h H) {p : Addr} {o : HO} (hp : H p = none) : HRel W X ρ h (upd H p o) ∧ Ext ρ h H ρ h (upd H p o) := by
  have e : Ext ρ h H ρ h (upd H p o) := .new hp
  refine ⟨⟨R.len, R.inj, fun n a u e1 e2 => ?_, R.lt, fun a x => ⟨(R.hid a x).1, ?_⟩⟩, e⟩
  · have q := R.ob n a u e1 e2
    by_cases c : u = Ob.dead
    · subst c; trivial
    · refine q.mono (e.stay X) (fun _ _ e => e) fun z hz => ?_
      rw [upd_ne (fun e => q.some c (by rw [e]; exact hp))]; exact hz
  · rw [upd_ne (fun z => (R.hid a x).2 (by rw [z]; exact hp))]; exact (R.hid a x).2
theorem HRel.adopt (R : HRel W X ρ h H) {p : Addr} {ob : Ob} (hp : ¬ liveAt ρ h p) (hl : ObLt h.length ob) (no : ob ≠ Ob.dead) {X' : Lv} (hX : ∀ a, X' a → X a ∧ a ≠ p) (hX2 : ∀ a, X a → a = p ∨ X' a)
    (hob : ObR W (ρ ++ [p]) (lv X' (ρ ++ [p]) (h ++ [ob])) H p ob) (hT : Stay (lv X ρ h) H (lv X' (ρ ++ [p]) (h ++ [ob])) H) :
    HRel W X' (ρ ++ [p]) (h ++ [ob]) H ∧ (ρ ++ [p])[h.length]? = some p := by
  have rf : ∀ (n : Nat) (a : Addr), ρ[n]? = some a → (ρ ++ [p])[n]? = some a := fun n a e => by
    rw [List.getElem?_append_left (List.getElem?_eq_some_iff.mp e).1]; exact e
  have last : (ρ ++ [p])[h.length]? = some p := by rw [← R.len]; simp
  have old : ∀ (n : Nat) (a : Addr) (u : Ob), (ρ ++ [p])[n]? = some a → (h ++ [ob])[n]? = some u → (ρ[n]? = some a ∧ h[n]? = some u) ∨ (n = h.length ∧ a = p ∧ u = ob) := fun n a u e1 e2 => by
    by_cases c : n < h.length
    · rw [List.getElem?_append_left (by rw [R.len]; exact c)] at e1
      rw [List.getElem?_append_left c] at e2
      exact .inl ⟨e1, e2⟩
    · have l1 := (List.getElem?_eq_some_iff.mp e2).1
      have e : n = h.length := by simp at l1; omega
      subst e
      rw [last] at e1
      rw [List.getElem?_append_right (Nat.le_refl _)] at e2
      simp at e1 e2
      exact .inr ⟨rfl, e1.symm, e2.symm⟩
  refine ⟨⟨by simp [R.len], fun i j a o1 o2 e1 e2 e3 n1 e4 n2 => ?_, fun n a u e1 e2 => ?_, fun n u e => ?_, fun a x => ⟨fun l => ?_, (R.hid a (hX a x).1).2⟩⟩, last⟩
  · rcases old i a o1 e1 e3 with ⟨a1, b1⟩ | ⟨a1, b1, c1⟩
    · rcases old j a o2 e2 e4 with ⟨a2, b2⟩ | ⟨a2, b2, c2⟩
      · exact R.inj i j a o1 o2 a1 a2 b1 n1 b2 n2
      · exact absurd ⟨i, o1, by rw [← b2]; exact a1, b1, n1⟩ hp
    · rcases old j a o2 e2 e4 with ⟨a2, b2⟩ | ⟨a2, b2, c2⟩
      · exact absurd ⟨j, o2, by rw [← b1]; exact a2, b2, n2⟩ hp
      · rw [a1, a2]
  · rcases old n a u e1 e2 with ⟨a1, b1⟩ | ⟨a1, b1, c1⟩
    · exact (R.ob n a u a1 b1).mono hT rf fun z hz => hz
    · subst b1 c1; exact hob
  · by_cases c : n < h.length
    · rw [List.getElem?_append_left c] at e
      exact R.lt n u e
    · have l1 := (List.getElem?_eq_some_iff.mp e).1
      have e' : n = h.length := by simp at l1; omega
      subst e'
      rw [List.getElem?_append_right (Nat.le_refl _)] at e
      simp at e
      subst e
      exact hl
  · rcases live_snoc R l with z | z
    · exact (R.hid a (hX a x).1).1 z
    · exact (hX a x).2 z
theorem HRel.alloc (R : HRel W X ρ h H) {p : Addr} {o : HO} {ob : Ob} (hp : H p = none) (hl : ObLt h.length ob) (no : ob ≠ Ob.dead) (hob : (∀ L', Stay (lv X ρ h) H L' (upd H p o) → ObR W (ρ ++ [p]) L' (upd H p o) p ob)) :
    HRel W X (ρ ++ [p]) (h ++ [ob]) (upd H p o) ∧ Ext ρ h H (ρ ++ [p]) (h ++ [ob]) (upd H p o) ∧ (ρ ++ [p])[h.length]? = some p := by
  have nl : ¬ lv X ρ h p := fun l => R.lv_some l hp
  obtain ⟨R1, E1⟩ := R.new (o := o) hp
  have E2 : Ext ρ h H (ρ ++ [p]) (h ++ [ob]) (upd H p o) := ⟨E1.same, fun a e n l => (live_snoc R l).elim n fun z => e (by rw [z]; exact hp), fun n a e => by
    rw [List.getElem?_append_left (List.getElem?_eq_some_iff.mp e).1]; exact e⟩
  -- of the old trees in the new heap
  have rf := E2.ref
  have last : (ρ ++ [p])[h.length]? = some p := by rw [← R.len]; simp
  have old : ∀ (n : Nat) (a : Addr) (u : Ob), (ρ ++ [p])[n]? = some a → (h ++ [ob])[n]? = some u → (ρ[n]? = some a ∧ h[n]? = some u) ∨ (n = h.length ∧ a = p ∧ u = ob) := fun n a u e1 e2 => by
    by_cases c : n < h.length
    · rw [List.getElem?_append_left (by rw [R.len]; exact c)] at e1
      rw [List.getElem?_append_left c] at e2
      exact .inl ⟨e1, e2⟩
    · have l1 := (List.getElem?_eq_some_iff.mp e2).1
      have e : n = h.length := by simp at l1; omega
      subst e
      rw [last] at e1
      rw [List.getElem?_append_right (Nat.le_refl _)] at e2
      simp at e1 e2
      exact .inr ⟨rfl, e1.symm, e2.symm⟩
  refine ⟨⟨by simp [R.len], fun i j a o1 o2 e1 e2 e3 n1 e4 n2 => ?_, fun n a u e1 e2 => ?_, fun n u e => ?_, fun a x => ⟨fun l => ?_, (R1.hid a x).2⟩⟩, E2, last⟩
  · rcases old i a o1 e1 e3 with ⟨a1, b1⟩ | ⟨a1, b1, c1⟩
    · rcases old j a o2 e2 e4 with ⟨a2, b2⟩ | ⟨a2, b2, c2⟩
      · exact R.inj i j a o1 o2 a1 a2 b1 n1 b2 n2
      · exact absurd (.inl ⟨i, o1, by rw [← b2]; exact a1, b1, n1⟩) nl
    · rcases old j a o2 e2 e4 with ⟨a2, b2⟩ | ⟨a2, b2, c2⟩
      · exact absurd (.inl ⟨j, o2, by rw [← b1]; exact a2, b2, n2⟩) nl
      · rw [a1, a2]
  · rcases old n a u e1 e2 with ⟨a1, b1⟩ | ⟨a1, b1, c1⟩
    · have q := R.ob n a u a1 b1
      by_cases c : u = Ob.dead
      · subst c; trivial
      · refine q.mono (E2.stay X) rf fun z hz => ?_
        rw [upd_ne (fun e => q.some c (by rw [e]; exact hp))]; exact hz
    · subst b1 c1
      exact hob _ (E2.stay X)
  · by_cases c : n < h.length
    · rw [List.getElem?_append_left c] at e
      exact R.lt n u e
    · have l1 := (List.getElem?_eq_some_iff.mp e).1
      have e' : n = h.length := by simp at l1; omega
      subst e'
      rw [List.getElem?_append_right (Nat.le_refl _)] at e
      simp at e
      subst e
      exact hl
  · rcases live_snoc R l with z | z
    · exact (R.hid a x).1 z
    · exact (R.hid a x).2 (by rw [z]; exact hp)
end
end Kp
set_option autoImplicit false
set_option maxRecDepth 10000
set_option maxHeartbeats 1000000
namespace Kp
open PySem L2
section
variable {W : Wd} {X : Lv} {ρ ρ' ρ'' : List Addr} {h h' h'' : AH} {H H' H'' : Hp}
theorem live_set {n : Nat} {ob o : Ob} (e : h[n]? = some o) (no : o ≠ Ob.dead) {a : Addr} (l : liveAt ρ (h.set n ob) a) : liveAt ρ h a := by
  obtain ⟨m, u, e1, e2, e3⟩ := l
  by_cases c : n = m
  · subst c; exact ⟨n, o, e1, e, no⟩
  · rw [List.getElem?_set_ne c] at e2; exact ⟨m, u, e1, e2, e3⟩
theorem HRel.write (R : HRel W X ρ h H) {n : Nat} {a : Addr} {o ob : Ob} {o' : HO} (ea : ρ[n]? = some a) (eo : h[n]? = some o) (no : o ≠ Ob.dead) (hl : ObLt n ob)
    (hob : ObR W ρ (lv X ρ h) (upd H a o') a ob) : HRel W X ρ (h.set n ob) (upd H a o') ∧ Ext ρ h H ρ (h.set n ob) (upd H a o') := by
  have la : liveAt ρ h a := ⟨n, o, ea, eo, no⟩
  have E : Ext ρ h H ρ (h.set n ob) (upd H a o') := ⟨fun b _ nb => upd_ne fun (z : b = a) => nb (by rw [z]; exact la), fun b _ nb l => nb (live_set eo no l), fun _ _ e => e⟩
  have s := E.stay X
  have s2 : Stay (lv X ρ h) (upd H a o') (lv X ρ (h.set n ob)) (upd H a o') := .of_lv fun b _ l => l.elim (fun l => .inl (live_set eo no l)) .inr
  refine ⟨⟨by simp [R.len], fun i j b o1 o2 e1 e2 e3 n1 e4 n2 => ?_, fun m b u e1 e2 => ?_, fun m u e => ?_, fun b x => ⟨fun l => (R.hid b x).1 (live_set eo no l), ?_⟩⟩, E⟩
  · have f : ∀ (i : Nat) (o1 : Ob), ρ[i]? = some b → (h.set n ob)[i]? = some o1 → o1 ≠ Ob.dead → ∃ o1', h[i]? = some o1' ∧ o1' ≠ Ob.dead := fun i o1 e1 e3 n1 => by
      by_cases c : n = i
      · subst c; exact ⟨o, eo, no⟩
      · rw [List.getElem?_set_ne c] at e3; exact ⟨o1, e3, n1⟩
    obtain ⟨p1, q1, r1⟩ := f i o1 e1 e3 n1
    obtain ⟨p2, q2, r2⟩ := f j o2 e2 e4 n2
    exact R.inj i j b p1 p2 e1 e2 q1 r1 q2 r2
  · by_cases c : n = m
    · subst c
      have z := (List.getElem?_eq_some_iff.mp eo).1
      rw [List.getElem?_set_self z] at e2
      cases e2
      rw [ea] at e1; cases e1
      exact hob.mono s2 (fun _ _ e => e) fun _ z => z
    · rw [List.getElem?_set_ne c] at e2
      by_cases d : u = Ob.dead
      · subst d; trivial
      · have ne : b ≠ a := fun z => by subst z; exact c (R.inj n m b o u ea e1 eo no e2 d)
        exact (R.ob m b u e1 e2).mono s (fun _ _ e => e) fun z hz => by rw [upd_ne ne]; exact hz
  · by_cases c : n = m
    · subst c
      have z := (List.getElem?_eq_some_iff.mp eo).1
      rw [List.getElem?_set_self z] at e
      cases e; exact hl
    · rw [List.getElem?_set_ne c] at e; exact R.lt m u e
  · rw [upd_ne (fun (z : b = a) => (R.hid b x).1 (by rw [z]; exact la))]; exact (R.hid b x).2
theorem HRel.kill (R : HRel W X ρ h H) (n : Nat) : HRel W X ρ (h.set n .dead) H ∧ Ext ρ h H ρ (h.set n .dead) H := by
  have old : ∀ (m : Nat) (u : Ob), (h.set n .dead)[m]? = some u → u = Ob.dead ∨ (m ≠ n ∧ h[m]? = some u) := fun m u e => by
    by_cases c : n = m
    · subst c
      have z := (List.getElem?_eq_some_iff.mp e).1
      rw [List.getElem?_set_self (by simpa using z)] at e
      cases e; exact .inl rfl
    · rw [List.getElem?_set_ne c] at e; exact .inr ⟨fun z => c z.symm, e⟩
  have lvv : ∀ a, liveAt ρ (h.set n .dead) a → liveAt ρ h a := fun a ⟨m, u, e1, e2, e3⟩ => by
    rcases old m u e2 with z | ⟨_, z⟩
    · exact absurd z e3
    · exact ⟨m, u, e1, z, e3⟩
  have E : Ext ρ h H ρ (h.set n .dead) H := ⟨fun _ _ _ => rfl, fun a _ n l => n (lvv a l), fun _ _ e => e⟩
  refine ⟨⟨by simp [R.len], fun i j b o1 o2 e1 e2 e3 n1 e4 n2 => ?_, fun m b u e1 e2 => ?_, fun m u e => ?_, fun a x => ⟨fun l => (R.hid a x).1 (lvv a l), (R.hid a x).2⟩⟩, E⟩
  · rcases old i o1 e3 with z | ⟨_, z⟩
    · exact absurd z n1
    · rcases old j o2 e4 with y | ⟨_, y⟩
      · exact absurd y n2
      · exact R.inj i j b o1 o2 e1 e2 z n1 y n2
  · rcases old m u e2 with z | ⟨_, z⟩
    · subst z; trivial
    · exact (R.ob m b u e1 z).mono (E.stay X) (fun _ _ e => e) fun _ z => z
  · rcases old m u e with z | ⟨_, z⟩
    · subst z; trivial
    · exact R.lt m u z
theorem HRel.not_live_kill (R : HRel W X ρ h H) {n : Nat} {a : Addr} (ea : ρ[n]? = some a) {o : Ob} (eo : h[n]? = some o) (no : o ≠ Ob.dead) : ¬ liveAt ρ (h.set n .dead) a := fun ⟨m, u, e1, e2, e3⟩ => by
  by_cases c : n = m
  · subst c
    have z := (List.getElem?_eq_some_iff.mp eo).1
    rw [List.getElem?_set_self z] at e2
    cases e2; exact e3 rfl
  · rw [List.getElem?_set_ne c] at e2
    exact c (R.inj n m a o u ea e1 eo no e2 e3)
theorem refs_take {b : Nat} {L : Lv} : ∀ {vs : List V} {ds : List D}, refsLt b ds → RepDs W ρ L H vs ds → RepDs W (ρ.take b) L H vs ds
  | _, _, _, .nil => .nil
  | _, _, q, .cons x r => .cons (by
      cases x with
      | t x => exact .t x
      | r e => rename_i n a; exact .r (by rw [List.getElem?_take_of_lt (q n (List.mem_cons_self ..))]; exact e)) (refs_take (fun m e => q m (List.mem_cons_of_mem _ e)) r)
theorem HRel.cut (R : HRel W X ρ h H) (b : Nat) : HRel W X (ρ.take b) (h.take b) H ∧ Stay (lv X ρ h) H (lv X (ρ.take b) (h.take b)) H ∧ ∀ a, liveAt (ρ.take b) (h.take b) a → liveAt ρ h a := by
  have tk : ∀ {α : Type} {l : List α} {n : Nat} {x : α}, (l.take b)[n]? = some x → n < b ∧ l[n]? = some x := fun {α l n x} e => by
    have z := (List.getElem?_eq_some_iff.mp e).1
    rw [List.length_take] at z
    have y : n < b := by omega
    rw [List.getElem?_take_of_lt y] at e
    exact ⟨y, e⟩
  have lvv : ∀ a, liveAt (ρ.take b) (h.take b) a → liveAt ρ h a := fun a ⟨m, u, e1, e2, e3⟩ => ⟨m, u, (tk e1).2, (tk e2).2, e3⟩
  have s : Stay (lv X ρ h) H (lv X (ρ.take b) (h.take b)) H := .of_lv fun a _ l => l.elim (fun l => .inl (lvv a l)) .inr
  refine ⟨⟨by simp [R.len], fun i j a o1 o2 e1 e2 e3 n1 e4 n2 => R.inj i j a o1 o2 (tk e1).2 (tk e2).2 (tk e3).2 n1 (tk e4).2 n2, fun n a o e1 e2 => ?_, fun n o e => R.lt n o (tk e).2, fun a x => ⟨fun l => (R.hid a x).1 (lvv a l), (R.hid a x).2⟩⟩, s, lvv⟩
  have q := R.ob n a o (tk e1).2 (tk e2).2
  have l := R.lt n o (tk e2).2
  have hn := (tk e1).1
  cases o with
  | lst ds =>
    obtain ⟨vs, e, q⟩ := q
    exact ⟨vs, e, (refs_take (fun m hm => Nat.lt_trans (l m hm) hn) q).mono s fun _ _ e => e⟩
  | dct ks ts => obtain ⟨kvs, e, k, d, t, q⟩ := q; exact ⟨kvs, e, k, d, t, q.stay s⟩
  | ins c ks ds =>
    obtain ⟨dx, fs, e, k, l2, q⟩ := q
    exact ⟨dx, fs, e, k, l2, (refs_take (fun m hm => Nat.lt_trans (l m hm) hn) q).mono s fun _ _ e => e⟩
  | dead => trivial
theorem frzL_live (f : D → AH → Option (T × AH)) (hf : ∀ (h : AH) (d : D) (x : T) (h' : AH), f d h = some (x, h') → ∀ (m : Nat) (u : Ob), h'[m]? = some u → u ≠ Ob.dead → ∃ o, h[m]? = some o ∧ o ≠ Ob.dead) :
    ∀ (ds : List D) (h : AH) (xs : List T) (h' : AH), frzL f ds h = some (xs, h') → ∀ (m : Nat) (u : Ob), h'[m]? = some u → u ≠ Ob.dead → ∃ o, h[m]? = some o ∧ o ≠ Ob.dead
  | [], h, xs, h', e, m, u, e1, e2 => by
    simp only [frzL, Option.some.injEq, Prod.mk.injEq] at e
    obtain ⟨rfl, rfl⟩ := e
    exact ⟨u, e1, e2⟩
  | d :: ds, h, xs, h', e, m, u, e1, e2 => by
    unfold frzL at e
    cases q : f d h with
    | none => rw [q] at e; cases e
    | some p =>
      obtain ⟨y, h1⟩ := p
      rw [q] at e
      simp only at e
      cases q2 : frzL f ds h1 with
      | none => rw [q2] at e; cases e
      | some p2 =>
        obtain ⟨ys, h2⟩ := p2
        rw [q2] at e
        simp only [Option.some.injEq, Prod.mk.injEq] at e
        obtain ⟨rfl, rfl⟩ := e
        obtain ⟨o, z1, z2⟩ := frzL_live f hf ds h1 ys h2 q2 m u e1 e2
        exact hf h d y h1 q m o z1 z2
theorem frz_live : ∀ (k : Nat) (h : AH) (d : D) (x : T) (h' : AH), frz k d h = some (x, h') → ∀ (m : Nat) (u : Ob), h'[m]? = some u → u ≠ Ob.dead → ∃ o, h[m]? = some o ∧ o ≠ Ob.dead
  | k, h, .t y, x, h', e, m, u, e1, e2 => by
    have e : some (y, h) = some (x, h') := by cases k <;> exact e
    cases e
    exact ⟨u, e1, e2⟩
  | 0, h, .r n, x, h', e, m, u, e1, e2 => by cases e
  | k + 1, h, .r n, x, h', e, m, u, e1, e2 => by
    have dead : ∀ h1 : AH, (h1.set n Ob.dead)[m]? = some u → h1[m]? = some u := fun h1 z => by
      by_cases c : n = m
      · subst c
        have y := (List.getElem?_eq_some_iff.mp z).1
        rw [List.getElem?_set_self (by simpa using y)] at z
        cases z; exact absurd rfl e2
      · rw [List.getElem?_set_ne c] at z; exact z
    unfold frz at e
    cases q : h[n]? with
    | none => rw [q] at e; cases e
    | some o =>
      rw [q] at e
      cases o with
      | dead => cases e
      | lst ds =>
        simp only at e
        cases q2 : frzL (frz k) ds h with
        | none => rw [q2] at e; cases e
        | some p =>
          obtain ⟨ys, h1⟩ := p
          rw [q2] at e
          simp only [Option.some.injEq, Prod.mk.injEq] at e
          obtain ⟨rfl, rfl⟩ := e
          exact frzL_live (frz k) (fun h d x h' => frz_live k h d x h') ds h ys h1 q2 m u (dead h1 e1) e2
      | dct ks ts =>
        simp only [Option.some.injEq, Prod.mk.injEq] at e
        obtain ⟨rfl, rfl⟩ := e
        exact ⟨u, dead h e1, e2⟩
      | ins c ks ds =>
        simp only at e
        cases q2 : frzL (frz k) ds h with
        | none => rw [q2] at e; cases e
        | some p =>
          obtain ⟨ys, h1⟩ := p
          rw [q2] at e
          simp only [Option.some.injEq, Prod.mk.injEq] at e
          obtain ⟨rfl, rfl⟩ := e
          exact frzL_live (frz k) (fun h d x h' => frz_live k h d x h') ds h ys h1 q2 m u (dead h1 e1) e2
theorem frzL_ok {f : D → AH → Option (T × AH)} (hf : ∀ (h : AH) (d : D) (x : T) (h' : AH) (v : V), f d h = some (x, h') → HRel W X ρ h H → RD W X ρ h H v d → HRel W X ρ h' H ∧ Ext ρ h H ρ h' H ∧ RT W X ρ h' H v x ∧ h'.length = h.length) :
    ∀ (ds : List D) (h : AH) (xs : List T) (h' : AH) (vs : List V), frzL f ds h = some (xs, h') → HRel W X ρ h H → RDs W X ρ h H vs ds → HRel W X ρ h' H ∧ Ext ρ h H ρ h' H ∧ RTs W X ρ h' H vs xs ∧ h'.length = h.length
  | [], h, xs, h', vs, e, R, r => by
    cases r
    simp only [frzL, Option.some.injEq, Prod.mk.injEq] at e
    obtain ⟨rfl, rfl⟩ := e
    exact ⟨R, .refl _ _ _, .nil, rfl⟩
  | d :: ds, h, xs, h', vs, e, R, r => by
    cases r with
    | cons x r =>
      unfold frzL at e
      cases q : f d h with
      | none => rw [q] at e; cases e
      | some p =>
        obtain ⟨y, h1⟩ := p
        rw [q] at e
        simp only at e
        obtain ⟨R1, E1, T1, l1⟩ := hf h d y h1 _ q R x
        cases q2 : frzL f ds h1 with
        | none => rw [q2] at e; cases e
        | some p2 =>
          obtain ⟨ys, h2⟩ := p2
          rw [q2] at e
          simp only [Option.some.injEq, Prod.mk.injEq] at e
          obtain ⟨rfl, rfl⟩ := e
          obtain ⟨R2, E2, T2, l2⟩ := frzL_ok hf ds h1 ys h2 _ q2 R1 (r.ext E1)
          exact ⟨R2, E1.trans E2, .cons (T1.ext E2) T2, l2.trans l1⟩
theorem frz_ok : ∀ (k : Nat) (h : AH) (d : D) (x : T) (h' : AH) (v : V), frz k d h = some (x, h') → HRel W X ρ h H → RD W X ρ h H v d → HRel W X ρ h' H ∧ Ext ρ h H ρ h' H ∧ RT W X ρ h' H v x ∧ h'.length = h.length
  | k, h, .t y, x, h', v, e, R, r => by
    have e : some (y, h) = some (x, h') := by cases k <;> exact e
    cases e
    cases r with | t r => exact ⟨R, .refl _ _ _, r, rfl⟩
  | 0, h, .r n, x, h', v, e, R, r => by cases e
  | k + 1, h, .r n, x, h', v, e, R, r => by
    cases r with
    | r ea =>
      rename_i a
      unfold frz at e
      cases q : h[n]? with
      | none => rw [q] at e; cases e
      | some o =>
        rw [q] at e
        have ob := R.ob n a o ea q
        cases o with
        | dead => cases e
        | lst ds =>
          obtain ⟨vs, ha, rs⟩ := ob
          simp only at e
          cases q2 : frzL (frz k) ds h with
          | none => rw [q2] at e; cases e
          | some p =>
            obtain ⟨ys, h1⟩ := p
            rw [q2] at e
            simp only [Option.some.injEq, Prod.mk.injEq] at e
            obtain ⟨rfl, rfl⟩ := e
            obtain ⟨R1, E1, T1, l1⟩ := frzL_ok (fun h d x h' v => frz_ok k h d x h' v) ds h ys h1 _ q2 R rs
            obtain ⟨R2, E2⟩ := R1.kill n
            refine ⟨R2, E1.trans E2, .lst ⟨ha, ?_⟩ (T1.ext E2), by simpa using l1⟩
            intro z
            rcases z with z | z
            case inr => exact (R.hid _ z).1 ⟨n, _, ea, q, fun z => nomatch z⟩
            obtain ⟨m, u, z1, z2, z3⟩ := z
            have hn := (List.getElem?_eq_some_iff.mp q).1
            by_cases c : n = m
            · subst c
              rw [List.getElem?_set_self (by rw [l1]; exact hn)] at z2
              cases z2; exact z3 rfl
            · rw [List.getElem?_set_ne c] at z2
              exact (frzL_live (frz k) (fun h d x h' => frz_live k h d x h') ds h ys h1 q2 m u z2 z3).elim fun o' z => by
                  exact c (R.inj n m a (.lst ds) o' ea z1 q (fun z => nomatch z) z.1 z.2)
        | dct ks ts =>
          obtain ⟨kvs, ha, k1, d1, t1, rs⟩ := ob
          simp only [Option.some.injEq, Prod.mk.injEq] at e
          obtain ⟨rfl, rfl⟩ := e
          obtain ⟨R2, E2⟩ := R.kill n
          exact ⟨R2, E2, .dct (.inl ha) (fun z => z.elim (R.not_live_kill ea q fun z => nomatch z) fun z => (R.hid _ z).1 ⟨n, _, ea, q, fun z => nomatch z⟩) k1 d1 t1 (rs.ext E2), by simp⟩
        | ins c ks ds =>
          obtain ⟨dx, fs, ha, k1, k2, rs⟩ := ob
          simp only at e
          cases q2 : frzL (frz k) ds h with
          | none => rw [q2] at e; cases e
          | some p =>
            obtain ⟨ys, h1⟩ := p
            rw [q2] at e
            simp only [Option.some.injEq, Prod.mk.injEq] at e
            obtain ⟨rfl, rfl⟩ := e
            obtain ⟨R1, E1, T1, l1⟩ := frzL_ok (fun h d x h' v => frz_ok k h d x h' v) ds h ys h1 _ q2 R rs
            obtain ⟨R2, E2⟩ := R1.kill n
            refine ⟨R2, E1.trans E2, .ins ha ?_ k1 k2 (T1.ext E2), by simpa using l1⟩
            intro z
            rcases z with z | z
            case inr => exact (R.hid _ z).1 ⟨n, _, ea, q, fun z => nomatch z⟩
            obtain ⟨m, u, z1, z2, z3⟩ := z
            have hn := (List.getElem?_eq_some_iff.mp q).1
            by_cases c : n = m
            · subst c
              rw [List.getElem?_set_self (by rw [l1]; exact hn)] at z2
              cases z2; exact z3 rfl
            · rw [List.getElem?_set_ne c] at z2
              exact (frzL_live (frz k) (fun h d x h' => frz_live k h d x h') ds h ys h1 q2 m u z2 z3).elim fun o' z => by
                  exact c (R.inj n m a (.ins _ ks ds) o' ea z1 q (fun z => nomatch z) z.1 z.2)
end
end Kp
set_option autoImplicit false
namespace Kp
open PySem L2
theorem sort_uniq {α : Type} {le : α → α → Prop} (anti : ∀ a b, le a b → le b a → a = b) : ∀ {l m : List α}, l.Perm m → l.Pairwise le → m.Pairwise le → l = m
  | [], m, p, _, _ => (List.Perm.nil_eq p)
  | a :: l, [], p, _, _ => by have := p.length_eq; simp at this
  | a :: l, b :: m, p, h1, h2 => by
    obtain ⟨h1a, h1b⟩ := List.pairwise_cons.mp h1
    obtain ⟨h2a, h2b⟩ := List.pairwise_cons.mp h2
    have e : a = b := by
      have ha : a ∈ b :: m := p.mem_iff.mp (List.mem_cons_self ..)
      have hb : b ∈ a :: l := p.mem_iff.mpr (List.mem_cons_self ..)
      rcases List.mem_cons.mp ha with h | h
      · exact h
      · rcases List.mem_cons.mp hb with g | g
        · exact g.symm
        · exact anti _ _ (h1a b g) (h2a a h)
    subst e
    rw [sort_uniq anti (List.Perm.cons_inv p) h1b h2b]
theorem ltCps_eq : ∀ a b : List Nat, Spec.ltCps a b = ltS a b
  | [], [] => rfl
  | [], _ :: _ => rfl
  | _ :: _, [] => rfl
  | a :: r, b :: t => by
    show (decide (a < b) || (a == b && Spec.ltCps r t)) = (decide (a < b) || (decide (a = b) && ltS r t))
    rw [ltCps_eq r t]
    congr 2
theorem ltS_irr : ∀ a : List Nat, ltS a a = false
  | [] => rfl
  | a :: r => by show (decide (a < a) || (decide (a = a) && ltS r r)) = false; rw [ltS_irr r]; simp
theorem ltS_tri : ∀ a b : List Nat, ltS a b = false → ltS b a = false → a = b
  | [], [], _, _ => rfl
  | [], _ :: _, h, _ => by cases h
  | _ :: _, [], _, h => by cases h
  | a :: r, b :: t, h, g => by
    have h : (decide (a < b) || (decide (a = b) && ltS r t)) = false := h
    have g : (decide (b < a) || (decide (b = a) && ltS t r)) = false := g
    simp only [Bool.or_eq_false_iff, Bool.and_eq_false_iff, decide_eq_false_iff_not] at h g
    have e : a = b := by omega
    subst e
    rw [ltS_tri r t (h.2.elim (fun z => absurd rfl z) id) (g.2.elim (fun z => absurd rfl z) id)]
theorem ltS_trans : ∀ a b c : List Nat, ltS a b = true → ltS b c = true → ltS a c = true
  | [], [], _, h, _ => by cases h
  | [], _ :: _, [], _, h => by cases h
  | [], _ :: _, _ :: _, _, _ => rfl
  | _ :: _, [], _, h, _ => by cases h
  | _ :: _, _ :: _, [], _, h => by cases h
  | a :: r, b :: t, c :: u, h, g => by
    have h : (decide (a < b) || (decide (a = b) && ltS r t)) = true := h
    have g : (decide (b < c) || (decide (b = c) && ltS t u)) = true := g
    show (decide (a < c) || (decide (a = c) && ltS r u)) = true
    simp only [Bool.or_eq_true, Bool.and_eq_true, decide_eq_true_eq] at h g ⊢
    rcases h with h | ⟨h1, h2⟩ <;> rcases g with g | ⟨g1, g2⟩
    · left; omega
    · left; omega
    · left; omega
    · right; exact ⟨h1.trans g1, ltS_trans r t u h2 g2⟩
theorem leS_trans (a b c : List Nat) (h : ltS b a = false) (g : ltS c b = false) : ltS c a = false := by
  cases q : ltS c a with
  | false => rfl
  | true =>
    cases q2 : ltS a b with
    | true => rw [ltS_trans c a b q q2] at g; cases g
    | false =>
      have := ltS_tri a b q2 h
      subst this
      rw [q] at g; cases g
theorem insS_perm (x : List Nat) : ∀ l, (insS x l).Perm (x :: l)
  | [] => .refl _
  | y :: l => by
    unfold insS
    split
    · exact ((insS_perm x l).cons y).trans (.swap ..)
    · exact .refl _
theorem sortS_perm : ∀ l, (sortS l).Perm l
  | [] => .refl _
  | x :: l => (insS_perm x (sortS l)).trans ((sortS_perm l).cons x)
theorem insS_pw (x : List Nat) : ∀ {l}, l.Pairwise (fun a b => ltS b a = false) → (insS x l).Pairwise (fun a b => ltS b a = false)
  | [], _ => List.pairwise_singleton ..
  | y :: l, h => by
    obtain ⟨h1, h2⟩ := List.pairwise_cons.mp h
    unfold insS
    split
    · rename_i c
      refine List.pairwise_cons.mpr ⟨fun z hz => ?_, insS_pw x h2⟩
      rcases List.mem_cons.mp ((insS_perm x l).mem_iff.mp hz) with e | hz
      · subst e
        cases q : ltS z y with
        | false => rfl
        | true => exact absurd (ltS_trans y z y c q) (by rw [ltS_irr]; exact Bool.false_ne_true)
      · exact h1 z hz
    · rename_i c
      have c : ltS y x = false := by simpa using c
      refine List.pairwise_cons.mpr ⟨fun z hz => ?_, h⟩
      rcases List.mem_cons.mp hz with e | hz
      · rw [e]; exact c
      · exact leS_trans x y z c (h1 z hz)
theorem sortS_pw : ∀ l, (sortS l).Pairwise (fun a b => ltS b a = false)
  | [] => .nil
  | x :: l => insS_pw x (sortS_pw l)
theorem risingS_pw : ∀ {l : List (List Nat)} {p : List Nat}, PyProof.Rows.risingS (sOf p) (l.map sOf) = true → (p :: l).Pairwise (fun a b => ltS b a = false)
  | [], p, _ => List.pairwise_singleton ..
  | x :: l, p, h => by
    have h : (!Spec.ltCps (sOf x).cps.toList (sOf p).cps.toList && PyProof.Rows.risingS (sOf x) (l.map sOf)) = true := h
    obtain ⟨h1, h2⟩ := Bool.and_eq_true_iff.mp h
    rw [cps_sOf, cps_sOf, ltCps_eq] at h1
    have h1 : ltS x p = false := by cases q : ltS x p with | false => rfl | true => rw [q] at h1; cases h1
    have ih := risingS_pw h2
    refine List.pairwise_cons.mpr ⟨fun z hz => ?_, ih⟩
    rcases List.mem_cons.mp hz with e | hz
    · rw [e]; exact h1
    · exact leS_trans p x z h1 ((List.pairwise_cons.mp ih).1 z hz)
theorem sortedS_pw {l : List (List Nat)} (h : PyProof.Rows.sortedS (l.map sOf) = true) : l.Pairwise (fun a b => ltS b a = false) := by
  cases l with
  | nil => exact .nil
  | cons x l => exact risingS_pw h
theorem sorted_strs_eq {xs : List (List Nat)} {ys : List Str} (p : ys.Perm (xs.map sOf)) (h : PyProof.Rows.sortedS ys = true) : ys = (sortS xs).map sOf := by
  have e : ys = (ys.map fun y => y.cps.toList).map sOf := by
    rw [List.map_map]
    have : (sOf ∘ fun y : Str => y.cps.toList) = id := by funext y; exact sOf_cps y
    rw [this, List.map_id]
  have p2 : (ys.map fun y => y.cps.toList).Perm xs := by
    have := p.map fun y : Str => y.cps.toList
    rw [List.map_map] at this
    have e2 : ((fun y : Str => y.cps.toList) ∘ sOf) = id := by funext y; exact cps_sOf y
    rw [e2, List.map_id] at this
    exact this
  rw [e] at h
  rw [e, sort_uniq (fun a b h1 h2 => ltS_tri a b h2 h1) (p2.trans (sortS_perm xs).symm) (sortedS_pw h) (sortS_pw xs)]
theorem insI_perm (x : Int) : ∀ l, (insI x l).Perm (x :: l)
  | [] => .refl _
  | y :: l => by
    unfold insI
    split
    · exact ((insI_perm x l).cons y).trans (.swap ..)
    · exact .refl _
theorem sortI_perm : ∀ l, (sortI l).Perm l
  | [] => .refl _
  | x :: l => (insI_perm x (sortI l)).trans ((sortI_perm l).cons x)
theorem insI_pw (x : Int) : ∀ {l}, l.Pairwise (· ≤ ·) → (insI x l).Pairwise (· ≤ ·)
  | [], _ => List.pairwise_singleton ..
  | y :: l, h => by
    obtain ⟨h1, h2⟩ := List.pairwise_cons.mp h
    unfold insI
    split
    · rename_i c
      refine List.pairwise_cons.mpr ⟨fun z hz => ?_, insI_pw x h2⟩
      rcases List.mem_cons.mp ((insI_perm x l).mem_iff.mp hz) with e | hz
      · omega
      · exact h1 z hz
    · rename_i c
      refine List.pairwise_cons.mpr ⟨fun z hz => ?_, h⟩
      rcases List.mem_cons.mp hz with e | hz
      · omega
      · have := h1 z hz; omega
theorem sortI_pw : ∀ l, (sortI l).Pairwise (· ≤ ·)
  | [] => .nil
  | x :: l => insI_pw x (sortI_pw l)
theorem sorted_ints_eq {xs ys : List Int} (p : ys.Perm xs) (h : ys.Pairwise (· ≤ ·)) : ys = sortI xs :=
  sort_uniq (fun a b h1 h2 => by omega) (p.trans (sortI_perm xs).symm) h (sortI_pw xs)
end Kp
set_option autoImplicit false
set_option maxRecDepth 10000
set_option maxHeartbeats 1000000
namespace Kp
open PySem L2
mutual
def pdOf : T → PyData
  | .non => .none
  | .bl b => .bool b
  | .int i => .int i
  | .str s => .str (sOf s)
  | .tup xs => .tuple (pdOfs xs)
  | .lst xs => .list (pdOfs xs)
  | .ro _ => .none
  | .dct _ _ => .none
  | .ins _ _ _ => .none
def pdOfs : List T → List PyData
  | [] => []
  | x :: xs => pdOf x :: pdOfs xs
end
theorem pdOfs_map : ∀ xs : List T, pdOfs xs = xs.map pdOf
  | [] => rfl
  | x :: xs => by rw [pdOfs, pdOfs_map xs]; rfl
section
variable {W : Wd} {ρ : List Addr} {L : Lv} {H : Hp}
theorem plain_tup {n : Nat} {xs : List T} (h : plain n (.tup xs) = true) : ∃ m, n = m + 1 ∧ xs.all (plain m) = true := by
  cases n with
  | zero => cases h
  | succ m => exact ⟨m, rfl, h⟩
theorem plain_lst {n : Nat} {xs : List T} (h : plain n (.lst xs) = true) : ∃ m, n = m + 1 ∧ xs.all (plain m) = true := by
  cases n with
  | zero => cases h
  | succ m => exact ⟨m, rfl, h⟩
theorem plain_dct {n : Nat} {ks : List (List Nat)} {xs : List T} (h : plain n (.dct ks xs) = true) : False := by cases n <;> cases h
theorem plain_ro {n : Nat} {xs : List T} (h : plain n (.ro xs) = true) : False := by cases n <;> cases h
theorem plain_ins {n c : Nat} {ks : List Nat} {xs : List T} (h : plain n (.ins c ks xs) = true) : False := by cases n <;> cases h
theorem all_cons {α : Type} {p : α → Bool} {x : α} {xs : List α} (h : (x :: xs).all p = true) : p x = true ∧ xs.all p = true := by simpa using h
mutual
theorem RepT.dp : ∀ {n : Nat} {v : V} {x : T}, RepT W L H v x → plain n x = true → Dp W.K H v (pdOf x)
  | _, _, _, .non, _ => .non
  | _, _, _, .bl b, _ => .bl b
  | _, _, _, .int i, _ => .int i
  | _, _, _, .str s h, _ => .str _
  | n, _, _, .tup h r, p => by
    obtain ⟨m, rfl, p⟩ := plain_tup p
    exact .tup h.sq (RepTs.dp r p)
  | n, _, _, .lst h r, p => by
    obtain ⟨m, rfl, p⟩ := plain_lst p
    exact .lst h.sq (RepTs.dp r p)
  | _, _, _, .ro _, p => (plain_ro p).elim
  | _, _, _, .dct _ _ _ _ _ _, p => (plain_dct p).elim
  | _, _, _, .ins _ _ _ _ _, p => (plain_ins p).elim
theorem RepTs.dp : ∀ {n : Nat} {vs : List V} {xs : List T}, RepTs W L H vs xs → xs.all (plain n) = true → DpAll W.K H vs (pdOfs xs)
  | _, _, _, .nil, _ => .nil
  | _, _, _, .cons h r, p => .cons (RepT.dp h (all_cons p).1) (RepTs.dp r (all_cons p).2)
end
mutual
theorem RepT.lay : ∀ {n : Nat} {v : V} {x : T}, RepT W L H v x → plain n x = true → PyData.canLay0 (pdOf x) = true
  | _, _, _, .non, _ => rfl
  | _, _, _, .bl b, _ => rfl
  | _, _, _, .int i, _ => rfl
  | _, _, _, .str s h, _ => by rw [pdOf, PyData.canLay0]; exact h.1
  | n, _, _, .tup h r, p => by
    obtain ⟨m, rfl, p⟩ := plain_tup p
    rw [pdOf, PyData.canLay0]; exact RepTs.lay r p
  | n, _, _, .lst h r, p => by
    obtain ⟨m, rfl, p⟩ := plain_lst p
    rw [pdOf, PyData.canLay0]; exact RepTs.lay r p
  | _, _, _, .ro _, p => (plain_ro p).elim
  | _, _, _, .dct _ _ _ _ _ _, p => (plain_dct p).elim
  | _, _, _, .ins _ _ _ _ _, p => (plain_ins p).elim
theorem RepTs.lay : ∀ {n : Nat} {vs : List V} {xs : List T}, RepTs W L H vs xs → xs.all (plain n) = true → PyData.canLayAll0 (pdOfs xs) = true
  | _, _, _, .nil, _ => rfl
  | _, _, _, .cons h r, p => by
    rw [pdOfs, PyData.canLayAll0, RepT.lay h (all_cons p).1, RepTs.lay r (all_cons p).2]; rfl
end
mutual
theorem plain_depth : ∀ (n : Nat) (x : T), plain n x = true → (pdOf x).depth ≤ n + 1
  | _, .non, _ => by simp [pdOf, PyData.depth]
  | _, .bl b, _ => by simp [pdOf, PyData.depth]
  | _, .int i, _ => by simp [pdOf, PyData.depth]
  | _, .str s, _ => by simp [pdOf, PyData.depth]
  | n, .tup xs, p => by
    obtain ⟨m, rfl, p⟩ := plain_tup p
    have := plain_depths m xs p
    simp only [pdOf, PyData.depth]; omega
  | n, .lst xs, p => by
    obtain ⟨m, rfl, p⟩ := plain_lst p
    have := plain_depths m xs p
    simp only [pdOf, PyData.depth]; omega
  | _, .ro _, p => (plain_ro p).elim
  | _, .dct _ _, p => (plain_dct p).elim
  | _, .ins _ _ _, p => (plain_ins p).elim
theorem plain_depths : ∀ (n : Nat) (xs : List T), xs.all (plain n) = true → PyData.depthAll (pdOfs xs) ≤ n + 1
  | _, [], _ => by simp [pdOfs, PyData.depthAll]
  | n, x :: xs, p => by
    have h1 := plain_depth n x (all_cons p).1
    have h2 := plain_depths n xs (all_cons p).2
    simp only [pdOfs, PyData.depthAll]; omega
end
mutual
theorem eqv_eqT : ∀ (n m : Nat) (x y : T), plain n x = true → plain m y = true → PyData.eqv (pdOf x) (pdOf y) = eqT x y
  | n, m, x, y, p, q => by
    cases x <;> cases y <;> (try exact (plain_ro p).elim) <;> (try exact (plain_ro q).elim) <;> (try exact (plain_dct p).elim) <;> (try exact (plain_dct q).elim) <;> (try exact (plain_ins p).elim) <;> (try exact (plain_ins q).elim) <;> (try (simp only [pdOf, PyData.eqv, eqT]; done)) <;> (try rfl)
    · rename_i a b
      simp only [pdOf, PyData.eqv, eqT]
      by_cases e : a = b
      · subst e; simp
      · rw [beq_eq_false_iff_ne.mpr e, beq_eq_false_iff_ne.mpr fun z => e (sOf_inj z)]
    · rename_i a b
      obtain ⟨n', rfl, p⟩ := plain_tup p
      obtain ⟨m', rfl, q⟩ := plain_tup q
      simp only [pdOf, PyData.eqv, eqT]
      exact eqv_eqTs n' m' a b p q
    · rename_i a b
      obtain ⟨n', rfl, p⟩ := plain_lst p
      obtain ⟨m', rfl, q⟩ := plain_lst q
      simp only [pdOf, PyData.eqv, eqT]
      exact eqv_eqTs n' m' a b p q
theorem eqv_eqTs : ∀ (n m : Nat) (xs ys : List T), xs.all (plain n) = true → ys.all (plain m) = true → PyData.eqvAll (pdOfs xs) (pdOfs ys) = eqTs xs ys
  | n, m, [], [], p, q => by simp only [pdOfs, PyData.eqvAll, eqTs]
  | n, m, [], _ :: _, p, q => by simp only [pdOfs, PyData.eqvAll, eqTs]
  | n, m, _ :: _, [], p, q => by simp only [pdOfs, PyData.eqvAll, eqTs]
  | n, m, x :: xs, y :: ys, p, q => by
    simp only [pdOfs, PyData.eqvAll, eqTs]
    rw [eqv_eqT n m x y (all_cons p).1 (all_cons q).1, eqv_eqTs n m xs ys (all_cons p).2 (all_cons q).2]
end
theorem RepT.shaped {v : V} {x : T} (r : RepT W L H v x) (p : plain deep x = true) : SeqAt.shaped (pdOf x) = true := by
  have h1 := r.lay p
  have h2 := plain_depth deep x p
  unfold SeqAt.shaped
  rw [h1]
  have : (pdOf x).depth ≤ 64 := Nat.le_trans h2 (by decide)
  simp [this]
end
section
variable {W : Wd} {X : Lv} {ρ : List Addr} {h : AH} {H : Hp}
mutual
inductive Rdt (K : PySem.W.Frag) (H : Hp) : V → T → Prop
  | non : Rdt K H .non .non
  | bl (b : Bool) : Rdt K H (.bl b) (.bl b)
  | int (i : Int) : Rdt K H (.int i) (.int i)
  | str (s : List Nat) (h : tOK (sOf s)) : Rdt K H (.str (sOf s)) (.str s)
  | tup {a : Addr} {vs : List V} {ts : List T} : SqT K H a vs → Rdts K H vs ts → Rdt K H (.ref a) (.tup ts)
  | lst {a : Addr} {vs : List V} {ts : List T} : SqL K H a vs → Rdts K H vs ts → Rdt K H (.ref a) (.lst ts)
  | ro {v : V} {ts : List T} : Rdt K H v (.ro ts)
  | dct {v : V} {ks : List (List Nat)} {ts : List T} : Rdt K H v (.dct ks ts)
  | ins {v : V} {c : Nat} {ks : List Nat} {ts : List T} : Rdt K H v (.ins c ks ts)
inductive Rdts (K : PySem.W.Frag) (H : Hp) : List V → List T → Prop
  | nil : Rdts K H [] []
  | cons {v : V} {vs : List V} {t : T} {ts : List T} : Rdt K H v t → Rdts K H vs ts → Rdts K H (v :: vs) (t :: ts)
end
end
section
variable {W : Wd} {L : Lv} {H : Hp} {K : PySem.W.Frag}
mutual
theorem RepT.rdt : ∀ {v : V} {x : T}, RepT W L H v x → Rdt W.K H v x
  | _, _, .non => .non
  | _, _, .bl b => .bl b
  | _, _, .int i => .int i
  | _, _, .str s h => .str s h
  | _, _, .tup h r => .tup h.sq (RepTs.rdt r)
  | _, _, .lst h r => .lst h.sq (RepTs.rdt r)
  | _, _, .ro _ => .ro
  | _, _, .dct _ _ _ _ _ _ => .dct
  | _, _, .ins _ _ _ _ _ => .ins
theorem RepTs.rdt : ∀ {v : List V} {x : List T}, RepTs W L H v x → Rdts W.K H v x
  | _, _, .nil => .nil
  | _, _, .cons h r => .cons (RepT.rdt h) (RepTs.rdt r)
end
mutual
theorem Rdt.dp : ∀ {n : Nat} {v : V} {x : T}, Rdt K H v x → plain n x = true → Dp K H v (pdOf x)
  | _, _, _, .non, _ => .non
  | _, _, _, .bl b, _ => .bl b
  | _, _, _, .int i, _ => .int i
  | _, _, _, .str s h, _ => .str _
  | n, _, _, .tup h r, p => by
    obtain ⟨m, rfl, p⟩ := plain_tup p
    exact .tup h (Rdts.dp r p)
  | n, _, _, .lst h r, p => by
    obtain ⟨m, rfl, p⟩ := plain_lst p
    exact .lst h (Rdts.dp r p)
  | _, _, _, .ro, p => (plain_ro p).elim
  | _, _, _, .dct, p => (plain_dct p).elim
  | _, _, _, .ins, p => (plain_ins p).elim
theorem Rdts.dp : ∀ {n : Nat} {vs : List V} {xs : List T}, Rdts K H vs xs → xs.all (plain n) = true → DpAll K H vs (pdOfs xs)
  | _, _, _, .nil, _ => .nil
  | _, _, _, .cons h r, p => .cons (Rdt.dp h (all_cons p).1) (Rdts.dp r (all_cons p).2)
end
mutual
theorem Rdt.lay : ∀ {n : Nat} {v : V} {x : T}, Rdt K H v x → plain n x = true → PyData.canLay0 (pdOf x) = true
  | _, _, _, .non, _ => rfl
  | _, _, _, .bl b, _ => rfl
  | _, _, _, .int i, _ => rfl
  | _, _, _, .str s h, _ => by rw [pdOf, PyData.canLay0]; exact h.1
  | n, _, _, .tup h r, p => by
    obtain ⟨m, rfl, p⟩ := plain_tup p
    rw [pdOf, PyData.canLay0]; exact Rdts.lay r p
  | n, _, _, .lst h r, p => by
    obtain ⟨m, rfl, p⟩ := plain_lst p
    rw [pdOf, PyData.canLay0]; exact Rdts.lay r p
  | _, _, _, .ro, p => (plain_ro p).elim
  | _, _, _, .dct, p => (plain_dct p).elim
  | _, _, _, .ins, p => (plain_ins p).elim
theorem Rdts.lay : ∀ {n : Nat} {vs : List V} {xs : List T}, Rdts K H vs xs → xs.all (plain n) = true → PyData.canLayAll0 (pdOfs xs) = true
  | _, _, _, .nil, _ => rfl
  | _, _, _, .cons h r, p => by
    rw [pdOfs, PyData.canLayAll0, Rdt.lay h (all_cons p).1, Rdts.lay r (all_cons p).2]; rfl
end
theorem Rdt.shaped {v : V} {x : T} (r : Rdt K H v x) (p : plain deep x = true) : SeqAt.shaped (pdOf x) = true := by
  have h1 := r.lay p
  have h2 := plain_depth deep x p
  unfold SeqAt.shaped
  rw [h1]
  have : (pdOf x).depth ≤ 64 := Nat.le_trans h2 (by decide)
  simp [this]
end
section
variable {W : Wd} {X : Lv} {ρ : List Addr} {h : AH} {H : Hp}
theorem snapL_ok {f : D → Option T} (hf : ∀ (d : D) (x : T) (v : V), f d = some x → RD W X ρ h H v d → Rdt W.K H v x) : ∀ (ds : List D) (xs : List T) (vs : List V), snapL f ds = some xs → RDs W X ρ h H vs ds → Rdts W.K H vs xs
  | [], xs, vs, e, r => by
    cases r
    simp only [snapL, Option.some.injEq] at e
    subst e
    exact .nil
  | d :: ds, xs, vs, e, r => by
    cases r with
    | cons x r =>
      unfold snapL at e
      cases q : f d with
      | none => rw [q] at e; cases e
      | some y =>
        rw [q] at e
        simp only at e
        cases q2 : snapL f ds with
        | none => rw [q2] at e; cases e
        | some ys =>
          rw [q2] at e
          simp only [Option.some.injEq] at e
          subst e
          exact .cons (hf d y _ q x) (snapL_ok hf ds ys _ q2 r)
theorem snap_ok (R : HRel W X ρ h H) : ∀ (k : Nat) (d : D) (x : T) (v : V), snap h k d = some x → RD W X ρ h H v d → Rdt W.K H v x
  | k, .t y, x, v, e, r => by
    have e : some y = some x := by cases k <;> exact e
    cases e
    cases r with | t r => exact r.rdt
  | 0, .r n, x, v, e, r => by cases e
  | k + 1, .r n, x, v, e, r => by
    cases r with
    | r ea =>
      unfold snap at e
      cases q : h[n]? with
      | none => rw [q] at e; cases e
      | some o =>
        rw [q] at e
        have ob := R.ob n _ o ea q
        cases o with
        | lst ds =>
          obtain ⟨vs, ha, rs⟩ := ob
          simp only at e
          cases q2 : snapL (snap h k) ds with
          | none => rw [q2] at e; cases e
          | some ys =>
            rw [q2] at e
            simp only [Option.some.injEq] at e
            subst e
            exact .lst (SqL.of ha) (snapL_ok (fun d x v => snap_ok R k d x v) ds ys vs q2 rs)
        | _ => cases e
end
end Kp
set_option autoImplicit false
set_option maxRecDepth 10000
set_option maxHeartbeats 1000000
namespace Kp
open PySem L2
structure Rl (W : Wd) (Z : Lv) (ρ : List Addr) (h : AH) (H : Hp) (env : Env) (σ : L2.St) : Prop where
  hr : HRel W Z ρ h H
  len : env.length = σ.length
  env : ∀ (i : Nat) (d : D), env[i]? = some (some d) → ∃ v, σ[i]? = some (some v) ∧ RD W Z ρ h H v d
theorem Rl.ext {W : Wd} {Z : Lv} {ρ ρ' : List Addr} {h h' : AH} {H H' : Hp} {env : Env} {σ : L2.St} (r : Rl W Z ρ h H env σ) (R : HRel W Z ρ' h' H') (E : Ext ρ h H ρ' h' H') : Rl W Z ρ' h' H' env σ :=
  ⟨R, r.len, fun i d e => let ⟨v, e1, e2⟩ := r.env i d e; ⟨v, e1, e2.ext E⟩⟩
theorem Rl.set {W : Wd} {Z : Lv} {ρ : List Addr} {h : AH} {H : Hp} {env : Env} {σ : L2.St} (r : Rl W Z ρ h H env σ) (i : Nat) {v : V} {d : D} (x : RD W Z ρ h H v d) : Rl W Z ρ h H (env.set i (some d)) (σ.set i (some v)) := by
  refine ⟨r.hr, by simp [r.len], fun j d' e => ?_⟩
  by_cases c : i = j
  · subst c
    have z := (List.getElem?_eq_some_iff.mp e).1
    rw [List.length_set] at z
    rw [List.getElem?_set_self z] at e
    cases e
    exact ⟨v, by rw [List.getElem?_set_self (by rw [← r.len]; exact z)], x⟩
  · rw [List.getElem?_set_ne c] at e
    obtain ⟨v', e1, e2⟩ := r.env j d' e
    exact ⟨v', by rw [List.getElem?_set_ne c]; exact e1, e2⟩
theorem wipe_eq (env : Env) : ∀ is : List Nat, (Kp.wipe env is).length = env.length
  | [] => rfl
  | i :: is => by rw [Kp.wipe, List.length_set, wipe_eq env is]
theorem Rl.wipe {W : Wd} {Z : Lv} {ρ : List Addr} {h : AH} {H : Hp} {env : Env} {σ : L2.St} (r : Rl W Z ρ h H env σ) : ∀ is : List Nat, Rl W Z ρ h H (Kp.wipe env is) (L2.wipe σ is)
  | [] => r
  | i :: is => by
    have q := Rl.wipe r is
    refine ⟨r.hr, by simp [Kp.wipe, L2.wipe, q.len], fun j d e => ?_⟩
    unfold Kp.wipe at e
    by_cases c : i = j
    · subst c
      have z := (List.getElem?_eq_some_iff.mp e).1
      rw [List.length_set] at z
      rw [List.getElem?_set_self z] at e
      cases e
    · rw [List.getElem?_set_ne c] at e
      obtain ⟨v', e1, e2⟩ := q.env j d e
      exact ⟨v', by unfold L2.wipe; rw [List.getElem?_set_ne c]; exact e1, e2⟩
def ExcOk (W : Wd) (Z : Lv) (ρ : List Addr) (h : AH) (H : Hp) (c : Nat) (ks : List Nat) (ts : List T) (cls : Value) (d : Option Addr) : Prop :=
  cls = .ref (W.ca c) ∧ ∃ dx fs, d = some dx ∧ H dx = some (.xd fs) ∧ ¬ lv Z ρ h dx ∧ fs.map (·.1) = ks.map W.fnm ∧ RTs W Z ρ h H (fs.map (·.2)) ts
abbrev Rel (α β : Type) := List Addr → AH → Hp → β → α → Prop
def Post {α β : Type} (rel : Rel α β) (W : Wd) (Wx : WX) (Z : Lv) (σ : L2.St) (ρ : List Addr) (h : AH) (H : Hp) (Q : β → Hp → Prop) : R α → Prop
  | .ok a h' => ∀ ρ' v H', HRel W Z ρ' h' H' → Ext ρ h H ρ' h' H' → rel ρ' h' H' v a → Q v H'
  | .ex c ks ts h' => ∀ ρ' H' cls d, HRel W Z ρ' h' H' → Ext ρ h H ρ' h' H' → ExcOk W Z ρ' h' H' c ks ts cls d → Wx cls d σ H'
  | .no => False
section
variable {W : Wd} {Wx : WX} {Z : Lv} {σ : L2.St} {ρ ρ' : List Addr} {h h' : AH} {H H' : Hp} {env : Env} {α β γ δ : Type} {rel : Rel α β} {rel' : Rel γ δ}
theorem Post.from {Q : β → Hp → Prop} (E : Ext ρ h H ρ' h' H') : ∀ {r : R α}, Post rel W Wx Z σ ρ h H Q r → Post rel W Wx Z σ ρ' h' H' Q r
  | .ok a h2, p => fun ρ2 v H2 R2 E2 x => p ρ2 v H2 R2 (E.trans E2) x
  | .ex c ks ts h2, p => fun ρ2 H2 cls d R2 E2 x => p ρ2 H2 cls d R2 (E.trans E2) x
  | .no, p => p
theorem Post.mono {Q Q' : β → Hp → Prop} (k : ∀ v H, Q v H → Q' v H) : ∀ {r : R α}, Post rel W Wx Z σ ρ h H Q r → Post rel W Wx Z σ ρ h H Q' r
  | .ok a h2, p => fun ρ2 v H2 R2 E2 x => k _ _ (p ρ2 v H2 R2 E2 x)
  | .ex c ks ts h2, p => p
  | .no, p => p
theorem Post.bind {Q : β → Hp → Prop} {Q' : δ → Hp → Prop} {m : R α} {f : α → AH → R γ} (p : Post rel' W Wx Z σ ρ h H Q' (m.bind f))
    (k : ∀ a h' ρ' v H', m = .ok a h' → HRel W Z ρ' h' H' → Ext ρ h H ρ' h' H' → rel ρ' h' H' v a → Post rel' W Wx Z σ ρ' h' H' Q' (f a h') → Q v H') : Post rel W Wx Z σ ρ h H Q m := by
  cases m with
  | ok a h' => exact fun ρ' v H' R' E x => k a h' ρ' v H' rfl R' E x (Post.from E p)
  | ex c ks ts h' => exact p
  | no => exact p
theorem Post.of {Q' : δ → Hp → Prop} {o : Option γ} (p : Post rel' W Wx Z σ ρ h H Q' (R.of o h')) : ∃ a, o = some a ∧ Post rel' W Wx Z σ ρ h H Q' (.ok a h') := by
  cases o with
  | none => exact p.elim
  | some a => exact ⟨a, rfl, p⟩
end
abbrev relD (W : Wd) (Z : Lv) : Rel D V := fun ρ h H v d => RD W Z ρ h H v d
abbrev relDs (W : Wd) (Z : Lv) : Rel (List D) (List V) := fun ρ h H v d => RDs W Z ρ h H v d
abbrev relB : Rel Bool Bool := fun _ _ _ b b' => b = b'
section
variable (I : Info) (c : Call) (W : Wd) (Wx : WX)
def tE (m : Ex) : TE := fun σ H Q => ∃ Z ρ h env, Rl W Z ρ h H env σ ∧ Post (relD W Z) W Wx Z σ ρ h H Q (ev I c m env h)
def tEs (m : Exs) : TA := fun σ H Q => ∃ Z ρ h env, Rl W Z ρ h H env σ ∧ Post (relDs W Z) W Wx Z σ ρ h H Q (evs I c m env h)
def tC (m : Ex) : TT := fun σ H Q => ∃ Z ρ h env, Rl W Z ρ h H env σ ∧ Post relB W Wx Z σ ρ h H Q ((ev I c m env h).bind fun d h => R.of (truth h d) h)
end
section
variable {I : Info} {c : Call} {W : Wd} {Wx : WX} {Z : Lv} {σ : L2.St} {ρ : List Addr} {h : AH} {H : Hp} {env : Env} {γ δ : Type} {rel' : Rel γ δ}
theorem tE.step {m : Ex} (r : Rl W Z ρ h H env σ) {f : D → AH → R γ} {Q' : δ → Hp → Prop} (p : Post rel' W Wx Z σ ρ h H Q' ((ev I c m env h).bind f)) {K : V → Hp → Prop}
    (k : ∀ d v ρ' h' H', Rl W Z ρ' h' H' env σ → Ext ρ h H ρ' h' H' → RD W Z ρ' h' H' v d → Post rel' W Wx Z σ ρ' h' H' Q' (f d h') → K v H') : tE I c W Wx m σ H K :=
  ⟨Z, ρ, h, env, r, p.bind fun d h' ρ' v H' _ R' E x q => k d v ρ' h' H' (r.ext R' E) E x q⟩
theorem tEs.step {m : Exs} (r : Rl W Z ρ h H env σ) {f : List D → AH → R γ} {Q' : δ → Hp → Prop} (p : Post rel' W Wx Z σ ρ h H Q' ((evs I c m env h).bind f)) {K : List V → Hp → Prop}
    (k : ∀ ds vs ρ' h' H', Rl W Z ρ' h' H' env σ → Ext ρ h H ρ' h' H' → RDs W Z ρ' h' H' vs ds → Post rel' W Wx Z σ ρ' h' H' Q' (f ds h') → K vs H') : tEs I c W Wx m σ H K :=
  ⟨Z, ρ, h, env, r, p.bind fun d h' ρ' v H' _ R' E x q => k d v ρ' h' H' (r.ext R' E) E x q⟩
theorem tE.last {m : Ex} (r : Rl W Z ρ h H env σ) {K : V → Hp → Prop} (p : Post (relD W Z) W Wx Z σ ρ h H K (ev I c m env h)) : tE I c W Wx m σ H K := ⟨Z, ρ, h, env, r, p⟩
end
section
variable {W : Wd} {Z : Lv} {ρ : List Addr} {h : AH} {H : Hp}
theorem RepD.int {v : V} {i : Int} (x : RD W Z ρ h H v (.t (.int i))) : v = .int i := by
  cases x with | t x => cases x; rfl
theorem RepD.bl {v : V} {b : Bool} (x : RD W Z ρ h H v (.t (.bl b))) : v = .bl b := by
  cases x with | t x => cases x; rfl
theorem RepD.non {v : V} (x : RD W Z ρ h H v (.t .non)) : v = .non := by
  cases x with | t x => cases x; rfl
theorem RepD.str {v : V} {s : List Nat} (x : RD W Z ρ h H v (.t (.str s))) : v = .str (sOf s) ∧ tOK (sOf s) := by
  cases x with | t x => cases x with | str s k => exact ⟨rfl, k⟩
theorem RepD.tup {v : V} {ts : List T} (x : RD W Z ρ h H v (.t (.tup ts))) : ∃ a vs, v = .ref a ∧ PT_ W (lv Z ρ h) H a vs ∧ RTs W Z ρ h H vs ts := by
  cases x with | t x => cases x with | tup k r => exact ⟨_, _, rfl, k, r⟩
theorem RepD.lst {v : V} {ts : List T} (x : RD W Z ρ h H v (.t (.lst ts))) : ∃ a vs, v = .ref a ∧ PL W (lv Z ρ h) H a vs ∧ RTs W Z ρ h H vs ts := by
  cases x with | t x => cases x with | lst k r => exact ⟨_, _, rfl, k, r⟩
theorem rep_ints {L : Lv} : ∀ is : List Int, RepTs W L H (is.map V.int) (is.map T.int)
  | [] => .nil
  | i :: is => .cons (.int i) (rep_ints is)
theorem RepD.lstOf {v : V} {d : D} {ds : List D} (R : HRel W Z ρ h H) (x : RD W Z ρ h H v d) (e : lstOf h d = some ds) : ∃ a vs, v = .ref a ∧ H a = some (.lst vs) ∧ RDs W Z ρ h H vs ds := by
  cases d with
  | t y =>
    cases y with
    | lst ts =>
      cases e
      obtain ⟨a, vs, rfl, k, r⟩ := x.lst
      exact ⟨a, vs, rfl, k.1, .of_ts r⟩
    | _ => cases e
  | r n =>
    cases x with
    | r ea =>
      simp only [Kp.lstOf] at e
      cases q : h[n]? with
      | none => simp only [q] at e; cases e
      | some o =>
        simp only [q] at e
        have ob := R.ob n _ o ea q
        cases o with
        | lst es => cases e; obtain ⟨vs, ha, rs⟩ := ob; exact ⟨_, vs, rfl, ha, rs⟩
        | _ => cases e
theorem RepD.seqOf {v : V} {d : D} {ds : List D} (R : HRel W Z ρ h H) (x : RD W Z ρ h H v d) (e : seqOf h d = some ds) : ∃ a vs, v = .ref a ∧ (SqL W.K H a vs ∨ SqT W.K H a vs) ∧ RDs W Z ρ h H vs ds := by
  cases d with
  | t y =>
    cases y with
    | lst ts =>
      cases e
      obtain ⟨a, vs, rfl, k, r⟩ := x.lst
      exact ⟨a, vs, rfl, .inl k.sq, .of_ts r⟩
    | tup ts =>
      cases e
      obtain ⟨a, vs, rfl, k, r⟩ := x.tup
      exact ⟨a, vs, rfl, .inr k.sq, .of_ts r⟩
    | ro ts =>
      cases e
      cases x with | t x => cases x with | ro k => exact ⟨_, _, rfl, .inl (k.imp (·.1) id), .of_ts (rep_ints _)⟩
    | _ => cases e
  | r n =>
    cases x with
    | r ea =>
      simp only [Kp.seqOf] at e
      cases q : h[n]? with
      | none => simp only [q] at e; cases e
      | some o =>
        simp only [q] at e
        have ob := R.ob n _ o ea q
        cases o with
        | lst es => cases e; obtain ⟨vs, ha, rs⟩ := ob; exact ⟨_, vs, rfl, .inl (.of ha), rs⟩
        | _ => cases e
theorem RepD.insOf {v : V} {d : D} {k : Nat} (R : HRel W Z ρ h H) (x : RD W Z ρ h H v d) (e : clsOf h d = some k) :
    ∃ a dx fs, v = .ref a ∧ H a = some (.ins (W.ca k) dx fs) ∧ ∃ ks ds, fs.map (·.1) = ks.map W.fnm ∧ (∀ f ∈ ks, W.fld k f = true) ∧ RDs W Z ρ h H (fs.map (·.2)) ds ∧ ∀ f, fldOf h d f = lk ks ds f := by
  cases d with
  | t y =>
    cases y with
    | ins c ks ts =>
      cases e
      cases x with
      | t x =>
        cases x with
        | ins ha n ek el r =>
          refine ⟨_, _, _, rfl, ha, ks, ts.map .t, ek, el, .of_ts r, fun f => ?_⟩
          show (lk ks ts f).map D.t = lk ks (ts.map D.t) f
          clear ek el r ha n
          induction ks generalizing ts with
          | nil => cases ts <;> rfl
          | cons k ks ih =>
            cases ts with
            | nil => rfl
            | cons t ts =>
              show (if k = f then some t else lk ks ts f).map D.t = if k = f then some (D.t t) else lk ks (ts.map D.t) f
              by_cases c : k = f
              · rw [if_pos c, if_pos c]; rfl
              · rw [if_neg c, if_neg c]; exact ih ts
    | _ => cases e
  | r n =>
    cases x with
    | r ea =>
      simp only [Kp.clsOf] at e
      cases q : h[n]? with
      | none => simp only [q] at e; cases e
      | some o =>
        simp only [q] at e
        have ob := R.ob n _ o ea q
        cases o with
        | ins c ks ds =>
          cases e
          obtain ⟨dx, fs, ha, ek, el, rs⟩ := ob
          exact ⟨_, dx, fs, rfl, ha, ks, ds, ek, el, rs, fun f => by unfold Kp.fldOf; simp only [q]⟩
        | _ => cases e
theorem truth_ok {v : V} {d : D} {b : Bool} (R : HRel W Z ρ h H) (x : RD W Z ρ h H v d) (e : truth h d = some b) : TruV W.K v H b := by
  cases d with
  | t y =>
    cases y with
    | non => cases e; rw [x.non]; rfl
    | bl b => cases e; rw [x.bl]; rfl
    | int i =>
      cases e; rw [x.int]
      show decide (i ≠ 0) = (i != 0)
      by_cases c : i = 0 <;> simp [c]
    | str s =>
      cases e
      obtain ⟨rfl, k⟩ := x.str
      refine ⟨k.2, ?_⟩
      cases s <;> simp [sOf, Str.length] <;> omega
    | lst ts =>
      cases e
      obtain ⟨a, vs, rfl, k, r⟩ := x.lst
      exact .inl ⟨vs, k.sq, by cases r <;> rfl⟩
    | tup ts =>
      cases e
      obtain ⟨a, vs, rfl, k, r⟩ := x.tup
      exact .inr (.inl ⟨vs, k.sq, by cases r <;> rfl⟩)
    | _ => cases e
  | r n =>
    cases x with
    | r ea =>
      simp only [truth] at e
      cases q : h[n]? with
      | none => simp only [q] at e; cases e
      | some o =>
        simp only [q] at e
        have ob := R.ob n _ o ea q
        cases o with
        | lst es => cases e; obtain ⟨vs, ha, rs⟩ := ob; exact .inl ⟨vs, .of ha, by cases rs <;> rfl⟩
        | _ => cases e
end
end Kp
set_option autoImplicit false
set_option maxRecDepth 10000
set_option maxHeartbeats 1000000
namespace Kp
open PySem L2
def opr : Bop → Operator
  | .add => .Add
  | .sub => .Sub
  | .mul => .Mult
  | .fdiv => .FloorDiv
  | .mod => .Mod
  | .pow => .Pow
  | .band => .BitAnd
  | .bor => .BitOr
def copr : Cop → CmpOp
  | .eq => .Eq
  | .ne => .NotEq
  | .lt => .Lt
  | .le => .LtE
  | .gt => .Gt
  | .ge => .GtE
  | .isin => .In
  | .notin => .NotIn
  | .isN => .Is
  | .isnot => .IsNot
structure ClsF (K : PySem.W.Frag) (C : Addr) : Prop where
  cls : Cls K C
  nf : PySem.W.notFirst K C (.ref C) = true
  sf : PySem.W.selfFirst K C = true
  ns : PySem.W.noSeq K C = true
structure Facts (I : Info) (W : Wd) : Prop where
  meth : ∀ k m f, I.meth k m = some f → Meth W.K (W.ca k) (W.mnm m) (W.fa f) ∧ ClsF W.K (W.ca k) ∧ PySem.W.fnIn W.K (W.fa f) = true
  fld : ∀ k f, I.fld k f = true → Cls W.K (W.ca k) ∧ NoAttr W.K (W.ca k) (W.fnm f)
  feq : W.fld = I.fld
  finj : ∀ k f g, I.fld k f = true → I.fld k g = true → W.fnm f = W.fnm g → f = g
  fm : ∀ k m f g, I.meth k m = some f → I.fld k g = true → W.fnm g ≠ W.mnm m
  n1 : W.mnm mContains = ("__contains__" : Str)
  n2 : W.mnm mLen = ("__len__" : Str)
  n3 : W.mnm mEq = ("__eq__" : Str)
  n4 : W.mnm mLe = ("__le__" : Str)
  n5 : W.mnm mAnd = ("__and__" : Str)
  n6 : W.mnm mOr = ("__or__" : Str)
  n7 : W.mnm mSub = ("__sub__" : Str)
  n8 : W.mnm mGet = ("__getitem__" : Str)
  n9 : W.mnm mSet = ("__setitem__" : Str)
  n10 : W.mnm mCall = ("__call__" : Str)
  n11 : W.mnm mIor = ("__ior__" : Str)
  dun : ∀ k m f, I.meth k m = some f → m < 20 → W.dun f = true
def CallV (X : Cx) (A : Around) (c : Call) (W : Wd) (Wx : WX) : Prop :=
  ∀ (f : Nat) (pins : List (Addr × Obj)) (s : Shared) (σ : L2.St) (Z : Lv) (ρ : List Addr) (h : AH) (H : Hp) (vs : List V) (ds : List D) (us : List Value) (Q : VK), Inv X pins σ H s → HRel W Z ρ h H → RDs W Z ρ h H vs ds → Vals vs us → W.dun f = true →
    Post (relD W Z) W Wx Z σ ρ h H Q (c f ds h) → wpAny (model X.prog X.w) A (call (.ref (W.fa f)) us) (EP X pins σ Q) X.xe s
structure Cz (X : Cx) (I : Info) (c : Call) (W : Wd) (Wx : WX) : Prop where
  k : X.K = W.K
  fac : Facts I W
  u : X.A.units + 100 < cLine
  calm : X.calm = true
  nd : X.N.Nodup
  call : CallV X X.A c W Wx
  call1 : CallV X X.A.in1 c W Wx
  xe : PassesOwn (model X.prog X.w) X.A X.env X.xe
theorem int2_ok {x y : D} {p : Int × Int} (e : int2 x y = some p) : x = .t (.int p.1) ∧ y = .t (.int p.2) := by
  unfold int2 at e; split at e
  · cases e; exact ⟨rfl, rfl⟩
  · cases e
theorem str2_ok {x y : D} {p : List Nat × List Nat} (e : str2 x y = some p) : x = .t (.str p.1) ∧ y = .t (.str p.2) := by
  unfold str2 at e; split at e
  · cases e; exact ⟨rfl, rfl⟩
  · cases e
theorem tup2_ok {x y : D} {p : List T × List T} (e : tup2 x y = some p) : x = .t (.tup p.1) ∧ y = .t (.tup p.2) := by
  unfold tup2 at e; split at e
  · cases e; exact ⟨rfl, rfl⟩
  · cases e
theorem lst2_ok {h : AH} {x y : D} {p : List D × List D} (e : lst2 h x y = some p) : lstOf h x = some p.1 ∧ lstOf h y = some p.2 := by
  unfold lst2 at e
  split at e
  · cases e; exact ⟨by assumption, by assumption⟩
  · cases e
theorem strOf_ok {x : D} {s : List Nat} (e : strOf x = some s) : x = .t (.str s) := by
  unfold strOf at e; split at e
  · cases e; rfl
  · cases e
theorem intOf_ok {x : D} {s : Int} (e : intOf x = some s) : x = .t (.int s) := by
  unfold intOf at e; split at e
  · cases e; rfl
  · cases e
theorem blOf_ok {x : D} {s : Bool} (e : blOf x = some s) : x = .t (.bl s) := by
  unfold blOf at e; split at e
  · cases e; rfl
  · cases e
theorem tupOf_ok {x : D} {s : List T} (e : tupOf x = some s) : x = .t (.tup s) := by
  unfold tupOf at e; split at e
  · cases e; rfl
  · cases e
theorem seqT_ok {x : T} {s : List T} (e : seqT x = some s) : x = .lst s ∨ x = .tup s := by
  unfold seqT at e; split at e
  · cases e; exact .inl rfl
  · cases e; exact .inr rfl
  · cases e
theorem own1_ok {I : Info} {h : AH} {x : D} {m f : Nat} (e : own1 I h x m = some f) : ∃ a, clsOf h x = some a ∧ I.meth a m = some f := by
  unfold own1 at e; split at e
  · exact ⟨_, by assumption, e⟩
  · cases e
theorem own2_ok {I : Info} {h : AH} {x y : D} {m f : Nat} (e : own2 I h x y m = some f) : ∃ a, clsOf h x = some a ∧ clsOf h y = some a ∧ I.meth a m = some f := by
  unfold own2 at e; split at e
  · rename_i a q
    unfold cls2 at q; split at q
    · rename_i a1 b1 h1 h2
      by_cases c : a1 = b1
      · subst c
        rw [if_pos rfl] at q
        cases q
        exact ⟨_, h1, h2, e⟩
      · rw [if_neg c] at q; cases q
    · cases q
  · cases e
section
variable {W : Wd} {Wx : WX} {Z : Lv} {ρ : List Addr} {h : AH} {H : Hp}
theorem RepD.dctOf {v : V} {d : D} {p : List (List Nat) × List T} (R : HRel W Z ρ h H) (x : RD W Z ρ h H v d) (e : dctOf h d = some p) :
    ∃ a kvs, v = .ref a ∧ Rd H a (.dK kvs) ∧ kvs.map (·.1) = p.1.map kOf ∧ p.1.Nodup ∧ (∀ k ∈ p.1, tOK (sOf k)) ∧ RTs W Z ρ h H (kvs.map (·.2)) p.2 := by
  cases d with
  | t y =>
    cases y with
    | dct ks ts =>
      cases e
      cases x with | t x => cases x with | dct ha n ek nd ok r => exact ⟨_, _, rfl, ha, ek, nd, ok, r⟩
    | _ => cases e
  | r n =>
    cases x with
    | r ea =>
      simp only [Kp.dctOf] at e
      cases q : h[n]? with
      | none => simp only [q] at e; cases e
      | some o =>
        simp only [q] at e
        have ob := R.ob n _ o ea q
        cases o with
        | dct es ts => cases e; obtain ⟨kvs, ha, ek, nd, ok, rs⟩ := ob; exact ⟨_, kvs, rfl, .inl ha, ek, nd, ok, rs⟩
        | _ => cases e
theorem lk_get {ks : List (List Nat)} {ts : List T} {z : List Nat} {x : T} : ∀ {kvs : List (Key × V)} {L : Lv}, kvs.map (·.1) = ks.map kOf → RepTs W L H (kvs.map (·.2)) ts → lk ks ts z = some x → ∃ v, valV kvs (kOf z) = some v ∧ RepT W L H v x := by
  induction ks generalizing ts with
  | nil => intro kvs L ek r e; cases ts <;> cases e
  | cons k ks ih =>
    intro kvs L ek r e
    cases kvs with
    | nil => cases ek
    | cons p kvs =>
      injection ek with e1 e2
      cases r with
      | cons r1 r2 =>
        rename_i t ts
        have e : (if k = z then some t else lk ks ts z) = some x := e
        unfold valV
        rw [List.find?_cons]
        by_cases c : k = z
        · rw [if_pos c] at e
          cases e
          subst c
          rw [show decide (p.1 = kOf k) = true from decide_eq_true e1]
          exact ⟨_, rfl, r1⟩
        · rw [if_neg c] at e
          rw [show decide (p.1 = kOf z) = false from decide_eq_false fun y => c (sOf_inj (Sum.inr.inj (e1.symm.trans y)))]
          exact ih e2 r2 e
theorem mem_keys {ks : List (List Nat)} {z : List Nat} : ∀ {kvs : List (Key × V)}, kvs.map (·.1) = ks.map kOf → (valV kvs (kOf z)).isSome = decide (z ∈ ks) := by
  induction ks with
  | nil => intro kvs ek; cases kvs with | nil => rfl | cons _ _ => cases ek
  | cons k ks ih =>
    intro kvs ek
    cases kvs with
    | nil => cases ek
    | cons p kvs =>
      injection ek with e1 e2
      unfold valV
      rw [List.find?_cons]
      by_cases c : k = z
      · subst c
        rw [show decide (p.1 = kOf k) = true from decide_eq_true e1]
        simp
      · rw [show decide (p.1 = kOf z) = false from decide_eq_false fun y => c (sOf_inj (Sum.inr.inj (e1.symm.trans y)))]
        have := ih e2
        unfold valV at this
        rw [this]
        have : (z ∈ k :: ks) ↔ z ∈ ks := by simp [show z ≠ k from fun y => c y.symm]
        simp [this]
end
section
variable {X : Cx} {I : Info} {c : Call} {W : Wd} {Wx : WX} {Z : Lv} {ρ : List Addr} {h : AH} {H : Hp} {pins : List (Addr × Obj)} {s : Shared} {σ : L2.St} {x y : V} {v u : Value} {dx dy : D} {Q : VK}
theorem Post.fin {Q : VK} {t : T} {v : V} (p : Post (relD W Z) W Wx Z σ ρ h H Q (.ok (.t t) h)) (R : HRel W Z ρ h H) (r : RT W Z ρ h H v t) : Q v H := p ρ v H R (.refl _ _ _) (.t r)
theorem tOK_app {a b : List Nat} (ha : tOK (sOf a)) (hb : tOK (sOf b)) (hl : a.length + b.length ≤ sizeMax) : tOK (sOf (a ++ b)) ∧ sOf a ++ sOf b = sOf (a ++ b) := by
  have e : sOf a ++ sOf b = sOf (a ++ b) := by
    show Str.append _ _ = _
    simp [Str.append, sOf]
  refine ⟨⟨?_, ?_⟩, e⟩
  · have h1 := ha.1
    have h2 := hb.1
    unfold PyData.strOk sOf at *
    simp only [List.all_toArray] at *
    rw [List.all_append, h1, h2]; rfl
  · show (a ++ b).toArray.size ≤ sizeLine
    simp only [List.size_toArray, List.length_append]
    exact hl
theorem arith_val (Y : Cz X I c W Wx) {o : Bop} {i j z : Int} (J : Inv X pins σ H s) (rx : RelV (.int i) v) (ry : RelV (.int j) u) (e : arith o i j = some z) (q : Q (.int z) H) : wpAny (model X.prog X.w) X.A (binaryOp (opr o) v u) (EP X pins σ Q) X.xe s := by
  cases o with
  | add => cases e; exact op_add pins s σ H _ _ v u Q J rx ry ⟨_, _, rfl, rfl, q⟩
  | sub => cases e; exact op_sub pins s σ H _ _ v u Q J rx ry ⟨_, _, rfl, rfl, q⟩
  | mul =>
    simp only [arith] at e
    split at e
    · rename_i k
      cases e
      exact op_mul pins s σ H _ _ v u Q J rx ry ⟨_, _, rfl, rfl, .inl (of_decide_eq_true k), q⟩
    · cases e
  | fdiv =>
    simp only [arith] at e
    split at e
    · rename_i k
      cases e
      have k : j ≠ 0 ∧ j.natAbs < 1073741824 := of_decide_eq_true k
      exact op_fdivN pins s σ H _ _ v u Q J rx ry ⟨_, _, rfl, rfl, k, q⟩
    · cases e
  | mod =>
    simp only [arith] at e
    split at e
    · rename_i k
      cases e
      exact op_modN pins s σ H _ _ v u Q J rx ry ⟨_, _, rfl, rfl, of_decide_eq_true k, q⟩
    · cases e
  | pow =>
    simp only [arith] at e
    split at e
    · rename_i k
      cases e
      have k := of_decide_eq_true k
      exact op_pow pins s σ H _ _ v u Q J rx ry ⟨_, _, rfl, rfl, ⟨k.1, by omega, k.2.2⟩, q⟩
    · cases e
  | band => cases e
  | bor => cases e
theorem Post.frzs {γ δ : Type} {rel' : Rel γ δ} {Q' : δ → Hp → Prop} {ds : List D} {f : List T → AH → R γ} {vs : List V} (R0 : HRel W Z ρ h H) (r : RDs W Z ρ h H vs ds) (p : Post rel' W Wx Z σ ρ h H Q' ((frzsR ds h).bind f)) :
    ∃ ts h', HRel W Z ρ h' H ∧ Ext ρ h H ρ h' H ∧ RTs W Z ρ h' H vs ts ∧ h'.length = h.length ∧ Post rel' W Wx Z σ ρ h' H Q' (f ts h') := by
  unfold frzsR at p
  cases q : frzL (frz 4) ds h with
  | none => rw [q] at p; exact p.elim
  | some e =>
    obtain ⟨ts, h'⟩ := e
    rw [q] at p
    obtain ⟨R1, E1, T1, l1⟩ := frzL_ok (fun h d x h' v => frz_ok 4 h d x h' v) ds h ts h' vs q R0 r
    exact ⟨ts, h', R1, E1, T1, l1, Post.from E1 p⟩
theorem Post.frz1 {γ δ : Type} {rel' : Rel γ δ} {Q' : δ → Hp → Prop} {d : D} {f : T → AH → R γ} {v : V} (R0 : HRel W Z ρ h H) (r : RD W Z ρ h H v d) (p : Post rel' W Wx Z σ ρ h H Q' ((frzR d h).bind f)) :
    ∃ t h', HRel W Z ρ h' H ∧ Ext ρ h H ρ h' H ∧ RT W Z ρ h' H v t ∧ h'.length = h.length ∧ Post rel' W Wx Z σ ρ h' H Q' (f t h') := by
  unfold frzR at p
  cases q : frz 4 d h with
  | none => rw [q] at p; exact p.elim
  | some e =>
    obtain ⟨ts, h'⟩ := e
    rw [q] at p
    obtain ⟨R1, E1, T1, l1⟩ := frz_ok 4 h d ts h' v q R0 r
    exact ⟨ts, h', R1, E1, T1, l1, Post.from E1 p⟩
theorem Post.newL {ts : List T} {vs : List V} (R0 : HRel W Z ρ h H) (r : RTs W Z ρ h H vs ts) (p : Post (relD W Z) W Wx Z σ ρ h H Q (.ok (.t (.lst ts)) h)) : ∀ a, H a = none → Q (.ref a) (upd H a (.lst vs)) := fun a ha => by
  obtain ⟨R1, E1⟩ := R0.new (o := .lst vs) ha
  exact p ρ _ _ R1 E1 (.t (.lst ⟨upd_same, fun l => R0.lv_some l ha⟩ (r.ext E1)))
theorem Post.newT {ts : List T} {vs : List V} (R0 : HRel W Z ρ h H) (r : RTs W Z ρ h H vs ts) (p : Post (relD W Z) W Wx Z σ ρ h H Q (.ok (.t (.tup ts)) h)) : ∀ a, H a = none → Q (.ref a) (upd H a (.tup vs)) := fun a ha => by
  obtain ⟨R1, E1⟩ := R0.new (o := .tup vs) ha
  exact p ρ _ _ R1 E1 (.t (.tup (.inl ⟨upd_same, fun l => R0.lv_some l ha⟩) (r.ext E1)))
theorem Post.liveL {ds : List D} {vs : List V} (R0 : HRel W Z ρ h H) (r : RDs W Z ρ h H vs ds) (p : Post (relD W Z) W Wx Z σ ρ h H Q (.ok (.r h.length) (h ++ [.lst ds]))) : ∀ a, H a = none → Q (.ref a) (upd H a (.lst vs)) := fun a ha => by
  obtain ⟨R1, E1, e1⟩ := R0.alloc (o := .lst vs) (ob := .lst ds) ha (RepDs.refsLt R0 r) (fun z => nomatch z) fun L' s => ⟨vs, upd_same, r.mono s fun n a e => by
    rw [List.getElem?_append_left (List.getElem?_eq_some_iff.mp e).1]; exact e⟩
  exact p _ _ _ R1 E1 (.r e1)
theorem call2 (Y : Cz X I c W Wx) {f : Nat} (J : Inv X pins σ H s) (R0 : HRel W Z ρ h H) (x1 : RD W Z ρ h H x dx) (y1 : RD W Z ρ h H y dy) (rx : RelV x v) (ry : RelV y u) (hdn : W.dun f = true) (p : Post (relD W Z) W Wx Z σ ρ h H Q (c f [dx, dy] h)) :
    wpAny (model X.prog X.w) X.A (call (.ref (W.fa f)) [v, u]) (EP X pins σ Q) X.xe s :=
  Y.call f pins s σ Z ρ h H [x, y] [dx, dy] [v, u] Q J R0 (.cons x1 (.cons y1 .nil)) (.cons rx (.cons ry .nil)) hdn p
theorem inst_at (Y : Cz X I c W Wx) (J : Inv X pins σ H s) {a C dxx : Addr} {fs : List (Str × V)} (ha : H a = some (.ins C dxx fs)) : ∃ od, PySem.W.InstAt s.heap a (PySem.W.instObj C dxx) C (some od) := by
  obtain ⟨mA, O, _⟩ := ins_get J.hok ha
  obtain ⟨od, K1, _⟩ := O.look
  exact ⟨od, K1⟩
theorem kIn' (Y : Cz X I c W Wx) (J : Inv X pins σ H s) : W.K.In X.base := Y.k ▸ J.ok.mod.kin
theorem bin_val (Y : Cz X I c W Wx) {o : Bop} (J : Inv X pins σ H s) (R0 : HRel W Z ρ h H) (x1 : RD W Z ρ h H x dx) (y1 : RD W Z ρ h H y dy) (rx : RelV x v) (ry : RelV y u)
    (p : Post (relD W Z) W Wx Z σ ρ h H Q (binD I c o dx dy h)) : wpAny (model X.prog X.w) X.A (binaryOp (opr o) v u) (EP X pins σ Q) X.xe s := by
  unfold binD at p
  split at p
  · rename_i i j e
    obtain ⟨rfl, rfl⟩ := int2_ok e
    obtain ⟨z, e, p⟩ := p.of
    obtain ⟨z', e', rfl⟩ := Option.map_eq_some_iff.mp e
    cases x1.int
    cases y1.int
    exact arith_val Y J rx ry e' (p.fin R0 (.int _))
  · split at p
    · rename_i e
      obtain ⟨rfl, rfl⟩ := str2_ok e
      split at p
      · rename_i k
        obtain ⟨rfl, k⟩ := k
        obtain ⟨rfl, o1⟩ := x1.str
        obtain ⟨rfl, o2⟩ := y1.str
        have q := tOK_app o1 o2 k
        refine op_add_str pins s σ H _ _ v u Q J rx ry ⟨_, _, rfl, rfl, ?_, ?_⟩
        · show (List.toArray _).size + (List.toArray _).size ≤ sizeLine
          simp only [List.size_toArray]; exact k
        · rw [q.2]; exact p.fin R0 (.str _ q.1)
      · exact p.elim
    · split at p
      · rename_i e
        obtain ⟨rfl, rfl⟩ := tup2_ok e
        split at p
        · rename_i xs ys _ k
          obtain ⟨rfl, k⟩ := k
          obtain ⟨a, vs, rfl, p1, r1⟩ := x1.tup
          obtain ⟨b, ws, rfl, p2, r2⟩ := y1.tup
          refine op_catA pins s σ H _ _ v u Q J rx ry ⟨a, b, vs, ws, rfl, rfl, Y.k ▸ p1.sq, Y.k ▸ p2.sq, by rw [r1.length, r2.length]; exact k, fun e => ?_, fun n e => ?_, fun n1 n2 => ?_⟩
          · subst e; cases r1; exact p.fin R0 (.tup p2 r2)
          · subst e; cases r2; simp only [List.append_nil] at p; exact p.fin R0 (.tup p1 r1)
          · exact Post.newT R0 (r1.append r2) p
        · exact p.elim
      · split at p
        · rename_i e
          obtain ⟨e1, e2⟩ := lst2_ok e
          split at p
          · rename_i xs ys _ k
            obtain ⟨rfl, k⟩ := k
            obtain ⟨a, vs, rfl, p1, r1⟩ := x1.lstOf R0 e1
            obtain ⟨b, ws, rfl, p2, r2⟩ := y1.lstOf R0 e2
            obtain ⟨ts, h', R1, E1, T1, _, p⟩ := Post.frzs R0 (r1.append r2) p
            exact op_cat pins s σ H _ _ v u Q J rx ry ⟨a, b, vs, ws, rfl, rfl, p1, p2, by rw [r1.length, r2.length]; exact k, Post.newL R1 T1 p⟩
          · exact p.elim
        · split at p
          · rename_i m em
            split at p
            · rename_i f ef
              obtain ⟨k, k1, k2, kf⟩ := own2_ok ef
              obtain ⟨a, d1, f1, rfl, ha, _⟩ := x1.insOf R0 k1
              obtain ⟨b, d2, f2, rfl, hb, _⟩ := y1.insOf R0 k2
              have rx0 := rx
              have ry0 := ry
              obtain rfl : v = .ref a := rx
              obtain rfl : u = .ref b := ry
              obtain ⟨M, CF, _⟩ := Y.fac.meth k m f kf
              obtain ⟨od, J1⟩ := inst_at Y J ha
              obtain ⟨od2, J2⟩ := inst_at Y J hb
              obtain ⟨mm, hF⟩ := J.fr
              have hn : W.mnm m = PySem.dunder (opr o).info.2 := by
                cases o <;> cases em
                · rw [Y.fac.n7]; decide +kernel
                · rw [Y.fac.n5]; decide +kernel
                · rw [Y.fac.n6]; decide +kernel
              refine PySem.W.binop_K hF (kIn' Y J) J1 J2.type CF.sf (hn ▸ M.at_) M.fn ?_
              exact wpAny_mono (call2 Y J R0 x1 y1 rx0 ry0 (Y.fac.dun k m f kf (by cases o <;> cases em <;> decide)) p) (fun w s' ⟨z, H', I', rz, qz⟩ => SlX.cmpback rz ⟨z, H', I', rz, qz⟩) fun _ _ e => e
            · exact p.elim
          · exact p.elim
end
end Kp
set_option autoImplicit false
set_option maxRecDepth 10000
set_option maxHeartbeats 1000000
namespace Kp
open PySem L2
section
variable {X : Cx} {I : Info} {c : Call} {W : Wd} {Wx : WX} {Z : Lv} {ρ : List Addr} {h : AH} {H : Hp} {pins : List (Addr × Obj)} {s : Shared} {σ : L2.St} {x y : V} {v u : Value} {dx dy : D} {Q : VK}
theorem any_eqv (tx : T) (p : plain deep tx = true) : ∀ (ts : List T), ts.all (plain deep) = true → ((pdOfs ts).any fun z => PyData.eqv z (pdOf tx)) = ts.any fun z => eqT z tx
  | [], _ => rfl
  | t :: ts, q => by
    rw [pdOfs, List.any_cons, List.any_cons, eqv_eqT deep deep t tx (all_cons q).1 p, any_eqv tx p ts (all_cons q).2]
theorem pdOfs_depth {ts : List T} (q : ts.all (plain deep) = true) : PyData.depthAll (pdOfs ts) ≤ 41 := plain_depths deep ts q
theorem in_val (Y : Cz X I c W Wx) (neg : Bool) {Q' : Bool → Hp → Prop} (J : Inv X pins σ H s) (R0 : HRel W Z ρ h H) (x1 : RD W Z ρ h H x dx) (y1 : RD W Z ρ h H y dy) (rx : RelV x v) (ry : RelV y u)
    (p : Post (fun _ _ _ (b : Bool) b' => b = b') W Wx Z σ ρ h H Q' (inD I c dx dy h)) : wpAny (model X.prog X.w) X.A (compareOp (if neg then .NotIn else .In) v u) (fun r s' => ∃ b H', r = .bool (if neg then !b else b) ∧ Inv X pins σ H' s' ∧ Q' b H') X.xe s := by
  unfold inD at p
  split at p
  · rename_i f ef
    obtain ⟨k, k1, kf⟩ := own1_ok ef
    obtain ⟨b, d2, f2, rfl, hb, _⟩ := y1.insOf R0 k1
    have ry0 := ry
    obtain rfl : u = .ref b := ry
    obtain ⟨M, CF, _⟩ := Y.fac.meth k mContains f kf
    obtain ⟨od, J1⟩ := inst_at Y J hb
    obtain ⟨mm, hF⟩ := J.fr
    have p2 : Post (relD W Z) W Wx Z σ ρ h H (fun z H' => ∃ b, z = V.bl b ∧ Q' b H') (c f [dy, dx] h) := p.bind fun d h' ρ' v' H' _ R' E' r' q => by
      obtain ⟨b, eb, q⟩ := q.of
      cases blOf_ok eb
      exact ⟨b, r'.bl, q ρ' b H' R' (.refl _ _ _) rfl⟩
    have kk := call2 Y (Q := fun z H' => ∃ b, z = V.bl b ∧ Q' b H') J R0 y1 x1 ry0 rx (Y.fac.dun k _ f kf (by decide)) p2
    have fin : ∀ (w : Value) (s' : Shared), EP X pins σ (fun z H' => ∃ b, z = V.bl b ∧ Q' b H') w s' → ∃ b, w = .bool b ∧ ∃ H', Inv X pins σ H' s' ∧ Q' b H' := fun w s' ⟨z, H', I', rz, b, ez, qz⟩ => by
      subst ez; exact ⟨b, rz, H', I', qz⟩
    cases neg with
    | true =>
      refine PySem.W.notIn_K hF (kIn' Y J) J1 (Y.fac.n1 ▸ M.at_) M.fn (wpAny_mono kk (fun w s' z => ?_) fun _ _ e => e)
      obtain ⟨b, rfl, H', I', qz⟩ := fin w s' z
      exact wpAny_truthy_bool ⟨b, H', rfl, I', qz⟩
    | false =>
      refine PySem.W.in_K hF (kIn' Y J) J1 (Y.fac.n1 ▸ M.at_) M.fn (wpAny_mono kk (fun w s' z => ?_) fun _ _ e => e)
      obtain ⟨b, rfl, H', I', qz⟩ := fin w s' z
      exact wpAny_truthy_bool ⟨b, H', rfl, I', qz⟩
  · split at p
    · rename_i t et
      cases strOf_ok et
      split at p
      · rename_i z ez
        cases strOf_ok ez
        obtain ⟨rfl, o1⟩ := x1.str
        obtain ⟨rfl, o2⟩ := y1.str
        have q := p ρ _ H R0 (.refl _ _ _) rfl
        have e1 : (sOf t).cps.toList = t := cps_sOf t
        cases neg with
        | true =>
          have := op_notIn_sign (X := X) pins s σ H _ _ v u (fun r H' => ∃ b, r = .bl (!b) ∧ Q' b H') J rx ry ⟨z, sOf t, rfl, rfl, by rw [e1]; exact ⟨_, rfl, q⟩⟩
          exact wpAny_mono this (fun w s' ⟨zz, H', I', rz, b, ez, qz⟩ => by subst ez; exact ⟨b, H', rz, I', qz⟩) fun _ _ e => e
        | false =>
          have := op_in_sign (X := X) pins s σ H _ _ v u (fun r H' => ∃ b, r = .bl b ∧ Q' b H') J rx ry ⟨z, sOf t, rfl, rfl, by rw [e1]; exact ⟨_, rfl, q⟩⟩
          exact wpAny_mono this (fun w s' ⟨zz, H', I', rz, b, ez, qz⟩ => by subst ez; exact ⟨b, H', rz, I', qz⟩) fun _ _ e => e
      · exact p.elim
    · split at p
      · rename_i ks vs ed
        obtain ⟨b, ez, p⟩ := p.of
        obtain ⟨z, ez2, rfl⟩ := Option.map_eq_some_iff.mp ez
        cases strOf_ok ez2
        obtain ⟨rfl, o1⟩ := x1.str
        obtain ⟨a, kvs, rfl, hd, ek, _⟩ := y1.dctOf R0 ed
        obtain rfl : u = .ref a := ry
        have q := p ρ _ H R0 (.refl _ _ _) rfl
        have g : DGet H a (.str (sOf z)) (valV kvs (kOf z)) := .inl ⟨kvs, kOf z, hd, rfl, rfl⟩
        have hu : X.A.units + 1 < cLine := by have := Y.u; omega
        cases neg with
        | true => exact d_notIn hu J g rx fun s' I' => ⟨_, H, by rw [mem_keys ek]; rfl, I', q⟩
        | false => exact d_in hu J g rx fun s' I' => ⟨_, H, by rw [mem_keys ek]; rfl, I', q⟩
      · split at p
        · rename_i tx ty e1 e2
          split at p
          · rename_i ts et
            split at p
            · rename_i k
              obtain ⟨k1, k2⟩ := Bool.and_eq_true_iff.mp k
              have q := p ρ _ H R0 (.refl _ _ _) rfl
              have d1 := snap_ok R0 3 dx tx x e1 x1
              have d2 := snap_ok R0 4 dy ty y e2 y1
              obtain ⟨as, r1⟩ := Dp.reads J _ x v (by rw [Y.k]; exact d1.dp k1) rx
              have hx := d1.lay k1
              have dep : X.A.units + 1 + min (PyData.depthAll (pdOfs ts)) (pdOf tx).depth < cLine := by
                have := pdOfs_depth k2
                have := Y.u
                omega
              rcases seqT_ok et with rfl | rfl
              · have k3 : plain (deep + 1) (.lst ts) = true := k2
                obtain ⟨bs, r2⟩ := Dp.reads J _ y u (by rw [Y.k]; exact d2.dp k3) ry
                have hy : PyData.canLayAll0 (pdOfs ts) = true := by have := d2.lay k3; rwa [pdOf, PyData.canLay0] at this
                cases neg with
                | true => exact SeqAt.notIn_list_reads r2 r1 hy hx dep ⟨_, H, by rw [any_eqv tx k1 ts k2]; rfl, J, q⟩
                | false => exact SeqAt.in_list_reads r2 r1 hy hx dep ⟨_, H, by rw [any_eqv tx k1 ts k2]; rfl, J, q⟩
              · have k3 : plain (deep + 1) (.tup ts) = true := k2
                obtain ⟨bs, r2⟩ := Dp.reads J _ y u (by rw [Y.k]; exact d2.dp k3) ry
                have hy : PyData.canLayAll0 (pdOfs ts) = true := by have := d2.lay k3; rwa [pdOf, PyData.canLay0] at this
                cases neg with
                | true => exact SeqAt.notIn_tuple_reads r2 r1 hy hx dep ⟨_, H, by rw [any_eqv tx k1 ts k2]; rfl, J, q⟩
                | false => exact SeqAt.in_tuple_reads r2 r1 hy hx dep ⟨_, H, by rw [any_eqv tx k1 ts k2]; rfl, J, q⟩
            · exact p.elim
          · exact p.elim
        · exact p.elim
theorem eq_val (Y : Cz X I c W Wx) (neg : Bool) {Q' : Bool → Hp → Prop} (J : Inv X pins σ H s) (R0 : HRel W Z ρ h H) (x1 : RD W Z ρ h H x dx) (y1 : RD W Z ρ h H y dy) (rx : RelV x v) (ry : RelV y u)
    (p : Post (fun _ _ _ (b : Bool) b' => b = b') W Wx Z σ ρ h H Q' (eqD I c dx dy h)) (hneg : neg = true → own2 I h dx dy mEq = none) :
    wpAny (model X.prog X.w) X.A (compareOp (if neg then .NotEq else .Eq) v u) (fun r s' => ∃ b H', r = .bool (if neg then !b else b) ∧ Inv X pins σ H' s' ∧ Q' b H') X.xe s := by
  unfold eqD at p
  split at p
  · rename_i f ef
    cases neg with
    | true => rw [hneg rfl] at ef; cases ef
    | false =>
      obtain ⟨k, k1, k2, kf⟩ := own2_ok ef
      obtain ⟨a, d1, f1, rfl, ha, _⟩ := x1.insOf R0 k1
      obtain ⟨b, d2, f2, rfl, hb, _⟩ := y1.insOf R0 k2
      have rx0 := rx
      have ry0 := ry
      obtain rfl : v = .ref a := rx
      obtain rfl : u = .ref b := ry
      obtain ⟨M, CF, _⟩ := Y.fac.meth k mEq f kf
      obtain ⟨od, J1⟩ := inst_at Y J ha
      obtain ⟨od2, J2⟩ := inst_at Y J hb
      obtain ⟨mm, hF⟩ := J.fr
      have p2 : Post (relD W Z) W Wx Z σ ρ h H (fun z H' => ∃ b, z = V.bl b ∧ Q' b H') (c f [dx, dy] h) := p.bind fun d h' ρ' v' H' _ R' E' r' q => by
        obtain ⟨b, eb, q⟩ := q.of
        cases blOf_ok eb
        exact ⟨b, r'.bl, q ρ' b H' R' (.refl _ _ _) rfl⟩
      refine PySem.W.cmp_K (op := .Eq) (by have := Y.u; omega) hF (kIn' Y J) J1 J2.type CF.nf ((show W.mnm mEq = (cmpInfo .Eq).2.1 by rw [Y.fac.n3]; decide +kernel) ▸ M.at_) M.fn ?_
      refine wpAny_mono (call2 Y (Q := fun z H' => ∃ b, z = V.bl b ∧ Q' b H') J R0 x1 y1 rx0 ry0 (Y.fac.dun k _ f kf (by decide)) p2) (fun w s' ⟨z, H', I', rz, b, ez, qz⟩ => ?_) fun _ _ e => e
      subst ez
      exact SlX.cmpback (z := .bl b) rz ⟨b, H', rz, I', qz⟩
  · split at p
    · rename_i tx ty e1 e2
      split at p
      · rename_i k
        obtain ⟨k1, k2⟩ := Bool.and_eq_true_iff.mp k
        have q := p ρ _ H R0 (.refl _ _ _) rfl
        have d1 := snap_ok R0 4 dx tx x e1 x1
        have d2 := snap_ok R0 4 dy ty y e2 y1
        have hu : X.A.units + 64 < cLine := by have := Y.u; omega
        cases neg with
        | true =>
          have := op_neD hu pins s σ H x y v u (fun r H' => ∃ b, r = .bl (!b) ∧ Q' b H') J rx ry ⟨_, _, by rw [Y.k]; exact d1.dp k1, by rw [Y.k]; exact d2.dp k2, d1.shaped k1, d2.shaped k2, _, rfl, by rw [eqv_eqT deep deep tx ty k1 k2]; exact q⟩
          exact wpAny_mono this (fun w s' ⟨zz, H', I', rz, b, ez, qz⟩ => by subst ez; exact ⟨b, H', rz, I', qz⟩) fun _ _ e => e
        | false =>
          have := op_eqD hu pins s σ H x y v u (fun r H' => ∃ b, r = .bl b ∧ Q' b H') J rx ry ⟨_, _, by rw [Y.k]; exact d1.dp k1, by rw [Y.k]; exact d2.dp k2, d1.shaped k1, d2.shaped k2, _, rfl, by rw [eqv_eqT deep deep tx ty k1 k2]; exact q⟩
          exact wpAny_mono this (fun w s' ⟨zz, H', I', rz, b, ez, qz⟩ => by subst ez; exact ⟨b, H', rz, I', qz⟩) fun _ _ e => e
      · exact p.elim
    · exact p.elim
theorem isD_ok (neg : Bool) {b : Bool} (J : Inv X pins σ H s) (x1 : RD W Z ρ h H x dx) (y1 : RD W Z ρ h H y dy) (rx : RelV x v) (ry : RelV y u) (e : isD dx dy = some b) {Q : VK} (q : Q (.bl (if neg then !b else b)) H) :
    wpAny (model X.prog X.w) X.A (compareOp (if neg then .IsNot else .Is) v u) (EP X pins σ Q) X.xe s := by
  unfold isD at e
  split at e
  · cases e
    cases y1.non
    have en : isN dx = decide (x = .non) := by
      cases x1 with
      | t z => cases z <;> rfl
      | r z => rfl
    rw [en] at q
    cases neg with
    | true => exact op_notN pins s σ H x _ v u Q J rx ry ⟨rfl, q⟩
    | false => exact op_isN pins s σ H x _ v u Q J rx ry ⟨rfl, q⟩
  · cases e
    cases y1.bl
    cases x1.bl
    cases neg with
    | true => exact op_isnot_bl pins s σ H _ _ v u Q J rx ry ⟨_, _, rfl, rfl, q⟩
    | false => exact op_is_bl pins s σ H _ _ v u Q J rx ry ⟨_, _, rfl, rfl, q⟩
  · cases e
theorem intsT_ok : ∀ {ts : List T} {ns : List Int}, intsT ts = some ns → ts = ns.map T.int
  | [], ns, e => by cases e; rfl
  | .int x :: ts, ns, e => by
    unfold intsT at e
    split at e
    · rename_i r q
      cases e
      rw [intsT_ok q]; rfl
    · cases e
  | .non :: _, _, e => by cases e
  | .bl _ :: _, _, e => by cases e
  | .str _ :: _, _, e => by cases e
  | .tup _ :: _, _, e => by cases e
  | .lst _ :: _, _, e => by cases e
  | .ro _ :: _, _, e => by cases e
  | .dct _ _ :: _, _, e => by cases e
  | .ins _ _ _ :: _, _, e => by cases e
theorem reps_ints {L : Lv} : ∀ {vs : List V} {ns : List Int}, RepTs W L H vs (ns.map T.int) → vs = ns.map V.int
  | _, [], .nil => rfl
  | _, n :: ns, .cons a b => by
    cases a
    rw [reps_ints b]; rfl
theorem ltI_eq : ∀ (a b : List Int), ltI a b = HT.lexLt a b
  | [], [] => rfl
  | [], _ :: _ => rfl
  | _ :: _, [] => rfl
  | x :: xs, y :: ys => by
    unfold ltI HT.lexLt
    rw [ltI_eq xs ys]
theorem cmp_val (Y : Cz X I c W Wx) {o : Cop} (J : Inv X pins σ H s) (R0 : HRel W Z ρ h H) (x1 : RD W Z ρ h H x dx) (y1 : RD W Z ρ h H y dy) (rx : RelV x v) (ry : RelV y u)
    (p0 : Post (relD W Z) W Wx Z σ ρ h H Q (cmpD I c o dx dy h)) : wpAny (model X.prog X.w) X.A (compareOp (copr o) v u) (EP X pins σ Q) X.xe s := by
  have hin : ∀ neg : Bool, Post (relD W Z) W Wx Z σ ρ h H Q ((inD I c dx dy h).bind fun b h => .ok (bD (if neg then !b else b)) h) → wpAny (model X.prog X.w) X.A (compareOp (if neg then .NotIn else .In) v u) (EP X pins σ Q) X.xe s := fun neg p => by
    have p2 : Post (fun _ _ _ (b : Bool) b' => b = b') W Wx Z σ ρ h H (fun b H' => Q (.bl (if neg then !b else b)) H') (inD I c dx dy h) := p.bind fun b h' ρ' b' H' _ R' E' r' q => by
      subst r'; exact q ρ' _ H' R' (.refl _ _ _) (.t (.bl _))
    exact wpAny_mono (in_val Y neg J R0 x1 y1 rx ry p2) (fun r s' ⟨b, H', e, I', q⟩ => ⟨.bl _, H', I', e, q⟩) fun _ _ e => e
  have heq : ∀ neg : Bool, (neg = true → own2 I h dx dy mEq = none) → Post (relD W Z) W Wx Z σ ρ h H Q ((eqD I c dx dy h).bind fun b h => .ok (bD (if neg then !b else b)) h) → wpAny (model X.prog X.w) X.A (compareOp (if neg then .NotEq else .Eq) v u) (EP X pins σ Q) X.xe s := fun neg hn p => by
    have p2 : Post (fun _ _ _ (b : Bool) b' => b = b') W Wx Z σ ρ h H (fun b H' => Q (.bl (if neg then !b else b)) H') (eqD I c dx dy h) := p.bind fun b h' ρ' b' H' _ R' E' r' q => by
      subst r'; exact q ρ' _ H' R' (.refl _ _ _) (.t (.bl _))
    exact wpAny_mono (eq_val Y neg J R0 x1 y1 rx ry p2 hn) (fun r s' ⟨b, H', e, I', q⟩ => ⟨.bl _, H', I', e, q⟩) fun _ _ e => e
  have hcmp : ∀ (_ : o = .lt ∨ o = .le ∨ o = .gt ∨ o = .ge), Post (relD W Z) W Wx Z σ ρ h H Q (match int2 dx dy with
    | some (i, j) => R.of ((cmpI o i j).map bD) h
    | none =>
      match tup2 dx dy with
      | some (xs, ys) => match intsT xs, intsT ys with
        | some ns, some ms => if o = .lt then .ok (bD (ltI ns ms)) h else .no
        | _, _ => .no
      | none =>
        match own2 I h dx dy mLe with
        | some f => if o = .le then c f [dx, dy] h else .no
        | none => .no) → wpAny (model X.prog X.w) X.A (compareOp (copr o) v u) (EP X pins σ Q) X.xe s := fun ho p => by
    clear p0 hin heq
    split at p
    · rename_i i j e
      obtain ⟨rfl, rfl⟩ := int2_ok e
      obtain ⟨z, e, p⟩ := p.of
      obtain ⟨z', e', rfl⟩ := Option.map_eq_some_iff.mp e
      cases x1.int
      cases y1.int
      have q : Q (.bl z') H := p.fin R0 (.bl _)
      rcases ho with rfl | rfl | rfl | rfl
      · cases e'; exact op_lt pins s σ H _ _ v u Q J rx ry ⟨_, _, rfl, rfl, q⟩
      · cases e'; exact op_le pins s σ H _ _ v u Q J rx ry ⟨_, _, rfl, rfl, q⟩
      · cases e'; exact op_gt pins s σ H _ _ v u Q J rx ry ⟨_, _, rfl, rfl, q⟩
      · cases e'; exact op_ge pins s σ H _ _ v u Q J rx ry ⟨_, _, rfl, rfl, q⟩
    · split at p
      · rename_i xs ys e
        obtain ⟨rfl, rfl⟩ := tup2_ok e
        split at p
        · rename_i ns ms e1 e2
          split at p
          · rename_i ho; subst ho
            cases intsT_ok e1
            cases intsT_ok e2
            obtain ⟨a, vs, rfl, p1, r1⟩ := x1.tup
            obtain ⟨b, ws, rfl, p2, r2⟩ := y1.tup
            have q : Q (.bl (ltI ns ms)) H := p.fin R0 (.bl _)
            exact op_ltT (by have := Y.u; omega) pins s σ H _ _ v u Q J rx ry ⟨a, b, ns, ms, rfl, rfl, by rw [Y.k, ← reps_ints r1]; exact p1.sq, by rw [Y.k, ← reps_ints r2]; exact p2.sq, by rw [← ltI_eq]; exact q⟩
          · exact p.elim
        · exact p.elim
      · split at p
        · rename_i f ef
          split at p
          · rename_i ho; subst ho
            obtain ⟨k, k1, k2, kf⟩ := own2_ok ef
            obtain ⟨a, d1, f1, rfl, ha, _⟩ := x1.insOf R0 k1
            obtain ⟨b, d2, f2, rfl, hb, _⟩ := y1.insOf R0 k2
            have rx0 := rx
            have ry0 := ry
            obtain rfl : v = .ref a := rx
            obtain rfl : u = .ref b := ry
            obtain ⟨M, CF, _⟩ := Y.fac.meth k mLe f kf
            obtain ⟨od, J1⟩ := inst_at Y J ha
            obtain ⟨od2, J2⟩ := inst_at Y J hb
            obtain ⟨mm, hF⟩ := J.fr
            refine PySem.W.cmp_K (op := .LtE) (by have := Y.u; omega) hF (kIn' Y J) J1 J2.type CF.nf ((show W.mnm mLe = (cmpInfo .LtE).2.1 by rw [Y.fac.n4]; decide +kernel) ▸ M.at_) M.fn ?_
            exact wpAny_mono (call2 Y J R0 x1 y1 rx0 ry0 (Y.fac.dun k _ f kf (by decide)) p) (fun w s' ⟨z, H', I', rz, qz⟩ => SlX.cmpback rz ⟨z, H', I', rz, qz⟩) fun _ _ e => e
          · exact p.elim
        · exact p.elim
  cases o with
  | eq => exact heq false (fun z => nomatch z) p0
  | ne =>
    have p : Post (relD W Z) W Wx Z σ ρ h H Q (if (own2 I h dx dy mEq).isSome then .no else (eqD I c dx dy h).bind fun b h => .ok (bD (!b)) h) := p0
    split at p
    · exact p.elim
    · rename_i k
      exact heq true (fun _ => by simpa using k) p
  | isin => exact hin false p0
  | notin => exact hin true p0
  | isN =>
    obtain ⟨z, e, p⟩ := Post.of (show Post (relD W Z) W Wx Z σ ρ h H Q (R.of ((isD dx dy).map bD) h) from p0)
    obtain ⟨b, e1, rfl⟩ := Option.map_eq_some_iff.mp e
    exact isD_ok false J x1 y1 rx ry e1 (p.fin R0 (.bl _))
  | isnot =>
    obtain ⟨z, e, p⟩ := Post.of (show Post (relD W Z) W Wx Z σ ρ h H Q (R.of ((isD dx dy).map fun b => bD (!b)) h) from p0)
    obtain ⟨b, e1, rfl⟩ := Option.map_eq_some_iff.mp e
    exact isD_ok true J x1 y1 rx ry e1 (p.fin R0 (.bl _))
  | lt => exact hcmp (.inl rfl) p0
  | le => exact hcmp (.inr (.inl rfl)) p0
  | gt => exact hcmp (.inr (.inr (.inl rfl))) p0
  | ge => exact hcmp (.inr (.inr (.inr rfl))) p0
end
end Kp
set_option autoImplicit false
set_option maxRecDepth 10000
set_option maxHeartbeats 1000000
namespace Kp
open PySem L2
theorem place_ix {α : Type} {xs : List α} {i : Int} {k : Nat} (e : place xs.length i = some k) : atI xs i = xs[k]? := by
  have : ixN xs.length i = some k := by
    unfold place at e
    unfold ixN
    by_cases c : 0 ≤ i
    · rw [if_pos c] at e ⊢; exact e
    · rw [if_neg c] at e ⊢
      by_cases d : 0 ≤ i + (xs.length : Int)
      · rw [if_pos d] at e; rw [if_pos (by omega)]; exact e
      · rw [if_neg d] at e; cases e
  unfold atI
  rw [this]; rfl
theorem clip_six (n d : Nat) (o : Option Int) : HT.sIx n d o = clipO n d o := by
  cases o with
  | none => rfl
  | some v =>
    show (if v < 0 then (v + (n : Int)).toNat else min v.toNat n) = clip n v
    unfold clip
    by_cases c : v < 0
    · rw [if_pos c, if_neg (by omega)]
    · rw [if_neg c, if_pos (by omega)]
theorem cut_eq {α : Type} (xs : List α) (lo hi : Option Int) : cut xs lo hi = (xs.drop (HT.sIx xs.length 0 lo)).take (HT.sIx xs.length xs.length hi - HT.sIx xs.length 0 lo) := by
  unfold cut
  rw [clip_six, clip_six, List.drop_take]
theorem cut_cutV (xs : List V) (lo hi : Option Int) : cut xs lo hi = cutV xs lo hi := cut_eq xs lo hi
theorem cut_whole {α : Type} {xs : List α} {lo hi : Option Int} (h : HT.sIx xs.length 0 lo = 0 ∧ HT.sIx xs.length xs.length hi = xs.length) : cut xs lo hi = xs := by
  rw [cut_eq, h.1, h.2]; simp
section
variable {W : Wd} {L : Lv} {H : Hp} {ρ : List Addr}
theorem RepTs.cut {vs : List V} {ts : List T} (r : RepTs W L H vs ts) (lo hi : Option Int) : RepTs W L H (Kp.cut vs lo hi) (Kp.cut ts lo hi) := by
  unfold Kp.cut
  rw [r.length]
  exact (r.take _).drop _
theorem RepDs.cut {vs : List V} {ts : List D} (r : RepDs W ρ L H vs ts) (lo hi : Option Int) : RepDs W ρ L H (Kp.cut vs lo hi) (Kp.cut ts lo hi) := by
  unfold Kp.cut
  rw [r.length]
  exact (r.take _).drop _
end
theorem all_sub {α : Type} {p : α → Bool} {xs : List α} (h : xs.all p = true) (a b : Nat) : ((xs.take a).drop b).all p = true := by
  rw [List.all_eq_true] at *
  exact fun x hx => h x (List.mem_of_mem_take (List.mem_of_mem_drop hx))
theorem tOK_cut {z : List Nat} (h : tOK (sOf z)) (lo hi : Option Int) : tOK (sOf (cut z lo hi)) ∧ cutS (sOf z) lo hi = sOf (cut z lo hi) := by
  refine ⟨⟨?_, ?_⟩, ?_⟩
  · have h1 := h.1
    unfold PyData.strOk sOf at *
    simp only [List.all_toArray] at *
    unfold cut
    exact all_sub h1 _ _
  · have h2 : (sOf z).length ≤ sizeLine := h.2
    have e : (sOf z).length = z.length := by show z.toArray.size = z.length; simp
    show (cut z lo hi).toArray.size ≤ sizeLine
    rw [List.size_toArray]
    unfold cut
    simp only [List.length_drop, List.length_take]
    omega
  · have e : (sOf z).length = z.length := by show z.toArray.size = z.length; simp
    unfold cutS
    rw [cps_sOf, e, ← cut_eq]; rfl
section
variable {X : Cx} {I : Info} {c : Call} {W : Wd} {Wx : WX} {Z : Lv} {ρ : List Addr} {h : AH} {H : Hp} {pins : List (Addr × Obj)} {s : Shared} {σ : L2.St} {x y : V} {v u : Value} {dx dy : D} {Q : VK}
theorem idx_val (Y : Cz X I c W Wx) {value slice : Expr} (hs : NoSl slice) (hs2 : ∀ o i, subscripted slice true o i = runValue (.builtin "lifetime.subscript" ⟨[o, i], []⟩)) (J : Inv X pins σ H s) (R0 : HRel W Z ρ h H) (x1 : RD W Z ρ h H x dx) (y1 : RD W Z ρ h H y dy) (rx : RelV x v) (ry : RelV y u)
    (p : Post (relD W Z) W Wx Z σ ρ h H Q (idxD I c dx dy h)) : wpAny (model X.prog X.w) X.A (PyProof.Rows.subscriptTail value slice v u) (EP X pins σ Q) X.xe s := by
  unfold idxD at p
  split at p
  · rename_i f ef
    obtain ⟨k, k1, kf⟩ := own1_ok ef
    obtain ⟨b, d2, f2, rfl, hb, _⟩ := x1.insOf R0 k1
    have rx0 := rx
    obtain rfl : v = .ref b := rx
    obtain ⟨M, CF, kfn⟩ := Y.fac.meth k mGet f kf
    obtain ⟨od, J1⟩ := inst_at Y J hb
    obtain ⟨mm, hF⟩ := J.fr
    exact PySem.W.sub_K hF (kIn' Y J) J1 (Y.fac.n8 ▸ M.at_) kfn M.fn (Y.call1 f pins s σ Z ρ h H [_, y] [dx, dy] [_, u] Q J R0 (.cons x1 (.cons y1 .nil)) (.cons rx0 (.cons ry .nil)) (Y.fac.dun k _ f kf (by decide)) p) (hs2 _ _)
  · split at p
    · rename_i ks vs ed
      split at p
      · rename_i z ez
        cases strOf_ok ez
        obtain ⟨t, e, p⟩ := p.of
        obtain ⟨t', e', rfl⟩ := Option.map_eq_some_iff.mp e
        obtain ⟨rfl, o1⟩ := y1.str
        obtain ⟨a, kvs, rfl, hd, ek, _, _, rts⟩ := x1.dctOf R0 ed
        obtain rfl : v = .ref a := rx
        obtain ⟨w, ew, rw_⟩ := lk_get ek rts e'
        have g : DGet H a (.str (sOf z)) (some w) := .inl ⟨kvs, kOf z, hd, rfl, ew.symm⟩
        have hu : X.A.units + 1 < cLine := by have := Y.u; omega
        exact PyProof.Rows.tail_any (dict_typeIs J g) PySem.F.slot_dict_getitem.lookup (d_getItem hu J g ry fun w' s3 I3 rw' => ⟨w, H, I3, rw', p.fin R0 rw_⟩) (hs _ _)
      · exact p.elim
    · split at p
      · rename_i i ei
        cases intOf_ok ei
        cases y1.int
        split at p
        · rename_i ds es
          split at p
          · rename_i n en
            obtain ⟨d, ed, p⟩ := p.of
            obtain ⟨a, vs, rfl, hsq, rds⟩ := x1.seqOf R0 es
            obtain ⟨w, ew, rw_⟩ := rds.get ed
            have ea : atI vs i = some w := by
              have en' : place vs.length i = some n := by rw [rds.length]; exact en
              rw [place_ix en']; exact ew
            have q := p ρ w H R0 (.refl _ _ _) rw_
            rcases hsq with hsq | hsq
            · exact ix_list value slice pins s σ H _ _ v u Q J rx ry ⟨a, vs, i, w, rfl, rfl, Y.k ▸ hsq, ea, q⟩ (hs _ _)
            · exact ix_tup value slice pins s σ H _ _ v u Q J rx ry ⟨a, vs, i, w, rfl, rfl, Y.k ▸ hsq, ea, q⟩ (hs _ _)
          · exact p.elim
        · split at p
          · rename_i z ez
            cases strOf_ok ez
            split at p
            · rename_i n en
              obtain ⟨d, ed, p⟩ := p.of
              obtain ⟨d', ed', rfl⟩ := Option.map_eq_some_iff.mp ed
              obtain ⟨rfl, o1⟩ := x1.str
              refine ix_str value slice pins s σ H _ _ v u Q J rx ry ⟨sOf z, i, d', rfl, rfl, o1.2, ?_, ?_⟩ (hs _ _)
              · rw [cps_sOf, place_ix en]; exact ed'
              · refine p.fin R0 (.str [d'] ⟨?_, ?_⟩)
                · have h1 := o1.1
                  unfold PyData.strOk sOf at *
                  simp only [List.all_toArray] at *
                  simp only [List.all_cons, List.all_nil, Bool.and_true]
                  exact List.all_eq_true.mp h1 d' (List.mem_of_getElem? ed')
                · show ([d'] : List Nat).toArray.size ≤ sizeLine
                  simp [sizeLine]
            · exact p.elim
          · exact p.elim
      · exact p.elim
end
end Kp
set_option autoImplicit false
set_option maxRecDepth 10000
set_option maxHeartbeats 1000000
namespace Kp
open PySem L2
def bval : Bi → V
  | .int => .ty "int"
  | .str => .ty "str"
  | .list => .ty "list"
  | .listL => .ty "list"
  | .tuple => .ty "tuple"
  | .dict => .ty "dict"
  | .dictL => .ty "dict"
  | _ => .non
def bfun : Bi → Value
  | .len => .builtin "len"
  | .abs => .builtin "abs"
  | .sum => .builtin "sum"
  | .max2 => .builtin "max"
  | .sorted => .builtin "sorted"
  | .int => .type "int"
  | .str => .type "str"
  | .list => .type "list"
  | .listL => .type "list"
  | .tuple => .type "tuple"
  | .dict => .type "dict"
  | .dictL => .type "dict"
  | _ => .none
section
variable {X : Cx} {I : Info} {c : Call} {W : Wd} {Wx : WX} {Z : Lv} {ρ : List Addr} {h : AH} {H : Hp} {pins : List (Addr × Obj)} {s : Shared} {σ : L2.St} {x y : V} {v u : Value} {dx dy : D} {Q : VK}
theorem slc_val (Y : Cz X I c W Wx) {lo hi : Option Int} : SlR X (fun x l u H Q => l = lo ∧ u = hi ∧ ∃ (Z : Lv) (ρ : List Addr) (h : AH) (dx a b : D) (σ : L2.St), oInt a = some lo ∧ oInt b = some hi ∧ HRel W Z ρ h H ∧ RD W Z ρ h H x dx ∧ Post (relD W Z) W Wx Z σ ρ h H Q (slcD dx a b h)) := by
  intro pins s σ H x v vl vu lo' hi' sl Q J rx hs pl pu h
  obtain ⟨rfl, rfl, Z, ρ, h, dx, a, b, σ', e1, e2, R0, x1, p⟩ := h
  unfold slcD at p
  rw [e1, e2] at p
  simp only at p
  split at p
  · rename_i z ez
    cases strOf_ok ez
    obtain ⟨rfl, o1⟩ := x1.str
    obtain ⟨o2, e3⟩ := tOK_cut o1 lo' hi'
    exact sl_str pins s σ H _ v vl vu lo' hi' sl Q J rx hs pl pu ⟨sOf z, rfl, o1.2, by rw [e3]; exact p.fin R0 (.str _ o2)⟩
  · split at p
    · rename_i ts et
      cases tupOf_ok et
      obtain ⟨a, vs, rfl, k, r⟩ := x1.tup
      refine sl_tupA pins s σ H _ v vl vu lo' hi' sl Q J rx hs pl pu ⟨a, vs, rfl, Y.k ▸ k.sq, fun w => ?_, fun _ => ?_⟩
      · have w2 : HT.sIx ts.length 0 lo' = 0 ∧ HT.sIx ts.length ts.length hi' = ts.length := by rw [r.length] at w; exact w
        rw [cut_whole w2] at p
        exact p.fin R0 (.tup k r)
      · rw [← cut_cutV]
        exact Post.newT R0 (r.cut lo' hi') p
    · split at p
      · rename_i ds ed
        obtain ⟨a, vs, rfl, k, r⟩ := x1.lstOf R0 ed
        obtain ⟨ts, h', R1, E1, T1, _, p⟩ := Post.frzs R0 (r.cut lo' hi') p
        refine sl_list pins s σ H _ v vl vu lo' hi' sl Q J rx hs pl pu ⟨a, vs, rfl, .of k, ?_⟩
        rw [← cut_cutV]
        exact Post.newL R1 T1 p
      · exact p.elim
theorem ints_ok : ∀ {ds : List D} {zs : List Int} {vs : List V} {L : Lv}, ints? ds = some zs → RepDs W ρ L H vs ds → vs = zs.map V.int
  | [], zs, vs, L, e, r => by cases e; cases r; rfl
  | .t (.int i) :: ds, zs, vs, L, e, r => by
    cases r with
    | cons a b =>
      have e : (ints? ds).map (i :: ·) = some zs := e
      obtain ⟨ys, e1, rfl⟩ := Option.map_eq_some_iff.mp e
      cases a with | t a => cases a; rw [ints_ok e1 b]; rfl
  | .t .non :: _, _, _, _, e, _ => by cases e
  | .t (.bl _) :: _, _, _, _, e, _ => by cases e
  | .t (.str _) :: _, _, _, _, e, _ => by cases e
  | .t (.tup _) :: _, _, _, _, e, _ => by cases e
  | .t (.lst _) :: _, _, _, _, e, _ => by cases e
  | .t (.ro _) :: _, _, _, _, e, _ => by cases e
  | .t (.dct _ _) :: _, _, _, _, e, _ => by cases e
  | .t (.ins _ _ _) :: _, _, _, _, e, _ => by cases e
  | .r _ :: _, _, _, _, e, _ => by cases e
theorem strs_ok : ∀ {ds : List D} {zs : List (List Nat)} {vs : List V} {L : Lv}, strs? ds = some zs → RepDs W ρ L H vs ds → vs = zs.map (fun z => V.str (sOf z)) ∧ ∀ z ∈ zs, tOK (sOf z)
  | [], zs, vs, L, e, r => by cases e; cases r; exact ⟨rfl, fun z hz => by cases hz⟩
  | .t (.str i) :: ds, zs, vs, L, e, r => by
    cases r with
    | cons a b =>
      have e : (strs? ds).map (i :: ·) = some zs := e
      obtain ⟨ys, e1, rfl⟩ := Option.map_eq_some_iff.mp e
      cases a with
      | t a =>
        cases a with
        | str _ ok =>
          obtain ⟨h1, h2⟩ := strs_ok e1 b
          refine ⟨by rw [h1]; rfl, fun z hz => ?_⟩
          rcases List.mem_cons.mp hz with rfl | hz
          · exact ok
          · exact h2 z hz
  | .t .non :: _, _, _, _, e, _ => by cases e
  | .t (.bl _) :: _, _, _, _, e, _ => by cases e
  | .t (.int _) :: _, _, _, _, e, _ => by cases e
  | .t (.tup _) :: _, _, _, _, e, _ => by cases e
  | .t (.lst _) :: _, _, _, _, e, _ => by cases e
  | .t (.ro _) :: _, _, _, _, e, _ => by cases e
  | .t (.dct _ _) :: _, _, _, _, e, _ => by cases e
  | .t (.ins _ _ _) :: _, _, _, _, e, _ => by cases e
  | .r _ :: _, _, _, _, e, _ => by cases e
theorem reps_str {L : Lv} : ∀ {zs : List (List Nat)}, (∀ z ∈ zs, tOK (sOf z)) → RepTs W L H (zs.map (V.str ∘ sOf)) (zs.map .str)
  | [], _ => .nil
  | z :: zs, h => .cons (.str z (h z (List.mem_cons_self ..))) (reps_str fun y hy => h y (List.mem_cons_of_mem _ hy))
theorem reps_int {L : Lv} : ∀ (zs : List Int), RepTs W L H (zs.map V.int) (zs.map .int)
  | [] => .nil
  | z :: zs => .cons (.int z) (reps_int zs)
theorem items_plain {ds : List D} (R0 : HRel W Z ρ h H) (x1 : RD W Z ρ h H x dx) (k : ((lstOf h dx).isSome || (tupOf dx).isSome) = true) (e : itemsOf I h dx = some ds) : ∃ a vs, x = .ref a ∧ (SqL W.K H a vs ∨ SqT W.K H a vs) ∧ RDs W Z ρ h H vs ds := by
  unfold itemsOf at e
  cases q : lstOf h dx with
  | some es =>
    rw [q] at e
    cases e
    obtain ⟨a, vs, rfl, k, r⟩ := x1.lstOf R0 q
    exact ⟨a, vs, rfl, .inl (.of k), r⟩
  | none =>
    rw [q] at k e
    cases q2 : tupOf dx with
    | none => rw [q2] at k; cases k
    | some ts =>
      rw [q2] at e
      cases tupOf_ok q2
      cases e
      obtain ⟨a, vs, rfl, k, r⟩ := x1.tup
      exact ⟨a, vs, rfl, .inr k.sq, .of_ts r⟩
theorem dct_len {p : List (List Nat) × List T} {kvs : List (Key × V)} (ek : kvs.map (·.1) = p.1.map kOf) : kvs.length = p.1.length := by
  have := congrArg List.length ek
  simpa using this
theorem bi1_val (Y : Cz X I c W Wx) {b : Bi} (J : Inv X pins σ H s) (R0 : HRel W Z ρ h H) (x1 : RD W Z ρ h H x dx) (rx : RelV x v) (hb : plainBi h b dx = true) (p : Post (relD W Z) W Wx Z σ ρ h H Q (biD0 I c b [dx] h)) :
    wpAny (model X.prog X.w) X.A (call (bfun b) [v]) (EP X pins σ Q) X.xe s := by
  have rv : Vals [x] [v] := .cons rx .nil
  cases b with
  | len =>
    have p : Post (relD W Z) W Wx Z σ ρ h H Q (lenD I c dx h) := p
    unfold lenD at p
    split at p
    · rename_i f ef
      obtain ⟨k, k1, kf⟩ := own1_ok ef
      obtain ⟨b, d2, f2, rfl, hb, _⟩ := x1.insOf R0 k1
      obtain rfl : v = .ref b := rx
      obtain ⟨M, CF, kfn⟩ := Y.fac.meth k mLen f kf
      obtain ⟨od, J1⟩ := inst_at Y J hb
      obtain ⟨mm, hF⟩ := J.fr
      refine PySem.W.len_K hF (kIn' Y J) J1 (Y.fac.n2 ▸ M.at_) M.fn ?_
      have p2 : Post (relD W Z) W Wx Z σ ρ h H (fun z H' => ∃ i : Int, z = .int i ∧ 0 ≤ i ∧ i ≤ sizeMax ∧ Q (.int i) H') (c f [dx] h) := p.bind fun d h' ρ' v' H' _ R' E' r' q => by
        split at q
        · rename_i i ei
          cases intOf_ok ei
          split at q
          · rename_i hi
            exact ⟨i, r'.int, hi.1, hi.2, q.fin R' (.int _)⟩
          · exact q.elim
        · exact q.elim
      refine wpAny_mono (Y.call1 f pins s σ Z ρ h H [_] [dx] [_] _ J R0 (.cons x1 .nil) rv (Y.fac.dun k _ f kf (by decide)) p2) (fun w s' ⟨z, H', I', rz, i, ez, h0, h1, qz⟩ => ?_) fun _ _ e => e
      subst ez
      obtain ⟨t, rfl⟩ := rz
      refine ⟨⟨h0, ?_⟩, .int i, H', I'.tok _, ⟨_, rfl⟩, qz⟩
      have : (sizeMax : Int) < 2 ^ 62 := by decide
      omega
    · split at p
      · rename_i ds es
        obtain ⟨a, vs, rfl, hsq, rds⟩ := x1.seqOf R0 es
        refine call_len pins s σ H _ _ Q J rv ⟨_, vs.length, rfl, ?_, ?_⟩
        · rcases hsq with hsq | hsq
          · exact .inl ⟨vs, Y.k ▸ hsq, rfl⟩
          · exact .inr ⟨vs, Y.k ▸ hsq, rfl⟩
        · rw [rds.length]; exact p.fin R0 (.int _)
      · split at p
        · rename_i z ez
          cases strOf_ok ez
          obtain ⟨rfl, o1⟩ := x1.str
          refine call_len pins s σ H _ _ Q J rv ⟨_, (sOf z).length, rfl, ⟨o1.2, rfl⟩, ?_⟩
          have : ((sOf z).length : Int) = (z.length : Int) := by show ((z.toArray.size : Nat) : Int) = _; simp
          rw [this]; exact p.fin R0 (.int _)
        · split at p
          · rename_i ks vs ed
            obtain ⟨a, kvs, rfl, hd, ek, _⟩ := x1.dctOf R0 ed
            obtain rfl : v = .ref a := rx
            exact d_len J hd fun t s' I' => ⟨.int kvs.length, H, I', ⟨t, rfl⟩, by rw [dct_len ek]; exact p.fin R0 (.int _)⟩
          · exact p.elim
  | abs =>
    obtain ⟨z, e, p⟩ := Post.of (show Post (relD W Z) W Wx Z σ ρ h H Q (R.of ((intOf dx).map fun i => .t (.int (if i < 0 then -i else i))) h) from p)
    obtain ⟨i, e1, rfl⟩ := Option.map_eq_some_iff.mp e
    cases intOf_ok e1
    cases x1.int
    exact call_abs pins s σ H _ _ Q J rv ⟨i, rfl, p.fin R0 (.int _)⟩
  | int =>
    have p : Post (relD W Z) W Wx Z σ ρ h H Q (match intOf dx with
      | some i => .ok (.t (.int i)) h
      | none => R.of ((blOf dx).map fun b => .t (.int (b2i b))) h) := p
    split at p
    · rename_i i e1
      cases intOf_ok e1
      cases x1.int
      exact call_int1 pins s σ H _ _ Q J rv (.inl ⟨i, rfl, p.fin R0 (.int _)⟩)
    · obtain ⟨z, e, p⟩ := p.of
      obtain ⟨i, e1, rfl⟩ := Option.map_eq_some_iff.mp e
      cases blOf_ok e1
      cases x1.bl
      exact call_int1 pins s σ H _ _ Q J rv (.inr ⟨i, rfl, p.fin R0 (.int _)⟩)
  | str =>
    obtain ⟨z, e, p⟩ := Post.of (show Post (relD W Z) W Wx Z σ ρ h H Q (R.of ((strOf dx).map fun s => .t (.str s)) h) from p)
    obtain ⟨i, e1, rfl⟩ := Option.map_eq_some_iff.mp e
    cases strOf_ok e1
    obtain ⟨rfl, o1⟩ := x1.str
    exact SkE.call_str_str pins s σ H _ _ Q J rv ⟨_, rfl, p.fin R0 (.str _ o1)⟩
  | list =>
    have p : Post (relD W Z) W Wx Z σ ρ h H Q (match itemsOf I h dx with
      | some ds => frzLst ds h
      | none => .no) := p
    split at p
    · rename_i ds ed
      obtain ⟨a, vs, rfl, hsq, rds⟩ := items_plain R0 x1 hb ed
      obtain ⟨ts, h', R1, E1, T1, _, p⟩ := Post.frzs R0 rds p
      exact call_list_of pins s σ H _ _ Q J rv ⟨a, vs, rfl, Y.k ▸ hsq, Post.newL R1 T1 p⟩
    · exact p.elim
  | listL =>
    have p : Post (relD W Z) W Wx Z σ ρ h H Q (match itemsOf I h dx with
      | some ds => (frzsR ds h).bind fun ts h => .ok (.r h.length) (h ++ [.lst (ts.map .t)])
      | none => .no) := p
    split at p
    · rename_i ds ed
      obtain ⟨a, vs, rfl, hsq, rds⟩ := items_plain R0 x1 hb ed
      obtain ⟨ts, h', R1, E1, T1, _, p⟩ := Post.frzs R0 rds p
      exact call_list_of pins s σ H _ _ Q J rv ⟨a, vs, rfl, Y.k ▸ hsq, Post.liveL R1 (.of_ts T1) p⟩
    · exact p.elim
  | tuple =>
    have p : Post (relD W Z) W Wx Z σ ρ h H Q (match tupOf dx with
      | some ts => .ok (.t (.tup ts)) h
      | none => match lstOf h dx with
        | some ds => (frzsR ds h).bind fun ts h => .ok (.t (.tup ts)) h
        | none => .no) := p
    split at p
    · rename_i ts et
      cases tupOf_ok et
      obtain ⟨a, vs, rfl, k, r⟩ := x1.tup
      exact call_tuple_of pins s σ H _ _ Q J rv ⟨a, vs, rfl, .inr ⟨Y.k ▸ k.sq, p.fin R0 (.tup k r)⟩⟩
    · split at p
      · rename_i ds ed
        obtain ⟨a, vs, rfl, k, rds⟩ := x1.lstOf R0 ed
        obtain ⟨ts, h', R1, E1, T1, _, p⟩ := Post.frzs R0 rds p
        exact call_tuple_of pins s σ H _ _ Q J rv ⟨a, vs, rfl, .inl ⟨.of k, Post.newT R1 T1 p⟩⟩
      · exact p.elim
  | sorted =>
    have p : Post (relD W Z) W Wx Z σ ρ h H Q (match lstOf h dx with
      | some ds => if ds.length < 64 then R.of ((sorted ds).map .t) h else .no
      | none => .no) := p
    split at p
    · rename_i ds ed
      obtain ⟨a, vs, rfl, k, r⟩ := x1.lstOf R0 ed
      split at p
      · rename_i h64
        obtain ⟨z, e, p⟩ := p.of
        obtain ⟨t, e1, rfl⟩ := Option.map_eq_some_iff.mp e
        unfold sorted at e1
        split at e1
        · rename_i xs ex
          cases e1
          obtain ⟨hv, hk⟩ := strs_ok ex r
          have hv : vs = (xs.map sOf).map V.str := by rw [hv, List.map_map]; rfl
          have lv' : (xs.map sOf).length < 64 := by have := r.length; rw [hv] at this; simp at this ⊢; omega
          refine cr_sortedS pins s σ H _ _ Q J rv ⟨a, xs.map sOf, rfl, .of (by rw [← hv]; exact k), lv', fun ys q hp hs hq => ?_⟩
          rw [sorted_strs_eq hp hs]
          have hz : ∀ z ∈ sortS xs, tOK (sOf z) := fun z hz => hk z ((sortS_perm xs).mem_iff.mp hz)
          refine Post.newL R0 ?_ p q hq
          rw [List.map_map]
          exact reps_str hz
        · split at e1
          · rename_i xs ex
            cases e1
            have hv := ints_ok ex r
            refine cr_sortedI pins s σ H _ _ Q J rv ⟨a, xs, rfl, .of (by rw [← hv]; exact k), fun ys q hp hs hq => ?_⟩
            rw [sorted_ints_eq hp hs]
            exact Post.newL R0 (reps_int _) p q hq
          · cases e1
      · exact p.elim
    · exact p.elim
  | sum =>
    have p : Post (relD W Z) W Wx Z σ ρ h H Q (match lstOf h dx with
      | some ds => R.of ((ints? ds).map fun zs => .t (.int zs.sum)) h
      | none => .no) := p
    split at p
    · rename_i ds ed
      obtain ⟨a, vs, rfl, k, r⟩ := x1.lstOf R0 ed
      obtain ⟨z, e, p⟩ := p.of
      obtain ⟨zs, e1, rfl⟩ := Option.map_eq_some_iff.mp e
      cases ints_ok e1 r
      exact cr_sum Y.calm pins s σ H _ _ Q J rv ⟨a, zs, rfl, .of k, p.fin R0 (.int _)⟩
    · exact p.elim
  | _ => cases hb
end
end Kp
set_option autoImplicit false
set_option maxRecDepth 10000
set_option maxHeartbeats 2000000
namespace Kp
open PySem L2
structure NS where
  W : Wd
  /-- classes', constants', defs' global names; the parameters of a def -/
  cnm : Nat → Option Str
  gnm : Nat → Option Str
  fnn : Nat → Option Str
  psn : Nat → List Str
  /-- the calls with keywords that are bound: positional values, keywords -/
  kwp : Nat → List Nat → Bool
  /-- the parameters of a class's __init__, of a method's name; a staticmethod's class and name -/
  ips : Nat → List Str
  mps : Nat → List Str
  stn : Nat → Option (Str × Str)
  /-- the exceptions' classes' names -/
  xnm : Nat → Option Str
def okName (x : Str) : Bool := !(x == ("__debug__" : Str)) && !(x == ("__classdict__" : Str)) && !decide (x = ("__name__" : Str))
def visB (sc : Scope) (x : Str) : Bool := match sc.names.lookup x with
  | some .local => true
  | some .cell => true
  | some .free => true
  | _ => false
def glB (sc : Scope) (x : Str) : Bool := match sc.names.lookup x with
  | some .globalImplicit => true
  | _ => false
def locB (sc : Scope) (x : Str) : Bool := match sc.names.lookup x with
  | some .local => true
  | some .cell => true
  | _ => false
def bnm : Bi → Str
  | .len => "len"
  | .abs => "abs"
  | .sum => "sum"
  | .max2 => "max"
  | .sorted => "sorted"
  | .int => "int"
  | .str => "str"
  | .list => "list"
  | .listL => "list"
  | .tuple => "tuple"
  | .dict => "dict"
  | .dictL => "dict"
  | .isi _ => "isinstance"
  | _ => ""
def tynm : Ty → Option Str
  | .int => some "int"
  | .bool => some "bool"
  | .str => some "str"
  | .tuple => some "tuple"
  | .list => some "list"
  | .cls _ => none
def mK : T → Const → Bool
  | .non, .none => true
  | .bl b, .bool d => b == d
  | .int i, .int j => decide (i = j)
  | .str s, .str x => decide (x = sOf s) && PyData.strOk x && decide (x.length ≤ 1000)
  | _, _ => false
def noStar : Expr → Bool
  | .Starred _ _ => false
  | _ => true
def plBase : Expr → Bool
  | .Call (.Name _ _) [] [] _ => false
  | _ => true
def isSlc : Expr → Bool
  | .Slice _ _ _ _ => true
  | _ => false
def noSetB : Expr → Bool
  | .Set _ _ _ => false
  | _ => true
def ownL (N : List Str) (own : List Nat) : List (Str × Nat) := own.map fun i => ((N[i]?).getD Str.empty, i)
def mTg (N : List Str) (sc : Scope) : Tg → Expr → Bool
  | .n i, .Name x _ => decide (N[i]? = some x) && locB sc x
  | .ns is, .Tuple es _ _ => mTgs is es
  | _, _ => false
where mTgs : List Nat → List Expr → Bool
  | [], [] => true
  | i :: is, .Name x _ :: es => decide (N[i]? = some x) && locB sc x && mTgs is es
  | _, _ => false
def tgIn (own : List Nat) : Tg → Bool
  | .n i => own.contains i
  | .ns is => is.all own.contains
def tgDis (a b : Tg) : Bool := a.is.all fun i => !b.is.contains i
def isSet : Expr → Bool
  | .Set _ _ _ => true
  | _ => false
def mKns (ps : List Str) : List Nat → List Keyword → Bool
  | [], [] => true
  | n :: ns, ⟨some x, _, _⟩ :: ks => decide (ps[n]? = some x) && mKns ps ns ks
  | _, _ => false
def kwVals : List Keyword → List Expr
  | [] => []
  | ⟨_, e, _⟩ :: ks => e :: kwVals ks
def keyEx (sc : Scope) (y : Str) : Expr → Bool
  | .Name x _ => decide (x = y) && visB sc y && okName y
  | .Call (.Name s _) [.Name x _] [] _ => decide (x = y) && visB sc y && okName y && decide (s = ("str" : Str)) && glB sc s
  | _ => false
def keysB (N : List Str) (sc : Scope) (m : Expr → Bool) (e : Expr) : Bool := match e with
  | .ListComp x [⟨.Name y py, it', [], 0⟩] scope _ => blkC N sc scope (ownL N [N.idxOf y]) && mTg N scope (.n (N.idxOf y)) (.Name y py) && !isSet it' && keyEx (relS scope sc) y x && m it'
  | _ => false
def dcpB (N : List Str) (sc : Scope) (j : Nat) (e : Expr) : Bool := match e with
  | .DictComp (.Name y1 _) (.Subscript (.Name z1 _) (.Name y2 _) _) [⟨.Name y py, .Name z _, [], 0⟩] scope _ => blkC N sc scope (ownL N [N.idxOf y]) && mTg N scope (.n (N.idxOf y)) (.Name y py) && decide (y1 = y) && decide (y2 = y) && decide (z1 = z) && !decide (y = z) &&
      visB (relS scope sc) y && okName y && visB (relS scope sc) z && visB sc z && okName z && decide (N[j]? = some z)
  | _ => false
theorem keysB_ok {N : List Str} {sc : Scope} {m : Expr → Bool} {e : Expr} (h : keysB N sc m e = true) : ∃ x y py it' scope p, e = .ListComp x [⟨.Name y py, it', [], 0⟩] scope p ∧
    (blkC N sc scope (ownL N [N.idxOf y]) && mTg N scope (.n (N.idxOf y)) (.Name y py) && !isSet it' && keyEx (relS scope sc) y x && m it') = true := by
  unfold keysB at h
  split at h
  · exact ⟨_, _, _, _, _, _, rfl, h⟩
  · cases h
theorem dcpB_ok {N : List Str} {sc : Scope} {j : Nat} {e : Expr} (h : dcpB N sc j e = true) : ∃ y1 p1 z1 p2 y2 p3 p4 y py z pz scope p, e = .DictComp (.Name y1 p1) (.Subscript (.Name z1 p2) (.Name y2 p3) p4) [⟨.Name y py, .Name z pz, [], 0⟩] scope p ∧
    (blkC N sc scope (ownL N [N.idxOf y]) && mTg N scope (.n (N.idxOf y)) (.Name y py) && decide (y1 = y) && decide (y2 = y) && decide (z1 = z) && !decide (y = z) &&
      visB (relS scope sc) y && okName y && visB (relS scope sc) z && visB sc z && okName z && decide (N[j]? = some z)) = true := by
  unfold dcpB at h
  split at h
  · exact ⟨_, _, _, _, _, _, _, _, _, _, _, _, _, rfl, h⟩
  · cases h
section
variable (S : NS) (N : List Str)
mutual
def mE (sc : Scope) : Ex → Expr → Bool
  | .v i, e => match e with
    | .Name x _ => decide (N[i]? = some x) && visB sc x && okName x
    | _ => false
  | .k t, e => match e with
    | .Constant c _ _ => mK t c
    | _ => false
  | .g i, e => match e with
    | .Name x _ => decide (S.gnm i = some x) && glB sc x && okName x
    | _ => false
  | .neg a, e => match e with
    | .UnaryOp .USub x _ => mE sc a x
    | _ => false
  | .not_ a, e => match e with
    | .UnaryOp .Not x _ => mE sc a x
    | _ => false
  | .bin o a b, e => match e with
    | .BinOp l op r _ => decide (op = opr o) && mE sc a l && mE sc b r
    | _ => false
  | .cmp o a b, e => match e with
    | .Compare l [op] [r] _ => decide (op = copr o) && noSetB r && mE sc a l && mE sc b r
    | _ => false
  | .chain o p a b d, e => match e with
    | .Compare l [op, oq] [r, z] _ => decide (op = copr o) && decide (oq = copr p) && noSetB z && mE sc a l && mE sc b r && mE sc d z
    | _ => false
  | .bool o es, e => match e with
    | .BoolOp op l _ => decide (op = if o then .And else .Or) && !isNil es && mEs sc es l
    | _ => false
  | .attr a f, e => match e with
    | .Attribute x n _ => decide (n = S.W.fnm f) && plBase x && mE sc a x
    | _ => false
  | .idx a b, e => match e with
    | .Subscript x i _ => !isSlc i && mE sc a x && mE sc b i
    | _ => false
  | .slc a lo hi, e => match e with
    | .Subscript x (.Slice l u none _) _ => mE sc a x && (match l with | none => isNo lo | some y => mE sc lo y) && (match u with | none => isNo hi | some y => mE sc hi y)
    | _ => false
  | .no_, _ => false
  | .bad, e => noStar e
  | .tup es, e => match e with
    | .Tuple l _ _ => mEs sc es l && decide (l.length ≤ 1000)
    | _ => false
  | .lst _ es, e => match e with
    | .List l _ => mEs sc es l && decide (l.length ≤ 1000)
    | _ => false
  | .dct ks es, e => match e with
    | .Dict [] [] _ => ks.isEmpty && isNil es
    | _ => false
  | .bi b es, e => match b with
    | .isi t => match e with
      | .Call (.Name x _) [y, .Name z _] [] _ => decide (x = bnm b) && glB sc x && glB sc z && okName z && (match t with | .cls k => decide (S.cnm k = some z) | t => decide (tynm t = some z)) && (match es with | .cons a .nil => mE sc a y | _ => false)
      | _ => false
    | .rev => match e with
      | .Subscript x (.Slice none none (some (.UnaryOp .USub (.Constant (.int 1) _ _) _)) _) _ => (match es with | .cons a .nil => mE sc a x | _ => false)
      | _ => false
    | .index => false
    | .keys => match es with
      | .cons a .nil => keysB N sc (mE sc a) e
      | _ => false
    | .dcp => match es with
      | .cons (.v j) .nil => dcpB N sc j e
      | _ => false
    | _ => match e with
      | .Call (.Name x _) (y :: l) [] _ => decide (x = bnm b) && glB sc x && mEs sc es (y :: l)
      | _ => false
  | .call f es kns kes, e => match e with
    | .Call (.Name x _) l kws _ => decide (S.fnn f = some x) && glB sc x && okName x && mEs sc es l && mEs sc kes (kwVals kws) && mKns (S.psn f) kns kws && (kns.isEmpty || S.kwp l.length kns)
    | .Call (.Attribute (.Name x _) n ap) l kws pos => decide (S.stn f = some (x, n)) && glB sc x && okName x && (ap.endLine == pos.line) && decide (l.length + kws.length < 29) && mEs sc es l && mEs sc kes (kwVals kws) && mKns (S.psn f) kns kws && (kns.isEmpty || S.kwp l.length kns)
    | _ => false
  | .meth m o es kns kes, e => match e with
    | .Call (.Attribute x n ap) l kws pos => decide (n = S.W.mnm m) && plBase x && (ap.endLine == pos.line) && decide (l.length + kws.length < 29) && mE sc o x && mEs sc es l && mEs sc kes (kwVals kws) && mKns (S.mps m) kns kws && (kns.isEmpty || S.kwp (l.length + 1) kns)
    | _ => false
  | .new k es kns kes, e => match e with
    | .Call (.Name x _) l kws _ => decide (S.cnm k = some x) && glB sc x && okName x && mEs sc es l && mEs sc kes (kwVals kws) && mKns (S.ips k) kns kws && (kns.isEmpty || S.kwp (l.length + 1) kns)
    | _ => false
  | .lc _ elt own tg it cond more, e => match e with
    | .ListComp x (⟨tg', it', ifs, 0⟩ :: gs) scope _ => blkC N sc scope (ownL N own) && own.all (fun i => decide (i < N.length)) && mI sc it it' && mTg N scope tg tg' && tgIn own tg && !isSet it' && (match ifs with
      | [] => isNo cond
      | [y] => mE (relS scope sc) cond y
      | _ => false) && mG sc scope own tg more gs && mE (relS scope sc) elt x
    | _ => false
  | .dc _ key val own tg it cond, e => match e with
    | .DictComp x y [⟨tg', it', ifs, 0⟩] scope _ => blkC N sc scope (ownL N own) && mI sc it it' && mTg N scope tg tg' && tgIn own tg && !isSet it' && (match ifs with
      | [] => isNo cond
      | [z] => mE (relS scope sc) cond z
      | _ => false) && mE (relS scope sc) key x && mE (relS scope sc) val y
    | _ => false
  | .ss _ _ _ _ _, _ => false
termination_by structural e => e
def mEs (sc : Scope) : Exs → List Expr → Bool
  | .nil, l => l.isEmpty
  | .cons e es, l => match l with
    | x :: l => mE sc e x && mEs sc es l
    | [] => false
termination_by structural e => e
def mI (sc : Scope) : It → Expr → Bool
  | .val e, x => mE sc e x
  | .rng1 e, x => match x with
    | .Call (.Name r _) [y] [] _ => decide (r = ("range" : Str)) && glB sc r && mE sc e y
    | _ => false
  | .rng2 a b, x => match x with
    | .Call (.Name r _) [y, z] [] _ => decide (r = ("range" : Str)) && glB sc r && mE sc a y && mE sc b z
    | _ => false
termination_by structural e => e
def mG (sc scope : Scope) (own : List Nat) (tg0 : Tg) : Gens → List Comprehension → Bool
  | .nil, l => l.isEmpty
  | .cons tg it cond more, l => match l with
    | [⟨tg', it', ifs, 0⟩] => (match more with
      | .nil => true
      | _ => false) && mI (relS scope sc) it it' && mTg N scope tg tg' && tgIn own tg && tgDis tg tg0 && !isSet it' && (match ifs with
      | [] => isNo cond
      | [y] => mE (relS scope sc) cond y
      | _ => false)
    | _ => false
termination_by structural e => e
end
end
section
variable (S : NS) (N : List Str) (sc : Scope) (en : Str)
def enB (y : Str) : Bool := decide (y = en) && visB sc y && okName y
mutual
def mX : XE → Expr → Bool
  | .isi n, e => match e with
    | .Call (.Name q _) [.Name y _, .Name z _] [] _ => decide (q = ("isinstance" : Str)) && glB sc q && enB sc en y && glB sc z && okName z && (if n = 0 then decide (z = ("ValueError" : Str)) else decide (S.xnm n = some z))
    | _ => false
  | .fld f, e => match e with
    | .Attribute (.Name y _) n _ => decide (n = S.W.fnm f) && enB sc en y
    | _ => false
  | .k t, e => match e with
    | .Constant c _ _ => mK t c
    | _ => false
  | .v i, e => match e with
    | .Name x _ => decide (N[i]? = some x) && visB sc x && okName x
    | _ => false
  | .not_ a, e => match e with
    | .UnaryOp .Not x _ => mX a x
    | _ => false
  | .bool o es, e => match e with
    | .BoolOp op l _ => decide (op = if o then .And else .Or) && !xNil es && mXl es l
    | _ => false
  | .tup es, e => match e with
    | .Tuple l _ _ => mXl es l && decide (l.length ≤ 1000)
    | _ => false
  | .lst es, e => match e with
    | .List l _ => mXl es l && decide (l.length ≤ 1000)
    | _ => false
  | .eq a b, e => match e with
    | .Compare l [op] [r] _ => decide (op = .Eq) && noSetB r && mX a l && mX b r
    | _ => false
  | .ty a t, e => match e with
    | .Call (.Name q _) [y, .Name z _] [] _ => decide (q = ("isinstance" : Str)) && glB sc q && glB sc z && okName z && decide (tynm t = some z) && mX a y
    | _ => false
termination_by structural e => e
def mXl : XEs → List Expr → Bool
  | .nil, l => l.isEmpty
  | .cons e es, l => match l with
    | x :: l => mX e x && mXl es l
    | [] => false
termination_by structural e => e
end
def noComp : Expr → Bool
  | .ListComp _ _ _ _ => false
  | .SetComp _ _ _ _ => false
  | .DictComp _ _ _ _ _ => false
  | _ => true
mutual
def mXs : XS → Stmt → Bool
  | .asg i e, st => match st with
    | .Assign [.Name x _] y _ => decide (N[i]? = some x) && locB sc x && !decide (x = en) && noComp y && mX S N sc en e y
    | _ => false
  | .ite e a b, st => match st with
    | .If y la lb _ => mX S N sc en e y && mXss a la && mXss b lb
    | _ => false
  | .ret e, st => match st with
    | .Return (some y) _ => mX S N sc en e y
    | _ => false
termination_by structural e => e
def mXss : XSs → List Stmt → Bool
  | .nil, l => l.isEmpty
  | .cons s r, l => match l with
    | x :: l => mXs s x && mXss r l
    | [] => false
termination_by structural e => e
end
end
def mXh (S : NS) (N : List Str) (sc : Scope) : List (Nat × Nat × XSs) → List ExceptHandler → Bool
  | [], [] => true
  | (cl, i, b) :: r, .ExceptHandler (some (.Name x _)) (some n) (b0 :: bs) _ :: hds => decide (S.xnm cl = some x) && glB sc x && okName x && decide (N[i]? = some n) && decide (sc.names.lookup n = some .local) && mXss S N sc n b (b0 :: bs) && mXh S N sc r hds
  | _, _ => false
theorem mE_noStar {S : NS} {N : List Str} {sc : Scope} {m : Ex} {e : Expr} (h : mE S N sc m e = true) : noStar e = true := by
  cases e with
  | Starred x p =>
    cases m <;> first | (simp [mE] at h; done) | (simp [mE, noStar] at h; done) | skip
    rename_i b es
    by_cases k1 : b = .keys
    · subst k1
      cases es with
      | nil => cases h
      | cons a es => cases es <;> cases h
    by_cases k2 : b = .dcp
    · subst k2
      cases es with
      | nil => cases h
      | cons a es => cases es <;> cases a <;> cases h
    cases b <;> first | exact absurd rfl k1 | exact absurd rfl k2 | simp [mE] at h
  | _ => rfl
end Kp
set_option autoImplicit false
set_option maxRecDepth 100000
set_option maxHeartbeats 4000000
namespace L2
open PySem PySem.Spec PyProof.Rows
open PySem.W (ksEnv ksFn)
def cxS (CX : CXT) (P : Program) (w : World) (K : PySem.W.Frag) (mg : Str → Option Value) (base : Heap) (N : List Str) (qual : Str) (scope : Scope) (f : Addr) (cd : Value) (cc : Addr) (A : Around) (outer : List Env) (s : Shared) (H : Hp) (E : XK) : Cx where
  prog := P
  w := w
  K := K
  mg := mg
  base := base
  A := A.deeper (ksEnv qual scope s.heap.objs.size f cd cc)
  N := N
  s_0 := s
  H_0 := H
  env := ksEnv qual scope s.heap.objs.size f cd cc
  outer := outer
  stack := ksEnv qual scope s.heap.objs.size f cd cc :: outer
  ex := []
  calm := true
  fn := fun _ => false
  pn := []
  xe := fun e s' => wpAny (model P w) (A.deeper (ksEnv qual scope s.heap.objs.size f cd cc)) (leaving (ksEnv qual scope s.heap.objs.size f cd cc) e) (fun _ s'' => CX outer H s E e s'') (fun e' s'' => CX outer H s E e' s'') s'
structure SupScope (N : List Str) (scope : Scope) : Prop where
  kind : scope.kind = .function
  co : scope.isCoroutine = false
  gen : scope.isGenerator = false
  nd : N.Nodup
  par : ∀ x ∈ N, scope.names.lookup x = some .local
  nocell : ∀ x ∈ scope.names, x.2 ≠ .cell
  free : ∀ x, scope.names.lookup x = some .free → x = "__class__"
  cls : scope.names.lookup ("__class__" : Str) = some .free
  sup : scope.names.lookup ("super" : Str) = some .globalImplicit
theorem rev_lookup {α : Type} : ∀ {ps : List Str} {us : List α} {i : Nat} {x : Str} {u : α}, ps.Nodup → ps[i]? = some x → us[i]? = some u → (ps.zip us).reverse.lookup x = some u
  | [], _, _, _, _, _, e, _ => by simp at e
  | _ :: _, [], _, _, _, _, _, e => by simp at e
  | p :: ps, v :: us, i, x, u, nd, e1, e2 => by
    obtain ⟨n1, n2⟩ := List.nodup_cons.mp nd
    rw [List.zip_cons_cons, List.reverse_cons, List.lookup_append]
    cases i with
    | zero =>
      simp at e1 e2
      subst e1 e2
      have : (ps.zip us).reverse.lookup p = none := by
        rw [List.lookup_eq_none_iff]
        intro q hq
        have := (List.of_mem_zip (List.mem_reverse.mp hq)).1
        simp only [bne_iff_ne, ne_eq]
        exact fun z => n1 (by rw [z]; exact this)
      rw [this]
      simp
    | succ i =>
      rw [rev_lookup n2 (by simpa using e1) (by simpa using e2)]
      rfl
section
variable {CX : CXT} {P : Program} {w : World} {K : PySem.W.Frag} {mg : Str → Option Value} {base : Heap} {N : List Str} {qual : Str} {scope : Scope} {f cc C cda : Addr} {A : Around} {outer : List Env} {s : Shared} {H : Hp} {E : XK} {us : List Value} {vs : List V}
theorem inv_startS (S : SupScope N scope) (hd : A.handled = none) (e0 : Env0 P w K mg base A outer s H) (hl : vs.length = N.length) (r : Vals vs us) {cl : Value} {cld : Option Addr} {csl : Array (Option Value)}
    (hcell : K.lookup cc = some ⟨cl, cld, .cell (some (.ref C)), csl⟩) {h1 : Heap} {tk : Nat} (hns : h1.Ns s.heap.objs.size (fun x => (N.zip us).reverse.lookup x)) (hk : ∀ b o, s.heap.get? b = some o → h1.get? b = some o) :
    Inv (cxS CX P w K mg base N qual scope f (.ref cda) cc A outer s H E) [] (start N vs) H { s with heap := h1, toks := tk } := by
  have noA : ∀ b : Addr, b ∉ (cxS CX P w K mg base N qual scope f (.ref cda) cc A outer s H E).ex := fun b z => absurd (show b ∈ ([] : List Addr) from z) (by simp)
  have ccl : ∀ y c, (cxS CX P w K mg base N qual scope f (.ref cda) cc A outer s H E).env.cells.lookup y = some c → y = "__class__" ∧ c = cc := fun y c h => by
    have h : List.lookup y [(("__class__" : Str), cc)] = some c := h
    rw [List.lookup_cons] at h
    split at h
    · rename_i e
      cases h
      exact ⟨eq_of_beq e, rfl⟩
    · cases h
  have cb := e0.mod.kin _ _ hcell
  have cb2 := e0.bs _ _ cb
  refine ⟨⟨e0.mod, S.kind, rfl, rfl, Nat.le_refl _, fun y z c h1 h2 => (ccl y c h1).1.trans (ccl z c h2).1.symm, fun y hy => ?_, fun y c h => Bool.noConfusion (show false = true from h), fun _ => hd, Around.frames_deeper e0.frames, .inr ⟨rfl, rfl⟩, fun b z => absurd z (noA b), e0.bs, e0.bsz, fun b _ _ => noA b, fun b z => absurd z (noA b), e0.funs, e0.frf⟩,
    rfl, e0.bare, Un.kept hk, ⟨_, hns, fun i y v h1 h2 h3 => ?_⟩, fun y c h => ⟨some (.ref C), ?_⟩, e0.hok.fresh (Nat.le_refl _), fun y c h => ?_, fun p hp => absurd (show p ∈ ([] : List (Addr × Obj)) from hp) (by simp), e0.hok.kept hk, ?_⟩
  · have hy : scope.names.lookup y = some .cell ∨ scope.names.lookup y = some .free := hy
    rcases hy with hy | hy
    · exact absurd rfl (S.nocell _ (PySem.mem_of_lookup hy))
    · rw [S.free y hy]
      exact ⟨cc, by show List.lookup _ [(("__class__" : Str), cc)] = _; rw [List.lookup_cons, beq_self_eq_true]⟩
  · have hi : i < vs.length := by rw [hl]; exact (List.getElem?_eq_some_iff.mp h1).1
    have ha : vs[i]? = some v := by
      unfold start at h2
      rw [List.getElem?_append_left (by simpa using hi), List.getElem?_map] at h2
      cases e : vs[i]? with
      | none => rw [e] at h2; cases h2
      | some a => rw [e] at h2; cases h2; rfl
    obtain ⟨u, hu, rv⟩ := r.get ha
    exact ⟨u, rv, .inl ⟨S.par y (List.mem_of_getElem? h1), rev_lookup S.nd h1 hu⟩⟩
  · rw [(ccl y c h).2]
    exact ⟨_, hk _ _ cb2.1, rfl⟩
  · rw [(ccl y c h).2]; exact cb2.2
  · unfold start
    show _ = N.length
    rw [List.length_append, List.length_map, List.length_replicate]
    omega
end
end L2
set_option autoImplicit false
set_option maxRecDepth 100000
set_option maxHeartbeats 4000000
namespace L2
open PySem PySem.Spec PyProof.Rows
open PySem.W (ksEnv ksFn)
theorem sup_eq {o : Expr} {name : Str} {apos pos : Pos} {args : List Expr} {env : PySem.Env} (hline : (apos.endLine == pos.line) = true) (hfew : methodCallForm (args.length + ([] : List Keyword).length) (backTo pos (starEach args env)) (backToKw pos (keywordEach [] env)) = true) :
  eval (.Call (.Attribute o name apos) args [] pos) env = (do
      let ov ← attributeBase o name env (eval o env)
      standAt apos.atName
      let (f, first) ← holding [ov] (getMethod ov name (do return (← importBound o env).getD true))
      callWith pos f first (backTo pos (starEach args env)) []) := by
  have hpos : methodCallPos true o env apos pos = pure pos := by unfold methodCallPos; simp [hline]
  rw [arm_eval_Call]
  unfold methodCall
  rw [hfew]
  rw [hpos]
  rfl
structure SupC (P : Program) (K : PySem.W.Frag) (mg : Str → Option Value) (C f cc cda : Addr) (fd : FuncData) : Prop where
  ox : OexC K C
  cell : ∃ cl cld csl, K.lookup cc = some ⟨cl, cld, .cell (some (.ref C)), csl⟩
  code : ∃ ccl cdd vs ccs file tf, K.lookup cda = some ⟨ccl, cdd, .fields vs, ccs⟩ ∧ vs[2]? = some (.str file tf) ∧ ((P.main.file : Str) == file) = true
  fn : ∃ oc od osl, K.lookup f = some ⟨oc, od, .func fd, osl⟩
  nosup : mg "super" = none
  top : (P.main.scope.names.lookup ("super" : Str)).isSome = false
  opq : PySem.W.nsIn K cStatics "thirdparty.any" = some none
  sup : PySem.W.ks_superIn K C C "__init__" = some (some (.builtin "ValueError.__init__"))
  ve : PySem.W.subIn K (.ref C) (.type "ValueError") = some true
  slf : PySem.W.mroIn K C (.ref C) = some true
section
variable {P : Program} {C f cc cda a : Addr} {fd : FuncData} {X : Cx} {qual : Str} {scope : Scope} {pins : List (Addr × Obj)} {σ : St} {H : Hp} {s : Shared} {body : List Stmt} {ar : Arg} {p0 p1 p2 p3 p4 p5 : Pos} {txt : Str} {j : Nat} {L : Addr}
theorem sup_step (F : SupC X.prog X.K X.mg C f cc cda fd) (hp : (fd.params.posonlyargs ++ fd.params.args).head? = some ar) (he : X.env = ksEnv qual scope L f (.ref cda) cc) (hkc : scope.names.lookup ("__class__" : Str) = some .free) (hks : scope.names.lookup ("super" : Str) = some .globalImplicit) (hka : scope.names.lookup ar.arg = some .local)
    (hN : X.N[0]? = some ar.arg) (hσ : σ[0]? = some (some (.ref a))) (I : Inv X pins σ H s) (ea : H a = some (exo a C none)) (hline : (p2.endLine == p4.line) = true) :
    _root_.PySem.wpAt (model X.prog X.w) X.A (.func body X.env) (exec (.Expr (.Call (.Attribute (.Call (.Name "super" p0) [] [] p1) "__init__" p2) [.Constant (.str txt) j p3] [] p4) p5) X.env) (fun fl s' => fl = .next ∧ Inv X pins σ H s') X.xe s := by
  obtain ⟨cl, cld, csl, hcell⟩ := F.cell
  obtain ⟨ccl, cdd, vs, ccs, file, tf, hcode, hvs, hfile⟩ := F.code
  obtain ⟨oc, od, osl, hfn⟩ := F.fn
  obtain ⟨nm, q, N', bs, bm, sn, sub, ab, col, dd, k0, k1, k2, k3, k5, hC, hbm⟩ := F.ox.cls
  have KX := I.kIn
  have hcl : PySem.W.clsIn X.K C = some { name := nm, bases := bs, mro := .ref C :: bm, ns := N', qualname := q, hasDict := true, slotNames := sn, subclasses := sub, abstract := ab, collection := col, hasDel := false } := by unfold PySem.W.clsIn; rw [hC] <;> rfl
  obtain ⟨t1, ho⟩ := exo_at I.hok ea
  obtain ⟨m, hns, hloc⟩ := I.loc
  obtain ⟨u, ru, lk⟩ := hloc 0 ar.arg (.ref a) hN hσ (Or.inl (by rw [he]; exact hka))
  obtain rfl : u = Value.ref a := ru
  have hv : m ar.arg = some (.ref a) := by
    rcases lk with lk | ⟨lk, _⟩
    · exact lk.2
    · have lk : X.env.scope.names.lookup ar.arg = some .cell ∨ X.env.scope.names.lookup ar.arg = some .free := lk
      rw [he] at lk
      rcases lk with lk | lk
      · have := hka.symm.trans lk; cases this
      · have := hka.symm.trans lk; cases this
  have hxC : a ≠ C := fun z => by
    have := (I.bs _ _ (I.mod.kin _ _ hC)).2
    rw [← z, ea] at this; cases this
  have hk : scope.kind = .function := by have := I.ok.kind; rw [he] at this; exact this
  have hnsL : s.heap.Ns L m := by rw [he] at hns; exact hns
  obtain ⟨mb, b1, b2⟩ := I.mod.blt
  have PS := fun (I' : Nat) => (pa_cons (X := X) (e := .Constant (.str txt) j p3) (es := []) pe_str pa_nil (by rw [he]; rfl))
  have PS := PS 0
  have hll : ∃ oL, s.heap.get? X.env.locals = some oL := by obtain ⟨oL, _, _, e, _⟩ := hns; exact ⟨oL, e⟩
  have pst : ∀ (whole : Sem Value), True := fun _ => trivial
  rw [he]
  refine ks_wpAt_Expr_any (ks_wpAt_MethodCall ?_ (sup_eq hline rfl)) (by unfold interactive; simp [ksEnv, hk]) rfl
  refine ks_wpAt_super_base (env := ksEnv qual scope L f (.ref cda) cc) hks hkc (by decide) rfl (KX _ _ hfn) rfl hp rfl (KX _ _ hcode) rfl hvs hfile F.top ?_
  refine PySem.W.ks_loadName_global hk hks (Calls.loadGlobal_builtin (env := ksEnv qual scope L f (.ref cda) cc) (I.mod.glob.keeps I.bk) F.nosup (b1.keeps I.bk) ((b2 _ (by decide)).trans PyProof.Rows.Boot.«super») ⟨rfl, ?_⟩)
  refine wpAny_loadName_free hk hkc (c := cc) (by show List.lookup _ [(("__class__" : Str), cc)] = _; rw [List.lookup_cons, beq_self_eq_true]) ⟨_, KX _ _ hcell, rfl⟩ ?_
  refine wpAny_loadName_local hk hka hnsL hv ?_
  obtain ⟨hh, g, d, t, os⟩ := s
  refine ks_wpAny_isType_cls (KX _ _ hC) rfl ⟨rfl, ?_⟩
  refine ks_wpAny_call_super (KX _ _ hC) rfl ho rfl (fun c e => by cases e) (PySem.W.looks_mroIn KX F.slf) (fun h' e k => ?_)
  have KX' : X.K.In h' := fun b o z => k b o (KX b o z)
  have IA : PySem.W.InstAt h' a _ C none := ⟨k _ _ ho, rfl, rfl, trivial⟩
  have hI : PySem.W.Looks (model X.prog X.w) h' (isInstance (.ref a) (.type "ValueError")) true := IA.type.andThen (PySem.W.looks_subIn KX' F.ve)
  have hm := F.sup
  unfold PySem.W.ks_superIn at hm
  rw [hcl] at hm
  refine PySem.W.kxs_getMethod PySem.W.kxs_ValueError e (PySem.W.looks_opaque KX' F.opq) (l₀ := .ref C :: bm) (fun A Q E s k q => wpAny_bind ((PySem.W.looks_clsIn KX' hcl) A _ E s k (wpAny_pure q))) rfl KX' hm hI hxC (by decide) ?_
  have k2 : ∀ b o, hh.get? b = some o → (h'.push (PySem.W.kxs_mw "ValueError.__init__" a)).get? b = some o := fun b o z => Heap.get?_push_of_some _ (k b o z)
  have hu : (h'.push (PySem.W.kxs_mw "ValueError.__init__" a)).get? h'.objs.size = some (PySem.W.kxs_mw "ValueError.__init__" a) := Heap.get?_push_at rfl rfl
  have I1 : Inv X pins σ H ⟨h'.push (PySem.W.kxs_mw "ValueError.__init__" a), g, d, t + 1, os⟩ := I.un (t' := t + 1) (Un.kept k2) (I.hok.kept k2)
  have szk : hh.objs.size ≤ h'.objs.size := Nat.le_of_lt (Heap.lt_size e)
  have I2 : Inv X ((h'.objs.size, PySem.W.kxs_mw "ValueError.__init__" a) :: pins) σ H ⟨h'.push (PySem.W.kxs_mw "ValueError.__init__" a), g, d, t + 1, os⟩ := I1.pins_of fun p hp => by
    rcases List.mem_cons.mp hp with rfl | hp
    · refine ⟨hu, I.hok.fresh szk, fun z => ?_, fun z => ?_, fun v z => by cases z⟩
      · obtain ⟨oL, eL⟩ := hll
        have q : X.env.locals < hh.objs.size := Heap.lt_size eL
        have z : h'.objs.size = X.env.locals := z
        exact absurd (Nat.lt_of_lt_of_le q szk) (by rw [z]; exact Nat.lt_irrefl _)
      · obtain ⟨_, o', e', _⟩ := I.ok.funs.mem z
        have q : h'.objs.size < X.s_0.heap.objs.size := Heap.lt_size e'
        have q2 : X.s_0.heap.objs.size ≤ hh.objs.size := I.sz
        exact absurd (Nat.lt_of_lt_of_le q (Nat.le_trans q2 szk)) (Nat.lt_irrefl _)
    · exact I1.pin p (List.mem_append_right _ hp)
  refine PySem.W.kxs_callWith (i := "ValueError.__init__") (x := a) rfl ?_
  refine Calls.evalArgs_plain ?_
  have hA := PS.run p4 _ _ σ H (fun vs H1 => vs = [.str txt] ∧ H1 = H) I2 ⟨rfl, rfl⟩
  rw [he] at hA
  refine thn hA fun us s3 ⟨vs3, H3, J, rv, ev, eH⟩ => ?_
  subst ev eH
  have hu3 : s3.heap.get? h'.objs.size = some (PySem.W.kxs_mw "ValueError.__init__" a) := (J.pin _ (List.mem_append_right _ (List.mem_cons_self ..))).1
  refine ⟨hu3, ?_⟩
  have J3 : Inv X pins σ H3 s3 := J.pins_of fun p hp => J.pin p (List.mem_append_right _ (List.mem_cons_of_mem _ hp))
  obtain ⟨t3, ho3⟩ := exo_at J3.hok ea
  have hC3 := J3.kIn _ _ hC
  have hus : us.length ≤ sizeLine := by
    rw [← Paired.length rv, sizeLine_eq]
    simp
  obtain ⟨h3, g3, d3, tk3, os3⟩ := s3
  show wpAny _ _ (call (.ref h'.objs.size) us) _ _ _
  refine wpAny_call (codeAny_of_tree ?_)
  show wpAny _ _ (callAny (.ref h'.objs.size) ⟨us, []⟩) _ _ _
  simp only [callAny]
  refine wpAny_bind (wpAny_load hu3 ?_)
  simp only [PySem.W.kxs_mw, show (Value.type "method-wrapper" == Value.type "method" || Value.type "method-wrapper" == Value.type "builtin_function_or_method" || Value.type "method-wrapper" == Value.type "method-wrapper") = true by decide, if_true]
  refine PySem.W.KFB.if_so (by decide) ?_
  refine wpAny_bind (PySem.W.check_bound_init PySem.F.excBase_ValueError.toExcCallFacts hC3 ho3 rfl ?_)
  refine wpAny_bind (wpAny_pure (wpAny_pure ?_))
  refine ⟨plainId_quiet PySem.F.excBase_ValueError.init.plain _, codeAny_builtin PySem.F.excBase_ValueError.initEntry ?_⟩
  refine PySem.W.exc_init_tree (cls := .ref C) (t0 := t3) (dv := none) (c2 := .none) (c3 := .none) (b4 := .bool false) ho3 hus fun h4 k4 e4 t4 => ?_
  have J4 := J3.write (t' := tk3) (x := a) (e := a) (o := exo a C none) (by rw [ea]; exact True.intro) (.inl rfl) k4 ⟨_, e4⟩ (exo_ok e4)
  have eu : upd H3 a (exo a C none) = H3 := by
    funext b
    by_cases hb : b = a
    · rw [hb, upd_same, ea]
    · rw [upd_ne hb]
  rw [eu] at J4
  exact ⟨trivial, J4⟩
end
theorem fn_sup {CX : CXT} {P : Program} {w : World} {K : PySem.W.Frag} {mg : Str → Option Value} {base : Heap} {k : Nat} {C f cc cda : Addr} {name qual : Str} {params : Arguments} {rest : List Stmt} {scope : Scope} {dV kV doc pm ct : Value} {an : Option Addr}
    {N : List Str} {sp : Sp} {ar : Arg} {p0 p1 p2 p3 p4 p5 : Pos} {txt : Str} {j : Nat}
    (F : SupC P K mg C f cc cda (ksFn name qual params (.Expr (.Call (.Attribute (.Call (.Name "super" p0) [] [] p1) "__init__" p2) [.Constant (.str txt) j p3] [] p4) p5 :: rest) scope dV kV doc pm an (.ref cda) ct cc)) (hcd : PySem.W.codeIn K (.ref cda) qual = true) (S : SupScope N scope)
    (hp : (params.posonlyargs ++ params.args).head? = some ar) (hN : N[0]? = some ar.arg) (hline : (p2.endLine == p4.line) = true)
    (len : ∀ vs H Q E, sp vs H Q E → vs.length = N.length)
    (hbody : ∀ (A : Around) (outer : List Env) (s : Shared) (H : Hp) (vs : List V) (Q : VK) (E : XK), Room k (A.deeper (ksEnv qual scope s.heap.objs.size f (.ref cda) cc)) → sp vs H Q E →
      ∃ a ws t, vs = .ref a :: ws ∧ H a = some (exo a C none) ∧ PSs (cxS CX P w K mg base N qual scope f (.ref cda) cc A outer s H E) rest t ∧ t { nx := fun _ H' => Q .non H', rt := Q } (start N vs) H) :
    FnOk P w K mg base CX (k + 1) f (ksFn name qual params (.Expr (.Call (.Attribute (.Call (.Name "super" p0) [] [] p1) "__init__" p2) [.Constant (.str txt) j p3] [] p4) p5 :: rest) scope dV kV doc pm an (.ref cda) ct cc) N sp := by
  refine ⟨len, fun A outer s H args us vs Q E hr e0 hb r hsp => ?_⟩
  have hl := len _ _ _ _ hsp
  have KX : K.In s.heap := e0.mod.kin.keeps fun b o e => (e0.bs b o e).1
  have lim : s.heap.NoLimit := e0.mod.nolimit.keeps fun b o e => (e0.bs b o e).1
  obtain ⟨cl, cld, csl, hcell⟩ := F.cell
  obtain ⟨oc, od, osl, hfn⟩ := F.fn
  refine ks_codeAny_call_defAt hr.depth (KX _ _ hfn) rfl lim (PySem.W.codeRec_of KX hcd) rfl hb S.nocell (fun ⟨n, v⟩ hy => S.par n (List.of_mem_zip hy).1) (fun h1 hns hk1 => ?_) S.co S.gen S.kind
  obtain ⟨a, ws, t, rfl, ea, ht, hq⟩ := hbody A outer s H vs Q E (hr.deeper _) hsp
  have I : Inv (cxS CX P w K mg base N qual scope f (.ref cda) cc A outer s H E) [] (start N (.ref a :: ws)) H { s with heap := h1, toks := s.toks + (N.zip us).length } := inv_startS S hr.hd e0 hl r hcell hns hk1
  refine ks_wpAt_execs_cons ?_
  refine ks_wpAt_mono (sup_step (X := cxS CX P w K mg base N qual scope f (.ref cda) cc A outer s H E) F hp rfl S.cls S.sup (S.par _ (List.mem_of_getElem? hN)) hN (by unfold start; rfl) I ea hline) (fun fl s' hs => ?_) fun e s' hs => hs
  obtain ⟨rfl, J⟩ := hs
  refine wpAt_of_wpAny ?_
  refine wpAny_mono (ht.run [] s' _ H _ J hq) (fun fl s' hs => ?_) fun e s' hs => hs
  have fin : ∀ {σ' : St} {H' : Hp} {v : V} {u : Value}, Inv (cxS CX P w K mg base N qual scope f (.ref cda) cc A outer s H E) [] σ' H' s' → RelV v u → Q v H' → CE outer P w H s Q u s' :=
    fun {σ' H' v u} J rv q => ⟨v, H', J.os, J.bare, J.base, J.hok, rv, q⟩
  cases fl with
  | ret u =>
    obtain ⟨v, σ', H', J, rv, q⟩ := hs
    exact fin J rv q
  | next =>
    obtain ⟨σ', H', J, q⟩ := hs
    exact fin (v := V.non) (u := Value.none) J rfl q
  | brk =>
    obtain ⟨_, _, _, q⟩ := hs
    exact False.elim q
  | cont =>
    obtain ⟨_, _, _, q⟩ := hs
    exact False.elim q
end L2
set_option autoImplicit false
set_option maxRecDepth 10000
set_option maxHeartbeats 2000000
namespace L2
open PySem PySem.Spec PyProof.Rows
def spX (C : Addr) (fs : List Str) : Sp := fun vs H Q E => ∃ a ys, vs = .ref a :: ys ∧ ys.length = fs.length ∧ H a = some (exo a C none) ∧ ∀ dx, H dx = none → dx ≠ a → Q .non (upd (upd H dx (exd dx (fs.zip ys).reverse)) a (exo a C (some dx)))
end L2
namespace Kp
open PySem L2
def ExcK (X : Cx) (I : Info) (S : NS) : Prop :=
  ∀ (k : Nat) (ks : List Nat) (x : Str), I.exc k = some ks → S.xnm k = some x → ks.length ≤ 2 ∧ ∀ {e : Expr} {es : List Expr} {p pos : Pos} {ta : TA}, Gl X x → (x == ("__debug__" : Str)) = false → PA X (e :: es) ta → starEach (e :: es) X.env = (false, eval e X.env) :: starEach es X.env → (backTo pos (starEach es X.env)).any (·.1) = false →
    PMk X (.Call (.Name x p) (e :: es) [] pos) (tMkO (S.W.ca k) (spX (S.W.ca k) (ks.map S.W.fnm)) [] ta)
end Kp
set_option autoImplicit false
set_option maxRecDepth 10000
set_option maxHeartbeats 2000000
namespace Kp
open PySem L2
def CallK (X : Cx) (I : Info) (c : Call) (S : NS) (Wx : WX) : Prop :=
  ∀ (f : Nat) (pins : List (Addr × Obj)) (s : Shared) (σ : L2.St) (Z : Lv) (ρ : List Addr) (h : AH) (H : Hp) (vs zs : List V) (ds ks : List D) (us ws : List Value) (kns : List Nat) (xs : List Str) (Q : VK), Inv X pins σ H s → HRel S.W Z ρ h H → RDs S.W Z ρ h H vs ds → RDs S.W Z ρ h H zs ks → Vals vs us → Vals zs ws →
    (kns = [] ∨ S.kwp ds.length kns = true) → kns.map (fun n => (S.psn f)[n]?) = xs.map some → kns.length = ks.length → Post (relD S.W Z) S.W Wx Z σ ρ h H Q (callD I c f ds kns ks h) → wpAny (model X.prog X.w) X.A (call (.ref (S.W.fa f)) us (xs.zip ws)) (EP X pins σ Q) X.xe s
def NewK (X : Cx) (I : Info) (c : Call) (S : NS) (Wx : WX) : Prop :=
  ∀ (k : Nat) (pins : List (Addr × Obj)) (s : Shared) (σ : L2.St) (Z : Lv) (ρ : List Addr) (h : AH) (H : Hp) (vs zs : List V) (ds ks : List D) (us ws : List Value) (kns : List Nat) (xs : List Str) (Q : VK), Inv X pins σ H s → HRel S.W Z ρ h H → RDs S.W Z ρ h H vs ds → RDs S.W Z ρ h H zs ks → Vals vs us → Vals zs ws →
    (kns = [] ∨ S.kwp (ds.length + 1) kns = true) → kns.map (fun n => (S.ips k)[n]?) = xs.map some → kns.length = ks.length → Post (relD S.W Z) S.W Wx Z σ ρ h H Q (newD I c k ds kns ks h) → wpAny (model X.prog X.w) X.A (call (.ref (S.W.ca k)) us (xs.zip ws)) (EP X pins σ Q) X.xe s
def StM (K : PySem.W.Frag) (mg : Str → Option Value) (x n : Str) (g : Addr) : Prop :=
  ∃ (C p : Addr) (rest : List Value), mg x = some (.ref C) ∧ ClX.CRead K C (.type "type") ∧ PySem.W.findCls K (.ref C) (.type "type") n = some (.get (.builtin "staticmethod.__get__") (.ref p) .none (.ref C)) ∧ PySem.W.recIn K p "staticmethod" = some (.ref g :: rest) ∧ PySem.W.keepIn K (.ref g) = true
def PropK (X : Cx) (I : Info) (c : Call) (S : NS) (Wx : WX) : Prop :=
  ∀ (k f g : Nat) (pins : List (Addr × Obj)) (s : Shared) (σ : L2.St) (Z : Lv) (ρ : List Addr) (h : AH) (H : Hp) (a dx : Addr) (fs : List (Str × V)) (d : D) (Q : VK), I.prop k f = some g → Inv X pins σ H s → HRel S.W Z ρ h H → H a = some (.ins (S.W.ca k) dx fs) → RD S.W Z ρ h H (.ref a) d →
    Post (relD S.W Z) S.W Wx Z σ ρ h H Q (noEx (c g [d] h)) → wpAny (model X.prog X.w) X.A (getAttr (.ref a) (S.W.fnm f) true) (EP X pins σ Q) X.xe s
def bltNames : List Str := ["len", "abs", "sum", "max", "sorted", "int", "str", "list", "tuple", "dict", "isinstance", "range", "bool"]
structure Cy (X : Cx) (I : Info) (c : Call) (S : NS) (Wx : WX) (N : List Str) (sc : Scope) : Prop where
  z : Cz X I c S.W Wx
  n : X.N = N
  sc : X.env.scope = sc
  glo : ∀ i x, S.gnm i = some x → ∃ v u, X.mg x = some u ∧ RelV v u ∧ ∀ L H, RepT S.W L H v (I.gcon i)
  blt : ∀ x ∈ bltNames, X.mg x = none
  fnk : ∀ f x, S.fnn f = some x → X.mg x = some (.ref (S.W.fa f)) ∧ PySem.W.keepIn X.K (.ref (S.W.fa f)) = true
  cnk : ∀ k x, S.cnm k = some x → X.mg x = some (.ref (S.W.ca k)) ∧ PySem.W.keepIn X.K (.ref (S.W.ca k)) = true
  stk : ∀ f x n, S.stn f = some (x, n) → StM X.K X.mg x n (S.W.fa f)
  mpk : ∀ k m f, I.meth k m = some f → S.mps m = [] ∨ S.mps m = S.psn f
  callk : CallK X I c S Wx
  newk : NewK X I c S Wx
  propk : PropK X I c S Wx
section
variable {X : Cx} {I : Info} {c : Call} {S : NS} {Wx : WX} {N : List Str} {sc : Scope}
theorem vis_of {x : Str} (Y : Cy X I c S Wx N sc) (h : visB sc x = true) : Vis X.env.scope x := by
  rw [Y.sc]
  unfold visB at h
  unfold Vis
  split at h <;> first | cases h | skip
  · exact .inl (by assumption)
  · exact .inr (.inl (by assumption))
  · exact .inr (.inr (by assumption))
theorem gl_of {x : Str} (Y : Cy X I c S Wx N sc) (h : glB sc x = true) : Gl X x := by
  unfold Gl Env.kindOf
  rw [Y.sc]
  unfold glB at h
  split at h
  · assumption
  · cases h
theorem loc_of {x : Str} (Y : Cy X I c S Wx N sc) (h : locB sc x = true) : L2.Loc X.env.scope x := by
  rw [Y.sc]
  unfold locB at h
  unfold L2.Loc
  split at h <;> first | cases h | skip
  · exact .inl (by assumption)
  · exact .inr (by assumption)
theorem okn {x : Str} (h : okName x = true) : (x == ("__debug__" : Str)) = false ∧ (x == ("__classdict__" : Str)) = false ∧ x ≠ ("__name__" : Str) := by
  unfold okName at h
  simp only [Bool.and_eq_true, Bool.not_eq_true'] at h
  exact ⟨h.1.1, h.1.2, of_decide_eq_false h.2⟩
theorem ba {a b : Bool} (h : (a && b) = true) : a = true ∧ b = true := Bool.and_eq_true_iff.mp h
theorem starEach_cons {e : Expr} (h : noStar e = true) (es : List Expr) (env : PySem.Env) : starEach (e :: es) env = (false, eval e env) :: starEach es env := by
  cases e <;> first | rfl | cases h
theorem backTo_plain (pos : Pos) (env : PySem.Env) : ∀ es : List Expr, es.all noStar = true → (backTo pos (starEach es env)).any (·.1) = false
  | [], _ => rfl
  | e :: es, h => by
    obtain ⟨h1, h2⟩ := all_cons h
    have := backTo_plain pos env es h2
    rw [starEach_cons h1]
    unfold backTo at *
    simpa using this
theorem mEs_noStar : ∀ {ms : Exs} {es : List Expr}, mEs S N sc ms es = true → es.all noStar = true
  | .nil, es, h => by
    unfold mEs at h
    cases es with
    | nil => rfl
    | cons _ _ => cases h
  | .cons m ms, es, h => by
    cases es with
    | nil => rfl
    | cons e es =>
      unfold mEs at h
      obtain ⟨h1, h2⟩ := ba h
      rw [List.all_cons, mE_noStar h1, mEs_noStar h2]; rfl
def evLen : Exs → Nat
  | .nil => 0
  | .cons _ es => evLen es + 1
theorem mEs_len : ∀ {ms : Exs} {es : List Expr}, mEs S N sc ms es = true → es.length = evLen ms
  | .nil, es, h => by
    unfold mEs at h
    cases es with
    | nil => rfl
    | cons _ _ => cases h
  | .cons m ms, es, h => by
    cases es with
    | nil => unfold mEs at h; cases h
    | cons e es =>
      unfold mEs at h
      obtain ⟨h1, h2⟩ := ba h
      rw [List.length_cons, mEs_len h2, evLen]
theorem evs_len {env : Env} : ∀ {ms : Exs} {h h' : AH} {ds : List D}, evs I c ms env h = .ok ds h' → ds.length = evLen ms
  | .nil, h, h', ds, e => by unfold evs at e; cases e; rfl
  | .cons m ms, h, h', ds, e => by
    unfold evs at e
    cases q : ev I c m env h with
    | ok d h1 =>
      rw [q] at e
      have e : (evs I c ms env h1).bind (fun ds h => .ok (d :: ds) h) = .ok ds h' := e
      cases q2 : evs I c ms env h1 with
      | ok es h2 =>
        rw [q2] at e
        cases e
        rw [List.length_cons, evs_len q2, evLen]
      | ex a b d e' => rw [q2] at e; cases e
      | no => rw [q2] at e; cases e
    | ex a b d e' => rw [q] at e; cases e
    | no => rw [q] at e; cases e
theorem pa_of (h : ∀ (e : Expr) (es : List Expr), noStar e = true → True) : True := trivial
theorem tEs_nil : PA X [] (tEs I c S.W Wx .nil) := by
  refine ⟨fun pos pins s σ H Q J q => ?_⟩
  obtain ⟨Z, ρ, h, env, r, p⟩ := q
  exact pa_nil.run pos pins s σ H Q J (p ρ [] H r.hr (.refl _ _ _) .nil)
theorem tEs_cons {m : Ex} {ms : Exs} {e : Expr} {es : List Expr} (he : PE X e (tE I c S.W Wx m)) (hs : PA X es (tEs I c S.W Wx ms)) (hn : noStar e = true) : PA X (e :: es) (tEs I c S.W Wx (.cons m ms)) := by
  refine ⟨fun pos pins s σ H Q J q => ?_⟩
  obtain ⟨Z, ρ, h, env, r, p⟩ := q
  refine (pa_cons he hs (starEach_cons hn es X.env)).run pos pins s σ H Q J ?_
  have p : Post (relDs S.W Z) S.W Wx Z σ ρ h H Q ((ev I c m env h).bind fun d h => (evs I c ms env h).bind fun ds h => .ok (d :: ds) h) := by unfold evs at p; exact p
  refine tE.step r p fun d v ρ1 h1 H1 r1 E1 x1 p1 => ?_
  refine tEs.step r1 p1 fun ds vs ρ2 h2 H2 r2 E2 x2 p2 => ?_
  exact p2 ρ2 _ H2 r2.hr (.refl _ _ _) (.cons (x1.ext E2) x2)
theorem tC_val {m : Ex} {e : Expr} (he : PE X e (tE I c S.W Wx m)) (hK : X.K = S.W.K) (hp : ∀ whole, isTrue e X.env whole = (do let v ← whole; standAt e.pos; holding [v] (truthy v))) : PT X e (tC I c S.W Wx m) := by
  refine ⟨fun pins s σ H Q J q => ?_⟩
  obtain ⟨Z, ρ, h, env, r, p⟩ := q
  refine (pt_truth he hp).run pins s σ H Q J ?_
  refine tE.step r p fun d v ρ1 h1 H1 r1 E1 x1 p1 => ?_
  obtain ⟨b, eb, p1⟩ := p1.of
  exact ⟨b, by rw [hK]; exact truth_ok r1.hr x1 eb, p1 ρ1 b H1 r1.hr (.refl _ _ _) rfl⟩
end
end Kp
set_option autoImplicit false
set_option maxRecDepth 10000
set_option maxHeartbeats 2000000
namespace Kp
open PySem L2
section
variable {X : Cx} {I : Info} {c : Call} {S : NS} {Wx : WX} {N : List Str} {sc : Scope} {pos : Pos}
abbrev SE (X : Cx) (I : Info) (c : Call) (S : NS) (Wx : WX) (m : Ex) (e : Expr) : Prop := PE X e (tE I c S.W Wx m)
abbrev STt (X : Cx) (I : Info) (c : Call) (S : NS) (Wx : WX) (m : Ex) (e : Expr) : Prop := PT X e (tC I c S.W Wx m)
def plainTest : Expr → Bool
  | .BoolOp _ _ _ => false
  | .Compare _ _ _ _ => false
  | .UnaryOp .Not _ _ => false
  | .NamedExpr _ _ _ => false
  | .IfExp _ _ _ _ => false
  | _ => true
theorem isTrue_plain' {e : Expr} {env : PySem.Env} (h : plainTest e = true) (whole : Sem Value) : isTrue e env whole = (do let v ← whole; standAt e.pos; holding [v] (truthy v)) := by
  cases e with
  | UnaryOp op a p => cases op <;> first | rfl | cases h
  | BoolOp a b d => cases h
  | Compare a b d f => cases h
  | IfExp a b d f => cases h
  | _ => rfl
theorem se_bad {e : Expr} : SE X I c S Wx .bad e := ⟨fun pins s σ H Q J ⟨Z, ρ, h, env, r, p⟩ => by unfold ev at p; exact p.elim⟩
theorem st_bad {e : Expr} : STt X I c S Wx .bad e := ⟨fun pins s σ H Q J ⟨Z, ρ, h, env, r, p⟩ => by unfold ev at p; exact p.elim⟩
theorem se_v (Y : Cy X I c S Wx N sc) {i : Nat} {x : Str} (h1 : N[i]? = some x) (h2 : visB sc x = true) (h3 : okName x = true) : SE X I c S Wx (.v i) (.Name x pos) := by
  refine ⟨fun pins s σ H Q J ⟨Z, ρ, h, env, r, p⟩ => ?_⟩
  obtain ⟨o1, o2, _⟩ := okn h3
  unfold ev at p
  split at p
  · rename_i d e
    obtain ⟨v, ev, x⟩ := r.env i d e
    exact (pe_var (pos := pos) (Y.n ▸ h1) (vis_of Y h2) o1 o2).run pins s σ H Q J ⟨v, ev, p ρ v H r.hr (.refl _ _ _) x⟩
  · exact p.elim
theorem mK_rep {W : Wd} {L : Lv} {H : Hp} {t : T} {cst : Const} (h : mK t cst = true) {kk : Nat} : ∃ v, PE X (.Constant cst kk pos) (L2.tC v) ∧ ∀ L H, RepT W L H v t := by
  cases t <;> cases cst <;> first | cases h | skip
  · exact ⟨.non, pe_non, fun _ _ => .non⟩
  · rename_i a b
    cases eq_of_beq (show (a == b) = true from h)
    exact ⟨.bl _, pe_bl, fun _ _ => .bl _⟩
  · rename_i a b
    cases of_decide_eq_true (show decide (a = b) = true from h)
    exact ⟨.int _, pe_int, fun _ _ => .int _⟩
  · rename_i a b
    obtain ⟨h1, h3⟩ := ba h
    obtain ⟨h1, h2⟩ := ba h1
    cases of_decide_eq_true h1
    exact ⟨.str (sOf a), pe_str, fun _ _ => .str a ⟨h2, Nat.le_trans (of_decide_eq_true h3) (by decide)⟩⟩
theorem se_k {t : T} {cst : Const} {kk : Nat} (hm : mK t cst = true) : SE X I c S Wx (.k t) (.Constant cst kk pos) := by
  refine ⟨fun pins s σ H Q J ⟨Z, ρ, h, env, r, p⟩ => ?_⟩
  obtain ⟨v, pv, rv⟩ := mK_rep (W := S.W) (L := lv Z ρ h) (H := H) (X := X) (pos := pos) hm (kk := kk)
  unfold ev at p
  exact pv.run pins s σ H Q J (p.fin r.hr (rv _ _))
theorem se_g (Y : Cy X I c S Wx N sc) {i : Nat} {x : Str} (h1 : S.gnm i = some x) (h2 : glB sc x = true) (h3 : okName x = true) : SE X I c S Wx (.g i) (.Name x pos) := by
  refine ⟨fun pins s σ H Q J ⟨Z, ρ, h, env, r, p⟩ => ?_⟩
  obtain ⟨o1, o2, _⟩ := okn h3
  obtain ⟨v, u, e1, e2, e3⟩ := Y.glo i x h1
  unfold ev at p
  exact (pe_glob (gl_of Y h2) e1 e2 o1).run pins s σ H Q J (p.fin r.hr (e3 _ _))
theorem se_neg {a : Ex} {e : Expr} (ha : SE X I c S Wx a e) : SE X I c S Wx (.neg a) (.UnaryOp .USub e pos) := by
  refine ⟨fun pins s σ H Q J ⟨Z, ρ, h, env, r, p⟩ => ?_⟩
  refine (pe_un un_neg ha).run pins s σ H Q J ?_
  unfold ev at p
  refine tE.step r p fun d v ρ1 h1 H1 r1 E1 x1 p1 => ?_
  split at p1
  · exact ⟨_, x1.int, p1.fin r1.hr (.int _)⟩
  · exact p1.elim
theorem se_not (Y : Cy X I c S Wx N sc) {a : Ex} {e : Expr} (ha : SE X I c S Wx a e) : SE X I c S Wx (.not_ a) (.UnaryOp .Not e pos) := by
  refine ⟨fun pins s σ H Q J ⟨Z, ρ, h, env, r, p⟩ => ?_⟩
  refine (pe_notT ha).run pins s σ H Q J ?_
  unfold ev at p
  refine tE.step r p fun d v ρ1 h1 H1 r1 E1 x1 p1 => ?_
  obtain ⟨z, e1, p1⟩ := p1.of
  obtain ⟨b, e2, rfl⟩ := Option.map_eq_some_iff.mp e1
  exact ⟨b, by rw [Y.z.k]; exact truth_ok r1.hr x1 e2, p1.fin r1.hr (.bl _)⟩
theorem bind_of {α β : Type} {o : Option α} {h : AH} {f : α → AH → R β} {g : α → β} (e : ∀ a h, f a h = .ok (g a) h) : (R.of o h).bind f = R.of (o.map g) h := by
  cases o with
  | none => rfl
  | some a => exact e a h
theorem bind_assoc' {α β γ : Type} (m : R α) (f : α → AH → R β) (g : β → AH → R γ) : (m.bind f).bind g = m.bind fun a h => (f a h).bind g := by cases m <;> rfl
theorem st_not {a : Ex} {e : Expr} (ha : STt X I c S Wx a e) : STt X I c S Wx (.not_ a) (.UnaryOp .Not e pos) := by
  refine ⟨fun pins s σ H Q J ⟨Z, ρ, h, env, r, p⟩ => ?_⟩
  refine (pt_not ha).run pins s σ H Q J ?_
  unfold ev at p
  have p2 : Post relB S.W Wx Z σ ρ h H Q (((ev I c a env h).bind fun d h => R.of (truth h d) h).bind fun b h => .ok (!b) h) := by
    rw [bind_assoc'] at p ⊢
    have e : (fun (d : D) (h : AH) => (R.of ((truth h d).map fun b => bD (!b)) h).bind fun d h => R.of (truth h d) h) = fun (d : D) (h : AH) => (R.of (truth h d) h).bind fun b h => .ok (!b) h := by
      funext d h
      cases truth h d <;> rfl
    rw [e] at p
    exact p
  exact ⟨Z, ρ, h, env, r, p2.bind fun b h' ρ' b' H' _ R' E' e q => by subst e; exact q ρ' _ H' R' (.refl _ _ _) rfl⟩
theorem se_bin (Y : Cy X I c S Wx N sc) {o : Bop} {a b : Ex} {l e : Expr} (ha : SE X I c S Wx a l) (hb : SE X I c S Wx b e) : SE X I c S Wx (.bin o a b) (.BinOp l (opr o) e pos) := by
  refine ⟨fun pins s σ H Q J ⟨Z, ρ, h, env, r, p⟩ => ?_⟩
  refine wpAny_BinOp (binT ha hb (R := fun x y H2 => ∃ ρ h dx dy, HRel S.W Z ρ h H2 ∧ RD S.W Z ρ h H2 x dx ∧ RD S.W Z ρ h H2 y dy ∧ Post (relD S.W Z) S.W Wx Z σ ρ h H2 Q (binD I c o dx dy h)) J ?_ fun v u s2 x y H2 I2 rx ry ⟨ρ2, h2, dx, dy, R2, x2, y2, p2⟩ => bin_val Y.z I2 R2 x2 y2 rx ry p2)
  unfold ev at p
  refine tE.step r p fun d v ρ1 h1 H1 r1 E1 x1 p1 => ?_
  refine tE.step r1 p1 fun d2 v2 ρ2 h2 H2 r2 E2 x2 p2 => ?_
  exact ⟨ρ2, h2, d, d2, r2.hr, x1.ext E2, x2, p2⟩
theorem se_cmp (Y : Cy X I c S Wx N sc) {o : Cop} {a b : Ex} {l e : Expr} (ha : SE X I c S Wx a l) (hb : SE X I c S Wx b e) (hm : behindInMarks (copr o) e = false) : SE X I c S Wx (.cmp o a b) (.Compare l [copr o] [e] pos) := by
  refine ⟨fun pins s σ H Q J ⟨Z, ρ, h, env, r, p⟩ => ?_⟩
  refine wpAny_Compare1 (binT ha hb (R := fun x y H2 => ∃ ρ h dx dy, HRel S.W Z ρ h H2 ∧ RD S.W Z ρ h H2 x dx ∧ RD S.W Z ρ h H2 y dy ∧ Post (relD S.W Z) S.W Wx Z σ ρ h H2 Q (cmpD I c o dx dy h)) J ?_ fun v u s2 x y H2 I2 rx ry ⟨ρ2, h2, dx, dy, R2, x2, y2, p2⟩ => cmp_val Y.z I2 R2 x2 y2 rx ry p2) hm
  unfold ev at p
  refine tE.step r p fun d v ρ1 h1 H1 r1 E1 x1 p1 => ?_
  refine tE.step r1 p1 fun d2 v2 ρ2 h2 H2 r2 E2 x2 p2 => ?_
  exact ⟨ρ2, h2, d, d2, r2.hr, x1.ext E2, x2, p2⟩
theorem test_val (Y : Cy X I c S Wx N sc) {pins : List (Addr × Obj)} {s : Shared} {σ : L2.St} {H : Hp} {Z : Lv} {ρ : List Addr} {h : AH} {v : V} {u : Value} {d : D} {Q : Bool → Hp → Prop} (J : Inv X pins σ H s) (R0 : HRel S.W Z ρ h H) (x : RD S.W Z ρ h H v d) (r : RelV v u)
    (p : Post relB S.W Wx Z σ ρ h H Q (R.of (truth h d) h)) : wpAny (model X.prog X.w) X.A (truthy u) (TP X pins σ Q) X.xe s := by
  obtain ⟨b, e, p⟩ := p.of
  have t := truth_ok R0 x e
  exact tru_ok pins s σ H v u (fun b H' => Q b H') J r ⟨b, by rw [Y.z.k]; exact t, p ρ b H R0 (.refl _ _ _) rfl⟩
theorem st_cmp (Y : Cy X I c S Wx N sc) {o : Cop} {a b : Ex} {l e : Expr} (ha : SE X I c S Wx a l) (hb : SE X I c S Wx b e) (hm : behindInMarks (copr o) e = false) : STt X I c S Wx (.cmp o a b) (.Compare l [copr o] [e] pos) := by
  refine ⟨fun pins s σ H Q J ⟨Z, ρ, h, env, r, p⟩ => ?_⟩
  refine wpAny_isTrue_Compare1 (binT ha hb (R := fun x y H2 => ∃ ρ h dx dy, HRel S.W Z ρ h H2 ∧ RD S.W Z ρ h H2 x dx ∧ RD S.W Z ρ h H2 y dy ∧ Post relB S.W Wx Z σ ρ h H2 Q ((cmpD I c o dx dy h).bind fun d h => R.of (truth h d) h)) J ?_ fun v u s2 x y H2 I2 rx ry ⟨ρ2, h2, dx, dy, R2, x2, y2, p2⟩ => ?_) hm
  · unfold ev at p
    rw [bind_assoc'] at p
    refine tE.step r p fun d v ρ1 h1 H1 r1 E1 x1 p1 => ?_
    rw [bind_assoc'] at p1
    refine tE.step r1 p1 fun d2 v2 ρ2 h2 H2 r2 E2 x2 p2 => ?_
    exact ⟨ρ2, h2, d, d2, r2.hr, x1.ext E2, x2, p2⟩
  · have p3 : Post (relD S.W Z) S.W Wx Z σ ρ2 h2 H2 (fun v H' => ∃ ρ h d, HRel S.W Z ρ h H' ∧ RD S.W Z ρ h H' v d ∧ Post relB S.W Wx Z σ ρ h H' Q (R.of (truth h d) h)) (cmpD I c o dx dy h2) :=
      p2.bind fun d h' ρ' v' H' _ R' E' x' q => ⟨ρ', h', d, R', x', q⟩
    refine thn (cmp_val Y.z I2 R2 x2 y2 rx ry p3) fun w s3 ⟨z, H3, I3, r3, ρ3, h3, d3, R3, x3, p3⟩ => ?_
    exact test_val Y I3 R3 x3 r3 p3
theorem se_idx (Y : Cy X I c S Wx N sc) {a b : Ex} {l e : Expr} (ha : SE X I c S Wx a l) (hb : SE X I c S Wx b e) (hs : NoSl e) (hs2 : ∀ o i, subscripted e true o i = runValue (.builtin "lifetime.subscript" ⟨[o, i], []⟩)) : SE X I c S Wx (.idx a b) (.Subscript l e pos) := by
  refine ⟨fun pins s σ H Q J ⟨Z, ρ, h, env, r, p⟩ => ?_⟩
  refine PyProof.Rows.Subscript_ (binT ha hb (R := fun x y H2 => ∃ ρ h dx dy, HRel S.W Z ρ h H2 ∧ RD S.W Z ρ h H2 x dx ∧ RD S.W Z ρ h H2 y dy ∧ Post (relD S.W Z) S.W Wx Z σ ρ h H2 Q (idxD I c dx dy h)) J ?_ fun v u s2 x y H2 I2 rx ry ⟨ρ2, h2, dx, dy, R2, x2, y2, p2⟩ => idx_val Y.z hs hs2 I2 R2 x2 y2 rx ry p2)
  unfold ev at p
  refine tE.step r p fun d v ρ1 h1 H1 r1 E1 x1 p1 => ?_
  refine tE.step r1 p1 fun d2 v2 ρ2 h2 H2 r2 E2 x2 p2 => ?_
  exact ⟨ρ2, h2, d, d2, r2.hr, x1.ext E2, x2, p2⟩
theorem lk_fld {W : Wd} {L : Lv} {H : Hp} {ρ : List Addr} {ks : List Nat} {ds : List D} {f : Nat} {d : D} : ∀ {fs : List (Str × V)}, fs.map (·.1) = ks.map W.fnm → (∀ g ∈ ks, W.fnm g = W.fnm f → g = f) → RepDs W ρ L H (fs.map (·.2)) ds → lk ks ds f = some d → ∃ v, fs.lookup (W.fnm f) = some v ∧ RepD W ρ L H v d := by
  induction ks generalizing ds with
  | nil => intro fs e _ r q; cases ds <;> cases q
  | cons k ks ih =>
    intro fs e hi r q
    cases fs with
    | nil => cases e
    | cons p fs =>
      injection e with e1 e2
      cases r with
      | cons r1 r2 =>
        rename_i d0 ds
        have q : (if k = f then some d0 else lk ks ds f) = some d := q
        obtain ⟨x, w⟩ := p
        rw [List.lookup_cons]
        by_cases cc : k = f
        · rw [if_pos cc] at q
          cases q
          subst cc
          have e1 : x = W.fnm k := e1
          rw [show (W.fnm k == x) = true by rw [e1]; exact beq_self_eq_true _]
          exact ⟨w, rfl, r1⟩
        · rw [if_neg cc] at q
          have e1 : x = W.fnm k := e1
          rw [show (W.fnm f == x) = false from beq_eq_false_iff_ne.mpr fun z => cc (hi k (List.mem_cons_self ..) (e1.symm.trans z.symm))]
          exact ih e2 (fun g hg => hi g (List.mem_cons_of_mem _ hg)) r2 q
theorem lk_none {W : Wd} {ks : List Nat} {m : Str} : ∀ {fs : List (Str × V)}, fs.map (·.1) = ks.map W.fnm → (∀ g ∈ ks, W.fnm g ≠ m) → fs.lookup m = none := by
  induction ks with
  | nil => intro fs e _; cases fs with | nil => rfl | cons _ _ => cases e
  | cons k ks ih =>
    intro fs e hi
    cases fs with
    | nil => cases e
    | cons p fs =>
      injection e with e1 e2
      obtain ⟨x, w⟩ := p
      rw [List.lookup_cons]
      have e1 : x = W.fnm k := e1
      rw [show (m == x) = false from beq_eq_false_iff_ne.mpr fun z => hi k (List.mem_cons_self ..) (e1.symm.trans z.symm)]
      exact ih e2 fun g hg => hi g (List.mem_cons_of_mem _ hg)
theorem se_attr (Y : Cy X I c S Wx N sc) {a : Ex} {f : Nat} {e : Expr} (ha : SE X I c S Wx a e) (hb : attributeBase e (S.W.fnm f) X.env (eval e X.env) = eval e X.env) : SE X I c S Wx (.attr a f) (.Attribute e (S.W.fnm f) pos) := by
  refine ⟨fun pins s σ H Q J ⟨Z, ρ, h, env, r, p⟩ => ?_⟩
  unfold ev at p
  refine attr_of hb (thn (ha.run pins s σ H (fun v H2 => ∃ ρ h dx, HRel S.W Z ρ h H2 ∧ RD S.W Z ρ h H2 v dx ∧ Post (relD S.W Z) S.W Wx Z σ ρ h H2 Q (match clsOf h dx with
    | some k => match I.prop k f with
      | some g => noEx (c g [dx] h)
      | none => if I.fld k f then R.of (fldOf h dx f) h else .no
    | none => .no)) J (tE.step r p fun d v ρ1 h1 H1 r1 E1 x1 p1 => ⟨ρ1, h1, d, r1.hr, x1, p1⟩)) fun u s1 ⟨x, H1, I1, rx, ρ1, h1, dx, R1, x1, p1⟩ => ?_)
  split at p1
  · rename_i k ek
    obtain ⟨aa, dd, fs, rfl, ea, ks, ds, e1, e2, e3, e4⟩ := x1.insOf R1 ek
    obtain rfl : u = Value.ref aa := rx
    split at p1
    · rename_i g eg
      exact Y.propk k f g pins s1 σ Z ρ1 h1 H1 aa dd fs dx Q eg I1 R1 ea x1 p1
    · split at p1
      · rename_i hf
        obtain ⟨d, ed, p1⟩ := p1.of
        rw [e4 f] at ed
        obtain ⟨cl, na⟩ := Y.z.fac.fld k f hf
        obtain ⟨v, l, rv⟩ := lk_fld e1 (fun g hg z => Y.z.fac.finj k g f (by rw [← Y.z.fac.feq]; exact e2 g hg) hf z) e3 ed
        exact getattr_ok I1 ea (by rw [Y.z.k]; exact cl) (by rw [Y.z.k]; exact na) l fun u' s2 I2 ru => ⟨v, H1, I2, ru, p1 ρ1 v H1 R1 (.refl _ _ _) rv⟩
      · exact p1.elim
  · exact p1.elim
theorem se_tup {es : Exs} {l : List Expr} {kk : Nat} (ha : PA X l (tEs I c S.W Wx es)) (hl : evLen es ≤ 1000) : SE X I c S Wx (.tup es) (.Tuple l kk pos) := by
  refine ⟨fun pins s σ H Q J ⟨Z, ρ, h, env, r, p⟩ => ?_⟩
  unfold ev at p
  refine (pe_tup ha).run pins s σ H Q J ?_
  refine ⟨Z, ρ, h, env, r, p.bind fun ds h' ρ' vs H' em R' E' x q => ?_⟩
  obtain ⟨ts, h2, R2, E2, T2, _, q⟩ := Post.frzs R' x q
  refine ⟨?_, Post.newT R2 T2 q⟩
  rw [x.length, evs_len em]
  exact Nat.le_trans hl (by decide)
theorem se_lst {live : Bool} {es : Exs} {l : List Expr} (ha : PA X l (tEs I c S.W Wx es)) (hl : evLen es ≤ 1000) : SE X I c S Wx (.lst live es) (.List l pos) := by
  refine ⟨fun pins s σ H Q J ⟨Z, ρ, h, env, r, p⟩ => ?_⟩
  unfold ev at p
  refine (pe_lst ha).run pins s σ H Q J ?_
  refine ⟨Z, ρ, h, env, r, p.bind fun ds h' ρ' vs H' em R' E' x q => ?_⟩
  refine ⟨by rw [x.length, evs_len em]; exact Nat.le_trans hl (by decide), ?_⟩
  cases live with
  | true => exact Post.liveL R' x q
  | false =>
    obtain ⟨ts, h2, R2, E2, T2, _, q⟩ := Post.frzs R' x q
    exact Post.newL R2 T2 q
end
end Kp
set_option autoImplicit false
set_option maxRecDepth 10000
set_option maxHeartbeats 2000000
namespace Kp
open PySem L2
structure IsiC (K : PySem.W.Frag) (C : Addr) : Prop where
  cl : Cls K C
  ha : PySem.W.findIn K (.ref C) "__class__" = some (some (.builtin "object.__class__"))
  hn : PySem.W.specialIn K (.builtin "object.__class__") "__get__" = some (some (.builtin "getset_descriptor.__get__"))
  htk : PySem.W.takesIn K (.builtin "object.__class__") = some true
  hm : PySem.W.mroIn K C (.type "object") = some true
section
variable {X : Cx} {I : Info} {c : Call} {S : NS} {Wx : WX} {N : List Str} {sc : Scope} {pos : Pos}
theorem PE.step {m : Ex} {e : Expr} (he : SE X I c S Wx m e) {pins : List (Addr × Obj)} {s : Shared} {σ : L2.St} {H : Hp} {Z : Lv} {ρ : List Addr} {h : AH} {env : Env} {γ δ : Type} {rel' : Rel γ δ} (J : Inv X pins σ H s) (r : Rl S.W Z ρ h H env σ) {f : D → AH → R γ} {Q' : δ → Hp → Prop}
    (p : Post rel' S.W Wx Z σ ρ h H Q' ((ev I c m env h).bind f)) {K : Value → Shared → Prop}
    (k : ∀ u s1 v H1 d ρ1 h1, Inv X pins σ H1 s1 → RelV v u → Rl S.W Z ρ1 h1 H1 env σ → Ext ρ h H ρ1 h1 H1 → RD S.W Z ρ1 h1 H1 v d → Post rel' S.W Wx Z σ ρ1 h1 H1 Q' (f d h1) → K u s1) : wpAny (model X.prog X.w) X.A (eval e X.env) K X.xe s :=
  thn (he.run pins s σ H (fun v H1 => ∃ d ρ1 h1, Rl S.W Z ρ1 h1 H1 env σ ∧ Ext ρ h H ρ1 h1 H1 ∧ RD S.W Z ρ1 h1 H1 v d ∧ Post rel' S.W Wx Z σ ρ1 h1 H1 Q' (f d h1)) J (tE.step r p fun d v ρ1 h1 H1 r1 E1 x1 p1 => ⟨d, ρ1, h1, r1, E1, x1, p1⟩))
    fun u s1 ⟨v, H1, I1, rv, d, ρ1, h1, r1, E1, x1, p1⟩ => k u s1 v H1 d ρ1 h1 I1 rv r1 E1 x1 p1
theorem PA.step {ms : Exs} {es : List Expr} (he : PA X es (tEs I c S.W Wx ms)) {pins : List (Addr × Obj)} {s : Shared} {σ : L2.St} {H : Hp} {Z : Lv} {ρ : List Addr} {h : AH} {env : Env} {γ δ : Type} {rel' : Rel γ δ} (J : Inv X pins σ H s) (r : Rl S.W Z ρ h H env σ) {f : List D → AH → R γ} {Q' : δ → Hp → Prop}
    (p : Post rel' S.W Wx Z σ ρ h H Q' ((evs I c ms env h).bind f)) {K : List Value → Shared → Prop}
    (k : ∀ us s1 vs H1 ds ρ1 h1, Inv X pins σ H1 s1 → Vals vs us → ds.length = evLen ms → Rl S.W Z ρ1 h1 H1 env σ → Ext ρ h H ρ1 h1 H1 → RDs S.W Z ρ1 h1 H1 vs ds → Post rel' S.W Wx Z σ ρ1 h1 H1 Q' (f ds h1) → K us s1) (pos : Pos) : wpAny (model X.prog X.w) X.A (spliced (backTo pos (starEach es X.env))) K X.xe s :=
  thn (he.run pos pins s σ H (fun vs H1 => ∃ ds ρ1 h1, ds.length = evLen ms ∧ Rl S.W Z ρ1 h1 H1 env σ ∧ Ext ρ h H ρ1 h1 H1 ∧ RDs S.W Z ρ1 h1 H1 vs ds ∧ Post rel' S.W Wx Z σ ρ1 h1 H1 Q' (f ds h1)) J ⟨Z, ρ, h, env, r, p.bind fun ds h1 ρ1 vs H1 em R1 E1 x1 p1 => ⟨ds, ρ1, h1, evs_len em, r.ext R1 E1, E1, x1, p1⟩⟩)
    fun us s1 ⟨vs, H1, I1, rv, ds, ρ1, h1, l1, r1, E1, x1, p1⟩ => k us s1 vs H1 ds ρ1 h1 I1 rv l1 r1 E1 x1 p1
theorem PK.step {ms : Exs} {kws : List Keyword} (he : PK X kws (tEs I c S.W Wx ms)) {pins : List (Addr × Obj)} {s : Shared} {σ : L2.St} {H : Hp} {Z : Lv} {ρ : List Addr} {h : AH} {env : Env} {γ δ : Type} {rel' : Rel γ δ} (J : Inv X pins σ H s) (r : Rl S.W Z ρ h H env σ) {f : List D → AH → R γ} {Q' : δ → Hp → Prop}
    (p : Post rel' S.W Wx Z σ ρ h H Q' ((evs I c ms env h).bind f)) {K : List Value → Shared → Prop}
    (k : ∀ us s1 vs H1 ds ρ1 h1, Inv X pins σ H1 s1 → Vals vs us → ds.length = evLen ms → Rl S.W Z ρ1 h1 H1 env σ → Ext ρ h H ρ1 h1 H1 → RDs S.W Z ρ1 h1 H1 vs ds → Post rel' S.W Wx Z σ ρ1 h1 H1 Q' (f ds h1) → K us s1) (pos : Pos) : wpAny (model X.prog X.w) X.A (evalAll ((backToKw pos (keywordEach kws X.env)).map (·.2))) K X.xe s :=
  thn (he.run pos pins s σ H (fun vs H1 => ∃ ds ρ1 h1, ds.length = evLen ms ∧ Rl S.W Z ρ1 h1 H1 env σ ∧ Ext ρ h H ρ1 h1 H1 ∧ RDs S.W Z ρ1 h1 H1 vs ds ∧ Post rel' S.W Wx Z σ ρ1 h1 H1 Q' (f ds h1)) J ⟨Z, ρ, h, env, r, p.bind fun ds h1 ρ1 vs H1 em R1 E1 x1 p1 => ⟨ds, ρ1, h1, evs_len em, r.ext R1 E1, E1, x1, p1⟩⟩)
    fun us s1 ⟨vs, H1, I1, rv, ds, ρ1, h1, l1, r1, E1, x1, p1⟩ => k us s1 vs H1 ds ρ1 h1 I1 rv l1 r1 E1 x1 p1
abbrev opB (o : Bool) : BoolOp := if o then .And else .Or
def tB (I : Info) (c : Call) (W : Wd) (Wx : WX) (o : Bool) (ms : Exs) : TE := fun σ H Q => ∃ Z ρ h env, Rl W Z ρ h H env σ ∧ Post (relD W Z) W Wx Z σ ρ h H Q (evB I c o ms env h)
def tBC (I : Info) (c : Call) (W : Wd) (Wx : WX) (o : Bool) (ms : Exs) : TT := fun σ H Q => ∃ Z ρ h env, Rl W Z ρ h H env σ ∧ Post relB W Wx Z σ ρ h H Q ((evB I c o ms env h).bind fun d h => R.of (truth h d) h)
theorem sb_one {o : Bool} {m : Ex} {e : Expr} (ha : SE X I c S Wx m e) : PE X (.BoolOp (opB o) [e] pos) (tB I c S.W Wx o (.cons m .nil)) := by
  refine ⟨fun pins s σ H Q J ⟨Z, ρ, h, env, r, p⟩ => ?_⟩
  refine PyProof.Rows.BoolOp_one (ha.run pins s σ H Q J ?_)
  unfold evB at p
  exact tE.step r p fun d v ρ1 h1 H1 r1 E1 x1 p1 => p1 ρ1 v H1 r1.hr (.refl _ _ _) x1
theorem sb_cons (Y : Cy X I c S Wx N sc) {o : Bool} {m : Ex} {ms : Exs} {e b : Expr} {es : List Expr} (ha : SE X I c S Wx m e) (hb : PE X (.BoolOp (opB o) (b :: es) pos) (tB I c S.W Wx o ms)) (hn : isNil ms = false) :
    PE X (.BoolOp (opB o) (e :: b :: es) pos) (tB I c S.W Wx o (.cons m ms)) := by
  have key : ∀ {σ : L2.St} {H : Hp} {Q : VK}, tB I c S.W Wx o (.cons m ms) σ H Q → tE I c S.W Wx m σ H fun x H1 => ∃ k, TruV X.K x H1 k ∧ if k = o then tB I c S.W Wx o ms σ H1 Q else Q x H1 := by
    rintro σ H Q ⟨Z, ρ, h, env, r, p⟩
    unfold evB at p
    refine tE.step r p fun d v ρ1 h1 H1 r1 E1 x1 p1 => ?_
    rw [hn] at p1
    dsimp only at p1
    cases q : truth h1 d with
    | none => rw [q] at p1; exact p1.elim
    | some k =>
      rw [q] at p1
      refine ⟨k, by rw [Y.z.k]; exact truth_ok r1.hr x1 q, ?_⟩
      dsimp only at p1
      by_cases ck : k = o
      · rw [if_pos ck] at p1 ⊢
        exact ⟨Z, ρ1, h1, env, r1, p1⟩
      · rw [if_neg ck] at p1 ⊢
        exact p1 ρ1 v H1 r1.hr (.refl _ _ _) x1
  cases o with
  | true => exact ⟨fun pins s σ H Q J q => (pe_andT ha hb).run pins s σ H Q J (key q)⟩
  | false =>
    refine ⟨fun pins s σ H Q J q => (pe_orT ha hb).run pins s σ H Q J ?_⟩
    have := key q
    obtain ⟨Z, ρ, h, env, r, p⟩ := this
    refine ⟨Z, ρ, h, env, r, p.mono fun v H' ⟨k, t, q⟩ => ⟨k, t, ?_⟩⟩
    cases k with
    | true => exact q
    | false => exact q
theorem Post.test {W : Wd} {Z : Lv} {σ : L2.St} {ρ : List Addr} {h : AH} {H : Hp} {Q : Bool → Hp → Prop} {m : R D} {G : D → AH → R Bool} {F : Bool → AH → R Bool} (p : Post relB W Wx Z σ ρ h H Q (m.bind G)) (hG : ∀ d h, G d h = (R.of (truth h d) h).bind F) :
    Post relB W Wx Z σ ρ h H Q ((m.bind fun d h => R.of (truth h d) h).bind F) := by
  rw [bind_assoc']
  have e : G = fun d h => (R.of (truth h d) h).bind F := by funext d h; exact hG d h
  rw [← e]
  exact p
theorem sbc_one {o : Bool} {m : Ex} {e : Expr} (ha : STt X I c S Wx m e) : PW X (.BoolOp (opB o) [e] pos) (tBC I c S.W Wx o (.cons m .nil)) := by
  refine ⟨fun wh pins s σ H Q J ⟨Z, ρ, h, env, r, p⟩ => ?_⟩
  have q : tC I c S.W Wx m σ H Q := by
    unfold evB at p
    refine ⟨Z, ρ, h, env, r, ?_⟩
    rw [bind_assoc'] at p
    exact p
  cases o with
  | true => exact (pw_and1 ha).run wh pins s σ H Q J q
  | false => exact (pw_or1 ha).run wh pins s σ H Q J q
theorem sbc_cons {o : Bool} {m : Ex} {ms : Exs} {e b : Expr} {es : List Expr} (ha : STt X I c S Wx m e) (hb : PW X (.BoolOp (opB o) (b :: es) pos) (tBC I c S.W Wx o ms)) (hn : isNil ms = false) :
    PW X (.BoolOp (opB o) (e :: b :: es) pos) (tBC I c S.W Wx o (.cons m ms)) := by
  have key : ∀ {σ : L2.St} {H : Hp} {Q : Bool → Hp → Prop}, tBC I c S.W Wx o (.cons m ms) σ H Q → tC I c S.W Wx m σ H fun k H1 => if k = o then tBC I c S.W Wx o ms σ H1 Q else Q k H1 := by
    rintro σ H Q ⟨Z, ρ, h, env, r, p⟩
    refine ⟨Z, ρ, h, env, r, ?_⟩
    unfold evB at p
    rw [bind_assoc'] at p
    have p := Post.test (F := fun k h => if k = o then (evB I c o ms env h).bind fun d h => R.of (truth h d) h else .ok k h) p fun x h => by
      rw [hn]
      cases q : truth h x with
      | none => rfl
      | some k =>
        show R.bind (if k = o then evB I c o ms env h else R.ok x h) _ = if k = o then _ else _
        by_cases ck : k = o
        · rw [if_pos ck, if_pos ck]
        · rw [if_neg ck, if_neg ck]; show R.of (truth h x) h = _; rw [q]; rfl
    refine p.bind fun k h1 ρ1 k' H1 _ R1 E1 ek p1 => ?_
    subst ek
    by_cases ck : k' = o
    · rw [if_pos ck] at p1 ⊢
      exact ⟨Z, ρ1, h1, env, r.ext R1 E1, p1⟩
    · rw [if_neg ck] at p1 ⊢
      exact p1 ρ1 k' H1 R1 (.refl _ _ _) rfl
  cases o with
  | true =>
    refine ⟨fun wh pins s σ H Q J q => (pw_and ha hb).run wh pins s σ H Q J ?_⟩
    obtain ⟨Z, ρ, h, env, r, p⟩ := key q
    refine ⟨Z, ρ, h, env, r, p.mono fun v H' q => ?_⟩
    cases v with
    | true => exact q
    | false => exact q
  | false =>
    refine ⟨fun wh pins s σ H Q J q => (pw_or ha hb).run wh pins s σ H Q J ?_⟩
    obtain ⟨Z, ρ, h, env, r, p⟩ := key q
    refine ⟨Z, ρ, h, env, r, p.mono fun v H' q => ?_⟩
    cases v with
    | true => exact q
    | false => exact q
theorem se_bool {o : Bool} {ms : Exs} {es : List Expr} (h : PE X (.BoolOp (opB o) es pos) (tB I c S.W Wx o ms)) : SE X I c S Wx (.bool o ms) (.BoolOp (opB o) es pos) := by
  refine ⟨fun pins s σ H Q J ⟨Z, ρ, hh, env, r, p⟩ => h.run pins s σ H Q J ⟨Z, ρ, hh, env, r, ?_⟩⟩
  unfold ev at p; exact p
theorem st_bool {o : Bool} {ms : Exs} {es : List Expr} (h : PW X (.BoolOp (opB o) es pos) (tBC I c S.W Wx o ms)) : STt X I c S Wx (.bool o ms) (.BoolOp (opB o) es pos) := by
  refine ⟨fun pins s σ H Q J ⟨Z, ρ, hh, env, r, p⟩ => h.run _ pins s σ H Q J ⟨Z, ρ, hh, env, r, ?_⟩⟩
  unfold ev at p; exact p
def tPa (I : Info) (c : Call) (W : Wd) (Wx : WX) (m : Ex) : TO := fun σ H Q => tE I c W Wx m σ H fun x H1 => (∃ i, x = .int i ∧ Q (some i) H1) ∨ (x = .non ∧ Q none H1)
theorem po_no {m : Ex} (h : isNo m = true) : PO X none (tPa I c S.W Wx m) := by
  refine ⟨fun pins s σ H Q J ⟨Z, ρ, hh, env, r, p⟩ => po_none.run pins s σ H Q J ?_⟩
  cases m <;> first | cases h | skip
  unfold ev at p
  rcases p ρ .non H r.hr (.refl _ _ _) (.t .non) with ⟨_, e, _⟩ | ⟨_, q⟩
  · cases e
  · exact q
theorem po_ex {m : Ex} {e : Expr} (he : SE X I c S Wx m e) : PO X (some e) (tPa I c S.W Wx m) := by
  refine ⟨fun pins s σ H Q J hw => ?_⟩
  rw [evalPart_some]
  refine thn (he.run pins s σ H _ J hw) fun u s1 ⟨x, H1, I1, r1, q1⟩ => ?_
  rcases q1 with ⟨i, rfl, q⟩ | ⟨rfl, q⟩
  · obtain ⟨t, rfl⟩ := r1
    exact ⟨some i, H1, I1, .int i t, q⟩
  · obtain rfl : u = Value.none := r1
    exact ⟨none, H1, I1, .none, q⟩
theorem oInt_ok {W : Wd} {Z : Lv} {ρ : List Addr} {h : AH} {H : Hp} {v : V} {d : D} (x : RD W Z ρ h H v d) (e : (oInt d).isSome = true) : (∃ i, v = .int i ∧ oInt d = some (some i)) ∨ (v = .non ∧ oInt d = some none) := by
  cases d with
  | r n => cases e
  | t y =>
    cases y <;> first | cases e | skip
    · exact .inr ⟨x.non, rfl⟩
    · exact .inl ⟨_, x.int, rfl⟩
theorem se_slc (Y : Cy X I c S Wx N sc) {a lo hi : Ex} {e : Expr} {l u : Option Expr} {p2 : Pos} (ha : SE X I c S Wx a e) (hl : PO X l (tPa I c S.W Wx lo)) (hu : PO X u (tPa I c S.W Wx hi)) : SE X I c S Wx (.slc a lo hi) (.Subscript e (.Slice l u none p2) pos) := by
  refine ⟨fun pins s σ H Q J ⟨Z, ρ, h, env, r, p⟩ => ?_⟩
  have hr : SlR X (fun x l u H Q => ∃ (Z : Lv) (ρ : List Addr) (h : AH) (dx a b : D) (σ : L2.St), oInt a = some l ∧ oInt b = some u ∧ HRel S.W Z ρ h H ∧ RD S.W Z ρ h H x dx ∧ Post (relD S.W Z) S.W Wx Z σ ρ h H Q (slcD dx a b h)) :=
    fun pins s σ H x v vl vu lo hi sl Q J rx hs pl pu q => slc_val Y.z (lo := lo) (hi := hi) pins s σ H x v vl vu lo hi sl Q J rx hs pl pu ⟨rfl, rfl, q⟩
  refine (pe_slice hr ha hl hu).run pins s σ H Q J ?_
  unfold ev at p
  refine tE.step r p fun d v ρ1 h1 H1 r1 E1 x1 p1 => ?_
  refine tE.step r1 p1 fun d2 v2 ρ2 h2 H2 r2 E2 x2 p2 => ?_
  split at p2
  · rename_i hs
    have hk : ∀ o, oInt d2 = some o → tPa I c S.W Wx hi σ H2 fun u H3 => ∃ (Z : Lv) (ρ : List Addr) (h : AH) (dx a b : D) (σ : L2.St), oInt a = some o ∧ oInt b = some u ∧ HRel S.W Z ρ h H3 ∧ RD S.W Z ρ h H3 v dx ∧ Post (relD S.W Z) S.W Wx Z σ ρ h H3 Q (slcD dx a b h) := fun o eo => by
      refine tE.step r2 p2 fun d3 v3 ρ3 h3 H3 r3 E3 x3 p3 => ?_
      have hs3 : (oInt d3).isSome = true := by
        cases q : oInt d3 with
        | some _ => rfl
        | none => unfold slcD at p3; rw [eo, q] at p3; exact p3.elim
      rcases oInt_ok x3 hs3 with ⟨i, e3, eo3⟩ | ⟨e3, eo3⟩
      · exact .inl ⟨i, e3, Z, ρ3, h3, d, d2, d3, σ, eo, eo3, r3.hr, (x1.ext E2).ext E3, p3⟩
      · exact .inr ⟨e3, Z, ρ3, h3, d, d2, d3, σ, eo, eo3, r3.hr, (x1.ext E2).ext E3, p3⟩
    rcases oInt_ok x2 hs with ⟨i, e2, eo⟩ | ⟨e2, eo⟩
    · exact .inl ⟨i, e2, hk _ eo⟩
    · exact .inr ⟨e2, hk _ eo⟩
  · exact p2.elim
theorem se_chain (Y : Cy X I c S Wx N sc) {o o' : Cop} {a b d : Ex} {ea eb ed : Expr} (ha : SE X I c S Wx a ea) (hb : SE X I c S Wx b eb) (hd : SE X I c S Wx d ed) (hm : lastMarks [copr o, copr o'] [eb, ed] = false) : SE X I c S Wx (.chain o o' a b d) (.Compare ea [copr o, copr o'] [eb, ed] pos) := by
  refine ⟨fun pins s σ H Q J ⟨Z, ρ, h, env, r, p⟩ => ?_⟩
  unfold ev at p
  refine PyProof.Rows.Compare_chain (PE.step ha J r p fun v s1 x H1 dx ρ1 h1 I1 rx r1 E1 x1 p1 => ?_) hm
  refine PyProof.Rows.chain_link (PE.step hb I1 r1 p1 fun u s2 y H2 dy ρ2 h2 I2 ry r2 E2 y2 p2 => ?_)
  have x2 := x1.ext E2
  have p3 : Post (relD S.W Z) S.W Wx Z σ ρ2 h2 H2 (fun z H3 => ∃ k, z = .bl k ∧ if k = true then ∃ ρ h, Rl S.W Z ρ h H3 env σ ∧ RD S.W Z ρ h H3 y dy ∧ Post (relD S.W Z) S.W Wx Z σ ρ h H3 Q ((ev I c d env h).bind fun z h => cmpD I c o' dy z h) else Q (.bl false) H3) (cmpD I c o dx dy h2) := p2.bind fun d3 h3 ρ3 v3 H3 em R3 E3 x3 p3 => by
    split at p3
    · exact ⟨true, x3.bl, ⟨ρ3, h3, r2.ext R3 E3, y2.ext E3, p3⟩⟩
    · exact ⟨false, x3.bl, p3 ρ3 _ H3 R3 (.refl _ _ _) (.t (.bl _))⟩
    · exact p3.elim
  refine thn (cmp_val Y.z I2 r2.hr x2 y2 rx ry p3) fun w s3 ⟨z, H3, I3, r3, k, ez, q3⟩ => ?_
  subst ez
  cases r3
  refine wpAny_truthy_bool ?_
  cases k with
  | false => exact PyProof.Rows.ite_ff ⟨.bl false, H3, I3, rfl, q3⟩
  | true =>
    obtain ⟨ρ3, h3, r3, y3, p4⟩ := q3
    refine PyProof.Rows.ite_tt (PyProof.Rows.chain_last (PE.step hd I3 r3 p4 fun w' s4 z' H4 dz ρ4 h4 I4 r4' r4 E4 z4 p5 => ?_))
    exact cmp_val Y.z I4 r4.hr (y3.ext E4) z4 ry r4' p5
def tyS : Ty → String
  | .int => "int"
  | .bool => "bool"
  | .str => "str"
  | .tuple => "tuple"
  | .list => "list"
  | .cls _ => ""
def tyV (W : Wd) : Ty → V
  | .cls k => .ref (W.ca k)
  | t => .ty (tyS t)
def tyU (W : Wd) : Ty → Value
  | .cls k => .ref (W.ca k)
  | t => .type (tyS t)
theorem tyClsV (W : Wd) (t : Ty) : ClsV (tyV W t) (tyU W t) := by
  cases t <;> first | exact .ty _ | exact .own _
theorem tyV_ty {W : Wd} {t : Ty} (h : t.isC = false) : tyU W t = .type (tyS t) := by
  cases t <;> first | rfl | cases h
theorem ref_none {x : T} : clsOf [] (.t x) = clsOf [] (.t x) := rfl
theorem isi_ty {W : Wd} {Z : Lv} {ρ : List Addr} {h : AH} {H : Hp} {x : V} {dx : D} {t : Ty} {b : Bool} (R0 : HRel W Z ρ h H) (x1 : RD W Z ρ h H x dx) (hc : ∀ k, t = .cls k → IsiC W.K (W.ca k)) (e : isiD h dx t = some b) : ∃ tv, TyX W.K H x tv ∧ PySem.W.kitOne W.K tv (tyU W t) = some b := by
  unfold isiD at e
  split at e
  · rename_i k ek
    split at e
    · rename_i ht
      cases e
      subst ht
      obtain ⟨a, dxx, fs, rfl, ea, _⟩ := x1.insOf R0 ek
      have C := hc k rfl
      refine ⟨.ref (W.ca k), .base (.ins ea C.cl C.ha C.hn C.htk C.hm), ?_⟩
      show (if ((Value.ref (W.ca k)) == (Value.ref (W.ca k))) = true then some true else _) = some true
      rw [if_pos (by first | exact beq_self_eq_true (Value.ref (W.ca k)) | simp)]
    · cases e
  · split at e
    · cases e
    · rename_i hC
      have hC : t.isC = false := by cases q : t.isC with | false => rfl | true => exact absurd q hC
      rw [tyV_ty hC]
      split at e
      · cases e; cases x1.int
        exact ⟨_, .base (.int _), kit_ty (by cases t <;> first | (cases hC; done) | decide +kernel)⟩
      · cases e; cases x1.bl
        exact ⟨_, .base (.bl _), kit_ty (by cases t <;> first | (cases hC; done) | decide +kernel)⟩
      · cases e; obtain ⟨rfl, _⟩ := x1.str
        exact ⟨_, .base (.str _), kit_ty (by cases t <;> first | (cases hC; done) | decide +kernel)⟩
      · cases e
        obtain ⟨a, vs, rfl, k, _⟩ := x1.tup
        have z : kitB "tuple" (tyS t) = some (decide (t = .tuple)) := by cases t <;> first | (cases hC; done) | decide +kernel
        rcases k with k | ⟨o, _, _, e1, e2, _⟩
        · exact ⟨_, .base (.tup k.1), kit_ty z⟩
        · exact ⟨_, .kTuple e1 e2, kit_ty z⟩
      · cases e
        obtain ⟨a, vs, rfl, k, _⟩ := x1.lst
        exact ⟨_, .base (.lst k.1), kit_ty (by cases t <;> first | (cases hC; done) | decide +kernel)⟩
      · cases e; cases x1.non
        exact ⟨_, .base .non, kit_ty (by cases t <;> first | (cases hC; done) | decide +kernel)⟩
      · cases e
        obtain ⟨a, kvs, rfl, hd, _⟩ := x1.dctOf R0 rfl
        have z : kitB "dict" (tyS t) = some false := by cases t <;> first | (cases hC; done) | decide +kernel
        rcases hd with hd | ⟨o, hd⟩
        · exact ⟨_, .base (.dK hd), kit_ty z⟩
        · exact ⟨_, .fDict hd, kit_ty z⟩
      · rename_i n _
        cases q : h[n]? with
        | none => simp only [q] at e; cases e
        | some o =>
          simp only [q] at e
          cases o with
          | lst ds =>
            cases e
            obtain ⟨a, vs, rfl, k, _⟩ := x1.lstOf R0 (show lstOf h (.r n) = some ds by unfold lstOf; simp only [q])
            exact ⟨_, .base (.lst k), kit_ty (by cases t <;> first | (cases hC; done) | decide +kernel)⟩
          | _ => cases e
      · cases e
end
end Kp
set_option autoImplicit false
set_option maxRecDepth 10000
set_option maxHeartbeats 2000000
namespace Kp
open PySem L2
def IterK (X : Cx) (I : Info) (S : NS) : Prop :=
  ∀ (k f : Nat) (pins : List (Addr × Obj)) (s : Shared) (σ : L2.St) (H : Hp) (a dx l : Addr) (fs : List (Str × V)) (vs : List V) (Q : VK), I.iter k = some f → Inv X pins σ H s → H a = some (.ins (S.W.ca k) dx fs) → fs.lookup (S.W.fnm f) = some (.ref l) → SqL X.K H l vs →
    (∀ p, H p = none → Q (.ref p) (upd H p (.lst vs))) → wpAny (model X.prog X.w) X.A (call (.type "list") [.ref a]) (EP X pins σ Q) X.xe s
structure Cw (X : Cx) (I : Info) (c : Call) (S : NS) (Wx : WX) (N : List Str) (sc : Scope) : Prop where
  y : Cy X I c S Wx N sc
  isic : ∀ k x, S.cnm k = some x → IsiC S.W.K (S.W.ca k)
  iterk : IterK X I S
  iterf : ∀ k f, I.iter k = some f → I.fld k f = true
section
variable {X : Cx} {I : Info} {c : Call} {S : NS} {Wx : WX} {N : List Str} {sc : Scope} {pos : Pos}
theorem bl_boot {x : Str} (h : x ∈ bltNames) : x ≠ "__name__" ∧ (x == ("__debug__" : Str)) = false := by
  revert x; decide +kernel
theorem bnm_mem {b : Bi} (h : ∀ t, b ≠ .isi t) (h1 : b ≠ .rev) (h2 : b ≠ .index) (h5 : b ≠ .keys) (h6 : b ≠ .dcp) : bnm b ∈ bltNames := by
  cases b <;> first | (exact absurd rfl (h _)) | contradiction | decide +kernel
theorem bfun_boot {b : Bi} (h : ∀ t, b ≠ .isi t) (h1 : b ≠ .rev) (h2 : b ≠ .index) (h5 : b ≠ .keys) (h6 : b ≠ .dcp) : bootBuiltins (bnm b) = some (bfun b) := by
  cases b <;> first | (exact absurd rfl (h _)) | contradiction | decide +kernel
theorem bfun_kind {b : Bi} (h : ∀ t, b ≠ .isi t) (h1 : b ≠ .rev) (h2 : b ≠ .index) (h5 : b ≠ .keys) (h6 : b ≠ .dcp) : (∃ id, bfun b = .builtin id) ∨ ∃ T, bfun b = .type T := by
  cases b <;> first | (exact absurd rfl (h _)) | contradiction | exact .inl ⟨_, rfl⟩ | exact .inr ⟨_, rfl⟩
theorem wp_blt (Y : Cy X I c S Wx N sc) {b : Bi} (h : ∀ t, b ≠ .isi t) (h1 : b ≠ .rev) (h2 : b ≠ .index) (h5 : b ≠ .keys) (h6 : b ≠ .dcp) {pins : List (Addr × Obj)} {s : Shared} {σ : L2.St} {H : Hp} {p : Pos} {e : Expr} {es : List Expr} {Q : VK} (J : Inv X pins σ H s) (hg : glB sc (bnm b) = true) (hn : noStar e = true) (hns : es.all noStar = true)
    (hw : wpAny (model X.prog X.w) X.A (spliced (backTo pos (starEach (e :: es) X.env))) (fun us s1 => wpAny (model X.prog X.w) X.A (call (bfun b) us) (EP X pins σ Q) X.xe s1) X.xe s) : wpAny (model X.prog X.w) X.A (eval (.Call (.Name (bnm b) p) (e :: es) [] pos) X.env) (EP X pins σ Q) X.xe s := by
  have hm := bnm_mem h h1 h2 h5 h6
  obtain ⟨n1, n2⟩ := bl_boot hm
  refine wpAny_Call_Name_kw (ld_blt J (gl_of Y hg) (Y.blt _ hm) (bfun_boot h h1 h2 h5 h6) ?_ n1 n2)
  have hs := starEach_cons hn es X.env
  have hp := backTo_plain pos X.env es hns
  rcases bfun_kind h h1 h2 h5 h6 with ⟨id, e⟩ | ⟨T, e⟩
  · rw [e] at hw ⊢
    exact PyProof.Rows.callWith_builtin1 hw hs hp
  · rw [e] at hw ⊢
    exact PyProof.Rows.callWith_type1 hw hs hp
theorem iter_ok {W : Wd} {Z : Lv} {ρ : List Addr} {h : AH} {H : Hp} {x : V} {dx : D} {ts : List T} (fac : Facts I W) (hf : ∀ k f, I.iter k = some f → I.fld k f = true) (R0 : HRel W Z ρ h H) (x1 : RD W Z ρ h H x dx) (e : iterB I h dx = some ts) :
    ∃ a k f dxx fs l vs, x = .ref a ∧ I.iter k = some f ∧ H a = some (.ins (W.ca k) dxx fs) ∧ fs.lookup (W.fnm f) = some (.ref l) ∧ PL W (lv Z ρ h) H l vs ∧ RTs W Z ρ h H vs ts := by
  unfold iterB at e
  split at e
  · rename_i k ek
    split at e
    · rename_i f ef
      split at e
      · rename_i us eu
        cases e
        obtain ⟨a, dxx, fs, rfl, ea, ks, ds, e1, e2, e3, e4⟩ := x1.insOf R0 ek
        rw [e4 f] at eu
        obtain ⟨v, lv, rv⟩ := lk_fld e1 (fun g hg z => fac.finj k g f (by rw [← fac.feq]; exact e2 g hg) (hf k f ef) z) e3 eu
        obtain ⟨l, vs, rfl, pl, rs⟩ := rv.lst
        exact ⟨a, k, f, dxx, fs, l, vs, rfl, ef, ea, lv, pl, rs⟩
      · cases e
    · cases e
  · cases e
theorem items_iter {ds : List D} {h : AH} {dx : D} (k : ((lstOf h dx).isSome || (tupOf dx).isSome) = false) (e : itemsOf I h dx = some ds) : ∃ ts, iterB I h dx = some ts ∧ ds = ts.map .t := by
  unfold itemsOf at e
  cases q : lstOf h dx with
  | some _ => rw [q] at k; cases k
  | none =>
    rw [q] at k e
    cases q2 : tupOf dx with
    | some _ => rw [q2] at k; cases k
    | none =>
      rw [q2] at e
      obtain ⟨ts, e1, rfl⟩ := Option.map_eq_some_iff.mp e
      exact ⟨ts, e1, rfl⟩
theorem bi_one (Y : Cw X I c S Wx N sc) {b : Bi} (h0 : ∀ t, b ≠ .isi t) (h1 : b ≠ .rev) (h5 : b ≠ .keys) (h6 : b ≠ .dcp) {Z : Lv} {ρ : List Addr} {h : AH} {H : Hp} {pins : List (Addr × Obj)} {s : Shared} {σ : L2.St} {x : V} {v : Value} {dx : D} {Q : VK} (J : Inv X pins σ H s) (R0 : HRel S.W Z ρ h H) (x1 : RD S.W Z ρ h H x dx) (rx : RelV x v)
    (p : Post (relD S.W Z) S.W Wx Z σ ρ h H Q (biD I c b [dx] h)) : wpAny (model X.prog X.w) X.A (call (bfun b) [v]) (EP X pins σ Q) X.xe s := by
  have p : Post (relD S.W Z) S.W Wx Z σ ρ h H Q (if biOk I h b dx then biD0 I c b [dx] h else .no) := p
  cases hok : biOk I h b dx with
  | false => rw [hok, if_neg Bool.false_ne_true] at p; exact p.elim
  | true =>
    rw [hok, if_pos rfl] at p
    cases hp : plainBi h b dx with
    | true => exact bi1_val Y.y.z J R0 x1 rx hp p
    | false =>
      unfold biOk at hok
      rw [hp, Bool.false_or] at hok
      cases b with
      | rev => exact absurd rfl h1
      | keys => exact absurd rfl h5
      | dcp => exact absurd rfl h6
      | isi t => exact absurd rfl (h0 t)
      | list =>
        have p : Post (relD S.W Z) S.W Wx Z σ ρ h H Q (match itemsOf I h dx with
          | some ds => frzLst ds h
          | none => .no) := p
        split at p
        · rename_i ds ed
          obtain ⟨ts, et, rfl⟩ := items_iter hp ed
          obtain ⟨a, k, f, dxx, fs, l, vs, rfl, ef, ea, ll, pl, rs⟩ := iter_ok Y.y.z.fac Y.iterf R0 x1 et
          obtain rfl : v = .ref a := rx
          obtain ⟨ts2, h', R1, E1, T1, _, p⟩ := Post.frzs R0 (.of_ts rs) p
          exact Y.iterk k f pins s σ H a dxx l fs vs Q ef J ea ll (.inl (.inl pl.1)) (Post.newL R1 T1 p)
        · exact p.elim
      | listL =>
        have p : Post (relD S.W Z) S.W Wx Z σ ρ h H Q (match itemsOf I h dx with
          | some ds => (frzsR ds h).bind fun ts h => .ok (.r h.length) (h ++ [.lst (ts.map .t)])
          | none => .no) := p
        split at p
        · rename_i ds ed
          obtain ⟨ts, et, rfl⟩ := items_iter hp ed
          obtain ⟨a, k, f, dxx, fs, l, vs, rfl, ef, ea, ll, pl, rs⟩ := iter_ok Y.y.z.fac Y.iterf R0 x1 et
          obtain rfl : v = .ref a := rx
          obtain ⟨ts2, h', R1, E1, T1, _, p⟩ := Post.frzs R0 (.of_ts rs) p
          exact Y.iterk k f pins s σ H a dxx l fs vs Q ef J ea ll (.inl (.inl pl.1)) (Post.liveL R1 (.of_ts T1) p)
        · exact p.elim
      | _ => cases hok
theorem se_bi (Y : Cw X I c S Wx N sc) {b : Bi} (h0 : ∀ t, b ≠ .isi t) (h1 : b ≠ .rev) (h2 : b ≠ .index) (h5 : b ≠ .keys) (h6 : b ≠ .dcp) {ms : Exs} {e : Expr} {es : List Expr} {p : Pos} (ha : PA X (e :: es) (tEs I c S.W Wx ms)) (hg : glB sc (bnm b) = true) (hn : noStar e = true) (hns : es.all noStar = true) : SE X I c S Wx (.bi b ms) (.Call (.Name (bnm b) p) (e :: es) [] pos) := by
  refine ⟨fun pins s σ H Q J ⟨Z, ρ, h, env, r, p⟩ => ?_⟩
  refine wp_blt Y.y h0 h1 h2 h5 h6 J hg hn hns ?_
  unfold ev at p
  refine PA.step ha J r p (fun us s1 vs H1 ds ρ1 hh1 I1 rv l1 r1 E1 x1 p1 => ?_) pos
  cases x1 with
  | nil => exact p1.elim
  | @cons v vs d ds a x1 =>
    cases x1 with
    | nil =>
      obtain ⟨u, rfl, ru⟩ := vals1 rv
      exact bi_one Y h0 h1 h5 h6 I1 r1.hr a ru p1
    | @cons v2 vs d2 ds a2 x1 =>
      cases x1 with
      | cons => exact p1.elim
      | nil =>
        cases b <;> first | exact p1.elim | skip
        · have p1 : Post (relD S.W Z) S.W Wx Z σ ρ1 hh1 H1 Q (match int2 d d2 with
            | some (i, j) => .ok (.t (.int (if j > i then j else i))) hh1
            | none => .no) := p1
          split at p1
          · rename_i i j eij
            obtain ⟨rfl, rfl⟩ := int2_ok eij
            cases a.int
            cases a2.int
            exact call_max2 Y.y.z.calm pins s1 σ H1 _ _ Q I1 rv ⟨i, j, rfl, p1.fin r1.hr (.int _)⟩
          · exact p1.elim
        · exact absurd rfl h2
theorem bi_ex1 {b : Bi} {m : Ex} {env : Env} {h : AH} : ev I c (.bi b (.cons m .nil)) env h = (ev I c m env h).bind fun d h => biD I c b [d] h := by
  show ((ev I c m env h).bind fun d h => (R.ok [] h).bind fun ds h => R.ok (d :: ds) h).bind _ = _
  rw [bind_assoc']
  rfl
theorem se_rev (Y : Cw X I c S Wx N sc) {m : Ex} {e : Expr} {k : Nat} {p1 p2 p3 : Pos} (ha : SE X I c S Wx m e) : SE X I c S Wx (.bi .rev (.cons m .nil)) (.Subscript e (.Slice none none (some (.UnaryOp .USub (.Constant (.int 1) k p1) p2)) p3) pos) := by
  refine ⟨fun pins s σ H Q J ⟨Z, ρ, h, env, r, p⟩ => ?_⟩
  refine (pe_revL ha).run pins s σ H Q J ?_
  rw [bi_ex1] at p
  refine tE.step r p fun d v ρ1 h1 H1 r1 E1 x1 p1 => ?_
  have p1 : Post (relD S.W Z) S.W Wx Z σ ρ1 h1 H1 Q (match lstOf h1 d with
    | some ds => frzLst ds.reverse h1
    | none => .no) := p1
  split at p1
  · rename_i ds ed
    obtain ⟨a, vs, rfl, ka, rs⟩ := x1.lstOf r1.hr ed
    have rs' : RDs S.W Z ρ1 h1 H1 vs.reverse ds.reverse := RepDs.reverse rs
    obtain ⟨ts, h', R1, E2, T1, _, p2⟩ := Post.frzs r1.hr rs' p1
    exact ⟨a, vs, rfl, .of ka, Post.newL R1 T1 p2⟩
  · exact p1.elim
theorem se_isi (Y : Cw X I c S Wx N sc) {m : Ex} {e : Expr} {t : Ty} {x z : Str} {p p2 : Pos} (ha : SE X I c S Wx m e) (hn : noStar e = true) (hx : x = bnm (.isi t)) (hg : glB sc x = true) (hz : glB sc z = true) (ho : okName z = true) (ht : match t with | .cls k => S.cnm k = some z | t => tynm t = some z) :
    SE X I c S Wx (.bi (.isi t) (.cons m .nil)) (.Call (.Name x p) [e, .Name z p2] [] pos) := by
  have hx : x = ("isinstance" : Str) := hx
  subst hx
  refine ⟨fun pins s σ H Q J ⟨Z, ρ, h, env, r, p⟩ => ?_⟩
  rw [bi_ex1] at p
  obtain ⟨o1, o2, o3⟩ := okn ho
  have hc : PE X (.Name z p2) (L2.tC (tyV S.W t)) := by
    cases t with
    | cls k => exact pe_glob (gl_of Y.y hz) (Y.y.cnk k z ht).1 rfl o1
    | _ => cases ht; exact pe_bltn (gl_of Y.y hz) (Y.y.blt _ (by decide +kernel)) (by decide +kernel) rfl (by decide +kernel) (by decide +kernel)
  have hA := pa_cons ha (pa_cons hc pa_nil (by rfl)) (starEach_cons hn [.Name z p2] X.env)
  refine wpAny_Call_Name_kw (ld_blt J (gl_of Y.y hg) (Y.y.blt _ (by decide +kernel)) (u := .builtin "isinstance") (by decide +kernel) ?_ (by decide +kernel) (by decide +kernel))
  refine PyProof.Rows.callWith_builtin1 (thn (hA.run pos pins s σ H (fun vs H1 => ∃ v, vs = [v, tyV S.W t] ∧ ∃ d ρ h, HRel S.W Z ρ h H1 ∧ RD S.W Z ρ h H1 v d ∧ Post (relD S.W Z) S.W Wx Z σ ρ h H1 Q (biD I c (.isi t) [d] h)) J (tE.step r p fun d v ρ1 h1 H1 r1 E1 x1 p1 => ⟨v, rfl, d, ρ1, h1, r1.hr, x1, p1⟩)) fun us s1 ⟨vs, H1, I1, rv, v, ev, d, ρ1, h1, R1, x1, p1⟩ => ?_) (starEach_cons hn _ _) (by rfl)
  subst ev
  have p1 : Post (relD S.W Z) S.W Wx Z σ ρ1 h1 H1 Q (R.of ((isiD h1 d t).map bD) h1) := by
    have q : (if biOk I h1 (.isi t) d then biD0 I c (.isi t) [d] h1 else .no) = biD0 I c (.isi t) [d] h1 := by
      rw [if_pos (by unfold biOk; simp)]
    exact (congrArg (Post (relD S.W Z) S.W Wx Z σ ρ1 h1 H1 Q) q).mp p1
  obtain ⟨b', eb, p1⟩ := p1.of
  obtain ⟨b, e1, rfl⟩ := Option.map_eq_some_iff.mp eb
  obtain ⟨tv, hty, hk⟩ := isi_ty R1 x1 (fun k ek => by subst ek; exact Y.isic k z ht) e1
  exact call_isi pins s1 σ H1 _ _ Q I1 rv ⟨v, tyV S.W t, tv, tyU S.W t, b, rfl, tyClsV S.W t, by rw [Y.y.z.k]; exact hty, by rw [Y.y.z.k]; exact hk, p1.fin R1 (.bl _)⟩
theorem kw_names (ps : List Str) (pos : Pos) (env : PySem.Env) : ∀ (kns : List Nat) (kws : List Keyword), mKns ps kns kws = true → ∃ xs : List Str, kns.map (fun n => ps[n]?) = xs.map some ∧ (backToKw pos (keywordEach kws env)).filterMap (·.1) = xs ∧ (backToKw pos (keywordEach kws env)).all (·.1.isSome) = true ∧ (backToKw pos (keywordEach kws env)).any (·.1.isNone) = false ∧ kns.length = (kwVals kws).length
  | [], [], _ => ⟨[], rfl, rfl, rfl, rfl, rfl⟩
  | [], _ :: _, h => by cases h
  | _ :: _, [], h => by cases h
  | n :: ns, ⟨none, e, kp⟩ :: ks, h => by cases h
  | n :: ns, ⟨some x, e, kp⟩ :: ks, h => by
    obtain ⟨h1, h2⟩ := ba (show (decide (ps[n]? = some x) && mKns ps ns ks) = true from h)
    obtain ⟨xs, e1, e2, e3, e4, e5⟩ := kw_names ps pos env ns ks h2
    refine ⟨x :: xs, ?_, ?_, ?_, ?_, ?_⟩
    · rw [List.map_cons, List.map_cons, e1, of_decide_eq_true h1]
    · show x :: (backToKw pos (keywordEach ks env)).filterMap (·.1) = x :: xs
      rw [e2]
    · show (true && (backToKw pos (keywordEach ks env)).all (·.1.isSome)) = true
      rw [e3]; rfl
    · show (false || (backToKw pos (keywordEach ks env)).any (·.1.isNone)) = false
      rw [e4]; rfl
    · show ns.length + 1 = (kwVals ks).length + 1
      rw [e5]
theorem base_of {e : Expr} (h : plBase e = true) (n : Str) (env : PySem.Env) (whole : Sem Value) : attributeBase e n env whole = whole := by
  cases e with
  | Call f l k p =>
    cases f with
    | Name x q =>
      cases l with
      | nil =>
        cases k with
        | nil => cases h
        | cons _ _ => rfl
      | cons _ _ => rfl
    | _ => rfl
  | _ => rfl
theorem backTo_all (pos : Pos) (env : PySem.Env) : ∀ es : List Expr, es.all noStar = true → (backTo pos (starEach es env)).all (!·.1) = true
  | [], _ => rfl
  | e :: es, h => by
    obtain ⟨h1, h2⟩ := all_cons h
    have := backTo_all pos env es h2
    rw [starEach_cons h1]
    unfold backTo at *
    simpa using this
theorem meth_eq {e : Expr} {n : Str} {ap pos : Pos} {l : List Expr} {kws : List Keyword} {env : PySem.Env} (hb : plBase e = true) (hp : (ap.endLine == pos.line) = true) (hl : l.length + kws.length < 29) (hns : l.all noStar = true) (hk : (backToKw pos (keywordEach kws env)).all (·.1.isSome) = true) : eval (.Call (.Attribute e n ap) l kws pos) env = (do
      let ov ← eval e env
      standAt ap.atName
      let (f, first) ← holding [ov] (getMethod ov n (do return (← importBound e env).getD true))
      callWith pos f first (backTo pos (starEach l env)) (backToKw pos (keywordEach kws env))) := by
  have hf : methodCallForm (l.length + kws.length) (backTo pos (starEach l env)) (backToKw pos (keywordEach kws env)) = true := by
    unfold methodCallForm
    rw [backTo_all pos env l hns, hk]
    show (true && true && decide (l.length + kws.length + (if (backToKw pos (keywordEach kws env)).isEmpty then 0 else 1) < 30)) = true
    simp only [Bool.and_self, Bool.true_and]
    refine decide_eq_true ?_
    split <;> omega
  show (do
    let ov ← attributeBase e n env (eval e env)
    standAt ap.atName
    methodCall e n ap pos env ov (l.length + kws.length) (backTo pos (starEach l env)) (backToKw pos (keywordEach kws env))) = _
  rw [base_of hb]
  unfold methodCall calleeOf methodCallPos
  rw [hf]
  simp only [if_true, hp, Bool.not_true, Bool.false_or]
  rfl
theorem args_call {fv : Value} {first : List Value} {ms kms : Exs} {l : List Expr} {kws : List Keyword} (hkp : PySem.W.keepIn X.K fv = true) (ha : PA X l (tEs I c S.W Wx ms)) (hk : PK X kws (tEs I c S.W Wx kms)) (hns : l.all noStar = true)
    (hl : l.length = evLen ms) (hkl : (kwVals kws).length = evLen kms) {ps : List Str} {kns : List Nat} (hkn : mKns ps kns kws = true)
    {pins : List (Addr × Obj)} {s : Shared} {σ : L2.St} {H : Hp} {Z : Lv} {ρ : List Addr} {h : AH} {env : Env} (J : Inv X pins σ H s) (r : Rl S.W Z ρ h H env σ) {G : List D → List D → AH → R D} {Q : VK}
    (p : Post (relD S.W Z) S.W Wx Z σ ρ h H Q ((evs I c ms env h).bind fun ds h => (evs I c kms env h).bind fun ks h => G ds ks h))
    (fin : ∀ (us ws : List Value) (xs : List Str) (s2 : Shared) (vs zs : List V) (H2 : Hp) (ds ks : List D) (ρ2 : List Addr) (h2 : AH), Inv X pins σ H2 s2 → Vals vs us → Vals zs ws → ds.length = evLen ms → kns.length = ks.length → kns.map (fun n => ps[n]?) = xs.map some → Rl S.W Z ρ2 h2 H2 env σ → Ext ρ h H ρ2 h2 H2 → RDs S.W Z ρ2 h2 H2 vs ds → RDs S.W Z ρ2 h2 H2 zs ks →
      Post (relD S.W Z) S.W Wx Z σ ρ2 h2 H2 Q (G ds ks h2) → wpAny (model X.prog X.w) X.A (call fv (first ++ us) (xs.zip ws)) (EP X pins σ Q) X.xe s2) :
    wpAny (model X.prog X.w) X.A (callWith pos fv first (backTo pos (starEach l X.env)) (backToKw pos (keywordEach kws X.env))) (EP X pins σ Q) X.xe s := by
  obtain ⟨xs, e1, e2, e3, e4, e5⟩ := kw_names ps pos X.env kns kws hkn
  cases kws with
  | nil =>
    cases kns with
    | cons _ _ => cases e5
    | nil =>
      cases kms with
      | cons _ _ => cases hkl
      | nil =>
        have fin' : ∀ us s1 vs H1 ds ρ1 h1, Inv X pins σ H1 s1 → Vals vs us → ds.length = evLen ms → Rl S.W Z ρ1 h1 H1 env σ → Ext ρ h H ρ1 h1 H1 → RDs S.W Z ρ1 h1 H1 vs ds → Post (relD S.W Z) S.W Wx Z σ ρ1 h1 H1 Q ((evs I c .nil env h1).bind fun ks h => G ds ks h) → X.K.In s1.heap ∧ wpAny (model X.prog X.w) X.A (call fv (first ++ us)) (EP X pins σ Q) X.xe s1 :=
          fun us s1 vs H1 ds ρ1 h1 I1 rv l1 r1 E1 x1 p1 => ⟨I1.kIn, fin us [] [] s1 vs [] H1 ds [] ρ1 h1 I1 rv .nil l1 rfl rfl r1 E1 x1 .nil p1⟩
        cases l with
        | nil =>
          cases ms with
          | cons _ _ => cases hl
          | nil => exact PySem.W.callWith_K0 J.kIn hkp (fin' [] s [] H [] ρ h J .nil rfl r (.refl _ _ _) .nil p).2
        | cons e es =>
          obtain ⟨n1, n2⟩ := all_cons hns
          exact PySem.W.callWith_K (h₀ := X.base) J.ok.mod.kin hkp (PA.step ha J r p fin' pos) (starEach_cons n1 es X.env) (backTo_plain pos X.env es n2)
  | cons kw kws =>
    have tl : ∀ us s1 vs H1 ds ρ1 h1, Inv X pins σ H1 s1 → Vals vs us → ds.length = evLen ms → Rl S.W Z ρ1 h1 H1 env σ → Ext ρ h H ρ1 h1 H1 → RDs S.W Z ρ1 h1 H1 vs ds → Post (relD S.W Z) S.W Wx Z σ ρ1 h1 H1 Q ((evs I c kms env h1).bind fun ks h => G ds ks h) →
        wpAny (model X.prog X.w) X.A (evalAll ((backToKw pos (keywordEach (kw :: kws) X.env)).map (·.2))) (fun ks s₂ => X.K.In s₂.heap ∧ wpAny (model X.prog X.w) X.A (call fv (first ++ us) (((backToKw pos (keywordEach (kw :: kws) X.env)).filterMap (·.1)).zip ks)) (EP X pins σ Q) X.xe s₂) X.xe s1 :=
      fun us s1 vs H1 ds ρ1 h1 I1 rv l1 r1 E1 x1 p1 => PK.step hk I1 r1 p1 (fun ws s2 zs H2 ks ρ2 h2 I2 rz l2 r2 E2 z2 p2 => ⟨I2.kIn, by
        rw [e2]
        exact fin us ws xs s2 vs zs H2 ds ks ρ2 h2 I2 rv rz l1 (by rw [e5, hkl, l2]) e1 r2 (E1.trans E2) (x1.ext E2) z2 p2⟩) pos
    cases l with
    | nil =>
      cases ms with
      | cons _ _ => cases hl
      | nil =>
        refine PySem.W.callWith_KW0 (h₀ := X.base) J.ok.mod.kin hkp e3 (tl [] s [] H [] ρ h J .nil rfl r (.refl _ _ _) .nil p) ?_
        rw [e4]; rfl
    | cons e es =>
      obtain ⟨n1, n2⟩ := all_cons hns
      refine PySem.W.callWith_KW (h₀ := X.base) J.ok.mod.kin hkp e3 (PA.step ha J r p tl pos) ?_ (starEach_cons n1 es X.env)
      rw [e4, Bool.or_false, starEach_cons n1 es X.env]
      show (false || (backTo pos (starEach es X.env)).any (·.1)) = false
      rw [backTo_plain pos X.env es n2]; rfl
theorem kw_or {kns : List Nat} {b : Bool} (h : (kns.isEmpty || b) = true) : kns = [] ∨ b = true := by
  cases kns with
  | nil => exact .inl rfl
  | cons _ _ => exact .inr h
theorem se_call (Y : Cy X I c S Wx N sc) {f : Nat} {ms kms : Exs} {kns : List Nat} {x : Str} {p : Pos} {l : List Expr} {kws : List Keyword} (hf : S.fnn f = some x) (hg : glB sc x = true) (ho : okName x = true) (ha : PA X l (tEs I c S.W Wx ms)) (hk : PK X kws (tEs I c S.W Wx kms)) (hns : l.all noStar = true)
    (hl : l.length = evLen ms) (hkl : (kwVals kws).length = evLen kms) (hkn : mKns (S.psn f) kns kws = true) (hb : (kns.isEmpty || S.kwp l.length kns) = true) : SE X I c S Wx (.call f ms kns kms) (.Call (.Name x p) l kws pos) := by
  refine ⟨fun pins s σ H Q J ⟨Z, ρ, h, env, r, pp⟩ => ?_⟩
  obtain ⟨o1, o2, _⟩ := okn ho
  obtain ⟨m1, m2⟩ := Y.fnk f x hf
  unfold ev at pp
  refine wpAny_Call_Name_kw (ld_glob J (gl_of Y hg) m1 ?_ o1)
  exact args_call m2 ha hk hns hl hkl hkn J r pp fun us ws xs s2 vs zs H2 ds ks ρ2 h2 I2 rv rz l1 l2 e1 r2 E2 x2 z2 p2 =>
    Y.callk f pins s2 σ Z ρ2 h2 H2 vs zs ds ks us ws kns xs Q I2 r2.hr x2 z2 rv rz (by rw [l1, ← hl]; exact kw_or hb) e1 l2 p2
theorem se_new (Y : Cy X I c S Wx N sc) {k : Nat} {ms kms : Exs} {kns : List Nat} {x : Str} {p : Pos} {l : List Expr} {kws : List Keyword} (hf : S.cnm k = some x) (hg : glB sc x = true) (ho : okName x = true) (ha : PA X l (tEs I c S.W Wx ms)) (hk : PK X kws (tEs I c S.W Wx kms)) (hns : l.all noStar = true)
    (hl : l.length = evLen ms) (hkl : (kwVals kws).length = evLen kms) (hkn : mKns (S.ips k) kns kws = true) (hb : (kns.isEmpty || S.kwp (l.length + 1) kns) = true) : SE X I c S Wx (.new k ms kns kms) (.Call (.Name x p) l kws pos) := by
  refine ⟨fun pins s σ H Q J ⟨Z, ρ, h, env, r, pp⟩ => ?_⟩
  obtain ⟨o1, o2, _⟩ := okn ho
  obtain ⟨m1, m2⟩ := Y.cnk k x hf
  unfold ev at pp
  refine wpAny_Call_Name_kw (ld_glob J (gl_of Y hg) m1 ?_ o1)
  exact args_call m2 ha hk hns hl hkl hkn J r pp fun us ws xs s2 vs zs H2 ds ks ρ2 h2 I2 rv rz l1 l2 e1 r2 E2 x2 z2 p2 =>
    Y.newk k pins s2 σ Z ρ2 h2 H2 vs zs ds ks us ws kns xs Q I2 r2.hr x2 z2 rv rz (by rw [l1, ← hl]; exact kw_or hb) e1 l2 p2
theorem se_meth (Y : Cy X I c S Wx N sc) {m : Nat} {o : Ex} {ms kms : Exs} {kns : List Nat} {e : Expr} {ap : Pos} {l : List Expr} {kws : List Keyword} (he : SE X I c S Wx o e) (ha : PA X l (tEs I c S.W Wx ms)) (hk : PK X kws (tEs I c S.W Wx kms)) (hns : l.all noStar = true) (hl : l.length = evLen ms) (hkl : (kwVals kws).length = evLen kms)
    (hb : plBase e = true) (hp : (ap.endLine == pos.line) = true) (h30 : l.length + kws.length < 29) (hkn : mKns (S.mps m) kns kws = true) (hkb : (kns.isEmpty || S.kwp (l.length + 1) kns) = true) :
    SE X I c S Wx (.meth m o ms kns kms) (.Call (.Attribute e (S.W.mnm m) ap) l kws pos) := by
  refine ⟨fun pins s σ H Q J ⟨Z, ρ, h, env, r, pp⟩ => ?_⟩
  unfold ev at pp
  obtain ⟨_, _, _, e3, _, _⟩ := kw_names (S.mps m) pos X.env kns kws hkn
  refine PySem.W.methodCall_KW (PE.step he J r pp fun u s1 x H1 dx ρ1 h1 I1 rx r1 E1 x1 p1 => ?_) (meth_eq hb hp h30 hns e3)
  split at p1
  · rename_i f ef
    obtain ⟨k, k1, kf⟩ := own1_ok ef
    obtain ⟨a, dd, fs, rfl, ea, ks, ds, e1, e2, e3, e4⟩ := x1.insOf r1.hr k1
    obtain rfl : u = Value.ref a := rx
    obtain ⟨M, CF, kfn⟩ := Y.z.fac.meth k m f kf
    refine getmeth_ok I1 ea (Y.z.k ▸ CF.cls) (Y.z.k ▸ M) (lk_none e1 fun g hg => Y.z.fac.fm k m f g kf (by rw [← Y.z.fac.feq]; exact e2 g hg)) ?_
    refine args_call (first := [.ref a]) (Y.z.k ▸ M.kp) ha hk hns hl hkl hkn I1 r1 p1 fun us ws xs s2 vs zs H2 ds ks ρ2 h2 I2 rv rz l1 l2 e1 r2 E2 x2 z2 p2 => ?_
    refine Y.callk f pins s2 σ Z ρ2 h2 H2 (.ref a :: vs) zs (dx :: ds) ks (.ref a :: us) ws kns xs Q I2 r2.hr (.cons (x1.ext E2) x2) z2 (.cons rfl rv) rz (by rw [List.length_cons, l1, ← hl]; exact kw_or hkb) ?_ l2 p2
    rcases Y.mpk k m f kf with z | z
    · rw [z] at hkn e1
      cases kns with
      | nil => exact e1
      | cons n ns =>
        cases kws with
        | nil => cases hkn
        | cons kw kws =>
          obtain ⟨on, _, _⟩ := kw
          cases on with
          | none => cases hkn
          | some y => exact absurd (ba hkn).1 (by simp)
    · rw [← z]; exact e1
  · exact p1.elim
theorem se_stat (Y : Cy X I c S Wx N sc) {f : Nat} {ms kms : Exs} {kns : List Nat} {x n : Str} {p ap : Pos} {l : List Expr} {kws : List Keyword} (hf : S.stn f = some (x, n)) (hg : glB sc x = true) (ho : okName x = true) (ha : PA X l (tEs I c S.W Wx ms)) (hk : PK X kws (tEs I c S.W Wx kms)) (hns : l.all noStar = true)
    (hl : l.length = evLen ms) (hkl : (kwVals kws).length = evLen kms) (hp : (ap.endLine == pos.line) = true) (h30 : l.length + kws.length < 29) (hkn : mKns (S.psn f) kns kws = true) (hb : (kns.isEmpty || S.kwp l.length kns) = true) : SE X I c S Wx (.call f ms kns kms) (.Call (.Attribute (.Name x p) n ap) l kws pos) := by
  refine ⟨fun pins s σ H Q J ⟨Z, ρ, h, env, r, pp⟩ => ?_⟩
  obtain ⟨o1, o2, _⟩ := okn ho
  obtain ⟨C, q, rest, m1, cr, fc, rc, m2⟩ := Y.stk f x n hf
  obtain ⟨_, _, _, e3, _, _⟩ := kw_names (S.psn f) pos X.env kns kws hkn
  unfold ev at pp
  refine PySem.W.methodCall_KW (ld_glob J (gl_of Y hg) m1 ?_ o1) (meth_eq rfl hp h30 hns e3)
  refine PySem.W.method_cls J.kIn cr.ga (PySem.W.cls_bind J.kIn cr.rd fc (wpAny_call (PySem.W.sm_get (s := { s with toks := s.toks + 1 }) J.kIn rc (PySem.W.handed_on rfl ?_))))
  exact args_call m2 ha hk hns hl hkl hkn (J.tok _) r pp fun us ws xs s2 vs zs H2 ds ks ρ2 h2 I2 rv rz l1 l2 e1 r2 E2 x2 z2 p2 =>
    Y.callk f pins s2 σ Z ρ2 h2 H2 vs zs ds ks us ws kns xs Q I2 r2.hr x2 z2 rv rz (by rw [l1, ← hl]; exact kw_or hb) e1 l2 p2
end
end Kp
set_option autoImplicit false
set_option maxRecDepth 10000
set_option maxHeartbeats 2000000
namespace Kp
open PySem L2
mutual
theorem beqT_eq : ∀ (x y : T), beqT x y = true → x = y
  | .non, y, h => by cases y <;> first | rfl | cases h
  | .bl a, y, h => by cases y <;> first | (cases eq_of_beq (show (a == _) = true from h); rfl) | cases h
  | .int a, y, h => by cases y <;> first | (cases eq_of_beq (show (a == _) = true from h); rfl) | cases h
  | .str a, y, h => by cases y <;> first | (cases eq_of_beq (show (a == _) = true from h); rfl) | cases h
  | .tup xs, y, h => by cases y <;> first | (cases beqTs_eq xs _ h; rfl) | cases h
  | .lst xs, y, h => by cases y <;> first | (cases beqTs_eq xs _ h; rfl) | cases h
  | .ro xs, y, h => by cases y <;> first | (cases beqTs_eq xs _ h; rfl) | cases h
  | .dct ks xs, y, h => by
    cases y <;> first | cases h | skip
    rename_i ls ys
    obtain ⟨h1, h2⟩ := ba (show (ks == ls && beqTs xs ys) = true from h)
    cases eq_of_beq h1
    cases beqTs_eq xs _ h2
    rfl
  | .ins c ks xs, y, h => by
    cases y <;> first | cases h | skip
    rename_i d ls ys
    obtain ⟨h1, h2⟩ := ba (show (c == d && ks == ls && beqTs xs ys) = true from h)
    obtain ⟨h0, h3⟩ := ba h1
    cases eq_of_beq h0
    cases eq_of_beq h3
    cases beqTs_eq xs _ h2
    rfl
theorem beqTs_eq : ∀ (x y : List T), beqTs x y = true → x = y
  | [], y, h => by cases y <;> first | rfl | cases h
  | x :: xs, y, h => by
    cases y <;> first | cases h | skip
    rename_i y ys
    obtain ⟨h1, h2⟩ := ba (show (beqT x y && beqTs xs ys) = true from h)
    cases beqT_eq x _ h1
    cases beqTs_eq xs _ h2
    rfl
end
theorem beqD_eq {x y : D} (h : beqD x y = true) : x = y := by
  cases x <;> cases y <;> first | cases h | skip
  · cases beqT_eq _ _ h; rfl
  · cases eq_of_beq (show (_ == _) = true from h); rfl
theorem beqDs_eq : ∀ (x y : List D), beqDs x y = true → x = y
  | [], y, h => by cases y <;> first | rfl | cases h
  | x :: xs, y, h => by
    cases y <;> first | cases h | skip
    rename_i y ys
    obtain ⟨h1, h2⟩ := ba (show (beqD x y && beqDs xs ys) = true from h)
    cases beqD_eq h1
    cases beqDs_eq xs _ h2
    rfl
mutual
theorem beqT_refl : ∀ x : T, beqT x x = true
  | .non => rfl
  | .bl a => beq_self_eq_true a
  | .int a => beq_self_eq_true a
  | .str a => beq_self_eq_true a
  | .tup xs => beqTs_refl xs
  | .lst xs => beqTs_refl xs
  | .ro xs => beqTs_refl xs
  | .dct ks xs => by show (ks == ks && beqTs xs xs) = true; rw [beqTs_refl xs, beq_self_eq_true]; rfl
  | .ins c ks xs => by show (c == c && ks == ks && beqTs xs xs) = true; rw [beqTs_refl xs, beq_self_eq_true, beq_self_eq_true]; rfl
theorem beqTs_refl : ∀ x : List T, beqTs x x = true
  | [] => rfl
  | x :: xs => by show (beqT x x && beqTs xs xs) = true; rw [beqT_refl x, beqTs_refl xs]; rfl
end
theorem beqD_refl : ∀ x : D, beqD x x = true
  | .t x => beqT_refl x
  | .r n => beq_self_eq_true n
theorem beqDs_refl : ∀ x : List D, beqDs x x = true
  | [] => rfl
  | x :: xs => by show (beqD x x && beqDs xs xs) = true; rw [beqD_refl x, beqDs_refl xs]; rfl
inductive WkI (W : Wd) (Z : Lv) (ρ : List Addr) (h : AH) (H : Hp) : L2.It → D → List D → Prop
  | lst {a : Addr} {y : T} {ts : List T} (r : RT W Z ρ h H (.ref a) (.lst ts)) : WkI W Z ρ h H (Itl W.K a) (.t y) (ts.map .t)
  | tup {a : Addr} {y : T} {ts : List T} (r : RT W Z ρ h H (.ref a) (.tup ts)) : WkI W Z ρ h H (Itt W.K a) (.t y) (ts.map .t)
  | live {a : Addr} {n : Nat} {vs : List V} {ds : List D} (e : ρ[n]? = some a) (ha : H a = some (.lst vs)) (r : RDs W Z ρ h H vs ds) (eh : h[n]? = some (.lst ds)) : WkI W Z ρ h H (Itl W.K a) (.r n) ds
  | str {y : T} (s : List Nat) (ok : tOK (sOf s)) : WkI W Z ρ h H (Its (sOf s)) (.t y) (s.map fun c => .t (.str [c]))
  | rng {y : T} (lo : Int) (n : Nat) : WkI W Z ρ h H (Itr lo n) (.t y) ((List.range n).map fun (k : Nat) => .t (.int (lo + k)))
section
variable {W : Wd} {Z : Lv} {ρ ρ' : List Addr} {h h' : AH} {H H' : Hp} {J : L2.It} {d : D} {ds : List D}
theorem WkI.to {Z' : Lv} (w : WkI W Z ρ h H J d ds) (R : HRel W Z' ρ' h' H') (s : Stay (lv Z ρ h) H (lv Z' ρ' h') H') (rf : ∀ (n : Nat) (a : Addr), ρ[n]? = some a → ρ'[n]? = some a) (st : still d ds h' = true) : WkI W Z' ρ' h' H' J d ds := by
  cases w with
  | lst r => exact .lst (r.stay s)
  | tup r => exact .tup (r.stay s)
  | @live a n vs ds e ha r eh =>
    unfold still at st
    dsimp only at st
    cases q : h'[n]? with
    | none => rw [q] at st; cases st
    | some o =>
      rw [q] at st
      cases o with
      | lst es =>
        cases beqDs_eq _ _ st
        obtain ⟨vs', ha', rs⟩ := R.ob n a _ (rf n a e) q
        exact .live (rf n a e) ha' rs q
      | _ => cases st
  | str s ok => exact .str s ok
  | rng lo n => exact .rng lo n
theorem WkI.ext (w : WkI W Z ρ h H J d ds) (R : HRel W Z ρ' h' H') (E : Ext ρ h H ρ' h' H') (st : still d ds h' = true) : WkI W Z ρ' h' H' J d ds := w.to R (E.stay Z) E.ref st
theorem WkI.go (w : WkI W Z ρ h H J d ds) {i : Nat} (hi : i < ds.length) : J.go i H ∧ ∀ x H', J.yld i H x H' → H' = H ∧ RD W Z ρ h H x ds[i] := by
  have key : ∀ {vs : List V} (rs : RDs W Z ρ h H vs ds), ∃ x, vs[i]? = some x ∧ RD W Z ρ h H x ds[i] := fun rs => rs.get (List.getElem?_eq_getElem hi)
  cases w with
  | @lst a y ts r =>
    cases r with
    | lst k rs =>
      obtain ⟨x, e, rx⟩ := key (.of_ts rs)
      exact ⟨⟨_, x, k.sq, e⟩, fun x' H' ⟨e1, e2⟩ => ⟨e1, by have := e2 _ k.sq; rw [e] at this; cases this; exact rx⟩⟩
  | @tup a y ts r =>
    cases r with
    | tup k rs =>
      obtain ⟨x, e, rx⟩ := key (.of_ts rs)
      exact ⟨⟨_, x, k.sq, e⟩, fun x' H' ⟨e1, e2⟩ => ⟨e1, by have := e2 _ k.sq; rw [e] at this; cases this; exact rx⟩⟩
  | @live a n vs ds e0 ha r eh =>
    obtain ⟨x, e, rx⟩ := key r
    exact ⟨⟨_, x, .of ha, e⟩, fun x' H' ⟨e1, e2⟩ => ⟨e1, by have := e2 _ (.of ha); rw [e] at this; cases this; exact rx⟩⟩
  | @str y s ok =>
    have hn : i < s.length := by simpa using hi
    refine ⟨by show i < s.toArray.size; simpa using hn, fun x H' ⟨e1, c, e2, e3⟩ => ⟨e1, ?_⟩⟩
    subst e3
    have e2 : s.toArray[i]? = some c := e2
    have e2 : s[i]? = some c := by simpa using e2
    simp only [List.getElem_map]
    rw [List.getElem?_eq_getElem hn] at e2
    cases e2
    refine .t (.str [s[i]] ⟨?_, ?_⟩)
    · have h1 := ok.1
      unfold PyData.strOk sOf at *
      simp only [List.all_toArray] at *
      simp only [List.all_cons, List.all_nil, Bool.and_true]
      exact List.all_eq_true.mp h1 _ (List.getElem_mem hn)
    · show ([s[i]] : List Nat).toArray.size ≤ sizeLine
      simp [sizeLine]
  | @rng y lo n =>
    have hn : i < n := by simpa using hi
    refine ⟨hn, fun x H' ⟨e1, e2⟩ => ⟨e1, ?_⟩⟩
    subst e2
    simp only [List.getElem_map, List.getElem_range]
    exact .t (.int _)
theorem WkI.stop (w : WkI W Z ρ h H J d ds) : J.stop ds.length H := by
  cases w with
  | @lst a y ts r =>
    cases r with
    | lst k rs => exact ⟨_, k.sq, by rw [(RepDs.of_ts rs).length (ρ := ρ)]; exact Nat.le_refl _⟩
  | @tup a y ts r =>
    cases r with
    | tup k rs => exact ⟨_, k.sq, by rw [(RepDs.of_ts rs).length (ρ := ρ)]; exact Nat.le_refl _⟩
  | live e0 ha r eh => exact ⟨_, .of ha, Nat.le_of_eq r.length⟩
  | str s ok => show s.toArray.size ≤ _; simp
  | rng lo n => show n ≤ _; simp
end
theorem WkI.still0 {W : Wd} {Z : Lv} {ρ : List Addr} {h : AH} {H : Hp} {J : L2.It} {d : D} {ds : List D} (w : WkI W Z ρ h H J d ds) : still d ds h = true := by
  cases w with
  | live e ha r eh => unfold still; dsimp only; rw [eh]; exact beqDs_refl ds
  | _ => rfl
abbrev relI (W : Wd) (Z : Lv) : Rel (D × List D) L2.It := fun ρ h H J p => WkI W Z ρ h H J p.1 p.2
def tI (I : Info) (c : Call) (W : Wd) (Wx : WX) (m : Kp.It) : TI := fun σ H R => ∃ Z ρ h env, Rl W Z ρ h H env σ ∧ Post (relI W Z) W Wx Z σ ρ h H R (evI I c m env h)
def IterP (X : Cx) (I : Info) (S : NS) : Prop :=
  ∀ (k f : Nat) (pins : List (Addr × Obj)) (s : Shared) (σ : L2.St) (H : Hp) (a dx l : Addr) (fs : List (Str × V)) (vs : List V) (tg : Expr) (Q : L2.It → Hp → Prop), I.iter k = some f → Inv X pins σ H s → H a = some (.ins (S.W.ca k) dx fs) → fs.lookup (S.W.fnm f) = some (.ref l) → SqL X.K H l vs →
    Q (Itl X.K l) H → wpAny (model X.prog X.w) X.A (pyIter (.ref a)) (PIE X pins σ tg Q) X.xe s
section
variable {X : Cx} {I : Info} {c : Call} {S : NS} {Wx : WX} {N : List Str} {sc : Scope} {pos : Pos} {tg : Expr}
theorem pi_own (Y : Cw X I c S Wx N sc) (YP : IterP X I S) {m : Ex} {e : Expr} (he : SE X I c S Wx m e) {pins : List (Addr × Obj)} {s : Shared} {σ : L2.St} {H : Hp} {Z : Lv} {ρ : List Addr} {h : AH} {env : Env} {R : L2.It → Hp → Prop} (J : Inv X pins σ H s) (r : Rl S.W Z ρ h H env σ)
    (p : Post (relI S.W Z) S.W Wx Z σ ρ h H R (evI I c (.val m) env h)) : wpAny (model X.prog X.w) X.A (eval e X.env) (fun v s1 => wpAny (model X.prog X.w) X.A (pyIter v) (PIE X pins σ tg R) X.xe s1) X.xe s := by
  unfold evI at p
  cases q : ev I c m env h with
  | no => rw [q] at p; exact p.elim
  | ex k ks ts h' =>
    -- an exception: whatever is walked
    rw [q] at p
    exact (pi_list he).run pins s σ H R J ⟨Z, ρ, h, env, r, by rw [q]; exact p⟩
  | ok d h' =>
    rw [q] at p
    obtain ⟨w, ew, p⟩ := Post.of (show Post (relI S.W Z) S.W Wx Z σ ρ h H R (Kp.R.of (walkOf I h' d) h') from p)
    unfold walkOf at ew
    split at ew
    · rename_i ds ed
      cases ew
      refine (pi_list he).run pins s σ H R J ⟨Z, ρ, h, env, r, ?_⟩
      rw [q]
      intro ρ' v H' R' E' x
      cases d with
      | t y =>
        cases y with
        | lst ts =>
          cases ed
          obtain ⟨a, vs, rfl, k, rs⟩ := x.lst
          exact ⟨a, rfl, ⟨vs, Y.y.z.k ▸ k.sq⟩, by rw [Y.y.z.k]; exact p ρ' _ H' R' E' (.lst (.lst k rs))⟩
        | ro ts => cases ed
        | _ => cases ed
      | r n =>
        cases x with
        | r ea =>
          simp only [lstOf] at ed
          cases z : h'[n]? with
          | none => simp only [z] at ed; cases ed
          | some o =>
            simp only [z] at ed
            cases o with
            | lst es =>
              cases ed
              obtain ⟨vs, ha, rs⟩ := R'.ob n _ _ ea z
              exact ⟨_, rfl, ⟨vs, .of ha⟩, by rw [Y.y.z.k]; exact p ρ' _ H' R' E' (.live ea ha rs z)⟩
            | _ => cases ed
    · split at ew
      · rename_i ts et
        cases ew
        cases tupOf_ok et
        refine (pi_tup he).run pins s σ H R J ⟨Z, ρ, h, env, r, ?_⟩
        rw [q]
        intro ρ' v H' R' E' x
        obtain ⟨a, vs, rfl, k, rs⟩ := x.tup
        exact ⟨a, rfl, ⟨vs, Y.y.z.k ▸ k.sq⟩, by rw [Y.y.z.k]; exact p ρ' _ H' R' E' (.tup (.tup k rs))⟩
      · split at ew
        · rename_i zs _ _
          cases ew
          refine (pi_str he).run pins s σ H R J ⟨Z, ρ, h, env, r, ?_⟩
          rw [q]
          intro ρ' v H' R' E' x
          obtain ⟨rfl, ok⟩ := x.str
          exact ⟨_, rfl, p ρ' _ H' R' E' (.str zs ok)⟩
        obtain ⟨ts, et, rfl⟩ := Option.map_eq_some_iff.mp ew
        refine thn (he.run pins s σ H (fun v H1 => ∃ ρ', HRel S.W Z ρ' h' H1 ∧ Ext ρ h H ρ' h' H1 ∧ RD S.W Z ρ' h' H1 v d) J ⟨Z, ρ, h, env, r, by rw [q]; exact fun ρ' v H' R' E' x => ⟨ρ', R', E', x⟩⟩) fun u s1 ⟨v, H1, I1, rv, ρ', R', E', x⟩ => ?_
        obtain ⟨a, k, f, dxx, fs, l, vs, rfl, ef, ea, ll, pl, rs⟩ := iter_ok Y.y.z.fac Y.iterf R' x et
        obtain rfl : u = .ref a := rv
        exact YP k f pins s1 σ H1 a dxx l fs vs tg R ef I1 ea ll (.inl (.inl pl.1)) (by rw [Y.y.z.k]; exact p ρ' _ H1 R' E' (.lst (.lst pl rs)))
theorem si_val (Y : Cw X I c S Wx N sc) (YP : IterP X I S) {m : Ex} {e : Expr} (he : SE X I c S Wx m e) : PI X tg e (tI I c S.W Wx (.val m)) :=
  ⟨fun pins s σ H R J ⟨Z, ρ, h, env, r, p⟩ => pi_own Y YP he J r p⟩
theorem rngOk_ok {i : Int} (h : rngOk i = true) : -(2 ^ 62) ≤ i ∧ i < 2 ^ 62 := by
  have := of_decide_eq_true h
  omega
theorem rng_walk {W : Wd} {Z : Lv} {ρ : List Addr} {h : AH} {H : Hp} {y : T} (a b : Int) : WkI W Z ρ h H (Itr a (b - a).toNat) (.t y) (rng a b) := .rng a (b - a).toNat
theorem si_rng1 (Y : Cw X I c S Wx N sc) {m : Ex} {e : Expr} {p : Pos} (hg : glB sc ("range" : Str) = true) (hn : noStar e = true) (he : SE X I c S Wx m e) : PI X tg (.Call (.Name ("range" : Str) p) [e] [] pos) (tI I c S.W Wx (.rng1 m)) := by
  refine ⟨fun pins s σ H R J ⟨Z, ρ, h, env, r, p⟩ => ?_⟩
  refine (pi_range1 (gl_of Y.y hg) (Y.y.blt _ (by decide +kernel)) (pa_cons he pa_nil (starEach_cons hn _ _)) (starEach_cons hn _ _)).run pins s σ H R J ?_
  unfold evI at p
  refine tE.step r p fun d v ρ1 h1 H1 r1 E1 x1 p1 => ?_
  split at p1
  · rename_i i
    split at p1
    · rename_i hi
      obtain ⟨b1, b2⟩ := rngOk_ok hi
      refine ⟨i, by rw [x1.int], b1, b2, ?_⟩
      have := rng_walk (W := S.W) (Z := Z) (ρ := ρ1) (h := h1) (H := H1) (y := .non) 0 i
      rw [Int.sub_zero] at this
      exact p1 ρ1 _ H1 r1.hr (.refl _ _ _) this
    · exact p1.elim
  · exact p1.elim
theorem si_rng2 (Y : Cw X I c S Wx N sc) {m m2 : Ex} {e e2 : Expr} {p : Pos} (hg : glB sc ("range" : Str) = true) (hn : noStar e = true) (hn2 : noStar e2 = true) (he : SE X I c S Wx m e) (he2 : SE X I c S Wx m2 e2) : PI X tg (.Call (.Name ("range" : Str) p) [e, e2] [] pos) (tI I c S.W Wx (.rng2 m m2)) := by
  refine ⟨fun pins s σ H R J ⟨Z, ρ, h, env, r, p⟩ => ?_⟩
  have s2 := starEach_cons hn2 [] X.env
  have s1 := starEach_cons hn [e2] X.env
  refine (pi_range2 (gl_of Y.y hg) (Y.y.blt _ (by decide +kernel)) (pa_cons he (pa_cons he2 pa_nil s2) s1) (by rw [s1, s2]; rfl) s2).run pins s σ H R J ?_
  unfold evI at p
  refine tE.step r p fun d v ρ1 h1 H1 r1 E1 x1 p1 => ?_
  refine tE.step r1 p1 fun d2 v2 ρ2 h2 H2 r2 E2 x2 p2 => ?_
  split at p2
  · rename_i i j
    split at p2
    · rename_i hij
      obtain ⟨hi, hj⟩ := ba hij
      obtain ⟨b1, b2⟩ := rngOk_ok hi
      obtain ⟨b3, b4⟩ := rngOk_ok hj
      refine ⟨i, j, by rw [x1.int, x2.int], ⟨b1, b2, b3, b4⟩, ?_⟩
      exact p2 ρ2 _ H2 r2.hr (.refl _ _ _) (rng_walk i j)
    · exact p2.elim
  · exact p2.elim
end
end Kp
set_option autoImplicit false
set_option maxRecDepth 10000
set_option maxHeartbeats 2000000
namespace Kp
open PySem L2
section
variable {W : Wd} {Z : Lv} {ρ : List Addr} {h : AH} {H : Hp} {D : Addr}
abbrev hide (Z : Lv) (D : Addr) : Lv := fun a => Z a ∨ a = D
theorem HRel.hide (R : HRel W Z ρ h H) (hD : H D = none) {o : HO} : HRel W (Kp.hide Z D) ρ h (upd H D o) ∧ Stay (lv Z ρ h) H (lv (Kp.hide Z D) ρ h) (upd H D o) := by
  have nl : ¬ lv Z ρ h D := fun l => R.lv_some l hD
  have st : Stay (lv Z ρ h) H (lv (Kp.hide Z D) ρ h) (upd H D o) := .of_same (fun a e _ => upd_ne fun z => e (by rw [z]; exact hD)) fun a e n l => by
    rcases l with l | l | l
    · exact n (.inl l)
    · exact n (.inr l)
    · exact e (by rw [l]; exact hD)
  refine ⟨⟨R.len, R.inj, fun n a u e1 e2 => ?_, R.lt, fun a x => ?_⟩, st⟩
  · have q := R.ob n a u e1 e2
    by_cases c : u = Ob.dead
    · subst c; trivial
    · exact q.mono st (fun _ _ e => e) fun z hz => by
        rw [upd_ne (fun e => q.some c (by rw [e]; exact hD))]; exact hz
  · rcases x with x | x
    · exact ⟨(R.hid a x).1, by rw [upd_ne (fun z => (R.hid a x).2 (by rw [z]; exact hD))]; exact (R.hid a x).2⟩
    · subst x
      exact ⟨fun l => nl (.inl l), by rw [upd_same]; exact fun z => nomatch z⟩
theorem HRel.hidden (R : HRel W Z ρ h H) (hD : Z D) {o : HO} : HRel W Z ρ h (upd H D o) ∧ Stay (lv Z ρ h) H (lv Z ρ h) (upd H D o) := by
  have st : Stay (lv Z ρ h) H (lv Z ρ h) (upd H D o) := .of_same (fun a e n => upd_ne fun z => n (by rw [z]; exact .inr hD)) fun a e n l => n l
  refine ⟨⟨R.len, R.inj, fun n a u e1 e2 => ?_, R.lt, fun a x => ⟨(R.hid a x).1, ?_⟩⟩, st⟩
  · have q := R.ob n a u e1 e2
    by_cases c : u = Ob.dead
    · subst c; trivial
    · refine q.mono st (fun _ _ e => e) fun z hz => ?_
      rw [upd_ne (fun e => (R.hid D hD).1 ⟨n, u, by rw [← e]; exact e1, e2, c⟩)]; exact hz
  · by_cases c : a = D
    · subst c; rw [upd_same]; exact fun z => nomatch z
    · rw [upd_ne c]; exact (R.hid a x).2
theorem HRel.bare {Z' : Lv} (R : HRel W Z' ρ h H) (s : ∀ a, Z a → Z' a) : HRel W Z ρ h H ∧ Stay (lv Z' ρ h) H (lv Z ρ h) H := by
  have st : Stay (lv Z' ρ h) H (lv Z ρ h) H := .of_lv fun a e l => l.elim .inl fun z => .inr (s a z)
  exact ⟨⟨R.len, R.inj, fun n a u e1 e2 => (R.ob n a u e1 e2).mono st (fun _ _ e => e) fun z hz => hz, R.lt, fun a x => R.hid a (s a x)⟩, st⟩
structure Ext0 (ρ : List Addr) (h : AH) (H : Hp) (ρ' : List Addr) (h' : AH) (H' : Hp) : Prop where
  e : Ext ρ h H ρ' h' H'
end
theorem Ext.upd_new {ρ ρ' : List Addr} {h h' : AH} {H H' : Hp} {D : Addr} {o : HO} (E : Ext ρ h H ρ' h' H') (hD : H D = none) : Ext ρ h H ρ' h' (upd H' D o) :=
  ⟨fun a e n => by rw [upd_ne (fun z => e (by rw [z]; exact hD))]; exact E.same a e n, E.off, E.ref⟩
def tgIs : Tg → List Nat
  | .n i => [i]
  | .ns is => is
theorem wipe_set {i : Nat} {v : Option V} : ∀ {vs : List Nat} {σ : L2.St}, i ∈ vs → L2.wipe (σ.set i v) vs = L2.wipe σ vs
  | j :: vs, σ, h => by
    unfold L2.wipe
    by_cases c : i ∈ vs
    · rw [wipe_set c]
    · have e : i = j := (List.mem_cons.mp h).elim id fun z => absurd z c
      subst e
      have key : ∀ (vs : List Nat) (σ : L2.St), i ∉ vs → L2.wipe (σ.set i v) vs = (L2.wipe σ vs).set i v := by
        intro vs
        induction vs with
        | nil => intro σ _; rfl
        | cons k vs ih =>
          intro σ hn
          unfold L2.wipe
          rw [ih σ fun z => hn (List.mem_cons_of_mem _ z), List.set_comm _ _ fun z => hn (by rw [z]; exact List.mem_cons_self ..)]
      rw [key vs σ c, List.set_set]
theorem wipe_wipe {σ : L2.St} : ∀ {vs : List Nat}, L2.wipe (L2.wipe σ vs) vs = L2.wipe σ vs := by
  intro vs
  have key : ∀ (ws vs : List Nat) (σ : L2.St), (∀ i ∈ ws, i ∈ vs) → L2.wipe (L2.wipe σ ws) vs = L2.wipe σ vs := by
    intro ws
    induction ws with
    | nil => intro vs σ _; rfl
    | cons i ws ih =>
      intro vs σ hs
      show L2.wipe ((L2.wipe σ ws).set i none) vs = _
      rw [wipe_set (hs i (List.mem_cons_self ..)), ih vs σ fun j hj => hs j (List.mem_cons_of_mem _ hj)]
  exact key vs vs σ fun _ h => h
def tG (W : Wd) (tg : Tg) : TG := fun v σ H Q => ∃ (Z : Lv) (ρ : List Addr) (h : AH) (env : Env) (d : D), Rl W Z ρ h H env σ ∧ RD W Z ρ h H v d ∧
  match tg.set d h env with
  | some env' => ∀ σ', Rl W Z ρ h H env' σ' → (∀ vs : List Nat, (∀ i ∈ tgIs tg, i ∈ vs) → L2.wipe σ' vs = L2.wipe σ vs) → Q σ' H
  | none => False
def gNs : List Nat → TGs
  | [] => gNil
  | i :: is => gCons (gName i) (gNs is)
section
variable {X : Cx} {I : Info} {c : Call} {S : NS} {Wx : WX} {N : List Str} {sc : Scope} {pos : Pos}
def LocOk (X : Cx) (sc : Scope) : Prop := ∀ x, locB sc x = true → L2.Loc X.env.scope x ∧ (X.fn x = true ∨ X.env.scope.names.lookup x = some .local)
theorem pgs_tg (hN : X.N.Nodup) (hn : X.N = N) (hl : LocOk X sc) : ∀ (is : List Nat) (es : List Expr), mTg.mTgs N sc is es = true → PGs X es (gNs is) ∧ (assignEach es X.env).length = is.length ∧ (assignEach es X.env).findIdx? (·.1) = none
  | [], [], _ => ⟨pgs_nil, rfl, rfl⟩
  | i :: is, [], h => by cases h
  | [], e :: es, h => by cases e <;> cases h
  | i :: is, e :: es, h => by
    cases e with
    | Name x p =>
      obtain ⟨h1, h3⟩ := ba (show (decide (N[i]? = some x) && locB sc x && mTg.mTgs N sc is es) = true from h)
      obtain ⟨h1, h2⟩ := ba h1
      obtain ⟨l1, l2⟩ := hl x h2
      obtain ⟨a, b, c⟩ := pgs_tg hN hn hl is es h3
      refine ⟨pgs_cons (pg_name hN (hn ▸ of_decide_eq_true h1) l1 l2) a (by rfl), ?_, ?_⟩
      · show (assignEach es X.env).length + 1 = is.length + 1
        rw [b]
      · have e : assignEach (.Name x p :: es) X.env = (false, assign (.Name x p) X.env) :: assignEach es X.env := rfl
        rw [e, List.findIdx?_cons, c]; rfl
    | _ => cases h
theorem gNs_run {W : Wd} {Z : Lv} {ρ : List Addr} {h : AH} {H : Hp} : ∀ (is : List Nat) (vs : List V) (ts : List T) (σ : L2.St) (env : Env) (Q : L2.St → Hp → Prop), vs.length = is.length → RTs W Z ρ h H vs ts → Rl W Z ρ h H env σ →
    (∀ σ', Rl W Z ρ h H ((is.zip ts).foldl (fun e p => e.set p.1 (some (.t p.2))) env) σ' → (∀ ws : List Nat, (∀ i ∈ is, i ∈ ws) → L2.wipe σ' ws = L2.wipe σ ws) → Q σ' H) → gNs is vs σ H Q
  | [], [], ts, σ, env, Q, _, r, R, k => by
    cases r
    exact ⟨rfl, k σ R fun _ _ => rfl⟩
  | [], _ :: _, _, _, _, _, l, _, _, _ => by cases l
  | _ :: _, [], _, _, _, _, l, _, _, _ => by cases l
  | i :: is, v :: vs, ts, σ, env, Q, l, r, R, k => by
    cases r with
    | cons x r =>
      refine ⟨v, vs, rfl, gNs_run is vs _ (σ.set i (some v)) (env.set i (some (.t _))) Q (Nat.succ.inj l) r (R.set i (.t x)) fun σ' R' w => k σ' R' fun ws hs => ?_⟩
      rw [w ws fun j hj => hs j (List.mem_cons_of_mem _ hj), wipe_set (hs i (List.mem_cons_self ..))]
theorem s_tg (hN : X.N.Nodup) (hn : X.N = N) (hc : X.calm = true) (hk : X.K = S.W.K) (hl : LocOk X sc) {tg : Tg} {e : Expr} (hm : mTg N sc tg e = true) : PG X e (tG S.W tg) := by
  refine ⟨fun pins s σ H v u Q J rv ⟨Z, ρ, h, env, d, r, x, q⟩ => ?_⟩
  cases tg with
  | n i =>
    cases e with
    | Name y p =>
      obtain ⟨h1, h2⟩ := ba (show (decide (N[i]? = some y) && locB sc y) = true from hm)
      obtain ⟨l1, l2⟩ := hl y h2
      refine (pg_name hN (hn ▸ of_decide_eq_true h1) l1 l2).run pins s σ H v u Q J rv ?_
      exact q _ (r.set i x) fun vs hs => wipe_set (hs i (List.mem_cons_self ..))
    | _ => cases hm
  | ns is =>
    cases e with
    | Tuple es k p =>
      obtain ⟨g1, g2, g3⟩ := pgs_tg hN hn hl is es hm
      refine (pg_tup hc g1 g2 g3).run pins s σ H v u Q J rv ?_
      unfold Tg.set at q
      dsimp only at q
      cases d with
      | r n => exact q.elim
      | t y =>
        cases y with
        | tup ts =>
          dsimp only at q
          by_cases hl' : ts.length = is.length
          · rw [if_pos hl'] at q
            obtain ⟨a, vs, rfl, ka, rs⟩ := x.tup
            have hv : vs.length = is.length := by rw [(RepDs.of_ts rs (ρ := ρ)).length, List.length_map, hl']
            refine ⟨a, vs, rfl, hk ▸ ka.sq, hv, gNs_run is vs ts σ env Q hv rs r fun σ' R' w => q σ' R' fun ws hs => w ws hs⟩
          · rw [if_neg hl'] at q; exact q.elim
        | _ => exact q.elim
    | _ => cases hm
end
end Kp
set_option autoImplicit false
set_option maxRecDepth 10000
set_option maxHeartbeats 2000000
namespace Kp
open PySem L2
theorem Rl.to {W : Wd} {Z Z' : Lv} {ρ ρ' : List Addr} {h h' : AH} {H H' : Hp} {env : Env} {σ : L2.St} (r : Rl W Z ρ h H env σ) (R : HRel W Z' ρ' h' H') (s : Stay (lv Z ρ h) H (lv Z' ρ' h') H') (rf : ∀ (n : Nat) (a : Addr), ρ[n]? = some a → ρ'[n]? = some a) : Rl W Z' ρ' h' H' env σ :=
  ⟨R, r.len, fun i d e => let ⟨v, e1, e2⟩ := r.env i d e; ⟨v, e1, e2.mono s rf⟩⟩
theorem bind_ok {α β : Type} {m : R α} {f : α → AH → R β} {b : β} {h' : AH} (e : m.bind f = .ok b h') : ∃ a h, m = .ok a h ∧ f a h = .ok b h' := by
  cases m with
  | ok a h => exact ⟨a, h, rfl, e⟩
  | ex _ _ _ _ => cases e
  | no => cases e
theorem if_no {α : Type} {b : Bool} {m : R α} {a : α} {h : AH} (e : (if b = true then m else .no) = .ok a h) : b = true ∧ m = .ok a h := by
  cases b with
  | true => exact ⟨rfl, e⟩
  | false => cases e
def WxF : WX := fun _ _ _ _ => False
def tCo (I : Info) (c : Call) (W : Wd) (cond : Ex) : TT := if isNo cond then tYes else tC I c W WxF cond
def testR (I : Info) (c : Call) (cond : Ex) (env : Env) (h : AH) : R Bool := if isNo cond then .ok true h else (ev I c cond env h).bind fun d h => R.of (truth h d) h
theorem tCo_run {I : Info} {c : Call} {W : Wd} {cond : Ex} {Z : Lv} {ρ : List Addr} {h h' : AH} {H : Hp} {env : Env} {σ : L2.St} {b : Bool} {K : Bool → Hp → Prop} (r : Rl W Z ρ h H env σ) (e : testR I c cond env h = .ok b h')
    (k : ∀ ρ' H', HRel W Z ρ' h' H' → Ext ρ h H ρ' h' H' → K b H') : tCo I c W cond σ H K := by
  unfold testR at e
  unfold tCo
  cases q : isNo cond with
  | true =>
    rw [q, if_pos rfl] at e
    rw [if_pos rfl]
    cases e
    exact k ρ H r.hr (.refl _ _ _)
  | false =>
    rw [q, if_neg Bool.false_ne_true] at e
    rw [if_neg Bool.false_ne_true]
    exact ⟨Z, ρ, h, env, r, by rw [e]; exact fun ρ' v H' R' E' x => by subst x; exact k ρ' H' R' E'⟩
theorem tE_run {I : Info} {c : Call} {W : Wd} {Wx : WX} {m : Ex} {Z : Lv} {ρ : List Addr} {h h' : AH} {H : Hp} {env : Env} {σ : L2.St} {d : D} {K : VK} (r : Rl W Z ρ h H env σ) (e : ev I c m env h = .ok d h')
    (k : ∀ ρ' v H', HRel W Z ρ' h' H' → Ext ρ h H ρ' h' H' → RD W Z ρ' h' H' v d → K v H') : tE I c W Wx m σ H K := ⟨Z, ρ, h, env, r, by rw [e]; exact k⟩
theorem sizeML : sizeMax ≤ sizeLine := by rw [sizeLine_eq]; decide
section
variable {X : Cx} {I : Info} {c : Call} {S : NS} {Wx : WX} {N : List Str} {sc : Scope} {pos : Pos}
theorem ownL_snd {own : List Nat} : (ownL N own).map (·.2) = own := by
  unfold ownL
  rw [List.map_map]
  exact List.map_id' own
theorem set_of {e : Expr} (h : isSet e = false) (env : PySem.Env) (x : Value) : foldedSetIterable e env x = pure x := by
  cases e <;> first | rfl | cases h
theorem se_lc (Y : Cz X I c S.W Wx) (hN : X.N = N) {live : Bool} {el : Ex} {own : List Nat} {tg : Tg} {it : Kp.It} {cond : Ex} {elt tg' it' : Expr} {ifs : List Expr} {scope : Scope}
    (ok : BlkOk X.N X.env.scope scope (ownL N own)) (hi : PI X tg' it' (tI I c S.W Wx it)) (htg : ∀ i ∈ tgIs tg, i ∈ own) (hset : isSet it' = false)
    (hg : ∀ (s : Shared) (H : Hp) (C : Addr) (cl : List (Str × Addr)) (fp : List Addr), PG (X.blk s H scope (compEnvC scope cl C X.env) fp) tg' (tG S.W tg))
    (ht : ∀ (s : Shared) (H : Hp) (C : Addr) (cl : List (Str × Addr)) (fp : List Addr), PTs (X.blk s H scope (compEnvC scope cl C X.env) fp) ifs (tCo I c S.W cond))
    (he : ∀ (s : Shared) (H : Hp) (C : Addr) (cl : List (Str × Addr)) (fp : List Addr), PE (X.blk s H scope (compEnvC scope cl C X.env) fp) elt (tE I c S.W WxF el)) :
    ∀ {σ : L2.St} {H : Hp} {Q : VK}, tE I c S.W Wx (.lc live el own tg it cond .nil) σ H Q → tLc (tI I c S.W Wx it) (tG S.W tg) (tCo I c S.W cond) (tE I c S.W WxF el) own σ H Q := by
  rintro σ H Q ⟨Z, ρ, h, env, r, p⟩
  unfold ev at p
  refine ⟨Z, ρ, h, env, r, p.bind fun pr h1 ρ1 Jt H1 em R1 E1 wk p1 => ?_⟩
  obtain ⟨d, ds⟩ := pr
  intro a0 hD
  have r1 := r.ext R1 E1
  generalize hF : clause [] tg (Kp.wipe env own) (fun env h => if isNo cond then .ok true h else (ev I c cond env h).bind fun d h => R.of (truth h d) h) (fun env h => evG I c .nil (fun env h => (ev I c el env h).bind fun d h => .ok [d] h) env h) = F at p1
  dsimp only at p1 wk
  -- the loop's answer
  cases hl : loopR (still d ds) F ds h1 with
  | no => rw [hl] at p1; exact p1.elim
  | ex a b e f => rw [hl] at p1; exact p1.elim
  | ok rs hf =>
  rw [hl] at p1
  have p1 : Post (relD S.W Z) S.W Wx Z σ ρ1 h1 H1 Q (if rs.length < sizeMax then (if live then .ok (.r hf.length) (hf ++ [.lst rs]) else (frzsR rs hf).bind fun ts h => .ok (.t (.lst ts)) h) else .no) := p1
  split at p1
  case isFalse => exact p1.elim
  case isTrue hz =>
  obtain ⟨R2, st2⟩ := R1.hide (D := a0) hD (o := .lst [])
  let Pv : Nat → Hp → Prop := fun i H => ∃ (ρ' : List Addr) (h' : AH) (acc : List V) (racc rest : List D), Rl S.W (hide Z a0) ρ' h' H (Kp.wipe env own) (L2.wipe σ own) ∧ Ext ρ1 h1 H1 ρ' h' H ∧ WkI S.W (hide Z a0) ρ' h' H Jt d ds ∧ H a0 = some (.lst acc) ∧ RDs S.W (hide Z a0) ρ' h' H acc racc ∧
    loopR (still d ds) F (ds.drop i) h' = .ok rest hf ∧ racc ++ rest = rs
  have still0 := wk.still0
  have P0 : Pv 0 (upd H1 a0 (.lst [])) := ⟨ρ1, h1, [], [], rs, (r1.wipe own).to R2 st2 fun _ _ e => e, (Ext.refl _ _ _).upd_new hD, wk.to R2 st2 (fun _ _ e => e) still0, upd_same, .nil, hl, rfl⟩
  refine ⟨fun i m H => m = ds.length - i ∧ i ≤ ds.length ∧ Pv i H, ⟨ds.length, by simp, Nat.zero_le _, P0⟩, ?_⟩
  rintro i m H2 ⟨rfl, hi', ρ', h', acc, racc, rest, r2, E2, wk2, eD, ra, el2, er⟩
  by_cases hlt : i < ds.length
  · obtain ⟨g1, g2⟩ := wk2.go hlt
    refine .inr ⟨g1, Pv (i + 1), fun H' p' => ⟨ds.length - (i + 1), by omega, rfl, hlt, p'⟩, fun x H' y => ?_⟩
    obtain ⟨rfl, xi⟩ := g2 x H' y
    rw [List.drop_eq_getElem_cons hlt] at el2
    obtain ⟨xs, h2, f1, el3⟩ := bind_ok (show (F ds[i] h').bind (fun xs h => if still d ds h then (loopR (still d ds) F (ds.drop (i + 1)) h).bind fun ys h => .ok (xs ++ ys) h else .no) = .ok rest hf from el2)
    obtain ⟨k2, el4⟩ := if_no el3
    obtain ⟨ys, h3, l5, e5⟩ := bind_ok el4
    cases e5
    subst hF
    unfold clause at f1
    cases hs : tg.set ds[i] h' (Kp.wipe env own) with
    | none => rw [hs] at f1; cases f1
    | some env' =>
    rw [hs] at f1
    obtain ⟨b, h4, t1, f2⟩ := bind_ok (m := testR I c cond env' h') f1
    refine ⟨hide Z a0, ρ', h', Kp.wipe env own, ds[i], r2, xi, ?_⟩
    rw [hs]
    intro σ2 r3 hw
    refine ⟨(hw own htg).trans wipe_wipe, tCo_run r3 t1 fun ρ4 H4 R4 E4 => ?_⟩
    have nD : ¬ liveAt ρ' h' a0 := (r2.hr.hid a0 (.inr rfl)).1
    have eD4 : H4 a0 = some (.lst acc) := by rw [E4.same a0 (nn eD) nD]; exact eD
    cases b with
    | false =>
      cases f2
      rw [if_neg Bool.false_ne_true]
      exact ⟨ρ4, h2, acc, racc, ys, r2.ext R4 E4, E2.trans E4, wk2.ext R4 E4 k2, eD4, ra.ext E4, l5, er⟩
    | true =>
      rw [if_pos rfl]
      obtain ⟨e, h5, ee, f3⟩ := bind_ok (show ((ev I c el env' h4).bind fun d h => .ok [d] h) = .ok xs h2 from f2)
      cases f3
      refine tE_run (r3.ext R4 E4) ee fun ρ5 y H5 R5 E5 x5 => ?_
      have nD4 : ¬ liveAt ρ4 h4 a0 := (R4.hid a0 (.inr rfl)).1
      have eD5 : H5 a0 = some (.lst acc) := by rw [E5.same a0 (nn eD4) nD4]; exact eD4
      obtain ⟨R6, st6⟩ := R5.hidden (D := a0) (.inr rfl) (o := .lst (acc ++ [y]))
      have E45 := E4.trans E5
      refine ⟨acc, eD5, ?_, ρ5, h2, acc ++ [y], racc ++ [e], ys, (r2.ext R5 E45).to R6 st6 fun _ _ e => e, (E2.trans E45).upd_new hD, (wk2.ext R5 E45 k2).to R6 st6 (fun _ _ e => e) k2, upd_same, RepDs.mono st6 (fun _ _ e => e) ((ra.ext E45).append (.cons x5 .nil)), l5, ?_⟩
      · have := ra.length
        have := congrArg List.length er
        simp at this
        have := sizeML
        omega
      · rw [List.append_assoc]; exact er
  · have e : i = ds.length := by omega
    subst e
    rw [List.drop_length] at el2
    cases el2
    rw [List.append_nil] at er
    subst er
    refine .inl ⟨wk2.stop, ?_⟩
    have nD : ¬ liveAt ρ' hf a0 := (r2.hr.hid a0 (.inr rfl)).1
    have zD : ¬ Z a0 := fun z => (R1.hid a0 z).2 hD
    cases live with
    | true =>
      rw [if_pos rfl] at p1
      have off : ∀ a, H1 a ≠ none → ¬ liveAt ρ1 h1 a → ¬ liveAt (ρ' ++ [a0]) (hf ++ [.lst racc]) a := fun a e n l => (live_snoc r2.hr l).elim (E2.off a e n) fun z => e (by rw [z]; exact hD)
      have stT : Stay (lv (hide Z a0) ρ' hf) H2 (lv Z (ρ' ++ [a0]) (hf ++ [.lst racc])) H2 := .of_lv fun a e l => by
        rcases l with l | l
        · rcases live_snoc r2.hr l with l | l
          · exact .inl l
          · exact .inr (.inr l)
        · exact .inr (.inl l)
      have rf : ∀ (n : Nat) (a : Addr), ρ'[n]? = some a → (ρ' ++ [a0])[n]? = some a := fun n a e => by
        rw [List.getElem?_append_left (List.getElem?_eq_some_iff.mp e).1]; exact e
      obtain ⟨R7, e7⟩ := r2.hr.adopt (p := a0) (ob := .lst racc) nD (RepDs.refsLt r2.hr ra) (fun z => nomatch z) (X' := Z) (fun a z => ⟨.inl z, fun e => zD (by rw [← e]; exact z)⟩) (fun a z => z.elim .inr .inl) ⟨acc, eD, ra.mono stT rf⟩ stT
      exact p1 _ _ H2 R7 ⟨E2.same, off, fun n a e => rf n a (E2.ref n a e)⟩ (.r e7)
    | false =>
      rw [if_neg Bool.false_ne_true] at p1
      obtain ⟨R7, st7⟩ := r2.hr.bare (Z := Z) fun a z => .inl z
      have p2 := Post.from E2 p1
      obtain ⟨ts, h8, R8, E8, T8, _, p3⟩ := Post.frzs R7 (ra.mono st7 fun _ _ e => e) p2
      exact p3 ρ' _ H2 R8 (.refl _ _ _) (.t (.lst ⟨eD, fun l => l.elim (E8.off a0 (nn eD) nD) zD⟩ T8))
end
end Kp
set_option autoImplicit false
set_option maxRecDepth 10000
set_option maxHeartbeats 4000000
namespace Kp
open PySem L2
section
variable {X : Cx} {I : Info} {c : Call} {S : NS} {Wx : WX} {N : List Str} {sc : Scope} {pos : Pos}
theorem lc_done {live : Bool} {Z : Lv} {ρ ρ' : List Addr} {h hf : AH} {H H2 : Hp} {σ : L2.St} {a0 : Addr} {acc : List V} {rs : List D} {Q : VK} (R1 : HRel S.W Z ρ h H) (hD : H a0 = none) (r2 : HRel S.W (hide Z a0) ρ' hf H2) (E2 : Ext ρ h H ρ' hf H2) (eD : H2 a0 = some (.lst acc)) (ra : RDs S.W (hide Z a0) ρ' hf H2 acc rs)
    (p1 : Post (relD S.W Z) S.W Wx Z σ ρ h H Q (if live then .ok (.r hf.length) (hf ++ [.lst rs]) else (frzsR rs hf).bind fun ts h => .ok (.t (.lst ts)) h)) : Q (.ref a0) H2 := by
  have nD : ¬ liveAt ρ' hf a0 := (r2.hid a0 (.inr rfl)).1
  have zD : ¬ Z a0 := fun z => (R1.hid a0 z).2 hD
  cases live with
  | true =>
    rw [if_pos rfl] at p1
    have off : ∀ a, H a ≠ none → ¬ liveAt ρ h a → ¬ liveAt (ρ' ++ [a0]) (hf ++ [.lst rs]) a := fun a e n l => (live_snoc r2 l).elim (E2.off a e n) fun z => e (by rw [z]; exact hD)
    have stT : Stay (lv (hide Z a0) ρ' hf) H2 (lv Z (ρ' ++ [a0]) (hf ++ [.lst rs])) H2 := .of_lv fun a e l => by
      rcases l with l | l
      · rcases live_snoc r2 l with l | l
        · exact .inl l
        · exact .inr (.inr l)
      · exact .inr (.inl l)
    have rf : ∀ (n : Nat) (a : Addr), ρ'[n]? = some a → (ρ' ++ [a0])[n]? = some a := fun n a e => by
      rw [List.getElem?_append_left (List.getElem?_eq_some_iff.mp e).1]; exact e
    obtain ⟨R7, e7⟩ := r2.adopt (p := a0) (ob := .lst rs) nD (RepDs.refsLt r2 ra) (fun z => nomatch z) (X' := Z) (fun a z => ⟨.inl z, fun e => zD (by rw [← e]; exact z)⟩) (fun a z => z.elim .inr .inl) ⟨acc, eD, ra.mono stT rf⟩ stT
    exact p1 _ _ H2 R7 ⟨E2.same, off, fun n a e => rf n a (E2.ref n a e)⟩ (.r e7)
  | false =>
    rw [if_neg Bool.false_ne_true] at p1
    obtain ⟨R7, st7⟩ := r2.bare (Z := Z) fun a z => .inl z
    have p2 := Post.from E2 p1
    obtain ⟨ts, h8, R8, E8, T8, _, p3⟩ := Post.frzs R7 (ra.mono st7 fun _ _ e => e) p2
    exact p3 ρ' _ H2 R8 (.refl _ _ _) (.t (.lst ⟨eD, fun l => l.elim (E8.off a0 (nn eD) nD) zD⟩ T8))
theorem tI_run {it : Kp.It} {W : Wd} {Z : Lv} {ρ : List Addr} {h h' : AH} {H : Hp} {env : Env} {σ : L2.St} {pr : D × List D} {K : L2.It → Hp → Prop} (r : Rl W Z ρ h H env σ) (e : evI I c it env h = .ok pr h')
    (k : ∀ ρ' J H', HRel W Z ρ' h' H' → Ext ρ h H ρ' h' H' → WkI W Z ρ' h' H' J pr.1 pr.2 → K J H') : tI I c W Wx it σ H K := ⟨Z, ρ, h, env, r, by rw [e]; exact k⟩
theorem se_lc2 (Y : Cz X I c S.W Wx) (hN : X.N = N) {live : Bool} {el : Ex} {own : List Nat} {tg tg1 : Tg} {it it1 : Kp.It} {cond cond1 : Ex} (htg : ∀ i ∈ tgIs tg, i ∈ own) (htg1 : ∀ i ∈ tgIs tg1, i ∈ own) (hdis : ∀ i ∈ tgIs tg1, i ∉ tgIs tg) :
    ∀ {σ : L2.St} {H : Hp} {Q : VK}, tE I c S.W Wx (.lc live el own tg it cond (.cons tg1 it1 cond1 .nil)) σ H Q → tLc2 (tI I c S.W Wx it) (tG S.W tg) (tCo I c S.W cond) (tI I c S.W WxF it1) (tG S.W tg1) (tCo I c S.W cond1) (tE I c S.W WxF el) own (tgIs tg1) σ H Q := by
  rintro σ H Q ⟨Z, ρ, h, env, r, p⟩
  unfold ev at p
  refine ⟨Z, ρ, h, env, r, p.bind fun pr h1 ρ1 Jt H1 em R1 E1 wk p1 => ?_⟩
  obtain ⟨d, ds⟩ := pr
  intro a0 hD
  have r1 := r.ext R1 E1
  generalize hF : clause [] tg (Kp.wipe env own) (fun env h => if isNo cond then .ok true h else (ev I c cond env h).bind fun d h => R.of (truth h d) h) (fun env h => evG I c (.cons tg1 it1 cond1 .nil) (fun env h => (ev I c el env h).bind fun d h => .ok [d] h) env h) = F at p1
  dsimp only at p1 wk
  cases hl : loopR (still d ds) F ds h1 with
  | no => rw [hl] at p1; exact p1.elim
  | ex a b e f => rw [hl] at p1; exact p1.elim
  | ok rs hf =>
  rw [hl] at p1
  have p1 : Post (relD S.W Z) S.W Wx Z σ ρ1 h1 H1 Q (if rs.length < sizeMax then (if live then .ok (.r hf.length) (hf ++ [.lst rs]) else (frzsR rs hf).bind fun ts h => .ok (.t (.lst ts)) h) else .no) := p1
  split at p1
  case isFalse => exact p1.elim
  case isTrue hz =>
  obtain ⟨R2, st2⟩ := R1.hide (D := a0) hD (o := .lst [])
  let Pv : Nat → Hp → Prop := fun i H => ∃ (ρ' : List Addr) (h' : AH) (acc : List V) (racc rest : List D), Rl S.W (hide Z a0) ρ' h' H (Kp.wipe env own) (L2.wipe σ own) ∧ Ext ρ1 h1 H1 ρ' h' H ∧ WkI S.W (hide Z a0) ρ' h' H Jt d ds ∧ H a0 = some (.lst acc) ∧ RDs S.W (hide Z a0) ρ' h' H acc racc ∧
    loopR (still d ds) F (ds.drop i) h' = .ok rest hf ∧ racc ++ rest = rs
  have still0 := wk.still0
  have P0 : Pv 0 (upd H1 a0 (.lst [])) := ⟨ρ1, h1, [], [], rs, (r1.wipe own).to R2 st2 fun _ _ e => e, (Ext.refl _ _ _).upd_new hD, wk.to R2 st2 (fun _ _ e => e) still0, upd_same, .nil, hl, rfl⟩
  refine ⟨fun i m H => m = ds.length - i ∧ i ≤ ds.length ∧ Pv i H, ⟨ds.length, by simp, Nat.zero_le _, P0⟩, ?_⟩
  rintro i m H2 ⟨rfl, hi', ρ', h', acc, racc, rest, r2, E2, wk2, eD, ra, el2, er⟩
  by_cases hlt : i < ds.length
  · obtain ⟨g1, g2⟩ := wk2.go hlt
    refine .inr ⟨g1, Pv (i + 1), fun H' p' => ⟨ds.length - (i + 1), by omega, rfl, hlt, p'⟩, fun x H' y => ?_⟩
    obtain ⟨rfl, xi⟩ := g2 x H' y
    rw [List.drop_eq_getElem_cons hlt] at el2
    obtain ⟨xs, h2, f1, el3⟩ := bind_ok (show (F ds[i] h').bind (fun xs h => if still d ds h then (loopR (still d ds) F (ds.drop (i + 1)) h).bind fun ys h => .ok (xs ++ ys) h else .no) = .ok rest hf from el2)
    obtain ⟨k2, el4⟩ := if_no el3
    obtain ⟨ys, h3, l5, e5⟩ := bind_ok el4
    cases e5
    subst hF
    unfold clause at f1
    cases hs : tg.set ds[i] h' (Kp.wipe env own) with
    | none => rw [hs] at f1; cases f1
    | some env' =>
    rw [hs] at f1
    obtain ⟨b, h4, t1, f2⟩ := bind_ok (m := testR I c cond env' h') f1
    refine ⟨hide Z a0, ρ', h', Kp.wipe env own, ds[i], r2, xi, ?_⟩
    rw [hs]
    intro σ2 r3 hw
    refine ⟨(hw own htg).trans wipe_wipe, tCo_run r3 t1 fun ρ4 H4 R4 E4 => ?_⟩
    have nD : ¬ liveAt ρ' h' a0 := (r2.hr.hid a0 (.inr rfl)).1
    have eD4 : H4 a0 = some (.lst acc) := by rw [E4.same a0 (nn eD) nD]; exact eD
    cases b with
    | false =>
      cases f2
      rw [if_neg Bool.false_ne_true]
      exact ⟨ρ4, h2, acc, racc, ys, r2.ext R4 E4, E2.trans E4, wk2.ext R4 E4 k2, eD4, ra.ext E4, l5, er⟩
    | true =>
      rw [if_pos rfl]
      have f2 : evG I c (.cons tg1 it1 cond1 .nil) (fun env h => (ev I c el env h).bind fun d h => .ok [d] h) env' h4 = .ok xs h2 := f2
      unfold evG at f2
      obtain ⟨⟨d1, ds1⟩, h5, i1, f3⟩ := bind_ok f2
      dsimp only at f3
      have r4 := r3.ext R4 E4
      refine tI_run r4 i1 fun ρ5 J1 H5 R5 E5 wk1 => ?_
      dsimp only at wk1
      have nD4 : ¬ liveAt ρ4 h4 a0 := (R4.hid a0 (.inr rfl)).1
      have eD5 : H5 a0 = some (.lst acc) := by rw [E5.same a0 (nn eD4) nD4]; exact eD4
      generalize hF1 : clause [] tg1 (Kp.wipe env' tg1.is) (fun env h => if isNo cond1 then .ok true h else (ev I c cond1 env h).bind fun d h => R.of (truth h d) h) (fun env h => evG I c .nil (fun env h => (ev I c el env h).bind fun d h => .ok [d] h) env h) = F1 at f3
      have E45 := E4.trans E5
      let Pv1 : Nat → Hp → Prop := fun j H => ∃ (ρx : List Addr) (hx : AH) (ac : List V) (rac rest1 : List D), HRel S.W (hide Z a0) ρx hx H ∧ Stay (lv (hide Z a0) ρ' h') H' (lv (hide Z a0) ρx hx) H ∧ (∀ (n : Nat) (a : Addr), ρ'[n]? = some a → ρx[n]? = some a) ∧ Ext ρ1 h1 H1 ρx hx H ∧
        WkI S.W (hide Z a0) ρx hx H J1 d1 ds1 ∧ H a0 = some (.lst ac) ∧ RDs S.W (hide Z a0) ρx hx H ac rac ∧ loopR (still d1 ds1) F1 (ds1.drop j) hx = .ok rest1 h2 ∧ rac ++ rest1 = racc ++ xs
      have Q0 : Pv1 0 H5 := ⟨ρ5, h5, acc, racc, xs, R5, E45.stay _, E45.ref, E2.trans E45, wk1, eD5, ra.ext E45, f3, rfl⟩
      refine ⟨fun j m H => m = ds1.length - j ∧ j ≤ ds1.length ∧ Pv1 j H, ⟨ds1.length, by simp, Nat.zero_le _, Q0⟩, ?_⟩
      rintro j m H6 ⟨rfl, hj', ρ6, h6, ac, rac, rest1, R6, S6, rf6, E6, wk6, eD6, ra6, el6, er6⟩
      by_cases hjl : j < ds1.length
      · obtain ⟨g3, g4⟩ := wk6.go hjl
        refine .inr ⟨g3, Pv1 (j + 1), fun H' p' => ⟨ds1.length - (j + 1), by omega, rfl, hjl, p'⟩, fun x1 H7 y1 => ?_⟩
        obtain ⟨rfl, xj⟩ := g4 x1 H7 y1
        rw [List.drop_eq_getElem_cons hjl] at el6
        obtain ⟨us, h8, f8, el7⟩ := bind_ok (show (F1 ds1[j] h6).bind (fun xs h => if still d1 ds1 h then (loopR (still d1 ds1) F1 (ds1.drop (j + 1)) h).bind fun ys h => .ok (xs ++ ys) h else .no) = .ok rest1 h2 from el6)
        obtain ⟨k8, el8⟩ := if_no el7
        obtain ⟨zs, h9, l9, e9⟩ := bind_ok el8
        cases e9
        subst hF1
        unfold clause at f8
        have r6 : Rl S.W (hide Z a0) ρ6 h6 H7 env' σ2 := r3.to R6 S6 rf6
        have r6w := r6.wipe tg1.is
        have tgi : tg1.is = tgIs tg1 := by cases tg1 <;> rfl
        cases hs1 : tg1.set ds1[j] h6 (Kp.wipe env' tg1.is) with
        | none => rw [hs1] at f8; cases f8
        | some env2 =>
        rw [hs1] at f8
        obtain ⟨b1, h10, t10, f10⟩ := bind_ok (m := testR I c cond1 env2 h6) f8
        refine ⟨hide Z a0, ρ6, h6, Kp.wipe env' tg1.is, ds1[j], by rw [← tgi]; exact r6w, xj, ?_⟩
        rw [hs1]
        intro σ3 r7 hw1
        refine ⟨(hw1 (tgIs tg1) fun i hi => hi).trans wipe_wipe, tCo_run r7 t10 fun ρ10 H10 R10 E10 => ?_⟩
        have nD6 : ¬ liveAt ρ6 h6 a0 := (R6.hid a0 (.inr rfl)).1
        have eD10 : H10 a0 = some (.lst ac) := by rw [E10.same a0 (nn eD6) nD6]; exact eD6
        have rf10 : ∀ (n : Nat) (a : Addr), ρ'[n]? = some a → ρ10[n]? = some a := fun n a e => E10.ref n a (rf6 n a e)
        cases b1 with
        | false =>
          cases f10
          rw [if_neg Bool.false_ne_true]
          exact ⟨ρ10, h8, ac, rac, zs, R10, S6.trans (E10.stay _), rf10, E6.trans E10, wk6.ext R10 E10 k8, eD10, ra6.ext E10, l9, er6⟩
        | true =>
          rw [if_pos rfl]
          obtain ⟨e, h11, ee, f11⟩ := bind_ok (show ((ev I c el env2 h10).bind fun d h => .ok [d] h) = .ok us h8 from f10)
          cases f11
          refine tE_run (r7.ext R10 E10) ee fun ρ11 y H11 R11 E11 x11 => ?_
          have nD10 : ¬ liveAt ρ10 h10 a0 := (R10.hid a0 (.inr rfl)).1
          have eD11 : H11 a0 = some (.lst ac) := by rw [E11.same a0 (nn eD10) nD10]; exact eD10
          obtain ⟨R12, st12⟩ := R11.hidden (D := a0) (.inr rfl) (o := .lst (ac ++ [y]))
          have E1011 := E10.trans E11
          refine ⟨ac, eD11, ?_, ρ11, h8, ac ++ [y], rac ++ [e], zs, R12, (S6.trans (E1011.stay _)).trans st12, fun n a e => E11.ref n a (rf10 n a e), (E6.trans E1011).upd_new hD, (wk6.ext R11 E1011 k8).to R12 st12 (fun _ _ e => e) k8, upd_same, RepDs.mono st12 (fun _ _ e => e) ((ra6.ext E1011).append (.cons x11 .nil)), l9, ?_⟩
          · have := ra6.length
            have := congrArg List.length er6
            have := congrArg List.length er
            simp at *
            have := sizeML
            omega
          · rw [List.append_assoc]; exact er6
      · have e : j = ds1.length := by omega
        subst e
        rw [List.drop_length] at el6
        cases el6
        rw [List.append_nil] at er6
        subst er6
        refine .inl ⟨wk6.stop, ?_⟩
        exact ⟨ρ6, h2, ac, racc ++ xs, ys, r2.to R6 S6 rf6, E6, wk2.to R6 S6 rf6 k2, eD6, ra6, l5, by rw [List.append_assoc]; exact er⟩
  · have e : i = ds.length := by omega
    subst e
    rw [List.drop_length] at el2
    cases el2
    rw [List.append_nil] at er
    subst er
    exact .inl ⟨wk2.stop, lc_done R1 hD r2.hr E2 eD ra p1⟩
end
end Kp
set_option autoImplicit false
set_option maxRecDepth 10000
set_option maxHeartbeats 4000000
namespace Kp
open PySem L2
def pK (k : Key) (v : V) : List (Key × V) → List (Key × V)
  | [] => [(k, v)]
  | (k0, v0) :: r => if k0 = k then (k0, v) :: r else (k0, v0) :: pK k v r
theorem putK_eq {k : Key} {v : V} : ∀ {kvs : List (Key × V)}, (kvs.map (·.1)).Nodup → putK kvs k v = pK k v kvs
  | [], _ => rfl
  | (k0, v0) :: r, hn => by
    rw [List.map_cons, List.nodup_cons] at hn
    obtain ⟨h1, h2⟩ := hn
    unfold pK
    by_cases c : k0 = k
    · subst c
      rw [if_pos rfl]
      unfold putK
      rw [if_pos (by rw [List.any_cons, decide_eq_true rfl]; rfl), List.map_cons, if_pos rfl]
      congr 1
      refine (List.map_congr_left fun p hp => ?_).trans (List.map_id' r)
      rw [if_neg fun z => h1 (List.mem_map.mpr ⟨p, hp, z⟩)]
    · rw [if_neg c, ← putK_eq h2]
      unfold putK
      rw [List.any_cons, decide_eq_false c, Bool.false_or]
      by_cases q : (r.any fun kv => decide (kv.1 = k)) = true
      · rw [if_pos q, if_pos q, List.map_cons, if_neg c]
      · rw [if_neg q, if_neg q]; rfl
theorem kOf_inj {a b : List Nat} (h : kOf a = kOf b) : a = b := sOf_inj (Sum.inr.inj h)
theorem kOf_nodup : ∀ {ks : List (List Nat)}, ks.Nodup → (ks.map kOf).Nodup
  | [], _ => .nil
  | k :: ks, h => by
    rw [List.nodup_cons] at h
    rw [List.map_cons, List.nodup_cons]
    refine ⟨fun z => ?_, kOf_nodup h.2⟩
    obtain ⟨x, hx, e⟩ := List.mem_map.mp z
    exact h.1 (kOf_inj e ▸ hx)
theorem put_mem {α β : Type} [DecidableEq α] {v : β} {x : α} : ∀ {ks : List α} {vs : List β} {y : α}, y ∈ (put v x ks vs).1 → y ∈ ks ∨ y = x
  | [], vs, y, h => .inr (by cases vs <;> exact List.mem_singleton.mp h)
  | k :: ks, [], y, h => .inr (List.mem_singleton.mp h)
  | k :: ks, w :: vs, y, h => by
    by_cases c : k = x
    · have e : put v x (k :: ks) (w :: vs) = (k :: ks, v :: vs) := if_pos c
      rw [e] at h; exact .inl h
    · have e : put v x (k :: ks) (w :: vs) = (k :: (put v x ks vs).1, w :: (put v x ks vs).2) := if_neg c
      rw [e] at h
      rcases List.mem_cons.mp h with h | h
      · exact .inl (by rw [h]; exact List.mem_cons_self ..)
      · exact (put_mem h).elim (fun z => .inl (List.mem_cons_of_mem _ z)) .inr
theorem put_nodup {α β : Type} [DecidableEq α] {v : β} {x : α} : ∀ {ks : List α} {vs : List β}, ks.Nodup → (put v x ks vs).1.Nodup
  | [], vs, _ => by cases vs <;> exact List.nodup_cons.mpr ⟨by simp, .nil⟩
  | k :: ks, [], _ => List.nodup_cons.mpr ⟨by simp, .nil⟩
  | k :: ks, w :: vs, h => by
    by_cases c : k = x
    · have e : put v x (k :: ks) (w :: vs) = (k :: ks, v :: vs) := if_pos c
      rw [e]; exact h
    · have e : put v x (k :: ks) (w :: vs) = (k :: (put v x ks vs).1, w :: (put v x ks vs).2) := if_neg c
      rw [e]
      obtain ⟨h1, h2⟩ := List.nodup_cons.mp h
      exact List.nodup_cons.mpr ⟨fun z => (put_mem z).elim h1 c, put_nodup h2⟩
theorem put_dct0 {W : Wd} {L : Lv} {H : Hp} {k : List Nat} {y : V} {t : T} (x : RepT W L H y t) : ∀ {ks : List (List Nat)} {kvs : List (Key × V)} {ts : List T}, kvs.map (·.1) = ks.map kOf → RepTs W L H (kvs.map (·.2)) ts →
    (pK (kOf k) y kvs).map (·.1) = (put t k ks ts).1.map kOf ∧ RepTs W L H ((pK (kOf k) y kvs).map (·.2)) (put t k ks ts).2
  | [], [], [], _, _ => ⟨rfl, .cons x .nil⟩
  | [], _ :: _, _, e, _ => by cases e
  | _ :: _, [], _, e, _ => by cases e
  | [], [], _ :: _, _, r => by cases r
  | _ :: _, _ :: _, [], _, r => by cases r
  | k0 :: ks, (g, v) :: kvs, t0 :: ts, e, r => by
    injection e with e1 e2
    have e1 : g = kOf k0 := e1
    subst e1
    cases r with
    | cons r1 r2 =>
    by_cases c : k0 = k
    · subst c
      have p1 : pK (kOf k0) y ((kOf k0, v) :: kvs) = (kOf k0, y) :: kvs := if_pos rfl
      have p2 : put t k0 (k0 :: ks) (t0 :: ts) = (k0 :: ks, t :: ts) := if_pos rfl
      rw [p1, p2]
      exact ⟨by rw [List.map_cons, List.map_cons]; exact congrArg _ e2, .cons x r2⟩
    · have p1 : pK (kOf k) y ((kOf k0, v) :: kvs) = (kOf k0, v) :: pK (kOf k) y kvs := if_neg fun z => c (kOf_inj z)
      have p2 : put t k (k0 :: ks) (t0 :: ts) = (k0 :: (put t k ks ts).1, t0 :: (put t k ks ts).2) := if_neg c
      rw [p1, p2]
      obtain ⟨a, b⟩ := put_dct0 (k := k) x e2 r2
      exact ⟨by rw [List.map_cons, List.map_cons]; exact congrArg _ a, .cons r1 b⟩
theorem put_dct {W : Wd} {L : Lv} {H : Hp} {k : List Nat} {y : V} {t : T} {ks : List (List Nat)} {kvs : List (Key × V)} {ts : List T} (x : RepT W L H y t) (hk : tOK (sOf k)) (e : kvs.map (·.1) = ks.map kOf) (nd : ks.Nodup) (ok : ∀ k ∈ ks, tOK (sOf k)) (r : RepTs W L H (kvs.map (·.2)) ts) :
    (putK kvs (kOf k) y).map (·.1) = (put t k ks ts).1.map kOf ∧ (put t k ks ts).1.Nodup ∧ (∀ z ∈ (put t k ks ts).1, tOK (sOf z)) ∧ RepTs W L H ((putK kvs (kOf k) y).map (·.2)) (put t k ks ts).2 := by
  rw [putK_eq (by rw [e]; exact kOf_nodup nd)]
  obtain ⟨a, b⟩ := put_dct0 (k := k) x e r
  exact ⟨a, put_nodup nd, fun z hz => (put_mem hz).elim (ok z) fun q => by rw [q]; exact hk, b⟩
theorem RD_str {W : Wd} {Z : Lv} {ρ : List Addr} {h : AH} {H : Hp} {v : V} {s : List Nat} (x : RD W Z ρ h H v (.t (.str s))) : v = .str (sOf s) ∧ tOK (sOf s) := by
  cases x with | t x => cases x with | str _ hs => exact ⟨rfl, hs⟩
section
variable {X : Cx} {I : Info} {c : Call} {S : NS} {Wx : WX} {N : List Str} {sc : Scope} {pos : Pos}
def dcF (I : Info) (c : Call) (key val cond : Ex) (tg : Tg) (env : Env) : D → AH → R (Option (List Nat × T)) :=
  clause none tg env (fun env h => if isNo cond then .ok true h else (ev I c cond env h).bind fun d h => R.of (truth h d) h)
      fun env h => (ev I c key env h).bind fun k h => (ev I c val env h).bind fun d h => match k with
        | .t (.str s) => (frzR d h).bind fun x h => .ok (some (s, x)) h
        | _ => .no
theorem se_dc (Y : Cz X I c S.W Wx) (hN : X.N = N) {live : Bool} {key val cond : Ex} {own : List Nat} {tg : Tg} {it : Kp.It} (htg : ∀ i ∈ tgIs tg, i ∈ own) :
    ∀ {σ : L2.St} {H : Hp} {Q : VK}, tE I c S.W Wx (.dc live key val own tg it cond) σ H Q → tDc (tI I c S.W Wx it) (tG S.W tg) (tCo I c S.W cond) (tE I c S.W WxF key) (tE I c S.W WxF val) own σ H Q := by
  rintro σ H Q ⟨Z, ρ, h, env, r, p⟩
  unfold ev at p
  refine ⟨Z, ρ, h, env, r, p.bind fun pr h1 ρ1 Jt H1 em R1 E1 wk p1 => ?_⟩
  obtain ⟨d, ds⟩ := pr
  intro a0 hD
  have r1 := r.ext R1 E1
  dsimp only at p1 wk
  have p1 : Post (relD S.W Z) S.W Wx Z σ ρ1 h1 H1 Q ((noEx (dctR (still d ds) (dcF I c key val cond tg (Kp.wipe env own)) ds [] [] h1)).bind fun q h => if live then .ok (.r h.length) (h ++ [.dct q.1 q.2]) else .ok (.t (.dct q.1 q.2)) h) := p1
  generalize hF : dcF I c key val cond tg (Kp.wipe env own) = F at p1
  cases hl : dctR (still d ds) F ds [] [] h1 with
  | no => rw [hl] at p1; exact p1.elim
  | ex a b e f => rw [hl] at p1; exact p1.elim
  | ok rs hf =>
  rw [hl] at p1
  have p1 : Post (relD S.W Z) S.W Wx Z σ ρ1 h1 H1 Q (if live then .ok (.r hf.length) (hf ++ [.dct rs.1 rs.2]) else .ok (.t (.dct rs.1 rs.2)) hf) := p1
  obtain ⟨R2, st2⟩ := R1.hide (D := a0) hD (o := .dK [])
  let Pv : Nat → Hp → Prop := fun i H => ∃ (ρ' : List Addr) (h' : AH) (kvs : List (Key × V)) (ks : List (List Nat)) (ts : List T), Rl S.W (hide Z a0) ρ' h' H (Kp.wipe env own) (L2.wipe σ own) ∧ Ext ρ1 h1 H1 ρ' h' H ∧ WkI S.W (hide Z a0) ρ' h' H Jt d ds ∧ H a0 = some (.dK kvs) ∧
    kvs.map (·.1) = ks.map kOf ∧ ks.Nodup ∧ (∀ k ∈ ks, tOK (sOf k)) ∧ RTs S.W (hide Z a0) ρ' h' H (kvs.map (·.2)) ts ∧ dctR (still d ds) F (ds.drop i) ks ts h' = .ok rs hf
  have still0 := wk.still0
  have P0 : Pv 0 (upd H1 a0 (.dK [])) := ⟨ρ1, h1, [], [], [], (r1.wipe own).to R2 st2 fun _ _ e => e, (Ext.refl _ _ _).upd_new hD, wk.to R2 st2 (fun _ _ e => e) still0, upd_same, rfl, .nil, (fun k hk => by cases hk), .nil, hl⟩
  refine ⟨fun i m H => m = ds.length - i ∧ i ≤ ds.length ∧ Pv i H, ⟨ds.length, by simp, Nat.zero_le _, P0⟩, ?_⟩
  rintro i m H2 ⟨rfl, hi', ρ', h', kvs, ks, ts, r2, E2, wk2, eD, k1, k2, k3, k4, el2⟩
  by_cases hlt : i < ds.length
  · obtain ⟨g1, g2⟩ := wk2.go hlt
    refine .inr ⟨g1, Pv (i + 1), fun H' p' => ⟨ds.length - (i + 1), by omega, rfl, hlt, p'⟩, fun x H' y => ?_⟩
    obtain ⟨rfl, xi⟩ := g2 x H' y
    rw [List.drop_eq_getElem_cons hlt] at el2
    obtain ⟨po, h2, f1, el3⟩ := bind_ok (show (F ds[i] h').bind (fun p h => if still d ds h then (match p with
      | some p => if ks.length < sizeMax then (let q := put p.2 p.1 ks ts; dctR (still d ds) F (ds.drop (i + 1)) q.1 q.2 h) else .no
      | none => dctR (still d ds) F (ds.drop (i + 1)) ks ts h) else .no) = .ok rs hf from el2)
    obtain ⟨kk, el4⟩ := if_no el3
    subst hF
    unfold dcF clause at f1
    cases hs : tg.set ds[i] h' (Kp.wipe env own) with
    | none => rw [hs] at f1; cases f1
    | some env' =>
    rw [hs] at f1
    obtain ⟨b, h4, t1, f2⟩ := bind_ok (m := testR I c cond env' h') f1
    refine ⟨hide Z a0, ρ', h', Kp.wipe env own, ds[i], r2, xi, ?_⟩
    rw [hs]
    intro σ2 r3 hw
    refine ⟨(hw own htg).trans wipe_wipe, tCo_run r3 t1 fun ρ4 H4 R4 E4 => ?_⟩
    have nD : ¬ liveAt ρ' h' a0 := (r2.hr.hid a0 (.inr rfl)).1
    have eD4 : H4 a0 = some (.dK kvs) := by rw [E4.same a0 (nn eD) nD]; exact eD
    cases b with
    | false =>
      cases f2
      rw [if_neg Bool.false_ne_true]
      exact ⟨ρ4, h2, kvs, ks, ts, r2.ext R4 E4, E2.trans E4, wk2.ext R4 E4 kk, eD4, k1, k2, k3, k4.ext E4, el4⟩
    | true =>
      rw [if_pos rfl]
      have f2 : ((ev I c key env' h4).bind fun k h => (ev I c val env' h).bind fun d h => match k with
        | .t (.str s) => (frzR d h).bind fun x h => .ok (some (s, x)) h
        | _ => .no) = .ok po h2 := f2
      obtain ⟨kd, h5, e5, f5⟩ := bind_ok f2
      obtain ⟨vd, h6, e6, f6⟩ := bind_ok f5
      refine tE_run (r3.ext R4 E4) e5 fun ρ5 yv H5 R5 E5 x5 => ?_
      refine tE_run ((r3.ext R4 E4).ext R5 E5) e6 fun ρ6 zv H6 R6 E6 x6 => ?_
      have key' : ∃ s, kd = .t (.str s) ∧ (frzR vd h6).bind (fun x h => .ok (some (s, x)) h) = R.ok po h2 := by
        revert f6
        cases kd with
        | r n => intro z; cases z
        | t t => cases t <;> first | (intro z; exact ⟨_, rfl, z⟩) | (intro z; cases z)
      obtain ⟨s, rfl, f7⟩ := key'
      unfold frzR at f7
      cases q : frz 4 vd h6 with
      | none => rw [q] at f7; cases f7
      | some e =>
      obtain ⟨t, h7⟩ := e
      rw [q] at f7
      cases f7
      obtain ⟨rfl, tok⟩ := RD_str x5
      obtain ⟨R7, E7, T7, _⟩ := frz_ok 4 h6 vd t h2 zv q R6 x6
      have E47 := ((E4.trans E5).trans E6).trans E7
      have eD7 : H6 a0 = some (.dK kvs) := by rw [E47.same a0 (nn eD) nD]; exact eD
      dsimp only at el4
      obtain ⟨hz, el5⟩ : ks.length < sizeMax ∧ dctR (still d ds) _ (ds.drop (i + 1)) (put t s ks ts).1 (put t s ks ts).2 h2 = .ok rs hf := by
        by_cases hz : ks.length < sizeMax
        · rw [if_pos hz] at el4; exact ⟨hz, el4⟩
        · rw [if_neg hz] at el4; cases el4
      have lk : kvs.length = ks.length := by have := congrArg List.length k1; simpa using this
      obtain ⟨q1, q2, q3, q4⟩ := put_dct T7 tok k1 k2 k3 (k4.ext E47)
      obtain ⟨R8, st8⟩ := R7.hidden (D := a0) (.inr rfl) (o := .dK (putK kvs (kOf s) zv))
      exact ⟨kvs, kOf s, rfl, eD7, by have := sizeML; omega, ρ6, h2, _, _, _, (r2.ext R7 E47).to R8 st8 fun _ _ e => e, (E2.trans E47).upd_new hD, (wk2.ext R7 E47 kk).to R8 st8 (fun _ _ e => e) kk, upd_same, q1, q2, q3, q4.stay st8, el5⟩
  · have e : i = ds.length := by omega
    subst e
    rw [List.drop_length] at el2
    cases el2
    refine .inl ⟨wk2.stop, ?_⟩
    have nD : ¬ liveAt ρ' hf a0 := (r2.hr.hid a0 (.inr rfl)).1
    have zD : ¬ Z a0 := fun z => (R1.hid a0 z).2 hD
    cases live with
    | true =>
      rw [if_pos rfl] at p1
      have off : ∀ a, H1 a ≠ none → ¬ liveAt ρ1 h1 a → ¬ liveAt (ρ' ++ [a0]) (hf ++ [.dct ks ts]) a := fun a e n l => (live_snoc r2.hr l).elim (E2.off a e n) fun z => e (by rw [z]; exact hD)
      have stT : Stay (lv (hide Z a0) ρ' hf) H2 (lv Z (ρ' ++ [a0]) (hf ++ [.dct ks ts])) H2 := .of_lv fun a e l => by
        rcases l with l | l
        · rcases live_snoc r2.hr l with l | l
          · exact .inl l
          · exact .inr (.inr l)
        · exact .inr (.inl l)
      have rf : ∀ (n : Nat) (a : Addr), ρ'[n]? = some a → (ρ' ++ [a0])[n]? = some a := fun n a e => by
        rw [List.getElem?_append_left (List.getElem?_eq_some_iff.mp e).1]; exact e
      obtain ⟨R7, e7⟩ := r2.hr.adopt (p := a0) (ob := .dct ks ts) nD trivial (fun z => nomatch z) (X' := Z) (fun a z => ⟨.inl z, fun e => zD (by rw [← e]; exact z)⟩) (fun a z => z.elim .inr .inl) ⟨kvs, eD, k1, k2, k3, k4.stay stT⟩ stT
      exact p1 _ _ H2 R7 ⟨E2.same, off, fun n a e => rf n a (E2.ref n a e)⟩ (.r e7)
    | false =>
      rw [if_neg Bool.false_ne_true] at p1
      obtain ⟨R7, st7⟩ := r2.hr.bare (Z := Z) fun a z => .inl z
      exact p1 ρ' _ H2 R7 E2 (.t (.dct (.inl eD) (fun l => l.elim nD zD) k1 k2 k3 (k4.stay st7)))
end
end Kp
set_option autoImplicit false
set_option maxRecDepth 10000
set_option maxHeartbeats 4000000
namespace Kp
open PySem L2
section
variable {X : Cx} {tg e : Expr} {td : TE}
def QL (X : Cx) (Q : VK) : VK := fun v H' => (∃ d od kvs, H' d = some (.frz od (.dK kvs)) ∧ (∀ o' u', X.H_0 d ≠ some (.frz o' u')) ∧ Q v (upd H' d (.dK kvs))) ∨ Q v H'
def iKeysL (X : Cx) (td : TE) : TI := fun σ H R => td σ H fun x H1 => ∃ d kvs, x = .ref d ∧ (kvs.length ≤ sizeLine →
  ((∃ o, H1 d = some (.frz o (.dK kvs)) ∧ R (Itk d o kvs) H1) ∨ (H1 d = some (.dK kvs) ∧ ∀ od, (∀ o' u', X.H_0 d ≠ some (.frz o' u')) → R (Itk d od kvs) (upd H1 d (.frz od (.dK kvs)))))) ∧ Rd H1 d (.dK kvs)
theorem pi_keysL (he : PE X e td) : PI X tg e (iKeysL X td) := by
  refine ⟨fun pins s σ H R I h => ?_⟩
  refine thn (he.run pins s σ H _ I h) fun u s1 ⟨x, H1, I1, rx, d, kvs, ex, q, hr⟩ => ?_
  subst ex
  obtain rfl : u = Value.ref d := rx
  rcases q (dk_rd I1.hok hr).1 with ⟨o, hd, q⟩ | ⟨hd, q⟩
  · obtain ⟨hs, hgd, hx, es, ep, vs, hdt, hsz, kv, hm⟩ := I1.frzK hd
    refine iter_keys hs hgd hx hdt (pi_one (tk := s1.toks) I1 _ (turn_keys _ hdt) ⟨_, Heap.get?_push_size _ rfl, rfl, ?_⟩ q)
    rw [hsz] <;> rfl
  · obtain ⟨od, I2⟩ := I1.lock hd trivial
    have hl : (upd H1 d (.frz od (.dK kvs))) d = some (.frz od (.dK kvs)) := upd_same
    obtain ⟨hs, hgd, hx, es, ep, vs, hdt, hsz, kv, hm⟩ := I2.frzK hl
    refine iter_keys hs hgd hx hdt (pi_one (tk := s1.toks) I2 _ (turn_keys _ hdt) ⟨_, Heap.get?_push_size _ rfl, rfl, ?_⟩ (q od (I1.nofrz hd trivial)))
    rw [hsz] <;> rfl
theorem ql_out {pins : List (Addr × Obj)} {σ : L2.St} {H : Hp} {s : Shared} {Q : VK} {v : V} (I : Inv X pins σ H s) (q : QL X Q v H) : ∃ H', Inv X pins σ H' s ∧ Q v H' := by
  rcases q with ⟨d, od, kvs, h1, h2, h3⟩ | q
  · exact ⟨_, I.unlock h1 h2, h3⟩
  · exact ⟨H, I, q⟩
theorem pe_ql {t : TE} {Q : VK} {pins : List (Addr × Obj)} {s : Shared} {σ : L2.St} {H : Hp} (h : PE X e t) (I : Inv X pins σ H s) (q : t σ H (QL X Q)) : wpAny (model X.prog X.w) X.A (eval e X.env) (EP X pins σ Q) X.xe s :=
  thn (h.run pins s σ H _ I q) fun u s1 ⟨v, H1, I1, rv, q1⟩ => let ⟨H2, I2, q2⟩ := ql_out I1 q1; ⟨v, H2, I2, rv, q2⟩
end
theorem HRel.grow {W : Wd} {Z : Lv} {ρ : List Addr} {h : AH} {H H' : Hp} (R : HRel W Z ρ h H) (g : ∀ a, H a ≠ none → H' a = H a) : HRel W Z ρ h H' ∧ Ext ρ h H ρ h H' :=
  ⟨⟨R.len, R.inj, fun n a u e1 e2 => (R.ob n a u e1 e2).mono (.of_same (fun a e _ => g a e) fun a e n => n) (fun _ _ e => e) fun z hz => by rw [g a (nn hz)]; exact hz, R.lt, fun a x => ⟨(R.hid a x).1, by rw [g a (R.hid a x).2]; exact (R.hid a x).2⟩⟩,
   ⟨fun a e _ => g a e, fun a e n => n, fun _ _ e => e⟩⟩
theorem keys_nodup {kvs : List (Key × V)} {ks : List (List Nat)} (ek : kvs.map (·.1) = ks.map kOf) (nd : ks.Nodup) : (kvs.map (·.1)).Nodup := by rw [ek]; exact kOf_nodup nd
theorem val_at : ∀ {kvs : List (Key × V)} {n : Nat} {k : Key} {v : V}, (kvs.map (·.1)).Nodup → kvs[n]? = some (k, v) → valV kvs k = some v
  | [], n, k, v, _, e => by simp at e
  | (k0, v0) :: r, 0, k, v, _, e => by
    simp at e
    obtain ⟨rfl, rfl⟩ := e
    exact valV_pos rfl
  | (k0, v0) :: r, n + 1, k, v, h, e => by
    rw [List.map_cons, List.nodup_cons] at h
    have e : r[n]? = some (k, v) := by simpa using e
    rw [valV_neg fun z => h.1 (List.mem_map.mpr ⟨(k, v), List.mem_of_getElem? e, z.symm⟩)]
    exact val_at h.2 e
theorem put_take {kvs : List (Key × V)} {n : Nat} {k : Key} {v : V} (h : (kvs.map (·.1)).Nodup) (e : kvs[n]? = some (k, v)) : putK (kvs.take n) k v = kvs.take (n + 1) := by
  have hn := (List.getElem?_eq_some_iff.mp e).1
  have e1 : kvs.take (n + 1) = kvs.take n ++ [(k, v)] := by rw [List.take_succ, e]; rfl
  rw [e1]
  unfold putK
  rw [if_neg]
  intro z
  obtain ⟨p, hp, q⟩ := List.any_eq_true.mp z
  have q := of_decide_eq_true q
  have h2 : ((kvs.take (n + 1)).map (·.1)).Nodup := by rw [List.map_take]; exact h.sublist (List.take_sublist _ _)
  rw [e1, List.map_append, List.nodup_append] at h2
  exact h2.2.2 p.1 (List.mem_map.mpr ⟨p, hp, rfl⟩) k (by simp) q
section
variable {X : Cx} {I : Info} {c : Call} {S : NS} {Wx : WX} {N : List Str} {sc : Scope} {pos : Pos}
theorem one_arg {m : Ex} {env : Env} {h : AH} {f : List D → AH → R D} : (evs I c (.cons m .nil) env h).bind f = (ev I c m env h).bind fun d h => f [d] h := by
  show ((ev I c m env h).bind fun d h => (evs I c .nil env h).bind fun ds h => .ok (d :: ds) h).bind f = _
  cases ev I c m env h <;> rfl
theorem keys_tLc {a body : Ex} {i : Nat} {σ : L2.St} {H : Hp} {Q : VK} (hi : i < σ.length) (hb : ∀ (l : Nat) (k : List Nat), i < l → ev I c body ((List.replicate l none).set i (some (.t (.str k)))) [] = .ok (.t (.str k)) [])
    (t : tE I c S.W Wx (.bi .keys (.cons a .nil)) σ H Q) : tLc (iKeysL X (tE I c S.W Wx a)) (gName i) tYes (tE I c S.W WxF body) [i] σ H (QL X Q) := by
  obtain ⟨Z, ρ, h, env, r, p⟩ := t
  unfold ev at p
  rw [one_arg] at p
  refine tE.step r p fun d v ρ1 h1 H1 r1 E1 x1 p1 => ?_
  have p1 : Post (relD S.W Z) S.W Wx Z σ ρ1 h1 H1 Q (if biOk I h1 .keys d then (match dctOf h1 d with
      | some p => .ok (.t (.lst (p.1.map .str))) h1
      | none => .no) else .no) := p1
  rw [if_pos (by unfold biOk; simp)] at p1
  cases ed : dctOf h1 d with
  | none => rw [ed] at p1; exact p1.elim
  | some q =>
  obtain ⟨ks, ts⟩ := q
  rw [ed] at p1
  dsimp only at p1
  obtain ⟨da, kvs, rfl, hr, ek, nd, ok, rts⟩ := x1.dctOf r1.hr ed
  dsimp only at ek nd ok
  have lk : kvs.length = ks.length := by have := congrArg List.length ek; simpa using this
  have loop : ∀ (HL : Hp) (o : Obj), kvs.length ≤ sizeLine → HL da = some (.frz o (.dK kvs)) → (∀ D Hf, HL D = none → (∀ a, HL a ≠ none → Hf a = HL a) → Hf D = some (.lst (ks.map (V.str ∘ sOf))) → QL X Q (.ref D) Hf) →
      ∀ D, HL D = none → ∃ W : Nat → Nat → Hp → Prop, (∃ m, W 0 m (upd HL D (.lst []))) ∧ ∀ i' m H, W i' m H →
        ((Itk da o kvs).stop i' H ∧ QL X Q (.ref D) H) ∨ ((Itk da o kvs).go i' H ∧ ∃ Nx : Hp → Prop, (∀ H', Nx H' → ∃ m', m' < m ∧ W (i' + 1) m' H') ∧ ∀ x H', (Itk da o kvs).yld i' H x H' → gName i x (L2.wipe σ [i]) H' fun σ2 H2 => L2.wipe σ2 [i] = L2.wipe σ [i] ∧ tYes σ2 H2 fun b H3 =>
          if b = true then tE I c S.W WxF body σ2 H3 fun y H4 => ∃ acc, H4 D = some (.lst acc) ∧ acc.length < sizeLine ∧ Nx (upd H4 D (.lst (acc ++ [y]))) else Nx H3) := by
    intro HL o hz hlk fin D hD
    let Pv : Nat → Hp → Prop := fun n H => (∀ a, HL a ≠ none → H a = HL a) ∧ H D = some (.lst ((ks.take n).map (V.str ∘ sOf)))
    have nD : ∀ a, HL a ≠ none → a ≠ D := fun a e z => e (by rw [z]; exact hD)
    refine ⟨fun n m H => m = kvs.length - n ∧ n ≤ kvs.length ∧ Pv n H, ⟨kvs.length, by simp, Nat.zero_le _, fun a e => upd_ne (nD a e), upd_same⟩, ?_⟩
    rintro n m H2 ⟨rfl, hn, g, eD⟩
    have eda : H2 da = some (.frz o (.dK kvs)) := by rw [g da (nn hlk)]; exact hlk
    by_cases hlt : n < kvs.length
    · refine .inr ⟨⟨eda, hlt⟩, Pv (n + 1), fun H' p' => ⟨kvs.length - (n + 1), by omega, rfl, hlt, p'⟩, fun x H' ⟨e1, k, v, e2, e3⟩ => ?_⟩
      subst e1
      have hk : ∃ z, ks[n]? = some z ∧ k = kOf z := by
        have e4 : (kvs.map (·.1))[n]? = (ks.map kOf)[n]? := by rw [ek]
        rw [List.getElem?_map, List.getElem?_map, e2] at e4
        cases q : ks[n]? with
        | none => rw [q] at e4; cases e4
        | some z => rw [q] at e4; exact ⟨z, rfl, Option.some.inj e4⟩
      obtain ⟨z, ez, rfl⟩ := hk
      have hx : x = .str (sOf z) := e3
      subst hx
      show _ ∧ _
      refine ⟨(wipe_set (List.mem_singleton.mpr rfl)).trans wipe_wipe, ?_⟩
      unfold tYes
      dsimp only
      rw [if_pos rfl]
      have hl : (L2.wipe σ [i]).length = σ.length := wipe_length σ [i]
      refine ⟨fun _ => False, [], [], (List.replicate σ.length none).set i (some (.t (.str z))), ⟨⟨rfl, fun i j a o u e => by simp at e, fun n a o e => by simp at e, fun n o e => by simp at e, fun a z => z.elim⟩, ?_, fun j dd ej => ?_⟩, ?_⟩
      · simp [hl]
      · by_cases c' : i = j
        · subst c'
          rw [List.getElem?_set_self (by simpa using hi)] at ej
          cases ej
          exact ⟨.str (sOf z), List.getElem?_set_self (by rw [hl]; exact hi), .t (.str z (ok z (List.mem_of_getElem? ez)))⟩
        · rw [List.getElem?_set_ne c', List.getElem?_replicate] at ej
          split at ej <;> cases ej
      · rw [hb σ.length z hi]
        intro ρ' v' H4 R4 E4 x4
        obtain ⟨rfl, _⟩ := RD_str x4
        have g4 : ∀ a, H' a ≠ none → H4 a = H' a := fun a e => E4.same a e fun ⟨n, o, e1, _⟩ => by simp at e1
        have e5 : H4 D = some (.lst ((ks.take n).map (V.str ∘ sOf))) := by rw [g4 D (nn eD)]; exact eD
        refine ⟨_, e5, by simp; omega, fun a e => ?_, ?_⟩
        · rw [upd_ne (nD a e), g4 a (by rw [g a e]; exact e), g a e]
        · rw [upd_same, List.take_succ, ez]
          simp
    · refine .inl ⟨⟨eda, by omega⟩, fin D H2 hD g ?_⟩
      rw [eD, List.take_of_length_le (by omega)]
  refine ⟨da, kvs, rfl, fun hz => ?_, hr⟩
  have lvD : ∀ D, H1 D = none → ¬ lv Z ρ1 h1 D := fun D e l => r1.hr.lv_some l e
  have res : ∀ D Hf, H1 D = none → (∀ a, H1 a ≠ none → Hf a = H1 a) → Hf D = some (.lst (ks.map (V.str ∘ sOf))) → Q (.ref D) Hf := fun D Hf hD g eD => by
    obtain ⟨R2, E2⟩ := r1.hr.grow g
    exact p1 ρ1 _ Hf R2 E2 (.t (.lst ⟨eD, lvD D hD⟩ (reps_str ok)))
  rcases hr with hr | ⟨o, hr⟩
  · refine .inr ⟨hr, fun od hnf => loop _ od hz upd_same fun D Hf hD g eD => ?_⟩
    have nd' : D ≠ da := fun z => by rw [z, upd_same] at hD; cases hD
    have hD1 : H1 D = none := by rw [upd_ne nd'] at hD; exact hD
    refine .inl ⟨da, od, kvs, by rw [g da (by rw [upd_same]; exact fun z => nomatch z), upd_same], hnf, res D _ hD1 (fun a e => ?_) (by rw [upd_ne nd']; exact eD)⟩
    by_cases ca : a = da
    · rw [ca, upd_same, hr]
    · rw [upd_ne ca, g a (by rw [upd_ne ca]; exact e), upd_ne ca]
  · exact .inl ⟨o, hr, loop H1 o hz hr fun D Hf hD g eD => .inr (res D Hf hD g eD)⟩
theorem dcp_tDc {i j : Nat} {σ : L2.St} {H : Hp} {Q : VK} (hij : i ≠ j) (hi : i < σ.length)
    (t : tE I c S.W Wx (.bi .dcp (.cons (.v j) .nil)) σ H Q) : tDc (iKeysL X (tVar j)) (gName i) tYes (tVar i) (tDGet (tVar j) (tVar i)) [i] σ H (QL X Q) := by
  obtain ⟨Z, ρ, h, env, r, p⟩ := t
  unfold ev at p
  rw [one_arg] at p
  unfold ev at p
  cases ej : env[j]? with
  | none => rw [ej] at p; exact p.elim
  | some od =>
  cases od with
  | none => rw [ej] at p; exact p.elim
  | some d =>
  rw [ej] at p
  obtain ⟨v, ev, x1⟩ := r.env j d ej
  refine ⟨v, ev, ?_⟩
  have p1 : Post (relD S.W Z) S.W Wx Z σ ρ h H Q (if biOk I h .dcp d then (match dctOf h d with
      | some p => .ok (.r h.length) (h ++ [.dct p.1 p.2])
      | none => .no) else .no) := p
  rw [if_pos (by unfold biOk; simp)] at p1
  cases ed : dctOf h d with
  | none => rw [ed] at p1; exact p1.elim
  | some q =>
  obtain ⟨ks, ts⟩ := q
  rw [ed] at p1
  dsimp only at p1
  obtain ⟨da, kvs, rfl, hr, ek, nd, ok, rts⟩ := x1.dctOf r.hr ed
  dsimp only at ek nd ok rts
  have kn := keys_nodup ek nd
  have loop : ∀ (HL : Hp) (o : Obj), kvs.length ≤ sizeLine → HL da = some (.frz o (.dK kvs)) → (∀ D, HL D = none → QL X Q (.ref D) (upd HL D (.dK kvs))) →
      ∀ D, HL D = none → ∃ W : Nat → Nat → Hp → Prop, (∃ m, W 0 m (upd HL D (.dK []))) ∧ ∀ i' m H, W i' m H →
        ((Itk da o kvs).stop i' H ∧ QL X Q (.ref D) H) ∨ ((Itk da o kvs).go i' H ∧ ∃ Nx : Hp → Prop, (∀ H', Nx H' → ∃ m', m' < m ∧ W (i' + 1) m' H') ∧ ∀ x H', (Itk da o kvs).yld i' H x H' → gName i x (L2.wipe σ [i]) H' fun σ2 H2 => L2.wipe σ2 [i] = L2.wipe σ [i] ∧ tYes σ2 H2 fun b H3 =>
          if b = true then tVar i σ2 H3 fun y H4 => tDGet (tVar j) (tVar i) σ2 H4 fun z H5 => ∃ kvs k, y = kV k ∧ H5 D = some (.dK kvs) ∧ kvs.length < sizeLine ∧ Nx (upd H5 D (.dK (putK kvs k z))) else Nx H3) := by
    intro HL o hz hlk fin D hD
    have nda : da ≠ D := fun z => by rw [z, hD] at hlk; cases hlk
    refine ⟨fun n m H => m = kvs.length - n ∧ n ≤ kvs.length ∧ H = upd HL D (.dK (kvs.take n)), ⟨kvs.length, by simp, Nat.zero_le _, rfl⟩, ?_⟩
    rintro n m H2 ⟨rfl, hn, rfl⟩
    have eda : (upd HL D (.dK (kvs.take n))) da = some (.frz o (.dK kvs)) := by rw [upd_ne nda]; exact hlk
    by_cases hlt : n < kvs.length
    · refine .inr ⟨⟨eda, hlt⟩, fun H' => H' = upd HL D (.dK (kvs.take (n + 1))), fun H' p' => ⟨kvs.length - (n + 1), by omega, rfl, hlt, p'⟩, fun x H' ⟨e1, k, w, e2, e3⟩ => ?_⟩
      subst e1 e3
      refine ⟨(wipe_set (List.mem_singleton.mpr rfl)).trans wipe_wipe, ?_⟩
      unfold tYes
      dsimp only
      rw [if_pos rfl]
      have hl : (L2.wipe σ [i]).length = σ.length := wipe_length σ [i]
      have si : ((L2.wipe σ [i]).set i (some (kV k)))[i]? = some (some (kV k)) := List.getElem?_set_self (by rw [hl]; exact hi)
      have sj : ((L2.wipe σ [i]).set i (some (kV k)))[j]? = some (some (.ref da)) := by
        rw [List.getElem?_set_ne hij, wipe_out (by simpa using fun z => hij z.symm)]; exact ev
      refine ⟨kV k, si, .ref da, sj, kV k, si, da, w, rfl, .inl ⟨kvs, k, .inr ⟨o, eda⟩, rfl, (val_at kn e2).symm⟩, kvs.take n, k, rfl, upd_same, by rw [List.length_take]; omega, ?_⟩
      show upd (upd HL D (.dK (kvs.take n))) D (.dK (putK (kvs.take n) k w)) = _
      rw [put_take kn e2]
      funext b
      by_cases cb : b = D
      · rw [cb, upd_same, upd_same]
      · rw [upd_ne cb, upd_ne cb, upd_ne cb]
    · refine .inl ⟨⟨eda, by omega⟩, ?_⟩
      rw [List.take_of_length_le (by omega)]
      exact fin D hD
  refine ⟨da, kvs, rfl, fun hz => ?_, hr⟩
  have res : ∀ D, H D = none → Q (.ref D) (upd H D (.dK kvs)) := fun D hD => by
    obtain ⟨R1, E1, e1⟩ := r.hr.alloc (o := .dK kvs) (ob := .dct ks ts) hD trivial (fun z => nomatch z) fun L' st => ⟨kvs, upd_same, ek, nd, ok, rts.stay st⟩
    exact p1 _ _ _ R1 E1 (.r e1)
  rcases hr with hr | ⟨o, hr⟩
  · refine .inr ⟨hr, fun od hnf => loop _ od hz upd_same fun D hD => ?_⟩
    have nd' : D ≠ da := fun z => by rw [z, upd_same] at hD; cases hD
    have hD1 : H D = none := by rw [upd_ne nd'] at hD; exact hD
    refine .inl ⟨da, od, kvs, by rw [upd_ne nd'.symm, upd_same], hnf, ?_⟩
    have e : upd (upd (upd H da (.frz od (.dK kvs))) D (.dK kvs)) da (.dK kvs) = upd H D (.dK kvs) := by
      funext b
      by_cases cb : b = da
      · rw [cb, upd_same, upd_ne nd'.symm, hr]
      · rw [upd_ne cb]
        by_cases cd : b = D
        · rw [cd, upd_same, upd_same]
        · rw [upd_ne cd, upd_ne cb, upd_ne cd]
    rw [e]
    exact res D hD1
  · exact .inl ⟨o, hr, loop H o hz hr fun D hD => .inr (res D hD)⟩
end
end Kp
set_option autoImplicit false
set_option maxRecDepth 10000
set_option maxHeartbeats 4000000
namespace Kp
open PySem L2
section
variable {X : Cx} {I : Info} {c : Call} {S : NS} {Wx : WX} {N : List Str} {sc : Scope} {pos : Pos}
theorem keyEx_ok {y : Str} {x : Expr} {i : Nat} (h : keyEx sc y x = true) (hi : N[i]? = some y) : ∃ body, (∀ (l : Nat) (k : List Nat), i < l → ev I c body ((List.replicate l none).set i (some (.t (.str k)))) [] = .ok (.t (.str k)) []) ∧ ∀ {X : Cx} {Wx : WX}, Cw X I c S Wx N sc → SE X I c S Wx body x := by
  have e0 : ∀ (l : Nat) (k : List Nat), i < l → ev I c (.v i) ((List.replicate l none).set i (some (.t (.str k)))) [] = .ok (.t (.str k)) [] := fun l k hl => by
    unfold ev
    rw [List.getElem?_set_self (by simpa using hl)]
  cases x with
  | Name z p =>
    obtain ⟨h1, h3⟩ := ba (show (decide (z = y) && visB sc y && okName y) = true from h)
    obtain ⟨h1, h2⟩ := ba h1
    cases of_decide_eq_true h1
    exact ⟨.v i, e0, fun Y => se_v Y.y hi h2 h3⟩
  | Call f l kws p =>
    match f, l, kws, h with
    | .Name s p1, [.Name z p2], [], h =>
      obtain ⟨h1, h5⟩ := ba (show (decide (z = y) && visB sc y && okName y && decide (s = ("str" : Str)) && glB sc s) = true from h)
      obtain ⟨h1, h4⟩ := ba h1
      obtain ⟨h1, h3⟩ := ba h1
      obtain ⟨h1, h2⟩ := ba h1
      cases of_decide_eq_true h1
      cases of_decide_eq_true h4
      refine ⟨.bi .str (.cons (.v i) .nil), fun l k hl => ?_, fun Y => ?_⟩
      · unfold ev
        rw [one_arg, e0 l k hl]
        rfl
      · exact se_bi (pos := p) (p := p1) Y (b := .str) (fun t z => nomatch z) (fun z => nomatch z) (fun z => nomatch z) (fun z => nomatch z) (fun z => nomatch z) (tEs_cons (se_v Y.y hi h2 h3) tEs_nil rfl) h5 rfl rfl
  | _ => cases h
theorem se_keys (Y : Cw X I c S Wx N sc) {a body : Ex} {y : Str} {py : Pos} {x it' : Expr} {scope : Scope} {i : Nat} (ok : BlkOk X.N X.env.scope scope (ownL N [i])) (hi : N[i]? = some y) (ha : SE X I c S Wx a it') (hset : isSet it' = false)
    (hg : ∀ (s : Shared) (H : Hp) (C : Addr) (cl : List (Str × Addr)) (fp : List Addr), PG (X.blk s H scope (compEnvC scope cl C X.env) fp) (.Name y py) (gName i))
    (he : ∀ (s : Shared) (H : Hp) (C : Addr) (cl : List (Str × Addr)) (fp : List Addr), PE (X.blk s H scope (compEnvC scope cl C X.env) fp) x (tE I c S.W WxF body))
    (hb : ∀ (l : Nat) (k : List Nat), i < l → ev I c body ((List.replicate l none).set i (some (.t (.str k)))) [] = .ok (.t (.str k)) []) : SE X I c S Wx (.bi .keys (.cons a .nil)) (.ListComp x [⟨.Name y py, it', [], 0⟩] scope pos) := by
  refine ⟨fun pins s σ H Q J t => ?_⟩
  have e1 := pe_lc (pos := pos) Y.y.z.calm Y.y.z.nd (pi_keysL (tg := .Name y py) ha) ok hg (fun _ _ _ _ _ => pts_nil) he (set_of hset _)
  rw [ownL_snd] at e1
  exact pe_ql e1 J (keys_tLc (by rw [J.len, Y.y.n]; exact (List.getElem?_eq_some_iff.mp hi).1) hb t)
theorem se_dcp (Y : Cw X I c S Wx N sc) {y z : Str} {p1 p2 p3 p4 py pz : Pos} {scope : Scope} {i j : Nat} (ok : BlkOk X.N X.env.scope scope (ownL N [i])) (hi : N[i]? = some y) (hj : N[j]? = some z) (hyz : y ≠ z)
    (hz : visB sc z = true) (oz : okName z = true) (oy : okName y = true) (hy1 : visB (relS scope sc) y = true) (hz1 : visB (relS scope sc) z = true)
    (hg : ∀ (s : Shared) (H : Hp) (C : Addr) (cl : List (Str × Addr)) (fp : List Addr), PG (X.blk s H scope (compEnvC scope cl C X.env) fp) (.Name y py) (gName i))
    (Yb : ∀ (s : Shared) (H : Hp) (C : Addr) (cl : List (Str × Addr)) (fp : List Addr), Cw (X.blk s H scope (compEnvC scope cl C X.env) fp) I c S WxF N (relS scope sc)) :
    SE X I c S Wx (.bi .dcp (.cons (.v j) .nil)) (.DictComp (.Name y p1) (.Subscript (.Name z p2) (.Name y p3) p4) [⟨.Name y py, .Name z pz, [], 0⟩] scope pos) ∧
    ∀ {k : Nat} {x : Str} {px spos : Pos}, LocOk X sc → N[k]? = some x → locB sc x = true → ∀ {pins : List (Addr × Obj)} {s : Shared} {σ : L2.St} {H : Hp} {D : Ends}, Inv X pins σ H s → tE I c S.W Wx (.bi .dcp (.cons (.v j) .nil)) σ H (fun v H1 => D.nx (σ.set k (some v)) H1) →
      wpAny (model X.prog X.w) X.A (exec (.Assign [.Name x px] (.DictComp (.Name y p1) (.Subscript (.Name z p2) (.Name y p3) p4) [⟨.Name y py, .Name z pz, [], 0⟩] scope pos) spos) X.env) (SP X pins D) X.xe s := by
  have hij : i ≠ j := fun e => hyz (by rw [e, hj] at hi; exact (Option.some.inj hi).symm)
  obtain ⟨oy1, oy2, _⟩ := okn oy
  obtain ⟨oz1, oz2, _⟩ := okn oz
  have hu : X.A.units + 1 < cLine := by have := Y.y.z.u; omega
  have il : ∀ {pins : List (Addr × Obj)} {s : Shared} {σ : L2.St} {H : Hp}, Inv X pins σ H s → i < σ.length := fun J => by rw [J.len, Y.y.n]; exact (List.getElem?_eq_some_iff.mp hi).1
  have pit : PI X (.Name y py) (.Name z pz) (iKeysL X (tVar j)) := pi_keysL (pe_var (Y.y.n ▸ hj) (vis_of Y.y hz) oz1 oz2)
  have pk : ∀ (p : Pos) (s : Shared) (H : Hp) (C : Addr) (cl : List (Str × Addr)) (fp : List Addr), PE (X.blk s H scope (compEnvC scope cl C X.env) fp) (.Name y p) (tVar i) := fun p s H C cl fp => pe_var ((Yb s H C cl fp).y.n ▸ hi) (vis_of (Yb s H C cl fp).y hy1) oy1 oy2
  have pv : ∀ (s : Shared) (H : Hp) (C : Addr) (cl : List (Str × Addr)) (fp : List Addr), PE (X.blk s H scope (compEnvC scope cl C X.env) fp) (.Subscript (.Name z p2) (.Name y p3) p4) (tDGet (tVar j) (tVar i)) := fun s H C cl fp =>
    pe_dget (X := X.blk s H scope (compEnvC scope cl C X.env) fp) hu (pe_var ((Yb s H C cl fp).y.n ▸ hj) (vis_of (Yb s H C cl fp).y hz1) oz1 oz2) (pk p3 s H C cl fp) (fun _ _ => rfl)
  have whole : SE X I c S Wx (.bi .dcp (.cons (.v j) .nil)) (.DictComp (.Name y p1) (.Subscript (.Name z p2) (.Name y p3) p4) [⟨.Name y py, .Name z pz, [], 0⟩] scope pos) := by
    refine ⟨fun pins s σ H Q J t => ?_⟩
    have e1 := pe_dc (pos := pos) Y.y.z.calm Y.y.z.nd pit ok hg (fun _ _ _ _ _ => pts_nil) (pk p1) pv (fun _ => rfl)
    rw [ownL_snd] at e1
    exact pe_ql e1 J (dcp_tDc hij (il J) t)
  refine ⟨whole, fun {k x px spos} hl hk hx {pins s σ H D} J t => ?_⟩
  have hsw : swapsWith (.DictComp (.Name y p1) (.Subscript (.Name z p2) (.Name y p3) p4) [⟨.Name y py, .Name z pz, [], 0⟩] scope pos) (some (.Name x px)) spos.line X.env =
    pure (X.env.blockKind == .function && X.env.kindOf x == some .local && px.line == pos.line && !(scope.names.any fun (n, k) => n == x && (k == .local || k == .cell))) := rfl
  cases hb : (X.env.blockKind == .function && X.env.kindOf x == some .local && px.line == pos.line && !(scope.names.any fun (n, k) => n == x && (k == .local || k == .cell))) with
  | false =>
    rw [hb] at hsw
    obtain ⟨l1, l2⟩ := hl x hx
    exact (ps_set Y.y.z.nd (Y.y.n ▸ hk) l1 whole hsw l2).run pins s σ H D J t
  | true =>
    rw [hb] at hsw
    have hloc : X.env.scope.names.lookup x = some .local := by
      obtain ⟨hb, _⟩ := ba hb
      obtain ⟨hb, _⟩ := ba hb
      obtain ⟨_, hb⟩ := ba hb
      exact eq_of_beq hb
    have t2 := dcp_tDc (X := X) hij (il J) t
    rw [← ownL_snd (N := N) (own := [i])] at t2
    rw [exec_Assign_Name_used _ _ _ _ hsw]
    refine wpAny_bind (wpAny_standAt (wpAny_bind ?_))
    show wpAny _ X.A (do let _ ← comprehension (.DictComp (.Name y p1) (.Subscript (.Name z p2) (.Name y p3) p4) [⟨.Name y py, .Name z pz, [], 0⟩] scope pos) scope X.env (firstIterPos [⟨.Name y py, .Name z pz, [], 0⟩] pos) newDict false (eval (.Name z pz) X.env) (some (assign (.Name x px) X.env))) _ _ s
    refine wpAny_bind (thn (dc_core (Qf := fun _ s' => SP X pins D .next s') Y.y.z.calm Y.y.z.nd J pit ok hg (fun _ _ _ _ _ => pts_nil) (pk p1) pv (fun _ => rfl) t2 fun L C s' m H' I' q hn f => ?_) fun _ s' hq => wpAny_pure (wpAny_pure hq))
    show wpAny _ _ (assign (.Name x px) X.env (.ref L)) _ _ _
    refine wpAny_assign_Name (store_ok2 (v := V.ref L) I' Y.y.z.nd (Y.y.n ▸ hk) (.inl hloc) rfl (fun s2 I2 ⟨a, sb, ha⟩ => ?_) (.inr hloc))
    obtain ⟨f0, f1, f2, f3, f4, f5⟩ := f
    have haC : C ≠ a := by
      rcases ha with z | z
      · rw [z]; exact f1
      · exact fun e => f4 x a z e.symm
    refine ⟨m, hn.sameBut sb haC, fun h3 sb3 => ?_⟩
    obtain ⟨H2, I3, q3⟩ := ql_out (I2.turned (t' := s2.toks) (fun b o hb e => (sb3.2 b hb).trans e) f0 f1 f3 f4 f5) q
    exact ⟨_, H2, I3, q3⟩
end
end Kp
set_option autoImplicit false
set_option maxRecDepth 10000
set_option maxHeartbeats 4000000
namespace Kp
open PySem L2
section
variable {X : Cx} {I : Info} {c : Call} {S : NS} {Wx : WX} {N : List Str} {sc : Scope} {pos : Pos}
theorem st_chain (Y : Cy X I c S Wx N sc) {o o' : Cop} {a b d : Ex} {ea eb ed : Expr} (ha : SE X I c S Wx a ea) (hb : SE X I c S Wx b eb) (hd : SE X I c S Wx d ed) (hm : lastMarks [copr o, copr o'] [eb, ed] = false) : STt X I c S Wx (.chain o o' a b d) (.Compare ea [copr o, copr o'] [eb, ed] pos) := by
  refine ⟨fun pins s σ H Q J ⟨Z, ρ, h, env, r, p⟩ => ?_⟩
  unfold ev at p
  rw [bind_assoc'] at p
  refine PyProof.Rows.isTrue_chain (PE.step ha J r p fun v s1 x H1 dx ρ1 h1 I1 rx r1 E1 x1 p1 => ?_) hm
  rw [bind_assoc'] at p1
  refine PyProof.Rows.test_link (PE.step hb I1 r1 p1 fun u s2 y H2 dy ρ2 h2 I2 ry r2 E2 y2 p2 => ?_)
  rw [bind_assoc'] at p2
  have x2 := x1.ext E2
  have p3 : Post (relD S.W Z) S.W Wx Z σ ρ2 h2 H2 (fun z H3 => ∃ k, z = .bl k ∧ if k = true then ∃ ρ h, Rl S.W Z ρ h H3 env σ ∧ RD S.W Z ρ h H3 y dy ∧ Post relB S.W Wx Z σ ρ h H3 Q ((ev I c d env h).bind fun z h => (cmpD I c o' dy z h).bind fun d h => R.of (truth h d) h) else Q false H3) (cmpD I c o dx dy h2) := p2.bind fun d3 h3 ρ3 v3 H3 em R3 E3 x3 p3 => by
    split at p3
    · rw [bind_assoc'] at p3
      exact ⟨true, x3.bl, ⟨ρ3, h3, r2.ext R3 E3, y2.ext E3, p3⟩⟩
    · exact ⟨false, x3.bl, p3 ρ3 false H3 R3 (.refl _ _ _) rfl⟩
    · exact p3.elim
  refine thn (cmp_val Y.z I2 r2.hr x2 y2 rx ry p3) fun w s3 ⟨z, H3, I3, r3, k, ez, q3⟩ => ?_
  subst ez
  cases r3
  refine wpAny_truthy_bool ?_
  cases k with
  | false => exact PyProof.Rows.ite_ff ⟨H3, I3, q3⟩
  | true =>
    obtain ⟨ρ3, h3, r3, y3, p4⟩ := q3
    refine PyProof.Rows.ite_tt (PyProof.Rows.test_last (PE.step hd I3 r3 p4 fun w' s4 z' H4 dz ρ4 h4 I4 r4' r4 E4 z4 p5 => ?_))
    have p6 : Post (relD S.W Z) S.W Wx Z σ ρ4 h4 H4 (fun v H' => ∃ ρ h d, HRel S.W Z ρ h H' ∧ RD S.W Z ρ h H' v d ∧ Post relB S.W Wx Z σ ρ h H' Q (R.of (truth h d) h)) (cmpD I c o' dy dz h4) :=
      p5.bind fun d h' ρ' v' H' _ R' E' x' q => ⟨ρ', h', d, R', x', q⟩
    refine thn (cmp_val Y.z I4 r4.hr (y3.ext E4) z4 ry r4' p6) fun w s5 ⟨z, H5, I5, r5, ρ5, h5, d5, R5, x5, p7⟩ => ?_
    exact test_val Y I5 R5 x5 r5 p7
theorem se_dct {ks : List (List Nat)} {es : Exs} (hk : ks.isEmpty = true) (he : isNil es = true) : SE X I c S Wx (.dct ks es) (.Dict [] [] pos) := by
  refine ⟨fun pins s σ H Q J ⟨Z, ρ, h, env, r, p⟩ => ?_⟩
  cases ks with
  | cons _ _ => cases hk
  | nil =>
    cases es with
    | cons _ _ => cases he
    | nil =>
      refine pe_dnewK.run pins s σ H Q J fun a ha => ?_
      have p : Post (relD S.W Z) S.W Wx Z σ ρ h H Q (.ok (.r h.length) (h ++ [.dct [] []])) := p
      obtain ⟨R1, E1, e1⟩ := r.hr.alloc (o := .dK []) (ob := .dct [] []) ha trivial (fun z => nomatch z) fun L' s => ⟨[], upd_same, rfl, .nil, (fun k hk => by cases hk), .nil⟩
      exact p _ _ _ R1 E1 (.r e1)
theorem nosl_of {e : Expr} (h : isSlc e = false) : NoSl e := by
  intro ov iv
  cases e <;> first | rfl | cases h
theorem sub2_of {e : Expr} (h : isSlc e = false) (o i : Value) : subscripted e true o i = runValue (.builtin "lifetime.subscript" ⟨[o, i], []⟩) := by
  cases e <;> first | rfl | cases h
theorem mark_of {e : Expr} (h : noSetB e = true) (op : CmpOp) : behindInMarks op e = false := by
  cases e <;> first | rfl | cases h
theorem nb {a : Bool} (h : (!a) = true) : a = false := by cases a <;> first | rfl | cases h
theorem rel_lookup {scope sc : Scope} {x : Str} {k : NameKind} (h : scope.names.lookup x = some k) (n : k ≠ .free) : (relS scope sc).names.lookup x = some k := by
  unfold relS
  dsimp only
  revert h
  induction scope.names with
  | nil => intro h; cases h
  | cons p ps ih =>
    obtain ⟨y, q⟩ := p
    intro h
    rw [List.lookup_cons] at h
    rw [List.map_cons]
    dsimp only
    cases e : x == y with
    | true =>
      rw [e] at h
      cases h
      have nf : (k == NameKind.free) = false := by cases k <;> first | rfl | exact absurd rfl n
      rw [nf, Bool.false_and, Bool.false_and, if_neg Bool.false_ne_true, List.lookup_cons, e]
    | false =>
      rw [e] at h
      have := ih h
      split <;> (rw [List.lookup_cons, e]; exact this)
end
structure Kn (I : Info) (c : Call) (S : NS) (N : List Str) (F : Cx → WX → Scope → Prop) : Prop where
  w : ∀ {X : Cx} {Wx : WX} {sc : Scope}, F X Wx sc → Cw X I c S Wx N sc ∧ IterP X I S
  blk : ∀ {X : Cx} {Wx : WX} {sc : Scope}, F X Wx sc → ∀ (s : Shared) (H : Hp) (scope : Scope) (C : Addr) (cl : List (Str × Addr)) (fp : List Addr), F (X.blk s H scope (compEnvC scope cl C X.env) fp) WxF (relS scope sc)
  x : ∀ {X : Cx} {Wx : WX} {sc : Scope}, F X Wx sc → Takes X Wx ∧ X.calm = true ∧ ExcK X I S
section
variable {I : Info} {c : Call} {S : NS} {N : List Str} {F : Cx → WX → Scope → Prop}
theorem loc_blk {X : Cx} {s : Shared} {H : Hp} {scope : Scope} {C : Addr} {cl : List (Str × Addr)} {fp : List Addr} : LocOk (X.blk s H scope (compEnvC scope cl C X.env) fp) scope := by
  intro x h
  have hs : (compEnvC scope cl C X.env).scope = relS scope X.env.scope := rfl
  unfold locB at h
  split at h
  · rename_i e
    have e2 := rel_lookup (sc := X.env.scope) e (by decide)
    exact ⟨.inl (by show (compEnvC scope cl C X.env).scope.names.lookup x = _; rw [hs]; exact e2), .inr (by show (compEnvC scope cl C X.env).scope.names.lookup x = _; rw [hs]; exact e2)⟩
  · rename_i e
    have e2 := rel_lookup (sc := X.env.scope) e (by decide)
    exact ⟨.inr (by show (compEnvC scope cl C X.env).scope.names.lookup x = _; rw [hs]; exact e2), .inl (by show (scope.names.lookup x == some .cell) = true; rw [e]; rfl)⟩
  · cases h
theorem pg_blk {X : Cx} {N : List Str} {i : Nat} {y : Str} {py : Pos} {s : Shared} {H : Hp} {scope : Scope} {C : Addr} {cl : List (Str × Addr)} {fp : List Addr} (nd : X.N.Nodup) (hn : X.N = N) (hi : N[i]? = some y) (m2 : locB scope y = true) : PG (X.blk s H scope (compEnvC scope cl C X.env) fp) (.Name y py) (gName i) := by
  subst hn
  obtain ⟨l1, l2⟩ := loc_blk (X := X) (s := s) (H := H) (C := C) (cl := cl) (fp := fp) y m2
  exact pg_name (X := X.blk s H scope (compEnvC scope cl C X.env) fp) nd hi l1 l2
theorem tg_in {own : List Nat} {tg : Tg} (h5 : tgIn own tg = true) : ∀ i ∈ tgIs tg, i ∈ own := by
  cases tg with
  | n i => intro j hj; rcases List.mem_cons.mp hj with rfl | hj; exact List.contains_iff_mem.mp h5; cases hj
  | ns is => intro j hj; exact List.contains_iff_mem.mp (List.all_eq_true.mp h5 j hj)
theorem tg_dis {a b : Tg} (h : tgDis a b = true) : ∀ i ∈ tgIs a, i ∉ tgIs b := by
  intro i hi hj
  have e : ∀ t : Tg, t.is = tgIs t := fun t => by cases t <;> rfl
  have := nb (List.all_eq_true.mp h i (by rw [e]; exact hi))
  rw [e, List.contains_iff_mem.mpr hj] at this
  cases this
def isCompD : Expr → Bool
  | .DictComp _ _ _ _ _ => true
  | _ => false
theorem dcp_match (K : Kn I c S N F) {X : Cx} {Wx : WX} {sc : Scope} (hF : F X Wx sc) {j : Nat} {e : Expr} (hm : dcpB N sc j e = true) :
    SE X I c S Wx (.bi .dcp (.cons (.v j) .nil)) e ∧
    ∀ {k : Nat} {x : Str} {px spos : Pos}, LocOk X sc → N[k]? = some x → locB sc x = true → ∀ {pins : List (Addr × Obj)} {s : Shared} {σ : L2.St} {H : Hp} {D : Ends}, Inv X pins σ H s → tE I c S.W Wx (.bi .dcp (.cons (.v j) .nil)) σ H (fun v H1 => D.nx (σ.set k (some v)) H1) →
      wpAny (model X.prog X.w) X.A (exec (.Assign [.Name x px] e spos) X.env) (SP X pins D) X.xe s := by
  have Y := (K.w hF).1
  obtain ⟨y1, p1, z1, p2, y2, p3, p4, y, py, z, pz, scope, p, rfl, hm⟩ := dcpB_ok hm
  obtain ⟨hm, h12⟩ := ba hm
  obtain ⟨hm, h11⟩ := ba hm
  obtain ⟨hm, h10⟩ := ba hm
  obtain ⟨hm, h9⟩ := ba hm
  obtain ⟨hm, h8⟩ := ba hm
  obtain ⟨hm, h7⟩ := ba hm
  obtain ⟨hm, h6⟩ := ba hm
  obtain ⟨hm, h5⟩ := ba hm
  obtain ⟨hm, h4⟩ := ba hm
  obtain ⟨hm, h3⟩ := ba hm
  obtain ⟨h1, h2⟩ := ba hm
  cases of_decide_eq_true h3
  cases of_decide_eq_true h4
  cases of_decide_eq_true h5
  obtain ⟨m1, m2⟩ := ba (show (decide (N[N.idxOf y1]? = some y1) && locB scope y1) = true from h2)
  have ok : BlkOk X.N X.env.scope scope (ownL N [N.idxOf y1]) := by rw [Y.y.n, Y.y.sc]; exact blkOk_by h1
  exact se_dcp Y ok (of_decide_eq_true m1) (of_decide_eq_true h12) (of_decide_eq_false (nb h6)) h10 h11 h8 h7 h9
    (fun s H C cl fp => pg_blk Y.y.z.nd Y.y.n (of_decide_eq_true m1) m2)
    fun s H C cl fp => (K.w (K.blk hF s H scope C cl fp)).1
mutual
theorem sE (K : Kn I c S N F) : ∀ (m : Ex) {X : Cx} {Wx : WX} {sc : Scope} {e : Expr}, F X Wx sc → mE S N sc m e = true → SE X I c S Wx m e ∧ STt X I c S Wx m e
  | .v i, X, Wx, sc, e, hF, hm => by
    have Y := (K.w hF).1
    cases e <;> first | cases hm | skip
    rename_i x p
    obtain ⟨h1, h3⟩ := ba (show (decide (N[i]? = some x) && visB sc x && okName x) = true from hm)
    obtain ⟨h1, h2⟩ := ba h1
    have q := se_v (pos := p) Y.y (of_decide_eq_true h1) h2 h3
    exact ⟨q, tC_val q Y.y.z.k (isTrue_plain' rfl)⟩
  | .k t, X, Wx, sc, e, hF, hm => by
    have Y := (K.w hF).1
    cases e <;> first | cases hm | skip
    rename_i ct kk p
    have q : SE X I c S Wx (.k t) (.Constant ct kk p) := se_k hm
    exact ⟨q, tC_val q Y.y.z.k (isTrue_plain' rfl)⟩
  | .g i, X, Wx, sc, e, hF, hm => by
    have Y := (K.w hF).1
    cases e <;> first | cases hm | skip
    rename_i x p
    obtain ⟨h1, h3⟩ := ba (show (decide (S.gnm i = some x) && glB sc x && okName x) = true from hm)
    obtain ⟨h1, h2⟩ := ba h1
    have q := se_g (pos := p) Y.y (of_decide_eq_true h1) h2 h3
    exact ⟨q, tC_val q Y.y.z.k (isTrue_plain' rfl)⟩
  | .neg a, X, Wx, sc, e, hF, hm => by
    have Y := (K.w hF).1
    cases e <;> first | cases hm | skip
    rename_i op x p
    cases op <;> first | cases hm | skip
    have q := se_neg (pos := p) (sE K a hF hm).1
    exact ⟨q, tC_val q Y.y.z.k (isTrue_plain' rfl)⟩
  | .not_ a, X, Wx, sc, e, hF, hm => by
    have Y := (K.w hF).1
    cases e <;> first | cases hm | skip
    rename_i op x p
    cases op <;> first | cases hm | skip
    have q := sE K a hF hm
    exact ⟨se_not Y.y q.1, st_not q.2⟩
  | .bin o a b, X, Wx, sc, e, hF, hm => by
    have Y := (K.w hF).1
    cases e <;> first | cases hm | skip
    rename_i l op r p
    obtain ⟨h1, h3⟩ := ba (show (decide (op = opr o) && mE S N sc a l && mE S N sc b r) = true from hm)
    obtain ⟨h1, h2⟩ := ba h1
    cases of_decide_eq_true h1
    have q := se_bin (pos := p) Y.y (o := o) (sE K a hF h2).1 (sE K b hF h3).1
    exact ⟨q, tC_val q Y.y.z.k (isTrue_plain' rfl)⟩
  | .cmp o a b, X, Wx, sc, e, hF, hm => by
    have Y := (K.w hF).1
    cases e <;> first | cases hm | skip
    rename_i l ops rs p
    cases ops with
    | nil => cases hm
    | cons op ops =>
      cases ops with
      | cons _ _ => cases rs with | nil => cases hm | cons _ _ => cases hm
      | nil =>
        cases rs with
        | nil => cases hm
        | cons r rs =>
          cases rs with
          | cons _ _ => cases hm
          | nil =>
            obtain ⟨h1, h4⟩ := ba (show (decide (op = copr o) && noSetB r && mE S N sc a l && mE S N sc b r) = true from hm)
            obtain ⟨h1, h3⟩ := ba h1
            obtain ⟨h1, h2⟩ := ba h1
            cases of_decide_eq_true h1
            exact ⟨se_cmp Y.y (sE K a hF h3).1 (sE K b hF h4).1 (mark_of h2 _), st_cmp Y.y (sE K a hF h3).1 (sE K b hF h4).1 (mark_of h2 _)⟩
  | .chain o o' a b d, X, Wx, sc, e, hF, hm => by
    have Y := (K.w hF).1
    cases e <;> first | cases hm | skip
    rename_i l ops rs p
    match ops, rs, hm with
    | [op, oq], [r, z], hm =>
      obtain ⟨h1, h6⟩ := ba (show (decide (op = copr o) && decide (oq = copr o') && noSetB z && mE S N sc a l && mE S N sc b r && mE S N sc d z) = true from hm)
      obtain ⟨h1, h5⟩ := ba h1
      obtain ⟨h1, h4⟩ := ba h1
      obtain ⟨h1, h3⟩ := ba h1
      obtain ⟨h1, h2⟩ := ba h1
      cases of_decide_eq_true h1
      cases of_decide_eq_true h2
      exact ⟨se_chain Y.y (sE K a hF h4).1 (sE K b hF h5).1 (sE K d hF h6).1 (mark_of h3 _), st_chain Y.y (sE K a hF h4).1 (sE K b hF h5).1 (sE K d hF h6).1 (mark_of h3 _)⟩
  | .bool o es, X, Wx, sc, e, hF, hm => by
    cases e <;> first | cases hm | skip
    rename_i op l p
    obtain ⟨h1, h3⟩ := ba (show (decide (op = if o then .And else .Or) && !isNil es && mEs S N sc es l) = true from hm)
    obtain ⟨h1, h2⟩ := ba h1
    cases of_decide_eq_true h1
    obtain ⟨q1, q2⟩ := (sEs K es hF h3).2 (nb h2) o p
    exact ⟨se_bool q1, st_bool q2⟩
  | .attr a f, X, Wx, sc, e, hF, hm => by
    have Y := (K.w hF).1
    cases e <;> first | cases hm | skip
    rename_i x n p
    obtain ⟨h1, h3⟩ := ba (show (decide (n = S.W.fnm f) && plBase x && mE S N sc a x) = true from hm)
    obtain ⟨h1, h2⟩ := ba h1
    cases of_decide_eq_true h1
    have q := se_attr (pos := p) Y.y (f := f) (sE K a hF h3).1 (base_of h2 _ _ _)
    exact ⟨q, tC_val q Y.y.z.k (isTrue_plain' rfl)⟩
  | .idx a b, X, Wx, sc, e, hF, hm => by
    have Y := (K.w hF).1
    cases e <;> first | cases hm | skip
    rename_i x i p
    obtain ⟨h1, h3⟩ := ba (show (!isSlc i && mE S N sc a x && mE S N sc b i) = true from hm)
    obtain ⟨h1, h2⟩ := ba h1
    have q := se_idx (pos := p) Y.y (sE K a hF h2).1 (sE K b hF h3).1 (nosl_of (nb h1)) (sub2_of (nb h1))
    exact ⟨q, tC_val q Y.y.z.k (isTrue_plain' rfl)⟩
  | .slc a lo hi, X, Wx, sc, e, hF, hm => by
    have Y := (K.w hF).1
    cases e <;> first | cases hm | skip
    rename_i x i p
    cases i <;> first | cases hm | skip
    rename_i l u st p2
    cases st <;> first | cases hm | skip
    obtain ⟨h1, h3⟩ := ba (show (mE S N sc a x && (match (generalizing := false) l with | none => isNo lo | some y => mE S N sc lo y) && (match (generalizing := false) u with | none => isNo hi | some y => mE S N sc hi y)) = true from hm)
    obtain ⟨h1, h2⟩ := ba h1
    have hl : PO X l (tPa I c S.W Wx lo) := by
      cases l with
      | none => exact po_no h2
      | some y => exact po_ex (sE K lo hF h2).1
    have hu : PO X u (tPa I c S.W Wx hi) := by
      cases u with
      | none => exact po_no h3
      | some y => exact po_ex (sE K hi hF h3).1
    have q := se_slc (pos := p) Y.y (p2 := p2) (sE K a hF h1).1 hl hu
    exact ⟨q, tC_val q Y.y.z.k (isTrue_plain' rfl)⟩
  | .no_, X, Wx, sc, e, hF, hm => by cases hm
  | .bad, X, Wx, sc, e, hF, hm => ⟨se_bad, st_bad⟩
  | .tup es, X, Wx, sc, e, hF, hm => by
    have Y := (K.w hF).1
    cases e <;> first | cases hm | skip
    rename_i l k p
    obtain ⟨h1, h2⟩ := ba (show (mEs S N sc es l && decide (l.length ≤ 1000)) = true from hm)
    have q := se_tup (pos := p) (kk := k) (sEs K es hF h1).1.1 (by rw [← mEs_len h1]; exact of_decide_eq_true h2)
    exact ⟨q, tC_val q Y.y.z.k (isTrue_plain' rfl)⟩
  | .lst live es, X, Wx, sc, e, hF, hm => by
    have Y := (K.w hF).1
    cases e <;> first | cases hm | skip
    rename_i l p
    obtain ⟨h1, h2⟩ := ba (show (mEs S N sc es l && decide (l.length ≤ 1000)) = true from hm)
    have q := se_lst (pos := p) (live := live) (sEs K es hF h1).1.1 (by rw [← mEs_len h1]; exact of_decide_eq_true h2)
    exact ⟨q, tC_val q Y.y.z.k (isTrue_plain' rfl)⟩
  | .dct ks es, X, Wx, sc, e, hF, hm => by
    have Y := (K.w hF).1
    cases e <;> first | cases hm | skip
    rename_i l vs p
    match l, vs, hm with
    | [], [], hm =>
      obtain ⟨h1, h2⟩ := ba (show (ks.isEmpty && isNil es) = true from hm)
      have q : SE X I c S Wx (.dct ks es) (.Dict [] [] p) := se_dct h1 h2
      exact ⟨q, tC_val q Y.y.z.k (isTrue_plain' rfl)⟩
  | .bi b es, X, Wx, sc, e, hF, hm => by
    have Y := (K.w hF).1
    by_cases h0 : ∃ t, b = .isi t
    · obtain ⟨t, rfl⟩ := h0
      match e, hm with
      | .Call (.Name x p1) [y, .Name z p2] [] p, hm =>
        cases es with
        | nil => exact absurd (ba hm).2 Bool.false_ne_true
        | cons a es =>
        cases es with
        | cons _ _ => exact absurd (ba hm).2 Bool.false_ne_true
        | nil =>
        obtain ⟨h1, h6⟩ := ba (show (decide (x = bnm (.isi t)) && glB sc x && glB sc z && okName z && (match (generalizing := false) t with | .cls k => decide (S.cnm k = some z) | t => decide (tynm t = some z)) && mE S N sc a y) = true from hm)
        obtain ⟨h1, h5⟩ := ba h1
        obtain ⟨h1, h4⟩ := ba h1
        obtain ⟨h1, h3⟩ := ba h1
        obtain ⟨h1, h2⟩ := ba h1
        have q := se_isi (pos := p) (p := p1) (p2 := p2) Y (t := t) (sE K a hF h6).1 (mE_noStar h6) (of_decide_eq_true h1) h2 h3 h4 (by cases t <;> exact of_decide_eq_true h5)
        exact ⟨q, tC_val q Y.y.z.k (isTrue_plain' rfl)⟩
    · by_cases h1 : b = .rev
      · subst h1
        match e, es, hm with
        | .Subscript x (.Slice none none (some (.UnaryOp .USub (.Constant (.int 1) k p1) p2)) p3) p, .cons a .nil, hm =>
          have q := se_rev (pos := p) (k := k) (p1 := p1) (p2 := p2) (p3 := p3) Y (sE K a hF hm).1
          exact ⟨q, tC_val q Y.y.z.k (isTrue_plain' rfl)⟩
      · by_cases h2 : b = .index
        · subst h2; cases hm
        · by_cases h5 : b = .keys
          · subst h5
            cases es with
            | nil => exact absurd hm Bool.false_ne_true
            | cons a es =>
            cases es with
            | cons _ _ => exact absurd hm Bool.false_ne_true
            | nil =>
              obtain ⟨x, y, py, it', scope, p, rfl, hm⟩ := keysB_ok (show keysB N sc (mE S N sc a) e = true from hm)
              obtain ⟨g3, h5⟩ := ba hm
              obtain ⟨g2, h4⟩ := ba g3
              obtain ⟨g1, h3⟩ := ba g2
              obtain ⟨h1, h2⟩ := ba g1
              obtain ⟨m1, m2⟩ := ba (show (decide (N[N.idxOf y]? = some y) && locB scope y) = true from h2)
              have ok : BlkOk X.N X.env.scope scope (ownL N [N.idxOf y]) := by rw [Y.y.n, Y.y.sc]; exact blkOk_by h1
              obtain ⟨body, b1, b2⟩ := keyEx_ok (I := I) (c := c) (S := S) h4 (of_decide_eq_true m1)
              have q : SE X I c S Wx (.bi .keys (.cons a .nil)) (.ListComp x [⟨.Name y py, it', [], 0⟩] scope p) := se_keys Y ok (of_decide_eq_true m1) (sE K a hF h5).1 (nb h3)
                (fun s H C cl fp => pg_blk Y.y.z.nd Y.y.n (of_decide_eq_true m1) m2)
                (fun s H C cl fp => b2 (K.w (K.blk hF s H scope C cl fp)).1) b1
              exact ⟨q, tC_val q Y.y.z.k (isTrue_plain' rfl)⟩
          by_cases h6 : b = .dcp
          · subst h6
            cases es with
            | nil => exact absurd hm Bool.false_ne_true
            | cons a es =>
            cases es with
            | cons _ _ => cases a <;> exact absurd hm Bool.false_ne_true
            | nil =>
              cases a <;> first | exact absurd hm Bool.false_ne_true | skip
              rename_i j
              have hm : dcpB N sc j e = true := hm
              have ic : isCompD e = true := by
                obtain ⟨_, _, _, _, _, _, _, _, _, _, _, _, _, rfl, _⟩ := dcpB_ok hm
                rfl
              obtain ⟨q, _⟩ := dcp_match K hF hm
              exact ⟨q, tC_val q Y.y.z.k (isTrue_plain' (by cases e <;> first | rfl | cases ic))⟩
          have hm' : ∃ x p1 y l p, e = .Call (.Name x p1) (y :: l) [] p ∧ (decide (x = bnm b) && glB sc x && mEs S N sc es (y :: l)) = true := by
            cases b <;> first | exact absurd ⟨_, rfl⟩ h0 | exact absurd rfl h1 | exact absurd rfl h2 | exact absurd rfl h5 | exact absurd rfl h6 | skip
            all_goals
              revert hm
              intro hm
              match e, hm with
              | .Call (.Name x p1) (y :: l) [] p, hm => exact ⟨x, p1, y, l, p, rfl, hm⟩
          obtain ⟨x, p1, y, l, p, rfl, hm2⟩ := hm'
          obtain ⟨e1, e3⟩ := ba hm2
          obtain ⟨e1, e2⟩ := ba e1
          cases of_decide_eq_true e1
          have ns := mEs_noStar e3
          obtain ⟨n1, n2⟩ := all_cons ns
          have q := se_bi (pos := p) (p := p1) Y (b := b) (fun t z => h0 ⟨t, z⟩) h1 h2 h5 h6 (sEs K es hF e3).1.1 e2 n1 n2
          exact ⟨q, tC_val q Y.y.z.k (isTrue_plain' rfl)⟩
  | .call f es kns kes, X, Wx, sc, e, hF, hm => by
    have Y := (K.w hF).1
    cases e <;> first | cases hm | skip
    rename_i fe l kws p
    match fe, hm with
    | .Name x p2, hm =>
      obtain ⟨h1, h8⟩ := ba (show (decide (S.fnn f = some x) && glB sc x && okName x && mEs S N sc es l && mEs S N sc kes (kwVals kws) && mKns (S.psn f) kns kws && (kns.isEmpty || S.kwp l.length kns)) = true from hm)
      obtain ⟨h1, h6⟩ := ba h1
      obtain ⟨h1, h5⟩ := ba h1
      obtain ⟨h1, h4⟩ := ba h1
      obtain ⟨h1, h3⟩ := ba h1
      obtain ⟨h1, h2⟩ := ba h1
      have q := se_call (pos := p) (p := p2) Y.y (of_decide_eq_true h1) h2 h3 (sEs K es hF h4).1.1 ((sEs K kes hF h5).1.2 kws rfl) (mEs_noStar h4) (mEs_len h4) (mEs_len h5) h6 h8
      exact ⟨q, tC_val q Y.y.z.k (isTrue_plain' rfl)⟩
    | .Attribute (.Name x p2) n ap, hm =>
      obtain ⟨h1, h8⟩ := ba (show (decide (S.stn f = some (x, n)) && glB sc x && okName x && (ap.endLine == p.line) && decide (l.length + kws.length < 29) && mEs S N sc es l && mEs S N sc kes (kwVals kws) && mKns (S.psn f) kns kws && (kns.isEmpty || S.kwp l.length kns)) = true from hm)
      obtain ⟨h1, h6⟩ := ba h1
      obtain ⟨h1, h5⟩ := ba h1
      obtain ⟨h1, h4⟩ := ba h1
      obtain ⟨h1, g2⟩ := ba h1
      obtain ⟨h1, g1⟩ := ba h1
      obtain ⟨h1, h3⟩ := ba h1
      obtain ⟨h1, h2⟩ := ba h1
      have q := se_stat (pos := p) (p := p2) (ap := ap) Y.y (of_decide_eq_true h1) h2 h3 (sEs K es hF h4).1.1 ((sEs K kes hF h5).1.2 kws rfl) (mEs_noStar h4) (mEs_len h4) (mEs_len h5) g1 (of_decide_eq_true g2) h6 h8
      exact ⟨q, tC_val q Y.y.z.k (isTrue_plain' rfl)⟩
  | .meth m o es kns kes, X, Wx, sc, e, hF, hm => by
    have Y := (K.w hF).1
    cases e <;> first | cases hm | skip
    rename_i fe l kws p
    cases fe <;> first | cases hm | skip
    rename_i x n ap
    obtain ⟨h1, h9⟩ := ba (show (decide (n = S.W.mnm m) && plBase x && (ap.endLine == p.line) && decide (l.length + kws.length < 29) && mE S N sc o x && mEs S N sc es l && mEs S N sc kes (kwVals kws) && mKns (S.mps m) kns kws && (kns.isEmpty || S.kwp (l.length + 1) kns)) = true from hm)
    obtain ⟨h1, h8⟩ := ba h1
    obtain ⟨h1, h7⟩ := ba h1
    obtain ⟨h1, h6⟩ := ba h1
    obtain ⟨h1, h5⟩ := ba h1
    obtain ⟨h1, h4⟩ := ba h1
    obtain ⟨h1, h3⟩ := ba h1
    obtain ⟨h1, h2⟩ := ba h1
    cases of_decide_eq_true h1
    have q := se_meth (pos := p) (ap := ap) Y.y (m := m) (sE K o hF h5).1 (sEs K es hF h6).1.1 ((sEs K kes hF h7).1.2 kws rfl) (mEs_noStar h6) (mEs_len h6) (mEs_len h7) h2 h3 (of_decide_eq_true h4) h8 h9
    exact ⟨q, tC_val q Y.y.z.k (isTrue_plain' rfl)⟩
  | .new k es kns kes, X, Wx, sc, e, hF, hm => by
    have Y := (K.w hF).1
    cases e <;> first | cases hm | skip
    rename_i fe l kws p
    cases fe <;> first | cases hm | skip
    rename_i x p2
    obtain ⟨g6, h7⟩ := ba (show (decide (S.cnm k = some x) && glB sc x && okName x && mEs S N sc es l && mEs S N sc kes (kwVals kws) && mKns (S.ips k) kns kws && (kns.isEmpty || S.kwp (l.length + 1) kns)) = true from hm)
    obtain ⟨g5, h6⟩ := ba g6
    obtain ⟨g4, h5⟩ := ba g5
    obtain ⟨g3, h4⟩ := ba g4
    obtain ⟨g2, h3⟩ := ba g3
    obtain ⟨h1, h2⟩ := ba g2
    have q := se_new (pos := p) (p := p2) Y.y (of_decide_eq_true h1) h2 h3 (sEs K es hF h4).1.1 ((sEs K kes hF h5).1.2 kws rfl) (mEs_noStar h4) (mEs_len h4) (mEs_len h5) h6 h7
    exact ⟨q, tC_val q Y.y.z.k (isTrue_plain' rfl)⟩
  | .lc live el own tg it cond more, X, Wx, sc, e, hF, hm => by
    have Y := (K.w hF).1
    match e, hm with
    | .ListComp x (⟨tg', it', ifs, 0⟩ :: gs) scope p, hm =>
      obtain ⟨h1, h9⟩ := ba (show (blkC N sc scope (ownL N own) && own.all (fun i => decide (i < N.length)) && mI S N sc it it' && mTg N scope tg tg' && tgIn own tg && !isSet it' && (match (generalizing := false) ifs with
        | [] => isNo cond
        | [y] => mE S N (relS scope sc) cond y
        | _ => false) && mG S N sc scope own tg more gs && mE S N (relS scope sc) el x) = true from hm)
      obtain ⟨g7, h8⟩ := ba h1
      obtain ⟨g6, h7⟩ := ba g7
      obtain ⟨g5, h6⟩ := ba g6
      obtain ⟨g4, h5⟩ := ba g5
      obtain ⟨g3, h4⟩ := ba g4
      obtain ⟨g2, h3⟩ := ba g3
      obtain ⟨g1, h2⟩ := ba g2
      clear hm h1 g7 g6 g5 g4 g3 g2
      have hi := sI K it hF h3 tg'
      have ok : BlkOk X.N X.env.scope scope (ownL N own) := by rw [Y.y.n, Y.y.sc]; exact blkOk_by g1
      have hg : ∀ (s : Shared) (H : Hp) (C : Addr) (cl : List (Str × Addr)) (fp : List Addr), PG (X.blk s H scope (compEnvC scope cl C X.env) fp) tg' (tG S.W tg) :=
        fun s H C cl fp => s_tg (X := X.blk s H scope (compEnvC scope cl C X.env) fp) (N := N) (S := S) (sc := scope) Y.y.z.nd Y.y.n Y.y.z.calm Y.y.z.k loc_blk h4
      have ht : ∀ (s : Shared) (H : Hp) (C : Addr) (cl : List (Str × Addr)) (fp : List Addr), PTs (X.blk s H scope (compEnvC scope cl C X.env) fp) ifs (tCo I c S.W cond) := fun s H C cl fp => by
        unfold tCo
        cases ifs with
        | nil => rw [if_pos h7]; exact pts_nil
        | cons y ifs =>
          cases ifs with
          | cons _ _ => cases h7
          | nil =>
            have hn : isNo cond = false := by cases cond <;> first | rfl | cases h7
            rw [hn, if_neg Bool.false_ne_true]
            exact pts_one (sE K cond (K.blk hF s H scope C cl fp) h7).2
      have he : ∀ (s : Shared) (H : Hp) (C : Addr) (cl : List (Str × Addr)) (fp : List Addr), PE (X.blk s H scope (compEnvC scope cl C X.env) fp) x (tE I c S.W WxF el) := fun s H C cl fp => (sE K el (K.blk hF s H scope C cl fp) h9).1
      have tgs : ∀ i ∈ tgIs tg, i ∈ own := tg_in h5
      rcases sG K more h8 with ⟨rfl, rfl⟩ | ⟨tg1, it1, cond1, tg1', it1', ifs1, rfl, rfl, m1, m2, m3, m4, m5⟩
      · have q : SE X I c S Wx (.lc live el own tg it cond .nil) (.ListComp x [⟨tg', it', ifs, 0⟩] scope p) := by
          have e1 := pe_lc (pos := p) Y.y.z.calm Y.y.z.nd hi ok hg ht he (set_of (nb h6) _)
          rw [ownL_snd] at e1
          exact ⟨fun pins s σ H Q J t => e1.run pins s σ H Q J (se_lc Y.y.z Y.y.n ok hi tgs (nb h6) hg ht he t)⟩
        exact ⟨q, tC_val q Y.y.z.k (isTrue_plain' rfl)⟩
      · have tgs1 : ∀ i ∈ tgIs tg1, i ∈ own := tg_in m2
        have q : SE X I c S Wx (.lc live el own tg it cond (.cons tg1 it1 cond1 .nil)) (.ListComp x [⟨tg', it', ifs, 0⟩, ⟨tg1', it1', ifs1, 0⟩] scope p) := by
          have hg1 : ∀ (s : Shared) (H : Hp) (C : Addr) (cl : List (Str × Addr)) (fp : List Addr), PG (X.blk s H scope (compEnvC scope cl C X.env) fp) tg1' (tG S.W tg1) :=
            fun s H C cl fp => s_tg (X := X.blk s H scope (compEnvC scope cl C X.env) fp) (N := N) (S := S) (sc := scope) Y.y.z.nd Y.y.n Y.y.z.calm Y.y.z.k loc_blk m1
          have e1 := pe_lc2 (pos := p) (vs1 := tgIs tg1) Y.y.z.calm Y.y.z.nd hi ok (by rw [ownL_snd]; exact tgs1) hg ht (fun s H C cl fp => (m5 (K.blk hF s H scope C cl fp)).1) hg1 (fun s H C cl fp => (m5 (K.blk hF s H scope C cl fp)).2) he (set_of (nb h6) _) fun env => set_of m4 env
          rw [ownL_snd] at e1
          exact ⟨fun pins s σ H Q J t => e1.run pins s σ H Q J (se_lc2 Y.y.z Y.y.n tgs tgs1 (tg_dis m3) t)⟩
        exact ⟨q, tC_val q Y.y.z.k (isTrue_plain' rfl)⟩
  | .dc live key val own tg it cond, X, Wx, sc, e, hF, hm => by
    have Y := (K.w hF).1
    match e, hm with
    | .DictComp x y [⟨tg', it', ifs, 0⟩] scope p, hm =>
      obtain ⟨g8, h9⟩ := ba (show (blkC N sc scope (ownL N own) && mI S N sc it it' && mTg N scope tg tg' && tgIn own tg && !isSet it' && (match (generalizing := false) ifs with
        | [] => isNo cond
        | [z] => mE S N (relS scope sc) cond z
        | _ => false) && mE S N (relS scope sc) key x && mE S N (relS scope sc) val y) = true from hm)
      obtain ⟨g7, h8⟩ := ba g8
      obtain ⟨g6, h7⟩ := ba g7
      obtain ⟨g5, h6⟩ := ba g6
      obtain ⟨g4, h5⟩ := ba g5
      obtain ⟨g3, h4⟩ := ba g4
      obtain ⟨g1, h3⟩ := ba g3
      clear hm g8 g7 g6 g5 g4 g3
      have hi := sI K it hF h3 tg'
      have ok : BlkOk X.N X.env.scope scope (ownL N own) := by rw [Y.y.n, Y.y.sc]; exact blkOk_by g1
      have hg : ∀ (s : Shared) (H : Hp) (C : Addr) (cl : List (Str × Addr)) (fp : List Addr), PG (X.blk s H scope (compEnvC scope cl C X.env) fp) tg' (tG S.W tg) :=
        fun s H C cl fp => s_tg (X := X.blk s H scope (compEnvC scope cl C X.env) fp) (N := N) (S := S) (sc := scope) Y.y.z.nd Y.y.n Y.y.z.calm Y.y.z.k loc_blk h4
      have ht : ∀ (s : Shared) (H : Hp) (C : Addr) (cl : List (Str × Addr)) (fp : List Addr), PTs (X.blk s H scope (compEnvC scope cl C X.env) fp) ifs (tCo I c S.W cond) := fun s H C cl fp => by
        unfold tCo
        cases ifs with
        | nil => rw [if_pos h7]; exact pts_nil
        | cons y ifs =>
          cases ifs with
          | cons _ _ => cases h7
          | nil =>
            have hn : isNo cond = false := by cases cond <;> first | rfl | cases h7
            rw [hn, if_neg Bool.false_ne_true]
            exact pts_one (sE K cond (K.blk hF s H scope C cl fp) h7).2
      have q : SE X I c S Wx (.dc live key val own tg it cond) (.DictComp x y [⟨tg', it', ifs, 0⟩] scope p) := by
        have e1 := pe_dc (pos := p) Y.y.z.calm Y.y.z.nd hi ok hg ht (fun s H C cl fp => (sE K key (K.blk hF s H scope C cl fp) h8).1) (fun s H C cl fp => (sE K val (K.blk hF s H scope C cl fp) h9).1) (set_of (nb h6) _)
        rw [ownL_snd] at e1
        exact ⟨fun pins s σ H Q J t => e1.run pins s σ H Q J (se_dc Y.y.z Y.y.n (tg_in h5) t)⟩
      exact ⟨q, tC_val q Y.y.z.k (isTrue_plain' rfl)⟩
  | .ss _ _ _ _ _, X, Wx, sc, e, hF, hm => by cases hm
termination_by structural m => m
theorem sEs (K : Kn I c S N F) : ∀ (ms : Exs) {X : Cx} {Wx : WX} {sc : Scope} {es : List Expr}, F X Wx sc → mEs S N sc ms es = true → (PA X es (tEs I c S.W Wx ms) ∧ ∀ kws, kwVals kws = es → PK X kws (tEs I c S.W Wx ms)) ∧
    (isNil ms = false → ∀ o p, PE X (.BoolOp (opB o) es p) (tB I c S.W Wx o ms) ∧ PW X (.BoolOp (opB o) es p) (tBC I c S.W Wx o ms))
  | .nil, X, Wx, sc, es, hF, hm => by
    cases es with
    | cons _ _ => cases hm
    | nil =>
      refine ⟨⟨tEs_nil, fun kws e => ?_⟩, fun h => by cases h⟩
      cases kws with
      | cons kw _ => obtain ⟨a, b, c⟩ := kw; exact absurd e (by intro z; exact List.cons_ne_nil _ _ z)
      | nil => exact ⟨fun pos pins s σ H Q J ⟨Z, ρ, h, env, r, p⟩ => pk_nil.run pos pins s σ H Q J (p ρ [] H r.hr (.refl _ _ _) .nil)⟩
  | .cons m ms, X, Wx, sc, es, hF, hm => by
    cases es with
    | nil => cases hm
    | cons e es =>
      obtain ⟨h1, h2⟩ := ba (show (mE S N sc m e && mEs S N sc ms es) = true from hm)
      obtain ⟨q1, q2⟩ := sE K m hF h1
      obtain ⟨⟨a1, a2⟩, b⟩ := sEs K ms hF h2
      refine ⟨⟨tEs_cons q1 a1 (mE_noStar h1), fun kws ek => ?_⟩, fun _ o p => ?_⟩
      · cases kws with
        | nil => cases ek
        | cons kw kws =>
          obtain ⟨nm, e', kp⟩ := kw
          obtain ⟨rfl, rfl⟩ : e' = e ∧ kwVals kws = es := by injection ek with z1 z2; exact ⟨z1, z2⟩
          refine ⟨fun pos pins s σ H Q J ⟨Z, ρ, h, env, r, p⟩ => ?_⟩
          refine (pk_cons q1 (a2 kws rfl)).run pos pins s σ H Q J ?_
          have p : Post (relDs S.W Z) S.W Wx Z σ ρ h H Q ((ev I c m env h).bind fun d h => (evs I c ms env h).bind fun ds h => .ok (d :: ds) h) := p
          refine tE.step r p fun d v ρ1 h1 H1 r1 E1 x1 p1 => ?_
          refine tEs.step r1 p1 fun ds vs ρ2 h2 H2 r2 E2 x2 p2 => ?_
          exact p2 ρ2 _ H2 r2.hr (.refl _ _ _) (.cons (x1.ext E2) x2)
      · cases ms with
        | nil =>
          cases es with
          | cons _ _ => cases h2
          | nil => exact ⟨sb_one q1, sbc_one q2⟩
        | cons m2 ms =>
          cases es with
          | nil => cases h2
          | cons e2 es =>
            obtain ⟨c1, c2⟩ := b rfl o p
            exact ⟨sb_cons (K.w hF).1.y q1 c1 rfl, sbc_cons q2 c2 rfl⟩
termination_by structural m => m
theorem sI (K : Kn I c S N F) : ∀ (it : Kp.It) {X : Cx} {Wx : WX} {sc : Scope} {e : Expr}, F X Wx sc → mI S N sc it e = true → ∀ tg, PI X tg e (tI I c S.W Wx it)
  | .val m, X, Wx, sc, e, hF, hm, tg => si_val (K.w hF).1 (K.w hF).2 (sE K m hF hm).1
  | .rng1 m, X, Wx, sc, e, hF, hm, tg => by
    match e, hm with
    | .Call (.Name r p1) [y] [] p, hm =>
      obtain ⟨h1, h3⟩ := ba (show (decide (r = ("range" : Str)) && glB sc r && mE S N sc m y) = true from hm)
      obtain ⟨h1, h2⟩ := ba h1
      cases of_decide_eq_true h1
      exact si_rng1 (K.w hF).1 h2 (mE_noStar h3) (sE K m hF h3).1
  | .rng2 m m2, X, Wx, sc, e, hF, hm, tg => by
    match e, hm with
    | .Call (.Name r p1) [y, z] [] p, hm =>
      obtain ⟨h1, h4⟩ := ba (show (decide (r = ("range" : Str)) && glB sc r && mE S N sc m y && mE S N sc m2 z) = true from hm)
      obtain ⟨h1, h3⟩ := ba h1
      obtain ⟨h1, h2⟩ := ba h1
      cases of_decide_eq_true h1
      exact si_rng2 (K.w hF).1 h2 (mE_noStar h3) (mE_noStar h4) (sE K m hF h3).1 (sE K m2 hF h4).1
termination_by structural m => m
theorem sG (K : Kn I c S N F) : ∀ (g : Gens) {sc scope : Scope} {own : List Nat} {tg0 : Tg} {l : List Comprehension}, mG S N sc scope own tg0 g l = true → (g = .nil ∧ l = []) ∨
    ∃ (tg : Tg) (it : Kp.It) (cond : Ex) (tg' it' : Expr) (ifs : List Expr), g = .cons tg it cond .nil ∧ l = [⟨tg', it', ifs, 0⟩] ∧ mTg N scope tg tg' = true ∧ tgIn own tg = true ∧ tgDis tg tg0 = true ∧ isSet it' = false ∧
      ∀ {X : Cx}, F X WxF (relS scope sc) → PI X tg' it' (tI I c S.W WxF it) ∧ PTs X ifs (tCo I c S.W cond)
  | .nil, sc, scope, own, tg0, l, hm => .inl ⟨rfl, List.isEmpty_iff.mp hm⟩
  | .cons tg it cond more, sc, scope, own, tg0, l, hm => by
    match l, hm with
    | [⟨tg', it', ifs, 0⟩], hm =>
      obtain ⟨g6, h7⟩ := ba (show ((match (generalizing := false) more with
        | .nil => true
        | _ => false) && mI S N (relS scope sc) it it' && mTg N scope tg tg' && tgIn own tg && tgDis tg tg0 && !isSet it' && (match (generalizing := false) ifs with
        | [] => isNo cond
        | [y] => mE S N (relS scope sc) cond y
        | _ => false)) = true from hm)
      obtain ⟨g5, h6⟩ := ba g6
      obtain ⟨g4, h5⟩ := ba g5
      obtain ⟨g3, h4⟩ := ba g4
      obtain ⟨g2, h3⟩ := ba g3
      obtain ⟨h1, h2⟩ := ba g2
      have em : more = .nil := by cases more <;> first | rfl | cases h1
      refine .inr ⟨tg, it, cond, tg', it', ifs, by rw [em], rfl, h3, h4, h5, nb h6, fun {X} hF => ⟨sI K it hF h2 tg', ?_⟩⟩
      unfold tCo
      cases ifs with
      | nil => rw [if_pos h7]; exact pts_nil
      | cons y ifs =>
        cases ifs with
        | cons _ _ => cases h7
        | nil =>
          have hn : isNo cond = false := by cases cond <;> first | rfl | cases h7
          rw [hn, if_neg Bool.false_ne_true]
          exact pts_one (sE K cond hF h7).2
termination_by structural m => m
end
end
end Kp
set_option autoImplicit false
set_option maxRecDepth 10000
set_option maxHeartbeats 4000000
namespace Kp
open PySem L2
def PostS (W : Wd) (Wx : WX) (Z : Lv) (D : Ends) (ρ : List Addr) (h : AH) (H : Hp) : SR → Prop
  | .nx e h' => ∀ ρ' σ' H', Rl W Z ρ' h' H' e σ' → Ext ρ h H ρ' h' H' → D.nx σ' H'
  | .ct e h' => ∀ ρ' σ' H', Rl W Z ρ' h' H' e σ' → Ext ρ h H ρ' h' H' → D.ct σ' H'
  | .rt d h' => ∀ ρ' v H', HRel W Z ρ' h' H' → Ext ρ h H ρ' h' H' → RD W Z ρ' h' H' v d → D.rt v H'
  | .ex c ks ts e h' => ∀ ρ' σ' H' cls d, Rl W Z ρ' h' H' e σ' → Ext ρ h H ρ' h' H' → ExcOk W Z ρ' h' H' c ks ts cls d → Wx cls d σ' H'
  | .no => False
section
variable {W : Wd} {Wx : WX} {Z : Lv} {D D' : Ends} {σ : L2.St} {ρ ρ' : List Addr} {h h' : AH} {H H' : Hp} {env : Env} {α β : Type} {rel : Rel α β}
theorem PostS.from (E : Ext ρ h H ρ' h' H') : ∀ {r : SR}, PostS W Wx Z D ρ h H r → PostS W Wx Z D ρ' h' H' r
  | .nx _ _, p => fun ρ2 σ2 H2 R2 E2 => p ρ2 σ2 H2 R2 (E.trans E2)
  | .ct _ _, p => fun ρ2 σ2 H2 R2 E2 => p ρ2 σ2 H2 R2 (E.trans E2)
  | .rt _ _, p => fun ρ2 v H2 R2 E2 x => p ρ2 v H2 R2 (E.trans E2) x
  | .ex _ _ _ _ _, p => fun ρ2 σ2 H2 cls d R2 E2 x => p ρ2 σ2 H2 cls d R2 (E.trans E2) x
  | .no, p => p
theorem PostS.bind {Q : β → Hp → Prop} {m : R α} {f : α → AH → SR} (p : PostS W Wx Z D ρ h H (liftS m env f)) (r : Rl W Z ρ h H env σ)
    (k : ∀ a h' ρ' v H', m = .ok a h' → Rl W Z ρ' h' H' env σ → Ext ρ h H ρ' h' H' → rel ρ' h' H' v a → PostS W Wx Z D ρ' h' H' (f a h') → Q v H') : Post rel W Wx Z σ ρ h H Q m := by
  cases m with
  | ok a h' => exact fun ρ' v H' R' E x => k a h' ρ' v H' rfl (r.ext R' E) E x (PostS.from E p)
  | ex c ks ts h' => exact fun ρ' H' cls d R' E x => p ρ' σ H' cls d (r.ext R' E) E x
  | no => exact p
end
section
variable (I : Info) (c : Call) (W : Wd) (Wx : WX)
def tS (m : St) : TS := fun D σ H => ∃ Z ρ h env, Rl W Z ρ h H env σ ∧ PostS W Wx Z D ρ h H (evS I c m env h)
def tSs (m : Sts) : TS := fun D σ H => ∃ Z ρ h env, Rl W Z ρ h H env σ ∧ PostS W Wx Z D ρ h H (evSs I c m env h)
end
section
variable {I : Info} {c : Call} {W : Wd} {Wx : WX} {Z : Lv} {σ : L2.St} {ρ : List Addr} {h : AH} {H : Hp} {env : Env} {D : Ends}
theorem tE.stepS {m : Ex} (r : Rl W Z ρ h H env σ) {f : Kp.D → AH → SR} (p : PostS W Wx Z D ρ h H (liftS (ev I c m env h) env f)) {K : V → Hp → Prop}
    (k : ∀ d v ρ' h' H', Rl W Z ρ' h' H' env σ → Ext ρ h H ρ' h' H' → RD W Z ρ' h' H' v d → PostS W Wx Z D ρ' h' H' (f d h') → K v H') : tE I c W Wx m σ H K :=
  ⟨Z, ρ, h, env, r, p.bind r fun d h' ρ' v H' _ R' E x q => k d v ρ' h' H' R' E x q⟩
theorem PostS.frz1 {d : Kp.D} {f : T → AH → R Unit} {v : V} {env : Env} {g : Unit → AH → SR} (R0 : Rl W Z ρ h H env σ) (x : RD W Z ρ h H v d) (p : PostS W Wx Z D ρ h H (liftS ((frzR d h).bind f) env g)) :
    ∃ t h', Rl W Z ρ h' H env σ ∧ Ext ρ h H ρ h' H ∧ RT W Z ρ h' H v t ∧ PostS W Wx Z D ρ h' H (liftS (f t h') env g) := by
  unfold frzR at p
  cases q : frz 4 d h with
  | none => rw [q] at p; exact p.elim
  | some e =>
    obtain ⟨t, h'⟩ := e
    rw [q] at p
    obtain ⟨R1, E1, T1, _⟩ := frz_ok 4 h d t h' v q R0.hr x
    exact ⟨t, h', R0.ext R1 E1, E1, T1, PostS.from E1 p⟩
end
theorem stay_live {Z : Lv} {ρ : List Addr} {h : AH} {H : Hp} {a : Addr} {o : HO} (l : liveAt ρ h a) : Stay (lv Z ρ h) H (lv Z ρ h) (upd H a o) :=
  .of_same (fun b e n => upd_ne fun z => n (by rw [z]; exact .inl l)) fun b e n l => n l
theorem put_fld {W : Wd} {ρ : List Addr} {L : Lv} {H : Hp} {f : Nat} {y : V} {d : D} : ∀ {ks : List Nat} {fs : List (Str × V)} {ds : List D}, fs.map (·.1) = ks.map W.fnm → (∀ g ∈ ks, W.fnm g = W.fnm f → g = f) → RepDs W ρ L H (fs.map (·.2)) ds → RepD W ρ L H y d →
    (putF (W.fnm f) y fs).map (·.1) = (put d f ks ds).1.map W.fnm ∧ RepDs W ρ L H ((putF (W.fnm f) y fs).map (·.2)) (put d f ks ds).2 ∧ (∀ g ∈ (put d f ks ds).1, g ∈ ks ∨ g = f) ∧ ∀ x ∈ (put d f ks ds).2, x ∈ ds ∨ x = d
  | [], [], [], _, _, _, x => ⟨rfl, .cons x .nil, fun g hg => .inr (List.mem_singleton.mp hg), fun z hz => .inr (List.mem_singleton.mp hz)⟩
  | [], _ :: _, _, e, _, _, _ => by cases e
  | _ :: _, [], _, e, _, _, _ => by cases e
  | k :: ks, (g, v) :: fs, ds, e, hi, r, x => by
    injection e with e1 e2
    have e1 : g = W.fnm k := e1
    cases r with
    | @cons _ _ d0 ds r1 r2 =>
    obtain ⟨a, b, c1, c2⟩ := put_fld (ks := ks) (fs := fs) (ds := ds) e2 (fun g hg => hi g (List.mem_cons_of_mem _ hg)) r2 x
    by_cases ck : k = f
    · have cg : g = W.fnm f := by rw [e1, ck]
      have p1 : putF (W.fnm f) y ((g, v) :: fs) = (g, y) :: fs := if_pos cg
      have p2 : put d f (k :: ks) (d0 :: ds) = (k :: ks, d :: ds) := if_pos ck
      rw [p1, p2]
      refine ⟨by rw [List.map_cons, List.map_cons, e1]; exact congrArg _ e2, .cons x r2, fun z hz => .inl hz, fun z hz => ?_⟩
      rcases List.mem_cons.mp hz with hz | hz
      · exact .inr hz
      · exact .inl (List.mem_cons_of_mem _ hz)
    · have cg : ¬ g = W.fnm f := fun z => ck (hi k (List.mem_cons_self ..) (e1.symm.trans z))
      have p1 : putF (W.fnm f) y ((g, v) :: fs) = (g, v) :: putF (W.fnm f) y fs := if_neg cg
      have p2 : put d f (k :: ks) (d0 :: ds) = (k :: (put d f ks ds).1, d0 :: (put d f ks ds).2) := if_neg ck
      rw [p1, p2]
      refine ⟨by rw [List.map_cons, List.map_cons, e1]; exact congrArg _ a, .cons r1 b, fun z hz => ?_, fun z hz => ?_⟩
      · rcases List.mem_cons.mp hz with hz | hz
        · exact .inl (by rw [hz]; exact List.mem_cons_self ..)
        · exact (c1 z hz).imp (List.mem_cons_of_mem _) id
      · rcases List.mem_cons.mp hz with hz | hz
        · exact .inl (by rw [hz]; exact List.mem_cons_self ..)
        · exact (c2 z hz).imp (List.mem_cons_of_mem _) id
section
variable {X : Cx} {I : Info} {c : Call} {S : NS} {Wx : WX} {N : List Str} {sc : Scope} {pos : Pos}
abbrev SS (X : Cx) (I : Info) (c : Call) (S : NS) (Wx : WX) (m : St) (st : Stmt) : Prop := PS X st (tS I c S.W Wx m)
theorem ss_bad {st : Stmt} : SS X I c S Wx .bad st := ⟨fun pins s σ H D J ⟨Z, ρ, h, env, r, p⟩ => by unfold evS at p; exact p.elim⟩
def isComp : Expr → Bool
  | .ListComp _ _ _ _ => true
  | .SetComp _ _ _ _ => true
  | .DictComp _ _ _ _ _ => true
  | _ => false
theorem sw_plain {e : Expr} (h : isComp e = false) (t : Option Expr) (l : Nat) (env : PySem.Env) : swapsWith e t l env = pure false := by
  cases e <;> first | rfl | cases h
theorem sw_lc {elt : Expr} {gs : List Comprehension} {scope : Scope} {p py : Pos} {y : Str} {l : Nat} {env : PySem.Env} : swapsWith (.ListComp elt gs scope p) (some (.Name y py)) l env =
    pure (env.blockKind == .function && env.kindOf y == some .local && py.line == p.line && !(scope.names.any fun (n, k) => n == y && (k == .local || k == .cell))) := rfl
theorem ss_asg (Y : Cw X I c S Wx N sc) (hl : LocOk X sc) {i : Nat} {x : Str} {m : Ex} {e : Expr} {p : Pos} (h1 : N[i]? = some x) (h2 : locB sc x = true) (he : SE X I c S Wx m e) (hs : swapsWith e (some (.Name x p)) pos.line X.env = pure false) : SS X I c S Wx (.asg i m) (.Assign [.Name x p] e pos) := by
  refine ⟨fun pins s σ H D J ⟨Z, ρ, h, env, r, q⟩ => ?_⟩
  obtain ⟨l1, l2⟩ := hl x h2
  refine (ps_set Y.y.z.nd (Y.y.n ▸ h1) l1 he hs l2).run pins s σ H D J ?_
  unfold evS at q
  refine tE.stepS r q fun d v ρ1 h1' H1 r1 E1 x1 q1 => ?_
  exact q1 ρ1 _ H1 (r1.set i x1) (.refl _ _ _)
theorem ss_expr (Y : Cw X I c S Wx N sc) {m : Ex} {e : Expr} (he : SE X I c S Wx m e) (hs : isComp e = false) : SS X I c S Wx (.expr m) (.Expr e pos) := by
  refine ⟨fun pins s σ H D J ⟨Z, ρ, h, env, r, q⟩ => ?_⟩
  refine (ps_expr he (sw_plain hs _ _ _)).run pins s σ H D J ?_
  unfold evS at q
  refine tE.stepS r q fun d v ρ1 h1' H1 r1 E1 x1 q1 => ?_
  exact q1 ρ1 _ H1 r1 (.refl _ _ _)
theorem ss_ret {m : Ex} {e : Expr} (he : SE X I c S Wx m e) : SS X I c S Wx (.ret m) (.Return (some e) pos) := by
  refine ⟨fun pins s σ H D J ⟨Z, ρ, h, env, r, q⟩ => ?_⟩
  refine (ps_ret he).run pins s σ H D J ?_
  unfold evS at q
  refine tE.stepS r q fun d v ρ1 h1' H1 r1 E1 x1 q1 => ?_
  exact q1 ρ1 v H1 r1.hr (.refl _ _ _) x1
theorem ss_retN : SS X I c S Wx .retN (.Return none pos) := by
  refine ⟨fun pins s σ H D J ⟨Z, ρ, h, env, r, q⟩ => ?_⟩
  refine ps_retN.run pins s σ H D J ?_
  unfold evS at q
  exact q ρ .non H r.hr (.refl _ _ _) (.t .non)
theorem ss_pas : SS X I c S Wx .pas (.Pass pos) := by
  refine ⟨fun pins s σ H D J ⟨Z, ρ, h, env, r, q⟩ => ?_⟩
  refine ps_pass.run pins s σ H D J ?_
  unfold evS at q
  exact q ρ σ H r (.refl _ _ _)
theorem ss_cont : SS X I c S Wx .cont (.Continue pos) := by
  refine ⟨fun pins s σ H D J ⟨Z, ρ, h, env, r, q⟩ => ?_⟩
  refine ps_continue.run pins s σ H D J ?_
  unfold evS at q
  exact q ρ σ H r (.refl _ _ _)
theorem ss_ite {m : Ex} {e : Expr} {a b : Sts} {la lb : List Stmt} (he : STt X I c S Wx m e) (ha : PSs X la (tSs I c S.W Wx a)) (hb : PSs X lb (tSs I c S.W Wx b)) : SS X I c S Wx (.ite m a b) (.If e la lb pos) := by
  refine ⟨fun pins s σ H D J ⟨Z, ρ, h, env, r, q⟩ => ?_⟩
  refine (ps_if he ha hb).run pins s σ H D J ?_
  unfold evS at q
  refine ⟨Z, ρ, h, env, r, ?_⟩
  cases em : ev I c m env h with
  | no => rw [em] at q; exact q.elim
  | ex k ks ts h' => rw [em] at q; exact fun ρ' H' cls d R' E x => q ρ' σ H' cls d (r.ext R' E) E x
  | ok d h' =>
    rw [em] at q
    have q : PostS S.W Wx Z D ρ h H (match truth h' d with
      | some true => evSs I c a env h'
      | some false => evSs I c b env h'
      | none => .no) := q
    show Post relB S.W Wx Z σ ρ h H _ (R.of (truth h' d) h')
    cases et : truth h' d with
    | none => rw [et] at q; exact q.elim
    | some k =>
      rw [et] at q
      intro ρ' k' H' R' E' ek
      subst ek
      cases k' with
      | true => exact (if_pos rfl).mpr ⟨Z, ρ', h', env, r.ext R' E', PostS.from E' q⟩
      | false => exact (if_neg Bool.false_ne_true).mpr ⟨Z, ρ', h', env, r.ext R' E', PostS.from E' q⟩
theorem sss_nil : PSs X [] (tSs I c S.W Wx .nil) := by
  refine ⟨fun pins s σ H D J ⟨Z, ρ, h, env, r, q⟩ => ?_⟩
  refine pss_nil.run pins s σ H D J ?_
  unfold evSs at q
  exact q ρ σ H r (.refl _ _ _)
theorem sss_cons {m : St} {ms : Sts} {st : Stmt} {sts : List Stmt} (h1 : SS X I c S Wx m st) (h2 : PSs X sts (tSs I c S.W Wx ms)) : PSs X (st :: sts) (tSs I c S.W Wx (.cons m ms)) := by
  refine ⟨fun pins s σ H D J ⟨Z, ρ, h, env, r, q⟩ => ?_⟩
  refine (pss_cons h1 h2).run pins s σ H D J ⟨Z, ρ, h, env, r, ?_⟩
  unfold evSs at q
  cases em : evS I c m env h with
  | nx e h' => rw [em] at q; exact fun ρ' σ' H' R' E' => ⟨Z, ρ', h', e, R', PostS.from E' q⟩
  | rt d h' => rw [em] at q; exact q
  | ct e h' => rw [em] at q; exact q
  | ex k ks ts e h' => rw [em] at q; exact q
  | no => rw [em] at q; exact q
theorem ss_app (Y : Cw X I c S Wx N sc) {o m : Ex} {eo e : Expr} {ap p : Pos} (ho : SE X I c S Wx o eo) (he : SE X I c S Wx m e) (hb : plBase eo = true) (hline : (ap.endLine == p.line) = true) (hn : noStar e = true) : SS X I c S Wx (.app o m) (.Expr (.Call (.Attribute eo ("append" : Str) ap) [e] [] p) pos) := by
  refine ⟨fun pins s σ H D J ⟨Z, ρ, h, env, r, q⟩ => ?_⟩
  have hs := starEach_cons hn [] X.env
  have hc := pe_bm (apos := ap) (cpos := p) PySem.F.plainAttrs_list PySem.F.slot_list_append PySem.F.type_list_append (mt_append (X := X)) ho (pa_cons he pa_nil hs) (base_of hb _ _ _) (by rw [hs]; rfl) hline hs rfl
  refine (ps_expr hc (sw_plain rfl _ _ _)).run pins s σ H D J ?_
  unfold evS at q
  refine tE.stepS r q fun dx x ρ1 h1 H1 r1 E1 x1 q1 => ?_
  split at q1
  · rename_i hr
    cases dx with
    | t y => cases hr
    | r n =>
      cases x1 with
      | @r a _ ea =>
        unfold lstRef at hr
        dsimp only at hr
        cases z : h1[n]? with
        | none => rw [z] at hr; cases hr
        | some ob =>
          rw [z] at hr
          cases ob with
          | lst ds =>
            obtain ⟨vs, ha, rs⟩ := r1.hr.ob n _ _ ea z
            refine ⟨?_, ?_⟩
            · exact .inl ⟨rfl, vs, .of ha⟩
            · refine tE.stepS r1 q1 fun d v ρ2 h2 H2 r2 E2 x2 q2 => ?_
              obtain ⟨t, h3, r3, E3, T3, q3⟩ := PostS.frz1 r2 x2 q2
              split at q3
              · rename_i es ez
                split at q3
                · rename_i hz
                  have ea3 := E2.ref n _ ea
                  obtain ⟨vs', ha', rs'⟩ := r3.hr.ob n _ _ ea3 ez
                  have rn : ObLt n (.lst (es ++ [.t t])) := fun m hm => by
                    rcases List.mem_append.mp hm with hm | hm
                    · exact r3.hr.lt n _ ez m hm
                    · rcases List.mem_cons.mp hm with hm | hm
                      · cases hm
                      · cases hm
                  obtain ⟨R4, E4⟩ := r3.hr.write (ob := .lst (es ++ [.t t])) (o' := .lst (vs' ++ [v])) ea3 ez (fun z => nomatch z) rn ⟨_, upd_same, (rs'.append (.cons (.t T3) .nil)).mono (stay_live ⟨n, _, ea3, ez, fun z => nomatch z⟩) fun _ _ e => e⟩
                  refine ⟨_, vs', v, rfl, rfl, ha', ?_, ?_⟩
                  · rw [rs'.length]; exact Nat.lt_of_lt_of_le hz sizeML
                  · exact q3 ρ2 σ _ (r3.ext R4 E4) E4
                · exact q3.elim
              · exact q3.elim
          | _ => cases hr
  · exact q1.elim
theorem place_ixN {n : Nat} {i : Int} {k : Nat} (e : place n i = some k) : ixN n i = some k := by
  unfold place at e
  unfold ixN
  split at e
  · split at e
    · cases e
      simp [*]
    · cases e
  · split at e
    · cases e
      simp [*]
      omega
    · cases e
theorem ss_setA (Y : Cw X I c S Wx N sc) {o m : Ex} {f : Nat} {eo e : Expr} {p : Pos} (ho : SE X I c S Wx o eo) (he : SE X I c S Wx m e) : SS X I c S Wx (.setA o f m) (.Assign [.Attribute eo (S.W.fnm f) p] e pos) := by
  refine ⟨fun pins s σ H D J ⟨Z, ρ, h, env, r, q⟩ => ?_⟩
  refine (ps_fld ho he (show swapsWith e (some (.Attribute eo (S.W.fnm f) p)) pos.line X.env = pure false by cases e <;> rfl)).run pins s σ H D J ?_
  unfold evS at q
  refine tE.stepS r q fun d v ρ1 h1 H1 r1 E1 x1 q1 => ?_
  refine tE.stepS r1 q1 fun dx x ρ2 h2 H2 r2 E2 x2 q2 => ?_
  unfold setAD at q2
  cases dx with
  | t y => exact q2.elim
  | r n =>
    cases x2 with
    | @r a _ ea =>
      dsimp only at q2
      obtain ⟨t, h3, r3, E3, T3, q3⟩ := PostS.frz1 r2 (x1.ext E2) q2
      split at q3
      · rename_i k ks vs ez
        split at q3
        · rename_i hf
          obtain ⟨hf, hk⟩ := hf
          obtain ⟨dd, fs, ha, e1, e2, rs⟩ := r3.hr.ob n _ _ ea ez
          obtain ⟨cl, na⟩ := Y.y.z.fac.fld k f hf
          have fi : ∀ g ∈ ks, S.W.fnm g = S.W.fnm f → g = f := fun g hg z => Y.y.z.fac.finj k g f (by rw [← Y.y.z.fac.feq]; exact e2 g hg) hf z
          obtain ⟨a1, a2, a3, a4⟩ := put_fld (d := .t t) e1 fi rs (.t T3)
          have rn : ObLt n (.ins k (put (.t t) f ks vs).1 (put (.t t) f ks vs).2) := fun m hm => by
            rcases a4 _ hm with hm | hm
            · exact r3.hr.lt n _ ez m hm
            · cases hm
          obtain ⟨R4, E4⟩ := r3.hr.write (o' := .ins (S.W.ca k) dd (putF (S.W.fnm f) v fs)) ea ez (fun z => nomatch z) rn ⟨dd, _, upd_same, a1, fun g hg => (a3 g hg).elim (e2 g) fun z => by rw [z, Y.y.z.fac.feq]; exact hf, RepDs.mono (stay_live ⟨n, _, ea, ez, fun z => nomatch z⟩) (fun _ _ e => e) a2⟩
          refine ⟨_, _, dd, fs, rfl, ha, by rw [Y.y.z.k]; exact cl, by rw [Y.y.z.k]; exact na, ?_, ?_⟩
          · have := congrArg List.length e1
            simp at this
            omega
          · exact q3 ρ2 σ _ (r3.ext R4 E4) E4
        · exact q3.elim
      · exact q3.elim
theorem ss_setI (Y : Cw X I c S Wx N sc) {o i m : Ex} {eo ei e : Expr} {p : Pos} (ho : SE X I c S Wx o eo) (hi : SE X I c S Wx i ei) (he : SE X I c S Wx m e) : SS X I c S Wx (.setI o i m) (.Assign [.Subscript eo ei p] e pos) := by
  refine ⟨fun pins s σ H D J ⟨Z, ρ, h, env, r, q⟩ => ?_⟩
  unfold evS at q
  have hs : swapsWith e (some (.Subscript eo ei p)) pos.line X.env = pure false := by cases e <;> rfl
  refine wpAny_Assign_Subscript (thn (he.run pins s σ H (fun v H1 => ∃ d ρ1 h1, Rl S.W Z ρ1 h1 H1 env σ ∧ RD S.W Z ρ1 h1 H1 v d ∧ PostS S.W Wx Z D ρ1 h1 H1 (liftS (ev I c o env h1) env fun x h => liftS (ev I c i env h) env fun y h => liftS (setID I c x y d h) env fun _ h => .nx env h)) J
    (tE.stepS r q fun d v ρ1 h1 H1 r1 E1 x1 q1 => ⟨d, ρ1, h1, r1, x1, q1⟩)) fun u s1 ⟨v, H1, I1, rv, d, ρ1, h1, r1, x1, q1⟩ => ?_) hs
  refine thn (ho.run pins s1 σ H1 (fun w H2 => ∃ dx ρ2 h2, Rl S.W Z ρ2 h2 H2 env σ ∧ RD S.W Z ρ2 h2 H2 w dx ∧ RD S.W Z ρ2 h2 H2 v d ∧ PostS S.W Wx Z D ρ2 h2 H2 (liftS (ev I c i env h2) env fun y h => liftS (setID I c dx y d h) env fun _ h => .nx env h)) I1
    (tE.stepS r1 q1 fun dx w ρ2 h2 H2 r2 E2 x2 q2 => ⟨dx, ρ2, h2, r2, x2, x1.ext E2, q2⟩)) fun u2 s2 ⟨w, H2, I2, rw', dx, ρ2, h2, r2, x2, x1, q2⟩ => ?_
  refine thn (hi.run pins s2 σ H2 (fun y H3 => ∃ dy ρ3 h3, Rl S.W Z ρ3 h3 H3 env σ ∧ RD S.W Z ρ3 h3 H3 y dy ∧ RD S.W Z ρ3 h3 H3 w dx ∧ RD S.W Z ρ3 h3 H3 v d ∧ PostS S.W Wx Z D ρ3 h3 H3 (liftS (setID I c dx dy d h3) env fun _ h => .nx env h)) I2
    (tE.stepS r2 q2 fun dy y ρ3 h3 H3 r3 E3 x3 q3 => ⟨dy, ρ3, h3, r3, x3, x2.ext E3, x1.ext E3, q3⟩)) fun u3 s3 ⟨y, H3, I3, ry, dy, ρ3, h3, r3, x3, x2, x1, q3⟩ => ?_
  unfold setID at q3
  cases dx with
  | t t => exact q3.elim
  | r n =>
    obtain ⟨a, ea, rfl⟩ : ∃ a, ρ3[n]? = some a ∧ w = .ref a := by cases x2 with | r ea => exact ⟨_, ea, rfl⟩
    dsimp only at q3
    obtain ⟨t, h4, r4, E4, T4, q4⟩ := PostS.frz1 r3 x1 q3
    cases ez : h4[n]? with
    | none => rw [ez] at q4; exact q4.elim
    | some ob =>
    rw [ez] at q4
    obtain rfl : u2 = Value.ref a := rw'
    cases ob with
    | lst ds =>
      dsimp only at q4
      cases ei' : intOf dy with
      | none => rw [ei'] at q4; exact q4.elim
      | some k =>
      rw [ei'] at q4
      dsimp only at q4
      cases ep : place ds.length k with
      | none => rw [ep] at q4; exact q4.elim
      | some j =>
      rw [ep] at q4
      have edy : dy = .t (.int k) := by
        cases dy with
        | r _ => cases ei'
        | t t => cases t <;> cases ei'; rfl
      subst edy
      obtain rfl := x3.int
      obtain ⟨vs, ha, rs⟩ := r4.hr.ob n _ _ ea ez
      have hj : ixN vs.length k = some j := by rw [rs.length]; exact place_ixN ep
      have rn : ObLt n (.lst (ds.set j (.t t))) := fun m hm => by
        rcases List.mem_or_eq_of_mem_set hm with hm | hm
        · exact r4.hr.lt n _ ez m hm
        · cases hm
      obtain ⟨R5, E5⟩ := r4.hr.write (o' := .lst (vs.set j v)) ea ez (fun z => nomatch z) rn ⟨_, upd_same, RepDs.mono (stay_live ⟨n, _, ea, ez, fun z => nomatch z⟩) (fun _ _ e => e) (RepDs.set (.t T4) j rs)⟩
      refine thn (set_list pins s3 σ H3 (.ref a) (.int k) v _ u3 u _ I3 rfl ry rv ⟨a, vs, k, j, rfl, rfl, ha, hj, rfl⟩) fun _ s4 ⟨H4, I4, e4⟩ => ?_
      subst e4
      exact ⟨σ, _, I4, q4 ρ3 σ _ (r4.ext R5 E5) E5⟩
    | dct ks ts =>
      dsimp only at q4
      cases ei' : strOf dy with
      | none => rw [ei'] at q4; exact q4.elim
      | some z =>
      rw [ei'] at q4
      dsimp only at q4
      split at q4
      case isFalse => exact q4.elim
      case isTrue hz =>
      have edy : dy = .t (.str z) := by
        cases dy with
        | r _ => cases ei'
        | t t => cases t <;> cases ei'; rfl
      subst edy
      obtain ⟨rfl, tok⟩ := RD_str x3
      obtain ⟨kvs, ha, k1, k2, k3, k4⟩ := r4.hr.ob n _ _ ea ez
      obtain ⟨p1, p2, p3, p4⟩ := put_dct T4 tok k1 k2 k3 k4
      have lk : kvs.length = ks.length := by have := congrArg List.length k1; simpa using this
      obtain ⟨R5, E5⟩ := r4.hr.write (o' := .dK (putK kvs (kOf z) v)) (ob := .dct (put t z ks ts).1 (put t z ks ts).2) ea ez (fun z => nomatch z) trivial ⟨_, upd_same, p1, p2, p3, p4.stay (stay_live ⟨n, _, ea, ez, fun z => nomatch z⟩)⟩
      refine d_setItem (by have := Y.y.z.u; omega) I3 (DPut.k (k := kOf z) ha (by have := sizeML; omega)) ry rv fun s4 I4 => ?_
      exact ⟨σ, _, I4, q4 ρ3 σ _ (r4.ext R5 E5) E5⟩
    | ins _ _ _ => exact q4.elim
    | dead => exact q4.elim
theorem ss_for (Y : Cw X I c S Wx N sc) {tg : Tg} {it : Kp.It} {b : Sts} {et ei : Expr} {lb : List Stmt} (hi : PI X et ei (tI I c S.W Wx it)) (hg : PG X et (tG S.W tg)) (hb : PSs X lb (tSs I c S.W Wx b)) (hset : isSet ei = false) : SS X I c S Wx (.for_ tg it b) (.For et ei lb [] pos) := by
  refine ⟨fun pins s σ H D J ⟨Z, ρ, h, env, r, q⟩ => ?_⟩
  refine (ps_for Y.y.z.xe Y.y.z.calm hi hg hb (set_of hset _)).run pins s σ H D J ?_
  unfold evS at q
  refine ⟨Z, ρ, h, env, r, q.bind r fun pr h1 ρ1 Jt H1 em r1 E1 wk q1 => ?_⟩
  obtain ⟨d, ds⟩ := pr
  dsimp only at q1 wk
  generalize hF : turn tg (fun env h => evSs I c b env h) = F at q1
  let Pv : Nat → L2.St → Hp → Prop := fun i σ H => ∃ (ρ' : List Addr) (h' : AH) (env' : Env), Rl S.W Z ρ' h' H env' σ ∧ WkI S.W Z ρ' h' H Jt d ds ∧ PostS S.W Wx Z D ρ' h' H (forL d ds F (ds.drop i) env' h')
  refine ⟨fun i m σ H => m = ds.length - i ∧ i ≤ ds.length ∧ Pv i σ H, ⟨ds.length, by simp, Nat.zero_le _, ρ1, h1, env, r1, wk, q1⟩, ?_⟩
  rintro i m σ2 H2 ⟨rfl, hi', ρ', h', env', r2, wk2, q2⟩
  by_cases hlt : i < ds.length
  · obtain ⟨g1, g2⟩ := wk2.go hlt
    refine .inr ⟨g1, Pv (i + 1), fun σ' H' p' => ⟨ds.length - (i + 1), by omega, rfl, hlt, p'⟩, fun x H' y => ?_⟩
    obtain ⟨rfl, xi⟩ := g2 x H' y
    rw [List.drop_eq_getElem_cons hlt] at q2
    unfold forL at q2
    subst hF
    unfold turn at q2
    refine ⟨Z, ρ', h', env', ds[i], r2, xi, ?_⟩
    cases hs : tg.set ds[i] h' env' with
    | none => rw [hs] at q2; exact q2.elim
    | some env2 =>
    rw [hs] at q2
    intro σ3 r3 _
    refine ⟨Z, ρ', h', env2, r3, ?_⟩
    dsimp only at q2
    have next : ∀ (e : Env) (h2 : AH), PostS S.W Wx Z D ρ' h' H' (if still d ds h2 = true then forL d ds (turn tg fun env h => evSs I c b env h) (ds.drop (i + 1)) e h2 else .no) → ∀ ρ'' σ'' H'', Rl S.W Z ρ'' h2 H'' e σ'' → Ext ρ' h' H' ρ'' h2 H'' → Pv (i + 1) σ'' H'' := fun e h2 p ρ'' σ'' H'' R'' E'' => by
      split at p
      · rename_i hst
        exact ⟨ρ'', h2, e, R'', wk2.ext R''.hr E'' hst, PostS.from E'' p⟩
      · exact p.elim
    cases eb : evSs I c b env2 h' with
    | nx e h2 => rw [eb] at q2; exact next e h2 q2
    | ct e h2 => rw [eb] at q2; exact next e h2 q2
    | rt v h2 => rw [eb] at q2; exact q2
    | ex k ks ts e h2 => rw [eb] at q2; exact q2
    | no => rw [eb] at q2; exact q2
  · have e : i = ds.length := by omega
    subst e
    rw [List.drop_length] at q2
    unfold forL at q2
    exact .inl ⟨wk2.stop, q2 ρ' σ2 H2 r2 (.refl _ _ _)⟩
theorem ss_asgAny (Kk : True) (Y : Cw X I c S Wx N sc) (hl : LocOk X sc) {i : Nat} {x : Str} {m : Ex} {e : Expr} {p : Pos} (h1 : N[i]? = some x) (h2 : locB sc x = true) (he : SE X I c S Wx m e) (hc : isComp e = false) : SS X I c S Wx (.asg i m) (.Assign [.Name x p] e pos) :=
  ss_asg Y hl h1 h2 he (sw_plain hc _ _ _)
end
def loc1 (sc : Scope) (x : Str) : Bool := match sc.names.lookup x with
  | some .local => true
  | _ => false
def fnK : ScopeKind → Bool
  | .function => true
  | _ => false
def parB (sc : Scope) (x y : Str) (px py : Pos) (a b : Expr) : Bool := fnK sc.kind && loc1 sc x && loc1 sc y && (py.line == px.line) && !decide (x = y) && noStar a && noStar b && !([a, b].all (foldedForSure 8)) && !([a, b].all (constantsAlone 8))
theorem loc1_ok {sc : Scope} {x : Str} (h : loc1 sc x = true) : sc.names.lookup x = some .local := by
  unfold loc1 at h
  split at h
  · assumption
  · cases h
theorem par_sw {env : PySem.Env} {x y : Str} {px py pt pt2 : Pos} {a b : Expr} {kt k2} (h : parB env.scope x y px py a b = true) : swappedStores [.Tuple [.Name x px, .Name y py] kt pt] (.Tuple [a, b] k2 pt2) env = pure (some [x, y]) := by
  unfold parB at h
  obtain ⟨h, h9⟩ := ba h
  obtain ⟨h, h8⟩ := ba h
  obtain ⟨h, h7⟩ := ba h
  obtain ⟨h, h6⟩ := ba h
  obtain ⟨h, h5⟩ := ba h
  obtain ⟨h, h4⟩ := ba h
  obtain ⟨h, h3⟩ := ba h
  obtain ⟨h1, h2⟩ := ba h
  have hk : env.scope.kind = .function := by
    revert h1
    cases env.scope.kind <;> first | (intro _; rfl) | (intro z; cases z)
  have hb : env.blockKind = .function := by unfold Env.blockKind; rw [hk]; rfl
  have kx : env.kindOf x = some .local := loc1_ok h2
  have ky : env.kindOf y = some .local := loc1_ok h3
  have hne : x ≠ y := of_decide_eq_false (nb h5)
  have s1 : ∀ {e : Expr}, noStar e = true → (match e with | .Starred _ _ => true | _ => false) = false := fun {e} z => by
    cases e <;> first | rfl | cases z
  have ns : [a, b].any (fun | .Starred .. => true | _ => false) = false := by
    rw [List.any_cons, List.any_cons, List.any_nil]
    have a1 := s1 h6
    have b1 := s1 h7
    rw [a1, b1]; rfl
  have nd : [x, y].eraseDups = [x, y] := by
    simp [List.eraseDups_cons, hne.symm]
  unfold swappedStores
  simp only [List.length_cons, List.length_nil, hb, ns, nb h8, nb h9, List.head?_cons, Option.map_some, Option.getD_some, List.filterMap_cons, List.filterMap_nil, kx, ky]
  have e1 : (Expr.Name x px).pos.line = px.line := rfl
  rw [e1, eq_of_beq h4]
  simp [nd]
  rintro (z | z)
  · exact absurd ((s1 h6).symm.trans z) Bool.false_ne_true
  · exact absurd ((s1 h7).symm.trans z) Bool.false_ne_true
def parS (S : NS) (N : List Str) (sc : Scope) (is : List Nat) (m : Ex) (mm : Exs → List Expr → Bool) (st : Stmt) : Bool := match st with
  | .Assign [.Tuple [.Name x px, .Name y py] _ _] (.Tuple [a, b] _ _) _ => (match is with
    | [i, j] => (match m with
      | .tup es => decide (N[i]? = some x) && decide (N[j]? = some y) && !decide (i = j) && parB sc x y px py a b && mm es [a, b]
      | _ => false)
    | _ => false)
  | _ => false
section
variable (S : NS) (N : List Str)
def isLc : Ex → Bool
  | .lc _ _ _ _ _ _ _ => true
  | _ => false
def isDcp : Ex → Bool
  | .bi .dcp (.cons (.v _) .nil) => true
  | _ => false
def noTup : Expr → Bool
  | .Tuple _ _ _ => false
  | _ => true
mutual
def mS (sc : Scope) : St → Stmt → Bool
  | .bad, _ => true
  | .asg i m, st => match st with
    | .Assign [.Name x _] e _ => decide (N[i]? = some x) && locB sc x && mE S N sc m e && (!isComp e || isLc m || isDcp m)
    | _ => false
  | .asgT is m, st => match st with
    | .Assign [.Tuple es _ _] e _ => (mTg.mTgs N sc is es && mE S N sc m e && !isComp e && noTup e) || parS S N sc is m (mEs S N sc) st
    | _ => false
  | .setA o f m, st => match st with
    | .Assign [.Attribute eo n _] e _ => decide (n = S.W.fnm f) && mE S N sc o eo && mE S N sc m e
    | _ => false
  | .setI o i m, st => match st with
    | .Assign [.Subscript eo ei _] e _ => mE S N sc o eo && mE S N sc i ei && mE S N sc m e
    | _ => false
  | .app o m, st => match st with
    | .Expr (.Call (.Attribute eo n ap) [e] [] p) _ => decide (n = ("append" : Str)) && plBase eo && (ap.endLine == p.line) && mE S N sc o eo && mE S N sc m e
    | _ => false
  | .expr m, st => match st with
    | .Expr e _ => mE S N sc m e && !isComp e
    | _ => false
  | .ite m a b, st => match st with
    | .If e la lb _ => mE S N sc m e && mSs sc a la && mSs sc b lb
    | _ => false
  | .for_ tg it b, st => match st with
    | .For et ei lb [] _ => mI S N sc it ei && mTg N sc tg et && mSs sc b lb && !isSet ei
    | _ => false
  | .ret m, st => match st with
    | .Return (some e) _ => mE S N sc m e
    | _ => false
  | .retN, st => match st with
    | .Return none _ => true
    | _ => false
  | .pas, st => match st with
    | .Pass _ => true
    | _ => false
  | .cont, st => match st with
    | .Continue _ => true
    | _ => false
  | .rais k es, st => match st with
    | .Raise (some (.Call (.Name x _) (y :: l) [] _)) none _ => decide (S.xnm k = some x) && glB sc x && okName x && mEs S N sc es (y :: l)
    | _ => false
  | .tri b hs, st => match st with
    | .Try body (h0 :: hds) [] [] _ => mSs sc b body && mXh S N sc hs (h0 :: hds)
    | _ => false
  | .ior _ _, _ => false
termination_by structural m => m
def mSs (sc : Scope) : Sts → List Stmt → Bool
  | .nil, l => l.isEmpty
  | .cons m ms, l => match l with
    | st :: sts => mS sc m st && mSs sc ms sts
    | [] => false
termination_by structural m => m
end
end
end Kp
set_option autoImplicit false
set_option maxRecDepth 10000
set_option maxHeartbeats 4000000
namespace Kp
open PySem L2
section
variable {X : Cx} {I : Info} {c : Call} {S : NS} {Wx : WX} {N : List Str} {sc : Scope} {pos : Pos}
theorem PostS.frzs {W : Wd} {Z : Lv} {σ : L2.St} {ρ : List Addr} {h : AH} {H : Hp} {env : Env} {D : Ends} {ds : List Kp.D} {vs : List V} {g : List T → AH → SR} (R0 : Rl W Z ρ h H env σ) (x : RDs W Z ρ h H vs ds) (p : PostS W Wx Z D ρ h H (liftS (frzsR ds h) env g)) :
    ∃ ts h', Rl W Z ρ h' H env σ ∧ Ext ρ h H ρ h' H ∧ RTs W Z ρ h' H vs ts ∧ PostS W Wx Z D ρ h' H (g ts h') := by
  unfold frzsR at p
  cases q : frzL (frz 4) ds h with
  | none => rw [q] at p; exact p.elim
  | some e =>
    obtain ⟨ts, h'⟩ := e
    rw [q] at p
    obtain ⟨R1, E1, T1, _⟩ := frzL_ok (fun h d x h' v => frz_ok 4 h d x h' v) ds h ts h' vs q R0.hr x
    exact ⟨ts, h', R0.ext R1 E1, E1, T1, PostS.from E1 p⟩
theorem ss_rais (Y : Cw X I c S Wx N sc) (tk : Takes X Wx) (hc : X.calm = true) (ek : ExcK X I S) {k : Nat} {ms : Exs} {x : Str} {e : Expr} {es : List Expr} {p p' : Pos} (hx : S.xnm k = some x) (hg : glB sc x = true) (ho : okName x = true) (ha : PA X (e :: es) (tEs I c S.W Wx ms)) (hn : (e :: es).all noStar = true) :
    SS X I c S Wx (.rais k ms) (.Raise (some (.Call (.Name x p) (e :: es) [] p')) none pos) := by
  refine ⟨fun pins s σ H D J ⟨Z, ρ, h, env, r, q⟩ => ?_⟩
  obtain ⟨n1, n2⟩ := all_cons hn
  unfold evS at q
  cases ex : I.exc k with
  | none => rw [ex] at q; exact q.elim
  | some ks =>
    rw [ex] at q
    dsimp only at q
    obtain ⟨l2, mk⟩ := ek k ks x ex hx
    refine (ps_raise hc tk (mk (p := p) (pos := p') (gl_of Y.y hg) (okn ho).1 ha (starEach_cons n1 es X.env) (backTo_plain p' X.env es n2))).run pins s σ H D J ?_
    refine ⟨Z, ρ, h, env, r, PostS.bind q r fun ds h1 ρ1 vs H1 _ r1 E1 x1 q1 => ?_⟩
    obtain ⟨ts, h2, r2, E2, T2, q2⟩ := PostS.frzs r1 x1 q1
    split at q2
    · rename_i hl
      have vl : vs.length = ks.length := by rw [hl]; exact T2.length
      refine ⟨by omega, fun a ha => ?_⟩
      refine ⟨a, vs, by rw [List.append_nil], by rw [List.length_map]; exact vl, upd_same, fun dx hdx ne => ?_⟩
      have hd : H1 dx = none := by rw [upd_ne ne] at hdx; exact hdx
      refine ⟨rfl, dx, ((ks.map S.W.fnm).zip vs).reverse, upd_same, by rw [upd_ne ne, upd_same], hd, ?_⟩
      have eH : upd (del (upd (upd (upd H1 a (exo a (S.W.ca k) none)) dx (exd dx ((ks.map S.W.fnm).zip vs).reverse)) a (exo a (S.W.ca k) (some dx))) a) dx (.xd ((ks.map S.W.fnm).zip vs).reverse) = upd H1 dx (.xd ((ks.map S.W.fnm).zip vs).reverse) := by
        funext b
        by_cases hb : b = dx
        · rw [hb, upd_same, upd_same]
        · rw [upd_ne hb, upd_ne hb]
          by_cases hb2 : b = a
          · rw [hb2, del_same, ha]
          · rw [del_ne hb2, upd_ne hb2, upd_ne hb, upd_ne hb2]
      rw [eH]
      obtain ⟨R3, E3⟩ := r2.hr.new (o := .xd ((ks.map S.W.fnm).zip vs).reverse) hd
      have T3 : RTs S.W Z ρ1 h2 (upd H1 dx (.xd ((ks.map S.W.fnm).zip vs).reverse)) vs ts := T2.ext E3
      refine q2 ρ1 σ _ _ _ (r2.ext R3 E3) E3 ⟨rfl, dx, _, rfl, upd_same, fun l => r2.hr.lv_some l hd, ?_, ?_⟩
      · rw [List.map_reverse, List.map_reverse, List.map_fst_zip (by rw [List.length_map]; omega)]
      · rw [List.map_reverse, List.map_snd_zip (by rw [List.length_map]; omega)]
        exact T3.reverse
    · exact q2.elim
end
end Kp
set_option autoImplicit false
set_option maxRecDepth 100000
set_option maxHeartbeats 4000000
namespace L2
open PySem PySem.Spec PyProof.Rows
def wManyA (K : PySem.W.Frag) (Wout : WX) (D : Ends) : List (Value × Nat × (Addr → Value → Option Addr → TS)) → WX
  | [] => Wout
  | (c, i, ts) :: r => fun cls d σ H => ∃ b, PySem.W.exmOne K cls c = some b ∧ (b = true → ∀ a, H a = none → ts a cls d { nx := fun σ' H' => D.nx (σ'.set i none) H', rt := D.rt, bk := fun σ' H' => D.bk (σ'.set i none) H', ct := fun σ' H' => D.ct (σ'.set i none) H' } (σ.set i (some (.ref a))) H) ∧
    (b = false → wManyA K Wout D r cls d σ H)
inductive HdsOkA (X : Cx) : List ExceptHandler → List (Value × Nat × (Addr → Value → Option Addr → TS)) → Prop
  | nil : HdsOkA X [] []
  | cons {x n : Str} {c : Value} {i : Nat} {ts : Addr → Value → Option Addr → TS} {b₀ : Stmt} {suite : List Stmt} {np pos' : Pos} {hds : List ExceptHandler} {l : List (Value × Nat × (Addr → Value → Option Addr → TS))} (hi : X.N[i]? = some n) (hln : X.env.kindOf n = some .local) (hc : Names X x c)
      (hsu : ∀ (a : Addr) (oe : Obj) (cls : Value) (d : Option Addr) (pn : List (Addr × Obj)), Zc cls d oe → (∃ vs, oe.data = .fields vs) → PSs (X.suite a ((a, oe) :: pn)) (b₀ :: suite) (ts a cls d)) (r : HdsOkA X hds l) :
      HdsOkA X (.ExceptHandler (some (.Name x np)) (some n) (b₀ :: suite) pos' :: hds) ((c, i, ts) :: l)
section
variable {X : Cx} {body : List Stmt} {h₀ : ExceptHandler} {hds : List ExceptHandler} {l : List (Value × Nat × (Addr → Value → Option Addr → TS))} {pos : Pos} {tb : WX → TS} {Wout : WX}
theorem ps_try_manyA (hs : X.stack = X.env :: X.outer) (hf : X.env.frame = some X.env.locals) (hN : X.N.Nodup) (tk : Takes X Wout)
    (hb : ∀ (W : WX) (pn : List (Addr × Obj)) (xe : Value → Shared → Prop), Takes (X.tr pn xe) W → PassesOwn (model X.prog X.w) X.A X.env xe → PSs (X.tr pn xe) body (tb W))
    (hh : HdsOkA X (h₀ :: hds) l) : PS X (.Try body (h₀ :: hds) [] [] pos) (fun D σ H => tb (wManyA X.K Wout D l) D σ H) := by
  refine ⟨fun pins s σ H D I h => ?_⟩
  have ok := I.ok
  have hfr : X.A.frames = some (X.env :: X.outer) := by rw [ok.frames, hs]
  refine wpAny_Try_except ?_
  refine wpAny_mono ((hb (wManyA X.K Wout D l) (X.pn ++ pins) (fun e s₁ => wpAny (model X.prog X.w) X.A (noteFrame e X.env) (fun _ s₂ => wpAny (model X.prog X.w) X.A (setFlight e none) (fun _ s₃ =>
    wpAny (model X.prog X.w) X.A (handleBy e X.env (h₀ :: hds)) (SP X pins D) X.xe s₃) X.xe s₂) X.xe s₁) (fun u s' xx => ?_) PassesOwn.looking).run [] s σ H D (I.toTry _) h) (fun f s1 hsp => ?_) (fun e s1 he => he)
  · -- the catch
    obtain ⟨a, B, sI, pins', σ', H', cls, d, rfl, J', nb, up, sky, na, os, ag, w⟩ := xx
    have J : Inv X pins σ' H' sI := J'.ofTry ok
    have sky' : Sky B (X.env :: X.outer) a (Zc cls d) X.env.locals s'.heap := by rw [← hs]; exact sky
    show wpAny (model X.prog X.w) X.A (noteFrame (.ref a) X.env) _ _ _
    refine Sky.land Zc.steady hfr hf sky' fun h3 fl3 up3 => ?_
    have J3 : Inv X pins σ' H' { s' with heap := h3 } := J.landed nb fl3.1 (up.trans up3) os ag
    obtain ⟨oe3, vs3, he3, hz3, hd3⟩ := fl3.there
    have notFr : ∀ {h : Heap} {o : Obj} {vs : Array Value}, h.FunFrames B (X.env :: X.outer) → h.get? a = some o → o.data = .fields vs → a ∉ frs (X.env :: X.outer) := fun {h o vs} ff e dd hm => by
      obtain ⟨_, o', e', hnf⟩ := ff.mem hm
      rw [e] at e'; cases e'
      exact hnf _ dd
    have nfr := notFr fl3.2.2.1 he3 hd3
    have nL : a ≠ X.env.locals := fun z => nfr (List.mem_filterMap.mpr ⟨X.env, List.mem_cons_self, by rw [hf, z]⟩)
    have nF : a ∉ X.fs := fun hm => by
      obtain ⟨e, he, q⟩ := List.mem_filterMap.mp hm
      exact nfr (List.mem_filterMap.mpr ⟨e, List.mem_cons_of_mem _ he, q⟩)
    have S3 := J3.suite he3 hd3 na nL nF
    have go : ∀ {hds' : List ExceptHandler} {l' : List (Value × Nat × (Addr → Value → Option Addr → TS))}, HdsOkA X hds' l' → wManyA X.K Wout D l' cls d σ' H' →
        wpAny (model X.prog X.w) X.A (handleBy (.ref a) X.env hds') (SP X pins D) X.xe { s' with heap := h3 } := by
      intro hds' l' hk
      induction hk with
      | nil =>
        intro w
        refine wpAny_handleBy_nil ?_
        obtain ⟨k1, k2, k3, oe, vs, T, oT, ts', he, hz, hd, h1, hr⟩ := id fl3
        unfold PySem.passOn
        refine wpAny_bind (wpAny_field he hd h1 ?_)
        rw [if_neg (show ¬ ((Value.ref T == Value.none) = true) from by simp)]
        have fin : wpAny (model X.prog X.w) X.A (setFlight (.ref a) X.env.frame) (fun _ s4 => wpAny (model X.prog X.w) X.A (throw (.ref a) : Sem Flow) (SP X pins D) X.xe s4) X.xe { s' with heap := h3 } := by
          rw [hf]
          refine HandSPX.setFlight_upZ fl3 fun h4 hh4 up4 => wpAny_throw (tk _ _ ?_)
          exact ⟨a, B, sI, pins, σ', H', cls, d, rfl, J, nb, (up.trans up3).trans up4, .inr (.inr (by rw [hs]; exact hh4)), na, os, ag, w⟩
        first
          | exact wpAny_bind (wpAny_pure (wpAny_bind fin))
          | exact wpAny_bind fin
      | @cons x n c i ts b₀ suite np pos' hds2 l2 hi hln hc hsu r ih =>
        intro w
        have hloc : Loc X.env.scope n := .inl hln
        obtain ⟨b, hb1, hyes, hno⟩ := w
        refine wpAny_handleBy_cons (codeAny_handlers_test ?_) (by intro q; cases q)
        have LT : PySem.W.Looks (model X.prog X.w) h3 (typeOf (.ref a)) cls := fun A Q E s k q => wpAny_typeOf_ref (k _ _ he3) (by rw [hz3.1]; exact q)
        have LM := PySem.W.exm_one (M := model X.prog X.w) (J3.kIn) LT hb1
        have test : ∀ {Q : Value → Shared → Prop} {E : Value → Shared → Prop}, Q c { s' with heap := h3 } → wpAny (model X.prog X.w) (X.A.mark (some (.ref a))) (eval (.Name x np) X.env) Q E { s' with heap := h3 } := fun {Q E} q => by
          obtain ⟨hg, hdbg, hm | ⟨hm, hv, hnn⟩⟩ := hc
          · exact ld_glob (X := X.suite a ((a, oe3) :: (X.pn ++ pins))) S3 hg hm q hdbg
          · exact ld_blt (X := X.suite a ((a, oe3) :: (X.pn ++ pins))) S3 hg hm hv q hnn hdbg
        refine test (LM.here ?_)
        cases b with
        | true =>
          refine codeAny_handlers_suite_as ?_
          refine HandSPX.lands_againZ fl3 fun h4 fl4 up4 => ?_
          have J4 : Inv X pins σ' H' { s' with heap := h4 } := J.landed nb fl4.1 ((up.trans up3).trans up4) os ag
          obtain ⟨oe4, vs4, he4, hz4, hd4⟩ := fl4.there
          have S4 := J4.suite he4 hd4 na nL nF
          refine store_ok (X := X.suite a ((a, oe4) :: (X.pn ++ pins))) (v := .ref a) S4 hN hi hloc rfl (fun s5 S5 => ?_) (.inr hln)
          refine wpAny_mono ((hsu a oe4 cls d (X.pn ++ pins) hz4 ⟨_, hd4⟩).run [] s5 _ H' _ S5 (hyes rfl a na)) (fun f s6 hsp => ?_) (fun _ _ z => False.elim z)
          have end_ : ∀ {σ6 : St} {H6 : Hp} {Q : Shared → Prop}, Inv (X.suite a ((a, oe4) :: (X.pn ++ pins))) [] σ6 H6 s6 → (∀ s7, Inv X pins (σ6.set i none) H6 s7 → Q s7) →
              wpAny (model X.prog X.w) X.A (do bindName X.env n .none; unbindBehindTheSuite X.env n pos') (fun _ s7 => Q s7) X.xe s6 := fun {σ6 H6 Q} S6 hq => gone_ok (S6.unsuite ok) hN hi hln hq
          cases f with
          | next =>
            obtain ⟨σ6, H6, S6, q6⟩ := hsp
            exact end_ S6 fun s7 J7 => ⟨_, _, J7, q6⟩
          | brk =>
            obtain ⟨σ6, H6, S6, q6⟩ := hsp
            exact end_ S6 fun s7 J7 => ⟨_, _, J7, q6⟩
          | cont =>
            obtain ⟨σ6, H6, S6, q6⟩ := hsp
            exact end_ S6 fun s7 J7 => ⟨_, _, J7, q6⟩
          | ret u =>
            obtain ⟨v6, σ6, H6, S6, r6, q6⟩ := hsp
            exact end_ S6 fun s7 J7 => ⟨_, _, _, J7, r6, q6⟩
        | false =>
          show wpAny _ X.A (handleBy (.ref a) X.env hds2) _ _ _
          exact ih (hno rfl)
    exact go hh w
  · cases f with
    | next =>
      obtain ⟨σ', H', J', q⟩ := hsp
      exact wpAny_execs_nil ⟨σ', H', J'.ofTry ok, q⟩
    | brk =>
      obtain ⟨σ', H', J', q⟩ := hsp
      exact ⟨σ', H', J'.ofTry ok, q⟩
    | cont =>
      obtain ⟨σ', H', J', q⟩ := hsp
      exact ⟨σ', H', J'.ofTry ok, q⟩
    | ret u =>
      obtain ⟨v, σ', H', J', r, q⟩ := hsp
      exact ⟨v, σ', H', J'.ofTry ok, r, q⟩
end
end L2
set_option autoImplicit false
set_option maxRecDepth 100000
set_option maxHeartbeats 4000000
namespace PySem.W
open PySem PySem.Spec PySem.Calls PyProof.Rows
section
variable {prog : Program} {w : World} {A : Around} {E : Value → Shared → Prop} {s : Shared} {K : Frag} {x D : Addr} {ox : Obj} {od : Option Obj}
theorem findObj_dataA {C : Addr} {name : Str} {a g : Value} (hc : (clsIn K C).isSome = true) (ha : findIn K (.ref C) name = some (some a)) (hg : specialIn K a "__get__" = some (some g)) (ht : takesIn K a = some true) : findObj K C od name = some (.bind g a) := by
  obtain ⟨cd, hc⟩ := Option.isSome_iff_exists.mp hc
  unfold findObj
  rw [hc, Option.bind_some, ha, Option.bind_some]
  simp [hg, ht]
theorem kin_classD {Q : Option Value → Shared → Prop} (T : L2.ExcC K D)
    (X : K.In s.heap) (I : InstAt s.heap x ox D od) (h : Q (some (.ref D)) { s with toks := s.toks + 1 }) : wpAny (model prog w) A (getAttr? (.ref x) "__class__") Q E s := by
  obtain ⟨hga, hgt, hsub, hdct, ha, hn, htk, hm⟩ := T
  have hf : findObj K D od "__class__" = some (.bind (.builtin "getset_descriptor.__get__") (.builtin "object.__class__")) := findObj_dataA (by obtain ⟨cd, hc, _⟩ := any_some hdct; rw [hc]; rfl) ha hn htk
  obtain ⟨hp, g, d, t, os⟩ := s
  have L0 := I.type (M := model prog w)
  have L1 := looks_findIn (M := model prog w) X hga
  have L2 := looks_findIn (M := model prog w) X hgt
  have L3 := looks_find (M := model prog w) X I hf
  have sub : Looks (model prog w) hp (isInstance (.ref x) (.type "BaseException")) true := L0.andThen (looks_subIn X hsub)
  have hx0 : (false && onTheHeap (Value.builtin "BaseException.__getattribute__")) = false := rfl
  have hx2 : (Value.builtin "BaseException.__getattribute__" == Value.builtin "object.__getattribute__") = false := by decide +kernel
  have hx1 : (onTheHeap (Value.ref D) && Value.builtin "BaseException.__getattribute__" == Value.builtin "object.__getattribute__") = false := by rw [hx2]; rfl
  unfold getAttr? getAttrBy? getAttrBy
  refine wpAny_bind (wpAny_mkText (wpAny_bind (wpAny_attempt (wpAny_holding (wpAny_bind (L0.at (wpAny_bind (L1.at ?_))))))))
  show wpAny _ _ (if (onTheHeap (Value.ref D) && Value.builtin "BaseException.__getattribute__" == Value.builtin "object.__getattribute__") = true then _ else _) _ _ _
  rw [hx1, if_neg Bool.false_ne_true]
  unfold getAttrByItsOwn hookBefore
  refine wpAny_bind ?_
  rw [if_pos (show onTheHeap (Value.ref D) = true from rfl)]
  refine L2.at ?_
  refine wpAny_bind (wpAny_attempt (wpAny_holding ?_))
  unfold callGetattribute
  rw [hx0, if_neg Bool.false_ne_true]
  unfold boundAndCalled
  rw [PySem.F.excAttr_ValueError.ga.bind (.ref x)]
  refine wpAny_bind (wpAny_pure ?_)
  show wpAny _ _ (call (.builtin "BaseException.__getattribute__") [.ref x, .str "__class__" t]) _ _ _
  refine wpAny_call (codeAny_call_builtin PySem.F.excAttr_ValueError.ga.plain PySem.F.entry_bexc_ga ?_)
  refine @check_slot (model prog w) _ _ ⟨hp, g, d, t + 1, os⟩ "BaseException.__getattribute__" "BaseException" "__getattribute__" (.ref x) [.str "__class__" t] [] _ (by decide +kernel) (by decide +kernel) sub (PySem.F.args_bexc_ga (.ref x) (.str "__class__" t)) ?_
  unfold Builtin.«object.__getattribute__»
  refine wpAny_bind (wpAny_of_eq (a := ((Value.ref x : Value), [Value.str "__class__" t])) (by first | rfl | (simp only [slotArgs]; rfl)) ?_)
  refine wpAny_bind (wpAny_pure (wpAny_bind (L0.at (wpAny_bind (L3.at ?_)))))
  show wpAny _ _ (holding [Value.builtin "object.__class__"] (call (.builtin "getset_descriptor.__get__") [.builtin "object.__class__", .ref x, .ref D]) >>= ret) _ _ _
  refine wpAny_bind (wpAny_holding (wpAny_call (class_get (s := ⟨hp, g, d, t + 1, os⟩) (ox := ox) (od := od) X I hm ?_)))
  refine wpAny_pure ?_
  show wpAny _ _ (handedOut (.ref D)) _ _ _
  rw [handedOut_of (v := .ref D) rfl]
  first
    | exact wpAny_pure (wpAny_pure h)
    | exact wpAny_pure h
    | exact wpAny_pure (wpAny_bind (wpAny_pure (wpAny_pure h)))
theorem kitx_excD (T : L2.ExcC K D) : KitX K (.ref x) (.ref D) (fun h => InstAt h x ox D od) where
  ty := fun _ _ _ I => I.type
  it := fun _ _ X _ => by
    obtain ⟨cdD, hcD, _⟩ := any_some T.hd
    unfold clsIn at hcD
    split at hcD
    · rename_i c' d' cd' sl' ho
      intro A' Q' E' s' k q
      unfold isType loadHead
      exact wpAny_bind (wpAny_loadPart (k _ _ (X _ _ ho)) (wpAny_pure q))
    · cases hcD
  ne := fun h tp dd its n sl X htp => by
    obtain ⟨cdD, hcD, _⟩ := any_some T.hd
    refine Bool.eq_false_iff.mpr fun q => ?_
    have e : D = tp := Value.ref.inj (beq_iff_eq.mp q)
    subst e
    unfold clsIn at hcD
    split at hcD
    · rename_i c' d' cd' sl' ho
      have z := (X _ _ ho).symm.trans htp
      cases z
    · cases hcD
  ca := fun X I k => kin_classD T X I k
end
end PySem.W
namespace L2
open PySem PySem.Spec PyProof.Rows
def rIsD (K : PySem.W.Frag) (D a dd : Addr) : List V → Hp → VK → Prop := fun xs H Q => ∃ (c : V) (cv : Value) (b : Bool) (fs : List (Str × V)), H dd = some (.xd fs) ∧ xs = [.ref a, c] ∧ (∀ u, RelV c u → u = cv) ∧ PySem.W.kitOne K (.ref D) cv = some b ∧ Q (.bl b) H
theorem call_isD {X : Cx} {a D dd : Addr} {oe : Obj} {pn : List (Addr × Obj)} (C : ExcC X.K D) (hz : Zc (.ref D) (some dd) oe) (hf : ∃ vs, oe.data = .fields vs) : CallR (X.suite a ((a, oe) :: pn)) (.builtin "isinstance") (rIsD X.K D a dd) := by
  intro pins s σ H xs us Q I r h
  obtain ⟨c, cv, b, fs, ea, rfl, hcv, e, q⟩ := h
  cases r with
  | cons rx rr =>
    cases rr with
    | cons rt rr =>
      cases rr
      cases rx
      have ec := hcv _ rt
      subst ec
      obtain ⟨hget, _⟩ := I.pin (a, oe) (List.mem_append.mpr (.inl List.mem_cons_self))
      obtain ⟨vs, hv⟩ := hf
      have hx : ObjOk X.prog X.w H s.heap dd (.xd fs) := I.hok dd _ ea
      obtain ⟨mA, hns, hr⟩ := hx
      obtain ⟨od, ho, hl⟩ := lookIn_ns hns
      have J : PySem.W.InstAt s.heap a oe D (some od) := ⟨hget, hz.1, by unfold PySem.W.notCls; rw [hv] <;> rfl, by rw [hz.2]; exact ho⟩
      exact PySem.W.kia_one (PySem.W.kitx_excD C) I.kIn J e (fun z => nomatch z) fun tk => ⟨.bl b, H, I.kept (t' := tk) fun _ _ z => z, rfl, q⟩
end L2
set_option autoImplicit false
set_option maxRecDepth 10000
set_option maxHeartbeats 4000000
namespace Kp
open PySem L2
structure Xs (X : Cx) (I : Info) (S : NS) (N : List Str) (sc : Scope) : Prop where
  k : X.K = S.W.K
  n : X.N = N
  nd : X.N.Nodup
  sc : X.env.scope = sc
  blt : ∀ x ∈ bltNames, X.mg x = none
  ve : X.mg ("ValueError" : Str) = none
  xn : ∀ k x, S.xnm k = some x → X.mg x = some (.ref (S.W.ca k))
  u : X.A.units + 64 < cLine
  cls : ∀ k c b, I.sub k c = some b → ExcC X.K (S.W.ca k) ∧ XfC X.K (S.W.ca k) ∧ PySem.W.kitOne X.K (.ref (S.W.ca k)) (.type "ValueError") = some true ∧ PySem.W.kitOne X.K (.ref (S.W.ca k)) (.ref (S.W.ca c)) = some b ∧ PySem.W.exmOne X.K (.ref (S.W.ca k)) (.ref (S.W.ca c)) = some b
  fld : ∀ k fs, I.exc k = some fs → ∀ f ∈ fs, PySem.W.findIn X.K (.ref (S.W.ca k)) (S.W.fnm f) = some none ∧ ∀ g ∈ fs, S.W.fnm g = S.W.fnm f → g = f
theorem ExcOk.ext {W : Wd} {Z : Lv} {ρ ρ' : List Addr} {h h' : AH} {H H' : Hp} {c : Nat} {ks : List Nat} {ts : List T} {cls : Value} {d : Option Addr} (E : Ext ρ h H ρ' h' H') (x : ExcOk W Z ρ h H c ks ts cls d) : ExcOk W Z ρ' h' H' c ks ts cls d := by
  obtain ⟨e, dx, fs, ed, ea, nl, e1, e2⟩ := x
  refine ⟨e, dx, fs, ed, ?_, fun z => ?_, e1, e2.ext E⟩
  · rw [E.same dx (nn ea) fun z => nl (.inl z)]; exact ea
  · rcases z with z | z
    · exact E.off dx (nn ea) (fun z => nl (.inl z)) z
    · exact nl (.inr z)
theorem lk_mapT {f : Nat} : ∀ {ks : List Nat} {ts : List T}, (lk ks ts f).map D.t = lk ks (ts.map D.t) f
  | [], ts => by cases ts <;> rfl
  | k :: ks, [] => rfl
  | k :: ks, t :: ts => by
    show (if k = f then some t else lk ks ts f).map D.t = if k = f then some (D.t t) else lk ks (ts.map D.t) f
    by_cases c : k = f
    · rw [if_pos c, if_pos c]; rfl
    · rw [if_neg c, if_neg c]; exact lk_mapT
section
variable {X : Cx} {I : Info} {S : NS} {N : List Str} {sc : Scope} {pos : Pos} {a : Addr} {oe : Obj} {cls : Value} {d : Option Addr} {pn : List (Addr × Obj)} {j k : Nat} {ks : List Nat} {ts : List T} {en : Str}
structure Xin (W : Wd) (a : Addr) (j k : Nat) (ks : List Nat) (ts : List T) (cls : Value) (d : Option Addr) (Z : Lv) (ρ : List Addr) (h : AH) (H : Hp) (env : Env) (σ : L2.St) : Prop where
  r : Rl W Z ρ h H env σ
  x : ExcOk W Z ρ h H k ks ts cls d
  e : σ[j]? = some (some (.ref a))
theorem Xin.ext {W : Wd} {Z : Lv} {ρ ρ' : List Addr} {h h' : AH} {H H' : Hp} {env : Env} {σ : L2.St} (r : Xin W a j k ks ts cls d Z ρ h H env σ) (R : HRel W Z ρ' h' H') (E : Ext ρ h H ρ' h' H') : Xin W a j k ks ts cls d Z ρ' h' H' env σ := ⟨r.r.ext R E, r.x.ext E, r.e⟩
def xE (I : Info) (W : Wd) (a : Addr) (j k : Nat) (ks : List Nat) (ts : List T) (cls : Value) (d : Option Addr) (m : XE) : TE := fun σ H Q => ∃ Z ρ h env, Xin W a j k ks ts cls d Z ρ h H env σ ∧ Post (relD W Z) W WxF Z σ ρ h H Q (xev I k ks ts m env h)
def xEs (I : Info) (W : Wd) (a : Addr) (j k : Nat) (ks : List Nat) (ts : List T) (cls : Value) (d : Option Addr) (m : XEs) : TA := fun σ H Q => ∃ Z ρ h env, Xin W a j k ks ts cls d Z ρ h H env σ ∧ Post (relDs W Z) W WxF Z σ ρ h H Q (xevs I k ks ts m env h)
def xC (I : Info) (W : Wd) (a : Addr) (j k : Nat) (ks : List Nat) (ts : List T) (cls : Value) (d : Option Addr) (m : XE) : TT := fun σ H Q => ∃ Z ρ h env, Xin W a j k ks ts cls d Z ρ h H env σ ∧ Post relB W WxF Z σ ρ h H Q ((xev I k ks ts m env h).bind fun d h => R.of (truth h d) h)
def xB (I : Info) (W : Wd) (a : Addr) (j k : Nat) (ks : List Nat) (ts : List T) (cls : Value) (d : Option Addr) (o : Bool) (m : XEs) : TE := fun σ H Q => ∃ Z ρ h env, Xin W a j k ks ts cls d Z ρ h H env σ ∧ Post (relD W Z) W WxF Z σ ρ h H Q (xevB I k ks ts o m env h)
def xBC (I : Info) (W : Wd) (a : Addr) (j k : Nat) (ks : List Nat) (ts : List T) (cls : Value) (d : Option Addr) (o : Bool) (m : XEs) : TT := fun σ H Q => ∃ Z ρ h env, Xin W a j k ks ts cls d Z ρ h H env σ ∧ Post relB W WxF Z σ ρ h H Q ((xevB I k ks ts o m env h).bind fun d h => R.of (truth h d) h)
theorem xE.step {W : Wd} {Z : Lv} {σ : L2.St} {ρ : List Addr} {h : AH} {H : Hp} {env : Env} {γ δ : Type} {rel' : Rel γ δ} {m : XE} (r : Xin W a j k ks ts cls d Z ρ h H env σ) {f : D → AH → R γ} {Q' : δ → Hp → Prop} (p : Post rel' W WxF Z σ ρ h H Q' ((xev I k ks ts m env h).bind f)) {K : V → Hp → Prop}
    (q : ∀ x v ρ' h' H', Xin W a j k ks ts cls d Z ρ' h' H' env σ → Ext ρ h H ρ' h' H' → RD W Z ρ' h' H' v x → Post rel' W WxF Z σ ρ' h' H' Q' (f x h') → K v H') : xE I W a j k ks ts cls d m σ H K :=
  ⟨Z, ρ, h, env, r, p.bind fun x h' ρ' v H' _ R' E y z => q x v ρ' h' H' (r.ext R' E) E y z⟩
theorem xEs.step {W : Wd} {Z : Lv} {σ : L2.St} {ρ : List Addr} {h : AH} {H : Hp} {env : Env} {γ δ : Type} {rel' : Rel γ δ} {m : XEs} (r : Xin W a j k ks ts cls d Z ρ h H env σ) {f : List D → AH → R γ} {Q' : δ → Hp → Prop} (p : Post rel' W WxF Z σ ρ h H Q' ((xevs I k ks ts m env h).bind f)) {K : List V → Hp → Prop}
    (q : ∀ x v ρ' h' H', Xin W a j k ks ts cls d Z ρ' h' H' env σ → Ext ρ h H ρ' h' H' → RDs W Z ρ' h' H' v x → Post rel' W WxF Z σ ρ' h' H' Q' (f x h') → K v H') : xEs I W a j k ks ts cls d m σ H K :=
  ⟨Z, ρ, h, env, r, p.bind fun x h' ρ' v H' _ R' E y z => q x v ρ' h' H' (r.ext R' E) E y z⟩
def xLen : XEs → Nat
  | .nil => 0
  | .cons _ r => xLen r + 1
theorem xevs_len {env : Env} : ∀ {ms : XEs} {h h' : AH} {ds : List D}, xevs I k ks ts ms env h = .ok ds h' → ds.length = xLen ms
  | .nil, h, h', ds, e => by unfold xevs at e; cases e; rfl
  | .cons m ms, h, h', ds, e => by
    unfold xevs at e
    cases q : xev I k ks ts m env h with
    | no => rw [q] at e; cases e
    | ex _ _ _ _ => rw [q] at e; cases e
    | ok d1 h1 =>
      rw [q] at e
      have e : ((xevs I k ks ts ms env h1).bind fun ds h => R.ok (d1 :: ds) h) = .ok ds h' := e
      cases q2 : xevs I k ks ts ms env h1 with
      | no => rw [q2] at e; cases e
      | ex _ _ _ _ => rw [q2] at e; cases e
      | ok d2 h2 =>
        rw [q2] at e
        cases e
        show d2.length + 1 = xLen ms + 1
        rw [xevs_len q2]
theorem mX_noStar {m : XE} {e : Expr} (h : mX S N sc en m e = true) : noStar e = true := by
  cases e with
  | Starred x p => cases m <;> cases h
  | _ => rfl
theorem mXl_len : ∀ {ms : XEs} {l : List Expr}, mXl S N sc en ms l = true → l.length = xLen ms
  | .nil, l, h => by
    cases l with
    | nil => rfl
    | cons _ _ => cases h
  | .cons m ms, l, h => by
    cases l with
    | nil => cases h
    | cons e es =>
      obtain ⟨_, h2⟩ := ba (show (mX S N sc en m e && mXl S N sc en ms es) = true from h)
      show es.length + 1 = xLen ms + 1
      rw [mXl_len h2]
theorem xvis {x : Str} (Y : Xs X I S N sc) (h : visB sc x = true) : Vis X.env.scope x := by
  rw [Y.sc]
  unfold visB at h
  unfold Vis
  split at h <;> first | cases h | skip
  · exact .inl (by assumption)
  · exact .inr (.inl (by assumption))
  · exact .inr (.inr (by assumption))
theorem xgl {x : Str} (Y : Xs X I S N sc) (h : glB sc x = true) : Gl X x := by
  unfold Gl Env.kindOf
  rw [Y.sc]
  unfold glB at h
  split at h
  · assumption
  · cases h
abbrev XP (X : Cx) (I : Info) (S : NS) (a : Addr) (oe : Obj) (pn : List (Addr × Obj)) (j k : Nat) (ks : List Nat) (ts : List T) (cls : Value) (d : Option Addr) (m : XE) (e : Expr) : Prop := PE (X.suite a ((a, oe) :: pn)) e (xE I S.W a j k ks ts cls d m)
abbrev XT (X : Cx) (I : Info) (S : NS) (a : Addr) (oe : Obj) (pn : List (Addr × Obj)) (j k : Nat) (ks : List Nat) (ts : List T) (cls : Value) (d : Option Addr) (m : XE) (e : Expr) : Prop := PT (X.suite a ((a, oe) :: pn)) e (xC I S.W a j k ks ts cls d m)
theorem xC_val {m : XE} {e : Expr} (Y : Xs X I S N sc) (he : XP X I S a oe pn j k ks ts cls d m e) (hp : ∀ whole, isTrue e X.env whole = (do let v ← whole; standAt e.pos; holding [v] (truthy v))) : XT X I S a oe pn j k ks ts cls d m e := by
  refine ⟨fun pins s σ H Q J q => ?_⟩
  obtain ⟨Z, ρ, h, env, r, p⟩ := q
  refine (pt_truth he hp).run pins s σ H Q J ?_
  refine xE.step r p fun d v ρ1 h1 H1 r1 E1 x1 p1 => ?_
  obtain ⟨b, eb, p1⟩ := p1.of
  exact ⟨b, by rw [show (X.suite a ((a, oe) :: pn)).K = S.W.K from Y.k]; exact truth_ok r1.r.hr x1 eb, p1 ρ1 b H1 r1.r.hr (.refl _ _ _) rfl⟩
theorem x_k {t : T} {cst : Const} {kk : Nat} (hm : mK t cst = true) : XP X I S a oe pn j k ks ts cls d (.k t) (.Constant cst kk pos) := by
  refine ⟨fun pins s σ H Q J ⟨Z, ρ, h, env, r, p⟩ => ?_⟩
  obtain ⟨v, pv, rv⟩ := mK_rep (W := S.W) (L := lv Z ρ h) (H := H) (X := X.suite a ((a, oe) :: pn)) (pos := pos) hm (kk := kk)
  unfold xev at p
  exact pv.run pins s σ H Q J (p.fin r.r.hr (rv _ _))
theorem x_v (Y : Xs X I S N sc) {i : Nat} {x : Str} (h1 : N[i]? = some x) (h2 : visB sc x = true) (h3 : okName x = true) : XP X I S a oe pn j k ks ts cls d (.v i) (.Name x pos) := by
  refine ⟨fun pins s σ H Q J ⟨Z, ρ, h, env, r, p⟩ => ?_⟩
  obtain ⟨o1, o2, _⟩ := okn h3
  unfold xev at p
  split at p
  · rename_i d e
    obtain ⟨v, ev, x⟩ := r.r.env i d e
    exact (pe_var (pos := pos) (X := X.suite a ((a, oe) :: pn)) (Y.n ▸ h1) (xvis (X := X) Y h2) o1 o2).run pins s σ H Q J ⟨v, ev, p ρ v H r.r.hr (.refl _ _ _) x⟩
  · exact p.elim
theorem x_en (Y : Xs X I S N sc) {y : Str} (h1 : N[j]? = some en) (h : enB sc en y = true) {p : Pos} : PE (X.suite a ((a, oe) :: pn)) (.Name y p) (tVar j) := by
  unfold enB at h
  obtain ⟨h, h3⟩ := ba h
  obtain ⟨h0, h2⟩ := ba h
  cases of_decide_eq_true h0
  obtain ⟨o1, o2, _⟩ := okn h3
  exact pe_var (pos := p) (X := X.suite a ((a, oe) :: pn)) (Y.n ▸ h1) (xvis (X := X) Y h2) o1 o2
theorem x_fld (Y : Xs X I S N sc) (hz : Zc cls d oe) (hf : ∃ vs, oe.data = .fields vs) (hsub : ∃ c b, I.sub k c = some b) {f : Nat} {y : Str} {p : Pos} (h1 : N[j]? = some en) (hy : enB sc en y = true) : XP X I S a oe pn j k ks ts cls d (.fld f) (.Attribute (.Name y p) (S.W.fnm f) pos) := by
  refine ⟨fun pins s σ H Q J ⟨Z, ρ, h, env, r, p⟩ => ?_⟩
  obtain ⟨c, b, es⟩ := hsub
  obtain ⟨hE, hX, _⟩ := Y.cls k c b es
  obtain ⟨ec, dx, fs, ed, ea, nl, e1, e2⟩ := r.x
  unfold xev at p
  split at p
  · rename_i fl efl
    split at p
    · rename_i hc
      obtain ⟨hc1, hc2⟩ := hc
      obtain ⟨n1, n2⟩ := Y.fld k fl efl f hc2
      obtain ⟨z, ez, p⟩ := p.of
      obtain ⟨t, el, rfl⟩ := Option.map_eq_some_iff.mp ez
      have el2 : lk ks (ts.map D.t) f = some (.t t) := by rw [← lk_mapT, el]; rfl
      obtain ⟨v, l, rv⟩ := lk_fld e1 (fun g hg z => n2 g (by rw [← hc1] at hg; exact List.mem_reverse.mp hg) z) (RepDs.of_ts (ρ := ρ) e2) el2
      refine (pe_xf (d := d) (cls := cls) hX n1 hz hf (x_en Y h1 hy) (base_of rfl _ _ _)).run pins s σ H Q J ⟨_, r.e, rfl, ec, dx, fs, v, ed, ea, l, ?_⟩
      exact p ρ v H r.r.hr (.refl _ _ _) rv
    · exact p.elim
  · exact p.elim
theorem x_isi (Y : Xs X I S N sc) (hz : Zc cls d oe) (hf : ∃ vs, oe.data = .fields vs) (hsub : ∃ c b, I.sub k c = some b) {n : Nat} {q y z : Str} {p0 p1 p2 : Pos} (h1 : N[j]? = some en) (hq : q = ("isinstance" : Str)) (hg : glB sc q = true) (hy : enB sc en y = true) (hzg : glB sc z = true) (ho : okName z = true) (hn : if n = 0 then z = ("ValueError" : Str) else S.xnm n = some z) :
    XP X I S a oe pn j k ks ts cls d (.isi n) (.Call (.Name q p0) [.Name y p1, .Name z p2] [] pos) := by
  subst hq
  refine ⟨fun pins s σ H Q J ⟨Z, ρ, h, env, r, p⟩ => ?_⟩
  obtain ⟨c, b, es⟩ := hsub
  obtain ⟨hE, hX, hV, _⟩ := Y.cls k c b es
  obtain ⟨ec, dx, fs, ed, ea, nl, e1, e2⟩ := r.x
  subst ec ed
  obtain ⟨o1, o2, o3⟩ := okn ho
  unfold xev at p
  have key : ∃ (cv : V) (cu : Value) (b : Bool), PE (X.suite a ((a, oe) :: pn)) (.Name z p2) (L2.tC cv) ∧ (∀ u, RelV cv u → u = cu) ∧ PySem.W.kitOne X.K (.ref (S.W.ca k)) cu = some b ∧ Post (relD S.W Z) S.W WxF Z σ ρ h H Q (.ok (.t (.bl b)) h) := by
    by_cases c0 : n = 0
    · rw [if_pos c0] at p hn
      subst hn
      exact ⟨.ty "ValueError", .type "ValueError", true, pe_bltn (X := X.suite a ((a, oe) :: pn)) (xgl (X := X) Y hzg) Y.ve (by decide +kernel) rfl (by decide +kernel) (by decide +kernel), fun u hu => hu, hV, p⟩
    · rw [if_neg c0] at p hn
      obtain ⟨zz, ez, p⟩ := p.of
      obtain ⟨b2, eb, rfl⟩ := Option.map_eq_some_iff.mp ez
      obtain ⟨_, _, _, hk, _⟩ := Y.cls k n b2 eb
      exact ⟨.ref (S.W.ca n), .ref (S.W.ca n), b2, pe_glob (X := X.suite a ((a, oe) :: pn)) (xgl (X := X) Y hzg) (Y.xn n z hn) rfl o1, fun u hu => hu, hk, p⟩
  obtain ⟨cv, cu, b2, pz, hcu, hk, p⟩ := key
  have hA := pa_cons (x_en Y (p := p1) h1 hy) (pa_cons pz pa_nil (by rfl)) (starEach_cons (e := .Name y p1) rfl [.Name z p2] (X.suite a ((a, oe) :: pn)).env)
  refine (pe_callB (call_isD (X := X) (pn := pn) hE hz hf) (xgl (X := X) Y hg) (Y.blt _ (by decide +kernel)) (by decide +kernel) hA).run pins s σ H Q J ?_
  exact ⟨_, r.e, cv, cu, b2, fs, ea, rfl, hcu, hk, p.fin r.r.hr (.bl _)⟩
theorem x_not (Y : Xs X I S N sc) {m : XE} {e : Expr} (ha : XP X I S a oe pn j k ks ts cls d m e) : XP X I S a oe pn j k ks ts cls d (.not_ m) (.UnaryOp .Not e pos) := by
  refine ⟨fun pins s σ H Q J ⟨Z, ρ, h, env, r, p⟩ => ?_⟩
  refine (pe_notT ha).run pins s σ H Q J ?_
  unfold xev at p
  refine xE.step r p fun d v ρ1 h1 H1 r1 E1 x1 p1 => ?_
  obtain ⟨z, e1, p1⟩ := p1.of
  obtain ⟨b, e2, rfl⟩ := Option.map_eq_some_iff.mp e1
  exact ⟨b, by rw [show (X.suite a ((a, oe) :: pn)).K = S.W.K from Y.k]; exact truth_ok r1.r.hr x1 e2, p1.fin r1.r.hr (.bl _)⟩
theorem xt_not {m : XE} {e : Expr} (ha : XT X I S a oe pn j k ks ts cls d m e) : XT X I S a oe pn j k ks ts cls d (.not_ m) (.UnaryOp .Not e pos) := by
  refine ⟨fun pins s σ H Q J ⟨Z, ρ, h, env, r, p⟩ => ?_⟩
  refine (pt_not ha).run pins s σ H Q J ?_
  unfold xev at p
  have p2 : Post relB S.W WxF Z σ ρ h H Q (((xev I k ks ts m env h).bind fun d h => R.of (truth h d) h).bind fun b h => .ok (!b) h) := by
    rw [bind_assoc'] at p ⊢
    have e : (fun (d : D) (h : AH) => (R.of ((truth h d).map fun b => bD (!b)) h).bind fun d h => R.of (truth h d) h) = fun (d : D) (h : AH) => (R.of (truth h d) h).bind fun b h => .ok (!b) h := by
      funext d h
      cases truth h d <;> rfl
    rw [e] at p
    exact p
  exact ⟨Z, ρ, h, env, r, p2.bind fun b h' ρ' b' H' _ R' E' e q => by subst e; exact q ρ' _ H' R' (.refl _ _ _) rfl⟩
theorem x_tup {es : XEs} {l : List Expr} {kk : Nat} (ha : PA (X.suite a ((a, oe) :: pn)) l (xEs I S.W a j k ks ts cls d es)) (hl : xLen es ≤ 1000) : XP X I S a oe pn j k ks ts cls d (.tup es) (.Tuple l kk pos) := by
  refine ⟨fun pins s σ H Q J ⟨Z, ρ, h, env, r, p⟩ => ?_⟩
  unfold xev at p
  refine (pe_tup ha).run pins s σ H Q J ?_
  refine ⟨Z, ρ, h, env, r, p.bind fun ds h' ρ' vs H' em R' E' x q => ?_⟩
  obtain ⟨ts, h2, R2, E2, T2, _, q⟩ := Post.frzs R' x q
  refine ⟨?_, Post.newT R2 T2 q⟩
  rw [x.length, xevs_len em]
  exact Nat.le_trans hl (by decide)
theorem x_lst {es : XEs} {l : List Expr} (ha : PA (X.suite a ((a, oe) :: pn)) l (xEs I S.W a j k ks ts cls d es)) (hl : xLen es ≤ 1000) : XP X I S a oe pn j k ks ts cls d (.lst es) (.List l pos) := by
  refine ⟨fun pins s σ H Q J ⟨Z, ρ, h, env, r, p⟩ => ?_⟩
  unfold xev at p
  refine (pe_lst ha).run pins s σ H Q J ?_
  refine ⟨Z, ρ, h, env, r, p.bind fun ds h' ρ' vs H' em R' E' x q => ?_⟩
  obtain ⟨ts, h2, R2, E2, T2, _, q⟩ := Post.frzs R' x q
  refine ⟨by rw [x.length, xevs_len em]; exact Nat.le_trans hl (by decide), ?_⟩
  exact Post.newL R2 T2 q
theorem x_ty (Y : Xs X I S N sc) {m : XE} {e : Expr} {t : Ty} {q z : Str} {p0 p2 : Pos} (ha : XP X I S a oe pn j k ks ts cls d m e) (hn : noStar e = true) (hq : q = ("isinstance" : Str)) (hg : glB sc q = true) (hzg : glB sc z = true) (ho : okName z = true) (ht : tynm t = some z) :
    XP X I S a oe pn j k ks ts cls d (.ty m t) (.Call (.Name q p0) [e, .Name z p2] [] pos) := by
  subst hq
  refine ⟨fun pins s σ H Q J ⟨Z, ρ, h, env, r, p⟩ => ?_⟩
  unfold xev at p
  have hc : PE (X.suite a ((a, oe) :: pn)) (.Name z p2) (L2.tC (tyV S.W t)) := by
    cases t <;> first | cases ht | skip
    all_goals exact pe_bltn (X := X.suite a ((a, oe) :: pn)) (xgl (X := X) Y hzg) (Y.blt _ (by decide +kernel)) (by decide +kernel) rfl (by decide +kernel) (by decide +kernel)
  have hA := pa_cons ha (pa_cons hc pa_nil (by rfl)) (starEach_cons hn [.Name z p2] (X.suite a ((a, oe) :: pn)).env)
  refine wpAny_Call_Name_kw (ld_blt (X := X.suite a ((a, oe) :: pn)) J (xgl (X := X) Y hg) (Y.blt _ (by decide +kernel)) (u := .builtin "isinstance") (by decide +kernel) ?_ (by decide +kernel) (by decide +kernel))
  refine PyProof.Rows.callWith_builtin1 (thn (hA.run pos pins s σ H (fun vs H1 => ∃ v, vs = [v, tyV S.W t] ∧ ∃ b ρ h x, isiD h x t = some b ∧ HRel S.W Z ρ h H1 ∧ RD S.W Z ρ h H1 v x ∧ t.isC = false ∧ Q (.bl b) H1) J (xE.step r p fun d v ρ1 h1 H1 r1 E1 x1 p1 => ?_)) fun us s1 ⟨vs, H1, I1, rv, v, ev, b, ρ1, h1, x, e1, R1, x1, hC, p1⟩ => ?_) (starEach_cons hn _ _) (by rfl)
  · refine ⟨v, rfl, ?_⟩
    split at p1
    · exact p1.elim
    · rename_i hC
      obtain ⟨z, ez, p1⟩ := p1.of
      obtain ⟨b, eb, rfl⟩ := Option.map_eq_some_iff.mp ez
      exact ⟨b, ρ1, h1, d, eb, r1.r.hr, x1, by cases q : t.isC with | false => rfl | true => exact absurd q hC, p1.fin r1.r.hr (.bl _)⟩
  · subst ev
    obtain ⟨tv, hty, hk⟩ := isi_ty R1 x1 (fun k ek => by subst ek; cases hC) e1
    exact call_isi pins s1 σ H1 _ _ Q I1 rv ⟨v, tyV S.W t, tv, tyU S.W t, b, rfl, tyClsV S.W t, by rw [show (X.suite a ((a, oe) :: pn)).K = S.W.K from Y.k]; exact hty, by rw [show (X.suite a ((a, oe) :: pn)).K = S.W.K from Y.k]; exact hk, p1⟩
theorem x_eqv (Y : Xs X I S N sc) {pins : List (Addr × Obj)} {s : Shared} {σ : L2.St} {H : Hp} {Z : Lv} {ρ : List Addr} {h : AH} {x y : V} {v u : Value} {dx dy : D} {Q : VK} (J : Inv (X.suite a ((a, oe) :: pn)) pins σ H s) (R0 : HRel S.W Z ρ h H) (x1 : RD S.W Z ρ h H x dx) (y1 : RD S.W Z ρ h H y dy) (rx : RelV x v) (ry : RelV y u)
    (p : Post (relD S.W Z) S.W WxF Z σ ρ h H Q (match snap h 4 dx, snap h 4 dy with
      | some s, some t => if plain deep s && plain deep t then .ok (bD (eqT s t)) h else .no
      | _, _ => .no)) : wpAny (model X.prog X.w) (X.suite a ((a, oe) :: pn)).A (compareOp .Eq v u) (EP (X.suite a ((a, oe) :: pn)) pins σ Q) (fun _ _ => False) s := by
  split at p
  · rename_i tx ty e1 e2
    split at p
    · rename_i kk
      obtain ⟨k1, k2⟩ := Bool.and_eq_true_iff.mp kk
      have q := p.fin R0 (.bl _)
      have d1 := snap_ok R0 4 dx tx x e1 x1
      have d2 := snap_ok R0 4 dy ty y e2 y1
      have eK : (X.suite a ((a, oe) :: pn)).K = S.W.K := Y.k
      exact op_eqD (X := X.suite a ((a, oe) :: pn)) Y.u pins s σ H x y v u Q J rx ry ⟨_, _, by rw [eK]; exact d1.dp k1, by rw [eK]; exact d2.dp k2, d1.shaped k1, d2.shaped k2, by rw [eqv_eqT deep deep tx ty k1 k2]; exact q⟩
    · exact p.elim
  · exact p.elim
theorem x_eq (Y : Xs X I S N sc) {m1 m2 : XE} {l e : Expr} (ha : XP X I S a oe pn j k ks ts cls d m1 l) (hb : XP X I S a oe pn j k ks ts cls d m2 e) (hm : behindInMarks .Eq e = false) : XP X I S a oe pn j k ks ts cls d (.eq m1 m2) (.Compare l [.Eq] [e] pos) := by
  refine ⟨fun pins s σ H Q J ⟨Z, ρ, h, env, r, p⟩ => ?_⟩
  refine wpAny_Compare1 (binT ha hb (R := fun x y H2 => ∃ ρ h dx dy, HRel S.W Z ρ h H2 ∧ RD S.W Z ρ h H2 x dx ∧ RD S.W Z ρ h H2 y dy ∧ Post (relD S.W Z) S.W WxF Z σ ρ h H2 Q (match snap h 4 dx, snap h 4 dy with
      | some s, some t => if plain deep s && plain deep t then .ok (bD (eqT s t)) h else .no
      | _, _ => .no)) J ?_ fun v u s2 x y H2 I2 rx ry ⟨ρ2, h2, dx, dy, R2, x2, y2, p2⟩ => x_eqv Y I2 R2 x2 y2 rx ry p2) hm
  unfold xev at p
  refine xE.step r p fun d v ρ1 h1 H1 r1 E1 x1 p1 => ?_
  refine xE.step r1 p1 fun d2 v2 ρ2 h2 H2 r2 E2 x2 p2 => ?_
  exact ⟨ρ2, h2, d, d2, r2.r.hr, x1.ext E2, x2, p2⟩
theorem xt_eq (Y : Xs X I S N sc) {m1 m2 : XE} {l e : Expr} (ha : XP X I S a oe pn j k ks ts cls d m1 l) (hb : XP X I S a oe pn j k ks ts cls d m2 e) (hm : behindInMarks .Eq e = false) : XT X I S a oe pn j k ks ts cls d (.eq m1 m2) (.Compare l [.Eq] [e] pos) := by
  refine ⟨fun pins s σ H Q J ⟨Z, ρ, h, env, r, p⟩ => ?_⟩
  refine wpAny_isTrue_Compare1 (binT ha hb (R := fun x y H2 => ∃ ρ h dx dy, HRel S.W Z ρ h H2 ∧ RD S.W Z ρ h H2 x dx ∧ RD S.W Z ρ h H2 y dy ∧ Post relB S.W WxF Z σ ρ h H2 Q ((match snap h 4 dx, snap h 4 dy with
      | some s, some t => if plain deep s && plain deep t then R.ok (bD (eqT s t)) h else .no
      | _, _ => .no).bind fun d h => R.of (truth h d) h)) J ?_ fun v u s2 x y H2 I2 rx ry ⟨ρ2, h2, dx, dy, R2, x2, y2, p2⟩ => ?_) hm
  · unfold xev at p
    rw [bind_assoc'] at p
    refine xE.step r p fun d v ρ1 h1 H1 r1 E1 x1 p1 => ?_
    rw [bind_assoc'] at p1
    refine xE.step r1 p1 fun d2 v2 ρ2 h2 H2 r2 E2 x2 p2 => ?_
    exact ⟨ρ2, h2, d, d2, r2.r.hr, x1.ext E2, x2, p2⟩
  · refine thn (x_eqv Y I2 R2 x2 y2 rx ry (Q := fun v H' => ∃ ρ h d, HRel S.W Z ρ h H' ∧ RD S.W Z ρ h H' v d ∧ Post relB S.W WxF Z σ ρ h H' Q (R.of (truth h d) h)) (p2.bind fun d h' ρ' v' H' _ R' E' x' q => ⟨ρ', h', d, R', x', q⟩)) fun w s3 ⟨z, H3, I3, r3, ρ3, h3, d3, R3, x3, p3⟩ => ?_
    obtain ⟨b, e, p3⟩ := p3.of
    have t := truth_ok R3 x3 e
    exact tru_ok (X := X.suite a ((a, oe) :: pn)) pins s3 σ H3 z w (fun b H' => Q b H') I3 r3 ⟨b, by rw [show (X.suite a ((a, oe) :: pn)).K = S.W.K from Y.k]; exact t, p3 ρ3 b H3 R3 (.refl _ _ _) rfl⟩
theorem xb_one {o : Bool} {m : XE} {e : Expr} (ha : XP X I S a oe pn j k ks ts cls d m e) : PE (X.suite a ((a, oe) :: pn)) (.BoolOp (opB o) [e] pos) (xB I S.W a j k ks ts cls d o (.cons m .nil)) := by
  refine ⟨fun pins s σ H Q J ⟨Z, ρ, h, env, r, p⟩ => ?_⟩
  refine PyProof.Rows.BoolOp_one (ha.run pins s σ H Q J ?_)
  unfold xevB at p
  exact xE.step r p fun d v ρ1 h1 H1 r1 E1 x1 p1 => p1 ρ1 v H1 r1.r.hr (.refl _ _ _) x1
theorem xb_cons (Y : Xs X I S N sc) {o : Bool} {m : XE} {ms : XEs} {e b : Expr} {es : List Expr} (ha : XP X I S a oe pn j k ks ts cls d m e) (hb : PE (X.suite a ((a, oe) :: pn)) (.BoolOp (opB o) (b :: es) pos) (xB I S.W a j k ks ts cls d o ms)) (hn : xNil ms = false) :
    PE (X.suite a ((a, oe) :: pn)) (.BoolOp (opB o) (e :: b :: es) pos) (xB I S.W a j k ks ts cls d o (.cons m ms)) := by
  have key : ∀ {σ : L2.St} {H : Hp} {Q : VK}, xB I S.W a j k ks ts cls d o (.cons m ms) σ H Q → xE I S.W a j k ks ts cls d m σ H fun x H1 => ∃ c, TruV (X.suite a ((a, oe) :: pn)).K x H1 c ∧ if c = o then xB I S.W a j k ks ts cls d o ms σ H1 Q else Q x H1 := by
    rintro σ H Q ⟨Z, ρ, h, env, r, p⟩
    unfold xevB at p
    refine xE.step r p fun d v ρ1 h1 H1 r1 E1 x1 p1 => ?_
    rw [hn] at p1
    dsimp only at p1
    cases q : truth h1 d with
    | none => rw [q] at p1; exact p1.elim
    | some c =>
      rw [q] at p1
      refine ⟨c, by rw [show (X.suite a ((a, oe) :: pn)).K = S.W.K from Y.k]; exact truth_ok r1.r.hr x1 q, ?_⟩
      dsimp only at p1
      by_cases ck : c = o
      · rw [if_pos ck] at p1 ⊢
        exact ⟨Z, ρ1, h1, env, r1, p1⟩
      · rw [if_neg ck] at p1 ⊢
        exact p1 ρ1 v H1 r1.r.hr (.refl _ _ _) x1
  cases o with
  | true => exact ⟨fun pins s σ H Q J q => (pe_andT ha hb).run pins s σ H Q J (key q)⟩
  | false =>
    refine ⟨fun pins s σ H Q J q => (pe_orT ha hb).run pins s σ H Q J ?_⟩
    have := key q
    obtain ⟨Z, ρ, h, env, r, p⟩ := this
    refine ⟨Z, ρ, h, env, r, p.mono fun v H' ⟨c, t, q⟩ => ⟨c, t, ?_⟩⟩
    cases c with
    | true => exact q
    | false => exact q
theorem xbc_one {o : Bool} {m : XE} {e : Expr} (ha : XT X I S a oe pn j k ks ts cls d m e) : PW (X.suite a ((a, oe) :: pn)) (.BoolOp (opB o) [e] pos) (xBC I S.W a j k ks ts cls d o (.cons m .nil)) := by
  refine ⟨fun wh pins s σ H Q J ⟨Z, ρ, h, env, r, p⟩ => ?_⟩
  have q : xC I S.W a j k ks ts cls d m σ H Q := by
    unfold xevB at p
    refine ⟨Z, ρ, h, env, r, ?_⟩
    rw [bind_assoc'] at p
    exact p
  cases o with
  | true => exact (pw_and1 ha).run wh pins s σ H Q J q
  | false => exact (pw_or1 ha).run wh pins s σ H Q J q
theorem xbc_cons {o : Bool} {m : XE} {ms : XEs} {e b : Expr} {es : List Expr} (ha : XT X I S a oe pn j k ks ts cls d m e) (hb : PW (X.suite a ((a, oe) :: pn)) (.BoolOp (opB o) (b :: es) pos) (xBC I S.W a j k ks ts cls d o ms)) (hn : xNil ms = false) :
    PW (X.suite a ((a, oe) :: pn)) (.BoolOp (opB o) (e :: b :: es) pos) (xBC I S.W a j k ks ts cls d o (.cons m ms)) := by
  have key : ∀ {σ : L2.St} {H : Hp} {Q : Bool → Hp → Prop}, xBC I S.W a j k ks ts cls d o (.cons m ms) σ H Q → xC I S.W a j k ks ts cls d m σ H fun c H1 => if c = o then xBC I S.W a j k ks ts cls d o ms σ H1 Q else Q c H1 := by
    rintro σ H Q ⟨Z, ρ, h, env, r, p⟩
    refine ⟨Z, ρ, h, env, r, ?_⟩
    unfold xevB at p
    rw [bind_assoc'] at p
    have p := Post.test (F := fun c h => if c = o then (xevB I k ks ts o ms env h).bind fun d h => R.of (truth h d) h else .ok c h) p fun x h => by
      rw [hn]
      cases q : truth h x with
      | none => rfl
      | some c =>
        show R.bind (if c = o then xevB I k ks ts o ms env h else R.ok x h) _ = if c = o then _ else _
        by_cases ck : c = o
        · rw [if_pos ck, if_pos ck]
        · rw [if_neg ck, if_neg ck]; show R.of (truth h x) h = _; rw [q]; rfl
    refine p.bind fun c h1 ρ1 k' H1 _ R1 E1 ek p1 => ?_
    subst ek
    by_cases ck : k' = o
    · rw [if_pos ck] at p1 ⊢
      exact ⟨Z, ρ1, h1, env, r.ext R1 E1, p1⟩
    · rw [if_neg ck] at p1 ⊢
      exact p1 ρ1 k' H1 R1 (.refl _ _ _) rfl
  cases o with
  | true =>
    refine ⟨fun wh pins s σ H Q J q => (pw_and ha hb).run wh pins s σ H Q J ?_⟩
    obtain ⟨Z, ρ, h, env, r, p⟩ := key q
    refine ⟨Z, ρ, h, env, r, p.mono fun v H' q => ?_⟩
    cases v with
    | true => exact q
    | false => exact q
  | false =>
    refine ⟨fun wh pins s σ H Q J q => (pw_or ha hb).run wh pins s σ H Q J ?_⟩
    obtain ⟨Z, ρ, h, env, r, p⟩ := key q
    refine ⟨Z, ρ, h, env, r, p.mono fun v H' q => ?_⟩
    cases v with
    | true => exact q
    | false => exact q
theorem xs_nil : PA (X.suite a ((a, oe) :: pn)) [] (xEs I S.W a j k ks ts cls d .nil) :=
  ⟨fun pos pins s σ H Q J ⟨Z, ρ, h, env, r, p⟩ => pa_nil.run pos pins s σ H Q J (p ρ [] H r.r.hr (.refl _ _ _) .nil)⟩
theorem xs_cons {m : XE} {ms : XEs} {e : Expr} {es : List Expr} (ha : XP X I S a oe pn j k ks ts cls d m e) (hb : PA (X.suite a ((a, oe) :: pn)) es (xEs I S.W a j k ks ts cls d ms)) (hn : noStar e = true) : PA (X.suite a ((a, oe) :: pn)) (e :: es) (xEs I S.W a j k ks ts cls d (.cons m ms)) := by
  refine ⟨fun pos pins s σ H Q J ⟨Z, ρ, h, env, r, p⟩ => ?_⟩
  refine (pa_cons ha hb (starEach_cons hn es (X.suite a ((a, oe) :: pn)).env)).run pos pins s σ H Q J ?_
  have p : Post (relDs S.W Z) S.W WxF Z σ ρ h H Q ((xev I k ks ts m env h).bind fun d h => (xevs I k ks ts ms env h).bind fun ds h => .ok (d :: ds) h) := p
  refine xE.step r p fun d v ρ1 h1 H1 r1 E1 x1 p1 => ?_
  refine xEs.step r1 p1 fun ds vs ρ2 h2 H2 r2 E2 x2 p2 => ?_
  exact p2 ρ2 _ H2 r2.r.hr (.refl _ _ _) (.cons (x1.ext E2) x2)
mutual
theorem sX (Y : Xs X I S N sc) (hz : Zc cls d oe) (hf : ∃ vs, oe.data = .fields vs) (hsub : ∃ c b, I.sub k c = some b) (h1 : N[j]? = some en) : ∀ (m : XE) {e : Expr}, mX S N sc en m e = true → XP X I S a oe pn j k ks ts cls d m e ∧ XT X I S a oe pn j k ks ts cls d m e
  | .isi n, e, hm => by
    unfold mX at hm
    split at hm
    · obtain ⟨hm, g6⟩ := ba hm
      obtain ⟨hm, g5⟩ := ba hm
      obtain ⟨hm, g4⟩ := ba hm
      obtain ⟨hm, g3⟩ := ba hm
      obtain ⟨g1, g2⟩ := ba hm
      have q := fun p p0 p1 p2 => x_isi (pos := p) (p0 := p0) (p1 := p1) (p2 := p2) (oe := oe) (pn := pn) (ks := ks) (ts := ts) (a := a) Y hz hf hsub h1 (of_decide_eq_true g1) g2 g3 g4 g5 (n := n) (by
        by_cases c0 : n = 0
        · rw [if_pos c0] at g6 ⊢; exact of_decide_eq_true g6
        · rw [if_neg c0] at g6 ⊢; exact of_decide_eq_true g6)
      exact ⟨q _ _ _ _, xC_val Y (q _ _ _ _) (isTrue_plain' rfl)⟩
    · cases hm
  | .fld f, e, hm => by
    unfold mX at hm
    split at hm
    · obtain ⟨g1, g2⟩ := ba hm
      cases of_decide_eq_true g1
      have q := fun p p1 => x_fld (pos := p) (p := p1) (oe := oe) (pn := pn) (ks := ks) (ts := ts) (a := a) Y hz hf hsub (f := f) h1 g2
      exact ⟨q _ _, xC_val Y (q _ _) (isTrue_plain' rfl)⟩
    · cases hm
  | .k t, e, hm => by
    unfold mX at hm
    split at hm
    · exact ⟨x_k hm, xC_val Y (x_k hm) (isTrue_plain' rfl)⟩
    · cases hm
  | .v i, e, hm => by
    unfold mX at hm
    split at hm
    · obtain ⟨hm, g3⟩ := ba hm
      obtain ⟨g1, g2⟩ := ba hm
      have q := fun p => x_v (pos := p) (oe := oe) (pn := pn) (ks := ks) (ts := ts) (a := a) (j := j) (k := k) (cls := cls) (d := d) Y (of_decide_eq_true g1) g2 g3
      exact ⟨q _, xC_val Y (q _) (isTrue_plain' rfl)⟩
    · cases hm
  | .not_ m, e, hm => by
    unfold mX at hm
    split at hm
    · have q := sX Y hz hf hsub h1 m hm
      exact ⟨x_not Y q.1, xt_not q.2⟩
    · cases hm
  | .bool o ms, e, hm => by
    unfold mX at hm
    split at hm
    · rename_i op l p
      obtain ⟨hm, g3⟩ := ba hm
      obtain ⟨g1, g2⟩ := ba hm
      have eo : op = opB o := of_decide_eq_true g1
      subst eo
      obtain ⟨q1, q2⟩ := (sXl Y hz hf hsub h1 ms g3).2 (nb g2) o p
      refine ⟨⟨fun pins s σ H Q J ⟨Z, ρ, h, env, r, p⟩ => q1.run pins s σ H Q J ⟨Z, ρ, h, env, r, ?_⟩⟩, ⟨fun pins s σ H Q J ⟨Z, ρ, h, env, r, p⟩ => q2.run _ pins s σ H Q J ⟨Z, ρ, h, env, r, ?_⟩⟩⟩
      · unfold xev at p; exact p
      · unfold xev at p; exact p
    · cases hm
  | .tup ms, e, hm => by
    unfold mX at hm
    split at hm
    · obtain ⟨g1, g2⟩ := ba hm
      have q := fun p kk => x_tup (pos := p) (kk := kk) (sXl Y hz hf hsub h1 ms g1).1 (by rw [← mXl_len g1]; exact of_decide_eq_true g2)
      exact ⟨q _ _, xC_val Y (q _ _) (isTrue_plain' rfl)⟩
    · cases hm
  | .lst ms, e, hm => by
    unfold mX at hm
    split at hm
    · obtain ⟨g1, g2⟩ := ba hm
      have q := fun p => x_lst (pos := p) (sXl Y hz hf hsub h1 ms g1).1 (by rw [← mXl_len g1]; exact of_decide_eq_true g2)
      exact ⟨q _, xC_val Y (q _) (isTrue_plain' rfl)⟩
    · cases hm
  | .eq m1 m2, e, hm => by
    unfold mX at hm
    split at hm
    · obtain ⟨hm, g4⟩ := ba hm
      obtain ⟨hm, g3⟩ := ba hm
      obtain ⟨g1, g2⟩ := ba hm
      cases of_decide_eq_true g1
      have qa := sX Y hz hf hsub h1 m1 g3
      have qb := sX Y hz hf hsub h1 m2 g4
      exact ⟨x_eq Y qa.1 qb.1 (mark_of g2 _), xt_eq Y qa.1 qb.1 (mark_of g2 _)⟩
    · cases hm
  | .ty m t, e, hm => by
    unfold mX at hm
    split at hm
    · obtain ⟨hm, g6⟩ := ba hm
      obtain ⟨hm, g5⟩ := ba hm
      obtain ⟨hm, g4⟩ := ba hm
      obtain ⟨hm, g3⟩ := ba hm
      obtain ⟨g1, g2⟩ := ba hm
      have q := fun p p0 p2 => x_ty (pos := p) (p0 := p0) (p2 := p2) Y (sX Y hz hf hsub h1 m g6).1 (mX_noStar g6) (of_decide_eq_true g1) g2 g3 g4 (of_decide_eq_true g5)
      exact ⟨q _ _ _, xC_val Y (q _ _ _) (isTrue_plain' rfl)⟩
    · cases hm
termination_by structural m => m
theorem sXl (Y : Xs X I S N sc) (hz : Zc cls d oe) (hf : ∃ vs, oe.data = .fields vs) (hsub : ∃ c b, I.sub k c = some b) (h1 : N[j]? = some en) : ∀ (ms : XEs) {es : List Expr}, mXl S N sc en ms es = true → PA (X.suite a ((a, oe) :: pn)) es (xEs I S.W a j k ks ts cls d ms) ∧
    (xNil ms = false → ∀ o p, PE (X.suite a ((a, oe) :: pn)) (.BoolOp (opB o) es p) (xB I S.W a j k ks ts cls d o ms) ∧ PW (X.suite a ((a, oe) :: pn)) (.BoolOp (opB o) es p) (xBC I S.W a j k ks ts cls d o ms))
  | .nil, es, hm => by
    cases es with
    | cons _ _ => cases hm
    | nil => exact ⟨xs_nil, fun h => by cases h⟩
  | .cons m ms, es, hm => by
    cases es with
    | nil => cases hm
    | cons e es =>
      obtain ⟨g1, g2⟩ := ba (show (mX S N sc en m e && mXl S N sc en ms es) = true from hm)
      obtain ⟨q1, q2⟩ := sX Y hz hf hsub h1 m g1
      obtain ⟨a1, b⟩ := sXl Y hz hf hsub h1 ms g2
      refine ⟨xs_cons q1 a1 (mX_noStar g1), fun _ o p => ?_⟩
      cases ms with
      | nil =>
        cases es with
        | cons _ _ => cases g2
        | nil => exact ⟨xb_one q1, xbc_one q2⟩
      | cons m2 ms =>
        cases es with
        | nil => cases g2
        | cons e2 es =>
          obtain ⟨c1, c2⟩ := b rfl o p
          exact ⟨xb_cons Y q1 c1 rfl, xbc_cons q2 c2 rfl⟩
termination_by structural m => m
end
end
end Kp
set_option autoImplicit false
set_option maxRecDepth 10000
set_option maxHeartbeats 4000000
namespace Kp
open PySem L2
theorem Rl.unset {W : Wd} {Z : Lv} {ρ : List Addr} {h : AH} {H : Hp} {env : Env} {σ : L2.St} (r : Rl W Z ρ h H env σ) (i : Nat) (u : Option V) : Rl W Z ρ h H (env.set i none) (σ.set i u) := by
  refine ⟨r.hr, by simp [r.len], fun j d e => ?_⟩
  by_cases c : i = j
  · subst c
    have z := (List.getElem?_eq_some_iff.mp e).1
    rw [List.length_set] at z
    rw [List.getElem?_set_self z] at e
    cases e
  · rw [List.getElem?_set_ne c] at e
    obtain ⟨v', e1, e2⟩ := r.env j d e
    exact ⟨v', by rw [List.getElem?_set_ne c]; exact e1, e2⟩
theorem nocomp_is {e : Expr} (h : noComp e = true) : isComp e = false := by
  cases e <;> first | rfl | cases h
section
variable {X : Cx} {I : Info} {S : NS} {N : List Str} {sc : Scope} {pos : Pos} {a : Addr} {oe : Obj} {cls : Value} {d : Option Addr} {pn : List (Addr × Obj)} {j k : Nat} {ks : List Nat} {ts : List T} {en : Str}
def PostX (W : Wd) (Z : Lv) (D : Ends) (a : Addr) (j : Nat) (ρ : List Addr) (h : AH) (H : Hp) : SR → Prop
  | .nx e h' => ∀ ρ' σ' H', Rl W Z ρ' h' H' e σ' → Ext ρ h H ρ' h' H' → σ'[j]? = some (some (.ref a)) → D.nx σ' H'
  | .ct e h' => ∀ ρ' σ' H', Rl W Z ρ' h' H' e σ' → Ext ρ h H ρ' h' H' → σ'[j]? = some (some (.ref a)) → D.ct σ' H'
  | .rt d h' => ∀ ρ' v H', HRel W Z ρ' h' H' → Ext ρ h H ρ' h' H' → RD W Z ρ' h' H' v d → D.rt v H'
  | _ => False
theorem PostX.from {W : Wd} {Z : Lv} {D : Ends} {ρ ρ' : List Addr} {h h' : AH} {H H' : Hp} (E : Ext ρ h H ρ' h' H') : ∀ {r : SR}, PostX W Z D a j ρ h H r → PostX W Z D a j ρ' h' H' r
  | .nx _ _, p => fun ρ2 σ2 H2 R2 E2 => p ρ2 σ2 H2 R2 (E.trans E2)
  | .rt _ _, p => fun ρ2 v H2 R2 E2 x => p ρ2 v H2 R2 (E.trans E2) x
  | .ct _ _, p => fun ρ2 σ2 H2 R2 E2 => p ρ2 σ2 H2 R2 (E.trans E2)
  | .ex _ _ _ _ _, p => p
  | .no, p => p
def xS (I : Info) (W : Wd) (a : Addr) (j k : Nat) (ks : List Nat) (ts : List T) (cls : Value) (d : Option Addr) (m : XS) : TS := fun D σ H => ∃ Z ρ h env, Xin W a j k ks ts cls d Z ρ h H env σ ∧ PostX W Z D a j ρ h H (xsv I k ks ts m env h)
def xSs (I : Info) (W : Wd) (a : Addr) (j k : Nat) (ks : List Nat) (ts : List T) (cls : Value) (d : Option Addr) (m : XSs) : TS := fun D σ H => ∃ Z ρ h env, Xin W a j k ks ts cls d Z ρ h H env σ ∧ PostX W Z D a j ρ h H (xssv I k ks ts m env h)
theorem xE.stepS {W : Wd} {Z : Lv} {σ : L2.St} {ρ : List Addr} {h : AH} {H : Hp} {env : Env} {D : Ends} {m : XE} (r : Xin W a j k ks ts cls d Z ρ h H env σ) {f : Kp.D → AH → SR} (p : PostX W Z D a j ρ h H (liftS (xev I k ks ts m env h) env f)) {K : V → Hp → Prop}
    (q : ∀ x v ρ' h' H', Xin W a j k ks ts cls d Z ρ' h' H' env σ → Ext ρ h H ρ' h' H' → RD W Z ρ' h' H' v x → PostX W Z D a j ρ' h' H' (f x h') → K v H') : xE I W a j k ks ts cls d m σ H K := by
  refine ⟨Z, ρ, h, env, r, ?_⟩
  cases e : xev I k ks ts m env h with
  | no => rw [e] at p; exact p.elim
  | ex _ _ _ _ => rw [e] at p; exact p.elim
  | ok x h' =>
    rw [e] at p
    exact fun ρ' v H' R' E z => q x v ρ' h' H' (r.ext R' E) E z (PostX.from E p)
theorem x_asg (Y : Xs X I S N sc) (hl : LocOk X sc) {i : Nat} {x : Str} {m : XE} {e : Expr} {p : Pos} (h0 : N[j]? = some en) (h1 : N[i]? = some x) (h2 : locB sc x = true) (hne : x ≠ en) (he : XP X I S a oe pn j k ks ts cls d m e) (hs : noComp e = true) : PS (X.suite a ((a, oe) :: pn)) (.Assign [.Name x p] e pos) (xS I S.W a j k ks ts cls d (.asg i m)) := by
  refine ⟨fun pins s σ H D J ⟨Z, ρ, h, env, r, q⟩ => ?_⟩
  obtain ⟨l1, l2⟩ := hl x h2
  refine (ps_set (X := X.suite a ((a, oe) :: pn)) Y.nd (Y.n ▸ h1) l1 he (sw_plain (nocomp_is hs) _ _ _) l2).run pins s σ H D J ?_
  unfold xsv at q
  refine xE.stepS r q fun d v ρ1 h1' H1 r1 E1 x1 q1 => ?_
  have nij : i ≠ j := fun z => by
    subst z
    rw [h0] at h1
    exact hne (Option.some.inj h1).symm
  exact q1 ρ1 _ H1 (r1.r.set i x1) (.refl _ _ _) (by rw [List.getElem?_set_ne nij]; exact r1.e)
theorem x_ret {m : XE} {e : Expr} (he : XP X I S a oe pn j k ks ts cls d m e) : PS (X.suite a ((a, oe) :: pn)) (.Return (some e) pos) (xS I S.W a j k ks ts cls d (.ret m)) := by
  refine ⟨fun pins s σ H D J ⟨Z, ρ, h, env, r, q⟩ => ?_⟩
  refine (ps_ret he).run pins s σ H D J ?_
  unfold xsv at q
  refine xE.stepS r q fun d v ρ1 h1' H1 r1 E1 x1 q1 => ?_
  exact q1 ρ1 v H1 r1.r.hr (.refl _ _ _) x1
theorem x_ite {m : XE} {e : Expr} {b1 b2 : XSs} {la lb : List Stmt} (he : XT X I S a oe pn j k ks ts cls d m e) (ha : PSs (X.suite a ((a, oe) :: pn)) la (xSs I S.W a j k ks ts cls d b1)) (hb : PSs (X.suite a ((a, oe) :: pn)) lb (xSs I S.W a j k ks ts cls d b2)) : PS (X.suite a ((a, oe) :: pn)) (.If e la lb pos) (xS I S.W a j k ks ts cls d (.ite m b1 b2)) := by
  refine ⟨fun pins s σ H D J ⟨Z, ρ, h, env, r, q⟩ => ?_⟩
  refine (ps_if he ha hb).run pins s σ H D J ?_
  unfold xsv at q
  refine ⟨Z, ρ, h, env, r, ?_⟩
  cases em : xev I k ks ts m env h with
  | no => rw [em] at q; exact q.elim
  | ex k' ks' ts' h' => rw [em] at q; exact q.elim
  | ok d1 h' =>
    rw [em] at q
    have q : PostX S.W Z D a j ρ h H (match truth h' d1 with
      | some true => xssv I k ks ts b1 env h'
      | some false => xssv I k ks ts b2 env h'
      | none => .no) := q
    show Post relB S.W WxF Z σ ρ h H _ (R.of (truth h' d1) h')
    cases et : truth h' d1 with
    | none => rw [et] at q; exact q.elim
    | some c =>
      rw [et] at q
      intro ρ' k' H' R' E' ek
      subst ek
      cases k' with
      | true => exact (if_pos rfl).mpr ⟨Z, ρ', h', env, r.ext R' E', PostX.from E' q⟩
      | false => exact (if_neg Bool.false_ne_true).mpr ⟨Z, ρ', h', env, r.ext R' E', PostX.from E' q⟩
theorem xss_nil : PSs (X.suite a ((a, oe) :: pn)) [] (xSs I S.W a j k ks ts cls d .nil) := by
  refine ⟨fun pins s σ H D J ⟨Z, ρ, h, env, r, q⟩ => ?_⟩
  refine pss_nil.run pins s σ H D J ?_
  unfold xssv at q
  exact q ρ σ H r.r (.refl _ _ _) r.e
theorem xss_cons {m : XS} {ms : XSs} {st : Stmt} {sts : List Stmt} (g1 : PS (X.suite a ((a, oe) :: pn)) st (xS I S.W a j k ks ts cls d m)) (g2 : PSs (X.suite a ((a, oe) :: pn)) sts (xSs I S.W a j k ks ts cls d ms)) : PSs (X.suite a ((a, oe) :: pn)) (st :: sts) (xSs I S.W a j k ks ts cls d (.cons m ms)) := by
  refine ⟨fun pins s σ H D J ⟨Z, ρ, h, env, r, q⟩ => ?_⟩
  refine (pss_cons g1 g2).run pins s σ H D J ⟨Z, ρ, h, env, r, ?_⟩
  unfold xssv at q
  cases em : xsv I k ks ts m env h with
  | nx e h' => rw [em] at q; exact fun ρ' σ' H' R' E' e' => ⟨Z, ρ', h', e, ⟨R', r.x.ext E', e'⟩, PostX.from E' q⟩
  | rt d h' => rw [em] at q; exact q
  | ct e h' => rw [em] at q; exact q
  | ex k ks ts e h' => rw [em] at q; exact q
  | no => rw [em] at q; exact q
mutual
theorem sXS (Y : Xs X I S N sc) (hl : LocOk X sc) (hz : Zc cls d oe) (hf : ∃ vs, oe.data = .fields vs) (hsub : ∃ c b, I.sub k c = some b) (h1 : N[j]? = some en) : ∀ (m : XS) {st : Stmt}, mXs S N sc en m st = true → PS (X.suite a ((a, oe) :: pn)) st (xS I S.W a j k ks ts cls d m)
  | .asg i m, st, hm => by
    unfold mXs at hm
    split at hm
    · obtain ⟨hm, g5⟩ := ba hm
      obtain ⟨hm, g4⟩ := ba hm
      obtain ⟨hm, g3⟩ := ba hm
      obtain ⟨g1, g2⟩ := ba hm
      exact x_asg Y hl h1 (of_decide_eq_true g1) g2 (of_decide_eq_false (nb g3)) (sX Y hz hf hsub h1 m g5).1 g4
    · cases hm
  | .ite m b1 b2, st, hm => by
    unfold mXs at hm
    split at hm
    · obtain ⟨hm, g3⟩ := ba hm
      obtain ⟨g1, g2⟩ := ba hm
      exact x_ite (sX Y hz hf hsub h1 m g1).2 (sXSs Y hl hz hf hsub h1 b1 g2) (sXSs Y hl hz hf hsub h1 b2 g3)
    · cases hm
  | .ret m, st, hm => by
    unfold mXs at hm
    split at hm
    · exact x_ret (sX Y hz hf hsub h1 m hm).1
    · cases hm
termination_by structural m => m
theorem sXSs (Y : Xs X I S N sc) (hl : LocOk X sc) (hz : Zc cls d oe) (hf : ∃ vs, oe.data = .fields vs) (hsub : ∃ c b, I.sub k c = some b) (h1 : N[j]? = some en) : ∀ (ms : XSs) {sts : List Stmt}, mXss S N sc en ms sts = true → PSs (X.suite a ((a, oe) :: pn)) sts (xSs I S.W a j k ks ts cls d ms)
  | .nil, sts, hm => by
    cases sts with
    | nil => exact xss_nil
    | cons _ _ => cases hm
  | .cons m ms, sts, hm => by
    cases sts with
    | nil => cases hm
    | cons st sts =>
      obtain ⟨g1, g2⟩ := ba (show (mXs S N sc en m st && mXss S N sc en ms sts) = true from hm)
      exact xss_cons (sXS Y hl hz hf hsub h1 m g1) (sXSs Y hl hz hf hsub h1 ms g2)
termination_by structural m => m
end
def hTS (I : Info) (W : Wd) (j : Nat) (b : XSs) : Addr → Value → Option Addr → TS := fun a cls d D σ H => ∃ k ks ts c v, I.sub k c = some v ∧ xSs I W a j k ks ts cls d b D σ H
def hL (I : Info) (W : Wd) : List (Nat × Nat × XSs) → List (Value × Nat × (Addr → Value → Option Addr → TS))
  | [] => []
  | (cl, j, b) :: r => (.ref (W.ca cl), j, hTS I W j b) :: hL I W r
theorem mXh_cons {cl j : Nat} {b : XSs} {r : List (Nat × Nat × XSs)} {hd : ExceptHandler} {hds : List ExceptHandler} (h : mXh S N sc ((cl, j, b) :: r) (hd :: hds) = true) : ∃ x np n b0 bs pos, hd = .ExceptHandler (some (.Name x np)) (some n) (b0 :: bs) pos ∧
    (decide (S.xnm cl = some x) && glB sc x && okName x && decide (N[j]? = some n) && decide (sc.names.lookup n = some .local) && mXss S N sc n b (b0 :: bs) && mXh S N sc r hds) = true := by
  unfold mXh at h
  split at h
  · rename_i e _; cases e
  · rename_i e1 e2
    cases e1
    cases e2
    exact ⟨_, _, _, _, _, _, rfl, h⟩
  · cases h
theorem hds_ok (Y : Xs X I S N sc) (hl : LocOk X sc) : ∀ (hs : List (Nat × Nat × XSs)) (hds : List ExceptHandler), mXh S N sc hs hds = true → HdsOkA X hds (hL I S.W hs)
  | [], [], _ => .nil
  | [], _ :: _, hm => by cases hm
  | _ :: _, [], hm => by cases hm
  | (cl, j, b) :: r, hd :: hds, hm => by
    obtain ⟨x, np, n, b0, bs, pos, rfl, hm⟩ := mXh_cons hm
    obtain ⟨hm, g7⟩ := ba hm
    obtain ⟨hm, g6⟩ := ba hm
    obtain ⟨hm, g5⟩ := ba hm
    obtain ⟨hm, g4⟩ := ba hm
    obtain ⟨hm, g3⟩ := ba hm
    obtain ⟨g1, g2⟩ := ba hm
    have hj : N[j]? = some n := of_decide_eq_true g4
    refine .cons (by rw [Y.n]; exact hj) (by show X.env.scope.names.lookup n = some .local; rw [Y.sc]; exact of_decide_eq_true g5) ⟨xgl (X := X) Y g2, (okn g3).1, .inl (Y.xn cl x (of_decide_eq_true g1))⟩ (fun a oe cls d pn hz hf => ⟨fun pins s σ H D J ⟨k, ks, ts, c, v, hs, q⟩ => ?_⟩) (hds_ok Y hl r hds g7)
    exact (sXSs (a := a) (pn := pn) Y hl hz hf ⟨c, v, hs⟩ hj b g6).run pins s σ H D J q
theorem wish_ok (Y : Xs X I S N sc) {Wx : WX} {Z : Lv} {D : Ends} {k : Nat} {ks : List Nat} {ts : List T} {e : Env} {h' : AH} {ρ' : List Addr} {σ' : L2.St} {H' : Hp} {cls : Value} {d : Option Addr} (R : Rl S.W Z ρ' h' H' e σ') (x : ExcOk S.W Z ρ' h' H' k ks ts cls d) :
    ∀ (hs : List (Nat × Nat × XSs)), PostS S.W Wx Z D ρ' h' H' (xhs I k ks ts e h' hs) → wManyA X.K Wx D (hL I S.W hs) cls d σ' H'
  | [], q => q ρ' σ' H' cls d R (.refl _ _ _) x
  | (cl, j, b) :: r, q => by
    unfold xhs at q
    cases es : I.sub k cl with
    | none => rw [es] at q; exact q.elim
    | some v =>
      rw [es] at q
      obtain ⟨_, _, _, _, ex⟩ := Y.cls k cl v es
      have ec : cls = .ref (S.W.ca k) := x.1
      refine ⟨v, by rw [ec]; exact ex, fun hv a ha => ?_, fun hv => ?_⟩
      · subst hv
        dsimp only at q
        split at q
        · rename_i hj
          refine ⟨k, ks, ts, cl, true, es, Z, ρ', h', e.set j none, ⟨R.unset j _, x, ?_⟩, ?_⟩
          · rw [List.getElem?_set_self (by rw [← R.len]; exact hj)]
          · cases er : xssv I k ks ts b (e.set j none) h' with
            | nx e2 h2 =>
              rw [er] at q
              exact fun ρ2 σ2 H2 R2 E2 _ => q ρ2 _ H2 (R2.unset j none) E2
            | rt d2 h2 => rw [er] at q; exact q
            | ct e2 h2 =>
              rw [er] at q
              exact fun ρ2 σ2 H2 R2 E2 _ => q ρ2 _ H2 (R2.unset j none) E2
            | ex _ _ _ _ _ => rw [er] at q; exact q.elim
            | no => rw [er] at q; exact q.elim
        · exact q.elim
      · subst hv
        exact wish_ok Y R x r q
end
end Kp
set_option autoImplicit false
set_option maxRecDepth 10000
set_option maxHeartbeats 4000000
namespace Kp
open PySem L2
section
variable {S : NS} {N : List Str} {sc : Scope} {st : Stmt} {e : Expr}
theorem mS_asg {i : Nat} {m : Ex} (h : mS S N sc (.asg i m) st = true) : ∃ x p e pos, st = .Assign [.Name x p] e pos ∧ (decide (N[i]? = some x) && locB sc x && mE S N sc m e && (!isComp e || isLc m || isDcp m)) = true := by
  unfold mS at h; split at h
  · exact ⟨_, _, _, _, rfl, h⟩
  · cases h
theorem mS_asgT {i : List Nat} {m : Ex} (h : mS S N sc (.asgT i m) st = true) : (∃ es k p e pos, st = .Assign [.Tuple es k p] e pos ∧ (mTg.mTgs N sc i es && mE S N sc m e && !isComp e && noTup e) = true) ∨ parS S N sc i m (mEs S N sc) st = true := by
  unfold mS at h; split at h
  · rcases Bool.or_eq_true_iff.mp h with h | h
    · exact .inl ⟨_, _, _, _, _, rfl, h⟩
    · exact .inr h
  · cases h
theorem mS_setA {o m : Ex} {f : Nat} (h : mS S N sc (.setA o f m) st = true) : ∃ eo n p e pos, st = .Assign [.Attribute eo n p] e pos ∧ (decide (n = S.W.fnm f) && mE S N sc o eo && mE S N sc m e) = true := by
  unfold mS at h; split at h
  · exact ⟨_, _, _, _, _, rfl, h⟩
  · cases h
theorem mS_setI {o i m : Ex} (h : mS S N sc (.setI o i m) st = true) : ∃ eo ei p e pos, st = .Assign [.Subscript eo ei p] e pos ∧ (mE S N sc o eo && mE S N sc i ei && mE S N sc m e) = true := by
  unfold mS at h; split at h
  · exact ⟨_, _, _, _, _, rfl, h⟩
  · cases h
theorem mS_app {o m : Ex} (h : mS S N sc (.app o m) st = true) : ∃ eo n ap e p pos, st = .Expr (.Call (.Attribute eo n ap) [e] [] p) pos ∧ (decide (n = ("append" : Str)) && plBase eo && (ap.endLine == p.line) && mE S N sc o eo && mE S N sc m e) = true := by
  unfold mS at h; split at h
  · exact ⟨_, _, _, _, _, _, rfl, h⟩
  · cases h
theorem mS_rais {k : Nat} {es : Exs} (h : mS S N sc (.rais k es) st = true) : ∃ x p y l pos pos', st = .Raise (some (.Call (.Name x p) (y :: l) [] pos)) none pos' ∧ (decide (S.xnm k = some x) && glB sc x && okName x && mEs S N sc es (y :: l)) = true := by
  unfold mS at h; split at h
  · exact ⟨_, _, _, _, _, _, rfl, h⟩
  · cases h
theorem mS_expr {m : Ex} (h : mS S N sc (.expr m) st = true) : ∃ e pos, st = .Expr e pos ∧ (mE S N sc m e && !isComp e) = true := by
  unfold mS at h; split at h
  · exact ⟨_, _, rfl, h⟩
  · cases h
theorem mS_ite {m : Ex} {a b : Sts} (h : mS S N sc (.ite m a b) st = true) : ∃ e la lb pos, st = .If e la lb pos ∧ (mE S N sc m e && mSs S N sc a la && mSs S N sc b lb) = true := by
  unfold mS at h; split at h
  · exact ⟨_, _, _, _, rfl, h⟩
  · cases h
theorem mS_for {tg : Tg} {it : Kp.It} {b : Sts} (h : mS S N sc (.for_ tg it b) st = true) : ∃ et ei lb pos, st = .For et ei lb [] pos ∧ (mI S N sc it ei && mTg N sc tg et && mSs S N sc b lb && !isSet ei) = true := by
  unfold mS at h; split at h
  · exact ⟨_, _, _, _, rfl, h⟩
  · cases h
theorem mS_ret {m : Ex} (h : mS S N sc (.ret m) st = true) : ∃ e pos, st = .Return (some e) pos ∧ mE S N sc m e = true := by
  unfold mS at h; split at h
  · exact ⟨_, _, rfl, h⟩
  · cases h
theorem mS_retN (h : mS S N sc .retN st = true) : ∃ pos, st = .Return none pos := by
  unfold mS at h; split at h
  · exact ⟨_, rfl⟩
  · cases h
theorem mS_pas (h : mS S N sc .pas st = true) : ∃ pos, st = .Pass pos := by
  unfold mS at h; split at h
  · exact ⟨_, rfl⟩
  · cases h
theorem mS_cont (h : mS S N sc .cont st = true) : ∃ pos, st = .Continue pos := by
  unfold mS at h; split at h
  · exact ⟨_, rfl⟩
  · cases h
theorem mE_lc {live : Bool} {el : Ex} {own : List Nat} {tg : Tg} {it : Kp.It} {cond : Ex} {more : Gens} (h : mE S N sc (.lc live el own tg it cond more) e = true) : ∃ elt tg' it' ifs gs scope p, e = .ListComp elt (⟨tg', it', ifs, 0⟩ :: gs) scope p ∧
    (blkC N sc scope (ownL N own) && own.all (fun i => decide (i < N.length)) && mI S N sc it it' && mTg N scope tg tg' && tgIn own tg && !isSet it' && (match ifs with
        | [] => isNo cond
        | [y] => mE S N (relS scope sc) cond y
        | _ => false) && mG S N sc scope own tg more gs && mE S N (relS scope sc) el elt) = true := by
  unfold mE at h; split at h
  · exact ⟨_, _, _, _, _, _, _, rfl, h⟩
  · cases h
end
section
variable {I : Info} {c : Call} {S : NS} {N : List Str} {F : Cx → WX → Scope → Prop}
theorem ss_asgLc (K : Kn I c S N F) {X : Cx} {Wx : WX} {sc : Scope} (hF : F X Wx sc) (hl : LocOk X sc) {i : Nat} {x : Str} {m : Ex} {e : Expr} {p pos : Pos} (h1 : N[i]? = some x) (h2 : locB sc x = true) (hm : mE S N sc m e = true) (hlc : isLc m = true) : SS X I c S Wx (.asg i m) (.Assign [.Name x p] e pos) := by
  have Y := (K.w hF).1
  cases m <;> first | cases hlc | skip
  rename_i live el own tg it cond more
  have hwhole := (sE K (.lc live el own tg it cond more) hF hm).1
  obtain ⟨elt, tg', it', ifs, gs, scope, p2, rfl, hm2⟩ := mE_lc hm
  · skip
    have hsw := sw_lc (elt := elt) (gs := ⟨tg', it', ifs, 0⟩ :: gs) (scope := scope) (p := p2) (py := p) (y := x) (l := pos.line) (env := X.env)
    cases hb : (X.env.blockKind == .function && X.env.kindOf x == some .local && p.line == p2.line && !(scope.names.any fun (n, k) => n == x && (k == .local || k == .cell))) with
    | false => exact ss_asg Y hl h1 h2 hwhole (by rw [hsw, hb])
    | true =>
      rw [hb] at hsw
      have hloc : X.env.scope.names.lookup x = some .local := by
        obtain ⟨hb, _⟩ := ba hb
        obtain ⟨hb, _⟩ := ba hb
        obtain ⟨_, hb⟩ := ba hb
        exact eq_of_beq hb
      obtain ⟨h1', h9⟩ := ba hm2
      obtain ⟨g7, h8⟩ := ba h1'
      obtain ⟨g6, h7⟩ := ba g7
      obtain ⟨g5, h6⟩ := ba g6
      obtain ⟨g4, h5⟩ := ba g5
      obtain ⟨g3, h4⟩ := ba g4
      obtain ⟨g2, h3⟩ := ba g3
      obtain ⟨g1, _⟩ := ba g2
      clear hm hm2 h1' g7 g6 g5 g4 g3 g2 hwhole
      have hi := sI K it hF h3 tg'
      have ok : BlkOk X.N X.env.scope scope (ownL N own) := by rw [Y.y.n, Y.y.sc]; exact blkOk_by g1
      have hg : ∀ (s : Shared) (H : Hp) (C : Addr) (cl : List (Str × Addr)) (fp : List Addr), PG (X.blk s H scope (compEnvC scope cl C X.env) fp) tg' (tG S.W tg) :=
        fun s H C cl fp => s_tg (X := X.blk s H scope (compEnvC scope cl C X.env) fp) (N := N) (S := S) (sc := scope) Y.y.z.nd Y.y.n Y.y.z.calm Y.y.z.k loc_blk h4
      have ht : ∀ (s : Shared) (H : Hp) (C : Addr) (cl : List (Str × Addr)) (fp : List Addr), PTs (X.blk s H scope (compEnvC scope cl C X.env) fp) ifs (tCo I c S.W cond) := fun s H C cl fp => by
        unfold tCo
        cases ifs with
        | nil => rw [if_pos h7]; exact pts_nil
        | cons y ifs =>
          cases ifs with
          | cons _ _ => cases h7
          | nil =>
            have hn : isNo cond = false := by cases cond <;> first | rfl | cases h7
            rw [hn, if_neg Bool.false_ne_true]
            exact pts_one (sE K cond (K.blk hF s H scope C cl fp) h7).2
      have he : ∀ (s : Shared) (H : Hp) (C : Addr) (cl : List (Str × Addr)) (fp : List Addr), PE (X.blk s H scope (compEnvC scope cl C X.env) fp) elt (tE I c S.W WxF el) := fun s H C cl fp => (sE K el (K.blk hF s H scope C cl fp) h9).1
      have tgs : ∀ i ∈ tgIs tg, i ∈ own := by
        cases tg with
        | n i => intro j hj; rcases List.mem_cons.mp hj with rfl | hj; exact List.contains_iff_mem.mp h5; cases hj
        | ns is => intro j hj; exact List.contains_iff_mem.mp (List.all_eq_true.mp h5 j hj)
      rcases sG K more h8 with ⟨rfl, rfl⟩ | ⟨tg1, it1, cond1, tg1', it1', ifs1, rfl, rfl, m1, m2, m3, m4, m5⟩
      · have e1 := ps_setLc (pos := p2) (spos := pos) (py := p) Y.y.z.calm Y.y.z.nd (Y.y.n ▸ h1) hloc hsw hi ok hg ht he (set_of (nb h6) _)
        rw [ownL_snd] at e1
        refine ⟨fun pins s σ H D J ⟨Z, ρ, h, env, r, q⟩ => e1.run pins s σ H D J ?_⟩
        unfold evS at q
        exact se_lc Y.y.z Y.y.n ok hi tgs (nb h6) hg ht he (tE.stepS r q fun d v ρ1 h1' H1 r1 E1 x1 q1 => q1 ρ1 _ H1 (r1.set i x1) (.refl _ _ _))
      · have hg1 : ∀ (s : Shared) (H : Hp) (C : Addr) (cl : List (Str × Addr)) (fp : List Addr), PG (X.blk s H scope (compEnvC scope cl C X.env) fp) tg1' (tG S.W tg1) :=
          fun s H C cl fp => s_tg (X := X.blk s H scope (compEnvC scope cl C X.env) fp) (N := N) (S := S) (sc := scope) Y.y.z.nd Y.y.n Y.y.z.calm Y.y.z.k loc_blk m1
        have e1 := ps_setLc2 (pos := p2) (spos := pos) (py := p) (vs1 := tgIs tg1) Y.y.z.calm Y.y.z.nd (Y.y.n ▸ h1) hloc hsw hi ok (by rw [ownL_snd]; exact tg_in m2) hg ht (fun s H C cl fp => (m5 (K.blk hF s H scope C cl fp)).1) hg1 (fun s H C cl fp => (m5 (K.blk hF s H scope C cl fp)).2) he (set_of (nb h6) _) fun env => set_of m4 env
        rw [ownL_snd] at e1
        refine ⟨fun pins s σ H D J ⟨Z, ρ, h, env, r, q⟩ => e1.run pins s σ H D J ?_⟩
        unfold evS at q
        exact se_lc2 Y.y.z Y.y.n tgs (tg_in m2) (tg_dis m3) (tE.stepS r q fun d v ρ1 h1' H1 r1 E1 x1 q1 => q1 ρ1 _ H1 (r1.set i x1) (.refl _ _ _))
theorem ss_asgDcp (K : Kn I c S N F) {X : Cx} {Wx : WX} {sc : Scope} (hF : F X Wx sc) (hl : LocOk X sc) {i : Nat} {x : Str} {m : Ex} {e : Expr} {p pos : Pos} (h1 : N[i]? = some x) (h2 : locB sc x = true) (hm : mE S N sc m e = true) (hlc : isDcp m = true) : SS X I c S Wx (.asg i m) (.Assign [.Name x p] e pos) := by
  have hd : ∃ j, m = .bi .dcp (.cons (.v j) .nil) := by
    unfold isDcp at hlc
    split at hlc
    · exact ⟨_, rfl⟩
    · cases hlc
  obtain ⟨j, rfl⟩ := hd
  refine ⟨fun pins s σ H D J ⟨Z, ρ, h, env, r, q⟩ => (dcp_match K hF (show dcpB N sc j e = true from hm)).2 hl h1 h2 J ?_⟩
  unfold evS at q
  exact tE.stepS r q fun d v ρ1 h1' H1 r1 E1 x1 q1 => q1 ρ1 _ H1 (r1.set i x1) (.refl _ _ _)
theorem ss_asgT (K : Kn I c S N F) {X : Cx} {Wx : WX} {sc : Scope} (hF : F X Wx sc) (hl : LocOk X sc) {is : List Nat} {es : List Expr} {m : Ex} {e : Expr} {k : Nat} {p pos : Pos} (h1 : mTg.mTgs N sc is es = true) (hm : mE S N sc m e = true) (hc : isComp e = false) (hn : noTup e = true) :
    SS X I c S Wx (.asgT is m) (.Assign [.Tuple es k p] e pos) := by
  have Y := (K.w hF).1
  have hg : PG X (.Tuple es k p) (tG S.W (.ns is)) := s_tg (N := N) (sc := sc) Y.y.z.nd Y.y.n Y.y.z.calm Y.y.z.k hl h1
  have hw : swappedStores [.Tuple es k p] e X.env = pure none := by cases e <;> first | rfl | cases hn
  refine ⟨fun pins s σ H D J ⟨Z, ρ, h, env, r, q⟩ => (ps_asg (pos := pos) (sE K m hF hm).1 hg (show swapsWithSole [.Tuple es k p] e pos.line X.env = pure false from sw_plain hc (some (.Tuple es k p)) pos.line X.env) hw).run pins s σ H D J ?_⟩
  unfold evS at q
  refine tE.stepS r q fun d v ρ1 h1' H1 r1 E1 x1 q1 => ?_
  refine ⟨Z, ρ1, h1', env, d, r1, x1, ?_⟩
  cases hs : (Tg.ns is).set d h1' env with
  | none => rw [hs] at q1; exact q1.elim
  | some env' =>
    rw [hs] at q1
    exact fun σ' R' _ => q1 ρ1 σ' H1 R' (.refl _ _ _)
theorem ss_par (K : Kn I c S N F) {X : Cx} {Wx : WX} {sc : Scope} (hF : F X Wx sc) {is : List Nat} {m : Ex} {st : Stmt} (hm : parS S N sc is m (mEs S N sc) st = true) : SS X I c S Wx (.asgT is m) st := by
  have Y := (K.w hF).1
  unfold parS at hm
  split at hm
  · rename_i x px y py kt pt a b k2 pt2 pos
    split at hm
    · rename_i i j
      split at hm
      · rename_i es
        obtain ⟨hm, h5⟩ := ba hm
        obtain ⟨hm, h4⟩ := ba hm
        obtain ⟨hm, h3⟩ := ba hm
        obtain ⟨h1, h2⟩ := ba hm
        have hij : i ≠ j := of_decide_eq_false (nb h3)
        rw [← Y.y.sc] at h4
        have hsw := par_sw (pt := pt) (pt2 := pt2) (kt := kt) (k2 := k2) h4
        have l1 : X.env.scope.names.lookup x = some .local ∧ X.env.scope.names.lookup y = some .local := by
          unfold parB at h4
          obtain ⟨h, _⟩ := ba h4
          obtain ⟨h, _⟩ := ba h
          obtain ⟨h, _⟩ := ba h
          obtain ⟨h, _⟩ := ba h
          obtain ⟨h, _⟩ := ba h
          obtain ⟨h, _⟩ := ba h
          obtain ⟨h, q3⟩ := ba h
          obtain ⟨_, q2⟩ := ba h
          exact ⟨loc1_ok q2, loc1_ok q3⟩
        refine ⟨fun pins s σ H D J ⟨Z, ρ, h, env, r, q⟩ => (ps_par (pos := pos) Y.y.z.calm Y.y.z.nd (Y.y.n ▸ of_decide_eq_true h1) (Y.y.n ▸ of_decide_eq_true h2) hij l1.1 l1.2 (sEs K es hF h5).1.1 hsw).run pins s σ H D J ?_⟩
        unfold evS at q
        unfold ev at q
        cases q1 : evs I c es env h with
        | no => rw [q1] at q; exact q.elim
        | ex k ks ts h' =>
          refine ⟨Z, ρ, h, env, r, ?_⟩
          rw [q1] at q ⊢
          exact fun ρ' H' cls d R' E x => q ρ' σ H' cls d (r.ext R' E) E x
        | ok ds h' =>
          refine ⟨Z, ρ, h, env, r, ?_⟩
          rw [q1] at q ⊢
          intro ρ' vs H' R' E x
          have len : ds.length = 2 := by rw [evs_len q1, ← mEs_len h5]; rfl
          match ds, len with
          | [d1, d2], _ =>
          cases x with
          | @cons v _ _ _ x1 x2 =>
          cases x2 with
          | @cons w _ _ _ x2 x3 =>
          cases x3
          have q : PostS S.W Wx Z D ρ h H (liftS ((frzsR [d1, d2] h').bind fun ts h => .ok (.t (.tup ts)) h) env fun d h => match (Tg.ns [i, j]).set d h env with
            | some env => .nx env h
            | none => .no) := q
          unfold frzsR at q
          cases q2 : frzL (frz 4) [d1, d2] h' with
          | none => rw [q2] at q; exact q.elim
          | some e =>
          obtain ⟨ts, h2⟩ := e
          rw [q2] at q
          obtain ⟨R1, E1, T1, _⟩ := frzL_ok (fun h d x h' v => frz_ok 4 h d x h' v) [d1, d2] h' ts h2 [v, w] q2 R' (.cons x1 (.cons x2 .nil))
          refine ⟨v, w, rfl, ?_⟩
          have lt : ts.length = 2 := by have := T1.length; simpa using this.symm
          match ts, lt with
          | [t1, t2], _ =>
          cases T1 with
          | cons y1 y2 =>
          cases y2 with
          | cons y2 _ =>
          have q : PostS S.W Wx Z D ρ h H (.nx ((env.set i (some (.t t1))).set j (some (.t t2))) h2) := q
          exact q ρ' _ H' (((r.ext R' E).ext R1 E1 |>.set i (.t y1)).set j (.t y2)) (E.trans E1)
      · cases hm
    · cases hm
  · cases hm
structure Kt (I : Info) (S : NS) (N : List Str) (F : Cx → WX → Scope → Prop) : Prop where
  xs : ∀ {X : Cx} {Wx : WX} {sc : Scope}, F X Wx sc → Xs X I S N sc
  tr : ∀ {X : Cx} {Wx : WX} {sc : Scope}, F X Wx sc → ∀ (W : WX) (pn : List (Addr × Obj)) (xe : Value → Shared → Prop), Takes (X.tr pn xe) W → PassesOwn (model X.prog X.w) X.A X.env xe → F (X.tr pn xe) W sc
def TopOk (X : Cx) : Prop := X.stack = X.env :: X.outer ∧ X.env.frame = some X.env.locals
theorem mS_tri {sc : Scope} {st : Stmt} {b : Sts} {hs : List (Nat × Nat × XSs)} (h : mS S N sc (.tri b hs) st = true) : ∃ body h0 hds pos, st = .Try body (h0 :: hds) [] [] pos ∧ (mSs S N sc b body && mXh S N sc hs (h0 :: hds)) = true := by
  unfold mS at h; split at h
  · exact ⟨_, _, _, _, rfl, h⟩
  · cases h
theorem ss_tri (T : Kt I S N F) {X : Cx} {Wx : WX} {sc : Scope} (hF : F X Wx sc) (hl : LocOk X sc) (ht : TopOk X) (tk : Takes X Wx) {b : Sts} {hs : List (Nat × Nat × XSs)} {body : List Stmt} {h0 : ExceptHandler} {hds : List ExceptHandler} {pos : Pos}
    (hb : ∀ (W : WX) (pn : List (Addr × Obj)) (xe : Value → Shared → Prop), Takes (X.tr pn xe) W → PassesOwn (model X.prog X.w) X.A X.env xe → PSs (X.tr pn xe) body (tSs I c S.W W b)) (hm : mXh S N sc hs (h0 :: hds) = true) : SS X I c S Wx (.tri b hs) (.Try body (h0 :: hds) [] [] pos) := by
  refine ⟨fun pins s σ H D J ⟨Z, ρ, h, env, r, q⟩ => ?_⟩
  have Y := T.xs hF
  refine (ps_try_manyA ht.1 ht.2 Y.nd tk hb (hds_ok Y hl hs (h0 :: hds) hm)).run pins s σ H D J ?_
  unfold evS at q
  refine ⟨Z, ρ, h, env, r, ?_⟩
  cases e : evSs I c b env h with
  | ex k ks ts e2 h2 =>
    rw [e] at q
    exact fun ρ' σ' H' cls d R' E' x => wish_ok Y R' x hs (PostS.from E' q)
  | nx _ _ => rw [e] at q; exact q
  | rt _ _ => rw [e] at q; exact q
  | ct _ _ => rw [e] at q; exact q
  | no => rw [e] at q; exact q
mutual
theorem sS (K : Kn I c S N F) (T : Kt I S N F) : ∀ (m : St) {X : Cx} {Wx : WX} {sc : Scope} {st : Stmt}, F X Wx sc → LocOk X sc → TopOk X → mS S N sc m st = true → SS X I c S Wx m st
  | .bad, X, Wx, sc, st, hF, hl, ht, hm => ss_bad
  | .asg i m, X, Wx, sc, st, hF, hl, ht, hm => by
    obtain ⟨x, p, e, pos, rfl, hm⟩ := mS_asg hm
    obtain ⟨g3, h4⟩ := ba hm
    obtain ⟨g2, h3⟩ := ba g3
    obtain ⟨h1, h2⟩ := ba g2
    cases hc : isComp e with
    | false => exact ss_asg (K.w hF).1 hl (of_decide_eq_true h1) h2 (sE K m hF h3).1 (sw_plain hc _ _ _)
    | true =>
      rw [hc] at h4
      have h4 : (isLc m || isDcp m) = true := h4
      cases hlc : isLc m with
      | true => exact ss_asgLc K hF hl (of_decide_eq_true h1) h2 h3 hlc
      | false =>
        rw [hlc] at h4
        exact ss_asgDcp K hF hl (of_decide_eq_true h1) h2 h3 h4
  | .asgT is m, X, Wx, sc, st, hF, hl, ht, hm => by
    rcases mS_asgT hm with ⟨es, k, p, e, pos, rfl, hm2⟩ | hm
    · obtain ⟨g3, h4⟩ := ba hm2
      obtain ⟨g2, h3⟩ := ba g3
      obtain ⟨h1, h2⟩ := ba g2
      exact ss_asgT K hF hl h1 h2 (nb h3) h4
    · exact ss_par K hF hm
  | .setA o f m, X, Wx, sc, st, hF, hl, ht, hm => by
    obtain ⟨eo, n, p, e, pos, rfl, hm⟩ := mS_setA hm
    obtain ⟨g2, h3⟩ := ba hm
    obtain ⟨h1, h2⟩ := ba g2
    cases of_decide_eq_true h1
    exact ss_setA (K.w hF).1 (sE K o hF h2).1 (sE K m hF h3).1
  | .setI o i m, X, Wx, sc, st, hF, hl, ht, hm => by
    obtain ⟨eo, ei, p, e, pos, rfl, hm⟩ := mS_setI hm
    obtain ⟨g2, h3⟩ := ba hm
    obtain ⟨h1, h2⟩ := ba g2
    exact ss_setI (K.w hF).1 (sE K o hF h1).1 (sE K i hF h2).1 (sE K m hF h3).1
  | .app o m, X, Wx, sc, st, hF, hl, ht, hm => by
    obtain ⟨eo, n, ap, e, p, pos, rfl, hm⟩ := mS_app hm
    obtain ⟨g4, h5⟩ := ba hm
    obtain ⟨g3, h4⟩ := ba g4
    obtain ⟨g2, h3⟩ := ba g3
    obtain ⟨h1, h2⟩ := ba g2
    cases of_decide_eq_true h1
    exact ss_app (K.w hF).1 (sE K o hF h4).1 (sE K m hF h5).1 h2 h3 (mE_noStar h5)
  | .expr m, X, Wx, sc, st, hF, hl, ht, hm => by
    obtain ⟨e, pos, rfl, hm⟩ := mS_expr hm
    obtain ⟨h1, h2⟩ := ba hm
    exact ss_expr (K.w hF).1 (sE K m hF h1).1 (nb h2)
  | .ite m a b, X, Wx, sc, st, hF, hl, ht, hm => by
    obtain ⟨e, la, lb, pos, rfl, hm⟩ := mS_ite hm
    obtain ⟨g2, h3⟩ := ba hm
    obtain ⟨h1, h2⟩ := ba g2
    exact ss_ite (sE K m hF h1).2 (sSs K T a hF hl ht h2) (sSs K T b hF hl ht h3)
  | .for_ tg it b, X, Wx, sc, st, hF, hl, ht, hm => by
    obtain ⟨et, ei, lb, pos, rfl, hm⟩ := mS_for hm
    obtain ⟨g3, h4⟩ := ba hm
    obtain ⟨g2, h3⟩ := ba g3
    obtain ⟨h1, h2⟩ := ba g2
    have Y := (K.w hF).1
    exact ss_for Y (sI K it hF h1 et) (s_tg (N := N) (sc := sc) Y.y.z.nd Y.y.n Y.y.z.calm Y.y.z.k hl h2) (sSs K T b hF hl ht h3) (nb h4)
  | .ret m, X, Wx, sc, st, hF, hl, ht, hm => by
    obtain ⟨e, pos, rfl, hm⟩ := mS_ret hm
    exact ss_ret (sE K m hF hm).1
  | .retN, X, Wx, sc, st, hF, hl, ht, hm => by
    obtain ⟨pos, rfl⟩ := mS_retN hm
    exact ss_retN
  | .pas, X, Wx, sc, st, hF, hl, ht, hm => by
    obtain ⟨pos, rfl⟩ := mS_pas hm
    exact ss_pas
  | .cont, X, Wx, sc, st, hF, hl, ht, hm => by
    obtain ⟨pos, rfl⟩ := mS_cont hm
    exact ss_cont
  | .rais k es, X, Wx, sc, st, hF, hl, ht, hm => by
    obtain ⟨x, p, y, l, pos, pos', rfl, hm⟩ := mS_rais hm
    obtain ⟨g3, h4⟩ := ba hm
    obtain ⟨g2, h3⟩ := ba g3
    obtain ⟨h1, h2⟩ := ba g2
    obtain ⟨tk, hc, ek⟩ := K.x hF
    exact ss_rais (K.w hF).1 tk hc ek (of_decide_eq_true h1) h2 h3 (sEs K es hF h4).1.1 (mEs_noStar h4)
  | .tri b hs, X, Wx, sc, st, hF, hl, ht, hm => by
    obtain ⟨body, h0, hds, pos, rfl, hm⟩ := mS_tri hm
    obtain ⟨h1, h2⟩ := ba hm
    exact ss_tri T hF hl ht (K.x hF).1 (fun W pn xe tk po => sSs K T b (T.tr hF W pn xe tk po) hl ht h1) h2
  | .ior _ _, X, Wx, sc, st, hF, hl, ht, hm => by cases hm
termination_by structural m => m
theorem sSs (K : Kn I c S N F) (T : Kt I S N F) : ∀ (ms : Sts) {X : Cx} {Wx : WX} {sc : Scope} {sts : List Stmt}, F X Wx sc → LocOk X sc → TopOk X → mSs S N sc ms sts = true → PSs X sts (tSs I c S.W Wx ms)
  | .nil, X, Wx, sc, sts, hF, hl, ht, hm => by
    cases sts with
    | nil => exact sss_nil
    | cons _ _ => cases hm
  | .cons m ms, X, Wx, sc, sts, hF, hl, ht, hm => by
    cases sts with
    | nil => cases hm
    | cons st sts =>
      obtain ⟨h1, h2⟩ := ba (show (mS S N sc m st && mSs S N sc ms sts) = true from hm)
      exact sss_cons (sS K T m hF hl ht h1) (sSs K T ms hF hl ht h2)
termination_by structural m => m
end
end
end Kp
set_option autoImplicit false
set_option maxRecDepth 10000
set_option maxHeartbeats 4000000
namespace Kp
open PySem L2
theorem HRel.cutHide {W : Wd} {X : Lv} {ρ : List Addr} {h : AH} {H : Hp} (R : HRel W X ρ h H) {b n : Nat} {a : Addr} {ob : Ob} (ea : ρ[n]? = some a) (eo : h[n]? = some ob) (no : ob ≠ Ob.dead) (hn : b ≤ n) :
    HRel W (Kp.hide X a) (ρ.take b) (h.take b) H ∧ Stay (lv X ρ h) H (lv (Kp.hide X a) (ρ.take b) (h.take b)) H := by
  have tk : ∀ {α : Type} {l : List α} {n : Nat} {x : α}, (l.take b)[n]? = some x → n < b ∧ l[n]? = some x := fun {α l n x} e => by
    have z := (List.getElem?_eq_some_iff.mp e).1
    rw [List.length_take] at z
    have y : n < b := by omega
    rw [List.getElem?_take_of_lt y] at e
    exact ⟨y, e⟩
  have la : liveAt ρ h a := ⟨n, ob, ea, eo, no⟩
  have lvv : ∀ a, liveAt (ρ.take b) (h.take b) a → liveAt ρ h a := fun a ⟨m, u, e1, e2, e3⟩ => ⟨m, u, (tk e1).2, (tk e2).2, e3⟩
  have nl : ¬ liveAt (ρ.take b) (h.take b) a := fun ⟨m, u, e1, e2, e3⟩ => by
    have := R.inj m n a u ob (tk e1).2 ea (tk e2).2 e3 eo no
    have := (tk e1).1
    omega
  have s : Stay (lv X ρ h) H (lv (Kp.hide X a) (ρ.take b) (h.take b)) H := .of_lv fun x _ l => by
    rcases l with l | l | l
    · exact .inl (lvv x l)
    · exact .inr l
    · exact .inl (by rw [l]; exact la)
  obtain ⟨C1, _, _⟩ := R.cut b
  refine ⟨⟨C1.len, C1.inj, fun m x o e1 e2 => ?_, C1.lt, fun x hx => ?_⟩, s⟩
  · have q := R.ob m x o (tk e1).2 (tk e2).2
    have l := R.lt m o (tk e2).2
    have hm := (tk e1).1
    cases o with
    | lst ds =>
      obtain ⟨vs, e, q⟩ := q
      exact ⟨vs, e, (refs_take (fun k hk => Nat.lt_trans (l k hk) hm) q).mono s fun _ _ e => e⟩
    | dct ks ts => obtain ⟨kvs, e, k, d, t, q⟩ := q; exact ⟨kvs, e, k, d, t, q.stay s⟩
    | ins c ks ds =>
      obtain ⟨dx, fs, e, k, l2, q⟩ := q
      exact ⟨dx, fs, e, k, l2, (refs_take (fun k hk => Nat.lt_trans (l k hk) hm) q).mono s fun _ _ e => e⟩
    | dead => trivial
  · rcases hx with hx | hx
    · exact ⟨fun l => (R.hid x hx).1 (lvv x l), (R.hid x hx).2⟩
    · subst hx; exact ⟨nl, R.live_some la⟩
theorem HRel.back {W : Wd} {X : Lv} {ρ : List Addr} {h : AH} {H : Hp} (R : HRel W X ρ h H) {b n : Nat} {a : Addr} {ob ob' : Ob} (ea : ρ[n]? = some a) (eo : h[n]? = some ob) (no : ob ≠ Ob.dead) (hn : b ≤ n) (no' : ob' ≠ Ob.dead) (hl : ∀ k, ObLt k ob')
    (hob : ∀ (ρ' : List Addr) (L' : Lv), Stay (lv X ρ h) H L' H → ObR W ρ' L' H a ob') :
    HRel W X (ρ.take b ++ [a]) (h.take b ++ [ob']) H ∧ (ρ.take b ++ [a])[b]? = some a ∧ ∀ x, liveAt (ρ.take b ++ [a]) (h.take b ++ [ob']) x → liveAt ρ h x := by
  have la : liveAt ρ h a := ⟨n, ob, ea, eo, no⟩
  obtain ⟨C1, s1⟩ := R.cutHide ea eo no hn
  obtain ⟨_, _, c3⟩ := R.cut b
  have hb : (h.take b).length = b := by
    have := (List.getElem?_eq_some_iff.mp eo).1
    rw [List.length_take]; omega
  have st : Stay (lv (Kp.hide X a) (ρ.take b) (h.take b)) H (lv X (ρ.take b ++ [a]) (h.take b ++ [ob'])) H := .of_lv fun x _ l => by
    rcases l with l | l
    · rcases live_snoc C1 l with l | l
      · exact .inl l
      · exact .inr (.inr l)
    · exact .inr (.inl l)
  have nX : ¬ X a := fun z => (R.hid a z).1 la
  obtain ⟨R2, e2⟩ := C1.adopt (p := a) (ob := ob') (C1.hid a (.inr rfl)).1 (hl _) no' (X' := X) (fun x z => ⟨.inl z, fun e => nX (by rw [← e]; exact z)⟩) (fun x z => z.elim .inr .inl) (hob _ _ (s1.trans st)) st
  rw [hb] at e2
  refine ⟨R2, e2, fun x l => ?_⟩
  rcases live_snoc C1 l with l | l
  · exact c3 x l
  · rw [l]; exact la
theorem lives_ok {h : AH} {n : Nat} (e : lives h n = true) : ∃ o, h[n]? = some o ∧ o ≠ Ob.dead := by
  unfold lives at e
  split at e
  · cases e
  · rename_i o hn ho
    exact ⟨_, ho, fun z => hn z⟩
  · cases e
section
variable {W : Wd} {Z : Lv} {ρ ρ' : List Addr} {h h' : AH} {H H' : Hp}
theorem Ext.back {a : Addr} {ob : Ob} (R : HRel W Z ρ h H) (E : Ext ρ h H ρ' h' H') (l : ∀ x, liveAt (ρ'.take h.length ++ [a]) (h'.take h.length ++ [ob]) x → liveAt ρ' h' x) : Ext ρ h H (ρ'.take h.length ++ [a]) (h'.take h.length ++ [ob]) H' :=
  ⟨E.same, fun x e n z => E.off x e n (l x z), fun n x e => by
    have q := E.ref n x e
    have c := R.ref_lt e
    have c2 := (List.getElem?_eq_some_iff.mp q).1
    rw [List.getElem?_append_left (by rw [List.length_take]; omega), List.getElem?_take_of_lt c]; exact q⟩
end
section
variable {W : Wd} {Z : Lv} {ρ ρ' : List Addr} {h h' : AH} {H H' : Hp}
theorem Ext.cut (R : HRel W Z ρ h H) (R' : HRel W Z ρ' h' H') (E : Ext ρ h H ρ' h' H') : Ext ρ h H (ρ'.take h.length) (h'.take h.length) H' :=
  ⟨E.same, fun a e n l => E.off a e n ((R'.cut h.length).2.2 a l), fun n a e => by
    rw [List.getElem?_take_of_lt (R.ref_lt e)]; exact E.ref n a e⟩
theorem ret_ok {I : Info} {Wx : WX} {E : XK} {σ0 : L2.St} {D : Ends} {Q : VK} {live : Bool} (hW : Wx = fun cls d _ H => E cls d H) (hnx : D.nx = fun _ H' => Q .non H') (hrt : D.rt = Q) (R0 : HRel W Z ρ h H) : ∀ {r : SR},
    Post (relD W Z) W (fun cls d _ H => E cls d H) Z σ0 ρ h H Q (retS live h.length r) → PostS W Wx Z D ρ h H r
  | .nx e h', p => fun ρ' σ' H' r' E' => by
    rw [hnx]
    exact p _ .non H' (r'.hr.cut h.length).1 (E'.cut R0 r'.hr) (.t .non)
  | .ct _ _, p => p.elim
  | .no, p => p.elim
  | .ex k ks ts e h', p => fun ρ' σ' H' cls d r' E' x => by
    rw [hW]
    obtain ⟨c1, c2, c3⟩ := r'.hr.cut h.length
    obtain ⟨e1, dx, fs, e2, e3, e4, e5, e6⟩ := x
    refine p _ H' cls d c1 (E'.cut R0 r'.hr) ⟨e1, dx, fs, e2, e3, fun l => e4 (l.imp (c3 dx) id), e5, ?_⟩
    exact e6.stay c2
  | .rt d h', p => fun ρ' v H' R' E' x => by
    rw [hrt]
    obtain ⟨c1, c2, c3⟩ := R'.cut h.length
    have Ec := E'.cut R0 R'
    cases d with
    | t y =>
      cases x with
      | t x => exact p _ v H' c1 Ec (.t (x.stay c2))
    | r n =>
      have p : Post (relD W Z) W (fun cls d _ H => E cls d H) Z σ0 ρ h H Q (retV live h.length (.r n) h') := p
      unfold retV at p
      dsimp only at p
      split at p
      · rename_i hn
        cases x with
        | r ea => exact p _ _ H' c1 Ec (.r (by rw [List.getElem?_take_of_lt hn]; exact ea))
      · rename_i hn
        split at p
        · cases x with
          | r ea =>
            rename_i a
            split at p
            · rename_i ds q
              obtain ⟨vs, ha, rs⟩ := R'.ob n a _ ea q
              unfold frzsR at p
              cases q2 : frzL (frz 4) ds h' with
              | none => rw [q2] at p; exact p.elim
              | some e =>
                obtain ⟨ts, h2⟩ := e
                rw [q2] at p
                obtain ⟨R2, E2, T2, l2⟩ := frzL_ok (fun h d x h' v => frz_ok 4 h d x h' v) ds h' ts h2 _ q2 R' rs
                have p : Post (relD W Z) W (fun cls d _ H => E cls d H) Z σ0 ρ h H Q (if lives h2 n then .ok (.r h.length) (h2.take h.length ++ [.lst (ts.map .t)]) else .no) := p
                split at p
                · rename_i hlv
                  obtain ⟨ob, eo, no⟩ := lives_ok hlv
                  obtain ⟨B1, B2, B3⟩ := R2.back (b := h.length) (ob' := .lst (ts.map .t)) ea eo no (by omega) (fun z => nomatch z) (fun k m hm => by
                    obtain ⟨t, _, ht⟩ := List.mem_map.mp hm; cases ht) fun ρ2 L2 s => ⟨vs, ha, .of_ts (T2.stay s)⟩
                  exact p _ _ H' B1 (Ext.back R0 (E'.trans E2) B3) (.r B2)
                · exact p.elim
            · rename_i ks ts q
              obtain ⟨kvs, ha, k1, k2, k3, rs⟩ := R'.ob n a _ ea q
              obtain ⟨B1, B2, B3⟩ := R'.back (b := h.length) (ob' := .dct ks ts) ea q (fun z => nomatch z) (by omega) (fun z => nomatch z) (fun k => trivial) fun ρ2 L2 s => ⟨kvs, ha, k1, k2, k3, rs.stay s⟩
              exact p _ _ H' B1 (Ext.back R0 E' B3) (.r B2)
            · rename_i k ks ds q
              obtain ⟨dx, fs, ha, k1, k2, rs⟩ := R'.ob n a _ ea q
              unfold frzsR at p
              cases q2 : frzL (frz 4) ds h' with
              | none => rw [q2] at p; exact p.elim
              | some e =>
                obtain ⟨ts, h2⟩ := e
                rw [q2] at p
                obtain ⟨R2, E2, T2, l2⟩ := frzL_ok (fun h d x h' v => frz_ok 4 h d x h' v) ds h' ts h2 _ q2 R' rs
                have p : Post (relD W Z) W (fun cls d _ H => E cls d H) Z σ0 ρ h H Q (if lives h2 n then .ok (.r h.length) (h2.take h.length ++ [.ins k ks (ts.map .t)]) else .no) := p
                split at p
                · rename_i hlv
                  obtain ⟨ob, eo, no⟩ := lives_ok hlv
                  obtain ⟨B1, B2, B3⟩ := R2.back (b := h.length) (ob' := .ins k ks (ts.map .t)) ea eo no (by omega) (fun z => nomatch z) (fun k m hm => by
                    obtain ⟨t, _, ht⟩ := List.mem_map.mp hm; cases ht) fun ρ2 L2 s => ⟨dx, fs, ha, k1, k2, .of_ts (T2.stay s)⟩
                  exact p _ _ H' B1 (Ext.back R0 (E'.trans E2) B3) (.r B2)
                · exact p.elim
            · exact p.elim
        · have p : Post (relD W Z) W (fun cls d _ H => E cls d H) Z σ0 ρ h H Q ((frzR (.r n) h').bind fun x h2 => .ok (.t x) (h2.take h.length)) := p
          unfold frzR at p
          cases q : frz 4 (.r n) h' with
          | none => rw [q] at p; exact p.elim
          | some e =>
            obtain ⟨t, h2⟩ := e
            rw [q] at p
            obtain ⟨R2, E2, T2, _⟩ := frz_ok 4 h' (.r n) t h2 v q R' x
            obtain ⟨d1, d2, d3⟩ := R2.cut h.length
            exact p _ v H' d1 ((E'.trans E2).cut R0 R2) (.t (T2.stay d2))
end
end Kp
set_option autoImplicit false
set_option maxRecDepth 10000
set_option maxHeartbeats 2000000
namespace Kp
open PySem L2
section
variable {α β : Type}
theorem look_app [BEq α] {n : α} : ∀ {l m : List (α × β)}, (l ++ m).lookup n = (l.lookup n).or (m.lookup n)
  | [], m => by simp
  | (a, b) :: l, m => by
    rw [List.cons_append, List.lookup_cons, List.lookup_cons]
    cases n == a with
    | true => rfl
    | false => exact look_app
def fill [BEq α] (s : List (α × β)) (p : α × β) : List (α × β) := if (s.lookup p.1).isNone = true then s ++ [p] else s
theorem look_fill [BEq α] [LawfulBEq α] {n : α} : ∀ {l s : List (α × β)}, (l.foldl fill s).lookup n = (s.lookup n).or (l.lookup n)
  | [], s => by simp
  | (a, b) :: l, s => by
    rw [List.foldl_cons, look_fill, List.lookup_cons]
    unfold fill
    dsimp only
    cases e : s.lookup a with
    | some v =>
      rw [if_neg (by simp)]
      cases q : n == a with
      | true => rw [eq_of_beq q, e]; simp
      | false => rfl
    | none =>
      rw [if_pos (by simp), look_app, List.lookup_cons]
      cases q : n == a with
      | true => rw [eq_of_beq q, e]; simp
      | false => simp
theorem look_zip [BEq α] [LawfulBEq α] : ∀ {ps : List α} {us : List β} {i : Nat} {n : α}, ps.Nodup → ps[i]? = some n → (ps.zip us).lookup n = us[i]?
  | [], us, i, n, _, e => by simp at e
  | p :: ps, [], i, n, _, e => by simp
  | p :: ps, u :: us, 0, n, _, e => by simp at e; subst e; simp [List.lookup_cons]
  | p :: ps, u :: us, i + 1, n, nd, e => by
    have e : ps[i]? = some n := by simpa using e
    rw [List.zip_cons_cons, List.lookup_cons]
    have ne : (n == p) = false := by
      rw [beq_eq_false_iff_ne]
      intro z; subst z
      exact (List.nodup_cons.mp nd).1 (List.mem_of_getElem? e)
    rw [ne]
    simpa using look_zip (us := us) (List.nodup_cons.mp nd).2 e
theorem look_none [BEq α] [LawfulBEq α] {n : α} : ∀ {l : List (α × β)}, (∀ p ∈ l, p.1 ≠ n) → l.lookup n = none
  | [], _ => rfl
  | (a, b) :: l, h => by
    have ne : (n == a) = false := by
      rw [beq_eq_false_iff_ne]
      intro z; exact h _ (List.mem_cons_self ..) z.symm
    rw [List.lookup_cons, ne]
    exact look_none fun p hp => h p (List.mem_cons_of_mem _ hp)
theorem fm_zip [BEq α] {s : List (α × β)} : ∀ {ps : List α} {vs : List β}, ps.length = vs.length → (∀ (i : Nat) (n : α), ps[i]? = some n → s.lookup n = vs[i]?) →
    ps.filterMap (fun n => (s.lookup n).map fun x => (n, x)) = ps.zip vs
  | [], _, _, _ => by simp
  | p :: ps, [], l, _ => by simp at l
  | p :: ps, v :: vs, l, h => by
    have h0 := h 0 p rfl
    simp at h0
    rw [List.filterMap_cons, h0]
    simp only [Option.map_some, List.zip_cons_cons]
    rw [fm_zip (by simpa using l) fun i n e => by simpa using h (i + 1) n (by simpa using e)]
end
theorem kw_loop {F : Str × Value → List (Str × Value) × List (Str × Value) → Sem (ForInStep (List (Str × Value) × List (Str × Value)))} {P : Str → Prop}
    (hF : ∀ k v slots, P k → (slots.lookup k).isSome = false → F (k, v) (slots, []) = pure (.yield (slots ++ [(k, v)], []))) :
    ∀ (kw slots : List (Str × Value)), (∀ p ∈ kw, P p.1) → (kw.map (·.1)).Nodup → (∀ p ∈ kw, slots.lookup p.1 = none) → forIn kw (slots, []) F = pure (slots ++ kw, [])
  | [], slots, _, _, _ => by simp
  | (k, v) :: kw, slots, h, nd, hn => by
    rw [List.forIn_cons, hF k v slots (h _ (List.mem_cons_self ..)) (by rw [hn _ (List.mem_cons_self ..)]; rfl)]
    rw [pure_bind]
    dsimp only
    have nd' := List.nodup_cons.mp (show (k :: kw.map (·.1)).Nodup from nd)
    rw [kw_loop hF kw (slots ++ [(k, v)]) (fun p hp => h p (List.mem_cons_of_mem _ hp)) nd'.2 fun p hp => ?_]
    · simp
    · rw [look_app, hn p (List.mem_cons_of_mem _ hp)]
      have ne : (p.1 == k) = false := by
        rw [beq_eq_false_iff_ne]
        intro z
        exact nd'.1 (by rw [← z]; exact List.mem_map_of_mem hp)
      rw [List.lookup_cons, ne]; rfl
theorem ko_loop {M : Model} {hp : Heap} {G : Str → List (Str × Value) × List Str → Sem (ForInStep (List (Str × Value) × List Str))} {f : Str → Value} {P : Str → Prop}
    (h1 : ∀ n slots, (slots.lookup n).isNone = false → G n (slots, []) = pure (.yield (slots, [])))
    (h2 : ∀ n slots, (slots.lookup n).isNone = true → P n → PySem.W.Looks M hp (G n (slots, [])) (.yield (slots ++ [(n, f n)], []))) :
    ∀ (ns : List Str) (slots : List (Str × Value)), (∀ n ∈ ns, slots.lookup n = none → P n) →
      ∃ slots', PySem.W.Looks M hp (forIn ns (slots, []) G) (slots', []) ∧ ∀ n, slots'.lookup n = (slots.lookup n).or (if n ∈ ns then some (f n) else none)
  | [], slots, _ => ⟨slots, by rw [List.forIn_nil]; exact PySem.W.Looks.of_pure rfl, fun n => by simp⟩
  | m :: ns, slots, h => by
    cases e : slots.lookup m with
    | some v =>
      obtain ⟨s', a, b⟩ := ko_loop h1 h2 ns slots fun n hn => h n (List.mem_cons_of_mem _ hn)
      refine ⟨s', ?_, fun n => ?_⟩
      · rw [List.forIn_cons, h1 m slots (by rw [e]; rfl), pure_bind]
        exact a
      · rw [b n]
        by_cases c : n = m
        · subst c; rw [e]; simp
        · simp [c]
    | none =>
      obtain ⟨s', a, b⟩ := ko_loop h1 h2 ns (slots ++ [(m, f m)]) fun n hn q => h n (List.mem_cons_of_mem _ hn) (by
        rw [look_app] at q
        cases z : slots.lookup n with
        | none => rfl
        | some v => rw [z] at q; cases q)
      refine ⟨s', ?_, fun n => ?_⟩
      · rw [List.forIn_cons]
        exact (h2 m slots (by rw [e]; rfl) (h m (List.mem_cons_self ..) e)).andThen a
      · rw [b n, look_app]
        by_cases c : n = m
        · subst c; rw [e]; simp [List.lookup_cons]
        · have ne : (n == m) = false := by rw [beq_eq_false_iff_ne]; exact c
          rw [List.lookup_cons, ne]
          simp [c]
theorem bind_gen {K : PySem.W.Frag} {hp : Heap} {M : Model} {fd : FuncData} {us its vals : List Value} {kw : List (Str × Value)} {pa pk : List Str} (X : K.In hp)
    (hpa : fd.params.args.map (·.arg) = pa) (hpk : fd.params.kwonlyargs.map (·.arg) = pk) (hpo : fd.params.posonlyargs = []) (hva : fd.params.vararg = none) (hkw : fd.params.kwarg = none)
    (nd : (pa ++ pk).Nodup) (hl : vals.length = (pa ++ pk).length) (hn : us.length ≤ pa.length) (hi : its.length ≤ pa.length)
    (hdef : (fd.defaults = .none ∧ its = []) ∨ ∃ T o n, fd.defaults = .ref T ∧ K.lookup T = some o ∧ o.data = .seq its.toArray n)
    (hk1 : (kw.map (·.1)).Nodup) (hk2 : ∀ p ∈ kw, ∃ j, us.length ≤ j ∧ (pa ++ pk)[j]? = some p.1)
    (hv : ∀ (i : Nat) (n : Str) (v : Value), (pa ++ pk)[i]? = some n → vals[i]? = some v → us[i]? = some v ∨ (us.length ≤ i ∧ kw.lookup n = some v) ∨
      (us.length ≤ i ∧ kw.lookup n = none ∧ i < pa.length ∧ pa.length - its.length ≤ i ∧ its[i - (pa.length - its.length)]? = some v) ∨
      (pa.length ≤ i ∧ kw.lookup n = none ∧ ∃ D, fd.kwdefaults = .ref D ∧ PySem.W.nsIn K D n = some (some v))) :
    PySem.W.Looks M hp (bindArgs fd ⟨us, kw⟩) ((pa ++ pk).zip vals) := by
  have nda : pa.Nodup := (List.nodup_append.mp nd).1
  have iu : ∀ (i j : Nat) (n : Str), (pa ++ pk)[i]? = some n → (pa ++ pk)[j]? = some n → i = j := fun i j n a b =>
    (List.getElem?_inj (List.getElem?_eq_some_iff.mp a).1 nd).mp (a.trans b.symm)
  have ina : ∀ (i : Nat) (n : Str), pa[i]? = some n → (pa ++ pk)[i]? = some n := fun i n a => by
    rw [List.getElem?_append_left (List.getElem?_eq_some_iff.mp a).1]; exact a
  have pz : ∀ n v, (pa.zip us).lookup n = some v → ∃ i, pa[i]? = some n ∧ us[i]? = some v := fun n v e => by
    have m := PySem.mem_of_lookup e
    obtain ⟨i, hi⟩ := List.mem_iff_getElem?.mp m
    rw [List.getElem?_zip_eq_some] at hi
    exact ⟨i, hi⟩
  have kn : ∀ p ∈ kw, (pa.zip us).lookup p.1 = none := fun p hp' => by
    obtain ⟨j, h1, h2⟩ := hk2 p hp'
    cases e : (pa.zip us).lookup p.1 with
    | none => rfl
    | some v =>
      obtain ⟨i, a, b⟩ := pz _ _ e
      have := iu _ _ _ (ina _ _ a) h2
      have := (List.getElem?_eq_some_iff.mp b).1
      omega
  -- of the names' values
  have lk1 : ∀ (i : Nat) (n : Str), (pa ++ pk)[i]? = some n → (pa.zip us).lookup n = us[i]? := fun i n e => by
    by_cases c : i < pa.length
    · rw [List.getElem?_append_left c] at e
      exact look_zip nda e
    · rw [List.getElem?_eq_none (show us.length ≤ i by omega)]
      cases z : (pa.zip us).lookup n with
      | none => rfl
      | some v =>
        obtain ⟨j, a, b⟩ := pz _ _ z
        have := iu _ _ _ (ina _ _ a) e
        have := (List.getElem?_eq_some_iff.mp a).1
        omega
  obtain ⟨f, hf⟩ : ∃ f : Str → Value, ∀ (i : Nat) (n : Str), (pa ++ pk)[i]? = some n → vals[i]? = some (f n) :=
    ⟨fun n => (((pa ++ pk).zip vals).lookup n).getD .none, fun i n e => by
      show vals[i]? = some ((((pa ++ pk).zip vals).lookup n).getD .none)
      rw [look_zip nd e]
      have : i < vals.length := by rw [hl]; exact (List.getElem?_eq_some_iff.mp e).1
      rw [List.getElem?_eq_getElem this]; rfl⟩
  unfold bindArgs
  dsimp only
  rw [hpo, hva, hkw, hpa, hpk]
  dsimp only [List.map_nil, List.nil_append]
  refine (PySem.W.Looks.of_pure (kw_loop (P := fun k => (pa.contains k || pk.contains k) = true) (fun k v slots h1 h2 => ?_) kw (pa.zip us) (fun p hp' => ?_) hk1 kn)).andThen ?_
  · dsimp only
    rw [if_pos h1, h2, if_neg Bool.false_ne_true]
  · obtain ⟨j, _, h2⟩ := hk2 p hp'
    have := List.mem_of_getElem? h2
    rw [List.mem_append] at this
    rw [Bool.or_eq_true, List.contains_iff_mem, List.contains_iff_mem]
    exact this
  dsimp only
  have sd : ∃ oa, PySem.W.Looks M hp (seqItems? fd.defaults) oa ∧ (oa.getD #[]).toList = its := by
    rcases hdef with ⟨e1, e2⟩ | ⟨T, o, n, e1, e2, e3⟩
    · exact ⟨none, by rw [e1]; exact PySem.W.Looks.of_pure rfl, by rw [e2]; rfl⟩
    · refine ⟨some its.toArray, ?_, by simp⟩
      rw [e1]
      have := looks_items (k := fun x => pure x) (r := some its.toArray) (M := M) X e2 e3 (PySem.W.Looks.of_pure rfl)
      rw [bind_pure] at this
      exact this
  obtain ⟨oa, so, ho⟩ := sd
  refine so.andThen ?_
  rw [ho]
  have h1 : (decide (us.length > pa.length) && (none : Option Arg).isNone) = false := by
    have : ¬ us.length > pa.length := by omega
    simp [this]
  simp only [List.map_nil, List.nil_append]
  rw [h1, if_neg Bool.false_ne_true]
  have h2 : its.drop (its.length - pa.length) = its := by
    have : its.length - pa.length = 0 := by omega
    rw [this]; rfl
  rw [h2]
  -- nothing lacks
  have h3 : (pa.take (pa.length - its.length)).filter (fun n => ((pa.zip us ++ kw).lookup n).isNone) = [] := by
    rw [List.filter_eq_nil_iff]
    intro n hm
    obtain ⟨i, e⟩ := List.mem_iff_getElem?.mp hm
    have hlt : i < pa.length - its.length := by
      have := (List.getElem?_eq_some_iff.mp e).1
      rw [List.length_take] at this; omega
    rw [List.getElem?_take_of_lt hlt] at e
    have ea := ina _ _ e
    have hi2 : i < vals.length := by rw [hl, List.length_append]; omega
    rw [look_app, lk1 i n ea]
    rcases hv i n _ ea (List.getElem?_eq_getElem hi2) with q | ⟨_, q⟩ | ⟨_, _, _, q, _⟩ | ⟨q, _⟩
    · rw [q]; simp
    · rw [q]; cases us[i]? <;> simp
    · omega
    · omega
  rw [h3]
  dsimp only [List.isEmpty_nil]
  rw [if_neg (show ¬ ((!true) = true) from Bool.false_ne_true)]
  have h4 : forIn ((pa.drop (pa.length - its.length)).zip its) (pa.zip us ++ kw) (fun (x : Str × Value) (__s : List (Str × Value)) =>
      (if (List.lookup x.1 __s).isNone = true then pure (ForInStep.yield (__s ++ [(x.1, x.2)])) else pure (ForInStep.yield __s) : Sem (ForInStep (List (Str × Value))))) = pure (((pa.drop (pa.length - its.length)).zip its).foldl fill (pa.zip us ++ kw)) := by
    generalize (pa.drop (pa.length - its.length)).zip its = l
    generalize pa.zip us ++ kw = s
    induction l generalizing s with
    | nil => rfl
    | cons p l ih =>
      obtain ⟨a, b⟩ := p
      rw [List.forIn_cons, List.foldl_cons]
      by_cases c : (s.lookup a).isNone = true
      · dsimp only
        rw [if_pos c, pure_bind]
        dsimp only
        rw [ih]
        unfold fill; dsimp only; rw [if_pos c]
      · dsimp only
        rw [if_neg c, pure_bind]
        dsimp only
        rw [ih]
        unfold fill; dsimp only; rw [if_neg c]
  refine (PySem.W.Looks.of_pure h4).andThen ?_
  -- what is known now
  have lk2 : ∀ (i : Nat) (n : Str), (pa ++ pk)[i]? = some n → i < pa.length → (((pa.drop (pa.length - its.length)).zip its).foldl fill (pa.zip us ++ kw)).lookup n = some (f n) := fun i n e c => by
    rw [look_fill, look_app, lk1 i n e]
    have fz := hf i n e
    rcases hv i n _ e fz with q | ⟨q0, q⟩ | ⟨q0, q1, q2, q3, q4⟩ | ⟨q, _⟩
    · rw [q]; rfl
    · rw [List.getElem?_eq_none q0, q]; rfl
    · rw [List.getElem?_eq_none q0, q1]
      have ea : pa[i]? = some n := by rw [List.getElem?_append_left c] at e; exact e
      have e2 : (pa.drop (pa.length - its.length))[i - (pa.length - its.length)]? = some n := by
        rw [List.getElem?_drop]
        have : pa.length - its.length + (i - (pa.length - its.length)) = i := by omega
        rw [this]; exact ea
      rw [look_zip (nda.sublist (List.drop_sublist _ _)) e2, q4]; rfl
    · omega
  have lk3 : ∀ (i : Nat) (n : Str), (pa ++ pk)[i]? = some n → ¬ i < pa.length → (((pa.drop (pa.length - its.length)).zip its).foldl fill (pa.zip us ++ kw)).lookup n = kw.lookup n := fun i n e c => by
    rw [look_fill, look_app, lk1 i n e, List.getElem?_eq_none (show us.length ≤ i by omega)]
    have : ((pa.drop (pa.length - its.length)).zip its).lookup n = none := look_none fun p hp' z => by
      have m := (List.of_mem_zip (a := p.1) (b := p.2) hp').1
      have m2 := List.mem_of_mem_drop m
      obtain ⟨j, ej⟩ := List.mem_iff_getElem?.mp m2
      rw [z] at ej
      have := iu _ _ _ (ina _ _ ej) e
      have := (List.getElem?_eq_some_iff.mp ej).1
      omega
    rw [this]
    cases kw.lookup n <;> rfl
  obtain ⟨s', a, b⟩ := ko_loop (M := M) (hp := hp) (f := f) (P := fun n => ∃ D, fd.kwdefaults = .ref D ∧ PySem.W.nsIn K D n = some (some (f n))) (G := fun (name : Str) (__s : List (Str × Value) × List Str) =>
      if (List.lookup name __s.fst).isNone = true then
        (match fd.kwdefaults with
        | Value.ref d => do
          let dflt ← nsGet d name
          match dflt with
          | some v => pure (ForInStep.yield (__s.fst ++ [(name, v)], __s.snd))
          | none => pure (ForInStep.yield (__s.fst, __s.snd ++ [name]))
        | x => do
          let dflt ← (pure none : Sem (Option Value))
          match dflt with
          | some v => pure (ForInStep.yield (__s.fst ++ [(name, v)], __s.snd))
          | none => pure (ForInStep.yield (__s.fst, __s.snd ++ [name])))
      else pure (ForInStep.yield (__s.fst, __s.snd))) (fun n slots h => by dsimp only; rw [h, if_neg Bool.false_ne_true])
      (fun n slots h ⟨D, e1, e2⟩ => by
        dsimp only
        rw [if_pos h, e1]
        dsimp only
        exact (PySem.W.looks_nsIn X e2).andThen (PySem.W.Looks.of_pure rfl)) pk (((pa.drop (pa.length - its.length)).zip its).foldl fill (pa.zip us ++ kw)) (fun n hm hz => by
          obtain ⟨j, ej⟩ := List.mem_iff_getElem?.mp hm
          have e : (pa ++ pk)[pa.length + j]? = some n := by rw [List.getElem?_append_right (by omega)]; simpa using ej
          rw [lk3 _ n e (by omega)] at hz
          rcases hv _ n _ e (hf _ n e) with q | ⟨q0, q⟩ | ⟨q0, q1, q2, q3, q4⟩ | ⟨q, _, D, z1, z2⟩
          · have := (List.getElem?_eq_some_iff.mp q).1; omega
          · rw [q] at hz; cases hz
          · omega
          · exact ⟨D, z1, z2⟩)
  refine a.andThen ?_
  dsimp only [List.isEmpty_nil]
  rw [if_neg (show ¬ ((!true) = true) from Bool.false_ne_true)]
  refine PySem.W.Looks.of_pure ?_
  rw [fm_zip hl.symm fun i n e => ?_]
  rw [b n, hf i n e]
  by_cases c : i < pa.length
  · rw [lk2 i n e c]; rfl
  · rw [lk3 i n e c]
    have hm : n ∈ pk := by
      rw [List.getElem?_append_right (by omega)] at e
      exact List.mem_of_getElem? e
    rw [if_pos hm]
    rcases hv i n _ e (hf i n e) with q | ⟨q0, q⟩ | ⟨q0, q1, q2, q3, q4⟩ | ⟨q, q1, D, z1, z2⟩
    · have := (List.getElem?_eq_some_iff.mp q).1; omega
    · rw [q]; rfl
    · omega
    · rw [q1]; rfl
end Kp
set_option autoImplicit false
set_option maxRecDepth 10000
set_option maxHeartbeats 4000000
namespace Kp
open PySem L2
structure DfD where
  N : List Str
  name : Str
  qual : Str
  params : Arguments
  body : List Stmt
  scope : Scope
  dvs : List V
  kws : List (Str × V)
  fdata : FuncData
structure Df (I : Info) (S : NS) (f : Nat) (fd : Fn) (d : DfD) : Prop where
  fun_ : FunD S.W.K d.name d.qual d.params d.body d.scope d.dvs d.kws (S.W.fa f) d.fdata
  scp : FnScope d.N (S.psn f) d.scope
  nlen : d.N.length = fd.ns
  plen : (S.psn f).length = fd.np
  ms : mSs S d.N d.scope fd.body d.body = true
  psn : S.psn f = d.params.args.map (·.arg) ++ d.params.kwonlyargs.map (·.arg)
  po : d.params.posonlyargs = []
  va : d.params.vararg = none
  ka : d.params.kwarg = none
  dl : d.dvs.length ≤ d.params.args.length
  dfl : ∀ p t, I.dflt f p = some t → p < fd.np → (p < d.params.args.length ∧ d.params.args.length - d.dvs.length ≤ p ∧ ∃ v, d.dvs[p - (d.params.args.length - d.dvs.length)]? = some v ∧ ∀ L H, RepT S.W L H v t) ∨
    (d.params.args.length ≤ p ∧ ∃ x v, (S.psn f)[p]? = some x ∧ (x, v) ∈ d.kws ∧ ∀ L H, RepT S.W L H v t)
section
variable {I : Info} {S : NS} {f : Nat} {fd : Fn} {d : DfD}
theorem lk_some {kns : List Nat} {ks : List D} {p : Nat} {e : D} : lk kns ks p = some e → ∃ j : Nat, kns[j]? = some p ∧ ks[j]? = some e := by
  induction kns generalizing ks with
  | nil => intro h; cases h
  | cons k kns ih =>
    cases ks with
    | nil => intro h; cases h
    | cons y ks =>
      intro h
      have h : (if k = p then some y else lk kns ks p) = some e := h
      split at h
      · rename_i q; cases h; exact ⟨0, by rw [q]; rfl, rfl⟩
      · obtain ⟨j, a, b⟩ := ih h; exact ⟨j + 1, a, b⟩
theorem lk_nothing {kns : List Nat} {ks : List D} {p : Nat} (l : kns.length = ks.length) : lk kns ks p = none → p ∉ kns := by
  induction kns generalizing ks with
  | nil => intro _ h; cases h
  | cons k kns ih =>
    cases ks with
    | nil => cases l
    | cons y ks =>
      intro h hm
      have h : (if k = p then some y else lk kns ks p) = none := h
      split at h
      · cases h
      · rename_i q
        rcases List.mem_cons.mp hm with z | z
        · exact q z.symm
        · exact ih (by simpa using l) h z
def Src (I : Info) (S : NS) (f : Nat) (d : DfD) (its : List Value) (kV : Value) (kns : List Nat) (ws : List Value) (p : Nat) (v : Value) : Prop :=
  (∃ j : Nat, kns[j]? = some p ∧ ws[j]? = some v) ∨ (p ∉ kns ∧ p < d.params.args.length ∧ d.params.args.length - its.length ≤ p ∧ its[p - (d.params.args.length - its.length)]? = some v) ∨
    (p ∉ kns ∧ d.params.args.length ≤ p ∧ ∃ x D, (S.psn f)[p]? = some x ∧ kV = .ref D ∧ PySem.W.nsIn S.W.K D x = some (some v))
theorem arr_ok (F : Df I S f fd d) {Z : Lv} {ρ : List Addr} {h : AH} {H : Hp} {kns : List Nat} {ks : List D} {zs : List V} {ws its : List Value} {kV : Value} (lks : kns.length = ks.length) (rz : RDs S.W Z ρ h H zs ks) (vz : Vals zs ws)
    (rT : Vals d.dvs its) (rK : KwdV S.W.K kV d.kws) : ∀ (n p : Nat) (es : List D), arrD I f kns ks p n = some es → p + n = fd.np →
    ∃ (vsE : List V) (wsE : List Value), Vals vsE wsE ∧ RDs S.W Z ρ h H vsE es ∧ wsE.length = n ∧ ∀ i v, wsE[i]? = some v → Src I S f d its kV kns ws (p + i) v
  | 0, p, es, e, l => by
    cases e
    exact ⟨[], [], .nil, .nil, rfl, fun i v z => by simp at z⟩
  | n + 1, p, es, e, l => by
    unfold arrD at e
    split at e
    · rename_i dd ds e1 e2
      cases e
      obtain ⟨vsE, wsE, a1, a2, a3, a4⟩ := arr_ok F lks rz vz rT rK n (p + 1) ds e2 (by omega)
      have one : ∃ v u, RelV v u ∧ RD S.W Z ρ h H v dd ∧ Src I S f d its kV kns ws p u := by
        split at e1
        · rename_i y q
          cases e1
          obtain ⟨j, b1, b2⟩ := lk_some q
          obtain ⟨v, c1, c2⟩ := rz.get b2
          obtain ⟨u, c3, c4⟩ := vz.get c1
          exact ⟨v, u, c4, c2, .inl ⟨j, b1, c3⟩⟩
        · rename_i q
          obtain ⟨t, q1, rfl⟩ := Option.map_eq_some_iff.mp e1
          have nk := lk_nothing lks q
          rcases F.dfl p t q1 (by omega) with ⟨b1, b2, v, b3, b4⟩ | ⟨b1, x, v, b2, b3, b4⟩
          · obtain ⟨u, c3, c4⟩ := rT.get b3
            rw [rT.length] at b2 c3
            exact ⟨v, u, c4, .t (b4 _ _), .inr (.inl ⟨nk, b1, b2, c3⟩)⟩
          · rcases rK with z | ⟨D, z1, z2⟩
            · rw [z] at b3; cases b3
            · obtain ⟨u, c3, c4⟩ := z2 _ b3
              exact ⟨v, u, c4, .t (b4 _ _), .inr (.inr ⟨nk, b1, x, D, b2, z1, c3⟩)⟩
      obtain ⟨v, u, o1, o2, o3⟩ := one
      refine ⟨v :: vsE, u :: wsE, .cons o1 a1, .cons o2 a2, congrArg Nat.succ a3, fun i w hw => ?_⟩
      cases i with
      | zero => cases hw; exact o3
      | succ i =>
        have := a4 i w (by simpa using hw)
        rw [show p + (i + 1) = p + 1 + i by omega]
        exact this
    · cases e
theorem df_bind (F : Df I S f fd d) {Z : Lv} {ρ : List Addr} {h : AH} {H : Hp} {ds ks es : List D} {vs zs : List V} {us ws : List Value} {kns : List Nat} {xs : List Str} (r : RDs S.W Z ρ h H vs ds) (rz : RDs S.W Z ρ h H zs ks) (v : Vals vs us) (vz : Vals zs ws)
    (hx : kns.map (fun n => (S.psn f)[n]?) = xs.map some) (lks : kns.length = ks.length) (nk : kns.Nodup) (gk : ∀ n ∈ kns, ds.length ≤ n) (hlt : ds.length ≤ d.params.args.length) (e : arrD I f kns ks ds.length (fd.np - ds.length) = some es) :
    ∃ (vsA : List V) (wsA : List Value), Vals vsA wsA ∧ RDs S.W Z ρ h H vsA (ds ++ es) ∧ vsA.length = (S.psn f).length ∧ ∀ s : Shared, S.W.K.In s.heap → BindsTo s d.fdata ⟨us, xs.zip ws⟩ ((S.psn f).zip wsA) := by
  obtain ⟨oc, od, dV, kV, doc, pm, an, cdv, ct, osl, efd, lk0, hcd, hD, hK⟩ := F.fun_.ex
  have lps : (S.psn f).length = fd.np := F.plen
  have lpa : (d.params.args.map (·.arg)).length = d.params.args.length := by simp
  have hnp : d.params.args.length ≤ fd.np := by rw [← lps, F.psn, List.length_append, lpa]; omega
  have l1 : us.length = ds.length := v.length.symm.trans r.length
  have l2 : ws.length = ks.length := vz.length.symm.trans rz.length
  obtain ⟨its, rT, hdef⟩ : ∃ its, Vals d.dvs its ∧ ((dV = .none ∧ its = []) ∨ ∃ T o n, dV = .ref T ∧ S.W.K.lookup T = some o ∧ o.data = .seq its.toArray n) := by
    rcases hD with ⟨e1, e2⟩ | ⟨_, T, o, its, n, e1, e2, e3, e4⟩
    · exact ⟨[], by rw [e1]; exact .nil, .inl ⟨e2, rfl⟩⟩
    · exact ⟨its, e4, .inr ⟨T, o, n, e1, e2, e3⟩⟩
  obtain ⟨vsE, wsE, a1, a2, a3, a4⟩ := arr_ok F lks rz vz rT hK (fd.np - ds.length) ds.length es e (by omega)
  have ndp : (S.psn f).Nodup := by rw [← F.scp.pre]; exact F.scp.nd.sublist (List.take_sublist _ _)
  have gx : ∀ (j n : Nat), kns[j]? = some n → ∃ x, xs[j]? = some x ∧ (S.psn f)[n]? = some x := fun j n e1 => by
    have : (kns.map (fun n => (S.psn f)[n]?))[j]? = (xs.map some)[j]? := by rw [hx]
    rw [List.getElem?_map, List.getElem?_map, e1] at this
    cases q : xs[j]? with
    | none => rw [q] at this; cases this
    | some x => rw [q] at this; exact ⟨x, rfl, by simpa using this⟩
  have lx : xs.length = kns.length := by have := congrArg List.length hx; simpa using this.symm
  have gx2 : ∀ (j : Nat) (x : Str), xs[j]? = some x → ∃ n, kns[j]? = some n ∧ (S.psn f)[n]? = some x := fun j x e1 => by
    have hj : j < kns.length := by rw [← lx]; exact (List.getElem?_eq_some_iff.mp e1).1
    obtain ⟨y, b1, b2⟩ := gx j kns[j] (List.getElem?_eq_getElem hj)
    rw [e1] at b1; cases b1
    exact ⟨_, List.getElem?_eq_getElem hj, b2⟩
  have ndx : xs.Nodup := by
    refine List.pairwise_iff_getElem.mpr fun i j hi hj hij z => ?_
    obtain ⟨n, b1, b2⟩ := gx2 i _ (List.getElem?_eq_getElem hi)
    obtain ⟨m, c1, c2⟩ := gx2 j _ (List.getElem?_eq_getElem hj)
    rw [z] at b2
    have : n = m := (List.getElem?_inj (List.getElem?_eq_some_iff.mp b2).1 ndp).mp (b2.trans c2.symm)
    subst this
    have := (List.getElem?_inj (List.getElem?_eq_some_iff.mp b1).1 nk).mp (b1.trans c1.symm)
    omega
  have lxw : xs.length = ws.length := by rw [lx, lks, l2]
  refine ⟨vs ++ vsE, us ++ wsE, v.append a1, r.append a2, ?_, fun s X => BindsTo.of_looks fun M => ?_⟩
  · rw [List.length_append, a1.length, a3, lps, r.length]; omega
  rw [F.psn, efd]
  have nth : ∀ (i : Nat), ((us ++ wsE)[i]? = if i < us.length then us[i]? else wsE[i - us.length]?) := fun i => by
    split
    · rename_i c; rw [List.getElem?_append_left c]
    · rename_i c; rw [List.getElem?_append_right (by omega)]
  refine bind_gen (its := its) X rfl rfl F.po F.va F.ka (F.psn ▸ ndp) ?_ (by rw [lpa, l1]; exact hlt) (by rw [lpa, ← rT.length]; exact F.dl) hdef ?_ (fun p hp => ?_) (fun i n w e1 e2 => ?_)
  · rw [← F.psn, List.length_append, a3, lps, l1]; omega
  · rw [List.map_fst_zip (by omega)]; exact ndx
  · have m := (List.of_mem_zip (a := p.1) (b := p.2) hp).1
    obtain ⟨j, ej⟩ := List.mem_iff_getElem?.mp m
    obtain ⟨n, b1, b2⟩ := gx2 j _ ej
    exact ⟨n, by rw [l1]; exact gk n (List.mem_of_getElem? b1), by rw [← F.psn]; exact b2⟩
  · rw [← F.psn] at e1
    rw [nth] at e2
    split at e2
    · exact .inl e2
    · rename_i c
      have src := a4 _ _ e2
      have hi : ds.length + (i - us.length) = i := by omega
      rw [hi] at src
      have kwl : ∀ j, xs[j]? = some n → (xs.zip ws).lookup n = ws[j]? := fun j ej => look_zip ndx ej
      have kwn : i ∉ kns → (xs.zip ws).lookup n = none := fun hni => look_none fun p hp z => by
        have m := (List.of_mem_zip (a := p.1) (b := p.2) hp).1
        rw [z] at m
        obtain ⟨j, ej⟩ := List.mem_iff_getElem?.mp m
        obtain ⟨k, b1, b2⟩ := gx2 j _ ej
        have : k = i := (List.getElem?_inj (List.getElem?_eq_some_iff.mp b2).1 ndp).mp (b2.trans e1.symm)
        subst this
        exact hni (List.mem_of_getElem? b1)
      rcases src with ⟨j, b1, b2⟩ | ⟨b0, b1, b2, b3⟩ | ⟨b0, b1, x, D, b2, b3, b4⟩
      · obtain ⟨x, c1, c2⟩ := gx j i b1
        rw [e1] at c2; cases c2
        exact .inr (.inl ⟨by omega, by rw [kwl j c1]; exact b2⟩)
      · exact .inr (.inr (.inl ⟨by omega, kwn b0, by rw [lpa]; exact b1, by rw [lpa]; exact b2, by rw [lpa]; exact b3⟩))
      · rw [e1] at b2; cases b2
        exact .inr (.inr (.inr ⟨by rw [lpa]; exact b1, kwn b0, D, b3, b4⟩))
end
end Kp
set_option autoImplicit false
set_option maxRecDepth 10000
set_option maxHeartbeats 4000000
namespace Kp
open PySem L2
structure Prg (P : Program) (w : World) (mg : Str → Option Value) (I : Info) (S : NS) : Prop where
  fac : Facts I S.W
  glo : ∀ i x, S.gnm i = some x → ∃ v u, mg x = some u ∧ RelV v u ∧ ∀ L H, RepT S.W L H v (I.gcon i)
  blt : ∀ x ∈ bltNames, mg x = none
  blt2 : mg ("iter" : Str) = none
  fnk : ∀ f x, S.fnn f = some x → mg x = some (.ref (S.W.fa f)) ∧ PySem.W.keepIn S.W.K (.ref (S.W.fa f)) = true
  cnk : ∀ k x, S.cnm k = some x → mg x = some (.ref (S.W.ca k)) ∧ PySem.W.keepIn S.W.K (.ref (S.W.ca k)) = true
  isic : ∀ k x, S.cnm k = some x → IsiC S.W.K (S.W.ca k)
  iterf : ∀ k f, I.iter k = some f → I.fld k f = true
  df : ∀ f fd, I.tbl f = some fd → ∃ d, Df I S f fd d ∧ d.params.args.length = fd.po
  dun : ∀ f fd, S.W.dun f = true → I.tbl f = some fd → fd.np = fd.po
  kwp : ∀ k kns, S.kwp k kns = true → kns.Nodup ∧ ∀ n ∈ kns, k ≤ n
  stk : ∀ f x n, S.stn f = some (x, n) → StM S.W.K mg x n (S.W.fa f)
  mpk : ∀ k m f, I.meth k m = some f → S.mps m = [] ∨ S.mps m = S.psn f
  ipk : ∀ k f, I.init k = some f → S.ips k = S.psn f
  mks : ∀ k f, I.init k = some f → Mk S.W.K (S.W.ca k) (S.W.fa f)
  prop : ∀ k f g, I.prop k f = some g → S.W.dun g = true ∧ Cls S.W.K (S.W.ca k) ∧ ∃ p, PropOf S.W.K (S.W.ca k) (S.W.fnm f) p (S.W.fa g)
theorem Post.slot {α β : Type} {rel : Rel α β} {W : Wd} {Wx : WX} {Z : Lv} {σ : L2.St} {ρ : List Addr} {h : AH} {H : Hp} {Q : β → Hp → Prop} : ∀ {r : R α}, Post rel W Wx Z σ ρ h H Q r → Post rel W (fun cls d _ H' => WE Wx σ cls d H') Z [] ρ h H Q r
  | .ok _ _, p => p
  | .ex _ _ _ _, p => p
  | .no, p => p
theorem Post.ofNo {α β : Type} {rel : Rel α β} {W : Wd} {Wx Wx' : WX} {Z : Lv} {σ σ' : L2.St} {ρ : List Addr} {h : AH} {H : Hp} {Q : β → Hp → Prop} : ∀ {r : R α}, Post rel W Wx Z σ ρ h H Q (noEx r) → Post rel W Wx' Z σ' ρ h H Q r
  | .ok _ _, p => p
  | .ex _ _ _ _, p => p.elim
  | .no, p => p
def spF (I : Info) (S : NS) (n f : Nat) : Sp := fun vs H Q E => vs.length = (S.psn f).length ∧ ∃ Z ρ h ds, HRel S.W Z ρ h H ∧ RDs S.W Z ρ h H vs ds ∧ Post (relD S.W Z) S.W (fun cls d _ H' => E cls d H') Z [] ρ h H Q (callN I n f ds h)
structure Fam (P : Program) (w : World) (S : NS) (mg : Str → Option Value) (base : Heap) (N : List Str) (n : Nat) (X : Cx) (Wx : WX) (sc : Scope) : Prop where
  prog : X.prog = P
  w : X.w = w
  K : X.K = S.W.K
  mg : X.mg = mg
  base : X.base = base
  N : X.N = N
  nd : X.N.Nodup
  calm : X.calm = true
  room : Room (2 * n + 6) X.A
  tk : Takes X Wx
  po : PassesOwn (model X.prog X.w) X.A X.env X.xe
  sc : X.env.scope = sc
def AllOk (P : Program) (w : World) (mg : Str → Option Value) (base : Heap) (I : Info) (S : NS) (n : Nat) : Prop :=
  ∀ f fd d, I.tbl f = some fd → Df I S f fd d → FnOk P w S.W.K mg base (L2.CX P w) (2 * n + 5) (S.W.fa f) d.fdata (S.psn f) (spF I S n f)
section
variable {P : Program} {w : World} {mg : Str → Option Value} {base : Heap} {I : Info} {S : NS} {n : Nat} {N : List Str} {X : Cx} {Wx : WX} {sc : Scope}
theorem call_no {f : Nat} {ds : List D} {h : AH} (e : I.tbl f = none) : callN I n f ds h = .no := by
  cases n with
  | zero => rfl
  | succ n => unfold callN; rw [e]
theorem call_len {f : Nat} {ds : List D} {h : AH} {fd : Fn} (e : I.tbl f = some fd) (l : ds.length ≠ fd.np) : callN I n f ds h = .no := by
  cases n with
  | zero => rfl
  | succ n =>
    unfold callN; rw [e]
    show (if ds.length = fd.np then _ else R.no) = _
    rw [if_neg l]
theorem run_at {pins : List (Addr × Obj)} {σ : L2.St} {H : Hp} {s : Shared} {Q : VK} {us wsA : List Value} {kw : List (Str × Value)} {vsA : List V} {k : Nat} {f : Addr} {fd : FuncData} {ps : List Str} {sp : Sp} {A : Around}
    (F : FnOk X.prog X.w X.K X.mg X.base (L2.CX X.prog X.w) k f fd ps sp) (hr : Room k A) (e0 : Env0 X.prog X.w X.K X.mg X.base A X.stack s H) (tk : Takes X Wx) (hb : BindsTo s fd ⟨us, kw⟩ (ps.zip wsA)) (J : Inv X pins σ H s) (r : Vals vsA wsA) (h : sp vsA H Q (WE Wx σ)) :
    wpAny (model X.prog X.w) A (call (.ref f) us kw) (EP X pins σ Q) X.xe s := by
  refine wpAny_call (codeAny_mono (F.run A X.stack s H ⟨us, kw⟩ wsA vsA Q (WE Wx σ) hr e0 hb r h) fun r s' hq => ?_)
  cases r with
  | error e => exact passAt tk σ pins H s e s' J hq
  | ok fl =>
    cases fl with
    | ret u => exact J.after hq
    | next => exact False.elim hq
    | brk => exact False.elim hq
    | cont => exact False.elim hq
theorem callV_ok (G : Prg P w mg I S) (A0 : AllOk P w mg base I S n) (M : Fam P w S mg base N n X Wx sc) {A : Around} (hr : Room (2 * n + 5) A) (he : ∀ {s : Shared} {H : Hp}, Env0 X.prog X.w X.K X.mg X.base X.A X.stack s H → Env0 X.prog X.w X.K X.mg X.base A X.stack s H) : CallV X A (callN I n) S.W Wx := by
  intro f pins s σ Z ρ h H vs ds us Q J R0 r v hd p
  cases e : I.tbl f with
  | none => rw [call_no e] at p; exact p.elim
  | some fd =>
    by_cases l : ds.length = fd.np
    · obtain ⟨d, D1, D2⟩ := G.df f fd e
      obtain ⟨vsA, wsA, b1, b2, b3, b4⟩ := df_bind (kns := []) (ks := []) (zs := []) (ws := []) (xs := []) (es := []) D1 r .nil v .nil rfl rfl .nil (fun _ h => by cases h) (by rw [D2, ← G.dun f fd hd e, l]; exact Nat.le_refl _) (by rw [l, Nat.sub_self]; rfl)
      rw [List.append_nil] at b2
      have FO := A0 f fd d e D1
      rw [← M.prog, ← M.w, ← M.mg, ← M.base, ← M.K] at FO
      exact run_at FO hr (he J.env0) M.tk (b4 s (by rw [← M.K]; exact J.kIn)) J b1 ⟨b3, Z, ρ, h, ds, R0, b2, p.slot⟩
    · rw [call_len e l] at p; exact p.elim
theorem callD_run (G : Prg P w mg I S) (A0 : AllOk P w mg base I S n) (M : Fam P w S mg base N n X Wx sc) : CallK X I (callN I n) S Wx := by
  intro f pins s σ Z ρ h H vs zs ds ks us ws kns xs Q J R0 r rz v vz hk hx lk p
  unfold callD at p
  cases e : I.tbl f with
  | none => rw [e] at p; exact p.elim
  | some fd =>
    rw [e] at p
    dsimp only at p
    split at p
    · rename_i hpo
      cases e2 : arrD I f kns ks ds.length (fd.np - ds.length) with
      | none => rw [e2] at p; exact p.elim
      | some es =>
        rw [e2] at p
        dsimp only at p
        obtain ⟨d, D1, D2⟩ := G.df f fd e
        have nk : kns.Nodup ∧ ∀ n ∈ kns, ds.length ≤ n := by
          rcases hk with hk | hk
          · rw [hk]; exact ⟨.nil, fun _ h => by cases h⟩
          · exact G.kwp _ _ hk
        obtain ⟨vsA, wsA, b1, b2, b3, b4⟩ := df_bind D1 r rz v vz hx lk nk.1 nk.2 (by rw [D2]; exact hpo) e2
        have FO := A0 f fd d e D1
        rw [← M.prog, ← M.w, ← M.mg, ← M.base, ← M.K] at FO
        exact run_at FO (M.room.mono (by omega)) J.env0 M.tk (b4 s (by rw [← M.K]; exact J.kIn)) J b1 ⟨b3, Z, ρ, h, _, R0, b2, p.slot⟩
    · exact p.elim
theorem newK_ok (G : Prg P w mg I S) (A0 : AllOk P w mg base I S n) (M : Fam P w S mg base N n X Wx sc) : NewK X I (callN I n) S Wx := by
  intro k pins s σ Z ρ h H vs zs ds ks us ws kns xs Q J R0 r rz v vz hk hx lk p
  unfold newD at p
  cases e0 : I.init k with
  | none => rw [e0] at p; exact p.elim
  | some f =>
    rw [e0] at p
    rw [G.ipk k f e0] at hx
    have nk : kns.Nodup ∧ ∀ n ∈ kns, ds.length + 1 ≤ n := by
      rcases hk with hk | hk
      · rw [hk]; exact ⟨.nil, fun _ h => by cases h⟩
      · exact G.kwp _ _ hk
    dsimp only at p
    cases e : I.tbl f with
    | none =>
      unfold callD at p
      rw [e] at p; exact p.elim
    | some fd =>
      obtain ⟨d, D1, D2⟩ := G.df f fd e
      have MK : Mk X.K (S.W.ca k) (S.W.fa f) := M.K ▸ G.mks k f e0
      have J2 := Inv.made (C := S.W.ca k) J
      have fx : H (s.heap.objs.size + 1) = none := J.hok.fresh (Nat.le_succ _)
      have fd0 : H s.heap.objs.size = none := J.hok.fresh (Nat.le_refl _)
      have ne : s.heap.objs.size + 1 ≠ s.heap.objs.size := Nat.succ_ne_self _
      obtain ⟨R1, E1⟩ := R0.new (o := .own (s.heap.objs.size + 1)) fd0
      obtain ⟨R2, E2, e2⟩ := R1.alloc (p := s.heap.objs.size + 1) (o := .ins (S.W.ca k) s.heap.objs.size []) (ob := .ins k [] []) (by rw [upd_ne ne]; exact fx) (fun m hm => by cases hm) (fun z => nomatch z)
        fun L' st => ⟨s.heap.objs.size, [], upd_same, rfl, (fun f hf => by cases hf), .nil⟩
      have E12 := E1.trans E2
      have lr := (List.getElem?_eq_some_iff.mp e2).1
      unfold callD at p
      rw [e] at p
      dsimp only at p
      split at p
      · rename_i hpo
        cases e3 : arrD I f kns ks (D.r h.length :: ds).length (fd.np - (D.r h.length :: ds).length) with
        | none => rw [e3] at p; exact p.elim
        | some es =>
          rw [e3] at p
          dsimp only at p
          have rr : RDs S.W Z (ρ ++ [s.heap.objs.size + 1]) (h ++ [.ins k [] []]) _ (V.ref (s.heap.objs.size + 1) :: vs) (D.r h.length :: ds) := .cons (.r e2) (r.ext E12)
          obtain ⟨vsA, wsA, b1, b2, b3, b4⟩ := df_bind D1 rr (rz.ext E12) (us := Value.ref (s.heap.objs.size + 1) :: us) (.cons rfl v) vz hx lk nk.1 nk.2 (by rw [D2]; exact hpo) e3
          have FO := A0 f fd d e D1
          rw [← M.prog, ← M.w, ← M.mg, ← M.base, ← M.K] at FO
          have q : Post (relD S.W Z) S.W Wx Z σ (ρ ++ [s.heap.objs.size + 1]) (h ++ [.ins k [] []]) _ (fun v H2 => v = .non ∧ Q (.ref (s.heap.objs.size + 1)) H2) (callN I n f (D.r h.length :: ds ++ es) (h ++ [.ins k [] []])) :=
            (Post.from E12 p).bind fun a h' ρ' z H' em R' E' x _ => by
              have p4 := p
              rw [em] at p4
              have p5 : Post (relD S.W Z) S.W Wx Z σ ρ h H Q (if isN a then (if I.liveC k then .ok (.r h.length) h' else (frzR (.r h.length) h').bind fun x h'' => .ok (.t x) (h''.take h.length)) else .no) := p4
              clear p4
              split at p5
              · rename_i hn
                have : a = .t .non := by cases a with
                  | t y => cases y <;> first | rfl | cases hn
                  | r m => cases hn
                subst this
                refine ⟨x.non, ?_⟩
                have ex : ρ'[h.length]? = some (s.heap.objs.size + 1) := E'.ref _ _ e2
                split at p5
                · exact p5 _ _ H' R' (E12.trans E') (.r ex)
                · unfold frzR at p5
                  cases q : frz 4 (.r h.length) h' with
                  | none => rw [q] at p5; exact p5.elim
                  | some e =>
                    obtain ⟨t, h2⟩ := e
                    rw [q] at p5
                    obtain ⟨R3, E3, T3, _⟩ := frz_ok 4 h' (.r h.length) t h2 _ q R' (.r ex)
                    obtain ⟨d1, d2, d3⟩ := R3.cut h.length
                    exact p5 _ _ H' d1 ((E12.trans (E'.trans E3)).cut R0 R3) (.t (T3.stay d2))
              · exact p5.elim
          refine wpAny_call (make_map (f := S.W.fa f) J.kIn MK.makes MK.init (beq_iff_eq.mp MK.fn) (codeAny_mono (FO.run _ X.stack _ _ ⟨Value.ref (s.heap.objs.size + 1) :: us, xs.zip ws⟩ wsA vsA _ (WE Wx σ) ((M.room.mono (by omega)).make (S.W.ca k) us (xs.zip ws))
            (J2.env0.make (S.W.ca k) us (xs.zip ws)) (b4 _ (by rw [← M.K]; exact J2.kIn)) b1 ⟨b3, Z, _, _, _, R2, b2, q.slot⟩) fun r s' hq' => ?_))
          cases r with
          | error e => exact passAt M.tk σ pins _ _ e s' J2 hq'
          | ok fl =>
            cases fl with
            | ret u =>
              obtain ⟨v, H', I3, rv, ev, q3⟩ := J2.after hq'
              subst ev
              exact ⟨rv, ⟨V.ref (s.heap.objs.size + 1), H', I3, rfl, q3⟩⟩
            | next => exact False.elim hq'
            | brk => exact False.elim hq'
            | cont => exact False.elim hq'
      · exact p.elim
theorem propK_ok (G : Prg P w mg I S) (A0 : AllOk P w mg base I S n) (M : Fam P w S mg base N n X Wx sc) : PropK X I (callN I n) S Wx := by
  intro k f g pins s σ Z ρ h H a dx fs d Q eg J R0 ha r p
  obtain ⟨hdun, hcl, pp, hp⟩ := G.prop k f g eg
  rw [← M.K] at hcl hp
  cases e : I.tbl g with
  | none => rw [call_no e] at p; exact p.elim
  | some fd =>
    by_cases l : [d].length = fd.np
    · obtain ⟨dd, D1, D2⟩ := G.df g fd e
      obtain ⟨vsA, wsA, b1, b2, b3, b4⟩ := df_bind (kns := []) (ks := []) (zs := []) (ws := []) (xs := []) (es := []) D1 (.cons r .nil) .nil (us := [Value.ref a]) (.cons rfl .nil) .nil rfl rfl .nil (fun _ h => by cases h) (by rw [D2, ← G.dun g fd hdun e, l]; exact Nat.le_refl _) (by rw [l, Nat.sub_self]; rfl)
      rw [List.append_nil] at b2
      have FO := A0 g fd dd e D1
      rw [← M.prog, ← M.w, ← M.mg, ← M.base, ← M.K] at FO
      obtain ⟨mA, O, _⟩ := ins_get J.hok ha
      obtain ⟨od, J1, _⟩ := O.look
      obtain ⟨rest, hrec⟩ := hp.rec_
      have I1 := J.tok (s.toks + 1)
      have hc : (PySem.W.clsIn X.K (S.W.ca k)).isSome = true := by
        obtain ⟨cd, hc, _⟩ := PySem.W.any_some hcl.hd
        rw [hc]; rfl
      refine PySem.W.get_bind J.kIn J1 (PySem.W.plainGet_of (hcl.get (S.W.fnm f))).1 (PySem.W.findObj_data hc hp.at_ hp.get hp.tak) (PySem.W.plainGet_of (hcl.get (S.W.fnm f))).2 (wpAny_call (PySem.W.prop_get (s := { s with toks := s.toks + 1 }) J.kIn hrec ?_))
      refine codeAny_mono (FO.run X.A.in1 X.stack { s with toks := s.toks + 1 } H ⟨[.ref a], []⟩ wsA vsA Q (fun _ _ _ => False) (M.room.in1) I1.env0.in1 (b4 _ (by rw [← M.K]; exact I1.kIn)) b1 ⟨b3, Z, ρ, h, _, R0, b2, (Post.ofNo p)⟩) fun r s' hq => ?_
      cases r with
      | error er =>
        obtain ⟨_, _, _, _, _, _, _, _, _, _, _, _, z⟩ := hq
        exact z.elim
      | ok fl =>
        cases fl with
        | ret u =>
          obtain ⟨v, H', I3, rv, q3⟩ := I1.after hq
          show wpAny _ _ (handedOut u) _ _ _
          rw [PySem.W.handedOut_of (handed_of rv)]
          exact wpAny_pure ⟨v, H', I3, rv, q3⟩
        | next => exact False.elim hq
        | brk => exact False.elim hq
        | cont => exact False.elim hq
    · rw [call_len e l] at p; exact p.elim
end
end Kp
set_option autoImplicit false
set_option maxRecDepth 10000
set_option maxHeartbeats 4000000
namespace Kp
open PySem L2
open PySem.W (ksEnv ksFn)
def restB (N fs : List Str) (rest : List Stmt) : Bool := match N, fs, rest with
  | [s, x], [f], [.Assign [.Attribute (.Name s' _) f' _] (.Name x' _) _] => decide (s' = s) && decide (x' = x) && decide (f' = f)
  | [s, x, y], [f, g], [.Assign [.Attribute (.Name s' _) f' _] (.Name x' _) _, .Assign [.Attribute (.Name s2 _) g' _] (.Name y' _) _] => decide (s' = s) && decide (x' = x) && decide (f' = f) && decide (s2 = s) && decide (y' = y) && decide (g' = g)
  | _, _, _ => false
theorem restB_ok {N fs : List Str} {rest : List Stmt} (h : restB N fs rest = true) :
    (∃ s x f q1 q2 q3 q4, N = [s, x] ∧ fs = [f] ∧ rest = [.Assign [.Attribute (.Name s q1) f q2] (.Name x q3) q4]) ∨
    ∃ s x y f g q1 q2 q3 q4 q5 q6 q7 q8, N = [s, x, y] ∧ fs = [f, g] ∧ rest = [.Assign [.Attribute (.Name s q1) f q2] (.Name x q3) q4, .Assign [.Attribute (.Name s q5) g q6] (.Name y q7) q8] := by
  unfold restB at h
  split at h
  · simp only [Bool.and_eq_true, decide_eq_true_eq] at h
    obtain ⟨⟨rfl, rfl⟩, rfl⟩ := h
    exact .inl ⟨_, _, _, _, _, _, _, rfl, rfl, rfl⟩
  · simp only [Bool.and_eq_true, decide_eq_true_eq] at h
    obtain ⟨⟨⟨⟨⟨rfl, rfl⟩, rfl⟩, rfl⟩, rfl⟩, rfl⟩ := h
    exact .inr ⟨_, _, _, _, _, _, _, _, _, _, _, _, _, rfl, rfl, rfl⟩
  · cases h
structure Xc (P : Program) (K : PySem.W.Frag) (mg : Str → Option Value) (C : Addr) (fs : List Str) : Prop where
  ex : ∃ (f cc cda : Addr) (name qual : Str) (params : Arguments) (rest : List Stmt) (scope : Scope) (kV doc pm ct : Value) (an : Option Addr) (N : List Str) (p0 p1 p2 p3 p4 p5 : Pos) (txt : Str) (j : Nat),
    SupC P K mg C f cc cda (ksFn name qual params (.Expr (.Call (.Attribute (.Call (.Name "super" p0) [] [] p1) "__init__" p2) [.Constant (.str txt) j p3] [] p4) p5 :: rest) scope .none kV doc pm an (.ref cda) ct cc) ∧ PySem.W.codeIn K (.ref cda) qual = true ∧ SupScope N scope ∧
    (p2.endLine == p4.line) = true ∧ restB N fs rest = true ∧ N.all okName = true ∧ params.args.map (·.arg) = N ∧ params.posonlyargs = [] ∧ params.kwonlyargs = [] ∧ params.vararg = none ∧ params.kwarg = none ∧
    PySem.W.findIn K (.ref C) "__init__" = some (some (.ref f)) ∧ PySem.W.typeIn K (.ref f) = some (.type "function")
  no : ∀ f ∈ fs, PySem.W.findIn K (.ref C) f = some none
theorem exd_one {H : Hp} {a dx : Addr} {u v : HO} (ne : dx ≠ a) {w : HO} : upd (upd (upd H dx u) a w) dx v = upd (upd H dx v) a w := by
  funext b
  by_cases hb : b = dx
  · rw [hb, upd_same, upd_ne ne, upd_same]
  · rw [upd_ne hb]
    by_cases hb2 : b = a
    · rw [hb2, upd_same, upd_same]
    · rw [upd_ne hb2, upd_ne hb, upd_ne hb2, upd_ne hb]
theorem xc_fn {P : Program} {w : World} {K : PySem.W.Frag} {mg : Str → Option Value} {base : Heap} {C : Addr} {fs : List Str} (x : Xc P K mg C fs) :
    ∃ f fd ps, PySem.W.findIn K (.ref C) "__init__" = some (some (.ref f)) ∧ PySem.W.typeIn K (.ref f) = some (.type "function") ∧ OexC K C ∧ Binds K fd ps [] ∧ FnOk P w K mg base (L2.CX P w) 1 f fd ps (spX C fs) := by
  obtain ⟨f, cc, cda, name, qual, params, rest, scope, kV, doc, pm, ct, an, N, p0, p1, p2, p3, p4, p5, txt, j, S, hcd, sc, hline, hr, hok, ha, hpo, hko, hva, hka, iC, tI⟩ := x.ex
  refine ⟨f, ksFn name qual params (.Expr (.Call (.Attribute (.Call (.Name "super" p0) [] [] p1) "__init__" p2) [.Constant (.str txt) j p3] [] p4) p5 :: rest) scope .none kV doc pm an (.ref cda) ct cc, N, iC, tI, S.ox, fun s us KX hl => BindsTo.of_looks fun M => ?_, ?_⟩
  · rw [List.append_nil] at hl ⊢
    have := bind_gen (K := []) (M := M) (hp := s.heap) (fd := ksFn name qual params (.Expr (.Call (.Attribute (.Call (.Name "super" p0) [] [] p1) "__init__" p2) [.Constant (.str txt) j p3] [] p4) p5 :: rest) scope .none kV doc pm an (.ref cda) ct cc) (us := us) (its := []) (vals := us) (kw := []) (pa := N) (pk := []) (fun _ _ z => by cases z) ha (by show params.kwonlyargs.map (·.arg) = []; rw [hko]; rfl) hpo hva hka
      (by rw [List.append_nil]; exact sc.nd) (by rw [List.append_nil]; exact hl) (by omega) (by simp) (.inl ⟨rfl, rfl⟩) .nil (fun p hp => by cases hp) (fun i n v e1 e2 => .inl e2)
    rw [List.append_nil] at this
    exact this
  · have hN0 : ∃ s ns, N = s :: ns ∧ N.length = fs.length + 1 := by
      rcases restB_ok hr with ⟨_, _, _, _, _, _, _, rfl, rfl, _⟩ | ⟨_, _, _, _, _, _, _, _, _, _, _, _, _, rfl, rfl, _⟩ <;> exact ⟨_, _, rfl, rfl⟩
    obtain ⟨s0, ns, eN, lN⟩ := hN0
    have har : ∃ ar, (params.posonlyargs ++ params.args).head? = some ar ∧ ar.arg = s0 := by
      rw [hpo, List.nil_append]
      cases e : params.args with
      | nil => rw [e, eN] at ha; cases ha
      | cons a as => rw [e, eN] at ha; injection ha with h1 h2; exact ⟨a, rfl, h1⟩
    obtain ⟨ar, h1, h2⟩ := har
    refine fn_sup (k := 0) S hcd sc h1 (by rw [eN, h2]; rfl) hline (fun vs H Q E h => ?_) fun A outer s9 H vs Q E _ h => ?_
    · obtain ⟨a, ys, rfl, e, _⟩ := h
      rw [lN, List.length_cons, e]
    · obtain ⟨a, ys, rfl, e, ea, hq⟩ := h
      have loc : ∀ x ∈ N, L2.Vis scope x := fun x hx => .inl (sc.par x hx)
      have okx : ∀ x ∈ N, (x == ("__debug__" : Str)) = false ∧ (x == ("__classdict__" : Str)) = false := fun x hx => ⟨(okn (List.all_eq_true.mp hok x hx)).1, (okn (List.all_eq_true.mp hok x hx)).2.1⟩
      have noF := x.no
      rcases restB_ok hr with ⟨z, x1, fn, q1, q2, q3, q4, rfl, rfl, rfl⟩ | ⟨z, x1, y, fn, gn, q1, q2, q3, q4, q5, q6, q7, q8, rfl, rfl, rfl⟩
      · match ys, e with
        | [v], _ =>
        obtain ⟨o1, o2⟩ := okx z (by simp)
        obtain ⟨o3, o4⟩ := okx x1 (by simp)
        refine ⟨a, [v], _, rfl, ea, pss_cons (ps_ost (pe_var (i := 0) rfl (loc z (by simp)) o1 o2) (pe_var (i := 1) rfl (loc x1 (by simp)) o3 o4)) pss_nil, ?_⟩
        refine ⟨v, rfl, .ref a, rfl, a, C, rfl, S.ox, noF fn (by simp), .inl ⟨ea, fun dx h1 h2 => ?_⟩⟩
        exact hq dx h1 h2
      · match ys, e with
        | [v, u], _ =>
        obtain ⟨o1, o2⟩ := okx z (by simp)
        obtain ⟨o3, o4⟩ := okx x1 (by simp)
        obtain ⟨o5, o6⟩ := okx y (by simp)
        have pz : PE (cxS (L2.CX P w) P w K mg base [z, x1, y] qual scope f (.ref cda) cc A outer s9 H E) (.Name z q1) (tVar 0) := pe_var (i := 0) rfl (loc z (by simp)) o1 o2
        have pz2 : PE (cxS (L2.CX P w) P w K mg base [z, x1, y] qual scope f (.ref cda) cc A outer s9 H E) (.Name z q5) (tVar 0) := pe_var (i := 0) rfl (loc z (by simp)) o1 o2
        have px : PE (cxS (L2.CX P w) P w K mg base [z, x1, y] qual scope f (.ref cda) cc A outer s9 H E) (.Name x1 q3) (tVar 1) := pe_var (i := 1) rfl (loc x1 (by simp)) o3 o4
        have py : PE (cxS (L2.CX P w) P w K mg base [z, x1, y] qual scope f (.ref cda) cc A outer s9 H E) (.Name y q7) (tVar 2) := pe_var (i := 2) rfl (loc y (by simp)) o5 o6
        refine ⟨a, [v, u], _, rfl, ea, pss_cons (ps_ost pz px) (pss_cons (ps_ost pz2 py) pss_nil), ?_⟩
        refine ⟨v, rfl, .ref a, rfl, a, C, rfl, S.ox, noF fn (by simp), .inl ⟨ea, fun dx h1 h2 => ?_⟩⟩
        refine ⟨u, rfl, .ref a, rfl, a, C, rfl, S.ox, noF gn (by simp), .inr ⟨dx, [(fn, v)], upd_same, by rw [upd_ne h2, upd_same], by simp, ?_⟩⟩
        have := hq dx h1 h2
        rw [exd_one h2]
        exact this
theorem exck_ok {P : Program} {w : World} {mg : Str → Option Value} {base : Heap} {I : Info} {S : NS} {n : Nat} {N : List Str} {X : Cx} {Wx : WX} {sc : Scope}
    (G : ∀ k ks x, I.exc k = some ks → S.xnm k = some x → ks.length ≤ 2 ∧ Xc P S.W.K mg (S.W.ca k) (ks.map S.W.fnm) ∧ mg x = some (.ref (S.W.ca k))) (M : Fam P w S mg base N n X Wx sc) : ExcK X I S := by
  intro k ks x ex hx
  obtain ⟨l2, xc, hm⟩ := G k ks x ex hx
  refine ⟨l2, fun {e es p pos ta} hg hd ha he hpl => ?_⟩
  obtain ⟨f, fd, ps, iC, tI, T, hb, F⟩ := xc_fn (w := w) (base := base) xc
  rw [← M.K] at iC tI T hb F
  rw [← M.mg, ← M.prog, ← M.w, ← M.base] at F
  exact pmk_oex (CX := L2.CX X.prog X.w) T iC tI F (M.room.mono (by omega)) hb .nil (passes_call M.tk fun _ _ _ _ z => z.elim) hg (by rw [M.mg]; exact hm) ha hd he hpl
end Kp
set_option autoImplicit false
set_option maxRecDepth 10000
set_option maxHeartbeats 4000000
namespace Kp
open PySem L2 PySem.Spec PyProof.Rows
theorem fn_at {CX : CXT} {P : Program} {w : World} {K : PySem.W.Frag} {mg : Str → Option Value} {base : Heap} {k : Nat} {f : Addr} {name qual : Str} {params : Arguments} {body : List Stmt} {scope : Scope} {dV kV doc pm cdv ct oc : Value} {an od : Option Addr}
    {osl : Array (Option Value)} {N ps : List Str} (lk : K.lookup f = some ⟨oc, od, .func (PySem.W.fnOf name qual params body scope dV kV doc pm an cdv ct), osl⟩) (hcd : PySem.W.codeIn K cdv qual = true) (S : FnScope N ps scope)
    {A : Around} {outer : List PySem.Env} {s : Shared} {H : Hp} {args : Args} {us : List Value} {vs : List V} {Q : VK} {E : XK} (hl : vs.length = ps.length) (hr : Room (k + 1) A) (e0 : Env0 P w K mg base A outer s H)
    (hb : BindsTo s (PySem.W.fnOf name qual params body scope dV kV doc pm an cdv ct) args (ps.zip us)) (r : Vals vs us)
    (hbody : Room k (A.deeper (envOfC qual scope s.heap.objs.size f cdv)) → ∃ t, PSs (cxOf CX P w K mg base N qual scope f cdv A outer s H E) body t ∧ t { nx := fun _ H' => Q .non H', rt := Q } (L2.start N vs) H) :
    codeAny (model P w) A (.call (.ref f) args) (CR CX outer P w H s Q E) s := by
  have KX : K.In s.heap := e0.mod.kin.keeps fun b o e => (e0.bs b o e).1
  have lim : s.heap.NoLimit := e0.mod.nolimit.keeps fun b o e => (e0.bs b o e).1
  have hkind : ∀ y ∈ ps.zip us, scope.names.lookup y.1 = some .local ∨ (scope.names.lookup y.1 = some .cell ∧ ((cellsFrom (s.heap.objs.size + 1) scope.names []).lookup y.1).isSome = true) := fun ⟨n, v⟩ hy => by
    rcases S.par n (List.of_mem_zip hy).1 with q | q
    · exact .inl q
    · exact .inr ⟨q, PySem.W.cellsFrom_some _ _ _ (.inl q)⟩
  refine codeAny_call_function hr.depth (KX _ _ lk) rfl S.co S.gen rfl (PySem.W.codeRec_of KX hcd) (hb _ _ _ _ ?_)
  refine wpAny_newFunctionEnv_cells S.kind hkind fun env he s1 x => ?_
  subst he
  refine ⟨lim.keeps x.toInCall.keep, codeAny_func ?_⟩
  obtain ⟨t, ht, hq⟩ := hbody (hr.deeper _)
  have I : L2.Inv (cxOf CX P w K mg base N qual scope f cdv A outer s H E) [] (L2.start N vs) H s1 := inv_start S hr.hd e0 hl r x
  refine wpAny_mono (ht.run [] s1 (L2.start N vs) H _ I hq) (fun fl s' hs => ?_) fun e s' hs => hs
  have fin : ∀ {σ' : L2.St} {H' : Hp} {v : V} {u : Value}, L2.Inv (cxOf CX P w K mg base N qual scope f cdv A outer s H E) [] σ' H' s' → RelV v u → Q v H' → CE outer P w H s Q u s' :=
    fun {σ' H' v u} J rv q => ⟨v, H', J.os, J.bare, J.base, J.hok, rv, q⟩
  cases fl with
  | ret u =>
    obtain ⟨v, σ', H', J, rv, q⟩ := hs
    exact fin J rv q
  | next =>
    obtain ⟨σ', H', J, q⟩ := hs
    exact fin (v := V.non) (u := Value.none) J rfl q
  | brk =>
    obtain ⟨_, _, _, q⟩ := hs
    exact False.elim q
  | cont =>
    obtain ⟨_, _, _, q⟩ := hs
    exact False.elim q
structure One (K : PySem.W.Frag) (mg : Str → Option Value) (C : Addr) (m b fn : Str) (fi : Addr) (d : DfD) (sn : Str) : Prop where
  at_ : PySem.W.findIn K (.ref C) m = some (some (.ref fi))
  isf : PySem.W.isFn K (.ref fi) = true
  fund : FunD K d.name d.qual d.params d.body d.scope [] [] fi d.fdata
  scp : FnScope d.N [sn] d.scope
  body : ∃ p1 p2 p3 p4 p5, d.body = [.Return (some (.Call (.Name b p1) [.Attribute (.Name sn p2) fn p3] [] p4)) p5]
  pa : d.params.args.map (·.arg) = [sn]
  pk : d.params.kwonlyargs = []
  po : d.params.posonlyargs = []
  va : d.params.vararg = none
  ka : d.params.kwarg = none
  hN : d.N[0]? = some sn
  gl : glB d.scope b = true
  ok : okName sn = true
  cls : Cls K C
  na : NoAttr K C fn
  mgb : mg b = none
section
variable {P : Program} {w : World} {K : PySem.W.Frag} {mg : Str → Option Value} {base : Heap} {C fi : Addr} {m b fn sn : Str} {d : DfD}
theorem One.binds (O : One K mg C m b fn fi d sn) {s : Shared} {u : Value} (X : K.In s.heap) : BindsTo s d.fdata ⟨[u], []⟩ ([sn].zip [u]) := by
  obtain ⟨oc, od, dV, kV, doc, pm, an, cdv, ct, osl, efd, lk0, hcd, hD, hK⟩ := O.fund.ex
  have hdv : dV = .none := by
    rcases hD with ⟨_, e⟩ | ⟨e, _⟩
    · exact e
    · exact absurd rfl e
  refine BindsTo.of_looks fun M => ?_
  rw [efd]
  have := bind_gen (M := M) (hp := s.heap) (fd := PySem.W.fnOf d.name d.qual d.params d.body d.scope dV kV doc pm an cdv ct) (us := [u]) (its := []) (vals := [u]) (kw := []) (pa := [sn]) (pk := []) X O.pa (by rw [show (PySem.W.fnOf d.name d.qual d.params d.body d.scope dV kV doc pm an cdv ct).params.kwonlyargs = [] from O.pk]; rfl) O.po O.va O.ka
    (by simp) (by simp) (by simp) (by simp) (.inl ⟨hdv, rfl⟩) .nil (fun p hp => by cases hp) (fun i n v e1 e2 => .inl e2)
  exact this
theorem One.name (O : One K mg C m b fn fi d sn) : (sn == ("__debug__" : Str)) = false ∧ (sn == ("__classdict__" : Str)) = false := by
  obtain ⟨a, b, _⟩ := okn O.ok
  exact ⟨a, b⟩
end
section
variable {P : Program} {w : World} {mg : Str → Option Value} {base : Heap} {S : NS} {n : Nat} {N : List Str} {X : Cx} {Wx : WX} {sc : Scope} {C fi : Addr} {m fn sn : Str} {d : DfD}
variable {pins : List (Addr × Obj)} {σ : L2.St} {H : Hp} {s : Shared} {a dx l : Addr} {fs : List (Str × V)} {vs : List V}
theorem iter_run (O : One X.K X.mg C m "iter" fn fi d sn) {A : Around} (hr : Room 1 A) (e0 : Env0 X.prog X.w X.K X.mg X.base A X.stack s H) (J : L2.Inv X pins σ H s) (ha : H a = some (.ins C dx fs)) (hl : fs.lookup fn = some (.ref l)) (hs : SqL X.K H l vs)
    {Q : Value → Shared → Prop} {E : Value → Shared → Prop} (q : ∀ it s', s.heap.objs.size ≤ it → H it = none → L2.Inv X pins σ (upd H it (ItO l it 0)) s' → Q (.ref it) s') :
    wpAny (model X.prog X.w) A (call (.ref fi) [.ref a]) Q E s := by
  obtain ⟨oc, od, dV, kV, doc, pm, an, cdv, ct, osl, efd, lk0, hcd, hD, hK⟩ := O.fund.ex
  obtain ⟨p1, p2, p3, p4, p5, eb⟩ := O.body
  obtain ⟨n1, n2⟩ := O.name
  have bt := O.binds (s := s) (u := .ref a) J.kIn
  rw [efd] at lk0 bt
  refine wpAny_call (codeAny_mono (fn_at (CX := L2.CX X.prog X.w) lk0 hcd O.scp (H := H) (vs := [.ref a]) (us := [.ref a]) (Q := fun v H' => ∃ it, v = .ref it ∧ s.heap.objs.size ≤ it ∧ H it = none ∧ H' = upd H it (ItO l it 0)) (E := fun _ _ _ => False) rfl hr e0 bt (.cons rfl .nil) fun hr' => ?_) fun r s' hq => ?_)
  · rw [eb]
    have vis : Vis d.scope sn := (O.scp.par sn (List.Mem.head _)).elim .inl fun z => .inr (.inl z)
    have hg : d.scope.names.lookup ("iter" : Str) = some .globalImplicit := by
      have := O.gl
      unfold glB at this
      split at this
      · assumption
      · cases this
    refine ⟨_, pss_one (ps_ret (pe_callB ItX.call_iterN hg O.mgb (by decide +kernel) (pa_cons (pe_fld (pe_var (i := 0) O.hN vis n1 n2) rfl) pa_nil))), ?_⟩
    exact ⟨.ref a, rfl, a, C, dx, fs, .ref l, rfl, ha, O.cls, O.na, hl, l, vs, rfl, hs, fun it h1 h2 => ⟨it, rfl, h2, h1, rfl⟩⟩
  · cases r with
    | error e =>
      obtain ⟨_, _, _, _, _, _, _, _, _, _, _, _, z⟩ := hq
      exact z.elim
    | ok fl =>
      cases fl with
      | ret u =>
        obtain ⟨v, H', I3, rv, it, ev, h1, h2, eH⟩ := J.after hq
        subst ev
        rw [eH] at I3
        obtain rfl : u = Value.ref it := rv
        exact q it s' h1 h2 I3
      | next => exact False.elim hq
      | brk => exact False.elim hq
      | cont => exact False.elim hq
theorem len_run (O : One X.K X.mg C m "len" fn fi d sn) {A : Around} (hr : Room 1 A) (e0 : Env0 X.prog X.w X.K X.mg X.base A X.stack s H) (J : L2.Inv X pins σ H s) (ha : H a = some (.ins C dx fs)) (hl : fs.lookup fn = some (.ref l)) (hs : SqL X.K H l vs)
    {Q : Value → Shared → Prop} {E : Value → Shared → Prop} (q : ∀ t s', L2.Inv X pins σ H s' → Q (.int vs.length t) s') :
    wpAny (model X.prog X.w) A (call (.ref fi) [.ref a]) Q E s := by
  obtain ⟨oc, od, dV, kV, doc, pm, an, cdv, ct, osl, efd, lk0, hcd, hD, hK⟩ := O.fund.ex
  obtain ⟨p1, p2, p3, p4, p5, eb⟩ := O.body
  obtain ⟨n1, n2⟩ := O.name
  have bt := O.binds (s := s) (u := .ref a) J.kIn
  rw [efd] at lk0 bt
  refine wpAny_call (codeAny_mono (fn_at (CX := L2.CX X.prog X.w) lk0 hcd O.scp (H := H) (vs := [.ref a]) (us := [.ref a]) (Q := fun v H' => v = .int vs.length ∧ H' = H) (E := fun _ _ _ => False) rfl hr e0 bt (.cons rfl .nil) fun hr' => ?_) fun r s' hq => ?_)
  · rw [eb]
    have vis : Vis d.scope sn := (O.scp.par sn (List.Mem.head _)).elim .inl fun z => .inr (.inl z)
    have hg : d.scope.names.lookup ("len" : Str) = some .globalImplicit := by
      have := O.gl
      unfold glB at this
      split at this
      · assumption
      · cases this
    refine ⟨_, pss_one (ps_ret (pe_callB call_len_seq hg O.mgb boot_len (pa_cons (pe_fld (pe_var (i := 0) O.hN vis n1 n2) rfl) pa_nil))), ?_⟩
    exact ⟨.ref a, rfl, a, C, dx, fs, .ref l, rfl, ha, O.cls, O.na, hl, l, vs, rfl, .inl hs, rfl, rfl⟩
  · cases r with
    | error e =>
      obtain ⟨_, _, _, _, _, _, _, _, _, _, _, _, z⟩ := hq
      exact z.elim
    | ok fl =>
      cases fl with
      | ret u =>
        obtain ⟨v, H', I3, rv, ev, eH⟩ := J.after hq
        subst ev
        rw [eH] at I3
        obtain ⟨t, rfl⟩ := rv
        exact q t s' I3
      | next => exact False.elim hq
      | brk => exact False.elim hq
      | cont => exact False.elim hq
theorem itlF0 {K : PySem.W.Frag} {l : Addr} : ItX.ItlF K l 0 = Itl K l := by
  unfold ItX.ItlF
  simp only [Nat.zero_add]
structure ItD (K : PySem.W.Frag) (mg : Str → Option Value) (C : Addr) (fn : Str) : Prop where
  it : ∃ fi d sn, One K mg C "__iter__" "iter" fn fi d sn
  ln : ∃ fi d sn, One K mg C "__len__" "len" fn fi d sn
theorem iterP_at (O : One X.K X.mg C "__iter__" "iter" fn fi d sn) {A : Around} (hr : Room 1 A) (e0 : Env0 X.prog X.w X.K X.mg X.base A X.stack s H) (J : L2.Inv X pins σ H s) (ha : H a = some (.ins C dx fs)) (hl : fs.lookup fn = some (.ref l)) (hs : SqL X.K H l vs)
    {Q : Value → Shared → Prop} {E : Value → Shared → Prop} (q : ∀ it s', s.heap.objs.size ≤ it → H it = none → L2.Inv X pins σ (upd H it (ItO l it 0)) s' → Q (.ref it) s') : wpAny (model X.prog X.w) A (pyIter (.ref a)) Q E s := by
  obtain ⟨mA, J1, _⟩ := ins_get J.hok ha
  obtain ⟨od, J1, _⟩ := J1.look
  obtain ⟨m0, hF⟩ := J.fr
  refine PySem.W.owit_iter hF J.ok.mod.kin J1 O.at_ O.isf ?_
  refine iter_run O hr e0 J ha hl hs fun it s' h1 h2 I3 => ?_
  have eo := itO_get I3 (upd_same)
  have hit : s'.heap.IsListIter it l 0 := ⟨_, eo, rfl, rfl⟩
  unfold PySem.W.OwitIt
  refine wpAny_specialOf hit.typeIs slot_listiter_next.lookup ?_
  exact q it s' h1 h2 I3
theorem iterP_ok {I : Info} (hr : Room 1 X.A) (hI : ∀ k f, I.iter k = some f → ItD X.K X.mg (S.W.ca k) (S.W.fnm f)) : IterP X I S := by
  intro k f pins s σ H a dx l fs vs tg Q ei J ha hl hs q
  obtain ⟨fi, d, sn, O⟩ := (hI k f ei).it
  refine iterP_at O hr J.env0 J ha hl hs fun it s' h1 h2 I3 => ?_
  have eo := itO_get I3 (upd_same)
  have hi' : upd H it (ItO l it 0) it = some (ItO l it 0) := upd_same
  unfold ItO at hi'
  refine ⟨it, [it], _, _, ItX.dropH (upd H it (ItO l it 0)) it, rfl, ItX.inv_drop I3 hi', ItX.turn_listF l it 0, ⟨_, eo, rfl, rfl⟩, fun b hb => ?_, ?_⟩
  · have e : b = it := by simpa using hb
    rw [e]
    exact ItX.inv_fp I3 upd_same (Nat.le_trans J.sz h1)
  · rw [ItX.dropH_upd h2, itlF0]; exact q
end
end Kp
set_option autoImplicit false
set_option maxRecDepth 10000
set_option maxHeartbeats 4000000
namespace Kp
open PySem L2 PySem.Spec PyProof.Rows
theorem Inv.around {X : Cx} {pins : List (Addr × Obj)} {σ : L2.St} {H : Hp} {s : Shared} (J : L2.Inv X pins σ H s) {A : Around} (hf : A.frames = X.A.frames) (hh : X.calm = true → A.handled = none) : L2.Inv { X with A := A } pins σ H s :=
  ⟨⟨J.ok.mod, J.ok.kind, J.ok.glob, J.ok.blt, J.ok.above, J.ok.inj, J.ok.has, J.ok.cab, hh, hf.trans J.ok.frames, J.ok.stk, J.ok.exf, J.ok.bs, J.ok.bsz, J.ok.noex, J.ok.exfs, J.ok.funs, J.ok.frf⟩, J.os, J.bare, J.base, J.loc, J.cell, J.free, J.freeC, J.pin, J.hok, J.len⟩
theorem Inv.unaround {X : Cx} {pins : List (Addr × Obj)} {σ : L2.St} {H : Hp} {s : Shared} {A : Around} (J : L2.Inv { X with A := A } pins σ H s) (hf : X.A.frames = A.frames) (hh : X.calm = true → X.A.handled = none) : L2.Inv X pins σ H s :=
  ⟨⟨J.ok.mod, J.ok.kind, J.ok.glob, J.ok.blt, J.ok.above, J.ok.inj, J.ok.has, J.ok.cab, hh, hf.trans J.ok.frames, J.ok.stk, J.ok.exf, J.ok.bs, J.ok.bsz, J.ok.noex, J.ok.exfs, J.ok.funs, J.ok.frf⟩, J.os, J.bare, J.base, J.loc, J.cell, J.free, J.freeC, J.pin, J.hok, J.len⟩
section
variable {mg : Str → Option Value} {S : NS} {X : Cx} {C fi : Addr} {fn : Str}
variable {pins : List (Addr × Obj)} {σ : L2.St} {H : Hp} {s : Shared} {a dx l q it : Addr} {fs : List (Str × V)} {vs : List V}
def nmE : Expr := .Name ("x" : Str) ⟨0, 0, 0, 0⟩
theorem go_nm {v u : Value} : letOwnedTupleGo nmE v u = pure () := rfl
theorem ext_loop {A1 : Around} {Rs : Result → Shared → Prop} (hc : X.calm = true) (hf : A1.in1.frames = X.A.frames) (hh : A1.in1.handled = none) :
    ∀ (k i : Nat) (H : Hp) (s : Shared), L2.Inv X pins σ H s → vs.length - i = k → i ≤ vs.length → s.heap.IsListIter it l i → FpOk X pins H it → H q = some (.lst (vs.take i)) → SqL X.K H l vs → vs.length ≤ sizeLine → q ≠ l →
      (∀ s', L2.Inv X pins σ (upd H q (.lst vs)) s' → Rs (.ok (.ret .none)) s') → codeAny (model X.prog X.w) A1 (.builtin "list.extend.loop" ⟨[.ref q, .ref it, .none], []⟩) Rs s := by
  intro k
  induction k with
  | zero =>
    intro i H s J hk hi hit hfp hq hs hz n3 hR
    have ei : i = vs.length := by omega
    subst ei
    refine codeAny_builtin PySem.F.entry_extend_loop ?_
    rw [Around.under_plainId PySem.F.plain_extend_loop _]
    show wpAny _ A1.in1 (pyNext (.ref it) >>= _) _ _ s
    have J2 := Inv.around J hf (fun _ => hh)
    refine wpAny_bind (wpAny_mono ((turn_list (P := X.prog) (w := X.w) (K := X.K) (tg := nmE) l it).done { X with A := A1.in1 } rfl rfl rfl hc vs.length pins s σ H _ J2 (fun b hb => ?_) hit ⟨vs, hs, Nat.le_refl _⟩) (fun r s' ⟨hr, J3⟩ => ?_) fun e s' he => he)
    · have e : b = it := by simpa using hb
      rw [e]; exact hfp
    · subst hr
      have J3 := Inv.unaround J3 hf.symm J.ok.hd
      refine wpAny_pure (hR s' ?_)
      have : upd H q (.lst vs) = H := by
        funext b
        by_cases hb : b = q
        · rw [hb, upd_same, hq, List.take_length]
        · rw [upd_ne hb]
      rw [this]; exact J3
  | succ k ih =>
    intro i H s J hk hi hit hfp hq hs hz n3 hR
    have hlt : i < vs.length := by omega
    refine codeAny_builtin PySem.F.entry_extend_loop ?_
    rw [Around.under_plainId PySem.F.plain_extend_loop _]
    show wpAny _ A1.in1 (pyNext (.ref it) >>= _) _ _ s
    have J2 := Inv.around J hf (fun _ => hh)
    refine wpAny_bind (wpAny_mono ((turn_list (P := X.prog) (w := X.w) (K := X.K) (tg := nmE) l it).item { X with A := A1.in1 } rfl rfl rfl hc i pins s σ H (fun _ _ => False) J2 (fun b hb => ?_) hit ⟨vs, vs[i], hs, List.getElem?_eq_getElem hlt⟩) (fun r s' ⟨u, hr, h2⟩ => ?_) fun e s' he => he.elim)
    · have e : b = it := by simpa using hb
      rw [e]; exact hfp
    · subst hr
      show wpAny _ A1.in1 (updateSeq q (·.push u) >>= _) _ _ _
      rw [go_nm] at h2
      have pb : ∀ {α : Type} (t : Sem α), t = (pure () >>= fun (_ : Unit) => t) := fun t => (pure_bind () (fun (_ : Unit) => t)).symm
      rw [pb (updateSeq q (·.push u) >>= _)]
      refine wpAny_bind (wpAny_mono h2 (fun _ s2 ⟨x, H', J3, rx, yl, st, nn⟩ => ?_) fun e s' he => he.elim)
      obtain ⟨eH, yl⟩ := yl
      subst eH
      have J3 := Inv.unaround J3 hf.symm J.ok.hd
      have ex : vs[i] = x := by
        have := yl vs hs
        rw [List.getElem?_eq_getElem hlt] at this
        exact Option.some.inj this
      subst ex
      obtain ⟨z, its, kk, r2, hl2, e⟩ := J3.lstM hq
      have ll : its.length = i := by rw [← hl2, List.length_take]; omega
      have tk : vs.take (i + 1) = vs.take i ++ [vs[i]] := by rw [List.take_succ, List.getElem?_eq_getElem hlt]; rfl
      refine wpAny_bind (wpAny_updateSeq e rfl (wpAny_pure ⟨plainId_quiet PySem.F.plain_extend_loop _, ?_⟩) (by rw [List.size_toArray]; omega) (by show (its.toArray.push u).size ≤ sizeLine + 1; rw [Array.size_push, List.size_toArray]; omega))
      have J4 := J3.lset (its' := its ++ [u]) (ys := vs.take (i + 1)) (t' := s2.toks) hq e (f := (·.push u)) (by simp) (by rw [tk]; exact r2.append (.cons rx .nil)) (by rw [List.length_take]; omega)
      refine ih (i + 1) _ _ J4 (by omega) (by omega) ?_ ⟨?_, hfp.2⟩ upd_same ?_ hz n3 fun s' J5 => ?_
      · exact st.at fun o q2 => (Heap.get?_update_other s2.heap (Obj.mapSeq _) (fun z => by
          have := nn it (by simp)
          rw [← z, hq] at this; cases this)).trans q2
      · rw [upd_ne (fun z => by
          have := nn it (by simp)
          rw [z, hq] at this; cases this)]
        exact hfp.1
      · exact hs.imp (fun h => h.imp (fun h => by rw [upd_ne (Ne.symm n3)]; exact h) fun ⟨o, h⟩ => ⟨o, by rw [upd_ne (Ne.symm n3)]; exact h⟩) id
      · rw [upd_upd] at J5
        exact hR s' J5
theorem len_hint {A : Around} {sn : Str} {d : DfD} {fl : Addr} (O : One X.K X.mg C "__len__" "len" fn fl d sn) (hr : Room 2 A) (e0 : ∀ {s : Shared} {H : Hp}, L2.Inv X pins σ H s → Env0 X.prog X.w X.K X.mg X.base A X.stack s H) (J : L2.Inv X pins σ H s)
    (ha : H a = some (.ins C dx fs)) (hl : fs.lookup fn = some (.ref l)) (hs : SqL X.K H l vs) (hz : vs.length ≤ sizeLine) {Q : Bool → Shared → Prop} {E : Value → Shared → Prop} (q : ∀ b s', L2.Inv X pins σ H s' → Q b s') :
    wpAny (model X.prog X.w) A (Builtin.List.listLengthHint (.ref a)) Q E s := by
  obtain ⟨mA, J1, _⟩ := ins_get J.hok ha
  obtain ⟨od, J1, _⟩ := J1.look
  obtain ⟨m0, hF⟩ := J.fr
  unfold Builtin.List.listLengthHint
  refine wpAny_bind (wpAny_bind (J1.type.here ((PySem.W.looks_findIn J.kIn O.at_).here ?_)))
  refine PySem.W.KFB.if_not rfl ?_
  refine wpAny_ite_split (fun _ => ?_) (fun hn => absurd rfl hn)
  refine wpAny_bind (wpAny_rule ?_)
  refine wpAny_bind (wpAny_attempt (PySem.W.len_K hF J.ok.mod.kin J1 O.at_ O.isf (len_run O (hr.in1) (e0 J).in1 J ha hl hs fun t s' J' => ?_)))
  refine ⟨⟨Int.natCast_nonneg _, by have := line63; omega⟩, ?_⟩
  show wpAny _ _ (asInt? _ >>= _) _ _ _
  refine wpAny_bind (wpAny_pure ?_)
  show wpAny _ _ (if Builtin.List.listTooLong (Int.toNat (vs.length : Int)) = true then _ else _) _ _ _
  rw [Int.toNat_natCast, notLongL hz, if_neg Bool.false_ne_true]
  exact wpAny_pure (q _ _ (J'.tok _) )
theorem sq_upd {K : PySem.W.Frag} {o : HO} (hn : H q = none) (h : SqL K H l vs) : SqL K (upd H q o) l vs :=
  h.imp (fun h => h.imp (fun h => by rw [upd_ne (ne_of_none h hn)]; exact h) fun ⟨u, h⟩ => ⟨u, by rw [upd_ne (ne_of_none h hn)]; exact h⟩) id
theorem list_own (O : ItD X.K X.mg C fn) (hc : X.calm = true) (hr : Room 5 X.A) (J : L2.Inv X pins σ H s) (ha : H a = some (.ins C dx fs)) (hl : fs.lookup fn = some (.ref l)) (hs : SqL X.K H l vs) {Q : VK} (hQ : ∀ p, H p = none → Q (.ref p) (upd H p (.lst vs))) :
    wpAny (model X.prog X.w) X.A (call (.type "list") [.ref a]) (EP X pins σ Q) X.xe s := by
  obtain ⟨⟨fi, d, sn, O1⟩, ⟨fl, d2, sn2, O2⟩⟩ := O
  obtain ⟨its0, rv0, pl0, hz⟩ := J.list hs
  refine callType_codes (Q₁ := fun obj s₁ => obj = .ref s.heap.objs.size ∧ s₁ = { s with heap := s.heap.push { cls := .type "list", data := .seq #[] } }) PySem.F.called_list (PySem.F.typeCall_list_1 _) PySem.F.entry_list_init
    (code_list_new _ ⟨rfl, rfl⟩) fun obj s₁ h₁ => ?_
  obtain ⟨rfl, rfl⟩ := h₁
  have hS : (s.heap.push { cls := .type "list", data := .seq #[] }).get? s.heap.objs.size = some { cls := .type "list", data := .seq #[] } := Heap.get?_push_size _ rfl
  refine ⟨⟨_, hS, rfl⟩, PySem.F.args_list_init_2 _ _, ?_⟩
  have fr : H s.heap.objs.size = none := J.hok.fresh (Nat.le_refl _)
  have I1 : L2.Inv X pins σ (upd H s.heap.objs.size (.lst [])) { s with heap := s.heap.push { cls := .type "list", data := .seq #[] } } := J.lnew (its := []) (t' := s.toks) .nil (Nat.zero_le _)
  show wpAny _ _ (do let old ← Builtin.List.listItems (.ref s.heap.objs.size); Builtin.List.listUpdate (.ref s.heap.objs.size) (fun _ => #[]); letGo old.toList.reverse; Builtin.List.listExtendWith (.ref s.heap.objs.size) (.ref a) .none) _ _ _
  refine wpAny_bind ?_
  unfold Builtin.List.listItems
  refine wpAny_bind (wpAny_seqItems hS rfl (wpAny_pure ?_))
  show wpAny _ _ (updateSeq s.heap.objs.size (fun _ => #[]) >>= fun _ => letGo (#[] : Array Value).toList.reverse >>= fun _ => Builtin.List.listExtendWith (.ref s.heap.objs.size) (.ref a) .none) _ _ _
  refine wpAny_bind (wpAny_updateSeq hS rfl ?_)
  have I2 := I1.lset (f := fun _ => #[]) (its := []) (its' := []) (ys := []) (t' := s.toks) upd_same hS rfl .nil (Nat.zero_le _)
  rw [upd_upd] at I2
  refine wpAny_bind (wpAny_letGo ?_)
  have hqa : s.heap.objs.size ≠ a := fun z => by rw [← z, fr] at ha; cases ha
  have ha2 : upd H s.heap.objs.size (.lst []) a = some (.ins C dx fs) := by rw [upd_ne (Ne.symm hqa)]; exact ha
  have hs2 : SqL X.K (upd H s.heap.objs.size (.lst [])) l vs := sq_upd fr hs
  have nl : s.heap.objs.size ≠ l := fun z => by
    obtain ⟨its, r, pl, _⟩ := J.list hs
    obtain ⟨o, ho, _⟩ := pl.isList
    have := Heap.lt_size ho
    rw [z] at this
    exact Nat.lt_irrefl _ this
  generalize s.heap.objs.size = q at *
  obtain ⟨mA, J1, _⟩ := ins_get I2.hok ha2
  obtain ⟨od, J1, _⟩ := J1.look
  have e0 : ∀ {s' : Shared} {H' : Hp}, L2.Inv X pins σ H' s' → Env0 X.prog X.w X.K X.mg X.base X.A.in1.in1 X.stack s' H' := fun J => J.env0.in1.in1
  unfold Builtin.List.listExtendWith
  refine wpAny_bind (J1.type.here ?_)
  have h1 : Builtin.List.listSameRef (.ref q) (.ref a) = false := by simp [Builtin.List.listSameRef, hqa]
  have h2 : (Value.ref C == Value.type "list") = false := rfl
  have h3 : (Value.ref C == Value.type "tuple") = false := rfl
  simp only [h1, h2, h3, Bool.or_false, Bool.false_eq_true, if_false]
  refine wpAny_bind (iterP_at O1 (hr.mono (by decide : 3 ≤ 5)).in1.in1 (e0 I2) I2 ha2 hl hs2 fun it s' g1 g2 I3 => ?_)
  have hia : it ≠ a := fun z => by rw [z, ha2] at g2; cases g2
  have ha3 : upd (upd H q (.lst [])) it (ItO l it 0) a = some (.ins C dx fs) := by rw [upd_ne (Ne.symm hia)]; exact ha2
  refine wpAny_bind (wpAny_holding (len_hint O2 (hr.mono (by decide : 4 ≤ 5)).in1.in1 e0 I3 ha3 hl (sq_upd g2 hs2) hz fun b s3 I4 => ?_))
  have eo := itO_get I4 upd_same
  have hi' : upd (upd H q (.lst [])) it (ItO l it 0) it = some (ItO l it 0) := upd_same
  unfold ItO at hi'
  have sz : X.s_0.heap.objs.size ≤ it := Nat.le_trans I2.sz g1
  have fp := ItX.inv_fp I4 upd_same sz
  have I5 := ItX.inv_drop I4 hi'
  rw [ItX.dropH_upd g2] at I5 fp
  have fin : ∀ s4, L2.Inv X pins σ (upd H q (.lst [])) s4 → s4.heap.IsListIter it l 0 → codeAny (model X.prog X.w) X.A.in1 (.builtin "list.extend.loop" ⟨[.ref q, .ref it, .none], []⟩) (wants (fun r s₂ => r = .none ∧ EP X pins σ Q (.ref q) s₂) X.xe) s4 := fun s4 I6 hit =>
    ext_loop (A1 := X.A.in1) hc rfl (J.ok.hd hc) vs.length 0 _ s4 I6 (by omega) (Nat.zero_le _) hit fp upd_same hs2 hz nl fun s5 I7 => by
      rw [upd_upd] at I7
      exact ⟨rfl, .ref q, _, I7, rfl, hQ q fr⟩
  refine wpAny_ite_split (fun _ => ?_) (fun _ => wpAny_pure ⟨plainId_quiet PySem.F.plain_extend_loop _, fin s3 I5 ⟨_, eo, rfl, rfl⟩⟩)
  refine wpAny_bind (wpAny_rule ?_)
  refine wpAny_bind ?_
  obtain ⟨z, its, k, r3, hl3, e3⟩ := I5.lstM upd_same
  cases r3
  show wpAny _ _ (updateSeq q (·.push .none) >>= fun _ => updateSeq q (·.pop)) _ _ _
  refine wpAny_bind (wpAny_updateSeq e3 rfl ?_)
  have I6 := I5.lset (f := (·.push Value.none)) (its' := [Value.none]) (ys := [.non]) (t' := s3.toks) upd_same e3 (by simp) (.cons rfl .nil) (by rw [List.length_singleton, sizeLine_eq]; decide)
  obtain ⟨z4, its4, k4, r4, hl4, e4⟩ := I6.lstM upd_same
  obtain ⟨u4, rfl, ru4⟩ := r4.one
  have hne : it ≠ q := fun z => by rw [z, upd_same] at g2; cases g2
  refine wpAny_updateSeq e4 rfl ?_ (by show 1 ≤ sizeLine; rw [sizeLine_eq]; decide) (by show 0 ≤ sizeLine + 1; exact Nat.zero_le _)
  have I7 := I6.lset (f := (·.pop)) (its := [u4]) (its' := []) (ys := []) (t' := s3.toks) upd_same e4 (by rfl) .nil (Nat.zero_le _)
  rw [upd_upd, upd_upd] at I7
  refine wpAny_pure ⟨plainId_quiet PySem.F.plain_extend_loop _, fin _ I7 ?_⟩
  have hit : s3.heap.IsListIter it l 0 := ⟨_, eo, rfl, rfl⟩
  exact (hit.at fun o q2 => (Heap.get?_update_other s3.heap (Obj.mapSeq _) (Ne.symm hne)).trans q2).at fun o q2 => (Heap.get?_update_other _ (Obj.mapSeq _) (Ne.symm hne)).trans q2
theorem iterK_ok {I : Info} (hc : X.calm = true) (hr : Room 5 X.A) (hI : ∀ k f, I.iter k = some f → ItD X.K X.mg (S.W.ca k) (S.W.fnm f)) : IterK X I S :=
  fun k f pins s σ H a dx l fs vs Q ei J ha hl hs q => list_own (hI k f ei) hc hr J ha hl hs q
end
end Kp
set_option autoImplicit false
set_option maxRecDepth 10000
set_option maxHeartbeats 4000000
namespace Kp
open PySem L2 PySem.Spec PyProof.Rows
section
variable {P : Program} {w : World} {mg : Str → Option Value} {base : Heap} {I : Info} {S : NS} {n : Nat} {N : List Str}
theorem kn_ok (G : Prg P w mg I S) (IT : ∀ k f, I.iter k = some f → ItD S.W.K mg (S.W.ca k) (S.W.fnm f)) (XG : ∀ k ks x, I.exc k = some ks → S.xnm k = some x → ks.length ≤ 2 ∧ Xc P S.W.K mg (S.W.ca k) (ks.map S.W.fnm) ∧ mg x = some (.ref (S.W.ca k))) (A0 : AllOk P w mg base I S n) : Kn I (callN I n) S N (Fam P w S mg base N n) where
  w := fun {X Wx sc} M => by
    have IT' : ∀ k f, I.iter k = some f → ItD X.K X.mg (S.W.ca k) (S.W.fnm f) := fun k f e => by rw [M.K, M.mg]; exact IT k f e
    refine ⟨⟨⟨⟨M.K, G.fac, by have := M.room.un; omega, M.calm, M.nd, callV_ok G A0 M (M.room.mono (by omega)) fun e => e, callV_ok G A0 M M.room.in1 fun e => e.in1, M.po⟩, M.N, M.sc, ?_, ?_, ?_, ?_, ?_, G.mpk, callD_run G A0 M, newK_ok G A0 M, propK_ok G A0 M⟩, G.isic, iterK_ok M.calm (M.room.mono (by omega)) IT', G.iterf⟩, iterP_ok (M.room.mono (by omega)) IT'⟩
    · rw [M.mg]; exact G.glo
    · rw [M.mg]; exact G.blt
    · rw [M.mg, M.K]; exact G.fnk
    · rw [M.mg, M.K]; exact G.cnk
    · rw [M.mg, M.K]; exact G.stk
  blk := fun {X Wx sc} M s H scope C cl fp => ⟨M.prog, M.w, M.K, M.mg, M.base, M.N, M.nd, M.calm, M.room, takes0, PassesOwn.never, by
    show relS scope X.env.scope = relS scope sc
    rw [M.sc]⟩
  x := fun {X Wx sc} M => ⟨M.tk, M.calm, exck_ok XG M⟩
structure Trg (mg : Str → Option Value) (I : Info) (S : NS) : Prop where
  ve : mg ("ValueError" : Str) = none
  xn : ∀ k x, S.xnm k = some x → mg x = some (.ref (S.W.ca k))
  cls : ∀ k c b, I.sub k c = some b → ExcC S.W.K (S.W.ca k) ∧ XfC S.W.K (S.W.ca k) ∧ PySem.W.kitOne S.W.K (.ref (S.W.ca k)) (.type "ValueError") = some true ∧ PySem.W.kitOne S.W.K (.ref (S.W.ca k)) (.ref (S.W.ca c)) = some b ∧ PySem.W.exmOne S.W.K (.ref (S.W.ca k)) (.ref (S.W.ca c)) = some b
  fld : ∀ k fs, I.exc k = some fs → ∀ f ∈ fs, PySem.W.findIn S.W.K (.ref (S.W.ca k)) (S.W.fnm f) = some none ∧ ∀ g ∈ fs, S.W.fnm g = S.W.fnm f → g = f
theorem kt_ok (G : Prg P w mg I S) (TG : Trg mg I S) : Kt I S N (Fam P w S mg base N n) where
  xs := fun {X Wx sc} M => ⟨M.K, M.N, M.nd, M.sc, by rw [M.mg]; exact G.blt, by rw [M.mg]; exact TG.ve, by rw [M.mg]; exact TG.xn, by have := M.room.un; omega, by rw [M.K]; exact TG.cls, by rw [M.K]; exact TG.fld⟩
  tr := fun {X Wx sc} M W pn xe tk po => ⟨M.prog, M.w, M.K, M.mg, M.base, M.N, M.nd, M.calm, M.room, tk, po, M.sc⟩
theorem start_rl {f : Nat} {fd : Fn} {d : DfD} (F : Df I S f fd d) {Z : Lv} {ρ : List Addr} {h : AH} {H : Hp} {vs : List V} {ds : List D} (R0 : HRel S.W Z ρ h H) (r : RDs S.W Z ρ h H vs ds) : Rl S.W Z ρ h H (Kp.start fd.ns ds) (L2.start d.N vs) := by
  have l := r.length
  refine ⟨R0, ?_, fun i x e => ?_⟩
  · unfold Kp.start L2.start
    simp only [List.length_append, List.length_map, List.length_replicate, F.nlen, l]
  · unfold Kp.start at e
    by_cases c : i < ds.length
    · rw [List.getElem?_append_left (by simpa using c), List.getElem?_map] at e
      cases q : ds[i]? with
      | none => rw [q] at e; cases e
      | some y =>
        rw [q] at e
        cases e
        obtain ⟨v, e1, e2⟩ := r.get q
        refine ⟨v, ?_, e2⟩
        unfold L2.start
        rw [List.getElem?_append_left (by rw [List.length_map, l]; exact c), List.getElem?_map, e1]; rfl
    · rw [List.getElem?_append_right (by simpa using Nat.le_of_not_lt c), List.getElem?_replicate] at e
      split at e <;> cases e
theorem all_ok (G : Prg P w mg I S) (TG : Trg mg I S) (IT : ∀ k f, I.iter k = some f → ItD S.W.K mg (S.W.ca k) (S.W.fnm f)) (XG : ∀ k ks x, I.exc k = some ks → S.xnm k = some x → ks.length ≤ 2 ∧ Xc P S.W.K mg (S.W.ca k) (ks.map S.W.fnm) ∧ mg x = some (.ref (S.W.ca k))) : ∀ n, AllOk P w mg base I S n
  | 0, f, fd, d, e, D1 => ⟨fun vs H Q E h => h.1, fun A outer s H args us vs Q E hr e0 hb hv hs => by
      obtain ⟨_, Z, ρ, h, ds, _, _, p⟩ := hs
      exact (show False from p).elim⟩
  | n + 1, f, fd, d, e, D1 => by
    have e5 : 2 * (n + 1) + 5 = 2 * n + 6 + 1 := by omega
    rw [e5]
    refine D1.fun_.ok D1.scp (fun vs H Q E h => h.1) (fun cdv A outer s H vs Q E hr hsp => ?_)
    obtain ⟨hl, Z, ρ, h, ds, R0, r, p⟩ := hsp
    have A0 := all_ok G TG IT XG n
    unfold callN at p
    rw [e] at p
    dsimp only at p
    unfold runF at p
    split at p
    · refine ⟨tSs I (callN I n) S.W (fun cls d _ H => E cls d H) fd.body, sSs (kn_ok G IT XG A0) (kt_ok G TG) fd.body (sc := d.scope) ⟨rfl, rfl, rfl, rfl, rfl, rfl, D1.scp.nd, rfl, hr, takes_of rfl rfl rfl rfl, passes_of rfl, rfl⟩ ?_ ⟨rfl, rfl⟩ D1.ms, Z, ρ, h, Kp.start fd.ns ds, start_rl D1 R0 r, ret_ok (I := I) (E := E) (Q := Q) rfl rfl rfl R0 p⟩
      intro x hx
      unfold locB at hx
      refine ⟨?_, .inl rfl⟩
      show L2.Loc d.scope x
      unfold L2.Loc
      split at hx <;> first | cases hx | skip
      · exact .inl (by assumption)
      · exact .inr (by assumption)
    · exact p.elim
end
end Kp
set_option autoImplicit false
set_option maxRecDepth 10000
set_option maxHeartbeats 4000000
namespace Kp
open PySem L2 PySem.Spec PyProof.Rows
inductive Pl where
  | g (x : Str)
  | m (C x : Str)
  | p (C x : Str)
  | s (C x : Str)
def recHd (K : PySem.W.Frag) (p : Addr) (T : String) : Addr := match PySem.W.recIn K p T with
  | some (.ref g :: _) => g
  | _ => 0
def adr (K : PySem.W.Frag) : Pl → Addr
  | .g x => He.ga K x
  | .m C x => He.ma K (He.ga K C) x
  | .p C x => recHd K (He.ma K (He.ga K C) x) "property"
  | .s C x => recHd K (He.ma K (He.ga K C) x) "staticmethod"
structure Dd where
  pl : Pl
  name : Str
  qual : Str
  params : Arguments
  body : List Stmt
  scope : Scope
  dfl : List T := []
  kwd : List (Str × T) := []
  N : List Str
def vOf : Value → V
  | .bool b => .bl b
  | .int i _ => .int i
  | .str x _ => .str x
  | .ref a => .ref a
  | _ => .non
mutual
def relT (K : PySem.W.Frag) : T → Value → Bool
  | .non, u => (match u with | .none => true | _ => false)
  | .bl b, u => (match u with | .bool c => b == c | _ => false)
  | .int i, u => (match u with | .int j _ => decide (i = j) | _ => false)
  | .str s, u => (match u with | .str x _ => decide (x = sOf s) && PyData.strOk x && decide (x.length ≤ 1000) | _ => false)
  | .tup ts, u => (match u with
    | .ref a => (match K.lookup a with
      | some ⟨.type c, _, .seq its _, _⟩ => decide (c = "tuple") && decide (its.size ≤ 1000) && relTs K ts its.toList
      | _ => false)
    | _ => false)
  | _, _ => false
def relTs (K : PySem.W.Frag) : List T → List Value → Bool
  | [], us => us.isEmpty
  | t :: ts, us => (match us with | u :: us => relT K t u && relTs K ts us | [] => false)
end
theorem line1000 {n : Nat} (h : n ≤ 1000) : n ≤ sizeLine := Nat.le_of_lt (small1000 h)
mutual
theorem relT_ok {W : Wd} : ∀ {t : T} {u : Value}, relT W.K t u = true → RelV (vOf u) u ∧ ∀ L H, RepT W L H (vOf u) t
  | .non, u, h => by
    unfold relT at h; split at h
    · exact ⟨rfl, fun _ _ => .non⟩
    · cases h
  | .bl b, u, h => by
    unfold relT at h; split at h
    · cases eq_of_beq h; exact ⟨rfl, fun _ _ => .bl _⟩
    · cases h
  | .int i, u, h => by
    unfold relT at h; split at h
    · cases of_decide_eq_true h; exact ⟨⟨_, rfl⟩, fun _ _ => .int _⟩
    · cases h
  | .str s, u, h => by
    unfold relT at h; split at h
    · obtain ⟨h1, h3⟩ := ba h
      obtain ⟨h1, h2⟩ := ba h1
      cases of_decide_eq_true h1
      exact ⟨⟨_, rfl⟩, fun _ _ => .str s ⟨h2, line1000 (of_decide_eq_true h3)⟩⟩
    · cases h
  | .tup ts, u, h => by
    unfold relT at h; split at h
    · split at h
      · rename_i a oc od its n os lk
        obtain ⟨h1, h3⟩ := ba h
        obtain ⟨h1, h2⟩ := ba h1
        cases of_decide_eq_true h1
        obtain ⟨r1, r2⟩ := relTs_ok h3
        exact ⟨rfl, fun L H => .tup (.inr ⟨_, its, n, lk, rfl, rfl, line1000 (of_decide_eq_true h2), r1⟩) (r2 L H)⟩
      · cases h
    · cases h
  | .lst _, u, h => by unfold relT at h; cases h
  | .ro _, u, h => by unfold relT at h; cases h
  | .dct _ _, u, h => by unfold relT at h; cases h
  | .ins _ _ _, u, h => by unfold relT at h; cases h
theorem relTs_ok {W : Wd} : ∀ {ts : List T} {us : List Value}, relTs W.K ts us = true → Vals (us.map vOf) us ∧ ∀ L H, RepTs W L H (us.map vOf) ts
  | [], us, h => by
    unfold relTs at h
    cases us with
    | nil => exact ⟨.nil, fun _ _ => .nil⟩
    | cons _ _ => cases h
  | t :: ts, us, h => by
    unfold relTs at h
    cases us with
    | nil => cases h
    | cons u us =>
      obtain ⟨h1, h2⟩ := ba h
      obtain ⟨a, b⟩ := relT_ok (t := t) h1
      obtain ⟨c, d⟩ := relTs_ok (ts := ts) h2
      exact ⟨.cons a c, fun L H => .cons (b L H) (d L H)⟩
end
def dflI (K : PySem.W.Frag) (dV : Value) : List Value := match dV with
  | .ref T => (match K.lookup T with
    | some ⟨_, _, .seq its _, _⟩ => its.toList
    | _ => [])
  | _ => []
def dflT (K : PySem.W.Frag) (dV : Value) (ts : List T) : Bool := match ts with
  | [] => (match dV with | .none => true | _ => false)
  | t :: r => (match dV with
    | .ref T => (match K.lookup T with
      | some ⟨_, _, .seq its _, _⟩ => relTs K (t :: r) its.toList
      | _ => false)
    | _ => false)
def kwdV (K : PySem.W.Frag) (kV : Value) (x : Str) : V := match kV with
  | .ref D => (match PySem.W.nsIn K D x with
    | some (some u) => vOf u
    | _ => .non)
  | _ => .non
def kwdT (K : PySem.W.Frag) (kV : Value) (ks : List (Str × T)) : Bool := match ks with
  | [] => true
  | k :: r => (match kV with
    | .ref D => (k :: r).all fun q => (match PySem.W.nsIn K D q.1 with
      | some (some u) => relT K q.2 u
      | _ => false)
    | _ => false)
abbrev FnW' : Type := Option (Str × Str × Arguments × FuncBody × Scope × Addr × List (Str × Addr) × Addr)
def fnAt (K : PySem.W.Frag) (p : Pl) : FnW' := match K.lookup (adr K p) with
  | some ⟨_, _, .func fd, _⟩ => some (fd.name, fd.qualname, fd.params, fd.body, fd.scope, fd.globals, fd.closure, fd.builtins)
  | _ => none
def Dd.val (d : Dd) : FnW' := some (d.name, d.qual, d.params, .stmts d.body, d.scope, mainGlobals, [], builtinsNs)
def Dd.ok (K : PySem.W.Frag) (d : Dd) : Bool := PySem.W.keepIn K (.ref (adr K d.pl)) && (match K.lookup (adr K d.pl) with
  | some ⟨_, _, .func fd, _⟩ => PySem.W.codeIn K fd.code d.qual && (dflT K fd.defaults d.dfl && kwdT K fd.kwdefaults d.kwd)
  | _ => false)
theorem Dd.fund {W : Wd} {d : Dd} (e : fnAt W.K d.pl = d.val) (c : d.ok W.K = true) :
    ∃ fd dvs kws, FunD W.K d.name d.qual d.params d.body d.scope dvs kws (adr W.K d.pl) fd ∧ dvs.length = d.dfl.length ∧ (∀ (i : Nat) (t : T), d.dfl[i]? = some t → ∃ v, dvs[i]? = some v ∧ ∀ L H, RepT W L H v t) ∧ (∀ q ∈ d.kwd, ∃ v, (q.1, v) ∈ kws ∧ ∀ L H, RepT W L H v q.2) ∧ (d.dfl = [] → dvs = []) ∧ (d.kwd = [] → kws = []) := by
  obtain ⟨kp, c2⟩ := ba c
  unfold fnAt at e
  cases q : W.K.lookup (adr W.K d.pl) with
  | none =>
    rw [q] at c2
    cases c2
  | some o =>
    obtain ⟨oc, od, dt, osl⟩ := o
    rw [q] at c2 e
    cases dt with
    | func fd =>
      obtain ⟨n1, n2, n3, n4, n5, n6, n7, n8, n9, n10, n11, n12, n13, n14, n15⟩ := fd
      have e2 : (some (n1, n2, n3, n4, n5, n6, n7, n15) : FnW') = some (d.name, d.qual, d.params, .stmts d.body, d.scope, mainGlobals, [], builtinsNs) := e
      simp only [Option.some.injEq, Prod.mk.injEq] at e2
      obtain ⟨h1, h2, h3, h4, h5, h6, h7, h8⟩ := e2
      subst h1 h2 h3 h4 h5 h6 h7 h8
      have c3 : (PySem.W.codeIn W.K n13 d.qual && (dflT W.K n8 d.dfl && kwdT W.K n9 d.kwd)) = true := c2
      obtain ⟨k1, k2⟩ := ba c3
      obtain ⟨k3, k4⟩ := ba k2
      have D : ∃ dvs, DflV W.K n8 dvs ∧ dvs.length = d.dfl.length ∧ (∀ (i : Nat) (t : T), d.dfl[i]? = some t → ∃ v, dvs[i]? = some v ∧ ∀ L H, RepT W L H v t) ∧ (d.dfl = [] → dvs = []) := by
        clear e c c2 c3 k2 k4
        generalize d.dfl = dl at k3 ⊢
        cases dl with
        | nil =>
          have hn : n8 = .none := by cases n8 <;> first | rfl | cases k3
          subst hn
          exact ⟨[], .inl ⟨rfl, rfl⟩, rfl, fun i t z => by simp at z, fun _ => rfl⟩
        | cons t r =>
          cases n8 <;> first | cases k3 | skip
          rename_i T
          have k3 : (match W.K.lookup T with
            | some ⟨_, _, .seq its _, _⟩ => relTs W.K (t :: r) its.toList
            | _ => false) = true := k3
          split at k3
          · rename_i _ _ _ its n _ lk
            obtain ⟨r1, r2⟩ := relTs_ok (W := W) k3
            refine ⟨its.toList.map vOf, .inr ⟨?_, T, _, its.toList, n, rfl, lk, by simp, r1⟩, (r2 (fun _ => False) (fun _ => none)).length, fun i t' z => ?_, fun z => by cases z⟩
            · intro z
              have := (r2 (fun _ => False) (fun _ => none)).length
              rw [z] at this; cases this
            · obtain ⟨v, a, b⟩ := (r2 (fun _ => False) (fun _ => none)).get z
              refine ⟨v, a, fun L H => ?_⟩
              obtain ⟨v2, a2, b2⟩ := (r2 L H).get z
              rw [a] at a2; cases a2; exact b2
          · cases k3
      have Kq : ∃ kws, KwdV W.K n9 kws ∧ (∀ q ∈ d.kwd, ∃ v, (q.1, v) ∈ kws ∧ ∀ L H, RepT W L H v q.2) ∧ (d.kwd = [] → kws = []) := by
        clear e c c2 c3 k2 k3 D
        generalize d.kwd = dl at k4 ⊢
        cases dl with
        | nil => exact ⟨[], .inl rfl, (fun q hq => by cases hq), fun _ => rfl⟩
        | cons k r =>
          cases n9 <;> first | cases k4 | skip
          rename_i D
          have k4 : ((k :: r).all fun q => (match PySem.W.nsIn W.K D q.1 with
            | some (some u) => relT W.K q.2 u
            | _ => false)) = true := k4
          refine ⟨(k :: r).map fun q => (q.1, kwdV W.K (.ref D) q.1), .inr ⟨D, rfl, fun q hq => ?_⟩, fun q hq => ?_, fun z => by cases z⟩
          · obtain ⟨p, hp, rfl⟩ := List.mem_map.mp hq
            have z := List.all_eq_true.mp k4 p hp
            unfold kwdV
            dsimp only at z ⊢
            split at z
            · rename_i u eu
              rw [eu]
              exact ⟨u, rfl, (relT_ok (W := W) z).1⟩
            · cases z
          · have z := List.all_eq_true.mp k4 q hq
            refine ⟨kwdV W.K (.ref D) q.1, List.mem_map_of_mem (f := fun q : Str × T => (q.1, kwdV W.K (.ref D) q.1)) hq, fun L H => ?_⟩
            unfold kwdV
            dsimp only at z ⊢
            split at z
            · exact (relT_ok (W := W) z).2 L H
            · cases z
      obtain ⟨dvs, D1, D2, D3, D4⟩ := D
      obtain ⟨kws, K1, K2, K3⟩ := Kq
      exact ⟨_, dvs, kws, ⟨⟨oc, od, n8, n9, n10, n11, n12, n13, n14, osl, rfl, q, k1, D1, K1⟩, kp⟩, D2, D3, K2, D4, K3⟩
    | _ => cases c2
end Kp
set_option autoImplicit false
set_option maxRecDepth 10000
set_option maxHeartbeats 4000000
namespace Kp
open PySem L2 PySem.Spec PyProof.Rows
structure Rw where
  dd : List (Nat × Dd)
  cls : List (Nat × Str)
  conn : List (Nat × Str)
  fldn : List (Nat × Str)
  mn : List (Nat × Str)
  itd : List (Nat × Dd × Dd)
  /-- the exceptions' classes, their __init__ -/
  exn : List (Nat × Str)
  exd : List (Nat × Dd)
  file : Str
def look0 {α : Type} (l : List (Nat × α)) (d : α) (k : Nat) : α := (l.lookup k).getD d
def clsN (r : Rw) (k : Nat) : Str := match r.cls.lookup k with
  | some x => x
  | none => look0 r.exn Str.empty k
def psOf (d : Dd) : List Str := d.params.args.map (·.arg) ++ d.params.kwonlyargs.map (·.arg)
def psF (r : Rw) (f : Nat) : List Str := match r.dd.lookup f with
  | some d => psOf d
  | none => []
def mpsOf (r : Rw) (t : Tb) (m : Nat) : List Str := match t.meth.filter (fun q => decide (q.1.2 = m)) with
  | [] => []
  | q :: qs => if qs.all (fun p => decide (psF r p.2 = psF r q.2)) then psF r q.2 else []
def Rw.ns (r : Rw) (t : Tb) (K : PySem.W.Frag) : NS where
  W := { K := K, fnm := look0 r.fldn Str.empty, mnm := look0 r.mn Str.empty, ca := fun k => He.ga K (clsN r k), fa := fun f => (match r.dd.lookup f with | some d => adr K d.pl | none => 0), fld := t.info.fld,
         dun := fun f => (match r.dd.lookup f with | some d => d.params.kwonlyargs.isEmpty | none => false) }
  cnm k := r.cls.lookup k
  gnm i := r.conn.lookup i
  fnn f := match r.dd.lookup f with
    | some d => (match d.pl with | .g x => some x | _ => none)
    | none => none
  psn f := match r.dd.lookup f with
    | some d => psOf d
    | none => []
  ips k := match t.info.init k with
    | some f => psF r f
    | none => []
  mps := mpsOf r t
  stn f := match r.dd.lookup f with
    | some d => (match d.pl with | .s C x => some (C, x) | _ => none)
    | none => none
  kwp k kns := decide kns.Nodup && kns.all fun n => decide (k ≤ n)
  xnm k := r.exn.lookup k
def isFnKind : ScopeKind → Bool
  | .function => true
  | _ => false
def notFree : NameKind → Bool
  | .free => false
  | _ => true
def scB (N ps : List Str) (sc : Scope) : Bool := isFnKind sc.kind && !sc.isCoroutine && !sc.isGenerator && decide N.Nodup && decide (N.take ps.length = ps) && ps.all (fun x => locB sc x) && sc.names.all fun y => notFree y.2
theorem scB_ok {N ps : List Str} {sc : Scope} (h : scB N ps sc = true) : FnScope N ps sc := by
  unfold scB at h
  obtain ⟨h, h7⟩ := ba h
  obtain ⟨h, h6⟩ := ba h
  obtain ⟨h, h5⟩ := ba h
  obtain ⟨h, h4⟩ := ba h
  obtain ⟨h, h3⟩ := ba h
  obtain ⟨h1, h2⟩ := ba h
  refine ⟨?_, nb h2, nb h3, of_decide_eq_true h4, of_decide_eq_true h5, fun x hx => ?_, fun y hy => ?_⟩
  · revert h1; cases sc.kind <;> first | (intro _; rfl) | (intro z; cases z)
  · have z := List.all_eq_true.mp h6 x hx
    unfold locB at z
    split at z
    · exact .inl (by assumption)
    · exact .inr (by assumption)
    · cases z
  · have z := List.all_eq_true.mp h7 y hy
    intro e
    rw [e] at z; cases z
def dflB (d : Dd) (p : Nat) (t : T) : Bool :=
  (decide (p < d.params.args.length) && decide (d.params.args.length - d.dfl.length ≤ p) && (match d.dfl[p - (d.params.args.length - d.dfl.length)]? with | some u => beqT u t | none => false)) ||
  (decide (d.params.args.length ≤ p) && (match (psOf d)[p]? with | some x => d.kwd.any (fun q => decide (q.1 = x) && beqT q.2 t) | none => false))
def defB (r : Rw) (t : Tb) (K : PySem.W.Frag) (f : Nat) (fd : Fn) : Bool := match r.dd.lookup f with
  | some d => scB d.N (psOf d) d.scope && decide (d.N.length = fd.ns) && decide ((psOf d).length = fd.np) && decide (d.params.args.length = fd.po) && d.params.posonlyargs.isEmpty && d.params.vararg.isNone && d.params.kwarg.isNone && decide (d.dfl.length ≤ d.params.args.length) &&
      mSs (r.ns t K) d.N d.scope fd.body d.body
  | none => false
def supScB (N : List Str) (sc : Scope) : Bool := isFnKind sc.kind && !sc.isCoroutine && !sc.isGenerator && decide N.Nodup && N.all (fun x => decide (sc.names.lookup x = some .local)) && sc.names.all (fun y => !decide (y.2 = .cell)) &&
  sc.names.all (fun y => !decide (y.2 = .free) || decide (y.1 = "__class__")) && decide (sc.names.lookup ("__class__" : Str) = some .free) && decide (sc.names.lookup ("super" : Str) = some .globalImplicit)
theorem supScB_ok {N : List Str} {sc : Scope} (h : supScB N sc = true) : SupScope N sc := by
  unfold supScB at h
  obtain ⟨h, h9⟩ := ba h
  obtain ⟨h, h8⟩ := ba h
  obtain ⟨h, h7⟩ := ba h
  obtain ⟨h, h6⟩ := ba h
  obtain ⟨h, h5⟩ := ba h
  obtain ⟨h, h4⟩ := ba h
  obtain ⟨h, h3⟩ := ba h
  obtain ⟨h1, h2⟩ := ba h
  refine ⟨?_, nb h2, nb h3, of_decide_eq_true h4, fun x hx => of_decide_eq_true (List.all_eq_true.mp h5 x hx), fun x hx => of_decide_eq_false (nb (List.all_eq_true.mp h6 x hx)), fun x hx => ?_, of_decide_eq_true h8, of_decide_eq_true h9⟩
  · revert h1; cases sc.kind <;> first | (intro _; rfl) | (intro z; cases z)
  · have m := PySem.mem_of_lookup hx
    rcases Bool.or_eq_true_iff.mp (List.all_eq_true.mp h7 _ m) with z | z
    · exact absurd rfl (of_decide_eq_false (nb z))
    · exact of_decide_eq_true z
def supB (r : Rw) (ks : List Nat) (d : Dd) : Bool := supScB d.N d.scope && decide (ks.length ≤ 2) && d.N.all okName && decide (d.params.args.map (·.arg) = d.N) && d.params.posonlyargs.isEmpty && d.params.kwonlyargs.isEmpty && d.params.vararg.isNone && d.params.kwarg.isNone &&
  (match d.body with
    | .Expr (.Call (.Attribute (.Call (.Name s _) [] [] _) i p2) [.Constant (.str _) _ _] [] p4) _ :: rest => decide (s = "super") && decide (i = "__init__") && (p2.endLine == p4.line) && restB d.N (ks.map (look0 r.fldn Str.empty)) rest
    | _ => false)
def statB (r : Rw) (t : Tb) (K : PySem.W.Frag) : Bool :=
  (t.exc.all fun q => (match r.exd.lookup q.1 with | some d => supB r q.2 d | none => false)) &&
  (t.defs.all fun q => defB r t K q.1 q.2) && (t.dfl.all fun q => (match r.dd.lookup q.1.1 with | some d => dflB d q.1.2 q.2 | none => false))
def cpl (l : List (Nat × Nat)) : List (Nat × Nat × Nat) := l.flatMap fun q => l.filterMap fun p => if p.1 = q.1 then some (q.1, q.2, p.2) else none
def namB (r : Rw) (t : Tb) : Bool :=
  (t.fld.all fun q => t.fld.all fun p => !decide (p.1 = q.1) || !decide (look0 r.fldn Str.empty p.2 = look0 r.fldn Str.empty q.2) || decide (p.2 = q.2)) &&
  (t.meth.all fun q => t.fld.all fun p => !decide (p.1 = q.1.1) || !decide (look0 r.fldn Str.empty p.2 = look0 r.mn Str.empty q.1.2)) &&
  (decide (look0 r.mn Str.empty 1 = "__contains__") && decide (look0 r.mn Str.empty 2 = "__len__") && decide (look0 r.mn Str.empty 3 = "__eq__") && decide (look0 r.mn Str.empty 4 = "__le__") && decide (look0 r.mn Str.empty 5 = "__and__") && decide (look0 r.mn Str.empty 6 = "__or__") &&
    decide (look0 r.mn Str.empty 7 = "__sub__") && decide (look0 r.mn Str.empty 8 = "__getitem__") && decide (look0 r.mn Str.empty 9 = "__setitem__") && decide (look0 r.mn Str.empty 10 = "__call__") && decide (look0 r.mn Str.empty 11 = "__ior__")) &&
  (t.iter.all fun q => t.fld.contains q) && (t.meth.all fun q => !decide (q.1.2 < 20) || (match r.dd.lookup q.2 with | some d => d.params.kwonlyargs.isEmpty | none => false)) &&
  (t.prop.all fun q => (match r.dd.lookup q.2 with | some d => d.params.kwonlyargs.isEmpty | none => false))
def eqO (a b : Option (Option Value)) : Bool := decide (a = b)
def clsB (K : PySem.W.Frag) (C : Addr) : Bool := PySem.W.plainGet K C Str.empty && (PySem.W.hasDictIn K C && (PySem.W.plainOver K C && eqO (PySem.W.findIn K (.ref C) "__setattr__") (some (some (.builtin "object.__setattr__")))))
theorem clsB_ok {K : PySem.W.Frag} {C : Addr} (c : clsB K C = true) : Cls K C := by
  obtain ⟨c1, c⟩ := ba c
  obtain ⟨c2, c⟩ := ba c
  obtain ⟨c3, c4⟩ := ba c
  exact ⟨c1, c2, c3, of_decide_eq_true c4⟩
def isiB (K : PySem.W.Frag) (C : Addr) : Bool := eqO (PySem.W.findIn K (.ref C) "__class__") (some (some (.builtin "object.__class__"))) && eqO (PySem.W.specialIn K (.builtin "object.__class__") "__get__") (some (some (.builtin "getset_descriptor.__get__"))) &&
  decide (PySem.W.takesIn K (.builtin "object.__class__") = some true) && decide (PySem.W.mroIn K C (.type "object") = some true)
def gloB (K : PySem.W.Frag) (x : Str) (a : Addr) : Bool := eqO (PySem.W.nsIn K mainGlobals x) (some (some (.ref a)))
def oneB (K : PySem.W.Frag) (C : Addr) (m b fn : Str) (d : Dd) : Bool :=
  eqO (PySem.W.findIn K (.ref C) m) (some (some (.ref (adr K d.pl)))) && PySem.W.isFn K (.ref (adr K d.pl)) && d.dfl.isEmpty && d.kwd.isEmpty && scB d.N (psOf d) d.scope && d.params.kwonlyargs.isEmpty && d.params.posonlyargs.isEmpty && d.params.vararg.isNone && d.params.kwarg.isNone &&
  (match psOf d, d.body with
    | [sn], [.Return (some (.Call (.Name b' p1) [.Attribute (.Name sn' p2) fn' p3] [] p4)) p5] => decide (b' = b) && decide (sn' = sn) && decide (fn' = fn) && decide (d.N[0]? = some sn) && okName sn
    | _, _ => false) && glB d.scope b && d.ok K
def caN (r : Rw) (K : PySem.W.Frag) (k : Nat) : Addr := He.ga K (clsN r k)
def faN (r : Rw) (K : PySem.W.Frag) (f : Nat) : Addr := match r.dd.lookup f with
  | some d => adr K d.pl
  | none => 0
def kB1 (r : Rw) (t : Tb) (K : PySem.W.Frag) : Bool :=
  (r.conn.all fun q => (match PySem.W.nsIn K mainGlobals q.2 with | some (some u) => relT K (t.info.gcon q.1) u | _ => false)) &&
  ((("iter" : Str) :: bltNames).all fun x => eqO (PySem.W.nsIn K mainGlobals x) (some none)) &&
  (r.dd.all fun q => (match q.2.pl with | .g x => gloB K x (adr K q.2.pl) | _ => true))
def kB2 (r : Rw) (K : PySem.W.Frag) : Bool :=
  r.cls.all fun q => gloB K q.2 (He.ga K q.2) && PySem.W.keepIn K (.ref (He.ga K q.2)) && clsB K (He.ga K q.2) && isiB K (He.ga K q.2) &&
    (PySem.W.notFirst K (He.ga K q.2) (.ref (He.ga K q.2)) && PySem.W.selfFirst K (He.ga K q.2) && PySem.W.noSeq K (He.ga K q.2))
def kB3 (r : Rw) (t : Tb) (K : PySem.W.Frag) : Bool :=
  (t.fld.all fun q => (r.cls.lookup q.1).isSome && eqO (PySem.W.findIn K (.ref (caN r K q.1)) (look0 r.fldn Str.empty q.2)) (some none)) &&
  (t.meth.all fun q => (r.cls.lookup q.1.1).isSome && eqO (PySem.W.findIn K (.ref (caN r K q.1.1)) (look0 r.mn Str.empty q.1.2)) (some (some (.ref (faN r K q.2)))) && PySem.W.isFn K (.ref (faN r K q.2)) && PySem.W.keepIn K (.ref (faN r K q.2)) && PySem.W.fnIn K (faN r K q.2))
def kB4 (r : Rw) (t : Tb) (K : PySem.W.Frag) : Bool :=
  (t.init.all fun q => PySem.W.makesIn K (caN r K q.1) && eqO (PySem.W.findIn K (.ref (caN r K q.1)) "__init__") (some (some (.ref (faN r K q.2)))) && PySem.W.isFn K (.ref (faN r K q.2)) && PySem.W.keepIn K (.ref (caN r K q.1))) &&
  (t.prop.all fun q => (r.cls.lookup q.1.1).isSome && (eqO (PySem.W.findIn K (.ref (caN r K q.1.1)) (look0 r.fldn Str.empty q.1.2)) (some (some (.ref (He.ma K (caN r K q.1.1) (look0 r.fldn Str.empty q.1.2))))) &&
    eqO (PySem.W.specialIn K (.ref (He.ma K (caN r K q.1.1) (look0 r.fldn Str.empty q.1.2))) "__get__") (some (some (.builtin "property.__get__"))) && decide (PySem.W.takesIn K (.ref (He.ma K (caN r K q.1.1) (look0 r.fldn Str.empty q.1.2))) = some true) &&
    (match PySem.W.recIn K (He.ma K (caN r K q.1.1) (look0 r.fldn Str.empty q.1.2)) "property" with | some (.ref g :: _) => decide (g = faN r K q.2) | _ => false))) &&
  (t.iter.all fun q => (r.cls.lookup q.1).isSome && t.fld.contains q && (match r.itd.lookup q.1 with
    | some (d1, d2) => oneB K (caN r K q.1) "__iter__" "iter" (look0 r.fldn Str.empty q.2) d1 && oneB K (caN r K q.1) "__len__" "len" (look0 r.fldn Str.empty q.2) d2
    | none => false))
def sread (K : PySem.W.Frag) (C : Addr) : Bool := PySem.W.readsIn K C (.type "type")
def kB5 (r : Rw) (K : PySem.W.Frag) : Bool := r.dd.all fun q => (match q.2.pl with
  | .s C x => gloB K C (He.ga K C) && sread K (He.ga K C) && (match PySem.W.findCls K (.ref (He.ga K C)) (.type "type") x with
      | some (.get (.builtin g) (.ref p) .none (.ref D)) => decide (g = "staticmethod.__get__") && decide (p = He.ma K (He.ga K C) x) && decide (D = He.ga K C)
      | _ => false) && (match PySem.W.recIn K (He.ma K (He.ga K C) x) "staticmethod" with
      | some (.ref _ :: _) => true
      | _ => false)
  | _ => true)
def oexB (K : PySem.W.Frag) (C : Addr) : Bool := (match K.lookup C with
    | some ⟨.type c, _, .cls cd, sl⟩ => decide (c = "type") && (match cd.mro with | .ref D :: bm => decide (D = C) && PySem.HandSPX.refsVE bm | _ => false) && cd.hasDict && !cd.hasDel && (match sl.toList with | [_, _, _, _, some (.builtin n), _] => decide (n = "ValueError.__new__") | _ => false)
    | _ => false) && eqO (PySem.W.findIn K (.ref C) "__setattr__") (some (some (.builtin "object.__setattr__"))) && decide (PySem.W.subIn K (.ref C) (.type "BaseException") = some true) && decide (PySem.W.typeIn K (.ref C) = some (.type "type")) && PySem.W.keepIn K (.ref C)
def supKB (K : PySem.W.Frag) (C f : Addr) (d : Dd) (file : Str) : Bool := (match K.lookup f with
    | some ⟨_, _, .func fd, _⟩ => (match fd.closure with | [(n, cc)] => decide (n = "__class__") && (match K.lookup cc with | some ⟨_, _, .cell (some (.ref D)), _⟩ => decide (D = C) | _ => false) | _ => false) &&
      (match fd.code with | .ref cda => PySem.W.codeIn K (.ref cda) d.qual && (match K.lookup cda with | some ⟨_, _, .fields vs, _⟩ => (match vs[2]? with | some (Value.str fl _) => file == fl | _ => false) | _ => false) | _ => false) && (match fd.defaults with | .none => true | _ => false)
    | _ => false) && eqO (PySem.W.nsIn K mainGlobals "super") (some none) && eqO (PySem.W.nsIn K cStatics "thirdparty.any") (some none) && eqO (PySem.W.ks_superIn K C C "__init__") (some (some (.builtin "ValueError.__init__"))) &&
    decide (PySem.W.subIn K (.ref C) (.type "ValueError") = some true) && decide (PySem.W.mroIn K C (.ref C) = some true) && eqO (PySem.W.findIn K (.ref C) "__init__") (some (some (.ref f))) && decide (PySem.W.typeIn K (.ref f) = some (.type "function"))
def kB6a (r : Rw) (t : Tb) (K : PySem.W.Frag) : Bool := t.exc.all fun q => (match r.exn.lookup q.1, r.exd.lookup q.1 with
  | some x, some d => decide (caN r K q.1 = He.ga K x) && gloB K x (He.ga K x) && oexB K (He.ga K x) && supKB K (He.ga K x) (adr K d.pl) d r.file && (q.2.map (look0 r.fldn Str.empty)).all fun f => eqO (PySem.W.findIn K (.ref (He.ga K x)) f) (some none)
  | _, _ => false)
def excB (K : PySem.W.Frag) (D : Addr) : Bool := eqO (PySem.W.findIn K (.ref D) "__getattribute__") (some (some (.builtin "BaseException.__getattribute__"))) && eqO (PySem.W.findIn K (.ref D) "__getattr__") (some none) && decide (PySem.W.subIn K (.ref D) (.type "BaseException") = some true) && PySem.W.hasDictIn K D &&
  eqO (PySem.W.findIn K (.ref D) "__class__") (some (some (.builtin "object.__class__"))) && eqO (PySem.W.specialIn K (.builtin "object.__class__") "__get__") (some (some (.builtin "getset_descriptor.__get__"))) && decide (PySem.W.takesIn K (.builtin "object.__class__") = some true) && decide (PySem.W.mroIn K D (.type "object") = some true)
theorem excB_ok {K : PySem.W.Frag} {D : Addr} (h : excB K D = true) : ExcC K D ∧ XfC K D := by
  unfold excB at h
  obtain ⟨h, h8⟩ := ba h
  obtain ⟨h, h7⟩ := ba h
  obtain ⟨h, h6⟩ := ba h
  obtain ⟨h, h5⟩ := ba h
  obtain ⟨h, h4⟩ := ba h
  obtain ⟨h, h3⟩ := ba h
  obtain ⟨h1, h2⟩ := ba h
  exact ⟨⟨of_decide_eq_true h1, of_decide_eq_true h2, of_decide_eq_true h3, h4, of_decide_eq_true h5, of_decide_eq_true h6, of_decide_eq_true h7, of_decide_eq_true h8⟩, ⟨of_decide_eq_true h1, of_decide_eq_true h2, of_decide_eq_true h3, h4⟩⟩
def oB (a : Option Bool) (b : Bool) : Bool := match a with
  | some c => c == b
  | none => false
theorem oB_ok {a : Option Bool} {b : Bool} (h : oB a b = true) : a = some b := by
  unfold oB at h
  split at h
  · rw [eq_of_beq h]
  · cases h
def kB7 (r : Rw) (t : Tb) (K : PySem.W.Frag) : Bool := eqO (PySem.W.nsIn K mainGlobals "ValueError") (some none) && (r.exn.all fun q => decide (caN r K q.1 = He.ga K q.2) && gloB K q.2 (He.ga K q.2)) &&
  (t.sub.all fun q => excB K (caN r K q.1.1) && oB (PySem.W.kitOne K (.ref (caN r K q.1.1)) (.type "ValueError")) true && oB (PySem.W.kitOne K (.ref (caN r K q.1.1)) (.ref (caN r K q.1.2))) q.2 && oB (PySem.W.exmOne K (.ref (caN r K q.1.1)) (.ref (caN r K q.1.2))) q.2) &&
  (t.exc.all fun q => q.2.all fun f => eqO (PySem.W.findIn K (.ref (caN r K q.1)) (look0 r.fldn Str.empty f)) (some none) && q.2.all fun g => !decide (look0 r.fldn Str.empty g = look0 r.fldn Str.empty f) || decide (g = f))
def kB6 (r : Rw) (t : Tb) (K : PySem.W.Frag) : Bool := kB6a r t K && kB7 r t K
def fnAtX (K : PySem.W.Frag) (p : Pl) : FnW' := match K.lookup (adr K p) with
  | some ⟨_, _, .func fd, _⟩ => some (fd.name, fd.qualname, fd.params, fd.body, fd.scope, fd.globals, [], fd.builtins)
  | _ => none
def kB (r : Rw) (t : Tb) (K : PySem.W.Frag) : Bool := kB1 r t K && (kB2 r K && (kB3 r t K && (kB4 r t K && (kB5 r K && kB6 r t K))))
def Rw.dds (r : Rw) : List Dd := r.dd.map (·.2) ++ r.itd.flatMap fun q => [q.2.1, q.2.2]
abbrev AlK : Type := Bool × List FnW'
def obsK (r : Rw) (t : Tb) (K : PySem.W.Frag) : AlK := (kB r t K && r.dds.all fun d => d.ok K, (r.dds.map fun d => fnAt K d.pl) ++ r.exd.map fun q => fnAtX K q.2.pl)
def valK (r : Rw) : AlK := (true, r.dds.map Dd.val ++ r.exd.map fun q => q.2.val)
def SaysK (r : Rw) (t : Tb) (K : PySem.W.Frag) : Prop := obsK r t K = valK r
def obsKG (n : Nat) (r : Rw) (t : Tb) (g : Addr → Option Obj) : AlK := obsK r t (He.frG g (He.asD g n ++ [cStatics]))
def hookK (n : Nat) (r : Rw) (t : Tb) : PySem.W.Hook where
  α := AlK
  obs := fun s => obsKG n r t s.heap.get?
  val := fun _ => valK r
  says := fun _ h => ∃ K : PySem.W.Frag, K.In h ∧ SaysK r t K
  of := fun _ _ e => ⟨_, He.frG_in, e⟩
  keeps := fun _ _ _ ⟨K, hK, c⟩ k => ⟨K, PySem.W.Frag.In.keeps hK k, c⟩
theorem obsKG_eq {n : Nat} {r : Rw} {t : Tb} {g : Addr → Option Obj} {s : Shared} (h : ∀ a, g a = s.heap.get? a) : obsKG n r t g = (hookK n r t).obs s := by
  have e : g = s.heap.get? := funext h
  rw [e] <;> rfl
section
variable {r : Rw} {t : Tb} {K : PySem.W.Frag}
theorem lk_mem {α β : Type} [BEq α] [LawfulBEq α] {x : α} {y : β} : ∀ {l : List (α × β)}, l.lookup x = some y → (x, y) ∈ l
  | [], h => by cases h
  | (a, b) :: l, h => by
    rw [List.lookup_cons] at h
    split at h
    · rename_i e
      cases h
      rw [eq_of_beq e]
      exact List.mem_cons_self ..
    · exact List.mem_cons_of_mem _ (lk_mem h)
theorem SaysK.kb (c : SaysK r t K) : kB r t K = true := (ba (show (kB r t K && r.dds.all fun d => d.ok K) = true from congrArg (fun z : AlK => z.1) c)).1
theorem SaysK.dd (c : SaysK r t K) {d : Dd} (h : d ∈ r.dds) : fnAt K d.pl = d.val ∧ d.ok K = true := by
  have c2 := (ba (show (kB r t K && r.dds.all fun d => d.ok K) = true from congrArg (fun z : AlK => z.1) c)).2
  have e0 : (r.dds.map fun d => fnAt K d.pl) ++ (r.exd.map fun q => fnAtX K q.2.pl) = r.dds.map Dd.val ++ r.exd.map fun q => q.2.val := congrArg (fun z : AlK => z.2) c
  have e : r.dds.map (fun d => fnAt K d.pl) = r.dds.map Dd.val := (List.append_inj e0 (by rw [List.length_map, List.length_map])).1
  refine ⟨?_, List.all_eq_true.mp c2 d h⟩
  obtain ⟨i, hi⟩ := List.mem_iff_getElem?.mp h
  have e2 : (r.dds.map fun d => fnAt K d.pl)[i]? = (r.dds.map Dd.val)[i]? := by rw [e]
  rw [List.getElem?_map, List.getElem?_map, hi] at e2
  exact Option.some.inj e2
theorem SaysK.xd (c : SaysK r t K) {q : Nat × Dd} (h : q ∈ r.exd) : fnAtX K q.2.pl = q.2.val := by
  have e0 : (r.dds.map fun d => fnAt K d.pl) ++ (r.exd.map fun q => fnAtX K q.2.pl) = r.dds.map Dd.val ++ r.exd.map fun q => q.2.val := congrArg (fun z : AlK => z.2) c
  have e := (List.append_inj e0 (by rw [List.length_map, List.length_map])).2
  obtain ⟨i, hi⟩ := List.mem_iff_getElem?.mp h
  have e2 : (r.exd.map fun q => fnAtX K q.2.pl)[i]? = (r.exd.map fun q => q.2.val)[i]? := by rw [e]
  rw [List.getElem?_map, List.getElem?_map, hi] at e2
  exact Option.some.inj e2
theorem dd_mem {f : Nat} {d : Dd} (h : r.dd.lookup f = some d) : d ∈ r.dds := List.mem_append_left _ (List.mem_map.mpr ⟨(f, d), lk_mem h, rfl⟩)
theorem itd_mem {k : Nat} {d1 d2 : Dd} (h : r.itd.lookup k = some (d1, d2)) : d1 ∈ r.dds ∧ d2 ∈ r.dds := by
  have m := lk_mem h
  exact ⟨List.mem_append_right _ (List.mem_flatMap.mpr ⟨_, m, by simp⟩), List.mem_append_right _ (List.mem_flatMap.mpr ⟨_, m, by simp⟩)⟩
theorem cls_in {k : Nat} (h : (r.cls.lookup k).isSome = true) : ∃ x, (k, x) ∈ r.cls ∧ clsN r k = x := by
  obtain ⟨x, e⟩ := Option.isSome_iff_exists.mp h
  exact ⟨x, lk_mem e, by unfold clsN; rw [e]⟩
end
end Kp
set_option autoImplicit false
set_option maxRecDepth 10000
set_option maxHeartbeats 4000000
namespace Kp
open PySem L2 PySem.Spec PyProof.Rows
section
variable {r : Rw} {t : Tb} {K : PySem.W.Frag} {hp : Heap} {mg : Str → Option Value}
theorem all_mem {α : Type} {l : List α} {p : α → Bool} (h : l.all p = true) {x : α} (m : x ∈ l) : p x = true := List.all_eq_true.mp h x m
theorem eqO_ok {a b : Option (Option Value)} (h : eqO a b = true) : a = b := of_decide_eq_true h
theorem faN_eq {f : Nat} : (r.ns t K).W.fa f = faN r K f := rfl
theorem df_of (c : SaysK r t K) (st : statB r t K = true) {f : Nat} {fd : Fn} (e : t.info.tbl f = some fd) : ∃ d, Df t.info (r.ns t K) f fd d ∧ d.params.args.length = fd.po ∧ ∃ x, r.dd.lookup f = some x ∧ d.params = x.params ∧ (x.dfl = [] → d.dvs = []) ∧ (x.kwd = [] → d.kws = []) := by
  obtain ⟨st1, st2⟩ := ba st
  obtain ⟨_, st1⟩ := ba st1
  have z := all_mem st1 (lk_mem e)
  unfold defB at z
  cases ed : r.dd.lookup f with
  | none => rw [ed] at z; cases z
  | some x =>
    rw [ed] at z
    dsimp only at z
    obtain ⟨z, z9⟩ := ba z
    obtain ⟨z, z8⟩ := ba z
    obtain ⟨z, z7⟩ := ba z
    obtain ⟨z, z6⟩ := ba z
    obtain ⟨z, z5⟩ := ba z
    obtain ⟨z, z4⟩ := ba z
    obtain ⟨z, z3⟩ := ba z
    obtain ⟨z1, z2⟩ := ba z
    obtain ⟨c1, c2⟩ := c.dd (dd_mem ed)
    obtain ⟨fdata, dvs, kws, F, D2, D3, K2, D4, K3⟩ := Dd.fund (W := (r.ns t K).W) c1 c2
    have hps : (r.ns t K).psn f = psOf x := by show (match r.dd.lookup f with | some d => psOf d | none => []) = _; rw [ed]
    have hfa : (r.ns t K).W.fa f = adr K x.pl := by show (match r.dd.lookup f with | some d => adr K d.pl | none => 0) = _; rw [ed]
    refine ⟨⟨x.N, x.name, x.qual, x.params, x.body, x.scope, dvs, kws, fdata⟩, ⟨by rw [hfa]; exact F, by rw [hps]; exact scB_ok z1, of_decide_eq_true z2, by rw [hps]; exact of_decide_eq_true z3, z9, hps, List.isEmpty_iff.mp z5, Option.isNone_iff_eq_none.mp z6, Option.isNone_iff_eq_none.mp z7, by rw [D2]; exact of_decide_eq_true z8, fun p u e2 hp => ?_⟩, of_decide_eq_true z4, x, rfl, rfl, D4, K3⟩
    have y := all_mem st2 (lk_mem e2)
    dsimp only at y
    rw [ed] at y
    have y : dflB x p u = true := y
    unfold dflB at y
    rcases Bool.or_eq_true_iff.mp y with y | y
    · obtain ⟨y, y3⟩ := ba y
      obtain ⟨y1, y2⟩ := ba y
      left
      split at y3
      · rename_i u' eu
        cases beqT_eq _ _ y3
        obtain ⟨v, a, b⟩ := D3 _ _ eu
        exact ⟨of_decide_eq_true y1, by dsimp only; rw [D2]; exact of_decide_eq_true y2, v, by dsimp only; rw [D2]; exact a, b⟩
      · cases y3
    · obtain ⟨y1, y2⟩ := ba y
      right
      split at y2
      · rename_i xx ex
        obtain ⟨q, hq, h2⟩ := List.any_eq_true.mp y2
        obtain ⟨h2, h3⟩ := ba h2
        obtain ⟨v, a, b⟩ := K2 q hq
        rw [beqT_eq _ _ h3] at b
        rw [of_decide_eq_true h2] at a
        exact ⟨of_decide_eq_true y1, xx, v, by rw [hps]; exact ex, a, b⟩
      · cases y2
theorem cls_all (c : SaysK r t K) {k : Nat} (h : (r.cls.lookup k).isSome = true) : Cls K (caN r K k) ∧ ClsF K (caN r K k) ∧ IsiC K (caN r K k) := by
  obtain ⟨x, m, e⟩ := cls_in h
  have kb := c.kb
  unfold kB at kb
  obtain ⟨_, kb⟩ := ba kb
  obtain ⟨kb, _⟩ := ba kb
  have z := all_mem kb m
  dsimp only at z
  obtain ⟨z, z5⟩ := ba z
  obtain ⟨z, z4⟩ := ba z
  obtain ⟨z, z3⟩ := ba z
  obtain ⟨y, y3⟩ := ba z5
  obtain ⟨y1, y2⟩ := ba y
  have C := clsB_ok z3
  unfold caN
  rw [e]
  refine ⟨C, ⟨C, y1, y2, y3⟩, ?_⟩
  unfold isiB at z4
  obtain ⟨q, q4⟩ := ba z4
  obtain ⟨q, q3⟩ := ba q
  obtain ⟨q1, q2⟩ := ba q
  exact ⟨C, eqO_ok q1, eqO_ok q2, of_decide_eq_true q3, of_decide_eq_true q4⟩
theorem fac_of (c : SaysK r t K) (nm : namB r t = true) : Facts t.info (r.ns t K).W := by
  have kb := c.kb
  unfold kB at kb
  obtain ⟨kb1, kb⟩ := ba kb
  obtain ⟨kb2, kb⟩ := ba kb
  obtain ⟨kb3, kb4⟩ := ba kb
  obtain ⟨kb4, kb5⟩ := ba kb4
  obtain ⟨kb5, kb6⟩ := ba kb5
  unfold kB3 at kb3
  obtain ⟨f1, f2⟩ := ba kb3
  unfold namB at nm
  obtain ⟨nm, n6⟩ := ba nm
  obtain ⟨nm, n5⟩ := ba nm
  obtain ⟨nm, n4⟩ := ba nm
  obtain ⟨nm, n3⟩ := ba nm
  obtain ⟨n1, n2⟩ := ba nm
  obtain ⟨n3, m11⟩ := ba n3
  obtain ⟨n3, m10⟩ := ba n3
  obtain ⟨n3, m9⟩ := ba n3
  obtain ⟨n3, m8⟩ := ba n3
  obtain ⟨n3, m7⟩ := ba n3
  obtain ⟨n3, m6⟩ := ba n3
  obtain ⟨n3, m5⟩ := ba n3
  obtain ⟨n3, m4⟩ := ba n3
  obtain ⟨n3, m3⟩ := ba n3
  obtain ⟨m1, m2⟩ := ba n3
  have fm : ∀ {k f : Nat}, t.info.fld k f = true → (k, f) ∈ t.fld := fun h => List.contains_iff_mem.mp h
  refine ⟨fun k m f e => ?_, fun k f e => ?_, rfl, fun k f g e1 e2 e3 => ?_, fun k m f g e1 e2 => ?_, of_decide_eq_true m1, of_decide_eq_true m2, of_decide_eq_true m3, of_decide_eq_true m4, of_decide_eq_true m5, of_decide_eq_true m6, of_decide_eq_true m7, of_decide_eq_true m8, of_decide_eq_true m9, of_decide_eq_true m10, of_decide_eq_true m11, fun k m f e hm => ?_⟩
  · have z := all_mem f2 (lk_mem e)
    dsimp only at z
    obtain ⟨z, z5⟩ := ba z
    obtain ⟨z, z4⟩ := ba z
    obtain ⟨z, z3⟩ := ba z
    obtain ⟨z1, z2⟩ := ba z
    exact ⟨⟨eqO_ok z2, z3, z4⟩, (cls_all c z1).2.1, z5⟩
  · have z := all_mem f1 (fm e)
    dsimp only at z
    obtain ⟨z1, z2⟩ := ba z
    exact ⟨(cls_all c z1).1, eqO_ok z2⟩
  · have z := all_mem (all_mem n1 (fm e1)) (fm e2)
    dsimp only at z
    rcases Bool.or_eq_true_iff.mp z with z | z
    · rcases Bool.or_eq_true_iff.mp z with z | z
      · simp at z
      · have := of_decide_eq_false (nb z)
        exact absurd e3.symm this
    · exact (of_decide_eq_true z).symm
  · have z := all_mem (all_mem n2 (lk_mem e1)) (fm e2)
    dsimp only at z
    rcases Bool.or_eq_true_iff.mp z with z | z
    · simp at z
    · exact of_decide_eq_false (nb z)
  · have z := all_mem n5 (lk_mem e)
    dsimp only at z
    rcases Bool.or_eq_true_iff.mp z with z | z
    · exact absurd hm (of_decide_eq_false (nb z))
    · exact z
theorem mps_of {k m f : Nat} (e : t.info.meth k m = some f) : mpsOf r t m = [] ∨ mpsOf r t m = psF r f := by
  have h : ((k, m), f) ∈ t.meth.filter fun q => decide (q.1.2 = m) := List.mem_filter.mpr ⟨lk_mem e, decide_eq_true rfl⟩
  unfold mpsOf
  generalize t.meth.filter (fun q => decide (q.1.2 = m)) = l at h ⊢
  cases l with
  | nil => exact .inl rfl
  | cons q qs =>
    dsimp only
    split
    · rename_i z
      rcases List.mem_cons.mp h with h | h
      · rw [← h]; exact .inr rfl
      · exact .inr (of_decide_eq_true (all_mem z h)).symm
    · exact .inl rfl
theorem st_of (c : SaysK r t K) (kb5 : kB5 r K = true) (X : K.In hp) (G : hp.Ns mainGlobals mg) {f : Nat} {x n : Str} (e : (r.ns t K).stn f = some (x, n)) : StM K mg x n ((r.ns t K).W.fa f) := by
  have e : (match r.dd.lookup f with
    | some d => (match d.pl with | .s C x => some (C, x) | _ => none)
    | none => none) = some (x, n) := e
  cases ed : r.dd.lookup f with
  | none => rw [ed] at e; cases e
  | some d =>
    rw [ed] at e
    dsimp only at e
    have hfa : (r.ns t K).W.fa f = adr K d.pl := by show (match r.dd.lookup f with | some d => adr K d.pl | none => 0) = _; rw [ed]
    have z := all_mem kb5 (lk_mem ed)
    dsimp only at z
    cases ep : d.pl with
    | s C y =>
      rw [ep] at e z
      cases e
      obtain ⟨z, z4⟩ := ba z
      obtain ⟨z, z3⟩ := ba z
      obtain ⟨z1, z2⟩ := ba z
      have kp := (c.dd (dd_mem ed)).2
      unfold Dd.ok at kp
      have kp := (ba kp).1
      rw [ep] at kp
      rw [hfa, ep]
      have cr : ClX.CRead K (He.ga K x) (.type "type") := by
        refine ⟨z2, ?_⟩
        unfold sread PySem.W.readsIn at z2
        obtain ⟨h, _⟩ := ba z2
        obtain ⟨h, _⟩ := ba h
        obtain ⟨h, h3⟩ := ba h
        obtain ⟨_, h2⟩ := ba h
        unfold PySem.W.specialIn
        rw [beq_iff_eq.mp h2, Option.bind_some]
        exact beq_iff_eq.mp h3
      split at z3
      · rename_i g p D ef
        obtain ⟨y1, y3⟩ := ba z3
        obtain ⟨y1, y2⟩ := ba y1
        rw [of_decide_eq_true y1, of_decide_eq_true y2, of_decide_eq_true y3] at ef
        split at z4
        · rename_i gg rest er
          refine ⟨He.ga K x, He.ma K (He.ga K x) n, rest, PySem.W.mg_of X G (eqO_ok z1), cr, ef, ?_, kp⟩
          have : recHd K (He.ma K (He.ga K x) n) "staticmethod" = gg := by unfold recHd; rw [er]
          show _ = some (Value.ref (recHd K (He.ma K (He.ga K x) n) "staticmethod") :: rest)
          rw [this]
          exact er
        · cases z4
      · cases z3
    | g a => rw [ep] at e; cases e
    | m a b => rw [ep] at e; cases e
    | p a b => rw [ep] at e; cases e
theorem prg_of {P : Program} {w : World} (c : SaysK r t K) (st : statB r t K = true) (nm : namB r t = true) (X : K.In hp) (G : hp.Ns mainGlobals mg) : Prg P w mg t.info (r.ns t K) := by
  have fac := fac_of c nm
  have kb := c.kb
  unfold kB at kb
  obtain ⟨kb1, kb⟩ := ba kb
  obtain ⟨kb2, kb⟩ := ba kb
  obtain ⟨kb3, kb4⟩ := ba kb
  obtain ⟨kb4, kb5⟩ := ba kb4
  obtain ⟨kb5, kb6⟩ := ba kb5
  unfold kB1 at kb1
  obtain ⟨kb1, b3⟩ := ba kb1
  obtain ⟨b1, b2⟩ := ba kb1
  unfold kB4 at kb4
  obtain ⟨kb4, d3⟩ := ba kb4
  obtain ⟨d1, d2⟩ := ba kb4
  have nm0 := nm
  unfold namB at nm
  obtain ⟨nm, n6⟩ := ba nm
  obtain ⟨nm, n5⟩ := ba nm
  obtain ⟨nm, n4⟩ := ba nm
  refine ⟨fac, fun i x e => ?_, fun x hx => ?_, ?_, fun f x e => ?_, fun k x e => ?_, fun k x e => ?_, fun k f e => ?_, fun f fd e => ?_, fun f fd hd e => ?_, fun k kns h => ?_, fun f x n e => ?_, fun k m f e => ?_, fun k f e => ?_, fun k f e => ?_, fun k f g e => ?_⟩
  · have z := all_mem b1 (lk_mem e)
    dsimp only at z
    split at z
    · rename_i u eu
      obtain ⟨a, b⟩ := relT_ok (W := (r.ns t K).W) z
      exact ⟨vOf u, u, PySem.W.mg_of X G eu, a, b⟩
    · cases z
  · exact PySem.W.mg_none_of X G (eqO_ok (all_mem b2 (List.mem_cons_of_mem _ hx)))
  · exact PySem.W.mg_none_of X G (eqO_ok (all_mem b2 (List.mem_cons_self ..)))
  · have e : (match r.dd.lookup f with
      | some d => (match d.pl with | .g x => some x | _ => none)
      | none => none) = some x := e
    cases ed : r.dd.lookup f with
    | none => rw [ed] at e; cases e
    | some d =>
      rw [ed] at e
      dsimp only at e
      have hfa : (r.ns t K).W.fa f = adr K d.pl := by show (match r.dd.lookup f with | some d => adr K d.pl | none => 0) = _; rw [ed]
      have z := all_mem b3 (lk_mem ed)
      dsimp only at z
      cases ep : d.pl with
      | g y =>
        rw [ep] at e z
        cases e
        rw [hfa, ep]
        refine ⟨PySem.W.mg_of X G (eqO_ok z), ?_⟩
        have := (c.dd (dd_mem ed)).2
        unfold Dd.ok at this
        rw [ep] at this
        exact (ba this).1
      | m a b => rw [ep] at e; cases e
      | p a b => rw [ep] at e; cases e
      | s a b => rw [ep] at e; cases e
  · have z := all_mem kb2 (lk_mem e)
    dsimp only at z
    obtain ⟨z, _⟩ := ba z
    obtain ⟨z, _⟩ := ba z
    obtain ⟨z, _⟩ := ba z
    obtain ⟨z1, z2⟩ := ba z
    have hx : (r.ns t K).W.ca k = He.ga K x := by
      show He.ga K (clsN r k) = _
      unfold clsN
      rw [show r.cls.lookup k = some x from e]
    rw [hx]
    exact ⟨PySem.W.mg_of X G (eqO_ok z1), z2⟩
  · exact (cls_all c (by rw [show r.cls.lookup k = some x from e]; rfl)).2.2
  · exact all_mem n4 (lk_mem e)
  · obtain ⟨d, D1, D2, _⟩ := df_of c st e
    exact ⟨d, D1, D2⟩
  · obtain ⟨d, D1, D2, x, ex, epar, _⟩ := df_of c st e
    have hd : (match r.dd.lookup f with | some d => d.params.kwonlyargs.isEmpty | none => false) = true := hd
    rw [ex] at hd
    have h0 : x.params.kwonlyargs = [] := List.isEmpty_iff.mp hd
    have l := D1.plen
    rw [D1.psn, epar, h0] at l
    rw [← l, ← D2, epar]
    simp
  · obtain ⟨h1, h2⟩ := ba (show (decide kns.Nodup && kns.all fun n => decide (k ≤ n)) = true from h)
    exact ⟨of_decide_eq_true h1, fun n hn => of_decide_eq_true (all_mem h2 hn)⟩
  · exact st_of c kb5 X G e
  · exact mps_of e
  · show (match t.info.init k with | some f => psF r f | none => []) = _
    rw [e]
    rfl
  · have z := all_mem d1 (lk_mem e)
    dsimp only at z
    obtain ⟨z, z4⟩ := ba z
    obtain ⟨z, z3⟩ := ba z
    obtain ⟨z1, z2⟩ := ba z
    exact ⟨z1, eqO_ok z2, z3, z4⟩
  · have z := all_mem d2 (lk_mem e)
    dsimp only at z
    obtain ⟨z1, z⟩ := ba z
    obtain ⟨z, z5⟩ := ba z
    obtain ⟨z, z4⟩ := ba z
    obtain ⟨z2, z3⟩ := ba z
    have hg := all_mem n6 (lk_mem e)
    refine ⟨hg, (cls_all c z1).1, He.ma K (caN r K k) (look0 r.fldn Str.empty f), eqO_ok z2, eqO_ok z3, of_decide_eq_true z4, ?_⟩
    split at z5
    · rename_i gg rest er
      have := of_decide_eq_true z5
      subst this
      exact ⟨rest, er⟩
    · cases z5
theorem one_of {C : Addr} {m b fn : Str} {x : Dd} (hm : x ∈ r.dds) (c : SaysK r t K) (o : oneB K C m b fn x = true) (hc : Cls K C) (na : NoAttr K C fn) (hb : mg b = none) : ∃ fi d sn, One K mg C m b fn fi d sn := by
  unfold oneB at o
  obtain ⟨o, o12⟩ := ba o
  obtain ⟨o, o11⟩ := ba o
  obtain ⟨o, o10⟩ := ba o
  obtain ⟨o, o9⟩ := ba o
  obtain ⟨o, o8⟩ := ba o
  obtain ⟨o, o7⟩ := ba o
  obtain ⟨o, o6⟩ := ba o
  obtain ⟨o, o5⟩ := ba o
  obtain ⟨o, o4⟩ := ba o
  obtain ⟨o, o3⟩ := ba o
  obtain ⟨o1, o2⟩ := ba o
  obtain ⟨c1, c2⟩ := c.dd hm
  obtain ⟨fdata, dvs, kws, F, D2, D3, K2, D4, K3⟩ := Dd.fund (W := (r.ns t K).W) c1 c2
  have ed := D4 (List.isEmpty_iff.mp o3)
  have ek := K3 (List.isEmpty_iff.mp o4)
  rw [ed, ek] at F
  have hko := List.isEmpty_iff.mp o6
  split at o10
  · rename_i sn b' p1 sn' p2 fn' p3 p4 p5 e1 e2
    obtain ⟨q, q5⟩ := ba o10
    obtain ⟨q, q4⟩ := ba q
    obtain ⟨q, q3⟩ := ba q
    obtain ⟨q1, q2⟩ := ba q
    have e1' := e1
    unfold psOf at e1'
    rw [hko] at e1'
    simp only [List.map_nil, List.append_nil] at e1'
    refine ⟨adr K x.pl, ⟨x.N, x.name, x.qual, x.params, x.body, x.scope, [], [], fdata⟩, sn, ⟨eqO_ok o1, o2, F, ?_, ⟨p1, p2, p3, p4, p5, ?_⟩, e1', hko, List.isEmpty_iff.mp o7, Option.isNone_iff_eq_none.mp o8, Option.isNone_iff_eq_none.mp o9, of_decide_eq_true q4, o11, q5, hc, na, hb⟩⟩
    · have := scB_ok o5
      rw [e1] at this
      exact this
    · show x.body = _
      rw [e2, of_decide_eq_true q1, of_decide_eq_true q2, of_decide_eq_true q3]
  · cases o10
theorem it_of (c : SaysK r t K) (nm : namB r t = true) (X : K.In hp) (G : hp.Ns mainGlobals mg) : ∀ k f, t.info.iter k = some f → ItD (r.ns t K).W.K mg ((r.ns t K).W.ca k) ((r.ns t K).W.fnm f) := by
  intro k f e
  have kb := c.kb
  unfold kB at kb
  obtain ⟨kb1, kb⟩ := ba kb
  obtain ⟨kb2, kb⟩ := ba kb
  obtain ⟨kb3, kb4⟩ := ba kb
  obtain ⟨kb4, kb5⟩ := ba kb4
  obtain ⟨kb5, kb6⟩ := ba kb5
  unfold kB1 at kb1
  obtain ⟨kb1, b3⟩ := ba kb1
  obtain ⟨b1, b2⟩ := ba kb1
  unfold kB4 at kb4
  obtain ⟨kb4, d3⟩ := ba kb4
  unfold kB3 at kb3
  obtain ⟨f1, f2⟩ := ba kb3
  have z := all_mem d3 (lk_mem e)
  dsimp only at z
  obtain ⟨z, z3⟩ := ba z
  obtain ⟨z1, z2⟩ := ba z
  have na := all_mem f1 (List.contains_iff_mem.mp z2)
  dsimp only at na
  have na := eqO_ok (ba na).2
  have hc := (cls_all c z1).1
  split at z3
  · rename_i x1 x2 ei
    obtain ⟨o1, o2⟩ := ba z3
    obtain ⟨m1, m2⟩ := itd_mem ei
    exact ⟨one_of m1 c o1 hc na (PySem.W.mg_none_of X G (eqO_ok (all_mem b2 (List.mem_cons_self ..)))), one_of m2 c o2 hc na (PySem.W.mg_none_of X G (eqO_ok (all_mem b2 (by decide +kernel))))⟩
  · cases z3
theorem oexB_ok {C : Addr} (h : oexB K C = true) : OexC K C := by
  unfold oexB at h
  obtain ⟨h, h5⟩ := ba h
  obtain ⟨h, h4⟩ := ba h
  obtain ⟨h, h3⟩ := ba h
  obtain ⟨h1, h2⟩ := ba h
  refine ⟨?_, eqO_ok h2, of_decide_eq_true h3, of_decide_eq_true h4, h5⟩
  split at h1
  · rename_i cn dd cd sl lk
    simp only [Bool.and_eq_true] at h1
    obtain ⟨⟨⟨⟨q1, q2⟩, q3⟩, q4⟩, q5⟩ := h1
    cases of_decide_eq_true q1
    obtain ⟨nm, bs, mro, ns, qn, hd, sn, sub, ab, col, del⟩ := cd
    dsimp only at q2 q3 q4
    split at q2
    · rename_i D bm
      obtain ⟨z1, z2⟩ := ba q2
      cases of_decide_eq_true z1
      split at q5
      · rename_i k0 k1 k2 k3 n k5 es
        cases of_decide_eq_true q5
        have esl : sl = #[k0, k1, k2, k3, some (.builtin "ValueError.__new__"), k5] := by
          cases sl with | mk l => simp only at es; rw [es]
        subst esl
        have q4 := nb q4
        subst q3 q4
        exact ⟨nm, qn, ns, bs, bm, sn, sub, ab, col, dd, k0, k1, k2, k3, k5, lk, z2⟩
      · cases q5
    · cases q2
  · cases h1
theorem xg_of {P : Program} (c : SaysK r t K) (st : statB r t K = true) (X : K.In hp) (G : hp.Ns mainGlobals mg) (hfile : ((P.main.file : Str) == r.file) = true) (htop : (P.main.scope.names.lookup ("super" : Str)).isSome = false) :
    ∀ k ks x, t.info.exc k = some ks → (r.ns t K).xnm k = some x → ks.length ≤ 2 ∧ Xc P (r.ns t K).W.K mg ((r.ns t K).W.ca k) (ks.map (r.ns t K).W.fnm) ∧ mg x = some (.ref ((r.ns t K).W.ca k)) := by
  intro k ks x e ex
  have e : t.exc.lookup k = some ks := e
  have ex : r.exn.lookup k = some x := ex
  have kb := c.kb
  unfold kB at kb
  obtain ⟨kb1, kb⟩ := ba kb
  obtain ⟨kb2, kb⟩ := ba kb
  obtain ⟨kb3, kb4⟩ := ba kb
  obtain ⟨kb4, kb5⟩ := ba kb4
  obtain ⟨kb5, kb6⟩ := ba kb5
  unfold kB6 at kb6
  obtain ⟨kb6, _⟩ := ba kb6
  have z := all_mem kb6 (lk_mem e)
  dsimp only at z
  rw [ex] at z
  obtain ⟨st1, st2⟩ := ba st
  obtain ⟨st0, st1⟩ := ba st1
  have y := all_mem st0 (lk_mem e)
  dsimp only at y
  cases ed : r.exd.lookup k with
  | none => rw [ed] at y; cases y
  | some d =>
    rw [ed] at y z
    dsimp only at y z
    obtain ⟨z, z5⟩ := ba z
    obtain ⟨z, z4⟩ := ba z
    obtain ⟨z, z3⟩ := ba z
    obtain ⟨z1, z2⟩ := ba z
    have hca : (r.ns t K).W.ca k = He.ga K x := of_decide_eq_true z1
    unfold supB at y
    obtain ⟨y, y9⟩ := ba y
    obtain ⟨y, y8⟩ := ba y
    obtain ⟨y, y7⟩ := ba y
    obtain ⟨y, y6⟩ := ba y
    obtain ⟨y, y5⟩ := ba y
    obtain ⟨y, y4⟩ := ba y
    obtain ⟨y, y3⟩ := ba y
    obtain ⟨y1, y2⟩ := ba y
    rw [hca]
    refine ⟨of_decide_eq_true y2, ⟨?_, fun f hf => eqO_ok (all_mem z5 hf)⟩, PySem.W.mg_of X G (eqO_ok z2)⟩
    have at_ := c.xd (lk_mem ed)
    dsimp only at at_
    unfold fnAtX at at_
    unfold supKB at z4
    obtain ⟨z4, w8⟩ := ba z4
    obtain ⟨z4, w7⟩ := ba z4
    obtain ⟨z4, w6⟩ := ba z4
    obtain ⟨z4, w5⟩ := ba z4
    obtain ⟨z4, w4⟩ := ba z4
    obtain ⟨z4, w3⟩ := ba z4
    obtain ⟨w1, w2⟩ := ba z4
    cases q : K.lookup (adr K d.pl) with
    | none => rw [q] at w1; cases w1
    | some o =>
      obtain ⟨oc, od, dt, osl⟩ := o
      rw [q] at w1 at_
      cases dt with
      | func fd =>
        obtain ⟨n1, n2, n3, n4, n5, n6, n7, n8, n9, n10, n11, n12, n13, n14, n15⟩ := fd
        have e2 : (some (n1, n2, n3, n4, n5, n6, [], n15) : FnW') = some (d.name, d.qual, d.params, .stmts d.body, d.scope, mainGlobals, [], builtinsNs) := at_
        simp only [Option.some.injEq, Prod.mk.injEq] at e2
        obtain ⟨h1, h2, h3, h4, h5, h6, _, h8⟩ := e2
        subst h1 h2 h3 h4 h5 h6 h8
        dsimp only at w1
        simp only [Bool.and_eq_true] at w1
        obtain ⟨⟨v1, v2⟩, v3⟩ := w1
        split at v1
        · rename_i nn cc
          simp only [Bool.and_eq_true] at v1
          obtain ⟨v0, v4⟩ := v1
          cases of_decide_eq_true v0
          split at v4
          · rename_i cl cld D csl lkc
            cases of_decide_eq_true v4
            split at v2
            · rename_i cda
              simp only [Bool.and_eq_true] at v2
              obtain ⟨u1, u2⟩ := v2
              split at u2
              · rename_i ccl cdd vs ccs lkd
                split at u2
                · rename_i fl tf ef
                  have hd0 : n8 = .none := by cases n8 <;> first | rfl | cases v3
                  subst hd0
                  split at y9
                  · rename_i s0 p0 p1 i0 p2 txt j p3 p4 p5 rest eb
                    simp only [Bool.and_eq_true] at y9
                    obtain ⟨⟨⟨x1, x2⟩, x3⟩, x4⟩ := y9
                    cases of_decide_eq_true x1
                    cases of_decide_eq_true x2
                    have sc := supScB_ok y1
                    refine ⟨adr K d.pl, cc, cda, d.name, d.qual, d.params, rest, d.scope, n9, n10, n11, n14, n12, d.N, p0, p1, p2, p3, p4, p5, txt, j, ?_, u1, sc, x3, x4, y3, of_decide_eq_true y4, List.isEmpty_iff.mp y5, List.isEmpty_iff.mp y6, Option.isNone_iff_eq_none.mp y7, Option.isNone_iff_eq_none.mp y8, eqO_ok w7, of_decide_eq_true w8⟩
                    refine ⟨oexB_ok z3, ⟨_, _, _, lkc⟩, ⟨_, _, vs, _, fl, tf, lkd, ef, ?_⟩, ⟨oc, od, osl, ?_⟩, PySem.W.mg_none_of X G (eqO_ok w2), htop, eqO_ok w3, eqO_ok w4, of_decide_eq_true w5, of_decide_eq_true w6⟩
                    · rw [eq_of_beq hfile]; exact u2
                    · rw [← eb]; exact q
                  · cases y9
                · cases u2
              · cases u2
            · cases v2
          · cases v4
        · cases v1
      | _ => cases w1
theorem tg_of (c : SaysK r t K) (X : K.In hp) (G : hp.Ns mainGlobals mg) : Trg mg t.info (r.ns t K) := by
  have kb := c.kb
  unfold kB at kb
  obtain ⟨kb1, kb⟩ := ba kb
  obtain ⟨kb2, kb⟩ := ba kb
  obtain ⟨kb3, kb⟩ := ba kb
  obtain ⟨kb4, kb⟩ := ba kb
  obtain ⟨kb5, kb⟩ := ba kb
  unfold kB6 at kb
  obtain ⟨_, kb⟩ := ba kb
  unfold kB7 at kb
  obtain ⟨kb, g4⟩ := ba kb
  obtain ⟨kb, g3⟩ := ba kb
  obtain ⟨g1, g2⟩ := ba kb
  refine ⟨PySem.W.mg_none_of X G (eqO_ok g1), fun k x e => ?_, fun k cl b e => ?_, fun k fs e f hf => ?_⟩
  · have e : r.exn.lookup k = some x := e
    obtain ⟨z1, z2⟩ := ba (all_mem g2 (lk_mem e))
    have hca : (r.ns t K).W.ca k = He.ga K x := of_decide_eq_true z1
    rw [hca]
    exact PySem.W.mg_of X G (eqO_ok z2)
  · have e : t.sub.lookup (k, cl) = some b := e
    have z := all_mem g3 (lk_mem e)
    dsimp only at z
    obtain ⟨z, z4⟩ := ba z
    obtain ⟨z, z3⟩ := ba z
    obtain ⟨z1, z2⟩ := ba z
    obtain ⟨y1, y2⟩ := excB_ok z1
    exact ⟨y1, y2, oB_ok z2, oB_ok z3, oB_ok z4⟩
  · have e : t.exc.lookup k = some fs := e
    have z := all_mem g4 (lk_mem e)
    dsimp only at z
    obtain ⟨z1, z2⟩ := ba (all_mem z hf)
    refine ⟨eqO_ok z1, fun g hg eg => ?_⟩
    rcases Bool.or_eq_true_iff.mp (all_mem z2 hg) with w | w
    · exact absurd eg (of_decide_eq_false (nb w))
    · exact of_decide_eq_true w
theorem fn0 {P : Program} {w : World} {base : Heap} {k : Nat} {f : Addr} {fd : FuncData} {ps : List Str} {sp : Sp} (F : FnOk P w K mg base (L2.CX P w) k f fd ps sp) : FnOk P w K mg base CX0 k f fd ps (fun vs H Q _ => sp vs H Q fun _ _ _ => False) :=
  ⟨fun vs H Q E h => F.len _ _ _ _ h, fun A outer s H args us vs Q E hr e0 hb r h => codeAny_mono (F.run A outer s H args us vs Q (fun _ _ _ => False) hr e0 hb r h) fun r s' hq => by
    cases r with
    | error e =>
      obtain ⟨_, _, _, _, _, _, _, _, _, _, _, _, z⟩ := hq
      exact z.elim
    | ok fl => cases fl <;> exact hq⟩
theorem law_facts {P : Program} {w : World} {f : Nat} {fd : Fn} {n N : Nat} {lx : Str} {x : Str} {fa : Addr} (c : SaysK r t K) (st : statB r t K = true) (nm : namB r t = true) (X : K.In hp) (G : hp.Ns mainGlobals mg) (e : t.info.tbl f = some fd)
    (ex : ∃ d, r.dd.lookup f = some d ∧ psOf d = [x] ∧ d.params.kwonlyargs = [] ∧ d.dfl = [] ∧ d.kwd = [] ∧ d.pl = .g lx) (hfa : mg lx = some (.ref fa))
    (hfile : ((P.main.file : Str) == r.file) = true) (htop : (P.main.scope.names.lookup ("super" : Str)).isSome = false)
    (plain : ∀ ns : List Int, ns.length ≤ n → ∃ h', callN t.info N f [.t (.ro (ns.map T.int))] [] = .ok (.t (.bl true)) h') :
    ∃ (fdata : FuncData) (sp : Sp), (∀ (s : Shared) (u : Value), BindsTo s fdata ⟨[u], []⟩ [(x, u)]) ∧ (∀ (H : Hp) (a : Addr) (ns : List Int), ns.length ≤ n → Only H → SqL K H a (ns.map V.int) → sp [.ref a] H (fun v _ => v = .bl true) fun _ _ _ => False) ∧
      ∀ base : Heap, K.In base → base.Ns mainGlobals mg → FnOk P w K mg base CX0 (2 * N + 5) fa fdata [x] sp := by
  obtain ⟨dx, ed, ep, eko, edf, ekw, epl⟩ := ex
  obtain ⟨d, D1, D2, x', ex', epar, hdv, hkv⟩ := df_of c st e
  rw [ed] at ex'
  cases ex'
  have G1 := prg_of (P := P) (w := w) c st nm X G
  have hps : (r.ns t K).psn f = [x] := by show (match r.dd.lookup f with | some d => psOf d | none => []) = _; rw [ed]; exact ep
  have hff : (r.ns t K).fnn f = some lx := by
    show (match r.dd.lookup f with
      | some d => (match d.pl with | .g x => some x | _ => none)
      | none => none) = some lx
    rw [ed]
    dsimp only
    rw [epl]
  have hfa2 := (G1.fnk f lx hff).1
  rw [hfa] at hfa2
  have hfa3 : fa = (r.ns t K).W.fa f := by cases hfa2; rfl
  refine ⟨d.fdata, fun vs H Q _ => spF t.info (r.ns t K) N f vs H Q fun _ _ _ => False, fun s u => ?_, fun H a ns hl ho hs => ?_, fun base KB NB => ?_⟩
  · obtain ⟨oc, od, dV, kV, doc, pm, an, cdv, ct, osl, efd, lk0, hcd, hD, hK⟩ := D1.fun_.ex
    have hdv' : dV = .none := by
      rcases hD with ⟨_, e⟩ | ⟨e, _⟩
      · exact e
      · exact absurd (hdv edf) e
    have ea : d.params.args.map (·.arg) = [x] := by
      have := D1.psn
      rw [hps, epar, eko] at this
      rw [epar]; simpa using this.symm
    refine BindsTo.of_looks fun M => ?_
    rw [efd]
    have := bind_gen (K := []) (M := M) (hp := s.heap) (fd := PySem.W.fnOf d.name d.qual d.params d.body d.scope dV kV doc pm an cdv ct) (us := [u]) (its := []) (vals := [u]) (kw := []) (pa := [x]) (pk := []) (fun _ _ z => by cases z) ea (by rw [show (PySem.W.fnOf d.name d.qual d.params d.body d.scope dV kV doc pm an cdv ct).params.kwonlyargs = [] from by rw [← eko]; exact congrArg _ epar]; rfl) D1.po D1.va D1.ka
      (by simp) (by simp) (by simp) (by simp) (.inl ⟨hdv', rfl⟩) .nil (fun p hp => by cases hp) (fun i n v e1 e2 => .inl e2)
    exact this
  · obtain ⟨h', eh⟩ := plain ns hl
    refine ⟨by rw [hps]; rfl, fun _ => False, [], [], [.t (.ro (ns.map T.int))], ⟨rfl, ?_, ?_, ?_, fun a z => z.elim⟩, .cons (.t (.ro ?_)) .nil, ?_⟩
    · intro i j a o u e1; simp at e1
    · intro i a o e1; simp at e1
    · intro i o e1; simp at e1
    · rcases hs with hs | ⟨o, its, n, h1, h2, h3, h4, h5, h6⟩
      · refine .inl ⟨hs, ?_⟩
        rintro (z | z)
        · obtain ⟨i, o, e1, _⟩ := z
          simp at e1
        · exact z
      · exact .inr ⟨o, its, n, h1, h2, h3, h4, h5, h6⟩
    · rw [eh]
      exact fun ρ' v H' R' E' xr => xr.bl
  · have A := all_ok (base := base) G1 (tg_of c X G) (it_of c nm X G) (xg_of c st X G hfile htop) N f fd d e D1
    rw [hps, ← hfa3] at A
    exact fn0 A
end
end Kp
set_option maxHeartbeats 0
namespace K6
open PySem PySem.Spec PyProof.Rows L2 Kp
def top (i : Nat) : Stmt := PySem.Challenge.pw_keptpairs_k06_a_book_and_its_names.main.body.getD i (.Pass ⟨0, 0, 0, 0⟩)
def d344 : Dd := ⟨.g "is_pair", "is_pair", "is_pair", defArgs (top 12), defBody (top 12), defScope (top 12), [], [], ["pair"]⟩
def d123 : Dd := ⟨.m "Pairs" "__init__", "__init__", "Pairs.__init__", defArgs (inClass (top 13) 0), defBody (inClass (top 13) 0), defScope (inClass (top 13) 0), [.tup []], [], ["self", "pairs", "given", "pair", "rows", "first", "second"]⟩
def d126 : Dd := ⟨.m "Pairs" "__len__", "__len__", "Pairs.__len__", defArgs (inClass (top 13) 2), defBody (inClass (top 13) 2), defScope (inClass (top 13) 2), [], [], ["self"]⟩
def d121 : Dd := ⟨.m "Pairs" "__contains__", "__contains__", "Pairs.__contains__", defArgs (inClass (top 13) 3), defBody (inClass (top 13) 3), defScope (inClass (top 13) 3), [], [], ["self", "pair"]⟩
def d122 : Dd := ⟨.m "Pairs" "__eq__", "__eq__", "Pairs.__eq__", defArgs (inClass (top 13) 4), defBody (inClass (top 13) 4), defScope (inClass (top 13) 4), [], [], ["self", "other"]⟩
def d125 : Dd := ⟨.m "Pairs" "__le__", "__le__", "Pairs.__le__", defArgs (inClass (top 13) 5), defBody (inClass (top 13) 5), defScope (inClass (top 13) 5), [], [], ["self", "other", "pair"]⟩
def d120 : Dd := ⟨.m "Pairs" "__and__", "__and__", "Pairs.__and__", defArgs (inClass (top 13) 6), defBody (inClass (top 13) 6), defScope (inClass (top 13) 6), [], [], ["self", "other", "pair"]⟩
def d127 : Dd := ⟨.m "Pairs" "__or__", "__or__", "Pairs.__or__", defArgs (inClass (top 13) 7), defBody (inClass (top 13) 7), defScope (inClass (top 13) 7), [], [], ["self", "other"]⟩
def d128 : Dd := ⟨.m "Pairs" "__sub__", "__sub__", "Pairs.__sub__", defArgs (inClass (top 13) 8), defBody (inClass (top 13) 8), defScope (inClass (top 13) 8), [], [], ["self", "other", "pair"]⟩
def d129 : Dd := ⟨.s "Pairs" "product", "product", "Pairs.product", defArgs (inClass (top 13) 9), defBody (inClass (top 13) 9), defScope (inClass (top 13) 9), [], [], ["firsts", "seconds", "first", "second"]⟩
def d339 : Dd := ⟨.g "is_fence_name", "is_fence_name", "is_fence_name", defArgs (top 16), defBody (top 16), defScope (top 16), [], [], ["name", "char"]⟩
def d343 : Dd := ⟨.g "is_number", "is_number", "is_number", defArgs (top 17), defBody (top 17), defScope (top 17), [], [], ["number", "least", "greatest"]⟩
def d340 : Dd := ⟨.g "is_instruction", "is_instruction", "is_instruction", defArgs (top 18), defBody (top 18), defScope (top 18), [], [], ["item"]⟩
def d319 : Dd := ⟨.g "check_program", "check_program", "check_program", defArgs (top 19), defBody (top 19), defScope (top 19), [], [], ["program", "thread", "index"]⟩
def d310 : Dd := ⟨.g "access_indices", "access_indices", "access_indices", defArgs (top 20), defBody (top 20), defScope (top 20), [], [], ["thread", "index"]⟩
def d311 : Dd := ⟨.g "accesses", "accesses", "accesses", defArgs (top 21), defBody (top 21), defScope (top 21), [], [], ["thread", "item"]⟩
def d354 : Dd := ⟨.g "needs_of", "needs_of", "needs_of", defArgs (top 23), defBody (top 23), defScope (top 23), [], [], ["book", "program", "needs", "thread", "places", "rows", "second", "first"]⟩
def d345 : Dd := ⟨.g "is_ready", "is_ready", "is_ready", defArgs (top 24), defBody (top 24), defScope (top 24), [], [], ["needs", "line", "access", "number"]⟩
def d355 : Dd := ⟨.g "next_accesses", "next_accesses", "next_accesses", defArgs (top 25), defBody (top 25), defScope (top 25), [], [], ["needs", "line", "found", "thread", "number"]⟩
def d384 : Dd := ⟨.g "value_read", "value_read", "value_read", defArgs (top 26), defBody (top 26), defScope (top 26), [], [], ["threads", "line", "access", "cell", "own", "earlier", "place", "thread", "number", "item"]⟩
def d322 : Dd := ⟨.g "contents_after", "contents_after", "contents_after", defArgs (top 27), defBody (top 27), defScope (top 27), [], [], ["threads", "line", "contents", "cell", "value", "place", "item", "thread"]⟩
def d369 : Dd := ⟨.g "read_places", "read_places", "read_places", defArgs (top 28), defBody (top 28), defScope (top 28), [], [], ["threads", "places", "thread", "number"]⟩
def d379 : Dd := ⟨.g "takes_told_value", "takes_told_value", "takes_told_value", defArgs (top 29), defBody (top 29), defScope (top 29), [], [], ["threads", "line", "access", "reads", "places", "index"]⟩
def d337 : Dd := ⟨.g "has_line", "has_line", "has_line", defArgs (top 30), defBody (top 30), defScope (top 30), [], [], ["threads", "needs", "line", "outcome", "free", "access"]⟩
def d316 : Dd := ⟨.g "check_known", "check_known", "check_known", defArgs (top 31), defBody (top 31), defScope (top 31), [], [], ["book", "program", "thread", "item"]⟩
def d101 : Dd := ⟨.m "Book" "__init__", "__init__", "Book.__init__", defArgs (inClass (top 32) 0), defBody (inClass (top 32) 0), defScope (inClass (top 32) 0), [], [("fences", .non), ("early", .bl false), ("coherent", .bl true)], ["self", "kept", "fences", "early", "coherent", "given", "name"]⟩
def d105 : Dd := ⟨.p "Book" "names", "names", "Book.names", defArgs (inClass (top 32) 1), defBody (inClass (top 32) 1), defScope (inClass (top 32) 1), [], [], ["self", "name"]⟩
def d100 : Dd := ⟨.m "Book" "__contains__", "__contains__", "Book.__contains__", defArgs (inClass (top 32) 2), defBody (inClass (top 32) 2), defScope (inClass (top 32) 2), [], [], ["self", "item", "threads", "program", "outcome", "thread"]⟩
def d103 : Dd := ⟨.m "Book" "keeps", "keeps", "Book.keeps", defArgs (inClass (top 32) 3), defBody (inClass (top 32) 3), defScope (inClass (top 32) 3), [], [("between", .tup [])], ["self", "first", "second", "between", "name"]⟩
def d106 : Dd := ⟨.m "Book" "ordered", "ordered", "Book.ordered", defArgs (inClass (top 32) 4), defBody (inClass (top 32) 4), defScope (inClass (top 32) 4), [], [], ["self", "thread", "first", "second", "between", "one", "other", "item"]⟩
def d183 : Dd := ⟨.g "_law_draws", "_law_draws", "_law_draws", defArgs (top 34), defBody (top 34), defScope (top 34), [], [], ["_law_script", "_law_k", "_law_count", "_law_cell", "_law_number_here", "_law_great", "_law_mixed", "_law_out", "_law_n"]⟩
def d236 : Dd := ⟨.g "_law_number", "_law_number", "_law_number", defArgs (top 35), defBody (top 35), defScope (top 35), [], [], ["_law_draws_here", "_law_at", "_law_count", "_law_number_here", "_law_k"]⟩
def d215 : Dd := ⟨.g "_law_kinds", "_law_kinds", "_law_kinds", defArgs (top 36), defBody (top 36), defScope (top 36), [], [], []⟩
def d256 : Dd := ⟨.g "_law_reads", "_law_reads", "_law_reads", defArgs (top 37), defBody (top 37), defScope (top 37), [], [], []⟩
def d149 : Dd := ⟨.g "_law_all_pairs", "_law_all_pairs", "_law_all_pairs", defArgs (top 38), defBody (top 38), defScope (top 38), [], [], ["_law_out", "_law_first", "_law_second"]⟩
def d279 : Dd := ⟨.g "_law_some_pairs", "_law_some_pairs", "_law_some_pairs", defArgs (top 39), defBody (top 39), defScope (top 39), [], [], ["_law_style", "_law_mask", "_law_out", "_law_pair", "_law_load", "_law_bit", "_law_fits"]⟩
def d189 : Dd := ⟨.g "_law_fence_name", "_law_fence_name", "_law_fence_name", defArgs (top 40), defBody (top 40), defScope (top 40), [], [], ["_law_number_here", "_law_letters", "_law_rest", "_law_word", "_law_k"]⟩
def d224 : Dd := ⟨.g "_law_marks", "_law_marks", "_law_marks", defArgs (top 41), defBody (top 41), defScope (top 41), [], [], ["_law_draws_here", "_law_at", "_law_one", "_law_other", "_law_k", "_law_sign"]⟩
def d164 : Dd := ⟨.g "_law_book", "_law_book", "_law_book", defArgs (top 42), defBody (top 42), defScope (top 42), [], [], ["_law_draws_here", "_law_at", "_law_marks_here", "_law_kept", "_law_rows", "_law_k", "_law_mask"]⟩
def d270 : Dd := ⟨.g "_law_same", "_law_same", "_law_same", defArgs (top 43), defBody (top 43), defScope (top 43), [], [], ["_law_thing", "_law_due"]⟩
def d157 : Dd := ⟨.g "_law_bad_name", "_law_bad_name", "_law_bad_name", defArgs (top 44), defBody (top 44), defScope (top 44), [], [], ["_law_number_here", "_law_menu"]⟩
def d257 : Dd := ⟨.g "_law_refused", "_law_refused", "_law_refused", defArgs (top 45), defBody (top 45), defScope (top 45), [], [], ["_law_kept", "_law_further", "e", "_law_fine"]⟩
def d350 : Dd := ⟨.g "law", "law", "law", defArgs (top 46), defBody (top 46), defScope (top 46), [], [], ["_law_script", "_law_draws_here", "_law_marks_here", "_law_book_here", "_law_kept", "_law_further", "_law_row", "_law_made", "_law_due", "_law_plain", "_law_bad", "_law_word"]⟩
def rwT : Rw where
  dd := [(344, d344), (123, d123), (126, d126), (121, d121), (122, d122), (125, d125), (120, d120), (127, d127), (128, d128), (129, d129), (339, d339), (343, d343), (340, d340), (319, d319), (310, d310), (311, d311), (354, d354), (345, d345), (355, d355), (384, d384), (322, d322), (369, d369), (379, d379), (337, d337), (316, d316), (101, d101), (105, d105), (100, d100), (103, d103), (106, d106), (183, d183), (236, d236), (215, d215), (256, d256), (149, d149), (279, d279), (189, d189), (224, d224), (164, d164), (270, d270), (157, d157), (257, d257), (350, d350)]
  cls := [(12, "Pairs"), (1, "Book")]
  conn := [(4, "READS"), (5, "WRITES"), (2, "KINDS"), (1, "FULL"), (3, "LETTERS")]
  fldn := [(6, "coherent"), (8, "early"), (9, "fences"), (12, "index"), (15, "kept"), (19, "name"), (20, "names"), (25, "pair"), (32, "rows"), (40, "thread")]
  mn := [(1, "__contains__"), (2, "__len__"), (3, "__eq__"), (4, "__le__"), (5, "__and__"), (6, "__or__"), (7, "__sub__"), (8, "__getitem__"), (9, "__setitem__"), (10, "__call__"), (11, "__ior__"), (24, "keeps"), (27, "ordered")]
  itd := [(12, ⟨.m "Pairs" "__iter__", "__iter__", "Pairs.__iter__", defArgs (inClass (top 13) 1), defBody (inClass (top 13) 1), defScope (inClass (top 13) 1), [], [], ["self"]⟩, ⟨.m "Pairs" "__len__", "__len__", "Pairs.__len__", defArgs (inClass (top 13) 2), defBody (inClass (top 13) 2), defScope (inClass (top 13) 2), [], [], ["self"]⟩)]
  exn := [(11, "OrderError"), (3, "InvalidPair"), (2, "InvalidBook"), (5, "InvalidProgram"), (16, "UnknownName")]
  exd := [(3, ⟨.m "InvalidPair" "__init__", "__init__", "InvalidPair.__init__", defArgs (inClass (top 3) 0), defBody (inClass (top 3) 0), defScope (inClass (top 3) 0), [], [], ["self", "pair"]⟩), (2, ⟨.m "InvalidBook" "__init__", "__init__", "InvalidBook.__init__", defArgs (inClass (top 4) 0), defBody (inClass (top 4) 0), defScope (inClass (top 4) 0), [], [], ["self", "name"]⟩), (5, ⟨.m "InvalidProgram" "__init__", "__init__", "InvalidProgram.__init__", defArgs (inClass (top 5) 0), defBody (inClass (top 5) 0), defScope (inClass (top 5) 0), [], [], ["self", "thread", "index"]⟩), (16, ⟨.m "UnknownName" "__init__", "__init__", "UnknownName.__init__", defArgs (inClass (top 6) 0), defBody (inClass (top 6) 0), defScope (inClass (top 6) 0), [], [], ["self", "name"]⟩)]
  file := PySem.Challenge.pw_keptpairs_k06_a_book_and_its_names.main.file
def loose0 : List PySem.Str := ["_wall", "OrderError", "InvalidPair", "InvalidBook", "InvalidProgram", "UnknownName", "READS", "WRITES", "KINDS", "FULL", "is_pair", "Pairs", "LETTERS", "is_fence_name", "is_number", "is_instruction", "check_program", "access_indices", "accesses", "needs_of"]
def loose1 : List PySem.Str := ["is_ready", "next_accesses", "value_read", "contents_after", "read_places", "takes_told_value", "has_line", "check_known", "Book", "_law_draws", "_law_number", "_law_kinds", "_law_reads", "_law_all_pairs", "_law_some_pairs", "_law_fence_name", "_law_marks", "_law_book", "_law_same", "_law_bad_name"]
def loose2 : List PySem.Str := ["_law_refused"]
def loose : List PySem.Str := loose0 ++ loose1 ++ loose2
theorem stat (K : PySem.W.Frag) : statB rwT tb K = true := by kernel_rfl
theorem nams : namB rwT tb = true := by kernel_rfl
abbrev R : PySem.W.OpenRow := PySem.W.OpenLaw.row PySem.Challenge.rw_keptpairs_k06_a_book_and_its_names
abbrev hk : PySem.W.Hook := hookK 6 rwT tb
def ob (s : PySem.W.SharedT) : AlK := obsKG 6 rwT tb (HandSHeadRun.getT s)
theorem ob_eq (s : PySem.W.SharedT) : ob s = hk.obs s.abs := obsKG_eq (HandSHeadRun.getT_eq s)
theorem run (w : World) : HandSHeadRun.RunEq R (PySem.W.view R.prog [46]) hk ob 8000 loose w := by
  intro os
  kernel_rfl
end K6
open PySem PySem.W PySem.Calls PyProof.Rows
set_option maxRecDepth 100000 in
set_option maxHeartbeats 0 in
theorem PySem.Challenge.cw_keptpairs_k06_a_book_and_its_names_holds : PySem.Challenge.rw_keptpairs_k06_a_book_and_its_names.Holds := by
  w_on; o_law
  refine HandSHeadRun.head_any (r := OpenLaw.row PySem.Challenge.rw_keptpairs_k06_a_book_and_its_names) (q := view (OpenLaw.row PySem.Challenge.rw_keptpairs_k06_a_book_and_its_names).prog [46]) (H := K6.hk) (ob := K6.ob) (M := 8000) (loose := K6.loose) (d := HandSHeadRun.topDef (OpenLaw.row PySem.Challenge.rw_keptpairs_k06_a_book_and_its_names).prog 46) (kwd := []) K6.ob_eq
    (by kernel_rfl) (fun s => by kernel_rfl) K6.run (by kernel_rfl) (by kernel_rfl) (by kernel_rfl) (by rfl) (by first | assumption | decide +kernel) (by decide +kernel) ⟨rfl, rfl, rfl, rfl, rfl, by decide +kernel⟩ ?hw ?hc
  case hw => w_witness2
  case hc =>
    refine L2.walk_ofE (l := PySem.Challenge.rw_keptpairs_k06_a_book_and_its_names) (n := 63) (k := 2 * 60 + 5) (x := "_law_script") (CX := L2.CX0) rfl (by decide) (by kernel_rfl) ⟨rfl, by decide, by decide⟩ ?F (fun _ _ _ _ z => z)
    intro w mg fa h Y G hmg0
    obtain ⟨K, KX, c⟩ := Y
    have hmg : mg ("law" : PySem.Str) = some (.ref fa) := by
      have e : (HandSHeadRun.topDef (OpenLaw.row PySem.Challenge.rw_keptpairs_k06_a_book_and_its_names).prog 46).name = ("law" : PySem.Str) := by kernel_rfl
      rw [← e]
      exact hmg0
    obtain ⟨fd, sp, hb, hq, hF⟩ := Kp.law_facts (P := (PySem.Challenge.rw_keptpairs_k06_a_book_and_its_names).prog) (w := w) (n := 63) (N := 60) (f := K6.idLaw) (lx := "law") (x := "_law_script") c (K6.stat K) K6.nams KX G (by rfl) ⟨_, rfl, by kernel_rfl, by kernel_rfl, rfl, rfl, rfl⟩ hmg (by kernel_rfl) (by kernel_rfl) K6.plain
    exact ⟨K, fd, sp, KX, hb, hq, hF⟩
