import PyProof.Rows.All
import Wide.All
import OpenK.AllK
import Wide.FinOn
import HandS.ForMost
import HandS.Style
import HandS.TupAny
import HandS.Deep
import HandS.More
import HandS.Conv
import HandS.Rev
import HandS.IsInst
import HandS.StrMore
import HandS.SortInts
import HandS.SetFor
import HandS.Flow
import HandS.Wide
import HandS.Exc
import HandS.HeadHook1
import HandS.ExcInit
import HandS.ExcIs
import HandS.Defaults
import KE.KDictPairs
import HandS.RevTup
import HandS.Replace
import HandS.Strs
import HandS.SortKw
import PyProof.WalkInts
import HandS.SortOrd
import HandS.Iter
import KE.GoesMore
import HandS.CallLocal
import HandS.Zip
import KE.KUnpack
import HandS.ExcOwn
import HandS.ExcField
import HandS.Words
import HandS.ExcBuiltin
import HandS.NoneIn
import HandS.Small
import HandS.Head0
import HandS.Head1
import HandS.Head2
import HandS.HeadEnd
import HandS.HeadHook2
import KE.KStateDown
import PySem.Challenge.RW_copiedhouse_k10_what_refusals_are
set_option linter.all false
/-! A small language of Python's pure and state-passing constructs, and what its programs do. -/
namespace CH

inductive I where
  | non | bl (b : Bool) | int (i : Int) | str (s : List Nat)
  | tup (l : List I) | fl (l : List I) | xl (l : List I) | ref (n : Nat) | fa (a : Nat) (f : String) | ex (c : String) (l : List I)
deriving Inhabited

inductive O where
  | lst (l : List I) | dct (tk : Bool) (l : List (I × I)) | ins (c : String) (l : List (String × I)) | lk (l : List (I × I))

inductive D where
  | im (i : I) | ob (o : O)

structure S where
  env : List (Option D)
  hp : List O

inductive R where
  | val (i : I) | tmp (o : O) | var (k : Nat)

inductive Res (α : Type) where
  | ok (a : α) (s : S) | exc (c : String) (l : List I) (s : S) | bad

def Res.bind {α β : Type} (x : Res α) (f : α → S → Res β) : Res β := match x with
  | .ok a s => f a s
  | .exc c l s => .exc c l s
  | .bad => .bad
theorem Res.bind_ok {α β : Type} (a : α) (s : S) (f : α → S → Res β) : (Res.ok a s).bind f = f a s := rfl
theorem Res.bind_bad {α β : Type} (f : α → S → Res β) : (Res.bad : Res α).bind f = .bad := rfl
theorem Res.bind_exc {α β : Type} (c : String) (l : List I) (s : S) (f : α → S → Res β) : (Res.exc c l s : Res α).bind f = .exc c l s := rfl
theorem Res.bind_eq_ok {α β : Type} {x : Res α} {f : α → S → Res β} {b : β} {s : S} (h : x.bind f = .ok b s) : ∃ a s1, x = .ok a s1 ∧ f a s1 = .ok b s := by
  cases x with
  | ok a s1 => exact ⟨a, s1, rfl, h⟩
  | exc c l s1 => cases h
  | bad => cases h

/-- nothing that is raised leaves -/
def Res.bindN {α β : Type} (x : Res α) (f : α → S → Res β) : Res β := match x with
  | .ok a s => f a s
  | _ => .bad
def Res.noX {α : Type} (x : Res α) : Res α := match x with
  | .ok a s => .ok a s
  | _ => .bad
def opt {α : Type} (o : Option α) (s : S) : Res α := match o with
  | some a => .ok a s
  | none => .bad
def Res.req {α : Type} (c : Bool) (x : Res α) : Res α := if c = true then x else .bad

/-! ### equality -/
mutual
def I.same : I → I → Bool
  | .non, .non => true
  | .bl a, .bl b => a == b
  | .int a, .int b => a == b
  | .str a, .str b => a == b
  | .tup a, .tup b => sameL a b
  | .fl a, .fl b => sameL a b
  | .xl a, .xl b => sameL a b
  | .ref a, .ref b => a == b
  | .fa a f, .fa b g => a == b && f == g
  | .ex a l, .ex b m => a == b && sameL l m
  | _, _ => false
def sameL : List I → List I → Bool
  | [], [] => true
  | a :: r, b :: t => I.same a b && sameL r t
  | _, _ => false
end
mutual
/-- Python's == -/
def eqI : I → I → Bool
  | .non, .non => true
  | .bl a, .bl b => a == b
  | .bl a, .int j => (if a then 1 else 0) == j
  | .int i, .bl b => i == (if b then 1 else 0)
  | .int a, .int b => a == b
  | .str a, .str b => a == b
  | .tup a, .tup b => eqL a b
  | .fl a, .fl b => eqL a b
  | .fl a, .xl b => eqL a b
  | .xl a, .fl b => eqL a b
  | .xl a, .xl b => eqL a b
  | _, _ => false
def eqL : List I → List I → Bool
  | [], [] => true
  | a :: r, b :: t => eqI a b && eqL r t
  | _, _ => false
end
mutual
/-- no boxed objects within, at most so deep -/
def dep : Nat → I → Bool
  | _, .non => true
  | _, .bl _ => true
  | _, .int _ => true
  | _, .str _ => true
  | n + 1, .tup l => depL n l
  | n + 1, .fl l => depL n l
  | n + 1, .xl l => depL n l
  | _, _ => false
def depL : Nat → List I → Bool
  | _, [] => true
  | n, a :: r => dep n a && depL n r
end

/-! ### what stands where -/
def S.g (s : S) (k : Nat) : Option D := s.env.getD k none
def S.st (s : S) (k : Nat) (d : D) : S := { s with env := s.env.set k (some d) }
def S.sh (s : S) (n : Nat) (o : O) : S := { s with hp := s.hp.set n o }

/-- a value's items: a tuple's or a list's -/
def viewQ (x : R) (s : S) : Option (Bool × List I) := match x with
  | .val (.tup l) => some (true, l)
  | .val (.fl l) => some (false, l)
  | .val (.xl l) => some (false, l)
  | .val (.ref n) => match s.hp[n]? with
    | some (.lst l) => some (false, l)
    | _ => none
  | .tmp (.lst l) => some (false, l)
  | .var k => match s.g k with
    | some (.ob (.lst l)) => some (false, l)
    | _ => none
  | _ => none
def viewD (x : R) (s : S) : Option (Bool × List (I × I)) := match x with
  | .val (.ref n) => match s.hp[n]? with
    | some (.dct t l) => some (t, l)
    | _ => none
  | .tmp (.dct t l) => some (t, l)
  | .var k => match s.g k with
    | some (.ob (.dct t l)) => some (t, l)
    | _ => none
  | _ => none
/-- .. that is read: one that is gone over, too -/
def viewDr (x : R) (s : S) : Option (Bool × List (I × I)) := match x with
  | .val (.ref n) => match s.hp[n]? with
    | some (.dct t l) => some (t, l)
    | some (.lk l) => some (false, l)
    | _ => none
  | .tmp (.dct t l) => some (t, l)
  | .var k => match s.g k with
    | some (.ob (.dct t l)) => some (t, l)
    | some (.ob (.lk l)) => some (false, l)
    | _ => none
  | _ => none
/-- what is compared, looked for -/
def viewI (x : R) (s : S) : Option I := match x with
  | .val (.ref n) => match s.hp[n]? with
    | some (.lst l) => some (.fl l)
    | _ => none
  | .val i => some i
  | .tmp (.lst l) => some (.fl l)
  | .var k => match s.g k with
    | some (.ob (.lst l)) => some (.fl l)
    | _ => none
  | _ => none
/-- a value that is stored elsewhere: a list is never changed from now on -/
def asI (x : R) (s : S) : Res I := match x with
  | .val i => .ok i s
  | .tmp (.lst l) => .ok (.fl l) s
  | .var k => match s.g k with
    | some (.ob (.lst l)) => .ok (.fl l) (s.st k (.im (.fl l)))
    | _ => .bad
  | _ => .bad
def putO (x : R) (o : O) (s : S) : S := match x with
  | .val (.ref n) => s.sh n o
  | .var k => s.st k (.ob o)
  | _ => s
/-- the object that is handed in, handed on -/
def asD (x : R) (s : S) : Option D := match x with
  | .val i => some (.im i)
  | .tmp o => some (.ob o)
  | .var k => match s.g k with
    | some (.ob o) => some (.ob o)
    | _ => none

/-! ### the language -/
inductive Op where | add | sub | mul | div | mod | pow
inductive Cp where | eq | ne | lt | le | gt | ge
inductive Ty where | int | bool | str | tup | lst
inductive Tg where | nm (k : Nat) | tp (l : List Tg)
mutual
inductive E where
  | loc (k : Nat) | glb (x : String) | cst (i : I)
  | tup (es : List E) | lst (es : List E) | dct (tk : Bool) (es : List E) | box (e : E)
  | op (o : Op) (a b : E) | cmp (o : Cp) (a b : E) | chain (o p : Cp) (a b c : E) | chain3 (o p q : Cp) (a b c d : E)
  | inq (neg : Bool) (a b : E) | ins (neg : Bool) (a b : E) | ind (neg : Bool) (a b : E) | isn (neg : Bool) (a : E) | ist (neg b : Bool) (a : E)
  | not (a : E) | and (a b : E) | or (a b : E) | neg (a : E)
  | idx (a i : E) | ixd (a i : E) | slc (a : E) (lo hi : Option E) | rvs (a : E)
  | call (f : String) (es : List E)
  | len (a : E) | toInt (a : E) | toTup (a : E) | toLst (a : E) | dictP (a : E) | dictD (a : E) | listD (a : E)
  | srt (a : E) | all (a : E) | any (a : E) | sum (a : E) | abs (a : E) | mn (a b : E) | mx (a b : E) | maxd (a : E) | srtSet (a : E)
  | app (a e : E) | ext (a e : E) | pop (a : E) | popAt (a i : E) | insert (a i e : E) | remove (a e : E)
  | get1 (a k : E) | get2 (a k d : E) | index (a e : E) | tindex (a e : E) | sindex (a e : E) | join (a e : E) | upper (a : E)
  | isi (a : E) (t : Ty)
  | comp (own : List Nat) (tg : Tg) (it : It) (cs : Option E) (el : E)
  | lrg1 (a : E) | lrg2 (a b : E)
  | callv (k : Nat) (es : List E) | ixt (a : E) (es : List E) | isi2 (a : E) (t u : Ty) | srtSetD (a : E)
  | fld (a : E) (f : String) | mk (key c : String) (es : List E) | meth (key c m : String) (a : E) (es : List E)
  | mkx (c : String) (f : List Nat) (es : List E) | exf (a : E) (f : List Nat) | isx (a : E) (cs : List String) | lockE (k : Nat) (e : E)
inductive It where
  | seq (e : E) | chars (e : E) | range1 (a : E) | range2 (a b : E) | range3 (a b c : E) | enum (e : E) | zip (a b : E) | rev (e : E) | keys (e : E)
end
inductive Sm where
  | asg (t : Tg) (e : E)
  | par (ks : List Nat) (es : List E)
  | sub (a i e : E) | sbd (a i e : E) | sb2 (a i b j e : E) | sbt (a : E) (es : List E) (e : E)
  | expr (e : E)
  | ret (e : E) | retN
  | ite (c : E) (t e : List Sm)
  | for (t : Tg) (it : It) (b : List Sm)
  | while (c : E) (b : List Sm)
  | pass | raise (c : String) (f : List Nat) (es : List E)
  | fset (a : E) (f : String) (e : E) | lock (k : Nat) (b : Sm) | tryx (b : List Sm) (hs : List (String × Option Nat × List Sm))
inductive Fl where | nx | rt (d : D)

/-- what a call gives: its value, the arguments' objects as they stand, the boxed objects -/
inductive Rc where
  | ok (d : D) (as : List (Option D)) (hp : List O) | exc (c : String) (l : List I) (as : List (Option D)) (hp : List O) | bad

/-- what the top names: constants; methods by their keys; fields of classes; fields of exceptions -/
structure Glb where
  g : String → Option I
  kd : String → Option (String × String) := fun _ => none
  fk : String → String → Bool := fun _ _ => false
  xk : String → List Nat → Bool := fun _ _ => false
  ik : String → String → Bool := fun _ _ => false
instance : CoeFun Glb fun _ => String → Option I := ⟨Glb.g⟩
structure Ctx where
  cl : String → List D → List O → Rc
  gl : Glb
  kn : String → Bool

/-! ### values -/
def pMod (i j : Int) : Int := i % j
def arith (o : Op) (i j : Int) (s : S) : Res R := match o with
  | .add => .ok (.val (.int (i + j))) s
  | .sub => .ok (.val (.int (i - j))) s
  | .mul => Res.req (decide ((-18446744073709551616 < i ∧ i < 18446744073709551616) ∨ (-18446744073709551616 < j ∧ j < 18446744073709551616))) (.ok (.val (.int (i * j))) s)
  | .div => Res.req (decide (0 < j ∧ j < 18446744073709551616)) (.ok (.val (.int (i / j))) s)
  | .mod => Res.req (decide (0 < j)) (.ok (.val (.int (i % j))) s)
  | .pow => Res.req (decide (0 ≤ j ∧ j ≤ 1000 ∧ 0 ≤ i ∧ i < 18446744073709551616)) (.ok (.val (.int (i ^ j.toNat))) s)
/-- read from outside -/
def isXl : R → Bool
  | .val (.xl _) => true
  | _ => false
def seqOp (o : Op) (x y : R) (s : S) : Res R := match o, viewQ x s, viewQ y s with
  | .add, some (true, l), some (true, m) => Res.req (decide (l.length + m.length ≤ 16777216)) (.ok (.val (.tup (l ++ m))) s)
  | .add, some (false, l), some (false, m) => Res.req (decide (l.length + m.length ≤ 16777216) && !isXl x && !isXl y) (.ok (.tmp (.lst (l ++ m))) s)
  | _, _, _ => .bad
def binop (o : Op) (x y : R) (s : S) : Res R := match x, y with
  | .val (.int i), .val (.int j) => arith o i j s
  | .val (.str a), .val (.str b) => match o with
    | .add => Res.req (decide (a.length + b.length ≤ 16777216)) (.ok (.val (.str (a ++ b))) s)
    | _ => .bad
  | .val (.str a), .val (.int k) => match o with
    | .mul => Res.req (decide (-9223372036854775808 ≤ k ∧ k < 1000 ∧ a.length ≤ 1000)) (.ok (.val (.str (List.replicate k.toNat a).flatten)) s)
    | _ => .bad
  | x, .val (.int k) => match o, viewQ x s with
    | .mul, some (false, l) => Res.req (decide (-9223372036854775808 ≤ k ∧ k < 9223372036854775808 ∧ l.length * k.toNat ≤ 16777216) && !isXl x) (.ok (.tmp (.lst (List.replicate k.toNat l).flatten)) s)
    | _, _ => .bad
  | x, y => seqOp o x y s
def ordI (o : Cp) (i j : Int) : Bool := match o with
  | .eq => decide (i = j) | .ne => !decide (i = j) | .lt => decide (i < j) | .le => decide (i ≤ j) | .gt => decide (j < i) | .ge => decide (j ≤ i)
def ordS (o : Cp) (i j : List Nat) : Bool := match o with
  | .eq => decide (i = j) | .ne => !decide (i = j) | .lt => decide (i < j) | .le => !decide (j < i) | .gt => decide (j < i) | .ge => !decide (i < j)
def eqop (o : Cp) (x y : I) (s : S) : Res R := match o with
  | .eq => Res.req (dep 60 x && dep 60 y) (.ok (.val (.bl (eqI x y))) s)
  | .ne => Res.req (dep 60 x && dep 60 y) (.ok (.val (.bl (!eqI x y))) s)
  | _ => .bad
def cmpop (o : Cp) (x y : R) (s : S) : Res R := match x, y with
  | .val (.int i), .val (.int j) => .ok (.val (.bl (ordI o i j))) s
  | .val (.str i), .val (.str j) => .ok (.val (.bl (ordS o i j))) s
  | x, y => match viewI x s, viewI y s with
    | some a, some b => eqop o a b s
    | _, _ => .bad
def inop (neg : Bool) (x y : R) (s : S) : Res R := match viewI x s, viewQ y s with
  | some a, some (_, l) => Res.req (dep 60 a && depL 60 l) (.ok (.val (.bl ((l.any fun z => eqI z a) != neg))) s)
  | _, _ => .bad
def insop (neg : Bool) (x y : R) (s : S) : Res R := match x, y with
  | .val (.str [c]), .val (.str l) => .ok (.val (.bl (decide (c ∈ l) != neg))) s
  | _, _ => .bad
/-- keys: intsOf and texts; tuples of such -/
def keyS : I → Bool
  | .int _ => true
  | .str _ => true
  | _ => false
def keyOk (tk : Bool) (k : I) : Bool := match tk with
  | false => keyS k
  | true => false
/-- a written tuple as a key -/
def keyT (l : List I) : Bool := l.all keyS && decide (l.length ≤ 15)
def lookD (kvs : List (I × I)) (k : I) : Option I := match kvs with
  | [] => none
  | (a, v) :: r => if I.same a k = true then some v else lookD r k
def putD (kvs : List (I × I)) (k v : I) : List (I × I) := if (kvs.any fun p => I.same p.1 k) = true then kvs.map (fun p => if I.same p.1 k = true then (p.1, v) else p) else kvs ++ [(k, v)]
def dropD (kvs : List (I × I)) (k : I) : List (I × I) := kvs.filter fun p => !I.same p.1 k
def indop (neg : Bool) (x y : R) (s : S) : Res R := match x, viewDr y s with
  | .val k, some (t, kvs) => Res.req (keyOk t k) (.ok (.val (.bl ((lookD kvs k).isSome != neg))) s)
  | _, _ => .bad
def istop (neg b : Bool) (x : R) (s : S) : Res R := match x with
  | .val (.bl c) => .ok (.val (.bl ((c == b) != neg))) s
  | _ => .bad
def isnop (neg : Bool) (x : R) (s : S) : Res R := match x with
  | .val .non => .ok (.val (.bl (!neg))) s
  | .var k => match s.g k with
    | some (.ob _) => .ok (.val (.bl neg)) s
    | _ => .bad
  | _ => .ok (.val (.bl neg)) s
/-- an index into n places -/
def ixn (n : Nat) (i : Int) : Option Nat := if 0 ≤ i then (if i < n then some i.toNat else none) else if -(n : Int) ≤ i then some (i + n).toNat else none
def atN {α : Type} (xs : List α) (i : Int) : Option α := (ixn xs.length i).bind fun j => xs[j]?
def ixop (x y : R) (s : S) : Res R := match y with
  | .val (.int i) => match x with
    | .val (.str l) => Res.req (decide (l.length ≤ 16777216)) (opt ((atN l i).map fun c => .val (.str [c])) s)
    | x => match viewQ x s with
      | some (_, l) => opt ((atN l i).map .val) s
      | none => .bad
  | _ => .bad
def ixdop (x y : R) (s : S) : Res R := match y, viewDr x s with
  | .val k, some (t, kvs) => Res.req (keyOk t k) (opt ((lookD kvs k).map .val) s)
  | _, _ => .bad
def ixtop (x : R) (l : List I) (s : S) : Res R := match viewD x s with
  | some (true, kvs) => Res.req (keyT l) (opt ((lookD kvs (.tup l)).map .val) s)
  | _ => .bad
def clip (n d : Nat) : Option Int → Nat
  | none => d
  | some v => if v < 0 then (v + n).toNat else min v.toNat n
def cut {α : Type} (xs : List α) (lo hi : Option Int) : List α := (xs.drop (clip xs.length 0 lo)).take (clip xs.length xs.length hi - clip xs.length 0 lo)
def slop (x : R) (lo hi : Option Int) (s : S) : Res R := match x with
  | .val (.str l) => Res.req (decide (l.length ≤ 16777216)) (.ok (.val (.str (cut l lo hi))) s)
  | x => match viewQ x s with
    | some (true, l) => .ok (.val (.tup (cut l lo hi))) s
    | some (false, l) => .ok (.tmp (.lst (cut l lo hi))) s
    | none => .bad
def rvop (x : R) (s : S) : Res R := match viewQ x s with
  | some (true, l) => .ok (.val (.tup l.reverse)) s
  | some (false, l) => .ok (.tmp (.lst l.reverse)) s
  | none => .bad
def lenop (x : R) (s : S) : Res R := match x with
  | .val (.str l) => Res.req (decide (l.length ≤ 16777216)) (.ok (.val (.int l.length)) s)
  | x => match viewQ x s with
    | some (_, l) => .ok (.val (.int l.length)) s
    | none => match viewD x s with
      | some (false, l) => .ok (.val (.int l.length)) s
      | _ => .bad
def intop (x : R) (s : S) : Res R := match x with
  | .val (.int i) => .ok (.val (.int i)) s
  | .val (.bl b) => .ok (.val (.int (if b then 1 else 0))) s
  | _ => .bad
def tupop (x : R) (s : S) : Res R := match viewQ x s with
  | some (_, l) => .ok (.val (.tup l)) s
  | _ => .bad
def lstop (x : R) (s : S) : Res R := match viewQ x s with
  | some (_, l) => .ok (.tmp (.lst l)) s
  | none => .bad
def pairs (l : List I) : Option (List (I × I)) := match l with
  | [] => some []
  | .tup [k, v] :: r => if keyS k = true then (pairs r).map ((k, v) :: ·) else none
  | _ :: _ => none
def mergeD (kvs : List (I × I)) : List (I × I) → List (I × I)
  | [] => kvs
  | (k, v) :: r => mergeD (putD kvs k v) r
/-- pairs of a list, or of a tuple just so made -/
def dictPop (x : R) (s : S) : Res R := match viewQ x s with
  | some (_, l) => opt ((pairs l).map fun ps => .tmp (.dct false (mergeD [] ps))) s
  | none => .bad
def dictDop (x : R) (s : S) : Res R := match viewD x s with
  | some (false, l) => .ok (.tmp (.dct false l)) s
  | _ => .bad
def listDop (x : R) (s : S) : Res R := match viewD x s with
  | some (false, l) => .ok (.tmp (.lst (l.map (·.1)))) s
  | _ => .bad
def strsOf (l : List I) : Option (List (List Nat)) := match l with
  | [] => some []
  | .str a :: r => (strsOf r).map (a :: ·)
  | _ :: _ => none
def intsOf (l : List I) : Option (List Int) := match l with
  | [] => some []
  | .int a :: r => (intsOf r).map (a :: ·)
  | _ :: _ => none
def boolsOf (l : List I) : Option (List Bool) := match l with
  | [] => some []
  | .bl a :: r => (boolsOf r).map (a :: ·)
  | _ :: _ => none
def insS (a : List Nat) : List (List Nat) → List (List Nat)
  | [] => [a]
  | b :: r => if b < a then b :: insS a r else a :: b :: r
def sortS (l : List (List Nat)) : List (List Nat) := l.foldr insS []
def insZ (a : Int) : List Int → List Int
  | [] => [a]
  | b :: r => if b < a then b :: insZ a r else a :: b :: r
def sortZ (l : List Int) : List Int := l.foldr insZ []
/-- the unlike ones -/
def dedZ : List Int → List Int
  | [] => []
  | z :: r => if z ∈ r then dedZ r else z :: dedZ r
def srtSop (x : R) (s : S) : Res R := match viewQ x s with
  | some (false, l) => match intsOf l with
    | some zs => Res.req (decide (zs.length < 64)) (.ok (.tmp (.lst ((sortZ (dedZ zs)).map .int))) s)
    | none => .bad
  | _ => .bad
/-- sorted(set(d)) of a dict of texts -/
def srtSDop (x : R) (s : S) : Res R := match viewD x s with
  | some (false, kvs) => match strsOf (kvs.map (·.1)) with
    | some ss => Res.req (decide (ss.length < 64)) (.ok (.tmp (.lst ((sortS ss).map .str))) s)
    | none => .bad
  | _ => .bad
def srtop (x : R) (s : S) : Res R := match viewQ x s with
  | some (false, l) => match strsOf l with
    | some ss => Res.req (decide (ss.length < 64)) (.ok (.tmp (.lst ((sortS ss).map .str))) s)
    | none => match intsOf l with
      | some zs => .ok (.tmp (.lst ((sortZ zs).map .int))) s
      | none => .bad
  | some (true, l) => match intsOf l with
    | some zs => .ok (.tmp (.lst ((sortZ zs).map .int))) s
    | none => .bad
  | _ => .bad
def allop (x : R) (s : S) : Res R := match viewQ x s with
  | some (false, l) => opt ((boolsOf l).map fun bs => .val (.bl (bs.all id))) s
  | _ => .bad
def anyop (x : R) (s : S) : Res R := match viewQ x s with
  | some (false, l) => opt ((boolsOf l).map fun bs => .val (.bl (bs.any id))) s
  | _ => .bad
def sumop (x : R) (s : S) : Res R := match viewQ x s with
  | some (false, l) => opt ((intsOf l).map fun zs => .val (.int zs.sum)) s
  | _ => .bad
def maxdop (x : R) (s : S) : Res R := match viewQ x s with
  | some (false, l) => opt ((intsOf l).map fun zs => .val (.int (match zs with | [] => 0 | z :: r => r.foldl max z))) s
  | _ => .bad
def absop (x : R) (s : S) : Res R := match x with
  | .val (.int i) => .ok (.val (.int (if i < 0 then -i else i))) s
  | _ => .bad
def mnop (x y : R) (s : S) : Res R := match x, y with
  | .val (.int i), .val (.int j) => .ok (.val (.int (if j < i then j else i))) s
  | _, _ => .bad
def mxop (x y : R) (s : S) : Res R := match x, y with
  | .val (.int i), .val (.int j) => .ok (.val (.int (if i < j then j else i))) s
  | _, _ => .bad
def isTmp : R → Bool
  | .val (.ref _) => true
  | .var _ => true
  | _ => false
def ownL (x : R) (s : S) : Option (List I) := match x with
  | .val (.ref n) => match s.hp[n]? with
    | some (.lst l) => some l
    | _ => none
  | .var k => match s.g k with
    | some (.ob (.lst l)) => some l
    | _ => none
  | _ => none
def appop (x : R) (i : I) (s : S) : Res R := match ownL x s with
  | some l => Res.req (decide (l.length < 16777216)) (.ok (.val .non) (putO x (.lst (l ++ [i])) s))
  | none => .bad
def sameR : R → R → Bool
  | .var a, .var b => a == b
  | .val (.ref a), .val (.ref b) => a == b
  | _, _ => false
def extop (x y : R) (s : S) : Res R := match ownL x s, viewQ y s with
  | some l, some (_, m) => Res.req (decide (l.length + m.length ≤ 16777216) && !isXl y && !sameR x y) (.ok (.val .non) (putO x (.lst (l ++ m)) s))
  | _, _ => .bad
def popop (x : R) (s : S) : Res R := match ownL x s with
  | some l => match l.getLast? with
    | some i => .ok (.val i) (putO x (.lst l.dropLast) s)
    | none => .bad
  | none => .bad
def popAtop (x y : R) (s : S) : Res R := match ownL x s, y with
  | some l, .val (.int i) => match ixn l.length i with
    | some k => match l[k]? with
      | some v => Res.req (decide (-9223372036854775808 ≤ i ∧ i < 9223372036854775808)) (.ok (.val v) (putO x (.lst (l.eraseIdx k)) s))
      | none => .bad
    | none => .bad
  | _, _ => .bad
def insertop (x y : R) (v : I) (s : S) : Res R := match ownL x s, y with
  | some l, .val (.int i) => Res.req (decide (l.length < 16777216 ∧ 0 ≤ i ∧ i < 9223372036854775808)) (.ok (.val .non) (putO x (.lst (l.take i.toNat ++ [v] ++ l.drop i.toNat)) s))
  | _, _ => .bad
def idxOf (l : List I) (v : I) : Option Nat := match l with
  | [] => none
  | a :: r => if eqI a v = true then some 0 else (idxOf r v).map (· + 1)
def removeop (x : R) (v : I) (s : S) : Res R := match ownL x s, v with
  | some l, .int k => match intsOf l, idxOf l v with
    | some _, some j => .ok (.val .non) (putO x (.lst (l.eraseIdx j)) s)
    | _, _ => .bad
  | _, _ => .bad
def isLs (x : R) (s : S) : Bool := match viewQ x s with
  | some (false, _) => true
  | _ => false
def isTp (x : R) (s : S) : Bool := match viewQ x s with
  | some (true, _) => true
  | _ => false
def isDc (x : R) (s : S) : Bool := (viewD x s).isSome
def isSt : R → Bool
  | .val (.str _) => true
  | _ => false
def get1op (x y : R) (s : S) : Res R := match viewD x s, y with
  | some (t, kvs), .val k => Res.req (keyOk t k) (.ok (.val ((lookD kvs k).getD .non)) s)
  | _, _ => .bad
def get2op (x y z : R) (s : S) : Res R := match viewD x s, y with
  | some (t, kvs), .val k => Res.req (keyOk t k) (match lookD kvs k with
    | some v => .ok (.val v) s
    | none => match z with
      | .val i => .ok (.val i) s
      | _ => .bad)
  | _, _ => .bad
def indexop (x y : R) (s : S) : Res R := match viewI y s, viewQ x s with
  | some v, some (false, l) => Res.req (dep 60 v && depL 60 l) (opt ((idxOf l v).map fun (j : Nat) => .val (.int (j : Int))) s)
  | _, _ => .bad
def tindexop (x y : R) (s : S) : Res R := match viewI y s, viewQ x s with
  | some v, some (true, l) => Res.req (dep 60 v && depL 60 l) (opt ((idxOf l v).map fun (j : Nat) => .val (.int (j : Int))) s)
  | _, _ => .bad
def cIdx (l : List Nat) (c : Nat) : Option Nat := match l with
  | [] => none
  | a :: r => if a = c then some 0 else (cIdx r c).map (· + 1)
def sindexop (x y : R) (s : S) : Res R := match x, y with
  | .val (.str l), .val (.str [c]) => opt ((cIdx l c).map fun (j : Nat) => .val (.int (j : Int))) s
  | _, _ => .bad
def joinS (a : List Nat) : List (List Nat) → List Nat
  | [] => []
  | [x] => x
  | x :: r => x ++ a ++ joinS a r
def joinop (x y : R) (s : S) : Res R := match x, viewQ y s with
  | .val (.str a), some (_, l) => match strsOf l with
    | some ss => Res.req (decide ((ss.map List.length).sum + ss.length * a.length ≤ 16777216)) (.ok (.val (.str (joinS a ss))) s)
    | none => .bad
  | _, _ => .bad
def upC (c : Nat) : Nat := if 97 ≤ c ∧ c ≤ 122 then c - 32 else c
def upop (x : R) (s : S) : Res R := match x with
  | .val (.str l) => Res.req (decide (l.length ≤ 1000) && l.all (fun c => decide (c < 128))) (.ok (.val (.str (l.map upC))) s)
  | _ => .bad
def tyI : I → Ty → Bool
  | .int _, .int => true
  | .bl _, .int => true
  | .bl _, .bool => true
  | .str _, .str => true
  | .tup _, .tup => true
  | .fl _, .lst => true
  | .xl _, .lst => true
  | _, _ => false
def isiop (x : R) (t : Ty) (s : S) : Res R := match viewI x s with
  | some (.ref _) => .bad
  | some (.fa _ _) => .bad
  | some (.ex _ _) => .bad
  | some i => .ok (.val (.bl (tyI i t))) s
  | none => .bad
/-- isinstance(x, (t, u)) -/
def isi2op (x : R) (t u : Ty) (s : S) : Res R := match viewI x s with
  | some (.ref _) => .bad
  | some (.fa _ _) => .bad
  | some (.ex _ _) => .bad
  | some i => .ok (.val (.bl (tyI i t || tyI i u))) s
  | none => .bad

/-! ### targets -/
mutual
def bindT (pin : List Nat) : Tg → I → S → Res Unit
  | .nm k, i, s => Res.req (!pin.contains k && decide (k < s.env.length)) (.ok () (s.st k (.im i)))
  | .tp ts, i, s => match i with
    | .tup l => Res.req (decide (l.length = ts.length)) (bindTs pin ts l s)
    | _ => .bad
def bindTs (pin : List Nat) : List Tg → List I → S → Res Unit
  | [], [], s => .ok () s
  | t :: r, i :: l, s => (bindT pin t i s).bind fun _ s1 => bindTs pin r l s1
  | _, _, _ => .bad
end
/-- a name's new value -/
def asgN (pin : List Nat) (k : Nat) (x : R) (s : S) : Res Unit := Res.req (!pin.contains k && decide (k < s.env.length)) (match x with
  | .val i => .ok () (s.st k (.im i))
  | .tmp o => .ok () (s.st k (.ob o))
  | x => (asI x s).bind fun i s1 => .ok () (s1.st k (.im i)))
/-- what a tuple's places bind: the items of a value just made -/
def asgL (pin : List Nat) (ts : List Tg) (x : R) (s : S) : Res Unit := match viewQ x s with
  | some (false, l) => Res.req (decide (l.length = ts.length)) (bindTs pin ts l s)
  | _ => .bad
def asgT (pin : List Nat) (t : Tg) (x : R) (s : S) : Res Unit := match t with
  | .nm k => asgN pin k x s
  | .tp ts => match x with
    | .val (.tup l) => bindT pin (.tp ts) (.tup l) s
    | .val (.str l) => Res.req (decide (l.length = ts.length)) (bindTs pin ts (l.map fun c => .str [c]) s)
    | x => asgL pin ts x s

/-! ### what a loop goes over -/
inductive Src where | imm | var (k : Nat) (l : List I) | box (n : Nat) (l : List I) | key (k : Nat) (l : List I) | two (c d : Src)
/-- the list that is gone over is as it was -/
def Src.good (c : Src) (s : S) : Bool := match c with
  | .imm => true
  | .var k l => match s.g k with
    | some (.ob (.lst m)) => sameL m l
    | some (.im (.fl m)) => sameL m l
    | _ => false
  | .box n l => match s.hp[n]? with
    | some (.lst m) => sameL m l
    | _ => false
  | .key k l => match s.g k with
    | some (.ob (.lk m)) => sameL (m.map (·.1)) l
    | _ => false
  | .two c d => c.good s && d.good s
/-- the names of the lists that are gone over -/
def Src.names : Src → List Nat
  | .var k _ => [k]
  | .key k _ => [k]
  | .two c d => c.names ++ d.names
  | _ => []
def srcK (l : List I) : R → Src
  | .var k => .key k l
  | _ => .imm
def srcOf (l : List I) : R → Src
  | .var k => .var k l
  | .val (.ref n) => .box n l
  | _ => .imm
def forL (c : Src) (f : I → S → Res Fl) : List I → S → Res Fl
  | [], s => Res.req (c.good s) (.ok .nx s)
  | i :: r, s => Res.req (c.good s) ((f i s).bind fun fl s1 => match fl with
    | .nx => forL c f r s1
    | .rt d => .ok (.rt d) s1)
/-- a comprehension's turns -/
def compL (c : Src) (f : I → S → Res (Option I)) : List I → List I → S → Res (List I)
  | [], acc, s => Res.req (c.good s) (.ok acc s)
  | i :: r, acc, s => Res.req (c.good s) ((f i s).bindN fun o s1 => match o with
    | some v => Res.req (decide (acc.length < 16777216)) (compL c f r (acc ++ [v]) s1)
    | none => compL c f r acc s1)
def whileN (n : Nat) (c : S → Res Bool) (f : S → Res Fl) (s : S) : Res Fl := match n with
  | 0 => .bad
  | n + 1 => (c s).bind fun b s1 => if b = true then (f s1).bind fun fl s2 => match fl with
      | .nx => whileN n c f s2
      | .rt d => .ok (.rt d) s2
    else .ok .nx s1

/-! ### calls -/
def outs (xs : List R) (as : List (Option D)) (env : List (Option D)) : Option (List (Option D)) := match xs, as with
  | [], [] => some env
  | .var k :: r, some d :: t => outs r t (env.set k (some d))
  | .var _ :: _, none :: _ => none
  | _ :: r, _ :: t => outs r t env
  | _, _ => none
def vars : List R → List Nat
  | [] => []
  | .var k :: r => k :: vars r
  | _ :: r => vars r
def asDs (xs : List R) (s : S) : Option (List D) := match xs with
  | [] => some []
  | x :: r => match asD x s, asDs r s with
    | some d, some ds => some (d :: ds)
    | _, _ => none
def ofD (d : D) : R := match d with
  | .im i => .val i
  | .ob o => .tmp o
def doCall (c : Ctx) (f : String) (xs : List R) (s : S) : Res R := match asDs xs s with
  | some ds => Res.req (decide (vars xs).Nodup) (match c.cl f ds s.hp with
    | .ok d as hp => match outs xs as s.env with
      | some env => .ok (ofD d) ⟨env, hp⟩
      | none => .bad
    | .exc e l as hp => match outs xs as s.env with
      | some env => .exc e l ⟨env, hp⟩
      | none => .bad
    | .bad => .bad)
  | none => .bad

/-- the def that a name holds -/
def faOf (c : Ctx) (o : Option D) : Option String := match o with
  | some (.im (.fa a f)) => match c.gl f with
    | some (.fa b g) => if a = b ∧ f = g then some f else none
    | _ => none
  | _ => none
/-! ### the comprehension's own names -/
def wipeE (env : List (Option D)) : List Nat → List (Option D)
  | [] => env
  | k :: r => (wipeE env r).set k none
def restE (old env : List (Option D)) : List Nat → List (Option D)
  | [] => env
  | k :: r => (restE old env r).set k (old.getD k none)
def wipeS (own : List Nat) (s : S) : S := { s with env := wipeE s.env own }
def ownFree (env : List (Option D)) (own : List Nat) : Bool := own.all fun k => match env.getD k none with
  | some (.ob _) => false
  | _ => true

def rint : R → Option Int
  | .val (.int i) => some i
  | _ => none
def rng (a b : Int) : List I := (List.range (b - a).toNat).map fun (i : Nat) => .int (a + i)
def enumL (l : List I) : List I := (List.range l.length).zipWith (fun (i : Nat) x => .tup [.int i, x]) l
def small (a : Int) : Bool := decide (-4611686018427387904 ≤ a ∧ a < 4611686018427387904)

def pairUp (t : Bool) (acc : List (I × I)) : List I → Option (List (I × I))
  | [] => some acc
  | k :: v :: r => if keyOk t k = true then pairUp t (putD acc k v) r else none
  | _ => none
/-! ### instances, exceptions, dicts that are gone over -/
def insOf (x : R) (s : S) : Option (Nat × String × List (String × I)) := match x with
  | .val (.ref n) => match s.hp[n]? with
    | some (.ins c l) => some (n, c, l)
    | _ => none
  | _ => none
def fldop (g : Glb) (x : R) (f : String) (s : S) : Res R := match insOf x s with
  | some (_, c, l) => Res.req (g.fk c f) (opt ((l.lookup f).map .val) s)
  | none => .bad
/-- a field's new value -/
def putF (f : String) (v : I) : List (String × I) → List (String × I)
  | [] => [(f, v)]
  | (g, w) :: r => if g = f then (g, v) :: r else (g, w) :: putF f v r
/-- an instance of this class, without a field of the method's name -/
def isIns (cl m : String) (x : R) (s : S) : Bool := match insOf x s with
  | some (_, c, l) => c == cl && (l.lookup m).isNone
  | none => false
def exL (f : List Nat) : List I → Option (List I)
  | [] => if f = [] then some [] else none
  | [v] => if f = [] then none else some [.str f, v]
  | _ => none
def exfop (g : Glb) (x : R) (f : List Nat) (s : S) : Res R := match x with
  | .val (.ex c [.str h, v]) => Res.req (g.xk c f && (decide (h = f) && decide (f ≠ []))) (.ok (.val v) s)
  | _ => .bad
/-- beneath one of these classes: its own, or those above all -/
def under (c : String) (cs : List String) : Bool := cs.any fun d => d == c || d == "HouseError" || d == "ValueError"
def isxop (g : Glb) (x : R) (cs : List String) (s : S) : Res R := match x with
  | .val (.ex c _) => Res.req (cs.all (g.ik c)) (.ok (.val (.bl (under c cs))) s)
  | _ => .bad
/-- the dict in a slot, or that the slot's name stands for -/
def lkS (k : Nat) (s : S) : Option (List (I × I)) := match s.g k with
  | some (.ob (.dct false l)) => some l
  | _ => none
def ulS (k : Nat) (s : S) : Option (List (I × I)) := match s.g k with
  | some (.ob (.lk l)) => some l
  | _ => none
def keysop (x : R) (s : S) : Option (List I) := match x with
  | .var k => match s.g k with
    | some (.ob (.lk l)) => some (l.map (·.1))
    | _ => none
  | _ => none
/-! ### expressions -/
mutual
def evE (c : Ctx) : E → S → Res R
  | .loc k, s => match s.g k with
    | some (.im i) => .ok (.val i) s
    | some (.ob _) => .ok (.var k) s
    | none => .bad
  | .glb x, s => opt ((c.gl x).map .val) s
  | .cst i, s => .ok (.val i) s
  | .tup es, s => (evIs c es s).bind fun l s1 => Res.req (decide (l.length ≤ 16777216)) (.ok (.val (.tup l)) s1)
  | .lst es, s => (evIs c es s).bind fun l s1 => Res.req (decide (l.length ≤ 16777216)) (.ok (.tmp (.lst l)) s1)
  | .dct t es, s => (evIs c es s).bind fun l s1 => opt ((pairUp t [] l).map fun kvs => .tmp (.dct t kvs)) s1
  | .box e, s => (evE c e s).bind fun x s1 => match x with
    | .tmp o => .ok (.val (.ref s1.hp.length)) { s1 with hp := s1.hp ++ [o] }
    | _ => .bad
  | .op o a b, s => (evE c a s).bind fun x s1 => (evE c b s1).bind fun y s2 => binop o x y s2
  | .cmp o a b, s => (evE c a s).bind fun x s1 => (evE c b s1).bind fun y s2 => cmpop o x y s2
  | .chain o p a b d, s => (evE c a s).bind fun x s1 => (evE c b s1).bind fun y s2 => (cmpop o x y s2).bind fun z s3 => match z with
    | .val (.bl true) => (evE c d s3).bind fun w s4 => cmpop p y w s4
    | .val (.bl false) => .ok (.val (.bl false)) s3
    | _ => .bad
  | .chain3 o p q a b d e, s => (evE c a s).bind fun x s1 => (evE c b s1).bind fun y s2 => (cmpop o x y s2).bind fun z s3 => match z with
    | .val (.bl true) => (evE c d s3).bind fun w s4 => (cmpop p y w s4).bind fun z s5 => match z with
      | .val (.bl true) => (evE c e s5).bind fun v s6 => cmpop q w v s6
      | .val (.bl false) => .ok (.val (.bl false)) s5
      | _ => .bad
    | .val (.bl false) => .ok (.val (.bl false)) s3
    | _ => .bad
  | .inq n a b, s => (evE c a s).bind fun x s1 => (evE c b s1).bind fun y s2 => inop n x y s2
  | .ins n a b, s => (evE c a s).bind fun x s1 => (evE c b s1).bind fun y s2 => insop n x y s2
  | .ind n a b, s => (evE c a s).bind fun x s1 => (evE c b s1).bind fun y s2 => indop n x y s2
  | .isn n a, s => (evE c a s).bind fun x s1 => isnop n x s1
  | .ist n b a, s => (evE c a s).bind fun x s1 => istop n b x s1
  | .not a, s => (evE c a s).bind fun x s1 => match x with
    | .val (.bl b) => .ok (.val (.bl (!b))) s1
    | _ => .bad
  | .and a b, s => (evE c a s).bind fun x s1 => match x with
    | .val (.bl true) => evE c b s1
    | .val (.bl false) => .ok (.val (.bl false)) s1
    | _ => .bad
  | .or a b, s => (evE c a s).bind fun x s1 => match x with
    | .val (.bl true) => .ok (.val (.bl true)) s1
    | .val (.bl false) => evE c b s1
    | _ => .bad
  | .neg a, s => (evE c a s).bind fun x s1 => match x with
    | .val (.int i) => .ok (.val (.int (-i))) s1
    | _ => .bad
  | .idx a b, s => (evE c a s).bind fun x s1 => (evE c b s1).bind fun y s2 => ixop x y s2
  | .ixd a b, s => (evE c a s).bind fun x s1 => (evE c b s1).bind fun y s2 => ixdop x y s2
  | .slc a lo hi, s => (evE c a s).bind fun x s1 => (evO c lo s1).bind fun l s2 => (evO c hi s2).bind fun h s3 => slop x l h s3
  | .rvs a, s => (evE c a s).bind fun x s1 => rvop x s1
  | .call f es, s => Res.req (c.kn f) ((evEs c es s).bind fun xs s1 => doCall c f xs s1)
  | .len a, s => (evE c a s).bind fun x s1 => lenop x s1
  | .toInt a, s => (evE c a s).bind fun x s1 => intop x s1
  | .toTup a, s => (evE c a s).bind fun x s1 => tupop x s1
  | .toLst a, s => (evE c a s).bind fun x s1 => lstop x s1
  | .dictP a, s => (evE c a s).bind fun x s1 => dictPop x s1
  | .dictD a, s => (evE c a s).bind fun x s1 => dictDop x s1
  | .listD a, s => (evE c a s).bind fun x s1 => listDop x s1
  | .srtSet a, s => (evE c a s).bind fun x s1 => srtSop x s1
  | .srt a, s => (evE c a s).bind fun x s1 => srtop x s1
  | .all a, s => (evE c a s).bind fun x s1 => allop x s1
  | .any a, s => (evE c a s).bind fun x s1 => anyop x s1
  | .sum a, s => (evE c a s).bind fun x s1 => sumop x s1
  | .abs a, s => (evE c a s).bind fun x s1 => absop x s1
  | .mn a b, s => (evE c a s).bind fun x s1 => (evE c b s1).bind fun y s2 => mnop x y s2
  | .mx a b, s => (evE c a s).bind fun x s1 => (evE c b s1).bind fun y s2 => mxop x y s2
  | .maxd a, s => (evE c a s).bind fun x s1 => maxdop x s1
  | .app a b, s => (evE c a s).bind fun x s1 => Res.req (isLs x s1) ((evE c b s1).bind fun y s2 => (asI y s2).bind fun i s3 => appop x i s3)
  | .ext a b, s => (evE c a s).bind fun x s1 => Res.req (isLs x s1) ((evE c b s1).bind fun y s2 => extop x y s2)
  | .pop a, s => (evE c a s).bind fun x s1 => popop x s1
  | .popAt a b, s => (evE c a s).bind fun x s1 => Res.req (isLs x s1) ((evE c b s1).bind fun y s2 => popAtop x y s2)
  | .insert a b d, s => (evE c a s).bind fun x s1 => Res.req (isLs x s1) ((evE c b s1).bind fun y s2 => (evE c d s2).bind fun z s3 => (asI z s3).bind fun i s4 => insertop x y i s4)
  | .remove a b, s => (evE c a s).bind fun x s1 => Res.req (isLs x s1) ((evE c b s1).bind fun y s2 => (asI y s2).bind fun i s3 => removeop x i s3)
  | .get1 a b, s => (evE c a s).bind fun x s1 => Res.req (isDc x s1) ((evE c b s1).bind fun y s2 => get1op x y s2)
  | .get2 a b d, s => (evE c a s).bind fun x s1 => Res.req (isDc x s1) ((evE c b s1).bind fun y s2 => (evE c d s2).bind fun z s3 => (asI z s3).bind fun i s4 => get2op x y (.val i) s4)
  | .index a b, s => (evE c a s).bind fun x s1 => Res.req (isLs x s1) ((evE c b s1).bind fun y s2 => indexop x y s2)
  | .tindex a b, s => (evE c a s).bind fun x s1 => Res.req (isTp x s1) ((evE c b s1).bind fun y s2 => tindexop x y s2)
  | .sindex a b, s => (evE c a s).bind fun x s1 => Res.req (isSt x) ((evE c b s1).bind fun y s2 => sindexop x y s2)
  | .join a b, s => (evE c a s).bind fun x s1 => Res.req (isSt x) ((evE c b s1).bind fun y s2 => joinop x y s2)
  | .upper a, s => (evE c a s).bind fun x s1 => upop x s1
  | .isi a t, s => (evE c a s).bind fun x s1 => isiop x t s1
  | .isi2 a t u, s => (evE c a s).bind fun x s1 => isi2op x t u s1
  | .srtSetD a, s => (evE c a s).bind fun x s1 => srtSDop x s1
  | .callv k es, s => match faOf c (s.g k) with
    | some f => Res.req (c.kn f) ((evEs c es s).bind fun xs s1 => (doCall c f xs s1).noX)
    | none => .bad
  | .ixt a es, s => (evE c a s).bind fun x s1 => (evIs c es s1).bind fun l s2 => ixtop x l s2
  | .fld a f, s => (evE c a s).bind fun x s1 => fldop c.gl x f s1
  | .mk key cl es, s => Res.req (c.kn key && decide (c.gl.kd key = some (cl, "__init__"))) ((evEs c es s).bind fun xs s1 => (doCall c key (.val (.ref s1.hp.length) :: xs) { s1 with hp := s1.hp ++ [.ins cl []] }).noX.bind fun y s2 => match y with
    | .val .non => .ok (.val (.ref s1.hp.length)) s2
    | _ => .bad)
  | .meth key cl m a es, s => Res.req (c.kn key && decide (c.gl.kd key = some (cl, m))) <| (evE c a s).bind fun x s1 => Res.req (isIns cl m x s1) ((evEs c es s1).bind fun xs s2 => doCall c key (x :: xs) s2)
  | .mkx cl f es, s => Res.req (c.gl.xk cl f) <| (evIs c es s).bind fun l s1 => opt ((exL f l).map fun m => .val (.ex cl m)) s1
  | .exf a f, s => (evE c a s).bind fun x s1 => exfop c.gl x f s1
  | .isx a cs, s => (evE c a s).bind fun x s1 => isxop c.gl x cs s1
  | .lockE k e, s => match lkS k s with
    | some l => (evE c e (s.st k (.ob (.lk l)))).bind fun x s1 => match x, ulS k s1 with
      | .var _, _ => .bad
      | x, some m => .ok x (s1.st k (.ob (.dct false m)))
      | _, none => .bad
    | none => .bad
  | .comp own tg it cs el, s => (evIt c it s).bind fun sl s1 => Res.req (ownFree s1.env own) ((compL sl.1 (fun i s2 =>
      (bindT [] tg i s2).bind fun _ s3 => (evC c cs s3).bind fun b s4 =>
        if b = true then (evE c el s4).bind fun y s5 => (asI y s5).bind fun v s6 => .ok (some v) (wipeS own s6) else .ok none (wipeS own s4)) sl.2 [] (wipeS own s1)).bind fun l s2 =>
      .ok (.tmp (.lst l)) { s2 with env := restE s1.env s2.env own })
  | .lrg1 a, s => (evE c a s).bind fun x s1 => match rint x with
    | some i => Res.req (small i && decide (i ≤ 16777216)) (.ok (.tmp (.lst (rng 0 i))) s1)
    | none => .bad
  | .lrg2 a b, s => (evE c a s).bind fun x s1 => (evE c b s1).bind fun y s2 => match rint x, rint y with
    | some i, some j => Res.req ((small i && small j) && decide (j - i ≤ 16777216)) (.ok (.tmp (.lst (rng i j))) s2)
    | _, _ => .bad
def evEs (c : Ctx) : List E → S → Res (List R)
  | [], s => .ok [] s
  | e :: r, s => (evE c e s).bind fun x s1 => (evEs c r s1).bind fun xs s2 => .ok (x :: xs) s2
def evIs (c : Ctx) : List E → S → Res (List I)
  | [], s => .ok [] s
  | e :: r, s => (evE c e s).bind fun x s1 => (asI x s1).bind fun i s2 => (evIs c r s2).bind fun l s3 => .ok (i :: l) s3
def evO (c : Ctx) : Option E → S → Res (Option Int)
  | none, s => .ok none s
  | some e, s => (evE c e s).bind fun x s1 => opt ((rint x).map some) s1
def evC (c : Ctx) : Option E → S → Res Bool
  | none, s => .ok true s
  | some e, s => (evE c e s).bind fun x s1 => match x with
    | .val (.bl b) => .ok b s1
    | _ => .bad
def evIt (c : Ctx) : It → S → Res (Src × List I)
  | .seq e, s => (evE c e s).bind fun x s1 => match viewQ x s1 with
    | some (_, l) => .ok (srcOf l x, l) s1
    | none => .bad
  | .chars e, s => (evE c e s).bind fun x s1 => match x with
    | .val (.str l) => .ok (.imm, l.map fun c => .str [c]) s1
    | _ => .bad
  | .range1 a, s => (evE c a s).bind fun x s1 => match rint x with
    | some i => Res.req (small i) (.ok (.imm, rng 0 i) s1)
    | none => .bad
  | .range2 a b, s => (evE c a s).bind fun x s1 => (evE c b s1).bind fun y s2 => match rint x, rint y with
    | some i, some j => Res.req (small i && small j) (.ok (.imm, rng i j) s2)
    | _, _ => .bad
  | .range3 a b d, s => .bad
  | .enum e, s => (evE c e s).bind fun x s1 => match viewQ x s1 with
    | some (_, l) => .ok (srcOf l x, enumL l) s1
    | none => .bad
  | .zip a b, s => (evE c a s).bind fun x s1 => (evE c b s1).bind fun y s2 => match viewQ x s2, viewQ y s2 with
    | some (t, l), some (u, m) => Res.req (t == u) (.ok (.two (srcOf l x) (srcOf m y), l.zipWith (fun x y => .tup [x, y]) m) s2)
    | _, _ => .bad
  | .rev e, s => (evE c e s).bind fun x s1 => match viewQ x s1 with
    | some (_, l) => .ok (srcOf l x, l.reverse) s1
    | none => .bad
  | .keys e, s => (evE c e s).bind fun x s1 => match keysop x s1 with
    | some l => .ok (srcK l x, l) s1
    | none => .bad
end

/-! ### statements -/
def idxSet (x y : R) (v : I) (s : S) : Res Unit := match ownL x s, y with
  | some l, .val (.int i) => match ixn l.length i with
    | some j => .ok () (putO x (.lst (l.set j v)) s)
    | none => .bad
  | _, _ => .bad
def ownD (x : R) (s : S) : Option (Bool × List (I × I)) := match x with
  | .val (.ref n) => match s.hp[n]? with
    | some (.dct t l) => some (t, l)
    | _ => none
  | .var k => match s.g k with
    | some (.ob (.dct t l)) => some (t, l)
    | _ => none
  | _ => none
def keySet (x y : R) (v : I) (s : S) : Res Unit := match ownD x s, y with
  | some (t, kvs), .val k => Res.req (keyOk t k && decide (kvs.length < 16777216)) (.ok () (putO x (.dct t (putD kvs k v)) s))
  | _, _ => .bad
def keySetT (x : R) (l : List I) (v : I) (s : S) : Res Unit := match ownD x s with
  | some (true, kvs) => Res.req (keyT l && decide (kvs.length < 16777216)) (.ok () (putO x (.dct true (putD kvs (.tup l) v)) s))
  | _ => .bad
def asgNs (pin : List Nat) : List Nat → List R → S → Res Unit
  | [], [], s => .ok () s
  | k :: ks, x :: xs, s => match x with
    | .var _ => .bad
    | x => (asgN pin k x s).bind fun _ s1 => asgNs pin ks xs s1
  | _, _, _ => .bad
def retD (pin : List Nat) (x : R) (s : S) : Res Fl := match x with
  | .val i => .ok (.rt (.im i)) s
  | .tmp o => .ok (.rt (.ob o)) s
  | .var k => if pin.contains k = true then (asI x s).bind fun i s1 => .ok (.rt (.im i)) s1 else match s.g k with
    | some (.ob o) => .ok (.rt (.ob o)) { s with env := s.env.set k none }
    | _ => .bad
def turns : Nat := 1000000
/-- the name of the list that is gone over stays -/
def pinned (pin : List Nat) (sl : Src) : List Nat := sl.names ++ pin
mutual
def exS (c : Ctx) : List Nat → Sm → S → Res Fl
  | pin, .asg t e, s => (evE c e s).bind fun x s1 => (asgT pin t x s1).bind fun _ s2 => .ok .nx s2
  | pin, .par ks es, s => (evEs c es s).bind fun xs s1 => (asgNs pin ks xs s1).bind fun _ s2 => .ok .nx s2
  | pin, .sub a i e, s => (evE c e s).bind fun x s1 => (asI x s1).bind fun v s2 => (evE c a s2).bind fun r s3 => (evE c i s3).bind fun y s4 => (idxSet r y v s4).bind fun _ s5 => .ok .nx s5
  | pin, .sbd a i e, s => (evE c e s).bind fun x s1 => (asI x s1).bind fun v s2 => (evE c a s2).bind fun r s3 => (evE c i s3).bind fun y s4 => (keySet r y v s4).bind fun _ s5 => .ok .nx s5
  | pin, .sb2 a i b j e, s => (evE c e s).bind fun x s1 => match x with
    | .val (.tup [v, w]) => (evE c a s1).bind fun r s2 => (evE c i s2).bind fun y s3 => (keySet r y v s3).bind fun _ s4 => (evE c b s4).bind fun r s5 => (evE c j s5).bind fun y s6 => (keySet r y w s6).bind fun _ s7 => .ok .nx s7
    | _ => .bad
  | pin, .sbt a es e, s => (evE c e s).bind fun x s1 => (asI x s1).bind fun v s2 => (evE c a s2).bind fun r s3 => (evIs c es s3).bind fun l s4 => (keySetT r l v s4).bind fun _ s5 => .ok .nx s5
  | pin, .expr e, s => (evE c e s).bind fun _ s1 => .ok .nx s1
  | pin, .ret e, s => (evE c e s).bind fun x s1 => retD pin x s1
  | pin, .retN, s => .ok (.rt (.im .non)) s
  | pin, .ite d t e, s => (evC c (some d) s).bind fun b s1 => if b = true then exSs c pin t s1 else exSs c pin e s1
  | pin, .for t it b, s => (evIt c it s).bind fun sl s1 => forL sl.1 (fun i s2 => (bindT (pinned pin sl.1) t i s2).bind fun _ s3 => exSs c (pinned pin sl.1) b s3) sl.2 s1
  | pin, .while d b, s => whileN turns (fun s1 => evC c (some d) s1) (fun s1 => exSs c pin b s1) s
  | pin, .pass, s => .ok .nx s
  | pin, .raise cl f es, s => Res.req (c.gl.xk cl f) <| (evIs c es s).bind fun l s1 => match exL f l with
    | some m => .exc cl m s1
    | none => .bad
  | pin, .fset a f e, s => (evE c e s).bind fun x s1 => (asI x s1).bind fun v s2 => (evE c a s2).bind fun r s3 => match insOf r s3 with
    | some (n, cl, l) => Res.req (c.gl.fk cl f && decide (l.length < 1000)) (.ok .nx (s3.sh n (.ins cl (putF f v l))))
    | none => .bad
  | pin, .lock k b, s => match lkS k s with
    | some l => (exS c (k :: pin) b (s.st k (.ob (.lk l)))).bind fun fl s1 => match ulS k s1 with
      | some m => .ok fl (s1.st k (.ob (.dct false m)))
      | none => .bad
    | none => .bad
  | pin, .tryx b hs, s => match exSs c pin b s with
    | .ok fl s1 => .ok fl s1
    | .bad => .bad
    | .exc cl l s1 => exHs c pin hs cl l s1
/-- the except clauses -/
def exHs (c : Ctx) : List Nat → List (String × Option Nat × List Sm) → String → List I → S → Res Fl
  | _, [], cl, l, s => .exc cl l s
  | pin, (d, o, b) :: r, cl, l, s => Res.req (c.gl.ik cl d) <| if under cl [d] = true then match o with
      | none => exSs c pin b s
      | some k => Res.req (!pin.contains k && decide (k < s.env.length)) ((exSs c (k :: pin) b (s.st k (.im (.ex cl l)))).bind fun fl s1 => .ok fl { s1 with env := s1.env.set k none })
    else exHs c pin r cl l s
def exSs (c : Ctx) : List Nat → List Sm → S → Res Fl
  | _, [], s => .ok .nx s
  | pin, a :: r, s => (exS c pin a s).bind fun fl s1 => match fl with
    | .nx => exSs c pin r s1
    | .rt d => .ok (.rt d) s1
end

/-! ### programs -/
structure Fn where
  np : Nat
  nl : Nat
  body : List Sm
def pins : Nat → List D → List Nat
  | _, [] => []
  | k, .ob _ :: r => k :: pins (k + 1) r
  | k, .im _ :: r => pins (k + 1) r
def retOf (np : Nat) : Res Fl → Rc
  | .ok .nx s => .ok (.im .non) (s.env.take np) s.hp
  | .ok (.rt d) s => .ok d (s.env.take np) s.hp
  | .exc c l s => .exc c l (s.env.take np) s.hp
  | .bad => .bad
def knF (P : String → Option Fn) (f : String) : Bool := (P f).isSome
def runF (P : String → Option Fn) (gl : Glb) : Nat → String → List D → List O → Rc
  | 0, _, _, _ => .bad
  | n + 1, f, ds, hp => match P f with
    | some fn => if ds.length = fn.np then retOf fn.np (exSs ⟨runF P gl n, gl, knF P⟩ (pins 0 ds) fn.body ⟨ds.map some ++ List.replicate (fn.nl - fn.np) none, hp⟩) else .bad
    | none => .bad
end CH
set_option Elab.async false
set_option maxRecDepth 100000
namespace CH
open PySem L2

abbrev mkS (l : List Nat) : Str := ⟨l.toArray⟩
/-- what may be changed, or is gone over just now -/
def Mu (o : Option HO) : Prop := Mut o ∨ ∃ ob kvs, o = some (.frz ob (.dK kvs))
/-- a class by its name -/
abbrev clsA (K : PySem.W.Frag) (c : String) : Value := .ref (He.ga K (Str.ofString c))
/-- an exception's object -/
def xoE (cls : Value) (d : Option Addr) (a : Addr) : HO := .ext fun h => ∃ (oe : Obj) (vs : Array Value), h.get? a = some oe ∧ Zc cls d oe ∧ oe.data = .fields vs
/-- objects that nobody changes: locked ones, the written part's -/
def Fz (K : PySem.W.Frag) (H : Hp) (a : Addr) (xs : List V) : Prop :=
  (∃ o, H a = some (.frz o (.lst xs))) ∨ ∃ (o : Obj) (its : Array Value) (n : Nat), K.lookup a = some o ∧ o.cls = .type "list" ∧ o.dict = none ∧ o.data = .seq its n ∧ its.size ≤ sizeLine ∧ Vals xs its.toList
/-- a tuple that is just a tuple -/
def Pt (K : PySem.W.Frag) (H : Hp) (a : Addr) (xs : List V) : Prop := (∃ o, H a = some (.frz o (.tup xs)) ∧ o.dict = none ∧ o.cls = .type "tuple") ∨
  ∃ (o : Obj) (its : Array Value) (n : Nat), K.lookup a = some o ∧ o.cls = .type "tuple" ∧ o.dict = none ∧ o.data = .seq its n ∧ its.size ≤ sizeLine ∧ Vals xs its.toList
theorem Pt.sqt {K : PySem.W.Frag} {H : Hp} {a : Addr} {xs : List V} (h : Pt K H a xs) : SqT K H a xs := by
  rcases h with ⟨o, h, _⟩ | ⟨o, its, n, h1, h2, _, h3⟩
  · exact .inl (.inr ⟨o, h⟩)
  · exact .inr ⟨o, its, n, h1, h2, h3⟩
mutual
/-- what a value stands for; W: what may be changed, ρ: where the boxed objects lie -/
inductive Rp (K : PySem.W.Frag) (H : Hp) (W : Addr → Prop) (ρ : List Addr) : I → V → Prop where
  | non : Rp K H W ρ .non .non
  | bl (b : Bool) : Rp K H W ρ (.bl b) (.bl b)
  | int (i : Int) : Rp K H W ρ (.int i) (.int i)
  | str (l : List Nat) : Rp K H W ρ (.str l) (.str (mkS l))
  | tup {a : Addr} {vs : List V} {l : List I} : Pt K H a vs → Rps K H W ρ l vs → Rp K H W ρ (.tup l) (.ref a)
  | fl {a : Addr} {vs : List V} {l : List I} : H a = some (.lst vs) → ¬ W a → Rps K H W ρ l vs → Rp K H W ρ (.fl l) (.ref a)
  | xl {a : Addr} {vs : List V} {l : List I} : Fz K H a vs → Rps K H W ρ l vs → Rp K H W ρ (.xl l) (.ref a)
  | ref {a : Addr} {n : Nat} : ρ[n]? = some a → Rp K H W ρ (.ref n) (.ref a)
  | fa (a : Addr) (f : String) : Rp K H W ρ (.fa a f) (.ref a)
  | ex0 {a : Addr} {c : String} : H a = some (xoE (clsA K c) none a) → ¬ W a → Rp K H W ρ (.ex c []) (.ref a)
  | ex1 {a dd : Addr} {c : String} {f : List Nat} {i : I} {v : V} : H a = some (xoE (clsA K c) (some dd) a) → ¬ W a → H dd = some (.xd [(mkS f, v)]) → Rp K H W ρ i v → Rp K H W ρ (.ex c [.str f, i]) (.ref a)
inductive Rps (K : PySem.W.Frag) (H : Hp) (W : Addr → Prop) (ρ : List Addr) : List I → List V → Prop where
  | nil : Rps K H W ρ [] []
  | cons {i : I} {v : V} {l : List I} {vs : List V} : Rp K H W ρ i v → Rps K H W ρ l vs → Rps K H W ρ (i :: l) (v :: vs)
end
def keyOf : I → Option Key
  | .int i => some (.inl i)
  | .str l => some (.inr (mkS l))
  | _ => none
def keysOf : List I → Option (List Key)
  | [] => some []
  | k :: r => match keyOf k, keysOf r with
    | some a, some l => some (a :: l)
    | _, _ => none
inductive RpK (K : PySem.W.Frag) (H : Hp) (W : Addr → Prop) (ρ : List Addr) : List (I × I) → List (Key × V) → Prop where
  | nil : RpK K H W ρ [] []
  | cons {k i : I} {a : Key} {v : V} {l : List (I × I)} {vs : List (Key × V)} : keyOf k = some a → Rp K H W ρ i v → RpK K H W ρ l vs → RpK K H W ρ ((k, i) :: l) ((a, v) :: vs)
inductive RpT (K : PySem.W.Frag) (H : Hp) (W : Addr → Prop) (ρ : List Addr) : List (I × I) → List (List Key × V) → Prop where
  | nil : RpT K H W ρ [] []
  | cons {k : List I} {i : I} {a : List Key} {v : V} {l : List (I × I)} {vs : List (List Key × V)} : keysOf k = some a → Rp K H W ρ i v → RpT K H W ρ l vs → RpT K H W ρ ((.tup k, i) :: l) ((a, v) :: vs)
/-- an instance's fields -/
inductive RpF (K : PySem.W.Frag) (H : Hp) (W : Addr → Prop) (ρ : List Addr) : List (String × I) → List (Str × V) → Prop where
  | nil : RpF K H W ρ [] []
  | cons {f : String} {i : I} {v : V} {l : List (String × I)} {vs : List (Str × V)} : Rp K H W ρ i v → RpF K H W ρ l vs → RpF K H W ρ ((f, i) :: l) ((Str.ofString f, v) :: vs)
/-- an object, and what stands at its address -/
inductive RpO (K : PySem.W.Frag) (H : Hp) (W : Addr → Prop) (ρ : List Addr) : O → HO → Prop where
  | lst {l : List I} {vs : List V} : Rps K H W ρ l vs → RpO K H W ρ (.lst l) (.lst vs)
  | dK {l : List (I × I)} {vs : List (Key × V)} : RpK K H W ρ l vs → RpO K H W ρ (.dct false l) (.dK vs)
  | dT {l : List (I × I)} {vs : List (List Key × V)} : RpT K H W ρ l vs → RpO K H W ρ (.dct true l) (.dT vs)
  | ins {c : String} {l : List (String × I)} {fs : List (Str × V)} {dx : Addr} : RpF K H W ρ l fs → RpO K H W ρ (.ins c l) (.ins (He.ga K (Str.ofString c)) dx fs)
  | lk {l : List (I × I)} {vs : List (Key × V)} {ob : Obj} : RpK K H W ρ l vs → RpO K H W ρ (.lk l) (.frz ob (.dK vs))
def RpA (K : PySem.W.Frag) (H : Hp) (W : Addr → Prop) (ρ : List Addr) (o : O) (a : Addr) : Prop := ∃ u, H a = some u ∧ RpO K H W ρ o u
theorem RpO.mut {K : PySem.W.Frag} {H : Hp} {W : Addr → Prop} {ρ : List Addr} {o : O} {u : HO} (h : RpO K H W ρ o u) : Mu (some u) := by cases h <;> first | exact .inr ⟨_, _, rfl⟩ | exact .inl trivial
theorem RpO.nofrz {K : PySem.W.Frag} {H : Hp} {W : Addr → Prop} {ρ : List Addr} {o : O} {u : HO} (h : RpO K H W ρ o u) (n : ∀ m, o ≠ .lk m) (ob : Obj) (w : HO) : u ≠ .frz ob w := by
  cases h <;> first | (intro e; cases e; done) | exact absurd rfl (n _)
abbrev Sg := L2.St
/-- what the frame and the boxed objects own -/
def Own (s : S) (σ : Sg) (ρ : List Addr) (a : Addr) : Prop := (∃ (k : Nat) (o : O), s.g k = some (.ob o) ∧ σ[k]? = some (some (V.ref a))) ∨ a ∈ ρ
abbrev Uni (T U : Addr → Prop) : Addr → Prop := fun a => T a ∨ U a
structure Rel (K : PySem.W.Frag) (T : Addr → Prop) (s : S) (σ : Sg) (H : Hp) (ρ : List Addr) : Prop where
  len : s.env.length = σ.length
  im : ∀ (k : Nat) (i : I), s.g k = some (.im i) → ∃ v, σ[k]? = some (some v) ∧ Rp K H (Uni (Own s σ ρ) T) ρ i v
  ob : ∀ (k : Nat) (o : O), s.g k = some (.ob o) → ∃ a, σ[k]? = some (some (V.ref a)) ∧ RpA K H (Uni (Own s σ ρ) T) ρ o a ∧ a ∉ ρ
  dj : ∀ (k j : Nat) (a : Addr) (o o' : O), s.g k = some (.ob o) → s.g j = some (.ob o') → σ[k]? = some (some (V.ref a)) → σ[j]? = some (some (V.ref a)) → k = j
  hl : s.hp.length = ρ.length
  bx : ∀ (n : Nat) (o : O) (a : Addr), s.hp[n]? = some o → ρ[n]? = some a → RpA K H (Uni (Own s σ ρ) T) ρ o a
  nd : ρ.Nodup
  tm : ∀ b, T b → (∃ u, H b = some u ∧ Mu (some u)) ∧ ¬ Own s σ ρ b
/-- from one state to a later one -/
structure Stp (H : Hp) (W T : Addr → Prop) (H' : Hp) (W' T' : Addr → Prop) : Prop where
  keep : ∀ b u, H b = some u → ¬ W b → H' b = some u
  new : ∀ b, W' b ∨ T' b → W b ∨ T b ∨ H b = none
  dis : ∀ b, T b → ¬ W' b
  sub : ∀ b, T b → T' b
  fz : ∀ b ob u, H b = some (.frz ob u) → H' b = some (.frz ob u)
theorem Stp.trans {H H1 H2 : Hp} {W T W1 T1 W2 T2 : Addr → Prop} (a : Stp H W T H1 W1 T1) (b : Stp H1 W1 T1 H2 W2 T2) : Stp H W T H2 W2 T2 := by
  have nw : ∀ x u, H x = some u → ¬ W x → ¬ W1 x := fun x u h w w1 => by
    rcases a.new x (.inl w1) with q | q | q
    · exact w q
    · exact a.dis x q w1
    · rw [h] at q; cases q
  refine ⟨fun x u h w => b.keep x u (a.keep x u h w) (nw x u h w), fun x q => ?_, fun x t => b.dis x (a.sub x t), fun x t => b.sub x (a.sub x t), fun x ob u e => b.fz x ob u (a.fz x ob u e)⟩
  rcases b.new x q with q | q | q
  · exact a.new x (.inl q)
  · exact a.new x (.inr q)
  · cases e : H x with
    | none => exact .inr (.inr rfl)
    | some u =>
      by_cases w : W x
      · exact .inl w
      · have := a.keep x u e w
        rw [q] at this; cases this
theorem Stp.drop {H H' : Hp} {W T W' T' T2 : Addr → Prop} (a : Stp H W T H' W' T') (h : ∀ b, T2 b → T' b) (h2 : ∀ b, T b → T2 b) : Stp H W T H' W' T2 :=
  ⟨a.keep, fun b q => a.new b (q.imp id (h b)), a.dis, h2, a.fz⟩
theorem Stp.refl {H : Hp} {W T : Addr → Prop} (d : ∀ b, T b → ¬ W b) : Stp H W T H W T := ⟨fun _ _ h _ => h, fun _ q => q.elim .inl fun z => .inr (.inl z), d, fun _ h => h, fun _ _ _ e => e⟩
/-- ρ goes on -/
def Pre (ρ ρ' : List Addr) : Prop := ∀ (n : Nat) (a : Addr), ρ[n]? = some a → ρ'[n]? = some a
theorem Pre.refl (ρ : List Addr) : Pre ρ ρ := fun _ _ h => h
theorem Pre.trans {a b c : List Addr} (h : Pre a b) (g : Pre b c) : Pre a c := fun n x e => g n x (h n x e)
section
variable {K : PySem.W.Frag} {H H' : Hp} {W W' : Addr → Prop} {ρ ρ' : List Addr}
/-- what is read stays where nothing that may be changed is read -/
structure Stay (H : Hp) (W : Addr → Prop) (ρ : List Addr) (H' : Hp) (W' : Addr → Prop) (ρ' : List Addr) : Prop where
  keep : ∀ b u, H b = some u → ¬ W b → H' b = some u
  new : ∀ b, W' b → W b ∨ H b = none
  mt : ∀ b, W b → Mu (H b)
  pre : Pre ρ ρ'
theorem Stay.off (h : Stay H W ρ H' W' ρ') {a : Addr} {u : HO} (e : H a = some u) (m : ¬ Mu (some u)) : ¬ W a := fun w => by
  have := h.mt a w
  rw [e] at this
  exact m this
theorem Stay.fz (h : Stay H W ρ H' W' ρ') {a : Addr} {vs : List V} (q : Fz K H a vs) : Fz K H' a vs := by
  rcases q with ⟨o, q⟩ | q
  · exact .inl ⟨o, h.keep _ _ q (h.off q (fun z => z.elim id fun ⟨_, _, e⟩ => by cases e))⟩
  · exact .inr q
theorem Stay.pt (h : Stay H W ρ H' W' ρ') {a : Addr} {vs : List V} (q : Pt K H a vs) : Pt K H' a vs := by
  rcases q with ⟨o, q, d⟩ | q
  · exact .inl ⟨o, h.keep _ _ q (h.off q (fun z => z.elim id fun ⟨_, _, e⟩ => by cases e)), d⟩
  · exact .inr q
mutual
theorem Rp.stay (h : Stay H W ρ H' W' ρ') : ∀ {i : I} {v : V}, Rp K H W ρ i v → Rp K H' W' ρ' i v
  | _, _, .non => .non
  | _, _, .bl b => .bl b
  | _, _, .int i => .int i
  | _, _, .str l => .str l
  | _, _, .tup q r => .tup (h.pt q) (Rps.stay h r)
  | _, _, .fl e n r => .fl (h.keep _ _ e n) (fun w => (h.new _ w).elim n fun z => by rw [e] at z; cases z) (Rps.stay h r)
  | _, _, .xl q r => .xl (h.fz q) (Rps.stay h r)
  | _, _, .ref e => .ref (h.pre _ _ e)
  | _, _, .fa a f => .fa a f
  | _, _, .ex0 e n => .ex0 (h.keep _ _ e n) (fun w => (h.new _ w).elim n fun z => by rw [e] at z; cases z)
  | _, _, .ex1 e n d r => .ex1 (h.keep _ _ e n) (fun w => (h.new _ w).elim n fun z => by rw [e] at z; cases z) (h.keep _ _ d (h.off d (fun z => z.elim id fun ⟨_, _, e⟩ => by cases e))) (Rp.stay h r)
theorem Rps.stay (h : Stay H W ρ H' W' ρ') : ∀ {l : List I} {vs : List V}, Rps K H W ρ l vs → Rps K H' W' ρ' l vs
  | _, _, .nil => .nil
  | _, _, .cons q r => .cons (Rp.stay h q) (Rps.stay h r)
end
theorem RpK.stay (h : Stay H W ρ H' W' ρ') : ∀ {l : List (I × I)} {vs : List (Key × V)}, RpK K H W ρ l vs → RpK K H' W' ρ' l vs
  | _, _, .nil => .nil
  | _, _, .cons e q r => .cons e (q.stay h) (RpK.stay h r)
theorem RpT.stay (h : Stay H W ρ H' W' ρ') : ∀ {l : List (I × I)} {vs : List (List Key × V)}, RpT K H W ρ l vs → RpT K H' W' ρ' l vs
  | _, _, .nil => .nil
  | _, _, .cons e q r => .cons e (q.stay h) (RpT.stay h r)
theorem RpF.stay (h : Stay H W ρ H' W' ρ') : ∀ {l : List (String × I)} {vs : List (Str × V)}, RpF K H W ρ l vs → RpF K H' W' ρ' l vs
  | _, _, .nil => .nil
  | _, _, .cons q r => .cons (q.stay h) (RpF.stay h r)
theorem RpO.stay (h : Stay H W ρ H' W' ρ') {o : O} {u : HO} (q : RpO K H W ρ o u) : RpO K H' W' ρ' o u := by
  cases q with
  | lst r => exact .lst (r.stay h)
  | dK r => exact .dK (r.stay h)
  | dT r => exact .dT (r.stay h)
  | ins r => exact .ins (r.stay h)
  | lk r => exact .lk (r.stay h)
theorem RpA.mutA {o : O} {a : Addr} (h : RpA K H W ρ o a) : Mu (H a) := by
  obtain ⟨u, e, r⟩ := h
  rw [e]; exact r.mut
theorem RpA.stay (h : Stay H W ρ H' W' ρ') {o : O} {a : Addr} (q : RpA K H W ρ o a) (e : ∀ u, H a = some u → H' a = some u) : RpA K H' W' ρ' o a := by
  obtain ⟨u, x, r⟩ := q
  exact ⟨u, e u x, r.stay h⟩
end
section
variable {K : PySem.W.Frag} {T T' : Addr → Prop} {s s' : S} {σ σ' : Sg} {H H' : Hp} {ρ ρ' : List Addr}
theorem Rel.mutO (h : Rel K T s σ H ρ) : ∀ b, Own s σ ρ b → Mu (H b) := by
  rintro b (⟨k, o, e, x⟩ | x)
  · obtain ⟨a, y, z, _⟩ := h.ob k o e
    rw [y] at x; cases x
    exact z.mutA
  · obtain ⟨n, e⟩ := List.getElem?_of_mem x
    have hn : n < s.hp.length := by
      rw [h.hl]; exact (List.getElem?_eq_some_iff.mp e).1
    exact (h.bx n _ b (List.getElem?_eq_getElem hn) e).mutA
theorem Rel.mt (h : Rel K T s σ H ρ) : ∀ b, Uni (Own s σ ρ) T b → Mu (H b) := by
  rintro b (x | x)
  · exact h.mutO b x
  · obtain ⟨⟨u, e, m⟩, _⟩ := h.tm b x
    rw [e]; exact m
/-- what is held stays -/
theorem Stp.stay (st : Stp H (Own s σ ρ) T H' (Own s' σ' ρ') T') (h : Rel K T s σ H ρ) (p : Pre ρ ρ') : Stay H (Uni (Own s σ ρ) T) ρ H' (Uni (Own s' σ' ρ') T') ρ' :=
  ⟨fun b u e n => st.keep b u e fun w => n (.inl w), fun b w => (st.new b w).elim (fun z => .inl (.inl z)) fun z => z.elim (fun z => .inl (.inr z)) .inr, h.mt, p⟩
theorem Stay.less {W W' : Addr → Prop} (m : ∀ b, W b → Mu (H b)) (w : ∀ b, W' b → W b) : Stay H W ρ H W' ρ := ⟨fun _ _ h _ => h, fun b x => .inl (w b x), m, Pre.refl ρ⟩
/-- fewer things are held -/
theorem Rel.drop (h : Rel K T s σ H ρ) (w : ∀ b, T' b → T b) : Rel K T' s σ H ρ := by
  have st : Stay H (Uni (Own s σ ρ) T) ρ H (Uni (Own s σ ρ) T') ρ := Stay.less h.mt fun b x => x.imp id (w b)
  refine ⟨h.len, fun k i e => ?_, fun k o e => ?_, h.dj, h.hl, fun n o a e x => (h.bx n o a e x).stay st fun _ z => z, h.nd, fun b x => h.tm b (w b x)⟩
  · obtain ⟨v, e1, r⟩ := h.im k i e
    exact ⟨v, e1, r.stay st⟩
  · obtain ⟨a, e1, r, n⟩ := h.ob k o e
    exact ⟨a, e1, r.stay st (fun _ z => z), n⟩
theorem Rel.dis (h : Rel K T s σ H ρ) : ∀ b, T b → ¬ Own s σ ρ b := fun b x => (h.tm b x).2
/-- a new object is laid: nothing else changes -/
theorem Rel.laid (h : Rel K T s σ H ρ) {p : Addr} {o : HO} (hp : H p = none) : Rel K T s σ (upd H p o) ρ ∧ Stp H (Own s σ ρ) T (upd H p o) (Own s σ ρ) T := by
  have kp : ∀ b u, H b = some u → (upd H p o) b = some u := fun b u e => by rw [upd_ne (ne_of_none e hp)]; exact e
  have st : Stay H (Uni (Own s σ ρ) T) ρ (upd H p o) (Uni (Own s σ ρ) T) ρ := ⟨fun b u e _ => kp b u e, fun b x => .inl x, h.mt, Pre.refl ρ⟩
  refine ⟨⟨h.len, fun k i e => ?_, fun k o e => ?_, h.dj, h.hl, fun n o a e x => (h.bx n o a e x).stay st (kp a), h.nd, fun b x => ?_⟩, ⟨fun b u e _ => kp b u e, fun b q => q.imp id .inl, h.dis, fun _ x => x, fun b ob u e => kp b _ e⟩⟩
  · obtain ⟨v, e1, r⟩ := h.im k i e
    exact ⟨v, e1, r.stay st⟩
  · obtain ⟨a, e1, r, n⟩ := h.ob k o e
    exact ⟨a, e1, r.stay st (kp a), n⟩
  · obtain ⟨⟨u, e, m⟩, n⟩ := h.tm b x
    exact ⟨⟨u, kp b u e, m⟩, n⟩
/-- .. and held -/
theorem Rel.hold (h : Rel K T s σ H ρ) {p : Addr} {o : HO} (hp : H p = none) (m : Mu (some o)) : Rel K (Uni T fun a => V.ref p = V.ref a) s σ (upd H p o) ρ ∧ Stp H (Own s σ ρ) T (upd H p o) (Own s σ ρ) (Uni T fun a => V.ref p = V.ref a) := by
  have kp : ∀ b u, H b = some u → (upd H p o) b = some u := fun b u e => by rw [upd_ne (ne_of_none e hp)]; exact e
  have nm : ∀ b, V.ref p = V.ref b → H b = none := fun b e => by cases e; exact hp
  have st : Stay H (Uni (Own s σ ρ) T) ρ (upd H p o) (Uni (Own s σ ρ) (Uni T fun a => V.ref p = V.ref a)) ρ :=
    ⟨fun b u e _ => kp b u e, fun b x => x.elim (fun z => .inl (.inl z)) fun x => x.elim (fun z => .inl (.inr z)) fun z => .inr (nm b z), h.mt, Pre.refl ρ⟩
  refine ⟨⟨h.len, fun k i e => ?_, fun k o e => ?_, h.dj, h.hl, fun n o a e x => (h.bx n o a e x).stay st (kp a), h.nd, fun b x => ?_⟩,
    ⟨fun b u e _ => kp b u e, fun b q => q.elim .inl fun x => x.elim (fun z => .inr (.inl z)) fun z => .inr (.inr (nm b z)), h.dis, fun _ x => .inl x, fun b ob u e => kp b _ e⟩⟩
  · obtain ⟨v, e1, r⟩ := h.im k i e
    exact ⟨v, e1, r.stay st⟩
  · obtain ⟨a, e1, r, n⟩ := h.ob k o e
    exact ⟨a, e1, r.stay st (kp a), n⟩
  · rcases x with x | x
    · obtain ⟨⟨u, e, m⟩, n⟩ := h.tm b x
      exact ⟨⟨u, kp b u e, m⟩, n⟩
    · cases x
      refine ⟨⟨o, upd_same, m⟩, fun w => ?_⟩
      have := h.mutO p w
      rw [hp] at this; exact this.elim id fun ⟨_, _, e⟩ => by cases e
end
end CH
namespace CH
open PySem L2
theorem S.g_lt {s : S} {k : Nat} {d : D} (h : s.g k = some d) : k < s.env.length := by
  unfold S.g at h
  by_cases q : k < s.env.length
  · exact q
  · rw [List.getD_eq_getElem?_getD, List.getElem?_eq_none (by omega)] at h; cases h
theorem S.g_st_same {s : S} {k : Nat} {d : D} (h : k < s.env.length) : (s.st k d).g k = some d := by
  unfold S.g S.st
  rw [List.getD_eq_getElem?_getD, List.getElem?_set_self h]; rfl
theorem S.g_st_ne {s : S} {k j : Nat} {d : D} (h : j ≠ k) : (s.st k d).g j = s.g j := by
  unfold S.g S.st
  rw [List.getD_eq_getElem?_getD, List.getD_eq_getElem?_getD, List.getElem?_set_ne (Ne.symm h)]
theorem S.st_len {s : S} {k : Nat} {d : D} : (s.st k d).env.length = s.env.length := by unfold S.st; simp
section
variable {K : PySem.W.Frag} {T T' : Addr → Prop} {s s' : S} {σ σ' : Sg} {H H' : Hp} {ρ ρ' : List Addr}
theorem Own.st_im {k : Nat} {i : I} {b : Addr} (h : Own (s.st k (.im i)) σ ρ b) : Own s σ ρ b := by
  rcases h with ⟨j, o, e, x⟩ | x
  · by_cases q : j = k
    · subst q
      have hl := S.g_lt e
      rw [S.st_len] at hl
      rw [S.g_st_same hl] at e
      cases e
    · rw [S.g_st_ne q] at e
      exact .inl ⟨j, o, e, x⟩
  · exact .inr x
theorem Own.st_ob {k : Nat} {o o' : O} {b : Addr} (h : Own (s.st k (.ob o')) σ ρ b) (e0 : s.g k = some (.ob o)) : Own s σ ρ b := by
  rcases h with ⟨j, o2, e, x⟩ | x
  · by_cases q : j = k
    · subst q
      exact .inl ⟨j, o, e0, x⟩
    · rw [S.g_st_ne q] at e
      exact .inl ⟨j, o2, e, x⟩
  · exact .inr x
/-- a slot's list is shared from now on -/
theorem Rel.freeze (h : Rel K T s σ H ρ) {k : Nat} {l : List I} (e : s.g k = some (.ob (.lst l))) {a : Addr} (ea : σ[k]? = some (some (V.ref a))) :
    Rel K T (s.st k (.im (.fl l))) σ H ρ ∧ Stp H (Own s σ ρ) T H (Own (s.st k (.im (.fl l))) σ ρ) T ∧ Rp K H (Uni (Own (s.st k (.im (.fl l))) σ ρ) T) ρ (.fl l) (.ref a) := by
  have hl := S.g_lt e
  have st : Stay H (Uni (Own s σ ρ) T) ρ H (Uni (Own (s.st k (.im (.fl l))) σ ρ) T) ρ := Stay.less h.mt fun b x => x.imp Own.st_im id
  obtain ⟨a', y, ⟨u, ha, r⟩, nr⟩ := h.ob k _ e
  rw [ea] at y; cases y
  cases r with
  | lst r =>
    have na : ¬ Uni (Own (s.st k (.im (.fl l))) σ ρ) T a := by
      rintro ((⟨j, o, ej, x⟩ | x) | x)
      · by_cases q : j = k
        · subst q; rw [S.g_st_same hl] at ej; cases ej
        · rw [S.g_st_ne q] at ej
          exact q (h.dj j k a _ _ ej e x ea)
      · exact nr x
      · exact (h.tm a x).2 (.inl ⟨k, _, e, ea⟩)
    have rp : Rp K H (Uni (Own (s.st k (.im (.fl l))) σ ρ) T) ρ (.fl l) (.ref a) := .fl ha na (r.stay st)
    refine ⟨⟨by rw [S.st_len]; exact h.len, fun j i ej => ?_, fun j o ej => ?_, fun j m b o o' ej em x z => ?_, h.hl, fun n o b en x => (h.bx n o b en x).stay st fun _ z => z, h.nd, fun b x => ⟨(h.tm b x).1, fun z => (h.tm b x).2 (Own.st_im z)⟩⟩,
      ⟨fun b u q _ => q, fun b q => (q.imp Own.st_im id).elim .inl fun z => .inr (.inl z), fun b x z => (h.tm b x).2 (Own.st_im z), fun _ x => x, fun _ _ _ e => e⟩, rp⟩
    · by_cases q : j = k
      · subst q; rw [S.g_st_same hl] at ej; cases ej
        exact ⟨_, ea, rp⟩
      · rw [S.g_st_ne q] at ej
        obtain ⟨v, e1, r1⟩ := h.im j i ej
        exact ⟨v, e1, r1.stay st⟩
    · by_cases q : j = k
      · subst q; rw [S.g_st_same hl] at ej; cases ej
      · rw [S.g_st_ne q] at ej
        obtain ⟨b, e1, r1, n1⟩ := h.ob j o ej
        exact ⟨b, e1, r1.stay st (fun _ z => z), n1⟩
    · by_cases q : j = k
      · subst q; rw [S.g_st_same hl] at ej; cases ej
      · by_cases q' : m = k
        · subst q'; rw [S.g_st_same hl] at em; cases em
        · rw [S.g_st_ne q] at ej
          rw [S.g_st_ne q'] at em
          exact h.dj j m b _ _ ej em x z
/-- a slot's object is changed -/
theorem Rel.putR (h : Rel K T s σ H ρ) {k : Nat} {o o' : O} (e : s.g k = some (.ob o)) {a : Addr} (ea : σ[k]? = some (some (V.ref a))) {u' : HO} (r' : RpO K H (Uni (Own s σ ρ) T) ρ o' u') :
    Rel K T (s.st k (.ob o')) σ (upd H a u') ρ ∧ ((∀ b ob w, H b = some (.frz ob w) → b ≠ a) → Stp H (Own s σ ρ) T (upd H a u') (Own (s.st k (.ob o')) σ ρ) T) ∧ Stay H (Uni (Own s σ ρ) T) ρ (upd H a u') (Uni (Own (s.st k (.ob o')) σ ρ) T) ρ := by
  have hl := S.g_lt e
  have oa : Own s σ ρ a := .inl ⟨k, o, e, ea⟩
  obtain ⟨a', y, ⟨u, ha, r⟩, nr⟩ := h.ob k _ e
  rw [ea] at y; cases y
  have kp : ∀ b u, b ≠ a → H b = some u → (upd H a u') b = some u := fun b u n q => by rw [upd_ne n]; exact q
  have st : Stay H (Uni (Own s σ ρ) T) ρ (upd H a u') (Uni (Own (s.st k (.ob o')) σ ρ) T) ρ :=
    ⟨fun b u q n => kp b u (fun z => n (.inl (z ▸ oa))) q, fun b x => .inl (x.imp (fun z => Own.st_ob z e) id), h.mt, Pre.refl ρ⟩
  refine ⟨⟨by rw [S.st_len]; exact h.len, fun j i ej => ?_, fun j o1 ej => ?_, fun j m b o1 o2 ej em x z => ?_, h.hl, fun n o1 b en x => (h.bx n o1 b en x).stay st fun u q => kp b u (fun z => ?_) q, h.nd, fun b x => ?_⟩,
    fun nfz => ⟨fun b u q n => kp b u (fun z => n (z ▸ oa)) q, fun b q => (q.imp (fun z => Own.st_ob z e) id).elim .inl fun z => .inr (.inl z), fun b x z => (h.tm b x).2 (Own.st_ob z e), fun _ x => x, fun b ob w q => kp b _ (nfz b ob w q) q⟩, st⟩
  · by_cases q : j = k
    · subst q; rw [S.g_st_same hl] at ej; cases ej
    · rw [S.g_st_ne q] at ej
      obtain ⟨v, e1, r1⟩ := h.im j i ej
      exact ⟨v, e1, r1.stay st⟩
  · by_cases q : j = k
    · subst q; rw [S.g_st_same hl] at ej; cases ej
      exact ⟨a, ea, ⟨u', upd_same, r'.stay st⟩, nr⟩
    · rw [S.g_st_ne q] at ej
      obtain ⟨b, e1, r1, n1⟩ := h.ob j o1 ej
      exact ⟨b, e1, r1.stay st (fun u x => kp b u (fun z => q (h.dj j k a _ _ ej e (z ▸ e1) ea)) x), n1⟩
  · have cov : ∀ j o1, (s.st k (.ob o')).g j = some (.ob o1) → ∃ o2, s.g j = some (.ob o2) := fun j o1 ej => by
      by_cases q : j = k
      · subst q; exact ⟨o, e⟩
      · rw [S.g_st_ne q] at ej; exact ⟨_, ej⟩
    obtain ⟨_, e1⟩ := cov j o1 ej
    obtain ⟨_, e2⟩ := cov m o2 em
    exact h.dj j m b _ _ e1 e2 x z
  · subst z; exact nr (List.mem_of_getElem? x)
  · obtain ⟨⟨u1, q1, m1⟩, n1⟩ := h.tm b x
    exact ⟨⟨u1, kp b u1 (fun z => n1 (z ▸ oa)) q1, m1⟩, fun z => n1 (Own.st_ob z e)⟩
theorem Rel.putS (h : Rel K T s σ H ρ) {k : Nat} {o o' : O} (e : s.g k = some (.ob o)) {a : Addr} (ea : σ[k]? = some (some (V.ref a))) {u' : HO} (r' : RpO K H (Uni (Own s σ ρ) T) ρ o' u') (nl : ∀ m, o ≠ .lk m) :
    Rel K T (s.st k (.ob o')) σ (upd H a u') ρ ∧ Stp H (Own s σ ρ) T (upd H a u') (Own (s.st k (.ob o')) σ ρ) T := by
  obtain ⟨r1, r2, _⟩ := h.putR e ea r'
  refine ⟨r1, r2 fun b ob w q z => ?_⟩
  obtain ⟨a', y, ⟨u, ha, r⟩, _⟩ := h.ob k _ e
  rw [ea] at y; cases y
  exact r.nofrz nl ob w (Option.some.inj (ha.symm.trans (z ▸ q)))
/-- a boxed object is changed -/
theorem Rel.putB (h : Rel K T s σ H ρ) {n : Nat} {o o' : O} (e : s.hp[n]? = some o) {a : Addr} (ea : ρ[n]? = some a) {u' : HO} (r' : RpO K H (Uni (Own s σ ρ) T) ρ o' u') (nl : ∀ m, o ≠ .lk m) :
    Rel K T (s.sh n o') σ (upd H a u') ρ ∧ Stp H (Own s σ ρ) T (upd H a u') (Own (s.sh n o') σ ρ) T := by
  have oa : Own s σ ρ a := .inr (List.mem_of_getElem? ea)
  have kp : ∀ b u, b ≠ a → H b = some u → (upd H a u') b = some u := fun b u n q => by rw [upd_ne n]; exact q
  have ow : ∀ b, Own (s.sh n o') σ ρ b → Own s σ ρ b := fun b x => x
  have st : Stay H (Uni (Own s σ ρ) T) ρ (upd H a u') (Uni (Own (s.sh n o') σ ρ) T) ρ :=
    ⟨fun b u q n => kp b u (fun z => n (.inl (z ▸ oa))) q, fun b x => .inl x, h.mt, Pre.refl ρ⟩
  have hn : n < s.hp.length := (List.getElem?_eq_some_iff.mp e).1
  obtain ⟨u0, ha, r0⟩ := h.bx n _ a e ea
  refine ⟨⟨h.len, fun j i ej => ?_, fun j o1 ej => ?_, h.dj, by show (s.hp.set n o').length = _; rw [List.length_set]; exact h.hl, fun m o1 b en x => ?_, h.nd, fun b x => ?_⟩,
    ⟨fun b u q n => kp b u (fun z => n (z ▸ oa)) q, fun b q => q.elim .inl fun z => .inr (.inl z), h.dis, fun _ x => x, fun b ob w q => kp b _ (fun z => r0.nofrz nl ob w (Option.some.inj (ha.symm.trans (z ▸ q)))) q⟩⟩
  · obtain ⟨v, e1, r1⟩ := h.im j i ej
    exact ⟨v, e1, r1.stay st⟩
  · obtain ⟨b, e1, r1, n1⟩ := h.ob j o1 ej
    exact ⟨b, e1, r1.stay st (fun u x => kp b u (fun z => n1 (z ▸ List.mem_of_getElem? ea)) x), n1⟩
  · have en' : (s.hp.set n o')[m]? = some o1 := en
    by_cases q : m = n
    · subst q
      rw [List.getElem?_set_self hn] at en'
      cases en'
      rw [ea] at x; cases x
      exact ⟨u', upd_same, r'.stay st⟩
    · rw [List.getElem?_set_ne (Ne.symm q)] at en'
      refine (h.bx m o1 b en' x).stay st fun u y => kp b u (fun z => q ?_) y
      subst z
      obtain ⟨h1, e1⟩ := List.getElem?_eq_some_iff.mp x
      obtain ⟨h2, e2⟩ := List.getElem?_eq_some_iff.mp ea
      exact (List.getElem_inj h.nd).mp (e1.trans e2.symm)
  · obtain ⟨⟨u1, q1, m1⟩, n1⟩ := h.tm b x
    exact ⟨⟨u1, kp b u1 (fun z => n1 (z ▸ oa)) q1, m1⟩, n1⟩
/-- a slot is given a value -/
theorem Own.set_im {k : Nat} {i : I} {v : V} {b : Addr} (hk : k < s.env.length) (h : Own (s.st k (.im i)) (σ.set k (some v)) ρ b) : Own s σ ρ b := by
  rcases h with ⟨j, o, e, x⟩ | x
  · by_cases q : j = k
    · subst q; rw [S.g_st_same hk] at e; cases e
    · rw [S.g_st_ne q] at e
      rw [List.getElem?_set_ne (Ne.symm q)] at x
      exact .inl ⟨j, o, e, x⟩
  · exact .inr x
theorem Rel.setI (h : Rel K T s σ H ρ) {k : Nat} {i : I} {v : V} (hk : k < s.env.length) (r : Rp K H (Uni (Own s σ ρ) T) ρ i v) :
    Rel K T (s.st k (.im i)) (σ.set k (some v)) H ρ ∧ Stp H (Own s σ ρ) T H (Own (s.st k (.im i)) (σ.set k (some v)) ρ) T := by
  have ow : ∀ b, Own (s.st k (.im i)) (σ.set k (some v)) ρ b → Own s σ ρ b := fun b => Own.set_im hk
  have st : Stay H (Uni (Own s σ ρ) T) ρ H (Uni (Own (s.st k (.im i)) (σ.set k (some v)) ρ) T) ρ := Stay.less h.mt fun b x => x.imp (ow b) id
  have hs : k < σ.length := by rw [← h.len]; exact hk
  refine ⟨⟨by rw [S.st_len, List.length_set]; exact h.len, fun j i' ej => ?_, fun j o ej => ?_, fun j m b o o' ej em x z => ?_, h.hl, fun n o b en x => (h.bx n o b en x).stay st fun _ z => z, h.nd, fun b x => ⟨(h.tm b x).1, fun z => (h.tm b x).2 (ow b z)⟩⟩,
    ⟨fun b u q _ => q, fun b q => (q.imp (ow b) id).elim .inl fun z => .inr (.inl z), fun b x z => (h.tm b x).2 (ow b z), fun _ x => x, fun _ _ _ e => e⟩⟩
  · by_cases q : j = k
    · subst q; rw [S.g_st_same hk] at ej; cases ej
      exact ⟨v, List.getElem?_set_self hs, r.stay st⟩
    · rw [S.g_st_ne q] at ej
      obtain ⟨v', e1, r1⟩ := h.im j i' ej
      exact ⟨v', by rw [List.getElem?_set_ne (Ne.symm q)]; exact e1, r1.stay st⟩
  · by_cases q : j = k
    · subst q; rw [S.g_st_same hk] at ej; cases ej
    · rw [S.g_st_ne q] at ej
      obtain ⟨b, e1, r1, n1⟩ := h.ob j o ej
      exact ⟨b, by rw [List.getElem?_set_ne (Ne.symm q)]; exact e1, r1.stay st (fun _ z => z), n1⟩
  · by_cases q : j = k
    · subst q; rw [S.g_st_same hk] at ej; cases ej
    · by_cases q' : m = k
      · subst q'; rw [S.g_st_same hk] at em; cases em
      · rw [S.g_st_ne q] at ej
        rw [S.g_st_ne q'] at em
        rw [List.getElem?_set_ne (Ne.symm q)] at x
        rw [List.getElem?_set_ne (Ne.symm q')] at z
        exact h.dj j m b _ _ ej em x z
/-- a slot is given an object that was held -/
theorem Rel.setO {U : Addr → Prop} {a : Addr} (h : Rel K U s σ H ρ) {k : Nat} {o : O} (hk : k < s.env.length) (r : RpA K H (Uni (Own s σ ρ) U) ρ o a) (ta : U a) (sub : ∀ b, T b → U b) (nt : ¬ T a) :
    Rel K T (s.st k (.ob o)) (σ.set k (some (V.ref a))) H ρ ∧ (∀ b, Own (s.st k (.ob o)) (σ.set k (some (V.ref a))) ρ b → Own s σ ρ b ∨ b = a) := by
  have hs : k < σ.length := by rw [← h.len]; exact hk
  have ow : ∀ b, Own (s.st k (.ob o)) (σ.set k (some (V.ref a))) ρ b → Own s σ ρ b ∨ b = a := by
    rintro b (⟨j, o1, e, x⟩ | x)
    · by_cases q : j = k
      · subst q
        rw [List.getElem?_set_self hs] at x
        cases x
        exact .inr rfl
      · rw [S.g_st_ne q] at e
        rw [List.getElem?_set_ne (Ne.symm q)] at x
        exact .inl (.inl ⟨j, o1, e, x⟩)
    · exact .inl (.inr x)
  have noa := (h.tm a ta).2
  have st : Stay H (Uni (Own s σ ρ) U) ρ H (Uni (Own (s.st k (.ob o)) (σ.set k (some (V.ref a))) ρ) T) ρ :=
    Stay.less h.mt fun b x => x.elim (fun z => (ow b z).elim .inl fun z => .inr (z ▸ ta)) fun z => .inr (sub b z)
  refine ⟨⟨by rw [S.st_len, List.length_set]; exact h.len, fun j i' ej => ?_, fun j o1 ej => ?_, fun j m b o1 o2 ej em x z => ?_, h.hl, fun n o1 b en x => (h.bx n o1 b en x).stay st fun _ z => z, h.nd, fun b x => ⟨(h.tm b (sub b x)).1, fun z => ?_⟩⟩, ow⟩
  · by_cases q : j = k
    · subst q; rw [S.g_st_same hk] at ej; cases ej
    · rw [S.g_st_ne q] at ej
      obtain ⟨v', e1, r1⟩ := h.im j i' ej
      exact ⟨v', by rw [List.getElem?_set_ne (Ne.symm q)]; exact e1, r1.stay st⟩
  · by_cases q : j = k
    · subst q; rw [S.g_st_same hk] at ej; cases ej
      exact ⟨a, List.getElem?_set_self hs, r.stay st (fun _ z => z), fun z => noa (.inr z)⟩
    · rw [S.g_st_ne q] at ej
      obtain ⟨b, e1, r1, n1⟩ := h.ob j o1 ej
      exact ⟨b, by rw [List.getElem?_set_ne (Ne.symm q)]; exact e1, r1.stay st (fun _ z => z), n1⟩
  · by_cases q : j = k
    · subst q
      rw [List.getElem?_set_self hs] at x
      cases x
      by_cases q' : m = j
      · exact q'.symm
      · rw [S.g_st_ne q'] at em
        rw [List.getElem?_set_ne (Ne.symm q')] at z
        exact absurd (.inl ⟨m, o2, em, z⟩) noa
    · by_cases q' : m = k
      · subst q'
        rw [List.getElem?_set_self hs] at z
        cases z
        rw [S.g_st_ne q] at ej
        rw [List.getElem?_set_ne (Ne.symm q)] at x
        exact absurd (.inl ⟨j, o1, ej, x⟩) noa
      · rw [S.g_st_ne q] at ej
        rw [S.g_st_ne q'] at em
        rw [List.getElem?_set_ne (Ne.symm q)] at x
        rw [List.getElem?_set_ne (Ne.symm q')] at z
        exact h.dj j m b _ _ ej em x z
  · rcases ow b z with w | w
    · exact (h.tm b (sub b x)).2 w
    · exact nt (w ▸ x)
end
end CH
namespace CH
open PySem L2
def tOf (r : R) (v : V) : Addr → Prop := match r with
  | .tmp _ => fun a => v = .ref a
  | _ => fun _ => False
/-- how an expression's result lies -/
def RpR (K : PySem.W.Frag) (H : Hp) (W : Addr → Prop) (ρ : List Addr) (σ : Sg) : R → V → Prop
  | .val i, v => Rp K H W ρ i v
  | .tmp o, v => ∃ a, v = .ref a ∧ RpA K H W ρ o a
  | .var k, v => σ[k]? = some (some v)
structure Kd (α β : Type) where
  tm : α → β → Addr → Prop
  rp : PySem.W.Frag → Hp → (Addr → Prop) → List Addr → Sg → α → β → Prop
def kR : Kd R V := ⟨tOf, RpR⟩
def kI : Kd I V := ⟨fun _ _ _ => False, fun K H W ρ _ i v => Rp K H W ρ i v⟩
def kL : Kd (List I) (List V) := ⟨fun _ _ _ => False, fun K H W ρ _ i v => Rps K H W ρ i v⟩
def kE {α : Type} : Kd α α := ⟨fun _ _ _ => False, fun _ _ _ _ _ a b => a = b⟩
section
variable {α β α' β' : Type} {K : PySem.W.Frag} {T T' : Addr → Prop} {s s' : S} {σ σ' : Sg} {H H' : Hp} {ρ ρ' : List Addr}
/-- how an exception lies: its class, its fields -/
def RpX (K : PySem.W.Frag) (H : Hp) (W : Addr → Prop) (ρ : List Addr) (c : String) (l : List I) (cls : Value) (d : Option Addr) : Prop :=
  cls = clsA K c ∧ ((l = [] ∧ d = none) ∨ ∃ (f : List Nat) (i : I) (v : V) (dd : Addr), l = [.str f, i] ∧ d = some dd ∧ H dd = some (.xd [(mkS f, v)]) ∧ Rp K H W ρ i v)
theorem RpX.stay {K : PySem.W.Frag} {H H' : Hp} {W W' : Addr → Prop} {ρ ρ' : List Addr} {c : String} {l : List I} {cls : Value} {d : Option Addr} (y : Stay H W ρ H' W' ρ') (h : RpX K H W ρ c l cls d) : RpX K H' W' ρ' c l cls d := by
  obtain ⟨h1, h2 | ⟨f, i, v, dd, e1, e2, e3, r⟩⟩ := h
  · exact ⟨h1, .inl h2⟩
  · exact ⟨h1, .inr ⟨f, i, v, dd, e1, e2, y.keep _ _ e3 (y.off e3 fun z => z.elim id fun ⟨_, _, e⟩ => by cases e), r.stay y⟩⟩
/-- what is wished of an exception -/
class Wsh where
  w : WX
/-- an exception's way out, told from the begin -/
def Xc [Wsh] (K : PySem.W.Frag) (T : Addr → Prop) (s : S) (σ : Sg) (H : Hp) (ρ : List Addr) (c : String) (l : List I) (s' : S) : Prop := ∀ cls d H' ρ', Rel K T s' σ H' ρ' → Stp H (Own s σ ρ) T H' (Own s' σ ρ') T → Pre ρ ρ' → RpX K H' (Uni (Own s' σ ρ') T) ρ' c l cls d → Wsh.w cls d σ H'
variable [Wsh]
theorem Xc.from {K : PySem.W.Frag} {T T1 : Addr → Prop} {s s1 s' : S} {σ : Sg} {H H1 : Hp} {ρ ρ1 : List Addr} {c : String} {l : List I} (h : Xc K T s σ H ρ c l s') (st : Stp H (Own s σ ρ) T H1 (Own s1 σ ρ1) T1) (p : Pre ρ ρ1) (sub : ∀ z, T z → T1 z) : Xc K T1 s1 σ H1 ρ1 c l s' := by
  intro cls d H2 ρ2 r2 st2 p2 q2
  exact h cls d H2 ρ2 (r2.drop sub) ((st.trans st2).drop sub fun z x => x) (p.trans p2) (q2.stay (Stay.less r2.mt fun z x => x.imp id (sub z)))
def Run (k : Kd α β) (K : PySem.W.Frag) (T : Addr → Prop) (s : S) (σ : Sg) (H : Hp) (ρ : List Addr) (x : Res α) (F : α → β → S → Hp → List Addr → Prop) : Prop := match x with
  | .ok a s' => ∀ b H' ρ', Rel K (Uni T (k.tm a b)) s' σ H' ρ' → Stp H (Own s σ ρ) T H' (Own s' σ ρ') (Uni T (k.tm a b)) → Pre ρ ρ' → k.rp K H' (Uni (Own s' σ ρ') (Uni T (k.tm a b))) ρ' σ a b → (∀ c, k.tm a b c → ¬ T c) → F a b s' H' ρ'
  | .exc c l s' => Xc K T s σ H ρ c l s'
  | .bad => False
theorem Run.mono {k : Kd α β} {x : Res α} {F G : α → β → S → Hp → List Addr → Prop} (h : Run k K T s σ H ρ x F)
    (g : ∀ a b s' H' ρ', Rel K (Uni T (k.tm a b)) s' σ H' ρ' → Stp H (Own s σ ρ) T H' (Own s' σ ρ') (Uni T (k.tm a b)) → Pre ρ ρ' → k.rp K H' (Uni (Own s' σ ρ') (Uni T (k.tm a b))) ρ' σ a b → (∀ c, k.tm a b c → ¬ T c) → F a b s' H' ρ' → G a b s' H' ρ') :
    Run k K T s σ H ρ x G := by
  cases x with
  | ok a s' => exact fun b H' ρ' r st p q d => g a b s' H' ρ' r st p q d (h b H' ρ' r st p q d)
  | exc c l s => exact h
  | bad => exact h
/-- the rest is still told from the begin -/
theorem Run.bind0 {k : Kd α β} {k' : Kd α' β'} {x : Res α'} {f : α' → S → Res α} {F : α → β → S → Hp → List Addr → Prop} (h : Run k K T s σ H ρ (x.bind f) F) :
    Run k' K T s σ H ρ x fun a _ s1 _ _ => Run k K T s σ H ρ (f a s1) F := by
  cases x with
  | ok a s' => exact fun _ _ _ _ _ _ _ _ => h
  | exc c l s => exact h
  | bad => exact h
/-- what stays, of a step -/
theorem Rp.less {W W' : Addr → Prop} {i : I} {v : V} (h : Rp K H W ρ i v) (m : ∀ b, W b → Mu (H b)) (w : ∀ b, W' b → W b) : Rp K H W' ρ i v := h.stay (Stay.less m w)
theorem Rps.less {W W' : Addr → Prop} {i : List I} {v : List V} (h : Rps K H W ρ i v) (m : ∀ b, W b → Mu (H b)) (w : ∀ b, W' b → W b) : Rps K H W' ρ i v := h.stay (Stay.less m w)
theorem RpR.less {W W' : Addr → Prop} {r : R} {v : V} (h : RpR K H W ρ σ r v) (m : ∀ b, W b → Mu (H b)) (w : ∀ b, W' b → W b) : RpR K H W' ρ σ r v := by
  cases r with
  | val i => exact Rp.less h m w
  | tmp o =>
    obtain ⟨a, e, q⟩ := h
    exact ⟨a, e, q.stay (Stay.less m w) fun _ z => z⟩
  | var k => exact h
/-- kinds whose facts hang on less where less is held -/
def Kd.Anti (k : Kd α β) : Prop := ∀ {K : PySem.W.Frag} {H : Hp} {W W' : Addr → Prop} {ρ : List Addr} {σ : Sg} {a : α} {b : β}, k.rp K H W ρ σ a b → (∀ b, W b → Mu (H b)) → (∀ b, W' b → W b) → k.rp K H W' ρ σ a b
theorem kR_anti : kR.Anti := fun h m w => RpR.less h m w
theorem kI_anti : kI.Anti := fun h m w => Rp.less h m w
theorem kL_anti : kL.Anti := fun h m w => Rps.less h m w
theorem kE_anti {α : Type} : (kE : Kd α α).Anti := fun h _ _ => h
/-- the rest is told from where the first part ended -/
theorem Run.bind {k : Kd α β} {k' : Kd α' β'} {x : Res α'} {f : α' → S → Res α} {F : α → β → S → Hp → List Addr → Prop} (ka : k.Anti) (h : Run k K T s σ H ρ (x.bind f) F) :
    Run k' K T s σ H ρ x fun a b s1 H1 ρ1 => Run k K (Uni T (k'.tm a b)) s1 σ H1 ρ1 (f a s1) F := by
  refine Run.mono (Run.bind0 h) fun a b s1 H1 ρ1 r1 st1 p1 q1 d1 h1 => ?_
  cases e : f a s1 with
  | ok c s2 =>
    rw [e] at h1
    intro b' H2 ρ2 r2 st2 p2 q2 d2
    have sub : ∀ z, Uni T (k.tm c b') z → Uni (Uni T (k'.tm a b)) (k.tm c b') z := fun z x => x.imp .inl id
    exact h1 b' H2 ρ2 (r2.drop sub) ((st1.trans st2).drop sub fun z x => .inl x) (p1.trans p2) (ka q2 r2.mt fun z x => x.imp id (sub z)) fun z x y => d2 z x (.inl y)
  | exc c l s2 =>
    rw [e] at h1
    exact Xc.from h1 st1 p1 fun z x => .inl x
  | bad => rw [e] at h1; exact h1
theorem RpR.stay (st : Stp H (Own s σ ρ) T H' (Own s' σ ρ') T') (h : Rel K T s σ H ρ) (p : Pre ρ ρ') {r : R} {v : V} (q : RpR K H (Uni (Own s σ ρ) T) ρ σ r v) (t : ∀ a, tOf r v a → T a) : RpR K H' (Uni (Own s' σ ρ') T') ρ' σ r v := by
  have sy := st.stay h p
  cases r with
  | val i => exact Rp.stay sy q
  | tmp o =>
    obtain ⟨a, e, r⟩ := q
    exact ⟨a, e, r.stay sy fun u z => st.keep a u z (h.tm a (t a e)).2⟩
  | var k => exact q
/-- an end at which nothing is made -/
theorem Run.leaf {k : Kd α β} {a : α} {b : β} {F : α → β → S → Hp → List Addr → Prop} (h : Run k K T s σ H ρ (.ok a s) F) (r : Rel K T s σ H ρ) (t : ∀ c, ¬ k.tm a b c) (ka : k.Anti) (q : k.rp K H (Uni (Own s σ ρ) T) ρ σ a b) : F a b s H ρ := by
  have sub : ∀ z, Uni T (k.tm a b) z → T z := fun z x => x.elim id fun y => absurd y (t z)
  exact h b H ρ (r.drop sub) ((Stp.refl r.dis).drop sub fun z x => .inl x) (Pre.refl ρ) (ka q r.mt fun z x => x.imp id (sub z)) fun z x => absurd x (t z)
theorem Run.val {F : R → V → S → Hp → List Addr → Prop} {i : I} {v : V} (h : Run kR K T s σ H ρ (.ok (.val i) s) F) (r : Rel K T s σ H ρ) (q : Rp K H (Uni (Own s σ ρ) T) ρ i v) : F (.val i) v s H ρ := h.leaf (b := v) r (fun _ z => z) kR_anti q
/-- an end at which a new object is held -/
theorem Run.new {F : R → V → S → Hp → List Addr → Prop} {o : O} {u : HO} (h : Run kR K T s σ H ρ (.ok (.tmp o) s) F) (r : Rel K T s σ H ρ) {p : Addr} (hp : H p = none) (q : RpO K H (Uni (Own s σ ρ) T) ρ o u) : F (.tmp o) (.ref p) s (upd H p u) ρ := by
  obtain ⟨r1, st⟩ := r.hold hp q.mut
  have kp : ∀ b u', H b = some u' → (upd H p u) b = some u' := fun b u' e => by rw [upd_ne (ne_of_none e hp)]; exact e
  exact h (.ref p) (upd H p u) ρ r1 st (Pre.refl ρ) ⟨p, rfl, u, upd_same, q.stay (st.stay r (Pre.refl ρ))⟩ fun c e t => by
    have e' : V.ref p = V.ref c := e
    cases e'
    obtain ⟨⟨u', e1, _⟩, _⟩ := r.tm p t
    rw [hp] at e1; cases e1
/-- a new tuple -/
theorem Run.newT {F : R → V → S → Hp → List Addr → Prop} {l : List I} {vs : List V} (h : Run kR K T s σ H ρ (.ok (.val (.tup l)) s) F) (r : Rel K T s σ H ρ) {p : Addr} {o : Obj} (hd : o.dict = none) (hc : o.cls = .type "tuple") (hp : H p = none) (q : Rps K H (Uni (Own s σ ρ) T) ρ l vs) : F (.val (.tup l)) (.ref p) s (upd H p (.frz o (.tup vs))) ρ := by
  obtain ⟨r1, st⟩ := r.laid (o := .frz o (.tup vs)) hp
  have sub : ∀ z, Uni T (tOf (.val (.tup l)) (.ref p)) z → T z := fun z x => x.elim id fun y => False.elim y
  exact h (.ref p) (upd H p (.frz o (.tup vs))) ρ (r1.drop sub) (st.drop sub fun z x => .inl x) (Pre.refl ρ) (Rp.less (W := Uni (Own s σ ρ) T) (.tup (.inl ⟨o, upd_same, hd, hc⟩) (q.stay (st.stay r (Pre.refl ρ)))) r1.mt fun z x => x.imp id (sub z)) fun c e => False.elim e
theorem Rps.length : ∀ {l : List I} {vs : List V} {W : Addr → Prop}, Rps K H W ρ l vs → l.length = vs.length
  | _, _, _, .nil => rfl
  | _, _, _, .cons _ r => by rw [List.length_cons, List.length_cons, Rps.length r]
theorem Rps.get {W : Addr → Prop} : ∀ {l : List I} {vs : List V} {n : Nat} {i : I}, Rps K H W ρ l vs → l[n]? = some i → ∃ v, vs[n]? = some v ∧ Rp K H W ρ i v
  | _, _, _, _, .nil, e => by simp at e
  | _, _, 0, _, .cons q _, e => by simp at e; subst e; exact ⟨_, rfl, q⟩
  | _, _, n + 1, i, .cons _ r, e => by
    obtain ⟨v, h1, h2⟩ := Rps.get (n := n) (i := i) r (by simpa using e)
    exact ⟨v, by simpa using h1, h2⟩
theorem Rps.append {W : Addr → Prop} : ∀ {l m : List I} {vs ws : List V}, Rps K H W ρ l vs → Rps K H W ρ m ws → Rps K H W ρ (l ++ m) (vs ++ ws)
  | _, _, _, _, .nil, s => s
  | _, _, _, _, .cons q r, s => .cons q (Rps.append r s)
theorem Rps.take {W : Addr → Prop} : ∀ {l : List I} {vs : List V} (n : Nat), Rps K H W ρ l vs → Rps K H W ρ (l.take n) (vs.take n)
  | _, _, 0, _ => .nil
  | _, _, _ + 1, .nil => .nil
  | _, _, n + 1, .cons q r => .cons q (Rps.take n r)
theorem Rps.drop {W : Addr → Prop} : ∀ {l : List I} {vs : List V} (n : Nat), Rps K H W ρ l vs → Rps K H W ρ (l.drop n) (vs.drop n)
  | _, _, 0, r => r
  | _, _, _ + 1, .nil => .nil
  | _, _, n + 1, .cons _ r => Rps.drop n r
theorem Rps.set {W : Addr → Prop} {i : I} {v : V} (h : Rp K H W ρ i v) : ∀ {l : List I} {vs : List V} (n : Nat), Rps K H W ρ l vs → Rps K H W ρ (l.set n i) (vs.set n v)
  | _, _, _, .nil => .nil
  | _, _, 0, .cons _ r => .cons h r
  | _, _, n + 1, .cons q r => .cons q (Rps.set h n r)
theorem Rps.eraseIdx {W : Addr → Prop} : ∀ {l : List I} {vs : List V} (n : Nat), Rps K H W ρ l vs → Rps K H W ρ (l.eraseIdx n) (vs.eraseIdx n)
  | _, _, _, .nil => .nil
  | _, _, 0, .cons _ r => r
  | _, _, n + 1, .cons q r => .cons q (Rps.eraseIdx n r)
theorem Rps.dropLast {W : Addr → Prop} : ∀ {l : List I} {vs : List V}, Rps K H W ρ l vs → Rps K H W ρ l.dropLast vs.dropLast
  | _, _, .nil => .nil
  | _, _, .cons q .nil => .nil
  | _, _, .cons q (.cons q' r) => .cons q (Rps.dropLast (.cons q' r))
theorem Rps.reverse {W : Addr → Prop} : ∀ {l : List I} {vs : List V}, Rps K H W ρ l vs → Rps K H W ρ l.reverse vs.reverse
  | _, _, .nil => .nil
  | _, _, .cons q r => by rw [List.reverse_cons, List.reverse_cons]; exact (Rps.reverse r).append (.cons q .nil)
theorem Fz.sql {a : Addr} {vs : List V} (h : Fz K H a vs) : SqL K H a vs := by
  rcases h with ⟨o, h⟩ | h
  · exact .inl (.inr ⟨o, h⟩)
  · exact .inr h
/-- a value's items, as they lie -/
theorem viewQ_ok (r : Rel K T s σ H ρ) {x : R} {v : V} (q : RpR K H (Uni (Own s σ ρ) T) ρ σ x v) {t : Bool} {l : List I} (e : viewQ x s = some (t, l)) :
    ∃ a vs, v = .ref a ∧ Rps K H (Uni (Own s σ ρ) T) ρ l vs ∧ (t = true → Pt K H a vs) ∧ (t = false → SqL K H a vs) ∧ (t = false → isXl x = false → H a = some (.lst vs)) := by
  unfold viewQ at e
  split at e
  · cases e
    cases q with
    | tup h1 h2 => exact ⟨_, _, rfl, h2, fun _ => h1, (fun z => nomatch z), (fun z => nomatch z)⟩
  · cases e
    cases q with
    | fl h1 h2 h3 => exact ⟨_, _, rfl, h3, (fun z => nomatch z), (fun _ => SqL.of h1), fun _ _ => h1⟩
  · cases e
    cases q with
    | xl h1 h3 => exact ⟨_, _, rfl, h3, (fun z => nomatch z), (fun _ => h1.sql), (fun _ z => nomatch z)⟩
  · split at e
    · rename_i hn
      cases e
      cases q with
      | ref ha =>
        obtain ⟨u, hu, hr⟩ := r.bx _ _ _ hn ha
        cases hr with
        | lst hr => exact ⟨_, _, rfl, hr, (fun z => nomatch z), (fun _ => SqL.of hu), fun _ _ => hu⟩
    · cases e
  · cases e
    obtain ⟨a, rfl, u, hu, hr⟩ := q
    cases hr with
    | lst hr => exact ⟨_, _, rfl, hr, (fun z => nomatch z), (fun _ => SqL.of hu), fun _ _ => hu⟩
  · split at e
    · rename_i hk
      cases e
      obtain ⟨a, ea, ⟨u, hu, hr⟩, _⟩ := r.ob _ _ hk
      have q' : σ[_]? = some (some v) := q
      rw [ea] at q'; cases q'
      cases hr with
      | lst hr => exact ⟨_, _, rfl, hr, (fun z => nomatch z), (fun _ => SqL.of hu), fun _ _ => hu⟩
    · cases e
  · cases e
/-- what is compared -/
theorem viewI_ok (r : Rel K T s σ H ρ) {x : R} {v : V} (q : RpR K H (Uni (Own s σ ρ) T) ρ σ x v) {i : I} (e : viewI x s = some i) :
    Rp K H (Uni (Own s σ ρ) T) ρ i v ∨ ∃ a vs l, i = .fl l ∧ v = .ref a ∧ H a = some (.lst vs) ∧ Rps K H (Uni (Own s σ ρ) T) ρ l vs := by
  unfold viewI at e
  split at e
  · split at e
    · rename_i hn
      cases e
      cases q with
      | ref ha =>
        obtain ⟨u, hu, hr⟩ := r.bx _ _ _ hn ha
        cases hr with
        | lst hr => exact .inr ⟨_, _, _, rfl, rfl, hu, hr⟩
    · cases e
  · cases e
    exact .inl q
  · cases e
    obtain ⟨a, rfl, u, hu, hr⟩ := q
    cases hr with
    | lst hr => exact .inr ⟨_, _, _, rfl, rfl, hu, hr⟩
  · split at e
    · rename_i hk
      cases e
      obtain ⟨a, ea, ⟨u, hu, hr⟩, _⟩ := r.ob _ _ hk
      have q' : σ[_]? = some (some v) := q
      rw [ea] at q'; cases q'
      cases hr with
      | lst hr => exact .inr ⟨_, _, _, rfl, rfl, hu, hr⟩
    · cases e
  · cases e
/-- an owned list, as it lies -/
theorem ownL_ok (r : Rel K T s σ H ρ) {x : R} {v : V} (q : RpR K H (Uni (Own s σ ρ) T) ρ σ x v) {l : List I} (e : ownL x s = some l) :
    ∃ a vs, v = .ref a ∧ H a = some (.lst vs) ∧ Rps K H (Uni (Own s σ ρ) T) ρ l vs ∧
      ∀ (l' : List I) (vs' : List V), Rps K H (Uni (Own s σ ρ) T) ρ l' vs' → Rel K T (putO x (.lst l') s) σ (upd H a (.lst vs')) ρ ∧ Stp H (Own s σ ρ) T (upd H a (.lst vs')) (Own (putO x (.lst l') s) σ ρ) T := by
  unfold ownL at e
  split at e
  · split at e
    · rename_i hn
      cases e
      cases q with
      | ref ha =>
        obtain ⟨u, hu, hr⟩ := r.bx _ _ _ hn ha
        cases hr with
        | lst hr => exact ⟨_, _, rfl, hu, hr, fun l' vs' h => r.putB hn ha (.lst h) (fun _ e => nomatch e)⟩
    · cases e
  · split at e
    · rename_i hk
      cases e
      obtain ⟨a, ea, ⟨u, hu, hr⟩, _⟩ := r.ob _ _ hk
      have q' : σ[_]? = some (some v) := q
      rw [ea] at q'; cases q'
      cases hr with
      | lst hr => exact ⟨_, _, rfl, hu, hr, fun l' vs' h => r.putS hk ea (.lst h) (fun _ e => nomatch e)⟩
    · cases e
  · cases e
/-- a value that is stored elsewhere -/
theorem asI_ok {T0 : Addr → Prop} {x : R} {v : V} (r : Rel K (Uni T0 (tOf x v)) s σ H ρ) (q : RpR K H (Uni (Own s σ ρ) (Uni T0 (tOf x v))) ρ σ x v) (d : ∀ c, tOf x v c → ¬ T0 c) {i : I} (e : asI x s = .ok i s') :
    Rel K T0 s' σ H ρ ∧ Rp K H (Uni (Own s' σ ρ) T0) ρ i v ∧ (∀ b, Own s' σ ρ b → Own s σ ρ b) := by
  have sub : ∀ z, T0 z → Uni T0 (tOf x v) z := fun z y => .inl y
  unfold asI at e
  split at e
  · cases e
    exact ⟨r.drop sub, Rp.less q r.mt fun z y => y.imp id (sub z), fun _ z => z⟩
  · cases e
    obtain ⟨a, rfl, u, hu, hr⟩ := q
    cases hr with
    | lst hr =>
      refine ⟨r.drop sub, .fl hu (fun w => ?_) (hr.less r.mt fun z y => y.imp id (sub z)), fun _ z => z⟩
      rcases w with w | w
      · exact (r.tm a (.inr rfl)).2 w
      · exact d a rfl w
  · split at e
    · rename_i hk
      cases e
      obtain ⟨a, ea, _, _⟩ := r.ob _ _ hk
      have q' : σ[_]? = some (some v) := q
      rw [ea] at q'; cases q'
      obtain ⟨r1, _, r3⟩ := r.freeze hk ea
      exact ⟨r1.drop sub, Rp.less r3 r1.mt fun z y => y.imp id (sub z), fun _ => Own.st_im⟩
    · cases e
  · cases e
end
end CH
namespace CH
open PySem L2
variable [Wsh]
theorem PEi {X : Cx} {e : PySem.Expr} {t t' : TE} (h : PE X e t) (w : ∀ σ H Q, t' σ H Q → t σ H Q) : PE X e t' := ⟨fun pins s σ H Q I q => h.run pins s σ H Q I (w σ H Q q)⟩
theorem PTi {X : Cx} {e : PySem.Expr} {t t' : TT} (h : PT X e t) (w : ∀ σ H Q, t' σ H Q → t σ H Q) : PT X e t' := ⟨fun pins s σ H Q I q => h.run pins s σ H Q I (w σ H Q q)⟩
theorem PWi {X : Cx} {e : PySem.Expr} {t t' : TT} (h : PW X e t) (w : ∀ σ H Q, t' σ H Q → t σ H Q) : PW X e t' := ⟨fun wh pins s σ H Q I q => h.run wh pins s σ H Q I (w σ H Q q)⟩
theorem PAi {X : Cx} {e : List PySem.Expr} {t t' : TA} (h : PA X e t) (w : ∀ σ H Q, t' σ H Q → t σ H Q) : PA X e t' := ⟨fun p pins s σ H Q I q => h.run p pins s σ H Q I (w σ H Q q)⟩
/-- the reading of an expression of the language -/
def tE (K : PySem.W.Frag) (c : Ctx) (e : E) : TE := fun σ H Q => ∃ T s ρ, Rel K T s σ H ρ ∧ Run kR K T s σ H ρ (evE c e s) fun _ v _ H' _ => Q v H'
section
variable {K : PySem.W.Frag} {c : Ctx}
theorem one {a x : E} {f : R → S → Res R} {r1 : V → Hp → VK → Prop} (hx : ∀ s, evE c x s = (evE c a s).bind fun u s1 => f u s1)
    (hf : ∀ (T : Addr → Prop) (s : S) (σ : Sg) (H : Hp) (ρ : List Addr) (u : R) (vu : V) (Q : VK), Rel K T s σ H ρ → RpR K H (Uni (Own s σ ρ) T) ρ σ u vu → (∀ a, tOf u vu a → T a) →
      Run kR K T s σ H ρ (f u s) (fun _ v _ H' _ => Q v H') → r1 vu H Q) :
    ∀ σ H Q, tE K c x σ H Q → tUn r1 (tE K c a) σ H Q := by
  intro σ H Q ⟨T, s, ρ, rel, run⟩
  rw [hx] at run
  refine ⟨T, s, ρ, rel, (Run.bind (k' := kR) kR_anti run).mono fun u vu s1 H1 ρ1 rel1 st1 p1 q1 d1 run1 => ?_⟩
  exact hf _ s1 σ H1 ρ1 u vu Q rel1 q1 (fun a h => .inr h) run1
theorem two {a b x : E} {f : R → R → S → Res R} {r2 : R2} (hx : ∀ s, evE c x s = (evE c a s).bind fun u s1 => (evE c b s1).bind fun w s2 => f u w s2)
    (hf : ∀ (T : Addr → Prop) (s : S) (σ : Sg) (H : Hp) (ρ : List Addr) (u w : R) (vu vw : V) (Q : VK), Rel K T s σ H ρ → RpR K H (Uni (Own s σ ρ) T) ρ σ u vu → RpR K H (Uni (Own s σ ρ) T) ρ σ w vw →
      (∀ a, tOf u vu a → T a) → (∀ a, tOf w vw a → T a ∧ ¬ tOf u vu a) → Run kR K T s σ H ρ (f u w s) (fun _ v _ H' _ => Q v H') → r2 vu vw H Q) :
    ∀ σ H Q, tE K c x σ H Q → tOp r2 (tE K c a) (tE K c b) σ H Q := by
  intro σ H Q ⟨T, s, ρ, rel, run⟩
  rw [hx] at run
  refine ⟨T, s, ρ, rel, (Run.bind (k' := kR) kR_anti run).mono fun u vu s1 H1 ρ1 rel1 st1 p1 q1 d1 run1 => ?_⟩
  refine ⟨Uni T (tOf u vu), s1, ρ1, rel1, (Run.bind (k' := kR) kR_anti run1).mono fun w vw s2 H2 ρ2 rel2 st2 p2 q2 d2 run2 => ?_⟩
  exact hf _ s2 σ H2 ρ2 u w vu vw Q rel2 (q1.stay st2 rel1 p2 fun a h => .inr h) q2 (fun a h => .inl (.inr h)) (fun a h => ⟨.inr h, fun z => d2 a h (.inr z)⟩) run2
end
theorem Run.req {α β : Type} {k : Kd α β} {K : PySem.W.Frag} {T : Addr → Prop} {s : S} {σ : Sg} {H : Hp} {ρ : List Addr} {c : Bool} {x : Res α} {F : α → β → S → Hp → List Addr → Prop} (h : Run k K T s σ H ρ (Res.req c x) F) : c = true ∧ Run k K T s σ H ρ x F := by
  cases c with
  | true => exact ⟨rfl, h⟩
  | false => exact False.elim h
theorem Run.opt {α β γ : Type} {k : Kd α β} {K : PySem.W.Frag} {T : Addr → Prop} {s s' : S} {σ : Sg} {H : Hp} {ρ : List Addr} {o : Option γ} {g : γ → α} {F : α → β → S → Hp → List Addr → Prop} (h : Run k K T s σ H ρ (opt (o.map g) s') F) : ∃ z, o = some z ∧ Run k K T s σ H ρ (.ok (g z) s') F := by
  cases o with
  | some z => exact ⟨z, rfl, h⟩
  | none => exact False.elim h
section
variable {X : Cx} {T : Addr → Prop} {s : S} {σ : Sg} {H : Hp} {ρ : List Addr} {u w : R} {vu vw : V} {Q : VK}
/-- text * int -/
theorem op_rep_str : OpR X (binaryOp .Mult) (fun x y H Q => ∃ z k, x = .str z ∧ y = .int k ∧ z.length ≤ 1000 ∧ k < 1000 ∧ -(2 ^ 63) ≤ k ∧ Q (.str (Txt.mul z k)) H) := by
  intro pins s σ H x y v u Q I rx ry h
  obtain ⟨z, k, rfl, rfl, h1, h2, h3, q⟩ := h
  obtain ⟨t, rfl⟩ := rx
  obtain ⟨t', rfl⟩ := ry
  refine SB.mul ⟨?_, fun a b c => ?_, fun a b => ?_⟩ fun t' n => ⟨.str _, H, I.tok _, ⟨_, rfl⟩, q⟩
  · rw [Bool.or_eq_false_iff]
    exact ⟨decide_eq_false (by omega), decide_eq_false (by omega)⟩
  · have h5 : (2 : Int) ^ 63 - 1 = 9223372036854775807 := by decide
    rw [h5] at c
    have h6 : (9223372036854775807 : Int) / k ≥ 9223372036854775807 / 1000 := by
      have : (9223372036854775807 : Int) / 1000 * k ≤ 9223372036854775807 := by omega
      exact (Int.le_ediv_iff_mul_le (by omega)).mpr this
    have : (9223372036854775807 : Int) / 1000 = 9223372036854775 := by decide
    omega
  · have h7 : z.length * k.toNat ≤ 1000 * 1000 := Nat.mul_le_mul h1 (by omega)
    exact decide_eq_false (by rw [sizeLine_eq]; omega)
end
end CH
namespace CH
open PySem L2
variable [Wsh]
open PySem.SeqAt
inductive NF where | non | int (i : Int) | str (l : List Nat) | tup (l : List NF) | lst (l : List NF) | ref
mutual
def nf : I → NF
  | .non => .non
  | .bl b => .int (if b then 1 else 0)
  | .int i => .int i
  | .str l => .str l
  | .tup l => .tup (nfL l)
  | .fl l => .lst (nfL l)
  | .xl l => .lst (nfL l)
  | .ref _ => .ref
  | .fa _ _ => .ref
  | .ex _ _ => .ref
def nfL : List I → List NF
  | [] => []
  | a :: r => nf a :: nfL r
end
mutual
theorem eqI_nf : ∀ (n m : Nat) (i j : I), dep n i = true → dep m j = true → (eqI i j = true ↔ nf i = nf j)
  | n, m, i, j, d, e => by
    cases i <;> cases j <;> first
      | (cases n <;> cases d <;> done)
      | (cases m <;> cases e <;> done)
      | (simp [eqI, nf]; done)
      | (simp only [eqI, nf, Bool.false_eq_true, false_iff]; intro h; cases h; done)
      | (rename_i a b; cases n with
          | zero => cases d
          | succ n => cases m with
            | zero => cases e
            | succ m =>
              have := eqL_nf n m a b d e
              simp only [eqI, nf]
              exact this.trans ⟨fun h => by rw [h], fun h => by injection h⟩)
      | (rename_i a b; cases a <;> cases b <;> simp [eqI, nf] <;> done)
      | (rename_i a b; cases a <;> simp [eqI, nf, eq_comm] <;> done)
      | (rename_i a b; cases b <;> simp [eqI, nf, eq_comm] <;> done)
theorem eqL_nf : ∀ (n m : Nat) (l k : List I), depL n l = true → depL m k = true → (eqL l k = true ↔ nfL l = nfL k)
  | _, _, [], [], _, _ => by simp [eqL, nfL]
  | _, _, [], _ :: _, _, _ => by simp [eqL, nfL]
  | _, _, _ :: _, [], _, _ => by simp [eqL, nfL]
  | n, m, a :: l, b :: k, d, e => by
    unfold depL at d e
    rw [Bool.and_eq_true] at d e
    have h1 := eqI_nf n m a b d.1 e.1
    have h2 := eqL_nf n m l k d.2 e.2
    simp only [eqL, nfL, Bool.and_eq_true, h1, h2, List.cons.injEq]
end
theorem eqI_cong {n n' m : Nat} {i i' j : I} (d : dep n i = true) (d' : dep n' i' = true) (e : dep m j = true) (h : eqI i i' = true) : eqI i j = eqI i' j := by
  have h0 := (eqI_nf n n' i i' d d').mp h
  have h1 := eqI_nf n m i j d e
  have h2 := eqI_nf n' m i' j d' e
  rw [h0] at h1
  rw [Bool.eq_iff_iff, h1, h2]
theorem eqvAllR_same : ∀ (e : Nat → Bool) (n : Nat), (∀ j, j < n → e j = true) → (List.range n).all e = true := fun e n h => by
  rw [List.all_eq_true]
  intro x hx
  exact h x (List.mem_range.mp hx)
def pr (l m : List I) (j : Nat) : Bool := match l[j]?, m[j]? with
  | some a, some b => eqI a b
  | _, _ => true
theorem pr_cons (a b : I) (l m : List I) (j : Nat) : pr (a :: l) (b :: m) (j + 1) = pr l m j := by unfold pr; simp
theorem range_all_succ (e : Nat → Bool) (n : Nat) : (List.range (n + 1)).all e = (e 0 && (List.range n).all fun j => e (j + 1)) := by
  rw [List.range_succ_eq_map, List.all_cons, List.all_map]; rfl
theorem eqL_range : ∀ (l m : List I), l.length = m.length → (List.range l.length).all (pr l m) = eqL l m
  | [], [], _ => rfl
  | [], _ :: _, h => by cases h
  | _ :: _, [], h => by cases h
  | a :: l, b :: m, h => by
    rw [List.length_cons, range_all_succ]
    have e : (fun j => pr (a :: l) (b :: m) (j + 1)) = pr l m := funext fun j => pr_cons a b l m j
    rw [e, eqL_range l m (by simpa using h)]
    rfl
theorem eqL_len : ∀ (l m : List I), l.length ≠ m.length → eqL l m = false
  | [], [], h => absurd rfl h
  | [], _ :: _, _ => rfl
  | _ :: _, [], _ => rfl
  | a :: l, b :: m, h => by
    show (eqI a b && eqL l m) = false
    rw [eqL_len l m (by simpa using h), Bool.and_false]
theorem eqL_tup : ∀ (l m : List I), ((List.range (min l.length m.length)).all (pr l m) && l.length == m.length) = eqL l m := fun l m => by
  by_cases h : l.length = m.length
  · rw [← eqL_range l m h, h, Nat.min_self]; simp
  · rw [eqL_len l m h]
    have : (l.length == m.length) = false := by simpa using h
    rw [this, Bool.and_false]
section
variable {X : Cx} {pins : List (Addr × Obj)} {σ0 : L2.St} {s : Shared} {H : Hp} {W : Addr → Prop} {ρ : List Addr}
/-- the kinds of things that are compared -/
inductive Kn (K : PySem.W.Frag) (H : Hp) (W : Addr → Prop) (ρ : List Addr) : I → V → Prop where
  | non : Kn K H W ρ .non .non
  | bl (b : Bool) : Kn K H W ρ (.bl b) (.bl b)
  | int (i : Int) : Kn K H W ρ (.int i) (.int i)
  | str (l : List Nat) : Kn K H W ρ (.str l) (.str (mkS l))
  | tup {a : Addr} {vs : List V} {l : List I} {i : I} : i = .tup l → SqT K H a vs → Rps K H W ρ l vs → Kn K H W ρ i (.ref a)
  | lst {a : Addr} {vs : List V} {l : List I} {i : I} : i = .fl l ∨ i = .xl l → SqL K H a vs → Rps K H W ρ l vs → Kn K H W ρ i (.ref a)
theorem Rp.kn {i : I} {v : V} {n : Nat} (h : Rp X.K H W ρ i v) (d : dep n i = true) : Kn X.K H W ρ i v := by
  cases h with
  | non => exact .non
  | bl b => exact .bl b
  | int i => exact .int i
  | str l => exact .str l
  | tup h r => exact .tup rfl h.sqt r
  | fl h _ r => exact .lst (.inl rfl) (SqL.of h) r
  | xl h r => exact .lst (.inr rfl) h.sql r
  | ref _ => cases n <;> cases d
  | fa _ _ => cases n <;> cases d
  | ex0 _ _ => cases n <;> cases d
  | ex1 _ _ _ _ => cases n <;> cases d
theorem eq_tt {i j : I} {l m : List I} (hi : i = .tup l) (hj : j = .tup m) : eqI i j = eqL l m := by
  subst hi; subst hj; rfl
theorem eq_ll {i j : I} {l m : List I} (hi : i = .fl l ∨ i = .xl l) (hj : j = .fl m ∨ j = .xl m) : eqI i j = eqL l m := by
  rcases hi with rfl | rfl <;> rcases hj with rfl | rfl <;> rfl
theorem eq_tl {i j : I} {l m : List I} (hi : i = .tup l) (hj : j = .fl m ∨ j = .xl m) : eqI i j = false := by
  subst hi; rcases hj with rfl | rfl <;> rfl
theorem eq_lt {i j : I} {l m : List I} (hi : i = .fl l ∨ i = .xl l) (hj : j = .tup m) : eqI i j = false := by
  subst hj; rcases hi with rfl | rfl <;> rfl
theorem dep_seq {i : I} {l : List I} {n : Nat} (hi : (i = .tup l) ∨ (i = .fl l ∨ i = .xl l)) (d : dep n i = true) : ∃ m, n = m + 1 ∧ depL m l = true := by
  cases n with
  | zero => rcases hi with rfl | (rfl | rfl) <;> cases d
  | succ m => exact ⟨m, rfl, by rcases hi with rfl | (rfl | rfl) <;> exact d⟩
/-- equal data at one place -/
theorem eqI_same : ∀ (n m : Nat) {i j : I} {v : V}, Rp X.K H W ρ i v → Rp X.K H W ρ j v → dep n i = true → dep m j = true → (I0 : Inv X pins σ0 H s) → eqI i j = true := by
  intro n
  induction n with
  | zero =>
    intro m i j v p q d e I0
    cases p.kn d with
    | non => cases q.kn e; rfl
    | bl b => cases q.kn e; show (b == b) = true; simp
    | int b => cases q.kn e; show (b == b) = true; simp
    | str l =>
      generalize hv : V.str (mkS l) = v at q
      cases q.kn e with
      | str l' =>
        have e' : l = l' := by simpa using hv
        subst e'
        show (l == l) = true
        simp
      | _ => cases hv
    | tup h _ _ => obtain ⟨_, z, _⟩ := dep_seq (.inl h) d; cases z
    | lst h _ _ => obtain ⟨_, z, _⟩ := dep_seq (.inr h) d; cases z
  | succ n ih =>
    intro m i j v p q d e I0
    have ihL : ∀ (m : Nat) {l k : List I} {vs : List V}, Rps X.K H W ρ l vs → Rps X.K H W ρ k vs → depL n l = true → depL m k = true → eqL l k = true := by
      intro m l k vs r
      induction l generalizing k vs with
      | nil => intro r' _ _; cases r; cases r'; rfl
      | cons a l ihl =>
        intro r' d e
        cases r with
        | cons q1 r1 =>
          cases r' with
          | cons q2 r2 =>
            unfold depL at d e
            rw [Bool.and_eq_true] at d e
            show (eqI _ _ && eqL _ _) = true
            rw [ih m q1 q2 d.1 e.1 I0, ihl r1 r2 d.2 e.2]; rfl
    cases p.kn d with
    | non => cases q.kn e; rfl
    | bl b => cases q.kn e; show (b == b) = true; simp
    | int b => cases q.kn e; show (b == b) = true; simp
    | str l =>
      generalize hv : V.str (mkS l) = v at q
      cases q.kn e with
      | str l' =>
        have e' : l = l' := by simpa using hv
        subst e'
        show (l == l) = true
        simp
      | _ => cases hv
    | tup h t r =>
      cases q.kn e with
      | tup h' t' r' =>
        cases I0.tuple_inj t t'
        obtain ⟨_, z, d1⟩ := dep_seq (.inl h) d
        cases z
        obtain ⟨m', z', d2⟩ := dep_seq (.inl h') e
        rw [eq_tt h h']
        exact ihL m' r r' d1 d2
      | lst h' t' r' =>
        obtain ⟨its, _, ⟨o, e1, e2, _⟩, _⟩ := I0.tuple t
        obtain ⟨its', _, ⟨o', n', f1, f2, _⟩, _⟩ := I0.list t'
        rw [e1] at f1; cases f1
        rw [e2] at f2; exact absurd (Value.type.inj f2) (by decide)
    | lst h t r =>
      cases q.kn e with
      | lst h' t' r' =>
        cases I0.list_inj t t'
        obtain ⟨_, z, d1⟩ := dep_seq (.inr h) d
        cases z
        obtain ⟨m', z', d2⟩ := dep_seq (.inr h') e
        rw [eq_ll h h']
        exact ihL m' r r' d1 d2
      | tup h' t' r' =>
        obtain ⟨its, _, ⟨o, e1, e2, _⟩, _⟩ := I0.tuple t'
        obtain ⟨its', _, ⟨o', n', f1, f2, _⟩, _⟩ := I0.list t
        rw [e1] at f1; cases f1
        rw [e2] at f2; exact absurd (Value.type.inj f2) (by decide)
theorem eqL_same : ∀ (n m : Nat) {l k : List I} {vs : List V}, Rps X.K H W ρ l vs → Rps X.K H W ρ k vs → depL n l = true → depL m k = true → (I0 : Inv X pins σ0 H s) → eqL l k = true
  | _, _, _, _, _, .nil, .nil, _, _, _ => rfl
  | n, m, _, _, _, .cons q r, .cons q' r', d, e, I0 => by
    unfold depL at d e
    rw [Bool.and_eq_true] at d e
    show (eqI _ _ && eqL _ _) = true
    rw [eqI_same n m q q' d.1 e.1 I0, eqL_same n m r r' d.2 e.2 I0]; rfl
/-- what is compared: a value, or an owned list -/
def Vw (K : PySem.W.Frag) (H : Hp) (W : Addr → Prop) (ρ : List Addr) (i : I) (v : V) : Prop := Rp K H W ρ i v ∨ ∃ a vs l, i = .fl l ∧ v = .ref a ∧ SqL K H a vs ∧ Rps K H W ρ l vs
theorem Vw.kn {i : I} {v : V} {n : Nat} (h : Vw X.K H W ρ i v) (d : dep n i = true) : Kn X.K H W ρ i v := by
  rcases h with h | ⟨a, vs, l, rfl, rfl, h1, h2⟩
  · exact h.kn d
  · exact .lst (.inl rfl) h1 h2
theorem depL_get : ∀ {n : Nat} {l : List I} {j : Nat} {i : I}, depL n l = true → l[j]? = some i → dep n i = true
  | _, [], _, _, _, e => by simp at e
  | n, a :: r, 0, i, d, e => by
    unfold depL at d
    rw [Bool.and_eq_true] at d
    simp at e; subst e; exact d.1
  | n, a :: r, j + 1, i, d, e => by
    unfold depL at d
    rw [Bool.and_eq_true] at d
    exact depL_get d.2 (by simpa using e)
theorem eqAt_I (I0 : Inv X pins σ0 H s) : ∀ (n : Nat) (i j : I) (v w : V) (a b : Value) (A : Around), Vw X.K H W ρ i v → Vw X.K H W ρ j w → RelV v a → RelV w b → dep n i = true → dep n j = true → A.units + n < cLine → EqAt A s a b (eqI i j) := by
  intro n
  induction n with
  | zero =>
    intro i j v w a b A hi hj ra rb di dj hu
    cases hi.kn di with
    | non => cases ra; cases hj.kn dj with
      | non => cases rb; exact EqAt.same _
      | bl b => cases rb; exact EqAt.none_bool b
      | int z => obtain ⟨t, rfl⟩ := rb; exact EqAt.none_int z t
      | str l => obtain ⟨t, rfl⟩ := rb; exact EqAt.none_str _ t
      | tup e _ _ => obtain ⟨m, h, _⟩ := dep_seq (.inl e) dj; cases h
      | lst e _ _ => obtain ⟨m, h, _⟩ := dep_seq (.inr e) dj; cases h
    | bl x => cases ra; cases hj.kn dj with
      | non => cases rb; exact EqAt.bool_none x
      | bl b => cases rb; exact EqAt.bool_bool x b
      | int z => obtain ⟨t, rfl⟩ := rb; exact EqAt.bool_int x z t
      | str l => obtain ⟨t, rfl⟩ := rb; exact EqAt.bool_str x _ t
      | tup e _ _ => obtain ⟨m, h, _⟩ := dep_seq (.inl e) dj; cases h
      | lst e _ _ => obtain ⟨m, h, _⟩ := dep_seq (.inr e) dj; cases h
    | int x => obtain ⟨t, rfl⟩ := ra; cases hj.kn dj with
      | non => cases rb; exact EqAt.int_none x t
      | bl b => cases rb; exact EqAt.int_bool x t b
      | int z => obtain ⟨t', rfl⟩ := rb; exact EqAt.int_int x t z t'
      | str l => obtain ⟨t', rfl⟩ := rb; exact EqAt.int_str x t _ t'
      | tup e _ _ => obtain ⟨m, h, _⟩ := dep_seq (.inl e) dj; cases h
      | lst e _ _ => obtain ⟨m, h, _⟩ := dep_seq (.inr e) dj; cases h
    | str x => obtain ⟨t, rfl⟩ := ra; cases hj.kn dj with
      | non => cases rb; exact EqAt.str_none _ t
      | bl b => cases rb; exact EqAt.str_bool _ t b
      | int z => obtain ⟨t', rfl⟩ := rb; exact EqAt.str_int _ t z t'
      | str l =>
        obtain ⟨t', rfl⟩ := rb
        have := EqAt.str_str (A := A) (s := s) (mkS x) t (mkS l) t'
        rw [← str_beq] at this
        exact this
      | tup e _ _ => obtain ⟨m, h, _⟩ := dep_seq (.inl e) dj; cases h
      | lst e _ _ => obtain ⟨m, h, _⟩ := dep_seq (.inr e) dj; cases h
    | tup e _ _ => obtain ⟨m, h, _⟩ := dep_seq (.inl e) di; cases h
    | lst e _ _ => obtain ⟨m, h, _⟩ := dep_seq (.inr e) di; cases h
  | succ n ih =>
    intro i j v w a b A hi hj ra rb di dj hu
    have hu0 : A.units < cLine := by omega
    have hu1 : A.in1.units + n < cLine := by show A.units + 1 + n < cLine; omega
    cases hi.kn di with
    | non => cases ra; cases hj.kn dj with
      | non => cases rb; exact EqAt.same _
      | bl b => cases rb; exact EqAt.none_bool b
      | int z => obtain ⟨t, rfl⟩ := rb; exact EqAt.none_int z t
      | str l => obtain ⟨t, rfl⟩ := rb; exact EqAt.none_str _ t
      | tup e h _ =>
        cases rb
        obtain ⟨its, _, ht, _⟩ := I0.tuple h
        have := EqAt.none_tuple (A := A) ht hu0
        rcases e with rfl | rfl | rfl <;> exact this
      | lst e h _ =>
        cases rb
        obtain ⟨its, _, ht, _⟩ := I0.list h
        have := EqAt.none_list (A := A) ht.isList hu0
        rcases e with rfl | rfl <;> exact this
    | bl x => cases ra; cases hj.kn dj with
      | non => cases rb; exact EqAt.bool_none x
      | bl b => cases rb; exact EqAt.bool_bool x b
      | int z => obtain ⟨t, rfl⟩ := rb; exact EqAt.bool_int x z t
      | str l => obtain ⟨t, rfl⟩ := rb; exact EqAt.bool_str x _ t
      | tup e h _ =>
        cases rb
        obtain ⟨its, _, ht, _⟩ := I0.tuple h
        have := EqAt.bool_tuple (A := A) x ht hu0
        rcases e with rfl | rfl | rfl <;> exact this
      | lst e h _ =>
        cases rb
        obtain ⟨its, _, ht, _⟩ := I0.list h
        have := EqAt.bool_list (A := A) x ht.isList hu0
        rcases e with rfl | rfl <;> exact this
    | int x => obtain ⟨t, rfl⟩ := ra; cases hj.kn dj with
      | non => cases rb; exact EqAt.int_none x t
      | bl b => cases rb; exact EqAt.int_bool x t b
      | int z => obtain ⟨t', rfl⟩ := rb; exact EqAt.int_int x t z t'
      | str l => obtain ⟨t', rfl⟩ := rb; exact EqAt.int_str x t _ t'
      | tup e h _ =>
        cases rb
        obtain ⟨its, _, ht, _⟩ := I0.tuple h
        have := EqAt.int_tuple (A := A) x t ht hu0
        rcases e with rfl | rfl | rfl <;> exact this
      | lst e h _ =>
        cases rb
        obtain ⟨its, _, ht, _⟩ := I0.list h
        have := EqAt.int_list (A := A) x t ht.isList hu0
        rcases e with rfl | rfl <;> exact this
    | str x => obtain ⟨t, rfl⟩ := ra; cases hj.kn dj with
      | non => cases rb; exact EqAt.str_none _ t
      | bl b => cases rb; exact EqAt.str_bool _ t b
      | int z => obtain ⟨t', rfl⟩ := rb; exact EqAt.str_int _ t z t'
      | str l =>
        obtain ⟨t', rfl⟩ := rb
        have := EqAt.str_str (A := A) (s := s) (mkS x) t (mkS l) t'
        rw [← str_beq] at this
        exact this
      | tup e h _ =>
        cases rb
        obtain ⟨its, _, ht, _⟩ := I0.tuple h
        have := EqAt.str_tuple (A := A) (mkS x) t ht hu0
        rcases e with rfl | rfl | rfl <;> exact this
      | lst e h _ =>
        cases rb
        obtain ⟨its, _, ht, _⟩ := I0.list h
        have := EqAt.str_list (A := A) (mkS x) t ht.isList hu0
        rcases e with rfl | rfl <;> exact this
    | @tup p vs l _ e h r =>
      cases ra
      obtain ⟨its, rv, ht, _⟩ := I0.tuple h
      cases hj.kn dj with
      | non => cases rb; have := EqAt.tuple_none (A := A) ht hu0; rcases e with rfl | rfl | rfl <;> exact this
      | bl y => cases rb; have := EqAt.tuple_bool (A := A) y ht hu0; rcases e with rfl | rfl | rfl <;> exact this
      | int y => obtain ⟨t, rfl⟩ := rb; have := EqAt.tuple_int (A := A) y t ht hu0; rcases e with rfl | rfl | rfl <;> exact this
      | str y => obtain ⟨t, rfl⟩ := rb; have := EqAt.tuple_str (A := A) (mkS y) t ht hu0; rcases e with rfl | rfl | rfl <;> exact this
      | lst e' h' _ =>
        cases rb
        obtain ⟨its', _, ht', _⟩ := I0.list h'
        rw [eq_tl e e']
        exact EqAt.tuple_list ht ht'.isList hu0
      | @tup q ws m _ e' h' r' =>
        cases rb
        obtain ⟨its', rv', ht', _⟩ := I0.tuple h'
        rw [eq_tt e e']
        obtain ⟨k, hk, d1⟩ := dep_seq (.inl e) di
        obtain ⟨k', hk', d2⟩ := dep_seq (.inl e') dj
        cases hk; cases hk'
        by_cases hpq : p = q
        · subst hpq
          cases I0.tuple_inj h h'
          rw [eqL_same _ _ r r' d1 d2 I0]
          exact EqAt.same _
        · have n1 : its.toArray.size = l.length := by rw [List.size_toArray, r.length, rv.length]
          have n2 : its'.toArray.size = m.length := by rw [List.size_toArray, r'.length, rv'.length]
          rw [← eqL_tup l m, ← n1, ← n2]
          refine EqAt.of_refs hpq (RcAt.tuples ht ht' hu0 fun x h1 h2 => ?_)
          have b1 : x < l.length := by omega
          have b2 : x < m.length := by omega
          obtain ⟨v1, g1, p1⟩ := r.get (List.getElem?_eq_getElem b1)
          obtain ⟨v2, g2, p2⟩ := r'.get (List.getElem?_eq_getElem b2)
          obtain ⟨u1, f1, q1⟩ := rv.get g1
          obtain ⟨u2, f2, q2⟩ := rv'.get g2
          have z1 : its.toArray[x] = u1 := by
            have := List.getElem?_eq_some_iff.mp f1
            simpa using this.2
          have z2 : its'.toArray[x] = u2 := by
            have := List.getElem?_eq_some_iff.mp f2
            simpa using this.2
          rw [z1, z2]
          have pe : pr l m x = eqI l[x] m[x] := by unfold pr; rw [List.getElem?_eq_getElem b1, List.getElem?_eq_getElem b2]
          rw [pe]
          exact ih _ _ _ _ _ _ _ (.inl p1) (.inl p2) q1 q2 (depL_get d1 (List.getElem?_eq_getElem b1)) (depL_get d2 (List.getElem?_eq_getElem b2)) hu1
    | @lst p vs l _ e h r =>
      cases ra
      obtain ⟨its, rv, ht, _⟩ := I0.list h
      cases hj.kn dj with
      | non => cases rb; have := EqAt.list_none (A := A) ht.isList hu0; rcases e with rfl | rfl <;> exact this
      | bl y => cases rb; have := EqAt.list_bool (A := A) y ht.isList hu0; rcases e with rfl | rfl <;> exact this
      | int y => obtain ⟨t, rfl⟩ := rb; have := EqAt.list_int (A := A) y t ht.isList hu0; rcases e with rfl | rfl <;> exact this
      | str y => obtain ⟨t, rfl⟩ := rb; have := EqAt.list_str (A := A) (mkS y) t ht.isList hu0; rcases e with rfl | rfl <;> exact this
      | tup e' h' _ =>
        cases rb
        obtain ⟨its', _, ht', _⟩ := I0.tuple h'
        rw [eq_lt e e']
        exact EqAt.list_tuple ht.isList ht' hu0
      | @lst q ws m _ e' h' r' =>
        cases rb
        obtain ⟨its', rv', ht', _⟩ := I0.list h'
        rw [eq_ll e e']
        obtain ⟨k, hk, d1⟩ := dep_seq (.inr e) di
        obtain ⟨k', hk', d2⟩ := dep_seq (.inr e') dj
        cases hk; cases hk'
        by_cases hpq : p = q
        · subst hpq
          cases I0.list_inj h h'
          rw [eqL_same _ _ r r' d1 d2 I0]
          exact EqAt.same _
        · have n1 : its.toArray.size = l.length := by rw [List.size_toArray, r.length, rv.length]
          have n2 : its'.toArray.size = m.length := by rw [List.size_toArray, r'.length, rv'.length]
          by_cases hsz : its.toArray.size = its'.toArray.size
          · rw [← eqL_range l m (by omega), ← n1]
            refine EqAt.of_refs hpq (RcAt.lists ht.isList ht'.isList hsz hu0 fun x h1 h2 => ?_)
            have b1 : x < l.length := by omega
            have b2 : x < m.length := by omega
            obtain ⟨v1, g1, p1⟩ := r.get (List.getElem?_eq_getElem b1)
            obtain ⟨v2, g2, p2⟩ := r'.get (List.getElem?_eq_getElem b2)
            obtain ⟨u1, f1, q1⟩ := rv.get g1
            obtain ⟨u2, f2, q2⟩ := rv'.get g2
            have z1 : its.toArray[x] = u1 := by
              have := List.getElem?_eq_some_iff.mp f1
              simpa using this.2
            have z2 : its'.toArray[x] = u2 := by
              have := List.getElem?_eq_some_iff.mp f2
              simpa using this.2
            rw [z1, z2]
            have pe : pr l m x = eqI l[x] m[x] := by unfold pr; rw [List.getElem?_eq_getElem b1, List.getElem?_eq_getElem b2]
            rw [pe]
            exact ih _ _ _ _ _ _ _ (.inl p1) (.inl p2) q1 q2 (depL_get d1 (List.getElem?_eq_getElem b1)) (depL_get d2 (List.getElem?_eq_getElem b2)) hu1
          · rw [eqL_len l m (by omega)]
            exact EqAt.of_refs hpq (RcAt.lists_lengths ht.isList ht'.isList (by simpa using hsz) hu0)
theorem rcAt_I (I0 : Inv X pins σ0 H s) (n : Nat) (i j : I) (v w : V) (a b : Value) (A : Around) (hi : Vw X.K H W ρ i v) (hj : Vw X.K H W ρ j w) (ra : RelV v a) (rb : RelV w b) (di : dep (n + 1) i = true) (dj : dep (n + 1) j = true) (hu : A.units + (n + 1) < cLine) : RcAt A s a b (eqI i j) := by
    have hu0 : A.units < cLine := by omega
    have hu1 : A.in1.units + n < cLine := by show A.units + 1 + n < cLine; omega
    cases hi.kn di with
    | non => cases ra; cases hj.kn dj with
      | non => cases rb; exact RcAt.none_none
      | bl b => cases rb; exact RcAt.none_bool b
      | int z => obtain ⟨t, rfl⟩ := rb; exact RcAt.none_int z t
      | str l => obtain ⟨t, rfl⟩ := rb; exact RcAt.none_str _ t
      | tup e h _ =>
        cases rb
        obtain ⟨its, _, ht, _⟩ := I0.tuple h
        have := RcAt.none_tuple (A := A) ht hu0
        rcases e with rfl | rfl | rfl <;> exact this
      | lst e h _ =>
        cases rb
        obtain ⟨its, _, ht, _⟩ := I0.list h
        have := RcAt.none_list (A := A) ht.isList hu0
        rcases e with rfl | rfl <;> exact this
    | bl x => cases ra; cases hj.kn dj with
      | non => cases rb; exact RcAt.bool_none x
      | bl b => cases rb; exact RcAt.bool_bool x b
      | int z => obtain ⟨t, rfl⟩ := rb; exact RcAt.bool_int x z t
      | str l => obtain ⟨t, rfl⟩ := rb; exact RcAt.bool_str x _ t
      | tup e h _ =>
        cases rb
        obtain ⟨its, _, ht, _⟩ := I0.tuple h
        have := RcAt.bool_tuple (A := A) x ht hu0
        rcases e with rfl | rfl | rfl <;> exact this
      | lst e h _ =>
        cases rb
        obtain ⟨its, _, ht, _⟩ := I0.list h
        have := RcAt.bool_list (A := A) x ht.isList hu0
        rcases e with rfl | rfl <;> exact this
    | int x => obtain ⟨t, rfl⟩ := ra; cases hj.kn dj with
      | non => cases rb; exact RcAt.int_none x t
      | bl b => cases rb; exact RcAt.int_bool x t b
      | int z => obtain ⟨t', rfl⟩ := rb; exact RcAt.int_int x t z t'
      | str l => obtain ⟨t', rfl⟩ := rb; exact RcAt.int_str x t _ t'
      | tup e h _ =>
        cases rb
        obtain ⟨its, _, ht, _⟩ := I0.tuple h
        have := RcAt.int_tuple (A := A) x t ht hu0
        rcases e with rfl | rfl | rfl <;> exact this
      | lst e h _ =>
        cases rb
        obtain ⟨its, _, ht, _⟩ := I0.list h
        have := RcAt.int_list (A := A) x t ht.isList hu0
        rcases e with rfl | rfl <;> exact this
    | str x => obtain ⟨t, rfl⟩ := ra; cases hj.kn dj with
      | non => cases rb; exact RcAt.str_none _ t
      | bl b => cases rb; exact RcAt.str_bool _ t b
      | int z => obtain ⟨t', rfl⟩ := rb; exact RcAt.str_int _ t z t'
      | str l =>
        obtain ⟨t', rfl⟩ := rb
        have := RcAt.str_str (A := A) (s := s) (mkS x) t (mkS l) t'
        rw [← str_beq] at this
        exact this
      | tup e h _ =>
        cases rb
        obtain ⟨its, _, ht, _⟩ := I0.tuple h
        have := RcAt.str_tuple (A := A) (mkS x) t ht hu0
        rcases e with rfl | rfl | rfl <;> exact this
      | lst e h _ =>
        cases rb
        obtain ⟨its, _, ht, _⟩ := I0.list h
        have := RcAt.str_list (A := A) (mkS x) t ht.isList hu0
        rcases e with rfl | rfl <;> exact this
    | @tup p vs l _ e h r =>
      cases ra
      obtain ⟨its, rv, ht, _⟩ := I0.tuple h
      cases hj.kn dj with
      | non => cases rb; have := RcAt.tuple_none (A := A) ht hu0; rcases e with rfl | rfl | rfl <;> exact this
      | bl y => cases rb; have := RcAt.tuple_bool (A := A) y ht hu0; rcases e with rfl | rfl | rfl <;> exact this
      | int y => obtain ⟨t, rfl⟩ := rb; have := RcAt.tuple_int (A := A) y t ht hu0; rcases e with rfl | rfl | rfl <;> exact this
      | str y => obtain ⟨t, rfl⟩ := rb; have := RcAt.tuple_str (A := A) (mkS y) t ht hu0; rcases e with rfl | rfl | rfl <;> exact this
      | lst e' h' _ =>
        cases rb
        obtain ⟨its', _, ht', _⟩ := I0.list h'
        rw [eq_tl e e']
        exact RcAt.tuple_list ht ht'.isList hu0
      | @tup q ws m _ e' h' r' =>
        cases rb
        obtain ⟨its', rv', ht', _⟩ := I0.tuple h'
        rw [eq_tt e e']
        obtain ⟨k, hk, d1⟩ := dep_seq (.inl e) di
        obtain ⟨k', hk', d2⟩ := dep_seq (.inl e') dj
        cases hk; cases hk'
        · have n1 : its.toArray.size = l.length := by rw [List.size_toArray, r.length, rv.length]
          have n2 : its'.toArray.size = m.length := by rw [List.size_toArray, r'.length, rv'.length]
          rw [← eqL_tup l m, ← n1, ← n2]
          refine RcAt.tuples ht ht' hu0 fun x h1 h2 => ?_
          have b1 : x < l.length := by omega
          have b2 : x < m.length := by omega
          obtain ⟨v1, g1, p1⟩ := r.get (List.getElem?_eq_getElem b1)
          obtain ⟨v2, g2, p2⟩ := r'.get (List.getElem?_eq_getElem b2)
          obtain ⟨u1, f1, q1⟩ := rv.get g1
          obtain ⟨u2, f2, q2⟩ := rv'.get g2
          have z1 : its.toArray[x] = u1 := by
            have := List.getElem?_eq_some_iff.mp f1
            simpa using this.2
          have z2 : its'.toArray[x] = u2 := by
            have := List.getElem?_eq_some_iff.mp f2
            simpa using this.2
          rw [z1, z2]
          have pe : pr l m x = eqI l[x] m[x] := by unfold pr; rw [List.getElem?_eq_getElem b1, List.getElem?_eq_getElem b2]
          rw [pe]
          exact eqAt_I I0 n _ _ _ _ _ _ _ (.inl p1) (.inl p2) q1 q2 (depL_get d1 (List.getElem?_eq_getElem b1)) (depL_get d2 (List.getElem?_eq_getElem b2)) hu1
    | @lst p vs l _ e h r =>
      cases ra
      obtain ⟨its, rv, ht, _⟩ := I0.list h
      cases hj.kn dj with
      | non => cases rb; have := RcAt.list_none (A := A) ht.isList hu0; rcases e with rfl | rfl <;> exact this
      | bl y => cases rb; have := RcAt.list_bool (A := A) y ht.isList hu0; rcases e with rfl | rfl <;> exact this
      | int y => obtain ⟨t, rfl⟩ := rb; have := RcAt.list_int (A := A) y t ht.isList hu0; rcases e with rfl | rfl <;> exact this
      | str y => obtain ⟨t, rfl⟩ := rb; have := RcAt.list_str (A := A) (mkS y) t ht.isList hu0; rcases e with rfl | rfl <;> exact this
      | tup e' h' _ =>
        cases rb
        obtain ⟨its', _, ht', _⟩ := I0.tuple h'
        rw [eq_lt e e']
        exact RcAt.list_tuple ht.isList ht' hu0
      | @lst q ws m _ e' h' r' =>
        cases rb
        obtain ⟨its', rv', ht', _⟩ := I0.list h'
        rw [eq_ll e e']
        obtain ⟨k, hk, d1⟩ := dep_seq (.inr e) di
        obtain ⟨k', hk', d2⟩ := dep_seq (.inr e') dj
        cases hk; cases hk'
        · have n1 : its.toArray.size = l.length := by rw [List.size_toArray, r.length, rv.length]
          have n2 : its'.toArray.size = m.length := by rw [List.size_toArray, r'.length, rv'.length]
          by_cases hsz : its.toArray.size = its'.toArray.size
          · rw [← eqL_range l m (by omega), ← n1]
            refine RcAt.lists ht.isList ht'.isList hsz hu0 fun x h1 h2 => ?_
            have b1 : x < l.length := by omega
            have b2 : x < m.length := by omega
            obtain ⟨v1, g1, p1⟩ := r.get (List.getElem?_eq_getElem b1)
            obtain ⟨v2, g2, p2⟩ := r'.get (List.getElem?_eq_getElem b2)
            obtain ⟨u1, f1, q1⟩ := rv.get g1
            obtain ⟨u2, f2, q2⟩ := rv'.get g2
            have z1 : its.toArray[x] = u1 := by
              have := List.getElem?_eq_some_iff.mp f1
              simpa using this.2
            have z2 : its'.toArray[x] = u2 := by
              have := List.getElem?_eq_some_iff.mp f2
              simpa using this.2
            rw [z1, z2]
            have pe : pr l m x = eqI l[x] m[x] := by unfold pr; rw [List.getElem?_eq_getElem b1, List.getElem?_eq_getElem b2]
            rw [pe]
            exact eqAt_I I0 n _ _ _ _ _ _ _ (.inl p1) (.inl p2) q1 q2 (depL_get d1 (List.getElem?_eq_getElem b1)) (depL_get d2 (List.getElem?_eq_getElem b2)) hu1
          · rw [eqL_len l m (by omega)]
            exact RcAt.lists_lengths ht.isList ht'.isList (by simpa using hsz) hu0
theorem rcNeAt_I (I0 : Inv X pins σ0 H s) (n : Nat) (i j : I) (v w : V) (a b : Value) (A : Around) (hi : Vw X.K H W ρ i v) (hj : Vw X.K H W ρ j w) (ra : RelV v a) (rb : RelV w b) (di : dep (n + 1) i = true) (dj : dep (n + 1) j = true) (hu : A.units + (n + 1) < cLine) : RcNeAt A s a b (!eqI i j) := by
    have hu0 : A.units < cLine := by omega
    have hu1 : A.in1.units + n < cLine := by show A.units + 1 + n < cLine; omega
    cases hi.kn di with
    | non => cases ra; cases hj.kn dj with
      | non => cases rb; exact RcNeAt.none_none
      | bl b => cases rb; exact RcNeAt.none_bool b
      | int z => obtain ⟨t, rfl⟩ := rb; exact RcNeAt.none_int z t
      | str l => obtain ⟨t, rfl⟩ := rb; exact RcNeAt.none_str _ t
      | tup e h _ =>
        cases rb
        obtain ⟨its, _, ht, _⟩ := I0.tuple h
        have := RcNeAt.none_tuple (A := A) ht hu0
        rcases e with rfl | rfl | rfl <;> exact this
      | lst e h _ =>
        cases rb
        obtain ⟨its, _, ht, _⟩ := I0.list h
        have := RcNeAt.none_list (A := A) ht.isList hu0
        rcases e with rfl | rfl <;> exact this
    | bl x => cases ra; cases hj.kn dj with
      | non => cases rb; exact RcNeAt.bool_none x
      | bl b => cases rb; exact RcNeAt.bool_bool x b
      | int z => obtain ⟨t, rfl⟩ := rb; exact RcNeAt.bool_int x z t
      | str l => obtain ⟨t, rfl⟩ := rb; exact RcNeAt.bool_str x _ t
      | tup e h _ =>
        cases rb
        obtain ⟨its, _, ht, _⟩ := I0.tuple h
        have := RcNeAt.bool_tuple (A := A) x ht hu0
        rcases e with rfl | rfl | rfl <;> exact this
      | lst e h _ =>
        cases rb
        obtain ⟨its, _, ht, _⟩ := I0.list h
        have := RcNeAt.bool_list (A := A) x ht.isList hu0
        rcases e with rfl | rfl <;> exact this
    | int x => obtain ⟨t, rfl⟩ := ra; cases hj.kn dj with
      | non => cases rb; exact RcNeAt.int_none x t
      | bl b => cases rb; exact RcNeAt.int_bool x t b
      | int z => obtain ⟨t', rfl⟩ := rb; exact RcNeAt.int_int x t z t'
      | str l => obtain ⟨t', rfl⟩ := rb; exact RcNeAt.int_str x t _ t'
      | tup e h _ =>
        cases rb
        obtain ⟨its, _, ht, _⟩ := I0.tuple h
        have := RcNeAt.int_tuple (A := A) x t ht hu0
        rcases e with rfl | rfl | rfl <;> exact this
      | lst e h _ =>
        cases rb
        obtain ⟨its, _, ht, _⟩ := I0.list h
        have := RcNeAt.int_list (A := A) x t ht.isList hu0
        rcases e with rfl | rfl <;> exact this
    | str x => obtain ⟨t, rfl⟩ := ra; cases hj.kn dj with
      | non => cases rb; exact RcNeAt.str_none _ t
      | bl b => cases rb; exact RcNeAt.str_bool _ t b
      | int z => obtain ⟨t', rfl⟩ := rb; exact RcNeAt.str_int _ t z t'
      | str l =>
        obtain ⟨t', rfl⟩ := rb
        have := RcNeAt.str_str (A := A) (s := s) (mkS x) t (mkS l) t'
        rw [← str_beq] at this
        exact this
      | tup e h _ =>
        cases rb
        obtain ⟨its, _, ht, _⟩ := I0.tuple h
        have := RcNeAt.str_tuple (A := A) (mkS x) t ht hu0
        rcases e with rfl | rfl | rfl <;> exact this
      | lst e h _ =>
        cases rb
        obtain ⟨its, _, ht, _⟩ := I0.list h
        have := RcNeAt.str_list (A := A) (mkS x) t ht.isList hu0
        rcases e with rfl | rfl <;> exact this
    | @tup p vs l _ e h r =>
      cases ra
      obtain ⟨its, rv, ht, _⟩ := I0.tuple h
      cases hj.kn dj with
      | non => cases rb; have := RcNeAt.tuple_none (A := A) ht hu0; rcases e with rfl | rfl | rfl <;> exact this
      | bl y => cases rb; have := RcNeAt.tuple_bool (A := A) y ht hu0; rcases e with rfl | rfl | rfl <;> exact this
      | int y => obtain ⟨t, rfl⟩ := rb; have := RcNeAt.tuple_int (A := A) y t ht hu0; rcases e with rfl | rfl | rfl <;> exact this
      | str y => obtain ⟨t, rfl⟩ := rb; have := RcNeAt.tuple_str (A := A) (mkS y) t ht hu0; rcases e with rfl | rfl | rfl <;> exact this
      | lst e' h' _ =>
        cases rb
        obtain ⟨its', _, ht', _⟩ := I0.list h'
        rw [eq_tl e e']
        exact RcNeAt.tuple_list ht ht'.isList hu0
      | @tup q ws m _ e' h' r' =>
        cases rb
        obtain ⟨its', rv', ht', _⟩ := I0.tuple h'
        rw [eq_tt e e']
        obtain ⟨k, hk, d1⟩ := dep_seq (.inl e) di
        obtain ⟨k', hk', d2⟩ := dep_seq (.inl e') dj
        cases hk; cases hk'
        · have n1 : its.toArray.size = l.length := by rw [List.size_toArray, r.length, rv.length]
          have n2 : its'.toArray.size = m.length := by rw [List.size_toArray, r'.length, rv'.length]
          rw [← eqL_tup l m, ← n1, ← n2]
          refine RcNeAt.tuples ht ht' hu0 fun x h1 h2 => ?_
          have b1 : x < l.length := by omega
          have b2 : x < m.length := by omega
          obtain ⟨v1, g1, p1⟩ := r.get (List.getElem?_eq_getElem b1)
          obtain ⟨v2, g2, p2⟩ := r'.get (List.getElem?_eq_getElem b2)
          obtain ⟨u1, f1, q1⟩ := rv.get g1
          obtain ⟨u2, f2, q2⟩ := rv'.get g2
          have z1 : its.toArray[x] = u1 := by
            have := List.getElem?_eq_some_iff.mp f1
            simpa using this.2
          have z2 : its'.toArray[x] = u2 := by
            have := List.getElem?_eq_some_iff.mp f2
            simpa using this.2
          rw [z1, z2]
          have pe : pr l m x = eqI l[x] m[x] := by unfold pr; rw [List.getElem?_eq_getElem b1, List.getElem?_eq_getElem b2]
          rw [pe]
          exact eqAt_I I0 n _ _ _ _ _ _ _ (.inl p1) (.inl p2) q1 q2 (depL_get d1 (List.getElem?_eq_getElem b1)) (depL_get d2 (List.getElem?_eq_getElem b2)) hu1
    | @lst p vs l _ e h r =>
      cases ra
      obtain ⟨its, rv, ht, _⟩ := I0.list h
      cases hj.kn dj with
      | non => cases rb; have := RcNeAt.list_none (A := A) ht.isList hu0; rcases e with rfl | rfl <;> exact this
      | bl y => cases rb; have := RcNeAt.list_bool (A := A) y ht.isList hu0; rcases e with rfl | rfl <;> exact this
      | int y => obtain ⟨t, rfl⟩ := rb; have := RcNeAt.list_int (A := A) y t ht.isList hu0; rcases e with rfl | rfl <;> exact this
      | str y => obtain ⟨t, rfl⟩ := rb; have := RcNeAt.list_str (A := A) (mkS y) t ht.isList hu0; rcases e with rfl | rfl <;> exact this
      | tup e' h' _ =>
        cases rb
        obtain ⟨its', _, ht', _⟩ := I0.tuple h'
        rw [eq_lt e e']
        exact RcNeAt.list_tuple ht.isList ht' hu0
      | @lst q ws m _ e' h' r' =>
        cases rb
        obtain ⟨its', rv', ht', _⟩ := I0.list h'
        rw [eq_ll e e']
        obtain ⟨k, hk, d1⟩ := dep_seq (.inr e) di
        obtain ⟨k', hk', d2⟩ := dep_seq (.inr e') dj
        cases hk; cases hk'
        · have n1 : its.toArray.size = l.length := by rw [List.size_toArray, r.length, rv.length]
          have n2 : its'.toArray.size = m.length := by rw [List.size_toArray, r'.length, rv'.length]
          by_cases hsz : its.toArray.size = its'.toArray.size
          · rw [← eqL_range l m (by omega), ← n1]
            refine RcNeAt.lists ht.isList ht'.isList hsz hu0 fun x h1 h2 => ?_
            have b1 : x < l.length := by omega
            have b2 : x < m.length := by omega
            obtain ⟨v1, g1, p1⟩ := r.get (List.getElem?_eq_getElem b1)
            obtain ⟨v2, g2, p2⟩ := r'.get (List.getElem?_eq_getElem b2)
            obtain ⟨u1, f1, q1⟩ := rv.get g1
            obtain ⟨u2, f2, q2⟩ := rv'.get g2
            have z1 : its.toArray[x] = u1 := by
              have := List.getElem?_eq_some_iff.mp f1
              simpa using this.2
            have z2 : its'.toArray[x] = u2 := by
              have := List.getElem?_eq_some_iff.mp f2
              simpa using this.2
            rw [z1, z2]
            have pe : pr l m x = eqI l[x] m[x] := by unfold pr; rw [List.getElem?_eq_getElem b1, List.getElem?_eq_getElem b2]
            rw [pe]
            exact eqAt_I I0 n _ _ _ _ _ _ _ (.inl p1) (.inl p2) q1 q2 (depL_get d1 (List.getElem?_eq_getElem b1)) (depL_get d2 (List.getElem?_eq_getElem b2)) hu1
          · rw [eqL_len l m (by omega)]
            exact RcNeAt.lists_lengths ht.isList ht'.isList (by simpa using hsz) hu0
end
section
variable {X : Cx}
def rEqI (K : PySem.W.Frag) (neg : Bool) : R2 := fun x y H Q => ∃ (W : Addr → Prop) (ρ : List Addr) (i j : I), Vw K H W ρ i x ∧ Vw K H W ρ j y ∧ dep 60 i = true ∧ dep 60 j = true ∧ Q (.bl (eqI i j != neg)) H
theorem op_eqI (hu : X.A.units + 60 < cLine) : OpR X (compareOp .Eq) (rEqI X.K false) := by
  intro pins s σ H x y v u Q I rx ry ⟨W, ρ, i, j, h1, h2, d1, d2, q⟩
  refine rcAt_I I 59 i j x y v u X.A h1 h2 rx ry d1 d2 hu X.prog X.w _ _ ⟨.bl _, H, I, rfl, ?_⟩
  rw [Bool.bne_false] at q
  exact q
theorem op_neI (hu : X.A.units + 60 < cLine) : OpR X (compareOp .NotEq) (rEqI X.K true) := by
  intro pins s σ H x y v u Q I rx ry ⟨W, ρ, i, j, h1, h2, d1, d2, q⟩
  refine rcNeAt_I I 59 i j x y v u X.A h1 h2 rx ry d1 d2 hu X.prog X.w _ _ ⟨.bl _, H, I, rfl, ?_⟩
  rw [Bool.bne_true] at q
  exact q
noncomputable def itm (its : List Value) (l : List I) (x : I) (w : Value) : Bool := @decide (∃ (j : Nat) (i : I), its[j]? = some w ∧ l[j]? = some i ∧ eqI i x = true) (Classical.propDecidable _)
theorem itm_iff {its : List Value} {l : List I} {x : I} {w : Value} : itm its l x w = true ↔ ∃ (j : Nat) (i : I), its[j]? = some w ∧ l[j]? = some i ∧ eqI i x = true := by
  unfold itm
  exact @decide_eq_true_iff _ (Classical.propDecidable _)
theorem itm_ok {pins : List (Addr × Obj)} {σ : L2.St} {s : Shared} {H : Hp} {W : Addr → Prop} {ρ : List Addr} {its : List Value} {vs : List V} {l : List I} {x : I} {n m : Nat} (I0 : Inv X pins σ H s) (rv : Vals vs its) (r : Rps X.K H W ρ l vs) (d : depL n l = true) (e : dep m x = true)
    {j : Nat} {i : I} {w : Value} (hw : its[j]? = some w) (hi : l[j]? = some i) : itm its l x w = eqI i x := by
  cases h : eqI i x with
  | true => exact itm_iff.mpr ⟨j, i, hw, hi, h⟩
  | false =>
    rw [Bool.eq_false_iff]
    intro hh
    obtain ⟨k, i', hw', hi', h'⟩ := itm_iff.mp hh
    obtain ⟨v, g, p⟩ := r.get hi
    obtain ⟨v', g', p'⟩ := r.get hi'
    obtain ⟨u, f, q⟩ := rv.get g
    obtain ⟨u', f', q'⟩ := rv.get g'
    rw [hw] at f; cases f
    rw [hw'] at f'; cases f'
    cases q.inj q'
    have c := eqI_same _ _ p p' (depL_get d hi) (depL_get d hi') I0
    rw [eqI_cong (depL_get d hi) (depL_get d hi') e c, h'] at h
    cases h
theorem itm_any {pins : List (Addr × Obj)} {σ : L2.St} {s : Shared} {H : Hp} {W : Addr → Prop} {ρ : List Addr} {its : List Value} {vs : List V} {l : List I} {x : I} {n m : Nat} (I0 : Inv X pins σ H s) (rv : Vals vs its) (r : Rps X.K H W ρ l vs) (d : depL n l = true) (e : dep m x = true) :
    its.any (itm its l x) = l.any fun z => eqI z x := by
  have hl : its.length = l.length := by rw [← rv.length, r.length]
  rw [Bool.eq_iff_iff, List.any_eq_true, List.any_eq_true]
  constructor
  · rintro ⟨w, hw, h⟩
    obtain ⟨j, hj⟩ := List.getElem?_of_mem hw
    have b : j < l.length := by rw [← hl]; exact (List.getElem?_eq_some_iff.mp hj).1
    rw [itm_ok I0 rv r d e hj (List.getElem?_eq_getElem b)] at h
    exact ⟨_, List.getElem_mem b, h⟩
  · rintro ⟨i, hi, h⟩
    obtain ⟨j, hj⟩ := List.getElem?_of_mem hi
    have b : j < its.length := by rw [hl]; exact (List.getElem?_eq_some_iff.mp hj).1
    refine ⟨its[j], List.getElem_mem b, ?_⟩
    rw [itm_ok I0 rv r d e (List.getElem?_eq_getElem b) hj]
    exact h
theorem itm_eqAt {pins : List (Addr × Obj)} {σ : L2.St} {s : Shared} {H : Hp} {W : Addr → Prop} {ρ : List Addr} {its : List Value} {vs : List V} {l : List I} {x : I} {xv : V} {u : Value} {A : Around} (I0 : Inv X pins σ H s) (rv : Vals vs its) (r : Rps X.K H W ρ l vs) (d : depL 60 l = true) (e : dep 60 x = true)
    (hx : Vw X.K H W ρ x xv) (ru : RelV xv u) (hu : A.units + 60 < cLine) : ∀ w ∈ its, EqAt A s w u (itm its l x w) := by
  intro w hw
  have hl : its.length = l.length := by rw [← rv.length, r.length]
  obtain ⟨j, hj⟩ := List.getElem?_of_mem hw
  have b : j < l.length := by rw [← hl]; exact (List.getElem?_eq_some_iff.mp hj).1
  rw [itm_ok I0 rv r d e hj (List.getElem?_eq_getElem b)]
  obtain ⟨v, g, p⟩ := r.get (List.getElem?_eq_getElem b)
  obtain ⟨u', f, q⟩ := rv.get g
  rw [hj] at f; cases f
  exact eqAt_I I0 60 _ _ _ _ _ _ _ (.inl p) hx q ru (depL_get d (List.getElem?_eq_getElem b)) e hu
def rInI (K : PySem.W.Frag) (neg : Bool) : R2 := fun x y H Q => ∃ (W : Addr → Prop) (ρ : List Addr) (i : I) (l : List I) (a : Addr) (vs : List V), Vw K H W ρ i x ∧ y = .ref a ∧ (SqL K H a vs ∨ SqT K H a vs) ∧ Rps K H W ρ l vs ∧ dep 60 i = true ∧ depL 60 l = true ∧ Q (.bl ((l.any fun z => eqI z i) != neg)) H
theorem op_inI (hu : X.A.units + 62 < cLine) : OpR X (compareOp .In) (rInI X.K false) := by
  intro pins s σ H x y v u Q I rx ry ⟨W, ρ, i, l, a, vs, h1, e, h2, r, d1, d2, q⟩
  subst e
  cases ry
  rw [Bool.bne_false] at q
  rcases h2 with h2 | h2
  · obtain ⟨its, rv, pl, hz⟩ := I.list h2
    refine SeqAt.in_listAt (itm its l i) pl.isList (fun w hw => itm_eqAt I rv r d2 d1 h1 rx (by show X.A.units + 1 + 60 < cLine; omega) w (by simpa using hw)) ⟨.bl _, H, I, rfl, ?_⟩
    rw [show its.toArray.any (itm its l i) = its.any (itm its l i) by simp, itm_any I rv r d2 d1]
    exact q
  · obtain ⟨its, rv, pl, hz⟩ := I.tuple h2
    refine SeqAt.in_tupleAt (itm its l i) pl (fun w hw => itm_eqAt I rv r d2 d1 h1 rx (by show X.A.units + 1 + 60 < cLine; omega) w (by simpa using hw)) ⟨.bl _, H, I, rfl, ?_⟩
    rw [show its.toArray.any (itm its l i) = its.any (itm its l i) by simp, itm_any I rv r d2 d1]
    exact q
theorem op_notInI (hu : X.A.units + 62 < cLine) : OpR X (compareOp .NotIn) (rInI X.K true) := by
  intro pins s σ H x y v u Q I rx ry ⟨W, ρ, i, l, a, vs, h1, e, h2, r, d1, d2, q⟩
  subst e
  cases ry
  rw [Bool.bne_true] at q
  rcases h2 with h2 | h2
  · obtain ⟨its, rv, pl, hz⟩ := I.list h2
    refine SeqAt.notIn_listAt (itm its l i) pl.isList (fun w hw => itm_eqAt I rv r d2 d1 h1 rx (by show X.A.units + 1 + 60 < cLine; omega) w (by simpa using hw)) ⟨.bl _, H, I, rfl, ?_⟩
    rw [show its.toArray.any (itm its l i) = its.any (itm its l i) by simp, itm_any I rv r d2 d1]
    exact q
  · obtain ⟨its, rv, pl, hz⟩ := I.tuple h2
    refine SeqAt.notIn_tupleAt (itm its l i) pl (fun w hw => itm_eqAt I rv r d2 d1 h1 rx (by show X.A.units + 1 + 60 < cLine; omega) w (by simpa using hw)) ⟨.bl _, H, I, rfl, ?_⟩
    rw [show its.toArray.any (itm its l i) = its.any (itm its l i) by simp, itm_any I rv r d2 d1]
    exact q
end
end CH
namespace CH
open PySem L2
variable [Wsh]
theorem Rps.flat {K : PySem.W.Frag} {H : Hp} {W : Addr → Prop} {ρ : List Addr} {l : List I} {vs : List V} (h : Rps K H W ρ l vs) : ∀ n : Nat, Rps K H W ρ (List.replicate n l).flatten (List.replicate n vs).flatten
  | 0 => .nil
  | n + 1 => by
    rw [List.replicate_succ, List.replicate_succ, List.flatten_cons, List.flatten_cons]
    exact h.append (h.flat n)
theorem mkS_len (l : List Nat) : (mkS l).length = l.length := by show l.toArray.size = l.length; simp
theorem mkS_app (a b : List Nat) : mkS a ++ mkS b = mkS (a ++ b) := by show (⟨a.toArray ++ b.toArray⟩ : Str) = ⟨(a ++ b).toArray⟩; simp
theorem mkS_cps (l : List Nat) : (mkS l).cps.toList = l := by simp
theorem mkS_inj {a b : List Nat} : mkS a = mkS b ↔ a = b := by constructor <;> intro h <;> simpa using h
end CH
namespace CH
open PySem L2
variable [Wsh]
theorem foldl_app (x : Array Nat) : ∀ (n : Nat) (acc : Array Nat), (List.replicate n x).foldl (· ++ ·) acc = acc ++ (List.replicate n x.toList).flatten.toArray
  | 0, acc => by simp
  | n + 1, acc => by
    rw [List.replicate_succ, List.foldl_cons, foldl_app x n, List.replicate_succ, List.flatten_cons]
    apply Array.toList_inj.mp
    simp
theorem txt_mul (l : List Nat) (k : Int) : Txt.mul (mkS l) k = mkS (List.replicate k.toNat l).flatten := by
  unfold Txt.mul
  split
  · rename_i h
    have : k.toNat = 0 := by omega
    rw [this]; rfl
  · split
    · rename_i h1 h2
      rw [Bool.or_eq_true] at h2
      rcases h2 with h2 | h2
      · have : k = 1 := by simpa using h2
        subst this
        show mkS l = mkS (List.replicate 1 l).flatten
        simp
      · have h3 : l.length = 0 := by rw [mkS_len] at h2; simpa using h2
        have h4 : l = [] := List.length_eq_zero_iff.mp h3
        subst h4
        simp
    · rw [foldl_app]
      simp
/-- tuple + tuple: a part that is the whole is handed on, else a new tuple and what it is -/
def rCatX (K : PySem.W.Frag) : R2 := fun x y H Q => ∃ a b xs ys, x = .ref a ∧ y = .ref b ∧ SqT K H a xs ∧ SqT K H b ys ∧ xs.length + ys.length ≤ sizeLine ∧
  (xs = [] → Q (.ref b) H) ∧ (xs ≠ [] → ys = [] → Q (.ref a) H) ∧ (xs ≠ [] → ys ≠ [] → ∀ p o, o.dict = none → o.cls = .type "tuple" → H p = none → Q (.ref p) (upd H p (.frz o (.tup (xs ++ ys)))))
theorem op_catX {X : Cx} : OpR X (binaryOp .Add) (rCatX X.K) := by
  intro pins s σ H x y v u Q I rx ry h
  obtain ⟨a, b, xs, ys, rfl, rfl, ha, hb, hz, q0, q1, q2⟩ := h
  cases rx
  cases ry
  obtain ⟨its, r1, p1, _⟩ := I.tuple ha
  obtain ⟨its2, r2, p2, _⟩ := I.tuple hb
  by_cases hx : xs = []
  · subst hx
    cases r1
    exact cat_tup0 p1 p2 ⟨.ref b, H, I, rfl, q0 rfl⟩
  · refine HT.cat_tup p1 p2 (fun z => hx (r1.nil_iff.mp z)) (fun z => ⟨.ref a, H, I, rfl, q1 hx (r2.nil_iff.mp z)⟩) (fun z => ?_) (by rw [← r1.length, ← r2.length]; exact hz)
    refine ⟨.ref s.heap.objs.size, _, I.laid (t' := s.toks) (o := .frz _ (.tup (xs ++ ys))) (fun b ob q => Heap.get?_push_of_some _ q) (Nat.le_refl _) ⟨Heap.get?_push_size _ rfl, ?_⟩, rfl, q2 hx (fun w => z (r2.nil_iff.mpr w)) _ _ rfl rfl (I.hok.fresh (Nat.le_refl _))⟩
    exact ⟨by rw [List.length_append]; exact hz, _, r1.append r2, PyProof.Rows.IsTup.new _ _⟩
def rAdd4 (K : PySem.W.Frag) : R2 := fun x y H Q => rI0 (fun i j => .int (i + j)) x y H Q ∨ (∃ i j, x = .str i ∧ y = .str j ∧ i.length + j.length ≤ sizeLine ∧ Q (.str (i ++ j)) H) ∨ rCat x y H Q ∨ rCatX K x y H Q
def rMul3 : R2 := fun x y H Q => rI CMul (fun i j => .int (i * j)) x y H Q ∨ (∃ z k, x = .str z ∧ y = .int k ∧ z.length ≤ 1000 ∧ k < 1000 ∧ -(2 ^ 63) ≤ k ∧ Q (.str (Txt.mul z k)) H) ∨ rRep x y H Q
theorem op_add4 {X : Cx} : OpR X (binaryOp .Add) (rAdd4 X.K) := OpR.or op_add (OpR.or op_add_str (OpR.or op_cat op_catX))
theorem op_mul3 {X : Cx} : OpR X (binaryOp .Mult) rMul3 := OpR.or op_mul (OpR.or op_rep_str op_rep)
def rOrd (g : Int → Int → Bool) (h : List Nat → List Nat → Bool) : R2 := fun x y H Q => (∃ i j, x = .int i ∧ y = .int j ∧ Q (.bl (g i j)) H) ∨ ∃ i j : Str, x = .str i ∧ y = .str j ∧ Q (.bl (h i.cps.toList j.cps.toList)) H
theorem op_ltO {X : Cx} : OpR X (compareOp .Lt) (rOrd (fun i j => decide (i < j)) fun i j => decide (i < j)) := OpR.or op_lt op_lt_str
theorem op_leO {X : Cx} : OpR X (compareOp .LtE) (rOrd (fun i j => decide (i ≤ j)) fun i j => !decide (j < i)) := OpR.or op_le op_le_str
theorem op_gtO {X : Cx} : OpR X (compareOp .Gt) (rOrd (fun i j => decide (j < i)) fun i j => decide (j < i)) := OpR.or op_gt op_gt_str
theorem op_geO {X : Cx} : OpR X (compareOp .GtE) (rOrd (fun i j => decide (j ≤ i)) fun i j => !decide (i < j)) := OpR.or op_ge op_ge_str
section
variable {K : PySem.W.Frag} {T : Addr → Prop} {s : S} {σ : Sg} {H : Hp} {ρ : List Addr} {u w : R} {vu vw : V} {Q : VK}
theorem Run.valQ {i : I} {v : V} (h : Run kR K T s σ H ρ (.ok (.val i) s) (fun _ v _ H' _ => Q v H')) (r : Rel K T s σ H ρ) (q : Rp K H (Uni (Own s σ ρ) T) ρ i v) : Q v H := h.val r q
theorem viewI_vw (r : Rel K T s σ H ρ) {x : R} {v : V} (q : RpR K H (Uni (Own s σ ρ) T) ρ σ x v) {i : I} (e : viewI x s = some i) : Vw K H (Uni (Own s σ ρ) T) ρ i v := by
  rcases viewI_ok r q e with h | ⟨a, vs, l, h1, h2, h3, h4⟩
  · exact .inl h
  · exact .inr ⟨a, vs, l, h1, h2, SqL.of h3, h4⟩
theorem seqAdd_ok (r : Rel K T s σ H ρ) (q1 : RpR K H (Uni (Own s σ ρ) T) ρ σ u vu) (q2 : RpR K H (Uni (Own s σ ρ) T) ρ σ w vw) (run : Run kR K T s σ H ρ (seqOp .add u w s) (fun _ v _ H' _ => Q v H')) : rAdd4 K vu vw H Q := by
  unfold seqOp at run
  split at run
  · rename_i h1 h2
    obtain ⟨a, vs, rfl, r1, t1, _, _⟩ := viewQ_ok r q1 h1
    obtain ⟨b, ws, rfl, r2, t2, _, _⟩ := viewQ_ok r q2 h2
    obtain ⟨c, run⟩ := Run.req run
    have c1 := of_decide_eq_true c
    have t1 := t1 rfl
    have t2 := t2 rfl
    refine .inr (.inr (.inr ⟨a, b, vs, ws, rfl, rfl, t1.sqt, t2.sqt, by rw [sizeLine_eq, ← r1.length, ← r2.length]; exact c1, fun e => ?_, fun _ e => ?_, fun _ _ p o hd hc hp => run.newT r hd hc hp (r1.append r2)⟩))
    · subst e
      cases r1
      exact run.valQ r (.tup t2 r2)
    · subst e
      cases r2
      rw [List.append_nil] at run
      exact run.valQ r (.tup t1 r1)
  · rename_i h1 h2
    obtain ⟨a, vs, rfl, r1, _, _, g1⟩ := viewQ_ok r q1 h1
    obtain ⟨b, ws, rfl, r2, _, _, g2⟩ := viewQ_ok r q2 h2
    obtain ⟨c, run⟩ := Run.req run
    rw [Bool.and_eq_true, Bool.and_eq_true, Bool.not_eq_true', Bool.not_eq_true'] at c
    have c1 := of_decide_eq_true c.1.1
    exact .inr (.inr (.inl ⟨a, b, vs, ws, rfl, rfl, g1 rfl c.1.2, g2 rfl c.2, by rw [sizeLine_eq, ← r1.length, ← r2.length]; exact c1, fun p hp => run.new r hp (.lst (r1.append r2))⟩))
  · exact run.elim
theorem rpInt {i : Int} {v : V} {W : Addr → Prop} (q : RpR K H W ρ σ (.val (.int i)) v) : v = .int i := by cases q; rfl
theorem rpStr {l : List Nat} {v : V} {W : Addr → Prop} (q : RpR K H W ρ σ (.val (.str l)) v) : v = .str (mkS l) := by
  have q' : Rp K H W ρ (.str l) v := q
  cases q'; rfl
theorem rpBl {b : Bool} {v : V} {W : Addr → Prop} (q : RpR K H W ρ σ (.val (.bl b)) v) : v = .bl b := by cases q; rfl
theorem add_ok (r : Rel K T s σ H ρ) (q1 : RpR K H (Uni (Own s σ ρ) T) ρ σ u vu) (q2 : RpR K H (Uni (Own s σ ρ) T) ρ σ w vw) (run : Run kR K T s σ H ρ (binop .add u w s) (fun _ v _ H' _ => Q v H')) : rAdd4 K vu vw H Q := by
  unfold binop at run
  split at run
  · cases rpInt q1; cases rpInt q2
    exact .inl ⟨_, _, rfl, rfl, run.valQ r (.int _)⟩
  · cases rpStr q1; cases rpStr q2
    obtain ⟨c, run⟩ := Run.req run
    have c := of_decide_eq_true c
    refine .inr (.inl ⟨_, _, rfl, rfl, by rw [sizeLine_eq, mkS_len, mkS_len]; exact c, ?_⟩)
    rw [mkS_app]
    exact run.valQ r (.str _)
  · exact run.elim
  · simp only at run; exact run.elim
  · exact seqAdd_ok r q1 q2 run
theorem mul_ok (r : Rel K T s σ H ρ) (q1 : RpR K H (Uni (Own s σ ρ) T) ρ σ u vu) (q2 : RpR K H (Uni (Own s σ ρ) T) ρ σ w vw) (run : Run kR K T s σ H ρ (binop .mul u w s) (fun _ v _ H' _ => Q v H')) : rMul3 vu vw H Q := by
  unfold binop at run
  split at run
  · cases rpInt q1; cases rpInt q2
    obtain ⟨c, run⟩ := Run.req (show Run kR K T s σ H ρ (Res.req _ _) _ from run)
    have c := of_decide_eq_true c
    refine .inl ⟨_, _, rfl, rfl, ?_, run.valQ r (.int _)⟩
    unfold CMul
    omega
  · exact run.elim
  · cases rpStr q1; cases rpInt q2
    obtain ⟨c, run⟩ := Run.req run
    have c := of_decide_eq_true c
    refine .inr (.inl ⟨_, _, rfl, rfl, by rw [mkS_len]; exact c.2.2, c.2.1, by omega, ?_⟩)
    rw [txt_mul]
    exact run.valQ r (.str _)
  · split at run
    · rename_i h1
      obtain ⟨a, vs, rfl, r1, _, _, g1⟩ := viewQ_ok r q1 h1
      cases rpInt q2
      obtain ⟨c, run⟩ := Run.req run
      rw [Bool.and_eq_true, Bool.not_eq_true'] at c
      have c1 := of_decide_eq_true c.1
      exact .inr (.inr ⟨a, _, vs, rfl, rfl, g1 rfl c.2, by omega, by omega, by rw [sizeLine_eq, ← r1.length]; exact c1.2.2, fun p hp => run.new r hp (.lst (r1.flat _))⟩)
    · exact run.elim
  · unfold seqOp at run
    split at run
    · rename_i h _ _; cases h
    · rename_i h _ _; cases h
    · exact run.elim
theorem other_no {o : Op} (ho : o ≠ .add) (ho2 : o ≠ .mul) {F : R → V → S → Hp → List Addr → Prop} (run : Run kR K T s σ H ρ (binop o u w s) F) : ∃ i j, u = .val (.int i) ∧ w = .val (.int j) ∧ Run kR K T s σ H ρ (arith o i j s) F := by
  unfold binop at run
  split at run
  · exact ⟨_, _, rfl, rfl, run⟩
  · cases o <;> first | exact absurd rfl ho | exact run.elim
  · cases o <;> first | exact absurd rfl ho2 | exact run.elim
  · cases o <;> first | exact absurd rfl ho2 | (simp only at run; exact run.elim)
  · unfold seqOp at run
    split at run
    · exact absurd rfl ho
    · exact absurd rfl ho
    · exact run.elim
theorem sub_ok (r : Rel K T s σ H ρ) (q1 : RpR K H (Uni (Own s σ ρ) T) ρ σ u vu) (q2 : RpR K H (Uni (Own s σ ρ) T) ρ σ w vw) (run : Run kR K T s σ H ρ (binop .sub u w s) (fun _ v _ H' _ => Q v H')) : rI0 (fun i j => .int (i - j)) vu vw H Q := by
  obtain ⟨i, j, rfl, rfl, run⟩ := other_no (by intro h; cases h) (by intro h; cases h) run
  cases rpInt q1; cases rpInt q2
  exact ⟨_, _, rfl, rfl, Run.valQ run r (.int _)⟩
theorem div_ok (r : Rel K T s σ H ρ) (q1 : RpR K H (Uni (Own s σ ρ) T) ρ σ u vu) (q2 : RpR K H (Uni (Own s σ ρ) T) ρ σ w vw) (run : Run kR K T s σ H ρ (binop .div u w s) (fun _ v _ H' _ => Q v H')) : rI CDivW (fun i j => .int (i / j)) vu vw H Q := by
  obtain ⟨i, j, rfl, rfl, run⟩ := other_no (by intro h; cases h) (by intro h; cases h) run
  cases rpInt q1; cases rpInt q2
  obtain ⟨c, run⟩ := Run.req (show Run kR K T s σ H ρ (Res.req _ _) _ from run)
  have c := of_decide_eq_true c
  exact ⟨_, _, rfl, rfl, wide_div (b := 64) c.1 (by omega) (by decide) (by decide), run.valQ r (.int _)⟩
theorem mod_ok (r : Rel K T s σ H ρ) (q1 : RpR K H (Uni (Own s σ ρ) T) ρ σ u vu) (q2 : RpR K H (Uni (Own s σ ρ) T) ρ σ w vw) (run : Run kR K T s σ H ρ (binop .mod u w s) (fun _ v _ H' _ => Q v H')) : rI (fun _ j => 0 < j) (fun i j => .int (i % j)) vu vw H Q := by
  obtain ⟨i, j, rfl, rfl, run⟩ := other_no (by intro h; cases h) (by intro h; cases h) run
  cases rpInt q1; cases rpInt q2
  obtain ⟨c, run⟩ := Run.req (show Run kR K T s σ H ρ (Res.req _ _) _ from run)
  exact ⟨_, _, rfl, rfl, of_decide_eq_true c, run.valQ r (.int _)⟩
theorem pow_ok (r : Rel K T s σ H ρ) (q1 : RpR K H (Uni (Own s σ ρ) T) ρ σ u vu) (q2 : RpR K H (Uni (Own s σ ρ) T) ρ σ w vw) (run : Run kR K T s σ H ρ (binop .pow u w s) (fun _ v _ H' _ => Q v H')) : rI CPow (fun i j => .int (i ^ j.toNat)) vu vw H Q := by
  obtain ⟨i, j, rfl, rfl, run⟩ := other_no (by intro h; cases h) (by intro h; cases h) run
  cases rpInt q1; cases rpInt q2
  obtain ⟨c, run⟩ := Run.req (show Run kR K T s σ H ρ (Res.req _ _) _ from run)
  have c := of_decide_eq_true c
  exact ⟨_, _, rfl, rfl, ⟨c.1, by omega, by omega⟩, run.valQ r (.int _)⟩
theorem eqne_ok {o : Cp} {neg : Bool} (ho : (o = .eq ∧ neg = false) ∨ (o = .ne ∧ neg = true)) (r : Rel K T s σ H ρ) (q1 : RpR K H (Uni (Own s σ ρ) T) ρ σ u vu) (q2 : RpR K H (Uni (Own s σ ρ) T) ρ σ w vw) (run : Run kR K T s σ H ρ (cmpop o u w s) (fun _ v _ H' _ => Q v H')) : rEqI K neg vu vw H Q := by
  unfold cmpop at run
  split at run
  · rename_i i j
    refine ⟨_, _, .int i, .int j, .inl q1, .inl q2, rfl, rfl, ?_⟩
    have h := run.valQ r (.bl _)
    rcases ho with ⟨rfl, rfl⟩ | ⟨rfl, rfl⟩
    · have e : (eqI (.int i) (.int j) != false) = decide (i = j) := by show ((i == j) != false) = _; rw [Bool.bne_false, Bool.beq_eq_decide_eq]
      rw [e]; exact h
    · have e : (eqI (.int i) (.int j) != true) = !decide (i = j) := by show ((i == j) != true) = _; rw [Bool.bne_true, Bool.beq_eq_decide_eq]
      rw [e]; exact h
  · rename_i i j
    refine ⟨_, _, .str i, .str j, .inl q1, .inl q2, rfl, rfl, ?_⟩
    have h := run.valQ r (.bl _)
    rcases ho with ⟨rfl, rfl⟩ | ⟨rfl, rfl⟩
    · have e : (eqI (.str i) (.str j) != false) = decide (i = j) := by show ((i == j) != false) = _; rw [Bool.bne_false, Bool.beq_eq_decide_eq]
      rw [e]; exact h
    · have e : (eqI (.str i) (.str j) != true) = !decide (i = j) := by show ((i == j) != true) = _; rw [Bool.bne_true, Bool.beq_eq_decide_eq]
      rw [e]; exact h
  · split at run
    · rename_i h1 h2
      unfold eqop at run
      rcases ho with ⟨rfl, rfl⟩ | ⟨rfl, rfl⟩
      · obtain ⟨c, run⟩ := Run.req run
        rw [Bool.and_eq_true] at c
        have h := run.valQ r (.bl _)
        exact ⟨_, _, _, _, viewI_vw r q1 h1, viewI_vw r q2 h2, c.1, c.2, by simpa using h⟩
      · obtain ⟨c, run⟩ := Run.req run
        rw [Bool.and_eq_true] at c
        have h := run.valQ r (.bl _)
        exact ⟨_, _, _, _, viewI_vw r q1 h1, viewI_vw r q2 h2, c.1, c.2, by simpa using h⟩
    · exact run.elim
theorem ord_ok {o : Cp} (ho : o ≠ .eq) (ho2 : o ≠ .ne) (r : Rel K T s σ H ρ) (q1 : RpR K H (Uni (Own s σ ρ) T) ρ σ u vu) (q2 : RpR K H (Uni (Own s σ ρ) T) ρ σ w vw) (run : Run kR K T s σ H ρ (cmpop o u w s) (fun _ v _ H' _ => Q v H')) : rOrd (ordI o) (ordS o) vu vw H Q := by
  unfold cmpop at run
  split at run
  · cases rpInt q1; cases rpInt q2
    exact .inl ⟨_, _, rfl, rfl, run.valQ r (.bl _)⟩
  · cases rpStr q1; cases rpStr q2
    refine .inr ⟨_, _, rfl, rfl, ?_⟩
    rw [mkS_cps, mkS_cps]
    exact run.valQ r (.bl _)
  · split at run
    · unfold eqop at run
      cases o <;> first | exact absurd rfl ho | exact absurd rfl ho2 | exact run.elim
    · exact run.elim
theorem in_ok {neg : Bool} (r : Rel K T s σ H ρ) (q1 : RpR K H (Uni (Own s σ ρ) T) ρ σ u vu) (q2 : RpR K H (Uni (Own s σ ρ) T) ρ σ w vw) (run : Run kR K T s σ H ρ (inop neg u w s) (fun _ v _ H' _ => Q v H')) : rInI K neg vu vw H Q := by
  unfold inop at run
  split at run
  · rename_i h1 h2
    obtain ⟨c, run⟩ := Run.req run
    rw [Bool.and_eq_true] at c
    obtain ⟨b, ws, rfl, r2, t2, t3, _⟩ := viewQ_ok r q2 h2
    refine ⟨_, _, _, _, b, ws, viewI_vw r q1 h1, rfl, ?_, r2, c.1, c.2, run.valQ r (.bl _)⟩
    rename_i t _ _ _
    cases t with
    | true => exact .inr (t2 rfl).sqt
    | false => exact .inl (t3 rfl)
  · exact run.elim
def rInC (neg : Bool) : R2 := fun x y H Q => ∃ (c : Nat) (z : Str), x = .str ⟨#[c]⟩ ∧ y = .str z ∧ Q (.bl (decide (c ∈ z.cps.toList) != neg)) H
theorem op_inC {X : Cx} : OpR X (compareOp .In) (rInC false) := fun pins s σ H x y v u Q I rx ry ⟨c, z, h1, h2, q⟩ => op_in_sign pins s σ H x y v u Q I rx ry ⟨c, z, h1, h2, by rw [Bool.bne_false] at q; exact q⟩
theorem op_ninC {X : Cx} : OpR X (compareOp .NotIn) (rInC true) := fun pins s σ H x y v u Q I rx ry ⟨c, z, h1, h2, q⟩ => op_notIn_sign pins s σ H x y v u Q I rx ry ⟨c, z, h1, h2, by rw [Bool.bne_true] at q; exact q⟩
theorem ins_ok {neg : Bool} (r : Rel K T s σ H ρ) (q1 : RpR K H (Uni (Own s σ ρ) T) ρ σ u vu) (q2 : RpR K H (Uni (Own s σ ρ) T) ρ σ w vw) (run : Run kR K T s σ H ρ (insop neg u w s) (fun _ v _ H' _ => Q v H')) : rInC neg vu vw H Q := by
  unfold insop at run
  split at run
  · cases rpStr q1; cases rpStr q2
    exact ⟨_, _, rfl, rfl, by rw [mkS_cps]; exact run.valQ r (.bl _)⟩
  · exact run.elim
theorem ixop_ok (r : Rel K T s σ H ρ) (q1 : RpR K H (Uni (Own s σ ρ) T) ρ σ u vu) (q2 : RpR K H (Uni (Own s σ ρ) T) ρ σ w vw) (run : Run kR K T s σ H ρ (ixop u w s) (fun _ v _ H' _ => Q v H')) : rIx K vu vw H Q := by
  unfold ixop at run
  split at run
  · rename_i i0
    cases rpInt q2
    split at run
    · cases rpStr q1
      obtain ⟨c, run⟩ := Run.req run
      obtain ⟨z, hz, run⟩ := Run.opt run
      refine .inr (.inr ⟨_, _, z, rfl, rfl, by rw [mkS_len, sizeLine_eq]; exact of_decide_eq_true c, by rw [mkS_cps]; exact hz, run.valQ r (.str [z])⟩)
    · split at run
      · rename_i t l h1
        obtain ⟨a, vs, rfl, r1, t1, t2, _⟩ := viewQ_ok r q1 h1
        obtain ⟨z, hz, run⟩ := Run.opt run
        have hz' : ((ixn l.length _).bind fun j => l[j]?) = some z := hz
        obtain ⟨j, hj, hg⟩ := Option.bind_eq_some_iff.mp hz'
        obtain ⟨v, g, p⟩ := r1.get hg
        have ha : atI vs i0 = some v := by
          unfold atI
          rw [← r1.length]
          exact Option.bind_eq_some_iff.mpr ⟨j, hj, g⟩
        cases t with
        | true => exact .inr (.inl ⟨a, vs, _, v, rfl, rfl, (t1 rfl).sqt, ha, run.valQ r p⟩)
        | false => exact .inl ⟨a, vs, _, v, rfl, rfl, t2 rfl, ha, run.valQ r p⟩
      · exact run.elim
  · exact run.elim
end
end CH
namespace CH
open PySem L2
variable [Wsh]
theorem CallR.or {X : Cx} {f : Value} {r r' : List V → Hp → VK → Prop} (h : CallR X f r) (h' : CallR X f r') : CallR X f (fun xs H Q => r xs H Q ∨ r' xs H Q) := by
  intro pins s σ H xs us Q I rx q
  rcases q with q | q
  · exact h pins s σ H xs us Q I rx q
  · exact h' pins s σ H xs us Q I rx q
/-! ### keys -/
theorem key_inj : ∀ {i j : I} {a b : Key}, keyOf i = some a → keyOf j = some b → (I.same i j = decide (a = b))
  | .int i, .int j, _, _, h, g => by cases h; cases g; show (i == j) = _; by_cases e : i = j <;> simp [e]
  | .str i, .str j, _, _, h, g => by
    cases h; cases g
    show (i == j) = _
    by_cases e : i = j
    · subst e; simp
    · have e' : ¬ mkS i = mkS j := fun z => e (mkS_inj.mp z)
      have : ¬ ((Sum.inr (mkS i) : Key) = Sum.inr (mkS j)) := fun z => e' (Sum.inr.inj z)
      rw [decide_eq_false this]; simpa using e
  | .int i, .str j, _, _, h, g => by cases h; cases g; rfl
  | .str i, .int j, _, _, h, g => by cases h; cases g; rfl
  | .int _, .non, _, _, _, g => by cases g
  | .int _, .bl _, _, _, _, g => by cases g
  | .int _, .tup _, _, _, _, g => by cases g
  | .int _, .fl _, _, _, _, g => by cases g
  | .int _, .xl _, _, _, _, g => by cases g
  | .int _, .ref _, _, _, _, g => by cases g
  | .str _, .non, _, _, _, g => by cases g
  | .str _, .bl _, _, _, _, g => by cases g
  | .str _, .tup _, _, _, _, g => by cases g
  | .str _, .fl _, _, _, _, g => by cases g
  | .str _, .xl _, _, _, _, g => by cases g
  | .str _, .ref _, _, _, _, g => by cases g
  | .non, _, _, _, h, _ => by cases h
  | .bl _, _, _, _, h, _ => by cases h
  | .tup _, _, _, _, h, _ => by cases h
  | .fl _, _, _, _, h, _ => by cases h
  | .xl _, _, _, _, h, _ => by cases h
  | .ref _, _, _, _, h, _ => by cases h
theorem keys_inj : ∀ {i j : List I} {a b : List Key}, keysOf i = some a → keysOf j = some b → (sameL i j = decide (a = b))
  | [], [], _, _, h, g => by cases h; cases g; rfl
  | [], y :: j, _, _, h, g => by
    unfold keysOf at g
    split at g <;> cases g
    cases h
    simp [sameL]
  | x :: i, [], _, _, h, g => by
    unfold keysOf at h
    split at h <;> cases h
    cases g
    simp [sameL]
  | x :: i, y :: j, _, _, h, g => by
    unfold keysOf at h g
    split at h <;> cases h
    split at g <;> cases g
    rename_i h1 h2 _ _ _ _ g1 g2
    show (I.same x y && sameL i j) = _
    rw [key_inj h1 g1, keys_inj h2 g2]
    simp [List.cons.injEq, Bool.decide_and]
theorem keyOf_ok {i : I} (h : keyS i = true) : ∃ a, keyOf i = some a := by
  cases i <;> first | exact ⟨_, rfl⟩ | cases h
theorem keysOf_ok : ∀ {l : List I}, l.all keyS = true → ∃ a, keysOf l = some a
  | [], _ => ⟨[], rfl⟩
  | x :: l, h => by
    rw [List.all_cons, Bool.and_eq_true] at h
    obtain ⟨a, ha⟩ := keyOf_ok h.1
    obtain ⟨b, hb⟩ := keysOf_ok h.2
    exact ⟨a :: b, by unfold keysOf; rw [ha, hb]⟩
section
variable {K : PySem.W.Frag} {H : Hp} {W : Addr → Prop} {ρ : List Addr}
theorem Rp.key {i : I} {a : Key} {v : V} (q : Rp K H W ρ i v) (h : keyOf i = some a) : v = kV a := by
  cases i with
  | int x => cases h; cases q; rfl
  | str x =>
    cases h
    generalize hi : I.str x = i at q
    cases q <;> cases hi
    rfl
  | _ => cases h
theorem Rps.keys : ∀ {l : List I} {a : List Key} {vs : List V}, Rps K H W ρ l vs → keysOf l = some a → vs = a.map kV
  | [], _, _, .nil, h => by cases h; rfl
  | x :: l, _, _, .cons q r, h => by
    unfold keysOf at h
    split at h <;> cases h
    rename_i h1 h2
    rw [q.key h1, r.keys h2]; rfl
theorem RpK.len : ∀ {l : List (I × I)} {vs : List (Key × V)}, RpK K H W ρ l vs → l.length = vs.length
  | _, _, .nil => rfl
  | _, _, .cons _ _ r => by rw [List.length_cons, List.length_cons, r.len]
theorem RpT.len : ∀ {l : List (I × I)} {vs : List (List Key × V)}, RpT K H W ρ l vs → l.length = vs.length
  | _, _, .nil => rfl
  | _, _, .cons _ _ r => by rw [List.length_cons, List.length_cons, r.len]
theorem RpK.look {k : I} {a : Key} (hk : keyOf k = some a) : ∀ {l : List (I × I)} {vs : List (Key × V)}, RpK K H W ρ l vs → (lookD l k = none ∧ valV vs a = none) ∨ ∃ i v, lookD l k = some i ∧ valV vs a = some v ∧ Rp K H W ρ i v
  | _, _, .nil => .inl ⟨rfl, rfl⟩
  | _, _, .cons (k := k') (i := i) (a := a') (v := v) (l := l) (vs := vs) h q r => by
    unfold lookD
    rw [key_inj h hk]
    by_cases e : a' = a
    · rw [decide_eq_true e, if_pos rfl, valV_pos (p := (a', v)) e]
      exact .inr ⟨i, v, rfl, rfl, q⟩
    · rw [decide_eq_false e, if_neg (by decide), valV_neg (p := (a', v)) e]
      exact r.look hk
theorem RpT.look {k : List I} {a : List Key} (hk : keysOf k = some a) : ∀ {l : List (I × I)} {vs : List (List Key × V)}, RpT K H W ρ l vs → (lookD l (.tup k) = none ∧ valV vs a = none) ∨ ∃ i v, lookD l (.tup k) = some i ∧ valV vs a = some v ∧ Rp K H W ρ i v
  | _, _, .nil => .inl ⟨rfl, rfl⟩
  | _, _, .cons (k := k') (i := i) (a := a') (v := v) (l := l) (vs := vs) h q r => by
    unfold lookD
    rw [show I.same (.tup k') (.tup k) = sameL k' k from rfl, keys_inj h hk]
    by_cases e : a' = a
    · rw [decide_eq_true e, if_pos rfl, valV_pos (p := (a', v)) e]
      exact .inr ⟨i, v, rfl, rfl, q⟩
    · rw [decide_eq_false e, if_neg (by decide), valV_neg (p := (a', v)) e]
      exact r.look hk
theorem RpK.any {k : I} {a : Key} (hk : keyOf k = some a) : ∀ {l : List (I × I)} {vs : List (Key × V)}, RpK K H W ρ l vs → (l.any fun p => I.same p.1 k) = vs.any fun kv => decide (kv.1 = a)
  | _, _, .nil => rfl
  | _, _, .cons h q r => by rw [List.any_cons, List.any_cons, key_inj h hk, r.any hk]
theorem RpT.any {k : List I} {a : List Key} (hk : keysOf k = some a) : ∀ {l : List (I × I)} {vs : List (List Key × V)}, RpT K H W ρ l vs → (l.any fun p => I.same p.1 (.tup k)) = vs.any fun kv => decide (kv.1 = a)
  | _, _, .nil => rfl
  | _, _, .cons h q r => by rw [List.any_cons, List.any_cons, r.any hk]; rw [show I.same (.tup _) (.tup k) = sameL _ k from rfl, keys_inj h hk]
theorem RpK.app : ∀ {l : List (I × I)} {vs : List (Key × V)} {m : List (I × I)} {ws : List (Key × V)}, RpK K H W ρ l vs → RpK K H W ρ m ws → RpK K H W ρ (l ++ m) (vs ++ ws)
  | _, _, _, _, .nil, s => s
  | _, _, _, _, .cons h q r, s => .cons h q (r.app s)
theorem RpT.app : ∀ {l : List (I × I)} {vs : List (List Key × V)} {m : List (I × I)} {ws : List (List Key × V)}, RpT K H W ρ l vs → RpT K H W ρ m ws → RpT K H W ρ (l ++ m) (vs ++ ws)
  | _, _, _, _, .nil, s => s
  | _, _, _, _, .cons h q r, s => .cons h q (r.app s)
theorem RpK.mapd {k : I} {a : Key} (hk : keyOf k = some a) {i : I} {v : V} (q : Rp K H W ρ i v) : ∀ {l : List (I × I)} {vs : List (Key × V)}, RpK K H W ρ l vs → RpK K H W ρ (l.map fun p => if I.same p.1 k = true then (p.1, i) else p) (vs.map fun kv => if kv.1 = a then (kv.1, v) else kv)
  | _, _, .nil => .nil
  | _, _, .cons (k := k') (i := i') (a := a') (v := v') h q' r => by
    rw [List.map_cons, List.map_cons]
    rw [key_inj h hk]
    by_cases e : a' = a
    · rw [decide_eq_true e, if_pos rfl, if_pos e]
      exact .cons h q (r.mapd hk q)
    · rw [decide_eq_false e, if_neg (by decide), if_neg e]
      exact .cons h q' (r.mapd hk q)
theorem RpT.mapd {k : List I} {a : List Key} (hk : keysOf k = some a) {i : I} {v : V} (q : Rp K H W ρ i v) : ∀ {l : List (I × I)} {vs : List (List Key × V)}, RpT K H W ρ l vs → RpT K H W ρ (l.map fun p => if I.same p.1 (.tup k) = true then (p.1, i) else p) (vs.map fun kv => if kv.1 = a then (kv.1, v) else kv)
  | _, _, .nil => .nil
  | _, _, .cons (k := k') (i := i') (a := a') (v := v') h q' r => by
    rw [List.map_cons, List.map_cons]
    rw [show I.same (.tup k') (.tup k) = sameL k' k from rfl, keys_inj h hk]
    by_cases e : a' = a
    · rw [decide_eq_true e, if_pos rfl, if_pos e]
      exact .cons h q (r.mapd hk q)
    · rw [decide_eq_false e, if_neg (by decide), if_neg e]
      exact .cons h q' (r.mapd hk q)
theorem RpK.put {k : I} {a : Key} (hk : keyOf k = some a) {i : I} {v : V} (q : Rp K H W ρ i v) {l : List (I × I)} {vs : List (Key × V)} (r : RpK K H W ρ l vs) : RpK K H W ρ (putD l k i) (putK vs a v) := by
  unfold putD putK
  rw [r.any hk]
  split
  · exact r.mapd hk q
  · exact r.app (.cons hk q .nil)
theorem RpT.put {k : List I} {a : List Key} (hk : keysOf k = some a) {i : I} {v : V} (q : Rp K H W ρ i v) {l : List (I × I)} {vs : List (List Key × V)} (r : RpT K H W ρ l vs) : RpT K H W ρ (putD l (.tup k) i) (putK vs a v) := by
  unfold putD putK
  rw [r.any hk]
  split
  · exact r.mapd hk q
  · exact r.app (.cons hk q .nil)
end
section
variable {K : PySem.W.Frag} {T : Addr → Prop} {s : S} {σ : Sg} {H : Hp} {ρ : List Addr} {u w : R} {vu vw : V} {Q : VK}
/-- a dict, as it lies -/
theorem viewD_ok (r : Rel K T s σ H ρ) {x : R} {v : V} (q : RpR K H (Uni (Own s σ ρ) T) ρ σ x v) {t : Bool} {l : List (I × I)} (e : viewD x s = some (t, l)) :
    ∃ a, v = .ref a ∧ ((t = false ∧ ∃ ks, H a = some (.dK ks) ∧ RpK K H (Uni (Own s σ ρ) T) ρ l ks) ∨ (t = true ∧ ∃ ks, H a = some (.dT ks) ∧ RpT K H (Uni (Own s σ ρ) T) ρ l ks)) := by
  have fin : ∀ {a : Addr} {u : HO}, H a = some u → RpO K H (Uni (Own s σ ρ) T) ρ (.dct t l) u → v = .ref a → ∃ a, v = .ref a ∧ ((t = false ∧ ∃ ks, H a = some (.dK ks) ∧ RpK K H (Uni (Own s σ ρ) T) ρ l ks) ∨ (t = true ∧ ∃ ks, H a = some (.dT ks) ∧ RpT K H (Uni (Own s σ ρ) T) ρ l ks)) := by
    intro a u hu hr hv
    cases hr with
    | dK hr => exact ⟨a, hv, .inl ⟨rfl, _, hu, hr⟩⟩
    | dT hr => exact ⟨a, hv, .inr ⟨rfl, _, hu, hr⟩⟩
  unfold viewD at e
  split at e
  · split at e
    · rename_i hn
      cases e
      cases q with
      | ref ha =>
        obtain ⟨u, hu, hr⟩ := r.bx _ _ _ hn ha
        exact fin hu hr rfl
    · cases e
  · cases e
    obtain ⟨a, rfl, u, hu, hr⟩ := q
    exact fin hu hr rfl
  · split at e
    · rename_i hk
      cases e
      obtain ⟨a, ea, ⟨u, hu, hr⟩, _⟩ := r.ob _ _ hk
      have q' : σ[_]? = some (some v) := q
      rw [ea] at q'; cases q'
      exact fin hu hr rfl
    · cases e
  · cases e
/-- what d[k] asks -/
theorem dget_ok (r : Rel K T s σ H ρ) {x : R} {v : V} (q : RpR K H (Uni (Own s σ ρ) T) ρ σ x v) {t : Bool} {l : List (I × I)} (e : viewD x s = some (t, l)) {k : I} {vk : V} (qk : Rp K H (Uni (Own s σ ρ) T) ρ k vk) (ok : keyOk t k = true) :
    ∃ a, v = .ref a ∧ ((lookD l k = none ∧ DGet H a vk none) ∨ ∃ i vi, lookD l k = some i ∧ DGet H a vk (some vi) ∧ Rp K H (Uni (Own s σ ρ) T) ρ i vi) := by
  obtain ⟨a, rfl, h⟩ := viewD_ok r q e
  refine ⟨a, rfl, ?_⟩
  rcases h with ⟨rfl, ks, hk, hr⟩ | ⟨rfl, ks, hk, hr⟩
  · obtain ⟨b, hb⟩ := keyOf_ok (show keyS k = true from ok)
    rw [qk.key hb]
    rcases hr.look hb with ⟨h1, h2⟩ | ⟨i, vi, h1, h2, h3⟩
    · exact .inl ⟨h1, h2 ▸ DGet.k hk⟩
    · exact .inr ⟨i, vi, h1, h2 ▸ DGet.k hk, h3⟩
  · cases ok
theorem viewDr_ok (r : Rel K T s σ H ρ) {x : R} {v : V} (q : RpR K H (Uni (Own s σ ρ) T) ρ σ x v) {t : Bool} {l : List (I × I)} (e : viewDr x s = some (t, l)) :
    ∃ a, v = .ref a ∧ ((t = false ∧ ∃ ks, Rd H a (.dK ks) ∧ RpK K H (Uni (Own s σ ρ) T) ρ l ks) ∨ (t = true ∧ ∃ ks, H a = some (.dT ks) ∧ RpT K H (Uni (Own s σ ρ) T) ρ l ks)) := by
  have old : viewD x s = some (t, l) → ∃ a, v = .ref a ∧ ((t = false ∧ ∃ ks, Rd H a (.dK ks) ∧ RpK K H (Uni (Own s σ ρ) T) ρ l ks) ∨ (t = true ∧ ∃ ks, H a = some (.dT ks) ∧ RpT K H (Uni (Own s σ ρ) T) ρ l ks)) := fun e => by
    obtain ⟨a, h1, h2⟩ := viewD_ok r q e
    exact ⟨a, h1, h2.imp (fun ⟨t, ks, h, p⟩ => ⟨t, ks, .inl h, p⟩) id⟩
  cases x with
  | tmp o => exact old (by cases o <;> exact e)
  | var k =>
    unfold viewDr at e
    simp only at e
    split at e
    · rename_i hk
      exact old (by unfold viewD; simp only [hk]; exact e)
    · rename_i hk
      cases e
      obtain ⟨a, ea, ⟨u, hu, hr⟩, _⟩ := r.ob _ _ hk
      have q' : σ[_]? = some (some v) := q
      rw [ea] at q'; cases q'
      cases hr with
      | lk hr => exact ⟨a, rfl, .inl ⟨rfl, _, .inr ⟨_, hu⟩, hr⟩⟩
    · cases e
  | val i =>
    cases i with
    | ref n =>
      unfold viewDr at e
      simp only at e
      split at e
      · rename_i hn
        exact old (by unfold viewD; simp only [hn]; exact e)
      · rename_i hn
        cases e
        cases q with
        | ref ha =>
          obtain ⟨u, hu, hr⟩ := r.bx _ _ _ hn ha
          cases hr with
          | lk hr => exact ⟨_, rfl, .inl ⟨rfl, _, .inr ⟨_, hu⟩, hr⟩⟩
      · cases e
    | _ => cases e
theorem dgetR_ok (r : Rel K T s σ H ρ) {x : R} {v : V} (q : RpR K H (Uni (Own s σ ρ) T) ρ σ x v) {t : Bool} {l : List (I × I)} (e : viewDr x s = some (t, l)) {k : I} {vk : V} (qk : Rp K H (Uni (Own s σ ρ) T) ρ k vk) (ok : keyOk t k = true) :
    ∃ a, v = .ref a ∧ ((lookD l k = none ∧ DGet H a vk none) ∨ ∃ i vi, lookD l k = some i ∧ DGet H a vk (some vi) ∧ Rp K H (Uni (Own s σ ρ) T) ρ i vi) := by
  obtain ⟨a, rfl, h⟩ := viewDr_ok r q e
  refine ⟨a, rfl, ?_⟩
  rcases h with ⟨rfl, ks, hk, hr⟩ | ⟨rfl, ks, hk, hr⟩
  · obtain ⟨b, hb⟩ := keyOf_ok (show keyS k = true from ok)
    rw [qk.key hb]
    rcases hr.look hb with ⟨h1, h2⟩ | ⟨i, vi, h1, h2, h3⟩
    · exact .inl ⟨h1, .inl ⟨_, _, hk, rfl, h2.symm⟩⟩
    · exact .inr ⟨i, vi, h1, .inl ⟨_, _, hk, rfl, h2.symm⟩, h3⟩
  · cases ok
theorem isD_ok (r : Rel K T s σ H ρ) {x : R} {v : V} (q : RpR K H (Uni (Own s σ ρ) T) ρ σ x v) (e : isDc x s = true) : ∃ a, v = .ref a ∧ IsD H a := by
  unfold isDc at e
  obtain ⟨⟨t, l⟩, e⟩ := Option.isSome_iff_exists.mp e
  obtain ⟨a, rfl, h⟩ := viewD_ok r q e
  refine ⟨a, rfl, ?_⟩
  rcases h with ⟨_, ks, hk, _⟩ | ⟨_, ks, hk, _⟩
  · exact .inl ⟨ks, .inl hk⟩
  · exact .inr ⟨ks, .inl hk⟩
theorem isLs_ok (r : Rel K T s σ H ρ) {x : R} {v : V} (q : RpR K H (Uni (Own s σ ρ) T) ρ σ x v) (e : isLs x s = true) : tyV K "list" v H := by
  unfold isLs at e
  split at e
  · rename_i h
    obtain ⟨a, vs, rfl, _, _, t, _⟩ := viewQ_ok r q h
    exact .inl ⟨rfl, vs, t rfl⟩
  · cases e
theorem isSt_ok {x : R} {v : V} {W : Addr → Prop} (q : RpR K H W ρ σ x v) (e : isSt x = true) : tyV K "str" v H ∧ ∃ l, x = .val (.str l) ∧ v = .str (mkS l) := by
  unfold isSt at e
  split at e
  · cases rpStr q
    exact ⟨rfl, _, rfl, rfl⟩
  · cases e
end
end CH
/-! what is asked of the exception classes of a program -/
namespace CH
open PySem PySem.Spec PyProof.Rows L2
structure XeC (K : PySem.W.Frag) (C : Addr) : Prop where
  T : OexC K C
  E : ExcC K C
def sp1 (K : PySem.W.Frag) (f : Str) : Sp := fun vs H Q _ => ∃ (a C : Addr) (y : V), vs = [.ref a, y] ∧ H a = some (exo a C none) ∧ OexC K C ∧ PySem.W.findIn K (.ref C) f = some none ∧ ∀ dx, H dx = none → dx ≠ a → Q .non (upd (upd H dx (exd dx [(f, y)])) a (exo a C (some dx)))
def sp0 (K : PySem.W.Frag) : Sp := fun vs H Q _ => ∃ (a C : Addr), vs = [.ref a] ∧ H a = some (exo a C none) ∧ OexC K C ∧ Q .non H
/-- what is known of such a class: its facts, its __init__ -/
structure XkOk (X : Cx) (C : Addr) (f : List Nat) : Prop where
  xe : XeC X.K C
  init : ∃ (fI : Addr) (k : Nat) (fd : FuncData) (ps : List Str), PySem.W.findIn X.K (.ref C) "__init__" = some (some (.ref fI)) ∧ PySem.W.typeIn X.K (.ref fI) = some (.type "function") ∧ Room (k + 1) X.A ∧ Binds X.K fd ps [] ∧
    ((f = [] ∧ FnOk X.prog X.w X.K X.mg X.base (L2.CX X.prog X.w) k fI fd ps (sp0 X.K)) ∨ (f ≠ [] ∧ PySem.W.findIn X.K (.ref C) (mkS f) = some none ∧ FnOk X.prog X.w X.K X.mg X.base (L2.CX X.prog X.w) k fI fd ps (sp1 X.K (mkS f))))
/-- a class that is asked for -/
def cvE (K : PySem.W.Frag) (d : String) : Value := if d = "ValueError" then .type "ValueError" else clsA K d
structure IkOk (K : PySem.W.Frag) (mg : Str → Option Value) (cl d : String) : Prop where
  xe : XeC K (He.ga K (Str.ofString cl))
  kit : PySem.W.kitOne K (clsA K cl) (cvE K d) = some (under cl [d])
  exm : PySem.W.exmOne K (clsA K cl) (cvE K d) = some (under cl [d])
  nm : (d = "ValueError" → mg "ValueError" = none) ∧ (d ≠ "ValueError" → mg (Str.ofString d) = some (clsA K d))
end CH
namespace CH
open PySem L2
variable [Wsh]
section
variable {α β α' β' : Type} {K : PySem.W.Frag} {T T' : Addr → Prop} {s s1 s2 : S} {σ σ' : Sg} {H H1 H' : Hp} {ρ ρ1 ρ' : List Addr}
theorem Run.from {k : Kd α β} {x : Res α} {F : α → β → S → Hp → List Addr → Prop} (h : Run k K T s σ H ρ x F) (st : Stp H (Own s σ ρ) T H1 (Own s2 σ ρ1) T) (p : Pre ρ ρ1) : Run k K T s2 σ H1 ρ1 x F := by
  cases x with
  | ok a s' => exact fun b H' ρ' r st' p' q d => h b H' ρ' r (st.trans st') (p.trans p') q d
  | exc c l s' => exact fun cls d H' ρ' r st' p' q => h cls d H' ρ' r (st.trans st') (p.trans p') q
  | bad => exact h
theorem Stp.less {W T W' T' W2 T2 : Addr → Prop} (a : Stp H W T H' W' T') (h : ∀ b, W2 b → W' b) (h2 : ∀ b, T2 b → T' b) (h3 : ∀ b, T b → T2 b) : Stp H W T H' W2 T2 :=
  ⟨a.keep, fun b q => a.new b (q.imp (h b) (h2 b)), fun b t w => a.dis b t (h b w), h3, a.fz⟩
theorem asI_run {k : Kd α β} {x : R} {v : V} {f : I → S → Res α} {F : α → β → S → Hp → List Addr → Prop} (h : Run k K T s σ H ρ ((asI x s1).bind f) F)
    (r1 : Rel K (Uni T (tOf x v)) s1 σ H1 ρ1) (st : Stp H (Own s σ ρ) T H1 (Own s1 σ ρ1) (Uni T (tOf x v))) (q : RpR K H1 (Uni (Own s1 σ ρ1) (Uni T (tOf x v))) ρ1 σ x v) (d : ∀ c, tOf x v c → ¬ T c) :
    ∃ i s2, Rel K T s2 σ H1 ρ1 ∧ Rp K H1 (Uni (Own s2 σ ρ1) T) ρ1 i v ∧ Stp H (Own s σ ρ) T H1 (Own s2 σ ρ1) T ∧ Run k K T s σ H ρ (f i s2) F := by
  cases e : asI x s1 with
  | ok i s2 =>
    rw [e] at h
    obtain ⟨a, b, c⟩ := asI_ok r1 q d e
    exact ⟨i, s2, a, b, st.less c (fun _ z => .inl z) fun _ z => z, h⟩
  | exc c l s => unfold asI at e; split at e <;> first | cases e | (split at e <;> cases e)
  | bad => rw [e] at h; exact h.elim
end
/-- names -/
def visC (sc : Scope) (x : Str) : Bool := match sc.names.lookup x with
  | some .local => true
  | some .cell => true
  | some .free => true
  | _ => false
def locC (sc : Scope) (x : Str) : Bool := match sc.names.lookup x with
  | some .local => true
  | _ => false
def glC (sc : Scope) (x : Str) : Bool := match sc.names.lookup x with
  | some .globalImplicit => true
  | _ => false
def nameOk (x : Str) : Bool := !(x == ("__debug__" : Str)) && !(x == ("__classdict__" : Str)) && !(x == ("__name__" : Str))
theorem visC_ok {sc : Scope} {x : Str} (h : visC sc x = true) : Vis sc x := by
  unfold visC at h
  unfold Vis
  split at h <;> first | (cases h; done) | simp_all
theorem glC_ok {X : Cx} {sc : Scope} {x : Str} (e : X.env.scope = sc) (h : glC sc x = true) : Gl X x := by
  unfold glC at h
  unfold Gl Env.kindOf
  rw [e]
  split at h
  · assumption
  · cases h
structure NameOk (x : Str) : Prop where
  d : (x == ("__debug__" : Str)) = false
  c : (x == ("__classdict__" : Str)) = false
  n : x ≠ "__name__"
theorem nameOk_ok {x : Str} (h : nameOk x = true) : NameOk x := by
  unfold nameOk at h
  simp only [Bool.and_eq_true, Bool.not_eq_true'] at h
  exact ⟨h.1.1, h.1.2, by simpa using h.2⟩
def bnames : List Str := ["len", "int", "tuple", "list", "dict", "range", "isinstance", "enumerate", "sorted", "all", "any", "min", "max", "abs", "reversed", "sum", "set", "zip", "str", "bool"]

/-- the slots that a def hands back: those of the objects handed in -/
def msk : List D → List (Option D) → List (Option D)
  | .ob _ :: r, d :: t => d :: msk r t
  | .im _ :: r, _ :: t => none :: msk r t
  | _, _ => []
/-- what a def promises -/
def spOf (K : PySem.W.Frag) (cl : String → List D → List O → Rc) (f : String) : Sp := fun vs H Q E => ∃ T ds hp ρ, Rel K T ⟨ds.map some, hp⟩ (vs.map some) H ρ ∧ match cl f ds hp with
  | .ok d as hp' => ∀ v H' ρ', Rel K (Uni T (tOf (ofD d) v)) ⟨msk ds as, hp'⟩ (vs.map some) H' ρ' → Stp H (Own ⟨ds.map some, hp⟩ (vs.map some) ρ) T H' (Own ⟨msk ds as, hp'⟩ (vs.map some) ρ') (Uni T (tOf (ofD d) v)) → Pre ρ ρ' →
      RpR K H' (Uni (Own ⟨msk ds as, hp'⟩ (vs.map some) ρ') (Uni T (tOf (ofD d) v))) ρ' (vs.map some) (ofD d) v → (∀ b, tOf (ofD d) v b → ¬ T b) → Q v H'
  | .exc e l as hp' => ∀ cls d H' ρ', Rel K T ⟨msk ds as, hp'⟩ (vs.map some) H' ρ' → Stp H (Own ⟨ds.map some, hp⟩ (vs.map some) ρ) T H' (Own ⟨msk ds as, hp'⟩ (vs.map some) ρ') T → Pre ρ ρ' →
      RpX K H' (Uni (Own ⟨msk ds as, hp'⟩ (vs.map some) ρ') T) ρ' e l cls d → E cls d H'
  | .bad => False
/-- a method's key -/
def isM (f : String) : Bool := (Str.ofString f).cps.contains 46
structure Cok (X : Cx) (c : Ctx) : Prop where
  tk : Takes X Wsh.w
  calm : X.calm = true
  nd : X.N.Nodup
  un : X.A.units + 100 < cLine
  kd : X.env.scope.kind = .function
  bl : ∀ x ∈ bnames, X.mg x = none
  gl : ∀ (g : String) (i : I), c.gl g = some i → ∃ u v, X.mg (Str.ofString g) = some u ∧ RelV v u ∧ ∀ H W ρ, Rp X.K H W ρ i v
  cl : ∀ (f : String), c.kn f = true →
    ∃ (k : Nat) (a : Addr) (fd : FuncData) (ps : List Str), FnOk X.prog X.w X.K X.mg X.base (L2.CX X.prog X.w) k a fd ps (spOf X.K c.cl f) ∧ Room (k + 1) X.A ∧ (isM f = false → X.mg (Str.ofString f) = some (.ref a)) ∧ PySem.W.keepIn X.K (.ref a) = true ∧ Binds X.K fd ps [] ∧
      ∀ cl m, c.gl.kd f = some (cl, m) → Cls X.K (He.ga X.K (Str.ofString cl)) ∧ Meth X.K (He.ga X.K (Str.ofString cl)) (Str.ofString m) a ∧ (m = "__init__" → Mk X.K (He.ga X.K (Str.ofString cl)) a ∧ X.mg (Str.ofString cl) = some (clsA X.K cl))
  nm : ∀ (f : String) (a : Nat), c.gl f = some (.fa a f) → isM f = false
  fk : ∀ cl f, c.gl.fk cl f = true → Cls X.K (He.ga X.K (Str.ofString cl)) ∧ NoAttr X.K (He.ga X.K (Str.ofString cl)) (Str.ofString f)
  xk : ∀ cl f, c.gl.xk cl f = true → XkOk X (He.ga X.K (Str.ofString cl)) f ∧ X.mg (Str.ofString cl) = some (clsA X.K cl)
  ik : ∀ cl d, c.gl.ik cl d = true → IkOk X.K X.mg cl d
/-- names that are stored: of a def, of a comprehension's own -/
def PgOk (X : Cx) (raw : Scope) : Prop := ∀ x, (raw.names.lookup x = some .local ∨ raw.names.lookup x = some .cell) → (X.env.scope.names.lookup x = some .local ∨ X.env.scope.names.lookup x = some .cell) ∧ (X.fn x = true ∨ X.env.scope.names.lookup x = some .local)
/-! ### the checker -/
def opC : Op → Operator → Bool
  | .add, .Add => true | .sub, .Sub => true | .mul, .Mult => true | .div, .FloorDiv => true | .mod, .Mod => true | .pow, .Pow => true
  | _, _ => false
def cpC : Cp → CmpOp → Bool
  | .eq, .Eq => true | .ne, .NotEq => true | .lt, .Lt => true | .le, .LtE => true | .gt, .Gt => true | .ge, .GtE => true
  | _, _ => false
def inC : Bool → CmpOp → Bool
  | false, .In => true | true, .NotIn => true
  | _, _ => false
def isC : Bool → CmpOp → Bool
  | false, .Is => true | true, .IsNot => true
  | _, _ => false
def notSet : PySem.Expr → Bool
  | .Set .. => false
  | _ => true
def notSlice : PySem.Expr → Bool
  | .Slice .. => false
  | _ => true
def notStar : PySem.Expr → Bool
  | .Starred .. => false
  | _ => true
def notLc : PySem.Expr → Bool
  | .ListComp .. => false
  | .SetComp .. => false
  | .DictComp .. => false
  | _ => true
def tyC : Ty → Str → Bool
  | .int, x => x == "int" | .bool, x => x == "bool" | .str, x => x == "str" | .tup, x => x == "tuple" | .lst, x => x == "list"
/-- a built-in's name, called with this -/
def isNm (sc : Scope) (n : Str) : PySem.Expr → Bool
  | .Name x _ => decide (x = n) && glC sc n
  | _ => false
def superC : PySem.Expr → Bool
  | .Call (.Name _ _) [] [] _ => false
  | _ => true
def mthC (n : Str) (attr : Str) (apos cpos : Pos) (o : PySem.Expr) : Bool := decide (attr = n) && (apos.endLine == cpos.line) && superC o
def ownC (N : List Str) (own : List Nat) : Option (List (Str × Nat)) := match own with
  | [] => some []
  | k :: r => match N[k]?, ownC N r with
    | some x, some l => some ((x, k) :: l)
    | _, _ => none
def locC2 (sc : Scope) (x : Str) : Bool := match sc.names.lookup x with
  | some .local => true
  | some .cell => true
  | _ => false
mutual
def ckT (sc : Scope) (N : List Str) : Tg → PySem.Expr → Bool
  | .nm k, p => match p with
    | .Name x _ => decide (N[k]? = some x) && locC2 sc x
    | _ => false
  | .tp l, p => match p with
    | .Tuple es _ _ => ckTs sc N l es
    | _ => false
def ckTs (sc : Scope) (N : List Str) : List Tg → List PySem.Expr → Bool
  | [], p => p.isEmpty
  | t :: r, p => match p with
    | e :: es => ckT sc N t e && notStar e && ckTs sc N r es
    | _ => false
end
def bcall (sc : Scope) (n : Str) (p : PySem.Expr) : Option PySem.Expr := match p with
  | .Call g [a] [] _ => if isNm sc n g && notStar a then some a else none
  | _ => none
def bcall2 (sc : Scope) (n : Str) (p : PySem.Expr) : Option (PySem.Expr × PySem.Expr) := match p with
  | .Call g [a, b] [] _ => if isNm sc n g && notStar a && notStar b then some (a, b) else none
  | _ => none
def kcall (sc : Scope) (n kn : Str) (z : Int) (p : PySem.Expr) : Option PySem.Expr := match p with
  | .Call g [a] [⟨some m, .Constant (.int y) _ _, _⟩] _ => if isNm sc n g && notStar a && decide (m = kn) && decide (y = z) then some a else none
  | _ => none
def mcall0 (n : Str) (p : PySem.Expr) : Option PySem.Expr := match p with
  | .Call (.Attribute o m q) [] [] c => if mthC n m q c o then some o else none
  | _ => none
def mcall1 (n : Str) (p : PySem.Expr) : Option (PySem.Expr × PySem.Expr) := match p with
  | .Call (.Attribute o m q) [a] [] c => if mthC n m q c o && notStar a then some (o, a) else none
  | _ => none
def mcall2 (n : Str) (p : PySem.Expr) : Option (PySem.Expr × PySem.Expr × PySem.Expr) := match p with
  | .Call (.Attribute o m q) [a, b] [] c => if mthC n m q c o && notStar a && notStar b then some (o, a, b) else none
  | _ => none
def on1 (o : Option PySem.Expr) (f : PySem.Expr → Bool) : Bool := match o with
  | some p => f p
  | none => false
def on2 (o : Option (PySem.Expr × PySem.Expr)) (f g : PySem.Expr → Bool) : Bool := match o with
  | some (p, q) => f p && g q
  | none => false
def on3 (o : Option (PySem.Expr × PySem.Expr × PySem.Expr)) (f g h : PySem.Expr → Bool) : Bool := match o with
  | some (p, q, r) => f p && g q && h r
  | none => false
mutual
def tgN : Tg → List Nat
  | .nm k => [k]
  | .tp l => tgNs l
def tgNs : List Tg → List Nat
  | [] => []
  | t :: r => tgN t ++ tgNs r
end
/-- what an enumerate gives is taken apart -/
def tgE : Tg → It → Bool
  | .nm _, .enum _ => false
  | .nm _, .zip _ _ => false
  | _, _ => true
mutual
def ckE (sc : Scope) (N : List Str) : E → PySem.Expr → Bool
  | .loc k, p => match p with
    | .Name x _ => decide (N[k]? = some x) && visC sc x && nameOk x
    | _ => false
  | .glb g, p => match p with
    | .Name x _ => decide (x = Str.ofString g) && glC sc x && nameOk x
    | _ => false
  | .cst i, p => match i, p with
    | .int i, .Constant (.int j) _ _ => decide (i = j)
    | .bl i, .Constant (.bool j) _ _ => decide (i = j)
    | .non, .Constant .none _ _ => true
    | .str l, .Constant (.str x) _ _ => decide (x = mkS l)
    | _, _ => false
  | .tup es, p => match p with
    | .Tuple ps _ _ => ckEs sc N es ps
    | _ => false
  | .lst es, p => match p with
    | .List ps _ => ckEs sc N es ps
    | _ => false
  | .dct t es, p => match p with
    | .Dict [] [] _ => es.isEmpty
    | .Dict ks vs _ => !t && decide (es.length % 2 = 0) && decide (es.length ≤ 30) && decide (ks.length = vs.length) && decide (ks.length ≤ 15) && ks.all (·.isSome) && !ks.isEmpty && ckPs sc N es ks vs
    | _ => false
  | .box e, p => (match p with | .List _ _ => true | .Dict _ _ _ => true | .Call _ _ _ _ => true | _ => false) && ckE sc N e p
  | .op o a b, p => match p with
    | .BinOp l q r _ => opC o q && ckE sc N a l && ckE sc N b r
    | _ => false
  | .cmp o a b, p => match p with
    | .Compare l [q] [r] _ => cpC o q && ckE sc N a l && ckE sc N b r
    | _ => false
  | .chain o o' a b c, p => match p with
    | .Compare l [q, q'] [m, r] _ => cpC o q && cpC o' q' && ckE sc N a l && ckE sc N b m && ckE sc N c r
    | _ => false
  | .chain3 o o' o'' a b c d, p => match p with
    | .Compare l [q, q', q''] [m, r, t] _ => cpC o q && cpC o' q' && cpC o'' q'' && ckE sc N a l && ckE sc N b m && ckE sc N c r && ckE sc N d t
    | _ => false
  | .inq n a b, p => match p with
    | .Compare l [q] [r] _ => inC n q && ckE sc N a l && ckE sc N b r && notSet r
    | _ => false
  | .ins n a b, p => match p with
    | .Compare l [q] [r] _ => inC n q && ckE sc N a l && ckE sc N b r && notSet r
    | _ => false
  | .ind n a b, p => match p with
    | .Compare l [q] [r] _ => inC n q && ckE sc N a l && ckE sc N b r && notSet r
    | _ => false
  | .isn n a, p => match p with
    | .Compare l [q] [.Constant .none _ _] _ => isC n q && ckE sc N a l
    | _ => false
  | .ist n b a, p => match p with
    | .Compare l [q] [.Constant (.bool b') _ _] _ => isC n q && decide (b = b') && ckE sc N a l
    | _ => false
  | .not a, p => match p with
    | .UnaryOp .Not x _ => ckE sc N a x
    | _ => false
  | .neg a, p => match p with
    | .UnaryOp .USub x _ => ckE sc N a x
    | _ => false
  | .and a b, p => match p with
    | .BoolOp .And [l, r] _ => ckE sc N a l && ckE sc N b r
    | .BoolOp .And (l :: r :: t :: u) p => ckE sc N a l && ckE sc N b (.BoolOp .And (r :: t :: u) p)
    | _ => false
  | .or a b, p => match p with
    | .BoolOp .Or [l, r] _ => ckE sc N a l && ckE sc N b r
    | .BoolOp .Or (l :: r :: t :: u) p => ckE sc N a l && ckE sc N b (.BoolOp .Or (r :: t :: u) p)
    | _ => false
  | .idx a i, p => match p with
    | .Subscript o x _ => ckE sc N a o && ckE sc N i x && notSlice x
    | _ => false
  | .ixd a i, p => match p with
    | .Subscript o x _ => ckE sc N a o && ckE sc N i x && notSlice x
    | _ => false
  | .slc a lo hi, p => match p with
    | .Subscript o (.Slice l h none _) _ => ckE sc N a o && ckO sc N lo l && ckO sc N hi h
    | _ => false
  | .rvs a, p => match p with
    | .Subscript o (.Slice none none (some (.UnaryOp .USub (.Constant (.int 1) _ _) _)) _) _ => ckE sc N a o
    | _ => false
  | .call f es, p => match p with
    | .Call (.Name x _) (p :: ps) [] _ => decide (x = Str.ofString f) && glC sc x && nameOk x && ckEs sc N es (p :: ps) && !isM f
    | _ => false
  | .len a, p => on1 (bcall sc "len" p) (ckE sc N a)
  | .toInt a, p => on1 (bcall sc "int" p) (ckE sc N a)
  | .toTup a, p => on1 (bcall sc "tuple" p) (ckE sc N a)
  | .toLst a, p => on1 (bcall sc "list" p) (ckE sc N a)
  | .dictP a, p => on1 (bcall sc "dict" p) (ckE sc N a)
  | .dictD a, p => false
  | .listD a, p => on1 (bcall sc "list" p) (ckE sc N a)
  | .srt a, p => on1 (bcall sc "sorted" p) (ckE sc N a)
  | .all a, p => on1 (bcall sc "all" p) (ckE sc N a)
  | .any a, p => on1 (bcall sc "any" p) (ckE sc N a)
  | .sum a, p => on1 (bcall sc "sum" p) (ckE sc N a)
  | .abs a, p => on1 (bcall sc "abs" p) (ckE sc N a)
  | .mn a b, p => on2 (bcall2 sc "min" p) (ckE sc N a) (ckE sc N b)
  | .mx a b, p => on2 (bcall2 sc "max" p) (ckE sc N a) (ckE sc N b)
  | .srtSet a, p => (match bcall sc "sorted" p with | some p1 => on1 (bcall sc "set" p1) (ckE sc N a) | none => false)
  | .maxd a, p => on1 (kcall sc "max" "default" 0 p) (ckE sc N a)
  | .app a e, p => on2 (mcall1 "append" p) (ckE sc N a) (ckE sc N e)
  | .ext a e, p => on2 (mcall1 "extend" p) (ckE sc N a) (ckE sc N e)
  | .pop a, p => on1 (mcall0 "pop" p) (ckE sc N a)
  | .popAt a e, p => on2 (mcall1 "pop" p) (ckE sc N a) (ckE sc N e)
  | .insert a i e, p => on3 (mcall2 "insert" p) (ckE sc N a) (ckE sc N i) (ckE sc N e)
  | .remove a e, p => on2 (mcall1 "remove" p) (ckE sc N a) (ckE sc N e)
  | .get1 a e, p => on2 (mcall1 "get" p) (ckE sc N a) (ckE sc N e)
  | .get2 a e d, p => on3 (mcall2 "get" p) (ckE sc N a) (ckE sc N e) (ckE sc N d)
  | .index a e, p => on2 (mcall1 "index" p) (ckE sc N a) (ckE sc N e)
  | .tindex a e, p => on2 (mcall1 "index" p) (ckE sc N a) (ckE sc N e)
  | .sindex a e, p => on2 (mcall1 "index" p) (ckE sc N a) (ckE sc N e)
  | .join a e, p => on2 (mcall1 "join" p) (ckE sc N a) (ckE sc N e)
  | .upper a, p => on1 (mcall0 "upper" p) (ckE sc N a)
  | .isi a t, p => match bcall2 sc "isinstance" p with
    | some (q, .Name x _) => ckE sc N a q && tyC t x && glC sc x
    | _ => false
  | .comp own tg it cs el, p => match p with
    | .ListComp p [⟨t, i, ifs, 0⟩] scope _ => (match ownC N own with
      | some ow => blkC N sc scope ow
      | none => false) && ckI sc N it i && notSet i && ckT scope N tg t && (tgN tg).all own.contains && tgE tg it && ckC (relS scope sc) N cs ifs && ckE (relS scope sc) N el p
    | _ => false
  | .callv k es, p => match p with
    | .Call (.Name x _) (p :: ps) [] _ => decide (N[k]? = some x) && visC sc x && nameOk x && ckEs sc N es (p :: ps)
    | _ => false
  | .ixt a es, p => match p with
    | .Subscript o (.Tuple ps _ _) _ => ckE sc N a o && ckEs sc N es ps
    | _ => false
  | .isi2 a t u, p => match p with
    | .Call g [q, .Tuple [.Name x _, .Name y _] _ _] [] _ => isNm sc "isinstance" g && notStar q && ckE sc N a q && tyC t x && glC sc x && tyC u y && glC sc y
    | _ => false
  | .srtSetD _, _ => false
  | .fld a f, p => match p with
    | .Attribute o m _ => decide (m = Str.ofString f) && superC o && ckE sc N a o
    | _ => false
  | .mk _ cl es, p => match p with
    | .Call (.Name x _) ps [] _ => decide (x = Str.ofString cl) && glC sc x && nameOk x && ckEs sc N es ps
    | _ => false
  | .meth _ _ m a es, p => match p with
    | .Call (.Attribute o mm apos) ps [] pos => decide (mm = Str.ofString m) && (apos.endLine == pos.line) && superC o && decide (ps.length < 29) && ckE sc N a o && ckEs sc N es ps
    | _ => false
  | .mkx cl f es, p => match p with
    | .Call (.Name x _) [] [] _ => decide (x = Str.ofString cl) && glC sc x && nameOk x && es.isEmpty && decide (f = [])
    | .Call (.Name x _) [q] [] _ => decide (x = Str.ofString cl) && glC sc x && nameOk x && ckEs sc N es [q] && decide (f ≠ [])
    | _ => false
  | .exf a f, p => match p with
    | .Attribute o m _ => decide (m = mkS f) && superC o && ckE sc N a o
    | _ => false
  | .isx a cs, p => match bcall2 sc "isinstance" p with
    | some (q, .Name x _) => ckE sc N a q && decide (cs.map Str.ofString = [x]) && glC sc x && nameOk x
    | _ => false
  | .lockE _ e, p => (match p with | .Call _ _ _ _ => true | _ => false) && ckE sc N e p
  | .lrg1 a, p => on1 (bcall sc "list" p) fun q => on1 (bcall sc "range" q) (ckE sc N a)
  | .lrg2 a b, p => on1 (bcall sc "list" p) fun q => on2 (bcall2 sc "range" q) (ckE sc N a) (ckE sc N b)
def ckEs (sc : Scope) (N : List Str) : List E → List PySem.Expr → Bool
  | [], p => p.isEmpty
  | e :: es, p => match p with
    | p :: ps => ckE sc N e p && notStar p && ckEs sc N es ps
    | _ => false
def ckPs (sc : Scope) (N : List Str) : List E → List (Option PySem.Expr) → List PySem.Expr → Bool
  | [], ks, vs => ks.isEmpty && vs.isEmpty
  | [_], _, _ => false
  | k :: v :: r, ks, vs => match ks, vs with
    | some pk :: ks', pv :: vs' => ckE sc N k pk && ckE sc N v pv && ckPs sc N r ks' vs'
    | _, _ => false
def ckO (sc : Scope) (N : List Str) : Option E → Option PySem.Expr → Bool
  | none, p => p.isNone
  | some e, p => match p with
    | some p => ckE sc N e p
    | _ => false
def ckC (sc : Scope) (N : List Str) : Option E → List PySem.Expr → Bool
  | none, p => p.isEmpty
  | some e, p => match p with
    | [p] => ckE sc N e p
    | _ => false
def ckI (sc : Scope) (N : List Str) : It → PySem.Expr → Bool
  | .seq e, p => ckE sc N e p
  | .chars e, p => ckE sc N e p
  | .range1 a, p => on1 (bcall sc "range" p) (ckE sc N a)
  | .range2 a b, p => on2 (bcall2 sc "range" p) (ckE sc N a) (ckE sc N b)
  | .range3 _ _ _, _ => false
  | .enum e, p => on1 (bcall sc "enumerate" p) (ckE sc N e)
  | .zip a b, p => on2 (bcall2 sc "zip" p) (ckE sc N a) (ckE sc N b)
  | .rev e, p => on1 (bcall sc "reversed" p) (ckE sc N e)
  | .keys e, p => ckE sc N e p
end
end CH
namespace CH
open PySem L2
variable [Wsh]
theorem PEf {X : Cx} {e : PySem.Expr} {t : TE} (w : ∀ σ H Q, ¬ t σ H Q) : PE X e t := ⟨fun pins s σ H Q I q => (w σ H Q q).elim⟩
section
variable {X : Cx} {c : Ctx}
theorem tE_bad {x : E} (hx : ∀ s, evE c x s = .bad) : ∀ σ H Q, ¬ tE X.K c x σ H Q := by
  intro σ H Q ⟨T, s, ρ, rel, run⟩
  rw [hx] at run
  exact run
theorem ok_loc {k : Nat} {p : PySem.Expr} (h : ckE X.env.scope X.N (.loc k) p = true) : PE X p (tE X.K c (.loc k)) := by
  unfold ckE at h
  split at h
  · rename_i x pos
    rw [Bool.and_eq_true, Bool.and_eq_true] at h
    have hn := nameOk_ok h.2
    refine PEi (pe_var (of_decide_eq_true h.1.1) (visC_ok h.1.2) hn.d hn.c) ?_
    intro σ H Q ⟨T, s, ρ, rel, run⟩
    have e : evE c (.loc k) s = match s.g k with
      | some (.im i) => .ok (.val i) s
      | some (.ob _) => .ok (.var k) s
      | none => .bad := rfl
    rw [e] at run
    split at run
    · rename_i i hi
      obtain ⟨v, e1, r⟩ := rel.im k i hi
      exact ⟨v, e1, run.valQ rel r⟩
    · rename_i o ho
      obtain ⟨a, e1, r, n⟩ := rel.ob k o ho
      exact ⟨.ref a, e1, run.leaf (k := kR) (b := V.ref a) rel (fun _ z => z) kR_anti e1⟩
    · exact run.elim
  · cases h
theorem ok_glb (C : Cok X c) {g : String} {p : PySem.Expr} (h : ckE X.env.scope X.N (.glb g) p = true) : PE X p (tE X.K c (.glb g)) := by
  unfold ckE at h
  split at h
  · rename_i x pos
    rw [Bool.and_eq_true, Bool.and_eq_true] at h
    have hn := nameOk_ok h.2
    have hx := of_decide_eq_true h.1.1
    have e : ∀ s, evE c (.glb g) s = opt ((c.gl g).map .val) s := fun s => rfl
    cases hg : c.gl g with
    | none =>
      refine PEf fun σ H Q ⟨T, s, ρ, rel, run⟩ => ?_
      rw [e, hg] at run
      exact run
    | some i =>
      obtain ⟨u, v, h1, h2, h3⟩ := C.gl g i hg
      rw [← hx] at h1
      refine PEi (pe_glob (glC_ok rfl h.1.2) h1 h2 hn.d) ?_
      intro σ H Q ⟨T, s, ρ, rel, run⟩
      rw [e, hg] at run
      exact run.valQ rel (h3 _ _ _)
  · cases h
theorem ok_cst {i : I} {p : PySem.Expr} (h : ckE X.env.scope X.N (.cst i) p = true) : PE X p (tE X.K c (.cst i)) := by
  have e : ∀ s, evE c (.cst i) s = .ok (.val i) s := fun s => rfl
  unfold ckE at h
  split at h
  · have h := of_decide_eq_true h
    subst h
    exact PEi pe_int fun σ H Q ⟨T, s, ρ, rel, run⟩ => Run.valQ (by rw [← e]; exact run) rel (.int _)
  · have h := of_decide_eq_true h
    subst h
    exact PEi pe_bl fun σ H Q ⟨T, s, ρ, rel, run⟩ => Run.valQ (by rw [← e]; exact run) rel (.bl _)
  · exact PEi pe_non fun σ H Q ⟨T, s, ρ, rel, run⟩ => Run.valQ (by rw [← e]; exact run) rel .non
  · have h := of_decide_eq_true h
    subst h
    exact PEi pe_str fun σ H Q ⟨T, s, ρ, rel, run⟩ => Run.valQ (by rw [← e]; exact run) rel (.str _)
  · cases h
/-- what an operator asks -/
def opR2 (K : PySem.W.Frag) : Op → R2
  | .add => rAdd4 K | .sub => rI0 fun i j => .int (i - j) | .mul => rMul3 | .div => rI CDivW fun i j => .int (i / j) | .mod => rI (fun _ j => 0 < j) fun i j => .int (i % j) | .pow => rI CPow fun i j => .int (i ^ j.toNat)
theorem op_rule : ∀ {o : Op} {q : Operator}, opC o q = true → OpR X (binaryOp q) (opR2 X.K o)
  | .add, .Add, _ => op_add4
  | .sub, .Sub, _ => op_sub
  | .mul, .Mult, _ => op_mul3
  | .div, .FloorDiv, _ => op_fdivW
  | .mod, .Mod, _ => op_mod
  | .pow, .Pow, _ => op_pow
theorem op_sound {o : Op} {T : Addr → Prop} {s : S} {σ : Sg} {H : Hp} {ρ : List Addr} {u w : R} {vu vw : V} {Q : VK} (r : Rel X.K T s σ H ρ) (q1 : RpR X.K H (Uni (Own s σ ρ) T) ρ σ u vu) (q2 : RpR X.K H (Uni (Own s σ ρ) T) ρ σ w vw)
    (run : Run kR X.K T s σ H ρ (binop o u w s) (fun _ v _ H' _ => Q v H')) : opR2 X.K o vu vw H Q := match o with
  | .add => add_ok r q1 q2 run
  | .sub => sub_ok r q1 q2 run
  | .mul => mul_ok r q1 q2 run
  | .div => div_ok r q1 q2 run
  | .mod => mod_ok r q1 q2 run
  | .pow => pow_ok r q1 q2 run
theorem ok_op {o : Op} {a b : E} {l r : PySem.Expr} {q : Operator} {pos : Pos} (ho : opC o q = true) (ha : PE X l (tE X.K c a)) (hb : PE X r (tE X.K c b)) : PE X (.BinOp l q r pos) (tE X.K c (.op o a b)) :=
  PEi (pe_op (op_rule ho) ha hb) (two (fun s => rfl) fun T s σ H ρ u w vu vw Q r q1 q2 _ _ run => op_sound r q1 q2 run)
theorem Cok.u60 (C : Cok X c) : X.A.units + 60 < cLine := by have := C.un; omega
theorem Cok.u62 (C : Cok X c) : X.A.units + 62 < cLine := by have := C.un; omega
/-- what a comparison asks -/
def cpR (K : PySem.W.Frag) : Cp → R2
  | .eq => rEqI K false
  | .ne => rEqI K true
  | o => rOrd (ordI o) (ordS o)
theorem op_cp (C : Cok X c) : ∀ {o : Cp} {q : CmpOp}, cpC o q = true → OpR X (compareOp q) (cpR X.K o)
  | .eq, .Eq, _ => op_eqI C.u60
  | .ne, .NotEq, _ => op_neI C.u60
  | .lt, .Lt, _ => op_ltO
  | .le, .LtE, _ => op_leO
  | .gt, .Gt, _ => op_gtO
  | .ge, .GtE, _ => op_geO
theorem cp_ok {o : Cp} {T : Addr → Prop} {s : S} {σ : Sg} {H : Hp} {ρ : List Addr} {u w : R} {vu vw : V} {Q : VK} (r : Rel X.K T s σ H ρ) (q1 : RpR X.K H (Uni (Own s σ ρ) T) ρ σ u vu) (q2 : RpR X.K H (Uni (Own s σ ρ) T) ρ σ w vw)
    (run : Run kR X.K T s σ H ρ (cmpop o u w s) (fun _ v _ H' _ => Q v H')) : cpR X.K o vu vw H Q := by
  cases o with
  | eq => exact eqne_ok (.inl ⟨rfl, rfl⟩) r q1 q2 run
  | ne => exact eqne_ok (.inr ⟨rfl, rfl⟩) r q1 q2 run
  | lt => exact ord_ok (by intro h; cases h) (by intro h; cases h) r q1 q2 run
  | le => exact ord_ok (by intro h; cases h) (by intro h; cases h) r q1 q2 run
  | gt => exact ord_ok (by intro h; cases h) (by intro h; cases h) r q1 q2 run
  | ge => exact ord_ok (by intro h; cases h) (by intro h; cases h) r q1 q2 run
theorem cpC_ne : ∀ {o : Cp} {q : CmpOp}, cpC o q = true → q ≠ .In ∧ q ≠ .NotIn
  | .eq, .Eq, _ => ⟨(fun h => nomatch h), (fun h => nomatch h)⟩
  | .ne, .NotEq, _ => ⟨(fun h => nomatch h), (fun h => nomatch h)⟩
  | .lt, .Lt, _ => ⟨(fun h => nomatch h), (fun h => nomatch h)⟩
  | .le, .LtE, _ => ⟨(fun h => nomatch h), (fun h => nomatch h)⟩
  | .gt, .Gt, _ => ⟨(fun h => nomatch h), (fun h => nomatch h)⟩
  | .ge, .GtE, _ => ⟨(fun h => nomatch h), (fun h => nomatch h)⟩
theorem notSet_mark {q : CmpOp} {r : PySem.Expr} (h : notSet r = true) : behindInMarks q r = false := by
  cases r <;> first | rfl | cases h
theorem ok_cmp (C : Cok X c) {o : Cp} {a b : E} {l r : PySem.Expr} {q : CmpOp} {pos : Pos} (ho : cpC o q = true) (ha : PE X l (tE X.K c a)) (hb : PE X r (tE X.K c b)) : PE X (.Compare l [q] [r] pos) (tE X.K c (.cmp o a b)) := by
  have hx : ∀ s, evE c (.cmp o a b) s = (evE c a s).bind fun u s1 => (evE c b s1).bind fun w s2 => cmpop o u w s2 := fun s => rfl
  exact PEi (pe_cmpR (op_cp C ho) ha hb (nobehind r (cpC_ne ho).1 (cpC_ne ho).2)) (two hx fun T s σ H ρ u w vu vw Q r q1 q2 _ _ run => cp_ok r q1 q2 run)
theorem ok_inq (C : Cok X c) {n : Bool} {a b : E} {l r : PySem.Expr} {q : CmpOp} {pos : Pos} (ho : inC n q = true) (hr : notSet r = true) (ha : PE X l (tE X.K c a)) (hb : PE X r (tE X.K c b)) : PE X (.Compare l [q] [r] pos) (tE X.K c (.inq n a b)) := by
  have hx : ∀ s, evE c (.inq n a b) s = (evE c a s).bind fun u s1 => (evE c b s1).bind fun w s2 => inop n u w s2 := fun s => rfl
  cases n <;> cases q <;> first
    | (cases ho; done)
    | exact PEi (pe_cmpR (op_inI C.u62) ha hb (notSet_mark hr)) (two hx fun T s σ H ρ u w vu vw Q r q1 q2 _ _ run => in_ok r q1 q2 run)
    | exact PEi (pe_cmpR (op_notInI C.u62) ha hb (notSet_mark hr)) (two hx fun T s σ H ρ u w vu vw Q r q1 q2 _ _ run => in_ok r q1 q2 run)
theorem ok_ins {n : Bool} {a b : E} {l r : PySem.Expr} {q : CmpOp} {pos : Pos} (ho : inC n q = true) (hr : notSet r = true) (ha : PE X l (tE X.K c a)) (hb : PE X r (tE X.K c b)) : PE X (.Compare l [q] [r] pos) (tE X.K c (.ins n a b)) := by
  have hx : ∀ s, evE c (.ins n a b) s = (evE c a s).bind fun u s1 => (evE c b s1).bind fun w s2 => insop n u w s2 := fun s => rfl
  cases n <;> cases q <;> first
    | (cases ho; done)
    | exact PEi (pe_cmpR op_inC ha hb (notSet_mark hr)) (two hx fun T s σ H ρ u w vu vw Q r q1 q2 _ _ run => ins_ok r q1 q2 run)
    | exact PEi (pe_cmpR op_ninC ha hb (notSet_mark hr)) (two hx fun T s σ H ρ u w vu vw Q r q1 q2 _ _ run => ins_ok r q1 q2 run)
theorem isn_ok {n : Bool} {T : Addr → Prop} {s : S} {σ : Sg} {H : Hp} {ρ : List Addr} {u : R} {vu : V} {F : VK} (rel : Rel X.K T s σ H ρ) (q : RpR X.K H (Uni (Own s σ ρ) T) ρ σ u vu) (run : Run kR X.K T s σ H ρ (isnop n u s) (fun _ v _ H' _ => F v H')) : F (.bl (decide (vu = .non) != n)) H := by
  unfold isnop at run
  split at run
  · have e : vu = .non := by cases q; rfl
    subst e
    have := run.valQ rel (.bl _)
    simpa using this
  · rename_i k
    split at run
    · rename_i o ho
      obtain ⟨a, ea, _, _⟩ := rel.ob _ _ ho
      have q' : σ[k]? = some (some vu) := q
      rw [ea] at q'; cases q'
      have := run.valQ rel (.bl n)
      simpa using this
    · exact run.elim
  · rename_i hne hne2
    have e : vu ≠ .non := by
      intro e
      subst e
      cases u with
      | val i =>
        have q' : Rp X.K H (Uni (Own s σ ρ) T) ρ i .non := q
        cases q'
        exact hne rfl
      | tmp o => obtain ⟨a, e, _⟩ := q; cases e
      | var k => exact hne2 k rfl
    rw [decide_eq_false e]
    have := run.valQ rel (.bl n)
    simpa using this
theorem ok_isn {n : Bool} {a : E} {l : PySem.Expr} {q : CmpOp} {j : Nat} {p2 pos : Pos} (ho : isC n q = true) (ha : PE X l (tE X.K c a)) : PE X (.Compare l [q] [.Constant .none j p2] pos) (tE X.K c (.isn n a)) := by
  have hx : ∀ s, evE c (.isn n a) s = (evE c a s).bind fun u s1 => isnop n u s1 := fun s => rfl
  have fin : ∀ (r2 : R2), (∀ (v : V) (H : Hp) (Q : VK), Q (.bl (decide (v = .non) != n)) H → r2 v .non H Q) → ∀ σ H Q, tE X.K c (.isn n a) σ H Q → tOp r2 (tE X.K c a) (tC .non) σ H Q := fun r2 hr σ H Q h =>
    one (r1 := fun v H Q => r2 v .non H Q) hx (fun T s σ H ρ u vu Q r q _ run => hr vu H Q (isn_ok r q run)) σ H Q h
  cases n <;> cases q <;> first
    | (cases ho; done)
    | exact PEi (pe_cmpR op_isN ha pe_non rfl) (fin _ fun v H Q h => ⟨rfl, by rw [Bool.bne_false] at h; exact h⟩)
    | exact PEi (pe_cmpR op_notN ha pe_non rfl) (fin _ fun v H Q h => ⟨rfl, by rw [Bool.bne_true] at h; exact h⟩)
theorem ist_ok {T : Addr → Prop} {s : S} {σ : Sg} {H : Hp} {ρ : List Addr} {n b : Bool} {u : R} {vu : V} {Q : VK} (r : Rel X.K T s σ H ρ) (q : RpR X.K H (Uni (Own s σ ρ) T) ρ σ u vu) (run : Run kR X.K T s σ H ρ (istop n b u s) (fun _ v _ H' _ => Q v H')) : ∃ c : Bool, vu = .bl c ∧ Q (.bl ((c == b) != n)) H := by
  unfold istop at run
  split at run
  · cases rpBl (σ := σ) q
    exact ⟨_, rfl, run.valQ r (.bl _)⟩
  · exact run.elim
theorem ist_w (n b : Bool) {a : E} (r2 : R2) (hr : ∀ (c : Bool) (H : Hp) (Q : VK), Q (.bl ((c == b) != n)) H → r2 (.bl c) (.bl b) H Q) : ∀ σ H Q, tE X.K c (.ist n b a) σ H Q → tOp r2 (tE X.K c a) (tC (.bl b)) σ H Q := fun σ H Q h =>
  one (r1 := fun v H Q => r2 v (.bl b) H Q) (fun s => rfl) (fun T s σ H ρ u vu Q r q _ run => by
    obtain ⟨c, e, h⟩ := ist_ok r q run
    subst e
    exact hr c H Q h) σ H Q h
theorem ok_ist {n b : Bool} {a : E} {l : PySem.Expr} {q : CmpOp} {j : Nat} {p2 pos : Pos} (ho : isC n q = true) (ha : PE X l (tE X.K c a)) : PE X (.Compare l [q] [.Constant (.bool b) j p2] pos) (tE X.K c (.ist n b a)) := by
  cases n <;> cases q <;> first
    | (cases ho; done)
    | exact PEi (pe_cmpR op_isBl ha pe_bl rfl) (ist_w _ _ _ fun c H Q h => ⟨c, b, rfl, rfl, by cases c <;> cases b <;> exact h⟩)
    | exact PEi (pe_cmpR op_notBl ha pe_bl rfl) (ist_w _ _ _ fun c H Q h => ⟨c, b, rfl, rfl, by cases c <;> cases b <;> exact h⟩)
theorem kRbl {K : PySem.W.Frag} {H : Hp} {W : Addr → Prop} {ρ : List Addr} {σ : Sg} {b : Bool} {v : V} (q : kR.rp K H W ρ σ (.val (.bl b)) v) : v = .bl b := rpBl (σ := σ) q
theorem kRint {K : PySem.W.Frag} {H : Hp} {W : Addr → Prop} {ρ : List Addr} {σ : Sg} {b : Int} {v : V} (q : kR.rp K H W ρ σ (.val (.int b)) v) : v = .int b := rpInt (σ := σ) q
theorem ok_not {a : E} {l : PySem.Expr} {pos : Pos} (ha : PE X l (tE X.K c a)) : PE X (.UnaryOp .Not l pos) (tE X.K c (.not a)) := by
  refine PEi (pe_not ha) ?_
  intro σ H Q ⟨T, s, ρ, rel, run⟩
  have hx : evE c (.not a) s = (evE c a s).bind fun x s1 => match x with
    | .val (.bl b) => .ok (.val (.bl (!b))) s1
    | _ => .bad := rfl
  rw [hx] at run
  refine ⟨T, s, ρ, rel, (Run.bind (k' := kR) kR_anti run).mono fun u vu s1 H1 ρ1 rel1 st1 p1 q1 d1 run1 => ?_⟩
  split at run1
  · cases kRbl q1; exact ⟨_, rfl, run1.valQ rel1 (.bl _)⟩
  · exact run1.elim
theorem ok_neg {a : E} {l : PySem.Expr} {pos : Pos} (ha : PE X l (tE X.K c a)) : PE X (.UnaryOp .USub l pos) (tE X.K c (.neg a)) := by
  refine PEi (pe_un un_neg ha) ?_
  intro σ H Q ⟨T, s, ρ, rel, run⟩
  have hx : evE c (.neg a) s = (evE c a s).bind fun x s1 => match x with
    | .val (.int i) => .ok (.val (.int (-i))) s1
    | _ => .bad := rfl
  rw [hx] at run
  refine ⟨T, s, ρ, rel, (Run.bind (k' := kR) kR_anti run).mono fun u vu s1 H1 ρ1 rel1 st1 p1 q1 d1 run1 => ?_⟩
  split at run1
  · cases kRint q1; exact ⟨_, rfl, run1.valQ rel1 (.int _)⟩
  · exact run1.elim
/-- a Run is a reading -/
theorem tE_of {T : Addr → Prop} {s : S} {σ : Sg} {H : Hp} {ρ : List Addr} {e : E} {Q : VK} (rel : Rel X.K T s σ H ρ) (run : Run kR X.K T s σ H ρ (evE c e s) fun _ v _ H' _ => Q v H') : tE X.K c e σ H Q := ⟨T, s, ρ, rel, run⟩
theorem and_ok {a b : E} : ∀ σ H Q, tE X.K c (.and a b) σ H Q → tAndV (tE X.K c a) (tE X.K c b) σ H Q := by
  intro σ H Q ⟨T, s, ρ, rel, run⟩
  have hx : evE c (.and a b) s = (evE c a s).bind fun x s1 => match x with
    | .val (.bl true) => evE c b s1
    | .val (.bl false) => .ok (.val (.bl false)) s1
    | _ => .bad := rfl
  rw [hx] at run
  refine ⟨T, s, ρ, rel, (Run.bind (k' := kR) kR_anti run).mono fun u vu s1 H1 ρ1 rel1 st1 p1 q1 d1 run1 => ?_⟩
  split at run1
  · cases kRbl q1; exact ⟨true, rfl, tE_of rel1 run1⟩
  · cases kRbl q1; exact ⟨false, rfl, run1.valQ rel1 (.bl _)⟩
  · exact run1.elim
theorem or_ok {a b : E} : ∀ σ H Q, tE X.K c (.or a b) σ H Q → tOrV (tE X.K c a) (tE X.K c b) σ H Q := by
  intro σ H Q ⟨T, s, ρ, rel, run⟩
  have hx : evE c (.or a b) s = (evE c a s).bind fun x s1 => match x with
    | .val (.bl true) => .ok (.val (.bl true)) s1
    | .val (.bl false) => evE c b s1
    | _ => .bad := rfl
  rw [hx] at run
  refine ⟨T, s, ρ, rel, (Run.bind (k' := kR) kR_anti run).mono fun u vu s1 H1 ρ1 rel1 st1 p1 q1 d1 run1 => ?_⟩
  split at run1
  · cases kRbl q1; exact ⟨true, rfl, run1.valQ rel1 (.bl _)⟩
  · cases kRbl q1; exact ⟨false, rfl, tE_of rel1 run1⟩
  · exact run1.elim
theorem ok_idx {a i : E} {l r : PySem.Expr} {pos : Pos} (hr : notSlice r = true) (ha : PE X l (tE X.K c a)) (hb : PE X r (tE X.K c i)) : PE X (.Subscript l r pos) (tE X.K c (.idx a i)) := by
  have hx : ∀ s, evE c (.idx a i) s = (evE c a s).bind fun u s1 => (evE c i s1).bind fun w s2 => ixop u w s2 := fun s => rfl
  have hp : PlainIx r := by cases r <;> first | (exact fun _ _ => rfl) | cases hr
  exact PEi (pe_ix ix_seq ha hb hp) (two hx fun T s σ H ρ u w vu vw Q r q1 q2 _ _ run => ixop_ok r q1 q2 run)
end
end CH
namespace CH
open PySem L2
variable [Wsh]
theorem star_of {p : PySem.Expr} {ps : List PySem.Expr} {env : Env} (h : notStar p = true) : starEach (p :: ps) env = (false, eval p env) :: starEach ps env := by
  cases p <;> first | rfl | cases h
theorem Rp.grow {K : PySem.W.Frag} {T T' : Addr → Prop} {s s' : S} {σ : Sg} {H H' : Hp} {ρ ρ' : List Addr} (st : Stp H (Own s σ ρ) T H' (Own s' σ ρ') T') (h : Rel K T s σ H ρ) (p : Pre ρ ρ') {i : I} {v : V} (q : Rp K H (Uni (Own s σ ρ) T) ρ i v) : Rp K H' (Uni (Own s' σ ρ') T') ρ' i v := Rp.stay (st.stay h p) q
section
variable {X : Cx} {c : Ctx}
/-- items that are stored -/
def tIs (K : PySem.W.Frag) (c : Ctx) (es : List E) : TA := fun σ H Q => ∃ T s ρ, Rel K T s σ H ρ ∧ Run kL K T s σ H ρ (evIs c es s) fun _ vs _ H' _ => Q vs H'
theorem is_nil : PA X [] (tIs X.K c []) := by
  refine PAi pa_nil ?_
  intro σ H Q ⟨T, s, ρ, rel, run⟩
  exact run.leaf (k := kL) (b := []) rel (fun _ z => z) kL_anti .nil
theorem is_cons {e : E} {es : List E} {p : PySem.Expr} {ps : List PySem.Expr} (hs : notStar p = true) (ha : PE X p (tE X.K c e)) (hb : PA X ps (tIs X.K c es)) : PA X (p :: ps) (tIs X.K c (e :: es)) := by
  refine PAi (pa_cons ha hb (star_of hs)) ?_
  intro σ H Q ⟨T, s, ρ, rel, run⟩
  have hx : evIs c (e :: es) s = (evE c e s).bind fun x s1 => (asI x s1).bind fun i s2 => (evIs c es s2).bind fun l s3 => .ok (i :: l) s3 := rfl
  rw [hx] at run
  refine ⟨T, s, ρ, rel, (Run.bind0 (k' := kR) run).mono fun u vu s1 H1 ρ1 rel1 st1 p1 q1 d1 run1 => ?_⟩
  obtain ⟨i, s2, rel2, rp2, st2, run2⟩ := asI_run run1 rel1 st1 q1 d1
  have run3 := run2.from st2 p1
  refine ⟨T, s2, ρ1, rel2, (Run.bind (k' := kL) kL_anti run3).mono fun l vs s3 H3 ρ3 rel3 st3 p3 q3 d3 run4 => ?_⟩
  have sub : ∀ z, T z → Uni T (kL.tm l vs) z := fun z h => .inl h
  exact run4.leaf (k := kL) (b := vu :: vs) rel3 (fun _ z => z) kL_anti (.cons (rp2.grow st3 rel2 p3) q3)
theorem Rps.len2 {K : PySem.W.Frag} {H : Hp} {W : Addr → Prop} {ρ : List Addr} {l : List I} {vs : List V} (h : Rps K H W ρ l vs) {n : Nat} (q : decide (l.length ≤ n) = true) : vs.length ≤ n := by
  rw [← h.length]; exact of_decide_eq_true q
/-- a new tuple, and what it is -/
def tTupX (t : TA) : TE := fun σ H Q => t σ H fun xs H1 => xs.length ≤ sizeLine ∧ ∀ p o, o.dict = none → o.cls = .type "tuple" → H1 p = none → Q (.ref p) (upd H1 p (.frz o (.tup xs)))
theorem pe_tupX {es : List PySem.Expr} {t : TA} {x1} {pos : Pos} (h : PA X es t) : PE X (.Tuple es x1 pos) (tTupX t) := by
  refine ⟨fun pins s σ H Q I hq => ?_⟩
  refine wpAny_Tuple_spliced (thn (h.run pos pins s σ H _ I hq) fun us s1 ⟨xs, H1, I1, r, z, q⟩ => ⟨by rw [← r.length]; exact z, ?_⟩)
  have hf : H1 s1.heap.objs.size = none := I1.hok.fresh (Nat.le_refl _)
  refine ⟨.ref s1.heap.objs.size, upd H1 s1.heap.objs.size (.frz { cls := .type "tuple", data := .seq us.toArray } (.tup xs)), I1.laid (t' := s1.toks) (fun b u e => Heap.get?_push_of_some _ e) (Nat.le_refl _) ?_, rfl, q _ _ rfl rfl hf⟩
  exact ⟨Heap.get?_push_size _ rfl, z, us, r, ⟨_, Heap.get?_push_size _ rfl, rfl, _, rfl⟩⟩
theorem ok_tup {es : List E} {ps : List PySem.Expr} {x1} {pos : Pos} (ha : PA X ps (tIs X.K c es)) : PE X (.Tuple ps x1 pos) (tE X.K c (.tup es)) := by
  refine PEi (pe_tupX ha) ?_
  intro σ H Q ⟨T, s, ρ, rel, run⟩
  have hx : evE c (.tup es) s = (evIs c es s).bind fun l s1 => Res.req (decide (l.length ≤ 16777216)) (.ok (.val (.tup l)) s1) := rfl
  rw [hx] at run
  refine ⟨T, s, ρ, rel, (Run.bind (k' := kL) kR_anti run).mono fun l vs s1 H1 ρ1 rel1 st1 p1 q1 d1 run1 => ?_⟩
  obtain ⟨cz, run1⟩ := Run.req run1
  exact ⟨by rw [sizeLine_eq]; exact Rps.len2 q1 cz, fun p o hd hc hp => run1.newT rel1 hd hc hp q1⟩
theorem ok_lst {es : List E} {ps : List PySem.Expr} {pos : Pos} (ha : PA X ps (tIs X.K c es)) : PE X (.List ps pos) (tE X.K c (.lst es)) := by
  refine PEi (pe_lst ha) ?_
  intro σ H Q ⟨T, s, ρ, rel, run⟩
  have hx : evE c (.lst es) s = (evIs c es s).bind fun l s1 => Res.req (decide (l.length ≤ 16777216)) (.ok (.tmp (.lst l)) s1) := rfl
  rw [hx] at run
  refine ⟨T, s, ρ, rel, (Run.bind (k' := kL) kR_anti run).mono fun l vs s1 H1 ρ1 rel1 st1 p1 q1 d1 run1 => ?_⟩
  obtain ⟨cz, run1⟩ := Run.req run1
  exact ⟨by rw [sizeLine_eq]; exact Rps.len2 q1 cz, fun p hp => run1.new rel1 hp (.lst q1)⟩
/-! ### slices -/
def tO (K : PySem.W.Frag) (c : Ctx) (e : Option E) : TO := fun σ H Q => ∃ T s ρ, Rel K T s σ H ρ ∧ Run kE K T s σ H ρ (evO c e s) fun o _ _ H' _ => Q o H'
theorem POi {e : Option PySem.Expr} {t t' : TO} (h : PO X e t) (w : ∀ σ H Q, t' σ H Q → t σ H Q) : PO X e t' := ⟨fun pins s σ H Q I q => h.run pins s σ H Q I (w σ H Q q)⟩
theorem o_none : PO X none (tO X.K c none) := by
  refine POi po_none ?_
  intro σ H Q ⟨T, s, ρ, rel, run⟩
  exact run.leaf (k := kE) (b := none) rel (fun _ z => z) kE_anti rfl
theorem o_some {e : E} {p : PySem.Expr} (ha : PE X p (tE X.K c e)) : PO X (some p) (tO X.K c (some e)) := by
  refine POi (po_some ha) ?_
  intro σ H Q ⟨T, s, ρ, rel, run⟩
  have hx : evO c (some e) s = (evE c e s).bind fun x s1 => opt ((rint x).map some) s1 := rfl
  rw [hx] at run
  refine ⟨T, s, ρ, rel, (Run.bind (k' := kR) kE_anti run).mono fun u vu s1 H1 ρ1 rel1 st1 p1 q1 d1 run1 => ?_⟩
  obtain ⟨z, hz, run1⟩ := Run.opt run1
  unfold rint at hz
  split at hz
  · cases hz
    cases kRint q1
    exact ⟨_, rfl, run1.leaf (k := kE) (b := some z) rel1 (fun _ z => z) kE_anti rfl⟩
  · cases hz
theorem clip_eq (n d : Nat) (o : Option Int) : HT.sIx n d o = clip n d o := by cases o <;> rfl
theorem cutV_eq {α : Type} (xs : List α) (lo hi : Option Int) : (xs.drop (HT.sIx xs.length 0 lo)).take (HT.sIx xs.length xs.length hi - HT.sIx xs.length 0 lo) = cut xs lo hi := by
  unfold cut
  rw [clip_eq, clip_eq]
theorem Rps.cut {K : PySem.W.Frag} {H : Hp} {W : Addr → Prop} {ρ : List Addr} {l : List I} {vs : List V} (h : Rps K H W ρ l vs) (lo hi : Option Int) : Rps K H W ρ (CH.cut l lo hi) (L2.cutV vs lo hi) := by
  unfold cutV
  rw [cutV_eq]
  unfold CH.cut
  rw [← h.length]
  exact (h.drop _).take _
end
end CH
namespace HT
open PySem PySem.Spec PyProof.Rows
section
variable {prog : Program} {w : World} {A : Around} {E : Value → Shared → Prop} {s : Shared}
theorem places_back (n : Nat) : Builtin.Slice.slicePlaces ((n : Int) - 1) (-1) (-1) = n := by
  unfold Builtin.Slice.slicePlaces
  rw [if_neg (by decide)]
  by_cases h : (n : Int) - 1 > -1
  · rw [if_pos h]
    have e : ((n : Int) - 1 - -1 - 1) / (- -1) + 1 = (n : Int) := by
      rw [show (- -1 : Int) = 1 by decide, Int.ediv_one]; omega
    rw [e, Int.toNat_natCast]
  · rw [if_neg h]
    have : n = 0 := by omega
    subst this; rfl
theorem sliceApplied_back {sl : Addr} {vs : Value} {n : Nat} {Q : Int × Int × Nat → Shared → Prop} (hs : s.heap.IsSliceOf sl .none .none vs) (ps : IsPart vs (some (-1)))
    (h : Q ((n : Int) - 1, -1, n) s) : wpAny (model prog w) A (Builtin.Slice.sliceApplied (.ref sl) (pure (n : Int))) Q E s := by
  obtain ⟨os, hos, hcs, hds⟩ := id hs
  unfold Builtin.Slice.sliceApplied Builtin.Slice.sliceFields
  refine wpAny_bind (wpAny_bind (wpAny_field hos hds (x := .none) rfl (wpAny_bind (wpAny_field hos hds (x := .none) rfl (wpAny_bind (wpAny_field hos hds (x := vs) rfl (wpAny_pure ?_)))))))
  refine wpAny_bind (slicePart_ ps ?_)
  show wpAny _ _ (if ((-1 : Int) == 0) = true then _ else _) _ _ s
  rw [if_neg (by decide)]
  refine wpAny_bind (slicePart_none (wpAny_bind (slicePart_none (wpAny_bind (wpAny_pure ?_)))))
  show wpAny _ _ (match Builtin.Slice.sliceAdjust none none (-1) (n : Int) with | (lo, hi) => pure (lo, (-1 : Int), Builtin.Slice.slicePlaces lo hi (-1))) _ _ s
  have e : Builtin.Slice.sliceAdjust none none (-1) (n : Int) = ((n : Int) - 1, -1) := by
    unfold Builtin.Slice.sliceAdjust
    simp only [show ((-1 : Int) < 0) = True from by simp, if_true]
  rw [e]
  show wpAny _ _ (pure (((n : Int) - 1), (-1 : Int), Builtin.Slice.slicePlaces ((n : Int) - 1) (-1) (-1))) _ _ s
  rw [places_back]
  exact wpAny_pure h
theorem pick_back (xs : Array Value) : ((List.range xs.size).filterMap fun (m : Nat) => xs[(((xs.size : Int) - 1) + (m : Int) * -1).toNat]?).toArray = xs.toList.reverse.toArray := by
  have e : ((List.range xs.size).filterMap fun (m : Nat) => xs[(((xs.size : Int) - 1) + (m : Int) * -1).toNat]?) = ((List.range xs.size).map fun k => xs.size - 1 - k).filterMap (xs[·]?) := by
    rw [List.filterMap_map]
    have : (fun (m : Nat) => xs[(((xs.size : Int) - 1) + (m : Int) * -1).toNat]?) = ((xs[·]?) ∘ fun k => xs.size - 1 - k) := by
      funext m
      show xs[(((xs.size : Int) - 1) + (m : Int) * -1).toNat]? = xs[xs.size - 1 - m]?
      have e2 : (((xs.size : Int) - 1) + (m : Int) * -1).toNat = xs.size - 1 - m := by omega
      rw [e2]
    rw [this]
  rw [e, PySem.W.krv_range, List.filterMap_reverse, PySem.W.krv_all]
theorem getItem_tuple_back {t sl : Addr} {items : Array Value} {vs : Value} {Q : Value → Shared → Prop} (ht : IsTup s.heap t items) (hs : s.heap.IsSliceOf sl .none .none vs) (ps : IsPart vs (some (-1)))
    (h : Q (.ref s.heap.objs.size) { s with heap := s.heap.push { cls := .type "tuple", data := .seq items.toList.reverse.toArray } })
    (hsz : items.size ≤ sizeLine) : wpAny (model prog w) A (getItem (.ref t) (.ref sl)) Q E s := by
  have htake : sizeOk (.seq items.toList.reverse.toArray) := by
    show items.toList.reverse.toArray.size ≤ sizeLine
    rw [List.size_toArray, List.length_reverse, Array.length_toList]
    omega
  obtain ⟨os, hos, hcs, hds⟩ := id hs
  have hTs : s.TypeIs (.ref sl) "slice" := ⟨os, hos, hcs⟩
  unfold getItem
  try with_reducible refine wpAny_holding ?_
  first | refine wpAny_bind (wpAny_pure ?_) | skip
  refine wpAny_bind (wpAny_sequenceKey ht.typeIs (by decide) ?_)
  refine wpAny_bind (wpAny_callSpecial?_slot (name := Str.ofString "__getitem__") ht.typeIs PyProof.Rows.slot_tuple_getitem
    (wpAny_call_entry PyProof.Rows.slot_tuple_getitem ht.typeIs entry_tuple_getitem ?_ (args_tuple_getitem _ _)))
  show wpAny _ _ (Builtin.Tuple.tupleItemsOf (.ref t) >>= _) _ _ s
  refine wpAny_bind (tupleItemsOf_ ht ?_)
  refine wpAny_bind (wpAny_typeOf hTs ?_)
  rw [if_pos (by decide)]
  refine wpAny_bind (sliceApplied_back hs ps ?_)
  have hno : ¬ (((((items.size : Nat) : Int) - 1) == 0 && (-1 : Int) == 1 && items.size == items.size) = true) := by
    intro q
    rw [Bool.and_eq_true, Bool.and_eq_true] at q
    exact absurd (eq_of_beq q.1.2) (by decide)
  show wpAny _ _ (if ((((items.size : Nat) : Int) - 1) == 0 && (-1 : Int) == 1 && items.size == items.size) = true then _ else _) _ _ s
  rw [if_neg hno, pick_back]
  first
    | exact wpAny_bind (m := Builtin.Tuple.tupleExact _) (wpAny_newObj_type (wpAny_pure ⟨_, rfl, wpAny_pure h⟩) htake)
    | exact wpAny_bind (m := Builtin.Tuple.tupleExact _) (wpAny_newObj_type (wpAny_bind (wpAny_pure (wpAny_pure ⟨_, rfl, wpAny_pure h⟩))) htake)
    | exact wpAny_bind (wpAny_bind (m := Builtin.Tuple.tupleExact _) (wpAny_newObj_type (wpAny_pure (wpAny_pure ⟨_, rfl, wpAny_pure h⟩)) htake))
    | exact wpAny_bind (wpAny_bind (m := Builtin.Tuple.tupleExact _) (wpAny_newObj_type (wpAny_pure ⟨_, rfl, wpAny_pure h⟩) htake))
end
end HT
namespace CH
open PySem L2
variable [Wsh]
/-- t[lo:hi], and what it is -/
def rSlP (K : PySem.W.Frag) : V → Option Int → Option Int → Hp → VK → Prop := fun x lo hi H Q => ∃ a xs, x = .ref a ∧ SqT K H a xs ∧
  (HT.sIx xs.length 0 lo = 0 ∧ HT.sIx xs.length xs.length hi = xs.length → Q (.ref a) H) ∧ (¬ (HT.sIx xs.length 0 lo = 0 ∧ HT.sIx xs.length xs.length hi = xs.length) → ∀ p o, o.dict = none → o.cls = .type "tuple" → H p = none → Q (.ref p) (upd H p (.frz o (.tup (cutV xs lo hi)))))
theorem sl_tupP {X : Cx} : SlR X (rSlP X.K) := by
  intro pins s σ H x v vl vu lo hi sl Q I rx hs pl pu h
  obtain ⟨a, xs, rfl, hx, q1, q2⟩ := h
  cases rx
  obtain ⟨its, r, ht, hz⟩ := I.tuple hx
  have hlen : its.toArray.size = xs.length := by rw [List.size_toArray]; exact r.length.symm
  refine ⟨"tuple", _, PyProof.Rows.slot_tuple_getitem.lookup, ht.typeIs, ?_⟩
  by_cases hw : HT.sIx xs.length 0 lo = 0 ∧ HT.sIx xs.length xs.length hi = xs.length
  · exact getItem_tuple_whole ht hs pl pu (by rw [hlen]; exact hw) ⟨.ref a, H, I, rfl, q1 hw⟩
  · refine HT.getItem_tuple_cut ht hs pl pu (by rw [hlen]; exact hw) ?_ (by rw [hlen]; exact hz)
    rw [hlen]
    refine ⟨.ref s.heap.objs.size, _, I.laid (t' := s.toks) (o := .frz _ (.tup (cutV xs lo hi))) (fun b ob q => Heap.get?_push_of_some _ q) (Nat.le_refl _) ⟨Heap.get?_push_size _ rfl, ?_⟩, rfl, q2 hw _ _ rfl rfl (I.hok.fresh (Nat.le_refl _))⟩
    exact ⟨Nat.le_trans (cutV_length xs lo hi) hz, _, (r.drop (HT.sIx xs.length 0 lo)).take (HT.sIx xs.length xs.length hi - HT.sIx xs.length 0 lo), PyProof.Rows.IsTup.new _ _⟩
theorem SlR.or {X : Cx} {r r' : V → Option Int → Option Int → Hp → VK → Prop} (h : SlR X r) (h' : SlR X r') : SlR X (fun x l u H Q => r x l u H Q ∨ r' x l u H Q) := by
  intro pins s σ H x v vl vu lo hi sl Q I rx hs pl pu q
  rcases q with q | q
  · exact h pins s σ H x v vl vu lo hi sl Q I rx hs pl pu q
  · exact h' pins s σ H x v vl vu lo hi sl Q I rx hs pl pu q
theorem cutS_mk (l : List Nat) (lo hi : Option Int) : cutS (mkS l) lo hi = mkS (cut l lo hi) := by
  unfold cutS
  rw [mkS_cps, mkS_len, cutV_eq]
section
variable {X : Cx} {c : Ctx}
theorem slop_ok {T : Addr → Prop} {s : S} {σ : Sg} {H : Hp} {ρ : List Addr} {u : R} {vu : V} {lo hi : Option Int} {Q : VK} (r : Rel X.K T s σ H ρ) (q : RpR X.K H (Uni (Own s σ ρ) T) ρ σ u vu)
    (run : Run kR X.K T s σ H ρ (slop u lo hi s) (fun _ v _ H' _ => Q v H')) : rSlL X.K vu lo hi H Q ∨ rSlP X.K vu lo hi H Q ∨ rSlS vu lo hi H Q := by
  unfold slop at run
  split at run
  · rename_i l
    cases rpStr q
    obtain ⟨cz, run⟩ := Run.req run
    refine .inr (.inr ⟨_, rfl, by rw [mkS_len, sizeLine_eq]; exact of_decide_eq_true cz, ?_⟩)
    rw [cutS_mk]
    exact run.valQ r (.str _)
  · split at run
    · rename_i l h1
      obtain ⟨a, vs, rfl, r1, t1, _, _⟩ := viewQ_ok r q h1
      refine .inr (.inl ⟨a, vs, rfl, (t1 rfl).sqt, fun hw => ?_, fun _ p o hd hc hp => run.newT r hd hc hp (r1.cut lo hi)⟩)
      have e : CH.cut l lo hi = l := by
        unfold CH.cut
        rw [← clip_eq, ← clip_eq, r1.length, hw.1, hw.2, List.drop_zero, Nat.sub_zero, ← r1.length, List.take_length]
      rw [e] at run
      exact run.valQ r (.tup (t1 rfl) r1)
    · rename_i l h1
      obtain ⟨a, vs, rfl, r1, _, t1, _⟩ := viewQ_ok r q h1
      exact .inl ⟨a, vs, rfl, t1 rfl, fun p hp => run.new r hp (.lst (r1.cut lo hi))⟩
    · exact run.elim
theorem ok_slc {a : E} {lo hi : Option E} {o : PySem.Expr} {l h : Option PySem.Expr} {p2 pos : Pos} (ha : PE X o (tE X.K c a)) (hl : PO X l (tO X.K c lo)) (hh : PO X h (tO X.K c hi)) : PE X (.Subscript o (.Slice l h none p2) pos) (tE X.K c (.slc a lo hi)) := by
  refine PEi (pe_slice (SlR.or sl_list (SlR.or sl_tupP sl_str)) ha hl hh) ?_
  intro σ H Q ⟨T, s, ρ, rel, run⟩
  have hx : evE c (.slc a lo hi) s = (evE c a s).bind fun x s1 => (evO c lo s1).bind fun l s2 => (evO c hi s2).bind fun h s3 => slop x l h s3 := rfl
  rw [hx] at run
  refine ⟨T, s, ρ, rel, (Run.bind (k' := kR) kR_anti run).mono fun u vu s1 H1 ρ1 rel1 st1 p1 q1 d1 run1 => ?_⟩
  refine ⟨Uni T (tOf u vu), s1, ρ1, rel1, (Run.bind (k' := kE) kR_anti run1).mono fun l1 l1' s2 H2 ρ2 rel2 st2 p2 q2 d2 run2 => ?_⟩
  have e2 : l1 = l1' := q2
  refine ⟨_, s2, ρ2, rel2, (Run.bind (k' := kE) kR_anti run2).mono fun l2 l2' s3 H3 ρ3 rel3 st3 p3 q3 d3 run3 => ?_⟩
  have e3 : l2 = l2' := q3
  exact slop_ok rel3 ((q1.stay st2 rel1 p2 fun a h => .inr h).stay st3 rel2 p3 fun a h => .inl (.inr h)) run3
end
end CH
namespace CH
open PySem L2
variable [Wsh]
/-! ### sorting -/
theorem natlt_trans {a b c : List Nat} (h : a < b) (g : b < c) : a < c := List.lt_trans h g
theorem natlt_asymm {a b : List Nat} (h : a < b) : ¬ b < a := fun g => List.lt_irrefl a (List.lt_trans h g)
theorem natlt_total {a b : List Nat} (h : ¬ a < b) (g : ¬ b < a) : a = b := by
  have h1 : b ≤ a := h
  have h2 : a ≤ b := g
  exact List.le_antisymm h2 h1
def LeS (a b : List Nat) : Prop := ¬ b < a
theorem LeS.trans {a b c : List Nat} (h : LeS a b) (g : LeS b c) : LeS a c := by
  have h1 : a ≤ b := h
  have h2 : b ≤ c := g
  have h3 : a ≤ c := List.le_trans h1 h2
  exact h3
theorem insS_perm (a : List Nat) : ∀ l, (insS a l).Perm (a :: l)
  | [] => .refl _
  | b :: r => by
    unfold insS
    split
    · exact ((insS_perm a r).cons b).trans (.swap a b r)
    · exact .refl _
theorem sortS_perm : ∀ l, (sortS l).Perm l
  | [] => .refl _
  | a :: r => (insS_perm a (sortS r)).trans ((sortS_perm r).cons a)
theorem insS_mem {a x : List Nat} {l : List (List Nat)} : x ∈ insS a l ↔ x = a ∨ x ∈ l := by
  rw [(insS_perm a l).mem_iff, List.mem_cons]
theorem insS_sorted (a : List Nat) : ∀ l, l.Pairwise LeS → (insS a l).Pairwise LeS
  | [], _ => .cons (fun _ h => nomatch h) .nil
  | b :: r, h => by
    unfold insS
    cases h with
    | cons h1 h2 =>
      split
      · rename_i hb
        refine .cons (fun x hx => ?_) (insS_sorted a r h2)
        rcases insS_mem.mp hx with rfl | hx
        · exact natlt_asymm hb
        · exact h1 x hx
      · rename_i hb
        refine .cons (fun x hx => ?_) (.cons h1 h2)
        rcases List.mem_cons.mp hx with rfl | hx
        · exact hb
        · exact LeS.trans hb (h1 x hx)
theorem sortS_sorted : ∀ l, (sortS l).Pairwise LeS
  | [] => .nil
  | a :: r => insS_sorted a _ (sortS_sorted r)
theorem insZ_perm (a : Int) : ∀ l, (insZ a l).Perm (a :: l)
  | [] => .refl _
  | b :: r => by
    unfold insZ
    split
    · exact ((insZ_perm a r).cons b).trans (.swap a b r)
    · exact .refl _
theorem sortZ_perm : ∀ l, (sortZ l).Perm l
  | [] => .refl _
  | a :: r => (insZ_perm a (sortZ r)).trans ((sortZ_perm r).cons a)
theorem insZ_sorted (a : Int) : ∀ l, l.Pairwise (· ≤ ·) → (insZ a l).Pairwise (· ≤ ·)
  | [], _ => .cons (fun _ h => nomatch h) .nil
  | b :: r, h => by
    unfold insZ
    cases h with
    | cons h1 h2 =>
      split
      · rename_i hb
        refine .cons (fun x hx => ?_) (insZ_sorted a r h2)
        rw [(insZ_perm a r).mem_iff, List.mem_cons] at hx
        rcases hx with rfl | hx
        · omega
        · exact h1 x hx
      · rename_i hb
        refine .cons (fun x hx => ?_) (.cons h1 h2)
        rcases List.mem_cons.mp hx with rfl | hx
        · omega
        · have := h1 x hx; omega
theorem sortZ_sorted : ∀ l, (sortZ l).Pairwise (· ≤ ·)
  | [] => .nil
  | a :: r => insZ_sorted a _ (sortZ_sorted r)
theorem risingS_ok : ∀ (p : Str) (r : List Str), PyProof.Rows.risingS p r = true → (p :: r).Pairwise fun a b => LeS a.cps.toList b.cps.toList
  | p, [], _ => .cons (fun _ h => nomatch h) .nil
  | p, q :: r, h => by
    unfold PyProof.Rows.risingS at h
    rw [Bool.and_eq_true, PyProof.Rows.ltCps_eq] at h
    have h1 : LeS p.cps.toList q.cps.toList := fun z => by
      rw [decide_eq_true z] at h
      exact absurd h.1 (by decide)
    have ih := risingS_ok q r h.2
    refine .cons (fun x hx => ?_) ih
    cases ih with
    | cons a b =>
      rcases List.mem_cons.mp hx with rfl | hx
      · exact h1
      · exact h1.trans (a x hx)
theorem sortedS_ok {l : List Str} (h : PyProof.Rows.sortedS l = true) : l.Pairwise fun a b => LeS a.cps.toList b.cps.toList := by
  cases l with
  | nil => exact .nil
  | cons p r => exact risingS_ok p r h
/-- the one sorted list of texts -/
theorem sortS_eq {ss : List (List Nat)} {ys : List Str} (hp : ys.Perm (ss.map mkS)) (h : PyProof.Rows.sortedS ys = true) : ys = (sortS ss).map mkS := by
  have e : ys.map (fun y => y.cps.toList) = sortS ss := by
    have p1 : (ys.map fun y => y.cps.toList).Perm (sortS ss) := by
      refine ((hp.map _).trans ?_).trans (sortS_perm ss).symm
      rw [List.map_map]
      have : ((fun (y : Str) => y.cps.toList) ∘ mkS) = id := by funext x; simp
      rw [this, List.map_id]
    refine p1.eq_of_pairwise (fun a b _ _ h1 h2 => natlt_total (fun z => h2 z) (fun z => h1 z)) ?_ (sortS_sorted ss)
    rw [List.pairwise_map]
    exact sortedS_ok h
  rw [← e, List.map_map]
  have : (mkS ∘ fun (y : Str) => y.cps.toList) = id := by
    funext x
    show (⟨x.cps.toList.toArray⟩ : Str) = x
    simp
  rw [this, List.map_id]
section
variable {K : PySem.W.Frag} {H : Hp} {W : Addr → Prop} {ρ : List Addr}
theorem strs_ok : ∀ {l : List I} {vs : List V} {ss : List (List Nat)}, Rps K H W ρ l vs → strsOf l = some ss → vs = (ss.map mkS).map V.str
  | [], _, _, .nil, h => by cases h; rfl
  | .str a :: l, _, ss, .cons q r, h => by
    have h' : (strsOf l).map (a :: ·) = some ss := h
    obtain ⟨t, h1, rfl⟩ := Option.map_eq_some_iff.mp h'
    have e := rpStr (σ := []) (W := W) (show RpR K H W ρ [] (.val (.str a)) _ from q)
    rw [e, strs_ok r h1]; rfl
theorem ints_ok : ∀ {l : List I} {vs : List V} {ss : List Int}, Rps K H W ρ l vs → intsOf l = some ss → vs = ss.map V.int
  | [], _, _, .nil, h => by cases h; rfl
  | .int a :: l, _, ss, .cons q r, h => by
    have h' : (intsOf l).map (a :: ·) = some ss := h
    obtain ⟨t, h1, rfl⟩ := Option.map_eq_some_iff.mp h'
    cases q
    rw [ints_ok r h1]; rfl
theorem bools_ok : ∀ {l : List I} {vs : List V} {ss : List Bool}, Rps K H W ρ l vs → boolsOf l = some ss → vs = ss.map V.bl
  | [], _, _, .nil, h => by cases h; rfl
  | .bl a :: l, _, ss, .cons q r, h => by
    have h' : (boolsOf l).map (a :: ·) = some ss := h
    obtain ⟨t, h1, rfl⟩ := Option.map_eq_some_iff.mp h'
    cases q
    rw [bools_ok r h1]; rfl
theorem Rps.ofStrs : ∀ (ss : List (List Nat)), Rps K H W ρ (ss.map .str) ((ss.map mkS).map V.str)
  | [] => .nil
  | a :: r => .cons (.str a) (Rps.ofStrs r)
theorem Rps.ofInts : ∀ (ss : List Int), Rps K H W ρ (ss.map .int) (ss.map V.int)
  | [] => .nil
  | a :: r => .cons (.int a) (Rps.ofInts r)
end
/-! ### built-ins by name -/
theorem bcall_ok {sc : Scope} {n : Str} {p a : PySem.Expr} (h : bcall sc n p = some a) : ∃ p1 p2, p = .Call (.Name n p1) [a] [] p2 ∧ glC sc n = true ∧ notStar a = true := by
  unfold bcall at h
  split at h
  · split at h
    · rename_i g a' p2 hc
      cases h
      rw [Bool.and_eq_true] at hc
      obtain ⟨h1, h2⟩ := hc
      unfold isNm at h1
      split at h1
      · rw [Bool.and_eq_true] at h1
        have e := of_decide_eq_true h1.1
        subst e
        exact ⟨_, _, rfl, h1.2, h2⟩
      · cases h1
    · cases h
  · cases h
theorem bcall2_ok {sc : Scope} {n : Str} {p a b : PySem.Expr} (h : bcall2 sc n p = some (a, b)) : ∃ p1 p2, p = .Call (.Name n p1) [a, b] [] p2 ∧ glC sc n = true ∧ notStar a = true ∧ notStar b = true := by
  unfold bcall2 at h
  split at h
  · split at h
    · rename_i g a' b' p2 hc
      cases h
      rw [Bool.and_eq_true, Bool.and_eq_true] at hc
      obtain ⟨⟨h1, h2⟩, h3⟩ := hc
      unfold isNm at h1
      split at h1
      · rw [Bool.and_eq_true] at h1
        have e := of_decide_eq_true h1.1
        subst e
        exact ⟨_, _, rfl, h1.2, h2, h3⟩
      · cases h1
    · cases h
  · cases h
theorem on1_ok {o : Option PySem.Expr} {f : PySem.Expr → Bool} (h : on1 o f = true) : ∃ p, o = some p ∧ f p = true := by
  cases o with
  | some p => exact ⟨p, rfl, h⟩
  | none => cases h
theorem on2_ok {o : Option (PySem.Expr × PySem.Expr)} {f g : PySem.Expr → Bool} (h : on2 o f g = true) : ∃ p q, o = some (p, q) ∧ f p = true ∧ g q = true := by
  cases o with
  | some p => exact ⟨p.1, p.2, rfl, (Bool.and_eq_true _ _ ▸ h : _ ∧ _)⟩
  | none => cases h
theorem on3_ok {o : Option (PySem.Expr × PySem.Expr × PySem.Expr)} {f g k : PySem.Expr → Bool} (h : on3 o f g k = true) : ∃ p q r, o = some (p, q, r) ∧ f p = true ∧ g q = true ∧ k r = true := by
  cases o with
  | some p =>
    have h' : (f p.1 && g p.2.1 && k p.2.2) = true := h
    rw [Bool.and_eq_true, Bool.and_eq_true] at h'
    exact ⟨p.1, p.2.1, p.2.2, rfl, h'.1.1, h'.1.2, h'.2⟩
  | none => cases h
theorem bnames_ok : ∀ n ∈ bnames, n ≠ ("__name__" : Str) ∧ (n == ("__debug__" : Str)) = false := by decide +kernel
section
variable {X : Cx} {c : Ctx}
theorem plain_back {p : PySem.Expr} {ps : List PySem.Expr} {env : Env} {pos : Pos} (h : notStar p = true) : (backTo pos (starEach [p] env)).any (·.1) = false := by
  rw [star_of h]; rfl
/-- a built-in of one argument -/
theorem b1 {n : Str} {v : Value} (hv : bootBuiltins n = some v) (C : Cok X c) (hn : n ∈ bnames) {a x : E} {p q : PySem.Expr} (hb : bcall X.env.scope n p = some q) (ha : PE X q (tE X.K c a)) {r : List V → Hp → VK → Prop} (hc : CallR X v r) (hk : (∃ id, v = .builtin id) ∨ ∃ T, v = .type T)
    {f : R → S → Res R} (hx : ∀ s, evE c x s = (evE c a s).bind fun u s1 => f u s1)
    (hf : ∀ (T : Addr → Prop) (s : S) (σ : Sg) (H : Hp) (ρ : List Addr) (u : R) (vu : V) (Q : VK), Rel X.K T s σ H ρ → RpR X.K H (Uni (Own s σ ρ) T) ρ σ u vu → (∀ a, tOf u vu a → T a) → Run kR X.K T s σ H ρ (f u s) (fun _ v _ H' _ => Q v H') → r [vu] H Q) : PE X p (tE X.K c x) := by
  obtain ⟨p1, p2, rfl, hg, hs⟩ := bcall_ok hb
  have hn2 := bnames_ok n hn
  have w := one (r1 := fun u H Q => r [u] H Q) hx hf
  rcases hk with ⟨id, rfl⟩ | ⟨T, rfl⟩
  · exact PEi (pe_callB hc (glC_ok rfl hg) (C.bl n hn) hv (pa_cons ha pa_nil (star_of hs)) hn2.1 hn2.2 (star_of hs) rfl) w
  · exact PEi (pe_callTy hc (glC_ok rfl hg) (C.bl n hn) hv (pa_cons ha pa_nil (star_of hs)) hn2.1 hn2.2 (star_of hs) rfl) w
theorem b2 {n : Str} {id : String} (hv : bootBuiltins n = some (.builtin id)) (C : Cok X c) (hn : n ∈ bnames) {a b x : E} {p q q2 : PySem.Expr} (hb : bcall2 X.env.scope n p = some (q, q2)) (ha : PE X q (tE X.K c a)) (ha2 : PE X q2 (tE X.K c b)) {r : List V → Hp → VK → Prop} (hc : CallR X (.builtin id) r)
    {f : R → R → S → Res R} (hx : ∀ s, evE c x s = (evE c a s).bind fun u s1 => (evE c b s1).bind fun w s2 => f u w s2)
    (hf : ∀ (T : Addr → Prop) (s : S) (σ : Sg) (H : Hp) (ρ : List Addr) (u w : R) (vu vw : V) (Q : VK), Rel X.K T s σ H ρ → RpR X.K H (Uni (Own s σ ρ) T) ρ σ u vu → RpR X.K H (Uni (Own s σ ρ) T) ρ σ w vw →
      (∀ a, tOf u vu a → T a) → (∀ a, tOf w vw a → T a ∧ ¬ tOf u vu a) → Run kR X.K T s σ H ρ (f u w s) (fun _ v _ H' _ => Q v H') → r [vu, vw] H Q) : PE X p (tE X.K c x) := by
  obtain ⟨p1, p2, rfl, hg, hs, hs2⟩ := bcall2_ok hb
  have hn2 := bnames_ok n hn
  have w := two (r2 := fun u v H Q => r [u, v] H Q) hx hf
  exact PEi (pe_callB hc (glC_ok rfl hg) (C.bl n hn) hv (pa_cons ha (pa_cons ha2 pa_nil (star_of hs2)) (star_of hs)) hn2.1 hn2.2 (star_of hs) (by rw [star_of hs2]; rfl)) w
end
end CH
namespace CH
open PySem PySem.Spec PyProof.Rows L2
variable [Wsh]
theorem b1k {id : String} : (∃ i, Value.builtin id = .builtin i) ∨ ∃ T, Value.builtin id = .type T := .inl ⟨id, rfl⟩
theorem b1t {T : String} : (∃ i, Value.type T = .builtin i) ∨ ∃ U, Value.type T = .type U := .inr ⟨T, rfl⟩
section
variable {X : Cx} {c : Ctx} {T : Addr → Prop} {s : S} {σ : Sg} {H : Hp} {ρ : List Addr} {u w : R} {vu vw : V} {Q : VK}
/-! ### tuple(x), and what it is -/
theorem call_tupX : CallR X (.type "tuple") (fun xs H Q => ∃ p ys, xs = [.ref p] ∧ ((SqL X.K H p ys ∧ ∀ l o, o.dict = none → o.cls = .type "tuple" → H l = none → Q (.ref l) (upd H l (.frz o (.tup ys)))) ∨ (SqT X.K H p ys ∧ Q (.ref p) H))) := by
  intro pins s σ H xs us Q I r h
  obtain ⟨p, ys, rfl, h⟩ := h
  obtain ⟨u, rfl, rx⟩ := vals1 r
  cases rx
  rcases h with ⟨hq, q⟩ | ⟨hq, q⟩
  · obtain ⟨its, r', pl, hz⟩ := I.list hq
    have hlen := r'.length
    refine call_tuple_list pl.isList (fun h' kp => ?_) (by simp only [List.size_toArray] <;> omega)
    have I1 : Inv X pins σ H { s with heap := h' } := I.kept (t' := s.toks) kp
    have I2 : Inv X pins σ (upd H h'.objs.size (.frz { cls := .type "tuple", data := .seq its.toArray } (.tup ys))) { s with heap := h'.push { cls := .type "tuple", data := .seq its.toArray } } :=
      I1.laid (t' := s.toks) (fun b o e => Heap.get?_push_of_some _ e) (Nat.le_refl _) ⟨Heap.get?_push_size _ rfl, (show ObjOk X.prog X.w _ _ _ (.tup ys) from ⟨hz, its, r', PyProof.Rows.IsTup.new _ _⟩)⟩
    exact ⟨.ref h'.objs.size, _, I2, rfl, q _ _ rfl rfl (I1.hok.fresh (Nat.le_refl _))⟩
  · obtain ⟨its, r', pl, hz⟩ := I.tuple hq
    exact call_tuple_same pl ⟨.ref p, H, I, rfl, q⟩
theorem tupop_ok (r : Rel X.K T s σ H ρ) (q : RpR X.K H (Uni (Own s σ ρ) T) ρ σ u vu) (run : Run kR X.K T s σ H ρ (tupop u s) (fun _ v _ H' _ => Q v H')) :
    ∃ p ys, [vu] = [.ref p] ∧ ((SqL X.K H p ys ∧ ∀ l o, o.dict = none → o.cls = .type "tuple" → H l = none → Q (.ref l) (upd H l (.frz o (.tup ys)))) ∨ (SqT X.K H p ys ∧ Q (.ref p) H)) := by
  unfold tupop at run
  split at run
  · rename_i t l h1
    obtain ⟨a, vs, rfl, r1, t1, t2, _⟩ := viewQ_ok r q h1
    cases t with
    | true => exact ⟨a, vs, rfl, .inr ⟨(t1 rfl).sqt, run.valQ r (.tup (t1 rfl) r1)⟩⟩
    | false => exact ⟨a, vs, rfl, .inl ⟨t2 rfl, fun l o hd hc hp => run.newT r hd hc hp r1⟩⟩
  · exact run.elim
theorem ok_toTup (C : Cok X c) {a : E} {p q : PySem.Expr} (hb : bcall X.env.scope "tuple" p = some q) (ha : PE X q (tE X.K c a)) : PE X p (tE X.K c (.toTup a)) :=
  b1 PyProof.Rows.boot_tuple C (by decide +kernel) hb ha call_tupX b1t (fun s => rfl) fun T s σ H ρ u vu Q r q _ run => tupop_ok r q run
/-! ### len -/
theorem lenop_ok (r : Rel X.K T s σ H ρ) (q : RpR X.K H (Uni (Own s σ ρ) T) ρ σ u vu) (run : Run kR X.K T s σ H ρ (lenop u s) (fun _ v _ H' _ => Q v H')) :
    (∃ x n, [vu] = [x] ∧ LenV X.K x H n ∧ Q (.int n) H) ∨ (∃ a kvs, [vu] = [V.ref a] ∧ H a = some (.dK kvs) ∧ Q (.int kvs.length) H) := by
  unfold lenop at run
  split at run
  · cases rpStr q
    obtain ⟨cz, run⟩ := Run.req run
    refine .inl ⟨_, _, rfl, ⟨by rw [mkS_len, sizeLine_eq]; exact of_decide_eq_true cz, rfl⟩, ?_⟩
    rw [mkS_len]
    exact run.valQ r (.int _)
  · split at run
    · rename_i t l h1
      obtain ⟨a, vs, rfl, r1, t1, t2, _⟩ := viewQ_ok r q h1
      refine .inl ⟨_, l.length, rfl, ?_, run.valQ r (.int _)⟩
      cases t with
      | true => exact .inr ⟨vs, (t1 rfl).sqt, r1.length⟩
      | false => exact .inl ⟨vs, t2 rfl, r1.length⟩
    · split at run
      · rename_i l h1
        obtain ⟨a, rfl, h⟩ := viewD_ok r q h1
        rcases h with ⟨_, ks, hk, hr⟩ | ⟨h, _⟩
        · refine .inr ⟨a, ks, rfl, hk, ?_⟩
          rw [← hr.len]
          exact run.valQ r (.int _)
        · cases h
      · exact run.elim
theorem ok_len (C : Cok X c) {a : E} {p q : PySem.Expr} (hb : bcall X.env.scope "len" p = some q) (ha : PE X q (tE X.K c a)) : PE X p (tE X.K c (.len a)) :=
  b1 boot_len C (by decide +kernel) hb ha (CallR.or call_len call_lenD) b1k (fun s => rfl) fun T s σ H ρ u vu Q r q _ run => lenop_ok r q run
/-! ### int, list, dict -/
theorem intop_ok (r : Rel X.K T s σ H ρ) (q : RpR X.K H (Uni (Own s σ ρ) T) ρ σ u vu) (run : Run kR X.K T s σ H ρ (intop u s) (fun _ v _ H' _ => Q v H')) :
    (∃ i, [vu] = [.int i] ∧ Q (.int i) H) ∨ ∃ k, [vu] = [.bl k] ∧ Q (.int (if k then 1 else 0)) H := by
  unfold intop at run
  split at run
  · cases rpInt q; exact .inl ⟨_, rfl, run.valQ r (.int _)⟩
  · cases rpBl q; exact .inr ⟨_, rfl, run.valQ r (.int _)⟩
  · exact run.elim
theorem ok_toInt (C : Cok X c) {a : E} {p q : PySem.Expr} (hb : bcall X.env.scope "int" p = some q) (ha : PE X q (tE X.K c a)) : PE X p (tE X.K c (.toInt a)) :=
  b1 PyProof.Rows.boot_int C (by decide +kernel) hb ha call_int1 b1t (fun s => rfl) fun T s σ H ρ u vu Q r q _ run => intop_ok r q run
theorem lstop_ok (r : Rel X.K T s σ H ρ) (q : RpR X.K H (Uni (Own s σ ρ) T) ρ σ u vu) (run : Run kR X.K T s σ H ρ (lstop u s) (fun _ v _ H' _ => Q v H')) :
    ∃ p ys, [vu] = [.ref p] ∧ (SqL X.K H p ys ∨ SqT X.K H p ys) ∧ ∀ l, H l = none → Q (.ref l) (upd H l (.lst ys)) := by
  unfold lstop at run
  split at run
  · rename_i t l h1
    obtain ⟨a, vs, rfl, r1, t1, t2, _⟩ := viewQ_ok r q h1
    refine ⟨a, vs, rfl, ?_, fun p hp => run.new r hp (.lst r1)⟩
    cases t with
    | true => exact .inr (t1 rfl).sqt
    | false => exact .inl (t2 rfl)
  · exact run.elim
theorem ok_toLst (C : Cok X c) {a : E} {p q : PySem.Expr} (hb : bcall X.env.scope "list" p = some q) (ha : PE X q (tE X.K c a)) : PE X p (tE X.K c (.toLst a)) :=
  b1 PyProof.Rows.boot_list C (by decide +kernel) hb ha call_list_of b1t (fun s => rfl) fun T s σ H ρ u vu Q r q _ run => lstop_ok r q run
theorem keys_rps {W : Addr → Prop} : ∀ {l : List (I × I)} {vs : List (Key × V)}, RpK X.K H W ρ l vs → Rps X.K H W ρ (l.map (·.1)) (vs.map fun kv => kV kv.1)
  | _, _, .nil => .nil
  | _, _, .cons (k := k) h q r => by
    refine .cons ?_ (keys_rps r)
    cases k <;> first | (cases h; done) | (cases h; exact .int _) | (cases h; exact .str _)
theorem listDop_ok (r : Rel X.K T s σ H ρ) (q : RpR X.K H (Uni (Own s σ ρ) T) ρ σ u vu) (run : Run kR X.K T s σ H ρ (listDop u s) (fun _ v _ H' _ => Q v H')) :
    ∃ (a : Addr) (kvs : List (Key × V)), [vu] = [.ref a] ∧ Rd H a (.dK kvs) ∧ ∀ p, H p = none → Q (.ref p) (upd H p (.lst (kvs.map fun kv => kV kv.1))) := by
  unfold listDop at run
  split at run
  · rename_i l h1
    obtain ⟨a, rfl, h⟩ := viewD_ok r q h1
    rcases h with ⟨_, ks, hk, hr⟩ | ⟨h, _⟩
    · exact ⟨a, ks, rfl, .inl hk, fun p hp => run.new r hp (.lst (keys_rps hr))⟩
    · cases h
  · exact run.elim
theorem ok_listD (C : Cok X c) {a : E} {p q : PySem.Expr} (hb : bcall X.env.scope "list" p = some q) (ha : PE X q (tE X.K c a)) : PE X p (tE X.K c (.listD a)) :=
  b1 PyProof.Rows.boot_list C (by decide +kernel) hb ha (call_listD C.calm) b1t (fun s => rfl) fun T s σ H ρ u vu Q r q _ run => listDop_ok r q run
/-! ### sorted, all, any, sum, abs, min, max -/
theorem allop_ok (r : Rel X.K T s σ H ρ) (q : RpR X.K H (Uni (Own s σ ρ) T) ρ σ u vu) (run : Run kR X.K T s σ H ρ (allop u s) (fun _ v _ H' _ => Q v H')) : rAll X.K [vu] H Q := by
  unfold allop at run
  split at run
  · rename_i l h1
    obtain ⟨a, vs, rfl, r1, _, t1, _⟩ := viewQ_ok r q h1
    obtain ⟨zs, h2, run⟩ := Run.opt run
    have e := bools_ok r1 h2
    subst e
    exact ⟨a, zs, rfl, t1 rfl, run.valQ r (.bl _)⟩
  · exact run.elim
theorem anyop_ok (r : Rel X.K T s σ H ρ) (q : RpR X.K H (Uni (Own s σ ρ) T) ρ σ u vu) (run : Run kR X.K T s σ H ρ (anyop u s) (fun _ v _ H' _ => Q v H')) : rAny X.K [vu] H Q := by
  unfold anyop at run
  split at run
  · rename_i l h1
    obtain ⟨a, vs, rfl, r1, _, t1, _⟩ := viewQ_ok r q h1
    obtain ⟨zs, h2, run⟩ := Run.opt run
    have e := bools_ok r1 h2
    subst e
    exact ⟨a, zs, rfl, t1 rfl, run.valQ r (.bl _)⟩
  · exact run.elim
theorem sumop_ok (r : Rel X.K T s σ H ρ) (q : RpR X.K H (Uni (Own s σ ρ) T) ρ σ u vu) (run : Run kR X.K T s σ H ρ (sumop u s) (fun _ v _ H' _ => Q v H')) : rSum X.K [vu] H Q := by
  unfold sumop at run
  split at run
  · rename_i l h1
    obtain ⟨a, vs, rfl, r1, _, t1, _⟩ := viewQ_ok r q h1
    obtain ⟨zs, h2, run⟩ := Run.opt run
    have e := ints_ok r1 h2
    subst e
    exact ⟨a, zs, rfl, t1 rfl, run.valQ r (.int _)⟩
  · exact run.elim
theorem ok_all (C : Cok X c) {a : E} {p q : PySem.Expr} (hb : bcall X.env.scope "all" p = some q) (ha : PE X q (tE X.K c a)) : PE X p (tE X.K c (.all a)) :=
  b1 PyProof.Rows.boot_all C (by decide +kernel) hb ha (cr_all C.calm) b1k (fun s => rfl) fun T s σ H ρ u vu Q r q _ run => allop_ok r q run
theorem ok_any (C : Cok X c) {a : E} {p q : PySem.Expr} (hb : bcall X.env.scope "any" p = some q) (ha : PE X q (tE X.K c a)) : PE X p (tE X.K c (.any a)) :=
  b1 PyProof.Rows.boot_any C (by decide +kernel) hb ha (cr_any C.calm) b1k (fun s => rfl) fun T s σ H ρ u vu Q r q _ run => anyop_ok r q run
theorem ok_sum (C : Cok X c) {a : E} {p q : PySem.Expr} (hb : bcall X.env.scope "sum" p = some q) (ha : PE X q (tE X.K c a)) : PE X p (tE X.K c (.sum a)) :=
  b1 PyProof.Rows.boot_sum C (by decide +kernel) hb ha (cr_sum C.calm) b1k (fun s => rfl) fun T s σ H ρ u vu Q r q _ run => sumop_ok r q run
theorem absop_ok (r : Rel X.K T s σ H ρ) (q : RpR X.K H (Uni (Own s σ ρ) T) ρ σ u vu) (run : Run kR X.K T s σ H ρ (absop u s) (fun _ v _ H' _ => Q v H')) : ∃ i, [vu] = [.int i] ∧ Q (.int (if i < 0 then -i else i)) H := by
  unfold absop at run
  split at run
  · cases rpInt q; exact ⟨_, rfl, run.valQ r (.int _)⟩
  · exact run.elim
theorem ok_abs (C : Cok X c) {a : E} {p q : PySem.Expr} (hb : bcall X.env.scope "abs" p = some q) (ha : PE X q (tE X.K c a)) : PE X p (tE X.K c (.abs a)) :=
  b1 PyProof.Rows.boot_abs C (by decide +kernel) hb ha call_abs b1k (fun s => rfl) fun T s σ H ρ u vu Q r q _ run => absop_ok r q run
theorem mnop_ok (r : Rel X.K T s σ H ρ) (q : RpR X.K H (Uni (Own s σ ρ) T) ρ σ u vu) (q2 : RpR X.K H (Uni (Own s σ ρ) T) ρ σ w vw) (run : Run kR X.K T s σ H ρ (mnop u w s) (fun _ v _ H' _ => Q v H')) : ∃ i j, [vu, vw] = [.int i, .int j] ∧ Q (.int (if j < i then j else i)) H := by
  unfold mnop at run
  split at run
  · cases rpInt q; cases rpInt q2; exact ⟨_, _, rfl, run.valQ r (.int _)⟩
  · exact run.elim
theorem mxop_ok (r : Rel X.K T s σ H ρ) (q : RpR X.K H (Uni (Own s σ ρ) T) ρ σ u vu) (q2 : RpR X.K H (Uni (Own s σ ρ) T) ρ σ w vw) (run : Run kR X.K T s σ H ρ (mxop u w s) (fun _ v _ H' _ => Q v H')) : ∃ i j, [vu, vw] = [.int i, .int j] ∧ Q (.int (if j > i then j else i)) H := by
  unfold mxop at run
  split at run
  · cases rpInt q; cases rpInt q2; exact ⟨_, _, rfl, run.valQ r (.int _)⟩
  · exact run.elim
theorem ok_mn (C : Cok X c) {a b : E} {p q q2 : PySem.Expr} (hb : bcall2 X.env.scope "min" p = some (q, q2)) (ha : PE X q (tE X.K c a)) (ha2 : PE X q2 (tE X.K c b)) : PE X p (tE X.K c (.mn a b)) :=
  b2 PyProof.Rows.boot_min C (by decide +kernel) hb ha ha2 (call_min2 C.calm) (fun s => rfl) fun T s σ H ρ u w vu vw Q r q q2 _ _ run => mnop_ok r q q2 run
theorem ok_mx (C : Cok X c) {a b : E} {p q q2 : PySem.Expr} (hb : bcall2 X.env.scope "max" p = some (q, q2)) (ha : PE X q (tE X.K c a)) (ha2 : PE X q2 (tE X.K c b)) : PE X p (tE X.K c (.mx a b)) :=
  b2 PyProof.Rows.boot_max C (by decide +kernel) hb ha ha2 (call_max2 C.calm) (fun s => rfl) fun T s σ H ρ u w vu vw Q r q q2 _ _ run => mxop_ok r q q2 run
/-! ### x[::-1] -/
def tRevA (K : PySem.W.Frag) (te : TE) : TE := fun σ H Q => te σ H fun x H1 => ∃ a xs, x = .ref a ∧ ((SqL K H1 a xs ∧ ∀ p, H1 p = none → Q (.ref p) (upd H1 p (.lst xs.reverse))) ∨ (SqT K H1 a xs ∧ ∀ p o, o.dict = none → o.cls = .type "tuple" → H1 p = none → Q (.ref p) (upd H1 p (.frz o (.tup xs.reverse)))))
theorem pe_revA {e : PySem.Expr} {te : TE} {k : Nat} {p1 p2 p3 pos : Pos} (he : PE X e te) : PE X (.Subscript e (.Slice none none (some (.UnaryOp .USub (.Constant (.int 1) k p1) p2)) p3) pos) (tRevA X.K te) := by
  refine ⟨fun pins s σ H Q I h => ?_⟩
  refine PyProof.Rows.Subscript_ (thn (he.run pins s σ H _ I h) fun v s1 ⟨x, H1, I1, r1, q1⟩ => ?_)
  obtain ⟨a, xs, ex, q⟩ := q1
  subst ex
  cases r1
  have hst : PO X (some (.UnaryOp .USub (.Constant (.int 1) k p1) p2)) (tPart (tUn (rU fun i => .int (-i)) (tC (.int 1)))) := po_some (pe_un un_neg pe_int)
  refine wpAny_Slice (thn (po_none.run pins s1 σ H1 (fun o H2 => o = none ∧ H2 = H1) I1 ⟨rfl, rfl⟩) fun vl s2 ⟨l, H2, I2, pl, el, e2⟩ => ?_)
  subst el e2
  refine thn (po_none.run pins s2 σ H2 (fun o H3 => o = none ∧ H3 = H2) I2 ⟨rfl, rfl⟩) fun vu s3 ⟨u, H3, I3, pu, eu, e3⟩ => ?_
  subst eu e3
  refine thn (hst.run pins s3 σ H3 (fun o H4 => o = some (-1) ∧ H4 = H3) I3 ⟨1, rfl, -1, rfl, rfl, rfl⟩) fun vs s4 ⟨o, H4, I4, ps, eo, e4⟩ => ?_
  subst eo e4
  have I5 : Inv X pins σ H4 { s4 with heap := s4.heap.push { cls := .type "slice", data := .fields #[vl, vu, vs] } } := I4.kept (t' := s4.toks) fun b ob q => Heap.get?_push_of_some _ q
  rcases q with ⟨hx, q⟩ | ⟨hx, q⟩
  · obtain ⟨its, r, ht, hz⟩ := I5.list hx
    have hlen := r.length
    show wpAny (model X.prog X.w) X.A (subscriptTail e (.Slice none none (some (.UnaryOp .USub (.Constant (.int 1) k p1) p2)) p3) (.ref a) (.ref s4.heap.objs.size)) (EP X pins σ Q) X.xe { s4 with heap := s4.heap.push { cls := .type "slice", data := .fields #[vl, vu, vs] } }
    refine tail_any (ops := [.ref a, .ref s4.heap.objs.size]) ht.isList.typeIs (PySem.slot_list_getitem.lookup) ?_ (by with_unfolding_all rfl)
    refine wpAny_getItem_list_slice ht.isList (Heap.IsSliceOf.new _ vl vu vs) pl pu ps (by decide) ?_ (by rw [List.size_toArray]; omega)
    rw [PySem.W.krv_pick]
    refine ⟨.ref _, _, I5.laid (t' := s4.toks) (o := .lst xs.reverse) (fun b ob q => Heap.get?_push_of_some _ q) (Nat.le_refl _) ?_, rfl, q _ (I5.hok.fresh (Nat.le_refl _))⟩
    exact ⟨by rw [List.length_reverse]; exact hz, _, 0, r.reverse, Heap.get?_push_size _ rfl⟩
  · obtain ⟨its, r, ht, hz⟩ := I5.tuple hx
    have hlen := r.length
    show wpAny (model X.prog X.w) X.A (subscriptTail e (.Slice none none (some (.UnaryOp .USub (.Constant (.int 1) k p1) p2)) p3) (.ref a) (.ref s4.heap.objs.size)) (EP X pins σ Q) X.xe { s4 with heap := s4.heap.push { cls := .type "slice", data := .fields #[vl, vu, vs] } }
    refine tail_any (ops := [.ref a, .ref s4.heap.objs.size]) ht.typeIs (PyProof.Rows.slot_tuple_getitem.lookup) ?_ (by with_unfolding_all rfl)
    have el : vl = .none := by cases pl; rfl
    have eu : vu = .none := by cases pu; rfl
    subst el eu
    refine HT.getItem_tuple_back ht (Heap.IsSliceOf.new _ .none .none vs) ps ?_ (by rw [List.size_toArray]; omega)
    refine ⟨.ref _, _, I5.laid (t' := s4.toks) (o := .frz _ (.tup xs.reverse)) (fun b ob q => Heap.get?_push_of_some _ q) (Nat.le_refl _) ⟨Heap.get?_push_size _ rfl, ?_⟩, rfl, q _ _ rfl rfl (I5.hok.fresh (Nat.le_refl _))⟩
    exact ⟨by rw [List.length_reverse]; exact hz, _, r.reverse, PyProof.Rows.IsTup.new _ _⟩
theorem rvop_ok (r : Rel X.K T s σ H ρ) (q : RpR X.K H (Uni (Own s σ ρ) T) ρ σ u vu) (run : Run kR X.K T s σ H ρ (rvop u s) (fun _ v _ H' _ => Q v H')) :
    ∃ a xs, vu = .ref a ∧ ((SqL X.K H a xs ∧ ∀ p, H p = none → Q (.ref p) (upd H p (.lst xs.reverse))) ∨ (SqT X.K H a xs ∧ ∀ p o, o.dict = none → o.cls = .type "tuple" → H p = none → Q (.ref p) (upd H p (.frz o (.tup xs.reverse))))) := by
  unfold rvop at run
  split at run
  · rename_i l h1
    obtain ⟨a, vs, rfl, r1, t1, _, _⟩ := viewQ_ok r q h1
    exact ⟨a, vs, rfl, .inr ⟨(t1 rfl).sqt, fun p o hd hc hp => run.newT r hd hc hp r1.reverse⟩⟩
  · rename_i l h1
    obtain ⟨a, vs, rfl, r1, _, t1, _⟩ := viewQ_ok r q h1
    exact ⟨a, vs, rfl, .inl ⟨t1 rfl, fun p hp => run.new r hp (.lst r1.reverse)⟩⟩
  · exact run.elim
theorem ok_rvs {a : E} {e : PySem.Expr} {k : Nat} {p1 p2 p3 pos : Pos} (ha : PE X e (tE X.K c a)) : PE X (.Subscript e (.Slice none none (some (.UnaryOp .USub (.Constant (.int 1) k p1) p2)) p3) pos) (tE X.K c (.rvs a)) := by
  refine PEi (pe_revA ha) ?_
  intro σ H Q ⟨T, s, ρ, rel, run⟩
  have hx : evE c (.rvs a) s = (evE c a s).bind fun x s1 => rvop x s1 := rfl
  rw [hx] at run
  exact ⟨T, s, ρ, rel, (Run.bind (k' := kR) kR_anti run).mono fun u vu s1 H1 ρ1 rel1 st1 p1 q1 d1 run1 => rvop_ok rel1 q1 run1⟩
end
end CH
/-! the first place of a sign -/
namespace PySem.StrLaws
open Builtin Builtin.Str
theorem chx_full (s sub : Str) (hi : Nat) : ∀ (l : List Nat) (st : Array Nat × Nat), st.fst.size = 1 → (forIn l st (occBody s sub hi 1)).run.fst = st.fst
  | [], st, h => by simp
  | a :: l, st, h => by
    rw [List.forIn_cons]
    unfold occBody
    rw [if_neg (by rw [h]; intro z; exact absurd z.1.1.1 (by decide))]
    exact chx_full s sub hi l _ h
theorem chx_first (s sub : Str) (hi : Nat) : ∀ (n lo free j : Nat), free ≤ lo → j < n → (∀ k, k < j → ¬ (lo + k + sub.length ≤ hi ∧ subAt s sub (lo + k) = true)) → (lo + j + sub.length ≤ hi ∧ subAt s sub (lo + j) = true) →
    (forIn (List.range' lo n) ((#[] : Array Nat), free) (occBody s sub hi 1)).run.fst = #[lo + j]
  | 0, _, _, _, _, h, _, _ => absurd h (Nat.not_lt_zero _)
  | n + 1, lo, free, 0, hf, _, _, hy => by
    rw [List.range'_succ, List.forIn_cons]
    unfold occBody
    rw [Nat.add_zero] at hy
    rw [if_pos ⟨⟨⟨by simp, hf⟩, hy.1⟩, hy.2⟩]
    exact chx_full s sub hi _ _ (by simp)
  | n + 1, lo, free, j + 1, hf, hj, hn, hy => by
    rw [List.range'_succ, List.forIn_cons]
    have h0 := hn 0 (by omega)
    rw [Nat.add_zero] at h0
    unfold occBody
    rw [if_neg (fun z => h0 ⟨z.1.2, z.2⟩)]
    have ih := chx_first s sub hi n (lo + 1) free j (by omega) (by omega) (fun k hk => by
      have := hn (k + 1) (by omega)
      rw [show lo + (k + 1) = lo + 1 + k by omega] at this
      exact this) (by rw [show lo + (j + 1) = lo + 1 + j by omega] at hy; exact hy)
    rw [show lo + (j + 1) = lo + 1 + j by omega]
    exact ih
end PySem.StrLaws
namespace CH
open PySem PySem.Spec PyProof.Rows L2
variable [Wsh]
theorem cIdx_ok : ∀ {l : List Nat} {c j : Nat}, cIdx l c = some j → l[j]? = some c ∧ ∀ k, k < j → l[k]? ≠ some c
  | [], _, _, h => by cases h
  | a :: r, c, j, h => by
    unfold cIdx at h
    split at h
    · rename_i e
      cases h
      exact ⟨by rw [e]; rfl, fun k hk => absurd hk (Nat.not_lt_zero _)⟩
    · rename_i e
      obtain ⟨j', h1, rfl⟩ := Option.map_eq_some_iff.mp h
      obtain ⟨h2, h3⟩ := cIdx_ok h1
      refine ⟨by simpa using h2, fun k hk => ?_⟩
      cases k with
      | zero => intro z; exact e (by simpa using z)
      | succ k => intro z; exact h3 k (by omega) (by simpa using z)
theorem occ_sign {l : List Nat} {c j : Nat} (h : cIdx l c = some j) : Builtin.Str.occurrences (mkS l) (mkS [c]) 0 (mkS l).length 1 = [j] := by
  obtain ⟨h1, h2⟩ := cIdx_ok h
  have hl : j < l.length := (List.getElem?_eq_some_iff.mp h1).1
  have key : ∀ i : Nat, (i + (mkS [c]).length ≤ (mkS l).length ∧ Builtin.Str.subAt (mkS l) (mkS [c]) i = true) ↔ l[i]? = some c := fun i => by
    have := StrLaws.subAt_one (mkS l) c i
    rw [mkS_cps] at this
    exact this
  rw [StrLaws.occ_eq]
  have := StrLaws.chx_first (mkS l) (mkS [c]) (mkS l).length ((mkS l).length + 1 - 0) 0 0 j (Nat.le_refl _) (by rw [mkS_len]; omega) (fun k hk => by rw [Nat.zero_add, key]; exact h2 k hk) (by rw [Nat.zero_add, key]; exact h1)
  rw [this, Nat.zero_add]
theorem join_mk (a : List Nat) : ∀ (ss : List (List Nat)), Str.join (mkS a) (ss.map mkS) = mkS (joinS a ss)
  | [] => rfl
  | [x] => rfl
  | x :: y :: r => by
    show mkS x ++ mkS a ++ Str.join (mkS a) ((y :: r).map mkS) = mkS (x ++ a ++ joinS a (y :: r))
    rw [join_mk a (y :: r), mkS_app, mkS_app]
/-! ### methods -/
theorem base_of {o : PySem.Expr} {m : Str} {env : Env} {wh : Sem Value} (h : superC o = true) : attributeBase o m env wh = wh := by
  unfold attributeBase
  split
  · cases h
  · rfl
theorem mcall1_ok {n : Str} {p o a : PySem.Expr} (h : mcall1 n p = some (o, a)) : ∃ q c, p = .Call (.Attribute o n q) [a] [] c ∧ (q.endLine == c.line) = true ∧ superC o = true ∧ notStar a = true := by
  unfold mcall1 at h
  split at h
  · split at h
    · rename_i o' m q a' c hc
      cases h
      rw [Bool.and_eq_true] at hc
      obtain ⟨h1, h2⟩ := hc
      unfold mthC at h1
      rw [Bool.and_eq_true, Bool.and_eq_true] at h1
      have e := of_decide_eq_true h1.1.1
      subst e
      exact ⟨_, _, rfl, h1.1.2, h1.2, h2⟩
    · cases h
  · cases h
theorem mcall2_ok {n : Str} {p o a b : PySem.Expr} (h : mcall2 n p = some (o, a, b)) : ∃ q c, p = .Call (.Attribute o n q) [a, b] [] c ∧ (q.endLine == c.line) = true ∧ superC o = true ∧ notStar a = true ∧ notStar b = true := by
  unfold mcall2 at h
  split at h
  · split at h
    · rename_i o' m q a' b' c hc
      cases h
      rw [Bool.and_eq_true, Bool.and_eq_true] at hc
      obtain ⟨⟨h1, h2⟩, h3⟩ := hc
      unfold mthC at h1
      rw [Bool.and_eq_true, Bool.and_eq_true] at h1
      have e := of_decide_eq_true h1.1.1
      subst e
      exact ⟨_, _, rfl, h1.1.2, h1.2, h2, h3⟩
    · cases h
  · cases h
theorem mcall0_ok {n : Str} {p o : PySem.Expr} (h : mcall0 n p = some o) : ∃ q c, p = .Call (.Attribute o n q) [] [] c ∧ (q.endLine == c.line) = true ∧ superC o = true := by
  unfold mcall0 at h
  split at h
  · split at h
    · rename_i o' m q c hc
      cases h
      unfold mthC at hc
      rw [Bool.and_eq_true, Bool.and_eq_true] at hc
      have e := of_decide_eq_true hc.1.1
      subst e
      exact ⟨_, _, rfl, hc.1.2, hc.2⟩
    · cases h
  · cases h
section
variable {X : Cx} {c : Ctx} {T : Addr → Prop} {s : S} {σ : Sg} {H : Hp} {ρ : List Addr} {u w : R} {vu vw : V} {Q : VK}
theorem few1 {a : PySem.Expr} {pos : Pos} {env : Env} (h : notStar a = true) : ((backTo pos (starEach [a] env)).all (fun x => !x.1) && (backToKw pos (keywordEach [] env)).all (fun x => x.1.isSome)
      && decide (([a] : List PySem.Expr).length + ([] : List Keyword).length + (if ([] : List Keyword).isEmpty then 0 else 1) < 30)) = true := by
  rw [star_of h]; rfl
theorem few2 {a b : PySem.Expr} {pos : Pos} {env : Env} (h : notStar a = true) (g : notStar b = true) : ((backTo pos (starEach [a, b] env)).all (fun x => !x.1) && (backToKw pos (keywordEach [] env)).all (fun x => x.1.isSome)
      && decide (([a, b] : List PySem.Expr).length + ([] : List Keyword).length + (if ([] : List Keyword).isEmpty then 0 else 1) < 30)) = true := by
  rw [star_of h, star_of g]; rfl
/-- a method of one argument -/
theorem m1 {Ty id : String} {n : Str} {r : V → List V → Hp → VK → Prop} (pa : PlainAttrs Ty) (slot : Slot Ty n id) (hty : typeOf (.builtin id) = pure (.type "method_descriptor")) (hm : MtR X id r) {a b x : E} {p o q : PySem.Expr} (hb : mcall1 n p = some (o, q)) (ha : PE X o (tE X.K c a)) (hq : PE X q (tE X.K c b))
    (w : ∀ σ H Q, tE X.K c x σ H Q → tBM X.K Ty r (tE X.K c a) (tCons (tE X.K c b) tNil) σ H Q) : PE X p (tE X.K c x) := by
  obtain ⟨q1, c1, rfl, hl, hs, h1⟩ := mcall1_ok hb
  exact PEi (pe_bm pa slot hty hm ha (pa_cons hq pa_nil (star_of h1)) (base_of hs) (few1 h1) hl (star_of h1) rfl) w
theorem m2 {Ty id : String} {n : Str} {r : V → List V → Hp → VK → Prop} (pa : PlainAttrs Ty) (slot : Slot Ty n id) (hty : typeOf (.builtin id) = pure (.type "method_descriptor")) (hm : MtR X id r) {a b d x : E} {p o q q2 : PySem.Expr} (hb : mcall2 n p = some (o, q, q2)) (ha : PE X o (tE X.K c a)) (hq : PE X q (tE X.K c b)) (hq2 : PE X q2 (tE X.K c d))
    (w : ∀ σ H Q, tE X.K c x σ H Q → tBM X.K Ty r (tE X.K c a) (tCons (tE X.K c b) (tCons (tE X.K c d) tNil)) σ H Q) : PE X p (tE X.K c x) := by
  obtain ⟨q1, c1, rfl, hl, hs, h1, h2⟩ := mcall2_ok hb
  exact PEi (pe_bm pa slot hty hm ha (pa_cons hq (pa_cons hq2 pa_nil (star_of h2)) (star_of h1)) (base_of hs) (few2 h1 h2) hl (star_of h1) (by rw [star_of h2]; rfl)) w
theorem m0 {Ty id : String} {n : Str} {r : V → List V → Hp → VK → Prop} (pa : PlainAttrs Ty) (slot : Slot Ty n id) (hty : typeOf (.builtin id) = pure (.type "method_descriptor")) (hm : MtR X id r) {a x : E} {p o : PySem.Expr} (hb : mcall0 n p = some o) (ha : PE X o (tE X.K c a))
    (w : ∀ σ H Q, tE X.K c x σ H Q → tBM0 X.K Ty r (tE X.K c a) σ H Q) : PE X p (tE X.K c x) := by
  obtain ⟨q1, c1, rfl, hl, hs⟩ := mcall0_ok hb
  exact PEi (pe_bm0 pa slot hty hm ha (base_of hs) hl) w
/-- the object, then one more, whatever is done then -/
theorem bm1 {Ty : String} {r : V → List V → Hp → VK → Prop} {a b x : E} {g : R → S → Bool} {f : R → R → S → Res R} (hx : ∀ s, evE c x s = (evE c a s).bind fun u s1 => Res.req (g u s1) ((evE c b s1).bind fun w s2 => f u w s2))
    (hg : ∀ (T : Addr → Prop) (s : S) (σ : Sg) (H : Hp) (ρ : List Addr) (u : R) (vu : V), Rel X.K T s σ H ρ → RpR X.K H (Uni (Own s σ ρ) T) ρ σ u vu → g u s = true → tyV X.K Ty vu H)
    (hf : ∀ (T : Addr → Prop) (s : S) (σ : Sg) (H : Hp) (ρ : List Addr) (u w : R) (vu vw : V) (Q : VK), Rel X.K T s σ H ρ → RpR X.K H (Uni (Own s σ ρ) T) ρ σ u vu → RpR X.K H (Uni (Own s σ ρ) T) ρ σ w vw →
      (∀ a, tOf u vu a → T a) → (∀ a, tOf w vw a → T a ∧ ¬ tOf u vu a) → Run kR X.K T s σ H ρ (f u w s) (fun _ v _ H' _ => Q v H') → r vu [vw] H Q) :
    ∀ σ H Q, tE X.K c x σ H Q → tBM X.K Ty r (tE X.K c a) (tCons (tE X.K c b) tNil) σ H Q := by
  intro σ H Q ⟨T, s, ρ, rel, run⟩
  rw [hx] at run
  refine ⟨T, s, ρ, rel, (Run.bind (k' := kR) kR_anti run).mono fun u vu s1 H1 ρ1 rel1 st1 p1 q1 d1 run1 => ?_⟩
  obtain ⟨cg, run1⟩ := Run.req run1
  refine ⟨hg _ s1 σ H1 ρ1 u vu rel1 q1 cg, Uni T (tOf u vu), s1, ρ1, rel1, (Run.bind (k' := kR) kR_anti run1).mono fun w vw s2 H2 ρ2 rel2 st2 p2 q2 d2 run2 => ?_⟩
  exact hf _ s2 σ H2 ρ2 u w vu vw Q rel2 (q1.stay st2 rel1 p2 fun a h => .inr h) q2 (fun a h => .inl (.inr h)) (fun a h => ⟨.inr h, fun z => d2 a h (.inr z)⟩) run2
/-- .. what is stored -/
theorem bm1s {Ty : String} {r : V → List V → Hp → VK → Prop} {a b x : E} {g : R → S → Bool} {f : R → I → S → Res R} (hx : ∀ s, evE c x s = (evE c a s).bind fun u s1 => Res.req (g u s1) ((evE c b s1).bind fun w s2 => (asI w s2).bind fun i s3 => f u i s3))
    (hg : ∀ (T : Addr → Prop) (s : S) (σ : Sg) (H : Hp) (ρ : List Addr) (u : R) (vu : V), Rel X.K T s σ H ρ → RpR X.K H (Uni (Own s σ ρ) T) ρ σ u vu → g u s = true → tyV X.K Ty vu H)
    (hf : ∀ (T : Addr → Prop) (s : S) (σ : Sg) (H : Hp) (ρ : List Addr) (u : R) (i : I) (vu vi : V) (Q : VK), Rel X.K T s σ H ρ → RpR X.K H (Uni (Own s σ ρ) T) ρ σ u vu → Rp X.K H (Uni (Own s σ ρ) T) ρ i vi →
      (∀ a, tOf u vu a → T a) → Run kR X.K T s σ H ρ (f u i s) (fun _ v _ H' _ => Q v H') → r vu [vi] H Q) :
    ∀ σ H Q, tE X.K c x σ H Q → tBM X.K Ty r (tE X.K c a) (tCons (tE X.K c b) tNil) σ H Q := by
  intro σ H Q ⟨T, s, ρ, rel, run⟩
  rw [hx] at run
  refine ⟨T, s, ρ, rel, (Run.bind (k' := kR) kR_anti run).mono fun u vu s1 H1 ρ1 rel1 st1 p1 q1 d1 run1 => ?_⟩
  obtain ⟨cg, run1⟩ := Run.req run1
  refine ⟨hg _ s1 σ H1 ρ1 u vu rel1 q1 cg, Uni T (tOf u vu), s1, ρ1, rel1, (Run.bind0 (k' := kR) run1).mono fun w vw s2 H2 ρ2 rel2 st2 p2 q2 d2 run2 => ?_⟩
  obtain ⟨i, s3, rel3, rp3, st3, run3⟩ := asI_run run2 rel2 st2 q2 d2
  exact hf _ s3 σ H2 ρ2 u i vu vw Q rel3 (q1.stay st3 rel1 p2 fun a h => .inr h) rp3 (fun a h => .inr h) (run3.from st3 p2)
theorem Run.put {F : R → V → S → Hp → List Addr → Prop} {s' : S} {H' : Hp} (h : Run kR X.K T s σ H ρ (.ok (.val .non) s') F) (r : Rel X.K T s' σ H' ρ) (st : Stp H (Own s σ ρ) T H' (Own s' σ ρ) T) : F (.val .non) .non s' H' ρ := by
  have sub : ∀ z, Uni T (tOf (.val .non) .non) z → T z := fun z x => x.elim id fun y => False.elim y
  exact h .non H' ρ (r.drop sub) (st.drop sub fun z x => .inl x) (Pre.refl ρ) .non fun c e => False.elim e
theorem appop_ok {i : I} {vi : V} (r : Rel X.K T s σ H ρ) (q : RpR X.K H (Uni (Own s σ ρ) T) ρ σ u vu) (qi : Rp X.K H (Uni (Own s σ ρ) T) ρ i vi) (run : Run kR X.K T s σ H ρ (appop u i s) (fun _ v _ H' _ => Q v H')) : rAppend vu [vi] H Q := by
  unfold appop at run
  split at run
  · rename_i l h1
    obtain ⟨cz, run⟩ := Run.req run
    obtain ⟨a, vs, rfl, ha, r1, put⟩ := ownL_ok r q h1
    obtain ⟨rel2, st2⟩ := put (l ++ [i]) (vs ++ [vi]) (r1.append (.cons qi .nil))
    exact ⟨a, vs, vi, rfl, rfl, ha, by rw [← r1.length, sizeLine_eq]; exact of_decide_eq_true cz, run.put rel2 st2⟩
  · exact run.elim
theorem ok_app {a b : E} {p o q : PySem.Expr} (hb : mcall1 "append" p = some (o, q)) (ha : PE X o (tE X.K c a)) (hq : PE X q (tE X.K c b)) : PE X p (tE X.K c (.app a b)) :=
  m1 PySem.F.plainAttrs_list PySem.F.slot_list_append PySem.F.type_list_append mt_append hb ha hq
    (bm1s (g := isLs) (f := appop) (fun s => rfl) (fun T s σ H ρ u vu r q g => isLs_ok r q g) fun T s σ H ρ u i vu vi Q r q qi _ run => appop_ok r q qi run)
theorem popop_ok (r : Rel X.K T s σ H ρ) (q : RpR X.K H (Uni (Own s σ ρ) T) ρ σ u vu) (run : Run kR X.K T s σ H ρ (popop u s) (fun _ v _ H' _ => Q v H')) : tyV X.K "list" vu H ∧ rPop vu [] H Q := by
  unfold popop at run
  split at run
  · rename_i l h1
    obtain ⟨a, vs, rfl, ha, r1, put⟩ := ownL_ok r q h1
    split at run
    · rename_i i hi
      refine ⟨.inl ⟨rfl, vs, SqL.of ha⟩, ?_⟩
      rw [List.getLast?_eq_getElem?] at hi
      obtain ⟨v, g, pv⟩ := r1.get hi
      obtain ⟨rel2, st2⟩ := put l.dropLast vs.dropLast r1.dropLast
      refine ⟨a, vs, v, rfl, rfl, ha, by rw [← r1.length]; exact g, ?_⟩
      have sub : ∀ z, Uni T (tOf (.val i) v) z → T z := fun z x => x.elim id fun y => False.elim y
      have sy := st2.stay r (Pre.refl ρ)
      exact run v _ ρ (rel2.drop sub) (st2.drop sub fun z x => .inl x) (Pre.refl ρ) (Rp.less (W := Uni (Own (putO u (.lst l.dropLast) s) σ ρ) T) (pv.stay sy) rel2.mt fun z x => x.imp id (sub z)) fun c e => False.elim e
    · exact run.elim
  · exact run.elim
theorem ok_pop {a : E} {p o : PySem.Expr} (hb : mcall0 "pop" p = some o) (ha : PE X o (tE X.K c a)) : PE X p (tE X.K c (.pop a)) :=
  m0 PySem.F.plainAttrs_list PySem.F.slot_list_pop PySem.F.type_list_pop mt_pop hb ha (by
    intro σ H Q ⟨T, s, ρ, rel, run⟩
    have hx : evE c (.pop a) s = (evE c a s).bind fun u s1 => popop u s1 := rfl
    rw [hx] at run
    exact ⟨T, s, ρ, rel, (Run.bind (k' := kR) kR_anti run).mono fun u vu s1 H1 ρ1 rel1 st1 p1 q1 d1 run1 => popop_ok rel1 q1 run1⟩)
theorem ixn_seq {n k : Nat} {i : Int} (h : ixn n i = some k) : seqIndex? i n = some k := by
  unfold ixn at h
  unfold seqIndex?
  split at h
  · split at h
    · cases h
      rename_i h1 h2
      simp [h1, h2]
      try omega
    · cases h
  · split at h
    · cases h
      rename_i h1 h2
      simp
      omega
    · cases h
theorem popAtop_ok (r : Rel X.K T s σ H ρ) (q : RpR X.K H (Uni (Own s σ ρ) T) ρ σ u vu) (q2 : RpR X.K H (Uni (Own s σ ρ) T) ρ σ w vw) (run : Run kR X.K T s σ H ρ (popAtop u w s) (fun _ v _ H' _ => Q v H')) : rPopAt vu [vw] H Q := by
  unfold popAtop at run
  split at run
  · rename_i l i h1
    cases rpInt q2
    obtain ⟨a, vs, rfl, ha, r1, put⟩ := ownL_ok r q h1
    split at run
    · rename_i k hk
      split at run
      · rename_i v hv
        obtain ⟨cz, run⟩ := Run.req run
        have cz := of_decide_eq_true cz
        obtain ⟨y, g, pv⟩ := r1.get hv
        obtain ⟨rel2, st2⟩ := put (l.eraseIdx k) (vs.eraseIdx k) (r1.eraseIdx k)
        refine ⟨a, vs, i, k, y, rfl, rfl, ha, by omega, by omega, by rw [← r1.length]; exact ixn_seq hk, g, ?_⟩
        have sub : ∀ z, Uni T (tOf (.val v) y) z → T z := fun z x => x.elim id fun y => False.elim y
        have sy := st2.stay r (Pre.refl ρ)
        exact run y _ ρ (rel2.drop sub) (st2.drop sub fun z x => .inl x) (Pre.refl ρ) (Rp.less (W := Uni (Own (putO u (.lst (l.eraseIdx k)) s) σ ρ) T) (pv.stay sy) rel2.mt fun z x => x.imp id (sub z)) fun c e => False.elim e
      · exact run.elim
    · exact run.elim
  · exact run.elim
theorem ok_popAt {a b : E} {p o q : PySem.Expr} (hb : mcall1 "pop" p = some (o, q)) (ha : PE X o (tE X.K c a)) (hq : PE X q (tE X.K c b)) : PE X p (tE X.K c (.popAt a b)) :=
  m1 PySem.F.plainAttrs_list PySem.F.slot_list_pop PySem.F.type_list_pop mt_popAt hb ha hq
    (bm1 (g := isLs) (f := popAtop) (fun s => rfl) (fun T s σ H ρ u vu r q g => isLs_ok r q g) fun T s σ H ρ u w vu vw Q r q q2 _ _ run => popAtop_ok r q q2 run)
/-! list.index -/
def rIndexI (K : PySem.W.Frag) : V → List V → Hp → VK → Prop := fun x xs H Q => ∃ (W : Addr → Prop) (ρ : List Addr) (i : I) (l : List I) (a : Addr) (vs : List V) (y : V) (j : Nat), x = .ref a ∧ xs = [y] ∧ SqL K H a vs ∧ Vw K H W ρ i y ∧ Rps K H W ρ l vs ∧ dep 60 i = true ∧ depL 60 l = true ∧ idxOf l i = some j ∧ Q (.int (j : Nat)) H
theorem idxOf_ok : ∀ {l : List I} {v : I} {j : Nat}, idxOf l v = some j → ∃ i, l[j]? = some i ∧ eqI i v = true ∧ ∀ k i', k < j → l[k]? = some i' → eqI i' v = false
  | [], _, _, h => by cases h
  | a :: r, v, j, h => by
    unfold idxOf at h
    split at h
    · rename_i e
      cases h
      exact ⟨a, rfl, e, fun k i' hk => absurd hk (Nat.not_lt_zero _)⟩
    · rename_i e
      obtain ⟨j', h1, rfl⟩ := Option.map_eq_some_iff.mp h
      obtain ⟨i, h2, h3, h4⟩ := idxOf_ok h1
      refine ⟨i, by simpa using h2, h3, fun k i' hk hi => ?_⟩
      cases k with
      | zero =>
        have : a = i' := by simpa using hi
        subst this
        exact Bool.eq_false_iff.mpr e
      | succ k => exact h4 k i' (by omega) (by simpa using hi)
theorem mt_indexI (hu : X.A.units + 62 < cLine) : MtR X "list.index" (rIndexI X.K) := by
  intro pins s σ H x xs v us Q I rx rxs h
  obtain ⟨W, ρ, i, l, a, vs, y, j, rfl, rfl, hs, hy, rl, d1, d2, hj, q⟩ := h
  cases rx
  cases rxs with
  | cons ry rt =>
    rename_i uy ut
    cases rt
    obtain ⟨its, rv, ⟨⟨cls, dd, data, sls⟩, n, ho, hc, hdn, hdt⟩, hlen⟩ := I.list hs
    simp only at hc hdt
    subst hc hdt
    obtain ⟨i0, h1, h2, h3⟩ := idxOf_ok hj
    have hjl : j < l.length := (List.getElem?_eq_some_iff.mp h1).1
    have hvl := rv.length
    have hrl := rl.length
    have hsl := sizeLine_eq
    have hj' : j < its.toArray.size := by rw [List.size_toArray]; omega
    have at_ : ∀ (m : Nat) (hm : m < its.toArray.size) (i' : CH.I), l[m]? = some i' → itm its l i its.toArray[m] = eqI i' i := by
      intro m hm i' hi'
      have hml : m < its.length := by simpa using hm
      exact itm_ok I rv rl d2 d1 (by simp [List.getElem?_eq_getElem hml]) hi'
    refine call_meets PySem.F.slot_list_index ⟨_, ho, rfl⟩ PySem.F.entry_list_index (PySem.F.args_list_index_2 _ _)
      (SeqAt.list_indexAt a its.toArray n dd sls uy (itm its l i) j hj' (by omega) ?_ ?_) ⟨ho, ?_, ?_⟩
    · rw [at_ j hj' i0 h1]; exact h2
    · intro m hm hmj
      have hml : m < l.length := by omega
      have hz : l[m]? = some l[m] := List.getElem?_eq_getElem hml
      rw [at_ m hm _ hz]
      exact h3 m _ hmj hz
    · exact fun w hw => itm_eqAt I rv rl d2 d1 hy ry (by show X.A.units + 1 + 60 < cLine; omega) w (by simpa using hw)
    · exact ⟨.int (j : Nat), H, I.tok _, ⟨_, rfl⟩, q⟩
theorem indexop_ok (r : Rel X.K T s σ H ρ) (q : RpR X.K H (Uni (Own s σ ρ) T) ρ σ u vu) (q2 : RpR X.K H (Uni (Own s σ ρ) T) ρ σ w vw) (run : Run kR X.K T s σ H ρ (indexop u w s) (fun _ v _ H' _ => Q v H')) : rIndexI X.K vu [vw] H Q := by
  unfold indexop at run
  split at run
  · rename_i i l h1 h2
    obtain ⟨cz, run⟩ := Run.req run
    rw [Bool.and_eq_true] at cz
    obtain ⟨z, hz, run⟩ := Run.opt run
    obtain ⟨b, ws, rfl, r2, _, t3, _⟩ := viewQ_ok r q h2
    exact ⟨_, _, i, l, b, ws, vw, z, rfl, rfl, t3 rfl, viewI_vw r q2 h1, r2, cz.1, cz.2, hz, run.valQ r (.int _)⟩
  · exact run.elim
theorem ok_index (C : Cok X c) {a b : E} {p o q : PySem.Expr} (hb : mcall1 "index" p = some (o, q)) (ha : PE X o (tE X.K c a)) (hq : PE X q (tE X.K c b)) : PE X p (tE X.K c (.index a b)) :=
  m1 PySem.F.plainAttrs_list PySem.F.slot_list_index PySem.F.type_list_index (mt_indexI C.u62) hb ha hq
    (bm1 (g := isLs) (f := indexop) (fun s => rfl) (fun T s σ H ρ u vu r q g => isLs_ok r q g) fun T s σ H ρ u w vu vw Q r q q2 _ _ run => indexop_ok r q q2 run)
/-! texts -/
theorem sindexop_ok (r : Rel X.K T s σ H ρ) (q : RpR X.K H (Uni (Own s σ ρ) T) ρ σ u vu) (q2 : RpR X.K H (Uni (Own s σ ρ) T) ρ σ w vw) (run : Run kR X.K T s σ H ρ (sindexop u w s) (fun _ v _ H' _ => Q v H')) :
    ∃ a b i rest, vu = .str a ∧ [vw] = [.str b] ∧ Builtin.Str.occurrences a b 0 a.length 1 = i :: rest ∧ Q (.int (i : Nat)) H := by
  unfold sindexop at run
  split at run
  · cases rpStr q; cases rpStr q2
    obtain ⟨z, hz, run⟩ := Run.opt run
    exact ⟨_, _, z, [], rfl, rfl, occ_sign hz, run.valQ r (.int _)⟩
  · exact run.elim
theorem isSt_g {T : Addr → Prop} {s : S} {σ : Sg} {H : Hp} {ρ : List Addr} {u : R} {vu : V} (_ : Rel X.K T s σ H ρ) (q : RpR X.K H (Uni (Own s σ ρ) T) ρ σ u vu) (g : isSt u = true) : tyV X.K "str" vu H := (isSt_ok q g).1
theorem ok_sindex {a b : E} {p o q : PySem.Expr} (hb : mcall1 "index" p = some (o, q)) (ha : PE X o (tE X.K c a)) (hq : PE X q (tE X.K c b)) : PE X p (tE X.K c (.sindex a b)) :=
  m1 PySem.F.plainAttrs_str PySem.F.slot_str_index PySem.F.type_str_index mt_sindex hb ha hq
    (bm1 (g := fun u _ => isSt u) (f := sindexop) (fun s => rfl) (fun T s σ H ρ u vu r q g => isSt_g r q g) fun T s σ H ρ u w vu vw Q r q q2 _ _ run => sindexop_ok r q q2 run)
theorem joinop_ok (r : Rel X.K T s σ H ρ) (q : RpR X.K H (Uni (Own s σ ρ) T) ρ σ u vu) (q2 : RpR X.K H (Uni (Own s σ ρ) T) ρ σ w vw) (run : Run kR X.K T s σ H ρ (joinop u w s) (fun _ v _ H' _ => Q v H')) :
    ∃ a p, ∃ ys : List Str, vu = .str a ∧ [vw] = [.ref p] ∧ (SqL X.K H p (ys.map V.str) ∨ SqT X.K H p (ys.map V.str)) ∧ (ys.map (·.length)).sum + ys.length * a.length ≤ 16777216 ∧ Q (.str (Txt.join a ys)) H := by
  unfold joinop at run
  split at run
  · rename_i a0 t l h1
    cases rpStr q
    obtain ⟨b, ws, rfl, r2, t2, t3, _⟩ := viewQ_ok r q2 h1
    split at run
    · rename_i ss hs
      obtain ⟨cz, run⟩ := Run.req run
      have cz := of_decide_eq_true cz
      have e := strs_ok r2 hs
      subst e
      refine ⟨_, b, ss.map mkS, rfl, rfl, ?_, ?_, ?_⟩
      · cases t with
        | true => exact .inr (t2 rfl).sqt
        | false => exact .inl (t3 rfl)
      · rw [List.map_map, List.length_map, mkS_len]
        have e2 : ((fun (x : Str) => x.length) ∘ mkS) = List.length := by funext x; exact mkS_len x
        rw [e2]
        exact cz
      · rw [TL.join_eq, join_mk]
        exact run.valQ r (.str _)
    · exact run.elim
  · exact run.elim
theorem ok_join {a b : E} {p o q : PySem.Expr} (hb : mcall1 "join" p = some (o, q)) (ha : PE X o (tE X.K c a)) (hq : PE X q (tE X.K c b)) : PE X p (tE X.K c (.join a b)) :=
  m1 PySem.F.plainAttrs_str PySem.F.slot_str_join PySem.F.type_str_join mt_join hb ha hq
    (bm1 (g := fun u _ => isSt u) (f := joinop) (fun s => rfl) (fun T s σ H ρ u vu r q g => isSt_g r q g) fun T s σ H ρ u w vu vw Q r q q2 _ _ run => joinop_ok r q q2 run)
theorem up_mk {l : List Nat} (h : l.all (fun c => decide (c < 128)) = true) : Txt.upper (mkS l) = mkS (l.map upC) := by
  rw [upper_ascii (x := mkS l) (fun c hc => by rw [mkS_cps] at hc; exact of_decide_eq_true (List.all_eq_true.mp h c hc))]
  show (⟨l.toArray.map up1⟩ : Str) = ⟨(l.map upC).toArray⟩
  rw [List.map_toArray]
  rfl
theorem upop_ok (r : Rel X.K T s σ H ρ) (q : RpR X.K H (Uni (Own s σ ρ) T) ρ σ u vu) (run : Run kR X.K T s σ H ρ (upop u s) (fun _ v _ H' _ => Q v H')) :
    tyV X.K "str" vu H ∧ ∃ a, vu = .str a ∧ ([] : List V) = [] ∧ a.length ≤ 5592405 ∧ Q (.str (Txt.upper a)) H := by
  unfold upop at run
  split at run
  · cases rpStr q
    obtain ⟨cz, run⟩ := Run.req run
    rw [Bool.and_eq_true] at cz
    refine ⟨rfl, _, rfl, rfl, by rw [mkS_len]; have := of_decide_eq_true cz.1; omega, ?_⟩
    rw [up_mk cz.2]
    exact run.valQ r (.str _)
  · exact run.elim
theorem ok_upper {a : E} {p o : PySem.Expr} (hb : mcall0 "upper" p = some o) (ha : PE X o (tE X.K c a)) : PE X p (tE X.K c (.upper a)) :=
  m0 PySem.F.plainAttrs_str PySem.F.slot_str_upper PySem.F.type_str_upper mt_upper hb ha (by
    intro σ H Q ⟨T, s, ρ, rel, run⟩
    have hx : evE c (.upper a) s = (evE c a s).bind fun u s1 => upop u s1 := rfl
    rw [hx] at run
    exact ⟨T, s, ρ, rel, (Run.bind (k' := kR) kR_anti run).mono fun u vu s1 H1 ρ1 rel1 st1 p1 q1 d1 run1 => upop_ok rel1 q1 run1⟩)
/-! ### dicts -/
theorem Cok.u1 (C : Cok X c) : X.A.units + 1 < cLine := by have := C.un; omega
theorem rpVal {W : Addr → Prop} {i : I} {v : V} (q : RpR X.K H W ρ σ (.val i) v) : Rp X.K H W ρ i v := q
theorem ok_ixd (C : Cok X c) {a i : E} {l r : PySem.Expr} {pos : Pos} (hr : notSlice r = true) (ha : PE X l (tE X.K c a)) (hb : PE X r (tE X.K c i)) : PE X (.Subscript l r pos) (tE X.K c (.ixd a i)) := by
  have hx : ∀ s, evE c (.ixd a i) s = (evE c a s).bind fun u s1 => (evE c i s1).bind fun w s2 => ixdop u w s2 := fun s => rfl
  have hp : NoSl r := by cases r <;> first | (exact fun _ _ => rfl) | cases hr
  refine PEi (pe_dget C.u1 ha hb hp) (two (r2 := fun x y H Q => ∃ a v, x = .ref a ∧ DGet H a y (some v) ∧ Q v H) hx fun T s σ H ρ u w vu vw Q r q1 q2 z1 z2 run => ?_)
  unfold ixdop at run
  split at run
  · rename_i k t kvs h1
    obtain ⟨ck, run⟩ := Run.req run
    obtain ⟨z, hz, run⟩ := Run.opt run
    obtain ⟨a, rfl, h⟩ := dgetR_ok r q1 h1 (rpVal q2) ck
    rcases h with ⟨h, _⟩ | ⟨i, vi, h, g, p⟩
    · rw [h] at hz; cases hz
    · rw [h] at hz; cases hz
      exact ⟨a, vi, rfl, g, run.valQ r p⟩
  · exact run.elim
theorem ok_ind (C : Cok X c) {n : Bool} {a b : E} {l r : PySem.Expr} {q : CmpOp} {pos : Pos} (ho : inC n q = true) (hr : notSet r = true) (ha : PE X l (tE X.K c a)) (hb : PE X r (tE X.K c b)) : PE X (.Compare l [q] [r] pos) (tE X.K c (.ind n a b)) := by
  have hx : ∀ s, evE c (.ind n a b) s = (evE c a s).bind fun u s1 => (evE c b s1).bind fun w s2 => indop n u w s2 := fun s => rfl
  have key : ∀ (T : Addr → Prop) (s : S) (σ : Sg) (H : Hp) (ρ : List Addr) (u w : R) (vu vw : V) (Q : VK), Rel X.K T s σ H ρ → RpR X.K H (Uni (Own s σ ρ) T) ρ σ u vu → RpR X.K H (Uni (Own s σ ρ) T) ρ σ w vw → Run kR X.K T s σ H ρ (indop n u w s) (fun _ v _ H' _ => Q v H') →
      ∃ a o, vw = .ref a ∧ DGet H a vu o ∧ Q (.bl (o.isSome != n)) H := by
    intro T s σ H ρ u w vu vw Q r q1 q2 run
    unfold indop at run
    split at run
    · rename_i k t kvs h1
      obtain ⟨ck, run⟩ := Run.req run
      obtain ⟨a, rfl, h⟩ := dgetR_ok r q2 h1 (rpVal q1) ck
      rcases h with ⟨h, g⟩ | ⟨i, vi, h, g, p⟩
      · rw [h] at run
        exact ⟨a, none, rfl, g, run.valQ r (.bl _)⟩
      · rw [h] at run
        exact ⟨a, some vi, rfl, g, run.valQ r (.bl _)⟩
    · exact run.elim
  cases n <;> cases q <;> first
    | (cases ho; done)
    | exact PEi (pe_cmp (pc_din C.u1 ha hb) (notSet_mark hr)) (two (r2 := fun y x H Q => ∃ a o, x = .ref a ∧ DGet H a y o ∧ Q (.bl o.isSome) H) hx fun T s σ H ρ u w vu vw Q r q1 q2 _ _ run => by
        obtain ⟨a, o, h1, h2, h3⟩ := key T s σ H ρ u w vu vw Q r q1 q2 run
        rw [Bool.bne_false] at h3
        exact ⟨a, o, h1, h2, h3⟩)
    | exact PEi (pe_cmp (pc_dnotin C.u1 ha hb) (notSet_mark hr)) (two (r2 := fun y x H Q => ∃ a o, x = .ref a ∧ DGet H a y o ∧ Q (.bl (!o.isSome)) H) hx fun T s σ H ρ u w vu vw Q r q1 q2 _ _ run => by
        obtain ⟨a, o, h1, h2, h3⟩ := key T s σ H ρ u w vu vw Q r q1 q2 run
        rw [Bool.bne_true] at h3
        exact ⟨a, o, h1, h2, h3⟩)
theorem m1of {o a : PySem.Expr} {m : Str} {q p : Pos} (h1 : (q.endLine == p.line) = true) (h2 : superC o = true) (h3 : notStar a = true) : M1 X o m q a p :=
  ⟨base_of h2, few1 h3, h1, by rw [star_of h3]; rfl⟩
theorem m2of {o a b : PySem.Expr} {m : Str} {q p : Pos} (h1 : (q.endLine == p.line) = true) (h2 : superC o = true) (h3 : notStar a = true) (h4 : notStar b = true) : M2 X o m q a b p :=
  ⟨base_of h2, few2 h3 h4, h1, by rw [star_of h3, star_of h4]; rfl⟩
theorem ok_get1 (C : Cok X c) {a b : E} {p o q : PySem.Expr} (hb : mcall1 "get" p = some (o, q)) (ha : PE X o (tE X.K c a)) (hq : PE X q (tE X.K c b)) : PE X p (tE X.K c (.get1 a b)) := by
  obtain ⟨q1, c1, rfl, hl, hs, h1⟩ := mcall1_ok hb
  refine PEi (pe_dget1 C.u1 ha hq (m1of hl hs h1)) ?_
  intro σ H Q ⟨T, s, ρ, rel, run⟩
  have hx : evE c (.get1 a b) s = (evE c a s).bind fun x s1 => Res.req (isDc x s1) ((evE c b s1).bind fun y s2 => get1op x y s2) := rfl
  rw [hx] at run
  refine ⟨T, s, ρ, rel, (Run.bind (k' := kR) kR_anti run).mono fun u vu s1 H1 ρ1 rel1 st1 p1 q1 d1 run1 => ?_⟩
  obtain ⟨cg, run1⟩ := Run.req run1
  obtain ⟨d, rfl, hd⟩ := isD_ok rel1 q1 cg
  refine ⟨d, rfl, hd, Uni T (tOf u (.ref d)), s1, ρ1, rel1, (Run.bind (k' := kR) kR_anti run1).mono fun w vw s2 H2 ρ2 rel2 st2 p2 q2 d2 run2 => ?_⟩
  have qu := q1.stay st2 rel1 p2 fun a h => .inr h
  unfold get1op at run2
  split at run2
  · rename_i t kvs k h1
    obtain ⟨ck, run2⟩ := Run.req run2
    obtain ⟨a, ea, h⟩ := dget_ok rel2 qu h1 (rpVal (σ := σ) q2) ck
    cases ea
    rcases h with ⟨h, g⟩ | ⟨i, vi, h, g, p⟩
    · rw [h] at run2
      exact ⟨none, g, run2.valQ rel2 .non⟩
    · rw [h] at run2
      exact ⟨some vi, g, run2.valQ rel2 p⟩
  · exact run2.elim
theorem ok_get2 (C : Cok X c) {a b d : E} {p o q q2 : PySem.Expr} (hb : mcall2 "get" p = some (o, q, q2)) (ha : PE X o (tE X.K c a)) (hq : PE X q (tE X.K c b)) (hq2 : PE X q2 (tE X.K c d)) : PE X p (tE X.K c (.get2 a b d)) := by
  obtain ⟨q1, c1, rfl, hl, hs, h1, h2⟩ := mcall2_ok hb
  refine PEi (pe_dget2 C.u1 ha hq hq2 (m2of hl hs h1 h2)) ?_
  intro σ H Q ⟨T, s, ρ, rel, run⟩
  have hx : evE c (.get2 a b d) s = (evE c a s).bind fun x s1 => Res.req (isDc x s1) ((evE c b s1).bind fun y s2 => (evE c d s2).bind fun z s3 => (asI z s3).bind fun i s4 => get2op x y (.val i) s4) := rfl
  rw [hx] at run
  refine ⟨T, s, ρ, rel, (Run.bind (k' := kR) kR_anti run).mono fun u vu s1 H1 ρ1 rel1 st1 p1 q1 d1 run1 => ?_⟩
  obtain ⟨cg, run1⟩ := Run.req run1
  obtain ⟨e, rfl, hd⟩ := isD_ok rel1 q1 cg
  refine ⟨e, rfl, hd, Uni T (tOf u (.ref e)), s1, ρ1, rel1, (Run.bind (k' := kR) kR_anti run1).mono fun w vw s2 H2 ρ2 rel2 st2 p2 q2 d2 run2 => ?_⟩
  refine ⟨_, s2, ρ2, rel2, (Run.bind0 (k' := kR) run2).mono fun z vz s3' H3 ρ3 rel3' st3' p3 q3' d3 run3' => ?_⟩
  obtain ⟨iz, s3, rel3, q3, st3, run4⟩ := asI_run run3' rel3' st3' q3' d3
  have run3 := run4.from st3 p3
  clear run3' run4
  have qu := (q1.stay st2 rel1 p2 fun a h => .inr h).stay st3 rel2 p3 fun a h => .inl (.inr h)
  have qw := q2.stay st3 rel2 p3 fun a h => .inr h
  unfold get2op at run3
  split at run3
  · rename_i t kvs k h1
    obtain ⟨ck, run3⟩ := Run.req run3
    obtain ⟨a, ea, h⟩ := dget_ok rel3 qu h1 (rpVal (σ := σ) qw) ck
    cases ea
    rcases h with ⟨h, g⟩ | ⟨i, vi, h, g, p⟩
    · rw [h] at run3
      exact ⟨none, g, run3.valQ rel3 q3⟩
    · rw [h] at run3
      exact ⟨some vi, g, run3.valQ rel3 p⟩
  · exact run3.elim
theorem ok_dct {es : List E} {t : Bool} {pos : Pos} (h : es.isEmpty = true) : PE X (.Dict [] [] pos) (tE X.K c (.dct t es)) := by
  cases es with
  | cons => cases h
  | nil =>
    cases t with
    | false =>
      refine PEi pe_dnewK ?_
      intro σ H Q ⟨T, s, ρ, rel, run⟩
      have hx : evE c (.dct false []) s = .ok (.tmp (.dct false [])) s := rfl
      rw [hx] at run
      exact fun p hp => run.new rel hp (.dK .nil)
    | true =>
      refine PEi pe_dnewT ?_
      intro σ H Q ⟨T, s, ρ, rel, run⟩
      have hx : evE c (.dct true []) s = .ok (.tmp (.dct true [])) s := rfl
      rw [hx] at run
      exact fun p hp => run.new rel hp (.dT .nil)
/-! ### dict(pairs) -/
theorem pairs_ok {W : Addr → Prop} : ∀ {l : List I} {vs : List V} {ps : List (I × I)}, Rps X.K H W ρ l vs → pairs l = some ps → ∃ (as : List Addr) (kvs : List (Key × V)), vs = as.map V.ref ∧ Paired (fun p kv => SqT X.K H p [kV kv.1, kv.2]) as kvs ∧ RpK X.K H W ρ ps kvs
  | [], _, _, .nil, h => by cases h; exact ⟨[], [], rfl, .nil, .nil⟩
  | .tup [k, v] :: l, _, ps, .cons q r, h => by
    unfold pairs at h
    split at h
    · rename_i hk
      obtain ⟨t, h1, rfl⟩ := Option.map_eq_some_iff.mp h
      obtain ⟨as, kvs, rfl, h2, h3⟩ := pairs_ok r h1
      obtain ⟨b, hb⟩ := keyOf_ok hk
      cases q with
      | tup ht hr =>
        cases hr with
        | cons qk hr =>
          cases hr with
          | cons qv hr =>
            cases hr
            have e := qk.key hb
            subst e
            exact ⟨_ :: as, (b, _) :: kvs, rfl, .cons ht.sqt h2, .cons hb qv h3⟩
    · cases h
theorem RpK.merge {W : Addr → Prop} : ∀ {ps : List (I × I)} {kvs : List (Key × V)} {ps0 : List (I × I)} {kvs0 : List (Key × V)}, RpK X.K H W ρ ps kvs → RpK X.K H W ρ ps0 kvs0 → RpK X.K H W ρ (mergeD ps0 ps) (mergeK kvs0 kvs)
  | [], [], _, _, .nil, h => h
  | (k, v) :: ps, (b, y) :: kvs, ps0, kvs0, .cons hk q r, h => by
    have := RpK.merge r (h.put hk q)
    exact this
/-- dict(a tuple of pairs) -/
theorem call_dictPT (hcalm : X.calm = true) : CallR X (.type "dict") (fun xs H Q => ∃ (a : Addr) (ps : List Addr) (kvs : List (Key × V)), xs = [.ref a] ∧ Pt X.K H a (ps.map V.ref) ∧ Paired (fun p kv => SqT X.K H p [kV kv.1, kv.2]) ps kvs ∧
    ∀ p, H p = none → Q (.ref p) (upd H p (.dK (mergeK [] kvs)))) := by
  intro pins s σ H xs us Q I r q
  obtain ⟨a, ps, kvs, ex, hq, hp, q⟩ := q
  subst ex
  obtain ⟨u, eu, rx⟩ := vals1 r
  subst eu
  cases rx
  obtain ⟨its, rv, pl, hz⟩ : ∃ its : List Value, Vals (ps.map V.ref) its ∧ PlainSeq "tuple" s.heap a its.toArray ∧ (ps.map V.ref).length ≤ sizeLine := by
    rcases hq with ⟨o, h1, h2, h3⟩ | ⟨o, its, n, h1, h2, h3, h4, h5, h6⟩
    · obtain ⟨g1, hl, its, rv, o', g2, g3, n, g4⟩ := I.hok a _ h1
      rw [g1] at g2; cases g2
      exact ⟨its, rv, ⟨o, n, g1, h3, h2, g4⟩, hl⟩
    · have rv := h6
      refine ⟨its.toList, h6, ⟨o, n, I.kIn _ _ h1, h2, h3, by rw [h4]⟩, ?_⟩
      rw [h6.length, Array.length_toList]; exact h5
  have ei := refs_at rv
  subst ei
  rw [List.length_map] at hz
  obtain ⟨prs, rel, hl, hpr⟩ := pairs_of I hp
  have hT : ∀ j : Nat, ∃ (b : Addr) (u : Value), ∀ q' : Key × Value, prs[j]? = some q' → ps[j]? = some b ∧ IsTup s.heap b #[u, q'.2] ∧ keyIs q'.1 u = true := fun j => by
    cases e : prs[j]? with
    | none => exact ⟨0, .none, fun q' z => nomatch z⟩
    | some q' =>
      obtain ⟨b, u, h1, h2, h3⟩ := hpr j q' e
      exact ⟨b, u, fun q2 e2 => by cases e2; exact ⟨h1, h2, h3⟩⟩
  let Ts : Nat → Addr := fun j => (hT j).choose
  let Us : Nat → Value := fun j => (hT j).choose_spec.choose
  have hTU : ∀ (j : Nat) (q' : Key × Value), prs[j]? = some q' → ps[j]? = some (Ts j) ∧ IsTup s.heap (Ts j) #[Us j, q'.2] ∧ keyIs q'.1 (Us j) = true := fun j => (hT j).choose_spec.choose_spec
  let qs : List (Value × Value) := (List.range prs.length).map fun j => (Us j, ((prs[j]?).map (·.2)).getD .none)
  have hqs : ∀ (j : Nat) (k v : Value), qs[j]? = some (k, v) → ∃ q', prs[j]? = some q' ∧ k = Us j ∧ v = q'.2 := fun j k v e => by
    rw [List.getElem?_map] at e
    obtain ⟨i, h1, h2⟩ := Option.map_eq_some_iff.mp e
    obtain ⟨h3, h4⟩ := List.getElem?_eq_some_iff.mp h1
    rw [List.getElem_range] at h4
    subst h4
    rw [List.length_range] at h3
    have e3 : prs[j]? = some prs[j] := List.getElem?_eq_getElem h3
    rw [e3] at h2
    cases h2
    exact ⟨_, e3, rfl, rfl⟩
  have hql : qs.length = prs.length := by show ((List.range prs.length).map _).length = _; rw [List.length_map, List.length_range]
  refine PySem.call_dict_pairs (knd := mixKind X.prog X.w) (kvs := prs) (PairArg.tuple a (ps.map Value.ref).toArray Ts qs) (I.ok.hd hcalm) ⟨pl, by rw [List.size_toArray, List.length_map, hql, hl], fun j k v e => ?_⟩ ⟨hql.symm, fun j key v e => ?_⟩ (by rw [hql, hl]; exact hz) fun h' tk hd' k => ?_
  · obtain ⟨q', h1, rfl, rfl⟩ := hqs j k v e
    obtain ⟨h2, h3, _⟩ := hTU j q' h1
    exact ⟨by simp [h2], .inl h3⟩
  · obtain ⟨q', h1, rfl, rfl⟩ := hqs j key v e
    exact ⟨q'.1, h1, (hTU j q' h1).2.2⟩
  · have hm : (s.heap.objs.size == sysModules) = false := beq_eq_false_iff_ne.mpr (Nat.ne_of_gt I.big)
    have hlen : (mergeK [] kvs).length ≤ sizeLine := by
      refine Nat.le_trans (length_mergeK kvs []) ?_
      rw [List.length_nil, Nat.zero_add, rel.length, hl]
      exact hz
    exact ⟨.ref s.heap.objs.size, upd H s.heap.objs.size (.dK (mergeK [] kvs)), I.laid (t' := tk) (fun b o e => k b o (fun z => nomatch z) e) (Nat.le_refl _) (show ObjOk X.prog X.w _ _ _ (.dK (mergeK [] kvs)) from ⟨hlen, hm, merged [] prs, KV.merge rel .nil, hd'⟩), rfl, q _ (I.hok.fresh (Nat.le_refl _))⟩
theorem dictPop_ok (r : Rel X.K T s σ H ρ) (q : RpR X.K H (Uni (Own s σ ρ) T) ρ σ u vu) (run : Run kR X.K T s σ H ρ (dictPop u s) (fun _ v _ H' _ => Q v H')) :
    (∃ (a : Addr) (ps : List Addr) (kvs : List (Key × V)), [vu] = [.ref a] ∧ SqL X.K H a (ps.map V.ref) ∧ Paired (fun p kv => SqT X.K H p [kV kv.1, kv.2]) ps kvs ∧ ∀ p, H p = none → Q (.ref p) (upd H p (.dK (mergeK [] kvs)))) ∨
    ∃ (a : Addr) (ps : List Addr) (kvs : List (Key × V)), [vu] = [.ref a] ∧ Pt X.K H a (ps.map V.ref) ∧ Paired (fun p kv => SqT X.K H p [kV kv.1, kv.2]) ps kvs ∧ ∀ p, H p = none → Q (.ref p) (upd H p (.dK (mergeK [] kvs))) := by
  unfold dictPop at run
  split at run
  · rename_i t l h1
    obtain ⟨a, vs, rfl, r1, t1, t2, _⟩ := viewQ_ok r q h1
    obtain ⟨ps, hps, run⟩ := Run.opt run
    obtain ⟨as, kvs, rfl, h2, h3⟩ := pairs_ok r1 hps
    have fin : ∀ p, H p = none → Q (.ref p) (upd H p (.dK (mergeK [] kvs))) := fun p hp => run.new r hp (.dK (RpK.merge h3 .nil))
    cases t with
    | true => exact .inr ⟨a, as, kvs, rfl, t1 rfl, h2, fin⟩
    | false => exact .inl ⟨a, as, kvs, rfl, t2 rfl, h2, fin⟩
  · exact run.elim
theorem ok_dictP (C : Cok X c) {a : E} {p q : PySem.Expr} (hb : bcall X.env.scope "dict" p = some q) (ha : PE X q (tE X.K c a)) : PE X p (tE X.K c (.dictP a)) :=
  b1 PyProof.Rows.boot_dict C (by decide +kernel) hb ha (CallR.or (call_dictP C.calm) (call_dictPT C.calm)) b1t (fun s => rfl) fun T s σ H ρ u vu Q r q _ run => dictPop_ok r q run
/-! ### isinstance -/
def tyN : Ty → String
  | .int => "int" | .bool => "bool" | .str => "str" | .tup => "tuple" | .lst => "list"
theorem kit_tab : ∀ K : PySem.W.Frag, ∀ t ∈ ["NoneType", "bool", "int", "str", "tuple", "list"], ∀ c ∈ ["int", "bool", "str", "tuple", "list"], PySem.W.kitOne K (.type t) (.type c) = some (t == c || (t == "bool" && c == "int")) := by
  intro K t ht c hc
  simp only [List.mem_cons, List.mem_nil_iff, or_false] at ht hc
  rcases ht with rfl | rfl | rfl | rfl | rfl | rfl <;> rcases hc with rfl | rfl | rfl | rfl | rfl <;> rfl
def clI : I → String
  | .non => "NoneType" | .bl _ => "bool" | .int _ => "int" | .str _ => "str" | .tup _ => "tuple" | .fl _ => "list" | .xl _ => "list" | .ref _ => "object" | .fa _ _ => "object" | .ex _ _ => "object"
theorem tyI_cl (i : I) (t : Ty) (h : clI i ≠ "object") : tyI i t = (clI i == tyN t || (clI i == "bool" && tyN t == "int")) := by
  cases i <;> cases t <;> first | rfl | exact absurd rfl h
theorem Rp.tyx {W : Addr → Prop} {i : I} {v : V} (h : Rp X.K H W ρ i v) (n : clI i ≠ "object") : TyX X.K H v (.type (clI i)) := by
  cases h with
  | non => exact .base .non
  | bl b => exact .base (.bl b)
  | int b => exact .base (.int b)
  | str l => exact .base (.str _)
  | tup h r =>
    rcases h with ⟨o, h, _⟩ | ⟨o, its, n, h1, h2, _⟩
    · exact .fTuple h
    · exact .kTuple h1 h2
  | fl h _ r => exact .base (.lst h)
  | xl h r =>
    rcases h with ⟨o, h⟩ | ⟨o, its, n, h1, h2, _⟩
    · exact .base (.frz h)
    · exact .kList h1 h2
  | ref h => exact absurd rfl n
  | fa _ _ => exact absurd rfl n
  | ex0 _ _ => exact absurd rfl n
  | ex1 _ _ _ _ => exact absurd rfl n
end
end CH
/-! tuple.index -/
namespace CH
open PySem PySem.Spec PyProof.Rows L2
variable [Wsh]
section
variable {X : Cx} {c : Ctx} {T : Addr → Prop} {s : S} {σ : Sg} {H : Hp} {ρ : List Addr} {u w : R} {vu vw : V} {Q : VK}
theorem pt_is {pins : List (Addr × Obj)} {σ : L2.St} {H : Hp} {s : Shared} {p : Addr} {xs : List V} (I : Inv X pins σ H s) (h : Pt X.K H p xs) :
    s.TypeIs (.ref p) "tuple" ∧ ∀ a, Value.ref p = .ref a → ∃ ob, s.heap.get? a = some ob ∧ ob.dict = none := by
  rcases h with ⟨o, h, hd, hc⟩ | ⟨o, its, n, h, hc, hd, _⟩
  · have g := (I.hok p _ h).1
    refine ⟨⟨o, g, hc⟩, fun a e => ?_⟩
    cases e
    exact ⟨o, g, hd⟩
  · refine ⟨⟨o, I.kIn p o h, hc⟩, fun a e => ?_⟩
    cases e
    exact ⟨o, I.kIn _ o h, hd⟩
def tBMT (K : PySem.W.Frag) (r : V → List V → Hp → VK → Prop) (to : TE) (t : TA) : TE := fun σ H Q => to σ H fun x H1 => (∃ p xs, x = .ref p ∧ Pt K H1 p xs) ∧ t σ H1 fun xs H2 => r x xs H2 Q
theorem pe_bmT {o e : PySem.Expr} {es : List PySem.Expr} {to : TE} {t : TA} {name : Str} {apos cpos : Pos} {id : String} {r : V → List V → Hp → VK → Prop}
    (pa : PlainAttrs "tuple") (slot : Slot "tuple" name id) (hty : typeOf (.builtin id) = pure (.type "method_descriptor")) (hm : MtR X id r) (ho : PE X o to) (ha : PA X (e :: es) t)
    (hbase : attributeBase o name X.env (eval o X.env) = eval o X.env)
    (hfew : ((backTo cpos (starEach (e :: es) X.env)).all (fun x => !x.1) && (backToKw cpos (keywordEach [] X.env)).all (fun x => x.1.isSome)
      && decide ((e :: es).length + ([] : List Keyword).length + (if ([] : List Keyword).isEmpty then 0 else 1) < 30)) = true)
    (hline : (apos.endLine == cpos.line) = true) (hs : starEach (e :: es) X.env = (false, eval e X.env) :: starEach es X.env) (hplain : (backTo cpos (starEach es X.env)).any (·.1) = false) :
    PE X (.Call (.Attribute o name apos) (e :: es) [] cpos) (tBMT X.K r to t) := by
  refine ⟨fun pins s σ H Q I h => ?_⟩
  refine wpAny_Call_method_late hbase hfew hline rfl (thn (ho.run pins s σ H _ I h) fun v s1 ⟨x, H1, I1, r1, ⟨p, ps, ty1, ty2⟩, q1⟩ => ?_)
  subst ty1
  cases r1
  obtain ⟨h1, h2⟩ := pt_is I1 ty2
  refine ⟨"tuple", id, pa, slot, hty, h1, h2, ?_⟩
  have hA := ha.run cpos pins s1 σ H1 _ I1 q1
  rw [hs] at hA ⊢
  refine Calls.callWith_builtin (by show (false || (backTo cpos (starEach es X.env)).any (·.1)) = false; rw [hplain] <;> rfl) (Calls.evalArgs_plain ?_)
  exact thn hA fun us s2 ⟨vs, H2, I2, r2, q2⟩ => hm pins s2 σ H2 (.ref p) vs _ us Q I2 rfl r2 q2
def rTIndexI (K : PySem.W.Frag) : V → List V → Hp → VK → Prop := fun x xs H Q => ∃ (W : Addr → Prop) (ρ : List Addr) (i : I) (l : List I) (a : Addr) (vs : List V) (y : V) (j : Nat), x = .ref a ∧ xs = [y] ∧ SqT K H a vs ∧ Vw K H W ρ i y ∧ Rps K H W ρ l vs ∧ dep 60 i = true ∧ depL 60 l = true ∧ idxOf l i = some j ∧ Q (.int (j : Nat)) H
theorem mt_tindexI (hu : X.A.units + 62 < cLine) : MtR X "tuple.index" (rTIndexI X.K) := by
  intro pins s σ H x xs v us Q I rx rxs h
  obtain ⟨W, ρ, i, l, a, vs, y, j, rfl, rfl, hs, hy, rl, d1, d2, hj, q⟩ := h
  cases rx
  cases rxs with
  | cons ry rt =>
    rename_i uy ut
    cases rt
    obtain ⟨its, rv, ⟨⟨cls, dd, data, sls⟩, ho, hc, n, hdt⟩, hlen⟩ := I.tuple hs
    simp only at hc hdt
    subst hc hdt
    obtain ⟨i0, h1, h2, h3⟩ := idxOf_ok hj
    have hjl : j < l.length := (List.getElem?_eq_some_iff.mp h1).1
    have hvl := rv.length
    have hrl := rl.length
    have hsl := sizeLine_eq
    have hj' : j < its.toArray.size := by rw [List.size_toArray]; omega
    have at_ : ∀ (m : Nat) (hm : m < its.toArray.size) (i' : CH.I), l[m]? = some i' → itm its l i its.toArray[m] = eqI i' i := by
      intro m hm i' hi'
      have hml : m < its.length := by simpa using hm
      exact itm_ok I rv rl d2 d1 (by simp [List.getElem?_eq_getElem hml]) hi'
    refine call_meets PySem.F.slot_tuple_index ⟨_, ho, rfl⟩ PySem.F.entry_tuple_index (PySem.F.args_tuple_index_2 _ _)
      (TI.tuple_indexAt a its.toArray n dd sls uy (itm its l i) j hj' ?_ ?_) ⟨ho, ?_, ?_⟩
    · rw [at_ j hj' i0 h1]; exact h2
    · intro m hm hmj
      have hml : m < l.length := by omega
      have hz : l[m]? = some l[m] := List.getElem?_eq_getElem hml
      rw [at_ m hm _ hz]
      exact h3 m _ hmj hz
    · exact fun w hw => itm_eqAt I rv rl d2 d1 hy ry (by show X.A.units + 1 + 60 < cLine; omega) w (by simpa using hw)
    · exact ⟨.int (j : Nat), H, I.tok _, ⟨_, rfl⟩, q⟩
theorem tindexop_ok (r : Rel X.K T s σ H ρ) (q : RpR X.K H (Uni (Own s σ ρ) T) ρ σ u vu) (q2 : RpR X.K H (Uni (Own s σ ρ) T) ρ σ w vw) (run : Run kR X.K T s σ H ρ (tindexop u w s) (fun _ v _ H' _ => Q v H')) : rTIndexI X.K vu [vw] H Q := by
  unfold tindexop at run
  split at run
  · rename_i i l h1 h2
    obtain ⟨cz, run⟩ := Run.req run
    rw [Bool.and_eq_true] at cz
    obtain ⟨z, hz, run⟩ := Run.opt run
    obtain ⟨b, ws, rfl, r2, t3, _, _⟩ := viewQ_ok r q h2
    exact ⟨_, _, i, l, b, ws, vw, z, rfl, rfl, (t3 rfl).sqt, viewI_vw r q2 h1, r2, cz.1, cz.2, hz, run.valQ r (.int _)⟩
  · exact run.elim
theorem isTp_ok (r : Rel X.K T s σ H ρ) (q : RpR X.K H (Uni (Own s σ ρ) T) ρ σ u vu) (e : isTp u s = true) : ∃ p xs, vu = .ref p ∧ Pt X.K H p xs := by
  unfold isTp at e
  split at e
  · rename_i h
    obtain ⟨a, vs, rfl, _, t, _, _⟩ := viewQ_ok r q h
    exact ⟨a, vs, rfl, t rfl⟩
  · cases e
theorem ok_tindex (C : Cok X c) {a b : E} {p o q : PySem.Expr} (hb : mcall1 "index" p = some (o, q)) (ha : PE X o (tE X.K c a)) (hq : PE X q (tE X.K c b)) : PE X p (tE X.K c (.tindex a b)) := by
  obtain ⟨q1, c1, rfl, hl, hs, h1⟩ := mcall1_ok hb
  refine PEi (pe_bmT PySem.F.plainAttrs_tuple PySem.F.slot_tuple_index PySem.F.type_tuple_index (mt_tindexI C.u62) ha (pa_cons hq pa_nil (star_of h1)) (base_of hs) (few1 h1) hl (star_of h1) rfl) ?_
  intro σ H Q ⟨T, s, ρ, rel, run⟩
  rw [show evE c (.tindex a b) s = (evE c a s).bind fun x s1 => Res.req (isTp x s1) ((evE c b s1).bind fun y s2 => tindexop x y s2) from rfl] at run
  refine ⟨T, s, ρ, rel, (Run.bind (k' := kR) kR_anti run).mono fun u vu s1 H1 ρ1 rel1 st1 p1 q1 d1 run1 => ?_⟩
  obtain ⟨cg, run1⟩ := Run.req run1
  refine ⟨isTp_ok rel1 q1 cg, Uni T (tOf u vu), s1, ρ1, rel1, (Run.bind (k' := kR) kR_anti run1).mono fun w vw s2 H2 ρ2 rel2 st2 p2 q2 d2 run2 => ?_⟩
  exact tindexop_ok rel2 (q1.stay st2 rel1 p2 fun a h => .inr h) q2 run2
end
end CH
/-! max(list of whole numbers, default=0) -/
namespace CH
open PySem PySem.Spec PyProof.Rows L2
variable [Wsh]
section
variable {prog : Program} {w : World} {A : Around} {R : Result → Shared → Prop} {It : Addr} {fp wr : List Addr} {n : Nat} {P : Nat → Value → Prop} {St : Nat → Heap → Prop} {kw : List (Str × Value)}
theorem mx_name : (toString "max" ++ toString ".loop" : String) = "max.loop" := by decide
theorem mx_go (Wk : Walks prog w A.in1 It fp wr n P St) (bt : Nat → Nat → Bool) (hcmp : CmpOf prog w A.in1 .Gt P bt) (L0 : Addr) (hL : L0 ∉ fp) :
    ∀ (k j : Nat) (s : Shared) (vb : Value) (cc : Nat), n - (j + 1) = k → j + 1 ≤ n → St (j + 1) s.heap → P (argBest bt j) vb → s.heap.get? L0 = some { cls := .type "list", dict := none, data := .seq #[vb, vb] cc, slots := #[] } →
    (∀ v h' tk, P (argBest bt (n - 1)) v → (∀ b o, b ∉ wr → b ≠ L0 → s.heap.get? b = some o → h'.get? b = some o) → R (.ok (.ret v)) { s with heap := h', toks := tk }) → codeAny (model prog w) A (.builtin "max.loop" ⟨[.ref It, .none, .ref L0], kw⟩) R s := by
  have hLw : L0 ∉ wr := fun h => hL (Wk.sub _ h)
  intro k
  induction k with
  | zero =>
    intro j s vb cc hk hj hst hPb hS hR
    have hin : j + 1 = n := by omega
    refine codeAny_builtin F.entry_max_loop ?_
    rw [Around.under_plainId F.plain_max_loop _]
    show wpAny _ A.in1 (seqItems? (.ref L0) >>= _) _ _ s
    refine wpAny_bind (wpAny_seqItems hS rfl ?_); show wpAny _ A.in1 (tryCatch (pyNext (.ref It)) _ >>= _) _ _ s
    refine wpAny_bind (wpAny_tryCatch (Wk.done s _ _ (hin ▸ hst) fun h' tk hq => ?_))
    have hS' := hq L0 _ hLw hS
    show wpAny _ A.in1 (updateSeq L0 (fun _ => #[]) >>= _) _ _ _
    refine wpAny_bind ?_
    refine wpAny_updateSeq hS' rfl (wpAny_bind (wpAny_letGo (wpAny_pure (hR vb _ tk (by rw [← hin]; exact hPb) fun b o hbw hbS e => (Heap.get?_update_other _ _ (Ne.symm hbS)).trans (hq b o hbw e)))))
  | succ k ih =>
    intro j s vb cc hk hj hst hPb hS hR
    have hlt : j + 1 < n := by omega
    refine codeAny_builtin F.entry_max_loop ?_
    rw [Around.under_plainId F.plain_max_loop _]
    show wpAny _ A.in1 (seqItems? (.ref L0) >>= _) _ _ s
    refine wpAny_bind (wpAny_seqItems hS rfl ?_); show wpAny _ A.in1 (tryCatch (pyNext (.ref It)) _ >>= _) _ _ s
    refine wpAny_bind (wpAny_tryCatch (Wk.item (j + 1) s _ _ hlt hst fun v h' tk hP hst' hq => ?_))
    have hS' := hq L0 _ hLw hS
    show wpAny _ A.in1 (tryCatch (holding [v, v] (richCompare .Gt v vb >>= _)) _ >>= _) _ _ { s with heap := h', toks := tk }
    refine wpAny_bind (wpAny_tryCatch (wpAny_holding (wpAny_bind (hcmp (j + 1) (argBest bt j) v vb _ _ _ hP hPb ?_)))); refine wpAny_bind (wpAny_holding (wpAny_truthy_bool ?_)); refine wpAny_bind (wpAny_letGo (wpAny_pure ?_))
    cases hb : bt (j + 1) (argBest bt j) with
    | true =>
      simp only [if_true]
      refine wpAny_bind ?_
      refine wpAny_updateSeq hS' rfl (wpAny_bind (wpAny_letGo ?_)); rw [mx_name]
      refine wpAny_pure ⟨plainId_quiet F.plain_max_loop _, ih (j + 1) _ v _ (by omega) hlt (Wk.frame _ _ _ hst' fun b hbf o e => (Heap.get?_update_other _ _ (fun h : L0 = b => hL (by rw [h]; exact hbf))).trans e) (by simp only [argBest, hb, if_true]; exact hP) (Heap.get?_update_self _ hS' rfl) fun v' h2 tk2 hP2 hk2 => ?_⟩
      exact hR v' h2 tk2 hP2 fun b o hbw hbS e => hk2 b o hbw hbS ((Heap.get?_update_other _ _ (Ne.symm hbS)).trans (hq b o hbw e))
    | false =>
      simp only [Bool.false_eq_true, if_false]
      refine wpAny_bind (wpAny_letGo ?_); rw [mx_name]
      refine wpAny_pure ⟨plainId_quiet F.plain_max_loop _, ih (j + 1) _ vb cc (by omega) hlt hst' (by simp only [argBest, hb, Bool.false_eq_true, if_false]; exact hPb) hS' fun v' h2 tk2 hP2 hk2 => hR v' h2 tk2 hP2 fun b o hbw hbS e => hk2 b o hbw hbS (hq b o hbw e)⟩
theorem mx_first (Wk : Walks prog w A.in1 It fp wr n P St) (bt : Nat → Nat → Bool) (hcmp : CmpOf prog w A.in1 .Gt P bt) (L0 : Addr) (hL : L0 ∉ fp) (hn : 0 < n) {s : Shared} {cc : Nat} (hst : St 0 s.heap)
    (hS : s.heap.get? L0 = some { cls := .type "list", dict := none, data := .seq #[] cc, slots := #[] })
    (hR : ∀ v h' tk, P (argBest bt (n - 1)) v → (∀ b o, b ∉ wr → b ≠ L0 → s.heap.get? b = some o → h'.get? b = some o) → R (.ok (.ret v)) { s with heap := h', toks := tk }) : codeAny (model prog w) A (.builtin "max.loop" ⟨[.ref It, .none, .ref L0], kw⟩) R s := by
  have hLw : L0 ∉ wr := fun h => hL (Wk.sub _ h)
  refine codeAny_builtin F.entry_max_loop ?_
  rw [Around.under_plainId F.plain_max_loop _]
  show wpAny _ A.in1 (seqItems? (.ref L0) >>= _) _ _ s
  refine wpAny_bind (wpAny_seqItems hS rfl ?_); show wpAny _ A.in1 (tryCatch (pyNext (.ref It)) _ >>= _) _ _ s
  refine wpAny_bind (wpAny_tryCatch (Wk.item 0 s _ _ hn hst fun v h' tk hP hst' hq => ?_))
  have hS' := hq L0 _ hLw hS
  show wpAny _ A.in1 (updateSeq L0 (fun _ => #[v, v]) >>= _) _ _ { s with heap := h', toks := tk }
  refine wpAny_bind ?_
  refine wpAny_updateSeq hS' rfl ?_; rw [mx_name]
  refine wpAny_pure ⟨plainId_quiet F.plain_max_loop _, mx_go Wk bt hcmp L0 hL _ 0 _ v _ rfl hn (Wk.frame _ _ _ hst' fun b hbf o e => (Heap.get?_update_other _ _ (fun h : L0 = b => hL (by rw [h]; exact hbf))).trans e) hP (Heap.get?_update_self _ hS' rfl) fun v' h2 tk2 hP2 hk2 => ?_⟩
  exact hR v' h2 tk2 hP2 fun b o hbw hbS e => hk2 b o hbw hbS ((Heap.get?_update_other _ _ (Ne.symm hbS)).trans (hq b o hbw e))
theorem mx_none (Wk : Walks prog w A.in1 It fp wr 0 P St) (L0 : Addr) (hL : L0 ∉ fp) {s : Shared} {cc : Nat} {d : Value} (hst : St 0 s.heap)
    (hS : s.heap.get? L0 = some { cls := .type "list", dict := none, data := .seq #[] cc, slots := #[] })
    (hR : ∀ h' tk, (∀ b o, b ∉ wr → b ≠ L0 → s.heap.get? b = some o → h'.get? b = some o) → R (.ok (.ret d)) { s with heap := h', toks := tk }) : codeAny (model prog w) A (.builtin "max.loop" ⟨[.ref It, .none, .ref L0], [("default", d)]⟩) R s := by
  have hLw : L0 ∉ wr := fun h => hL (Wk.sub _ h)
  refine codeAny_builtin F.entry_max_loop ?_
  rw [Around.under_plainId F.plain_max_loop _]
  show wpAny _ A.in1 (seqItems? (.ref L0) >>= _) _ _ s
  refine wpAny_bind (wpAny_seqItems hS rfl ?_); show wpAny _ A.in1 (tryCatch (pyNext (.ref It)) _ >>= _) _ _ s
  refine wpAny_bind (wpAny_tryCatch (Wk.done s _ _ hst fun h' tk hq => ?_))
  show wpAny _ A.in1 (rule _ >>= _) _ _ { s with heap := h', toks := tk }
  exact wpAny_bind (wpAny_rule (wpAny_pure (hR h' tk fun b o hb _ => hq b o hb)))
end
section
variable {prog : Program} {w : World} {A : Around} {E : Value → Shared → Prop} {s : Shared} {l : Addr} {xs : Array (Int × Tok)}
theorem mx_args (a d : Value) : argsOk "max" ⟨[a], [("default", d)]⟩ := by unfold argsOk; kernel_rfl
theorem mx_call {d : Value} {Q : Value → Shared → Prop} (hh : A.handled = none) (hl : s.heap.IsList l (intItems xs))
    (h : ∀ v h' tk, (if 0 < xs.size then (intItems xs)[argBest (fun i j => decide (numAt xs i > numAt xs j)) (xs.size - 1)]? = some v else v = d) → (∀ b o, s.heap.get? b = some o → h'.get? b = some o) → Q v { s with heap := h', toks := tk }) :
    wpAny (model prog w) A (call (.builtin "max") [.ref l] [("default", d)]) Q E s := by
  refine wpAny_call (codeAny_call_builtin F.plain_max F.entry_max ?_)
  simp only [checkBuiltinCall, F.kind_max]
  have go : wpAny (model prog w) A.in1 (Builtin.«max» ⟨[.ref l], [("default", d)]⟩) (fun fin s' => match fin with
      | .done f => (match (Except.ok f : Result) with | .ok (.ret v) => Q v s' | .ok _ => False | .error e => E e s')
      | .again c' => c'.quiet = true ∧ codeAny (model prog w) A c' (fun r s' => match r with | .ok (.ret v) => Q v s' | .ok _ => False | .error e => E e s') s') E s := by
    show wpAny _ A.in1 (Builtin.Builtins.bindParams "max" ["key", "default"] 0 ⟨[], [("default", d)]⟩ >>= _) _ _ s
    refine wpAny_bind (wpAny_of_eq (show Builtin.Builtins.bindParams "max" ["key", "default"] 0 ⟨[], [("default", d)]⟩ = pure [none, some d] from rfl) ?_)
    refine wpAny_bind (wpAny_pure ?_)
    refine wpAny_bind (iter_intList hl fun s₂ e st hfp hne => ?_)
    subst e
    refine wpAny_bind (wpAny_newObj_type ?_)
    rw [mx_name]
    refine wpAny_pure ⟨plainId_quiet F.plain_max_loop _, ?_⟩
    have Wk := Walks.list (prog := prog) (w := w) (A := A.in1) hh s.heap.objs.size l hne (intItems xs)
    have hL0 : (s.heap.push { cls := .type "list_iterator", data := .fields #[.ref l, .int 0 0] }).objs.size ∉ [s.heap.objs.size, l] := fun hm => Nat.lt_irrefl _ (hfp _ hm)
    have old : ∀ {h' : Heap} {c' : Nat}, (∀ b o, b ∉ [s.heap.objs.size] → b ≠ (s.heap.push { cls := .type "list_iterator", data := .fields #[.ref l, .int 0 0] }).objs.size → ((s.heap.push { cls := .type "list_iterator", data := .fields #[.ref l, .int 0 0] }).push { cls := .type "list", data := .seq #[] c' }).get? b = some o → h'.get? b = some o) → ∀ b o, s.heap.get? b = some o → h'.get? b = some o := by
      intro h' c' hk
      exact old_kept (l := l) fun b o hb e => hk b o hb (Nat.ne_of_lt (Heap.lt_size e)) (Heap.get?_push_of_some _ e)
    by_cases hz : 0 < xs.size
    · refine mx_first (cc := 0) Wk _ (CmpOf.ints_gt (numAt xs) (fun _ _ => intItems_at)) _ hL0 (by rw [intItems, Array.size_map]; exact hz) ?_ ?_ fun v h' tk hP hk => ?_
      · exact Wk.frame _ _ _ st fun b _ o e => Heap.get?_push_of_some _ e
      · exact Heap.get?_push_size _ rfl
      · exact h v h' tk (by rw [if_pos hz]; simpa [intItems] using hP) (old hk)
    · have z : (intItems xs).size = 0 := by rw [intItems, Array.size_map]; omega
      rw [z] at Wk
      refine mx_none (cc := 0) Wk _ hL0 ?_ ?_ fun h' tk hk => ?_
      · exact Wk.frame _ _ _ st fun b _ o e => Heap.get?_push_of_some _ e
      · exact Heap.get?_push_size _ rfl
      · exact h d h' tk (by rw [if_neg hz]) (old hk)
  cases hsig : Manifest.signature? "max" with
  | none => exact wpAny_pure go
  | some sig =>
    have ha := mx_args (.ref l) d
    simp only [argsOk, hsig] at ha
    have h2 : Bind.checkArgs "max" sig ⟨[.ref l], [("default", d)]⟩ = pure () := ha
    show wpAny _ A.in1 (Bind.checkArgs "max" sig ⟨[.ref l], [("default", d)]⟩) _ _ s
    rw [h2]
    exact wpAny_pure go
theorem mx_raw {its : List Value} {ns : List Int} {z : Int} {td : Tok} {Q : Value → Shared → Prop} (hh : A.handled = none) (hl : s.heap.IsList l its.toArray) (hi : IntsAre its ns)
    (h : ∀ h' tk m t', (∀ b o, s.heap.get? b = some o → h'.get? b = some o) → (if 0 < ns.length then m ∈ ns ∧ ∀ a ∈ ns, a ≤ m else m = z) → Q (.int m t') { s with heap := h', toks := tk }) : wpAny (model prog w) A (call (.builtin "max") [.ref l] [("default", .int z td)]) Q E s := by
  obtain ⟨ys, e⟩ := hi.allInts.items
  have hn : numsOf (intItems ys).toList = ns := by rw [← e]; exact hi.numsOf
  rw [nums_intItems] at hn
  subst hn
  rw [e] at hl
  refine mx_call hh hl fun v h' tk hv hk => ?_
  by_cases hz : 0 < ys.size
  · rw [if_pos hz] at hv
    obtain ⟨t, rfl⟩ := intItems_at hv
    obtain ⟨h1, h2⟩ := argBest_gt (numAt ys) (ys.size - 1)
    refine h h' tk _ t hk ?_
    rw [if_pos (by rw [List.length_map, Array.length_toList]; exact hz)]
    refine ⟨by rw [numAt_eq]; exact PySem.getD_mem (by rw [List.length_map, Array.length_toList]; omega), fun a ha => ?_⟩
    obtain ⟨j, hj, rfl⟩ := mem_getD ha
    rw [List.length_map, Array.length_toList] at hj
    rw [← numAt_eq]; exact h2 j (by omega)
  · rw [if_neg hz] at hv
    subst hv
    exact h h' tk _ _ hk (by rw [if_neg (by rw [List.length_map, Array.length_toList]; exact hz)])
end
theorem kcall_ok {sc : Scope} {n kn : Str} {z : Int} {p a : PySem.Expr} (h : kcall sc n kn z p = some a) : ∃ p1 p2 p3 p4 p5, p = .Call (.Name n p1) [a] [⟨some kn, .Constant (.int z) p5 p3, p4⟩] p2 ∧ glC sc n = true ∧ notStar a = true := by
  unfold kcall at h
  split at h
  · split at h
    · rename_i g a' m y p5 p3 p4 p2 hc
      cases h
      simp only [Bool.and_eq_true, decide_eq_true_eq] at hc
      obtain ⟨⟨⟨h1, h2⟩, e1⟩, e2⟩ := hc
      subst e1 e2
      unfold isNm at h1
      split at h1
      · rw [Bool.and_eq_true] at h1
        have e := of_decide_eq_true h1.1
        subst e
        exact ⟨_, _, _, _, _, rfl, h1.2, h2⟩
      · cases h1
    · cases h
  · cases h
def topZ : List Int → Int
  | [] => 0
  | z :: r => r.foldl max z
theorem foldl_max_ge : ∀ (r : List Int) (z : Int), z ≤ r.foldl max z ∧ ∀ a ∈ r, a ≤ r.foldl max z
  | [], z => ⟨Int.le_refl _, fun _ h => nomatch h⟩
  | y :: r, z => by
    obtain ⟨h1, h2⟩ := foldl_max_ge r (max z y)
    refine ⟨Int.le_trans (Int.le_max_left z y) h1, fun a ha => ?_⟩
    rcases List.mem_cons.mp ha with rfl | ha
    · exact Int.le_trans (Int.le_max_right _ _) h1
    · exact h2 a ha
theorem foldl_max_mem : ∀ (r : List Int) (z : Int), r.foldl max z ∈ z :: r
  | [], z => List.mem_cons_self
  | y :: r, z => by
    have h := foldl_max_mem r (max z y)
    rw [List.foldl_cons]
    rcases List.mem_cons.mp h with e | h
    · rw [e]
      rcases Int.le_total z y with l | l
      · rw [Int.max_eq_right l]; simp
      · rw [Int.max_eq_left l]; simp
    · simp [h]
theorem topZ_eq {ns : List Int} {m : Int} (h : if 0 < ns.length then m ∈ ns ∧ ∀ a ∈ ns, a ≤ m else m = 0) : m = topZ ns := by
  cases ns with
  | nil => exact h
  | cons z r =>
    rw [if_pos (by simp)] at h
    obtain ⟨h1, h2⟩ := h
    have g := foldl_max_ge r z
    have hm := foldl_max_mem r z
    refine Int.le_antisymm ?_ (h2 _ hm)
    rcases List.mem_cons.mp h1 with rfl | h1
    · exact g.1
    · exact g.2 m h1
def rMaxd (K : PySem.W.Frag) : List V → List V → Hp → VK → Prop := fun vs zs H Q => ∃ (a : Addr) (ns : List Int), vs = [V.ref a] ∧ zs = [V.int 0] ∧ SqL K H a (ns.map V.int) ∧ Q (.int (topZ ns)) H
section
variable {X : Cx} {c : Ctx} {T : Addr → Prop} {s : S} {σ : Sg} {H : Hp} {ρ : List Addr} {u w : R} {vu vw : V} {Q : VK}
theorem cr_maxd (hc : X.calm = true) : CallRK X (.builtin "max") [Str.ofString "default"] (rMaxd X.K) := by
  intro pins s σ H vs zs us ws Q I r rz h
  obtain ⟨a, ns, rfl, rfl, hs, q⟩ := h
  obtain ⟨its, rv, hl, _⟩ := I.list hs
  obtain rfl := Vals.ref1 r
  obtain ⟨w1, rfl, e1⟩ := vals1 rz
  obtain ⟨td, rfl⟩ : ∃ td, w1 = Value.int 0 td := e1
  refine mx_raw (I.ok.hd hc) hl.isList rv.ints fun h' tk m t' hk hm => ?_
  rw [topZ_eq hm]
  exact ⟨.int _, H, I.kept hk, ⟨_, rfl⟩, q⟩
theorem maxdop_ok (r : Rel X.K T s σ H ρ) (q : RpR X.K H (Uni (Own s σ ρ) T) ρ σ u vu) (run : Run kR X.K T s σ H ρ (maxdop u s) (fun _ v _ H' _ => Q v H')) : rMaxd X.K [vu] [.int 0] H Q := by
  unfold maxdop at run
  split at run
  · rename_i l h1
    obtain ⟨a, vs, rfl, r1, _, t1, _⟩ := viewQ_ok r q h1
    obtain ⟨zs, h2, run⟩ := Run.opt run
    have e := ints_ok r1 h2
    subst e
    exact ⟨a, zs, rfl, rfl, t1 rfl, run.valQ r (.int _)⟩
  · exact run.elim
theorem ok_maxd (C : Cok X c) {a : E} {p q : PySem.Expr} (hb : kcall X.env.scope "max" "default" 0 p = some q) (ha : PE X q (tE X.K c a)) : PE X p (tE X.K c (.maxd a)) := by
  obtain ⟨p1, p2, p3, p4, p5, rfl, hg, hs⟩ := kcall_ok hb
  have hn2 := bnames_ok "max" (by decide +kernel)
  have wk := one (r1 := fun u H Q => rMaxd X.K [u] [.int 0] H Q) (c := c) (a := a) (x := .maxd a) (fun s => by simp only [evE]) fun T s σ H ρ u vu Q r q _ run => maxdop_ok r q run
  exact PEi (pe_callBK (cr_maxd C.calm) (glC_ok rfl hg) (C.bl "max" (by decide +kernel)) PyProof.Rows.boot_max (pa_cons ha pa_nil (star_of hs)) (pk_cons pe_int pk_nil) hn2.1 hn2.2 (by rw [star_of hs]; rfl) (by rw [star_of hs]; rfl) rfl rfl rfl) wk
end
end CH
set_option maxHeartbeats 4000000
/-! sorted(a tuple), list.extend(a tuple) -/
namespace SrtO
open PySem PyProof.Rows Srt
section
variable {prog : Program} {w : World} {A : Around} {E : Value → Shared → Prop} {s : Shared}
theorem collect_tupX {l : Addr} {vs : List Value} {Q : List Value → Shared → Prop} (hl : PlainSeq "tuple" s.heap l vs.toArray)
    (h : Q vs { s with heap := (s.heap.push (seqObj "list" #[] 0)).update s.heap.objs.size (Obj.mapSeq (· ++ vs.toArray)) }) (hsz : vs.length ≤ sizeLine) :
    wpAny (model prog w) A (collect (.ref l)) Q E s := by
  obtain ⟨o, n, ho, hc, hdd, hd⟩ := id hl
  unfold collect
  refine wpAny_bind (wpAny_runValue (codeAny_builtin entry_proto_collect' ?_))
  show wpAny _ _ (do again (.builtin "list.__iadd__" ⟨[← newList [], .ref l], []⟩)) _ _ s
  refine wpAny_bind (wpAny_newList (wpAny_pure ⟨Code.quiet_builtin _ (by decide +kernel), codeAny_builtin entry_list_iadd' ?_⟩))
  show wpAny _ _ (Builtin.List.listExtendWith (.ref s.heap.objs.size) (.ref l) (.ref s.heap.objs.size)) _ _ { s with heap := s.heap.push (seqObj "list" #[] 0) }
  unfold Builtin.List.listExtendWith
  have ho' : (s.heap.push (seqObj "list" #[] 0)).get? l = some o := Heap.get?_push_of_some _ ho
  refine wpAny_bind (wpAny_typeOf (T := "tuple") ⟨o, ho', hc⟩ ?_)
  have ht : (Value.type "tuple" == Value.type "tuple") = true := by rfl
  rw [if_pos (by rw [ht]; simp)]
  refine wpAny_bind (listItems_at ho' hd ?_)
  refine wpAny_bind (listItems_at (xs := #[]) (n := 0) (Heap.get?_push_size _ rfl) rfl ?_)
  rw [if_neg (by simp)]
  refine wpAny_bind (listUpdate_at (xs := #[]) (n := 0) (Heap.get?_push_size _ rfl) rfl ?_ (Nat.zero_le _) (by show (#[] ++ vs.toArray).size ≤ sizeLine + 1; simp only [Array.size_append, List.size_toArray, List.length_nil]; omega))
  refine wpAny_pure ?_
  show wpAny (model prog w) A (do
      let o ← load s.heap.objs.size
      match o.data with
      | .seq xs _ => pure xs.toList
      | _ => unsupported "internal:collect") Q E { s with heap := (s.heap.push (seqObj "list" #[] 0)).update s.heap.objs.size (Obj.mapSeq (· ++ vs.toArray)) }
  refine wpAny_bind (wpAny_load (get?_update_seq (Heap.get?_push_size _ rfl) _) ?_)
  show wpAny _ _ (pure ((#[] : Array Value) ++ vs.toArray).toList) Q E _
  rw [show ((#[] : Array Value) ++ vs.toArray).toList = vs by simp]
  exact wpAny_pure h
theorem sorted_ordT {l : Addr} {vs : List Value} {ltv : Value → Value → Bool} {Q : Value → Shared → Prop} (O : Swo ltv) (hl : PlainSeq "tuple" s.heap l vs.toArray) (hz : vs.length ≤ sizeLine)
    (hS : 2 ≤ vs.length → ∀ (h₁ : Heap) (a : Addr), h₁.get? a = some (seqObj "list" vs.toArray 0) → (∀ b o, s.heap.get? b = some o → b ≠ a ∧ h₁.get? b = some o) → SortableO prog w A.in1.in1 { s with heap := h₁ } a vs ltv)
    (h : ∀ out : List Value, Srtd ltv out → Stb ltv out vs → Q (.ref (s.heap.objs.size + 1)) { s with heap := sortedAll s.heap vs out.toArray }) :
    wpAny (model prog w) A (call (.builtin "sorted") [.ref l]) Q E s := by
  refine Calls.call_function_entry kind_sorted plain_sorted entry_sorted (args_sorted1 _) ?_
  unfold Builtin.«sorted»
  refine wpAny_bind (m := checkCount "sorted" 1 1 _) (wpAny_pure ?_)
  refine wpAny_bind (collect_tupX hl ?_ hz)
  refine wpAny_bind (wpAny_newList ?_ hz)
  have hsz : ((s.heap.push (seqObj "list" #[] 0)).update s.heap.objs.size (Obj.mapSeq (· ++ vs.toArray))).objs.size = s.heap.objs.size + 1 := by
    rw [Heap.size_update, size_push']
  have hoL : (((s.heap.push (seqObj "list" #[] 0)).update s.heap.objs.size (Obj.mapSeq (· ++ vs.toArray))).push (seqObj "list" vs.toArray 0)).get? (s.heap.objs.size + 1) = some (seqObj "list" vs.toArray 0) := by
    rw [← hsz]; exact Heap.get?_push_size _ rfl
  have keep : ∀ b o, s.heap.get? b = some o → b ≠ s.heap.objs.size + 1 ∧ (((s.heap.push (seqObj "list" #[] 0)).update s.heap.objs.size (Obj.mapSeq (· ++ vs.toArray))).push (seqObj "list" vs.toArray 0)).get? b = some o := fun b o q => by
    have hlt : b < s.heap.objs.size := Heap.lt_size q
    refine ⟨Nat.ne_of_lt (Nat.lt_succ_of_lt hlt), Heap.get?_push_of_some _ ?_⟩
    rw [Heap.get?_update_ne _ _ _ _ (Nat.ne_of_lt hlt)]
    exact Heap.get?_push_of_some _ q
  show wpAny _ _ _ _ _ { s with heap := ((s.heap.push (seqObj "list" #[] 0)).update s.heap.objs.size (Obj.mapSeq (· ++ vs.toArray))).push (seqObj "list" vs.toArray 0) }
  rw [hsz]
  refine wpAny_bind (wpAny_holding (wpAny_call_entry slot_list_sort ⟨_, hoL, rfl⟩ entry_list_sort (list_sort_ord O hoL hz (fun h2 => hS h2 _ _ hoL keep) fun out hs hb => ⟨_, rfl, ?_⟩) (args_list_sort _)))
  exact wpAny_pure ⟨_, rfl, h out hs hb⟩
end
end SrtO
namespace CH
open PySem PySem.Spec PyProof.Rows L2
section
variable {X : Cx}
theorem ptP_plain {pins : List (Addr × Obj)} {σ : L2.St} {H : Hp} {s : Shared} (I : Inv X pins σ H s) {a : Addr} {xs : List V} (hq : Pt X.K H a xs) : ∃ its : List Value, Vals xs its ∧ PlainSeq "tuple" s.heap a its.toArray ∧ xs.length ≤ sizeLine := by
  rcases hq with ⟨o, h1, h2, h3⟩ | ⟨o, its, n, h1, h2, h3, h4, h5, h6⟩
  · obtain ⟨g1, hl, its, rv, o', g2, g3, n, g4⟩ := I.hok a _ h1
    rw [g1] at g2; cases g2
    exact ⟨its, rv, ⟨o, n, g1, h3, h2, g4⟩, hl⟩
  · refine ⟨its.toList, h6, ⟨o, n, I.kIn _ _ h1, h2, h3, by rw [h4]⟩, ?_⟩
    rw [h6.length, Array.length_toList]; exact h5
def rSortedTI (K : PySem.W.Frag) : List V → Hp → VK → Prop := fun vs H Q => ∃ (a : Addr) (ns : List Int), vs = [V.ref a] ∧ Pt K H a (ns.map V.int) ∧
  ∀ (ns' : List Int) (p : Addr), ns'.Perm ns → ns'.Pairwise (· ≤ ·) → H p = none → Q (.ref p) (upd H p (.lst (ns'.map V.int)))
theorem cr_sortedTI : CallR X (.builtin "sorted") (rSortedTI X.K) := by
  intro pins s σ H vs us Q I r h
  obtain ⟨a, ns, rfl, hs, q⟩ := h
  obtain ⟨its, rv, hl, hz⟩ := ptP_plain I hs
  rw [Vals.ref1 r]
  have hi := rv.ints
  refine SrtO.sorted_ordT SrtO.swo_int hl (by rw [← rv.length]; exact hz) (fun h2 h₁ a' _ _ => SrtO.ints_sortable hi h2) fun out h1 h2 => ?_
  obtain ⟨k1, k2, k3⟩ := SrtO.ints_out hi h1 h2
  obtain ⟨ep, he'⟩ := PyProof.Rows.sortedAll_at s.heap its out.toArray
  have hlen : ((out.map SrtO.iv).map V.int).length ≤ sizeLine := by
    rw [List.length_map, k2.length_eq]
    rw [List.length_map] at hz
    exact hz
  exact ⟨.ref _, upd H (s.heap.objs.size + 1) (.lst ((out.map SrtO.iv).map V.int)), I.laid (t' := s.toks) (fun _ _ => PyProof.Rows.sortedAll_old) (Nat.le_succ _) ⟨hlen, out, ep, vals_of_ints k1, he'⟩, rfl, q _ _ k2 k3 (I.hok.fresh (Nat.le_succ _))⟩
def rExt2 (K : PySem.W.Frag) : V → List V → Hp → VK → Prop := fun x vs H Q => rExtend x vs H Q ∨ ∃ l b xs zs, x = .ref l ∧ vs = [.ref b] ∧ H l = some (.lst xs) ∧ Pt K H b zs ∧ xs.length + zs.length ≤ sizeLine ∧ Q .non (upd H l (.lst (xs ++ zs)))
theorem extend_tupX (l : Addr) (items : Array Value) (n : Nat) (b : Addr) (items2 : Array Value) (n2 : Nat) (sl : Array (Option Value)) (hs0 : ¬(!items.isEmpty && Builtin.List.listTooLong (items.size + items2.size)) = true) (hs1 : items.size ≤ sizeLine) (hs2 : items.size + items2.size ≤ sizeLine + 1) :
    Meets (Builtin.«list.extend» ⟨[.ref l, .ref b], []⟩) (fun _ R s => s.heap.get? l = some { cls := .type "list", dict := none, data := .seq items n, slots := #[] } ∧ s.heap.get? b = some { cls := .type "tuple", dict := none, data := .seq items2 n2, slots := sl } ∧ R (.ok (.ret Value.none)) { s with heap := s.heap.update l (Obj.mapSeq fun x => x ++ items2), toks := s.toks }) :=
  .of_wp fun prog w A R s h => by
    obtain ⟨hp, g, d, tk, os⟩ := s; obtain ⟨hl, hb, h⟩ := h; have f1 := AutoSeq1.idx_int; have f2 := AutoSeq1.sub_tuple_tuple; have f3 := AutoSeq1.sub_list_list; have f4 := AutoSeq1.sub_tuple_list; have f5 := AutoSeq1.sub_list_tuple;
    have hz' : (items ++ items2).size ≤ sizeLine + 1 := by rw [Array.size_append]; exact hs2
    wp_walk using (wpAny_updateSeq hl rfl (hz := hs1) (_hz' := hz')), wpAny_loadPart' hl, wpAny_loadPart' hb; exact ⟨_, rfl, h⟩
theorem mt_extend2 : MtR X "list.extend" (rExt2 X.K) := by
  intro pins s σ H x vs v us Q I rx rv h
  rcases h with h | h
  · exact mt_extend pins s σ H x vs v us Q I rx rv h
  obtain ⟨l, b, xs, zs, rfl, rfl, hH, hB, hz, q⟩ := h
  cases rx
  obtain ⟨u, rfl, ru⟩ := rv.one
  cases ru
  obtain ⟨z, its, n, r, hl, e⟩ := I.lstM hH
  obtain ⟨its2, r2, ⟨o2, n2, e2, hc2, hd2, hq2⟩, _⟩ := ptP_plain I hB
  obtain ⟨oc, od, oda, osl⟩ := o2
  dsimp only at hd2 hc2 hq2
  subst hd2 hc2 hq2
  have hl2 := r2.length
  have hsz : its.toArray.size + its2.toArray.size ≤ sizeLine := by rw [List.size_toArray, List.size_toArray]; omega
  have hlong : ¬ (!its.toArray.isEmpty && Builtin.List.listTooLong (its.toArray.size + its2.toArray.size)) = true := by
    rw [notLongL hsz, Bool.and_false]
    exact Bool.false_ne_true
  refine call_meets F.slot_list_extend ⟨_, e, rfl⟩ F.entry_list_extend (F.args_list_extend_2 _ _)
    (extend_tupX l its.toArray n b its2.toArray n2 osl hlong (by rw [List.size_toArray]; omega) (by omega)) ⟨e, e2, ?_⟩
  refine ⟨.non, _, I.lset (its' := its ++ its2) hH e (by simp) (r.append r2) ?_, rfl, q⟩
  rw [List.length_append]
  omega
end
variable [Wsh]
section
variable {X : Cx} {c : Ctx} {T : Addr → Prop} {s : S} {σ : Sg} {H : Hp} {ρ : List Addr} {u w : CH.R} {vu vw : V} {Q : VK}
theorem srtop_ok (r : Rel X.K T s σ H ρ) (q : RpR X.K H (Uni (Own s σ ρ) T) ρ σ u vu) (run : Run kR X.K T s σ H ρ (srtop u s) (fun _ v _ H' _ => Q v H')) : rSortedS X.K [vu] H Q ∨ rSortedI X.K [vu] H Q ∨ rSortedTI X.K [vu] H Q := by
  unfold srtop at run
  split at run
  · rename_i l h1
    obtain ⟨a, vs, rfl, r1, _, t1, _⟩ := viewQ_ok r q h1
    have t1 := t1 rfl
    split at run
    · rename_i ss h2
      obtain ⟨cz, run⟩ := Run.req run
      have e := strs_ok r1 h2
      subst e
      refine .inl ⟨a, ss.map mkS, rfl, t1, by rw [List.length_map]; exact of_decide_eq_true cz, fun ys p hp hs hn => ?_⟩
      rw [sortS_eq hp hs]
      exact run.new r hn (.lst (Rps.ofStrs _))
    · split at run
      · rename_i zs h2
        have e := ints_ok r1 h2
        subst e
        refine .inr (.inl ⟨a, zs, rfl, t1, fun ns p hp hs hn => ?_⟩)
        have e2 : ns = sortZ zs := PySem.W.ksm_same (hp.trans (sortZ_perm zs).symm) hs (sortZ_sorted zs)
        rw [e2]
        exact run.new r hn (.lst (Rps.ofInts _))
      · exact run.elim
  · rename_i l h1
    obtain ⟨a, vs, rfl, r1, tt, _, _⟩ := viewQ_ok r q h1
    split at run
    · rename_i zs h2
      have e := ints_ok r1 h2
      subst e
      refine .inr (.inr ⟨a, zs, rfl, tt rfl, fun ns p hp hs hn => ?_⟩)
      have e2 : ns = sortZ zs := PySem.W.ksm_same (hp.trans (sortZ_perm zs).symm) hs (sortZ_sorted zs)
      rw [e2]
      exact run.new r hn (.lst (Rps.ofInts _))
    · exact run.elim
  · exact run.elim
theorem ok_srt (C : Cok X c) {a : E} {p q : PySem.Expr} (hb : bcall X.env.scope "sorted" p = some q) (ha : PE X q (tE X.K c a)) : PE X p (tE X.K c (.srt a)) :=
  b1 PyProof.Rows.boot_sorted C (by decide +kernel) hb ha (CallR.or cr_sortedS (CallR.or cr_sortedI cr_sortedTI)) b1k (fun s => rfl) fun T s σ H ρ u vu Q r q _ run => srtop_ok r q run
theorem extop_ok (r : Rel X.K T s σ H ρ) (q : RpR X.K H (Uni (Own s σ ρ) T) ρ σ u vu) (q2 : RpR X.K H (Uni (Own s σ ρ) T) ρ σ w vw) (run : Run kR X.K T s σ H ρ (extop u w s) (fun _ v _ H' _ => Q v H')) : rExt2 X.K vu [vw] H Q := by
  unfold extop at run
  split at run
  · rename_i l t m h1 h2
    obtain ⟨cz, run⟩ := Run.req run
    rw [Bool.and_eq_true, Bool.and_eq_true, Bool.not_eq_true'] at cz
    obtain ⟨a, vs, rfl, ha, r1, put⟩ := ownL_ok r q h1
    obtain ⟨b, ws, rfl, r2, tt, _, g2⟩ := viewQ_ok r q2 h2
    obtain ⟨rel2, st2⟩ := put (l ++ m) (vs ++ ws) (r1.append r2)
    cases t with
    | true => exact .inr ⟨a, b, vs, ws, rfl, rfl, ha, tt rfl, by rw [← r1.length, ← r2.length, sizeLine_eq]; exact of_decide_eq_true cz.1.1, run.put rel2 st2⟩
    | false => exact .inl ⟨a, b, vs, ws, rfl, rfl, ha, g2 rfl cz.1.2, by rw [← r1.length, ← r2.length, sizeLine_eq]; exact of_decide_eq_true cz.1.1, run.put rel2 st2⟩
  · exact run.elim
theorem ok_ext {a b : E} {p o q : PySem.Expr} (hb : mcall1 "extend" p = some (o, q)) (ha : PE X o (tE X.K c a)) (hq : PE X q (tE X.K c b)) : PE X p (tE X.K c (.ext a b)) :=
  m1 PySem.F.plainAttrs_list PySem.F.slot_list_extend PySem.F.type_list_extend mt_extend2 hb ha hq
    (bm1 (g := isLs) (f := extop) (fun s => rfl) (fun T s σ H ρ u vu r q g => isLs_ok r q g) fun T s σ H ρ u w vu vw Q r q q2 _ _ run => extop_ok r q q2 run)
end
end CH
/-! sorted(set(list of whole numbers)) -/
namespace CH
open PySem PySem.Spec PyProof.Rows L2
variable [Wsh]
abbrev so_ (w : World) : Obj := { cls := .type "set", dict := none, data := .set #[] 0 (.fresh 0 0 (!w.params.followText "set-order")) }
section
variable {P : Program} {w : World} {A : Around} {E : Value → Shared → Prop} {s : Shared}
set_option maxHeartbeats 4000000 in
theorem set_of_list {l : Addr} {items : Array Value} (ns : List Int) {Q : Value → Shared → Prop} (hh : A.handled = none) (hl : s.heap.IsList l items) (hit : IntsAre items.toList ns) (hb : ns.length + 1 < scanBound)
    (kq : ∀ (h' : Heap) (tk c : Nat), SetR w h' s.heap.objs.size (fun j => decide (j ∈ ns)) c → c ≤ ns.length → (∀ b o, s.heap.get? b = some o → h'.get? b = some o) → Q (.ref s.heap.objs.size) { s with heap := h', toks := tk }) : wpAny (model P w) A (call (.type "set") [.ref l]) Q E s := by
  have hisz : items.size = ns.length := by have z := IntsAre.length hit; rw [Array.length_toList] at z; exact z
  obtain ⟨cc, tl, hmro⟩ := F.called_set.mro; have hmade := F.called_set.made; have hsub := F.called_set.sub
  refine wpAny_call (codeAny_of_tree ?_); show wpAny _ _ (callAny (.type "set") _) _ _ _
  refine wpAny_pure ⟨Code.quiet_builtin _ (by decide +kernel), codeAny_builtin F.entry_type_call ?_⟩; rw [Around.under_plain (weight_type_call_type "set" [.ref l] []) rfl]
  have g1 := F.called_set.notType; have g2 := F.called_set.canCreate; have gct := F.typeCall_set_1 (.ref l)
  (repeat (any_goals (first | assumption | wp_step)))
  refine codeAny_mono (code_set_led1 (.ref l) (E := E) (Q₁ := fun obj z₁ => obj = .ref s.heap.objs.size ∧ z₁ = { s with heap := s.heap.push (so_ w) }) ⟨rfl, rfl⟩) fun rz z₁ hr => ?_
  cases rz with
  | error e => exact hr
  | ok fl =>
    cases fl with
    | ret obj =>
      obtain ⟨rfl, rfl⟩ := hr
      have hS : (s.heap.push (so_ w)).get? s.heap.objs.size = some (so_ w) := Heap.get?_push_size _ rfl
      have hT : Shared.TypeIs { s with heap := s.heap.push (so_ w) } (.ref s.heap.objs.size) "set" := ⟨_, hS, rfl⟩
      have hli := F.called_set.init.lookup; have hbi := F.called_set.init.bind (.ref s.heap.objs.size)
      (repeat (any_goals (first | assumption | wp_step)))
      refine codeAny_mono (codeAny_call_builtin (R := wants (fun r z₂ => r = .none ∧ ∃ h' tk c, z₂ = { s with heap := h', toks := tk } ∧ SetR w h' s.heap.objs.size (fun j => decide (j ∈ ns)) c ∧ c ≤ ns.length ∧ (∀ b o, s.heap.get? b = some o → h'.get? b = some o)) E) F.called_set.init.plain F.entry_set_init (check_set_init_1 hT ?_)) fun rz₂ z₂ hr₂ => ?_
      · obtain ⟨ol, hol, hcl, nl, hdl⟩ := hl
        obtain ⟨ocls, odict, odata, oslots⟩ := ol
        simp only at hcl hdl
        subst hcl; subst hdl
        have hol' : (s.heap.push (so_ w)).get? l = some { cls := .type "list", dict := odict, data := .seq items nl, slots := oslots } := Heap.get?_push_of_some _ hol
        have hsls := F.sub_list_set; have hslf := F.sub_list_frozenset; have hne : (Value.type "list" == Value.type "dict") = false := by decide
        have hl1 : (s.heap.push (so_ w)).IsList l items := ⟨_, hol', rfl, nl, rfl⟩
        unfold Builtin.«set.__init__» noKeywords Builtin.Frozenset.updateFrom; generalize hPI : pyIter = PI
        wp_walk
        subst hPI
        refine wpAny_pyIter_list hl1 (wpAny_bind (wpAny_runValue ?_))
        have hlS : l < s.heap.objs.size := Heap.lt_size hol
        have hh3 : A.in1.in1.in1.handled = none := by simp [hh]
        have hneI : l ≠ (s.heap.push (so_ w)).objs.size := by rw [Heap.size_push]; exact Nat.ne_of_lt (Nat.lt_succ_of_lt hlS)
        have hSf : s.heap.objs.size ∉ [(s.heap.push (so_ w)).objs.size, l] := by rw [Heap.size_push]; simp only [List.mem_cons, List.mem_singleton, List.not_mem_nil, or_false, not_or]; exact ⟨Nat.ne_of_lt (Nat.lt_succ_self _), Nat.ne_of_gt hlS⟩
        have hval : ∀ (i : Nat) (v : Value), items[i]? = some v → ∃ k t, ns[i]? = some k ∧ v = .int k t := fun i v hv => by
          have hi : i < ns.length := by rw [← hisz]; exact (Array.getElem?_eq_some_iff.mp hv).1
          obtain ⟨t, e⟩ := PyProof.Rows.IntsAre.int_at hit i v (by rw [Array.getElem?_toList]; exact hv); refine ⟨ns[i], t, List.getElem?_eq_getElem hi, ?_⟩
          rw [e, List.getD_eq_getElem?_getD, List.getElem?_eq_getElem hi]; rfl
        refine set_update_ints ((Walks.list hh3 _ l hneI items).toS) s.heap.objs.size hSf ns hisz hb hval (items.size - 0) 0 _ (by omega) (Nat.zero_le _) ⟨⟨_, Heap.get?_push_size _ rfl, rfl, rfl⟩, (hl1.push _)⟩ ?hS0 ?hR
        case hS0 => exact ⟨0, Nat.le_refl 0, setR_new_at (Heap.get?_push_of_some _ hS)⟩
        case hR =>
          intro z' c' hm hc' hS'
          obtain ⟨h', gg, dd, tk', oo⟩ := z'
          have eg : gg = s.gens := hm.gens
          have ed : dd = s.drawn := hm.drawn
          have eo : oo = s.os := hm.os
          subst eg ed eo
          show wpAny _ _ _ _ _ _
          refine wpAny_pure ?_; show wpAny _ _ (ret Value.none) _ _ _
          rw [hisz] at hc'
          refine wpAny_pure ⟨rfl, h', tk', c', rfl, hS', hc', fun b o e => ?_⟩
          have hb0 : b < s.heap.objs.size := Heap.lt_size e
          have hb2 : b ≠ (s.heap.push (so_ w)).objs.size := by rw [Heap.size_push]; exact Nat.ne_of_lt (Nat.lt_succ_of_lt hb0)
          exact hm.heap b o (by simp only [List.mem_cons, List.mem_singleton, List.not_mem_nil, or_false, not_or]; exact ⟨Nat.ne_of_lt hb0, hb2⟩) (Heap.get?_push_of_some _ (Heap.get?_push_of_some _ e))
      · cases rz₂ with
        | error e => exact hr₂
        | ok fl₂ =>
          cases fl₂ with
          | ret r =>
            obtain ⟨rfl, h', tk, c', rfl, hS', hc', hk'⟩ := hr₂
            (repeat (any_goals (first | assumption | wp_step)))
            exact kq _ _ _ hS' hc' hk'
          | _ => exact hr₂.elim
    | _ => exact hr.elim
end
theorem dedZ_mem : ∀ (l : List Int) (k : Int), k ∈ dedZ l ↔ k ∈ l
  | [], k => Iff.rfl
  | z :: r, k => by
    have ih := dedZ_mem r k
    unfold dedZ
    split
    · rename_i h
      rw [ih, List.mem_cons]
      exact ⟨.inr, fun h2 => h2.elim (fun e => e ▸ h) id⟩
    · rw [List.mem_cons, List.mem_cons, ih]
theorem dedZ_nodup : ∀ l : List Int, (dedZ l).Nodup
  | [] => List.nodup_nil
  | z :: r => by
    unfold dedZ
    split
    · exact dedZ_nodup r
    · rename_i h
      exact List.nodup_cons.mpr ⟨fun hz => h ((dedZ_mem r z).mp hz), dedZ_nodup r⟩
theorem nodup_of_lt : ∀ {l : List Int}, l.Pairwise (· < ·) → l.Nodup := fun h => h.imp fun {a b} (z : a < b) (e : a = b) => by omega
theorem dedZ_eq {ns l : List Int} (h1 : ns.Pairwise (· < ·)) (h2 : ∀ k, k ∈ ns ↔ k ∈ l) : ns = sortZ (dedZ l) := by
  have p : ns.Perm (dedZ l) := (List.perm_ext_iff_of_nodup (nodup_of_lt h1) (dedZ_nodup l)).mpr fun k => (h2 k).trans (dedZ_mem l k).symm
  exact PySem.W.ksm_same (p.trans (sortZ_perm (dedZ l)).symm) (h1.imp fun {a b} (z : a < b) => by omega) (sortZ_sorted (dedZ l))
section
variable {X : Cx} {c : Ctx} {T : Addr → Prop} {s : S} {σ : Sg} {H : Hp} {ρ : List Addr} {u w : R} {vu vw : V} {Q : VK}
def rSrtSet (K : PySem.W.Frag) : V → Hp → VK → Prop := fun x H Q => ∃ (a : Addr) (ns : List Int), x = .ref a ∧ SqL K H a (ns.map V.int) ∧ ns.length < 64 ∧ ∀ (out : List Int) (p : Addr), out.Pairwise (· < ·) → (∀ k, k ∈ out ↔ k ∈ ns) → H p = none → Q (.ref p) (upd H p (.lst (out.map V.int)))
theorem pe_srtSet {a : PySem.Expr} {ta : TE} {p p2 q pos : Pos} (hc : X.calm = true) (hg : Gl X "sorted") (hm : X.mg "sorted" = none) (hg2 : Gl X "set") (hm2 : X.mg "set" = none) (ha : PE X a ta)
    (na : starEach [a] X.env = (false, eval a X.env) :: starEach [] X.env) : PE X (.Call (.Name "sorted" p) [.Call (.Name "set" p2) [a] [] q] [] pos) (tUn (rSrtSet X.K) ta) := by
  refine ⟨fun pins s σ H Q I h => ?_⟩
  refine Call_ (ld_blt I hg hm boot_sorted (PyProof.Rows.callWith_builtin1 (PyProof.Rows.args_cons ?_ rfl) rfl rfl))
  refine Call_ (ld_blt I hg2 hm2 boot_set (PyProof.Rows.callWith_type1 (PyProof.Rows.args_cons (thn (ha.run pins s σ H _ I h) fun v s1 ⟨x, H1, I1, r1, q1⟩ => PyProof.Rows.args_nil ?_) na) na rfl))
  obtain ⟨l, ns, rfl, hq, h64, q1⟩ := q1
  cases r1
  obtain ⟨its, r, pl, hz⟩ := I1.list hq
  refine set_of_list ns (I1.ok.hd hc) pl.isList (by simpa using r.ints) (by unfold scanBound; omega) fun h' tk cn R1 hcn k => PyProof.Rows.args_nil ?_
  have I2 : Inv X pins σ H1 { s1 with heap := h', toks := tk } := I1.kept k
  have R2 : SetR X.w ({ s1 with heap := h', toks := tk } : Shared).heap s1.heap.objs.size (fun j => decide (j ∈ ns)) cn := R1
  generalize ({ s1 with heap := h', toks := tk } : Shared) = sX at I2 R2 ⊢
  refine sorted_set R2 (I2.ok.hd hc) (by omega) fun s' p out cc zs kk g o hp hgp hi hs hmem hl => ?_
  have hlen : (zs.map V.int).length ≤ sizeLine := by rw [List.length_map, hl, sizeLine_eq]; omega
  have hn : H1 p = none := I2.hok.fresh hp
  have J : Inv X pins σ (upd H1 p (.lst (zs.map V.int))) { sX with heap := s'.heap, gens := s'.gens, drawn := s'.drawn, toks := s'.toks } :=
    I2.call (ch := []) (Un.laid kk hp hn) (I2.hok.laid kk hp ⟨hlen, out.toList, cc, vals_of_ints hi, hgp⟩) (by rw [g]; exact I2.bare) (fun _ z => nomatch z)
  have e : s' = { sX with heap := s'.heap, gens := s'.gens, drawn := s'.drawn, toks := s'.toks } := by
    cases s'; cases sX; cases o; rfl
  rw [e]
  exact ⟨.ref p, _, J, rfl, q1 zs p hs (fun k => by rw [hmem k, decide_eq_true_eq]) hn⟩
theorem srtSop_ok (r : Rel X.K T s σ H ρ) (q : RpR X.K H (Uni (Own s σ ρ) T) ρ σ u vu) (run : Run kR X.K T s σ H ρ (srtSop u s) (fun _ v _ H' _ => Q v H')) : rSrtSet X.K vu H Q := by
  unfold srtSop at run
  split at run
  · rename_i l h1
    obtain ⟨a, vs, rfl, r1, _, t1, _⟩ := viewQ_ok r q h1
    have t1 := t1 rfl
    split at run
    · rename_i zs h2
      obtain ⟨cz, run⟩ := Run.req run
      have e := ints_ok r1 h2
      subst e
      refine ⟨a, zs, rfl, t1, of_decide_eq_true cz, fun out p hs hm hn => ?_⟩
      rw [dedZ_eq hs hm]
      exact run.new r hn (.lst (Rps.ofInts _))
    · exact run.elim
  · exact run.elim
theorem ok_srtSet (C : Cok X c) {a : E} {p q : PySem.Expr} {p1 : PySem.Expr} (hb : bcall X.env.scope "sorted" p = some p1) (hb2 : bcall X.env.scope "set" p1 = some q) (ha : PE X q (tE X.K c a)) : PE X p (tE X.K c (.srtSet a)) := by
  obtain ⟨k1, k2, rfl, hg, hs⟩ := bcall_ok hb
  obtain ⟨k3, k4, rfl, hg2, hs2⟩ := bcall_ok hb2
  have wk := one (r1 := rSrtSet X.K) (c := c) (a := a) (x := .srtSet a) (fun s => by simp only [evE]) fun T s σ H ρ u vu Q r q _ run => srtSop_ok r q run
  exact PEi (pe_srtSet C.calm (glC_ok rfl hg) (C.bl "sorted" (by decide +kernel)) (glC_ok rfl hg2) (C.bl "set" (by decide +kernel)) ha (star_of hs2)) wk
end
end CH
namespace CH
open PySem PySem.Spec PyProof.Rows L2
variable [Wsh]
section
variable {X : Cx} {c : Ctx} {T : Addr → Prop} {s : S} {σ : Sg} {H : Hp} {ρ : List Addr} {u w : R} {vu vw : V} {Q : VK}
theorem tyC_ok {t : Ty} {x : Str} (h : tyC t x = true) : x = Str.ofString (tyN t) ∧ x ∈ bnames ∧ bootBuiltins x = some (.type (tyN t)) := by
  cases t <;> (have e : x = _ := eq_of_beq h; subst e) <;> refine ⟨rfl, by decide +kernel, ?_⟩
  · exact PyProof.Rows.boot_int
  · exact PyProof.Rows.boot_bool
  · exact PyProof.Rows.boot_str
  · exact PyProof.Rows.boot_tuple
  · exact PyProof.Rows.boot_list
theorem isiop_ok {t : Ty} (r : Rel X.K T s σ H ρ) (q : RpR X.K H (Uni (Own s σ ρ) T) ρ σ u vu) (run : Run kR X.K T s σ H ρ (isiop u t s) (fun _ v _ H' _ => Q v H')) : rIsi X.K [vu, .ty (tyN t)] H Q := by
  unfold isiop at run
  split at run
  · exact run.elim
  · exact run.elim
  · exact run.elim
  · rename_i i hi hf hx h1
    have n : clI i ≠ "object" := by
      cases i <;> first | (exact (hi _ rfl).elim) | (exact (hf _ _ rfl).elim) | (exact (hx _ _ rfl).elim) | (simp [clI]; done)
    have e := tyI_cl i t n
    have ty : TyX X.K H vu (.type (clI i)) := by
      rcases viewI_ok r q h1 with h | ⟨a, vs, l, rfl, rfl, h3, _⟩
      · exact h.tyx n
      · exact .base (.lst h3)
    have kt : PySem.W.kitOne X.K (.type (clI i)) (.type (tyN t)) = some (tyI i t) := by
      rw [e]
      refine kit_tab X.K _ ?_ _ ?_
      · cases i <;> first | (simp [clI]; done) | exact absurd rfl n
      · cases t <;> simp [tyN]
    exact ⟨vu, _, _, _, _, rfl, .ty _, ty, kt, run.valQ r (.bl _)⟩
  · exact run.elim
theorem ok_isi (C : Cok X c) {a : E} {t : Ty} {p q : PySem.Expr} {x : Str} {xp : Pos} (hb : bcall2 X.env.scope "isinstance" p = some (q, .Name x xp)) (ha : PE X q (tE X.K c a)) (ht : tyC t x = true) (hg2 : glC X.env.scope x = true) : PE X p (tE X.K c (.isi a t)) := by
  obtain ⟨p1, p2, rfl, hg, hs, hs2⟩ := bcall2_ok hb
  obtain ⟨e1, e2, e3⟩ := tyC_ok ht
  have hn2 := bnames_ok x e2
  have hx : ∀ s, evE c (.isi a t) s = (evE c a s).bind fun u s1 => isiop u t s1 := fun s => rfl
  refine PEi (pe_callB call_isi (glC_ok rfl hg) (C.bl "isinstance" (by decide +kernel)) PyProof.Rows.boot_isinstance (pa_cons ha (pa_cons (pe_bltn (v := .ty (tyN t)) (glC_ok rfl hg2) (C.bl x e2) e3 rfl hn2.1 hn2.2) pa_nil (star_of hs2)) (star_of hs)) (by decide) (by decide) (star_of hs) (by rw [star_of hs2]; rfl)) ?_
  exact one (r1 := fun v H Q => rIsi X.K [v, .ty (tyN t)] H Q) hx fun T s σ H ρ u vu Q r q _ run => isiop_ok r q run
theorem ok_chain (C : Cok X c) {o o' : Cp} {a b d : E} {l m r : PySem.Expr} {q q' : CmpOp} {pos : Pos} (ho : cpC o q = true) (ho' : cpC o' q' = true) (ha : PE X l (tE X.K c a)) (hb : PE X m (tE X.K c b)) (hd : PE X r (tE X.K c d)) : PE X (.Compare l [q, q'] [m, r] pos) (tE X.K c (.chain o o' a b d)) := by
  have hm : lastMarks [q, q'] [m, r] = false := nobehind r (cpC_ne ho').1 (cpC_ne ho').2
  refine PEi (pe_chain (op_cp C ho) (op_cp C ho') ha hb hd hm) ?_
  intro σ H Q ⟨T, s, ρ, rel, run⟩
  have hx : evE c (.chain o o' a b d) s = (evE c a s).bind fun x s1 => (evE c b s1).bind fun y s2 => (cmpop o x y s2).bind fun z s3 => match z with
    | .val (.bl true) => (evE c d s3).bind fun w s4 => cmpop o' y w s4
    | .val (.bl false) => .ok (.val (.bl false)) s3
    | _ => .bad := rfl
  rw [hx] at run
  refine ⟨T, s, ρ, rel, (Run.bind (k' := kR) kR_anti run).mono fun u vu s1 H1 ρ1 rel1 st1 p1 q1 d1 run1 => ?_⟩
  refine ⟨_, s1, ρ1, rel1, (Run.bind (k' := kR) kR_anti run1).mono fun w vw s2 H2 ρ2 rel2 st2 p2 q2 d2 run2 => ?_⟩
  refine cp_ok rel2 (q1.stay st2 rel1 p2 fun a h => .inr h) q2 ((Run.bind (k' := kR) kR_anti run2).mono fun z vz s3 H3 ρ3 rel3 st3 p3 q3 d3 run3 => ?_)
  split at run3
  · cases kRbl q3
    refine ⟨true, rfl, ?_⟩
    rw [if_pos rfl]
    refine ⟨_, s3, ρ3, rel3, (Run.bind (k' := kR) kR_anti run3).mono fun v4 vv4 s4 H4 ρ4 rel4 st4 p4 q4 d4 run4 => ?_⟩
    exact cp_ok rel4 ((q2.stay st3 rel2 p3 fun a h => .inr h).stay st4 rel3 p4 fun a h => .inl (.inr h)) q4 run4
  · cases kRbl q3
    refine ⟨false, rfl, ?_⟩
    rw [if_neg (by decide)]
    exact run3.valQ rel3 (.bl _)
  · exact run3.elim
/-! ### arguments of a call -/
def tOfs : List R → List V → Addr → Prop
  | x :: xs, v :: vs => Uni (tOf x v) (tOfs xs vs)
  | _, _ => fun _ => False
inductive RpRs (K : PySem.W.Frag) (H : Hp) (W : Addr → Prop) (ρ : List Addr) (σ : Sg) : List R → List V → Prop where
  | nil : RpRs K H W ρ σ [] []
  | cons {x : R} {v : V} {xs : List R} {vs : List V} : RpR K H W ρ σ x v → RpRs K H W ρ σ xs vs → (∀ a, tOf x v a → ¬ tOfs xs vs a) → RpRs K H W ρ σ (x :: xs) (v :: vs)
def kRs : Kd (List R) (List V) := ⟨tOfs, RpRs⟩
theorem RpRs.less {K : PySem.W.Frag} {W W' : Addr → Prop} (m : ∀ b, W b → Mu (H b)) (w : ∀ b, W' b → W b) : ∀ {xs : List R} {vs : List V}, RpRs K H W ρ σ xs vs → RpRs K H W' ρ σ xs vs
  | _, _, .nil => .nil
  | _, _, .cons q r d => .cons (q.less m w) (r.less m w) d
theorem kRs_anti : kRs.Anti := fun h m w => RpRs.less m w h
def tEs (K : PySem.W.Frag) (c : Ctx) (es : List E) : TA := fun σ H Q => ∃ T s ρ, Rel K T s σ H ρ ∧ Run kRs K T s σ H ρ (evEs c es s) fun _ vs _ H' _ => Q vs H'
theorem es_nil : PA X [] (tEs X.K c []) := by
  refine PAi pa_nil ?_
  intro σ H Q ⟨T, s, ρ, rel, run⟩
  exact run.leaf (k := kRs) (b := []) rel (fun _ z => z) kRs_anti .nil
/-- held things, counted otherwise -/
theorem Uni.assoc {A B C : Addr → Prop} (b : Addr) : Uni A (Uni B C) b ↔ Uni (Uni A B) C b := ⟨fun h => h.elim (fun z => .inl (.inl z)) fun h => h.elim (fun z => .inl (.inr z)) .inr, fun h => h.elim (fun h => h.elim .inl fun z => .inr (.inl z)) fun z => .inr (.inr z)⟩
theorem es_cons {e : E} {es : List E} {p : PySem.Expr} {ps : List PySem.Expr} (hs : notStar p = true) (ha : PE X p (tE X.K c e)) (hb : PA X ps (tEs X.K c es)) : PA X (p :: ps) (tEs X.K c (e :: es)) := by
  refine PAi (pa_cons ha hb (star_of hs)) ?_
  intro σ H Q ⟨T, s, ρ, rel, run⟩
  have hx : evEs c (e :: es) s = (evE c e s).bind fun x s1 => (evEs c es s1).bind fun xs s2 => .ok (x :: xs) s2 := rfl
  rw [hx] at run
  refine ⟨T, s, ρ, rel, (Run.bind0 (k' := kR) run).mono fun u vu s1 H1 ρ1 rel1 st1 p1 q1 d1 run1 => ?_⟩
  refine ⟨Uni T (tOf u vu), s1, ρ1, rel1, ?_⟩
  cases hr : evEs c es s1 with
  | exc _ _ _ =>
    rw [hr] at run1
    exact Xc.from run1 st1 p1 fun z x => .inl x
  | bad => rw [hr] at run1; exact run1.elim
  | ok xs s2 =>
    rw [hr] at run1
    intro vs H2 ρ2 rel2 st2 p2 q2 d2
    have ass : ∀ b, Uni T (tOfs (u :: xs) (vu :: vs)) b → Uni (Uni T (tOf u vu)) (tOfs xs vs) b := fun b => (Uni.assoc b).mp
    have ass2 : ∀ b, Uni (Uni T (tOf u vu)) (tOfs xs vs) b → Uni T (tOfs (u :: xs) (vu :: vs)) b := fun b => (Uni.assoc b).mpr
    have st := st1.trans st2
    refine run1 (vu :: vs) H2 ρ2 (rel2.drop ass) (st.drop ass fun b h => .inl h) (p1.trans p2) ?_ ?_
    · refine RpRs.less rel2.mt (fun b h => h.imp id (ass b)) ?_
      exact .cons (q1.stay st2 rel1 p2 fun a h => .inr h) q2 fun a h g => d2 a g (.inr h)
    · intro b h t
      rcases h with h | h
      · exact d1 b h t
      · exact d2 b h (.inl t)
end
end CH
namespace CH
open PySem PySem.Spec PyProof.Rows L2
variable [Wsh]
section
variable {K : PySem.W.Frag} {T : Addr → Prop} {s : S} {σ : Sg} {H : Hp} {ρ : List Addr} {xs : List R} {vs : List V} {ds : List D}
theorem RpRs.length {W : Addr → Prop} : ∀ {xs : List R} {vs : List V}, RpRs K H W ρ σ xs vs → xs.length = vs.length
  | _, _, .nil => rfl
  | _, _, .cons _ r _ => by rw [List.length_cons, List.length_cons, r.length]
theorem asD_var {j : Nat} {s : S} {d : D} (h : asD (.var j) s = some d) : ∃ o, s.g j = some (.ob o) ∧ d = .ob o := by
  have h : (match s.g j with | some (.ob o) => some (D.ob o) | _ => none) = some d := h
  split at h
  · rename_i o ho
    cases h; exact ⟨o, ho, rfl⟩
  · cases h
theorem asDs_cons {x : R} {r : List R} {s : S} {ds : List D} (h : asDs (x :: r) s = some ds) : ∃ d t, asD x s = some d ∧ asDs r s = some t ∧ ds = d :: t := by
  unfold asDs at h
  split at h
  · cases h; exact ⟨_, _, by assumption, by assumption, rfl⟩
  · cases h
theorem asDs_len : ∀ {xs : List R} {ds : List D}, asDs xs s = some ds → xs.length = ds.length
  | [], _, h => by cases h; rfl
  | x :: r, _, h => by
    obtain ⟨d, t, h1, h2, rfl⟩ := asDs_cons h
    rw [List.length_cons, List.length_cons, asDs_len h2]
/-- the k-th argument -/
theorem asDs_get : ∀ {xs : List R} {ds : List D} {k : Nat} {d : D}, asDs xs s = some ds → ds[k]? = some d → ∃ x, xs[k]? = some x ∧ asD x s = some d
  | [], _, _, _, h, e => by cases h; simp at e
  | x :: r, _, 0, d, h, e => by
    obtain ⟨d', t, h1, h2, rfl⟩ := asDs_cons h
    have : d' = d := by simpa using e
    subst this
    exact ⟨x, rfl, h1⟩
  | x :: r, _, k + 1, d, h, e => by
    obtain ⟨d', t, h1, h2, rfl⟩ := asDs_cons h
    obtain ⟨y, g1, g2⟩ := asDs_get h2 (by simpa using e)
    exact ⟨y, by simpa using g1, g2⟩
theorem RpRs.get {W : Addr → Prop} : ∀ {xs : List R} {vs : List V} {k : Nat} {x : R}, RpRs K H W ρ σ xs vs → xs[k]? = some x → ∃ v, vs[k]? = some v ∧ RpR K H W ρ σ x v ∧ (∀ a, tOf x v a → tOfs xs vs a)
  | _, _, _, _, .nil, e => by simp at e
  | _, _, 0, _, .cons q _ _, e => by simp at e; subst e; exact ⟨_, rfl, q, fun a h => .inl h⟩
  | _, _, k + 1, x, .cons _ r _, e => by
    obtain ⟨v, g1, g2, g3⟩ := RpRs.get r (by simpa using e)
    exact ⟨v, by simpa using g1, g2, fun a h => .inr (g3 a h)⟩
/-- two temporaries at one address are one -/
theorem RpRs.tmps {W : Addr → Prop} : ∀ {xs : List R} {vs : List V} {k j : Nat} {x y : R} {v u : V} {a : Addr}, RpRs K H W ρ σ xs vs → xs[k]? = some x → xs[j]? = some y → vs[k]? = some v → vs[j]? = some u → tOf x v a → tOf y u a → k = j
  | _, _, _, _, _, _, _, _, _, .nil, e, _, _, _, _, _ => by simp at e
  | _, _, 0, 0, _, _, _, _, _, .cons _ _ _, _, _, _, _, _, _ => rfl
  | _, _, 0, j + 1, x, y, v, u, a, .cons q r d, e, f, g, h, i, i' => by
    simp at e g; subst e g
    obtain ⟨u', g1, _, g3⟩ := RpRs.get r (by simpa using f)
    have : u' = u := by
      have h' := h
      simp only [List.getElem?_cons_succ] at h'
      rw [g1] at h'; exact Option.some.inj h'
    subst this
    exact absurd (g3 a i') (d a i)
  | _, _, k + 1, 0, x, y, v, u, a, .cons q r d, e, f, g, h, i, i' => by
    simp at f h; subst f h
    obtain ⟨u', g1, _, g3⟩ := RpRs.get r (by simpa using e)
    have : u' = v := by
      have h' := g
      simp only [List.getElem?_cons_succ] at h'
      rw [g1] at h'; exact Option.some.inj h'
    subst this
    exact absurd (g3 a i) (d a i')
  | _, _, k + 1, j + 1, _, _, _, _, _, .cons _ r _, e, f, g, h, i, i' => congrArg (· + 1) (RpRs.tmps r (k := k) (j := j) (by simpa using e) (by simpa using f) (by simpa using g) (by simpa using h) i i')
theorem mem_vars {k : Nat} : ∀ {xs : List R}, k ∈ vars xs ↔ .var k ∈ xs
  | [] => by simp [vars]
  | .val _ :: r => by simp [vars, mem_vars (xs := r)]
  | .tmp _ :: r => by simp [vars, mem_vars (xs := r)]
  | .var j :: r => by simp [vars, mem_vars (xs := r)]
theorem vars_inj : ∀ {xs : List R} {k j i : Nat}, (vars xs).Nodup → xs[k]? = some (.var i) → xs[j]? = some (.var i) → k = j
  | [], _, _, _, _, e, _ => by simp at e
  | x :: r, 0, 0, _, _, _, _ => rfl
  | x :: r, 0, j + 1, i, h, e, f => by
    simp at e; subst e
    unfold vars at h
    exact absurd (mem_vars.mpr (List.mem_of_getElem? (show r[j]? = some (.var i) by simpa using f))) (List.nodup_cons.mp h).1
  | x :: r, k + 1, 0, i, h, e, f => by
    simp at f; subst f
    unfold vars at h
    exact absurd (mem_vars.mpr (List.mem_of_getElem? (show r[k]? = some (.var i) by simpa using e))) (List.nodup_cons.mp h).1
  | x :: r, k + 1, j + 1, i, h, e, f => by
    have h' : (vars r).Nodup := by
      cases x <;> unfold vars at h <;> first | exact h | exact (List.nodup_cons.mp h).2
    exact congrArg (· + 1) (vars_inj h' (k := k) (j := j) (by simpa using e) (by simpa using f))
/-- what the callee leaves alone: the caller's other objects, and what is held -/
def Oth (T : Addr → Prop) (s : S) (σ : Sg) (vs : List Nat) : Addr → Prop := fun a => T a ∨ ∃ k o, s.g k = some (.ob o) ∧ σ[k]? = some (some (V.ref a)) ∧ k ∉ vs
abbrev frame (ds : List D) (hp : List O) : S := ⟨ds.map some, hp⟩
theorem frame_g {ds : List D} {hp : List O} {k : Nat} {d : D} : (frame ds hp).g k = some d ↔ ds[k]? = some d := by
  unfold S.g
  show (ds.map some).getD k none = some d ↔ _
  rw [List.getD_eq_getElem?_getD, List.getElem?_map]
  cases ds[k]? <;> simp
theorem slot_v {vs : List V} {k : Nat} {v : V} : (vs.map some)[k]? = some (some v) ↔ vs[k]? = some v := by
  rw [List.getElem?_map]
  cases vs[k]? <;> simp
/-- where a callee's owned parameter lies -/
theorem par_own (r : Rel K (Uni T (tOfs xs vs)) s σ H ρ) {W : Addr → Prop} (q : RpRs K H W ρ σ xs vs) (e : asDs xs s = some ds) {k : Nat} {o : O} {a : Addr} (hk : ds[k]? = some (.ob o)) (hv : vs[k]? = some (V.ref a)) :
    (∃ o', xs[k]? = some (.tmp o') ∧ tOf (.tmp o') (V.ref a) a ∧ tOfs xs vs a ∧ o' = o) ∨ ∃ j, xs[k]? = some (.var j) ∧ s.g j = some (.ob o) ∧ σ[j]? = some (some (V.ref a)) := by
  obtain ⟨x, h1, h2⟩ := asDs_get e hk
  obtain ⟨v, g1, g2, g3⟩ := q.get h1
  rw [hv] at g1; cases g1
  cases x with
  | val i => cases h2
  | tmp o' =>
    cases h2
    exact .inl ⟨o, h1, rfl, g3 a rfl, rfl⟩
  | var j =>
    obtain ⟨o', f1, f2⟩ := asD_var h2
    cases f2
    exact .inr ⟨j, h1, f1, g2⟩
theorem par_sub (r : Rel K (Uni T (tOfs xs vs)) s σ H ρ) {W : Addr → Prop} (q : RpRs K H W ρ σ xs vs) (e : asDs xs s = some ds) : ∀ b, Own (frame ds s.hp) (vs.map some) ρ b → Own s σ ρ b ∨ tOfs xs vs b := by
  rintro b (⟨k, o, h1, h2⟩ | h)
  · rcases par_own r q e (frame_g.mp h1) (slot_v.mp h2) with ⟨o', _, _, h, _⟩ | ⟨j, _, h3, h4⟩
    · exact .inr h
    · exact .inl (.inl ⟨j, o, h3, h4⟩)
  · exact .inl (.inr h)
theorem oth_off (r : Rel K (Uni T (tOfs xs vs)) s σ H ρ) {W : Addr → Prop} (q : RpRs K H W ρ σ xs vs) (e : asDs xs s = some ds) (dT : ∀ b, tOfs xs vs b → ¬ T b) : ∀ b, Oth T s σ (vars xs) b → ¬ Own (frame ds s.hp) (vs.map some) ρ b := by
  rintro b (ht | ⟨k, o, h1, h2, h3⟩) hw
  · rcases par_sub r q e b hw with h | h
    · exact (r.tm b (.inl ht)).2 h
    · exact dT b h ht
  · rcases hw with ⟨j, o', g1, g2⟩ | g
    · rcases par_own r q e (frame_g.mp g1) (slot_v.mp g2) with ⟨_, _, _, h, _⟩ | ⟨i, f1, f3, f4⟩
      · exact (r.tm b (.inr h)).2 (.inl ⟨k, o, h1, h2⟩)
      · have := r.dj k i b o o' h1 f3 h2 f4
        subst this
        exact h3 (mem_vars.mpr (List.mem_of_getElem? f1))
    · obtain ⟨a, y, _, n⟩ := r.ob k o h1
      rw [h2] at y; cases y
      exact n g
/-- the callee's begin -/
theorem enter (r : Rel K (Uni T (tOfs xs vs)) s σ H ρ) (q : RpRs K H (Uni (Own s σ ρ) (Uni T (tOfs xs vs))) ρ σ xs vs) (e : asDs xs s = some ds) (nd : (vars xs).Nodup) (dT : ∀ b, tOfs xs vs b → ¬ T b) :
    Rel K (Oth T s σ (vars xs)) (frame ds s.hp) (vs.map some) H ρ := by
  have sub : ∀ b, Uni (Own (frame ds s.hp) (vs.map some) ρ) (Oth T s σ (vars xs)) b → Uni (Own s σ ρ) (Uni T (tOfs xs vs)) b := fun b h => h.elim (fun h => (par_sub r q e b h).elim .inl fun h => .inr (.inr h)) fun h => h.elim (fun h => .inr (.inl h)) fun ⟨k, o, h1, h2, _⟩ => .inl (.inl ⟨k, o, h1, h2⟩)
  have ln : ds.length = vs.length := by rw [← asDs_len e, q.length]
  refine ⟨by show (ds.map some).length = (vs.map some).length; rw [List.length_map, List.length_map, ln], fun k i h => ?_, fun k o h => ?_, fun k j a o o' h1 h2 h3 h4 => ?_, r.hl, fun n o a h1 h2 => (r.bx n o a h1 h2).stay (Stay.less r.mt sub) fun _ z => z, r.nd, fun b h => ⟨?_, oth_off r q e dT b h⟩⟩
  · have h := frame_g.mp h
    obtain ⟨x, h1, h2⟩ := asDs_get e h
    obtain ⟨v, g1, g2, g3⟩ := q.get h1
    refine ⟨v, slot_v.mpr g1, ?_⟩
    cases x with
    | val i' =>
      cases h2
      exact Rp.less g2 r.mt sub
    | tmp o => cases h2
    | var j =>
      obtain ⟨o', f1, f2⟩ := asD_var h2
      cases f2
  · have h := frame_g.mp h
    obtain ⟨x, h1, h2⟩ := asDs_get e h
    obtain ⟨v, g1, g2, g3⟩ := q.get h1
    cases x with
    | val i => cases h2
    | tmp o' =>
      cases h2
      obtain ⟨a, rfl, p⟩ := g2
      exact ⟨a, slot_v.mpr g1, p.stay (Stay.less r.mt sub) (fun _ z => z), fun z => (r.tm a (.inr (g3 a rfl))).2 (.inr z)⟩
    | var j =>
      obtain ⟨o', hj, f2⟩ := asD_var h2
      cases f2
      obtain ⟨a, y, p, n⟩ := r.ob j o hj
      have g2' : σ[j]? = some (some v) := g2
      rw [y] at g2'; cases g2'
      exact ⟨a, slot_v.mpr g1, p.stay (Stay.less r.mt sub) (fun _ z => z), n⟩
  · have h1 := frame_g.mp h1
    have h2 := frame_g.mp h2
    have h3 := slot_v.mp h3
    have h4 := slot_v.mp h4
    rcases par_own r q e h1 h3 with ⟨_, f1, f2, f3, _⟩ | ⟨i, f1, f2, f3⟩ <;> rcases par_own r q e h2 h4 with ⟨_, g1, g2, g3, _⟩ | ⟨i', g1, g2, g3⟩
    · exact q.tmps f1 g1 h3 h4 f2 g2
    · exact absurd (.inl ⟨i', _, g2, g3⟩) (r.tm a (.inr f3)).2
    · exact absurd (.inl ⟨i, _, f2, f3⟩) (r.tm a (.inr g3)).2
    · have := r.dj i i' a _ _ f2 g2 f3 g3
      subst this
      exact vars_inj nd f1 g1
  · rcases h with h | ⟨k, o, h1, h2, _⟩
    · exact (r.tm b (.inl h)).1
    · obtain ⟨a, y, ⟨u, hu, ru⟩, _⟩ := r.ob k o h1
      rw [h2] at y; cases y
      exact ⟨u, hu, ru.mut⟩
/-! ### behind the call -/
theorem outs_len : ∀ {xs : List R} {as env env' : List (Option D)}, outs xs as env = some env' → env'.length = env.length
  | [], [], _, _, h => by cases h; rfl
  | [], _ :: _, _, _, h => by cases h
  | x :: r, [], _, _, h => by cases x <;> cases h
  | .var k :: r, some d :: t, env, env', h => by
    have := outs_len (show outs r t (env.set k (some d)) = some env' from h)
    rw [this, List.length_set]
  | .var k :: r, none :: t, _, _, h => by cases h
  | .val i :: r, _ :: t, env, env', h => outs_len (show outs r t env = some env' from h)
  | .tmp i :: r, _ :: t, env, env', h => outs_len (show outs r t env = some env' from h)
theorem outs_get : ∀ {xs : List R} {as env env' : List (Option D)} {j : Nat} {d : D}, outs xs as env = some env' → env'.getD j none = some d → (∃ k : Nat, xs[k]? = some (R.var j) ∧ as[k]? = some (some d)) ∨ (j ∉ vars xs ∧ env.getD j none = some d)
  | [], [], _, _, _, _, h, e => by cases h; exact .inr ⟨by simp [vars], e⟩
  | [], _ :: _, _, _, _, _, h, _ => by cases h
  | x :: r, [], _, _, _, _, h, _ => by cases x <;> cases h
  | .var k :: r, none :: t, _, _, _, _, h, _ => by cases h
  | .var k :: r, some d' :: t, env, env', j, d, h, e => by
    rcases outs_get (show outs r t (env.set k (some d')) = some env' from h) e with ⟨i, h1, h2⟩ | ⟨h1, h2⟩
    · exact .inl ⟨i + 1, by simpa using h1, by simpa using h2⟩
    · by_cases q : j = k
      · subst q
        rw [List.getD_eq_getElem?_getD] at h2
        by_cases hl : j < env.length
        · rw [List.getElem?_set_self hl] at h2
          have h2 : some d' = some d := h2
          cases h2
          exact .inl ⟨0, rfl, rfl⟩
        · rw [List.getElem?_eq_none (by rw [List.length_set]; omega)] at h2; cases h2
      · rw [List.getD_eq_getElem?_getD, List.getElem?_set_ne (Ne.symm q), ← List.getD_eq_getElem?_getD] at h2
        exact .inr ⟨by unfold vars; exact fun z => (List.mem_cons.mp z).elim q h1, h2⟩
  | .val i :: r, _ :: t, env, env', j, d, h, e => by
    rcases outs_get (show outs r t env = some env' from h) e with ⟨i, h1, h2⟩ | h
    · exact .inl ⟨i + 1, by simpa using h1, by simpa using h2⟩
    · exact .inr h
  | .tmp i :: r, _ :: t, env, env', j, d, h, e => by
    rcases outs_get (show outs r t env = some env' from h) e with ⟨i, h1, h2⟩ | h
    · exact .inl ⟨i + 1, by simpa using h1, by simpa using h2⟩
    · exact .inr h
theorem msk_get : ∀ {ds : List D} {as : List (Option D)} {k : Nat} {d : D}, (msk ds as)[k]? = some (some d) ↔ ∃ o, ds[k]? = some (.ob o) ∧ as[k]? = some (some d)
  | [], as, k, d => by simp [msk]
  | .ob o :: r, [], k, d => by simp [msk]
  | .im i :: r, [], k, d => by simp [msk]
  | .ob o :: r, a :: t, 0, d => by simp [msk]
  | .im i :: r, a :: t, 0, d => by simp [msk]
  | .ob o :: r, a :: t, k + 1, d => by
    have := msk_get (ds := r) (as := t) (k := k) (d := d)
    simpa [msk] using this
  | .im i :: r, a :: t, k + 1, d => by
    have := msk_get (ds := r) (as := t) (k := k) (d := d)
    simpa [msk] using this
theorem g_get {env : List (Option D)} {hp : List O} {k : Nat} {d : D} : (⟨env, hp⟩ : S).g k = some d ↔ env[k]? = some (some d) := by
  unfold S.g
  rw [List.getD_eq_getElem?_getD]
  cases env[k]? <;> simp
section
variable {as : List (Option D)} {env' : List (Option D)} {hp' : List O} {d : D} {v : V} {H' : Hp} {ρ' : List Addr}
theorem leave (r : Rel K (Uni T (tOfs xs vs)) s σ H ρ) (q : RpRs K H (Uni (Own s σ ρ) (Uni T (tOfs xs vs))) ρ σ xs vs) (e : asDs xs s = some ds) (dT : ∀ b, tOfs xs vs b → ¬ T b) (ho : outs xs as s.env = some env')
    (r' : Rel K (Uni (Oth T s σ (vars xs)) (tOf (ofD d) v)) ⟨msk ds as, hp'⟩ (vs.map some) H' ρ') (st : Stp H (Own (frame ds s.hp) (vs.map some) ρ) (Oth T s σ (vars xs)) H' (Own ⟨msk ds as, hp'⟩ (vs.map some) ρ') (Uni (Oth T s σ (vars xs)) (tOf (ofD d) v))) (p : Pre ρ ρ')
    (q' : RpR K H' (Uni (Own ⟨msk ds as, hp'⟩ (vs.map some) ρ') (Uni (Oth T s σ (vars xs)) (tOf (ofD d) v))) ρ' (vs.map some) (ofD d) v) (d' : ∀ b, tOf (ofD d) v b → ¬ Oth T s σ (vars xs) b) :
    Rel K (Uni T (tOf (ofD d) v)) ⟨env', hp'⟩ σ H' ρ' ∧ RpR K H' (Uni (Own ⟨env', hp'⟩ σ ρ') (Uni T (tOf (ofD d) v))) ρ' σ (ofD d) v ∧
    (∀ b u, H b = some u → ¬ Own s σ ρ b → ¬ tOfs xs vs b → H' b = some u) ∧ (∀ b, Own ⟨env', hp'⟩ σ ρ' b ∨ Uni T (tOf (ofD d) v) b → Own s σ ρ b ∨ Uni T (tOfs xs vs) b ∨ H b = none) := by
  -- an argument's name
  have arg : ∀ (k j : Nat), xs[k]? = some (R.var j) → ∃ (o : O) (u : V), ds[k]? = some (D.ob o) ∧ s.g j = some (D.ob o) ∧ vs[k]? = some u ∧ σ[j]? = some (some u) := fun k j h => by
    obtain ⟨u, g1, g2, _⟩ := q.get h
    have hl : k < ds.length := by rw [← asDs_len e]; exact (List.getElem?_eq_some_iff.mp h).1
    obtain ⟨x, h1, h2⟩ := asDs_get e (List.getElem?_eq_getElem hl)
    rw [h] at h1; cases h1
    obtain ⟨o, f1, f2⟩ := asD_var h2
    exact ⟨o, u, by rw [List.getElem?_eq_getElem hl, f2], f1, g1, g2⟩
  have cas : ∀ (j : Nat) (x : D), (⟨env', hp'⟩ : S).g j = some x → (∃ k : Nat, xs[k]? = some (R.var j) ∧ (⟨msk ds as, hp'⟩ : S).g k = some x) ∨ (j ∉ vars xs ∧ s.g j = some x) := fun j x h => by
    rcases outs_get ho (show env'.getD j none = some x from h) with ⟨k, h1, h2⟩ | h
    · obtain ⟨o, u, f1, _⟩ := arg k j h1
      exact .inl ⟨k, h1, g_get.mpr (msk_get.mpr ⟨o, f1, h2⟩)⟩
    · exact .inr h
  have ow : ∀ b, Own ⟨env', hp'⟩ σ ρ' b → Own ⟨msk ds as, hp'⟩ (vs.map some) ρ' b ∨ ∃ (k : Nat) (o : O), s.g k = some (.ob o) ∧ σ[k]? = some (some (V.ref b)) ∧ k ∉ vars xs := by
    rintro b (⟨j, o, h1, h2⟩ | h)
    · rcases cas j _ h1 with ⟨k, f1, f2⟩ | ⟨f1, f2⟩
      · obtain ⟨o', u, _, _, g1, g2⟩ := arg k j f1
        rw [h2] at g2; cases g2
        exact .inl (.inl ⟨k, o, f2, slot_v.mpr g1⟩)
      · exact .inr ⟨j, o, f2, h2, f1⟩
    · exact .inl (.inr h)
  have sub : ∀ b, Uni (Own ⟨env', hp'⟩ σ ρ') (Uni T (tOf (ofD d) v)) b → Uni (Own ⟨msk ds as, hp'⟩ (vs.map some) ρ') (Uni (Oth T s σ (vars xs)) (tOf (ofD d) v)) b := fun b h =>
    h.elim (fun h => (ow b h).elim .inl fun h => .inr (.inl (.inr h))) fun h => h.elim (fun h => .inr (.inl (.inl h))) fun h => .inr (.inr h)
  have nw : ∀ b, Uni (Own ⟨msk ds as, hp'⟩ (vs.map some) ρ') (Uni (Oth T s σ (vars xs)) (tOf (ofD d) v)) b → Own s σ ρ b ∨ Uni T (tOfs xs vs) b ∨ H b = none := fun b h => by
    rcases st.new b h with h | h | h
    · exact (par_sub r q e b h).elim .inl fun h => .inr (.inl (.inr h))
    · rcases h with h | ⟨k, o, h1, h2, _⟩
      · exact .inr (.inl (.inl h))
      · exact .inl (.inl ⟨k, o, h1, h2⟩)
    · exact .inr (.inr h)
  have kp : ∀ b u, H b = some u → ¬ Own s σ ρ b → ¬ tOfs xs vs b → H' b = some u := fun b u h h1 h2 => st.keep b u h fun z => (par_sub r q e b z).elim h1 h2
  have sy : Stay H (Uni (Own s σ ρ) (Uni T (tOfs xs vs))) ρ H' (Uni (Own ⟨env', hp'⟩ σ ρ') (Uni T (tOf (ofD d) v))) ρ' :=
    ⟨fun b u h n => kp b u h (fun z => n (.inl z)) fun z => n (.inr (.inr z)), fun b h => (nw b (sub b h)).elim (fun z => .inl (.inl z)) fun z => z.elim (fun z => .inl (.inr z)) .inr, r.mt, p⟩
  have ls : Stay H' (Uni (Own ⟨msk ds as, hp'⟩ (vs.map some) ρ') (Uni (Oth T s σ (vars xs)) (tOf (ofD d) v))) ρ' H' (Uni (Own ⟨env', hp'⟩ σ ρ') (Uni T (tOf (ofD d) v))) ρ' := Stay.less r'.mt sub
  refine ⟨⟨by show env'.length = _; rw [outs_len ho]; exact r.len, fun j i h => ?_, fun j o h => ?_, fun j m a o o' h1 h2 h3 h4 => ?_, r'.hl, fun n o a h1 h2 => (r'.bx n o a h1 h2).stay ls fun _ z => z, r'.nd, fun b h => ⟨?_, fun w => ?_⟩⟩, ?_, kp, fun b h => nw b (sub b (h.elim .inl .inr))⟩
  · rcases cas j _ h with ⟨k, f1, f2⟩ | ⟨f1, f2⟩
    · obtain ⟨o', u, _, _, g1, g2⟩ := arg k j f1
      obtain ⟨w, y, pr⟩ := r'.im k i f2
      rw [slot_v, g1] at y; cases y
      exact ⟨u, g2, pr.stay ls⟩
    · obtain ⟨w, y, pr⟩ := r.im j i f2
      exact ⟨w, y, pr.stay sy⟩
  · rcases cas j _ h with ⟨k, f1, f2⟩ | ⟨f1, f2⟩
    · obtain ⟨o', u, _, _, g1, g2⟩ := arg k j f1
      obtain ⟨a, y, pr, n⟩ := r'.ob k o f2
      rw [slot_v, g1] at y; cases y
      exact ⟨a, g2, pr.stay ls fun _ z => z, n⟩
    · obtain ⟨a, y, pr, n⟩ := r.ob j o f2
      have oa : Oth T s σ (vars xs) a := .inr ⟨j, o, f2, y, f1⟩
      have na := oth_off r q e dT a oa
      exact ⟨a, y, pr.stay sy fun u hu => st.keep a u hu na, fun z => (r'.tm a (.inl oa)).2 (.inr z)⟩
  · have was : ∀ (j : Nat) (o : O), (⟨env', hp'⟩ : S).g j = some (.ob o) → ∃ o', s.g j = some (.ob o') := fun j o h => by
      rcases cas j _ h with ⟨k, f1, f2⟩ | ⟨f1, f2⟩
      · obtain ⟨o', u, _, g, _⟩ := arg k j f1
        exact ⟨o', g⟩
      · exact ⟨o, f2⟩
    obtain ⟨_, f1⟩ := was j o h1
    obtain ⟨_, f2⟩ := was m o' h2
    exact r.dj j m a _ _ f1 f2 h3 h4
  · rcases h with h | h
    · exact (r'.tm b (.inl (.inl h))).1
    · exact (r'.tm b (.inr h)).1
  · rcases ow b w with w | ⟨k, o, f1, f2, f3⟩
    · rcases h with h | h
      · exact (r'.tm b (.inl (.inl h))).2 w
      · exact (r'.tm b (.inr h)).2 w
    · rcases h with h | h
      · exact (r.tm b (.inl h)).2 (.inl ⟨k, o, f1, f2⟩)
      · exact d' b h (.inr ⟨k, o, f1, f2, f3⟩)
  · cases d with
    | im i => exact Rp.less q' r'.mt sub
    | ob o =>
      obtain ⟨a, ea, pr⟩ := q'
      exact ⟨a, ea, pr.stay ls fun _ z => z⟩
end
end
section
variable {X : Cx} {c : Ctx} {T : Addr → Prop} {s : S} {σ : Sg} {H : Hp} {ρ : List Addr}
theorem doCall_okP {f : String} {xs : List R} {s1 : S} {vs : List V} {H1 : Hp} {ρ1 : List Addr} {Q : VK} (run : Run kR X.K T s σ H ρ (doCall c f xs s1) (fun _ v _ H' ρ' => Pre ρ1 ρ' → Q v H'))
    (r : Rel X.K (Uni T (tOfs xs vs)) s1 σ H1 ρ1) (st : Stp H (Own s σ ρ) T H1 (Own s1 σ ρ1) (Uni T (tOfs xs vs))) (p : Pre ρ ρ1) (q : RpRs X.K H1 (Uni (Own s1 σ ρ1) (Uni T (tOfs xs vs))) ρ1 σ xs vs) (dT : ∀ b, tOfs xs vs b → ¬ T b) :
    spOf X.K c.cl f vs H1 Q (WE Wsh.w σ) := by
  unfold doCall at run
  split at run
  · rename_i ds e
    obtain ⟨nd, run⟩ := Run.req run
    have nd := of_decide_eq_true nd
    refine ⟨Oth T s1 σ (vars xs), ds, s1.hp, ρ1, enter r q e nd dT, ?_⟩
    split at run
    · rename_i d as hp' hc
      try rw [hc]
      split at run
      · rename_i env' ho
        intro v H' ρ' r' st' p' q' d'
        obtain ⟨a1, a2, a3, a4⟩ := leave r q e dT ho r' st' p' q' d'
        refine run v H' ρ' a1 ⟨fun b u hb nb => ?_, fun b h => ?_, fun b t => (a1.tm b (.inl t)).2, fun b h => .inl h, fun b ob u h => st'.fz b ob u (st.fz b ob u h)⟩ (p.trans p') a2 (fun b h t => d' b h (.inl t)) p'
        · refine a3 b u (st.keep b u hb nb) (fun w => ?_) fun w => ?_
          · rcases st.new b (.inl w) with z | z | z
            · exact nb z
            · exact st.dis b z w
            · rw [hb] at z; cases z
          · rcases st.new b (.inr (.inr w)) with z | z | z
            · exact nb z
            · exact dT b w z
            · rw [hb] at z; cases z
        · rcases a4 b h with z | z | z
          · exact st.new b (.inl z)
          · exact st.new b (.inr z)
          · cases hb : H b with
            | none => exact .inr (.inr rfl)
            | some u =>
              by_cases w : Own s σ ρ b
              · exact .inl w
              · have := st.keep b u hb w
                rw [z] at this; cases this
      · exact run.elim
    · rename_i e1 l as hp' hc
      try rw [hc]
      split at run
      · rename_i env' ho
        intro cls dd H' ρ' r' st' p' q'
        have z1 : ∀ z, Uni (Oth T s1 σ (vars xs)) (tOf (ofD (.im .non)) .non) z → Oth T s1 σ (vars xs) z := fun z h => h.elim id fun h => False.elim h
        have main : ∀ (i : CH.I) (v : V), Rp X.K H' (Uni (Own ⟨msk ds as, hp'⟩ (vs.map some) ρ') (Oth T s1 σ (vars xs))) ρ' i v → _ := fun i v hv => leave r q e dT ho (d := .im i) (v := v) (r'.drop fun z h => h.elim id fun h => False.elim h) (st'.drop (fun z h => h.elim id fun h => False.elim h) fun z h => .inl h) p' (Rp.less hv r'.mt fun z h => h.imp id fun h => h.elim id fun h => False.elim h) fun b h => False.elim h
        obtain ⟨a1, -, a3, a4⟩ := main .non .non .non
        have z2 : ∀ z, T z → Uni T (tOf (ofD (.im .non)) .non) z := fun z h => .inl h
        refine run cls dd H' ρ' (a1.drop z2) ⟨fun b u hb nb => ?_, fun b h => ?_, fun b t => (a1.tm b (.inl t)).2, fun b h => h, fun b ob u h => st'.fz b ob u (st.fz b ob u h)⟩ (p.trans p') ?_
        · refine a3 b u (st.keep b u hb nb) (fun w => ?_) fun w => ?_
          · rcases st.new b (.inl w) with z | z | z
            · exact nb z
            · exact st.dis b z w
            · rw [hb] at z; cases z
          · rcases st.new b (.inr (.inr w)) with z | z | z
            · exact nb z
            · exact dT b w z
            · rw [hb] at z; cases z
        · rcases a4 b (h.imp id .inl) with z | z | z
          · exact st.new b (.inl z)
          · exact st.new b (.inr z)
          · cases hb : H b with
            | none => exact .inr (.inr rfl)
            | some u =>
              by_cases w : Own s σ ρ b
              · exact .inl w
              · have := st.keep b u hb w
                rw [z] at this; cases this
        · obtain ⟨ec, el | ⟨f, i, v, da, e1, e2, e3, rv⟩⟩ := q'
          · exact ⟨ec, .inl el⟩
          · obtain ⟨b1, b2, -, -⟩ := main i v rv
            exact ⟨ec, .inr ⟨f, i, v, da, e1, e2, e3, Rp.less b2 b1.mt fun z h => h.imp id .inl⟩⟩
      · exact run.elim
    · exact run.elim
  · exact run.elim
theorem doCall_ok {f : String} {xs : List R} {s1 : S} {vs : List V} {H1 : Hp} {ρ1 : List Addr} {Q : VK} (run : Run kR X.K T s σ H ρ (doCall c f xs s1) (fun _ v _ H' _ => Q v H'))
    (r : Rel X.K (Uni T (tOfs xs vs)) s1 σ H1 ρ1) (st : Stp H (Own s σ ρ) T H1 (Own s1 σ ρ1) (Uni T (tOfs xs vs))) (p : Pre ρ ρ1) (q : RpRs X.K H1 (Uni (Own s1 σ ρ1) (Uni T (tOfs xs vs))) ρ1 σ xs vs) (dT : ∀ b, tOfs xs vs b → ¬ T b) :
    spOf X.K c.cl f vs H1 Q (WE Wsh.w σ) := doCall_okP (run.mono fun _ _ _ _ _ _ _ _ _ _ h _ => h) r st p q dT
end
end CH
namespace CH
open PySem PySem.Spec PyProof.Rows L2
variable [Wsh]
section
variable {X : Cx} {c : Ctx} {T : Addr → Prop} {s : S} {σ : Sg} {H : Hp} {ρ : List Addr}
theorem ok_call (C : Cok X c) {f : String} (hM : isM f = false) {es : List E} {p : PySem.Expr} {ps : List PySem.Expr} {x : Str} {xp pos : Pos} (hx : x = Str.ofString f) (hg : glC X.env.scope x = true) (hn : nameOk x = true) (hs : notStar p = true) (hss : (backTo pos (starEach ps X.env)).any (·.1) = false) (ha : PA X (p :: ps) (tEs X.K c es)) : PE X (.Call (.Name x xp) (p :: ps) [] pos) (tE X.K c (.call f es)) := by
  have hev : ∀ s, evE c (.call f es) s = Res.req (c.kn f) ((evEs c es s).bind fun xs s1 => doCall c f xs s1) := fun s => rfl
  by_cases hc : c.kn f = true
  · obtain ⟨k, a, fd, ps', F, hr, hm, hk, hb, _⟩ := C.cl f hc
    have hm := hm hM
    subst hx
    refine PEi (pe_callS F (hr.mono (Nat.le_succ _)) (glC_ok rfl hg) hm hk hb (fun σ => passAt C.tk σ) ha (nameOk_ok hn).d (star_of hs) hss) ?_
    intro σ H Q ⟨T, s, ρ, rel, run⟩
    rw [hev] at run
    obtain ⟨_, run⟩ := Run.req run
    refine ⟨T, s, ρ, rel, (Run.bind0 (k' := kRs) run).mono fun xs vs s1 H1 ρ1 rel1 st1 p1 q1 d1 run1 => ?_⟩
    exact doCall_ok run1 rel1 st1 p1 q1 d1
  · refine PEf fun σ H Q ⟨T, s, ρ, rel, run⟩ => hc ?_
    rw [hev] at run
    obtain ⟨h, run⟩ := Run.req run
    exact h
theorem any_of {sc : Scope} {N : List Str} {pos : Pos} {env : Env} : ∀ {es : List E} {ps : List PySem.Expr}, ckEs sc N es ps = true → (backTo pos (starEach ps env)).any (·.1) = false
  | [], [], _ => rfl
  | [], _ :: _, h => by unfold ckEs at h; cases h
  | e :: es, [], h => by unfold ckEs at h; cases h
  | e :: es, p :: ps, h => by
    unfold ckEs at h
    simp only [Bool.and_eq_true] at h
    rw [star_of h.1.2]
    have ih := any_of (pos := pos) (env := env) h.2
    cases hh : starEach ps env with
    | nil => rfl
    | cons y r =>
      rw [hh] at ih
      simpa [backTo] using ih
/-! ### targets -/
/-- what an iterator gives -/
def Itm (K : PySem.W.Frag) (H : Hp) (W : Addr → Prop) (ρ : List Addr) (i : I) (v : V) : Prop := Rp K H W ρ i v ∨ ∃ a vs l, i = .tup l ∧ v = .ref a ∧ SqT K H a vs ∧ Rps K H W ρ l vs
mutual
def gOf (K : PySem.W.Frag) : Tg → TG
  | .nm k => gName k
  | .tp l => gTup K l.length (gsOf K l)
def gsOf (K : PySem.W.Frag) : List Tg → TGs
  | [] => gNil
  | t :: r => gCons (gOf K t) (gsOf K r)
end
theorem locC2_ok {sc : Scope} {x : Str} (h : locC2 sc x = true) : L2.Loc sc x := by
  unfold locC2 at h
  unfold L2.Loc
  split at h
  · left; assumption
  · right; assumption
  · cases h
theorem asg_each {e : PySem.Expr} {es : List PySem.Expr} {env : Env} (h : notStar e = true) : (assignEach (e :: es) env).map (·.2) = assign e env :: (assignEach es env).map (·.2) := by
  cases e <;> first | rfl | cases h
theorem asg_len {sc : Scope} {N : List Str} {env : Env} : ∀ {l : List Tg} {es : List PySem.Expr}, ckTs sc N l es = true → (assignEach es env).length = l.length ∧ (assignEach es env).findIdx? (·.1) = none
  | [], [], _ => ⟨rfl, rfl⟩
  | [], _ :: _, h => by unfold ckTs at h; cases h
  | t :: l, [], h => by unfold ckTs at h; cases h
  | t :: l, e :: es, h => by
    unfold ckTs at h
    simp only [Bool.and_eq_true] at h
    obtain ⟨i1, i2⟩ := asg_len (env := env) h.2
    have : ∃ m, assignEach (e :: es) env = (false, m) :: assignEach es env := by
      have h2 := h.1.2
      cases e <;> first | exact ⟨_, rfl⟩ | cases h2
    obtain ⟨m, hm⟩ := this
    rw [hm]
    exact ⟨by rw [List.length_cons, List.length_cons, i1], by rw [List.findIdx?_cons, i2]; rfl⟩
end
mutual
theorem pg_T {X : Cx} {c : Ctx} {raw : Scope} (C : Cok X c) (hP : PgOk X raw) : ∀ {t : Tg} {p : PySem.Expr}, ckT raw X.N t p = true → PG X p (gOf X.K t)
  | .nm k, p, h => by
    unfold ckT at h
    split at h
    · rw [Bool.and_eq_true] at h
      have h2 := hP _ (locC2_ok h.2)
      exact pg_name C.nd (of_decide_eq_true h.1) h2.1 h2.2
    · cases h
  | .tp l, p, h => by
    unfold ckT at h
    split at h
    · obtain ⟨i1, i2⟩ := asg_len (env := X.env) h
      exact pg_tup C.calm (pgs_T C hP h) i1 i2
    · cases h
theorem pgs_T {X : Cx} {c : Ctx} {raw : Scope} (C : Cok X c) (hP : PgOk X raw) : ∀ {t : List Tg} {p : List PySem.Expr}, ckTs raw X.N t p = true → PGs X p (gsOf X.K t)
  | [], [], _ => pgs_nil
  | [], _ :: _, h => by unfold ckTs at h; cases h
  | t :: l, [], h => by unfold ckTs at h; cases h
  | t :: l, e :: es, h => by
    unfold ckTs at h
    simp only [Bool.and_eq_true] at h
    exact pgs_cons (pg_T C hP h.1.1) (pgs_T C hP h.2) (asg_each h.1.2)
end
/-- slots that stay -/
structure Kp (ks : List Nat) (s s' : S) (σ σ' : Sg) : Prop where
  st : ∀ j, j ∉ ks → σ'[j]? = σ[j]? ∧ s'.g j = s.g j
  ln : σ'.length = σ.length
  le : s'.env.length = s.env.length
  hp : s'.hp = s.hp
theorem Kp.refl (ks : List Nat) (s : S) (σ : Sg) : Kp ks s s σ σ := ⟨fun _ _ => ⟨rfl, rfl⟩, rfl, rfl, rfl⟩
theorem Kp.trans {ks : List Nat} {s s1 s2 : S} {σ σ1 σ2 : Sg} (a : Kp ks s s1 σ σ1) (b : Kp ks s1 s2 σ1 σ2) : Kp ks s s2 σ σ2 :=
  ⟨fun j h => ⟨(b.st j h).1.trans (a.st j h).1, (b.st j h).2.trans (a.st j h).2⟩, b.ln.trans a.ln, b.le.trans a.le, b.hp.trans a.hp⟩
theorem Kp.mono {ks js : List Nat} {s s1 : S} {σ σ1 : Sg} (a : Kp ks s s1 σ σ1) (h : ∀ k ∈ ks, k ∈ js) : Kp js s s1 σ σ1 := ⟨fun j hj => a.st j fun z => hj (h j z), a.ln, a.le, a.hp⟩
def Fix (pin : List Nat) (σ σ' : Sg) : Prop := ∀ k ∈ pin, σ'[k]? = σ[k]?
theorem Fix.refl (pin : List Nat) (σ : Sg) : Fix pin σ σ := fun _ _ => rfl
theorem Fix.trans {pin : List Nat} {a b d : Sg} (h : Fix pin a b) (g : Fix pin b d) : Fix pin a d := fun k hk => (g k hk).trans (h k hk)
theorem Res.req_ok {α : Type} {b : Bool} {x : Res α} {a : α} {s : S} (h : Res.req b x = .ok a s) : b = true ∧ x = .ok a s := by
  unfold Res.req at h
  split at h
  · exact ⟨by assumption, h⟩
  · cases h
section
variable {K : PySem.W.Frag} {T : Addr → Prop}
mutual
theorem gOf_ok : ∀ {tg : Tg} {pin : List Nat} {i : I} {v : V} {s s' : S} {σ : Sg} {H : Hp} {ρ : List Addr} {Q : Sg → Hp → Prop}, bindT pin tg i s = .ok () s' → Rel K T s σ H ρ → Itm K H (Uni (Own s σ ρ) T) ρ i v → ((∃ k, tg = .nm k) → Rp K H (Uni (Own s σ ρ) T) ρ i v) →
    (∀ σ', Rel K T s' σ' H ρ → Stp H (Own s σ ρ) T H (Own s' σ' ρ) T → Fix pin σ σ' → Kp (tgN tg) s s' σ σ' → Q σ' H) → gOf K tg v σ H Q
  | .nm k, pin, i, v, s, s', σ, H, ρ, Q, h, r, it, nm, q => by
    unfold bindT at h
    obtain ⟨h1, h2⟩ := Res.req_ok h
    cases h2
    rw [Bool.and_eq_true, Bool.not_eq_true'] at h1
    have hk := of_decide_eq_true h1.2
    obtain ⟨r1, st1⟩ := r.setI (i := i) (v := v) hk (nm ⟨k, rfl⟩)
    refine q _ r1 st1 (fun j hj => ?_) ⟨fun j hj => ?_, by rw [List.length_set], by rw [S.st_len], rfl⟩
    · have : j ≠ k := fun z => by
        subst z
        have := h1.1
        rw [List.contains_iff_mem.mpr hj] at this
        cases this
      rw [List.getElem?_set_ne (Ne.symm this)]
    · have : j ≠ k := fun z => hj (by subst z; unfold tgN; exact List.mem_cons_self)
      exact ⟨by rw [List.getElem?_set_ne (Ne.symm this)], S.g_st_ne this⟩
  | .tp ts, pin, i, v, s, s', σ, H, ρ, Q, h, r, it, nm, q => by
    unfold bindT at h
    split at h
    · rename_i l
      obtain ⟨h1, h2⟩ := Res.req_ok h
      have h1 := of_decide_eq_true h1
      have : ∃ a vs, v = .ref a ∧ SqT K H a vs ∧ Rps K H (Uni (Own s σ ρ) T) ρ l vs := by
        rcases it with it | ⟨a, vs, l', e1, e2, e3, e4⟩
        · cases it with
          | tup a b => exact ⟨_, _, rfl, a.sqt, b⟩
        · cases e1; exact ⟨a, vs, e2, e3, e4⟩
      obtain ⟨a, vs, e1, e2, e3⟩ := this
      exact ⟨a, vs, e1, e2, by rw [← e3.length, h1], gsOf_ok h2 r e3 fun σ' r' st' f' k' => q σ' r' st' f' (by unfold tgN; exact k')⟩
    · cases h
theorem gsOf_ok : ∀ {ts : List Tg} {pin : List Nat} {l : List I} {vs : List V} {s s' : S} {σ : Sg} {H : Hp} {ρ : List Addr} {Q : Sg → Hp → Prop}, bindTs pin ts l s = .ok () s' → Rel K T s σ H ρ → Rps K H (Uni (Own s σ ρ) T) ρ l vs →
    (∀ σ', Rel K T s' σ' H ρ → Stp H (Own s σ ρ) T H (Own s' σ' ρ) T → Fix pin σ σ' → Kp (tgNs ts) s s' σ σ' → Q σ' H) → gsOf K ts vs σ H Q
  | [], pin, [], vs, s, s', σ, H, ρ, Q, h, r, p, q => by
    unfold bindTs at h
    cases h
    cases p
    exact ⟨rfl, q σ r (Stp.refl r.dis) (Fix.refl _ _) (Kp.refl _ _ _)⟩
  | [], _, _ :: _, _, _, _, _, _, _, _, h, _, _, _ => by unfold bindTs at h; cases h
  | _ :: _, _, [], _, _, _, _, _, _, _, h, _, _, _ => by unfold bindTs at h; cases h
  | t :: ts, pin, i :: l, vs, s, s', σ, H, ρ, Q, h, r, p, q => by
    unfold bindTs at h
    obtain ⟨_, s1, h1, h2⟩ := Res.bind_eq_ok h
    cases p with
    | cons p1 p2 =>
      refine ⟨_, _, rfl, gOf_ok h1 r (.inl p1) (fun _ => p1) fun σ1 r1 st1 f1 k1 => ?_⟩
      have ls : Stay H (Uni (Own s σ ρ) T) ρ H (Uni (Own s1 σ1 ρ) T) ρ := st1.stay r (Pre.refl ρ)
      refine gsOf_ok h2 r1 (p2.stay ls) fun σ2 r2 st2 f2 k2 => ?_
      exact q σ2 r2 (st1.trans st2) (f1.trans f2) ((k1.mono fun k hk => by unfold tgNs; exact List.mem_append_left _ hk).trans (k2.mono fun k hk => by unfold tgNs; exact List.mem_append_right _ hk))
end
end
end CH
/-! enumerate(tuple) -/
namespace PySem
open Sem (wp)
open AutoSeq1 (wpAny_loadPart')
theorem meets_enumerate_newT (l : Addr) (items : Array Value) (n : Nat) (dct : Option Addr) (sl : Array (Option Value)) :
    Meets (Builtin.«enumerate.__new__» ⟨[.type "enumerate", .ref l], []⟩) (fun _ R s => s.heap.get? l = some { cls := .type "tuple", dict := dct, data := .seq items n, slots := sl } ∧
      R (.ok (.ret (.ref (s.heap.push { cls := .type "tuple_iterator", data := .fields #[.ref l, .int 0 0] }).objs.size)))
        { s with heap := (s.heap.push { cls := .type "tuple_iterator", data := .fields #[.ref l, .int 0 0] }).push { cls := .type "enumerate", data := .fields #[.none, .bool false, .ref s.heap.objs.size, rawInt 0, .none, .none] } }) :=
  .of_wp fun prog w A R s h => by
    obtain ⟨hp, g, d, tk, os⟩ := s; obtain ⟨hl, h⟩ := h
    have hsub := sub_enumerate
    have hL : Heap.IsTuple (Shared.heap ⟨hp, g, d, tk, os⟩) l items := ⟨_, hl, rfl, n, rfl⟩
    wp_walk using wpAny_loadPart' hl
    refine wpAny_stack_any fun st => wpAny_pure ?_
    split
    · rename_i c _ _ _ _ _
      cases (c == Value.type "enumerate")
      · wp_walk using wpAny_loadPart' hl, wpAny_pyIter_tuple hL
        exact ⟨_, rfl, h⟩
      · wp_walk using wpAny_loadPart' hl, wpAny_pyIter_tuple hL
        exact ⟨_, rfl, h⟩
    · wp_walk using wpAny_loadPart' hl, wpAny_pyIter_tuple hL
      exact ⟨_, rfl, h⟩
section
variable {prog : Program} {w : World} {A : Around} {E : Value → Shared → Prop} {s : Shared}
theorem call_enumerate_tuple {l : Addr} {items : Array Value} {Q : Value → Shared → Prop} (hL : s.heap.IsTuple l items)
    (h : ∀ h', IsEnum h' (s.heap.objs.size + 1) s.heap.objs.size 0 .none → h'.IsTupleIter s.heap.objs.size l 0 → h'.objs.size = s.heap.objs.size + 2 →
      (∀ b o, s.heap.get? b = some o → h'.get? b = some o) → Q (.ref (s.heap.objs.size + 1)) { s with heap := h' }) :
    wpAny (model prog w) A (call (.type "enumerate") [.ref l]) Q E s := by
  obtain ⟨⟨c, dct, dt, sl⟩, hl, hc, n, hd⟩ := hL
  replace hc : c = .type "tuple" := hc
  replace hd : dt = .seq items n := hd
  subst hc hd
  refine callType_new F.called_enumerate (by decide) (F.typeCall_enumerate_1 _) (F.newCall_enumerate_1 _) (fun obj => F.args_object_init_2 obj _) F.entry_enumerate_new
    (meets_enumerate_newT l items n dct sl) ⟨hl, ?_⟩
  have hz : (s.heap.push { cls := .type "tuple_iterator", data := .fields #[.ref l, .int 0 0] }).objs.size = s.heap.objs.size + 1 := Heap.size_push ..
  show _ ∧ _
  rw [hz]
  have he : IsEnum ((s.heap.push { cls := .type "tuple_iterator", data := .fields #[.ref l, .int 0 0] }).push
      { cls := .type "enumerate", data := .fields #[.none, .bool false, .ref s.heap.objs.size, rawInt 0, .none, .none] }) (s.heap.objs.size + 1) s.heap.objs.size 0 .none := by
    have := Heap.get?_push_size (s.heap.push { cls := .type "tuple_iterator", data := .fields #[.ref l, .int 0 0] })
      (o := { cls := .type "enumerate", data := .fields #[.none, .bool false, .ref s.heap.objs.size, rawInt 0, .none, .none] }) rfl
    rw [hz] at this; exact this
  refine ⟨⟨_, he, rfl⟩, h _ he ⟨_, Heap.get?_push_of_some _ (Heap.get?_push_size _ rfl), rfl, rfl⟩ (by rw [Heap.size_push, hz]) fun b o x => Heap.get?_push_of_some _ (Heap.get?_push_of_some _ x)⟩
theorem wpAny_pyNext_enum_endT {e it l : Addr} {i : Nat} {items : Array Value} {old : Value} {Q : Option Value → Shared → Prop} (hh : A.handled = none)
    (he : IsEnum s.heap e it i old) (hit : s.heap.IsTupleIter it l i) (hl : s.heap.IsTuple l items) (hx : items[i]? = none)
    (hQ : ∀ h', Heap.ExtBut it s.heap h' → Q none { s with heap := h' }) : wpAny (model prog w) A (pyNext (.ref e)) Q E s := by
  have hT : s.TypeIs (.ref e) "enumerate" := ⟨_, he, rfl⟩
  unfold pyNext
  refine wpAny_bind (wpAny_attempt (wpAny_callSpecial?_slot (name := Str.ofString "__next__") hT F.slot_enumerate_next
    (wpAny_call_entry F.slot_enumerate_next hT F.entry_enumerate_next ?_ (F.args_enumerate_next_1 _))))
  show wpAny _ _ (field (.ref e) 2 >>= _) _ _ _
  refine wpAny_bind (wpAny_field he rfl (x := .ref it) rfl ?_)
  refine wpAny_bind (wpAny_nextOf_tuple_end hh hit hl hx fun h' x he' hx' => ?_)
  obtain ⟨o, ho, hc⟩ := hx'
  refine wpAny_bind (wpAny_isInstance (T := "StopIteration") (b := true) ⟨o, ho, hc⟩ isSubtype_stop ?_)
  exact wpAny_pure (hQ _ he')
end
end PySem
namespace CH
open PySem PySem.Spec PyProof.Rows L2
variable [Wsh]
def IteT (K : PySem.W.Frag) (a : Addr) : L2.It :=
  ⟨fun i H => ∃ (xs : List V) (x : V), SqT K H a xs ∧ xs[i]? = some x, fun i H v H' => ∃ T x, v = .ref T ∧ H T = none ∧ H' = upd H T (.tup [.int (i : Nat), x]) ∧ ∀ xs, SqT K H a xs → xs[i]? = some x, fun i H => ∃ xs : List V, SqT K H a xs ∧ xs.length ≤ i⟩
theorem turn_enumT {P : Program} {w : World} {K : PySem.W.Frag} {elts : List PySem.Expr} {kk : Nat} {tpos : Pos} (a e it : Addr) (ha : a < it) (hei : it < e) :
    Turn P w K (.Tuple elts kk tpos) (IteT K a) [e, it] e (fun i h => (∃ old, IsEnum h e it ((i : Nat) : Int) old) ∧ h.IsTupleIter it a i) where
  mem := by simp
  obj := fun i h st b hb => by
    obtain ⟨⟨old, he⟩, ⟨o, ho, hc, hd⟩⟩ := st
    have e' : b = e ∨ b = it := by simpa using hb
    rcases e' with z | z
    · rw [z]; exact ⟨_, he, fun v q => nomatch q⟩
    · rw [z]; exact ⟨o, ho, fun v q => by rw [hd] at q; cases q⟩
  keep := fun i h h' st k => let ⟨⟨old, he⟩, hi⟩ := st; ⟨⟨old, k e (by simp) _ he⟩, hi.at fun o q => k it (by simp) o q⟩
  item := by
    intro X hP hw hK hc i pins s σ H E I hf st hg
    subst hP hw hK
    obtain ⟨⟨old, he⟩, hit⟩ := st
    obtain ⟨xs, x, hq, hx⟩ := hg
    obtain ⟨its, rv, p, hz⟩ := I.tuple hq
    obtain ⟨u, hu, ru⟩ := rv.get hx
    have hel : e < s.heap.objs.size := Heap.lt_size he
    have hil : it < s.heap.objs.size := by obtain ⟨_, q, _⟩ := hit; exact Heap.lt_size q
    have hne : e ≠ it := Nat.ne_of_gt hei
    have hea : e ∉ [it, a] := by
      intro z
      rcases List.mem_cons.mp z with z | z
      · exact hne z
      · exact absurd (List.mem_singleton.mp z) (Nat.ne_of_gt (Nat.lt_trans ha hei))
    have hp : s.heap.IsTuple a its.toArray := p
    refine wpAny_pyNext_enum_itemD (Draws.tuple (prog := X.prog) (w := X.w) (A := X.A.in1) (I.ok.hd hc) it a (Nat.ne_of_lt ha) its.toArray) he ⟨hit, hp⟩ (by have := (List.getElem?_eq_some_iff.mp hu).1; simpa using this) hne hea fun x' h' tk hPx ho hst hT hsz hk => ?_
    have hxu : x' = u := by
      have h1 : its[i]? = some x' := by simpa using hPx
      rw [hu] at h1
      cases h1
      rfl
    subst hxu
    refine ⟨_, rfl, wpAny_letOwnedTupleGo_enum (s := { s with heap := h', toks := tk + 1 }) ho fun h'' he' sb => ?_⟩
    have hT2 : h''.get? s.heap.objs.size = some { cls := .type "tuple", data := .seq #[.int i tk, x'] } := (sb.2 _ (Nat.ne_of_gt hel)).trans hT
    have new : ObjOk X.prog X.w (upd H s.heap.objs.size (.tup [.int (i : Nat), x])) h'' s.heap.objs.size (.tup [.int (i : Nat), x]) :=
      ⟨by show 2 ≤ sizeLine; decide, [.int i tk, x'], .cons ⟨_, rfl⟩ (.cons ru .nil), ⟨_, hT2, rfl, _, rfl⟩⟩
    have I1 : Inv X pins σ (upd H s.heap.objs.size (.tup [.int (i : Nat), x])) { s with heap := h'', toks := tk + 1 } :=
      I.turnedNew (ch := [e, it]) (fun b ob hb q => (sb.2 b (fun z => hb (by simp [z]))).trans (hk b ob (fun z => hb (by simp [z])) (fun z => hb (by simp [z])) q)) hf (Nat.le_refl _) new
    refine ⟨.ref s.heap.objs.size, _, I1, rfl, ⟨_, x, rfl, I.hok.fresh (Nat.le_refl _), rfl, fun ys hy => by rw [I.tuple_inj hy hq]; exact hx⟩, ⟨⟨x', ?_⟩, hst.1.at fun o q => (sb.2 it (Ne.symm hne)).trans q⟩, fun b hb => ?_⟩
    · have e1 : ((i + 1 : Nat) : Int) = (i : Int) + 1 := by omega
      rw [e1]; exact he'
    · have hb' : b < s.heap.objs.size := by
        have e' : b = e ∨ b = it := by simpa using hb
        rcases e' with z | z
        · rw [z]; exact hel
        · rw [z]; exact hil
      rw [upd_ne (Nat.ne_of_lt hb')]
      exact (hf b hb).1
  done := by
    intro X hP hw hK hc i pins s σ H E I hf st hg
    subst hP hw hK
    obtain ⟨⟨old, he⟩, hit⟩ := st
    obtain ⟨xs, hq, hx⟩ := hg
    obtain ⟨its, rv, p, hz⟩ := I.tuple hq
    obtain ⟨f0, f1, f2, f3, f4, f5⟩ := hf it (by simp)
    have hl := rv.length
    exact wpAny_pyNext_enum_endT (I.ok.hd hc) he hit (show s.heap.IsTuple a its.toArray from p) (by simp; omega) fun h' eb => ⟨rfl, I.turned (t' := s.toks) (fun b o hb q => eb b o hb q) f0 f1 f3 f4 f5⟩
  self := fun A i s Q E st h => let ⟨⟨_, he⟩, _⟩ := st; wpAny_pyIter_enum he h
def iEnumT (K : PySem.W.Frag) (ta : TA) : TI := fun σ H R => ta σ H fun vs H1 => ∃ a xs, vs = [.ref a] ∧ ((SqL K H1 a xs ∧ R (Ite K a) H1) ∨ (SqT K H1 a xs ∧ R (IteT K a) H1))
theorem pi_enumT {X : Cx} {e : PySem.Expr} {ta : TA} {p pos tpos : Pos} {elts : List PySem.Expr} {kk : Nat} (hg : Gl X "enumerate") (hm : X.mg "enumerate" = none) (ha : PA X [e] ta) (hs : starEach [e] X.env = [(false, eval e X.env)]) :
    PI X (.Tuple elts kk tpos) (.Call (.Name "enumerate" p) [e] [] pos) (iEnumT X.K ta) := by
  refine ⟨fun pins s σ H R I h => ?_⟩
  refine Call_ (ld_blt I hg hm boot_enumerate (PyProof.Rows.callWith_type1 (thn (ha.run pos pins s σ H _ I h) fun us s1 ⟨vs, H1, I1, r1, q1⟩ => ?_) hs rfl))
  obtain ⟨a, xs, ex, q⟩ := q1
  subst ex
  cases r1 with
  | cons r rr =>
    cases rr
    cases r
    rcases q with ⟨hq, q⟩ | ⟨hq, q⟩
    · obtain ⟨its, rv, p', hz⟩ := I1.list hq
      refine call_enumerate_list p'.isList fun h' he hit hsz hk => wpAny_pyIter_enum he ?_
      have I2 : Inv X pins σ H1 { s1 with heap := h' } := I1.kept (t' := s1.toks) hk
      refine ⟨s1.heap.objs.size + 1, [s1.heap.objs.size + 1, s1.heap.objs.size], _, _, H1, rfl, I2, turn_enum a (s1.heap.objs.size + 1) s1.heap.objs.size, ⟨⟨.none, he⟩, hit, Nat.succ_ne_self _⟩, fun b hb => ?_, q⟩
      have e' : b = s1.heap.objs.size + 1 ∨ b = s1.heap.objs.size := by simpa using hb
      have hle : s1.heap.objs.size ≤ b := by
        rcases e' with z | z
        · rw [z]; exact Nat.le_add_right _ _
        · rw [z]; exact Nat.le_refl _
      exact I1.fpOk hle (I1.hok.fresh hle)
    · obtain ⟨its, rv, p', hz⟩ := I1.tuple hq
      have hlt : a < s1.heap.objs.size := by obtain ⟨o, e, _⟩ := p'; exact Heap.lt_size e
      refine call_enumerate_tuple (show s1.heap.IsTuple a its.toArray from p') fun h' he hit hsz hk => wpAny_pyIter_enum he ?_
      have I2 : Inv X pins σ H1 { s1 with heap := h' } := I1.kept (t' := s1.toks) hk
      refine ⟨s1.heap.objs.size + 1, [s1.heap.objs.size + 1, s1.heap.objs.size], _, _, H1, rfl, I2, turn_enumT a (s1.heap.objs.size + 1) s1.heap.objs.size hlt (Nat.lt_succ_self _), ⟨⟨.none, he⟩, hit⟩, fun b hb => ?_, q⟩
      have e' : b = s1.heap.objs.size + 1 ∨ b = s1.heap.objs.size := by simpa using hb
      have hle : s1.heap.objs.size ≤ b := by
        rcases e' with z | z
        · rw [z]; exact Nat.le_add_right _ _
        · rw [z]; exact Nat.le_refl _
      exact I1.fpOk hle (I1.hok.fresh hle)
end CH
/-! a name that holds a def is called; a written tuple as a dict's key; isinstance of two types -/
namespace CH
open PySem PySem.Spec PyProof.Rows L2
variable [Wsh]
section
variable {X : Cx} {c : Ctx} {T : Addr → Prop} {s : S} {σ : Sg} {H : Hp} {ρ : List Addr}
theorem faOf_ok {o : Option D} {f : String} (h : faOf c o = some f) : ∃ a, o = some (.im (.fa a f)) ∧ c.gl f = some (.fa a f) := by
  unfold faOf at h
  split at h
  · rename_i a f'
    split at h
    · rename_i b g hg
      split at h
      · rename_i hab
        cases h
        obtain ⟨rfl, rfl⟩ := hab
        exact ⟨_, rfl, hg⟩
      · cases h
    · cases h
  · cases h
abbrev WF : Wsh := ⟨fun _ _ _ _ => False⟩
theorem passF {X : Cx} : Passes (L2.CX X.prog X.w) X E0 := fun _ _ _ _ _ _ _ ⟨_, _, _, _, _, _, _, _, _, _, _, _, z⟩ => z.elim
theorem Run.noX {α β : Type} {k : Kd α β} {K : PySem.W.Frag} {x : Res α} {F : α → β → S → Hp → List Addr → Prop} (h : Run k K T s σ H ρ x.noX F) : @Run α β WF k K T s σ H ρ x F := by
  cases x with
  | ok a s => exact h
  | exc c l s => exact False.elim h
  | bad => exact h
theorem ok_callv (C : Cok X c) (hM : ∀ f a, c.gl f = some (.fa a f) → isM f = false) {k : Nat} {es : List E} {p : PySem.Expr} {ps : List PySem.Expr} {x : Str} {xp pos : Pos} (hN : X.N[k]? = some x) (hv : visC X.env.scope x = true) (hn : nameOk x = true) (hs : notStar p = true) (hss : (backTo pos (starEach ps X.env)).any (·.1) = false) (ha : PA X (p :: ps) (tEs X.K c es)) : PE X (.Call (.Name x xp) (p :: ps) [] pos) (tE X.K c (.callv k es)) := by
  refine ⟨fun pins s0 σ H Q I ⟨T, s, ρ, rel, run⟩ => ?_⟩
  have hev : evE c (.callv k es) s = match faOf c (s.g k) with
    | some f => Res.req (c.kn f) ((evEs c es s).bind fun xs s1 => (doCall c f xs s1).noX)
    | none => .bad := rfl
  rw [hev] at run
  split at run
  · rename_i f hf
    obtain ⟨a, h1, h2⟩ := faOf_ok hf
    obtain ⟨v, hv1, r1⟩ := rel.im k _ h1
    cases r1
    obtain ⟨u, w, hm, ru, rw_⟩ := C.gl f _ h2
    have hw := rw_ H (fun _ => False) ρ
    cases hw
    cases ru
    obtain ⟨hc, run⟩ := Run.req run
    obtain ⟨k', a', fd, ps', F, hr, hm', hk, hb, _⟩ := C.cl f hc
    have hm' := hm' (hM _ _ h2)
    rw [hm] at hm'
    cases hm'
    refine (pe_callL F (hr.mono (Nat.le_succ _)) hN (visC_ok hv) hk hb .nil passF ha (nameOk_ok hn).d (nameOk_ok hn).c (star_of hs) hss).run pins s0 σ H Q I ⟨hv1, T, s, ρ, rel, (Run.bind0 (k' := kRs) run).mono fun xs vs s1 H1 ρ1 rel1 st1 p1 q1 d1 run1 => ?_⟩
    show spOf X.K c.cl f (vs ++ []) H1 Q E0
    rw [List.append_nil]
    exact @doCall_ok WF _ _ _ _ _ _ _ _ _ _ _ _ _ _ (Run.noX run1) rel1 st1 p1 q1 d1
  · exact run.elim
theorem keyT_ok {K : PySem.W.Frag} {W : Addr → Prop} : ∀ {l : List CH.I} {vs : List V}, Rps K H W ρ l vs → l.all keyS = true → ∃ k, keysOf l = some k ∧ vs = k.map kV
  | _, _, .nil, _ => ⟨[], rfl, rfl⟩
  | _, _, .cons (i := i) (l := l) q r, h => by
    rw [List.all_cons, Bool.and_eq_true] at h
    obtain ⟨k, h1, h2⟩ := keyT_ok r h.2
    obtain ⟨b, hb⟩ := keyOf_ok h.1
    refine ⟨b :: k, ?_, ?_⟩
    · unfold keysOf
      rw [hb, h1]
    · rw [List.map_cons, q.key hb, h2]
theorem ok_ixt (C : Cok X c) {a : E} {es : List E} {o : PySem.Expr} {ps : List PySem.Expr} {x1} {tp pos : Pos} (ho : PE X o (tE X.K c a)) (ha : PA X ps (tIs X.K c es)) : PE X (.Subscript o (.Tuple ps x1 tp) pos) (tE X.K c (.ixt a es)) := by
  refine PEi (pe_dget C.u1 ho (pe_tup ha) (fun _ _ => rfl)) ?_
  intro σ H Q ⟨T, s, ρ, rel, run⟩
  have hx : evE c (.ixt a es) s = (evE c a s).bind fun x s1 => (evIs c es s1).bind fun l s2 => ixtop x l s2 := rfl
  rw [hx] at run
  refine ⟨T, s, ρ, rel, (Run.bind (k' := kR) kR_anti run).mono fun x vx s1 H1 ρ1 rel1 st1 p1 q1 d1 run1 => ?_⟩
  refine ⟨_, s1, ρ1, rel1, (Run.bind (k' := kL) kR_anti run1).mono fun l vs s2 H2 ρ2 rel2 st2 p2 q2 d2 run2 => ?_⟩
  unfold ixtop at run2
  split at run2
  · rename_i kvs hv
    obtain ⟨ck, run2⟩ := Run.req run2
    unfold keyT at ck
    rw [Bool.and_eq_true] at ck
    have qx := q1.stay st2 rel1 p2 fun a h => .inr h
    obtain ⟨a, rfl, h⟩ := viewD_ok rel2 qx hv
    rcases h with ⟨h, _⟩ | ⟨_, ks, hk, hr⟩
    · cases h
    obtain ⟨kk, hkk, ev⟩ := keyT_ok q2 ck.1
    have ln := q2.length
    subst ev
    refine ⟨?_, fun p hp => ?_⟩
    · rw [← ln, sizeLine_eq]
      have := of_decide_eq_true ck.2
      omega
    obtain ⟨r3, st3⟩ := rel2.laid (o := .tup (kk.map kV)) hp
    rcases hr.look hkk with ⟨h1, h2⟩ | ⟨i, vi, h1, h2, h3⟩
    · rw [h1] at run2
      exact run2.elim
    · rw [h1] at run2
      have ne : a ≠ p := fun e => by subst e; rw [hp] at hk; cases hk
      refine ⟨a, vi, rfl, h2 ▸ DGet.t (by rw [upd_ne ne]; exact hk) upd_same, ?_⟩
      exact (run2.from st3 (Pre.refl _)).valQ r3 (h3.stay (st3.stay rel2 (Pre.refl _)))
  · exact run2.elim
theorem isNm_ok {sc : Scope} {n : Str} {g : PySem.Expr} (h : isNm sc n g = true) : ∃ p, g = .Name n p ∧ glC sc n = true := by
  unfold isNm at h
  split at h
  · rw [Bool.and_eq_true] at h
    have h1 := of_decide_eq_true h.1
    subst h1
    exact ⟨_, rfl, h.2⟩
  · cases h
theorem ok_isi2 (C : Cok X c) {a : E} {t u : Ty} {g q : PySem.Expr} {x y : Str} {xp yp tp pos : Pos} {k1 : Nat} (hg : isNm X.env.scope "isinstance" g = true) (hs : notStar q = true) (ha : PE X q (tE X.K c a)) (ht : tyC t x = true) (hx : glC X.env.scope x = true) (hu : tyC u y = true) (hy : glC X.env.scope y = true) :
    PE X (.Call g [q, .Tuple [.Name x xp, .Name y yp] k1 tp] [] pos) (tE X.K c (.isi2 a t u)) := by
  obtain ⟨gp, rfl, hg⟩ := isNm_ok hg
  obtain ⟨e1, e2, e3⟩ := tyC_ok ht
  obtain ⟨f1, f2, f3⟩ := tyC_ok hu
  have hn1 := bnames_ok x e2
  have hn2 := bnames_ok y f2
  have hx' : ∀ s, evE c (.isi2 a t u) s = (evE c a s).bind fun v s1 => isi2op v t u s1 := fun s => rfl
  have p1 : PE X (.Name x xp) _ := pe_bltn (v := .ty (tyN t)) (glC_ok rfl hx) (C.bl x e2) e3 rfl hn1.1 hn1.2
  have p2 : PE X (.Name y yp) _ := pe_bltn (v := .ty (tyN u)) (glC_ok rfl hy) (C.bl y f2) f3 rfl hn2.1 hn2.2
  refine PEi (pe_callB call_isiT (glC_ok rfl hg) (C.bl "isinstance" (by decide +kernel)) PyProof.Rows.boot_isinstance (pa_cons ha (pa_cons (pe_tup (pa_cons p1 (pa_cons p2 pa_nil))) pa_nil) (star_of hs)) (by decide) (by decide) (star_of hs) (by rfl)) ?_
  intro σ H Q ⟨T, s, ρ, rel, run⟩
  rw [hx'] at run
  refine ⟨T, s, ρ, rel, (Run.bind (k' := kR) kR_anti run).mono fun v vv s1 H1 ρ1 rel1 st1 p1 q1 d1 run1 => ?_⟩
  refine ⟨by show 2 ≤ sizeLine; decide, fun p hp => ?_⟩
  obtain ⟨r3, st3⟩ := rel1.laid (o := .tup [.ty (tyN t), .ty (tyN u)]) hp
  unfold isi2op at run1
  split at run1
  · exact run1.elim
  · exact run1.elim
  · exact run1.elim
  · rename_i i hi hf hx h1
    have n : clI i ≠ "object" := by
      cases i <;> first | (exact (hi _ rfl).elim) | (exact (hf _ _ rfl).elim) | (exact (hx _ _ rfl).elim) | (simp [clI]; done)
    have q3 := q1.stay st3 rel1 (Pre.refl _) fun a h => .inr h
    have ty : TyX X.K (upd H1 p (.tup [.ty (tyN t), .ty (tyN u)])) vv (.type (clI i)) := by
      rcases viewI_ok r3 q3 h1 with h | ⟨a, vs, l, rfl, rfl, h3, _⟩
      · exact h.tyx n
      · exact .base (.lst h3)
    have kt : ∀ t : Ty, PySem.W.kitOne X.K (.type (clI i)) (.type (tyN t)) = some (tyI i t) := by
      intro t
      rw [tyI_cl i t n]
      refine kit_tab X.K _ ?_ _ ?_
      · cases i <;> first | (simp [clI]; done) | exact absurd rfl n
      · cases t <;> simp [tyN]
    refine ⟨vv, p, _, _, [.type (tyN t), .type (tyN u)], _, rfl, upd_same, .cons (.ty _) (.cons (.ty _) .nil), ty, ?_, (run1.from st3 (Pre.refl _)).valQ r3 (.bl _)⟩
    unfold PySem.W.kitAny
    rw [kt t]
    cases tyI i t with
    | true => rfl
    | false =>
      show PySem.W.kitAny X.K _ _ = _
      unfold PySem.W.kitAny
      rw [kt u]
      cases tyI i u <;> rfl
  · exact run1.elim
end
end CH
namespace CH
open PySem PySem.Spec PyProof.Rows L2
variable [Wsh]
/-! ### what a loop goes over -/
mutual
theorem same_eq : ∀ {a b : CH.I}, I.same a b = true → a = b
  | .non, b, h => by cases b <;> first | rfl | (unfold I.same at h; cases h)
  | .bl x, b, h => by cases b <;> first | (unfold I.same at h; rw [eq_of_beq h]) | (unfold I.same at h; cases h)
  | .int x, b, h => by cases b <;> first | (unfold I.same at h; rw [eq_of_beq h]) | (unfold I.same at h; cases h)
  | .str x, b, h => by cases b <;> first | (unfold I.same at h; rw [eq_of_beq h]) | (unfold I.same at h; cases h)
  | .ref x, b, h => by cases b <;> first | (unfold I.same at h; rw [eq_of_beq h]) | (unfold I.same at h; cases h)
  | .tup x, b, h => by cases b <;> first | (unfold I.same at h; rw [sameL_eq h]) | (unfold I.same at h; cases h)
  | .fl x, b, h => by cases b <;> first | (unfold I.same at h; rw [sameL_eq h]) | (unfold I.same at h; cases h)
  | .xl x, b, h => by cases b <;> first | (unfold I.same at h; rw [sameL_eq h]) | (unfold I.same at h; cases h)
  | .ex x m, b, h => by cases b <;> first | (unfold I.same at h; rw [Bool.and_eq_true, beq_iff_eq] at h; rw [h.1, sameL_eq h.2]) | (unfold I.same at h; cases h)
  | .fa x f, b, h => by cases b <;> first | (unfold I.same at h; rw [Bool.and_eq_true, beq_iff_eq, beq_iff_eq] at h; rw [h.1, h.2]) | (unfold I.same at h; cases h)
theorem sameL_eq : ∀ {a b : List CH.I}, sameL a b = true → a = b
  | [], [], _ => rfl
  | [], _ :: _, h => by unfold sameL at h; cases h
  | _ :: _, [], h => by unfold sameL at h; cases h
  | x :: a, y :: b, h => by
    unfold sameL at h
    rw [Bool.and_eq_true] at h
    rw [same_eq h.1, sameL_eq h.2]
end
/-- the list at a -/
inductive FedL (K : PySem.W.Frag) (H : Hp) (W : Addr → Prop) (ρ : List Addr) (σ : Sg) : Addr → Src → List CH.I → Prop where
  | fl {a : Addr} {vs : List V} {l : List CH.I} : H a = some (.lst vs) → ¬ W a → Rps K H W ρ l vs → FedL K H W ρ σ a .imm l
  | xl {a : Addr} {vs : List V} {l : List CH.I} : Fz K H a vs → Rps K H W ρ l vs → FedL K H W ρ σ a .imm l
  | var {k : Nat} {a : Addr} {l : List CH.I} : σ[k]? = some (some (V.ref a)) → FedL K H W ρ σ a (.var k l) l
  | box {n : Nat} {a : Addr} {l : List CH.I} : ρ[n]? = some a → FedL K H W ρ σ a (.box n l) l
inductive Fed (K : PySem.W.Frag) (H : Hp) (W : Addr → Prop) (ρ : List Addr) (σ : Sg) : Bool → L2.It → Src → List CH.I → Prop where
  | tup {a : Addr} {vs : List V} {l : List CH.I} : Pt K H a vs → Rps K H W ρ l vs → Fed K H W ρ σ false (Itt K a) .imm l
  | list {a : Addr} {src : Src} {l : List CH.I} : FedL K H W ρ σ a src l → Fed K H W ρ σ false (Itl K a) src l
  | str (l : List Nat) : Fed K H W ρ σ false (Its (mkS l)) .imm (l.map fun c => .str [c])
  | rng (lo : Int) (n : Nat) : Fed K H W ρ σ false (Itr lo n) .imm ((List.range n).map fun (i : Nat) => .int (lo + i))
  | enum {a : Addr} {src : Src} {l : List CH.I} : FedL K H W ρ σ a src l → Fed K H W ρ σ true (Ite K a) src (enumL l)
  | enumT {a : Addr} {vs : List V} {l : List CH.I} : Pt K H a vs → Rps K H W ρ l vs → Fed K H W ρ σ true (IteT K a) .imm (enumL l)
  | rev {a : Addr} {src : Src} {l : List CH.I} : FedL K H W ρ σ a src l → Fed K H W ρ σ false (Itv K a l.length) src l.reverse
  | revT {a : Addr} {vs : List V} {l : List CH.I} : Pt K H a vs → Rps K H W ρ l vs → Fed K H W ρ σ false (RT.ItvT K a l.length) .imm l.reverse
  | keys {k : Nat} {a : Addr} {ob : Obj} {kvs : List (Key × V)} {l : List CH.I} : σ[k]? = some (some (V.ref a)) → H a = some (.frz ob (.dK kvs)) → keysOf l = some (kvs.map (·.1)) → Fed K H W ρ σ false (Itk a ob kvs) (.key k l) l
  | zip {a b : Addr} {src dst : Src} {l m : List CH.I} : FedL K H W ρ σ a src l → FedL K H W ρ σ b dst m → Fed K H W ρ σ true (Itz K a b) (.two src dst) (l.zipWith (fun x y => .tup [x, y]) m)
  | zipT {a b : Addr} {vs ws : List V} {l m : List CH.I} : Pt K H a vs → Rps K H W ρ l vs → Pt K H b ws → Rps K H W ρ m ws → Fed K H W ρ σ true (RZ.ItzT K a b) (.two .imm .imm) (l.zipWith (fun x y => .tup [x, y]) m)
def Src.at (src : Src) (σ σ' : Sg) : Prop := ∀ k ∈ src.names, σ'[k]? = σ[k]?
section
variable {K : PySem.W.Frag} {T : Addr → Prop} {s : S} {σ σ' : Sg} {H H' : Hp} {ρ ρ' : List Addr} {W W' : Addr → Prop} {J : L2.It} {src : Src} {l : List CH.I}
theorem FedL.stay {a : Addr} (h : Stay H W ρ H' W' ρ') (f : FedL K H W ρ σ a src l) (v : src.at σ σ') : FedL K H' W' ρ' σ' a src l := by
  cases f with
  | fl e n r => exact .fl (h.keep _ _ e n) (fun w => (h.new _ w).elim n fun z => by rw [e] at z; cases z) (r.stay h)
  | xl p r => exact .xl (h.fz p) (r.stay h)
  | var e => exact .var ((v _ List.mem_cons_self).trans e)
  | box e => exact .box (h.pre _ _ e)
theorem Fed.stay {en : Bool} (h : Stay H W ρ H' W' ρ') (f : Fed K H W ρ σ en J src l) (v : src.at σ σ') (fz : ∀ b ob u, H b = some (.frz ob u) → H' b = some (.frz ob u)) : Fed K H' W' ρ' σ' en J src l := by
  cases f with
  | tup p r => exact .tup (h.pt p) (r.stay h)
  | list f => exact .list (f.stay h v)
  | str l => exact .str l
  | rng lo n => exact .rng lo n
  | enum f => exact .enum (f.stay h v)
  | enumT p r => exact .enumT (h.pt p) (r.stay h)
  | rev f => exact .rev (f.stay h v)
  | revT p r => exact .revT (h.pt p) (r.stay h)
  | keys e f g => exact .keys ((v _ List.mem_cons_self).trans e) (fz _ _ _ f) g
  | zip f g => exact .zip (f.stay h fun k hk => v k (List.mem_append_left _ hk)) (g.stay h fun k hk => v k (List.mem_append_right _ hk))
  | zipT p r p' r' => exact .zipT (h.pt p) (r.stay h) (h.pt p') (r'.stay h)
/-- a list's items, where the loop stands -/
theorem FedL.get (r : Rel K T s σ H ρ) (g : src.good s = true) {a : Addr} (f : FedL K H (Uni (Own s σ ρ) T) ρ σ a src l) : ∃ vs, SqL K H a vs ∧ Rps K H (Uni (Own s σ ρ) T) ρ l vs := by
  cases f with
  | fl e n q => exact ⟨_, SqL.of e, q⟩
  | xl p q => exact ⟨_, p.sql, q⟩
  | @var k a l e =>
    unfold Src.good at g
    try simp only at g
    split at g
    · rename_i m hm
      have := sameL_eq g
      subst this
      obtain ⟨b, y, ⟨u, hu, ru⟩, _⟩ := r.ob _ _ hm
      rw [e] at y; cases y
      cases ru with
      | lst q => exact ⟨_, SqL.of hu, q⟩
    · rename_i m hm
      have := sameL_eq g
      subst this
      obtain ⟨v, y, p⟩ := r.im _ _ hm
      rw [e] at y; cases y
      cases p with
      | fl h _ q => exact ⟨_, SqL.of h, q⟩
    · cases g
  | @box n a l e =>
    unfold Src.good at g
    try simp only at g
    split at g
    · rename_i m hm
      have := sameL_eq g
      subst this
      obtain ⟨u, hu, ru⟩ := r.bx _ _ _ hm e
      cases ru with
      | lst q => exact ⟨_, SqL.of hu, q⟩
    · cases g
theorem enumL_len (l : List CH.I) : (enumL l).length = l.length := by
  unfold enumL
  rw [List.length_zipWith, List.length_range, Nat.min_self]
theorem enumL_get {l : List CH.I} {i : Nat} {it : CH.I} (h : (enumL l)[i]? = some it) : ∃ x, l[i]? = some x ∧ it = .tup [.int i, x] := by
  unfold enumL at h
  rw [List.getElem?_zipWith] at h
  split at h
  · rename_i a b h1 h2
    cases h
    obtain ⟨h3, h4⟩ := List.getElem?_eq_some_iff.mp h1
    rw [List.getElem_range] at h4
    subst h4
    exact ⟨b, h2, rfl⟩
  · cases h
theorem rev_get {α : Type} {l : List α} {i : Nat} {x : α} (h : l.reverse[i]? = some x) : i < l.length ∧ l[l.length - 1 - i]? = some x := by
  have hl : i < l.length := by have := (List.getElem?_eq_some_iff.mp h).1; rwa [List.length_reverse] at this
  refine ⟨hl, ?_⟩
  rwa [List.getElem?_reverse hl] at h
theorem zip_get {l m : List CH.I} {i : Nat} {it : CH.I} (h : (l.zipWith (fun x y => CH.I.tup [x, y]) m)[i]? = some it) : ∃ x y, l[i]? = some x ∧ m[i]? = some y ∧ it = .tup [x, y] := by
  rw [List.getElem?_zipWith] at h
  split at h
  · rename_i a b h1 h2
    cases h
    exact ⟨a, b, h1, h2, rfl⟩
  · cases h
theorem zip_end {l m : List CH.I} {i : Nat} (h : (l.zipWith (fun x y => CH.I.tup [x, y]) m)[i]? = none) : l.length ≤ i ∨ m.length ≤ i := by
  have := List.getElem?_eq_none_iff.mp h
  rw [List.length_zipWith] at this
  omega
/-- what the loop gives, or that it ends -/
theorem Fed.use {en : Bool} (r : Rel K T s σ H ρ) (g : src.good s = true) (f : Fed K H (Uni (Own s σ ρ) T) ρ σ en J src l) (i : Nat) :
    (l[i]? = none → J.stop i H) ∧ ∀ it, l[i]? = some it → J.go i H ∧ ∀ x H', J.yld i H x H' → Rel K T s σ H' ρ ∧ Stp H (Own s σ ρ) T H' (Own s σ ρ) T ∧ Itm K H' (Uni (Own s σ ρ) T) ρ it x ∧ (en = false → Rp K H' (Uni (Own s σ ρ) T) ρ it x) := by
  have fin : ∀ {it x}, Rp K H (Uni (Own s σ ρ) T) ρ it x → Rel K T s σ H ρ ∧ Stp H (Own s σ ρ) T H (Own s σ ρ) T ∧ Itm K H (Uni (Own s σ ρ) T) ρ it x ∧ (en = false → Rp K H (Uni (Own s σ ρ) T) ρ it x) := fun p => ⟨r, Stp.refl r.dis, .inl p, fun _ => p⟩
  cases f with
  | @tup a vs l p q =>
    refine ⟨fun h => ⟨vs, p.sqt, by rw [← q.length]; exact List.getElem?_eq_none_iff.mp h⟩, fun it h => ?_⟩
    obtain ⟨v, h1, h2⟩ := q.get h
    refine ⟨⟨vs, v, p.sqt, h1⟩, fun x H' ⟨e, y⟩ => ?_⟩
    subst e
    have := y vs p.sqt
    rw [h1] at this; cases this
    exact fin h2
  | @list a src l f =>
    obtain ⟨vs, p, q⟩ := f.get r g
    refine ⟨fun h => ⟨vs, p, by rw [← q.length]; exact List.getElem?_eq_none_iff.mp h⟩, fun it h => ?_⟩
    obtain ⟨v, h1, h2⟩ := q.get h
    refine ⟨⟨vs, v, p, h1⟩, fun x H' ⟨e, y⟩ => ?_⟩
    subst e
    have := y vs p
    rw [h1] at this; cases this
    exact fin h2
  | str l =>
    have hc : ∀ k : Nat, (mkS l).cps[k]? = l[k]? := fun k => by show l.toArray[k]? = _; simp
    refine ⟨fun h => ?_, fun it h => ?_⟩
    · show (mkS l).cps.size ≤ i
      have := List.getElem?_eq_none_iff.mp h
      rw [List.length_map] at this
      show l.toArray.size ≤ i
      simpa using this
    · rw [List.getElem?_map] at h
      obtain ⟨ch, h1, rfl⟩ := Option.map_eq_some_iff.mp h
      have hl := (List.getElem?_eq_some_iff.mp h1).1
      refine ⟨by show i < l.toArray.size; simpa using hl, fun x H' ⟨e, c2, y1, y2⟩ => ?_⟩
      subst e
      rw [hc, h1] at y1; cases y1
      subst y2
      exact fin (.str [ch])
  | rng lo n =>
    refine ⟨fun h => ?_, fun it h => ?_⟩
    · have := List.getElem?_eq_none_iff.mp h
      rw [List.length_map, List.length_range] at this
      exact this
    · rw [List.getElem?_map] at h
      obtain ⟨j, h1, rfl⟩ := Option.map_eq_some_iff.mp h
      obtain ⟨h3, h4⟩ := List.getElem?_eq_some_iff.mp h1
      rw [List.getElem_range] at h4
      subst h4
      rw [List.length_range] at h3
      refine ⟨h3, fun x H' ⟨e, y⟩ => ?_⟩
      subst e y
      exact fin (.int _)
  | @enum a src l f =>
    obtain ⟨vs, p, q⟩ := f.get r g
    refine ⟨fun h => ⟨vs, p, by rw [← q.length, ← enumL_len]; exact List.getElem?_eq_none_iff.mp h⟩, fun it h => ?_⟩
    obtain ⟨z, h0, rfl⟩ := enumL_get h
    obtain ⟨v, h1, h2⟩ := q.get h0
    refine ⟨⟨vs, v, p, h1⟩, fun x H' ⟨D, v', e1, e2, e3, y⟩ => ?_⟩
    have := y vs p
    rw [h1] at this; cases this
    subst e1 e3
    obtain ⟨r1, st1⟩ := r.laid (o := .tup [.int (i : Nat), v]) e2
    refine ⟨r1, st1, .inr ⟨D, _, _, rfl, rfl, SqT.of upd_same, .cons (.int _) (.cons (h2.stay (st1.stay r (Pre.refl ρ))) .nil)⟩, fun n => by cases n⟩
  | @enumT a vs l p q =>
    refine ⟨fun h => ⟨vs, p.sqt, by rw [← q.length, ← enumL_len]; exact List.getElem?_eq_none_iff.mp h⟩, fun it h => ?_⟩
    obtain ⟨z, h0, rfl⟩ := enumL_get h
    obtain ⟨v, h1, h2⟩ := q.get h0
    refine ⟨⟨vs, v, p.sqt, h1⟩, fun x H' ⟨D, v', e1, e2, e3, y⟩ => ?_⟩
    have := y vs p.sqt
    rw [h1] at this; cases this
    subst e1 e3
    obtain ⟨r1, st1⟩ := r.laid (o := .tup [.int (i : Nat), v]) e2
    refine ⟨r1, st1, .inr ⟨D, _, _, rfl, rfl, SqT.of upd_same, .cons (.int _) (.cons (h2.stay (st1.stay r (Pre.refl ρ))) .nil)⟩, fun n => by cases n⟩
  | @rev a src l f =>
    obtain ⟨vs, p, q⟩ := f.get r g
    refine ⟨fun h => by have := List.getElem?_eq_none_iff.mp h; rwa [List.length_reverse] at this, fun it h => ?_⟩
    obtain ⟨hl, h0⟩ := rev_get h
    obtain ⟨v, h1, h2⟩ := q.get h0
    refine ⟨⟨hl, vs, v, p, h1⟩, fun x H' ⟨e, y⟩ => ?_⟩
    subst e
    have := y vs p
    rw [h1] at this; cases this
    exact fin h2
  | @revT a vs l p q =>
    refine ⟨fun h => by have := List.getElem?_eq_none_iff.mp h; rwa [List.length_reverse] at this, fun it h => ?_⟩
    obtain ⟨hl, h0⟩ := rev_get h
    obtain ⟨v, h1, h2⟩ := q.get h0
    refine ⟨⟨hl, vs, v, p.sqt, h1⟩, fun x H' ⟨e, y⟩ => ?_⟩
    subst e
    have := y vs p.sqt
    rw [h1] at this; cases this
    exact fin h2
  | @zip a b src dst l m f f' =>
    have g' : src.good s = true ∧ dst.good s = true := by
      have g2 : (src.good s && dst.good s) = true := g
      rw [Bool.and_eq_true] at g2
      exact g2
    obtain ⟨vs, p, q⟩ := f.get r g'.1
    obtain ⟨ws, p', q'⟩ := f'.get r g'.2
    refine ⟨fun h => ⟨vs, ws, p, p', by rw [← q.length, ← q'.length]; exact zip_end h⟩, fun it h => ?_⟩
    obtain ⟨z, z', h0, h0', rfl⟩ := zip_get h
    obtain ⟨v, h1, h2⟩ := q.get h0
    obtain ⟨v', h1', h2'⟩ := q'.get h0'
    refine ⟨⟨vs, ws, v, v', p, p', h1, h1'⟩, fun x H' ⟨D, x1, y1, e1, e2, e3, y, y'⟩ => ?_⟩
    have t1 := y vs p
    rw [h1] at t1; cases t1
    have t2 := y' ws p'
    rw [h1'] at t2; cases t2
    subst e1 e3
    obtain ⟨r1, st1⟩ := r.laid (o := .tup [v, v']) e2
    have sy := st1.stay r (Pre.refl ρ)
    refine ⟨r1, st1, .inr ⟨D, _, _, rfl, rfl, SqT.of upd_same, .cons (h2.stay sy) (.cons (h2'.stay sy) .nil)⟩, fun n => by cases n⟩
  | @zipT a b vs ws l m p q p' q' =>
    refine ⟨fun h => ⟨vs, ws, p.sqt, p'.sqt, by rw [← q.length, ← q'.length]; exact zip_end h⟩, fun it h => ?_⟩
    obtain ⟨z, z', h0, h0', rfl⟩ := zip_get h
    obtain ⟨v, h1, h2⟩ := q.get h0
    obtain ⟨v', h1', h2'⟩ := q'.get h0'
    refine ⟨⟨vs, ws, v, v', p.sqt, p'.sqt, h1, h1'⟩, fun x H' ⟨D, x1, y1, e1, e2, e3, y, y'⟩ => ?_⟩
    have t1 := y vs p.sqt
    rw [h1] at t1; cases t1
    have t2 := y' ws p'.sqt
    rw [h1'] at t2; cases t2
    subst e1 e3
    obtain ⟨r1, st1⟩ := r.laid (o := .tup [v, v']) e2
    have sy := st1.stay r (Pre.refl ρ)
    refine ⟨r1, st1, .inr ⟨D, _, _, rfl, rfl, SqT.of upd_same, .cons (h2.stay sy) (.cons (h2'.stay sy) .nil)⟩, fun n => by cases n⟩
  | @keys k a ob kvs l e fr gk =>
    have gl : ∀ (l : List CH.I) (ks : List Key), keysOf l = some ks → l.length = ks.length ∧ ∀ (i : Nat) (it : CH.I), l[i]? = some it → ∃ b, ks[i]? = some b ∧ keyOf it = some b := by
      intro l
      induction l with
      | nil => intro ks h; cases h; exact ⟨rfl, fun i it h => by simp at h⟩
      | cons a l ih =>
        intro ks h
        unfold keysOf at h
        split at h
        · rename_i b r h1 h2
          cases h
          obtain ⟨i1, i2⟩ := ih r h2
          refine ⟨by rw [List.length_cons, List.length_cons, i1], fun i it h => ?_⟩
          cases i with
          | zero => simp at h; subst h; exact ⟨b, rfl, h1⟩
          | succ i => exact i2 i it (by simpa using h)
        · cases h
    obtain ⟨g1, g2⟩ := gl l _ gk
    rw [List.length_map] at g1
    refine ⟨fun h => ⟨fr, by rw [← g1]; exact List.getElem?_eq_none_iff.mp h⟩, fun it h => ?_⟩
    have hl := (List.getElem?_eq_some_iff.mp h).1
    refine ⟨⟨fr, by omega⟩, fun x H' ⟨e, kk, v, h3, h4⟩ => ?_⟩
    subst e h4
    obtain ⟨b, h5, h6⟩ := g2 i it h
    rw [List.getElem?_map, h3] at h5
    cases h5
    refine fin ?_
    unfold keyOf at h6
    split at h6
    · cases h6; exact .int _
    · cases h6; exact .str _
    · cases h6
end
def kS (en : Bool) : Kd (Src × List CH.I) L2.It := ⟨fun _ _ _ => False, fun K H W ρ σ a J => Fed K H W ρ σ en J a.1 a.2⟩
theorem kS_anti {en : Bool} : (kS en).Anti := fun h m w => Fed.stay (Stay.less m w) h (fun _ _ => rfl) fun _ _ _ e => e
section
variable {X : Cx} {c : Ctx}
/-- what is gone over -/
def isEn : CH.It → Bool
  | .enum _ => true
  | .zip _ _ => true
  | _ => false
def tI (K : PySem.W.Frag) (c : Ctx) (it : CH.It) : TI := fun σ H R => ∃ T s ρ, Rel K T s σ H ρ ∧ Run (kS (isEn it)) K T s σ H ρ (evIt c it s) fun _ J _ H' _ => R J H'
theorem PIi {tg p : PySem.Expr} {t t' : TI} (h : PI X tg p t) (w : ∀ σ H R, t' σ H R → t σ H R) : PI X tg p t' := ⟨fun pins s σ H R I q => h.run pins s σ H R I (w σ H R q)⟩
def iSeq (K : PySem.W.Frag) (tl : TE) : TI := fun σ H R => tl σ H fun x H1 => ∃ a, x = .ref a ∧ (((∃ xs, SqL K H1 a xs) ∧ R (Itl K a) H1) ∨ ((∃ xs, SqT K H1 a xs) ∧ R (Itt K a) H1))
theorem pi_seq {tg l : PySem.Expr} {tl : TE} (hl : PE X l tl) : PI X tg l (iSeq X.K tl) := by
  refine ⟨fun pins s σ H R I h => ?_⟩
  refine thn (hl.run pins s σ H _ I h) fun v s1 ⟨x, H1, I1, r1, q1⟩ => ?_
  obtain ⟨a, e, q1⟩ := q1
  subst e
  cases r1
  rcases q1 with ⟨⟨xs, hq⟩, q⟩ | ⟨⟨xs, hq⟩, q⟩
  · obtain ⟨its, rv, p, hz⟩ := I1.list hq
    refine wpAny_pyIter_list p.isList ?_
    refine ⟨s1.heap.objs.size, [s1.heap.objs.size], _, _, H1, rfl, I1.kept (t' := s1.toks) fun b o e => Heap.get?_push_of_some _ e, turn_list a _, ⟨_, Heap.get?_push_size _ rfl, rfl, rfl⟩, fun b hb => ?_, q⟩
    have e : b = s1.heap.objs.size := by simpa using hb
    subst e
    exact I1.fpOk (Nat.le_refl _) (I1.hok.fresh (Nat.le_refl _))
  · obtain ⟨its, rv, p, hz⟩ := I1.tuple hq
    refine wpAny_pyIter_tuple (show s1.heap.IsTuple a its.toArray from p) ?_
    refine ⟨s1.heap.objs.size, [s1.heap.objs.size], _, _, H1, rfl, I1.kept (t' := s1.toks) fun b o e => Heap.get?_push_of_some _ e, turn_tuple a _, ⟨_, Heap.get?_push_size _ rfl, rfl, rfl⟩, fun b hb => ?_, q⟩
    have e : b = s1.heap.objs.size := by simpa using hb
    subst e
    exact I1.fpOk (Nat.le_refl _) (I1.hok.fresh (Nat.le_refl _))
/-- an iterable's list -/
theorem fedL_ok {K : PySem.W.Frag} {T : Addr → Prop} {s : S} {σ : Sg} {H : Hp} {ρ : List Addr} {x : R} {v : V} {l : List CH.I} (r : Rel K (Uni T (tOf x v)) s σ H ρ) (q : RpR K H (Uni (Own s σ ρ) (Uni T (tOf x v))) ρ σ x v) (d : ∀ c, tOf x v c → ¬ T c) (e : viewQ x s = some (false, l)) :
    ∃ a, v = .ref a ∧ (∃ vs, SqL K H a vs) ∧ FedL K H (Uni (Own s σ ρ) T) ρ σ a (srcOf l x) l := by
  have sub : ∀ z, Uni (Own s σ ρ) T z → Uni (Own s σ ρ) (Uni T (tOf x v)) z := fun z h => h.imp id .inl
  have ls : Stay H (Uni (Own s σ ρ) (Uni T (tOf x v))) ρ H (Uni (Own s σ ρ) T) ρ := Stay.less r.mt sub
  obtain ⟨a, vs, rfl, r1, _, t2, _⟩ := viewQ_ok r q e
  refine ⟨a, rfl, ⟨vs, t2 rfl⟩, ?_⟩
  unfold viewQ at e
  split at e
  · cases e
  · cases e
    cases q with
    | fl h1 h2 h3 => exact .fl h1 (fun w => h2 (sub _ w)) (h3.stay ls)
  · cases e
    cases q with
    | xl h1 h3 => exact .xl h1 (h3.stay ls)
  · split at e
    · cases e
      cases q with
      | ref ha => exact .box ha
    · cases e
  · cases e
    obtain ⟨b, eb, u, hu, hr⟩ := q
    cases eb
    cases hr with
    | lst hr =>
      refine .fl hu (fun w => ?_) (hr.stay ls)
      rcases w with w | w
      · exact (r.tm a (.inr rfl)).2 w
      · exact d a rfl w
  · split at e
    · cases e
      exact .var q
    · cases e
  · cases e
/-- an end at which a temporary is given up -/
theorem Run.give {α β : Type} {K : PySem.W.Frag} {T : Addr → Prop} {s s1 : S} {σ : Sg} {H H1 : Hp} {ρ ρ1 : List Addr} {U : Addr → Prop} {k : Kd α β} {a : α} {b : β} {F : α → β → S → Hp → List Addr → Prop} (h : Run k K T s σ H ρ (.ok a s1) F)
    (r : Rel K (Uni T U) s1 σ H1 ρ1) (st : Stp H (Own s σ ρ) T H1 (Own s1 σ ρ1) (Uni T U)) (p : Pre ρ ρ1) (t : ∀ c, ¬ k.tm a b c) (q : k.rp K H1 (Uni (Own s1 σ ρ1) T) ρ1 σ a b) (ka : k.Anti) : F a b s1 H1 ρ1 := by
  have sub : ∀ z, Uni T (k.tm a b) z → Uni T U z := fun z h => h.elim .inl fun h => absurd h (t z)
  have sub2 : ∀ z, Uni T (k.tm a b) z → T z := fun z h => h.elim id fun h => absurd h (t z)
  exact h b H1 ρ1 (r.drop sub) (st.drop sub fun z h => .inl h) p (ka q (r.drop (T' := T) fun _ z => .inl z).mt fun z h => h.imp id (sub2 z)) fun c z => absurd z (t c)
theorem ok_seq {tg p : PySem.Expr} {e : E} (ha : PE X p (tE X.K c e)) : PI X tg p (tI X.K c (.seq e)) := by
  refine PIi (pi_seq ha) ?_
  intro σ H R ⟨T, s, ρ, rel, run⟩
  have hx : evIt c (.seq e) s = (evE c e s).bind fun x s1 => match viewQ x s1 with
    | some (_, l) => .ok (srcOf l x, l) s1
    | none => .bad := rfl
  rw [hx] at run
  refine ⟨T, s, ρ, rel, (Run.bind0 (k' := kR) run).mono fun u vu s1 H1 ρ1 rel1 st1 p1 q1 d1 run1 => ?_⟩
  split at run1
  · rename_i t l h1
    cases t with
    | false =>
      obtain ⟨a, rfl, hs, f⟩ := fedL_ok rel1 q1 d1 h1
      exact ⟨a, rfl, .inl ⟨hs, run1.give (k := kS _) (b := Itl X.K a) rel1 st1 p1 (fun _ z => z) (.list f) kS_anti⟩⟩
    | true =>
      unfold viewQ at h1
      split at h1
      · cases h1
        have q1' := rpVal (σ := σ) q1
        cases q1' with
        | tup g1 g2 =>
          refine ⟨_, rfl, .inr ⟨⟨_, g1.sqt⟩, run1.give (k := kS _) (b := Itt X.K _) rel1 st1 p1 (fun _ z => z) ?_ kS_anti⟩⟩
          exact .tup g1 (g2.less rel1.mt fun z h => h.imp id .inl)
      · cases h1
      · cases h1
      · split at h1 <;> cases h1
      · cases h1
      · split at h1 <;> cases h1
      · cases h1
  · exact run1.elim
theorem ok_chars {tg p : PySem.Expr} {e : E} (ha : PE X p (tE X.K c e)) : PI X tg p (tI X.K c (.chars e)) := by
  refine PIi (pi_str ha) ?_
  intro σ H R ⟨T, s, ρ, rel, run⟩
  have hx : evIt c (.chars e) s = (evE c e s).bind fun x s1 => match x with
    | .val (.str l) => .ok (.imm, l.map fun c => .str [c]) s1
    | _ => .bad := rfl
  rw [hx] at run
  refine ⟨T, s, ρ, rel, (Run.bind0 (k' := kR) run).mono fun u vu s1 H1 ρ1 rel1 st1 p1 q1 d1 run1 => ?_⟩
  split at run1
  · rename_i l
    cases rpStr (σ := σ) q1
    exact ⟨_, rfl, run1.give (k := kS _) (b := Its (mkS l)) rel1 st1 p1 (fun _ z => z) (.str l) kS_anti⟩
  · exact run1.elim
theorem rng_eq (i j : Int) : rng i j = (List.range (j - i).toNat).map fun (k : Nat) => CH.I.int (i + k) := rfl
theorem small_ok {i : Int} (h : small i = true) : -(2 ^ 62) ≤ i ∧ i < 2 ^ 62 := by
  have := of_decide_eq_true h
  omega
theorem ok_range1 (C : Cok X c) {tg p q : PySem.Expr} {e : E} (hb : bcall X.env.scope "range" p = some q) (ha : PE X q (tE X.K c e)) : PI X tg p (tI X.K c (.range1 e)) := by
  obtain ⟨p1, p2, rfl, hg, hs⟩ := bcall_ok hb
  refine PIi (pi_range1 (glC_ok rfl hg) (C.bl "range" (by decide +kernel)) (pa_cons ha pa_nil (star_of hs)) (by rw [star_of hs]; rfl)) ?_
  intro σ H R ⟨T, s, ρ, rel, run⟩
  have hx : evIt c (.range1 e) s = (evE c e s).bind fun x s1 => match rint x with
    | some i => Res.req (small i) (.ok (.imm, rng 0 i) s1)
    | none => .bad := rfl
  rw [hx] at run
  refine ⟨T, s, ρ, rel, (Run.bind0 (k' := kR) run).mono fun u vu s1 H1 ρ1 rel1 st1 p1 q1 d1 run1 => ?_⟩
  split at run1
  · rename_i i hi
    obtain ⟨cz, run1⟩ := Run.req run1
    have cz := small_ok cz
    unfold rint at hi
    split at hi
    · cases hi
      cases kRint q1
      refine ⟨i, rfl, cz.1, cz.2, run1.give (k := kS _) (b := Itr 0 i.toNat) rel1 st1 p1 (fun _ z => z) ?_ kS_anti⟩
      have := Fed.rng (K := X.K) (H := H1) (W := Uni (Own s1 σ ρ1) T) (ρ := ρ1) (σ := σ) 0 i.toNat
      show Fed X.K H1 (Uni (Own s1 σ ρ1) T) ρ1 σ false (Itr 0 i.toNat) .imm (rng 0 i)
      rw [rng_eq, Int.sub_zero]
      exact this
    · cases hi
  · exact run1.elim
theorem ok_range2 (C : Cok X c) {tg p q q2 : PySem.Expr} {e d : E} (hb : bcall2 X.env.scope "range" p = some (q, q2)) (ha : PE X q (tE X.K c e)) (hd : PE X q2 (tE X.K c d)) : PI X tg p (tI X.K c (.range2 e d)) := by
  obtain ⟨p1, p2, rfl, hg, hs, hs2⟩ := bcall2_ok hb
  refine PIi (pi_range2 (glC_ok rfl hg) (C.bl "range" (by decide +kernel)) (pa_cons ha (pa_cons hd pa_nil (star_of hs2)) (star_of hs)) (by rw [star_of hs, star_of hs2]; rfl) (by rw [star_of hs2]; rfl)) ?_
  intro σ H R ⟨T, s, ρ, rel, run⟩
  have hx : evIt c (.range2 e d) s = (evE c e s).bind fun x s1 => (evE c d s1).bind fun y s2 => match rint x, rint y with
    | some i, some j => Res.req (small i && small j) (.ok (.imm, rng i j) s2)
    | _, _ => .bad := rfl
  rw [hx] at run
  refine ⟨T, s, ρ, rel, (Run.bind (k' := kR) kS_anti run).mono fun u vu s1 H1 ρ1 rel1 st1 p1 q1 d1 run1 => ?_⟩
  refine ⟨_, s1, ρ1, rel1, (Run.bind0 (k' := kR) run1).mono fun w vw s2 H2 ρ2 rel2 st2 p2 q2 d2 run2 => ?_⟩
  split at run2
  · rename_i i j hi hj
    obtain ⟨cz, run2⟩ := Run.req run2
    rw [Bool.and_eq_true] at cz
    have c1 := small_ok cz.1
    have c2 := small_ok cz.2
    unfold rint at hi hj
    split at hi
    · cases hi
      split at hj
      · cases hj
        cases kRint q1
        cases kRint q2
        refine ⟨i, j, rfl, ⟨c1.1, c1.2, c2.1, c2.2⟩, run2.give (k := kS _) (b := Itr i (j - i).toNat) rel2 st2 p2 (fun _ z => z) (.rng i _) kS_anti⟩
      · cases hj
    · cases hi
  · exact run2.elim
theorem ok_enum (C : Cok X c) {p q : PySem.Expr} {es : List PySem.Expr} {kk : Nat} {tp : Pos} {e : E} (hb : bcall X.env.scope "enumerate" p = some q) (ha : PE X q (tE X.K c e)) : PI X (.Tuple es kk tp) p (tI X.K c (.enum e)) := by
  obtain ⟨p1, p2, rfl, hg, hs⟩ := bcall_ok hb
  refine PIi (pi_enumT (glC_ok rfl hg) (C.bl "enumerate" (by decide +kernel)) (pa_cons ha pa_nil (star_of hs)) (by rw [star_of hs]; rfl)) ?_
  intro σ H R ⟨T, s, ρ, rel, run⟩
  have hx : evIt c (.enum e) s = (evE c e s).bind fun x s1 => match viewQ x s1 with
    | some (_, l) => .ok (srcOf l x, enumL l) s1
    | none => .bad := rfl
  rw [hx] at run
  refine ⟨T, s, ρ, rel, (Run.bind0 (k' := kR) run).mono fun u vu s1 H1 ρ1 rel1 st1 p1 q1 d1 run1 => ?_⟩
  split at run1
  · rename_i t l h1
    cases t with
    | false =>
      obtain ⟨a, rfl, ⟨vs, hs⟩, f⟩ := fedL_ok rel1 q1 d1 h1
      exact ⟨a, vs, rfl, .inl ⟨hs, run1.give (k := kS _) (b := Ite X.K a) rel1 st1 p1 (fun _ z => z) (.enum f) kS_anti⟩⟩
    | true =>
      unfold viewQ at h1
      split at h1
      · cases h1
        have q1' := rpVal (σ := σ) q1
        cases q1' with
        | tup g1 g2 =>
          refine ⟨_, _, rfl, .inr ⟨g1.sqt, run1.give (k := kS _) (b := IteT X.K _) rel1 st1 p1 (fun _ z => z) ?_ kS_anti⟩⟩
          exact .enumT g1 (g2.less rel1.mt fun z h => h.imp id .inl)
      · cases h1
      · cases h1
      · split at h1 <;> cases h1
      · cases h1
      · split at h1 <;> cases h1
      · cases h1
  · exact run1.elim
theorem ok_rev (C : Cok X c) {tg p q : PySem.Expr} {e : E} (hb : bcall X.env.scope "reversed" p = some q) (ha : PE X q (tE X.K c e)) : PI X tg p (tI X.K c (.rev e)) := by
  obtain ⟨p1, p2, rfl, hg, hs⟩ := bcall_ok hb
  refine PIi (RT.pi_revA (glC_ok rfl hg) (C.bl "reversed" (by decide +kernel)) ha (star_of hs)) ?_
  intro σ H R ⟨T, s, ρ, rel, run⟩
  have hx : evIt c (.rev e) s = (evE c e s).bind fun x s1 => match viewQ x s1 with
    | some (_, l) => .ok (srcOf l x, l.reverse) s1
    | none => .bad := rfl
  rw [hx] at run
  refine ⟨T, s, ρ, rel, (Run.bind0 (k' := kR) run).mono fun u vu s1 H1 ρ1 rel1 st1 p1 q1 d1 run1 => ?_⟩
  split at run1
  · rename_i t l h1
    cases t with
    | false =>
      obtain ⟨b, ws, e1, r2, _, t3, _⟩ := viewQ_ok (rel1.drop (T' := Uni T (tOf u vu)) fun _ h => h) q1 h1
      obtain ⟨a, rfl, ⟨vs, hs⟩, f⟩ := fedL_ok rel1 q1 d1 h1
      cases e1
      refine ⟨_, ws, rfl, .inl ⟨t3 rfl, ?_⟩⟩
      rw [← r2.length]
      exact run1.give (k := kS _) (b := Itv X.K _ l.length) rel1 st1 p1 (fun _ z => z) (.rev f) kS_anti
    | true =>
      unfold viewQ at h1
      split at h1
      · cases h1
        have q1' := rpVal (σ := σ) q1
        cases q1' with
        | tup g1 g2 =>
          refine ⟨_, _, rfl, .inr ⟨g1.sqt, ?_⟩⟩
          rw [← g2.length]
          refine run1.give (k := kS _) (b := RT.ItvT X.K _ _) rel1 st1 p1 (fun _ z => z) ?_ kS_anti
          exact .revT g1 (g2.less rel1.mt fun z h => h.imp id .inl)
      · cases h1
      · cases h1
      · split at h1 <;> cases h1
      · cases h1
      · split at h1 <;> cases h1
      · cases h1
  · exact run1.elim
end
end CH
namespace CH
open PySem PySem.Spec PyProof.Rows L2
variable [Wsh]
section
variable {K : PySem.W.Frag} {T U : Addr → Prop} {s s' : S} {σ σ' : Sg} {H H' : Hp} {ρ ρ' : List Addr}
/-- fewer slots are known -/
theorem Rel.shrink (h : Rel K T s σ H ρ) (l : s'.env.length = σ'.length) (hp : s'.hp = s.hp) (g : ∀ k d, s'.g k = some d → s.g k = some d ∧ σ'[k]? = σ[k]?) : Rel K T s' σ' H ρ ∧ ∀ b, Own s' σ' ρ b → Own s σ ρ b := by
  have ow : ∀ b, Own s' σ' ρ b → Own s σ ρ b := by
    rintro b (⟨k, o, h1, h2⟩ | h1)
    · obtain ⟨g1, g2⟩ := g k _ h1
      exact .inl ⟨k, o, g1, g2 ▸ h2⟩
    · exact .inr h1
  have ls : Stay H (Uni (Own s σ ρ) T) ρ H (Uni (Own s' σ' ρ) T) ρ := Stay.less h.mt fun b x => x.imp (ow b) id
  refine ⟨⟨l, fun k i e => ?_, fun k o e => ?_, fun k j a o o' e1 e2 e3 e4 => ?_, by rw [hp]; exact h.hl, fun n o a e1 e2 => (h.bx n o a (by rw [← hp]; exact e1) e2).stay ls fun _ z => z, h.nd, fun b t => ⟨(h.tm b t).1, fun w => (h.tm b t).2 (ow b w)⟩⟩, ow⟩
  · obtain ⟨g1, g2⟩ := g k _ e
    obtain ⟨v, e1, r⟩ := h.im k i g1
    exact ⟨v, g2.trans e1, r.stay ls⟩
  · obtain ⟨g1, g2⟩ := g k _ e
    obtain ⟨a, e1, r, n⟩ := h.ob k o g1
    exact ⟨a, g2.trans e1, r.stay ls fun _ z => z, n⟩
  · obtain ⟨g1, g2⟩ := g k _ e1
    obtain ⟨f1, f2⟩ := g j _ e2
    exact h.dj k j a o o' g1 f1 (g2 ▸ e3) (f2 ▸ e4)
/-- what is held alone is changed -/
theorem Rel.updT (h : Rel K T s σ H ρ) {D : Addr} (t : T D) {o : HO} (m : Mu (some o)) : Rel K T s σ (upd H D o) ρ := by
  have kp : ∀ b u, b ≠ D → H b = some u → (upd H D o) b = some u := fun b u n e => by rw [upd_ne n]; exact e
  have no : ∀ b, Own s σ ρ b → b ≠ D := fun b w e => (h.tm D t).2 (e ▸ w)
  have st : Stay H (Uni (Own s σ ρ) T) ρ (upd H D o) (Uni (Own s σ ρ) T) ρ := ⟨fun b u e n => kp b u (fun z => n (.inr (z ▸ t))) e, fun b x => .inl x, h.mt, Pre.refl ρ⟩
  refine ⟨h.len, fun k i e => ?_, fun k o' e => ?_, h.dj, h.hl, fun n o' a e1 e2 => (h.bx n o' a e1 e2).stay st fun u z => kp a u (no a (.inr (List.mem_of_getElem? e2))) z, h.nd, fun b x => ⟨?_, (h.tm b x).2⟩⟩
  · obtain ⟨v, e1, r⟩ := h.im k i e
    exact ⟨v, e1, r.stay st⟩
  · obtain ⟨a, e1, r, n⟩ := h.ob k o' e
    exact ⟨a, e1, r.stay st fun u z => kp a u (no a (.inl ⟨k, o', e, e1⟩)) z, n⟩
  · by_cases e : b = D
    · subst e; exact ⟨o, upd_same, m⟩
    · obtain ⟨⟨u, e1, m1⟩, _⟩ := h.tm b x
      exact ⟨u, kp b u e e1, m1⟩
/-! wiping, restoring -/
theorem wipeE_len (env : List (Option D)) : ∀ own, (wipeE env own).length = env.length
  | [] => rfl
  | k :: r => by unfold wipeE; rw [List.length_set, wipeE_len env r]
theorem wipeE_get (env : List (Option D)) : ∀ (own : List Nat) (k : Nat), (wipeE env own).getD k none = if k ∈ own then none else env.getD k none
  | [], k => by simp [wipeE]
  | j :: r, k => by
    have ih := wipeE_get env r k
    unfold wipeE
    rw [List.getD_eq_getElem?_getD]
    by_cases e : j = k
    · subst e
      by_cases hl : j < (wipeE env r).length
      · rw [List.getElem?_set_self hl]; simp
      · rw [List.getElem?_eq_none (by rw [List.length_set]; omega)]; simp
    · rw [List.getElem?_set_ne e, ← List.getD_eq_getElem?_getD, ih]
      have : k ∈ j :: r ↔ k ∈ r := by simp [List.mem_cons, Ne.symm e]
      simp [this]
theorem wipeS_g {own : List Nat} {s : S} {k : Nat} {d : D} : (wipeS own s).g k = some d ↔ k ∉ own ∧ s.g k = some d := by
  unfold S.g wipeS
  show (wipeE s.env own).getD k none = some d ↔ _
  rw [wipeE_get]
  split <;> simp [*]
theorem wipe_len (σ : Sg) : ∀ own, (wipe σ own).length = σ.length
  | [] => rfl
  | k :: r => by unfold wipe; rw [List.length_set, wipe_len σ r]
theorem wipe_get (σ : Sg) : ∀ (own : List Nat) (k : Nat), (wipe σ own)[k]? = if k ∈ own then (if k < σ.length then some none else none) else σ[k]?
  | [], k => by simp [wipe]
  | j :: r, k => by
    have ih := wipe_get σ r k
    unfold wipe
    by_cases e : j = k
    · subst e
      by_cases hl : j < σ.length
      · rw [List.getElem?_set_self (by rw [wipe_len]; exact hl)]; simp [hl]
      · rw [List.getElem?_eq_none (by rw [List.length_set, wipe_len]; omega)]; simp [hl]
    · rw [List.getElem?_set_ne e, ih]
      have : k ∈ j :: r ↔ k ∈ r := by simp [List.mem_cons, Ne.symm e]
      simp [this]
theorem wipe_eq {own : List Nat} {σ σ' : Sg} (l : σ'.length = σ.length) (h : ∀ k, k ∉ own → σ'[k]? = σ[k]?) : wipe σ' own = wipe σ own := by
  apply List.ext_getElem?
  intro k
  rw [wipe_get, wipe_get, l]
  split
  · rfl
  · exact h k (by assumption)
theorem restE_len (old env : List (Option D)) : ∀ own, (restE old env own).length = env.length
  | [] => rfl
  | k :: r => by unfold restE; rw [List.length_set, restE_len old env r]
theorem restE_get (old env : List (Option D)) (hl : old.length = env.length) : ∀ (own : List Nat) (k : Nat), (restE old env own).getD k none = if k ∈ own then old.getD k none else env.getD k none
  | [], k => by simp [restE]
  | j :: r, k => by
    have ih := restE_get old env hl r k
    unfold restE
    rw [List.getD_eq_getElem?_getD]
    by_cases e : j = k
    · subst e
      by_cases h : j < env.length
      · rw [List.getElem?_set_self (by rw [restE_len]; exact h)]; simp
      · rw [List.getElem?_eq_none (by rw [List.length_set, restE_len]; omega)]
        have : old[j]? = none := List.getElem?_eq_none (by omega)
        simp [this]
    · rw [List.getElem?_set_ne e, ← List.getD_eq_getElem?_getD, ih]
      have : k ∈ j :: r ↔ k ∈ r := by simp [List.mem_cons, Ne.symm e]
      simp [this]
theorem ownFree_ok {env : List (Option D)} {own : List Nat} (h : ownFree env own = true) {k : Nat} (hk : k ∈ own) {o : O} : env.getD k none ≠ some (.ob o) := by
  have := List.all_eq_true.mp h k hk
  intro e
  simp only [e] at this
  cases this
/-- .. the old names again -/
theorem Rel.restore {own : List Nat} {s1 : S} (r : Rel K U s (wipe σ own) H ρ) (hl : s1.env.length = s.env.length) (f : ownFree s1.env own = true)
    (old : ∀ k i, k ∈ own → s1.g k = some (.im i) → ∃ v, σ[k]? = some (some v) ∧ Rp K H (Uni (Own s (wipe σ own) ρ) U) ρ i v) :
    Rel K U { s with env := restE s1.env s.env own } σ H ρ ∧ ∀ b, Own { s with env := restE s1.env s.env own } σ ρ b → Own s (wipe σ own) ρ b := by
  have gg : ∀ k d, ({ s with env := restE s1.env s.env own } : S).g k = some d → (k ∈ own ∧ s1.g k = some d) ∨ (k ∉ own ∧ s.g k = some d ∧ σ[k]? = (wipe σ own)[k]?) := fun k d e => by
    have e : (restE s1.env s.env own).getD k none = some d := e
    rw [restE_get _ _ hl] at e
    split at e
    · exact .inl ⟨by assumption, e⟩
    · rename_i n
      exact .inr ⟨n, e, by rw [wipe_get, if_neg n]⟩
  have ob : ∀ k o, ({ s with env := restE s1.env s.env own } : S).g k = some (.ob o) → s.g k = some (.ob o) ∧ σ[k]? = (wipe σ own)[k]? := fun k o e => by
    rcases gg k _ e with ⟨h1, h2⟩ | ⟨_, h2⟩
    · exact absurd h2 (ownFree_ok f h1)
    · exact h2
  have ow : ∀ b, Own { s with env := restE s1.env s.env own } σ ρ b → Own s (wipe σ own) ρ b := by
    rintro b (⟨k, o, h1, h2⟩ | h1)
    · obtain ⟨g1, g2⟩ := ob k o h1
      exact .inl ⟨k, o, g1, g2 ▸ h2⟩
    · exact .inr h1
  have ls : Stay H (Uni (Own s (wipe σ own) ρ) U) ρ H (Uni (Own { s with env := restE s1.env s.env own } σ ρ) U) ρ := Stay.less r.mt fun b x => x.imp (ow b) id
  refine ⟨⟨?_, fun k i e => ?_, fun k o e => ?_, fun k j a o o' e1 e2 e3 e4 => ?_, r.hl, fun n o a e1 e2 => (r.bx n o a e1 e2).stay ls fun _ z => z, r.nd, fun b t => ⟨(r.tm b t).1, fun w => (r.tm b t).2 (ow b w)⟩⟩, ow⟩
  · show (restE s1.env s.env own).length = σ.length
    rw [restE_len, r.len, wipe_len]
  · rcases gg k _ e with ⟨h1, h2⟩ | ⟨h1, h2, h3⟩
    · obtain ⟨v, e1, p⟩ := old k i h1 h2
      exact ⟨v, e1, p.stay ls⟩
    · obtain ⟨v, e1, p⟩ := r.im k i h2
      exact ⟨v, h3.trans e1, p.stay ls⟩
  · obtain ⟨g1, g2⟩ := ob k o e
    obtain ⟨a, e1, p, n⟩ := r.ob k o g1
    exact ⟨a, g2.trans e1, p.stay ls fun _ z => z, n⟩
  · obtain ⟨g1, g2⟩ := ob k o e1
    obtain ⟨f1, f2⟩ := ob j o' e2
    exact r.dj k j a o o' g1 f1 (g2 ▸ e3) (f2 ▸ e4)
end
end CH
namespace CH
open PySem PySem.Spec PyProof.Rows L2
variable [Wsh]
def tCnd (K : PySem.W.Frag) (c : Ctx) (cs : Option E) : TT := fun σ H Q => ∃ T s ρ, Rel K T s σ H ρ ∧ Run kE K T s σ H ρ (evC c cs s) fun b _ _ H' _ => Q b H'
section
variable {K : PySem.W.Frag} {T : Addr → Prop} {s : S} {σ : Sg} {H : Hp} {ρ : List Addr}
theorem Stp.updNew {H H1 : Hp} {W T W' T' : Addr → Prop} (a : Stp H W T H1 W' T') {D : Addr} (n : H D = none) {o : HO} : Stp H W T (upd H1 D o) W' T' :=
  ⟨fun b u h w => by rw [upd_ne (ne_of_none h n)]; exact a.keep b u h w, a.new, a.dis, a.sub, fun b ob u h => by rw [upd_ne (ne_of_none h n)]; exact a.fz b ob u h⟩
/-- the body of a comprehension's turn -/
def cBody (c : Ctx) (own : List Nat) (tg : Tg) (cs : Option E) (el : E) (i : CH.I) (s2 : S) : Res (Option CH.I) :=
  (bindT [] tg i s2).bind fun _ s3 => (evC c cs s3).bind fun b s4 =>
        if b = true then (evE c el s4).bind fun y s5 => (asI y s5).bind fun v s6 => .ok (some v) (wipeS own s6) else .ok none (wipeS own s4)
theorem bind_assoc {α β γ : Type} (x : Res α) (f : α → S → Res β) (g : β → S → Res γ) : (x.bind f).bind g = x.bind fun a s => (f a s).bind g := by cases x <;> rfl
/-- nothing that is raised is wished for -/
abbrev _root_.CH.WN : Wsh := ⟨fun _ _ _ _ => False⟩
theorem bindN_bind {α β γ : Type} (x : Res α) (f : α → S → Res β) (g : β → S → Res γ) : (x.bindN f).bind g = x.bindN fun a s => (f a s).bind g := by cases x <;> rfl
theorem bindN_assoc {α β γ : Type} (x : Res α) (f : α → S → Res β) (g : β → S → Res γ) : (x.bind f).bindN g = x.bindN fun a s => (f a s).bindN g := by cases x <;> rfl
theorem Run.okkN {α β α' : Type} {k : Kd α β} {x : Res α'} {f : α' → S → Res α} {F : α → β → S → Hp → List Addr → Prop} (h : Run k K T s σ H ρ (x.bindN f) F) : ∃ a s1, x = .ok a s1 ∧ Run k K T s σ H ρ (f a s1) F := by
  cases x with
  | ok a s1 => exact ⟨a, s1, rfl, h⟩
  | exc c l s => exact h.elim
  | bad => exact h.elim
theorem compL_nx (c : Src) (f : CH.I → S → Res (Option CH.I)) : ∀ (l acc : List CH.I) (s : S) (e : String) (m : List CH.I) (s1 : S), compL c f l acc s ≠ .exc e m s1
  | [], acc, s, e, m, s1 => by
    unfold compL Res.req
    split <;> (intro h; cases h)
  | i :: r, acc, s, e, m, s1 => by
    unfold compL Res.req
    split
    · cases f i s with
      | ok o s2 =>
        cases o with
        | some v =>
          show Res.req _ _ ≠ _
          unfold Res.req
          split
          · exact compL_nx c f r _ s2 e m s1
          · intro h; cases h
        | none => exact compL_nx c f r acc s2 e m s1
      | exc => intro h; cases h
      | bad => intro h; cases h
    · intro h; cases h
theorem Run.okk {α β : Type} {k : Kd α β} {src : Src} {g : CH.I → S → Res (Option CH.I)} {l acc : List CH.I} {s0 : S} {f : List CH.I → S → Res α} {F : α → β → S → Hp → List Addr → Prop} (h : Run k K T s σ H ρ ((compL src g l acc s0).bind f) F) : ∃ a s1, compL src g l acc s0 = .ok a s1 ∧ Run k K T s σ H ρ (f a s1) F := by
  cases e : compL src g l acc s0 with
  | ok a s1 => rw [e] at h; exact ⟨a, s1, rfl, h⟩
  | exc c l s => exact absurd e (compL_nx _ _ _ _ _ _ _ _)
  | bad => rw [e] at h; exact h.elim
theorem src_there : ∀ (src : Src) (k : Nat) {s : S}, k ∈ src.names → src.good s = true → s.g k = none → False
  | .imm, k, s, h, _, _ => by cases h
  | .box _ _, k, s, h, _, _ => by cases h
  | .var j l, k, s, h, g, n => by
    have e : k = j := by simpa [Src.names] using h
    subst e
    unfold Src.good at g
    simp only [n] at g
    cases g
  | .key j l, k, s, h, g, n => by
    have e : k = j := by simpa [Src.names] using h
    subst e
    unfold Src.good at g
    simp only [n] at g
    cases g
  | .two c d, k, s, h, g, n => by
    have g2 : (c.good s && d.good s) = true := g
    rw [Bool.and_eq_true] at g2
    rcases List.mem_append.mp h with h | h
    · exact src_there c k h g2.1 n
    · exact src_there d k h g2.2 n
structure CompW (K : PySem.W.Frag) (c : Ctx) (own : List Nat) (tg : Tg) (cs : Option E) (el : E) (F : R → V → S → Hp → List Addr → Prop) (T : Addr → Prop) (s1 : S) (σ : Sg) (H1 : Hp) (ρ1 : List Addr) (D : Addr) (J : L2.It) (en : Bool) (src : Src) (l : List CH.I) (i : Nat) (H : Hp) (s : S) (ρ : List Addr) (acc : List CH.I) (av : List V) : Prop where
  rel : Rel K (Uni T fun a => V.ref D = V.ref a) s (wipe σ own) H ρ
  clean : ∀ k, k ∈ own → s.g k = none
  len : s1.env.length = s.env.length
  hd : H D = some (.lst av)
  ac : Rps K H (Uni (Own s (wipe σ own) ρ) (Uni T fun a => V.ref D = V.ref a)) ρ acc av
  fed : Fed K H (Uni (Own s (wipe σ own) ρ) (Uni T fun a => V.ref D = V.ref a)) ρ (wipe σ own) en J src l
  st : Stp H1 (Own s1 σ ρ1) T H (Own s (wipe σ own) ρ) (Uni T fun a => V.ref D = V.ref a)
  pre : Pre ρ1 ρ
  run : Run kR K T s1 σ H1 ρ1 ((compL src (cBody c own tg cs el) (l.drop i) acc s).bind fun l s2 => .ok (.tmp (.lst l)) { s2 with env := restE s1.env s2.env own }) F
theorem comp_ok {c : Ctx} {own : List Nat} {tg : Tg} {it : CH.It} {cs : Option E} {el : E} (ht : ∀ k ∈ tgN tg, k ∈ own) (he : tgE tg it = true) : ∀ σ H Q, tE K c (.comp own tg it cs el) σ H Q → tLc (tI K c it) (gOf K tg) (@tCnd WN K c cs) (@tE WN K c el) own σ H Q := by
  intro σ H Q ⟨T, s, ρ, rel, run⟩
  have hx : evE c (.comp own tg it cs el) s = (evIt c it s).bind fun sl s1 => Res.req (ownFree s1.env own) ((compL sl.1 (cBody c own tg cs el) sl.2 [] (wipeS own s1)).bind fun l s2 => .ok (.tmp (.lst l)) { s2 with env := restE s1.env s2.env own }) := rfl
  rw [hx] at run
  refine ⟨T, s, ρ, rel, (Run.bind0 (k' := kS (isEn it)) run).mono fun sl J s1 H1 ρ1 rel1' st1' p1 fd1' _ run1 => ?_⟩
  obtain ⟨src, l⟩ := sl
  -- nothing is held by what is gone over
  have sb : ∀ z, T z → Uni T (kS (isEn it) |>.tm (src, l) J) z := fun z h => .inl h
  have rel1 : Rel K T s1 σ H1 ρ1 := rel1'.drop sb
  have st1 : Stp H (Own s σ ρ) T H1 (Own s1 σ ρ1) T := st1'.drop sb fun _ z => z
  have fd1 : Fed K H1 (Uni (Own s1 σ ρ1) T) ρ1 σ (isEn it) J src l := Fed.stay (Stay.less rel1'.mt fun z h => h.imp id (sb z)) fd1' (fun _ _ => rfl) fun _ _ _ e => e
  have run1 := run1.from st1 p1
  obtain ⟨of, run1⟩ := Run.req run1
  intro D hD
  obtain ⟨rh, sth⟩ := rel1.hold (o := .lst []) hD (.inl trivial)
  have kd : ∀ b u, H1 b = some u → (upd H1 D (.lst [])) b = some u := fun b u e => by rw [upd_ne (ne_of_none e hD)]; exact e
  obtain ⟨rw0, ow0⟩ := rh.shrink (s' := wipeS own s1) (σ' := wipe σ own) (by rw [wipe_len]; show (wipeE s1.env own).length = _; rw [wipeE_len]; exact rel1.len) rfl (fun k d e => by
    obtain ⟨h1, h2⟩ := wipeS_g.mp e
    exact ⟨h2, by rw [wipe_get, if_neg h1]⟩)
  -- what is gone over is no name of the comprehension's own
  have srcn : ∀ k ∈ src.names, k ∉ own := fun k e hk => by
    have g : src.good (wipeS own s1) = true := by
      cases l with
      | nil =>
        obtain ⟨_, _, h, _⟩ := Run.okk run1
        unfold compL at h
        exact (Res.req_ok h).1
      | cons a r =>
        obtain ⟨_, _, h, _⟩ := Run.okk run1
        unfold compL at h
        exact (Res.req_ok h).1
    have hn : (wipeS own s1).g k = none := by
      cases e : (wipeS own s1).g k with
      | none => rfl
      | some d => exact absurd hk (wipeS_g.mp e).1
    exact src_there src k e g hn
  refine ⟨fun i m H' => m = l.length - i ∧ ∃ s2 ρ2 acc av, CompW K c own tg cs el (fun _ v _ H' _ => Q v H') T s1 σ H1 ρ1 D J (isEn it) src l i H' s2 ρ2 acc av, ⟨l.length - 0, rfl, wipeS own s1, ρ1, [], [], ?_⟩, fun i m Hi ⟨hm, s2, ρ2, acc, av, w⟩ => ?_⟩
  · refine ⟨rw0, fun k hk => ?_, by show s1.env.length = (wipeE s1.env own).length; rw [wipeE_len], upd_same, .nil, ?_, sth.less ow0 (fun _ z => z) (fun _ z => .inl z), Pre.refl _, run1⟩
    · cases e : (wipeS own s1).g k with
      | none => rfl
      | some d => exact absurd hk (wipeS_g.mp e).1
    · refine Fed.stay ⟨fun b u e _ => kd b u e, fun b h => ?_, rel1.mt, Pre.refl _⟩ fd1 (fun k e => by rw [wipe_get, if_neg (srcn k e)]) fun b ob u e => kd b _ e
      rcases h with h | h | h
      · exact .inl (.inl (ow0 b h))
      · exact .inl (.inr h)
      · exact .inr (by cases h; exact hD)
  · -- a turn
    have good : src.good s2 = true := by
      obtain ⟨_, _, h, _⟩ := Run.okk w.run
      cases hd : l.drop i with
      | nil => rw [hd] at h; unfold compL at h; exact (Res.req_ok h).1
      | cons a r => rw [hd] at h; unfold compL at h; exact (Res.req_ok h).1
    obtain ⟨us, ug⟩ := w.fed.use w.rel good i
    cases hi : l[i]? with
    | none =>
      refine .inl ⟨us hi, ?_⟩
      have hdr : l.drop i = [] := List.drop_eq_nil_of_le (List.getElem?_eq_none_iff.mp hi)
      have rn := w.run
      rw [hdr] at rn
      unfold compL at rn
      rw [good] at rn
      have rn : Run kR K T s1 σ H1 ρ1 (.ok (.tmp (.lst acc)) { s2 with env := restE s1.env s2.env own }) (fun _ v _ H' _ => Q v H') := rn
      have sy : Stay H1 (Uni (Own s1 σ ρ1) T) ρ1 Hi (Uni (Own s2 (wipe σ own) ρ2) (Uni T fun a => V.ref D = V.ref a)) ρ2 := w.st.stay rel1 w.pre
      obtain ⟨rr, ro⟩ := w.rel.restore w.len of (fun k i hk hg => by
        obtain ⟨v, e1, p⟩ := rel1.im k i hg
        exact ⟨v, e1, p.stay sy⟩)
      refine rn (.ref D) Hi ρ2 rr (w.st.less ro (fun _ z => z) fun _ z => .inl z) w.pre ⟨D, rfl, _, w.hd, .lst (w.ac.stay (Stay.less w.rel.mt fun b h => h.imp (ro b) id))⟩ fun a e t => ?_
      have e' : V.ref D = V.ref a := e
      cases e'
      obtain ⟨⟨u, hu, _⟩, _⟩ := rel1.tm D t
      rw [hD] at hu; cases hu
    | some itm =>
      obtain ⟨go, yl⟩ := ug itm hi
      refine .inr ⟨go, fun H' => ∃ m', m' < m ∧ (m' = l.length - (i + 1) ∧ ∃ s2 ρ2 acc av, CompW K c own tg cs el (fun _ v _ H' _ => Q v H') T s1 σ H1 ρ1 D J (isEn it) src l (i + 1) H' s2 ρ2 acc av), fun H' h => h, fun x Hy hy => ?_⟩
      have il : i < l.length := (List.getElem?_eq_some_iff.mp hi).1
      have lt : l.length - (i + 1) < m := by omega
      have hdr : l.drop i = itm :: l.drop (i + 1) := by
        rw [List.drop_eq_getElem_cons il]
        congr 1
        exact (List.getElem?_eq_some_iff.mp hi).2
      have rn := w.run
      rw [hdr] at rn
      unfold compL at rn
      rw [good] at rn
      have rn : Run kR K T s1 σ H1 ρ1 (((cBody c own tg cs el itm s2).bindN fun o s1 => match o with
        | some v => Res.req (decide (acc.length < 16777216)) (compL src (cBody c own tg cs el) (l.drop (i + 1)) (acc ++ [v]) s1)
        | none => compL src (cBody c own tg cs el) (l.drop (i + 1)) acc s1).bind fun l s2 => .ok (.tmp (.lst l)) { s2 with env := restE s1.env s2.env own }) (fun _ v _ H' _ => Q v H') := rn
      unfold cBody at rn
      rw [bindN_bind, bindN_assoc] at rn
      obtain ⟨⟨⟩, s3, hb, rn⟩ := Run.okkN rn
      obtain ⟨ry, sty, im, nm⟩ := yl x Hy hy
      refine gOf_ok hb ry im (fun ⟨k, e⟩ => nm ?_) fun σ2 r3 st3 _ kp => ?_
      · subst e
        cases it <;> first | rfl | cases he
      have wq : wipe σ2 own = wipe (wipe σ own) own := wipe_eq kp.ln fun k hk => (kp.st k fun z => hk (ht k z)).1
      have wq2 : wipe (wipe σ own) own = wipe σ own := wipe_eq (wipe_len σ own) fun k hk => by rw [wipe_get, if_neg hk]
      refine ⟨wq.trans wq2, _, s3, ρ2, r3, ?_⟩
      rw [bindN_assoc] at rn
      obtain ⟨b, s4, hc, rn⟩ := Run.okkN rn
      rw [hc]
      intro b' H3 ρ3 r4' st4' p4 eb _
      have eb : b = b' := eb
      subst eb
      have sb4 : ∀ z, (Uni T fun a => V.ref D = V.ref a) z → Uni (Uni T fun a => V.ref D = V.ref a) (kE.tm b b) z := fun z h => .inl h
      have r4 := r4'.drop sb4
      have st4 := st4'.drop sb4 fun _ z => z
      have stA := (sty.trans st3).trans st4
      -- what comes back to the loop's head
      have back : ∀ (s6 : S) (H4 : Hp) (ρ4 : List Addr) (acc' : List CH.I) (av' : List V), Rel K (Uni T fun a => V.ref D = V.ref a) s6 σ2 H4 ρ4 → Stp Hi (Own s2 (wipe σ own) ρ2) (Uni T fun a => V.ref D = V.ref a) H4 (Own s6 σ2 ρ4) (Uni T fun a => V.ref D = V.ref a) → Pre ρ2 ρ4 → s1.env.length = s6.env.length →
          Rps K H4 (Uni (Own s6 σ2 ρ4) (Uni T fun a => V.ref D = V.ref a)) ρ4 acc' av' →
          Run kR K T s1 σ H1 ρ1 ((compL src (cBody c own tg cs el) (l.drop (i + 1)) acc' (wipeS own s6)).bind fun l s2 => .ok (.tmp (.lst l)) { s2 with env := restE s1.env s2.env own }) (fun _ v _ H' _ => Q v H') →
          CompW K c own tg cs el (fun _ v _ H' _ => Q v H') T s1 σ H1 ρ1 D J (isEn it) src l (i + 1) (upd H4 D (.lst av')) (wipeS own s6) ρ4 acc' av' := by
        intro s6 H4 ρ4 acc' av' r6 st6 p6 l6 ra rn
        have tD : (Uni T fun a => V.ref D = V.ref a) D := .inr rfl
        have fD : H4 D = some (.lst av) := st6.keep D _ w.hd (w.rel.tm D (.inr rfl)).2
        have r7 := r6.updT tD (o := .lst av') (.inl trivial)
        obtain ⟨r8, o8⟩ := r7.shrink (s' := wipeS own s6) (σ' := wipe σ own) (by rw [wipe_len]; show (wipeE s6.env own).length = _; rw [wipeE_len, ← l6]; exact rel1.len) rfl (fun k d e => by
          obtain ⟨h1, h2⟩ := wipeS_g.mp e
          refine ⟨h2, ?_⟩
          rw [← wq2, ← wq, wipe_get, if_neg h1])
        have nD : ∀ b u, b ≠ D → H4 b = some u → (upd H4 D (.lst av')) b = some u := fun b u n e => by rw [upd_ne n]; exact e
        have s7 : Stay H4 (Uni (Own s6 σ2 ρ4) (Uni T fun a => V.ref D = V.ref a)) ρ4 (upd H4 D (.lst av')) (Uni (Own (wipeS own s6) (wipe σ own) ρ4) (Uni T fun a => V.ref D = V.ref a)) ρ4 :=
          ⟨fun b u e n => nD b u (fun z => n (.inr (z ▸ tD))) e, fun b h => .inl (h.imp (o8 b) id), r6.mt, Pre.refl _⟩
        have s6y := st6.stay w.rel p6
        refine ⟨r8, fun k hk => ?_, by show s1.env.length = (wipeE s6.env own).length; rw [wipeE_len]; exact l6, upd_same, ra.stay s7, ?_, ?_, w.pre.trans p6, rn⟩
        · cases e : (wipeS own s6).g k with
          | none => rfl
          | some d => exact absurd hk (wipeS_g.mp e).1
        · refine Fed.stay s7 (Fed.stay s6y w.fed (σ' := wipe σ own) (fun _ _ => rfl) st6.fz) (fun _ _ => rfl) fun b ob u e => nD b _ (fun z => by subst z; rw [fD] at e; cases e) e
        · exact ((w.st.trans st6).less o8 (fun _ z => z) fun _ z => .inl z).updNew hD
      have l3 : s1.env.length = s3.env.length := by rw [w.len, kp.le]
      have stays : Stay Hi (Uni (Own s2 (wipe σ own) ρ2) (Uni T fun a => V.ref D = V.ref a)) ρ2 H3 (Uni (Own s4 σ2 ρ3) (Uni T fun a => V.ref D = V.ref a)) ρ3 := stA.stay w.rel p4
      have kD : H3 D = some (.lst av) := stA.keep D _ w.hd (w.rel.tm D (.inr rfl)).2
      have l4 : s1.env.length = s4.env.length := by rw [w.len, w.rel.len, ← kp.ln, r4.len]
      cases b with
      | false =>
        have rn : Run kR K T s1 σ H1 ρ1 ((compL src (cBody c own tg cs el) (l.drop (i + 1)) acc (wipeS own s4)).bind fun l s2 => .ok (.tmp (.lst l)) { s2 with env := restE s1.env s2.env own }) (fun _ v _ H' _ => Q v H') := rn
        refine iteF ?_
        have cw := back s4 H3 ρ3 acc av r4 stA p4 l4 (w.ac.stay stays) rn
        have : upd H3 D (.lst av) = H3 := by
          funext b
          by_cases e : b = D
          · subst e; rw [upd_same, kD]
          · rw [upd_ne e]
        rw [this] at cw
        exact ⟨_, lt, rfl, _, _, _, _, cw⟩
      | true =>
        have rn : Run kR K T s1 σ H1 ρ1 (((evE c el s4).bind fun y s5 => (asI y s5).bind fun v s6 => .ok (some v) (wipeS own s6)).bindN fun o s1_1 => (match o with
          | some v => Res.req (decide (acc.length < 16777216)) (compL src (cBody c own tg cs el) (l.drop (i + 1)) (acc ++ [v]) s1_1)
          | none => compL src (cBody c own tg cs el) (l.drop (i + 1)) acc s1_1).bind fun l s2 => .ok (.tmp (.lst l)) { s2 with env := restE s1.env s2.env own }) (fun _ v _ H' _ => Q v H') := rn
        refine iteT ⟨_, s4, ρ3, r4, ?_⟩
        rw [bindN_assoc] at rn
        obtain ⟨y, s5, hy5, rn⟩ := Run.okkN rn
        rw [hy5]
        intro vy H4 ρ4 r5 st5 p5 q5 d5
        rw [bindN_assoc] at rn
        obtain ⟨v, s6, hv, rn⟩ := Run.okkN rn
        obtain ⟨r6, rp6, o6⟩ := asI_ok r5 q5 d5 hv
        have rn : Run kR K T s1 σ H1 ρ1 ((Res.req (decide (acc.length < 16777216)) (compL src (cBody c own tg cs el) (l.drop (i + 1)) (acc ++ [v]) (wipeS own s6))).bind fun l s2 => .ok (.tmp (.lst l)) { s2 with env := restE s1.env s2.env own }) (fun _ v _ H' _ => Q v H') := rn
        have hz : decide (acc.length < 16777216) = true := by
          cases hd : decide (acc.length < 16777216) with
          | true => rfl
          | false => rw [hd] at rn; exact (show False from rn).elim
        rw [hz] at rn
        have st6 : Stp H3 (Own s4 σ2 ρ3) (Uni T fun a => V.ref D = V.ref a) H4 (Own s6 σ2 ρ4) (Uni T fun a => V.ref D = V.ref a) := st5.less o6 (fun _ z => .inl z) fun _ z => z
        have stB := stA.trans st6
        have kD4 : H4 D = some (.lst av) := stB.keep D _ w.hd (w.rel.tm D (.inr rfl)).2
        have l6 : s1.env.length = s6.env.length := by rw [l4, r4.len, r6.len]
        refine ⟨av, kD4, by rw [← w.ac.length, sizeLine_eq]; exact of_decide_eq_true hz, _, lt, rfl, _, _, _, _, back s6 H4 ρ4 (acc ++ [v]) (av ++ [vy]) r6 stB (p4.trans p5) l6 ?_ rn⟩
        exact (w.ac.stay (stB.stay w.rel (p4.trans p5))).append (.cons rp6 .nil)
end
end CH
namespace CH
open PySem PySem.Spec PyProof.Rows L2
variable [Wsh]
section
variable {X : Cx} {c : Ctx}
abbrev tT (K : PySem.W.Frag) (c : Ctx) (e : E) : TT := tCnd K c (some e)
theorem evC_some (e : E) (s : S) : evC c (some e) s = (evE c e s).bind fun x s1 => match x with
    | .val (.bl b) => .ok b s1
    | _ => .bad := rfl
theorem tT_tE {e : E} : ∀ σ H Q, tT X.K c e σ H Q → tE X.K c e σ H fun x H1 => ∃ b, x = .bl b ∧ Q b H1 := by
  intro σ H Q ⟨T, s, ρ, rel, run⟩
  rw [evC_some] at run
  refine ⟨T, s, ρ, rel, (Run.bind (k' := kR) kE_anti run).mono fun u vu s1 H1 ρ1 rel1 st1 p1 q1 d1 run1 => ?_⟩
  split at run1
  · cases kRbl q1
    exact ⟨_, rfl, run1.leaf (k := kE) (b := _) rel1 (fun _ z => z) kE_anti rfl⟩
  · exact run1.elim
/-- by the expression's own reading -/
theorem pt_of {p : PySem.Expr} {x : E} {t : TE} (h : PT X p (tTest t)) (w : ∀ σ H Q, tE X.K c x σ H Q → t σ H Q) : PT X p (tT X.K c x) := PTi h fun σ H Q q => w σ H _ (tT_tE σ H Q q)
def plainT : PySem.Expr → Bool
  | .UnaryOp .Not _ _ => false
  | .BoolOp _ _ _ => false
  | .IfExp _ _ _ _ => false
  | .Compare _ _ _ _ => false
  | _ => true
theorem pt_plain {p : PySem.Expr} {x : E} (h : PE X p (tE X.K c x)) (hp : plainT p = true) : PT X p (tT X.K c x) := by
  refine pt_of (t := tE X.K c x) (pt_val h ?_) fun _ _ _ q => q
  intro whole
  cases p with
  | UnaryOp op a pos => cases op <;> first | rfl | cases hp
  | BoolOp _ _ _ => cases hp
  | IfExp _ _ _ _ => cases hp
  | Compare _ _ _ _ => cases hp
  | _ => rfl
/-- what is shown of an expression -/
structure Both (X : Cx) (c : Ctx) (x : E) (p : PySem.Expr) : Prop where
  pe : PE X p (tE X.K c x)
  pt : PT X p (tT X.K c x)
  pw : ∀ o l q, p = .BoolOp o l q → PW X p (tT X.K c x)
theorem both_plain {p : PySem.Expr} {x : E} (h : PE X p (tE X.K c x)) (hp : plainT p = true) : Both X c x p := ⟨h, pt_plain h hp, fun o l q e => by subst e; cases hp⟩
theorem both_cmp (C : Cok X c) {o : Cp} {a b : E} {l r : PySem.Expr} {q : CmpOp} {pos : Pos} (ho : cpC o q = true) (ha : PE X l (tE X.K c a)) (hb : PE X r (tE X.K c b)) : Both X c (.cmp o a b) (.Compare l [q] [r] pos) :=
  ⟨ok_cmp C ho ha hb, pt_of (pt_cmpR (op_cp C ho) ha hb (nobehind r (cpC_ne ho).1 (cpC_ne ho).2)) (two (fun s => rfl) fun T s σ H ρ u w vu vw Q r q1 q2 _ _ run => cp_ok r q1 q2 run), fun o l q e => nomatch e⟩
theorem both_inq (C : Cok X c) {n : Bool} {a b : E} {l r : PySem.Expr} {q : CmpOp} {pos : Pos} (ho : inC n q = true) (hr : notSet r = true) (ha : PE X l (tE X.K c a)) (hb : PE X r (tE X.K c b)) : Both X c (.inq n a b) (.Compare l [q] [r] pos) := by
  refine ⟨ok_inq C ho hr ha hb, ?_, fun o l q e => nomatch e⟩
  cases n <;> cases q <;> first
    | (cases ho; done)
    | exact pt_of (pt_cmpR (op_inI C.u62) ha hb (notSet_mark hr)) (two (fun s => rfl) fun T s σ H ρ u w vu vw Q r q1 q2 _ _ run => in_ok r q1 q2 run)
    | exact pt_of (pt_cmpR (op_notInI C.u62) ha hb (notSet_mark hr)) (two (fun s => rfl) fun T s σ H ρ u w vu vw Q r q1 q2 _ _ run => in_ok r q1 q2 run)
theorem both_ins {n : Bool} {a b : E} {l r : PySem.Expr} {q : CmpOp} {pos : Pos} (ho : inC n q = true) (hr : notSet r = true) (ha : PE X l (tE X.K c a)) (hb : PE X r (tE X.K c b)) : Both X c (.ins n a b) (.Compare l [q] [r] pos) := by
  refine ⟨ok_ins ho hr ha hb, ?_, fun o l q e => nomatch e⟩
  cases n <;> cases q <;> first
    | (cases ho; done)
    | exact pt_of (pt_cmpR op_inC ha hb (notSet_mark hr)) (two (fun s => rfl) fun T s σ H ρ u w vu vw Q r q1 q2 _ _ run => ins_ok r q1 q2 run)
    | exact pt_of (pt_cmpR op_ninC ha hb (notSet_mark hr)) (two (fun s => rfl) fun T s σ H ρ u w vu vw Q r q1 q2 _ _ run => ins_ok r q1 q2 run)
theorem both_isn {n : Bool} {a : E} {l : PySem.Expr} {q : CmpOp} {j : Nat} {p2 pos : Pos} (ho : isC n q = true) (ha : PE X l (tE X.K c a)) : Both X c (.isn n a) (.Compare l [q] [.Constant .none j p2] pos) := by
  refine ⟨ok_isn ho ha, ?_, fun o l q e => nomatch e⟩
  have fin : ∀ (r2 : R2), (∀ (v : V) (H : Hp) (Q : VK), Q (.bl (decide (v = .non) != n)) H → r2 v .non H Q) → ∀ σ H Q, tE X.K c (.isn n a) σ H Q → tOp r2 (tE X.K c a) (tC .non) σ H Q := fun r2 hr σ H Q h =>
    one (r1 := fun v H Q => r2 v .non H Q) (fun s => rfl) (fun T s σ H ρ u vu Q r q _ run => hr vu H Q (isn_ok r q run)) σ H Q h
  cases n <;> cases q <;> first
    | (cases ho; done)
    | exact pt_of (pt_cmpR op_isN ha pe_non rfl) (fin _ fun v H Q h => ⟨rfl, by rw [Bool.bne_false] at h; exact h⟩)
    | exact pt_of (pt_cmpR op_notN ha pe_non rfl) (fin _ fun v H Q h => ⟨rfl, by rw [Bool.bne_true] at h; exact h⟩)
theorem both_ist {n b : Bool} {a : E} {l : PySem.Expr} {q : CmpOp} {j : Nat} {p2 pos : Pos} (ho : isC n q = true) (ha : PE X l (tE X.K c a)) : Both X c (.ist n b a) (.Compare l [q] [.Constant (.bool b) j p2] pos) := by
  refine ⟨ok_ist ho ha, ?_, fun o l q e => nomatch e⟩
  cases n <;> cases q <;> first
    | (cases ho; done)
    | exact pt_of (pt_cmpR op_isBl ha pe_bl rfl) (ist_w _ _ _ fun c H Q h => ⟨c, b, rfl, rfl, by cases c <;> cases b <;> exact h⟩)
    | exact pt_of (pt_cmpR op_notBl ha pe_bl rfl) (ist_w _ _ _ fun c H Q h => ⟨c, b, rfl, rfl, by cases c <;> cases b <;> exact h⟩)
end
end CH
/-! a text's signs to names -/
namespace PySem
section
variable {prog : Program} {w : World} {A : Around} {E : Value → Shared → Prop}
theorem kun_drawW {I : Addr} {fp wr : List Addr} {n : Nat} {P : Nat → Value → Prop} {St : Nat → Heap → Prop} (W : Walks prog w A I fp wr n P St) : ∀ (m i : Nat) (s : Shared) (Q : List Value → Shared → Prop), St i s.heap → i + m ≤ n →
    (∀ us h' tk, us.length = m → (∀ (j : Nat) (v : Value), us[j]? = some v → P (i + j) v) → St (i + m) h' → (∀ b o, b ∉ wr → s.heap.get? b = some o → h'.get? b = some o) → Q us { s with heap := h', toks := tk }) → wpAny (model prog w) A (draw (.ref I) m) Q E s
  | 0, i, s, Q, st, _, hQ => by
    show wpAny _ _ (pure []) Q E s
    exact wpAny_pure (hQ [] s.heap s.toks rfl (by simp) (by simpa using st) fun b o _ e => e)
  | m + 1, i, s, Q, st, hle, hQ => by
    show wpAny _ _ (pyNext (.ref I) >>= _) Q E s
    refine wpAny_bind (W.item i s _ _ (by omega) st fun v h₁ tk₁ pv st₁ k₁ => ?_)
    refine wpAny_bind (wpAny_holding (kun_drawW W m (i + 1) _ _ st₁ (by omega) fun us h₂ tk₂ hl hp st₂ k₂ => wpAny_pure ?_))
    refine hQ (v :: us) h₂ tk₂ (by simp [hl]) (fun j u hj => ?_) (by rw [show i + (m + 1) = i + 1 + m by omega]; exact st₂) fun b o hb e => k₂ b o hb (k₁ b o hb e)
    cases j with
    | zero =>
      have hj : some v = some u := by simpa using hj
      cases hj
      exact pv
    | succ j => rw [show i + (j + 1) = i + 1 + j by omega]; exact hp j u (by simpa using hj)
theorem kun_textOf {s : Shared} {x : Str} {t : Tok} {Q : List Value → Shared → Prop} (hh : A.handled = none)
    (hQ : ∀ us h' tk, us.length = x.cps.size → (∀ (j : Nat) (v : Value), us[j]? = some v → SignAt x j v) → (∀ b o, s.heap.get? b = some o → h'.get? b = some o) → Q us { s with heap := h', toks := tk }) : wpAny (model prog w) A (unpackItems (.str x t) x.cps.size none) Q E s := by
  have W : Walks prog w A s.heap.objs.size [s.heap.objs.size] [s.heap.objs.size] x.cps.size (SignAt x) (fun i h => h.IsStrIter s.heap.objs.size (strIterType x) x t i) := by
    unfold strIterType
    split
    · exact Walks.strAscii hh _ x t
    · exact Walks.strWide hh _ x t
  unfold unpackItems
  refine wpAny_bind ?_
  unfold notIterableAtAll
  refine wpAny_bind (wpAny_specialOf (typeIs_str s x t) F.slot_str_iter.lookup ?_)
  refine wpAny_pure ?_
  simp only [Bool.false_eq_true, if_false]
  refine wpAny_bind (wpAny_holding (wpAny_pyIter_strU ?_))
  refine wpAny_bind (wpAny_holding (kun_drawW W x.cps.size 0 _ _ ⟨_, Heap.get?_push_size _ rfl, rfl, rfl⟩ (by omega) fun us h₁ tk₁ hl hp st₁ k₁ => ?_))
  rw [if_neg (by omega)]
  refine wpAny_bind (wpAny_holding (W.done _ _ _ (by simpa using st₁) fun h₂ tk₂ k₂ => ?_))
  simp only [Option.isSome_none, Bool.false_eq_true, if_false]
  refine wpAny_pure (hQ us h₂ tk₂ hl (fun j v hj => by have := hp j v hj; rwa [Nat.zero_add] at this) fun b o e => ?_)
  have hb : b ∉ [s.heap.objs.size] := fun z => absurd (List.mem_singleton.mp z) (Nat.ne_of_lt (Heap.lt_size e))
  exact k₂ b o hb (k₁ b o hb (Heap.get?_push_of_some _ e))
end
end PySem
namespace CH
open PySem PySem.Spec PyProof.Rows L2
variable [Wsh]
section
variable {X : Cx} {pos : Pos}
theorem vals_txt : ∀ (l : List Nat) (us : List Value), us.length = l.length → (∀ (j : Nat) (v : Value), us[j]? = some v → ∃ c t, l[j]? = some c ∧ v = Value.str ⟨#[c]⟩ t) → Vals (l.map fun c => V.str (mkS [c])) us
  | [], [], _, _ => .nil
  | [], _ :: _, h, _ => by simp at h
  | _ :: _, [], h, _ => by simp at h
  | c :: l, a :: r, h, hp => by
    obtain ⟨c', t', h1, h2⟩ := hp 0 a rfl
    have h1 : some c = some c' := by simpa using h1
    cases h1
    exact .cons ⟨t', h2⟩ (vals_txt l r (by simpa using h) fun j v hj => by
      obtain ⟨c2, t2, h3, h4⟩ := hp (j + 1) v (by simpa using hj)
      exact ⟨c2, t2, by simpa using h3, h4⟩)
def gTxt (n : Nat) (t : TGs) : TG := fun v σ H Q => ∃ l : List Nat, v = .str (mkS l) ∧ l.length = n ∧ t (l.map fun c => V.str (mkS [c])) σ H Q
theorem pg_txt {es : List PySem.Expr} {k : Nat} {t : TGs} {n : Nat} (hc : X.calm = true) (h : PGs X es t)
    (hn : (assignEach es X.env).length = n) (hst : (assignEach es X.env).findIdx? (·.1) = none) : PG X (.Tuple es k pos) (gTxt n t) := by
  refine ⟨fun pins s σ H v u Q I r hw => ?_⟩
  obtain ⟨l, e1, hl, hw⟩ := hw
  subst e1
  obtain ⟨tk, rfl⟩ := r
  have hz : (mkS l).cps.size = l.length := by show l.toArray.size = _; simp
  have hn' : (assignEach es X.env).length = (mkS l).cps.size := by rw [hz, hl]; exact hn
  rw [PyProof.Rows.assign_Tuple]
  refine wpAny_bind (wpAny_standAt ?_)
  unfold unpack
  rw [hn', hst]
  refine wpAny_bind (wpAny_holding (kun_textOf (I.ok.hd hc) fun us h' tk' hus hp hk => ?_))
  have I1 : Inv X pins σ H { s with heap := h', toks := tk' } := I.kept (t' := tk') hk
  refine h.run pins _ σ H _ _ Q I1 ?_ hw
  have hp' : ∀ (j : Nat) (v : Value), us[j]? = some v → ∃ c t, l[j]? = some c ∧ v = .str ⟨#[c]⟩ t := fun j v hj => by
    obtain ⟨c, u, h1, h2⟩ := hp j v hj
    refine ⟨c, u, ?_, h2⟩
    have : l.toArray[j]? = some c := h1
    simpa using this
  exact vals_txt l us (by rw [hus, hz]) hp'
end
end CH
namespace CH
open PySem PySem.Spec PyProof.Rows L2
variable [Wsh]
section
variable {X : Cx} {c : Ctx}
theorem ind_key {n : Bool} (T : Addr → Prop) (s : S) (σ : Sg) (H : Hp) (ρ : List Addr) (u w : R) (vu vw : V) (Q : VK) (r : Rel X.K T s σ H ρ) (q1 : RpR X.K H (Uni (Own s σ ρ) T) ρ σ u vu) (q2 : RpR X.K H (Uni (Own s σ ρ) T) ρ σ w vw) (run : Run kR X.K T s σ H ρ (indop n u w s) (fun _ v _ H' _ => Q v H')) :
    ∃ a o, vw = .ref a ∧ DGet H a vu o ∧ Q (.bl (o.isSome != n)) H := by
  unfold indop at run
  split at run
  · rename_i k t kvs h1
    obtain ⟨ck, run⟩ := Run.req run
    obtain ⟨a, rfl, h⟩ := dgetR_ok r q2 h1 (rpVal q1) ck
    rcases h with ⟨h, g⟩ | ⟨i, vi, h, g, p⟩
    · rw [h] at run
      exact ⟨a, none, rfl, g, run.valQ r (.bl _)⟩
    · rw [h] at run
      exact ⟨a, some vi, rfl, g, run.valQ r (.bl _)⟩
  · exact run.elim
theorem both_ind (C : Cok X c) {n : Bool} {a b : E} {l r : PySem.Expr} {q : CmpOp} {pos : Pos} (ho : inC n q = true) (hr : notSet r = true) (ha : PE X l (tE X.K c a)) (hb : PE X r (tE X.K c b)) : Both X c (.ind n a b) (.Compare l [q] [r] pos) := by
  refine ⟨ok_ind C ho hr ha hb, ?_, fun o l q e => nomatch e⟩
  cases n <;> cases q <;> first
    | (cases ho; done)
    | exact pt_of (pt_cmp (pc_din C.u1 ha hb) (notSet_mark hr)) (two (r2 := fun y x H Q => ∃ a o, x = .ref a ∧ DGet H a y o ∧ Q (.bl o.isSome) H) (fun s => rfl) fun T s σ H ρ u w vu vw Q r q1 q2 _ _ run => by
        obtain ⟨a, o, h1, h2, h3⟩ := ind_key T s σ H ρ u w vu vw Q r q1 q2 run
        rw [Bool.bne_false] at h3
        exact ⟨a, o, h1, h2, h3⟩)
    | exact pt_of (pt_cmp (pc_dnotin C.u1 ha hb) (notSet_mark hr)) (two (r2 := fun y x H Q => ∃ a o, x = .ref a ∧ DGet H a y o ∧ Q (.bl (!o.isSome)) H) (fun s => rfl) fun T s σ H ρ u w vu vw Q r q1 q2 _ _ run => by
        obtain ⟨a, o, h1, h2, h3⟩ := ind_key T s σ H ρ u w vu vw Q r q1 q2 run
        rw [Bool.bne_true] at h3
        exact ⟨a, o, h1, h2, h3⟩)
theorem chain_w {o o' : Cp} {a b d : E} : ∀ σ H Q, tE X.K c (.chain o o' a b d) σ H Q → tChain (cpR X.K o) (cpR X.K o') (tE X.K c a) (tE X.K c b) (tE X.K c d) σ H Q := by
  intro σ H Q ⟨T, s, ρ, rel, run⟩
  have hx : evE c (.chain o o' a b d) s = (evE c a s).bind fun x s1 => (evE c b s1).bind fun y s2 => (cmpop o x y s2).bind fun z s3 => match z with
    | .val (.bl true) => (evE c d s3).bind fun w s4 => cmpop o' y w s4
    | .val (.bl false) => .ok (.val (.bl false)) s3
    | _ => .bad := rfl
  rw [hx] at run
  refine ⟨T, s, ρ, rel, (Run.bind (k' := kR) kR_anti run).mono fun u vu s1 H1 ρ1 rel1 st1 p1 q1 d1 run1 => ?_⟩
  refine ⟨_, s1, ρ1, rel1, (Run.bind (k' := kR) kR_anti run1).mono fun w vw s2 H2 ρ2 rel2 st2 p2 q2 d2 run2 => ?_⟩
  refine cp_ok rel2 (q1.stay st2 rel1 p2 fun a h => .inr h) q2 ((Run.bind (k' := kR) kR_anti run2).mono fun z vz s3 H3 ρ3 rel3 st3 p3 q3 d3 run3 => ?_)
  split at run3
  · cases kRbl q3
    refine ⟨true, rfl, ?_⟩
    rw [if_pos rfl]
    refine ⟨_, s3, ρ3, rel3, (Run.bind (k' := kR) kR_anti run3).mono fun v4 vv4 s4 H4 ρ4 rel4 st4 p4 q4 d4 run4 => ?_⟩
    exact cp_ok rel4 ((q2.stay st3 rel2 p3 fun a h => .inr h).stay st4 rel3 p4 fun a h => .inl (.inr h)) q4 run4
  · cases kRbl q3
    refine ⟨false, rfl, ?_⟩
    rw [if_neg (by decide)]
    exact run3.valQ rel3 (.bl _)
  · exact run3.elim
theorem both_chain (C : Cok X c) {o o' : Cp} {a b d : E} {l m r : PySem.Expr} {q q' : CmpOp} {pos : Pos} (ho : cpC o q = true) (ho' : cpC o' q' = true) (ha : PE X l (tE X.K c a)) (hb : PE X m (tE X.K c b)) (hd : PE X r (tE X.K c d)) : Both X c (.chain o o' a b d) (.Compare l [q, q'] [m, r] pos) := by
  have hm : lastMarks [q, q'] [m, r] = false := nobehind r (cpC_ne ho').1 (cpC_ne ho').2
  exact ⟨PEi (pe_chain (op_cp C ho) (op_cp C ho') ha hb hd hm) chain_w, pt_of (pt_chain (op_cp C ho) (op_cp C ho') ha hb hd hm) chain_w, fun o l q e => nomatch e⟩
/-- a op1 b op2 c op3 d -/
def tChain3 (r r' r'' : R2) (ta tb tc td : TE) : TE := fun σ H Q => ta σ H fun x H1 => tb σ H1 fun y H2 => r x y H2 fun z H3 => ∃ k, z = .bl k ∧
  (if k = true then tc σ H3 fun w' H4 => r' y w' H4 fun z' H5 => ∃ k', z' = .bl k' ∧ (if k' = true then td σ H5 fun u' H6 => r'' w' u' H6 Q else Q (.bl false) H5) else Q (.bl false) H3)
theorem pe_chain3 {op op' op'' : CmpOp} {r r' r'' : R2} {a b c d : PySem.Expr} {ta tb tc td : TE} {pos : Pos} (ho : OpR X (compareOp op) r) (ho' : OpR X (compareOp op') r') (ho'' : OpR X (compareOp op'') r'') (ha : PE X a ta) (hb : PE X b tb) (hc : PE X c tc) (hd : PE X d td)
    (hm : lastMarks [op, op', op''] [b, c, d] = false) : PE X (.Compare a [op, op', op''] [b, c, d] pos) (tChain3 r r' r'' ta tb tc td) := by
  refine ⟨fun pins s σ H Q I h => ?_⟩
  refine Compare_chain (thn (ha.run pins s σ H _ I h) fun v s1 ⟨x, H1, I1, r1, q1⟩ => chain_link (thn (hb.run pins s1 σ H1 _ I1 q1) fun u s2 ⟨y, H2, I2, r2, q2⟩ =>
    thn (ho pins s2 σ H2 x y v u _ I2 r1 r2 q2) fun d s3 ⟨z, H3, I3, r3, k, e, q3⟩ => ?_)) hm
  subst e
  cases r3
  refine wpAny_truthy_bool ?_
  cases k with
  | false => exact ite_ff ⟨.bl false, H3, I3, rfl, q3⟩
  | true =>
    refine ite_tt (chain_link (thn (hc.run pins s3 σ H3 _ I3 q3) fun w' s4 ⟨z', H4, I4, r4, q4⟩ => thn (ho' pins s4 σ H4 y z' u w' _ I4 r2 r4 q4) fun d' s5 ⟨z2, H5, I5, r5, k2, e2, q5⟩ => ?_))
    subst e2
    cases r5
    refine wpAny_truthy_bool ?_
    cases k2 with
    | false => exact ite_ff ⟨.bl false, H5, I5, rfl, q5⟩
    | true => exact ite_tt (chain_last (thn (hd.run pins s5 σ H5 _ I5 q5) fun w2 s6 ⟨z3, H6, I6, r6, q6⟩ => ho'' pins s6 σ H6 z' z3 w' w2 Q I6 r4 r6 q6))
theorem pt_chain3 {op op' op'' : CmpOp} {r r' r'' : R2} {a b c d : PySem.Expr} {ta tb tc td : TE} {pos : Pos} (ho : OpR X (compareOp op) r) (ho' : OpR X (compareOp op') r') (ho'' : OpR X (compareOp op'') r'') (ha : PE X a ta) (hb : PE X b tb) (hc : PE X c tc) (hd : PE X d td)
    (hm : lastMarks [op, op', op''] [b, c, d] = false) : PT X (.Compare a [op, op', op''] [b, c, d] pos) (tTest (tChain3 r r' r'' ta tb tc td)) := by
  refine ⟨fun pins s σ H Q I h => ?_⟩
  refine isTrue_chain (thn (ha.run pins s σ H _ I h) fun v s1 ⟨x, H1, I1, r1, q1⟩ => test_link (thn (hb.run pins s1 σ H1 _ I1 q1) fun u s2 ⟨y, H2, I2, r2, q2⟩ =>
    thn (ho pins s2 σ H2 x y v u _ I2 r1 r2 q2) fun d s3 ⟨z, H3, I3, r3, k, e, q3⟩ => ?_)) hm
  subst e
  cases r3
  refine wpAny_truthy_bool ?_
  cases k with
  | false =>
    obtain ⟨k', e', q'⟩ := q3
    cases e'
    exact ite_ff ⟨H3, I3, q'⟩
  | true =>
    refine ite_tt (test_link (thn (hc.run pins s3 σ H3 _ I3 q3) fun w' s4 ⟨z', H4, I4, r4, q4⟩ => thn (ho' pins s4 σ H4 y z' u w' _ I4 r2 r4 q4) fun d' s5 ⟨z2, H5, I5, r5, k2, e2, q5⟩ => ?_))
    subst e2
    cases r5
    refine wpAny_truthy_bool ?_
    cases k2 with
    | false =>
      obtain ⟨k', e', q'⟩ := q5
      cases e'
      exact ite_ff ⟨H5, I5, q'⟩
    | true =>
      refine ite_tt (test_last (thn (hd.run pins s5 σ H5 _ I5 q5) fun w2 s6 ⟨z3, H6, I6, r6, q6⟩ => thn (ho'' pins s6 σ H6 z' z3 w' w2 _ I6 r4 r6 q6) fun d2 s7 ⟨z4, H7, I7, r7, k4, e4, q7⟩ => ?_))
      subst e4
      cases r7
      exact wpAny_truthy_bool ⟨H7, I7, q7⟩
theorem chain3_w {o o' o'' : Cp} {a b d e' : E} : ∀ σ H Q, tE X.K c (.chain3 o o' o'' a b d e') σ H Q → tChain3 (cpR X.K o) (cpR X.K o') (cpR X.K o'') (tE X.K c a) (tE X.K c b) (tE X.K c d) (tE X.K c e') σ H Q := by
  intro σ H Q ⟨T, s, ρ, rel, run⟩
  have hx : evE c (.chain3 o o' o'' a b d e') s = (evE c a s).bind fun x s1 => (evE c b s1).bind fun y s2 => (cmpop o x y s2).bind fun z s3 => match z with
    | .val (.bl true) => (evE c d s3).bind fun w s4 => (cmpop o' y w s4).bind fun z s5 => match z with
      | .val (.bl true) => (evE c e' s5).bind fun v s6 => cmpop o'' w v s6
      | .val (.bl false) => .ok (.val (.bl false)) s5
      | _ => .bad
    | .val (.bl false) => .ok (.val (.bl false)) s3
    | _ => .bad := rfl
  rw [hx] at run
  refine ⟨T, s, ρ, rel, (Run.bind (k' := kR) kR_anti run).mono fun u vu s1 H1 ρ1 rel1 st1 p1 q1 d1 run1 => ?_⟩
  refine ⟨_, s1, ρ1, rel1, (Run.bind (k' := kR) kR_anti run1).mono fun w vw s2 H2 ρ2 rel2 st2 p2 q2 d2 run2 => ?_⟩
  refine cp_ok rel2 (q1.stay st2 rel1 p2 fun a h => .inr h) q2 ((Run.bind (k' := kR) kR_anti run2).mono fun z vz s3 H3 ρ3 rel3 st3 p3 q3 d3 run3 => ?_)
  split at run3
  · cases kRbl q3
    refine ⟨true, rfl, ?_⟩
    rw [if_pos rfl]
    refine ⟨_, s3, ρ3, rel3, (Run.bind (k' := kR) kR_anti run3).mono fun v4 vv4 s4 H4 ρ4 rel4 st4 p4 q4 d4 run4 => ?_⟩
    refine cp_ok rel4 ((q2.stay st3 rel2 p3 fun a h => .inr h).stay st4 rel3 p4 fun a h => .inl (.inr h)) q4 ((Run.bind (k' := kR) kR_anti run4).mono fun z5 vz5 s5 H5 ρ5 rel5 st5 p5 q5 d5 run5 => ?_)
    split at run5
    · cases kRbl q5
      refine ⟨true, rfl, ?_⟩
      rw [if_pos rfl]
      refine ⟨_, s5, ρ5, rel5, (Run.bind (k' := kR) kR_anti run5).mono fun v6 vv6 s6 H6 ρ6 rel6 st6 p6 q6 d6 run6 => ?_⟩
      exact cp_ok rel6 ((q4.stay st5 rel4 p5 fun a h => .inr h).stay st6 rel5 p6 fun a h => .inl (.inr h)) q6 run6
    · cases kRbl q5
      refine ⟨false, rfl, ?_⟩
      rw [if_neg (by decide)]
      exact run5.valQ rel5 (.bl _)
    · exact run5.elim
  · cases kRbl q3
    refine ⟨false, rfl, ?_⟩
    rw [if_neg (by decide)]
    exact run3.valQ rel3 (.bl _)
  · exact run3.elim
theorem both_chain3 (C : Cok X c) {o o' o'' : Cp} {a b d e' : E} {l m r t : PySem.Expr} {q q' q'' : CmpOp} {pos : Pos} (ho : cpC o q = true) (ho' : cpC o' q' = true) (ho'' : cpC o'' q'' = true) (ha : PE X l (tE X.K c a)) (hb : PE X m (tE X.K c b)) (hd : PE X r (tE X.K c d)) (he : PE X t (tE X.K c e')) : Both X c (.chain3 o o' o'' a b d e') (.Compare l [q, q', q''] [m, r, t] pos) := by
  have hm : lastMarks [q, q', q''] [m, r, t] = false := nobehind t (cpC_ne ho'').1 (cpC_ne ho'').2
  exact ⟨PEi (pe_chain3 (op_cp C ho) (op_cp C ho') (op_cp C ho'') ha hb hd he hm) chain3_w, pt_of (pt_chain3 (op_cp C ho) (op_cp C ho') (op_cp C ho'') ha hb hd he hm) chain3_w, fun o l q e => nomatch e⟩
/-! ### truth -/
theorem tT_of {T : Addr → Prop} {s : S} {σ : Sg} {H : Hp} {ρ : List Addr} {e : E} {Q : Bool → Hp → Prop} (rel : Rel X.K T s σ H ρ) (run : Run kE X.K T s σ H ρ (evC c (some e) s) fun b _ _ H' _ => Q b H') : tT X.K c e σ H Q := ⟨T, s, ρ, rel, run⟩
theorem tm0 {T : Addr → Prop} {b b' : Bool} : ∀ z, T z → Uni T ((kE : Kd Bool Bool).tm b b') z := fun z h => .inl h
theorem tm1 {T : Addr → Prop} {b b' : Bool} : ∀ z, Uni T ((kE : Kd Bool Bool).tm b b') z → T z := fun z h => h.elim id fun h => False.elim h
theorem both_not {a : E} {l : PySem.Expr} {pos : Pos} (ha : Both X c a l) : Both X c (.not a) (.UnaryOp .Not l pos) := by
  refine ⟨ok_not ha.pe, PTi (pt_not ha.pt) ?_, fun o l q e => nomatch e⟩
  intro σ H Q ⟨T, s, ρ, rel, run⟩
  rw [evC_some] at run
  have hx : evE c (.not a) s = (evE c a s).bind fun x s1 => match x with
    | .val (.bl b) => .ok (.val (.bl (!b))) s1
    | _ => .bad := rfl
  rw [hx, bind_assoc] at run
  refine ⟨T, s, ρ, rel, ?_⟩
  rw [evC_some]
  cases h : evE c a s with
  | ok x s1 =>
    rw [h] at run
    simp only [Res.bind_ok] at run ⊢
    split at run
    · rename_i b
      intro b' H1 ρ1 r1 st1 p1 e1 d1
      exact run (!b) H1 ρ1 r1 st1 p1 rfl d1
    · exact run.elim
  | exc _ _ _ => rw [h] at run; exact run
  | bad => rw [h] at run; exact run
theorem and_w {a b : E} : ∀ σ H Q, tT X.K c (.and a b) σ H Q → tAnd (tT X.K c a) (tT X.K c b) σ H Q := by
  intro σ H Q ⟨T, s, ρ, rel, run⟩
  rw [evC_some] at run
  have hx : evE c (.and a b) s = (evE c a s).bind fun x s1 => match x with
    | .val (.bl true) => evE c b s1
    | .val (.bl false) => .ok (.val (.bl false)) s1
    | _ => .bad := rfl
  rw [hx, bind_assoc] at run
  refine ⟨T, s, ρ, rel, ?_⟩
  rw [evC_some]
  cases h : evE c a s with
  | ok x s1 =>
    rw [h] at run
    simp only [Res.bind_ok] at run ⊢
    split at run
    · intro b' H1 ρ1 r1 st1 p1 e1 d1
      exact iteT ⟨T, s1, ρ1, r1.drop tm0, by rw [evC_some]; exact run.from (st1.drop tm0 fun _ z => z) p1⟩
    · intro b' H1 ρ1 r1 st1 p1 e1 d1
      exact iteF (run false H1 ρ1 r1 st1 p1 rfl d1)
    · exact run.elim
  | exc _ _ _ => rw [h] at run; exact run
  | bad => rw [h] at run; exact run
theorem or_w {a b : E} : ∀ σ H Q, tT X.K c (.or a b) σ H Q → tOr (tT X.K c a) (tT X.K c b) σ H Q := by
  intro σ H Q ⟨T, s, ρ, rel, run⟩
  rw [evC_some] at run
  have hx : evE c (.or a b) s = (evE c a s).bind fun x s1 => match x with
    | .val (.bl true) => .ok (.val (.bl true)) s1
    | .val (.bl false) => evE c b s1
    | _ => .bad := rfl
  rw [hx, bind_assoc] at run
  refine ⟨T, s, ρ, rel, ?_⟩
  rw [evC_some]
  cases h : evE c a s with
  | ok x s1 =>
    rw [h] at run
    simp only [Res.bind_ok] at run ⊢
    split at run
    · intro b' H1 ρ1 r1 st1 p1 e1 d1
      exact iteT (run true H1 ρ1 r1 st1 p1 rfl d1)
    · intro b' H1 ρ1 r1 st1 p1 e1 d1
      exact iteF ⟨T, s1, ρ1, r1.drop tm0, by rw [evC_some]; exact run.from (st1.drop tm0 fun _ z => z) p1⟩
    · exact run.elim
  | exc _ _ _ => rw [h] at run; exact run
  | bad => rw [h] at run; exact run
theorem both_and2 {a b : E} {l r : PySem.Expr} {pos : Pos} (ha : Both X c a l) (hb : Both X c b r) : Both X c (.and a b) (.BoolOp .And [l, r] pos) := by
  have pw : PW X (.BoolOp .And [l, r] pos) (tT X.K c (.and a b)) := PWi (pw_and ha.pt (pw_and1 hb.pt)) and_w
  exact ⟨PEi (pe_and ha.pe (pe_one hb.pe)) and_ok, pw.pt, fun o l' q e => by cases e; exact pw⟩
theorem both_and {a b : E} {l r t : PySem.Expr} {u : List PySem.Expr} {pos : Pos} (ha : Both X c a l) (hb : Both X c b (.BoolOp .And (r :: t :: u) pos)) : Both X c (.and a b) (.BoolOp .And (l :: r :: t :: u) pos) := by
  have pw : PW X (.BoolOp .And (l :: r :: t :: u) pos) (tT X.K c (.and a b)) := PWi (pw_and ha.pt (hb.pw _ _ _ rfl)) and_w
  exact ⟨PEi (pe_and ha.pe hb.pe) and_ok, pw.pt, fun o l' q e => by cases e; exact pw⟩
theorem both_or2 {a b : E} {l r : PySem.Expr} {pos : Pos} (ha : Both X c a l) (hb : Both X c b r) : Both X c (.or a b) (.BoolOp .Or [l, r] pos) := by
  have pw : PW X (.BoolOp .Or [l, r] pos) (tT X.K c (.or a b)) := PWi (pw_or ha.pt (pw_or1 hb.pt)) or_w
  exact ⟨PEi (pe_or ha.pe (pe_one hb.pe)) or_ok, pw.pt, fun o l' q e => by cases e; exact pw⟩
theorem both_or {a b : E} {l r t : PySem.Expr} {u : List PySem.Expr} {pos : Pos} (ha : Both X c a l) (hb : Both X c b (.BoolOp .Or (r :: t :: u) pos)) : Both X c (.or a b) (.BoolOp .Or (l :: r :: t :: u) pos) := by
  have pw : PW X (.BoolOp .Or (l :: r :: t :: u) pos) (tT X.K c (.or a b)) := PWi (pw_or ha.pt (hb.pw _ _ _ rfl)) or_w
  exact ⟨PEi (pe_or ha.pe hb.pe) or_ok, pw.pt, fun o l' q e => by cases e; exact pw⟩
/-! ### comprehensions -/
theorem ownC_ok {N : List Str} : ∀ {own : List Nat} {ow : List (Str × Nat)}, ownC N own = some ow → ow.map (·.2) = own
  | [], _, h => by cases h; rfl
  | k :: r, ow, h => by
    unfold ownC at h
    split at h
    · rename_i x l h1 h2
      cases h
      rw [List.map_cons, ownC_ok h2]
    · cases h
theorem relS_keep {sc : Scope} : ∀ {names : List (Str × NameKind)} {x : Str} {k : NameKind}, k ≠ .free → names.lookup x = some k →
    (names.map fun (n, k) => if (k == .free && sc.kind == .function && sc.names.lookup n == some .cell) then (n, NameKind.cell) else (n, k)).lookup x = some k := lookup_relS_keep
theorem takesN {X : Cx} : Takes X WN.w := fun _ _ ⟨_, _, _, _, _, _, _, _, _, _, _, _, _, _, _, _, w⟩ => False.elim w
theorem Cok.blk (C : Cok X c) {N : List Str} {scope : Scope} {ow : List (Str × Nat)} (ok : BlkOk N X.env.scope scope ow) (s : Shared) (H : Hp) (Ca : Addr) (cl : List (Str × Addr)) (fp : List Addr) : @Cok WN (X.blk s H scope (compEnvC scope cl Ca X.env) fp) c :=
  @Cok.mk WN _ _ takesN C.calm C.nd C.un ok.kind C.bl C.gl C.cl C.nm C.fk (fun cl f h => ⟨⟨(C.xk cl f h).1.xe, (C.xk cl f h).1.init⟩, (C.xk cl f h).2⟩) C.ik
theorem pg_blk {scope : Scope} (s : Shared) (H : Hp) (Ca : Addr) (cl : List (Str × Addr)) (fp : List Addr) : PgOk (X.blk s H scope (compEnvC scope cl Ca X.env) fp) scope := by
  intro x h
  rcases h with h | h
  · have := relS_keep (sc := X.env.scope) (k := .local) (fun z => nomatch z) h
    exact ⟨.inl this, .inr this⟩
  · have := relS_keep (sc := X.env.scope) (k := .cell) (fun z => nomatch z) h
    exact ⟨.inr this, .inl (by show (scope.names.lookup x == some .cell) = true; rw [h]; rfl)⟩
theorem fold_of {p : PySem.Expr} {env : Env} (h : notSet p = true) : ∀ x, foldedSetIterable p env x = pure x := by
  intro x
  cases p <;> first | rfl | cases h
end
end CH
namespace CH
open PySem PySem.Spec PyProof.Rows L2
variable [Wsh]
section
variable {K : PySem.W.Frag} {c : Ctx}
theorem tE_mono {e : E} {σ : Sg} {H : Hp} {Q Q' : VK} (h : tE K c e σ H Q) (k : ∀ v H', Q v H' → Q' v H') : tE K c e σ H Q' := by
  obtain ⟨T, s, ρ, rel, run⟩ := h
  exact ⟨T, s, ρ, rel, run.mono fun _ v _ H' _ _ _ _ _ _ q => k v H' q⟩
theorem tIs_mono {es : List E} {σ : Sg} {H : Hp} {Q Q' : List V → Hp → Prop} (h : tIs K c es σ H Q) (k : ∀ v H', Q v H' → Q' v H') : tIs K c es σ H Q' := by
  obtain ⟨T, s, ρ, rel, run⟩ := h
  exact ⟨T, s, ρ, rel, run.mono fun _ v _ H' _ _ _ _ _ _ q => k v H' q⟩
theorem is_w {e : E} {es : List E} {σ : Sg} {H : Hp} {Q : List V → Hp → Prop} (h : tIs K c (e :: es) σ H Q) : tE K c e σ H fun x H1 => tIs K c es σ H1 fun vs H2 => Q (x :: vs) H2 := by
  obtain ⟨T, s, ρ, rel, run⟩ := h
  have hx : evIs c (e :: es) s = (evE c e s).bind fun x s1 => (asI x s1).bind fun i s2 => (evIs c es s2).bind fun l s3 => .ok (i :: l) s3 := rfl
  rw [hx] at run
  refine ⟨T, s, ρ, rel, (Run.bind0 (k' := kR) run).mono fun u vu s1 H1 ρ1 rel1 st1 p1 q1 d1 run1 => ?_⟩
  obtain ⟨i, s2, rel2, rp2, st2, run2⟩ := asI_run run1 rel1 st1 q1 d1
  have run3 := run2.from st2 p1
  refine ⟨T, s2, ρ1, rel2, (Run.bind (k' := kL) kL_anti run3).mono fun l vs s3 H3 ρ3 rel3 st3 p3 q3 d3 run4 => ?_⟩
  exact run4.leaf (k := kL) (b := vu :: vs) rel3 (fun _ z => z) kL_anti (.cons (rp2.grow st3 rel2 p3) q3)
def trs (K : PySem.W.Frag) (c : Ctx) : List E → List (TE × TE)
  | k :: v :: r => (tE K c k, tE K c v) :: trs K c r
  | _ => []
def flat : List (V × V) → List V
  | [] => []
  | (a, b) :: r => a :: b :: flat r
theorem pairs_w : ∀ (es : List E) {σ : Sg} {H : Hp} {G : List (V × V) → Hp → Prop}, es.length % 2 = 0 → tIs K c es σ H (fun vs H2 => ∀ ps, vs = flat ps → G ps H2) → tPairs (trs K c es) σ H G
  | [], σ, H, G, _, ⟨T, s, ρ, rel, run⟩ => (run.leaf (k := kL) (b := []) rel (fun _ z => z) kL_anti .nil : ∀ ps, [] = flat ps → G ps H) [] rfl
  | [_], _, _, _, h, _ => by simp at h
  | k :: v :: r, σ, H, G, h, q => tE_mono (is_w q) fun x H1 q1 => tE_mono (is_w q1) fun y H2 q2 => pairs_w r (by simp only [List.length_cons] at h; omega) (tIs_mono q2 fun vs H3 h => fun ps e => h ((x, y) :: ps) (by rw [e]; rfl))
theorem evIs_len : ∀ (es : List E) {s s2 : S} {l : List CH.I}, evIs c es s = .ok l s2 → l.length = es.length
  | [], s, s2, l, h => by
    have h : Res.ok [] s = .ok l s2 := h
    cases h
    rfl
  | e :: es, s, s2, l, h => by
    have hx : evIs c (e :: es) s = (evE c e s).bind fun x s1 => (asI x s1).bind fun i s2 => (evIs c es s2).bind fun l s3 => .ok (i :: l) s3 := rfl
    rw [hx] at h
    obtain ⟨x, s1, _, h⟩ := Res.bind_eq_ok h
    obtain ⟨i, s3, _, h⟩ := Res.bind_eq_ok h
    obtain ⟨m, s4, h4, h⟩ := Res.bind_eq_ok h
    cases h
    rw [List.length_cons, List.length_cons, evIs_len es h4]
theorem pairUp_ok {H : Hp} {W : Addr → Prop} {ρ : List Addr} : ∀ {l : List CH.I} {ps : List (V × V)} {acc kvs : List (CH.I × CH.I)} {accK : List (Key × V)}, Rps K H W ρ l (flat ps) → pairUp false acc l = some kvs → RpK K H W ρ acc accK →
    ∃ kk : List (Key × V), ps = kk.map (fun kv => (kV kv.1, kv.2)) ∧ RpK K H W ρ kvs (mergeK accK kk)
  | [], [], acc, kvs, accK, r, h, a => by
    cases h
    exact ⟨[], rfl, a⟩
  | [], (x, y) :: ps, _, _, _, r, _, _ => by cases r
  | [_], [], _, _, _, r, _, _ => by cases r
  | [_], (x, y) :: ps, _, _, _, r, h, _ => by cases h
  | _ :: _ :: _, [], _, _, _, r, _, _ => by cases r
  | k :: v :: l, (x, y) :: ps, acc, kvs, accK, r, h, a => by
    unfold pairUp at h
    split at h
    · rename_i hk
      cases r with
      | cons qk r =>
        cases r with
        | cons qv r =>
          obtain ⟨b, hb⟩ := keyOf_ok (show keyS k = true from hk)
          have ex : x = kV b := qk.key hb
          subst ex
          obtain ⟨kk, e, q⟩ := pairUp_ok r h (RpK.put hb qv a)
          exact ⟨(b, y) :: kk, by rw [e]; rfl, q⟩
    · cases h
theorem flat_len : ∀ ps : List (V × V), (flat ps).length = 2 * ps.length
  | [] => rfl
  | (x, y) :: r => by
    unfold flat
    rw [List.length_cons, List.length_cons, flat_len r, List.length_cons]
    omega
theorem disp_w {es : List E} (he : es.length % 2 = 0) (hl : es.length ≤ 30) : ∀ σ H Q, tE K c (.dct false es) σ H Q → tDisp (trs K c es) σ H Q := by
  intro σ H Q ⟨T, s, ρ, rel, run⟩ p hp
  have hx : evE c (.dct false es) s = (evIs c es s).bind fun l s1 => opt ((pairUp false [] l).map fun kvs => .tmp (.dct false kvs)) s1 := rfl
  rw [hx] at run
  obtain ⟨rh, sth⟩ := rel.hold (o := .dK []) hp (.inl trivial)
  refine pairs_w es he ⟨_, s, ρ, rh, ?_⟩
  cases hev : evIs c es s with
  | bad => rw [hev] at run; exact run.elim
  | exc e m s2 =>
    rw [hev] at run
    exact Xc.from run sth (Pre.refl _) fun z h => .inl h
  | ok l s2 =>
  rw [hev] at run
  have run2 : Run kR K T s σ H ρ (opt ((pairUp false [] l).map fun kvs => R.tmp (.dct false kvs)) s2) _ := run
  intro vs H2 ρ2 r2' st2' p2 q2' d2 ps ev
  have sb : ∀ z, (Uni T fun a => V.ref p = V.ref a) z → Uni (Uni T fun a => V.ref p = V.ref a) (kL.tm l vs) z := fun z h => .inl h
  have r2 := r2'.drop sb
  have st2 := st2'.drop sb fun _ z => z
  have q2 : Rps K H2 (Uni (Own s2 σ ρ2) (Uni T fun a => V.ref p = V.ref a)) ρ2 l vs := Rps.less q2' r2'.mt fun b h => h.imp id (sb b)
  have hpk : H2 p = some (.dK []) := st2.keep p _ upd_same (rh.tm p (.inr rfl)).2
  subst ev
  cases hpu : pairUp false [] l with
  | none =>
    rw [hpu] at run2
    exact run2.elim
  | some kvs =>
    rw [hpu] at run2
    obtain ⟨kk, e1, q3⟩ := pairUp_ok q2 hpu .nil
    have hlen : kk.length ≤ 15 := by
      have h1 := evIs_len es hev
      have h2 := q2.length
      rw [flat_len, e1, List.length_map] at h2
      omega
    refine ⟨hpk, kk, e1, hlen, ?_⟩
    have tD : (Uni T fun a => V.ref p = V.ref a) p := .inr rfl
    have r3 := r2.updT tD (o := .dK (mergeK [] kk)) (.inl trivial)
    have sy : Stay H2 (Uni (Own s2 σ ρ2) (Uni T fun a => V.ref p = V.ref a)) ρ2 (upd H2 p (.dK (mergeK [] kk))) (Uni (Own s2 σ ρ2) (Uni T fun a => V.ref p = V.ref a)) ρ2 :=
      ⟨fun b u e n => by
        have nb : b ≠ p := fun z => n (.inr (by rw [z]; exact tD))
        rw [upd_ne nb]; exact e, fun b h => .inl h, r2.mt, Pre.refl _⟩
    exact run2 (.ref p) _ ρ2 r3 ((sth.trans st2).updNew hp) p2 ⟨p, rfl, _, upd_same, .dK (q3.stay sy)⟩ fun a e t => by
      have e' : V.ref p = V.ref a := e
      cases e'
      obtain ⟨⟨u', e1, _⟩, _⟩ := rel.tm p t
      rw [hp] at e1
      cases e1
end
end CH
/-! boxed objects; list(range(..)) -/
namespace CH
open PySem PySem.Spec PyProof.Rows L2
variable [Wsh]
section
variable {K : PySem.W.Frag} {T U : Addr → Prop} {s : S} {σ : Sg} {H : Hp} {ρ : List Addr}
/-- what is held is put by -/
theorem Rel.box {o : O} {a : Addr} (h : Rel K (Uni T U) s σ H ρ) (hu : ∀ b, U b → b = a) (ua : U a) (p : RpA K H (Uni (Own s σ ρ) (Uni T U)) ρ o a) (d : ¬ T a) :
    Rel K T { s with hp := s.hp ++ [o] } σ H (ρ ++ [a]) ∧ (∀ b, Own { s with hp := s.hp ++ [o] } σ (ρ ++ [a]) b → Own s σ ρ b ∨ b = a) ∧ Pre ρ (ρ ++ [a]) := by
  have na : ¬ Own s σ ρ a := (h.tm a (.inr ua)).2
  have ow : ∀ b, Own { s with hp := s.hp ++ [o] } σ (ρ ++ [a]) b → Own s σ ρ b ∨ b = a := fun b g => by
    rcases g with ⟨k, o', e, x⟩ | x
    · exact .inl (.inl ⟨k, o', e, x⟩)
    · rcases List.mem_append.mp x with x | x
      · exact .inl (.inr x)
      · exact .inr (List.mem_singleton.mp x)
  have pre : Pre ρ (ρ ++ [a]) := fun n b e => by
    rw [List.getElem?_append_left (List.getElem?_eq_some_iff.mp e).1]; exact e
  have w : ∀ b, Uni (Own { s with hp := s.hp ++ [o] } σ (ρ ++ [a])) T b → Uni (Own s σ ρ) (Uni T U) b := fun b g => by
    rcases g with g | g
    · rcases ow b g with g | g
      · exact .inl g
      · subst g; exact .inr (.inr ua)
    · exact .inr (.inl g)
  have st : Stay H (Uni (Own s σ ρ) (Uni T U)) ρ H (Uni (Own { s with hp := s.hp ++ [o] } σ (ρ ++ [a])) T) (ρ ++ [a]) :=
    ⟨fun b u e _ => e, fun b g => .inl (w b g), h.mt, pre⟩
  refine ⟨⟨h.len, fun k i e => ?_, fun k o' e => ?_, h.dj, by simp only [List.length_append, List.length_cons, List.length_nil, h.hl], fun n o' b e x => ?_, ?_, fun b t => ⟨(h.tm b (.inl t)).1, fun g => ?_⟩⟩, ow, pre⟩
  · obtain ⟨v, e1, r1⟩ := h.im k i e
    exact ⟨v, e1, r1.stay st⟩
  · obtain ⟨b, e1, r1, n1⟩ := h.ob k o' e
    refine ⟨b, e1, r1.stay st (fun _ z => z), fun x => ?_⟩
    rcases List.mem_append.mp x with x | x
    · exact n1 x
    · rw [List.mem_singleton.mp x] at e1
      exact na (.inl ⟨k, o', e, e1⟩)
  · have e : (s.hp ++ [o])[n]? = some o' := e
    by_cases hn : n < s.hp.length
    · rw [List.getElem?_append_left hn] at e
      rw [List.getElem?_append_left (by rw [← h.hl]; exact hn)] at x
      exact (h.bx n o' b e x).stay st fun _ z => z
    · rw [List.getElem?_append_right (by omega)] at e
      rw [List.getElem?_append_right (by rw [← h.hl]; omega)] at x
      have e0 : n - s.hp.length = 0 := by
        have := (List.getElem?_eq_some_iff.mp e).1
        simpa using this
      rw [e0] at e
      rw [← h.hl, e0] at x
      simp only [List.getElem?_cons_zero, Option.some.injEq] at e x
      subst e x
      exact p.stay st fun _ z => z
  · rw [List.nodup_append]
    refine ⟨h.nd, by simp, fun x hx y hy e => ?_⟩
    rw [List.mem_singleton] at hy
    subst hy e
    exact na (.inr hx)
  · rcases ow b g with g | g
    · exact (h.tm b (.inl t)).2 g
    · subst g; exact d t
end
section
variable {X : Cx} {c : Ctx}
theorem ok_box {p : PySem.Expr} {e : E} (ha : PE X p (tE X.K c e)) : PE X p (tE X.K c (.box e)) := by
  refine PEi ha ?_
  intro σ H Q ⟨T, s, ρ, rel, run⟩
  have hx : evE c (.box e) s = (evE c e s).bind fun x s1 => match x with
    | .tmp o => .ok (.val (.ref s1.hp.length)) { s1 with hp := s1.hp ++ [o] }
    | _ => .bad := rfl
  rw [hx] at run
  refine ⟨T, s, ρ, rel, (Run.bind0 (k' := kR) run).mono fun u vu s1 H1 ρ1 rel1 st1 p1 q1 d1 run1 => ?_⟩
  cases u with
  | val i => exact run1.elim
  | var k => exact run1.elim
  | tmp o =>
    obtain ⟨a, rfl, pa⟩ := q1
    have hu : ∀ b, tOf (.tmp o) (.ref a) b → b = a := fun b e => by
      have e : V.ref a = V.ref b := e
      cases e
      rfl
    obtain ⟨r2, ow, pre⟩ := rel1.box hu rfl pa (d1 a rfl)
    have sub : ∀ z, Uni T (tOf (.val (.ref s1.hp.length)) (.ref a)) z → T z := fun z x => x.elim id fun y => False.elim y
    refine run1 (.ref a) H1 (ρ1 ++ [a]) (r2.drop sub) ⟨st1.keep, fun b g => ?_, fun b t => (r2.tm b t).2, fun b t => .inl t, st1.fz⟩ (p1.trans pre) ?_ fun c z => False.elim z
    · rcases g with g | g
      · rcases ow b g with g | g
        · exact st1.new b (.inl g)
        · subst g; exact st1.new b (.inr (.inr rfl))
      · exact st1.new b (.inr (.inl (sub b g)))
    · show Rp X.K H1 _ (ρ1 ++ [a]) (.ref s1.hp.length) (.ref a)
      refine .ref ?_
      rw [rel1.hl, List.getElem?_append_right (Nat.le_refl _), Nat.sub_self]
      rfl
theorem rps_ints {K : PySem.W.Frag} {H : Hp} {W : Addr → Prop} {ρ : List Addr} {α : Type} (f : α → Int) : ∀ (l : List α), Rps K H W ρ (l.map fun i => .int (f i)) (l.map fun i => V.int (f i))
  | [] => .nil
  | a :: r => .cons (.int _) (rps_ints f r)
theorem ok_lrg1 (C : Cok X c) {p q q2 : PySem.Expr} {e : E} (hb : bcall X.env.scope "list" p = some q) (hb2 : bcall X.env.scope "range" q = some q2) (ha : PE X q2 (tE X.K c e)) : PE X p (tE X.K c (.lrg1 e)) := by
  obtain ⟨p1, p2, rfl, hg, hs⟩ := bcall_ok hb
  obtain ⟨p3, p4, rfl, hg2, hs2⟩ := bcall_ok hb2
  refine PEi (pe_listRg C.calm (glC_ok rfl hg) (C.bl "list" (by decide +kernel)) (prg_1 (glC_ok rfl hg2) (C.bl "range" (by decide +kernel)) ha (star_of hs2)) (star_of hs)) ?_
  intro σ H Q ⟨T, s, ρ, rel, run⟩
  have hx : evE c (.lrg1 e) s = (evE c e s).bind fun x s1 => match rint x with
    | some i => Res.req (small i && decide (i ≤ 16777216)) (.ok (.tmp (.lst (rng 0 i))) s1)
    | none => .bad := rfl
  rw [hx] at run
  refine ⟨T, s, ρ, rel, (Run.bind (k' := kR) kR_anti run).mono fun u vu s1 H1 ρ1 rel1 st1 p1 q1 d1 run1 => ?_⟩
  split at run1
  · rename_i i hi
    obtain ⟨cz, run1⟩ := Run.req run1
    rw [Bool.and_eq_true] at cz
    have c1 := small_ok cz.1
    have c2 := of_decide_eq_true cz.2
    unfold rint at hi
    split at hi
    · cases hi
      cases kRint q1
      refine ⟨i, rfl, ⟨by decide, by decide, c1.1, c1.2, by omega⟩, fun q hq => ?_⟩
      exact run1.new rel1 hq (.lst (by rw [rng_eq]; exact rps_ints (fun k : Nat => (0 : Int) + k) _))
    · cases hi
  · exact run1.elim
theorem ok_lrg2 (C : Cok X c) {p q q2 q3 : PySem.Expr} {e d : E} (hb : bcall X.env.scope "list" p = some q) (hb2 : bcall2 X.env.scope "range" q = some (q2, q3)) (ha : PE X q2 (tE X.K c e)) (hd : PE X q3 (tE X.K c d)) : PE X p (tE X.K c (.lrg2 e d)) := by
  obtain ⟨p1, p2, rfl, hg, hs⟩ := bcall_ok hb
  obtain ⟨p3, p4, rfl, hg2, hs2, hs3⟩ := bcall2_ok hb2
  refine PEi (pe_listRg C.calm (glC_ok rfl hg) (C.bl "list" (by decide +kernel)) (prg_2 (glC_ok rfl hg2) (C.bl "range" (by decide +kernel)) ha hd (star_of hs2) (star_of hs3) (by rw [star_of hs3]; rfl)) (star_of hs)) ?_
  intro σ H Q ⟨T, s, ρ, rel, run⟩
  have hx : evE c (.lrg2 e d) s = (evE c e s).bind fun x s1 => (evE c d s1).bind fun y s2 => match rint x, rint y with
    | some i, some j => Res.req ((small i && small j) && decide (j - i ≤ 16777216)) (.ok (.tmp (.lst (rng i j))) s2)
    | _, _ => .bad := rfl
  rw [hx] at run
  refine ⟨T, s, ρ, rel, (Run.bind (k' := kR) kR_anti run).mono fun u vu s1 H1 ρ1 rel1 st1 p1 q1 d1 run1 => ?_⟩
  refine ⟨_, s1, ρ1, rel1, (Run.bind (k' := kR) kR_anti run1).mono fun w vw s2 H2 ρ2 rel2 st2 p2 q2 d2 run2 => ?_⟩
  split at run2
  · rename_i i j hi hj
    obtain ⟨cz, run2⟩ := Run.req run2
    rw [Bool.and_eq_true, Bool.and_eq_true] at cz
    have c1 := small_ok cz.1.1
    have c2 := small_ok cz.1.2
    have c3 := of_decide_eq_true cz.2
    unfold rint at hi hj
    split at hi
    · cases hi
      split at hj
      · cases hj
        cases kRint q1
        cases kRint q2
        refine ⟨i, j, rfl, rfl, ⟨c1.1, c1.2, c2.1, c2.2, by omega⟩, fun q hq => ?_⟩
        exact run2.new rel2 hq (.lst (by rw [rng_eq]; exact rps_ints (fun k : Nat => i + k) _))
      · cases hj
    · cases hi
  · exact run2.elim
end
end CH
namespace CH
open PySem PySem.Spec PyProof.Rows L2
variable [Wsh]
section
variable {X : Cx} {c : Ctx} {T : Addr → Prop} {s : S} {σ : Sg} {H : Hp} {ρ : List Addr} {u w : R} {vu vw : V} {Q : VK}
/-! ### zip -/
theorem ok_zip (C : Cok X c) {p q q2 : PySem.Expr} {es : List PySem.Expr} {kk : Nat} {tp : Pos} {e d : E} (hb : bcall2 X.env.scope "zip" p = some (q, q2)) (ha : PE X q (tE X.K c e)) (hd : PE X q2 (tE X.K c d)) : PI X (.Tuple es kk tp) p (tI X.K c (.zip e d)) := by
  obtain ⟨p1, p2, rfl, hg, hs, hs2⟩ := bcall2_ok hb
  refine PIi (RZ.pi_zipA (glC_ok rfl hg) (C.bl "zip" (by decide +kernel)) (es_cons hs ha (es_cons hs2 hd es_nil)) (by rw [star_of hs]) (by rw [star_of hs2]; rfl)) ?_
  intro σ H R ⟨T, s, ρ, rel, run⟩
  have hx : evIt c (.zip e d) s = (evEs c [e, d] s).bind fun xs s2 => match xs with
    | [x, y] => (match viewQ x s2, viewQ y s2 with
      | some (t, l), some (u, m) => Res.req (t == u) (.ok (.two (srcOf l x) (srcOf m y), l.zipWith (fun x y => .tup [x, y]) m) s2)
      | _, _ => .bad)
    | _ => .bad := by
    show ((evE c e s).bind fun x s1 => (evE c d s1).bind fun y s2 => _) = ((evE c e s).bind fun x s1 => ((evE c d s1).bind fun y s2 => (Res.ok [] s2).bind fun xs s3 => Res.ok (y :: xs) s3).bind fun xs s2 => Res.ok (x :: xs) s2).bind _
    cases evE c e s with
    | ok x s1 =>
      simp only [Res.bind_ok]
      cases evE c d s1 <;> rfl
    | exc => rfl
    | bad => rfl
  rw [hx] at run
  refine ⟨T, s, ρ, rel, (Run.bind0 (k' := kRs) run).mono fun xs vs s1 H1 ρ1 rel1 st1 p1 q1 d1 run1 => ?_⟩
  have two : ∃ x y vx vy, xs = [x, y] ∧ vs = [vx, vy] := by
    match xs with
    | [] => exact run1.elim
    | [_] => exact run1.elim
    | _ :: _ :: _ :: _ => exact run1.elim
    | [x, y] =>
      cases q1 with
      | cons qx q1 =>
        cases q1 with
        | cons qy q1 =>
          cases q1
          exact ⟨x, y, _, _, rfl, rfl⟩
  obtain ⟨x, y, vx, vy, rfl, rfl⟩ := two
  have q1 : RpRs X.K H1 (Uni (Own s1 σ ρ1) (Uni T (tOfs [x, y] [vx, vy]))) ρ1 σ [x, y] [vx, vy] := q1
  have rel1 : Rel X.K (Uni T (tOfs [x, y] [vx, vy])) s1 σ H1 ρ1 := rel1
  cases q1 with
  | cons qx q1 dx =>
  cases q1 with
  | cons qy q1 dy =>
    have sb1 : ∀ z, Uni (Uni T (tOf y vy)) (tOf x vx) z → Uni T (tOfs [x, y] [vx, vy]) z := fun z h => h.elim (fun h => h.elim .inl fun h => .inr (.inr (.inl h))) fun h => .inr (.inl h)
    have sb2 : ∀ z, Uni (Uni T (tOf x vx)) (tOf y vy) z → Uni T (tOfs [x, y] [vx, vy]) z := fun z h => h.elim (fun h => h.elim .inl fun h => .inr (.inl h)) fun h => .inr (.inr (.inl h))
    have rx := rel1.drop sb1
    have ry := rel1.drop sb2
    simp only at run1
    split at run1
    · rename_i t l u m h1 h2
      obtain ⟨et, run1⟩ := Run.req run1
      have et : t = u := eq_of_beq et
      subst et
      have qx' : RpR X.K H1 (Uni (Own s1 σ ρ1) (Uni (Uni T (tOf y vy)) (tOf x vx))) ρ1 σ x vx := RpR.less qx rel1.mt fun z h => h.imp id (sb1 z)
      have qy' : RpR X.K H1 (Uni (Own s1 σ ρ1) (Uni (Uni T (tOf x vx)) (tOf y vy))) ρ1 σ y vy := RpR.less qy rel1.mt fun z h => h.imp id (sb2 z)
      cases t with
      | false =>
        obtain ⟨a, rfl, ⟨vs, hs⟩, f⟩ := fedL_ok rx qx' (fun c h g => g.elim (d1 c (.inl h)) fun g => dx c h (.inl g)) h1
        obtain ⟨b, rfl, ⟨ws, hs'⟩, f'⟩ := fedL_ok ry qy' (fun c h g => g.elim (d1 c (.inr (.inl h))) fun g => dx c g (.inl h)) h2
        have g1 := f.stay (σ' := σ) (Stay.less (rx.drop (T' := Uni T (tOf y _)) fun _ z => .inl z).mt (W' := Uni (Own s1 σ ρ1) T) fun z h => h.imp id .inl) (fun _ _ => rfl)
        have g2 := f'.stay (σ' := σ) (Stay.less (ry.drop (T' := Uni T (tOf x _)) fun _ z => .inl z).mt (W' := Uni (Own s1 σ ρ1) T) fun z h => h.imp id .inl) (fun _ _ => rfl)
        exact ⟨a, b, vs, ws, rfl, .inl ⟨hs, hs', run1.give (k := kS _) (b := Itz X.K a b) rel1 st1 p1 (fun _ z => z) (.zip g1 g2) kS_anti⟩⟩
      | true =>
        have tup : ∀ {x : CH.R} {v : V} {l : List CH.I} {W : Addr → Prop}, RpR X.K H1 W ρ1 σ x v → viewQ x s1 = some (true, l) → ∃ a vs, v = .ref a ∧ srcOf l x = .imm ∧ Pt X.K H1 a vs ∧ Rps X.K H1 W ρ1 l vs := by
          intro x v l W q h
          unfold viewQ at h
          split at h
          · cases h
            cases q with
            | tup g1 g2 => exact ⟨_, _, rfl, rfl, g1, g2⟩
          · cases h
          · cases h
          · split at h <;> cases h
          · cases h
          · split at h <;> cases h
          · cases h
        obtain ⟨a, vs, rfl, ex, hp, hr⟩ := tup qx h1
        obtain ⟨b, ws, rfl, ey, hp', hr'⟩ := tup qy h2
        rw [ex, ey] at run1
        refine ⟨a, b, vs, ws, rfl, .inr ⟨hp.sqt, hp'.sqt, run1.give (k := kS _) (b := RZ.ItzT X.K a b) rel1 st1 p1 (fun _ z => z) ?_ kS_anti⟩⟩
        exact .zipT hp (hr.less rel1.mt fun z h => h.imp id .inl) hp' (hr'.less rel1.mt fun z h => h.imp id .inl)
    · exact run1.elim
/-! ### list.remove, list.insert -/
theorem eqI_int {i k : Int} : eqI (.int i) (.int k) = true ↔ i = k := by
  show (i == k) = true ↔ _
  simp
theorem idxOf_ints : ∀ {l : List CH.I} {ns : List Int} {k : Int} {j : Nat}, intsOf l = some ns → idxOf l (.int k) = some j → ns[j]? = some k ∧ ∀ m : Nat, m < j → ns[m]? ≠ some k
  | [], ns, k, j, h, e => by cases e
  | .int a :: l, ns, k, j, h, e => by
    unfold intsOf at h
    obtain ⟨ns, h1, rfl⟩ := Option.map_eq_some_iff.mp h
    unfold idxOf at e
    split at e
    · rename_i hc
      cases e
      exact ⟨by rw [eqI_int.mp hc]; rfl, fun m h => by omega⟩
    · rename_i hc
      obtain ⟨i, h2, rfl⟩ := Option.map_eq_some_iff.mp e
      obtain ⟨g1, g2⟩ := idxOf_ints h1 h2
      refine ⟨by simpa using g1, fun m hm => ?_⟩
      cases m with
      | zero =>
        intro z
        have : a = k := by simpa using z
        exact hc (eqI_int.mpr this)
      | succ m => simpa using g2 m (by omega)
theorem eraseIdx_map {α β : Type} (f : α → β) : ∀ (l : List α) (j : Nat), (l.map f).eraseIdx j = (l.eraseIdx j).map f
  | [], j => by simp
  | a :: r, 0 => by simp
  | a :: r, j + 1 => by simp [eraseIdx_map f r j]
theorem removeop_ok {i : CH.I} {vi : V} (r : Rel X.K T s σ H ρ) (q : RpR X.K H (Uni (Own s σ ρ) T) ρ σ u vu) (qi : Rp X.K H (Uni (Own s σ ρ) T) ρ i vi) (run : Run kR X.K T s σ H ρ (removeop u i s) (fun _ v _ H' _ => Q v H')) : rRemI vu [vi] H Q := by
  unfold removeop at run
  split at run
  · rename_i l k h1
    split at run
    · rename_i ns j h2 h3
      cases qi
      obtain ⟨a, vs, rfl, ha, r1, put⟩ := ownL_ok r q h1
      obtain ⟨rel2, st2⟩ := put (l.eraseIdx j) (vs.eraseIdx j) (r1.eraseIdx j)
      have e := ints_ok r1 h2
      subst e
      obtain ⟨g1, g2⟩ := idxOf_ints h2 h3
      refine ⟨a, ns, k, j, rfl, rfl, ha, g1, g2, ?_⟩
      rw [← eraseIdx_map]
      exact run.put rel2 st2
    · exact run.elim
  · exact run.elim
theorem ok_remove {a b : E} {p o q : PySem.Expr} (hb : mcall1 "remove" p = some (o, q)) (ha : PE X o (tE X.K c a)) (hq : PE X q (tE X.K c b)) : PE X p (tE X.K c (.remove a b)) :=
  m1 PySem.F.plainAttrs_list PySem.F.slot_list_remove PySem.F.type_list_remove mt_remove hb ha hq
    (bm1s (g := isLs) (f := removeop) (fun s => rfl) (fun T s σ H ρ u vu r q g => isLs_ok r q g) fun T s σ H ρ u i vu vi Q r q qi _ run => removeop_ok r q qi run)
abbrev rIns : V → List V → Hp → VK → Prop := fun x vs H Q => ∃ (l : Addr) (xs : List V) (i : Int) (y : V), x = .ref l ∧ vs = [.int i, y] ∧ H l = some (.lst xs) ∧ xs.length < sizeLine ∧ 0 ≤ i ∧ i < 2 ^ 63 ∧
    Q .non (upd H l (.lst (xs.take i.toNat ++ [y] ++ xs.drop i.toNat)))
theorem insertop_ok {i : CH.I} {vi : V} (r : Rel X.K T s σ H ρ) (q : RpR X.K H (Uni (Own s σ ρ) T) ρ σ u vu) (q2 : RpR X.K H (Uni (Own s σ ρ) T) ρ σ w vw) (qi : Rp X.K H (Uni (Own s σ ρ) T) ρ i vi) (run : Run kR X.K T s σ H ρ (insertop u w i s) (fun _ v _ H' _ => Q v H')) : rIns vu [vw, vi] H Q := by
  unfold insertop at run
  split at run
  · rename_i l k h1
    obtain ⟨cz, run⟩ := Run.req run
    have cz := of_decide_eq_true cz
    cases rpInt q2
    obtain ⟨a, vs, rfl, ha, r1, put⟩ := ownL_ok r q h1
    obtain ⟨rel2, st2⟩ := put (l.take k.toNat ++ [i] ++ l.drop k.toNat) (vs.take k.toNat ++ [vi] ++ vs.drop k.toNat) (((r1.take _).append (.cons qi .nil)).append (r1.drop _))
    exact ⟨a, vs, k, vi, rfl, rfl, ha, by rw [← r1.length, sizeLine_eq]; exact cz.1, cz.2.1, by have := cz.2.2; omega, run.put rel2 st2⟩
  · exact run.elim
theorem ok_insert {a b d : E} {p o q q2 : PySem.Expr} (hb : mcall2 "insert" p = some (o, q, q2)) (ha : PE X o (tE X.K c a)) (hq : PE X q (tE X.K c b)) (hq2 : PE X q2 (tE X.K c d)) : PE X p (tE X.K c (.insert a b d)) := by
  refine m2 PySem.F.plainAttrs_list PySem.F.slot_list_insert PySem.F.type_list_insert mt_insert hb ha hq hq2 ?_
  intro σ H Q ⟨T, s, ρ, rel, run⟩
  have hx : evE c (.insert a b d) s = (evE c a s).bind fun x s1 => Res.req (isLs x s1) ((evE c b s1).bind fun y s2 => (evE c d s2).bind fun z s3 => (asI z s3).bind fun i s4 => insertop x y i s4) := rfl
  rw [hx] at run
  refine ⟨T, s, ρ, rel, (Run.bind (k' := kR) kR_anti run).mono fun u vu s1 H1 ρ1 rel1 st1 p1 q1 d1 run1 => ?_⟩
  obtain ⟨cg, run1⟩ := Run.req run1
  refine ⟨isLs_ok rel1 q1 cg, Uni T (tOf u vu), s1, ρ1, rel1, (Run.bind (k' := kR) kR_anti run1).mono fun w vw s2 H2 ρ2 rel2 st2 p2 q2 d2 run2 => ?_⟩
  refine ⟨_, s2, ρ2, rel2, (Run.bind0 (k' := kR) run2).mono fun z vz s3 H3 ρ3 rel3 st3 p3 q3 d3 run3 => ?_⟩
  obtain ⟨i, s4, rel4, rp4, st4, run4⟩ := asI_run run3 rel3 st3 q3 d3
  have q1' := (q1.stay st2 rel1 p2 fun a h => .inr h).stay st4 rel2 p3 fun a h => .inl (.inr h)
  have q2' := q2.stay st4 rel2 p3 fun a h => .inr h
  exact insertop_ok rel4 q1' q2' rp4 (run4.from st4 p3)
end
end CH
namespace CH
open PySem PySem.Spec PyProof.Rows L2
/-! ### instances: fields, methods, new ones -/
theorem map_toNat : ∀ {a b : List Char}, a.map Char.toNat = b.map Char.toNat → a = b
  | [], [], _ => rfl
  | [], _ :: _, h => by cases h
  | _ :: _, [], h => by cases h
  | x :: a, y :: b, h => by
    rw [List.map_cons, List.map_cons] at h
    injection h with h1 h2
    rw [Char.toNat_inj.mp h1, map_toNat h2]
theorem ofStr_inj {a b : String} (h : Str.ofString a = Str.ofString b) : a = b := by
  rw [Str.ofString_eq_toList, Str.ofString_eq_toList] at h
  have h1 : a.toList.map Char.toNat = b.toList.map Char.toNat := by simpa using h
  exact String.toList_inj.mp (map_toNat h1)
section
variable {K : PySem.W.Frag} {H : Hp} {W : Addr → Prop} {ρ : List Addr}
theorem RpF.len : ∀ {l : List (String × CH.I)} {fs : List (Str × V)}, RpF K H W ρ l fs → l.length = fs.length
  | _, _, .nil => rfl
  | _, _, .cons _ r => by rw [List.length_cons, List.length_cons, r.len]
theorem RpF.some : ∀ {l : List (String × CH.I)} {fs : List (Str × V)} {f : String} {i : CH.I}, RpF K H W ρ l fs → l.lookup f = some i → ∃ v, fs.lookup (Str.ofString f) = some v ∧ Rp K H W ρ i v
  | _, _, _, _, .nil, h => by cases h
  | _, _, f, i, .cons (f := g) (v := v) (l := l) (vs := vs) q r, h => by
    rw [List.lookup_cons] at h ⊢
    by_cases e : f = g
    · subst e
      simp only [beq_self_eq_true] at h ⊢
      cases h
      exact ⟨v, rfl, q⟩
    · have e1 : (f == g) = false := by simpa using e
      have e2 : (Str.ofString f == Str.ofString g) = false := by
        cases hb : (Str.ofString f == Str.ofString g) with
        | false => rfl
        | true => exact absurd (ofStr_inj (beq_iff_eq.mp hb)) e
      rw [e1] at h
      rw [e2]
      exact RpF.some r h
theorem RpF.none : ∀ {l : List (String × CH.I)} {fs : List (Str × V)} {f : String}, RpF K H W ρ l fs → l.lookup f = none → fs.lookup (Str.ofString f) = none
  | _, _, _, .nil, h => rfl
  | _, _, f, .cons (f := g) (v := v) (l := l) (vs := vs) q r, h => by
    rw [List.lookup_cons] at h ⊢
    by_cases e : f = g
    · subst e
      simp only [beq_self_eq_true] at h
      cases h
    · have e1 : (f == g) = false := by simpa using e
      have e2 : (Str.ofString f == Str.ofString g) = false := by
        cases hb : (Str.ofString f == Str.ofString g) with
        | false => rfl
        | true => exact absurd (ofStr_inj (beq_iff_eq.mp hb)) e
      rw [e1] at h
      rw [e2]
      exact RpF.none r h
theorem RpF.put {f : String} {i : CH.I} {v : V} (q : Rp K H W ρ i v) : ∀ {l : List (String × CH.I)} {fs : List (Str × V)}, RpF K H W ρ l fs → RpF K H W ρ (CH.putF f i l) (L2.putF (Str.ofString f) v fs)
  | _, _, .nil => .cons q .nil
  | _, _, .cons (f := g) (i := j) (v := w) (l := l) (vs := vs) p r => by
    unfold CH.putF L2.putF
    by_cases e : g = f
    · subst e
      rw [if_pos rfl, if_pos rfl]
      exact .cons q r
    · rw [if_neg e, if_neg (fun z => e (ofStr_inj z))]
      exact .cons p (r.put q)
end
section
variable [Wsh]
variable {X : Cx} {c : Ctx} {T : Addr → Prop} {s : S} {σ : Sg} {H : Hp} {ρ : List Addr} {u w : CH.R} {vu vw : V} {Q : VK}
theorem insOf_ok {K : PySem.W.Frag} (r : Rel K T s σ H ρ) {x : CH.R} {v : V} (q : RpR K H (Uni (Own s σ ρ) T) ρ σ x v) {n : Nat} {cl : String} {l : List (String × CH.I)} (e : insOf x s = some (n, cl, l)) :
    ∃ a dx fs, v = .ref a ∧ x = .val (.ref n) ∧ s.hp[n]? = some (.ins cl l) ∧ ρ[n]? = some a ∧ H a = some (.ins (He.ga K (Str.ofString cl)) dx fs) ∧ RpF K H (Uni (Own s σ ρ) T) ρ l fs := by
  unfold insOf at e
  split at e
  · split at e
    · rename_i hn
      cases e
      cases q with
      | ref ha =>
        obtain ⟨u, hu, hr⟩ := r.bx _ _ _ hn ha
        cases hr with
        | ins hr => exact ⟨_, _, _, rfl, rfl, hn, ha, hu, hr⟩
    · cases e
  · cases e
theorem ok_fld (C : Cok X c) {a : E} {f : String} {o : PySem.Expr} {m : Str} {pos : Pos} (hm : m = Str.ofString f) (hs : superC o = true) (ha : PE X o (tE X.K c a)) : PE X (.Attribute o m pos) (tE X.K c (.fld a f)) := by
  subst hm
  refine PEi (pe_fld ha (base_of hs)) ?_
  intro σ H Q ⟨T, s, ρ, rel, run⟩
  have hx : evE c (.fld a f) s = (evE c a s).bind fun x s1 => fldop c.gl x f s1 := rfl
  rw [hx] at run
  refine ⟨T, s, ρ, rel, (Run.bind (k' := kR) kR_anti run).mono fun x vx s1 H1 ρ1 rel1 st1 p1 q1 d1 run1 => ?_⟩
  unfold fldop at run1
  split at run1
  · rename_i n cl l h1
    obtain ⟨ck, run1⟩ := Run.req run1
    obtain ⟨i, hi, run1⟩ := Run.opt run1
    obtain ⟨ad, dx, fs, rfl, _, _, _, hh, hr⟩ := insOf_ok rel1 q1 h1
    obtain ⟨v, hv, pv⟩ := hr.some hi
    obtain ⟨k1, k2⟩ := C.fk cl f ck
    exact ⟨ad, _, dx, fs, v, rfl, hh, k1, k2, hv, run1.valQ rel1 pv⟩
  · exact run1.elim
/-! methods -/
theorem meth_eq {o : PySem.Expr} {m : Str} {apos pos : Pos} {args : List PySem.Expr} {env : Env} (hbase : attributeBase o m env (eval o env) = eval o env)
    (hfew : methodCallForm (args.length + ([] : List Keyword).length) (backTo pos (starEach args env)) (backToKw pos (keywordEach [] env)) = true) (hline : (apos.endLine == pos.line) = true) :
    eval (.Call (.Attribute o m apos) args [] pos) env = (do
      let ov ← eval o env
      standAt apos.atName
      let (f, first) ← holding [ov] (getMethod ov m (do return (← importBound o env).getD true))
      callWith pos f first (backTo pos (starEach args env)) (backToKw pos (keywordEach [] env))) := by
  have hpos : methodCallPos true o env apos pos = pure pos := by unfold methodCallPos; simp [hline]
  rw [arm_eval_Call, hbase]
  unfold methodCall
  rw [hfew]
  simp only [hpos, pure_bind]
  rfl
def tMethW (C : Addr) (m : Str) (sp : Sp) (E : L2.St → XK) (ta : TE) (t : TA) : TE := fun σ H Q => ta σ H fun x H1 => ∃ a dx fs, x = .ref a ∧ H1 a = some (.ins C dx fs) ∧ fs.lookup m = Option.none ∧
  t σ H1 fun vs H2 => sp (x :: vs) H2 Q (E σ)
theorem pe_methW {k : Nat} {f C : Addr} {fd : FuncData} {ps : List Str} {sp : Sp} {E : L2.St → XK} {m : Str} {pos apos : Pos} {o e : PySem.Expr} {es : List PySem.Expr} {ta : TE} {t : TA} (he : PE X o ta) (cc : Cls X.K C) (hm : Meth X.K C m f)
    (F : FnOk X.prog X.w X.K X.mg X.base (L2.CX X.prog X.w) k f fd ps sp) (hr : Room k X.A) (hb : Binds X.K fd ps []) (hx : ∀ σ, PassesAt (L2.CX X.prog X.w) X σ (E σ)) (ha : PA X (e :: es) t)
    (hbase : attributeBase o m X.env (eval o X.env) = eval o X.env) (hfew : methodCallForm ((e :: es).length + ([] : List Keyword).length) (backTo pos (starEach (e :: es) X.env)) (backToKw pos (keywordEach [] X.env)) = true) (hline : (apos.endLine == pos.line) = true)
    (h1 : starEach (e :: es) X.env = (false, eval e X.env) :: starEach es X.env) (h2 : (backTo pos (starEach es X.env)).any (·.1) = false) :
    PE X (.Call (.Attribute o m apos) (e :: es) [] pos) (tMethW C m sp E ta t) := by
  refine ⟨fun pins s σ H Q I h => ?_⟩
  refine PySem.W.methodCall_KW (thn (he.run pins s σ H _ I h) fun u s1 ⟨x, H1, I1, rx, a, dx, fs, ex, ea, l, q⟩ => ?_) (meth_eq hbase hfew hline)
  subst ex
  obtain rfl : u = Value.ref a := rx
  refine getmeth_ok I1 ea cc hm l ?_
  refine PySem.W.callWith_K (first := [.ref a]) (h₀ := X.base) I1.ok.mod.kin hm.kp (thn (ha.run pos pins s1 σ H1 _ I1 q) fun us s2 ⟨vs, H2, I2, r, q2⟩ => ⟨I2.kIn, ?_⟩) h1 h2
  exact run_fnS (us := .ref a :: us) (vs := .ref a :: vs) F hr hb (hx σ) I2 (.cons rfl r) q2
theorem pe_methW0 {k : Nat} {f C : Addr} {fd : FuncData} {ps : List Str} {sp : Sp} {E : L2.St → XK} {m : Str} {pos apos : Pos} {o : PySem.Expr} {ta : TE} (he : PE X o ta) (cc : Cls X.K C) (hm : Meth X.K C m f)
    (F : FnOk X.prog X.w X.K X.mg X.base (L2.CX X.prog X.w) k f fd ps sp) (hr : Room k X.A) (hb : Binds X.K fd ps []) (hx : ∀ σ, PassesAt (L2.CX X.prog X.w) X σ (E σ))
    (hbase : attributeBase o m X.env (eval o X.env) = eval o X.env) (hline : (apos.endLine == pos.line) = true) :
    PE X (.Call (.Attribute o m apos) [] [] pos) (tMethW C m sp E ta tNil) := by
  refine ⟨fun pins s σ H Q I h => ?_⟩
  refine PySem.W.methodCall_KW (thn (he.run pins s σ H _ I h) fun u s1 ⟨x, H1, I1, rx, a, dx, fs, ex, ea, l, q⟩ => ?_) (meth_eq hbase rfl hline)
  subst ex
  obtain rfl : u = Value.ref a := rx
  refine getmeth_ok I1 ea cc hm l ?_
  exact PySem.W.callWith_K0 (first := [.ref a]) I1.kIn hm.kp (run_fnS (us := [.ref a]) (vs := [.ref a]) F hr hb (hx σ) I1 (.cons rfl .nil) q)
/-- the object ahead of the arguments -/
theorem ok_meth (C : Cok X c) {key cl m : String} {a : E} {es : List E} {o : PySem.Expr} {mm : Str} {apos pos : Pos} {ps : List PySem.Expr} (hmm : mm = Str.ofString m) (hl : (apos.endLine == pos.line) = true) (hs : superC o = true) (ha : PE X o (tE X.K c a)) (hps : ckEs X.env.scope X.N es ps = true) (hlen : ps.length < 29) (hA : PA X ps (tEs X.K c es)) :
    PE X (.Call (.Attribute o mm apos) ps [] pos) (tE X.K c (.meth key cl m a es)) := by
  subst hmm
  have hev : ∀ s, evE c (.meth key cl m a es) s = Res.req (c.kn key && decide (c.gl.kd key = some (cl, m))) ((evE c a s).bind fun x s1 => Res.req (isIns cl m x s1) ((evEs c es s1).bind fun xs s2 => doCall c key (x :: xs) s2)) := fun s => rfl
  by_cases hc : (c.kn key && decide (c.gl.kd key = some (cl, m))) = true
  · rw [Bool.and_eq_true] at hc
    obtain ⟨k, ad, fd, ps', F, hr, _, _, hb, hme⟩ := C.cl key hc.1
    obtain ⟨hcl, hmeth, _⟩ := hme cl m (of_decide_eq_true hc.2)
    have core : ∀ σ H Q, tE X.K c (.meth key cl m a es) σ H Q → tMethW (He.ga X.K (Str.ofString cl)) (Str.ofString m) (spOf X.K c.cl key) (WE Wsh.w) (tE X.K c a) (tEs X.K c es) σ H Q := by
      intro σ H Q ⟨T, s, ρ, rel, run⟩
      rw [hev] at run
      obtain ⟨_, run⟩ := Run.req run
      refine ⟨T, s, ρ, rel, (Run.bind0 (k' := kR) run).mono fun x vx s1 H1 ρ1 rel1 st1 p1 q1 d1 run1 => ?_⟩
      obtain ⟨ci, run0⟩ := Run.req run1
      clear run1
      unfold isIns at ci
      split at ci
      · rename_i n cl' l h1
        rw [Bool.and_eq_true] at ci
        obtain ⟨ec, en⟩ := ci
        have ec : cl' = cl := eq_of_beq ec
        subst ec
        have en : l.lookup m = Option.none := by
          cases e : l.lookup m with
          | none => rfl
          | some i => rw [e] at en; cases en
        obtain ⟨a', dx, fs, rfl, rfl, hn, hρ, hh, hf⟩ := insOf_ok rel1 q1 h1
        refine ⟨a', dx, fs, rfl, hh, hf.none en, ?_⟩
        have nT : ∀ z, Uni T (tOf (.val (.ref n)) (V.ref a')) z → T z := fun z h => h.elim id fun h => False.elim h
        have rel1' : Rel X.K T s1 σ H1 ρ1 := rel1.drop fun z h => .inl h
        have st1' := st1.drop (T2 := T) (fun z h => .inl h) fun z h => h
        refine ⟨T, s1, ρ1, rel1', ?_⟩
        cases he : evEs c es s1 with
        | bad => rw [he] at run0; exact run0.elim
        | exc e mm s2 =>
          rw [he] at run0
          exact Xc.from run0 st1' p1 fun z h => h
        | ok xs s2 =>
          rw [he] at run0
          have run2 : Run kR X.K T s σ H ρ (doCall c key (.val (.ref n) :: xs) s2) (fun _ v _ H' _ => Q v H') := run0
          intro vs H2 ρ2 rel2 st2 p2 q2 d2
          have cv : ∀ z, Uni T (tOfs (CH.R.val (.ref n) :: xs) (V.ref a' :: vs)) z → Uni T (tOfs xs vs) z := fun z h => h.imp id fun h => h.elim (fun h => False.elim h) id
          have cv2 : ∀ z, Uni T (tOfs xs vs) z → Uni T (tOfs (CH.R.val (.ref n) :: xs) (V.ref a' :: vs)) z := fun z h => h.imp id .inr
          have rel3 : Rel X.K (Uni T (tOfs (CH.R.val (.ref n) :: xs) (V.ref a' :: vs))) s2 σ H2 ρ2 := rel2.drop cv
          have st3 := (st1'.trans st2).drop (T2 := Uni T (tOfs (CH.R.val (.ref n) :: xs) (V.ref a' :: vs))) cv fun z h => .inl h
          refine doCall_ok run2 rel3 st3 (p1.trans p2) (.cons (.ref (p2 _ _ hρ)) (RpRs.less rel2.mt (fun b h => h.imp id (cv b)) q2) fun _ h => False.elim h) fun b h => h.elim (fun h => False.elim h) (d2 b)
      · cases ci
    cases ps with
    | nil =>
      cases es with
      | nil =>
        refine PEi (pe_methW0 ha hcl hmeth F (hr.mono (Nat.le_succ _)) hb (fun σ => passAt C.tk σ) (base_of hs) hl) fun σ H Q h => ?_
        have h := core σ H Q h
        obtain ⟨T, s, ρ, rel, run⟩ := h
        refine ⟨T, s, ρ, rel, run.mono fun x vx s1 H1 ρ1 rel1 st1 p1 q1 d1 ⟨a', dx, fs, e1, e2, e3, T2, s2, ρ2, rel2, run2⟩ => ⟨a', dx, fs, e1, e2, e3, ?_⟩⟩
        exact run2.leaf (k := kRs) (b := []) rel2 (fun _ z => z) kRs_anti .nil
      | cons => unfold ckEs at hps; cases hps
    | cons e ps =>
      cases es with
      | nil => unfold ckEs at hps; cases hps
      | cons e0 es =>
        have hps' := hps
        unfold ckEs at hps
        rw [Bool.and_eq_true, Bool.and_eq_true] at hps
        obtain ⟨⟨g1, g2⟩, g3⟩ := hps
        refine PEi (pe_methW ha hcl hmeth F (hr.mono (Nat.le_succ _)) hb (fun σ => passAt C.tk σ) hA (base_of hs) ?_ hl (star_of g2) (any_of g3)) core
        have an : (backTo pos (starEach (e :: ps) X.env)).any (·.1) = false := any_of hps'
        unfold methodCallForm
        have al : (backTo pos (starEach (e :: ps) X.env)).all (fun x => !x.1) = true := by
          rw [List.all_eq_true]
          intro y hy
          have := List.any_eq_false.mp an y hy
          simpa using this
        rw [al]
        show (true && true && decide ((e :: ps).length + 0 + 0 < 30)) = true
        have := hlen
        simp only [Bool.true_and, decide_eq_true_eq]
        omega
  · refine PEf fun σ H Q ⟨T, s, ρ, rel, run⟩ => hc ?_
    rw [hev] at run
    exact (Run.req run).1
/-! new instances -/
theorem rpRs_stay {K : PySem.W.Frag} {H H' : Hp} {W W' : Addr → Prop} {ρ ρ' : List Addr} (y : Stay H W ρ H' W' ρ') : ∀ {xs : List CH.R} {vs : List V}, (∀ a u, H a = some u → tOfs xs vs a → H' a = some u) → RpRs K H W ρ σ xs vs → RpRs K H' W' ρ' σ xs vs
  | _, _, _, .nil => .nil
  | x :: xs, v :: vs, k, .cons q r d => by
    refine .cons ?_ (rpRs_stay y (fun a u e t => k a u e (.inr t)) r) d
    cases x with
    | val i => exact Rp.stay y q
    | tmp o =>
      obtain ⟨a, ea, p⟩ := q
      exact ⟨a, ea, p.stay y fun u e => k a u e (.inl ea)⟩
    | var j => exact q
theorem ok_mk (C : Cok X c) {key cl : String} {es : List E} {x : Str} {xp pos : Pos} {ps : List PySem.Expr} (hx : x = Str.ofString cl) (hg : glC X.env.scope x = true) (hn : nameOk x = true) (hps : ckEs X.env.scope X.N es ps = true) (hA : PA X ps (tEs X.K c es)) :
    PE X (.Call (.Name x xp) ps [] pos) (tE X.K c (.mk key cl es)) := by
  subst hx
  have hev : ∀ s, evE c (.mk key cl es) s = Res.req (c.kn key && decide (c.gl.kd key = some (cl, "__init__"))) ((evEs c es s).bind fun xs s1 => (doCall c key (.val (.ref s1.hp.length) :: xs) { s1 with hp := s1.hp ++ [.ins cl []] }).noX.bind fun y s2 => match y with
    | .val .non => .ok (.val (.ref s1.hp.length)) s2
    | _ => .bad) := fun s => rfl
  by_cases hc : (c.kn key && decide (c.gl.kd key = some (cl, "__init__"))) = true
  · rw [Bool.and_eq_true] at hc
    obtain ⟨k, ad, fd, ps', F, hr, _, _, hb, hme⟩ := C.cl key hc.1
    obtain ⟨_, _, hmk⟩ := hme cl "__init__" (of_decide_eq_true hc.2)
    obtain ⟨hM, hmg⟩ := hmk rfl
    have core : ∀ σ H Q, tE X.K c (.mk key cl es) σ H Q → tMake (He.ga X.K (Str.ofString cl)) (spOf X.K c.cl key) [] E0 (tEs X.K c es) σ H Q := by
      intro σ H Q ⟨T, s, ρ, rel, run⟩
      rw [hev] at run
      obtain ⟨_, run⟩ := Run.req run
      refine ⟨T, s, ρ, rel, (Run.bind0 (k' := kRs) run).mono fun xs vs s1 H1 ρ1 rel1 st1 p1 q1 d1 run1 => ?_⟩
      intro x dx hx hdx ne
      rw [List.append_nil]
      -- the dict, the instance
      obtain ⟨ra, sta⟩ := rel1.laid (o := .own x) hdx
      have hx2 : (upd H1 dx (.own x)) x = Option.none := by rw [upd_ne (Ne.symm ne)]; exact hx
      obtain ⟨rb, stb⟩ := ra.hold (o := .ins (He.ga X.K (Str.ofString cl)) dx []) hx2 (.inl trivial)
      have nT : ¬ Uni T (kRs.tm xs vs) x := fun z => by
        obtain ⟨⟨u, hu, _⟩, _⟩ := rel1.tm x z
        rw [hx] at hu
        cases hu
      obtain ⟨rc, owc, pre⟩ := rb.box (o := .ins cl []) (a := x) (fun b e => by cases e; rfl) rfl ⟨_, upd_same, .ins .nil⟩ nT
      generalize hH3 : upd (upd H1 dx (.own x)) x (.ins (He.ga X.K (Str.ofString cl)) dx []) = H3 at *
      have st2 := (st1.trans sta).trans stb
      have cv : ∀ z, Uni T (tOfs (CH.R.val (.ref s1.hp.length) :: xs) (V.ref x :: vs)) z → Uni T (tOfs xs vs) z := fun z h => h.imp id fun h => h.elim (fun h => False.elim h) id
      have rd : Rel X.K (Uni T (tOfs (CH.R.val (.ref s1.hp.length) :: xs) (V.ref x :: vs))) { s1 with hp := s1.hp ++ [.ins cl []] } σ H3 (ρ1 ++ [x]) := rc.drop cv
      have hat : (ρ1 ++ [x])[s1.hp.length]? = some x := by
        rw [rel1.hl, List.getElem?_append_right (Nat.le_refl _), Nat.sub_self]
        rfl
      have std : Stp H (Own s σ ρ) T H3 (Own { s1 with hp := s1.hp ++ [.ins cl []] } σ (ρ1 ++ [x])) (Uni T (tOfs (CH.R.val (.ref s1.hp.length) :: xs) (V.ref x :: vs))) := by
        refine ⟨st2.keep, fun b g => ?_, fun b t w => ?_, fun b t => .inl t, st2.fz⟩
        · rcases g with g | g
          · rcases owc b g with g | g
            · exact st2.new b (.inl g)
            · subst g; exact st2.new b (.inr (.inr rfl))
          · exact st2.new b (.inr (.inl (cv b g)))
        · exact (rd.tm b (.inl t)).2 w
      have q1' : RpRs X.K H3 (Uni (Own { s1 with hp := s1.hp ++ [.ins cl []] } σ (ρ1 ++ [x])) (Uni T (tOfs (CH.R.val (.ref s1.hp.length) :: xs) (V.ref x :: vs)))) (ρ1 ++ [x]) σ xs vs := by
        have sy : Stay H1 (Uni (Own s1 σ ρ1) (Uni T (tOfs xs vs))) ρ1 H3 (Uni (Own { s1 with hp := s1.hp ++ [.ins cl []] } σ (ρ1 ++ [x])) (Uni T (tOfs (CH.R.val (.ref s1.hp.length) :: xs) (V.ref x :: vs)))) (ρ1 ++ [x]) := by
          have st3 := sta.trans stb
          refine ⟨fun b u e n => st3.keep b u e fun w => n (.inl w), fun b g => ?_, rel1.mt, pre⟩
          rcases g with g | g
          · rcases owc b g with g | g
            · exact .inl (.inl g)
            · subst g; exact .inr hx
          · exact .inl (.inr (cv b g))
        exact rpRs_stay sy (fun a u e ta => (sta.trans stb).keep a u e (rel1.tm a (.inr ta)).2) q1
      have fin : @Run _ _ WN kR X.K T s σ H ρ (doCall c key (.val (.ref s1.hp.length) :: xs) { s1 with hp := s1.hp ++ [.ins cl []] }) (fun _ v _ H' ρ' => Pre (ρ1 ++ [x]) ρ' → v = .non ∧ Q (.ref x) H') := by
        revert run1
        generalize doCall c key (.val (.ref s1.hp.length) :: xs) { s1 with hp := s1.hp ++ [.ins cl []] } = z
        intro run1
        cases z with
        | bad => exact run1.elim
        | exc => exact run1.elim
        | ok y s2 =>
          cases y with
          | tmp => exact run1.elim
          | var => exact run1.elim
          | val y =>
            cases y with
            | non =>
              intro v H' ρ' r' st' p' q' d' pp
              cases q'
              have run2 : Run kR X.K T s σ H ρ (.ok (.val (.ref s1.hp.length)) s2) (fun _ v _ H' _ => Q v H') := run1
              exact ⟨rfl, run2 (.ref x) H' ρ' r' st' p' (.ref (pp _ _ hat)) fun c z => False.elim z⟩
            | _ => exact run1.elim
      exact @doCall_okP WN _ _ _ _ _ _ _ _ _ _ _ _ _ _ fin rd std (p1.trans pre) (.cons (.ref hat) q1' fun _ h => False.elim h) fun b h => h.elim (fun h => False.elim h) (d1 b)
    cases ps with
    | nil =>
      cases es with
      | nil =>
        refine PEi (pe_make0 hM F hr (glC_ok rfl hg) hmg hb .nil passF (nameOk_ok hn).d) fun σ H Q h => ?_
        obtain ⟨T, s, ρ, rel, run⟩ := core σ H Q h
        exact run.leaf (k := kRs) (b := []) rel (fun _ z => z) kRs_anti .nil
      | cons => unfold ckEs at hps; cases hps
    | cons e ps =>
      cases es with
      | nil => unfold ckEs at hps; cases hps
      | cons e0 es =>
        unfold ckEs at hps
        rw [Bool.and_eq_true, Bool.and_eq_true] at hps
        obtain ⟨⟨g1, g2⟩, g3⟩ := hps
        exact PEi (pe_make hM F hr (glC_ok rfl hg) hmg hb .nil passF hA (nameOk_ok hn).d (star_of g2) (any_of g3)) core
  · refine PEf fun σ H Q ⟨T, s, ρ, rel, run⟩ => hc ?_
    rw [hev] at run
    exact (Run.req run).1
end
end CH
namespace CH
open PySem PySem.Spec PyProof.Rows L2
/-! ### dicts that are gone over: locked meanwhile -/
section
variable {K : PySem.W.Frag} {T T1 : Addr → Prop} {s s1 : S} {σ σ1 : Sg} {H H1 : Hp} {ρ ρ1 : List Addr} {k : Nat} {l m : List (CH.I × CH.I)} {d : Addr} {vs : List (Key × V)} {od : Obj}
theorem lock_in (r : Rel K T s σ H ρ) (e : lkS k s = some l) : ∃ d vs, s.g k = some (.ob (.dct false l)) ∧ σ[k]? = some (some (V.ref d)) ∧ H d = some (.dK vs) ∧ RpK K H (Uni (Own s σ ρ) T) ρ l vs ∧
    ∀ od, Rel K T (s.st k (.ob (.lk l))) σ (upd H d (.frz od (.dK vs))) ρ ∧ Stp H (Own s σ ρ) T (upd H d (.frz od (.dK vs))) (Own (s.st k (.ob (.lk l))) σ ρ) T := by
  unfold lkS at e
  split at e
  · rename_i hk
    cases e
    obtain ⟨d, ed, ⟨u, hu, hr⟩, _⟩ := r.ob _ _ hk
    cases hr with
    | dK hr => exact ⟨d, _, hk, ed, hu, hr, fun od => r.putS hk ed (.lk hr) (fun _ e => nomatch e)⟩
  · cases e
theorem lock_out (r : Rel K T1 s1 σ1 H1 ρ1) (e : ulS k s1 = some m) (ed : σ1[k]? = some (some (V.ref d))) (hd : H1 d = some (.frz od (.dK vs))) :
    Rel K T1 (s1.st k (.ob (.dct false m))) σ1 (upd H1 d (.dK vs)) ρ1 ∧ Stay H1 (Uni (Own s1 σ1 ρ1) T1) ρ1 (upd H1 d (.dK vs)) (Uni (Own (s1.st k (.ob (.dct false m))) σ1 ρ1) T1) ρ1 ∧ Own s1 σ1 ρ1 d ∧ ∀ b, Own (s1.st k (.ob (.dct false m))) σ1 ρ1 b → Own s1 σ1 ρ1 b := by
  unfold ulS at e
  split at e
  · rename_i hk
    cases e
    obtain ⟨d', ed', ⟨u, hu, hr⟩, _⟩ := r.ob _ _ hk
    rw [ed] at ed'; cases ed'
    rw [hd] at hu; cases hu
    cases hr with
    | lk hr =>
      obtain ⟨r1, _, sy⟩ := r.putR hk ed (.dK hr)
      exact ⟨r1, sy, .inl ⟨k, _, hk, ed⟩, fun b h => Own.st_ob h hk⟩
  · cases e
theorem lock_stp (hd : H d = some (.dK vs)) (od' : Own s σ ρ d) {Hl : Hp} {sl : S} (a : Stp H (Own s σ ρ) T Hl (Own sl σ ρ) T) (b : Stp Hl (Own sl σ ρ) T H1 (Own s1 σ1 ρ1) T1) {s2 : S} (ow : ∀ b, Own s2 σ1 ρ1 b → Own s1 σ1 ρ1 b) (u : HO) :
    Stp H (Own s σ ρ) T (upd H1 d u) (Own s2 σ1 ρ1) T1 := by
  have t := a.trans b
  refine ⟨fun b u e n => ?_, fun b q => t.new b (q.imp (ow b) id), fun b z w => t.dis b z (ow b w), t.sub, fun b ob u e => ?_⟩
  · rw [upd_ne (fun z => n (by rw [z]; exact od'))]
    exact t.keep b u e n
  · rw [upd_ne (fun z => by rw [z, hd] at e; cases e)]
    exact t.fz b ob u e
end
section
variable [Wsh]
variable {X : Cx} {c : Ctx} {T : Addr → Prop} {s : S} {σ : Sg} {H : Hp} {ρ : List Addr}
theorem ok_lockE {k : Nat} {e : E} {p : PySem.Expr} (ha : PE X p (tE X.K c e)) : PE X p (tE X.K c (.lockE k e)) := by
  refine PEi (pe_lock ha) ?_
  intro σ H Q ⟨T, s, ρ, rel, run⟩
  have hx : evE c (.lockE k e) s = match lkS k s with
    | some l => (evE c e (s.st k (.ob (.lk l)))).bind fun x s1 => match x, ulS k s1 with
      | .var _, _ => .bad
      | x, some m => .ok x (s1.st k (.ob (.dct false m)))
      | _, none => .bad
    | none => .bad := rfl
  rw [hx] at run
  split at run
  · rename_i l hl
    obtain ⟨d, vs, hk, ed, hd, hr, lk⟩ := lock_in rel hl
    refine ⟨d, _, hd, trivial, fun od => ?_⟩
    obtain ⟨rl, sl⟩ := lk od
    refine ⟨T, _, ρ, rl, ?_⟩
    cases he : evE c e (s.st k (.ob (.lk l))) with
    | bad => rw [he] at run; exact run.elim
    | exc a b s1 =>
      rw [he] at run
      exact Xc.from run sl (Pre.refl _) fun _ z => z
    | ok x s1 =>
      rw [he] at run
      intro v H1 ρ1 r1 st1 p1 q1 d1
      have hf : H1 d = some (.frz od (.dK vs)) := st1.fz d od _ upd_same
      refine ⟨hf, ?_⟩
      have fin : ∀ m, ulS k s1 = some m → Run kR X.K T s σ H ρ (.ok x (s1.st k (.ob (.dct false m)))) (fun _ v _ H' _ => Q v H') → Q v (upd H1 d (.dK vs)) := by
        intro m hm run
        obtain ⟨r2, sy, od2, ow⟩ := lock_out r1 hm ed hf
        refine run v _ ρ1 r2 (lock_stp hd (.inl ⟨k, _, hk, ed⟩) sl st1 ow _) p1 ?_ d1
        cases x with
        | val i => exact Rp.stay sy q1
        | tmp o =>
          obtain ⟨a, ea, pa⟩ := q1
          refine ⟨a, ea, pa.stay sy fun u e => ?_⟩
          have : a ≠ d := fun z => (r1.tm a (.inr ea)).2 (z ▸ od2)
          rw [upd_ne this]
          exact e
        | var j => exact q1
      cases x with
      | var j => exact (show False from run).elim
      | val i =>
        cases hm : ulS k s1 with
        | none =>
          simp only [Res.bind, hm] at run
          exact run.elim
        | some m =>
          simp only [Res.bind, hm] at run
          exact fin m hm run
      | tmp o =>
        cases hm : ulS k s1 with
        | none =>
          simp only [Res.bind, hm] at run
          exact run.elim
        | some m =>
          simp only [Res.bind, hm] at run
          exact fin m hm run
  · exact run.elim
theorem keys_of {K : PySem.W.Frag} {W : Addr → Prop} : ∀ {l : List (CH.I × CH.I)} {vs : List (Key × V)}, RpK K H W ρ l vs → keysOf (l.map (·.1)) = some (vs.map (·.1))
  | _, _, .nil => rfl
  | _, _, .cons h _ r => by
    rw [List.map_cons, List.map_cons, keysOf, h, keys_of r]
theorem ok_keys {tg p : PySem.Expr} {e : E} (ha : PE X p (tE X.K c e)) : PI X tg p (tI X.K c (.keys e)) := by
  refine PIi (pi_keys ha) ?_
  intro σ H R ⟨T, s, ρ, rel, run⟩
  have hx : evIt c (.keys e) s = (evE c e s).bind fun x s1 => match keysop x s1 with
    | some l => .ok (srcK l x, l) s1
    | none => .bad := rfl
  rw [hx] at run
  refine ⟨T, s, ρ, rel, (Run.bind0 (k' := kR) run).mono fun u vu s1 H1 ρ1 rel1 st1 p1 q1 d1 run1 => ?_⟩
  split at run1
  · rename_i l hl
    unfold keysop at hl
    split at hl
    · split at hl
      · rename_i k m hk
        cases hl
        obtain ⟨d, ed, ⟨u, hu, hr⟩, _⟩ := rel1.ob _ _ hk
        have q' : σ[_]? = some (some vu) := q1
        rw [ed] at q'; cases q'
        cases hr with
        | @lk _ vs ob hr =>
          exact ⟨d, ob, rfl, .inl ⟨_, hu, run1.give (k := kS _) (b := Itk d ob vs) rel1 st1 p1 (fun _ z => z) (.keys ed hu (keys_of hr)) kS_anti⟩⟩
      · cases hl
    · cases hl
  · exact run1.elim
end
end CH
/-! exceptions of the program's own classes, in the model: what the written part must say, made, asked -/
namespace CH
open PySem PySem.Spec PyProof.Rows L2
theorem XeC.xf {K : PySem.W.Frag} {C : Addr} (h : XeC K C) : XfC K C := ⟨h.E.hg, h.E.hk, h.E.hs, h.E.hd⟩
def xeCls (K : PySem.W.Frag) (C : Addr) : Bool := match K.lookup C with
  | some ⟨.type t, _, .cls cd, sl⟩ => decide (t = "type") && (match cd.mro with | .ref D :: bm => decide (D = C) && PySem.HandSPX.refsVE bm | _ => false) && cd.hasDict && !cd.hasDel && (match sl.toList with | [_, _, _, _, some (.builtin n), _] => decide (n = "ValueError.__new__") | _ => false)
  | _ => false
def xeB (K : PySem.W.Frag) (C : Addr) : Bool := xeCls K C && (decide (PySem.W.findIn K (.ref C) "__setattr__" = some (some (.builtin "object.__setattr__"))) && (decide (PySem.W.subIn K (.ref C) (.type "BaseException") = some true) &&
  (decide (PySem.W.typeIn K (.ref C) = some (.type "type")) && (PySem.W.keepIn K (.ref C) && (xfB K C && (decide (PySem.W.findIn K (.ref C) "__class__" = some (some (.builtin "object.__class__"))) &&
  (decide (PySem.W.specialIn K (.builtin "object.__class__") "__get__" = some (some (.builtin "getset_descriptor.__get__"))) && (decide (PySem.W.takesIn K (.builtin "object.__class__") = some true) && decide (PySem.W.mroIn K C (.type "object") = some true)))))))))
theorem xeCls_ok {K : PySem.W.Frag} {C : Addr} (h : xeCls K C = true) :
    ∃ nm q N bs bm sn sub ab col dd k0 k1 k2 k3 k5, K.lookup C = some (excClassObj nm q C N bs bm true sn sub ab col dd k0 k1 k2 k3 k5 "ValueError.__new__") ∧ PySem.HandSPX.refsVE bm = true := by
  unfold xeCls at h
  split at h
  · rename_i t dd cd sl ho
    obtain ⟨h, h5⟩ := Bool.and_eq_true_iff.mp h
    obtain ⟨h, h4⟩ := Bool.and_eq_true_iff.mp h
    obtain ⟨h, h3⟩ := Bool.and_eq_true_iff.mp h
    obtain ⟨h1, h2⟩ := Bool.and_eq_true_iff.mp h
    have h1 := of_decide_eq_true h1
    split at h2
    · rename_i D bm hm
      obtain ⟨h2, h6⟩ := Bool.and_eq_true_iff.mp h2
      have h2 := of_decide_eq_true h2
      split at h5
      · rename_i k0 k1 k2 k3 n k5 hs
        have h5 := of_decide_eq_true h5
        obtain ⟨nm, bs, mro, ns, qn, hd, sn, sub, ab, col, del⟩ := cd
        dsimp only at hm h3 h4
        have h4 := (Bool.not_eq_true' _).mp h4
        subst hm h3 h4 h1 h2 h5
        have hsl : sl = #[k0, k1, k2, k3, some (.builtin "ValueError.__new__"), k5] := by
          obtain ⟨l⟩ := sl
          simp only at hs
          rw [hs]
        subst hsl
        exact ⟨nm, qn, ns, bs, bm, sn, sub, ab, col, dd, k0, k1, k2, k3, k5, ho, h6⟩
      · cases h5
    · cases h2
  · cases h
theorem xeB_ok {K : PySem.W.Frag} {C : Addr} (h : xeB K C = true) : XeC K C := by
  obtain ⟨h1, h⟩ := Bool.and_eq_true_iff.mp h
  obtain ⟨h2, h⟩ := Bool.and_eq_true_iff.mp h
  obtain ⟨h3, h⟩ := Bool.and_eq_true_iff.mp h
  obtain ⟨h4, h⟩ := Bool.and_eq_true_iff.mp h
  obtain ⟨h5, h⟩ := Bool.and_eq_true_iff.mp h
  obtain ⟨h6, h⟩ := Bool.and_eq_true_iff.mp h
  obtain ⟨h7, h⟩ := Bool.and_eq_true_iff.mp h
  obtain ⟨h8, h⟩ := Bool.and_eq_true_iff.mp h
  obtain ⟨h9, h10⟩ := Bool.and_eq_true_iff.mp h
  have x := xfB_ok h6
  exact ⟨⟨xeCls_ok h1, of_decide_eq_true h2, of_decide_eq_true h3, of_decide_eq_true h4, h5⟩, ⟨x.ga, x.gg, x.exC, x.hdC, of_decide_eq_true h7, of_decide_eq_true h8, of_decide_eq_true h9, of_decide_eq_true h10⟩⟩
/-! Base.__init__(self, ..) -/
structure BaseI (K : PySem.W.Frag) (B : Addr) : Prop where
  ga : PySem.W.specialIn K (.ref B) "__getattribute__" = some (some (.builtin "type.__getattribute__"))
  rd : PySem.W.readsIn K B (.type "type") = true
  at_ : PySem.W.findCls K (.ref B) (.type "type") "__init__" = some (.val (.builtin "ValueError.__init__"))
def isVI (r : Option PySem.W.CFound) : Bool := match r with
  | some (.val (.builtin n)) => decide (n = "ValueError.__init__")
  | _ => false
theorem isVI_ok {r : Option PySem.W.CFound} (h : isVI r = true) : r = some (.val (.builtin "ValueError.__init__")) := by
  unfold isVI at h
  split at h
  · rw [of_decide_eq_true h]
  · cases h
def baseB (K : PySem.W.Frag) (B : Addr) : Bool := decide (PySem.W.specialIn K (.ref B) "__getattribute__" = some (some (.builtin "type.__getattribute__"))) && (PySem.W.readsIn K B (.type "type") && isVI (PySem.W.findCls K (.ref B) (.type "type") "__init__"))
theorem baseB_ok {K : PySem.W.Frag} {B : Addr} (h : baseB K B = true) : BaseI K B := by
  obtain ⟨h1, h⟩ := Bool.and_eq_true_iff.mp h
  obtain ⟨h2, h3⟩ := Bool.and_eq_true_iff.mp h
  exact ⟨of_decide_eq_true h1, h2, isVI_ok h3⟩
section
variable {X : Cx} {e : PySem.Expr} {es : List PySem.Expr} {ta : TA} {x : Str} {p1 p2 pos : Pos} {B : Addr}
theorem pe_baseI (hg : Gl X x) (hm : X.mg x = some (.ref B)) (hdb : (x == ("__debug__" : Str)) = false) (b : BaseI X.K B) (ha : PA X (e :: es) ta)
    (hfew : methodCallForm ((e :: es).length + ([] : List Keyword).length) (backTo pos (starEach (e :: es) X.env)) (backToKw pos (keywordEach [] X.env)) = true) (hline : (p2.endLine == pos.line) = true)
    (he : starEach (e :: es) X.env = (false, eval e X.env) :: starEach es X.env) (hpl : (backTo pos (starEach es X.env)).any (·.1) = false) :
    PE X (.Call (.Attribute (.Name x p1) "__init__" p2) (e :: es) [] pos) (tVeI X.K ta) := by
  refine ⟨fun pins s σ H Q I h => ?_⟩
  refine PySem.W.methodCall_KW (ld_glob I hg hm ?_ hdb) (@meth_eq WN _ _ _ _ _ _ (by rfl) hfew hline)
  refine PySem.W.method_cls I.kIn b.ga (PySem.W.cls_value I.kIn b.rd b.at_ (by decide +kernel) ?_)
  refine PyProof.Rows.callWith_method1 (thn (ha.run pos pins _ σ H _ (I.tok _) h) fun us s1 ⟨vs, H1, I1, r1, a, C, ws, ev, hl, T, ea, q⟩ => ?_) he hpl
  subst ev
  cases r1 with
  | @cons _ u0 _ ur ra rw' =>
    obtain rfl : u0 = Value.ref a := ra
    have hlen : ur.length ≤ sizeLine := by
      rw [← Paired.length rw', sizeLine_eq]
      omega
    exact oinit_ok T I1 ea hlen fun s' J => ⟨.non, H1, J, rfl, q⟩
end
end CH
set_option maxHeartbeats 2000000
/-! exceptions of the program's own classes, in the model: made, let go, asked -/
namespace CH
open PySem PySem.Spec PyProof.Rows L2
section
variable {X : Cx} {C : Addr} {pins : List (Addr × Obj)} {σ : L2.St} {H1 : Hp} {s : Shared}
theorem call_x {fI : Addr} {k : Nat} {fd : FuncData} {ps : List Str} {sp : Sp} {us : List Value} {vs : List V} {Qv : Addr → Hp → Prop} {R : Value → Shared → Prop} (T : OexC X.K C) (iC : PySem.W.findIn X.K (.ref C) "__init__" = some (some (.ref fI))) (tI : PySem.W.typeIn X.K (.ref fI) = some (.type "function"))
    (F1 : FnOk X.prog X.w X.K X.mg X.base (L2.CX X.prog X.w) k fI fd ps sp) (hr : Room (k + 1) X.A) (hb : Binds X.K fd ps []) (I1 : Inv X pins σ H1 s) (r1 : Vals vs us) (hz : vs.length ≤ 1000)
    (hq : ∀ a, H1 a = none → sp (.ref a :: vs) (upd H1 a (exo a C none)) (fun v H2 => v = .non ∧ Qv a H2) (fun _ _ _ => False))
    (fin : ∀ (a : Addr) (H2 : Hp) (s2 : Shared) (hp2 : Heap), Inv X pins σ H2 s2 → H1 a = none → s.heap.objs.size ≤ a → (∀ b o, s.heap.get? b = some o → hp2.get? b = some o) → Un (frs X.stack) [] (upd H1 a (exo a C none)) H2 hp2 s2.heap →
      HOk X.prog X.w H2 s2.heap → s2.os = s.os → AllBare s2.gens → Qv a H2 → R (.ref a) s2) :
    wpAny (model X.prog X.w) X.A (call (.ref C) us) R X.xe s := by
  obtain ⟨nm, q, N, bs, bm, sn, sub, ab, col, dd, k0, k1, k2, k3, k5, hC, hbm⟩ := T.cls
  obtain ⟨hp, g, dr, tk, os⟩ := s
  have hsz : hp.objs.size ≤ hp.objs.size + 1 := Nat.le_succ _
  have hn : H1 (hp.objs.size + 1) = none := I1.hok.fresh hsz
  have hq := hq (hp.objs.size + 1) hn
  have kk : ∀ b o, hp.get? b = some o → ((hp.push (PySem.W.kdv_tup us)).push (PySem.HandSPX.excO C hp.objs.size)).get? b = some o := fun b o e => Heap.get?_push_of_some _ (Heap.get?_push_of_some _ e)
  have hget : ((hp.push (PySem.W.kdv_tup us)).push (PySem.HandSPX.excO C hp.objs.size)).get? (hp.objs.size + 1) = some (PySem.HandSPX.excO C hp.objs.size) := by heap_get
  have I2 : Inv X pins σ (upd H1 (hp.objs.size + 1) (exo (hp.objs.size + 1) C none)) ⟨(hp.push (PySem.W.kdv_tup us)).push (PySem.HandSPX.excO C hp.objs.size), g, dr, tk, os⟩ :=
    I1.laid (t' := tk) (a := hp.objs.size + 1) (o := exo (hp.objs.size + 1) C none) (h' := (hp.push (PySem.W.kdv_tup us)).push (PySem.HandSPX.excO C hp.objs.size)) kk hsz (exo_ok hget)
  have r2 : Vals (V.ref (hp.objs.size + 1) :: vs) (Value.ref (hp.objs.size + 1) :: us) := .cons rfl r1
  have hl : (Value.ref (hp.objs.size + 1) :: us ++ []).length = ps.length := by
    have e := r2.length
    rw [F1.len _ _ _ _ hq] at e
    rw [List.append_nil]
    exact e.symm
  have b2 := hb _ (Value.ref (hp.objs.size + 1) :: us) I2.kIn hl
  rw [List.append_nil] at b2
  have hus : us.length ≤ sizeLine := by
    rw [← Paired.length r1, sizeLine_eq]
    omega
  refine wpAny_call (PySem.HandSPX.call_own F.excBase_ValueError (fun Y => PySem.HandSPX.refsVE_contains Y bm hbm) (I1.kIn _ _ hC) (PySem.W.looks_findIn I1.kIn iC) (fun self => PySem.W.bind_fn I1.kIn self tI) hus
    (codeAny_mono (F1.run _ X.stack _ _ ⟨Value.ref (hp.objs.size + 1) :: us, []⟩ (Value.ref (hp.objs.size + 1) :: us) _ _ (fun _ _ _ => False) (hr.make C us []) (I2.env0.make C us []) b2 r2 hq) fun r s' hq' => ?_))
  cases r with
  | error er =>
    obtain ⟨_, _, _, _, _, _, _, _, _, _, _, _, z⟩ := hq'
    exact z.elim
  | ok fl =>
    cases fl with
    | ret u =>
      obtain ⟨v, H2, os2, bare2, un2, hok2, rv, ev, qv⟩ := hq'
      subst ev
      refine ⟨rv, fin _ H2 s' _ ?_ hn hsz kk un2 hok2 os2 bare2 qv⟩
      exact I2.call' (ch := []) os2 un2 hok2 bare2 (fun b z => absurd z (by simp))
    | next => exact False.elim hq'
    | brk => exact False.elim hq'
    | cont => exact False.elim hq'
/-! as a value -/
theorem xo_ok {P : Program} {w : World} {H : Hp} {h : Heap} {a C t1 : Addr} {d : Option Addr} (e : h.get? a = some ({ cls := .ref C, dict := d, data := .fields #[.ref t1, .none, .none, .none, .bool false, .none] } : Obj)) : ObjOk P w H h a (xoE (.ref C) d a) :=
  ⟨⟨_, _, e, ⟨rfl, rfl⟩, rfl⟩, ⟨_, e⟩, fun _ _ ⟨o, v, q, r⟩ k => ⟨o, v, k o q, r⟩⟩
theorem tag0 {H2 : Hp} {a : Addr} {s2 : Shared} (I : Inv X pins σ H2 s2) (ea : H2 a = some (exo a C none)) : Inv X pins σ (upd H2 a (xoE (.ref C) none a)) s2 := by
  obtain ⟨t1, e⟩ := exo_at I.hok ea
  exact I.write (t' := s2.toks) (h' := s2.heap) (x := a) (e := a) (o := xoE (.ref C) none a) (by rw [ea]; exact True.intro) (.inl rfl) (fun _ _ _ z => z) ⟨_, e⟩ (xo_ok e)
theorem tag1 {H2 : Hp} {a d : Addr} {s2 : Shared} {fs : List (Str × V)} (I : Inv X pins σ H2 s2) (ea : H2 a = some (exo a C (some d))) (ed : H2 d = some (exd d fs)) (ne : d ≠ a) :
    Inv X pins σ (upd (upd H2 a (xoE (.ref C) (some d) a)) d (.xd fs)) s2 := by
  obtain ⟨t1, e⟩ := exo_at I.hok ea
  obtain ⟨mA, hns, hr⟩ := exd_at I.hok ed
  have J := I.write (t' := s2.toks) (h' := s2.heap) (x := a) (e := a) (o := xoE (.ref C) (some d) a) (by rw [ea]; exact True.intro) (.inl rfl) (fun _ _ _ z => z) ⟨_, e⟩ (xo_ok e)
  have hd : ∃ o, s2.heap.get? d = some o := by
    obtain ⟨o, _, _, e', _⟩ := hns
    exact ⟨o, e'⟩
  exact J.write (t' := s2.toks) (h' := s2.heap) (x := d) (e := d) (o := .xd fs) (by rw [upd_ne ne, ed]; exact True.intro) (.inl rfl) (fun _ _ _ z => z) hd ⟨mA, hns, hr⟩
end
end CH
/-! exceptions of the program's own classes: the rules -/
namespace CH
open PySem PySem.Spec PyProof.Rows L2
/-! ### __init__, walked -/
def nmC (sc : Scope) (N : List Str) (k : Nat) (x : Str) : Bool := decide (N[k]? = some x) && visC sc x && nameOk x
theorem pe_nm {X : Cx} {k : Nat} {x : Str} {p : Pos} (h : nmC X.env.scope X.N k x = true) : PE X (.Name x p) (tVar k) := by
  let wN : Wsh := WN
  unfold nmC at h
  rw [Bool.and_eq_true, Bool.and_eq_true] at h
  have hn := nameOk_ok h.2
  exact pe_var (of_decide_eq_true h.1.1) (visC_ok h.1.2) hn.d hn.c
def initCall (sc : Scope) (N : List Str) (B : Str) : PySem.Stmt → Bool
  | .Expr (.Call (.Attribute (.Name b _) m ap) [.Name s0 _, .Constant (.str _) _ _] [] cp) _ => decide (b = B) && (decide (m = "__init__") && (glC sc B && (nameOk B && ((ap.endLine == cp.line) && nmC sc N 0 s0))))
  | _ => false
theorem ba {a b : Bool} (h : (a && b) = true) : a = true ∧ b = true := Bool.and_eq_true_iff.mp h
theorem ps_init {X : Cx} {N : List Str} {B : Str} {b : Addr} {st : PySem.Stmt} (hN : X.N = N) (h : initCall X.env.scope N B st = true) (hm : X.mg B = some (.ref b)) (hb : BaseI X.K b) :
    ∃ z, PS X st (tDrop (tVeI X.K (tCons (tVar 0) (tCons (tC (.str z)) tNil)))) := by
  let wN : Wsh := WN
  subst hN
  unfold initCall at h
  split at h
  · rename_i b' p1 m ap s0 p3 z j p4 cp p5
    obtain ⟨h1, h⟩ := ba h
    obtain ⟨h2, h⟩ := ba h
    obtain ⟨h3, h⟩ := ba h
    obtain ⟨h4, h⟩ := ba h
    obtain ⟨h5, h6⟩ := ba h
    have h1 := of_decide_eq_true h1
    have h2 := of_decide_eq_true h2
    subst h1 h2
    exact ⟨z, ps_expr (pe_baseI (glC_ok rfl h3) hm (nameOk_ok h4).d hb (pa_cons (pe_nm h6) (pa_cons pe_str pa_nil rfl) rfl) rfl h5 rfl rfl) rfl⟩
  · cases h
def bodyC1 (sc : Scope) (N : List Str) (B f : Str) : List PySem.Stmt → Bool
  | [st, .Assign [.Attribute (.Name s1 _) g _] (.Name y _) _] => initCall sc N B st && (decide (g = f) && (nmC sc N 0 s1 && nmC sc N 1 y))
  | _ => false
def bodyC0 (sc : Scope) (N : List Str) (B : Str) : List PySem.Stmt → Bool
  | [st] => initCall sc N B st
  | _ => false
section
variable {P : Program} {w : World} {K : PySem.W.Frag} {mg : Str → Option Value} {base : Heap} {nm qn : Str} {st : PySem.Stmt} {a : Addr} {fd : FuncData} {N : List Str} {B f : Str} {b : Addr}
theorem init1_ok (F : FunD K nm qn (defArgs st) (defBody st) (defScope st) [] [] a fd) (S : FnScope N N (defScope st)) (hl : N.length = 2) (h : bodyC1 (defScope st) N B f (defBody st) = true) (hm : mg B = some (.ref b)) (hb : BaseI K b) : FnOk P w K mg base (L2.CX P w) 1 a fd N (sp1 K f) := by
  refine F.ok (k := 0) S (fun vs H Q E ⟨_, _, _, e, _⟩ => by rw [e, hl]; rfl) (fun cdv A outer s H vs Q E hr ⟨a0, C, y, ev, ha, T, hno, q⟩ => ?_)
  subst ev
  unfold bodyC1 at h
  split at h
  · rename_i st1 s1 p1 g p2 y' p3 p4 hbd
    obtain ⟨h1, h⟩ := ba h
    obtain ⟨h2, h⟩ := ba h
    obtain ⟨h3, h4⟩ := ba h
    have h2 := of_decide_eq_true h2
    subst h2
    rw [hbd]
    obtain ⟨z, ps⟩ := ps_init (X := cxOf (L2.CX P w) P w K mg base N qn (defScope st) a cdv A outer s H E) rfl h1 hm hb
    refine ⟨_, pss_cons ps (pss_cons (ps_ost (pe_nm h3) (pe_nm h4) rfl) pss_nil), ?_⟩
    have e0 : (start N [.ref a0, y])[0]? = some (some (.ref a0)) := rfl
    have e1 : (start N [.ref a0, y])[1]? = some (some y) := rfl
    refine ⟨_, e0, a0, C, [.str z], rfl, by simp, T, ha, ?_⟩
    exact ⟨_, e1, _, e0, a0, C, rfl, T, hno, .inl ⟨ha, fun dx n ne => q dx n ne⟩⟩
  · cases h
theorem init0_ok (F : FunD K nm qn (defArgs st) (defBody st) (defScope st) [] [] a fd) (S : FnScope N N (defScope st)) (hl : N.length = 1) (h : bodyC0 (defScope st) N B (defBody st) = true) (hm : mg B = some (.ref b)) (hb : BaseI K b) : FnOk P w K mg base (L2.CX P w) 1 a fd N (sp0 K) := by
  refine F.ok (k := 0) S (fun vs H Q E ⟨_, _, e, _⟩ => by rw [e, hl]; rfl) (fun cdv A outer s H vs Q E hr ⟨a0, C, ev, ha, T, q⟩ => ?_)
  subst ev
  unfold bodyC0 at h
  split at h
  · rename_i st1 hbd
    rw [hbd]
    obtain ⟨z, ps⟩ := ps_init (X := cxOf (L2.CX P w) P w K mg base N qn (defScope st) a cdv A outer s H E) rfl h hm hb
    refine ⟨_, pss_cons ps pss_nil, ?_⟩
    exact ⟨_, (rfl : (start N [.ref a0])[0]? = some (some (.ref a0))), a0, C, [.str z], rfl, by simp, T, ha, q⟩
  · cases h
end
/-! ### C(), C(e): as a value, let go -/
theorem upd3 {H : Hp} {a d : Addr} {o1 o2 o3 u v : HO} (ne : d ≠ a) : upd (upd (upd (upd (upd H a o1) d o2) a o3) a u) d v = upd (upd H d v) a u := by
  funext b
  by_cases h1 : b = a
  · subst h1
    rw [upd_ne (Ne.symm ne), upd_same, upd_same]
  · by_cases h2 : b = d
    · subst h2
      rw [upd_same, upd_ne h1, upd_same]
    · rw [upd_ne h2, upd_ne h1, upd_ne h1, upd_ne h2, upd_ne h1, upd_ne h1, upd_ne h2]
theorem upd2 {H : Hp} {a : Addr} {o u : HO} : upd (upd H a o) a u = upd H a u := by
  funext b
  by_cases h1 : b = a
  · subst h1
    rw [upd_same, upd_same]
  · rw [upd_ne h1, upd_ne h1, upd_ne h1]
section
variable {X : Cx} {C : Addr} {f : List Nat} {x : Str} {e : PySem.Expr} {ta : TA} {p pos : Pos}
theorem call_x0 {pins : List (Addr × Obj)} {σ : L2.St} {H1 : Hp} {s : Shared} {R : Value → Shared → Prop} (k : XkOk X C []) (I1 : Inv X pins σ H1 s)
    (fin : ∀ (a : Addr) (H2 : Hp) (s2 : Shared) (hp2 : Heap), Inv X pins σ H2 s2 → H1 a = none → s.heap.objs.size ≤ a → (∀ b o, s.heap.get? b = some o → hp2.get? b = some o) → Un (frs X.stack) [] (upd H1 a (exo a C none)) H2 hp2 s2.heap →
      HOk X.prog X.w H2 s2.heap → s2.os = s.os → AllBare s2.gens → H2 = upd H1 a (exo a C none) → R (.ref a) s2) : wpAny (model X.prog X.w) X.A (call (.ref C) []) R X.xe s := by
  obtain ⟨fI, kk, fd, ps, i1, i2, hr, hb, i | ⟨z, _⟩⟩ := k.init
  · exact call_x k.xe.T i1 i2 i.2 hr hb I1 .nil (by simp) (Qv := fun a H2 => H2 = upd H1 a (exo a C none)) (fun a hn => ⟨a, C, rfl, upd_same, k.xe.T, rfl, rfl⟩) fin
  · exact absurd rfl z
theorem call_x1 {pins : List (Addr × Obj)} {σ : L2.St} {H1 : Hp} {s : Shared} {R : Value → Shared → Prop} {y : V} {u : Value} (k : XkOk X C f) (hf : f ≠ []) (I1 : Inv X pins σ H1 s) (r : RelV y u)
    (fin : ∀ (a : Addr) (H2 : Hp) (s2 : Shared) (hp2 : Heap), Inv X pins σ H2 s2 → H1 a = none → s.heap.objs.size ≤ a → (∀ b o, s.heap.get? b = some o → hp2.get? b = some o) → Un (frs X.stack) [] (upd H1 a (exo a C none)) H2 hp2 s2.heap →
      HOk X.prog X.w H2 s2.heap → s2.os = s.os → AllBare s2.gens → (∃ d, H1 d = none ∧ d ≠ a ∧ H2 = upd (upd (upd H1 a (exo a C none)) d (exd d [(mkS f, y)])) a (exo a C (some d))) → R (.ref a) s2) : wpAny (model X.prog X.w) X.A (call (.ref C) [u]) R X.xe s := by
  obtain ⟨fI, kk, fd, ps, i1, i2, hr, hb, ⟨z, _⟩ | i⟩ := k.init
  · exact absurd z hf
  · refine call_x k.xe.T i1 i2 i.2.2 hr hb I1 (.cons r .nil) (by simp) (Qv := fun a H2 => ∃ d, H1 d = none ∧ d ≠ a ∧ H2 = upd (upd (upd H1 a (exo a C none)) d (exd d [(mkS f, y)])) a (exo a C (some d))) (fun a hn => ⟨a, C, y, rfl, upd_same, k.xe.T, i.2.1, fun dx n ne => ⟨rfl, dx, ?_, ne, rfl⟩⟩) fin
    rw [upd_ne ne] at n
    exact n
theorem pe_mkx0 (k : XkOk X C []) (hg : Gl X x) (hm : X.mg x = some (.ref C)) (hdb : (x == ("__debug__" : Str)) = false) : PE X (.Call (.Name x p) [] [] pos) (fun σ H Q => ∀ a, H a = none → Q (.ref a) (upd H a (xoE (.ref C) none a))) := by
  refine ⟨fun pins s σ H Q I h => ?_⟩
  refine wpAny_Call_Name_kw (ld_glob I hg hm ?_ hdb)
  refine PySem.W.callWith_K0 (first := []) I.kIn k.xe.T.kC ?_
  show wpAny _ _ (call (.ref C) []) _ _ _
  refine call_x0 k I fun a H2 s2 hp2 I2 hn _ _ _ _ _ _ e => ?_
  subst e
  have J := tag0 I2 upd_same
  rw [upd2] at J
  exact ⟨.ref a, _, J, rfl, h a hn⟩
theorem pe_mkx1 (k : XkOk X C f) (hf : f ≠ []) (hg : Gl X x) (hm : X.mg x = some (.ref C)) (hdb : (x == ("__debug__" : Str)) = false) (ha : PA X [e] ta) (he : starEach [e] X.env = (false, eval e X.env) :: starEach [] X.env) :
    PE X (.Call (.Name x p) [e] [] pos) (fun σ H Q => ta σ H fun vs H1 => ∃ y, vs = [y] ∧ ∀ a d, H1 a = none → H1 d = none → d ≠ a → Q (.ref a) (upd (upd H1 d (.xd [(mkS f, y)])) a (xoE (.ref C) (some d) a))) := by
  refine ⟨fun pins s σ H Q I h => ?_⟩
  refine wpAny_Call_Name_kw (ld_glob I hg hm ?_ hdb)
  refine PySem.W.callWith_K (h₀ := X.base) I.ok.mod.kin k.xe.T.kC (thn (ha.run pos pins s σ H _ I h) fun us s1 ⟨vs, H1, I1, r1, y, ev, q1⟩ => ⟨I1.kIn, ?_⟩) he rfl
  subst ev
  cases r1 with
  | @cons _ u0 _ ur ra rw' =>
    cases rw'
    show wpAny _ _ (call (.ref C) [u0]) _ _ _
    refine call_x1 k hf I1 ra fun a H2 s2 hp2 I2 hn _ _ _ _ _ _ ⟨d, hd, ne, e⟩ => ?_
    subst e
    have J := tag1 I2 upd_same (by rw [upd_ne ne, upd_same]) ne
    rw [upd3 ne] at J
    exact ⟨.ref a, _, J, rfl, q1 a d hn hd ne⟩
theorem pmk_x1 (k : XkOk X C f) (hf : f ≠ []) (hg : Gl X x) (hm : X.mg x = some (.ref C)) (hdb : (x == ("__debug__" : Str)) = false) (ha : PA X [e] ta) (he : starEach [e] X.env = (false, eval e X.env) :: starEach [] X.env) :
    PMk X (.Call (.Name x p) [e] [] pos) (fun σ H Q => ta σ H fun vs H1 => ∃ y, vs = [y] ∧ ∀ d, H1 d = none → Q (.ref C) (some d) (upd H1 d (.xd [(mkS f, y)]))) := by
  intro pins s σ H Q I h
  refine wpAny_Call_Name_kw (ld_glob I hg hm ?_ hdb)
  refine PySem.W.callWith_K (h₀ := X.base) I.ok.mod.kin k.xe.T.kC (thn (ha.run pos pins s σ H _ I h) fun us s1 ⟨vs, H1, I1, r1, y, ev, q1⟩ => ⟨I1.kIn, ?_⟩) he rfl
  subst ev
  cases r1 with
  | @cons _ u0 _ ur ra rw' =>
    cases rw'
    show wpAny _ _ (call (.ref C) [u0]) _ _ _
    obtain ⟨hp, g, d0, t, os⟩ := s1
    refine call_x1 k hf I1 ra fun a H2 s2 hp2 I2 hn hsz kk un hok ho hb ⟨d, hd, ne, e⟩ => ?_
    obtain ⟨h2, g2, d2, t2, os2⟩ := s2
    refine mk_end (raises_own k.xe.T.exC k.xe.T.tyC) I1 hsz kk un hok ho hb (a := a) (C := C) (d := d) (fs := [(mkS f, y)]) (by rw [e, upd_same]) (by rw [e, upd_ne ne, upd_same]) hd ?_
    have e2 : upd (del H2 a) d (.xd [(mkS f, y)]) = upd H1 d (.xd [(mkS f, y)]) := by
      subst e
      funext b
      by_cases h2 : b = d
      · subst h2; rw [upd_same, upd_same]
      · rw [upd_ne h2, upd_ne h2]
        by_cases h1 : b = a
        · subst h1; rw [del_same, hn]
        · rw [del_ne h1, upd_ne h1, upd_ne h2, upd_ne h1]
    rw [e2]
    exact q1 d hd
end
end CH
namespace PySem.W
open PySem PySem.Spec PySem.Calls PyProof.Rows
section
variable {prog : Program} {w : World} {A : Around} {E : Value → Shared → Prop} {s : Shared} {K : Frag} {x D : Addr} {ox : Obj} {od : Option Obj}
theorem xfind_class (hdct : hasDictIn K D = true) (ha : findIn K (.ref D) "__class__" = some (some (.builtin "object.__class__")))
    (hn : specialIn K (.builtin "object.__class__") "__get__" = some (some (.builtin "getset_descriptor.__get__"))) (htk : takesIn K (.builtin "object.__class__") = some true) :
    findObj K D od "__class__" = some (.bind (.builtin "getset_descriptor.__get__") (.builtin "object.__class__")) := by
  have hc : (clsIn K D).isSome = true := by obtain ⟨cd, hc, _⟩ := any_some hdct; rw [hc]; rfl
  cases od with
  | none => exact findObj_dataN hc ha hn htk
  | some o => exact findObj_data hc ha hn htk
theorem xkin_class {Q : Option Value → Shared → Prop} (hga : findIn K (.ref D) "__getattribute__" = some (some (.builtin "BaseException.__getattribute__"))) (hgt : findIn K (.ref D) "__getattr__" = some none) (hsub : subIn K (.ref D) (.type "BaseException") = some true)
    (hdct : hasDictIn K D = true) (ha : findIn K (.ref D) "__class__" = some (some (.builtin "object.__class__")))
    (hn : specialIn K (.builtin "object.__class__") "__get__" = some (some (.builtin "getset_descriptor.__get__"))) (htk : takesIn K (.builtin "object.__class__") = some true) (hm : mroIn K D (.type "object") = some true)
    (X : K.In s.heap) (I : InstAt s.heap x ox D od) (h : Q (some (.ref D)) { s with toks := s.toks + 1 }) : wpAny (model prog w) A (getAttr? (.ref x) "__class__") Q E s := by
  have hf : findObj K D od "__class__" = some (.bind (.builtin "getset_descriptor.__get__") (.builtin "object.__class__")) := xfind_class hdct ha hn htk
  obtain ⟨hp, g, d, t, os⟩ := s
  have L0 := I.type (M := model prog w)
  have L1 := looks_findIn (M := model prog w) X hga
  have L2 := looks_findIn (M := model prog w) X hgt
  have L3 := looks_find (M := model prog w) X I hf
  have sub : Looks (model prog w) hp (isInstance (.ref x) (.type "BaseException")) true := L0.andThen (looks_subIn X hsub)
  have hx0 : (false && onTheHeap (Value.builtin "BaseException.__getattribute__")) = false := rfl
  have hx2 : (Value.builtin "BaseException.__getattribute__" == Value.builtin "object.__getattribute__") = false := by decide +kernel
  have hx1 : (onTheHeap (Value.ref D) && Value.builtin "BaseException.__getattribute__" == Value.builtin "object.__getattribute__") = false := by rw [hx2]; rfl
  unfold getAttr? getAttrBy? getAttrBy
  refine wpAny_bind (wpAny_mkText (wpAny_bind (wpAny_attempt (wpAny_holding (wpAny_bind (L0.at (wpAny_bind (L1.at ?_))))))))
  show wpAny _ _ (if (onTheHeap (Value.ref D) && Value.builtin "BaseException.__getattribute__" == Value.builtin "object.__getattribute__") = true then _ else _) _ _ _
  rw [hx1, if_neg Bool.false_ne_true]
  unfold getAttrByItsOwn hookBefore
  refine wpAny_bind ?_
  rw [if_pos (show onTheHeap (Value.ref D) = true from rfl)]
  refine L2.at ?_
  refine wpAny_bind (wpAny_attempt (wpAny_holding ?_))
  unfold callGetattribute
  rw [hx0, if_neg Bool.false_ne_true]
  unfold boundAndCalled
  rw [PySem.F.excAttr_ValueError.ga.bind (.ref x)]
  refine wpAny_bind (wpAny_pure ?_)
  show wpAny _ _ (call (.builtin "BaseException.__getattribute__") [.ref x, .str "__class__" t]) _ _ _
  refine wpAny_call (codeAny_call_builtin PySem.F.excAttr_ValueError.ga.plain PySem.F.entry_bexc_ga ?_)
  refine @check_slot (model prog w) _ _ ⟨hp, g, d, t + 1, os⟩ "BaseException.__getattribute__" "BaseException" "__getattribute__" (.ref x) [.str "__class__" t] [] _ (by decide +kernel) (by decide +kernel) sub (PySem.F.args_bexc_ga (.ref x) (.str "__class__" t)) ?_
  unfold Builtin.«object.__getattribute__»
  refine wpAny_bind (wpAny_of_eq (a := ((Value.ref x : Value), [Value.str "__class__" t])) (by first | rfl | (simp only [slotArgs]; rfl)) ?_)
  refine wpAny_bind (wpAny_pure (wpAny_bind (L0.at (wpAny_bind (L3.at ?_)))))
  show wpAny _ _ (holding [Value.builtin "object.__class__"] (call (.builtin "getset_descriptor.__get__") [.builtin "object.__class__", .ref x, .ref D]) >>= ret) _ _ _
  refine wpAny_bind (wpAny_holding (wpAny_call (class_get (s := ⟨hp, g, d, t + 1, os⟩) (ox := ox) (od := od) X I hm ?_)))
  refine wpAny_pure ?_
  show wpAny _ _ (handedOut (.ref D)) _ _ _
  rw [handedOut_of (v := .ref D) rfl]
  first
    | exact wpAny_pure (wpAny_pure h)
    | exact wpAny_pure h
    | exact wpAny_pure (wpAny_bind (wpAny_pure (wpAny_pure h)))
theorem xkitx (hga : findIn K (.ref D) "__getattribute__" = some (some (.builtin "BaseException.__getattribute__"))) (hgt : findIn K (.ref D) "__getattr__" = some none) (hsub : subIn K (.ref D) (.type "BaseException") = some true) (hdct : hasDictIn K D = true) (ha : findIn K (.ref D) "__class__" = some (some (.builtin "object.__class__")))
    (hn : specialIn K (.builtin "object.__class__") "__get__" = some (some (.builtin "getset_descriptor.__get__"))) (htk : takesIn K (.builtin "object.__class__") = some true) (hm : mroIn K D (.type "object") = some true) :
    KitX K (.ref x) (.ref D) (fun h => ∃ od, InstAt h x ox D od) where
  ty := fun _ _ _ ⟨_, I⟩ => I.type
  it := fun _ _ X _ => by
    obtain ⟨cdD, hcD, _⟩ := any_some hdct
    unfold clsIn at hcD
    split at hcD
    · rename_i c' d' cd' sl' ho
      intro A' Q' E' s' k q
      unfold isType loadHead
      exact wpAny_bind (wpAny_loadPart (k _ _ (X _ _ ho)) (wpAny_pure q))
    · cases hcD
  ne := fun h tp dd its n sl X htp => by
    obtain ⟨cdD, hcD, _⟩ := any_some hdct
    refine Bool.eq_false_iff.mpr fun q => ?_
    have e : D = tp := Value.ref.inj (beq_iff_eq.mp q)
    subst e
    unfold clsIn at hcD
    split at hcD
    · rename_i c' d' cd' sl' ho
      have z := (X _ _ ho).symm.trans htp
      cases z
    · cases hcD
  ca := fun X ⟨_, I⟩ k => xkin_class hga hgt hsub hdct ha hn htk hm X I k
end
end PySem.W
namespace CH
open PySem PySem.Spec PyProof.Rows L2
section
variable {X : Cx} {C a : Addr} {d : Option Addr} {pins : List (Addr × Obj)} {σ : L2.St} {H : Hp} {s : Shared}
/-- d, the exception's dict, if it has one -/
def XDict (H : Hp) (d : Option Addr) : Prop := ∀ dd, d = some dd → ∃ fs, H dd = some (.xd fs)
theorem xo_at (I : Inv X pins σ H s) (ea : H a = some (xoE (.ref C) d a)) (hd : XDict H d) : ∃ oe od, PySem.W.InstAt s.heap a oe C od ∧ ∀ dd, d = some dd → od = s.heap.get? dd := by
  have x : ObjOk X.prog X.w H s.heap a (.ext fun h => ∃ (oe : Obj) (vs : Array Value), h.get? a = some oe ∧ Zc (.ref C) d oe ∧ oe.data = .fields vs) := I.hok a _ ea
  obtain ⟨⟨oe, vs, h1, h2, h3⟩, _⟩ := x
  cases d with
  | none =>
    refine ⟨oe, none, ⟨h1, h2.1, by unfold PySem.W.notCls; rw [h3] <;> rfl, ?_⟩, fun _ e => by cases e⟩
    rw [h2.2]
    trivial
  | some dd =>
    obtain ⟨fs, hf⟩ := hd dd rfl
    have hx : ObjOk X.prog X.w H s.heap dd (.xd fs) := I.hok dd _ hf
    obtain ⟨mA, hns, hr⟩ := hx
    obtain ⟨od, ho, hl⟩ := lookIn_ns hns
    refine ⟨oe, some od, ⟨h1, h2.1, by unfold PySem.W.notCls; rw [h3] <;> rfl, ?_⟩, fun _ e => by cases e; exact ho.symm⟩
    rw [h2.2]
    exact ho
/-- e.f of an exception held -/
def tXfH (K : PySem.W.Frag) (f : Str) (te : TE) : TE := fun σ H Q => te σ H fun x H1 => ∃ (a C dd : Addr) (fs : List (Str × V)) (v : V), x = .ref a ∧ H1 a = some (xoE (.ref C) (some dd) a) ∧ XfC K C ∧ PySem.W.findIn K (.ref C) f = some none ∧ H1 dd = some (.xd fs) ∧ fs.lookup f = some v ∧ Q v H1
theorem pe_xfH {e : PySem.Expr} {te : TE} {f : Str} {pos : Pos} (he : PE X e te) (hb : attributeBase e f X.env (eval e X.env) = eval e X.env) : PE X (.Attribute e f pos) (tXfH X.K f te) := by
  refine ⟨fun pins s σ H Q I h => ?_⟩
  refine attr_of hb (thn (he.run pins s σ H _ I h) fun u s1 ⟨x, H1, I1, rx, a, C, dd, fs, v, ex, ea, T, hno, ed, l, q⟩ => ?_)
  subst ex
  obtain rfl : u = Value.ref a := rx
  obtain ⟨oe, od, J, hod⟩ := xo_at I1 ea fun _ z => by cases z; exact ⟨fs, ed⟩
  have hx : ObjOk X.prog X.w H1 s1.heap dd (.xd fs) := I1.hok dd _ ed
  obtain ⟨mA, hns, hr⟩ := hx
  obtain ⟨od', ho, hl⟩ := lookIn_ns hns
  have e1 : od = some od' := (hod dd rfl).trans ho
  subst e1
  obtain ⟨u, hu, ru⟩ := RelO.some_of (v := v) (o := mA f) (by rw [← l]; exact hr f)
  exact HandSPX.exc_get I1.kIn J T.ga T.gg T.exC (PySem.W.findObj_own T.hdC hno rfl (by rw [hl, hu])) (handed_of ru) ⟨v, H1, I1.tok _, ru, q⟩
/-- isinstance(e, c), e an exception held -/
def rIsX (K : PySem.W.Frag) : List V → Hp → VK → Prop := fun xs H Q => ∃ (a D : Addr) (d : Option Addr) (c : V) (cv : Value) (b : Bool), xs = [.ref a, c] ∧ H a = some (xoE (.ref D) d a) ∧ XDict H d ∧ ExcC K D ∧ (∀ u, RelV c u → u = cv) ∧ PySem.W.kitOne K (.ref D) cv = some b ∧ Q (.bl b) H
theorem call_isX : CallR X (.builtin "isinstance") (rIsX X.K) := by
  intro pins s σ H xs us Q I r h
  obtain ⟨a, D, d, c, cv, b, rfl, ea, hd, C, hcv, e, q⟩ := h
  cases r with
  | cons rx rr =>
    cases rr with
    | cons rt rr =>
      cases rr
      cases rx
      have ec := hcv _ rt
      subst ec
      obtain ⟨oe, od, J, _⟩ := xo_at I ea hd
      exact PySem.W.kia_one (PySem.W.xkitx C.hg C.hk C.hs C.hd C.ha C.hn C.ht C.hm) I.kIn ⟨od, J⟩ e (fun z => nomatch z) fun tk => ⟨.bl b, H, I.kept (t' := tk) fun _ _ z => z, rfl, q⟩
end
/-! raise C() -/
section
variable {X : Cx} {C : Addr} {x : Str} {p pos : Pos}
theorem mk_endN {pins : List (Addr × Obj)} {σ : L2.St} {H1 : Hp} {Q : XK} {hp hp2 h2 : Heap} {g1 g2 : Array GenState} {d1 d2 : Drawn} {t1 t2 : Nat} {os1 os2 : OsState} {a C : Addr} (T : Raises X (.ref C)) (I1 : Inv X pins σ H1 ⟨hp, g1, d1, t1, os1⟩)
    (ha : hp.objs.size ≤ a) (k : ∀ b o, hp.get? b = some o → hp2.get? b = some o) (un : Un (frs X.stack) [] (upd H1 a (exo a C none)) (upd H1 a (exo a C none)) hp2 h2) (hok : HOk X.prog X.w (upd H1 a (exo a C none)) h2) (ho : os2 = os1) (hb : AllBare g2)
    (q : Q (.ref C) none H1) : MkP X pins σ Q (.ref a) ⟨h2, g2, d2, t2, os2⟩ := by
  obtain ⟨t0, hoe⟩ := exo_at hok upd_same
  have hn : H1 a = none := I1.hok.fresh ha
  obtain ⟨G, g1', g2'⟩ := restrict h2 fun b => decide (b ≠ a)
  have gk : ∀ b, b ≠ a → G.get? b = h2.get? b := fun b hb => g1' b (decide_eq_true hb)
  have ge : G.get? a = none := g2' a (by simp)
  have nha : ∀ {b : Addr} {o : Obj}, hp.get? b = some o → b ≠ a := fun {b o} z => Nat.ne_of_lt (Nat.lt_of_lt_of_le (Heap.lt_size z) ha)
  have up : ∀ {b : Addr}, b ≠ a → H1 b = none → upd H1 a (exo a C none) b = none := fun {b} hb n => by rw [upd_ne hb]; exact n
  have U : Un (frs X.stack) [] H1 H1 hp G := {
    keep := fun b o z n hf hx => by
      rw [gk b (nha z)]
      exact un.keep b o (k b o z) (up (nha z) n) hf hx
    slot := fun b o z n hf hx => by
      rw [gk b (nha z)]
      exact un.slot b o (k b o z) (up (nha z) n) hf hx
    free := fun b o z n hx => n
    there := fun b o z hx => by
      rw [gk b (nha z)]
      exact un.there b o (k b o z) hx
    tups := fun b xs z => z
    frzs := fun b o v z => z
    tbls := fun b ps z => ⟨#[], by rw [z]; simp⟩ }
  have hok3 : HOk X.prog X.w H1 G := fun b o z => by
    have hba : b ≠ a := fun e => by rw [e, hn] at z; cases z
    have noa : ∀ {c : Addr}, H1 c = some (.own b) → c ≠ a := fun {c} hc e => by rw [e, hn] at hc; cases hc
    refine (hok b o (by rw [upd_ne hba]; exact z)).stay (fun c v hc y => ?_) (fun c hc => ?_) (fun c xs hc => ?_)
    · have hca : c ≠ a := by
        rcases hc with hc | hc
        · rw [hc]; exact hba
        · intro e
          rw [e, upd_same] at hc
          exact exo_own (Option.some.inj hc)
      rw [gk c hca]
      exact y
    · have hca : c ≠ a := fun e => by
        rw [e, upd_same] at hc
        exact exo_own (Option.some.inj hc)
      rw [upd_ne hca] at hc
      exact hc
    · have hca : c ≠ a := fun e => by
        rw [e, upd_same] at hc
        exact exo_tup (Option.some.inj hc)
      rw [upd_ne hca] at hc
      exact hc
  have J : Inv X pins σ H1 ⟨G, g2, d2, t2, os2⟩ := I1.call' (ch := []) ho U hok3 hb (fun b z => absurd z (by simp))
  have kG : ∀ b o, G.get? b = some o → h2.get? b = some o := fun b o z => by
    by_cases hba : b = a
    · rw [hba, ge] at z
      cases z
    · exact (gk b hba).symm.trans z
  exact ⟨a, _, _, ⟨G, g2, d2, t2, os2⟩, _, .ref C, none, rfl, J, kG, ge, hoe, ⟨rfl, rfl⟩, rfl, rfl, hn, rfl, hb, T, q⟩
theorem pmk_x0 (k : XkOk X C []) (hg : Gl X x) (hm : X.mg x = some (.ref C)) (hdb : (x == ("__debug__" : Str)) = false) : PMk X (.Call (.Name x p) [] [] pos) (fun σ H Q => Q (.ref C) none H) := by
  intro pins s σ H Q I h
  refine wpAny_Call_Name_kw (ld_glob I hg hm ?_ hdb)
  refine PySem.W.callWith_K0 (first := []) I.kIn k.xe.T.kC ?_
  show wpAny _ _ (call (.ref C) []) _ _ _
  obtain ⟨hp, g, d0, t, os⟩ := s
  refine call_x0 k I fun a H2 s2 hp2 I2 hn hsz kk un hok ho hb e => ?_
  obtain ⟨h2, g2, d2, t2, os2⟩ := s2
  subst e
  exact mk_endN (raises_own k.xe.T.exC k.xe.T.tyC) I hsz kk un hok ho hb h
end
end CH
namespace CH
open PySem PySem.Spec PyProof.Rows L2
variable [Wsh]
section
variable {X : Cx} {c : Ctx} {T : Addr → Prop} {s : S} {σ : Sg} {H : Hp} {ρ : List Addr} {u w : CH.R} {vu vw : V} {Q : VK}
theorem not_w {K : PySem.W.Frag} (r : Rel K T s σ H ρ) {a : Addr} (hn : H a = none) : ¬ Uni (Own s σ ρ) T a := fun z => by
  have := r.mt a z
  rw [hn] at this
  rcases this with h | ⟨_, _, h⟩
  · exact h
  · cases h
theorem ok_mkx0 (C : Cok X c) {cl : String} {x : Str} {xp pos : Pos} (hx : x = Str.ofString cl) (hg : glC X.env.scope x = true) (hn : nameOk x = true) : PE X (.Call (.Name x xp) [] [] pos) (tE X.K c (.mkx cl [] [])) := by
  subst hx
  have hev : ∀ s, evE c (.mkx cl [] []) s = Res.req (c.gl.xk cl []) (.ok (.val (.ex cl [])) s) := fun s => rfl
  by_cases hc : c.gl.xk cl [] = true
  · obtain ⟨k, hm⟩ := C.xk cl [] hc
    refine PEi (pe_mkx0 k (glC_ok rfl hg) hm (nameOk_ok hn).d) ?_
    intro σ H Q ⟨T, s, ρ, rel, run⟩
    rw [hev] at run
    obtain ⟨_, run⟩ := Run.req run
    intro a hn
    obtain ⟨r1, st1⟩ := rel.laid (o := xoE (clsA X.K cl) none a) hn
    exact (run.from st1 (Pre.refl _)).valQ r1 (.ex0 upd_same (not_w rel hn))
  · refine PEf fun σ H Q ⟨T, s, ρ, rel, run⟩ => ?_
    rw [hev] at run
    exact hc (Run.req run).1
theorem ok_mkx1 (C : Cok X c) {cl : String} {f : List Nat} {es : List E} {q : PySem.Expr} {x : Str} {xp pos : Pos} (hx : x = Str.ofString cl) (hg : glC X.env.scope x = true) (hn : nameOk x = true) (hf : f ≠ []) (hps : ckEs X.env.scope X.N es [q] = true) (hA : PA X [q] (tIs X.K c es)) : PE X (.Call (.Name x xp) [q] [] pos) (tE X.K c (.mkx cl f es)) := by
  subst hx
  have hev : ∀ s, evE c (.mkx cl f es) s = Res.req (c.gl.xk cl f) ((evIs c es s).bind fun l s1 => opt ((exL f l).map fun m => .val (.ex cl m)) s1) := fun s => rfl
  by_cases hc : c.gl.xk cl f = true
  · obtain ⟨k, hm⟩ := C.xk cl f hc
    have hq : notStar q = true := by
      cases es with
      | nil => unfold ckEs at hps; cases hps
      | cons e es =>
        unfold ckEs at hps
        exact (ba (ba hps).1).2
    refine PEi (pe_mkx1 k hf (glC_ok rfl hg) hm (nameOk_ok hn).d hA (star_of hq)) ?_
    intro σ H Q ⟨T, s, ρ, rel, run⟩
    rw [hev] at run
    obtain ⟨_, run⟩ := Run.req run
    refine ⟨T, s, ρ, rel, (Run.bind (k' := kL) kR_anti run).mono fun l vs s1 H1 ρ1 rel1 st1 p1 q1 d1 run1 => ?_⟩
    obtain ⟨z, hz, run1⟩ := Run.opt run1
    have q1 : Rps X.K H1 (Uni (Own s1 σ ρ1) (Uni T fun _ => False)) ρ1 l vs := q1
    have hl : ∃ v, l = [v] ∧ z = [.str f, v] := by
      unfold exL at hz
      split at hz
      · rw [if_neg hf] at hz; cases hz
      · rw [if_neg hf] at hz; cases hz; exact ⟨_, rfl, rfl⟩
      · cases hz
    obtain ⟨v, rfl, rfl⟩ := hl
    cases q1 with
    | @cons i y _ _ qv q2 =>
      cases q2
      refine ⟨y, rfl, fun a d hna hnd ne => ?_⟩
      obtain ⟨r2, st2⟩ := rel1.laid (o := .xd [(mkS f, y)]) hnd
      have hna' : (upd H1 d (.xd [(mkS f, y)])) a = none := by rw [upd_ne (Ne.symm ne)]; exact hna
      obtain ⟨r3, st3⟩ := r2.laid (o := xoE (clsA X.K cl) (some d) a) hna'
      have st := st2.trans st3
      refine (run1.from st (Pre.refl _)).valQ r3 (.ex1 (v := y) upd_same (not_w rel1 hna) ?_ ?_)
      · rw [upd_ne ne, upd_same]
      · exact qv.stay (st.stay rel1 (Pre.refl _))
  · refine PEf fun σ H Q ⟨T, s, ρ, rel, run⟩ => ?_
    rw [hev] at run
    exact hc (Run.req run).1
theorem lookup1 {g : Str} {v : V} : ([(g, v)] : List (Str × V)).lookup g = some v := by simp [List.lookup]
theorem ok_exf (C : Cok X c) {a : E} {f : List Nat} {o : PySem.Expr} {m : Str} {pos : Pos} (hm : m = mkS f) (hs : superC o = true) (ha : PE X o (tE X.K c a)) : PE X (.Attribute o m pos) (tE X.K c (.exf a f)) := by
  subst hm
  refine PEi (pe_xfH ha (base_of hs)) ?_
  intro σ H Q ⟨T, s, ρ, rel, run⟩
  have hx : evE c (.exf a f) s = (evE c a s).bind fun x s1 => exfop c.gl x f s1 := rfl
  rw [hx] at run
  refine ⟨T, s, ρ, rel, (Run.bind (k' := kR) kR_anti run).mono fun x vx s1 H1 ρ1 rel1 st1 p1 q1 d1 run1 => ?_⟩
  unfold exfop at run1
  split at run1
  · obtain ⟨ck, run2⟩ := Run.req run1
    clear run1
    obtain ⟨c1, c2⟩ := ba ck
    obtain ⟨c2, c3⟩ := ba c2
    have c2 := of_decide_eq_true c2
    have c3 := of_decide_eq_true c3
    subst c2
    obtain ⟨k, hm⟩ := C.xk _ _ c1
    have q1 : Rp X.K H1 _ ρ1 (.ex _ [.str _, _]) vx := q1
    cases q1 with
    | ex1 h1 h2 h3 h4 =>
      obtain ⟨_, _, _, _, _, _, _, _, i | i⟩ := k.init
      · exact absurd i.1 c3
      · exact ⟨_, _, _, _, _, rfl, h1, k.xe.xf, i.2.1, h3, lookup1, run2.valQ rel1 h4⟩
  · exact run1.elim
theorem xdict_of {K : PySem.W.Frag} {W : Addr → Prop} {cl : String} {l : List CH.I} {v : V} (q : Rp K H W ρ (.ex cl l) v) : ∃ a d, v = .ref a ∧ H a = some (xoE (clsA K cl) d a) ∧ XDict H d := by
  cases q with
  | ex0 h1 h2 => exact ⟨_, _, rfl, h1, fun _ e => by cases e⟩
  | ex1 h1 h2 h3 h4 => exact ⟨_, _, rfl, h1, fun _ e => by cases e; exact ⟨_, h3⟩⟩
theorem relV_ref {a : Addr} : ∀ u, RelV (.ref a) u → u = .ref a := fun u h => h
theorem relV_ty {n : String} : ∀ u, RelV (.ty n) u → u = .type n := fun u h => h
theorem ok_isx (C : Cok X c) {a : E} {cs : List String} {p q : PySem.Expr} {x : Str} {xp : Pos} (hb : bcall2 X.env.scope "isinstance" p = some (q, .Name x xp)) (ha : PE X q (tE X.K c a)) (hc : cs.map Str.ofString = [x]) (hg2 : glC X.env.scope x = true) (hn : nameOk x = true) : PE X p (tE X.K c (.isx a cs)) := by
  obtain ⟨p1, p2, rfl, hg, hs, hs2⟩ := bcall2_ok hb
  have hcs : ∃ d, cs = [d] ∧ x = Str.ofString d := by
    cases cs with
    | nil => cases hc
    | cons d r =>
      cases r with
      | nil => exact ⟨d, rfl, by simpa using hc.symm⟩
      | cons => simp at hc
  obtain ⟨d, rfl, rfl⟩ := hcs
  have hx : ∀ s, evE c (.isx a [d]) s = (evE c a s).bind fun u s1 => isxop c.gl u [d] s1 := fun s => rfl
  have no := nameOk_ok hn
  -- the class that is asked for, or nothing is asked
  by_cases hk : ∃ cl, c.gl.ik cl d = true
  · obtain ⟨cl0, hk⟩ := hk
    have nm := (C.ik cl0 d hk).nm
    have go : ∀ {cv : V} {tc : TE}, (∀ σ H Q, Q cv H → tc σ H Q) → PE X (.Name (Str.ofString d) xp) tc → (∀ u, RelV cv u → u = cvE X.K d) → PE X (.Call (.Name "isinstance" p1) [q, .Name (Str.ofString d) xp] [] p2) (tE X.K c (.isx a [d])) := by
      intro cv tc htc hpc hcv
      refine PEi (pe_callB call_isX (glC_ok rfl hg) (C.bl "isinstance" (by decide +kernel)) PyProof.Rows.boot_isinstance (pa_cons ha (pa_cons hpc pa_nil (star_of hs2)) (star_of hs)) (by decide) (by decide) (star_of hs) (by rw [star_of hs2]; rfl)) ?_
      intro σ H Q ⟨T, s, ρ, rel, run⟩
      rw [hx] at run
      refine ⟨T, s, ρ, rel, (Run.bind (k' := kR) kR_anti run).mono fun x vx s1 H1 ρ1 rel1 st1 p1 q1 d1 run1 => ?_⟩
      refine htc _ _ _ ?_
      unfold isxop at run1
      split at run1
      · obtain ⟨ck, run1⟩ := Run.req run1
        have ck := List.all_eq_true.mp ck d (List.mem_cons_self ..)
        have I := C.ik _ d ck
        obtain ⟨ad, dd, rfl, h1, h2⟩ := xdict_of q1
        exact ⟨ad, _, dd, cv, _, _, rfl, h1, h2, I.xe.E, hcv, I.kit, run1.valQ rel1 (.bl _)⟩
      · exact run1.elim
    by_cases hd : d = "ValueError"
    · subst hd
      refine go (cv := .ty "ValueError") (tc := tC (.ty "ValueError")) (fun σ H Q h => h) (pe_bltn (u := .type "ValueError") (glC_ok rfl hg2) (nm.1 rfl) boot_ValueError rfl no.n no.d) (fun u h => ?_)
      rw [show cvE X.K "ValueError" = .type "ValueError" from if_pos rfl]
      exact h
    · refine go (cv := .ref (He.ga X.K (Str.ofString d))) (fun σ H Q h => h) (pe_glob (glC_ok rfl hg2) (nm.2 hd) rfl no.d) (fun u h => ?_)
      rw [show cvE X.K d = clsA X.K d from if_neg hd]
      exact h
  · refine PEi (pe_callB call_isX (glC_ok rfl hg) (C.bl "isinstance" (by decide +kernel)) PyProof.Rows.boot_isinstance (pa_cons ha (pa_cons (PEf (t := fun _ _ _ => False) fun _ _ _ h => h) pa_nil (star_of hs2)) (star_of hs)) (by decide) (by decide) (star_of hs) (by rw [star_of hs2]; rfl)) ?_
    intro σ H Q ⟨T, s, ρ, rel, run⟩
    rw [hx] at run
    refine ⟨T, s, ρ, rel, (Run.bind (k' := kR) kR_anti run).mono fun x vx s1 H1 ρ1 rel1 st1 p1 q1 d1 run1 => ?_⟩
    unfold isxop at run1
    split at run1
    · have := (Run.req run1).1
      exact hk ⟨_, List.all_eq_true.mp this d (List.mem_cons_self ..)⟩
    · exact run1
end
end CH
namespace CH
open PySem PySem.Spec PyProof.Rows L2
theorem b_and {a b : Bool} (h : (a && b) = true) : a = true ∧ b = true := by rw [Bool.and_eq_true] at h; exact h
mutual
theorem snd_E (c : Ctx) : ∀ (x : E) (w : Wsh) (X : Cx) (p : PySem.Expr), Cok X c → ckE X.env.scope X.N x p = true → Both X c x p
  | .loc k, w, X, p, C, h => by
    refine both_plain (ok_loc h) ?_
    unfold ckE at h; split at h <;> first | rfl | cases h
  | .glb g, w, X, p, C, h => by
    refine both_plain (ok_glb C h) ?_
    unfold ckE at h; split at h <;> first | rfl | cases h
  | .cst i, w, X, p, C, h => by
    refine both_plain (ok_cst h) ?_
    unfold ckE at h; split at h <;> first | rfl | cases h
  | .tup es, w, X, p, C, h => by
    unfold ckE at h; split at h
    · exact both_plain (ok_tup (snd_Is c es _ X _ C h)) rfl
    · cases h
  | .lst es, w, X, p, C, h => by
    unfold ckE at h; split at h
    · exact both_plain (ok_lst (snd_Is c es _ X _ C h)) rfl
    · cases h
  | .dct t es, w, X, p, C, h => by
    unfold ckE at h; split at h
    · exact both_plain (ok_dct h) rfl
    · obtain ⟨h, g8⟩ := b_and h
      obtain ⟨h, g7⟩ := b_and h
      obtain ⟨h, g6⟩ := b_and h
      obtain ⟨h, g5⟩ := b_and h
      obtain ⟨h, g4⟩ := b_and h
      obtain ⟨h, g3⟩ := b_and h
      obtain ⟨g1, g2⟩ := b_and h
      cases t with
      | true => cases g1
      | false => exact both_plain (PEi (pe_disp (snd_Ps c es _ X _ _ _ C g8) g6 (of_decide_eq_true g4) (fun z => by rw [z] at g7; cases g7) (of_decide_eq_true g5)) (disp_w (of_decide_eq_true g2) (of_decide_eq_true g3))) rfl
    · cases h
  | .box e, w, X, p, C, h => by
    unfold ckE at h
    obtain ⟨h1, h2⟩ := b_and h
    exact both_plain (ok_box (snd_E c e _ X p C h2).pe) (by cases p <;> first | rfl | cases h1)
  | .op o a b, w, X, p, C, h => by
    unfold ckE at h; split at h
    · obtain ⟨h1, h3⟩ := b_and h
      obtain ⟨h1, h2⟩ := b_and h1
      exact both_plain (ok_op h1 (snd_E c a _ X _ C h2).pe (snd_E c b _ X _ C h3).pe) rfl
    · cases h
  | .cmp o a b, w, X, p, C, h => by
    unfold ckE at h; split at h
    · obtain ⟨h1, h3⟩ := b_and h
      obtain ⟨h1, h2⟩ := b_and h1
      exact both_cmp C h1 (snd_E c a _ X _ C h2).pe (snd_E c b _ X _ C h3).pe
    · cases h
  | .chain o o' a b d, w, X, p, C, h => by
    unfold ckE at h; split at h
    · obtain ⟨h1, h5⟩ := b_and h
      obtain ⟨h1, h4⟩ := b_and h1
      obtain ⟨h1, h3⟩ := b_and h1
      obtain ⟨h1, h2⟩ := b_and h1
      exact both_chain C h1 h2 (snd_E c a _ X _ C h3).pe (snd_E c b _ X _ C h4).pe (snd_E c d _ X _ C h5).pe
    · cases h
  | .chain3 o o' o'' a b d e', w, X, p, C, h => by
    unfold ckE at h; split at h
    · obtain ⟨h1, h7⟩ := b_and h
      obtain ⟨h1, h6⟩ := b_and h1
      obtain ⟨h1, h5⟩ := b_and h1
      obtain ⟨h1, h4⟩ := b_and h1
      obtain ⟨h1, h3⟩ := b_and h1
      obtain ⟨h1, h2⟩ := b_and h1
      exact both_chain3 C h1 h2 h3 (snd_E c a _ X _ C h4).pe (snd_E c b _ X _ C h5).pe (snd_E c d _ X _ C h6).pe (snd_E c e' _ X _ C h7).pe
    · cases h
  | .inq n a b, w, X, p, C, h => by
    unfold ckE at h; split at h
    · obtain ⟨h1, h4⟩ := b_and h
      obtain ⟨h1, h3⟩ := b_and h1
      obtain ⟨h1, h2⟩ := b_and h1
      exact both_inq C h1 h4 (snd_E c a _ X _ C h2).pe (snd_E c b _ X _ C h3).pe
    · cases h
  | .ins n a b, w, X, p, C, h => by
    unfold ckE at h; split at h
    · obtain ⟨h1, h4⟩ := b_and h
      obtain ⟨h1, h3⟩ := b_and h1
      obtain ⟨h1, h2⟩ := b_and h1
      exact both_ins h1 h4 (snd_E c a _ X _ C h2).pe (snd_E c b _ X _ C h3).pe
    · cases h
  | .ind n a b, w, X, p, C, h => by
    unfold ckE at h; split at h
    · obtain ⟨h1, h4⟩ := b_and h
      obtain ⟨h1, h3⟩ := b_and h1
      obtain ⟨h1, h2⟩ := b_and h1
      exact both_ind C h1 h4 (snd_E c a _ X _ C h2).pe (snd_E c b _ X _ C h3).pe
    · cases h
  | .isn n a, w, X, p, C, h => by
    unfold ckE at h; split at h
    · obtain ⟨h1, h2⟩ := b_and h
      exact both_isn h1 (snd_E c a _ X _ C h2).pe
    · cases h
  | .ist n b a, w, X, p, C, h => by
    unfold ckE at h; split at h
    · obtain ⟨h, h3⟩ := b_and h
      obtain ⟨h1, h2⟩ := b_and h
      have h2 := of_decide_eq_true h2
      subst h2
      exact both_ist h1 (snd_E c a _ X _ C h3).pe
    · cases h
  | .not a, w, X, p, C, h => by
    unfold ckE at h; split at h
    · exact both_not (snd_E c a _ X _ C h)
    · cases h
  | .neg a, w, X, p, C, h => by
    unfold ckE at h; split at h
    · exact both_plain (ok_neg (snd_E c a _ X _ C h).pe) rfl
    · cases h
  | .and a b, w, X, p, C, h => by
    unfold ckE at h; split at h
    · obtain ⟨h1, h2⟩ := b_and h
      exact both_and2 (snd_E c a _ X _ C h1) (snd_E c b _ X _ C h2)
    · obtain ⟨h1, h2⟩ := b_and h
      exact both_and (snd_E c a _ X _ C h1) (snd_E c b _ X _ C h2)
    · cases h
  | .or a b, w, X, p, C, h => by
    unfold ckE at h; split at h
    · obtain ⟨h1, h2⟩ := b_and h
      exact both_or2 (snd_E c a _ X _ C h1) (snd_E c b _ X _ C h2)
    · obtain ⟨h1, h2⟩ := b_and h
      exact both_or (snd_E c a _ X _ C h1) (snd_E c b _ X _ C h2)
    · cases h
  | .idx a i, w, X, p, C, h => by
    unfold ckE at h; split at h
    · obtain ⟨h1, h3⟩ := b_and h
      obtain ⟨h1, h2⟩ := b_and h1
      exact both_plain (ok_idx h3 (snd_E c a _ X _ C h1).pe (snd_E c i _ X _ C h2).pe) rfl
    · cases h
  | .ixd a i, w, X, p, C, h => by
    unfold ckE at h; split at h
    · obtain ⟨h1, h3⟩ := b_and h
      obtain ⟨h1, h2⟩ := b_and h1
      exact both_plain (ok_ixd C h3 (snd_E c a _ X _ C h1).pe (snd_E c i _ X _ C h2).pe) rfl
    · cases h
  | .slc a lo hi, w, X, p, C, h => by
    unfold ckE at h; split at h
    · obtain ⟨h1, h3⟩ := b_and h
      obtain ⟨h1, h2⟩ := b_and h1
      exact both_plain (ok_slc (snd_E c a _ X _ C h1).pe (snd_O c lo _ X _ C h2) (snd_O c hi _ X _ C h3)) rfl
    · cases h
  | .rvs a, w, X, p, C, h => by
    unfold ckE at h; split at h
    · exact both_plain (ok_rvs (snd_E c a _ X _ C h).pe) rfl
    · cases h
  | .call f es, w, X, p, C, h => by
    unfold ckE at h; split at h
    · obtain ⟨h, h5⟩ := b_and h
      obtain ⟨h1, h4⟩ := b_and h
      obtain ⟨h1, h3⟩ := b_and h1
      obtain ⟨h1, h2⟩ := b_and h1
      have hs := h4
      have hpa := snd_Es c es _ X _ C h4
      cases es with
      | nil => unfold ckEs at hs; cases hs
      | cons e es =>
        unfold ckEs at hs
        obtain ⟨g1, g3⟩ := b_and hs
        obtain ⟨g1, g2⟩ := b_and g1
        exact both_plain (ok_call C ((Bool.not_eq_true' _).mp h5) (of_decide_eq_true h1) h2 h3 g2 (any_of g3) hpa) rfl
    · cases h
  | .len a, w, X, p, C, h => by
    unfold ckE at h
    obtain ⟨q, h1, h2⟩ := on1_ok h
    obtain ⟨_, _, e, _⟩ := bcall_ok h1
    exact both_plain (ok_len C h1 (snd_E c a _ X _ C h2).pe) (by subst e; rfl)
  | .toInt a, w, X, p, C, h => by
    unfold ckE at h
    obtain ⟨q, h1, h2⟩ := on1_ok h
    obtain ⟨_, _, e, _⟩ := bcall_ok h1
    exact both_plain (ok_toInt C h1 (snd_E c a _ X _ C h2).pe) (by subst e; rfl)
  | .toTup a, w, X, p, C, h => by
    unfold ckE at h
    obtain ⟨q, h1, h2⟩ := on1_ok h
    obtain ⟨_, _, e, _⟩ := bcall_ok h1
    exact both_plain (ok_toTup C h1 (snd_E c a _ X _ C h2).pe) (by subst e; rfl)
  | .toLst a, w, X, p, C, h => by
    unfold ckE at h
    obtain ⟨q, h1, h2⟩ := on1_ok h
    obtain ⟨_, _, e, _⟩ := bcall_ok h1
    exact both_plain (ok_toLst C h1 (snd_E c a _ X _ C h2).pe) (by subst e; rfl)
  | .dictP a, w, X, p, C, h => by
    unfold ckE at h
    obtain ⟨q, h1, h2⟩ := on1_ok h
    obtain ⟨_, _, e, _⟩ := bcall_ok h1
    exact both_plain (ok_dictP C h1 (snd_E c a _ X _ C h2).pe) (by subst e; rfl)
  | .dictD a, w, X, p, C, h => by unfold ckE at h; cases h
  | .listD a, w, X, p, C, h => by
    unfold ckE at h
    obtain ⟨q, h1, h2⟩ := on1_ok h
    obtain ⟨_, _, e, _⟩ := bcall_ok h1
    exact both_plain (ok_listD C h1 (snd_E c a _ X _ C h2).pe) (by subst e; rfl)
  | .srt a, w, X, p, C, h => by
    unfold ckE at h
    obtain ⟨q, h1, h2⟩ := on1_ok h
    obtain ⟨_, _, e, _⟩ := bcall_ok h1
    exact both_plain (ok_srt C h1 (snd_E c a _ X _ C h2).pe) (by subst e; rfl)
  | .all a, w, X, p, C, h => by
    unfold ckE at h
    obtain ⟨q, h1, h2⟩ := on1_ok h
    obtain ⟨_, _, e, _⟩ := bcall_ok h1
    exact both_plain (ok_all C h1 (snd_E c a _ X _ C h2).pe) (by subst e; rfl)
  | .any a, w, X, p, C, h => by
    unfold ckE at h
    obtain ⟨q, h1, h2⟩ := on1_ok h
    obtain ⟨_, _, e, _⟩ := bcall_ok h1
    exact both_plain (ok_any C h1 (snd_E c a _ X _ C h2).pe) (by subst e; rfl)
  | .sum a, w, X, p, C, h => by
    unfold ckE at h
    obtain ⟨q, h1, h2⟩ := on1_ok h
    obtain ⟨_, _, e, _⟩ := bcall_ok h1
    exact both_plain (ok_sum C h1 (snd_E c a _ X _ C h2).pe) (by subst e; rfl)
  | .abs a, w, X, p, C, h => by
    unfold ckE at h
    obtain ⟨q, h1, h2⟩ := on1_ok h
    obtain ⟨_, _, e, _⟩ := bcall_ok h1
    exact both_plain (ok_abs C h1 (snd_E c a _ X _ C h2).pe) (by subst e; rfl)
  | .mn a b, w, X, p, C, h => by
    unfold ckE at h
    obtain ⟨q, q2, h1, h2, h3⟩ := on2_ok h
    obtain ⟨_, _, e, _⟩ := bcall2_ok h1
    exact both_plain (ok_mn C h1 (snd_E c a _ X _ C h2).pe (snd_E c b _ X _ C h3).pe) (by subst e; rfl)
  | .mx a b, w, X, p, C, h => by
    unfold ckE at h
    obtain ⟨q, q2, h1, h2, h3⟩ := on2_ok h
    obtain ⟨_, _, e, _⟩ := bcall2_ok h1
    exact both_plain (ok_mx C h1 (snd_E c a _ X _ C h2).pe (snd_E c b _ X _ C h3).pe) (by subst e; rfl)
  | .srtSet a, w, X, p, C, h => by
    unfold ckE at h
    split at h
    · rename_i p1 h0
      obtain ⟨q, h1, h2⟩ := on1_ok h
      obtain ⟨_, _, e, _⟩ := bcall_ok h0
      exact both_plain (ok_srtSet C h0 h1 (snd_E c a _ X _ C h2).pe) (by subst e; rfl)
    · cases h
  | .maxd a, w, X, p, C, h => by
    unfold ckE at h
    obtain ⟨q, h1, h2⟩ := on1_ok h
    obtain ⟨_, _, _, _, _, e, _⟩ := kcall_ok h1
    exact both_plain (ok_maxd C h1 (snd_E c a _ X _ C h2).pe) (by subst e; rfl)
  | .app a b, w, X, p, C, h => by
    unfold ckE at h
    obtain ⟨q, q2, h1, h2, h3⟩ := on2_ok h
    obtain ⟨_, _, e, _⟩ := mcall1_ok h1
    exact both_plain (ok_app h1 (snd_E c a _ X _ C h2).pe (snd_E c b _ X _ C h3).pe) (by subst e; rfl)
  | .ext a b, w, X, p, C, h => by
    unfold ckE at h
    obtain ⟨q, q2, h1, h2, h3⟩ := on2_ok h
    obtain ⟨_, _, e, _⟩ := mcall1_ok h1
    exact both_plain (ok_ext h1 (snd_E c a _ X _ C h2).pe (snd_E c b _ X _ C h3).pe) (by subst e; rfl)
  | .pop a, w, X, p, C, h => by
    unfold ckE at h
    obtain ⟨q, h1, h2⟩ := on1_ok h
    obtain ⟨_, _, e, _⟩ := mcall0_ok h1
    exact both_plain (ok_pop h1 (snd_E c a _ X _ C h2).pe) (by subst e; rfl)
  | .popAt a b, w, X, p, C, h => by
    unfold ckE at h
    obtain ⟨q, q2, h1, h2, h3⟩ := on2_ok h
    obtain ⟨_, _, e, _⟩ := mcall1_ok h1
    exact both_plain (ok_popAt h1 (snd_E c a _ X _ C h2).pe (snd_E c b _ X _ C h3).pe) (by subst e; rfl)
  | .insert a b d, w, X, p, C, h => by
    unfold ckE at h
    obtain ⟨q, q2, q3, h1, h2, h3, h4⟩ := on3_ok h
    obtain ⟨_, _, e, _⟩ := mcall2_ok h1
    exact both_plain (ok_insert h1 (snd_E c a _ X _ C h2).pe (snd_E c b _ X _ C h3).pe (snd_E c d _ X _ C h4).pe) (by subst e; rfl)
  | .remove a b, w, X, p, C, h => by
    unfold ckE at h
    obtain ⟨q, q2, h1, h2, h3⟩ := on2_ok h
    obtain ⟨_, _, e, _⟩ := mcall1_ok h1
    exact both_plain (ok_remove h1 (snd_E c a _ X _ C h2).pe (snd_E c b _ X _ C h3).pe) (by subst e; rfl)
  | .get1 a b, w, X, p, C, h => by
    unfold ckE at h
    obtain ⟨q, q2, h1, h2, h3⟩ := on2_ok h
    obtain ⟨_, _, e, _⟩ := mcall1_ok h1
    exact both_plain (ok_get1 C h1 (snd_E c a _ X _ C h2).pe (snd_E c b _ X _ C h3).pe) (by subst e; rfl)
  | .get2 a b d, w, X, p, C, h => by
    unfold ckE at h
    obtain ⟨q, q2, q3, h1, h2, h3, h4⟩ := on3_ok h
    obtain ⟨_, _, e, _⟩ := mcall2_ok h1
    exact both_plain (ok_get2 C h1 (snd_E c a _ X _ C h2).pe (snd_E c b _ X _ C h3).pe (snd_E c d _ X _ C h4).pe) (by subst e; rfl)
  | .index a b, w, X, p, C, h => by
    unfold ckE at h
    obtain ⟨q, q2, h1, h2, h3⟩ := on2_ok h
    obtain ⟨_, _, e, _⟩ := mcall1_ok h1
    exact both_plain (ok_index C h1 (snd_E c a _ X _ C h2).pe (snd_E c b _ X _ C h3).pe) (by subst e; rfl)
  | .tindex a b, w, X, p, C, h => by
    unfold ckE at h
    obtain ⟨q, q2, h1, h2, h3⟩ := on2_ok h
    obtain ⟨_, _, e, _⟩ := mcall1_ok h1
    exact both_plain (ok_tindex C h1 (snd_E c a _ X _ C h2).pe (snd_E c b _ X _ C h3).pe) (by subst e; rfl)
  | .sindex a b, w, X, p, C, h => by
    unfold ckE at h
    obtain ⟨q, q2, h1, h2, h3⟩ := on2_ok h
    obtain ⟨_, _, e, _⟩ := mcall1_ok h1
    exact both_plain (ok_sindex h1 (snd_E c a _ X _ C h2).pe (snd_E c b _ X _ C h3).pe) (by subst e; rfl)
  | .join a b, w, X, p, C, h => by
    unfold ckE at h
    obtain ⟨q, q2, h1, h2, h3⟩ := on2_ok h
    obtain ⟨_, _, e, _⟩ := mcall1_ok h1
    exact both_plain (ok_join h1 (snd_E c a _ X _ C h2).pe (snd_E c b _ X _ C h3).pe) (by subst e; rfl)
  | .upper a, w, X, p, C, h => by
    unfold ckE at h
    obtain ⟨q, h1, h2⟩ := on1_ok h
    obtain ⟨_, _, e, _⟩ := mcall0_ok h1
    exact both_plain (ok_upper h1 (snd_E c a _ X _ C h2).pe) (by subst e; rfl)
  | .isi a t, w, X, p, C, h => by
    unfold ckE at h
    split at h
    · rename_i q x xp h1
      obtain ⟨g1, g3⟩ := b_and h
      obtain ⟨g1, g2⟩ := b_and g1
      obtain ⟨_, _, e, _⟩ := bcall2_ok h1
      exact both_plain (ok_isi C h1 (snd_E c a _ X _ C g1).pe g2 g3) (by subst e; rfl)
    · cases h
  | .callv k es, w, X, p, C, h => by
    unfold ckE at h; split at h
    · obtain ⟨h1, h4⟩ := b_and h
      obtain ⟨h1, h3⟩ := b_and h1
      obtain ⟨h1, h2⟩ := b_and h1
      have hs := h4
      have hpa := snd_Es c es _ X _ C h4
      cases es with
      | nil => unfold ckEs at hs; cases hs
      | cons e es =>
        unfold ckEs at hs
        obtain ⟨g1, g3⟩ := b_and hs
        obtain ⟨g1, g2⟩ := b_and g1
        exact both_plain (ok_callv C C.nm (of_decide_eq_true h1) h2 h3 g2 (any_of g3) hpa) rfl
    · cases h
  | .ixt a es, w, X, p, C, h => by
    unfold ckE at h; split at h
    · obtain ⟨h1, h2⟩ := b_and h
      exact both_plain (ok_ixt C (snd_E c a _ X _ C h1).pe (snd_Is c es _ X _ C h2)) rfl
    · cases h
  | .isi2 a t u, w, X, p, C, h => by
    unfold ckE at h; split at h
    · obtain ⟨h, g7⟩ := b_and h
      obtain ⟨h, g6⟩ := b_and h
      obtain ⟨h, g5⟩ := b_and h
      obtain ⟨h, g4⟩ := b_and h
      obtain ⟨h, g3⟩ := b_and h
      obtain ⟨g1, g2⟩ := b_and h
      exact both_plain (ok_isi2 C g1 g2 (snd_E c a _ X _ C g3).pe g4 g5 g6 g7) rfl
    · cases h
  | .srtSetD _, w, X, p, C, h => by unfold ckE at h; cases h
  | .comp own tg it cs el, w, X, p, C, h => by
    unfold ckE at h
    split at h
    · rename_i p t i ifs scope pos
      obtain ⟨h, g8⟩ := b_and h
      obtain ⟨h, g7⟩ := b_and h
      obtain ⟨h, g6⟩ := b_and h
      obtain ⟨h, g5⟩ := b_and h
      obtain ⟨h, g4⟩ := b_and h
      obtain ⟨h, g3⟩ := b_and h
      obtain ⟨g1, g2⟩ := b_and h
      split at g1
      · rename_i ow how
        have ok := blkOk_by g1
        have e := ownC_ok how
        refine both_plain (PEi (pe_lc (own := ow) (wi := tI X.K c it) (g := gOf X.K tg) (tt := @tCnd WN X.K c cs) (te := @tE WN X.K c el) C.calm C.nd (snd_I c it _ X i t C g2 tg g6 ⟨scope, g4⟩) ok (fun s H Ca cl fp => @pg_T WN _ _ _ (C.blk ok s H Ca cl fp) (pg_blk s H Ca cl fp) _ _ g4) (fun s H Ca cl fp => snd_C c cs WN _ ifs (C.blk ok s H Ca cl fp) g7)
          (fun s H Ca cl fp => @Both.pe WN _ _ _ _ (snd_E c el WN _ p (C.blk ok s H Ca cl fp) g8)) (fold_of g3)) ?_) rfl
        rw [e]
        exact comp_ok (fun k hk => List.contains_iff_mem.mp (List.all_eq_true.mp g5 k hk)) g6
      · cases g1
    · cases h
  | .lrg1 a, w, X, p, C, h => by
    unfold ckE at h
    obtain ⟨q, h1, h2⟩ := on1_ok h
    obtain ⟨q2, h2, h3⟩ := on1_ok h2
    obtain ⟨_, _, e, _⟩ := bcall_ok h1
    exact both_plain (ok_lrg1 C h1 h2 (snd_E c a _ X _ C h3).pe) (by subst e; rfl)
  | .lrg2 a b, w, X, p, C, h => by
    unfold ckE at h
    obtain ⟨q, h1, h2⟩ := on1_ok h
    obtain ⟨q2, q3, h2, h3, h4⟩ := on2_ok h2
    obtain ⟨_, _, e, _⟩ := bcall_ok h1
    exact both_plain (ok_lrg2 C h1 h2 (snd_E c a _ X _ C h3).pe (snd_E c b _ X _ C h4).pe) (by subst e; rfl)
  | .fld a f, w, X, p, C, h => by
    unfold ckE at h; split at h
    · obtain ⟨h1, h3⟩ := b_and h
      obtain ⟨h1, h2⟩ := b_and h1
      exact both_plain (ok_fld C (of_decide_eq_true h1) h2 (snd_E c a _ X _ C h3).pe) rfl
    · cases h
  | .mk key cl es, w, X, p, C, h => by
    unfold ckE at h; split at h
    · obtain ⟨h1, h4⟩ := b_and h
      obtain ⟨h1, h3⟩ := b_and h1
      obtain ⟨h1, h2⟩ := b_and h1
      exact both_plain (ok_mk C (of_decide_eq_true h1) h2 h3 h4 (snd_Es c es _ X _ C h4)) rfl
    · cases h
  | .meth key cl m a es, w, X, p, C, h => by
    unfold ckE at h; split at h
    · obtain ⟨h1, h6⟩ := b_and h
      obtain ⟨h1, h5⟩ := b_and h1
      obtain ⟨h1, h4⟩ := b_and h1
      obtain ⟨h1, h3⟩ := b_and h1
      obtain ⟨h1, h2⟩ := b_and h1
      exact both_plain (ok_meth C (of_decide_eq_true h1) h2 h3 (snd_E c a _ X _ C h5).pe h6 (of_decide_eq_true h4) (snd_Es c es _ X _ C h6)) rfl
    · cases h
  | .mkx cl f es, w, X, p, C, h => by
    unfold ckE at h; split at h
    · obtain ⟨h, h5⟩ := b_and h
      obtain ⟨h, h4⟩ := b_and h
      obtain ⟨h, h3⟩ := b_and h
      obtain ⟨h1, h2⟩ := b_and h
      have h5 := of_decide_eq_true h5
      subst h5
      cases es with
      | nil => exact both_plain (ok_mkx0 C (of_decide_eq_true h1) h2 h3) rfl
      | cons => cases h4
    · obtain ⟨h, h5⟩ := b_and h
      obtain ⟨h, h4⟩ := b_and h
      obtain ⟨h, h3⟩ := b_and h
      obtain ⟨h1, h2⟩ := b_and h
      exact both_plain (ok_mkx1 C (of_decide_eq_true h1) h2 h3 (of_decide_eq_true h5) h4 (snd_Is c es _ X _ C h4)) rfl
    · cases h
  | .exf a f, w, X, p, C, h => by
    unfold ckE at h; split at h
    · obtain ⟨h1, h3⟩ := b_and h
      obtain ⟨h1, h2⟩ := b_and h1
      exact both_plain (ok_exf C (of_decide_eq_true h1) h2 (snd_E c a _ X _ C h3).pe) rfl
    · cases h
  | .isx a cs, w, X, p, C, h => by
    unfold ckE at h
    split at h
    · rename_i q x xp h1
      obtain ⟨h, g4⟩ := b_and h
      obtain ⟨h, g3⟩ := b_and h
      obtain ⟨g1, g2⟩ := b_and h
      obtain ⟨_, _, e, _⟩ := bcall2_ok h1
      exact both_plain (ok_isx C h1 (snd_E c a _ X _ C g1).pe (of_decide_eq_true g2) g3 g4) (by subst e; rfl)
    · cases h
  | .lockE k e, w, X, p, C, h => by
    unfold ckE at h
    obtain ⟨h1, h2⟩ := b_and h
    exact both_plain (ok_lockE (snd_E c e _ X p C h2).pe) (by cases p <;> first | rfl | cases h1)
theorem snd_Ps (c : Ctx) : ∀ (x : List E) (w : Wsh) (X : Cx) (ks : List (Option PySem.Expr)) (vs : List PySem.Expr) (pos : Pos), Cok X c → ckPs X.env.scope X.N x ks vs = true → PPs X pos ks vs (trs X.K c x)
  | [], w, X, ks, vs, pos, C, h => by
    unfold ckPs at h
    cases ks with
    | nil => cases vs with
      | nil => exact pps_nil
      | cons => cases h
    | cons => cases h
  | [_], w, X, ks, vs, pos, C, h => by unfold ckPs at h; cases h
  | k :: v :: r, w, X, ks, vs, pos, C, h => by
    unfold ckPs at h
    split at h
    · obtain ⟨h1, h3⟩ := b_and h
      obtain ⟨h1, h2⟩ := b_and h1
      exact pps_cons (snd_E c k _ X _ C h1).pe (snd_E c v _ X _ C h2).pe (snd_Ps c r _ X _ _ pos C h3)
    · cases h
theorem snd_Es (c : Ctx) : ∀ (x : List E) (w : Wsh) (X : Cx) (p : List PySem.Expr), Cok X c → ckEs X.env.scope X.N x p = true → PA X p (tEs X.K c x)
  | [], w, X, p, C, h => by
    unfold ckEs at h
    cases p with
    | nil => exact es_nil
    | cons => cases h
  | e :: es, w, X, p, C, h => by
    unfold ckEs at h
    split at h
    · obtain ⟨h1, h3⟩ := b_and h
      obtain ⟨h1, h2⟩ := b_and h1
      exact es_cons h2 (snd_E c e _ X _ C h1).pe (snd_Es c es _ X _ C h3)
    · cases h
theorem snd_Is (c : Ctx) : ∀ (x : List E) (w : Wsh) (X : Cx) (p : List PySem.Expr), Cok X c → ckEs X.env.scope X.N x p = true → PA X p (tIs X.K c x)
  | [], w, X, p, C, h => by
    unfold ckEs at h
    cases p with
    | nil => exact is_nil
    | cons => cases h
  | e :: es, w, X, p, C, h => by
    unfold ckEs at h
    split at h
    · obtain ⟨h1, h3⟩ := b_and h
      obtain ⟨h1, h2⟩ := b_and h1
      exact is_cons h2 (snd_E c e _ X _ C h1).pe (snd_Is c es _ X _ C h3)
    · cases h
theorem snd_O (c : Ctx) : ∀ (x : Option E) (w : Wsh) (X : Cx) (p : Option PySem.Expr), Cok X c → ckO X.env.scope X.N x p = true → PO X p (tO X.K c x)
  | none, w, X, p, C, h => by
    unfold ckO at h
    cases p with
    | none => exact o_none
    | some => cases h
  | some e, w, X, p, C, h => by
    unfold ckO at h
    split at h
    · exact o_some (snd_E c e _ X _ C h).pe
    · cases h
theorem snd_C (c : Ctx) : ∀ (x : Option E) (w : Wsh) (X : Cx) (p : List PySem.Expr), Cok X c → ckC X.env.scope X.N x p = true → PTs X p (tCnd X.K c x)
  | none, w, X, p, C, h => by
    unfold ckC at h
    cases p with
    | nil => exact ⟨fun pins s σ H Q I q => pts_nil.run pins s σ H Q I (by
        obtain ⟨T, s, ρ, rel, run⟩ := q
        exact run.leaf (k := kE) (b := true) rel (fun _ z => z) kE_anti rfl)⟩
    | cons => cases h
  | some e, w, X, p, C, h => by
    unfold ckC at h
    split at h
    · exact pts_one (snd_E c e _ X _ C h).pt
    · cases h
theorem snd_I (c : Ctx) : ∀ (x : CH.It) (w : Wsh) (X : Cx) (p t : PySem.Expr), Cok X c → ckI X.env.scope X.N x p = true → ∀ tg, tgE tg x = true → (∃ sc, ckT sc X.N tg t = true) → PI X t p (tI X.K c x)
  | .seq e, w, X, p, t, C, h, tg, _, _ => by
    unfold ckI at h
    exact ok_seq (snd_E c e _ X _ C h).pe
  | .chars e, w, X, p, t, C, h, tg, _, _ => by
    unfold ckI at h
    exact ok_chars (snd_E c e _ X _ C h).pe
  | .range1 a, w, X, p, t, C, h, tg, _, _ => by
    unfold ckI at h
    obtain ⟨q, h1, h2⟩ := on1_ok h
    exact ok_range1 C h1 (snd_E c a _ X _ C h2).pe
  | .range2 a b, w, X, p, t, C, h, tg, _, _ => by
    unfold ckI at h
    obtain ⟨q, q2, h1, h2, h3⟩ := on2_ok h
    exact ok_range2 C h1 (snd_E c a _ X _ C h2).pe (snd_E c b _ X _ C h3).pe
  | .range3 _ _ _, w, X, p, t, C, h, tg, _, _ => by unfold ckI at h; cases h
  | .enum e, w, X, p, t, C, h, tg, he, ht => by
    unfold ckI at h
    obtain ⟨q, h1, h2⟩ := on1_ok h
    obtain ⟨sc, ht⟩ := ht
    cases tg with
    | nm k => cases he
    | tp l =>
      unfold ckT at ht
      split at ht
      · exact ok_enum C h1 (snd_E c e _ X _ C h2).pe
      · cases ht
  | .zip a b, w, X, p, t, C, h, tg, he, ht => by
    unfold ckI at h
    obtain ⟨q, q2, h1, h2, h3⟩ := on2_ok h
    obtain ⟨sc, ht⟩ := ht
    cases tg with
    | nm k => cases he
    | tp l =>
      unfold ckT at ht
      split at ht
      · exact ok_zip C h1 (snd_E c a _ X _ C h2).pe (snd_E c b _ X _ C h3).pe
      · cases ht
  | .keys e, w, X, p, t, C, h, tg, _, _ => by
    unfold ckI at h
    exact ok_keys (snd_E c e _ X _ C h).pe
  | .rev e, w, X, p, t, C, h, tg, _, _ => by
    unfold ckI at h
    obtain ⟨q, h1, h2⟩ := on1_ok h
    exact ok_rev C h1 (snd_E c e _ X _ C h2).pe
end
end CH
namespace CH
open PySem PySem.Spec PyProof.Rows L2
variable [Wsh]
section
variable {K : PySem.W.Frag} {T : Addr → Prop} {s s1 s' : S} {σ σ1 σ' : Sg} {H H1 H' : Hp} {ρ ρ1 ρ' : List Addr} {pin : List Nat} {D : Ends}
/-- from one state of a def's body to a later one -/
structure Far (pin : List Nat) (T : Addr → Prop) (s : S) (σ : Sg) (H : Hp) (ρ : List Addr) (T' : Addr → Prop) (s' : S) (σ' : Sg) (H' : Hp) (ρ' : List Addr) : Prop where
  st : Stp H (Own s σ ρ) T H' (Own s' σ' ρ') T'
  pre : Pre ρ ρ'
  fix : Fix pin σ σ'
  len : σ'.length = σ.length
theorem Far.refl (r : Rel K T s σ H ρ) : Far pin T s σ H ρ T s σ H ρ := ⟨Stp.refl r.dis, Pre.refl _, Fix.refl _ _, rfl⟩
theorem Far.trans {s2 : S} {σ2 : Sg} {H2 : Hp} {ρ2 : List Addr} {T1 T2 : Addr → Prop} (a : Far pin T s σ H ρ T1 s1 σ1 H1 ρ1) (b : Far pin T1 s1 σ1 H1 ρ1 T2 s2 σ2 H2 ρ2) : Far pin T s σ H ρ T2 s2 σ2 H2 ρ2 :=
  ⟨a.st.trans b.st, a.pre.trans b.pre, a.fix.trans b.fix, b.len.trans a.len⟩
/-- an exception's way out of statements -/
def XcS (K : PySem.W.Frag) (pin : List Nat) (T : Addr → Prop) (s : S) (σ : Sg) (H : Hp) (ρ : List Addr) (c : String) (l : List CH.I) (s' : S) : Prop := ∀ cls d σ' H' ρ', Rel K T s' σ' H' ρ' → Far pin T s σ H ρ T s' σ' H' ρ' → RpX K H' (Uni (Own s' σ' ρ') T) ρ' c l cls d → Wsh.w cls d σ' H'
def RunS (K : PySem.W.Frag) (pin : List Nat) (T : Addr → Prop) (s : S) (σ : Sg) (H : Hp) (ρ : List Addr) (x : Res Fl) (D : Ends) : Prop := match x with
  | .ok .nx s' => ∀ σ' H' ρ', Rel K T s' σ' H' ρ' → Far pin T s σ H ρ T s' σ' H' ρ' → D.nx σ' H'
  | .ok (.rt d) s' => ∀ v σ' H' ρ', Rel K (Uni T (tOf (ofD d) v)) s' σ' H' ρ' → Far pin T s σ H ρ (Uni T (tOf (ofD d) v)) s' σ' H' ρ' → RpR K H' (Uni (Own s' σ' ρ') (Uni T (tOf (ofD d) v))) ρ' σ' (ofD d) v → (∀ b, tOf (ofD d) v b → ¬ T b) → D.rt v H'
  | .exc c l s' => XcS K pin T s σ H ρ c l s'
  | .bad => False
theorem RunS.from {x : Res Fl} (h : RunS K pin T s σ H ρ x D) (f : Far pin T s σ H ρ T s1 σ1 H1 ρ1) : RunS K pin T s1 σ1 H1 ρ1 x D := by
  cases x with
  | ok a s' =>
    cases a with
    | nx => exact fun σ' H' ρ' r g => h σ' H' ρ' r (f.trans g)
    | rt d => exact fun v σ' H' ρ' r g => h v σ' H' ρ' r (f.trans g)
  | exc _ _ _ => exact fun cls d σ' H' ρ' r g q => h cls d σ' H' ρ' r (f.trans g) q
  | bad => exact h
/-- what never raises -/
def NoX {α : Type} (x : Res α) : Prop := ∀ c l s, x ≠ .exc c l s
theorem asI_nx (x : R) (s : S) : NoX (asI x s) := fun c l s' e => by
  unfold asI at e
  split at e <;> first | (cases e; done) | (split at e <;> cases e)
theorem req_nx {α : Type} {b : Bool} {x : Res α} (h : NoX x) : NoX (Res.req b x) := fun c l s e => by
  unfold Res.req at e
  split at e
  · exact h c l s e
  · cases e
theorem bind_nx {α β : Type} {x : Res α} {f : α → S → Res β} (h : NoX x) (g : ∀ a s, NoX (f a s)) : NoX (x.bind f) := fun c l s e => by
  cases x with
  | ok a s1 => exact g a s1 c l s e
  | exc a b d => exact h a b d rfl
  | bad => cases e
theorem ok_nx {α : Type} (a : α) (s : S) : NoX (Res.ok a s) := fun _ _ _ e => by cases e
mutual
theorem bindT_nx : ∀ (pin : List Nat) (t : Tg) (i : CH.I) (s : S), NoX (bindT pin t i s)
  | pin, .nm k, i, s => by
    unfold bindT
    exact req_nx (ok_nx _ _)
  | pin, .tp ts, i, s => by
    unfold bindT
    split
    · exact req_nx (bindTs_nx pin ts _ s)
    · intro _ _ _ e; cases e
theorem bindTs_nx : ∀ (pin : List Nat) (t : List Tg) (i : List CH.I) (s : S), NoX (bindTs pin t i s)
  | pin, [], [], s => by unfold bindTs; exact ok_nx _ _
  | pin, [], _ :: _, s => by unfold bindTs; intro _ _ _ e; cases e
  | pin, _ :: _, [], s => by unfold bindTs; intro _ _ _ e; cases e
  | pin, t :: r, i :: l, s => by
    unfold bindTs
    exact bind_nx (bindT_nx pin t i s) fun _ s1 => bindTs_nx pin r l s1
end
theorem asgN_nx (pin : List Nat) (k : Nat) (x : R) (s : S) : NoX (asgN pin k x s) := by
  unfold asgN
  refine req_nx ?_
  cases x with
  | val i => exact ok_nx _ _
  | tmp o => exact ok_nx _ _
  | var j => exact bind_nx (asI_nx _ _) fun _ _ => ok_nx _ _
theorem asgT_nx (pin : List Nat) (t : Tg) (x : R) (s : S) : NoX (asgT pin t x s) := by
  have hL : ∀ ts, NoX (asgL pin ts x s) := fun ts => by
    unfold asgL
    split
    · exact req_nx (bindTs_nx _ _ _ _)
    · intro _ _ _ e; cases e
  unfold asgT
  split
  · exact asgN_nx _ _ _ _
  · split
    · exact bindT_nx _ _ _ _
    · exact req_nx (bindTs_nx _ _ _ _)
    · exact hL _
theorem asgNs_nx : ∀ (pin : List Nat) (ks : List Nat) (xs : List R) (s : S), NoX (asgNs pin ks xs s)
  | pin, [], [], s => ok_nx _ _
  | pin, [], _ :: _, s => fun _ _ _ e => by cases e
  | pin, _ :: _, [], s => fun _ _ _ e => by cases e
  | pin, k :: ks, x :: xs, s => by
    unfold asgNs
    cases x with
    | var j => intro _ _ _ e; cases e
    | val i => exact bind_nx (asgN_nx _ _ _ _) fun _ s1 => asgNs_nx pin ks xs s1
    | tmp i => exact bind_nx (asgN_nx _ _ _ _) fun _ s1 => asgNs_nx pin ks xs s1
theorem idxSet_nx (x y : R) (v : CH.I) (s : S) : NoX (idxSet x y v s) := fun _ _ _ e => by
  unfold idxSet at e
  split at e
  · split at e <;> cases e
  · cases e
theorem keySet_nx (x y : R) (v : CH.I) (s : S) : NoX (keySet x y v s) := by
  unfold keySet
  split
  · exact req_nx (ok_nx _ _)
  · intro _ _ _ e; cases e
theorem keySetT_nx (x : R) (l : List CH.I) (v : CH.I) (s : S) : NoX (keySetT x l v s) := by
  unfold keySetT
  split
  · exact req_nx (ok_nx _ _)
  · intro _ _ _ e; cases e
theorem RunS.okk {α : Type} {x : Res α} {f : α → S → Res Fl} (h : RunS K pin T s σ H ρ (x.bind f) D) (nx : NoX x) : ∃ a s1, x = .ok a s1 ∧ RunS K pin T s σ H ρ (f a s1) D := by
  cases x with
  | ok a s1 => exact ⟨a, s1, rfl, h⟩
  | exc c l s => exact absurd rfl (nx c l s)
  | bad => exact h.elim
/-- an expression first -/
theorem RunS.ex {α β : Type} {k : Kd α β} {x : Res α} {f : α → S → Res Fl} (h : RunS K pin T s σ H ρ (x.bind f) D) (r : Rel K T s σ H ρ) : Run k K T s σ H ρ x fun a b s1 H1 ρ1 => RunS K pin T s σ H ρ (f a s1) D ∧ Rel K (Uni T (k.tm a b)) s1 σ H1 ρ1 ∧ Far pin T s σ H ρ (Uni T (k.tm a b)) s1 σ H1 ρ1 ∧ k.rp K H1 (Uni (Own s1 σ ρ1) (Uni T (k.tm a b))) ρ1 σ a b ∧ (∀ c, k.tm a b c → ¬ T c) := by
  cases x with
  | ok a s1 => exact fun b H1 ρ1 r1 st1 p1 q1 d1 => ⟨h, r1, ⟨st1, p1, Fix.refl _ _, rfl⟩, q1, d1⟩
  | exc c l s1 => exact fun cls d H' ρ' r' st' p' q => h cls d σ H' ρ' r' ⟨st', p', Fix.refl _ _, rfl⟩ q
  | bad => exact h
/-- a further expression -/
theorem RunS.ex2 {α β : Type} {k : Kd α β} {U : Addr → Prop} {x : Res α} {f : α → S → Res Fl} (h : RunS K pin T s σ H ρ (x.bind f) D) (g : Far pin T s σ H ρ (Uni T U) s1 σ H1 ρ1) : Run k K (Uni T U) s1 σ H1 ρ1 x fun a b s2 H2 ρ2 => RunS K pin T s σ H ρ (f a s2) D := by
  cases x with
  | ok a s1 => exact fun b H1 ρ1 r1 st1 p1 q1 d1 => h
  | exc c l s1 => exact fun cls d H' ρ' r' st' p' q => h cls d σ H' ρ' (r'.drop fun _ z => .inl z) ⟨(g.st.trans st').drop (fun _ z => .inl z) fun _ z => z, g.pre.trans p', Fix.refl _ _, rfl⟩ (q.stay (Stay.less r'.mt fun z h => h.imp id .inl))
  | bad => exact h
theorem Far.drop {U : Addr → Prop} (f : Far pin T s σ H ρ (Uni T U) s1 σ1 H1 ρ1) : Far pin T s σ H ρ T s1 σ1 H1 ρ1 := ⟨f.st.drop (fun _ z => .inl z) fun _ z => z, f.pre, f.fix, f.len⟩
theorem RunS.req {b : Bool} {x : Res Fl} (h : RunS K pin T s σ H ρ (Res.req b x) D) : b = true ∧ RunS K pin T s σ H ρ x D := by
  cases b with
  | true => exact ⟨rfl, h⟩
  | false => exact h.elim
/-! ### assignments -/
theorem nopin {k : Nat} (h : (!pin.contains k) = true) : Fix pin σ (σ.set k v) := fun j hj => by
  have : j ≠ k := fun z => by
    subst z
    rw [List.contains_iff_mem.mpr hj] at h
    cases h
  rw [List.getElem?_set_ne (Ne.symm this)]
theorem Rel.setN (r : Rel K T s σ H ρ) {k : Nat} {i : CH.I} {v : V} (hk : k < s.env.length) (hp : (!pin.contains k) = true) (q : Rp K H (Uni (Own s σ ρ) T) ρ i v) :
    Rel K T (s.st k (.im i)) (σ.set k (some v)) H ρ ∧ Far pin T s σ H ρ T (s.st k (.im i)) (σ.set k (some v)) H ρ := by
  obtain ⟨a, b⟩ := r.setI hk q
  exact ⟨a, b, Pre.refl _, nopin hp, by rw [List.length_set]⟩
theorem asgN_ok {k : Nat} {u : R} {vu : V} (run : RunS K pin T s σ H ρ ((asgN pin k u s1).bind fun _ s2 => .ok .nx s2) D) (r : Rel K (Uni T (tOf u vu)) s1 σ H1 ρ1) (f : Far pin T s σ H ρ (Uni T (tOf u vu)) s1 σ H1 ρ1)
    (q : RpR K H1 (Uni (Own s1 σ ρ1) (Uni T (tOf u vu))) ρ1 σ u vu) (d : ∀ c, tOf u vu c → ¬ T c) : D.nx (σ.set k (some vu)) H1 := by
  obtain ⟨_, s2, ha, run⟩ := run.okk (asgN_nx _ _ _ _)
  unfold asgN at ha
  obtain ⟨h1, h2⟩ := Res.req_ok ha
  rw [Bool.and_eq_true] at h1
  have hk := of_decide_eq_true h1.2
  cases u with
  | val i =>
    cases h2
    have r0 := r.drop (T' := T) fun _ z => .inl z
    have q0 : Rp K H1 (Uni (Own s1 σ ρ1) T) ρ1 i vu := Rp.less q r.mt fun z h => h.imp id .inl
    obtain ⟨a, b⟩ := r0.setN hk h1.1 q0
    exact run _ _ _ a (f.drop.trans b)
  | tmp o =>
    cases h2
    obtain ⟨a, rfl, p⟩ := q
    obtain ⟨r2, o2⟩ := r.setO (T := T) hk p (.inr rfl) (fun b h => .inl h) (d a rfl)
    refine run _ _ _ r2 ⟨⟨f.st.keep, fun b h => ?_, fun b t w => (r2.tm b t).2 w, fun _ z => z, f.st.fz⟩, f.pre, f.fix.trans (nopin h1.1), by rw [List.length_set]⟩
    rcases h with h | h
    · rcases o2 b h with h | h
      · exact f.st.new b (.inl h)
      · subst h; exact f.st.new b (.inr (.inr rfl))
    · exact f.st.new b (.inr (.inl h))
  | var j =>
    obtain ⟨i, s3, hi, h2⟩ := Res.bind_eq_ok h2
    cases h2
    obtain ⟨r3, p3, o3⟩ := asI_ok r q d hi
    have hl : s3.env.length = s1.env.length := by rw [r3.len, r.len]
    obtain ⟨a, b⟩ := r3.setN (by rw [hl]; exact hk) h1.1 p3
    exact run _ _ _ a ((Far.mk (f.drop.st.less o3 (fun _ z => z) fun _ z => z) f.pre f.fix f.len).trans b)
/-- a target's places, of a tuple or a list -/
def gOfS (K : PySem.W.Frag) : Tg → TG
  | .nm k => gName k
  | .tp l => fun v σ H Q => gTup K l.length (gsOf K l) v σ H Q ∨ gUnl K l.length (gsOf K l) v σ H Q ∨ gTxt l.length (gsOf K l) v σ H Q
theorem pg_TS {X : Cx} {c : Ctx} {raw : Scope} (C : Cok X c) (hP : PgOk X raw) {t : Tg} {p : PySem.Expr} (h : ckT raw X.N t p = true) : PG X p (gOfS X.K t) := by
  cases t with
  | nm k => exact pg_T C hP h
  | tp l =>
    have h0 := pg_T C hP h
    unfold ckT at h
    split at h
    · obtain ⟨i1, i2⟩ := asg_len (env := X.env) h
      have h1 := pg_unl (pos := by assumption) (k := by assumption) C.calm (pgs_T C hP h) i1 i2
      have h2 := pg_txt (pos := by assumption) (k := by assumption) C.calm (pgs_T C hP h) i1 i2
      exact ⟨fun pins s σ H v u Q I r q => q.elim (h0.run pins s σ H v u Q I r) fun q => q.elim (h1.run pins s σ H v u Q I r) (h2.run pins s σ H v u Q I r)⟩
    · cases h
theorem rps_txt {K : PySem.W.Frag} {H : Hp} {W : Addr → Prop} {ρ : List Addr} : ∀ (l : List Nat), Rps K H W ρ (l.map fun c => .str [c]) (l.map fun c => V.str (mkS [c]))
  | [] => .nil
  | c :: l => .cons (.str [c]) (rps_txt l)
theorem asgT_ok {t : Tg} {u : R} {vu : V} (run : RunS K pin T s σ H ρ ((asgT pin t u s1).bind fun _ s2 => .ok .nx s2) D) (r : Rel K (Uni T (tOf u vu)) s1 σ H1 ρ1) (f : Far pin T s σ H ρ (Uni T (tOf u vu)) s1 σ H1 ρ1)
    (q : RpR K H1 (Uni (Own s1 σ ρ1) (Uni T (tOf u vu))) ρ1 σ u vu) (d : ∀ c, tOf u vu c → ¬ T c) : gOfS K t vu σ H1 D.nx := by
  cases t with
  | nm k => exact asgN_ok run r f q d
  | tp l =>
    obtain ⟨_, s2, ha, run2⟩ := run.okk (asgT_nx _ _ _ _)
    have lst : asgL pin l u s1 = .ok () s2 → gUnl K l.length (gsOf K l) vu σ H1 D.nx := by
      intro ha
      unfold asgL at ha
      split at ha
      · rename_i l' hv
        obtain ⟨h1, h2⟩ := Res.req_ok ha
        have h1 := of_decide_eq_true h1
        obtain ⟨a, vs, e1, e3, _, e2, _⟩ := viewQ_ok r q hv
        exact ⟨a, vs, e1, e2 rfl, by rw [← e3.length, h1], gsOf_ok h2 r e3 fun σ2 r2 st2 fx2 k2 => run2 _ _ _ (r2.drop fun _ z => .inl z) (f.trans ⟨st2, Pre.refl _, fx2, k2.ln⟩).drop⟩
      · cases ha
    cases u with
    | val i =>
      cases i with
      | tup l' =>
        have ha : bindT pin (.tp l) (.tup l') s1 = .ok () s2 := ha
        have r0 := r.drop (T' := T) fun _ z => .inl z
        have q0 : Rp K H1 (Uni (Own s1 σ ρ1) T) ρ1 (.tup l') vu := Rp.less q r.mt fun z h => h.imp id .inl
        exact .inl (gOf_ok (tg := .tp l) ha r0 (.inl q0) (fun _ => q0) fun σ2 r2 st2 fx2 k2 => run2 _ _ _ r2 (f.drop.trans ⟨st2, Pre.refl _, fx2, k2.ln⟩))
      | str l' =>
        obtain ⟨h1, h2⟩ := Res.req_ok (show Res.req (decide (l'.length = l.length)) (bindTs pin l (l'.map fun c => .str [c]) s1) = .ok () s2 from ha)
        have h1 := of_decide_eq_true h1
        cases q
        refine .inr (.inr ⟨l', rfl, h1, ?_⟩)
        exact gsOf_ok h2 r (rps_txt l') fun σ2 r2 st2 fx2 k2 => run2 _ _ _ (r2.drop fun _ z => .inl z) (f.trans ⟨st2, Pre.refl _, fx2, k2.ln⟩).drop
      | _ => exact .inr (.inl (lst ha))
    | tmp o => exact .inr (.inl (lst ha))
    | var k => exact .inr (.inl (lst ha))
/-- a slot's object is handed on -/
theorem Rel.take (r : Rel K T s σ H ρ) {k : Nat} {o : O} {a : Addr} (e : s.g k = some (.ob o)) (ea : σ[k]? = some (some (V.ref a))) :
    Rel K (Uni T fun b => V.ref a = V.ref b) { s with env := s.env.set k none } σ H ρ ∧ Stp H (Own s σ ρ) T H (Own { s with env := s.env.set k none } σ ρ) (Uni T fun b => V.ref a = V.ref b) ∧ RpA K H (Uni (Own { s with env := s.env.set k none } σ ρ) (Uni T fun b => V.ref a = V.ref b)) ρ o a ∧ ¬ T a := by
  have hl := S.g_lt e
  have gg : ∀ j d, ({ s with env := s.env.set k none } : S).g j = some d → j ≠ k ∧ s.g j = some d := fun j d h => by
    have h : (s.env.set k none).getD j none = some d := h
    rw [List.getD_eq_getElem?_getD] at h
    by_cases q : j = k
    · subst q; rw [List.getElem?_set_self hl] at h; cases h
    · rw [List.getElem?_set_ne (Ne.symm q), ← List.getD_eq_getElem?_getD] at h
      exact ⟨q, h⟩
  have ow : ∀ b, Own { s with env := s.env.set k none } σ ρ b → Own s σ ρ b := by
    rintro b (⟨j, o', h1, h2⟩ | h)
    · exact .inl ⟨j, o', (gg j _ h1).2, h2⟩
    · exact .inr h
  have oa : Own s σ ρ a := .inl ⟨k, o, e, ea⟩
  obtain ⟨a', y, pa, na⟩ := r.ob k o e
  rw [ea] at y; cases y
  have sub : ∀ b, Uni (Own { s with env := s.env.set k none } σ ρ) (Uni T fun b => V.ref a = V.ref b) b → Uni (Own s σ ρ) T b := fun b h =>
    h.elim (fun h => .inl (ow b h)) fun h => h.elim .inr fun h => by cases h; exact .inl oa
  have ls : Stay H (Uni (Own s σ ρ) T) ρ H (Uni (Own { s with env := s.env.set k none } σ ρ) (Uni T fun b => V.ref a = V.ref b)) ρ := Stay.less r.mt sub
  have noa : ¬ Own { s with env := s.env.set k none } σ ρ a := by
    rintro (⟨j, o', h1, h2⟩ | h)
    · obtain ⟨n, h3⟩ := gg j _ h1
      exact n (r.dj j k a _ _ h3 e h2 ea)
    · exact na h
  have nta : ¬ T a := fun t => (r.tm a t).2 oa
  refine ⟨⟨by show (s.env.set k none).length = _; rw [List.length_set]; exact r.len, fun j i h => ?_, fun j o' h => ?_, fun j m b o1 o2 h1 h2 h3 h4 => r.dj j m b o1 o2 (gg j _ h1).2 (gg m _ h2).2 h3 h4, r.hl, fun n o' b h1 h2 => (r.bx n o' b h1 h2).stay ls fun _ z => z, r.nd, fun b h => ⟨?_, fun w => ?_⟩⟩,
    ⟨fun b u h _ => h, fun b h => (sub b (h.elim .inl .inr)).imp id fun z => .inl z, fun b t w => (r.tm b t).2 (ow b w), fun _ z => .inl z, fun _ _ _ e => e⟩, pa.stay ls fun _ z => z, nta⟩
  · obtain ⟨v, e1, p⟩ := r.im j i (gg j _ h).2
    exact ⟨v, e1, p.stay ls⟩
  · obtain ⟨b, e1, p, n⟩ := r.ob j o' (gg j _ h).2
    exact ⟨b, e1, p.stay ls fun _ z => z, n⟩
  · rcases h with h | h
    · exact (r.tm b h).1
    · cases h
      obtain ⟨u, hu, ru⟩ := pa
      exact ⟨u, hu, ru.mut⟩
  · rcases h with h | h
    · exact (r.tm b h).2 (ow b w)
    · cases h; exact noa w
theorem retD_ok {u : R} {vu : V} (run : RunS K pin T s σ H ρ (retD pin u s1) D) (r : Rel K (Uni T (tOf u vu)) s1 σ H1 ρ1) (f : Far pin T s σ H ρ (Uni T (tOf u vu)) s1 σ H1 ρ1)
    (q : RpR K H1 (Uni (Own s1 σ ρ1) (Uni T (tOf u vu))) ρ1 σ u vu) (d : ∀ c, tOf u vu c → ¬ T c) : D.rt vu H1 := by
  cases u with
  | val i => exact run vu σ H1 ρ1 r f q d
  | tmp o => exact run vu σ H1 ρ1 r f q d
  | var k =>
    have r0 := r.drop (T' := T) fun _ z => .inl z
    have run : RunS K pin T s σ H ρ (if pin.contains k = true then (asI (.var k) s1).bind fun i s1 => .ok (.rt (.im i)) s1 else match s1.g k with
      | some (.ob o) => .ok (.rt (.ob o)) { s1 with env := s1.env.set k none }
      | _ => .bad) D := run
    split at run
    · obtain ⟨i, s2, hi, run⟩ := run.okk (asI_nx _ _)
      obtain ⟨r3, p3, o3⟩ := asI_ok r q d hi
      have sb : ∀ z, Uni T (tOf (ofD (.im i)) vu) z → T z := fun z h => h.elim id fun h => False.elim h
      refine run vu σ H1 ρ1 (r3.drop sb) ⟨f.st.less o3 (fun b h => .inl (sb b h)) fun _ z => .inl z, f.pre, f.fix, f.len⟩ (Rp.less p3 r3.mt fun b h => h.imp id (sb b)) fun b h => False.elim h
    · split at run
      · rename_i o ho
        have q' : σ[k]? = some (some vu) := q
        obtain ⟨a, y, _, _⟩ := r0.ob k o ho
        rw [y] at q'; cases q'
        obtain ⟨r2, st2, p2, n2⟩ := r0.take ho y
        refine run (.ref a) σ H1 ρ1 r2 (f.drop.trans ⟨st2, Pre.refl _, Fix.refl _ _, rfl⟩) ⟨a, rfl, p2⟩ fun b h t => ?_
        have h' : V.ref a = V.ref b := h
        cases h'
        exact n2 t
      · exact run.elim
end
end CH
namespace CH
open PySem PySem.Spec PyProof.Rows L2
variable [Wsh]
section
variable {K : PySem.W.Frag} {T V1 : Addr → Prop} {s s1 s2 : S} {σ σ1 : Sg} {H H1 : Hp} {ρ ρ1 : List Addr} {pin : List Nat} {D : Ends}
/-! ### names side by side -/
def setV (σ : Sg) : List Nat → List V → Sg
  | k :: ks, v :: vs => setV (σ.set k (some v)) ks vs
  | _, _ => σ
theorem RpR.sg {W : Addr → Prop} {σ' : Sg} {u : R} {v : V} (nv : ∀ j, u ≠ .var j) (h : RpR K H W ρ σ u v) : RpR K H W ρ σ' u v := by
  cases u with
  | val i => exact h
  | tmp o => exact h
  | var j => exact absurd rfl (nv j)
theorem asgN_step {k : Nat} {u : R} {vu : V} (nv : ∀ j, u ≠ .var j) (ha : asgN pin k u s1 = .ok () s2) (r : Rel K (Uni V1 (tOf u vu)) s1 σ1 H1 ρ1) (f : Far pin T s σ H ρ (Uni V1 (tOf u vu)) s1 σ1 H1 ρ1) (sub : ∀ b, T b → V1 b)
    (q : RpR K H1 (Uni (Own s1 σ1 ρ1) (Uni V1 (tOf u vu))) ρ1 σ1 u vu) (d : ∀ c, tOf u vu c → ¬ V1 c) :
    Rel K V1 s2 (σ1.set k (some vu)) H1 ρ1 ∧ Far pin T s σ H ρ V1 s2 (σ1.set k (some vu)) H1 ρ1 ∧ ∀ b, Own s2 (σ1.set k (some vu)) ρ1 b → Own s1 σ1 ρ1 b ∨ V1 b ∨ tOf u vu b := by
  unfold asgN at ha
  obtain ⟨h1, h2⟩ := Res.req_ok ha
  rw [Bool.and_eq_true] at h1
  have hk := of_decide_eq_true h1.2
  cases u with
  | val i =>
    cases h2
    have r0 := r.drop (T' := V1) fun _ z => .inl z
    have q0 : Rp K H1 (Uni (Own s1 σ1 ρ1) V1) ρ1 i vu := Rp.less q r.mt fun z h => h.imp id .inl
    obtain ⟨a, b⟩ := r0.setN (pin := pin) hk h1.1 q0
    have f0 : Far pin T s σ H ρ V1 s1 σ1 H1 ρ1 := ⟨f.st.drop (fun _ z => .inl z) sub, f.pre, f.fix, f.len⟩
    refine ⟨a, f0.trans b, fun x hx => ?_⟩
    rcases b.st.new x (.inl hx) with h | h | h
    · exact .inl h
    · exact .inr (.inl h)
    · have := a.mt x (.inl hx)
      rw [h] at this
      exact (this.elim id fun ⟨_, _, e⟩ => by cases e).elim
  | tmp o =>
    cases h2
    obtain ⟨a, rfl, p⟩ := q
    obtain ⟨r2, o2⟩ := r.setO (T := V1) hk p (.inr rfl) (fun b h => .inl h) (d a rfl)
    refine ⟨r2, ⟨⟨f.st.keep, fun b h => ?_, fun b t w => (r2.tm b (sub b t)).2 w, sub, f.st.fz⟩, f.pre, f.fix.trans (nopin h1.1), by rw [List.length_set]; exact f.len⟩, fun b h => ?_⟩
    · rcases h with h | h
      · rcases o2 b h with h | h
        · exact f.st.new b (.inl h)
        · subst h; exact f.st.new b (.inr (.inr rfl))
      · exact f.st.new b (.inr (.inl h))
    · rcases o2 b h with h | h
      · exact .inl h
      · subst h; exact .inr (.inr rfl)
  | var j => exact absurd rfl (nv j)
theorem asgNs_ok : ∀ (ks : List Nat) (xs : List R) (vs : List V) {σ0 σ1 : Sg} {s1 s2 : S}, asgNs pin ks xs s1 = .ok () s2 → Rel K (Uni T (tOfs xs vs)) s1 σ1 H1 ρ1 → Far pin T s σ H ρ (Uni T (tOfs xs vs)) s1 σ1 H1 ρ1 →
    RpRs K H1 (Uni (Own s1 σ1 ρ1) (Uni T (tOfs xs vs))) ρ1 σ0 xs vs → (∀ c, tOfs xs vs c → ¬ T c) → Rel K T s2 (setV σ1 ks vs) H1 ρ1 ∧ Far pin T s σ H ρ T s2 (setV σ1 ks vs) H1 ρ1 ∧ ks.length = vs.length
  | [], [], vs, σ0, σ1, s1, s2, h, r, f, q, d => by
    cases q
    cases h
    exact ⟨r.drop fun _ z => .inl z, f.drop, rfl⟩
  | [], _ :: _, vs, σ0, σ1, s1, s2, h, r, f, q, d => by unfold asgNs at h; cases h
  | _ :: _, [], vs, σ0, σ1, s1, s2, h, r, f, q, d => by unfold asgNs at h; cases h
  | k :: ks, x :: xs, vs, σ0, σ1, s1, s2, h, r, f, q, d => by
    cases q with
    | cons qx qs dd =>
    rename_i v vs
    have hx : (∀ j, x ≠ .var j) ∧ ((asgN pin k x s1).bind fun _ s1 => asgNs pin ks xs s1) = .ok () s2 := by
      cases x with
      | val i => exact ⟨fun j => R.noConfusion, h⟩
      | tmp i => exact ⟨fun j => R.noConfusion, h⟩
      | var i => cases h
    obtain ⟨nv, hx⟩ := hx
    obtain ⟨_, s3, ha, hb⟩ := Res.bind_eq_ok hx
    have e1 : ∀ b, Uni (Uni T (tOfs xs vs)) (tOf x v) b → Uni T (tOfs (x :: xs) (v :: vs)) b := fun b g => g.elim (fun g => g.elim .inl fun z => .inr (.inr z)) fun z => .inr (.inl z)
    have f' : Far pin T s σ H ρ (Uni (Uni T (tOfs xs vs)) (tOf x v)) s1 σ1 H1 ρ1 := ⟨f.st.drop e1 fun b t => .inl (.inl t), f.pre, f.fix, f.len⟩
    obtain ⟨r2, f2, o2⟩ := asgN_step nv ha (r.drop e1) f' (fun b t => .inl t) ((qx.sg (σ' := σ1) nv).less r.mt fun b g => g.imp id (e1 b)) (fun c hc hv => hv.elim (fun t => d c (.inl hc) t) fun t => dd c hc t)
    have w2 : ∀ b, Uni (Own s3 (σ1.set k (some v)) ρ1) (Uni T (tOfs xs vs)) b → Uni (Own s1 σ1 ρ1) (Uni T (tOfs (x :: xs) (v :: vs))) b := by
      intro b g
      rcases g with g | g
      · rcases o2 b g with g | g | g
        · exact .inl g
        · exact .inr (e1 b (.inl g))
        · exact .inr (e1 b (.inr g))
      · exact .inr (e1 b (.inl g))
    obtain ⟨r3, f3, l3⟩ := asgNs_ok ks xs vs hb r2 f2 (qs.less r.mt w2) fun c hc => d c (.inr hc)
    exact ⟨r3, f3, by rw [List.length_cons, List.length_cons, l3]⟩
theorem locC_up {sc : Scope} {x : Str} (h : locC sc x = true) : sc.names.lookup x = some .local := by
  unfold locC at h
  split at h
  · assumption
  · cases h
theorem star_any : ∀ {l : List PySem.Expr}, (∀ e ∈ l, notStar e = true) → ¬ ((l.any fun t => match t with | .Starred .. => true | _ => false) = true)
  | [], _ => by simp
  | a :: r, h => by
    intro g
    rw [List.any_cons, Bool.or_eq_true] at g
    rcases g with g | g
    · have ha := h a (by simp)
      cases a <;> first | exact Bool.noConfusion g | exact Bool.noConfusion ha
    · exact star_any (fun e he => h e (by simp [he])) g
theorem swap2 {env : Env} {x y : Str} {px py pt pt2 : Pos} {kt k2} {a b : PySem.Expr} (hk : env.scope.kind = .function) (hx : locC env.scope x = true) (hy : locC env.scope y = true) (hl : (px.line == py.line) = true) (hxy : x ≠ y)
    (ha : notStar a = true) (hb : notStar b = true) (h1 : ([a, b].all (foldedForSure 8)) = false) (h2 : ([a, b].all (constantsAlone 8)) = false) : swappedStores [.Tuple [.Name x px, .Name y py] kt pt] (.Tuple [a, b] k2 pt2) env = pure (some [x, y]) := by
  have e1 := locC_up hx
  have e2 := locC_up hy
  have e3 : py.line = px.line := (beq_iff_eq.mp hl).symm
  have hyx : ¬ y = x := fun e => hxy e.symm
  unfold swappedStores
  dsimp only [List.length_cons, List.length_nil]
  refine (if_neg (by simp [Env.blockKind, hk, ScopeKind.isAnnotationScope])).trans ?_
  refine (if_neg (star_any (l := [a, b]) (by simp [ha, hb]))).trans ?_
  refine (if_neg (by simp [Env.kindOf, e1, e2, e3, Expr.pos, List.eraseDups_cons, hyx])).trans ?_
  refine (if_neg (by rw [h1]; decide)).trans ?_
  refine (if_neg (by rw [h2]; decide)).trans ?_
  simp [Env.kindOf, e1, e2, e3, Expr.pos]
theorem swap3 {env : Env} {x y z : Str} {px py pz pt pt2 : Pos} {kt k2} {a b d : PySem.Expr} (hk : env.scope.kind = .function) (hx : locC env.scope x = true) (hy : locC env.scope y = true) (hz : locC env.scope z = true) (hl : (px.line == py.line) = true) (hl2 : (px.line == pz.line) = true) (hxy : x ≠ y ∧ x ≠ z ∧ y ≠ z)
    (ha : notStar a = true) (hb : notStar b = true) (hd : notStar d = true) (h1 : ([a, b, d].all (foldedForSure 8)) = false) (h2 : ([a, b, d].all (constantsAlone 8)) = false) : swappedStores [.Tuple [.Name x px, .Name y py, .Name z pz] kt pt] (.Tuple [a, b, d] k2 pt2) env = pure (some [x, y, z]) := by
  have e1 := locC_up hx
  have e2 := locC_up hy
  have e5 := locC_up hz
  have e3 : py.line = px.line := (beq_iff_eq.mp hl).symm
  have e4 : pz.line = px.line := (beq_iff_eq.mp hl2).symm
  have hyx : ¬ y = x := fun e => hxy.1 e.symm
  have hzx : ¬ z = x := fun e => hxy.2.1 e.symm
  have hzy : ¬ z = y := fun e => hxy.2.2 e.symm
  unfold swappedStores
  dsimp only [List.length_cons, List.length_nil]
  refine (if_neg (by simp [Env.blockKind, hk, ScopeKind.isAnnotationScope])).trans ?_
  refine (if_neg (star_any (l := [a, b, d]) (by simp [ha, hb, hd]))).trans ?_
  refine (if_neg (by simp [Env.kindOf, e1, e2, e5, e3, e4, Expr.pos, List.eraseDups_cons, hyx, hzx, hzy])).trans ?_
  refine (if_neg (by rw [h1]; decide)).trans ?_
  refine (if_neg (by rw [h2]; decide)).trans ?_
  simp [Env.kindOf, e1, e2, e5, e3, e4, Expr.pos]
end
section
variable {X : Cx} {c : Ctx}
theorem par_to {ks : List Nat} {es : List E} : ∀ D σ H, (∃ pin T s ρ, Rel X.K T s σ H ρ ∧ RunS X.K pin T s σ H ρ (exS c pin (.par ks es) s) D) → tEs X.K c es σ H fun vs H1 => ks.length = vs.length ∧ D.nx (setV σ ks vs) H1 := by
  intro D σ H ⟨pin, T, s, ρ, rel, run⟩
  have hx : exS c pin (.par ks es) s = (evEs c es s).bind fun xs s1 => (asgNs pin ks xs s1).bind fun _ s2 => .ok .nx s2 := rfl
  rw [hx] at run
  refine ⟨T, s, ρ, rel, (run.ex (k := kRs) rel).mono fun xs vs s1 H1 ρ1 _ _ _ _ _ ⟨run1, r1, f1, q1, d1⟩ => ?_⟩
  obtain ⟨_, s2, ha, run2⟩ := run1.okk (asgNs_nx _ _ _ _)
  obtain ⟨r3, f3, l3⟩ := asgNs_ok ks xs vs ha r1 f1 q1 d1
  exact ⟨l3, run2 _ _ _ r3 f3⟩
/-- a, b = .. as the text has it -/
def parC (sc : Scope) (N : List Str) (ks : List Nat) (es : List E) (tg v : PySem.Expr) : Bool := match tg, v, ks with
  | .Tuple [.Name x px, .Name y py] _ _, .Tuple [a, b] _ _, [i, j] => decide (N[i]? = some x) && decide (N[j]? = some y) && decide (i ≠ j) && locC sc x && locC sc y && (px.line == py.line) && decide (x ≠ y) && ckEs sc N es [a, b] && notStar a && notStar b && !([a, b].all (foldedForSure 8)) && !([a, b].all (constantsAlone 8))
  | .Tuple [.Name x px, .Name y py, .Name z pz] _ _, .Tuple [a, b, d] _ _, [i, j, l] => decide (N[i]? = some x) && decide (N[j]? = some y) && decide (N[l]? = some z) && decide (i ≠ j ∧ i ≠ l ∧ j ≠ l) && locC sc x && locC sc y && locC sc z && (px.line == py.line) && (px.line == pz.line) && decide (x ≠ y ∧ x ≠ z ∧ y ≠ z) && ckEs sc N es [a, b, d] && notStar a && notStar b && notStar d && !([a, b, d].all (foldedForSure 8)) && !([a, b, d].all (constantsAlone 8))
  | _, _, _ => false
end
end CH
namespace CH
open PySem PySem.Spec PyProof.Rows L2
variable [Wsh]
def lcC (sc : Scope) (t v : PySem.Expr) : Bool := match v with
  | .ListComp _ _ scope pos => match t with
    | .Name y py => decide (sc.names.lookup y = some .cell) || ((match sc.names.lookup y with | some .local => true | _ => false) && (py.line == pos.line) && !(scope.names.any fun (n, k) => n == y && (k == .local || k == .cell)))
    | .Tuple _ _ _ => true
    | _ => false
  | _ => notLc v
def nameLoc (sc : Scope) : PySem.Expr → Bool
  | .Name x _ => locC sc x
  | _ => false
def tupC (sc : Scope) (t v : PySem.Expr) : Bool := match t with
  | .Name _ _ => true
  | .Tuple ts _ _ => (match v with | .Tuple vs _ _ => !(ts.all (nameLoc sc)) || vs.all (foldedForSure 8) | _ => true)
  | _ => false
mutual
def ckS (sc : Scope) (N : List Str) : Sm → Stmt → Bool
  | .asg t e, p => match p with
    | .Assign [tg] v _ => ckT sc N t tg && ckE sc N e v && lcC sc tg v && tupC sc tg v
    | _ => false
  | .par ks es, p => match p with
    | .Assign [tg] v _ => parC sc N ks es tg v
    | _ => false
  | .sub a i e, p => match p with
    | .Assign [.Subscript o x _] v _ => ckE sc N e v && ckE sc N a o && ckE sc N i x && notLc v && notSlice x
    | _ => false
  | .sbd a i e, p => match p with
    | .Assign [.Subscript o x _] v _ => ckE sc N e v && ckE sc N a o && ckE sc N i x && notLc v && notSlice x
    | _ => false
  | .sbt a es e, p => match p with
    | .Assign [.Subscript o (.Tuple ps _ _) _] v _ => ckE sc N e v && ckE sc N a o && ckEs sc N es ps && notLc v
    | _ => false
  | .sb2 a i b j e, p => match p with
    | .Assign [.Tuple [.Subscript o x _, .Subscript o2 x2 _] _ _] v _ => ckE sc N e v && ckE sc N a o && ckE sc N i x && ckE sc N b o2 && ckE sc N j x2 && notLc v && notSlice x && notSlice x2
    | _ => false
  | .expr e, p => match p with
    | .Expr v _ => ckE sc N e v && notLc v
    | _ => false
  | .ret e, p => match p with
    | .Return (some v) _ => ckE sc N e v
    | _ => false
  | .retN, p => match p with
    | .Return none _ => true
    | _ => false
  | .ite d t e, p => match p with
    | .If x a b _ => ckE sc N d x && ckSs sc N t a && ckSs sc N e b
    | _ => false
  | .for t it b, p => match p with
    | .For tg x body [] _ => ckT sc N t tg && ckI sc N it x && ckSs sc N b body && notSet x && tgE t it
    | _ => false
  | .while d b, p => match p with
    | .While x body [] _ => ckE sc N d x && ckSs sc N b body
    | _ => false
  | .pass, p => match p with
    | .Pass _ => true
    | _ => false
  | .raise cl f es, p => match p with
    | .Raise (some (.Call (.Name x _) [] [] _)) none _ => decide (x = Str.ofString cl) && glC sc x && nameOk x && es.isEmpty && decide (f = [])
    | .Raise (some (.Call (.Name x _) [q] [] _)) none _ => decide (x = Str.ofString cl) && glC sc x && nameOk x && ckEs sc N es [q] && decide (f ≠ [])
    | _ => false
  | .fset a f e, p => match p with
    | .Assign [.Attribute o m _] v _ => decide (m = Str.ofString f) && ckE sc N e v && ckE sc N a o && notLc v
    | _ => false
  | .lock _ b, p => ckS sc N b p
  | .tryx _ _, _ => false
def ckSs (sc : Scope) (N : List Str) : List Sm → List Stmt → Bool
  | [], p => p.isEmpty
  | a :: r, p => match p with
    | q :: t => ckS sc N a q && ckSs sc N r t
    | _ => false
end
def tS (K : PySem.W.Frag) (c : Ctx) (a : Sm) : TS := fun D σ H => ∃ pin T s ρ, Rel K T s σ H ρ ∧ RunS K pin T s σ H ρ (exS c pin a s) D
def tSs (K : PySem.W.Frag) (c : Ctx) (a : List Sm) : TS := fun D σ H => ∃ pin T s ρ, Rel K T s σ H ρ ∧ RunS K pin T s σ H ρ (exSs c pin a s) D
theorem PSi {X : Cx} {e : Stmt} {t t' : TS} (h : PS X e t) (w : ∀ D σ H, t' D σ H → t D σ H) : PS X e t' := ⟨fun pins s σ H D I q => h.run pins s σ H D I (w D σ H q)⟩
theorem PSsi {X : Cx} {e : List Stmt} {t t' : TS} (h : PSs X e t) (w : ∀ D σ H, t' D σ H → t D σ H) : PSs X e t' := ⟨fun pins s σ H D I q => h.run pins s σ H D I (w D σ H q)⟩
section
variable {X : Cx} {c : Ctx}
theorem swap_no {e : PySem.Expr} {t : Option PySem.Expr} {l : Nat} {env : Env} (h : notLc e = true) : swapsWith e t l env = pure false := by
  cases e <;> first | rfl | cases h
theorem swap_one {e t : PySem.Expr} {l : Nat} {env : Env} (h : notLc e = true) : swapsWithSole [t] e l env = pure false := swap_no h
theorem asg_sub {o x : PySem.Expr} {pos : Pos} {env : Env} (h : notSlice x = true) : ∀ v, assign (.Subscript o x pos) env v = (do
      let ov ← holding [v] (eval o env)
      let iv ← holding [v, ov] (eval x env)
      standAt pos
      holding [v, ov, iv] (setItem ov iv v)
      release [v, ov, iv] []) := by
  intro v
  cases x <;> first | rfl | cases h
theorem fm_len {α β : Type} {f : α → Option β} : ∀ (l : List α), (l.filterMap f).length = l.length → ∀ a ∈ l, (f a).isSome = true
  | [], _, a, h => by cases h
  | b :: r, h, a, ha => by
    have le := List.length_filterMap_le f r
    cases hb : f b with
    | none =>
      rw [List.filterMap_cons_none hb, List.length_cons] at h
      omega
    | some y =>
      rw [List.filterMap_cons_some hb, List.length_cons, List.length_cons] at h
      rcases List.mem_cons.mp ha with e | ha
      · rw [e, hb]; rfl
      · exact fm_len r (by omega) a ha
theorem swapped_no {t e : PySem.Expr} {env : Env} (h : tupC env.scope t e = true) : swappedStores [t] e env = pure none := by
  cases t with
  | Tuple ts k p =>
    cases e with
    | Tuple vs k2 p2 =>
      have h : (!(ts.all (nameLoc env.scope)) || vs.all (foldedForSure 8)) = true := h
      rw [Bool.or_eq_true] at h
      rcases h with h | h
      rotate_left
      · unfold swappedStores
        dsimp only
        split
        · rfl
        split
        · rfl
        split
        · rfl
        rfl
      unfold swappedStores
      dsimp only
      split
      · rfl
      split
      · rfl
      refine (if_pos ?_).trans rfl
      rw [Bool.or_eq_true]
      left
      rw [bne_iff_ne]
      intro el
      have al := fm_len _ el
      have : ts.all (nameLoc env.scope) = true := List.all_eq_true.mpr fun x hx => by
        have := al x hx
        cases x with
        | Name id pos =>
          dsimp only at this
          split at this
          · rename_i hc
            rw [Bool.and_eq_true, beq_iff_eq] at hc
            show locC env.scope id = true
            have lk : env.scope.names.lookup id = some .local := hc.1
            unfold locC
            rw [lk]
          · cases this
        | _ => cases this
      rw [this] at h
      cases h
    | _ => rfl
  | Name _ _ => rfl
  | _ => cases h
theorem tup_no {sc : Scope} {ts : List PySem.Expr} {k p} {v : PySem.Expr} (h : ts.all (nameLoc sc) = false) : tupC sc (.Tuple ts k p) v = true := by
  unfold tupC
  dsimp only
  split
  · rw [h]; rfl
  · rfl
theorem asg_one {sc : Scope} {t e : PySem.Expr} {env : Env} (h : tupC sc t e = true) : (assignEach [t] env).map (·.2) = [assign t env] := by
  cases t <;> first | rfl | cases h
theorem asg_w {t : Tg} {e : E} : ∀ D σ H, tS X.K c (.asg t e) D σ H → tAsg (tE X.K c e) (gOfS X.K t) D σ H := by
  intro D σ H ⟨pin, T, s, ρ, rel, run⟩
  have hx : exS c pin (.asg t e) s = (evE c e s).bind fun x s1 => (asgT pin t x s1).bind fun _ s2 => .ok .nx s2 := rfl
  rw [hx] at run
  exact ⟨T, s, ρ, rel, (run.ex (k := kR) rel).mono fun u vu s1 H1 ρ1 _ _ _ _ _ ⟨run1, r1, f1, q1, d1⟩ => asgT_ok run1 r1 f1 q1 d1⟩
theorem comp_inv {sc : Scope} {N : List Str} {el : PySem.Expr} {gs : List Comprehension} {scope : Scope} {p2 : Pos} {x : E} (h : ckE sc N x (.ListComp el gs scope p2) = true) :
    ∃ own tg it cs el' t i ifs ow, x = .comp own tg it cs el' ∧ gs = [⟨t, i, ifs, 0⟩] ∧ ownC N own = some ow ∧ blkC N sc scope ow = true ∧ ckI sc N it i = true ∧ notSet i = true ∧ ckT scope N tg t = true ∧ (tgN tg).all own.contains = true ∧ tgE tg it = true ∧ ckC (relS scope sc) N cs ifs = true ∧ ckE (relS scope sc) N el' el = true := by
  cases x with
  | comp own tg it cs el' =>
    unfold ckE at h
    split at h
    · rename_i heq
      cases heq
      obtain ⟨h, g8⟩ := b_and h
      obtain ⟨h, g7⟩ := b_and h
      obtain ⟨h, g6⟩ := b_and h
      obtain ⟨h, g5⟩ := b_and h
      obtain ⟨h, g4⟩ := b_and h
      obtain ⟨h, g3'⟩ := b_and h
      obtain ⟨g1', g2'⟩ := b_and h
      split at g1'
      · exact ⟨_, _, _, _, _, _, _, _, _, rfl, rfl, by assumption, g1', g2', g3', g4, g5, g6, g7, g8⟩
      · cases g1'
    · cases h
  | cst i => unfold ckE at h; cases i <;> cases h
  | _ => unfold ckE at h; cases h
theorem swap_cell {el : PySem.Expr} {gs : List Comprehension} {scope : Scope} {p2 py : Pos} {y : Str} {l : Nat} {env : Env} (h : env.scope.names.lookup y = some .cell) : swapsWith (.ListComp el gs scope p2) (some (.Name y py)) l env = pure false := by
  have e : env.kindOf y = some .cell := h
  unfold swapsWith
  simp only [e]
  have n1 : (some NameKind.cell == some NameKind.local) = false := by decide
  simp only [n1, Bool.and_false, Bool.false_and]
theorem ok_asg (C : Cok X c) {raw : Scope} (hP : PgOk X raw) {t : Tg} {e : E} {tg v : PySem.Expr} {pos : Pos} (h1 : ckT raw X.N t tg = true) (h2 : ckE X.env.scope X.N e v = true) (h3 : lcC X.env.scope tg v = true) (h4 : tupC X.env.scope tg v = true) : PS X (.Assign [tg] v pos) (tS X.K c (.asg t e)) := by
  refine PSi ?_ asg_w
  by_cases hl : notLc v = true
  · exact ps_asg (snd_E c e _ X v C h2).pe (pg_TS C hP h1) (by show swapsWith v (some tg) pos.line X.env = pure false; exact swap_no hl) (swapped_no h4) (asg_one h4)
  · cases v with
    | ListComp el gs scope p2 =>
      unfold lcC at h3
      simp only at h3
      split at h3
      · rename_i y py
        rw [Bool.or_eq_true] at h3
        rcases h3 with h3 | h3
        · exact ps_asg (snd_E c e _ X _ C h2).pe (pg_TS C hP h1) (swap_cell (l := pos.line) (of_decide_eq_true h3)) (swapped_no h4) (asg_one h4)
        obtain ⟨h3, g3⟩ := b_and h3
        obtain ⟨g1, g2⟩ := b_and h3
        have hy : X.env.scope.names.lookup y = some .local := by
          split at g1
          · assumption
          · cases g1
        have hk : ∃ k, t = .nm k ∧ X.N[k]? = some y := by
          cases t with
          | nm k =>
            unfold ckT at h1
            exact ⟨k, rfl, of_decide_eq_true (b_and h1).1⟩
          | tp l => unfold ckT at h1; cases h1
        obtain ⟨k, rfl, hN⟩ := hk
        obtain ⟨own, tg, it, cs, el', t, i, ifs, ow, rfl, rfl, how, g1', g2', g3', g4, g5, g6, g7, g8⟩ := comp_inv h2
        have ok := blkOk_by g1'
        have e' := ownC_ok how
        refine PSi (ps_setLc (own := ow) (wi := tI X.K c it) (g := gOf X.K tg) (tt := @tCnd WN X.K c cs) (te := @tE WN X.K c el') C.calm C.nd hN hy (sw_true C.kd hy g2 (by simpa using g3)) (snd_I c it _ X i t C g2' tg g6 ⟨scope, g4⟩) ok (fun s H Ca cl fp => @pg_T WN _ _ _ (C.blk ok s H Ca cl fp) (pg_blk s H Ca cl fp) _ _ g4) (fun s H Ca cl fp => snd_C c cs WN _ ifs (C.blk ok s H Ca cl fp) g7)
          (fun s H Ca cl fp => @Both.pe WN _ _ _ _ (snd_E c el' WN _ el (C.blk ok s H Ca cl fp) g8)) (fold_of g3')) ?_
        intro D σ H q
        show tLc _ _ _ _ _ σ H _
        rw [e']
        exact comp_ok (fun k hk => List.contains_iff_mem.mp (List.all_eq_true.mp g5 k hk)) g6 σ H _ q
      · exact ps_asg (snd_E c e _ X _ C h2).pe (pg_TS C hP h1) (by rfl) (swapped_no h4) (asg_one h4)
      · cases h3
    | SetComp _ _ _ _ => unfold lcC notLc at h3; cases h3
    | DictComp _ _ _ _ _ => unfold lcC notLc at h3; cases h3
    | _ => exact absurd rfl hl
theorem sub_w {a i e : E} : ∀ D σ H, tS X.K c (.sub a i e) D σ H → tAsg (tE X.K c e) (gSub (tE X.K c a) (tE X.K c i) rSetL) D σ H := by
  intro D σ H ⟨pin, T, s, ρ, rel, run⟩
  have hx : exS c pin (.sub a i e) s = (evE c e s).bind fun x s1 => (asI x s1).bind fun v s2 => (evE c a s2).bind fun r s3 => (evE c i s3).bind fun y s4 => (idxSet r y v s4).bind fun _ s5 => .ok .nx s5 := rfl
  rw [hx] at run
  refine ⟨T, s, ρ, rel, (run.ex (k := kR) rel).mono fun u vu s1 H1 ρ1 _ _ _ _ _ ⟨run1, r1, f1, q1, d1⟩ => ?_⟩
  obtain ⟨v, s2, hv, run2⟩ := run1.okk (asI_nx _ _)
  obtain ⟨r2, p2, o2⟩ := asI_ok r1 q1 d1 hv
  have f2 : Far pin T s σ H ρ T s2 σ H1 ρ1 := ⟨f1.st.less o2 (fun _ z => .inl z) fun _ z => z, f1.pre, f1.fix, f1.len⟩
  have run2 := run2.from f2
  refine ⟨T, s2, ρ1, r2, (run2.ex (k := kR) r2).mono fun b vb s3 H3 ρ3 _ _ _ _ _ ⟨run3, r3, f3, q3, d3⟩ => ?_⟩
  refine ⟨_, s3, ρ3, r3, (run3.ex2 (k := kR) f3).mono fun y vy s4 H4 ρ4 r4 st4 p4 q4 d4 run4 => ?_⟩
  obtain ⟨_, s5, hs, run5⟩ := run4.okk (idxSet_nx _ _ _ _)
  have p2' : Rp X.K H4 (Uni (Own s4 σ ρ4) (Uni (Uni T (kR.tm b vb)) (kR.tm y vy))) ρ4 v vu := (p2.grow f3.st r2 f3.pre).grow st4 r3 p4
  have qb := q3.stay st4 r3 p4 fun a h => .inr h
  unfold idxSet at hs
  split at hs
  · rename_i l i0 hl
    cases rpInt (σ := σ) q4
    obtain ⟨a0, vs, rfl, ha, r6, put⟩ := ownL_ok r4 qb hl
    split at hs
    · rename_i j hj
      cases hs
      obtain ⟨rr, st5⟩ := put (l.set j v) (vs.set j vu) (r6.set p2' j)
      refine ⟨a0, vs, i0, j, rfl, rfl, ha, by rw [← r6.length]; exact hj, ?_⟩
      have st6 := (f3.st.trans st4).trans st5
      exact run5 σ _ ρ4 (rr.drop fun z h => .inl (.inl h)) ⟨st6.drop (fun z h => .inl (.inl h)) fun _ z => z, f3.pre.trans p4, Fix.refl _ _, rfl⟩
    · cases hs
  · cases hs
theorem ownD_ok {K : PySem.W.Frag} {T : Addr → Prop} {s : S} {σ : Sg} {H : Hp} {ρ : List Addr} (r : Rel K T s σ H ρ) {x : R} {v : V} (q : RpR K H (Uni (Own s σ ρ) T) ρ σ x v) {t : Bool} {l : List (CH.I × CH.I)} (e : ownD x s = some (t, l)) :
    viewD x s = some (t, l) ∧ ∀ (a : Addr), v = .ref a → ∀ (o' : O) (u' : HO), RpO K H (Uni (Own s σ ρ) T) ρ o' u' → Rel K T (putO x o' s) σ (upd H a u') ρ ∧ Stp H (Own s σ ρ) T (upd H a u') (Own (putO x o' s) σ ρ) T := by
  unfold ownD at e
  split at e
  · split at e
    · rename_i n t' l' hn
      cases e
      refine ⟨by unfold viewD; simp only [hn], fun a ea o' u' h => ?_⟩
      subst ea
      cases q with
      | ref ha => exact r.putB hn ha h (fun _ e => nomatch e)
    · cases e
  · split at e
    · rename_i k t' l' hk
      cases e
      refine ⟨by unfold viewD; simp only [hk], fun a ea o' u' h => ?_⟩
      subst ea
      exact r.putS hk q h (fun _ e => nomatch e)
    · cases e
  · cases e
theorem sbd_w {a i e : E} : ∀ D σ H, tS X.K c (.sbd a i e) D σ H → sDPut (tE X.K c a) (tE X.K c i) (tE X.K c e) D σ H := by
  intro D σ H ⟨pin, T, s, ρ, rel, run⟩
  have hx : exS c pin (.sbd a i e) s = (evE c e s).bind fun x s1 => (asI x s1).bind fun v s2 => (evE c a s2).bind fun r s3 => (evE c i s3).bind fun y s4 => (keySet r y v s4).bind fun _ s5 => .ok .nx s5 := rfl
  rw [hx] at run
  refine ⟨T, s, ρ, rel, (run.ex (k := kR) rel).mono fun u vu s1 H1 ρ1 _ _ _ _ _ ⟨run1, r1, f1, q1, d1⟩ => ?_⟩
  obtain ⟨v, s2, hv, run2⟩ := run1.okk (asI_nx _ _)
  obtain ⟨r2, p2, o2⟩ := asI_ok r1 q1 d1 hv
  have f2 : Far pin T s σ H ρ T s2 σ H1 ρ1 := ⟨f1.st.less o2 (fun _ z => .inl z) fun _ z => z, f1.pre, f1.fix, f1.len⟩
  have run2 := run2.from f2
  refine ⟨T, s2, ρ1, r2, (run2.ex (k := kR) r2).mono fun b vb s3 H3 ρ3 _ _ _ _ _ ⟨run3, r3, f3, q3, d3⟩ => ?_⟩
  refine ⟨_, s3, ρ3, r3, (run3.ex2 (k := kR) f3).mono fun y vy s4 H4 ρ4 r4 st4 p4 q4 d4 run4 => ?_⟩
  obtain ⟨_, s5, hs, run5⟩ := run4.okk (keySet_nx _ _ _ _)
  have p2' : Rp X.K H4 (Uni (Own s4 σ ρ4) (Uni (Uni T (kR.tm b vb)) (kR.tm y vy))) ρ4 v vu := (p2.grow f3.st r2 f3.pre).grow st4 r3 p4
  have qb := q3.stay st4 r3 p4 fun a h => .inr h
  unfold keySet at hs
  split at hs
  · rename_i t kvs k hl
    obtain ⟨c1, hs⟩ := Res.req_ok hs
    cases hs
    obtain ⟨c1, c2⟩ := b_and c1
    obtain ⟨hv', put⟩ := ownD_ok r4 qb hl
    obtain ⟨a0, rfl, h⟩ := viewD_ok r4 qb hv'
    rcases h with ⟨rfl, ks, hk, hr⟩ | ⟨rfl, ks, hk, hr⟩
    · obtain ⟨kb, hb⟩ := keyOf_ok (show keyS k = true from c1)
      have e1 := (rpVal (σ := σ) q4).key hb
      subst e1
      obtain ⟨rr, st5⟩ := put a0 rfl (.dct false (putD kvs k v)) (.dK (putK ks kb vu)) (.dK (hr.put hb p2'))
      refine ⟨a0, _, rfl, DPut.k hk (by rw [← hr.len, sizeLine_eq]; exact of_decide_eq_true c2), ?_⟩
      have st6 := (f3.st.trans st4).trans st5
      exact run5 σ _ ρ4 (rr.drop fun z h => .inl (.inl h)) ⟨st6.drop (fun z h => .inl (.inl h)) fun _ z => z, f3.pre.trans p4, Fix.refl _ _, rfl⟩
    · cases c1
  · cases hs
theorem sbt_w {a e : E} {es : List E} : ∀ D σ H, tS X.K c (.sbt a es e) D σ H → sDPut (tE X.K c a) (tTup (tIs X.K c es)) (tE X.K c e) D σ H := by
  intro D σ H ⟨pin, T, s, ρ, rel, run⟩
  have hx : exS c pin (.sbt a es e) s = (evE c e s).bind fun x s1 => (asI x s1).bind fun v s2 => (evE c a s2).bind fun r s3 => (evIs c es s3).bind fun l s4 => (keySetT r l v s4).bind fun _ s5 => .ok .nx s5 := rfl
  rw [hx] at run
  refine ⟨T, s, ρ, rel, (run.ex (k := kR) rel).mono fun u vu s1 H1 ρ1 _ _ _ _ _ ⟨run1, r1, f1, q1, d1⟩ => ?_⟩
  obtain ⟨v, s2, hv, run2⟩ := run1.okk (asI_nx _ _)
  obtain ⟨r2, p2, o2⟩ := asI_ok r1 q1 d1 hv
  have f2 : Far pin T s σ H ρ T s2 σ H1 ρ1 := ⟨f1.st.less o2 (fun _ z => .inl z) fun _ z => z, f1.pre, f1.fix, f1.len⟩
  have run2 := run2.from f2
  refine ⟨T, s2, ρ1, r2, (run2.ex (k := kR) r2).mono fun b vb s3 H3 ρ3 _ _ _ _ _ ⟨run3, r3, f3, q3, d3⟩ => ?_⟩
  refine ⟨_, s3, ρ3, r3, (run3.ex2 (k := kL) f3).mono fun l vl s4 H4 ρ4 r4 st4 p4 q4 d4 run4 => ?_⟩
  obtain ⟨_, s5, hs, run5⟩ := run4.okk (keySetT_nx _ _ _ _)
  have p2' : Rp X.K H4 (Uni (Own s4 σ ρ4) (Uni (Uni T (kR.tm b vb)) (kL.tm l vl))) ρ4 v vu := (p2.grow f3.st r2 f3.pre).grow st4 r3 p4
  have qb := q3.stay st4 r3 p4 fun a h => .inr h
  unfold keySetT at hs
  split at hs
  · rename_i kvs hl
    obtain ⟨c1, hs⟩ := Res.req_ok hs
    cases hs
    obtain ⟨c1, c2⟩ := b_and c1
    unfold keyT at c1
    obtain ⟨c1, c3⟩ := b_and c1
    obtain ⟨kk, hkk, ev⟩ := keyT_ok q4 c1
    have ln := q4.length
    subst ev
    refine ⟨?_, fun p hp => ?_⟩
    · rw [← ln, sizeLine_eq]
      have := of_decide_eq_true c3
      omega
    obtain ⟨r5, st5⟩ := r4.laid (o := .tup (kk.map kV)) hp
    have sy := st5.stay r4 (Pre.refl _)
    have qb' := qb.stay st5 r4 (Pre.refl _) fun a h => .inl (.inr h)
    obtain ⟨hv', put⟩ := ownD_ok r5 qb' hl
    obtain ⟨a0, rfl, h⟩ := viewD_ok r5 qb' hv'
    rcases h with ⟨h, _⟩ | ⟨_, ks, hk, hr⟩
    · cases h
    obtain ⟨rr, st6⟩ := put a0 rfl (.dct true (putD kvs (.tup l) v)) (.dT (putK ks kk vu)) (.dT (hr.put hkk (p2'.stay sy)))
    refine ⟨a0, _, rfl, DPut.t hk upd_same (by rw [← hr.len, sizeLine_eq]; exact of_decide_eq_true c2), ?_⟩
    have st7 := ((f3.st.trans st4).trans st5).trans st6
    exact run5 σ _ ρ4 (rr.drop fun z h => .inl (.inl h)) ⟨st7.drop (fun z h => .inl (.inl h)) fun _ z => z, f3.pre.trans p4, Fix.refl _ _, rfl⟩
  · cases hs
theorem fset_w (C : Cok X c) {a e : E} {f : String} : ∀ D σ H, tS X.K c (.fset a f e) D σ H → sFld X.K (tE X.K c a) (tE X.K c e) (Str.ofString f) D σ H := by
  intro D σ H ⟨pin, T, s, ρ, rel, run⟩
  have hx : exS c pin (.fset a f e) s = (evE c e s).bind fun x s1 => (asI x s1).bind fun v s2 => (evE c a s2).bind fun r s3 => match insOf r s3 with
    | some (n, cl, l) => Res.req (c.gl.fk cl f && decide (l.length < 1000)) (.ok .nx (s3.sh n (.ins cl (CH.putF f v l))))
    | none => .bad := rfl
  rw [hx] at run
  refine ⟨T, s, ρ, rel, (run.ex (k := kR) rel).mono fun u vu s1 H1 ρ1 _ _ _ _ _ ⟨run1, r1, f1, q1, d1⟩ => ?_⟩
  obtain ⟨v, s2, hv, run2⟩ := run1.okk (asI_nx _ _)
  obtain ⟨r2, p2, o2⟩ := asI_ok r1 q1 d1 hv
  have f2 : Far pin T s σ H ρ T s2 σ H1 ρ1 := ⟨f1.st.less o2 (fun _ z => .inl z) fun _ z => z, f1.pre, f1.fix, f1.len⟩
  have run2 := run2.from f2
  refine ⟨T, s2, ρ1, r2, (run2.ex (k := kR) r2).mono fun b vb s3 H3 ρ3 _ _ _ _ _ ⟨run3, r3, f3, q3, d3⟩ => ?_⟩
  split at run3
  · rename_i n cl l hi
    obtain ⟨ck, run3⟩ := run3.req
    obtain ⟨k1, k2⟩ := b_and ck
    obtain ⟨ad, dx, fs, rfl, rfl, hn, ha, hh, hr⟩ := insOf_ok r3 q3 hi
    obtain ⟨c1, c2⟩ := C.fk cl f k1
    have p2' := p2.grow f3.st r2 f3.pre
    obtain ⟨rr, st5⟩ := r3.putB hn ha (.ins (hr.put p2')) (fun _ e => nomatch e)
    refine ⟨ad, _, dx, fs, rfl, hh, c1, c2, by rw [← hr.len]; exact of_decide_eq_true k2, ?_⟩
    exact run3 σ _ ρ3 (rr.drop fun z h => .inl h) ⟨(f3.st.trans st5).drop (fun z h => .inl h) fun _ z => z, f3.pre, Fix.refl _ _, rfl⟩
  · exact run3.elim
theorem lock_w {k : Nat} {b : Sm} : ∀ D σ H, tS X.K c (.lock k b) D σ H → tLock (tS X.K c b) D σ H := by
  intro D σ H ⟨pin, T, s, ρ, rel, run⟩
  have hx : exS c pin (.lock k b) s = match lkS k s with
    | some l => (exS c (k :: pin) b (s.st k (.ob (.lk l)))).bind fun fl s1 => match ulS k s1 with
      | some m => .ok fl (s1.st k (.ob (.dct false m)))
      | none => .bad
    | none => .bad := rfl
  rw [hx] at run
  split at run
  · rename_i l hl
    obtain ⟨d, vs, hk, ed, hd, hr, lk⟩ := lock_in rel hl
    refine ⟨d, _, hd, trivial, fun od => ?_⟩
    obtain ⟨rl, sl⟩ := lk od
    refine ⟨k :: pin, T, _, ρ, rl, ?_⟩
    cases he : exS c (k :: pin) b (s.st k (.ob (.lk l))) with
    | bad => rw [he] at run; exact run.elim
    | exc e m s1 =>
      rw [he] at run
      exact fun cls d' σ' H' ρ' r g q => run cls d' σ' H' ρ' r ⟨sl.trans g.st, g.pre, fun j hj => g.fix j (List.mem_cons_of_mem _ hj), g.len⟩ q
    | ok fl s1 =>
      rw [he] at run
      have go : ∀ {σ1 : Sg} {H1 : Hp} {ρ1 : List Addr} {T1 : Addr → Prop} (m : List (CH.I × CH.I)), ulS k s1 = some m → Rel X.K T1 s1 σ1 H1 ρ1 → Far (k :: pin) T (s.st k (.ob (.lk l))) σ (upd H d (.frz od (.dK vs))) ρ T1 s1 σ1 H1 ρ1 →
          H1 d = some (.frz od (.dK vs)) ∧ Rel X.K T1 (s1.st k (.ob (.dct false m))) σ1 (upd H1 d (.dK vs)) ρ1 ∧ Far pin T s σ H ρ T1 (s1.st k (.ob (.dct false m))) σ1 (upd H1 d (.dK vs)) ρ1 ∧
          Stay H1 (Uni (Own s1 σ1 ρ1) T1) ρ1 (upd H1 d (.dK vs)) (Uni (Own (s1.st k (.ob (.dct false m))) σ1 ρ1) T1) ρ1 ∧ Own s1 σ1 ρ1 d := by
        intro σ1 H1 ρ1 T1 m hm r1 g1
        have ed1 : σ1[k]? = some (some (.ref d)) := (g1.fix k (List.mem_cons_self ..)).trans ed
        have hf := g1.st.fz d od _ upd_same
        obtain ⟨r2, sy, od2, ow⟩ := lock_out r1 hm ed1 hf
        exact ⟨hf, r2, ⟨lock_stp hd (.inl ⟨k, _, hk, ed⟩) sl g1.st ow _, g1.pre, fun j hj => g1.fix j (List.mem_cons_of_mem _ hj), g1.len⟩, sy, od2⟩
      cases hm : ulS k s1 with
      | none => simp only [Res.bind, hm] at run; exact run.elim
      | some m =>
        simp only [Res.bind, hm] at run
        cases fl with
        | nx =>
          intro σ1 H1 ρ1 r1 g1
          obtain ⟨hf, r2, f2, _, _⟩ := go m hm r1 g1
          exact ⟨hf, run σ1 _ ρ1 r2 f2⟩
        | rt dd =>
          intro v σ1 H1 ρ1 r1 g1 q1 d1
          obtain ⟨hf, r2, f2, sy, od2⟩ := go m hm r1 g1
          refine ⟨hf, run v σ1 _ ρ1 r2 f2 ?_ d1⟩
          cases dd with
          | im i => exact Rp.stay sy q1
          | ob o =>
            obtain ⟨a, ea, pa⟩ := q1
            refine ⟨a, ea, pa.stay sy fun u e => ?_⟩
            have : a ≠ d := fun z => (r1.tm a (.inr ea)).2 (z ▸ od2)
            rw [upd_ne this]
            exact e
  · exact run.elim
theorem PSf {e : Stmt} {t : TS} (w : ∀ D σ H, ¬ t D σ H) : PS X e t := ⟨fun pins s σ H D I q => (w D σ H q).elim⟩
theorem ok_raise0 (C : Cok X c) {cl : String} {x : Str} {xp pos p2 : Pos} (hx : x = Str.ofString cl) (hg : glC X.env.scope x = true) (hn : nameOk x = true) : PS X (.Raise (some (.Call (.Name x xp) [] [] pos)) none p2) (tS X.K c (.raise cl [] [])) := by
  subst hx
  have hev : ∀ pin s, exS c pin (.raise cl [] []) s = Res.req (c.gl.xk cl []) (.exc cl [] s) := fun pin s => rfl
  by_cases hc : c.gl.xk cl [] = true
  · obtain ⟨k, hm⟩ := C.xk cl [] hc
    refine PSi (ps_raise C.calm C.tk (pmk_x0 k (glC_ok rfl hg) hm (nameOk_ok hn).d)) ?_
    intro D σ H ⟨pin, T, s, ρ, rel, run⟩
    rw [hev] at run
    obtain ⟨_, run⟩ := run.req
    exact run _ _ σ H ρ rel (Far.refl rel) ⟨rfl, .inl ⟨rfl, rfl⟩⟩
  · refine PSf fun D σ H ⟨pin, T, s, ρ, rel, run⟩ => ?_
    rw [hev] at run
    exact hc run.req.1
theorem ok_raise1 (C : Cok X c) {cl : String} {f : List Nat} {es : List E} {q : PySem.Expr} {x : Str} {xp pos p2 : Pos} (hx : x = Str.ofString cl) (hg : glC X.env.scope x = true) (hn : nameOk x = true) (hf : f ≠ []) (hps : ckEs X.env.scope X.N es [q] = true) (hA : PA X [q] (tIs X.K c es)) : PS X (.Raise (some (.Call (.Name x xp) [q] [] pos)) none p2) (tS X.K c (.raise cl f es)) := by
  subst hx
  have hev : ∀ pin s, exS c pin (.raise cl f es) s = Res.req (c.gl.xk cl f) ((evIs c es s).bind fun l s1 => match exL f l with
    | some m => .exc cl m s1
    | none => .bad) := fun pin s => rfl
  by_cases hc : c.gl.xk cl f = true
  · obtain ⟨k, hm⟩ := C.xk cl f hc
    have hq : notStar q = true := by
      cases es with
      | nil => unfold ckEs at hps; cases hps
      | cons e es =>
        unfold ckEs at hps
        exact (ba (ba hps).1).2
    refine PSi (ps_raise C.calm C.tk (pmk_x1 k hf (glC_ok rfl hg) hm (nameOk_ok hn).d hA (star_of hq))) ?_
    intro D σ H ⟨pin, T, s, ρ, rel, run⟩
    rw [hev] at run
    obtain ⟨_, run⟩ := run.req
    refine ⟨T, s, ρ, rel, (run.ex (k := kL) rel).mono fun l vs s1 H1 ρ1 _ _ _ _ _ ⟨run1, r1, f1, q1, d1⟩ => ?_⟩
    have q1 : Rps X.K H1 (Uni (Own s1 σ ρ1) (Uni T fun _ => False)) ρ1 l vs := q1
    have hl : ∃ v, l = [v] ∧ exL f l = some [.str f, v] := by
      cases l with
      | nil => unfold exL at run1; rw [if_neg hf] at run1; exact run1.elim
      | cons v r =>
        cases r with
        | nil => exact ⟨v, rfl, if_neg hf⟩
        | cons => exact run1.elim
    obtain ⟨v, rfl, he⟩ := hl
    rw [he] at run1
    cases q1 with
    | @cons i y _ _ qv q2 =>
      cases q2
      refine ⟨y, rfl, fun d hnd => ?_⟩
      obtain ⟨r2, st2⟩ := r1.laid (o := .xd [(mkS f, y)]) hnd
      exact run1 _ _ σ _ ρ1 (r2.drop fun _ z => .inl z) ⟨(f1.st.trans st2).drop (fun _ z => .inl z) fun _ z => z, f1.pre, f1.fix, f1.len⟩
        ⟨rfl, .inr ⟨f, v, y, d, rfl, rfl, upd_same, (qv.stay (st2.stay r1 (Pre.refl _))).less r2.mt fun z h => h.imp id .inl⟩⟩
  · refine PSf fun D σ H ⟨pin, T, s, ρ, rel, run⟩ => ?_
    rw [hev] at run
    exact hc run.req.1
theorem gsub_d {pin : List Nat} {T : Addr → Prop} {s : S} {σ : Sg} {H : Hp} {ρ : List Addr} {D : Ends} {a i : E} {v : CH.I} {vu : V} {f : S → Res Fl} {G : Sg → Hp → Prop}
    (run : RunS X.K pin T s σ H ρ ((evE c a s).bind fun r s2 => (evE c i s2).bind fun y s3 => (keySet r y v s3).bind fun _ s4 => f s4) D) (rel : Rel X.K T s σ H ρ) (p2 : Rp X.K H (Uni (Own s σ ρ) T) ρ v vu)
    (k : ∀ s4 H4 ρ4, Rel X.K T s4 σ H4 ρ4 → Far pin T s σ H ρ T s4 σ H4 ρ4 → RunS X.K pin T s σ H ρ (f s4) D → G σ H4) : gSub (tE X.K c a) (tE X.K c i) rSetD vu σ H G := by
  refine ⟨T, s, ρ, rel, (run.ex (k := kR) rel).mono fun b vb s3 H3 ρ3 _ _ _ _ _ ⟨run3, r3, f3, q3, d3⟩ => ?_⟩
  refine ⟨_, s3, ρ3, r3, (run3.ex2 (k := kR) f3).mono fun y vy s4 H4 ρ4 r4 st4 p4 q4 d4 run4 => ?_⟩
  obtain ⟨_, s5, hs, run5⟩ := run4.okk (keySet_nx _ _ _ _)
  have p2' : Rp X.K H4 (Uni (Own s4 σ ρ4) (Uni (Uni T (kR.tm b vb)) (kR.tm y vy))) ρ4 v vu := (p2.grow f3.st rel f3.pre).grow st4 r3 p4
  have qb := q3.stay st4 r3 p4 fun a h => .inr h
  unfold keySet at hs
  split at hs
  · rename_i t kvs k0 hl
    obtain ⟨c1, hs⟩ := Res.req_ok hs
    cases hs
    obtain ⟨c1, c2⟩ := b_and c1
    obtain ⟨hv', put⟩ := ownD_ok r4 qb hl
    obtain ⟨a0, rfl, h⟩ := viewD_ok r4 qb hv'
    rcases h with ⟨rfl, ks, hk, hr⟩ | ⟨rfl, ks, hk, hr⟩
    · obtain ⟨kb, hb⟩ := keyOf_ok (show keyS k0 = true from c1)
      have e1 := (rpVal (σ := σ) q4).key hb
      subst e1
      obtain ⟨rr, st5⟩ := put a0 rfl (.dct false (putD kvs k0 v)) (.dK (putK ks kb vu)) (.dK (hr.put hb p2'))
      refine (show ∃ a1 H', V.ref a0 = .ref a1 ∧ DPut H4 a1 (kV kb) vu H' ∧ G σ H' from ⟨a0, _, rfl, DPut.k hk (by rw [← hr.len, sizeLine_eq]; exact of_decide_eq_true c2), ?_⟩)
      have st6 := (f3.st.trans st4).trans st5
      exact k _ _ ρ4 (rr.drop fun z h => .inl (.inl h)) ⟨st6.drop (fun z h => .inl (.inl h)) fun _ z => z, f3.pre.trans p4, Fix.refl _ _, rfl⟩ run5
    · cases c1
  · cases hs
theorem sb2_w {a i b j e : E} : ∀ D σ H, tS X.K c (.sb2 a i b j e) D σ H → tAsg (tE X.K c e) (gTup X.K 2 (gCons (gSub (tE X.K c a) (tE X.K c i) rSetD) (gCons (gSub (tE X.K c b) (tE X.K c j) rSetD) gNil))) D σ H := by
  intro D σ H ⟨pin, T, s, ρ, rel, run⟩
  have hx : exS c pin (.sb2 a i b j e) s = (evE c e s).bind fun x s1 => match x with
    | .val (.tup [v, w]) => (evE c a s1).bind fun r s2 => (evE c i s2).bind fun y s3 => (keySet r y v s3).bind fun _ s4 => (evE c b s4).bind fun r s5 => (evE c j s5).bind fun y s6 => (keySet r y w s6).bind fun _ s7 => .ok .nx s7
    | _ => .bad := rfl
  rw [hx] at run
  refine ⟨T, s, ρ, rel, (run.ex (k := kR) rel).mono fun u vu s1 H1 ρ1 _ _ _ _ _ ⟨run1, r1, f1, q1, d1⟩ => ?_⟩
  have hu : ∃ v w, u = .val (.tup [v, w]) := by
    split at run1
    · exact ⟨_, _, rfl⟩
    · exact run1.elim
  obtain ⟨v, w, rfl⟩ := hu
  have r1' := r1.drop (T' := T) fun _ z => .inl z
  have q1' : Rp X.K H1 (Uni (Own s1 σ ρ1) T) ρ1 (.tup [v, w]) vu := Rp.less q1 r1.mt fun z h => h.imp id .inl
  cases q1' with
  | tup g1 g2 =>
    cases g2 with
    | cons gv g2 =>
      cases g2 with
      | cons gw g2 =>
        cases g2
        refine ⟨_, _, rfl, g1.sqt, rfl, _, _, rfl, ?_⟩
        have run2 := run1.from f1.drop
        refine gsub_d (v := v) run2 r1' gv fun s4 H4 ρ4 r4 f4 run4 => ⟨_, _, rfl, ?_⟩
        have gw' := gw.stay (f4.st.stay r1' f4.pre)
        refine gsub_d (v := w) (run4.from f4) r4 gw' fun s7 H7 ρ7 r7 f7 run7 => ⟨rfl, ?_⟩
        exact run7 _ _ _ r7 f7
theorem expr_w {e : E} : ∀ D σ H, tS X.K c (.expr e) D σ H → tDrop (tE X.K c e) D σ H := by
  intro D σ H ⟨pin, T, s, ρ, rel, run⟩
  have hx : exS c pin (.expr e) s = (evE c e s).bind fun _ s1 => .ok .nx s1 := rfl
  rw [hx] at run
  exact ⟨T, s, ρ, rel, (run.ex (k := kR) rel).mono fun u vu s1 H1 ρ1 _ _ _ _ _ ⟨run1, r1, f1, q1, d1⟩ => run1 σ H1 ρ1 (r1.drop fun _ z => .inl z) f1.drop⟩
theorem ret_w {e : E} : ∀ D σ H, tS X.K c (.ret e) D σ H → tRet (tE X.K c e) D σ H := by
  intro D σ H ⟨pin, T, s, ρ, rel, run⟩
  have hx : exS c pin (.ret e) s = (evE c e s).bind fun x s1 => retD pin x s1 := rfl
  rw [hx] at run
  exact ⟨T, s, ρ, rel, (run.ex (k := kR) rel).mono fun u vu s1 H1 ρ1 _ _ _ _ _ ⟨run1, r1, f1, q1, d1⟩ => retD_ok run1 r1 f1 q1 d1⟩
theorem retN_w : ∀ D σ H, tS X.K c .retN D σ H → tRetN D σ H := by
  intro D σ H ⟨pin, T, s, ρ, rel, run⟩
  have hx : exS c pin .retN s = .ok (.rt (.im .non)) s := rfl
  rw [hx] at run
  have sb : ∀ z, Uni T (tOf (ofD (.im .non)) .non) z → T z := fun z h => h.elim id fun h => False.elim h
  exact run .non σ H ρ (rel.drop sb) ⟨(Stp.refl rel.dis).drop sb fun _ z => .inl z, Pre.refl _, Fix.refl _ _, rfl⟩ .non fun b h => False.elim h
theorem pass_w : ∀ D σ H, tS X.K c .pass D σ H → tNext D σ H := by
  intro D σ H ⟨pin, T, s, ρ, rel, run⟩
  exact run σ H ρ rel (Far.refl rel)
theorem ite_w {d : E} {t e : List Sm} : ∀ D σ H, tS X.K c (.ite d t e) D σ H → tIfS (tT X.K c d) (tSs X.K c t) (tSs X.K c e) D σ H := by
  intro D σ H ⟨pin, T, s, ρ, rel, run⟩
  have hx : exS c pin (.ite d t e) s = (evC c (some d) s).bind fun b s1 => if b = true then exSs c pin t s1 else exSs c pin e s1 := rfl
  rw [hx] at run
  refine ⟨T, s, ρ, rel, (run.ex (k := kE) rel).mono fun b b' s1 H1 ρ1 _ _ _ _ _ ⟨run1, r1, f1, q1, d1⟩ => ?_⟩
  have r0 := r1.drop (T' := T) fun _ z => .inl z
  have run2 := run1.from f1.drop
  cases b with
  | true => exact iteT ⟨pin, T, s1, ρ1, r0, run2⟩
  | false => exact iteF ⟨pin, T, s1, ρ1, r0, run2⟩
theorem nil_w : ∀ D σ H, tSs X.K c [] D σ H → tNext D σ H := by
  intro D σ H ⟨pin, T, s, ρ, rel, run⟩
  exact run σ H ρ rel (Far.refl rel)
theorem cons_w {a : Sm} {r : List Sm} : ∀ D σ H, tSs X.K c (a :: r) D σ H → tSeq (tS X.K c a) (tSs X.K c r) D σ H := by
  intro D σ H ⟨pin, T, s, ρ, rel, run⟩
  have hx : exSs c pin (a :: r) s = (exS c pin a s).bind fun fl s1 => match fl with
    | .nx => exSs c pin r s1
    | .rt d => .ok (.rt d) s1 := rfl
  rw [hx] at run
  refine ⟨pin, T, s, ρ, rel, ?_⟩
  cases h : exS c pin a s with
  | bad => rw [h] at run; exact run.elim
  | exc e m s1 => rw [h] at run; exact run
  | ok fl s1 =>
    rw [h] at run
    cases fl with
    | nx => exact fun σ' H' ρ' r' f' => ⟨pin, T, s1, ρ', r', RunS.from (show RunS X.K pin T s σ H ρ (exSs c pin r s1) D from run) f'⟩
    | rt d => exact run
/-! ### loops -/
theorem pin_sub {pin : List Nat} {src : Src} : ∀ k ∈ pin, k ∈ pinned pin src := fun k h => List.mem_append_right _ h
theorem Fix.mono {pin pin' : List Nat} {σ σ' : Sg} (h : Fix pin' σ σ') (s : ∀ k ∈ pin, k ∈ pin') : Fix pin σ σ' := fun k hk => h k (s k hk)
theorem at_of {pin : List Nat} {src : Src} {σ σ' : Sg} (h : Fix (pinned pin src) σ σ') : src.at σ σ' := fun k e => h k (List.mem_append_left _ e)
theorem for_w {t : Tg} {it : CH.It} {b : List Sm} (he : tgE t it = true) : ∀ D σ H, tS X.K c (.for t it b) D σ H → tFor (tI X.K c it) (gOf X.K t) (tSs X.K c b) D σ H := by
  intro D σ H ⟨pin, T, s, ρ, rel, run⟩
  have hx : exS c pin (.for t it b) s = (evIt c it s).bind fun sl s1 => forL sl.1 (fun i s2 => (bindT (pinned pin sl.1) t i s2).bind fun _ s3 => exSs c (pinned pin sl.1) b s3) sl.2 s1 := rfl
  rw [hx] at run
  refine ⟨T, s, ρ, rel, (run.ex (k := kS (isEn it)) rel).mono fun sl J s1 H1 ρ1 _ _ _ _ _ ⟨run1, r1', f1', q1', _⟩ => ?_⟩
  obtain ⟨src, l⟩ := sl
  have r1 := r1'.drop (T' := T) fun _ z => .inl z
  have f1 := f1'.drop
  have q1 : Fed X.K H1 (Uni (Own s1 σ ρ1) T) ρ1 σ (isEn it) J src l := Fed.stay (Stay.less r1'.mt fun z h => h.imp id .inl) q1' (fun _ _ => rfl) fun _ _ _ e => e
  have run1 := run1.from f1
  simp only at run1
  generalize hf : (fun (i : CH.I) (s2 : S) => (bindT (pinned pin src) t i s2).bind fun _ s3 => exSs c (pinned pin src) b s3) = fb at run1
  refine ⟨fun i m σi Hi => m = l.length - i ∧ ∃ s2 ρ2, Rel X.K T s2 σi Hi ρ2 ∧ Fed X.K Hi (Uni (Own s2 σi ρ2) T) ρ2 σi (isEn it) J src l ∧ RunS X.K pin T s2 σi Hi ρ2 (forL src fb (l.drop i) s2) D, ⟨_, rfl, s1, ρ1, r1, q1, run1⟩, fun i m σi Hi ⟨hm, s2, ρ2, r2, q2, run2⟩ => ?_⟩
  have good : src.good s2 = true := by
    cases hd : l.drop i with
    | nil => rw [hd] at run2; unfold forL at run2; exact run2.req.1
    | cons a r => rw [hd] at run2; unfold forL at run2; exact run2.req.1
  obtain ⟨us, ug⟩ := q2.use r2 good i
  cases hi : l[i]? with
  | none =>
    refine .inl ⟨us hi, ?_⟩
    rw [List.drop_eq_nil_of_le (List.getElem?_eq_none_iff.mp hi)] at run2
    unfold forL at run2
    exact run2.req.2 σi Hi ρ2 r2 (Far.refl r2)
  | some itm =>
    obtain ⟨go, yl⟩ := ug itm hi
    have il : i < l.length := (List.getElem?_eq_some_iff.mp hi).1
    have hdr : l.drop i = itm :: l.drop (i + 1) := by
      rw [List.drop_eq_getElem_cons il]
      congr 1
      exact (List.getElem?_eq_some_iff.mp hi).2
    rw [hdr] at run2
    unfold forL at run2
    have run2 := run2.req.2
    subst hf
    rw [bind_assoc] at run2
    obtain ⟨⟨⟩, s3, hb, run3⟩ := run2.okk (bindT_nx _ _ _ _)
    refine .inr ⟨go, fun σ' H' => ∃ m', m' < m ∧ (m' = l.length - (i + 1) ∧ ∃ s2 ρ2, Rel X.K T s2 σ' H' ρ2 ∧ Fed X.K H' (Uni (Own s2 σ' ρ2) T) ρ2 σ' (isEn it) J src l ∧ RunS X.K pin T s2 σ' H' ρ2 (forL src (fun (i : CH.I) (s2 : S) => (bindT (pinned pin src) t i s2).bind fun _ s3 => exSs c (pinned pin src) b s3) (l.drop (i + 1)) s2) D), fun σ' H' h => h, fun x Hy hy => ?_⟩
    obtain ⟨ry, sty, im, nm⟩ := yl x Hy hy
    refine gOf_ok hb ry im (fun ⟨k, e⟩ => nm ?_) fun σ2 r3 st3 fx3 kp => ?_
    · subst e
      cases it <;> first | rfl | cases he
    have f3 : Far (pinned pin src) T s2 σi Hi ρ2 T s3 σ2 Hy ρ2 := ⟨sty.trans st3, Pre.refl _, fx3, kp.ln⟩
    have f3' : Far pin T s2 σi Hi ρ2 T s3 σ2 Hy ρ2 := ⟨f3.st, f3.pre, f3.fix.mono pin_sub, f3.len⟩
    refine ⟨pinned pin src, T, s3, ρ2, r3, ?_⟩
    cases hs : exSs c (pinned pin src) b s3 with
    | bad => rw [hs] at run3; exact run3.elim
    | exc e m s4 =>
      rw [hs] at run3
      exact fun cls d σ' H' ρ' r g q => run3 cls d σ' H' ρ' r (f3'.trans ⟨g.st, g.pre, g.fix.mono pin_sub, g.len⟩) q
    | ok fl s4 =>
    rw [hs] at run3
    cases fl with
    | nx =>
      have run4 : RunS X.K pin T s2 σi Hi ρ2 (forL src (fun (i : CH.I) (s2 : S) => (bindT (pinned pin src) t i s2).bind fun _ s3 => exSs c (pinned pin src) b s3) (l.drop (i + 1)) s4) D := run3
      intro σ4 H4 ρ4 r4 f4
      have f4' : Far pin T s3 σ2 Hy ρ2 T s4 σ4 H4 ρ4 := ⟨f4.st, f4.pre, f4.fix.mono pin_sub, f4.len⟩
      exact ⟨_, by omega, rfl, s4, ρ4, r4, Fed.stay ((f3.st.trans f4.st).stay r2 f4.pre) q2 (at_of (f3.fix.trans f4.fix)) (f3.st.trans f4.st).fz, run4.from (f3'.trans f4')⟩
    | rt d =>
      intro v σ4 H4 ρ4 r4 f4 q4 d4
      exact run3 v σ4 H4 ρ4 r4 (f3'.trans ⟨f4.st, f4.pre, f4.fix.mono pin_sub, f4.len⟩) q4 d4
theorem while_w {d : E} {b : List Sm} : ∀ D σ H, tS X.K c (.while d b) D σ H → tWhile (tT X.K c d) (tSs X.K c b) D σ H := by
  intro D σ H ⟨pin, T, s, ρ, rel, run⟩
  have hx : exS c pin (.while d b) s = whileN turns (fun s1 => evC c (some d) s1) (fun s1 => exSs c pin b s1) s := rfl
  rw [hx] at run
  refine ⟨fun m σi Hi => ∃ s2 ρ2, Rel X.K T s2 σi Hi ρ2 ∧ RunS X.K pin T s2 σi Hi ρ2 (whileN m (fun s1 => evC c (some d) s1) (fun s1 => exSs c pin b s1) s2) D, ⟨turns, s, ρ, rel, run⟩, fun m σi Hi ⟨s2, ρ2, r2, run2⟩ => ?_⟩
  cases m with
  | zero => exact run2.elim
  | succ m =>
    unfold whileN at run2
    refine ⟨T, s2, ρ2, r2, (run2.ex (k := kE) r2).mono fun b1 b1' s3 H3 ρ3 _ _ _ _ _ ⟨run3, r3', f3', _, _⟩ => ?_⟩
    have r3 := r3'.drop (T' := T) fun _ z => .inl z
    have f3 := f3'.drop
    have run3 := run3.from f3
    cases b1 with
    | false => exact iteF (run3 σi H3 ρ3 r3 (Far.refl r3))
    | true =>
      refine iteT ⟨fun σ' H' => ∃ m', m' < m + 1 ∧ ∃ s2 ρ2, Rel X.K T s2 σ' H' ρ2 ∧ RunS X.K pin T s2 σ' H' ρ2 (whileN m' (fun s1 => evC c (some d) s1) (fun s1 => exSs c pin b s1) s2) D, fun σ' H' h => h, pin, T, s3, ρ3, r3, ?_⟩
      have run3 : RunS X.K pin T s3 σi H3 ρ3 ((exSs c pin b s3).bind fun fl s2 => match fl with
        | .nx => whileN m (fun s1 => evC c (some d) s1) (fun s1 => exSs c pin b s1) s2
        | .rt d => .ok (.rt d) s2) D := run3
      cases hs : exSs c pin b s3 with
      | bad => rw [hs] at run3; exact run3.elim
      | exc e m s4 => rw [hs] at run3; exact run3
      | ok fl s4 =>
      rw [hs] at run3
      have run4 := run3
      clear run3
      cases fl with
      | nx =>
        have run4 : RunS X.K pin T s3 σi H3 ρ3 (whileN m (fun s1 => evC c (some d) s1) (fun s1 => exSs c pin b s1) s4) D := run4
        exact fun σ4 H4 ρ4 r4 f4 => ⟨m, Nat.lt_succ_self m, s4, ρ4, r4, run4.from f4⟩
      | rt d => exact run4
theorem ok_par (C : Cok X c) {ks : List Nat} {es : List E} {tg v : PySem.Expr} {pos : Pos} (h : parC X.env.scope X.N ks es tg v = true) : PS X (.Assign [tg] v pos) (tS X.K c (.par ks es)) := by
  unfold parC at h
  split at h
  · obtain ⟨h, g12⟩ := b_and h
    obtain ⟨h, g11⟩ := b_and h
    obtain ⟨h, g10⟩ := b_and h
    obtain ⟨h, g9⟩ := b_and h
    obtain ⟨h, g8⟩ := b_and h
    obtain ⟨h, g7⟩ := b_and h
    obtain ⟨h, g6⟩ := b_and h
    obtain ⟨h, g5⟩ := b_and h
    obtain ⟨h, g4⟩ := b_and h
    obtain ⟨h, g3⟩ := b_and h
    obtain ⟨g1, g2⟩ := b_and h
    refine PSi (ps_par (ta := tEs X.K c es) C.calm C.nd (of_decide_eq_true g1) (of_decide_eq_true g2) (of_decide_eq_true g3) (locC_up g4) (locC_up g5) (snd_Es c es _ X _ C g8) (swap2 C.kd g4 g5 g6 (of_decide_eq_true g7) g9 g10 (Eq.mp (Bool.not_eq_true' _) g11) (Eq.mp (Bool.not_eq_true' _) g12))) ?_
    intro D σ H q
    obtain ⟨T, s, ρ, rel, run⟩ := par_to D σ H q
    refine ⟨T, s, ρ, rel, run.mono fun xs vs s1 H1 ρ1 _ _ _ _ _ ⟨l, g⟩ => ?_⟩
    match vs, l with
    | [v, w], _ => exact ⟨v, w, rfl, g⟩
  · obtain ⟨h, g16⟩ := b_and h
    obtain ⟨h, g15⟩ := b_and h
    obtain ⟨h, g14⟩ := b_and h
    obtain ⟨h, g13⟩ := b_and h
    obtain ⟨h, g12⟩ := b_and h
    obtain ⟨h, g11⟩ := b_and h
    obtain ⟨h, g10⟩ := b_and h
    obtain ⟨h, g9⟩ := b_and h
    obtain ⟨h, g8⟩ := b_and h
    obtain ⟨h, g7⟩ := b_and h
    obtain ⟨h, g6⟩ := b_and h
    obtain ⟨h, g5⟩ := b_and h
    obtain ⟨h, g4'⟩ := b_and h
    obtain ⟨h, g3⟩ := b_and h
    obtain ⟨g1, g2⟩ := b_and h
    have g4 := of_decide_eq_true g4'
    refine PSi (ps_par3 (ta := tEs X.K c es) C.calm C.nd (of_decide_eq_true g1) (of_decide_eq_true g2) (of_decide_eq_true g3) g4.1 g4.2.1 g4.2.2 (locC_up g5) (locC_up g6) (locC_up g7) (snd_Es c es _ X _ C g11) (swap3 C.kd g5 g6 g7 g8 g9 (of_decide_eq_true g10) g12 g13 g14 (Eq.mp (Bool.not_eq_true' _) g15) (Eq.mp (Bool.not_eq_true' _) g16))) ?_
    intro D σ H q
    obtain ⟨T, s, ρ, rel, run⟩ := par_to D σ H q
    refine ⟨T, s, ρ, rel, run.mono fun xs vs s1 H1 ρ1 _ _ _ _ _ ⟨l, g⟩ => ?_⟩
    match vs, l with
    | [u, v, w], _ => exact ⟨u, v, w, rfl, g⟩
  · cases h
mutual
theorem snd_S (c : Ctx) (X : Cx) (C : Cok X c) (hP : PgOk X X.env.scope) (hp : PassesOwn (model X.prog X.w) X.A X.env X.xe) : ∀ (a : Sm) (p : Stmt), ckS X.env.scope X.N a p = true → PS X p (tS X.K c a)
  | .asg t e, p, h => by
    unfold ckS at h; split at h
    · obtain ⟨h, h4⟩ := b_and h
      obtain ⟨h, h3⟩ := b_and h
      obtain ⟨h1, h2⟩ := b_and h
      exact ok_asg C hP h1 h2 h3 h4
    · cases h
  | .par ks es, p, h => by
    unfold ckS at h; split at h
    · exact ok_par C h
    · cases h
  | .sub a i e, p, h => by
    unfold ckS at h; split at h
    · obtain ⟨h, h5⟩ := b_and h
      obtain ⟨h, h4⟩ := b_and h
      obtain ⟨h, h3⟩ := b_and h
      obtain ⟨h1, h2⟩ := b_and h
      exact PSi (ps_asg (snd_E c e _ X _ C h1).pe (pg_sub (snd_E c a _ X _ C h2).pe (snd_E c i _ X _ C h3).pe set_list (asg_sub h5)) (swap_one h4)) sub_w
    · cases h
  | .sbd a i e, p, h => by
    unfold ckS at h; split at h
    · obtain ⟨h, h5⟩ := b_and h
      obtain ⟨h, h4⟩ := b_and h
      obtain ⟨h, h3⟩ := b_and h
      obtain ⟨h1, h2⟩ := b_and h
      exact PSi (ps_dput C.u1 (snd_E c a _ X _ C h2).pe (snd_E c i _ X _ C h3).pe (snd_E c e _ X _ C h1).pe (swap_no h4)) sbd_w
    · cases h
  | .sbt a es e, p, h => by
    unfold ckS at h; split at h
    · obtain ⟨h, h4⟩ := b_and h
      obtain ⟨h, h3⟩ := b_and h
      obtain ⟨h1, h2⟩ := b_and h
      exact PSi (ps_dput C.u1 (snd_E c a _ X _ C h2).pe (pe_tup (snd_Is c es _ X _ C h3)) (snd_E c e _ X _ C h1).pe (swap_no h4)) sbt_w
    · cases h
  | .sb2 a i b j e, p, h => by
    unfold ckS at h; split at h
    · obtain ⟨h, h8⟩ := b_and h
      obtain ⟨h, h7⟩ := b_and h
      obtain ⟨h, h6⟩ := b_and h
      obtain ⟨h, h5⟩ := b_and h
      obtain ⟨h, h4⟩ := b_and h
      obtain ⟨h, h3⟩ := b_and h
      obtain ⟨h1, h2⟩ := b_and h
      refine PSi (ps_asg (snd_E c e _ X _ C h1).pe (pg_tup C.calm (pgs_cons (pg_sub (snd_E c a _ X _ C h2).pe (snd_E c i _ X _ C h3).pe (set_dict C.u1) (asg_sub h7)) (pgs_cons (pg_sub (snd_E c b _ X _ C h4).pe (snd_E c j _ X _ C h5).pe (set_dict C.u1) (asg_sub h8)) pgs_nil))) (swap_one h6) (swapped_no (tup_no rfl)) rfl) sb2_w
    · cases h
  | .fset a f e, p, h => by
    unfold ckS at h; split at h
    · obtain ⟨h, h4⟩ := b_and h
      obtain ⟨h, h3⟩ := b_and h
      obtain ⟨h1, h2⟩ := b_and h
      have h1 := of_decide_eq_true h1
      subst h1
      exact PSi (ps_fld (snd_E c a _ X _ C h3).pe (snd_E c e _ X _ C h2).pe (swap_no h4)) (fset_w C)
    · cases h
  | .lock k b, p, h => by
    unfold ckS at h
    exact PSi (ps_lock (snd_S c X C hP hp b p h)) lock_w
  | .expr e, p, h => by
    unfold ckS at h; split at h
    · obtain ⟨h1, h2⟩ := b_and h
      exact PSi (ps_expr (snd_E c e _ X _ C h1).pe (swap_no h2)) expr_w
    · cases h
  | .ret e, p, h => by
    unfold ckS at h; split at h
    · exact PSi (ps_ret (snd_E c e _ X _ C h).pe) ret_w
    · cases h
  | .retN, p, h => by
    unfold ckS at h; split at h
    · exact PSi ps_retN retN_w
    · cases h
  | .ite d t e, p, h => by
    unfold ckS at h; split at h
    · obtain ⟨h, h3⟩ := b_and h
      obtain ⟨h1, h2⟩ := b_and h
      exact PSi (ps_if (snd_E c d _ X _ C h1).pt (snd_Ss c X C hP hp t _ h2) (snd_Ss c X C hP hp e _ h3)) ite_w
    · cases h
  | .for t it b, p, h => by
    unfold ckS at h; split at h
    · obtain ⟨h, h5⟩ := b_and h
      obtain ⟨h, h4⟩ := b_and h
      obtain ⟨h, h3⟩ := b_and h
      obtain ⟨h1, h2⟩ := b_and h
      exact PSi (ps_for hp C.calm (snd_I c it _ X _ _ C h2 t h5 ⟨_, h1⟩) (pg_T C hP h1) (snd_Ss c X C hP hp b _ h3) (fold_of h4)) (for_w h5)
    · cases h
  | .while d b, p, h => by
    unfold ckS at h; split at h
    · obtain ⟨h1, h2⟩ := b_and h
      exact PSi (ps_while hp (snd_E c d _ X _ C h1).pt (snd_Ss c X C hP hp b _ h2)) while_w
    · cases h
  | .pass, p, h => by
    unfold ckS at h; split at h
    · exact PSi ps_pass pass_w
    · cases h
  | .raise cl f es, p, h => by
    unfold ckS at h; split at h
    · obtain ⟨h, h5⟩ := b_and h
      obtain ⟨h, h4⟩ := b_and h
      obtain ⟨h, h3⟩ := b_and h
      obtain ⟨h1, h2⟩ := b_and h
      have h5 := of_decide_eq_true h5
      subst h5
      cases es with
      | nil => exact ok_raise0 C (of_decide_eq_true h1) h2 h3
      | cons => cases h4
    · obtain ⟨h, h5⟩ := b_and h
      obtain ⟨h, h4⟩ := b_and h
      obtain ⟨h, h3⟩ := b_and h
      obtain ⟨h1, h2⟩ := b_and h
      exact ok_raise1 C (of_decide_eq_true h1) h2 h3 (of_decide_eq_true h5) h4 (snd_Is c es _ X _ C h4)
    · cases h
  | .tryx _ _, p, h => by unfold ckS at h; cases h
theorem snd_Ss (c : Ctx) (X : Cx) (C : Cok X c) (hP : PgOk X X.env.scope) (hp : PassesOwn (model X.prog X.w) X.A X.env X.xe) : ∀ (a : List Sm) (p : List Stmt), ckSs X.env.scope X.N a p = true → PSs X p (tSs X.K c a)
  | [], p, h => by
    unfold ckSs at h
    cases p with
    | nil => exact PSsi pss_nil nil_w
    | cons => cases h
  | a :: r, p, h => by
    unfold ckSs at h
    split at h
    · obtain ⟨h1, h2⟩ := b_and h
      exact PSsi (pss_cons (snd_S c X C hP hp a _ h1) (snd_Ss c X C hP hp r _ h2)) cons_w
    · cases h
end
end
end CH
namespace CH
open PySem PySem.Spec PyProof.Rows L2
/-- a def of the text, as it lies -/
structure DefOk (gl : Glb) (K : PySem.W.Frag) (mg : Str → Option Value) (f : String) (fn : Fn) (a : Addr) (fd : FuncData) (st : Stmt) (N ps : List Str) (nm qn : Str) : Prop where
  fun_ : FunD K nm qn (defArgs st) (defBody st) (defScope st) [] [] a fd
  sc : FnScope N ps (defScope st)
  np : ps.length = fn.np
  nl : N.length = fn.nl
  ck : ckSs (defScope st) N fn.body (defBody st) = true
  mg_ : isM f = false → mg (Str.ofString f) = some (.ref a)
  bi : Binds K fd ps []
  me : ∀ cl m, gl.kd f = some (cl, m) → Cls K (He.ga K (Str.ofString cl)) ∧ Meth K (He.ga K (Str.ofString cl)) (Str.ofString m) a ∧ (m = "__init__" → Mk K (He.ga K (Str.ofString cl)) a ∧ mg (Str.ofString cl) = some (clsA K cl))
theorem getD_some {α : Type} {l : List (Option α)} {k : Nat} {d : α} : l.getD k none = some d ↔ l[k]? = some (some d) := by
  rw [List.getD_eq_getElem?_getD]
  cases l[k]? <;> simp
theorem msk_len : ∀ {ds : List D} {as : List (Option D)}, as.length = ds.length → (msk ds as).length = ds.length
  | [], [], _ => rfl
  | [], _ :: _, h => by simp at h
  | d :: ds, [], h => by simp at h
  | .ob o :: ds, a :: as, h => by
    show (msk ds as).length + 1 = ds.length + 1
    rw [msk_len (by simpa using h)]
  | .im i :: ds, a :: as, h => by
    show (msk ds as).length + 1 = ds.length + 1
    rw [msk_len (by simpa using h)]
theorem pins_get : ∀ {ds : List D} {j k : Nat} {o : O}, ds[k]? = some (.ob o) → j + k ∈ pins j ds
  | [], _, _, _, h => by simp at h
  | .ob o' :: r, j, 0, o, h => by unfold pins; simp
  | .im i :: r, j, 0, o, h => by simp at h
  | .ob o' :: r, j, k + 1, o, h => by
    unfold pins
    have := pins_get (ds := r) (j := j + 1) (k := k) (by simpa using h)
    rw [show j + (k + 1) = j + 1 + k by omega]
    exact List.mem_cons_of_mem _ this
  | .im i :: r, j, k + 1, o, h => by
    unfold pins
    have := pins_get (ds := r) (j := j + 1) (k := k) (by simpa using h)
    rw [show j + (k + 1) = j + 1 + k by omega]
    exact this
/-- an exception class of the text, as it lies -/
structure XkAt (P : Program) (w : World) (K : PySem.W.Frag) (mg : Str → Option Value) (base : Heap) (C : Addr) (f : List Nat) : Prop where
  xe : XeC K C
  init : ∃ (fI : Addr) (fd : FuncData) (ps : List Str), PySem.W.findIn K (.ref C) "__init__" = some (some (.ref fI)) ∧ PySem.W.typeIn K (.ref fI) = some (.type "function") ∧ Binds K fd ps [] ∧
    ((f = [] ∧ FnOk P w K mg base (L2.CX P w) 1 fI fd ps (sp0 K)) ∨ (f ≠ [] ∧ PySem.W.findIn K (.ref C) (mkS f) = some none ∧ FnOk P w K mg base (L2.CX P w) 1 fI fd ps (sp1 K (mkS f))))
theorem XkAt.at_ {X : Cx} {C : Addr} {f : List Nat} (h : XkAt X.prog X.w X.K X.mg X.base C f) (hr : Room 2 X.A) : XkOk X C f := by
  obtain ⟨fI, fd, ps, h1, h2, h3, h4⟩ := h.init
  exact ⟨h.xe, fI, 1, fd, ps, h1, h2, hr, h3, h4⟩
section
variable {P : Program} {w : World} {K : PySem.W.Frag} {mg : Str → Option Value} {base : Heap} {Pg : String → Option Fn} {gl : Glb}
theorem fn_all (hbl : ∀ x ∈ bnames, mg x = none) (hgl : ∀ (g : String) (i : CH.I), gl g = some i → ∃ u v, mg (Str.ofString g) = some u ∧ RelV v u ∧ ∀ H W ρ, Rp K H W ρ i v)
    (hnm : ∀ (f : String) (a : Nat), gl f = some (.fa a f) → isM f = false) (hfk : ∀ cl f, gl.fk cl f = true → Cls K (He.ga K (Str.ofString cl)) ∧ NoAttr K (He.ga K (Str.ofString cl)) (Str.ofString f))
    (hxk : ∀ cl f, gl.xk cl f = true → XkAt P w K mg base (He.ga K (Str.ofString cl)) f ∧ mg (Str.ofString cl) = some (clsA K cl)) (hik : ∀ cl d, gl.ik cl d = true → IkOk K mg cl d)
    (hd : ∀ f fn, Pg f = some fn → ∃ a fd st N ps nm qn, DefOk gl K mg f fn a fd st N ps nm qn) : ∀ (n : Nat) (f : String) (fn : Fn), Pg f = some fn → ∀ a fd st N ps nm qn, DefOk gl K mg f fn a fd st N ps nm qn → FnOk P w K mg base (L2.CX P w) (2 * n + 2) a fd ps (spOf K (runF Pg gl n) f) := by
  intro n
  induction n with
  | zero =>
    intro f fn hf a fd st N ps nm qn h
    exact ⟨fun vs H Q E ⟨_, _, _, _, _, q⟩ => q.elim, fun A outer s H args us vs Q E _ _ _ _ ⟨_, _, _, _, _, q⟩ => q.elim⟩
  | succ n ih =>
    intro f fn hf a fd st N ps nm qn h
    have ev : ∀ ds hp, runF Pg gl (n + 1) f ds hp = if ds.length = fn.np then retOf fn.np (exSs ⟨runF Pg gl n, gl, knF Pg⟩ (pins 0 ds) fn.body ⟨ds.map some ++ List.replicate (fn.nl - fn.np) none, hp⟩) else .bad := fun ds hp => by
      show (match Pg f with
        | some fn => if ds.length = fn.np then retOf fn.np (exSs ⟨runF Pg gl n, gl, knF Pg⟩ (pins 0 ds) fn.body ⟨ds.map some ++ List.replicate (fn.nl - fn.np) none, hp⟩) else .bad
        | none => .bad) = _
      rw [hf]
    refine h.fun_.ok (k := 2 * n + 3) h.sc (fun vs H Q E q => ?_) (fun cdv A outer s H vs Q E hr q => ?_)
    · obtain ⟨T, ds, hp, ρ, rel, q⟩ := q
      rw [ev] at q
      have hl := rel.len
      split at q
      · rename_i hc
        split at hc
        · rename_i hn
          have : (ds.map some).length = (vs.map some).length := hl
          rw [List.length_map, List.length_map] at this
          rw [← this, hn, h.np]
        · cases hc
      · rename_i hc
        split at hc
        · rename_i hn
          have : (ds.map some).length = (vs.map some).length := hl
          rw [List.length_map, List.length_map] at this
          rw [← this, hn, h.np]
        · cases hc
      · exact q.elim
    · let wE : Wsh := ⟨fun cls d _ H => E cls d H⟩
      refine ⟨_, @snd_Ss wE ⟨runF Pg gl n, gl, knF Pg⟩ (cxOf (L2.CX P w) P w K mg base N qn (defScope st) a cdv A outer s H E) (@Cok.mk wE _ _ (takes_of rfl rfl rfl rfl) rfl h.sc.nd ?_ h.sc.kind hbl hgl (fun f' hc => ?_) hnm hfk (fun cl f hh => ⟨XkAt.at_ (X := cxOf (L2.CX P w) P w K mg base N qn (defScope st) a cdv A outer s H E) (hxk cl f hh).1 (hr.mono (by omega)), (hxk cl f hh).2⟩) hik) (fun x hx => ⟨hx, .inl rfl⟩) (passes_of rfl) fn.body (defBody st) h.ck, ?_⟩
      · have := hr.un
        show (A.deeper _).units + 100 < cLine
        omega
      · cases hp' : Pg f' with
        | none =>
          have hc : knF Pg f' = true := hc
          unfold knF at hc
          rw [hp'] at hc
          cases hc
        | some fn' =>
          obtain ⟨a', fd', st', N', ps', nm', qn', h'⟩ := hd f' fn' hp'
          exact ⟨2 * n + 2, a', fd', ps', ih f' fn' hp' a' fd' st' N' ps' nm' qn' h', hr, h'.mg_, h'.fun_.kp, h'.bi, h'.me⟩
      · obtain ⟨T, ds, hp, ρ, rel, q⟩ := q
        rw [ev] at q
        have hl : ds.length = vs.length := by
          have : (ds.map some).length = (vs.map some).length := rel.len
          rwa [List.length_map, List.length_map] at this
        by_cases hn : ds.length = fn.np
        · rw [if_pos hn] at q
          -- the body's begin
          have npl : fn.np ≤ fn.nl := by
            rw [← h.np, ← h.nl, ← h.sc.pre, List.length_take]
            exact Nat.min_le_right _ _
          obtain ⟨r0, o0⟩ := rel.shrink (s' := ⟨ds.map some ++ List.replicate (fn.nl - fn.np) none, hp⟩) (σ' := start N vs) (by
            show (ds.map some ++ List.replicate (fn.nl - fn.np) none).length = (vs.map some ++ List.replicate (N.length - vs.length) none).length
            rw [List.length_append, List.length_append, List.length_map, List.length_map, List.length_replicate, List.length_replicate, h.nl, ← hl, hn]) rfl (fun k d e => by
            have e : (ds.map some ++ List.replicate (fn.nl - fn.np) none).getD k none = some d := e
            rw [getD_some] at e
            by_cases hk : k < ds.length
            · rw [List.getElem?_append_left (by rw [List.length_map]; exact hk)] at e
              refine ⟨getD_some.mpr e, ?_⟩
              show (vs.map some ++ List.replicate (N.length - vs.length) none)[k]? = _
              rw [List.getElem?_append_left (by rw [List.length_map, ← hl]; exact hk)]
            · rw [List.getElem?_append_right (by rw [List.length_map]; omega), List.getElem?_replicate] at e
              split at e <;> cases e)
          have st0 : ∀ k, k < ds.length → (start N vs)[k]? = (vs.map some)[k]? := fun k hk => by
            show (vs.map some ++ List.replicate (N.length - vs.length) none)[k]? = _
            rw [List.getElem?_append_left (by rw [List.length_map, ← hl]; exact hk)]
          refine ⟨pins 0 ds, T, _, ρ, r0, ?_⟩
          -- what is handed back, of the frame's end
          have back : ∀ (s' : S) (σ' : Sg) (H' : Hp) (ρ' : List Addr) (T' : Addr → Prop), Rel K T' s' σ' H' ρ' → Far (pins 0 ds) T ⟨ds.map some ++ List.replicate (fn.nl - fn.np) none, hp⟩ (start N vs) H ρ T' s' σ' H' ρ' →
              Rel K T' ⟨msk ds (s'.env.take fn.np), s'.hp⟩ (vs.map some) H' ρ' ∧ (∀ b, Own ⟨msk ds (s'.env.take fn.np), s'.hp⟩ (vs.map some) ρ' b → Own s' σ' ρ' b) ∧
              Stp H (Own ⟨ds.map some, hp⟩ (vs.map some) ρ) T H' (Own ⟨msk ds (s'.env.take fn.np), s'.hp⟩ (vs.map some) ρ') T' := by
            intro s' σ' H' ρ' T' r' f'
            have el : s'.env.length = fn.nl := by
              rw [r'.len, f'.len]
              show (vs.map some ++ List.replicate (N.length - vs.length) none).length = _
              rw [List.length_append, List.length_map, List.length_replicate, h.nl, ← hl, hn]
              omega
            have tl : (s'.env.take fn.np).length = ds.length := by
              rw [List.length_take, el, hn]
              omega
            obtain ⟨r2, o2⟩ := r'.shrink (s' := ⟨msk ds (s'.env.take fn.np), s'.hp⟩) (σ' := vs.map some) (by
              show (msk ds (s'.env.take fn.np)).length = _
              rw [msk_len tl, List.length_map, hl]) rfl (fun k d e => by
              obtain ⟨o, h1, h2⟩ := msk_get.mp (g_get.mp e)
              have hk : k < ds.length := (List.getElem?_eq_some_iff.mp h1).1
              refine ⟨g_get.mpr ?_, ?_⟩
              · rw [List.getElem?_take] at h2
                split at h2
                · exact h2
                · cases h2
              · have fx := f'.fix k (by have := pins_get (j := 0) h1; rwa [Nat.zero_add] at this)
                rw [fx, st0 k hk])
            refine ⟨r2, o2, ⟨fun b u hb nb => f'.st.keep b u hb fun z => nb (o0 b z), fun b z => ?_, fun b t z => f'.st.dis b t (o2 b z), f'.st.sub, f'.st.fz⟩⟩
            exact (f'.st.new b (z.imp (o2 b) id)).imp (o0 b) id
          cases hx : exSs ⟨runF Pg gl n, gl, knF Pg⟩ (pins 0 ds) fn.body ⟨ds.map some ++ List.replicate (fn.nl - fn.np) none, hp⟩ with
          | bad => rw [hx] at q; exact q.elim
          | exc e m s' =>
            rw [hx] at q
            intro cls d σ' H' ρ' r' f' qx
            obtain ⟨r2, o2, st2⟩ := back s' σ' H' ρ' T r' f'
            exact q cls d H' ρ' r2 st2 f'.pre (qx.stay (Stay.less r'.mt fun b h => h.imp (o2 b) id))
          | ok fl s' =>
            rw [hx] at q
            cases fl with
            | nx =>
              intro σ' H' ρ' r' f'
              obtain ⟨r2, o2, st2⟩ := back s' σ' H' ρ' T r' f'
              have sb : ∀ z, Uni T (tOf (ofD (.im .non)) .non) z → T z := fun z h => h.elim id fun h => False.elim h
              exact q .non H' ρ' (r2.drop sb) (st2.drop sb fun _ z => .inl z) f'.pre .non fun b h => False.elim h
            | rt d =>
              intro v σ' H' ρ' r' f' q' d'
              obtain ⟨r2, o2, st2⟩ := back s' σ' H' ρ' _ r' f'
              refine q v H' ρ' r2 st2 f'.pre ?_ d'
              have ls : Stay H' (Uni (Own s' σ' ρ') (Uni T (tOf (ofD d) v))) ρ' H' (Uni (Own ⟨msk ds (s'.env.take fn.np), s'.hp⟩ (vs.map some) ρ') (Uni T (tOf (ofD d) v))) ρ' := Stay.less r'.mt fun b h => h.imp (o2 b) id
              cases d with
              | im i => exact Rp.stay ls q'
              | ob o =>
                obtain ⟨a, ea, p⟩ := q'
                exact ⟨a, ea, p.stay ls fun _ z => z⟩
        · rw [if_neg hn] at q
          exact q.elim
end
end CH
namespace CH
open PySem PySem.Spec PyProof.Rows L2
abbrev T0 : Addr → Prop := fun _ => False
/-- the law's own promise, of what the interpreter says -/
theorem law_sp {K : PySem.W.Frag} {cl : String → List D → List O → Rc} {ns : List Int} {as : List (Option D)} {hp' : List O} (h : cl "law" [.im (.xl (ns.map .int))] [] = .ok (.im (.bl true)) as hp') {H : Hp} {a : Addr} (hO : Only H) (hS : SqL K H a (ns.map V.int)) (E : XK) :
    spOf K cl "law" [.ref a] H (fun v _ => v = .bl true) E := by
  let wN : Wsh := WN
  have fz : Fz K H a (ns.map V.int) := by
    rcases hS with (hS | ⟨o, hS⟩) | hS
    · rcases hO a with z | ⟨o, xs, z⟩
      · rw [z] at hS; cases hS
      · rw [z] at hS; cases hS
    · exact .inl ⟨o, hS⟩
    · exact .inr hS
  have ow : ∀ b, ¬ Own ⟨[D.im (.xl (ns.map .int))].map some, []⟩ ([V.ref a].map some) [] b := by
    rintro b (⟨k, o, h1, _⟩ | h1)
    · have := frame_g.mp h1
      cases k with
      | zero => cases this
      | succ k => simp at this
    · cases h1
  refine ⟨T0, [.im (.xl (ns.map .int))], [], [], ⟨rfl, fun k i e => ?_, fun k o e => ?_, fun k j b o o' e => ?_, rfl, fun n o b e => ?_, .nil, fun b t => t.elim⟩, ?_⟩
  · have := frame_g.mp e
    cases k with
    | zero =>
      cases this
      exact ⟨_, rfl, .xl fz (Rps.ofInts ns)⟩
    | succ k => simp at this
  · have := frame_g.mp e
    cases k with
    | zero => cases this
    | succ k => simp at this
  · have := frame_g.mp e
    cases k with
    | zero => cases this
    | succ k => simp at this
  · simp at e
  · rw [h]
    intro v H' ρ' r' st p q d
    exact rpBl (σ := []) q
/-! what a law's text must have -/
def scB (N ps : List Str) (sc : Scope) : Bool := (match sc.kind with | .function => true | _ => false) && !sc.isCoroutine && !sc.isGenerator && decide N.Nodup && decide (N.take ps.length = ps) &&
  (ps.all fun x => match sc.names.lookup x with | some .local => true | some .cell => true | _ => false) && (sc.names.all fun y => match y.2 with | .free => false | _ => true)
theorem scB_ok {N ps : List Str} {sc : Scope} (h : scB N ps sc = true) : FnScope N ps sc := by
  unfold scB at h
  obtain ⟨h, h7⟩ := b_and h
  obtain ⟨h, h6⟩ := b_and h
  obtain ⟨h, h5⟩ := b_and h
  obtain ⟨h, h4⟩ := b_and h
  obtain ⟨h, h3⟩ := b_and h
  obtain ⟨h1, h2⟩ := b_and h
  refine ⟨?_, by simpa using h2, by simpa using h3, of_decide_eq_true h4, of_decide_eq_true h5, fun x hx => ?_, fun y hy e => ?_⟩
  · split at h1
    · assumption
    · cases h1
  · have := List.all_eq_true.mp h6 x hx
    split at this
    · exact .inl (by assumption)
    · exact .inr (by assumption)
    · cases this
  · have := List.all_eq_true.mp h7 y hy
    rw [e] at this
    cases this
/-- one def's data: its place in the text, its names by slot -/
def dOk (st : Stmt) (N ps : List Str) (fn : Fn) : Bool := scB N ps (defScope st) && decide (ps.length = fn.np) && decide (N.length = fn.nl) && ckSs (defScope st) N fn.body (defBody st)
theorem dOk_ok {gl : Glb} {K : PySem.W.Frag} {mg : Str → Option Value} {f : String} {fn : Fn} {a : Addr} {fd : FuncData} {st : Stmt} {N ps : List Str} {nm qn : Str} (h : dOk st N ps fn = true) (F : FunD K nm qn (defArgs st) (defBody st) (defScope st) [] [] a fd) (m : isM f = false → mg (Str.ofString f) = some (.ref a)) (b : Binds K fd ps [])
    (me : ∀ cl m, gl.kd f = some (cl, m) → Cls K (He.ga K (Str.ofString cl)) ∧ Meth K (He.ga K (Str.ofString cl)) (Str.ofString m) a ∧ (m = "__init__" → Mk K (He.ga K (Str.ofString cl)) a ∧ mg (Str.ofString cl) = some (clsA K cl))) : DefOk gl K mg f fn a fd st N ps nm qn := by
  unfold dOk at h
  obtain ⟨h, h4⟩ := b_and h
  obtain ⟨h, h3⟩ := b_and h
  obtain ⟨h1, h2⟩ := b_and h
  exact ⟨F, scB_ok h1, of_decide_eq_true h2, of_decide_eq_true h3, h4, m, b, me⟩
theorem rp_int {K : PySem.W.Frag} (i : Int) {t : Tok} : RelV (.int i) (.int i t) ∧ ∀ H W ρ, Rp K H W ρ (.int i) (.int i) := ⟨⟨t, rfl⟩, fun _ _ _ => .int i⟩
theorem rp_str {K : PySem.W.Frag} (l : List Nat) {t : Tok} : RelV (.str (mkS l)) (.str (mkS l) t) ∧ ∀ H W ρ, Rp K H W ρ (.str l) (.str (mkS l)) := ⟨⟨t, rfl⟩, fun _ _ _ => .str l⟩
/-- a promise that nothing is raised -/
theorem fn_calm {P : Program} {w : World} {K : PySem.W.Frag} {mg : Str → Option Value} {base : Heap} {k : Nat} {f : Addr} {fd : FuncData} {ps : List Str} {sp : Sp} (F : FnOk P w K mg base (L2.CX P w) k f fd ps sp) :
    FnOk P w K mg base L2.CX0 k f fd ps (fun vs H Q _ => sp vs H Q fun _ _ _ => False) :=
  ⟨fun vs H Q E q => F.len vs H Q _ q, fun A outer s H args us vs Q E hr he hb hv hs => codeAny_mono (F.run A outer s H args us vs Q _ hr he hb hv hs) fun r s' h => by
    cases r with
    | ok x => cases x <;> exact h
    | error e =>
      obtain ⟨_, _, _, _, _, _, _, _, _, _, _, _, z⟩ := h
      exact z.elim⟩
/-! the head's look, with more facts -/
def clB : Stmt → List Stmt
  | .ClassDef (body := b) .. => b
  | _ => []

def obsX (ex : PySem.W.Frag → Bool) (fa : List He.Fa) (fn : List He.DefD) (K : PySem.W.Frag) : He.AlD := (ex K && (He.obsD fa fn K).1, (He.obsD fa fn K).2)
def obsXG (n : Nat) (ex : PySem.W.Frag → Bool) (fa : List He.Fa) (fn : List He.DefD) (g : Addr → Option Obj) : He.AlD := obsX ex fa fn (He.frG g (He.asD g n ++ [cStatics]))
def hookX (n : Nat) (ex : PySem.W.Frag → Bool) (fa : List He.Fa) (fn : List He.DefD) : PySem.W.Hook where
  α := He.AlD
  obs := fun s => obsXG n ex fa fn s.heap.get?
  val := fun _ => He.valD fn
  says := fun _ h => ∃ K : PySem.W.Frag, K.In h ∧ obsX ex fa fn K = He.valD fn
  of := fun _ _ e => ⟨_, He.frG_in, e⟩
  keeps := fun _ _ _ ⟨K, hK, c⟩ k => ⟨K, PySem.W.Frag.In.keeps hK k, c⟩
theorem obsXG_eq {n : Nat} {ex : PySem.W.Frag → Bool} {fa : List He.Fa} {fn : List He.DefD} {g : Addr → Option Obj} {s : Shared} (h : ∀ a, g a = s.heap.get? a) : obsXG n ex fa fn g = (hookX n ex fa fn).obs s := by
  have e : g = s.heap.get? := funext h
  rw [e] <;> rfl
theorem saysX {ex : PySem.W.Frag → Bool} {fa : List He.Fa} {fn : List He.DefD} {K : PySem.W.Frag} (c : obsX ex fa fn K = He.valD fn) : ex K = true ∧ He.SaysD fa fn K := by
  have c1 : (ex K && (He.obsD fa fn K).1) = true := congrArg (fun z : He.AlD => z.1) c
  have c2 : (obsX ex fa fn K).2 = (He.valD fn).2 := congrArg (fun z : He.AlD => z.2) c
  obtain ⟨h1, h2⟩ := b_and c1
  exact ⟨h1, Prod.ext h2 c2⟩
/-- what of exceptions is looked at: the classes, the pairs that are asked, the base of all -/
def exB (cls : List String) (prs : List (String × String)) (base : List String) (K : PySem.W.Frag) : Bool :=
  (cls.all fun c => xeB K (He.ga K (Str.ofString c))) && ((base.all fun b => baseB K (He.ga K (Str.ofString b))) &&
  prs.all fun p => decide (PySem.W.kitOne K (clsA K p.1) (cvE K p.2) = some (under p.1 [p.2])) && decide (PySem.W.exmOne K (clsA K p.1) (cvE K p.2) = some (under p.1 [p.2])))
theorem exB_ok {cls : List String} {prs : List (String × String)} {base : List String} {K : PySem.W.Frag} (h : exB cls prs base K = true) :
    (∀ c ∈ cls, XeC K (He.ga K (Str.ofString c))) ∧ (∀ b ∈ base, BaseI K (He.ga K (Str.ofString b))) ∧
    ∀ p ∈ prs, PySem.W.kitOne K (clsA K p.1) (cvE K p.2) = some (under p.1 [p.2]) ∧ PySem.W.exmOne K (clsA K p.1) (cvE K p.2) = some (under p.1 [p.2]) := by
  obtain ⟨h1, h⟩ := b_and h
  obtain ⟨h2, h3⟩ := b_and h
  refine ⟨fun c hc => xeB_ok (List.all_eq_true.mp h1 c hc), fun b hb => baseB_ok (List.all_eq_true.mp h2 b hb), fun p hp => ?_⟩
  obtain ⟨h4, h5⟩ := b_and (List.all_eq_true.mp h3 p hp)
  exact ⟨of_decide_eq_true h4, of_decide_eq_true h5⟩
theorem iks_ok {mg : Str → Option Value} {cls : List String} {prs : List (String × String)} {base : List String} {K : PySem.W.Frag} (h : exB cls prs base K = true)
    (hp : (prs.all fun p => cls.contains p.1 && (p.2 == "ValueError" || cls.contains p.2 || base.contains p.2)) = true) (hm : ∀ c ∈ cls ++ base, mg (Str.ofString c) = some (clsA K c)) (hv : mg "ValueError" = none) (no : (cls ++ base).contains "ValueError" = false) :
    ∀ cl d, prs.contains (cl, d) = true → IkOk K mg cl d := by
  intro cl d hc
  have hc := List.contains_iff_mem.mp hc
  obtain ⟨x1, x2, x3⟩ := exB_ok h
  obtain ⟨k1, k2⟩ := x3 _ hc
  obtain ⟨p1, p2⟩ := b_and (List.all_eq_true.mp hp _ hc)
  refine ⟨x1 cl (List.contains_iff_mem.mp p1), k1, k2, fun _ => hv, fun ne => ?_⟩
  rw [Bool.or_eq_true, Bool.or_eq_true] at p2
  rcases p2 with (p2 | p2) | p2
  · exact absurd (beq_iff_eq.mp p2) ne
  · exact hm d (List.mem_append_left _ (List.contains_iff_mem.mp p2))
  · exact hm d (List.mem_append_right _ (List.contains_iff_mem.mp p2))
section
variable {P : Program} {w : World} {K : PySem.W.Frag} {mg : Str → Option Value} {base : Heap}
def iOk1 (st : Stmt) (N : List Str) (B f : Str) : Bool := scB N N (defScope st) && (decide (N.length = 2) && bodyC1 (defScope st) N B f (defBody st))
def iOk0 (st : Stmt) (N : List Str) (B : Str) : Bool := scB N N (defScope st) && (decide (N.length = 1) && bodyC0 (defScope st) N B (defBody st))
theorem xk1_ok {C b : Addr} {f : List Nat} {st : Stmt} {fd : FuncData} {N : List Str} {nm qn B : Str} (h : iOk1 st N B (mkS f) = true) (hf : f ≠ []) (xe : XeC K C) (hm : mg B = some (.ref b)) (hb : BaseI K b) (me : Meth K C "__init__" (He.ma K C "__init__"))
    (na : NoAttr K C (mkS f)) (F : FunD K nm qn (defArgs st) (defBody st) (defScope st) [] [] (He.ma K C "__init__") fd) (bi : Binds K fd N []) : XkAt P w K mg base C f := by
  obtain ⟨h1, h⟩ := b_and h
  obtain ⟨h2, h3⟩ := b_and h
  exact ⟨xe, _, fd, N, me.1, beq_iff_eq.mp me.2, bi, .inr ⟨hf, na, init1_ok F (scB_ok h1) (of_decide_eq_true h2) h3 hm hb⟩⟩
theorem xk0_ok {C b : Addr} {st : Stmt} {fd : FuncData} {N : List Str} {nm qn B : Str} (h : iOk0 st N B = true) (xe : XeC K C) (hm : mg B = some (.ref b)) (hb : BaseI K b) (me : Meth K C "__init__" (He.ma K C "__init__"))
    (F : FunD K nm qn (defArgs st) (defBody st) (defScope st) [] [] (He.ma K C "__init__") fd) (bi : Binds K fd N []) : XkAt P w K mg base C [] := by
  obtain ⟨h1, h⟩ := b_and h
  obtain ⟨h2, h3⟩ := b_and h
  exact ⟨xe, _, fd, N, me.1, beq_iff_eq.mp me.2, bi, .inl ⟨rfl, init0_ok F (scB_ok h1) (of_decide_eq_true h2) h3 hm hb⟩⟩
end
end CH
/-! What a program of the small language does, said by what must hold of its end. -/
namespace CP
open CH
def _root_.CH.Res.wp {α : Type} (x : Res α) (Q : α → S → Prop) : Prop := match x with
  | .ok a s => Q a s
  | _ => False
theorem wp_only {α : Type} {x y : Res α} {Q : α → S → Prop} (h : x = y) : x.wp Q = y.wp Q := by rw [h]
theorem bind_only {α β : Type} {x y : Res α} {f : α → S → Res β} (h : x = y) : x.bind f = y.bind f := by rw [h]
def mb {α : Type} (o : Option α) (k : α → Prop) : Prop := match o with
  | some a => k a
  | none => False
theorem mb_only {α : Type} {o p : Option α} {k : α → Prop} (h : o = p) : mb o k = mb p k := by rw [h]
theorem mb_some {α : Type} (a : α) (k : α → Prop) : mb (some a) k = k a := rfl
theorem wp_ok {α : Type} (a : α) (s : S) (Q : α → S → Prop) : (Res.ok a s).wp Q = Q a s := rfl
theorem wp_bad {α : Type} (Q : α → S → Prop) : (Res.bad : Res α).wp Q = False := rfl
theorem wp_bind {α β : Type} (x : Res α) (f : α → S → Res β) (Q : β → S → Prop) : (x.bind f).wp Q = x.wp fun a s => (f a s).wp Q := by cases x <;> rfl
theorem wp_req {α : Type} (c : Bool) (x : Res α) (Q : α → S → Prop) : (Res.req c x).wp Q = (c = true ∧ x.wp Q) := by
  cases c
  · simp [Res.req, CH.Res.wp]
  · simp [Res.req]
theorem wp_ite {α : Type} (c : Prop) [Decidable c] (x y : Res α) (Q : α → S → Prop) : (if c then x else y).wp Q = if c then x.wp Q else y.wp Q := by split <;> rfl
theorem wp_opt {α : Type} (o : Option α) (s : S) (Q : α → S → Prop) : (opt o s).wp Q = mb o fun a => Q a s := by cases o <;> rfl
theorem wp_mono {α : Type} {x : Res α} {Q Q' : α → S → Prop} (h : x.wp Q) (k : ∀ a s, Q a s → Q' a s) : x.wp Q' := by
  cases x with
  | ok a s => exact k a s h
  | exc => exact h
  | bad => exact h
def _root_.CH.Rc.wp (x : Rc) (Q : D → List (Option D) → List O → Prop) : Prop := match x with
  | .ok d as hp => Q d as hp
  | _ => False
theorem rwp_ok (d : D) (as : List (Option D)) (hp : List O) (Q : D → List (Option D) → List O → Prop) : (Rc.ok d as hp).wp Q = Q d as hp := rfl
theorem rwp_mono {x : Rc} {Q Q' : D → List (Option D) → List O → Prop} (h : x.wp Q) (k : ∀ a b c, Q a b c → Q' a b c) : x.wp Q' := by
  cases x with
  | ok a b c => exact k a b c h
  | exc => exact h
  | bad => exact h
theorem rwp_only {x y : Rc} {Q : D → List (Option D) → List O → Prop} (h : x = y) : x.wp Q = y.wp Q := by rw [h]
theorem wp_call (c : Ctx) (f : String) (xs : List R) (s : S) (Q : R → S → Prop) :
    (doCall c f xs s).wp Q = mb (asDs xs s) fun ds => (vars xs).Nodup ∧ (c.cl f ds s.hp).wp fun d as hp => mb (outs xs as s.env) fun env => Q (ofD d) ⟨env, hp⟩ := by
  unfold doCall
  cases asDs xs s with
  | none => rfl
  | some ds =>
    simp only [wp_req, mb, decide_eq_true_eq]
    refine congrArg _ ?_
    cases c.cl f ds s.hp with
    | ok d as hp =>
      simp only [CH.Rc.wp]
      cases outs xs as s.env <;> rfl
    | exc e l as hp =>
      simp only [CH.Rc.wp]
      cases outs xs as s.env <;> rfl
    | bad => rfl
def retQ (np : Nat) (Q : D → List (Option D) → List O → Prop) (fl : Fl) (s : S) : Prop := match fl with
  | .nx => Q (.im .non) (s.env.take np) s.hp
  | .rt d => Q d (s.env.take np) s.hp
theorem wp_runF {P : String → Option Fn} {gl : Glb} {n : Nat} {f : String} {ds : List D} {hp : List O} {fn : Fn} {Q : D → List (Option D) → List O → Prop} (h : P f = some fn) (hl : ds.length = fn.np)
    (k : (exSs ⟨runF P gl n, gl, knF P⟩ (pins 0 ds) fn.body ⟨ds.map some ++ List.replicate (fn.nl - fn.np) none, hp⟩).wp (retQ fn.np Q)) : (runF P gl (n + 1) f ds hp).wp Q := by
  unfold runF
  simp only [h, hl, if_true]
  cases hx : exSs ⟨runF P gl n, gl, knF P⟩ (pins 0 ds) fn.body ⟨ds.map some ++ List.replicate (fn.nl - fn.np) none, hp⟩ with
  | ok fl s =>
    rw [hx] at k
    cases fl <;> exact k
  | exc => rw [hx] at k; exact k.elim
  | bad => rw [hx] at k; exact k.elim
theorem runF_kn {P : String → Option Fn} {gl : Glb} {n : Nat} {f : String} {ds : List D} {hp : List O} {Q : D → List (Option D) → List O → Prop} (h : (runF P gl n f ds hp).wp Q) : knF P f = true := by
  cases n with
  | zero => exact h.elim
  | succ n =>
    unfold runF at h
    unfold knF
    cases e : P f with
    | none => rw [e] at h; exact h.elim
    | some fn => rfl
theorem wp_bindN {α β : Type} (x : Res α) (f : α → S → Res β) (Q : β → S → Prop) : (x.bindN f).wp Q = x.wp fun a s => (f a s).wp Q := by cases x <;> rfl
theorem wp_noX {α : Type} (x : Res α) (Q : α → S → Prop) : x.noX.wp Q = x.wp Q := by cases x <;> rfl
/-! loops -/
theorem wp_forL {c : Src} {f : I → S → Res Fl} {Q : Fl → S → Prop} (Inv : List I → S → Prop) (hg : ∀ r s, Inv r s → c.good s = true)
    (hs : ∀ i r s, Inv (i :: r) s → (f i s).wp fun fl s' => match fl with | .nx => Inv r s' | .rt d => Q (.rt d) s') (h0 : ∀ s, Inv [] s → Q .nx s) : ∀ (l : List I) (s : S), Inv l s → (forL c f l s).wp Q
  | [], s, h => by
    unfold forL
    rw [wp_req]
    exact ⟨hg _ _ h, h0 _ h⟩
  | i :: r, s, h => by
    unfold forL
    rw [wp_req, wp_bind]
    refine ⟨hg _ _ h, wp_mono (hs i r s h) fun fl s' hq => ?_⟩
    cases fl with
    | nx => exact wp_forL Inv hg hs h0 r s' hq
    | rt d => exact hq
/-- over range(a, b): the invariant of the places passed -/
theorem wp_forR {f : I → S → Res Fl} {Q : Fl → S → Prop} {a b : Int} (Inv : Nat → S → Prop)
    (hs : ∀ (i : Nat) s, (i : Int) < b - a → Inv i s → (f (.int (a + i)) s).wp fun fl s' => match fl with | .nx => Inv (i + 1) s' | .rt d => Q (.rt d) s') (h0 : ∀ s, Inv (b - a).toNat s → Q .nx s) (s : S) (h : Inv 0 s) : (forL .imm f (rng a b) s).wp Q := by
  suffices z : ∀ (m k : Nat) (s : S), k + m = (b - a).toNat → Inv k s → (forL .imm f ((List.range' k m).map fun (i : Nat) => .int (a + i)) s).wp Q by
    have := z (b - a).toNat 0 s (by omega) h
    rwa [← List.range_eq_range'] at this
  intro m
  induction m with
  | zero =>
    intro k s hk hi
    have : k = (b - a).toNat := by omega
    subst this
    simp only [List.range', List.map_nil, forL, wp_req, Src.good, wp_ok, true_and]
    exact h0 s hi
  | succ m ih =>
    intro k s hk hi
    simp only [List.range', List.map_cons, forL, wp_req, wp_bind, Src.good, true_and]
    refine wp_mono (hs k s (by omega) hi) fun fl s' hq => ?_
    cases fl with
    | nx => exact ih (k + 1) s' (by omega) hq
    | rt d => exact hq
theorem wp_compL {c : Src} {f : I → S → Res (Option I)} {Q : List I → S → Prop} (Inv : List I → List I → S → Prop) (hg : ∀ r acc s, Inv r acc s → c.good s = true)
    (hs : ∀ i r acc s, Inv (i :: r) acc s → (f i s).wp fun o s' => match o with | some v => acc.length < 16777216 ∧ Inv r (acc ++ [v]) s' | none => Inv r acc s') (h0 : ∀ acc s, Inv [] acc s → Q acc s) : ∀ (l acc : List I) (s : S), Inv l acc s → (compL c f l acc s).wp Q
  | [], acc, s, h => by
    unfold compL
    rw [wp_req]
    exact ⟨hg _ _ _ h, h0 _ _ h⟩
  | i :: r, acc, s, h => by
    unfold compL
    rw [wp_req, wp_bindN]
    refine ⟨hg _ _ _ h, wp_mono (hs i r acc s h) fun o s' hq => ?_⟩
    cases o with
    | some v =>
      simp only [wp_req, decide_eq_true_eq]
      exact ⟨hq.1, wp_compL Inv hg hs h0 r _ s' hq.2⟩
    | none => exact wp_compL Inv hg hs h0 r acc s' hq
/-- over range(0, b): what is drawn has a form -/
theorem wp_compR {f : I → S → Res (Option I)} {Q : List I → S → Prop} {b : Int} (Inv : S → Prop) (p : I → Prop) (hb : b < 16777216)
    (hs : ∀ (i : Nat) s, (i : Int) < b → Inv s → (f (.int i) s).wp fun o s' => ∃ v, o = some v ∧ p v ∧ Inv s') (h0 : ∀ l s, l.length = b.toNat → (∀ v ∈ l, p v) → Inv s → Q l s) (s : S) (h : Inv s) : (compL .imm f (rng 0 b) [] s).wp Q := by
  suffices z : ∀ (m k : Nat) (acc : List I) (s : S), acc.length = k → (∀ v ∈ acc, p v) → k + m = b.toNat → Inv s → (compL .imm f ((List.range' k m).map fun (i : Nat) => .int (0 + i)) acc s).wp Q by
    have := z b.toNat 0 [] s rfl (by simp) (by omega) h
    rw [← List.range_eq_range'] at this
    unfold rng
    rw [Int.sub_zero]
    exact this
  intro m
  induction m with
  | zero =>
    intro k acc s ha hp hk hi
    simp only [List.range', List.map_nil, compL, wp_req, Src.good, wp_ok, true_and]
    exact h0 acc s (by omega) hp hi
  | succ m ih =>
    intro k acc s ha hp hk hi
    simp only [List.range', List.map_cons, compL, wp_req, wp_bindN, Src.good, true_and]
    have hs' := hs k s (by omega) hi
    rw [show (k : Int) = 0 + k by omega] at hs'
    refine wp_mono hs' fun o s' hq => ?_
    obtain ⟨v, rfl, hv, hi'⟩ := hq
    simp only [wp_req, decide_eq_true_eq]
    refine ⟨by omega, ?_⟩
    refine ih (k + 1) (acc ++ [v]) s' (by simp [ha]) ?_ (by omega) hi'
    intro u hu
    rcases List.mem_append.mp hu with h | h
    · exact hp u h
    · rw [List.mem_singleton.mp h]; exact hv
/-- each item's own value, the state as it was -/
theorem wp_compM {c : Src} {f : I → S → Res (Option I)} {Q : List I → S → Prop} {l : List I} {s : S} (g : I → I) (hg : c.good s = true) (hl : l.length < 16777216)
    (hs : ∀ i ∈ l, (f i s).wp fun o s' => o = some (g i) ∧ s' = s) (h0 : Q (l.map g) s) : (compL c f l [] s).wp Q := by
  suffices z : ∀ (r acc : List I), acc.length + r.length < 16777216 → (∀ i ∈ r, i ∈ l) → acc ++ r.map g = l.map g → (compL c f r acc s).wp Q by
    exact z l [] (by simpa using hl) (fun _ h => h) rfl
  intro r
  induction r with
  | nil =>
    intro acc hn hm e
    simp only [compL, wp_req, wp_ok]
    rw [List.map_nil, List.append_nil] at e
    exact ⟨hg, e ▸ h0⟩
  | cons i r ih =>
    intro acc hn hm e
    simp only [compL, wp_req, wp_bindN]
    refine ⟨hg, wp_mono (hs i (hm i (by simp))) fun o s' hq => ?_⟩
    obtain ⟨rfl, rfl⟩ := hq
    simp only [wp_req, decide_eq_true_eq]
    refine ⟨by simp at hn; omega, ih (acc ++ [g i]) (by simp at hn ⊢; omega) (fun i h => hm i (by simp [h])) (by simpa using e)⟩
mutual
theorem same_refl : ∀ i : I, I.same i i = true
  | .non => rfl
  | .bl b => by simp [I.same]
  | .int i => by simp [I.same]
  | .str l => by simp [I.same]
  | .tup l => by simp only [I.same]; exact sameL_refl l
  | .fl l => by simp only [I.same]; exact sameL_refl l
  | .xl l => by simp only [I.same]; exact sameL_refl l
  | .ref n => by simp [I.same]
  | .fa a f => by simp [I.same]
  | .ex c l => by simp only [I.same, beq_self_eq_true, Bool.true_and]; exact sameL_refl l
theorem sameL_refl : ∀ l : List I, sameL l l = true
  | [] => rfl
  | a :: r => by simp only [sameL, same_refl a, sameL_refl r, Bool.and_self]
end
theorem binop_ii (o : Op) (i j : Int) (s : S) : binop o (.val (.int i)) (.val (.int j)) s = arith o i j s := rfl
theorem binop_ss (a b : List Nat) (s : S) : binop .add (.val (.str a)) (.val (.str b)) s = Res.req (decide (a.length + b.length ≤ 16777216)) (.ok (.val (.str (a ++ b))) s) := rfl
theorem binop_si (a : List Nat) (k : Int) (s : S) : binop .mul (.val (.str a)) (.val (.int k)) s = Res.req (decide (-9223372036854775808 ≤ k ∧ k < 1000 ∧ a.length ≤ 1000)) (.ok (.val (.str (List.replicate k.toNat a).flatten)) s) := rfl
theorem binop_tt (o o' : O) (s : S) : binop .add (.tmp o) (.tmp o') s = seqOp .add (.tmp o) (.tmp o') s := rfl
theorem binop_vt (k : Nat) (o' : O) (s : S) : binop .add (.var k) (.tmp o') s = seqOp .add (.var k) (.tmp o') s := rfl
theorem binop_tv (k : Nat) (o' : O) (s : S) : binop .add (.tmp o') (.var k) s = seqOp .add (.tmp o') (.var k) s := rfl
theorem binop_vv (k j : Nat) (s : S) : binop .add (.var k) (.var j) s = seqOp .add (.var k) (.var j) s := rfl
theorem binop_pp (l m : List I) (s : S) : binop .add (.val (.tup l)) (.val (.tup m)) s = Res.req (decide (l.length + m.length ≤ 16777216)) (.ok (.val (.tup (l ++ m))) s) := rfl
theorem ixop_s (l : List Nat) (i : Int) (s : S) : ixop (.val (.str l)) (.val (.int i)) s = Res.req (decide (l.length ≤ 16777216)) (opt ((atN l i).map fun c => .val (.str [c])) s) := rfl
theorem cmp_ii (o : Cp) (i j : Int) (s : S) : cmpop o (.val (.int i)) (.val (.int j)) s = .ok (.val (.bl (ordI o i j))) s := rfl
theorem cmp_ss (o : Cp) (i j : List Nat) (s : S) : cmpop o (.val (.str i)) (.val (.str j)) s = .ok (.val (.bl (ordS o i j))) s := rfl
/-- an index that is in range -/
theorem atN_in {α : Type} {xs : List α} {i : Int} (h0 : 0 ≤ i) (h1 : i < xs.length) : ∃ a, atN xs i = some a ∧ a ∈ xs := by
  have hl : i.toNat < xs.length := by omega
  refine ⟨xs[i.toNat], ?_, List.getElem_mem hl⟩
  unfold atN ixn
  rw [if_pos h0, if_pos h1]
  exact List.getElem?_eq_getElem hl
theorem atN_get {α : Type} {xs : List α} {i : Int} (h0 : 0 ≤ i) (h1 : i < xs.length) : atN xs i = xs[i.toNat]? := by
  unfold atN ixn
  rw [if_pos h0, if_pos h1]
  rfl
theorem ixn_in {n : Nat} {i : Int} (h0 : 0 ≤ i) (h1 : i < n) : ixn n i = some i.toNat := by
  unfold ixn
  rw [if_pos h0, if_pos h1]
end CP
namespace CP
open CH
theorem cmp_vv (o : Cp) (k j : Nat) (s : S) : cmpop o (.var k) (.var j) s = (match viewI (.var k) s, viewI (.var j) s with | some a, some b => eqop o a b s | _, _ => .bad) := rfl
theorem cmp_tv (o : Cp) (k : O) (j : Nat) (s : S) : cmpop o (.tmp k) (.var j) s = (match viewI (.tmp k) s, viewI (.var j) s with | some a, some b => eqop o a b s | _, _ => .bad) := rfl
theorem cmp_vt (o : Cp) (k : O) (j : Nat) (s : S) : cmpop o (.var j) (.tmp k) s = (match viewI (.var j) s, viewI (.tmp k) s with | some a, some b => eqop o a b s | _, _ => .bad) := rfl
theorem cmp_tt (o : Cp) (k j : O) (s : S) : cmpop o (.tmp k) (.tmp j) s = (match viewI (.tmp k) s, viewI (.tmp j) s with | some a, some b => eqop o a b s | _, _ => .bad) := rfl
theorem cmp_pp (o : Cp) (a b : List I) (s : S) : cmpop o (.val (.tup a)) (.val (.tup b)) s = eqop o (.tup a) (.tup b) s := rfl
theorem cmp_bb (o : Cp) (a b : Bool) (s : S) : cmpop o (.val (.bl a)) (.val (.bl b)) s = eqop o (.bl a) (.bl b) s := rfl
theorem ixop_v (k : Nat) (i : Int) (s : S) : ixop (.var k) (.val (.int i)) s = (match viewQ (.var k) s with | some (_, l) => opt ((atN l i).map .val) s | none => .bad) := rfl
theorem ixop_t (o : O) (i : Int) (s : S) : ixop (.tmp o) (.val (.int i)) s = (match viewQ (.tmp o) s with | some (_, l) => opt ((atN l i).map .val) s | none => .bad) := rfl
theorem ixop_q (l : List I) (i : Int) (s : S) : ixop (.val (.tup l)) (.val (.int i)) s = opt ((atN l i).map .val) s := rfl
theorem ixop_f (l : List I) (i : Int) (s : S) : ixop (.val (.fl l)) (.val (.int i)) s = opt ((atN l i).map .val) s := rfl
theorem ixop_x (l : List I) (i : Int) (s : S) : ixop (.val (.xl l)) (.val (.int i)) s = opt ((atN l i).map .val) s := rfl
theorem lenop_s (l : List Nat) (s : S) : lenop (.val (.str l)) s = Res.req (decide (l.length ≤ 16777216)) (.ok (.val (.int l.length)) s) := rfl
theorem lenop_q (l : List I) (s : S) : lenop (.val (.tup l)) s = .ok (.val (.int l.length)) s := rfl
theorem lenop_f (l : List I) (s : S) : lenop (.val (.fl l)) s = .ok (.val (.int l.length)) s := rfl
theorem lenop_x (l : List I) (s : S) : lenop (.val (.xl l)) s = .ok (.val (.int l.length)) s := rfl
theorem lenop_t (l : List I) (s : S) : lenop (.tmp (.lst l)) s = .ok (.val (.int l.length)) s := rfl
theorem lenop_d (l : List (I × I)) (s : S) : lenop (.tmp (.dct false l)) s = .ok (.val (.int l.length)) s := rfl
theorem lenop_v (k : Nat) (s : S) : lenop (.var k) s = (match viewQ (.var k) s with | some (_, l) => .ok (.val (.int l.length)) s | none => match viewD (.var k) s with | some (false, l) => .ok (.val (.int l.length)) s | _ => .bad) := rfl
theorem slop_s (l : List Nat) (lo hi : Option Int) (s : S) : slop (.val (.str l)) lo hi s = Res.req (decide (l.length ≤ 16777216)) (.ok (.val (.str (cut l lo hi))) s) := rfl
theorem slop_q (l : List I) (lo hi : Option Int) (s : S) : slop (.val (.tup l)) lo hi s = .ok (.val (.tup (cut l lo hi))) s := rfl
theorem slop_f (l : List I) (lo hi : Option Int) (s : S) : slop (.val (.fl l)) lo hi s = .ok (.tmp (.lst (cut l lo hi))) s := rfl
theorem slop_t (l : List I) (lo hi : Option Int) (s : S) : slop (.tmp (.lst l)) lo hi s = .ok (.tmp (.lst (cut l lo hi))) s := rfl
theorem slop_v (k : Nat) (lo hi : Option Int) (s : S) : slop (.var k) lo hi s = (match viewQ (.var k) s with | some (true, l) => .ok (.val (.tup (cut l lo hi))) s | some (false, l) => .ok (.tmp (.lst (cut l lo hi))) s | none => .bad) := rfl
theorem cut_len {α : Type} (l : List α) (lo hi : Option Int) : (cut l lo hi).length ≤ l.length := by
  unfold cut
  rw [List.length_take, List.length_drop]
  omega
end CP
/-! The steps of the small language, one a construct, at a state that is written out. -/
namespace CP
open CH
variable {c : Ctx} {e : List (Option D)} {h : List O} {pin : List Nat}
section
variable {Q : R → S → Prop}
def wLoc (k : Nat) (o : Option D) (s : S) (Q : R → S → Prop) : Prop := match o with
  | some (.im i) => Q (.val i) s
  | some (.ob _) => Q (.var k) s
  | none => False
theorem wLoc_im (k : Nat) (i : I) (s : S) : wLoc k (some (.im i)) s Q = Q (.val i) s := rfl
theorem wLoc_ob (k : Nat) (i : O) (s : S) : wLoc k (some (.ob i)) s Q = Q (.var k) s := rfl
theorem w_loc (k : Nat) : (evE c (.loc k) ⟨e, h⟩).wp Q = wLoc k (e.getD k none) ⟨e, h⟩ Q := by
  simp only [evE, S.g]
  cases e.getD k none with
  | none => rfl
  | some d => cases d <;> rfl
theorem w_glb (x : String) : (evE c (.glb x) ⟨e, h⟩).wp Q = mb (c.gl x) fun i => Q (.val i) ⟨e, h⟩ := by
  simp only [evE, wp_opt]
  cases c.gl x <;> rfl
theorem w_cst (i : I) : (evE c (.cst i) ⟨e, h⟩).wp Q = Q (.val i) ⟨e, h⟩ := by simp only [evE, wp_ok]
theorem w_tup (es : List E) : (evE c (.tup es) ⟨e, h⟩).wp Q = (evIs c es ⟨e, h⟩).wp fun l s1 => l.length ≤ 16777216 ∧ Q (.val (.tup l)) s1 := by simp only [evE, wp_bind, wp_req, wp_ok, decide_eq_true_eq]
def wBox (x : R) (s : S) (Q : R → S → Prop) : Prop := match x with
  | .tmp o => Q (.val (.ref s.hp.length)) { s with hp := s.hp ++ [o] }
  | _ => False
theorem wBox_t (o : O) : wBox (.tmp o) ⟨e, h⟩ Q = Q (.val (.ref h.length)) ⟨e, h ++ [o]⟩ := rfl
theorem w_box (a : E) : (evE c (.box a) ⟨e, h⟩).wp Q = (evE c a ⟨e, h⟩).wp fun x s1 => wBox x s1 Q := by
  simp only [evE, wp_bind]
  congr 1
  funext x s
  cases x <;> rfl
theorem w_lrg1 (a : E) : (evE c (.lrg1 a) ⟨e, h⟩).wp Q = (evE c a ⟨e, h⟩).wp fun x s1 => mb (rint x) fun i => (small i = true ∧ i ≤ 16777216) ∧ Q (.tmp (.lst (rng 0 i))) s1 := by
  simp only [evE, wp_bind]
  congr 1
  funext x s
  cases rint x with
  | none => rfl
  | some i => simp only [mb_some, wp_req, wp_ok, Bool.and_eq_true, decide_eq_true_eq]
theorem w_lrg2 (a b : E) : (evE c (.lrg2 a b) ⟨e, h⟩).wp Q = (evE c a ⟨e, h⟩).wp fun x s1 => (evE c b s1).wp fun y s2 => mb (rint x) fun i => mb (rint y) fun j => ((small i = true ∧ small j = true) ∧ j - i ≤ 16777216) ∧ Q (.tmp (.lst (rng i j))) s2 := by
  simp only [evE, wp_bind]
  congr 1
  funext x s
  congr 1
  funext y s
  cases rint x with
  | none => rfl
  | some i => cases rint y with
    | none => rfl
    | some j => simp only [mb_some, wp_req, wp_ok, Bool.and_eq_true, decide_eq_true_eq]
theorem w_lst (es : List E) : (evE c (.lst es) ⟨e, h⟩).wp Q = (evIs c es ⟨e, h⟩).wp fun l s1 => l.length ≤ 16777216 ∧ Q (.tmp (.lst l)) s1 := by simp only [evE, wp_bind, wp_req, wp_ok, decide_eq_true_eq]
theorem w_dct (t : Bool) (es : List E) : (evE c (.dct t es) ⟨e, h⟩).wp Q = (evIs c es ⟨e, h⟩).wp fun l s1 => mb (pairUp t [] l) fun kvs => Q (.tmp (.dct t kvs)) s1 := by
  simp only [evE, wp_bind, wp_opt]
  congr 1
  funext l s
  cases pairUp t [] l <;> rfl
theorem w_op (o : Op) (a b : E) : (evE c (.op o a b) ⟨e, h⟩).wp Q = (evE c a ⟨e, h⟩).wp fun x s1 => (evE c b s1).wp fun y s2 => (binop o x y s2).wp Q := by simp only [evE, wp_bind]
theorem w_cmp (o : Cp) (a b : E) : (evE c (.cmp o a b) ⟨e, h⟩).wp Q = (evE c a ⟨e, h⟩).wp fun x s1 => (evE c b s1).wp fun y s2 => (cmpop o x y s2).wp Q := by simp only [evE, wp_bind]
def wTest (x : R) (t f : Prop) : Prop := match x with
  | .val (.bl true) => t
  | .val (.bl false) => f
  | _ => False
theorem wTest_b (b : Bool) (t f : Prop) : wTest (.val (.bl b)) t f = if b = true then t else f := by cases b <;> rfl
theorem w_chain (o p : Cp) (a b d : E) : (evE c (.chain o p a b d) ⟨e, h⟩).wp Q = (evE c a ⟨e, h⟩).wp fun x s1 => (evE c b s1).wp fun y s2 => (cmpop o x y s2).wp fun z s3 => wTest z ((evE c d s3).wp fun w s4 => (cmpop p y w s4).wp Q) (Q (.val (.bl false)) s3) := by
  simp only [evE, wp_bind]
  congr 1
  funext x s1
  congr 1
  funext y s2
  congr 1
  funext z s3
  cases z with
  | val i => (cases i <;> first | rfl | (rename_i b; cases b <;> first | rfl | simp only [wp_bind, wTest]))
  | tmp => rfl
  | var => rfl
theorem w_and (a b : E) : (evE c (.and a b) ⟨e, h⟩).wp Q = (evE c a ⟨e, h⟩).wp fun z s3 => wTest z ((evE c b s3).wp Q) (Q (.val (.bl false)) s3) := by
  simp only [evE, wp_bind]
  congr 1
  funext z s3
  cases z with
  | val i => (cases i <;> first | rfl | (rename_i b; cases b <;> first | rfl | simp only [wp_bind, wTest]))
  | tmp => rfl
  | var => rfl
theorem w_or (a b : E) : (evE c (.or a b) ⟨e, h⟩).wp Q = (evE c a ⟨e, h⟩).wp fun z s3 => wTest z (Q (.val (.bl true)) s3) ((evE c b s3).wp Q) := by
  simp only [evE, wp_bind]
  congr 1
  funext z s3
  cases z with
  | val i => (cases i <;> first | rfl | (rename_i b; cases b <;> first | rfl | simp only [wp_bind, wTest]))
  | tmp => rfl
  | var => rfl
theorem w_not (a : E) : (evE c (.not a) ⟨e, h⟩).wp Q = (evE c a ⟨e, h⟩).wp fun z s3 => wTest z (Q (.val (.bl false)) s3) (Q (.val (.bl true)) s3) := by
  simp only [evE, wp_bind]
  congr 1
  funext z s3
  cases z with
  | val i => (cases i <;> first | rfl | (rename_i b; cases b <;> first | rfl | simp only [wp_bind, wTest]))
  | tmp => rfl
  | var => rfl
theorem w_neg (a : E) : (evE c (.neg a) ⟨e, h⟩).wp Q = (evE c a ⟨e, h⟩).wp fun z s3 => mb (rint z) fun i => Q (.val (.int (-i))) s3 := by
  simp only [evE, wp_bind]
  congr 1
  funext z s3
  cases z with
  | val i => cases i <;> rfl
  | tmp => rfl
  | var => rfl
theorem w_inq (n : Bool) (a b : E) : (evE c (.inq n a b) ⟨e, h⟩).wp Q = (evE c a ⟨e, h⟩).wp fun x s1 => (evE c b s1).wp fun y s2 => (inop n x y s2).wp Q := by simp only [evE, wp_bind]
theorem w_ins (n : Bool) (a b : E) : (evE c (.ins n a b) ⟨e, h⟩).wp Q = (evE c a ⟨e, h⟩).wp fun x s1 => (evE c b s1).wp fun y s2 => (insop n x y s2).wp Q := by simp only [evE, wp_bind]
theorem w_ind (n : Bool) (a b : E) : (evE c (.ind n a b) ⟨e, h⟩).wp Q = (evE c a ⟨e, h⟩).wp fun x s1 => (evE c b s1).wp fun y s2 => (indop n x y s2).wp Q := by simp only [evE, wp_bind]
theorem w_isn (n : Bool) (a : E) : (evE c (.isn n a) ⟨e, h⟩).wp Q = (evE c a ⟨e, h⟩).wp fun x s1 => (isnop n x s1).wp Q := by simp only [evE, wp_bind]
theorem w_idx (a b : E) : (evE c (.idx a b) ⟨e, h⟩).wp Q = (evE c a ⟨e, h⟩).wp fun x s1 => (evE c b s1).wp fun y s2 => (ixop x y s2).wp Q := by simp only [evE, wp_bind]
theorem w_ixd (a b : E) : (evE c (.ixd a b) ⟨e, h⟩).wp Q = (evE c a ⟨e, h⟩).wp fun x s1 => (evE c b s1).wp fun y s2 => (ixdop x y s2).wp Q := by simp only [evE, wp_bind]
theorem w_slc (a : E) (lo hi : Option E) : (evE c (.slc a lo hi) ⟨e, h⟩).wp Q = (evE c a ⟨e, h⟩).wp fun x s1 => (evO c lo s1).wp fun l s2 => (evO c hi s2).wp fun m s3 => (slop x l m s3).wp Q := by simp only [evE, wp_bind]
theorem w_rvs (a : E) : (evE c (.rvs a) ⟨e, h⟩).wp Q = (evE c a ⟨e, h⟩).wp fun x s1 => (rvop x s1).wp Q := by simp only [evE, wp_bind]
theorem doCall_kn {P : String → Option Fn} {gl : Glb} {n : Nat} {f : String} {xs : List R} {s : S} (h : (doCall ⟨runF P gl n, gl, knF P⟩ f xs s).wp Q) : knF P f = true := by
  rw [wp_call] at h
  cases e : asDs xs s with
  | none => rw [e] at h; exact h.elim
  | some ds =>
    rw [e] at h
    exact runF_kn h.2
theorem wp_some {α : Type} {x : Res α} {Q : α → S → Prop} (h : x.wp Q) : ∃ a s, Q a s := by
  cases x with
  | ok a s => exact ⟨a, s, h⟩
  | exc => exact h.elim
  | bad => exact h.elim
theorem w_call {P : String → Option Fn} {gl : Glb} {n : Nat} (f : String) (es : List E) : (evE ⟨runF P gl n, gl, knF P⟩ (.call f es) ⟨e, h⟩).wp Q = (evEs ⟨runF P gl n, gl, knF P⟩ es ⟨e, h⟩).wp fun xs s1 => (doCall ⟨runF P gl n, gl, knF P⟩ f xs s1).wp Q := by
  simp only [evE, wp_req, wp_bind]
  refine propext ⟨fun z => z.2, fun z => ⟨?_, z⟩⟩
  obtain ⟨_, _, z⟩ := wp_some z
  exact doCall_kn z
theorem w_dcall (f : String) (xs : List R) : (doCall c f xs ⟨e, h⟩).wp Q = mb (asDs xs ⟨e, h⟩) fun ds => (vars xs).Nodup ∧ (c.cl f ds h).wp fun d as hp => mb (outs xs as e) fun env => Q (ofD d) ⟨env, hp⟩ := wp_call c f xs ⟨e, h⟩ Q
theorem w_len (a : E) : (evE c (.len a) ⟨e, h⟩).wp Q = (evE c a ⟨e, h⟩).wp fun x s1 => (lenop x s1).wp Q := by simp only [evE, wp_bind]
theorem w_toInt (a : E) : (evE c (.toInt a) ⟨e, h⟩).wp Q = (evE c a ⟨e, h⟩).wp fun x s1 => (intop x s1).wp Q := by simp only [evE, wp_bind]
theorem w_toTup (a : E) : (evE c (.toTup a) ⟨e, h⟩).wp Q = (evE c a ⟨e, h⟩).wp fun x s1 => (tupop x s1).wp Q := by simp only [evE, wp_bind]
theorem w_toLst (a : E) : (evE c (.toLst a) ⟨e, h⟩).wp Q = (evE c a ⟨e, h⟩).wp fun x s1 => (lstop x s1).wp Q := by simp only [evE, wp_bind]
theorem w_dictP (a : E) : (evE c (.dictP a) ⟨e, h⟩).wp Q = (evE c a ⟨e, h⟩).wp fun x s1 => (dictPop x s1).wp Q := by simp only [evE, wp_bind]
theorem w_listD (a : E) : (evE c (.listD a) ⟨e, h⟩).wp Q = (evE c a ⟨e, h⟩).wp fun x s1 => (listDop x s1).wp Q := by simp only [evE, wp_bind]
theorem w_srt (a : E) : (evE c (.srt a) ⟨e, h⟩).wp Q = (evE c a ⟨e, h⟩).wp fun x s1 => (srtop x s1).wp Q := by simp only [evE, wp_bind]
theorem w_all (a : E) : (evE c (.all a) ⟨e, h⟩).wp Q = (evE c a ⟨e, h⟩).wp fun x s1 => (allop x s1).wp Q := by simp only [evE, wp_bind]
theorem w_any (a : E) : (evE c (.any a) ⟨e, h⟩).wp Q = (evE c a ⟨e, h⟩).wp fun x s1 => (anyop x s1).wp Q := by simp only [evE, wp_bind]
theorem w_sum (a : E) : (evE c (.sum a) ⟨e, h⟩).wp Q = (evE c a ⟨e, h⟩).wp fun x s1 => (sumop x s1).wp Q := by simp only [evE, wp_bind]
theorem w_srtSet (a : E) : (evE c (.srtSet a) ⟨e, h⟩).wp Q = (evE c a ⟨e, h⟩).wp fun x s1 => (srtSop x s1).wp Q := by simp only [evE, wp_bind]
theorem w_maxd (a : E) : (evE c (.maxd a) ⟨e, h⟩).wp Q = (evE c a ⟨e, h⟩).wp fun x s1 => (maxdop x s1).wp Q := by simp only [evE, wp_bind]
theorem w_abs (a : E) : (evE c (.abs a) ⟨e, h⟩).wp Q = (evE c a ⟨e, h⟩).wp fun x s1 => (absop x s1).wp Q := by simp only [evE, wp_bind]
theorem w_mn (a b : E) : (evE c (.mn a b) ⟨e, h⟩).wp Q = (evE c a ⟨e, h⟩).wp fun x s1 => (evE c b s1).wp fun y s2 => (mnop x y s2).wp Q := by simp only [evE, wp_bind]
theorem w_mx (a b : E) : (evE c (.mx a b) ⟨e, h⟩).wp Q = (evE c a ⟨e, h⟩).wp fun x s1 => (evE c b s1).wp fun y s2 => (mxop x y s2).wp Q := by simp only [evE, wp_bind]
theorem w_app (a b : E) : (evE c (.app a b) ⟨e, h⟩).wp Q = (evE c a ⟨e, h⟩).wp fun x s1 => isLs x s1 = true ∧ (evE c b s1).wp fun y s2 => (asI y s2).wp fun i s3 => (appop x i s3).wp Q := by simp only [evE, wp_bind, wp_req]
theorem w_ext (a b : E) : (evE c (.ext a b) ⟨e, h⟩).wp Q = (evE c a ⟨e, h⟩).wp fun x s1 => isLs x s1 = true ∧ (evE c b s1).wp fun y s2 => (extop x y s2).wp Q := by simp only [evE, wp_bind, wp_req]
theorem w_pop (a : E) : (evE c (.pop a) ⟨e, h⟩).wp Q = (evE c a ⟨e, h⟩).wp fun x s1 => (popop x s1).wp Q := by simp only [evE, wp_bind]
theorem w_popAt (a b : E) : (evE c (.popAt a b) ⟨e, h⟩).wp Q = (evE c a ⟨e, h⟩).wp fun x s1 => isLs x s1 = true ∧ (evE c b s1).wp fun y s2 => (popAtop x y s2).wp Q := by simp only [evE, wp_bind, wp_req]
theorem w_get1 (a b : E) : (evE c (.get1 a b) ⟨e, h⟩).wp Q = (evE c a ⟨e, h⟩).wp fun x s1 => isDc x s1 = true ∧ (evE c b s1).wp fun y s2 => (get1op x y s2).wp Q := by simp only [evE, wp_bind, wp_req]
theorem w_get2 (a b d : E) : (evE c (.get2 a b d) ⟨e, h⟩).wp Q = (evE c a ⟨e, h⟩).wp fun x s1 => isDc x s1 = true ∧ (evE c b s1).wp fun y s2 => (evE c d s2).wp fun z s3 => (asI z s3).wp fun i s4 => (get2op x y (.val i) s4).wp Q := by simp only [evE, wp_bind, wp_req]
theorem w_index (a b : E) : (evE c (.index a b) ⟨e, h⟩).wp Q = (evE c a ⟨e, h⟩).wp fun x s1 => isLs x s1 = true ∧ (evE c b s1).wp fun y s2 => (indexop x y s2).wp Q := by simp only [evE, wp_bind, wp_req]
theorem w_tindex (a b : E) : (evE c (.tindex a b) ⟨e, h⟩).wp Q = (evE c a ⟨e, h⟩).wp fun x s1 => isTp x s1 = true ∧ (evE c b s1).wp fun y s2 => (tindexop x y s2).wp Q := by simp only [evE, wp_bind, wp_req]
theorem w_sindex (a b : E) : (evE c (.sindex a b) ⟨e, h⟩).wp Q = (evE c a ⟨e, h⟩).wp fun x s1 => isSt x = true ∧ (evE c b s1).wp fun y s2 => (sindexop x y s2).wp Q := by simp only [evE, wp_bind, wp_req]
theorem w_join (a b : E) : (evE c (.join a b) ⟨e, h⟩).wp Q = (evE c a ⟨e, h⟩).wp fun x s1 => isSt x = true ∧ (evE c b s1).wp fun y s2 => (joinop x y s2).wp Q := by simp only [evE, wp_bind, wp_req]
theorem w_upper (a : E) : (evE c (.upper a) ⟨e, h⟩).wp Q = (evE c a ⟨e, h⟩).wp fun x s1 => (upop x s1).wp Q := by simp only [evE, wp_bind]
theorem w_isi (a : E) (t : Ty) : (evE c (.isi a t) ⟨e, h⟩).wp Q = (evE c a ⟨e, h⟩).wp fun x s1 => (isiop x t s1).wp Q := by simp only [evE, wp_bind]
/-- one turn of a comprehension -/
def turn (c : Ctx) (own : List Nat) (tg : Tg) (cs : Option E) (el : E) (i : I) (s2 : S) : Res (Option I) :=
  (bindT [] tg i s2).bind fun _ s3 => (evC c cs s3).bind fun b s4 =>
    if b = true then (evE c el s4).bind fun y s5 => (asI y s5).bind fun v s6 => .ok (some v) (wipeS own s6) else .ok none (wipeS own s4)
theorem w_comp (own : List Nat) (tg : Tg) (it : It) (cs : Option E) (el : E) : (evE c (.comp own tg it cs el) ⟨e, h⟩).wp Q = (evIt c it ⟨e, h⟩).wp fun sl s1 => ownFree s1.env own = true ∧
    (compL sl.1 (turn c own tg cs el) sl.2 [] (wipeS own s1)).wp fun l s2 => Q (.tmp (.lst l)) ⟨restE s1.env s2.env own, s2.hp⟩ := by
  simp only [evE, wp_bind, wp_req, wp_ok]
  rfl
theorem w_turn (own : List Nat) (tg : Tg) (cs : Option E) (el : E) (i : I) {Q : Option I → S → Prop} : (turn c own tg cs el i ⟨e, h⟩).wp Q = (bindT [] tg i ⟨e, h⟩).wp fun _ s3 => (evC c cs s3).wp fun b s4 =>
    if b = true then (evE c el s4).wp fun y s5 => (asI y s5).wp fun v s6 => Q (some v) (wipeS own s6) else Q none (wipeS own s4) := by
  simp only [turn, wp_bind, wp_ite, wp_ok]
end
section
variable {Q : List R → S → Prop}
theorem w_Es0 : (evEs c [] ⟨e, h⟩).wp Q = Q [] ⟨e, h⟩ := by simp only [evEs, wp_ok]
theorem w_Es1 (a : E) (r : List E) : (evEs c (a :: r) ⟨e, h⟩).wp Q = (evE c a ⟨e, h⟩).wp fun x s1 => (evEs c r s1).wp fun xs s2 => Q (x :: xs) s2 := by simp only [evEs, wp_bind, wp_ok]
end
section
variable {Q : List I → S → Prop}
theorem w_Is0 : (evIs c [] ⟨e, h⟩).wp Q = Q [] ⟨e, h⟩ := by simp only [evIs, wp_ok]
theorem w_Is1 (a : E) (r : List E) : (evIs c (a :: r) ⟨e, h⟩).wp Q = (evE c a ⟨e, h⟩).wp fun x s1 => (asI x s1).wp fun i s2 => (evIs c r s2).wp fun l s3 => Q (i :: l) s3 := by simp only [evIs, wp_bind, wp_ok]
end
section
variable {Q : Option Int → S → Prop}
theorem w_O0 : (evO c none ⟨e, h⟩).wp Q = Q none ⟨e, h⟩ := by simp only [evO, wp_ok]
theorem w_O1 (a : E) : (evO c (some a) ⟨e, h⟩).wp Q = (evE c a ⟨e, h⟩).wp fun x s1 => mb (rint x) fun i => Q (some i) s1 := by
  simp only [evO, wp_bind, wp_opt]
  congr 1
  funext x s
  cases rint x <;> rfl
end
section
variable {Q : Bool → S → Prop}
theorem w_C0 : (evC c none ⟨e, h⟩).wp Q = Q true ⟨e, h⟩ := by simp only [evC, wp_ok]
def rbool : R → Option Bool
  | .val (.bl b) => some b
  | _ => none
theorem w_C1 (a : E) : (evC c (some a) ⟨e, h⟩).wp Q = (evE c a ⟨e, h⟩).wp fun x s1 => mb (rbool x) fun i => Q i s1 := by
  simp only [evC, wp_bind]
  congr 1
  funext x s
  cases x with
  | val i => cases i <;> rfl
  | tmp => rfl
  | var => rfl
end
section
variable {Q : Src × List I → S → Prop}
theorem w_seq (a : E) : (evIt c (.seq a) ⟨e, h⟩).wp Q = (evE c a ⟨e, h⟩).wp fun x s1 => mb (viewQ x s1) fun q => Q (srcOf q.2 x, q.2) s1 := by
  simp only [evIt, wp_bind]
  congr 1
  funext x s
  cases viewQ x s <;> rfl
def rstr : R → Option (List Nat)
  | .val (.str l) => some l
  | _ => none
theorem w_chars (a : E) : (evIt c (.chars a) ⟨e, h⟩).wp Q = (evE c a ⟨e, h⟩).wp fun x s1 => mb (rstr x) fun l => Q (.imm, l.map fun c => .str [c]) s1 := by
  simp only [evIt, wp_bind]
  congr 1
  funext x s
  cases x with
  | val i => cases i <;> rfl
  | tmp => rfl
  | var => rfl
theorem w_range1 (a : E) : (evIt c (.range1 a) ⟨e, h⟩).wp Q = (evE c a ⟨e, h⟩).wp fun x s1 => mb (rint x) fun i => small i = true ∧ Q (.imm, rng 0 i) s1 := by
  simp only [evIt, wp_bind]
  congr 1
  funext x s
  cases rint x with
  | none => rfl
  | some i => simp only [mb_some, wp_req, wp_ok]
theorem w_range2 (a b : E) : (evIt c (.range2 a b) ⟨e, h⟩).wp Q = (evE c a ⟨e, h⟩).wp fun x s1 => (evE c b s1).wp fun y s2 => mb (rint x) fun i => mb (rint y) fun j => (small i = true ∧ small j = true) ∧ Q (.imm, rng i j) s2 := by
  simp only [evIt, wp_bind]
  congr 1
  funext x s
  congr 1
  funext y s2
  cases rint x with
  | none => rfl
  | some i => cases rint y with
    | none => rfl
    | some j => simp only [mb_some, wp_req, wp_ok, Bool.and_eq_true]
theorem w_enum (a : E) : (evIt c (.enum a) ⟨e, h⟩).wp Q = (evE c a ⟨e, h⟩).wp fun x s1 => mb (viewQ x s1) fun q => Q (srcOf q.2 x, enumL q.2) s1 := by
  simp only [evIt, wp_bind]
  congr 1
  funext x s
  cases viewQ x s <;> rfl
theorem w_rev (a : E) : (evIt c (.rev a) ⟨e, h⟩).wp Q = (evE c a ⟨e, h⟩).wp fun x s1 => mb (viewQ x s1) fun q => Q (srcOf q.2 x, q.2.reverse) s1 := by
  simp only [evIt, wp_bind]
  congr 1
  funext x s
  cases viewQ x s <;> rfl
end
section
variable {Q : Fl → S → Prop}
theorem w_asg (t : Tg) (a : E) : (exS c pin (.asg t a) ⟨e, h⟩).wp Q = (evE c a ⟨e, h⟩).wp fun x s1 => (asgT pin t x s1).wp fun _ s2 => Q .nx s2 := by simp only [exS, wp_bind, wp_ok]
theorem w_sub (a i v : E) : (exS c pin (.sub a i v) ⟨e, h⟩).wp Q = (evE c v ⟨e, h⟩).wp fun x s1 => (asI x s1).wp fun v s2 => (evE c a s2).wp fun r s3 => (evE c i s3).wp fun y s4 => (idxSet r y v s4).wp fun _ s5 => Q .nx s5 := by simp only [exS, wp_bind, wp_ok]
theorem w_sbd (a i v : E) : (exS c pin (.sbd a i v) ⟨e, h⟩).wp Q = (evE c v ⟨e, h⟩).wp fun x s1 => (asI x s1).wp fun v s2 => (evE c a s2).wp fun r s3 => (evE c i s3).wp fun y s4 => (keySet r y v s4).wp fun _ s5 => Q .nx s5 := by simp only [exS, wp_bind, wp_ok]
theorem w_expr (a : E) : (exS c pin (.expr a) ⟨e, h⟩).wp Q = (evE c a ⟨e, h⟩).wp fun _ s1 => Q .nx s1 := by simp only [exS, wp_bind, wp_ok]
theorem w_ret (a : E) : (exS c pin (.ret a) ⟨e, h⟩).wp Q = (evE c a ⟨e, h⟩).wp fun x s1 => (retD pin x s1).wp Q := by simp only [exS, wp_bind]
theorem w_retN : (exS c pin .retN ⟨e, h⟩).wp Q = Q (.rt (.im .non)) ⟨e, h⟩ := by simp only [exS, wp_ok]
theorem w_raise (cl : String) (f : List Nat) (es : List E) : (exS c pin (.raise cl f es) ⟨e, h⟩).wp Q = False := by
  simp only [exS, wp_req, wp_bind]
  refine eq_false fun z => ?_
  obtain ⟨l, s, z⟩ := wp_some z.2
  revert z
  cases exL f l <;> exact id
theorem w_pass : (exS c pin .pass ⟨e, h⟩).wp Q = Q .nx ⟨e, h⟩ := by simp only [exS, wp_ok]
theorem w_ite (d : E) (t f : List Sm) : (exS c pin (.ite d t f) ⟨e, h⟩).wp Q = (evE c d ⟨e, h⟩).wp fun x s1 => wTest x ((exSs c pin t s1).wp Q) ((exSs c pin f s1).wp Q) := by
  simp only [exS, wp_bind, evC]
  congr 1
  funext x s
  cases x with
  | val i => (cases i <;> first | rfl | (rename_i b; cases b <;> first | rfl | simp [wTest, CH.Res.wp]))
  | tmp => rfl
  | var => rfl
theorem w_for (t : Tg) (it : It) (b : List Sm) : (exS c pin (.for t it b) ⟨e, h⟩).wp Q = (evIt c it ⟨e, h⟩).wp fun sl s1 => (forL sl.1 (fun i s2 => (bindT (pinned pin sl.1) t i s2).bind fun _ s3 => exSs c (pinned pin sl.1) b s3) sl.2 s1).wp Q := by simp only [exS, wp_bind]
theorem w_while (d : E) (b : List Sm) : (exS c pin (.while d b) ⟨e, h⟩).wp Q = (whileN turns (fun s1 => evC c (some d) s1) (fun s1 => exSs c pin b s1) ⟨e, h⟩).wp Q := by simp only [exS]
def wFl (fl : Fl) (s : S) (k : Prop) (Q : Fl → S → Prop) : Prop := match fl with
  | .nx => k
  | .rt d => Q (.rt d) s
theorem wFl_nx (s : S) (k : Prop) : wFl .nx s k Q = k := rfl
theorem wFl_rt (d : D) (s : S) (k : Prop) : wFl (.rt d) s k Q = Q (.rt d) s := rfl
theorem w_Ss0 : (exSs c pin [] ⟨e, h⟩).wp Q = Q .nx ⟨e, h⟩ := by simp only [exSs, wp_ok]
theorem w_Ss1 (a : Sm) (r : List Sm) : (exSs c pin (a :: r) ⟨e, h⟩).wp Q = (exS c pin a ⟨e, h⟩).wp fun fl s1 => wFl fl s1 ((exSs c pin r s1).wp Q) Q := by
  simp only [exSs, wp_bind]
  congr 1
  funext fl s
  cases fl <;> rfl
end
section
variable {Q : Unit → S → Prop}
theorem w_asgT (k : Nat) (x : R) : (asgT pin (.nm k) x ⟨e, h⟩).wp Q = (asgN pin k x ⟨e, h⟩).wp Q := rfl
theorem w_asgV (k : Nat) (i : I) : (asgN pin k (.val i) ⟨e, h⟩).wp Q = ((!pin.contains k && decide (k < e.length)) = true ∧ Q () ⟨e.set k (some (.im i)), h⟩) := by simp only [asgN, wp_req, wp_ok, S.st]
theorem w_asgO (k : Nat) (i : O) : (asgN pin k (.tmp i) ⟨e, h⟩).wp Q = ((!pin.contains k && decide (k < e.length)) = true ∧ Q () ⟨e.set k (some (.ob i)), h⟩) := by simp only [asgN, wp_req, wp_ok, S.st]
theorem w_asgL (k j : Nat) : (asgN pin k (.var j) ⟨e, h⟩).wp Q = ((!pin.contains k && decide (k < e.length)) = true ∧ (asI (.var j) ⟨e, h⟩).wp fun i s1 => Q () (s1.st k (.im i))) := by simp only [asgN, wp_req, wp_ok, wp_bind]
theorem w_bind1 (k : Nat) (i : I) : (bindT pin (.nm k) i ⟨e, h⟩).wp Q = ((!pin.contains k && decide (k < e.length)) = true ∧ Q () ⟨e.set k (some (.im i)), h⟩) := by simp only [bindT, wp_req, wp_ok, S.st]
theorem w_bindp (ts : List Tg) (l : List I) : (bindT pin (.tp ts) (.tup l) ⟨e, h⟩).wp Q = (l.length = ts.length ∧ (bindTs pin ts l ⟨e, h⟩).wp Q) := by simp only [bindT, wp_req, decide_eq_true_eq]
theorem w_bindTs0 : (bindTs pin [] [] ⟨e, h⟩).wp Q = Q () ⟨e, h⟩ := by simp only [bindTs, wp_ok]
theorem w_bindTs1 (t : Tg) (r : List Tg) (i : I) (l : List I) : (bindTs pin (t :: r) (i :: l) ⟨e, h⟩).wp Q = (bindT pin t i ⟨e, h⟩).wp fun _ s1 => (bindTs pin r l s1).wp Q := by simp only [bindTs, wp_bind]
theorem w_idxSet (x : R) (i : Int) (v : I) : (idxSet x (.val (.int i)) v ⟨e, h⟩).wp Q = mb (ownL x ⟨e, h⟩) fun l => mb (ixn l.length i) fun j => Q () (putO x (.lst (l.set j v)) ⟨e, h⟩) := by
  unfold idxSet
  cases ownL x ⟨e, h⟩ with
  | none => rfl
  | some l =>
    simp only [mb_some]
    cases ixn l.length i <;> rfl
theorem w_keySet (x : R) (k : I) (v : I) : (keySet x (.val k) v ⟨e, h⟩).wp Q = mb (ownD x ⟨e, h⟩) fun q => (keyOk q.1 k = true ∧ q.2.length < 16777216) ∧ Q () (putO x (.dct q.1 (putD q.2 k v)) ⟨e, h⟩) := by
  unfold keySet
  cases ownD x ⟨e, h⟩ with
  | none => rfl
  | some q => simp only [mb_some, wp_req, wp_ok, Bool.and_eq_true, decide_eq_true_eq]
end
section
variable {Q : I → S → Prop}
theorem w_asV (i : I) : (asI (.val i) ⟨e, h⟩).wp Q = Q i ⟨e, h⟩ := rfl
theorem w_asO (l : List I) : (asI (.tmp (.lst l)) ⟨e, h⟩).wp Q = Q (.fl l) ⟨e, h⟩ := rfl
end
def wPair (x : R) (F : I → I → Prop) : Prop := match x with
  | .val (.tup [v, w]) => F v w
  | _ => False
theorem wPair_t (v w : I) (F : I → I → Prop) : wPair (.val (.tup [v, w])) F = F v w := rfl
theorem w_sb2 {Q : Fl → S → Prop} (a i b j v : E) : (exS c pin (.sb2 a i b j v) ⟨e, h⟩).wp Q = (evE c v ⟨e, h⟩).wp fun x s1 => wPair x fun v w => (evE c a s1).wp fun r s2 => (evE c i s2).wp fun y s3 => (keySet r y v s3).wp fun _ s4 => (evE c b s4).wp fun r s5 => (evE c j s5).wp fun y s6 => (keySet r y w s6).wp fun _ s7 => Q .nx s7 := by
  simp only [exS, wp_bind]
  congr 1
  funext x s
  cases x with
  | tmp => rfl
  | var => rfl
  | val x =>
    cases x with
    | tup l =>
      match l with
      | [] => rfl
      | [_] => rfl
      | [v, w] => simp only [wPair, wp_bind, wp_ok]
      | _ :: _ :: _ :: _ => rfl
    | _ => rfl
theorem vq_ref (n : Nat) : viewQ (.val (.ref n)) ⟨e, h⟩ = match h[n]? with
    | some (.lst l) => some (false, l)
    | _ => none := rfl
theorem vd_ref (n : Nat) : viewD (.val (.ref n)) ⟨e, h⟩ = match h[n]? with
    | some (.dct t l) => some (t, l)
    | _ => none := rfl
theorem vi_ref (n : Nat) : viewI (.val (.ref n)) ⟨e, h⟩ = match h[n]? with
    | some (.lst l) => some (.fl l)
    | _ => none := rfl
theorem ol_ref (n : Nat) : ownL (.val (.ref n)) ⟨e, h⟩ = match h[n]? with
    | some (.lst l) => some l
    | _ => none := rfl
theorem od_ref (n : Nat) : ownD (.val (.ref n)) ⟨e, h⟩ = match h[n]? with
    | some (.dct t l) => some (t, l)
    | _ => none := rfl
theorem put_ref (n : Nat) (o : O) : putO (.val (.ref n)) o ⟨e, h⟩ = ⟨e, h.set n o⟩ := rfl
theorem lenop_r (n : Nat) (s : S) : lenop (.val (.ref n)) s = (match viewQ (.val (.ref n)) s with | some (_, l) => .ok (.val (.int l.length)) s | none => match viewD (.val (.ref n)) s with | some (false, l) => .ok (.val (.int l.length)) s | _ => .bad) := rfl
theorem ixop_r (n : Nat) (i : Int) (s : S) : ixop (.val (.ref n)) (.val (.int i)) s = (match viewQ (.val (.ref n)) s with | some (_, l) => opt ((atN l i).map .val) s | none => .bad) := rfl
theorem st_mk (k : Nat) (d : D) : (⟨e, h⟩ : S).st k d = ⟨e.set k (some d), h⟩ := rfl
theorem g_mk (k : Nat) : (⟨e, h⟩ : S).g k = e.getD k none := rfl
theorem as_var (k : Nat) : asI (.var k) ⟨e, h⟩ = match e.getD k none with
    | some (.ob (.lst l)) => .ok (.fl l) ⟨e.set k (some (.im (.fl l))), h⟩
    | _ => .bad := rfl
theorem vq_var (k : Nat) : viewQ (.var k) ⟨e, h⟩ = match e.getD k none with
    | some (.ob (.lst l)) => some (false, l)
    | _ => none := rfl
theorem vd_var (k : Nat) : viewD (.var k) ⟨e, h⟩ = match e.getD k none with
    | some (.ob (.dct t l)) => some (t, l)
    | _ => none := rfl
theorem vi_var (k : Nat) : viewI (.var k) ⟨e, h⟩ = match e.getD k none with
    | some (.ob (.lst l)) => some (.fl l)
    | _ => none := rfl
theorem ol_var (k : Nat) : ownL (.var k) ⟨e, h⟩ = match e.getD k none with
    | some (.ob (.lst l)) => some l
    | _ => none := rfl
theorem od_var (k : Nat) : ownD (.var k) ⟨e, h⟩ = match e.getD k none with
    | some (.ob (.dct t l)) => some (t, l)
    | _ => none := rfl
theorem ad_var (k : Nat) : asD (.var k) ⟨e, h⟩ = match e.getD k none with
    | some (.ob o) => some (.ob o)
    | _ => none := rfl
theorem ad_val (i : I) (s : S) : asD (.val i) s = some (.im i) := rfl
theorem ad_tmp (i : O) (s : S) : asD (.tmp i) s = some (.ob i) := rfl
theorem vq_tup (l : List I) (s : S) : viewQ (.val (.tup l)) s = some (true, l) := rfl
theorem vq_fl (l : List I) (s : S) : viewQ (.val (.fl l)) s = some (false, l) := rfl
theorem vq_xl (l : List I) (s : S) : viewQ (.val (.xl l)) s = some (false, l) := rfl
theorem vq_tmp (l : List I) (s : S) : viewQ (.tmp (.lst l)) s = some (false, l) := rfl
theorem vq_tmpd (t : Bool) (l : List (I × I)) (s : S) : viewQ (.tmp (.dct t l)) s = none := rfl
theorem vd_tmp (t : Bool) (l : List (I × I)) (s : S) : viewD (.tmp (.dct t l)) s = some (t, l) := rfl
theorem vi_tmp (l : List I) (s : S) : viewI (.tmp (.lst l)) s = some (.fl l) := rfl
theorem vi_str (l : List Nat) (s : S) : viewI (.val (.str l)) s = some (.str l) := rfl
theorem vi_int (l : Int) (s : S) : viewI (.val (.int l)) s = some (.int l) := rfl
theorem vi_bl (l : Bool) (s : S) : viewI (.val (.bl l)) s = some (.bl l) := rfl
theorem vi_tup (l : List I) (s : S) : viewI (.val (.tup l)) s = some (.tup l) := rfl
theorem vi_fl (l : List I) (s : S) : viewI (.val (.fl l)) s = some (.fl l) := rfl
theorem vi_xl (l : List I) (s : S) : viewI (.val (.xl l)) s = some (.xl l) := rfl
theorem vi_non (s : S) : viewI (.val .non) s = some .non := rfl
theorem put_var (k : Nat) (o : O) : putO (.var k) o ⟨e, h⟩ = ⟨e.set k (some (.ob o)), h⟩ := rfl
theorem seq_add (x y : R) : seqOp .add x y ⟨e, h⟩ = match viewQ x ⟨e, h⟩, viewQ y ⟨e, h⟩ with
    | some (true, l), some (true, m) => Res.req (decide (l.length + m.length ≤ 16777216)) (.ok (.val (.tup (l ++ m))) ⟨e, h⟩)
    | some (false, l), some (false, m) => Res.req (decide (l.length + m.length ≤ 16777216) && !isXl x && !isXl y) (.ok (.tmp (.lst (l ++ m))) ⟨e, h⟩)
    | _, _ => .bad := by
  unfold seqOp
  rcases viewQ x ⟨e, h⟩ with _ | ⟨_ | _, l⟩ <;> rcases viewQ y ⟨e, h⟩ with _ | ⟨_ | _, m⟩ <;> rfl
theorem in_mk (n : Bool) (x y : R) : inop n x y ⟨e, h⟩ = match viewI x ⟨e, h⟩, viewQ y ⟨e, h⟩ with
    | some a, some (_, l) => Res.req (dep 60 a && depL 60 l) (.ok (.val (.bl ((l.any fun z => eqI z a) != n))) ⟨e, h⟩)
    | _, _ => .bad := rfl
theorem vdr_ref (n : Nat) : viewDr (.val (.ref n)) ⟨e, h⟩ = match h[n]? with
    | some (.dct t l) => some (t, l)
    | some (.lk l) => some (false, l)
    | _ => none := rfl
theorem vdr_var (k : Nat) : viewDr (.var k) ⟨e, h⟩ = match e.getD k none with
    | some (.ob (.dct t l)) => some (t, l)
    | some (.ob (.lk l)) => some (false, l)
    | _ => none := rfl
theorem vdr_tmp (t : Bool) (l : List (I × I)) (s : S) : viewDr (.tmp (.dct t l)) s = some (t, l) := rfl
theorem ind_mk (n : Bool) (k : I) (y : R) : indop n (.val k) y ⟨e, h⟩ = match viewDr y ⟨e, h⟩ with
    | some (t, kvs) => Res.req (keyOk t k) (.ok (.val (.bl ((lookD kvs k).isSome != n))) ⟨e, h⟩)
    | _ => .bad := by
  unfold indop
  cases viewDr y ⟨e, h⟩ <;> rfl
theorem ixd_mk (k : I) (x : R) : ixdop x (.val k) ⟨e, h⟩ = match viewDr x ⟨e, h⟩ with
    | some (t, kvs) => Res.req (keyOk t k) (opt ((lookD kvs k).map .val) ⟨e, h⟩)
    | _ => .bad := by
  unfold ixdop
  cases viewDr x ⟨e, h⟩ <;> rfl
theorem get1_mk (k : I) (x : R) : get1op x (.val k) ⟨e, h⟩ = match viewD x ⟨e, h⟩ with
    | some (t, kvs) => Res.req (keyOk t k) (.ok (.val ((lookD kvs k).getD .non)) ⟨e, h⟩)
    | _ => .bad := by
  unfold get1op
  cases viewD x ⟨e, h⟩ <;> rfl
theorem get2_mk (k z : I) (x : R) : get2op x (.val k) (.val z) ⟨e, h⟩ = match viewD x ⟨e, h⟩ with
    | some (t, kvs) => Res.req (keyOk t k) (.ok (.val ((lookD kvs k).getD z)) ⟨e, h⟩)
    | _ => .bad := by
  unfold get2op
  cases viewD x ⟨e, h⟩ with
  | none => rfl
  | some q =>
    obtain ⟨t, kvs⟩ := q
    show Res.req _ _ = Res.req _ _
    cases lookD kvs k <;> rfl
theorem isi_mk (x : R) (t : Ty) : isiop x t ⟨e, h⟩ = match viewI x ⟨e, h⟩ with
    | some (.ref _) => .bad
    | some (.fa _ _) => .bad
    | some (.ex _ _) => .bad
    | some i => .ok (.val (.bl (tyI i t))) ⟨e, h⟩
    | none => .bad := rfl
theorem join_mk (a : List Nat) (y : R) : joinop (.val (.str a)) y ⟨e, h⟩ = match viewQ y ⟨e, h⟩ with
    | some (_, l) => (match strsOf l with
      | some ss => Res.req (decide ((ss.map List.length).sum + ss.length * a.length ≤ 16777216)) (.ok (.val (.str (joinS a ss))) ⟨e, h⟩)
      | none => .bad)
    | none => .bad := by
  unfold joinop
  cases viewQ y ⟨e, h⟩ <;> rfl
theorem all_mk (x : R) : allop x ⟨e, h⟩ = match viewQ x ⟨e, h⟩ with
    | some (false, l) => opt ((boolsOf l).map fun bs => .val (.bl (bs.all id))) ⟨e, h⟩
    | _ => .bad := rfl
theorem any_mk (x : R) : anyop x ⟨e, h⟩ = match viewQ x ⟨e, h⟩ with
    | some (false, l) => opt ((boolsOf l).map fun bs => .val (.bl (bs.any id))) ⟨e, h⟩
    | _ => .bad := rfl
theorem maxd_mk (x : R) : maxdop x ⟨e, h⟩ = match viewQ x ⟨e, h⟩ with
    | some (false, l) => opt ((intsOf l).map fun zs => .val (.int (match zs with | [] => 0 | z :: r => r.foldl max z))) ⟨e, h⟩
    | _ => .bad := rfl
theorem srtS_mk (x : R) : srtSop x ⟨e, h⟩ = match viewQ x ⟨e, h⟩ with
    | some (false, l) => (match intsOf l with
      | some zs => Res.req (decide (zs.length < 64)) (.ok (.tmp (.lst ((sortZ (dedZ zs)).map .int))) ⟨e, h⟩)
      | none => .bad)
    | _ => .bad := rfl
theorem sum_mk (x : R) : sumop x ⟨e, h⟩ = match viewQ x ⟨e, h⟩ with
    | some (false, l) => opt ((intsOf l).map fun zs => .val (.int zs.sum)) ⟨e, h⟩
    | _ => .bad := rfl
theorem dictP_mk (x : R) : dictPop x ⟨e, h⟩ = match viewQ x ⟨e, h⟩ with
    | some (_, l) => opt ((pairs l).map fun ps => .tmp (.dct false (mergeD [] ps))) ⟨e, h⟩
    | none => .bad := rfl
theorem listD_mk (x : R) : listDop x ⟨e, h⟩ = match viewD x ⟨e, h⟩ with
    | some (false, l) => .ok (.tmp (.lst (l.map (·.1)))) ⟨e, h⟩
    | _ => .bad := rfl
theorem tup_mk (x : R) : tupop x ⟨e, h⟩ = match viewQ x ⟨e, h⟩ with
    | some (_, l) => .ok (.val (.tup l)) ⟨e, h⟩
    | _ => .bad := rfl
theorem lst_mk (x : R) : lstop x ⟨e, h⟩ = match viewQ x ⟨e, h⟩ with
    | some (_, l) => .ok (.tmp (.lst l)) ⟨e, h⟩
    | none => .bad := rfl
theorem rv_mk (x : R) : rvop x ⟨e, h⟩ = match viewQ x ⟨e, h⟩ with
    | some (true, l) => .ok (.val (.tup l.reverse)) ⟨e, h⟩
    | some (false, l) => .ok (.tmp (.lst l.reverse)) ⟨e, h⟩
    | none => .bad := rfl
theorem app_mk (x : R) (i : I) : appop x i ⟨e, h⟩ = match ownL x ⟨e, h⟩ with
    | some l => Res.req (decide (l.length < 16777216)) (.ok (.val .non) (putO x (.lst (l ++ [i])) ⟨e, h⟩))
    | none => .bad := rfl
theorem ext_mk (x y : R) : extop x y ⟨e, h⟩ = match ownL x ⟨e, h⟩, viewQ y ⟨e, h⟩ with
    | some l, some (_, m) => Res.req (decide (l.length + m.length ≤ 16777216) && !isXl y && !sameR x y) (.ok (.val .non) (putO x (.lst (l ++ m)) ⟨e, h⟩))
    | _, _ => .bad := rfl
theorem ls_mk (x : R) : isLs x ⟨e, h⟩ = match viewQ x ⟨e, h⟩ with
    | some (false, _) => true
    | _ => false := rfl
theorem dc_mk (x : R) : isDc x ⟨e, h⟩ = (viewD x ⟨e, h⟩).isSome := rfl
theorem wipeS_mk (own : List Nat) : wipeS own ⟨e, h⟩ = ⟨wipeE e own, h⟩ := rfl
theorem retV (i : I) : retD pin (.val i) ⟨e, h⟩ = .ok (.rt (.im i)) ⟨e, h⟩ := rfl
theorem retO (i : O) : retD pin (.tmp i) ⟨e, h⟩ = .ok (.rt (.ob i)) ⟨e, h⟩ := rfl
theorem retL (k : Nat) : retD pin (.var k) ⟨e, h⟩ = if pin.contains k = true then (asI (.var k) ⟨e, h⟩).bind fun i s1 => .ok (.rt (.im i)) s1 else match e.getD k none with
    | some (.ob o) => .ok (.rt (.ob o)) ⟨e.set k none, h⟩
    | _ => .bad := rfl
theorem retQ_rt (np : Nat) (Q : D → List (Option D) → List O → Prop) (d : D) : retQ np Q (.rt d) ⟨e, h⟩ = Q d (e.take np) h := rfl
theorem retQ_nx (np : Nat) (Q : D → List (Option D) → List O → Prop) : retQ np Q .nx ⟨e, h⟩ = Q (.im .non) (e.take np) h := rfl
theorem small_iff (i : Int) : (small i = true) = (-4611686018427387904 ≤ i ∧ i < 4611686018427387904) := by simp [small]
theorem opt_some {α : Type} (a : α) (s : S) : opt (some a) s = .ok a s := rfl
theorem int_ii (i : Int) (s : S) : intop (.val (.int i)) s = .ok (.val (.int i)) s := rfl
theorem int_b (b : Bool) (s : S) : intop (.val (.bl b)) s = .ok (.val (.int (if b then 1 else 0))) s := rfl
theorem abs_i (i : Int) (s : S) : absop (.val (.int i)) s = .ok (.val (.int (if i < 0 then -i else i))) s := rfl
theorem mn_i (i j : Int) (s : S) : mnop (.val (.int i)) (.val (.int j)) s = .ok (.val (.int (if j < i then j else i))) s := rfl
theorem mx_i (i j : Int) (s : S) : mxop (.val (.int i)) (.val (.int j)) s = .ok (.val (.int (if i < j then j else i))) s := rfl
theorem up_s (l : List Nat) (s : S) : upop (.val (.str l)) s = Res.req (decide (l.length ≤ 1000) && l.all (fun c => decide (c < 128))) (.ok (.val (.str (l.map upC))) s) := rfl
theorem ins_mk (n : Bool) (d : Nat) (l : List Nat) (s : S) : insop n (.val (.str [d])) (.val (.str l)) s = .ok (.val (.bl (decide (d ∈ l) != n))) s := rfl
theorem isn_n (n : Bool) (s : S) : isnop n (.val .non) s = .ok (.val (.bl (!n))) s := rfl
theorem isn_t (n : Bool) (o : O) (s : S) : isnop n (.tmp o) s = .ok (.val (.bl n)) s := rfl
theorem isn_v (n : Bool) (k : Nat) : isnop n (.var k) ⟨e, h⟩ = match e.getD k none with
    | some (.ob _) => .ok (.val (.bl n)) ⟨e, h⟩
    | _ => .bad := rfl
theorem atN_0 {α : Type} (a : α) (l : List α) : atN (a :: l) 0 = some a := by
  rw [atN_get (by omega) (by simp only [List.length_cons]; omega)]; rfl
theorem atN_1 {α : Type} (a b : α) (l : List α) : atN (a :: b :: l) 1 = some b := by
  rw [atN_get (by omega) (by simp only [List.length_cons]; omega)]; rfl
theorem atN_2 {α : Type} (a b d : α) (l : List α) : atN (a :: b :: d :: l) 2 = some d := by
  rw [atN_get (by omega) (by simp only [List.length_cons]; omega)]; rfl
theorem atN_3 {α : Type} (a b d f : α) (l : List α) : atN (a :: b :: d :: f :: l) 3 = some f := by
  rw [atN_get (by omega) (by simp only [List.length_cons]; omega)]; rfl
/-- a place in range: some item -/
theorem wp_idx {xs : List I} {i : Int} {s : S} {Q : R → S → Prop} (h0 : 0 ≤ i) (h1 : i < xs.length) (k : ∀ x, x ∈ xs → atN xs i = some x → Q (.val x) s) : (opt (Option.map R.val (atN xs i)) s).wp Q := by
  obtain ⟨x, e, m⟩ := atN_in h0 h1
  rw [e]
  exact k x m e
theorem wp_idc {xs : List Nat} {i : Int} {s : S} {Q : R → S → Prop} (h0 : 0 ≤ i) (h1 : i < xs.length) (k : ∀ x, x ∈ xs → atN xs i = some x → Q (.val (.str [x])) s) : (opt (Option.map (fun c => R.val (.str [c])) (atN xs i)) s).wp Q := by
  obtain ⟨x, e, m⟩ := atN_in h0 h1
  rw [e]
  exact k x m e
theorem cut_mem {α : Type} {l : List α} {lo hi : Option Int} {x : α} (h : x ∈ cut l lo hi) : x ∈ l := List.mem_of_mem_drop (List.mem_of_mem_take h)
theorem ixn20 : ixn 2 0 = some 0 := rfl
theorem ixn21 : ixn 2 1 = some 1 := rfl
theorem isxl_tmp (o : O) : isXl (.tmp o) = false := rfl
theorem isxl_var (o : Nat) : isXl (.var o) = false := rfl
theorem isxl_fl (o : List I) : isXl (.val (.fl o)) = false := rfl
end CP
namespace CP
open CH
variable {c : Ctx} {e : List (Option D)} {h : List O} {pin : List Nat}
section
variable {Q : R → S → Prop}
theorem w_ist (n b : Bool) (a : E) : (evE c (.ist n b a) ⟨e, h⟩).wp Q = (evE c a ⟨e, h⟩).wp fun x s1 => (istop n b x s1).wp Q := by simp only [evE, wp_bind]
theorem ist_b (n b d : Bool) (s : S) : istop n b (.val (.bl d)) s = .ok (.val (.bl ((d == b) != n))) s := rfl
theorem w_mkx (cl : String) (f : List Nat) (es : List E) : (evE c (.mkx cl f es) ⟨e, h⟩).wp Q = (c.gl.xk cl f = true ∧ (evIs c es ⟨e, h⟩).wp fun l s1 => (opt ((exL f l).map fun m => .val (.ex cl m)) s1).wp Q) := by simp only [evE, wp_bind, wp_req]
theorem exL_1 (a : Nat) (f : List Nat) (v : I) : exL (a :: f) [v] = some [.str (a :: f), v] := by simp [exL]
theorem exL_0 : exL [] [] = some [] := rfl
theorem w_exf (a : E) (f : List Nat) : (evE c (.exf a f) ⟨e, h⟩).wp Q = (evE c a ⟨e, h⟩).wp fun x s1 => (exfop c.gl x f s1).wp Q := by simp only [evE, wp_bind]
theorem exf_mk (g : Glb) (cl : String) (l f : List Nat) (v : I) (s : S) : (exfop g (.val (.ex cl [.str l, v])) f s).wp Q = ((g.xk cl f && (decide (l = f) && decide (f ≠ []))) = true ∧ Q (.val v) s) := by
  show (Res.req _ _).wp Q = _
  rw [wp_req, wp_ok]
theorem w_isx (a : E) (cs : List String) : (evE c (.isx a cs) ⟨e, h⟩).wp Q = (evE c a ⟨e, h⟩).wp fun x s1 => (isxop c.gl x cs s1).wp Q := by simp only [evE, wp_bind]
theorem isx_mk (g : Glb) (cl : String) (l : List I) (cs : List String) (s : S) : (isxop g (.val (.ex cl l)) cs s).wp Q = (cs.all (g.ik cl) = true ∧ Q (.val (.bl (under cl cs))) s) := by
  show (Res.req _ _).wp Q = _
  rw [wp_req, wp_ok]
theorem w_remove (a b : E) : (evE c (.remove a b) ⟨e, h⟩).wp Q = (evE c a ⟨e, h⟩).wp fun x s1 => isLs x s1 = true ∧ (evE c b s1).wp fun y s2 => (asI y s2).wp fun v s3 => (removeop x v s3).wp Q := by simp only [evE, wp_bind, wp_req]
end
section
variable {Q : Src × List I → S → Prop}
theorem w_zip (a b : E) : (evIt c (.zip a b) ⟨e, h⟩).wp Q = (evE c a ⟨e, h⟩).wp fun x s1 => (evE c b s1).wp fun y s2 => mb (viewQ x s2) fun q => mb (viewQ y s2) fun r => (q.1 == r.1) = true ∧ Q (.two (srcOf q.2 x) (srcOf r.2 y), q.2.zipWith (fun x y => .tup [x, y]) r.2) s2 := by
  simp only [evIt, wp_bind]
  congr 1; funext x s1; congr 1; funext y s2
  cases viewQ x s2 with
  | none => simp [mb, wp_bad, wp_ok]
  | some q =>
    cases viewQ y s2 with
    | none => simp [mb, wp_bad, wp_ok]
    | some r => simp [mb, wp_req, wp_ok]
theorem w_keys (a : E) : (evIt c (.keys a) ⟨e, h⟩).wp Q = (evE c a ⟨e, h⟩).wp fun x s1 => mb (keysop x s1) fun l => Q (srcK l x, l) s1 := by
  simp only [evIt, wp_bind]
  congr 1; funext x s1
  cases keysop x s1 <;> simp [mb, wp_bad, wp_ok]
end
section
variable {Q : Fl → S → Prop}
theorem w_lock (k : Nat) (b : Sm) : (exS c pin (.lock k b) ⟨e, h⟩).wp Q = mb (lkS k ⟨e, h⟩) fun l => (exS c (k :: pin) b (S.st ⟨e, h⟩ k (.ob (.lk l)))).wp fun fl s1 => mb (ulS k s1) fun m => Q fl (s1.st k (.ob (.dct false m))) := by
  have : exS c pin (.lock k b) ⟨e, h⟩ = match lkS k ⟨e, h⟩ with
    | some l => (exS c (k :: pin) b (S.st ⟨e, h⟩ k (.ob (.lk l)))).bind fun fl s1 => match ulS k s1 with
      | some m => .ok fl (s1.st k (.ob (.dct false m)))
      | none => .bad
    | none => .bad := rfl
  rw [this]
  cases lkS k ⟨e, h⟩ with
  | none => simp [mb, wp_bad, wp_ok]
  | some l =>
    simp only [mb, wp_bind]
    congr 1; funext fl s1
    cases ulS k s1 <;> simp [mb, wp_bad, wp_ok]
theorem lk_mk (k : Nat) : lkS k ⟨e, h⟩ = match e.getD k none with
    | some (.ob (.dct false l)) => some l
    | _ => none := rfl
theorem ul_mk (k : Nat) : ulS k ⟨e, h⟩ = match e.getD k none with
    | some (.ob (.lk l)) => some l
    | _ => none := rfl
theorem keysop_v (k : Nat) : keysop (.var k) ⟨e, h⟩ = match e.getD k none with
    | some (.ob (.lk l)) => some (l.map (·.1))
    | _ => none := rfl
end
end CP
namespace CP
open CH
/-- a comprehension over a mapped list, each item's value alone -/
theorem wp_compF {α : Type} {c : Src} {f : I → S → Res (Option I)} {Q : List I → S → Prop} {w : List α} {s : S} (e : α → I) (p : α → I) (hg : c.good s = true) (hw : w.length < 16777216)
    (hs : ∀ a ∈ w, (f (e a) s).wp fun o s' => o = some (p a) ∧ s' = s) (h0 : Q (w.map p) s) : (compL c f (w.map e) [] s).wp Q := by
  suffices z : ∀ (r : List α) (acc : List I), acc.length + r.length < 16777216 → (∀ i ∈ r, i ∈ w) → acc ++ r.map p = w.map p → (compL c f (r.map e) acc s).wp Q by
    exact z w [] (by simpa using hw) (fun _ h => h) rfl
  intro r
  induction r with
  | nil =>
    intro acc hn hm e
    simp only [List.map_nil, compL, wp_req, wp_ok]
    rw [List.map_nil, List.append_nil] at e
    exact ⟨hg, e ▸ h0⟩
  | cons i r ih =>
    intro acc hn hm e
    simp only [List.map_cons, compL, wp_req, wp_bindN]
    refine ⟨hg, wp_mono (hs i (hm i (by simp))) fun o s' hq => ?_⟩
    obtain ⟨rfl, rfl⟩ := hq
    simp only [wp_req, decide_eq_true_eq]
    refine ⟨by simp at hn; omega, ih (acc ++ [p i]) (by simp at hn ⊢; omega) (fun i h => hm i (by simp [h])) (by simpa using e)⟩
/-- .. with a test -/
theorem wp_compG {α : Type} {c : Src} {f : I → S → Res (Option I)} {Q : List I → S → Prop} {w : List α} {s : S} (e : α → I) (t : α → Bool) (p : α → I) (hg : c.good s = true) (hw : w.length < 16777216)
    (hs : ∀ a ∈ w, (f (e a) s).wp fun o s' => o = (if t a = true then some (p a) else none) ∧ s' = s) (h0 : Q ((w.filter t).map p) s) : (compL c f (w.map e) [] s).wp Q := by
  suffices z : ∀ (r : List α) (acc : List I), acc.length + r.length < 16777216 → (∀ i ∈ r, i ∈ w) → acc ++ (r.filter t).map p = (w.filter t).map p → (compL c f (r.map e) acc s).wp Q by
    exact z w [] (by simpa using hw) (fun _ h => h) rfl
  intro r
  induction r with
  | nil =>
    intro acc hn hm e
    simp only [List.map_nil, compL, wp_req, wp_ok]
    rw [List.filter_nil, List.map_nil, List.append_nil] at e
    exact ⟨hg, e ▸ h0⟩
  | cons i r ih =>
    intro acc hn hm e
    simp only [List.map_cons, compL, wp_req, wp_bindN]
    refine ⟨hg, wp_mono (hs i (hm i (by simp))) fun o s' hq => ?_⟩
    obtain ⟨rfl, rfl⟩ := hq
    by_cases ht : t i = true
    · rw [if_pos ht]
      simp only [wp_req, decide_eq_true_eq]
      rw [List.filter_cons_of_pos ht] at e
      refine ⟨by simp at hn; omega, ih (acc ++ [p i]) (by simp at hn ⊢; omega) (fun i h => hm i (by simp [h])) (by simpa using e)⟩
    · rw [if_neg ht]
      rw [List.filter_cons_of_neg ht] at e
      exact ih acc (by simp at hn ⊢; omega) (fun i h => hm i (by simp [h])) e
theorem bools_map {α : Type} (p : α → Bool) : ∀ (w : List α), boolsOf (w.map fun a => .bl (p a)) = some (w.map p)
  | [] => rfl
  | a :: r => by simp only [List.map_cons, boolsOf, bools_map p r, Option.map_some]
theorem ints_map {α : Type} (p : α → Int) : ∀ (w : List α), intsOf (w.map fun a => .int (p a)) = some (w.map p)
  | [] => rfl
  | a :: r => by simp only [List.map_cons, intsOf, ints_map p r, Option.map_some]
theorem strs_map {α : Type} (p : α → List Nat) : ∀ (w : List α), strsOf (w.map fun a => .str (p a)) = some (w.map p)
  | [] => rfl
  | a :: r => by simp only [List.map_cons, strsOf, strs_map p r, Option.map_some]
/-- over a mapped list: the invariant of what is left -/
theorem wp_forE {α : Type} {c : Src} {f : I → S → Res Fl} {Q : Fl → S → Prop} (e : α → I) (Inv : List α → S → Prop) (hg : ∀ r s, Inv r s → c.good s = true)
    (hs : ∀ a r s, Inv (a :: r) s → (f (e a) s).wp fun fl s' => match fl with | .nx => Inv r s' | .rt d => Q (.rt d) s') (h0 : ∀ s, Inv [] s → Q .nx s) (w : List α) (s : S) (h : Inv w s) : (forL c f (w.map e) s).wp Q := by
  refine wp_forL (fun l s => ∃ r, l = r.map e ∧ Inv r s) (fun l s ⟨r, _, i⟩ => hg r s i) ?_ ?_ _ s ⟨w, rfl, h⟩
  · rintro i l s ⟨r, er, hi⟩
    cases r with
    | nil => cases er
    | cons a r =>
      rw [List.map_cons] at er
      cases er
      refine wp_mono (hs a r s hi) fun fl s' hq => ?_
      cases fl with
      | nx => exact ⟨r, rfl, hq⟩
      | rt d => exact hq
  · rintro s ⟨r, er, hi⟩
    cases r with
    | nil => exact h0 s hi
    | cons a r => cases er
theorem ixn30 : ixn 3 0 = some 0 := rfl
theorem ixn31 : ixn 3 1 = some 1 := rfl
theorem ixn32 : ixn 3 2 = some 2 := rfl
theorem c0 : ((0 : Nat) : Int) = 0 := rfl
theorem c1 : ((1 : Nat) : Int) = 1 := rfl
theorem c2 : ((2 : Nat) : Int) = 2 := rfl
theorem c3 : ((3 : Nat) : Int) = 3 := rfl
theorem c4 : ((4 : Nat) : Int) = 4 := rfl
theorem atN_4 {α : Type} (a b d f g : α) (l : List α) : atN (a :: b :: d :: f :: g :: l) 4 = some g := by
  rw [atN_get (by omega) (by simp only [List.length_cons]; omega)]; rfl
theorem sx_mk (l : List Nat) (c : Nat) (s : S) : sindexop (.val (.str l)) (.val (.str [c])) s = opt ((cIdx l c).map fun (j : Nat) => .val (.int (j : Int))) s := rfl
theorem cut_map {α β : Type} (e : α → β) (l : List α) (lo hi : Option Int) : cut (l.map e) lo hi = (cut l lo hi).map e := by
  unfold cut
  rw [List.length_map, List.map_take, List.map_drop]
theorem cut_split {α : Type} (l : List α) (i : Int) (h0 : 0 ≤ i) (h1 : i ≤ l.length) : cut l none (some i) ++ cut l (some i) none = l := by
  have e1 : cut l none (some i) = l.take i.toNat := by
    have c : clip l.length l.length (some i) = i.toNat := by
      show (if i < 0 then (i + l.length).toNat else min i.toNat l.length) = i.toNat
      rw [if_neg (by omega)]
      omega
    unfold cut
    rw [c]
    show List.take (i.toNat - 0) (List.drop 0 l) = _
    rw [Nat.sub_zero, List.drop_zero]
  have e2 : cut l (some i) none = l.drop i.toNat := by
    have c : clip l.length 0 (some i) = i.toNat := by
      show (if i < 0 then (i + l.length).toNat else min i.toNat l.length) = i.toNat
      rw [if_neg (by omega)]
      omega
    unfold cut
    rw [c, List.take_of_length_le]
    rw [List.length_drop]
    show _ ≤ l.length - _
    omega
  rw [e1, e2, List.take_append_drop]
/-- while: what still may come grows less -/
theorem wp_while {c : S → Res Bool} {f : S → Res Fl} {Q : Fl → S → Prop} (Inv : Nat → S → Prop)
    (hs : ∀ k s, Inv k s → (c s).wp fun b s1 => if b = true then (f s1).wp fun fl s2 => match fl with | .nx => ∃ j, j < k ∧ Inv j s2 | .rt d => Q (.rt d) s2 else Q .nx s1) : ∀ (n k : Nat) (s : S), k < n → Inv k s → (whileN n c f s).wp Q
  | 0, k, s, h, _ => by omega
  | n + 1, k, s, h, i => by
    unfold whileN
    rw [wp_bind]
    refine wp_mono (hs k s i) fun b s1 hq => ?_
    cases b with
    | true =>
      simp only [if_true, wp_bind] at hq ⊢
      refine wp_mono hq fun fl s2 hq => ?_
      cases fl with
      | nx =>
        obtain ⟨j, hj, ij⟩ := hq
        exact wp_while Inv hs n j s2 (by omega) ij
      | rt d => exact hq
    | false =>
      simp only [Bool.false_eq_true, if_false] at hq ⊢
      exact hq
theorem cut_from {α : Type} (l : List α) (i : Nat) (h : i ≤ l.length) : cut l (some (i : Int)) none = l.drop i := by
  have c : clip l.length 0 (some (i : Int)) = i := by
    show (if (i : Int) < 0 then ((i : Int) + l.length).toNat else min (i : Int).toNat l.length) = i
    rw [if_neg (by omega)]
    omega
  unfold cut
  rw [c, List.take_of_length_le]
  rw [List.length_drop]
  show _ ≤ l.length - _
  omega
theorem cut_to {α : Type} (l : List α) (i : Nat) (h : i ≤ l.length) : cut l none (some (i : Int)) = l.take i := by
  have c : clip l.length l.length (some (i : Int)) = i := by
    show (if (i : Int) < 0 then ((i : Int) + l.length).toNat else min (i : Int).toNat l.length) = i
    rw [if_neg (by omega)]
    omega
  unfold cut
  rw [c]
  show List.take (i - 0) (List.drop 0 l) = _
  rw [Nat.sub_zero, List.drop_zero]
theorem cut_mid {α : Type} (l : List α) (i j : Nat) (hi : i ≤ l.length) (hj : j ≤ l.length) : cut l (some (i : Int)) (some (j : Int)) = (l.drop i).take (j - i) := by
  have c : clip l.length 0 (some (i : Int)) = i := by
    show (if (i : Int) < 0 then ((i : Int) + l.length).toNat else min (i : Int).toNat l.length) = i
    rw [if_neg (by omega)]
    omega
  have d : clip l.length l.length (some (j : Int)) = j := by
    show (if (j : Int) < 0 then ((j : Int) + l.length).toNat else min (j : Int).toNat l.length) = j
    rw [if_neg (by omega)]
    omega
  unfold cut
  rw [c, d]
theorem atN_nat {α : Type} {l : List α} {i : Nat} (h : i < l.length) : atN l (i : Int) = some l[i] := by
  rw [atN_get (by omega) (by omega)]
  exact List.getElem?_eq_getElem h
theorem atN_last {α : Type} {l : List α} (h : 0 < l.length) : atN l (-1) = l[l.length - 1]? := by
  unfold atN ixn
  rw [if_neg (by omega), if_pos (by omega)]
  show l[(-1 + (l.length : Int)).toNat]? = _
  congr 1
  omega
theorem w_asgTs {pin : List Nat} {e : List (Option D)} {h : List O} {Q : Unit → S → Prop} (ts : List Tg) (l : List Nat) : (asgT pin (.tp ts) (.val (.str l)) ⟨e, h⟩).wp Q = (l.length = ts.length ∧ (bindTs pin ts (l.map fun c => .str [c]) ⟨e, h⟩).wp Q) := by
  show (Res.req (decide (l.length = ts.length)) (bindTs pin ts (l.map fun c => .str [c]) ⟨e, h⟩)).wp Q = _
  rw [wp_req, decide_eq_true_eq]
theorem w_asgTp {pin : List Nat} {e : List (Option D)} {h : List O} {Q : Unit → S → Prop} (ts : List Tg) (l : List I) : (asgT pin (.tp ts) (.val (.tup l)) ⟨e, h⟩).wp Q = (bindT pin (.tp ts) (.tup l) ⟨e, h⟩).wp Q := rfl
theorem w_asgLv {pin : List Nat} {e : List (Option D)} {h : List O} {Q : Unit → S → Prop} (ts : List Tg) (k : Nat) : (asgT pin (.tp ts) (.var k) ⟨e, h⟩).wp Q = mb (viewQ (.var k) ⟨e, h⟩) fun q => q.1 = false ∧ q.2.length = ts.length ∧ (bindTs pin ts q.2 ⟨e, h⟩).wp Q := by
  show (asgL pin ts (.var k) ⟨e, h⟩).wp Q = _
  unfold asgL
  cases viewQ (.var k) ⟨e, h⟩ with
  | none => rfl
  | some q =>
    obtain ⟨b, l⟩ := q
    cases b with
    | true => simp [mb, CH.Res.wp]
    | false =>
      show (Res.req _ _).wp Q = _
      rw [wp_req, decide_eq_true_eq]
      simp [mb]
theorem w_asgLt {pin : List Nat} {e : List (Option D)} {h : List O} {Q : Unit → S → Prop} (ts : List Tg) (l : List I) : (asgT pin (.tp ts) (.tmp (.lst l)) ⟨e, h⟩).wp Q = (l.length = ts.length ∧ (bindTs pin ts l ⟨e, h⟩).wp Q) := by
  show (asgL pin ts (.tmp (.lst l)) ⟨e, h⟩).wp Q = _
  unfold asgL
  show (Res.req _ _).wp Q = _
  rw [wp_req, decide_eq_true_eq]
theorem w_chain3 {c : Ctx} {e : List (Option D)} {h : List O} {Q : R → S → Prop} (o p q : Cp) (a b d f : E) : (evE c (.chain3 o p q a b d f) ⟨e, h⟩).wp Q = (evE c a ⟨e, h⟩).wp fun x s1 => (evE c b s1).wp fun y s2 => (cmpop o x y s2).wp fun z s3 => wTest z ((evE c d s3).wp fun w s4 => (cmpop p y w s4).wp fun z s5 => wTest z ((evE c f s5).wp fun v s6 => (cmpop q w v s6).wp Q) (Q (.val (.bl false)) s5)) (Q (.val (.bl false)) s3) := by
  simp only [evE, wp_bind]
  congr 1
  funext x s1
  congr 1
  funext y s2
  congr 1
  funext z s3
  have key : ∀ (z : R) (s5 : S) (w : R), (match z with
      | .val (.bl true) => (evE c f s5).bind fun v s6 => cmpop q w v s6
      | .val (.bl false) => .ok (.val (.bl false)) s5
      | _ => .bad : Res R).wp Q = wTest z ((evE c f s5).wp fun v s6 => (cmpop q w v s6).wp Q) (Q (.val (.bl false)) s5) := by
    intro z s5 w
    cases z with
    | val i => (cases i <;> first | rfl | (rename_i b; cases b <;> first | rfl | simp only [wp_bind, wTest]))
    | tmp => rfl
    | var => rfl
  cases z with
  | val i =>
    cases i with
    | bl b =>
      cases b with
      | false => rfl
      | true =>
        simp only [wp_bind, wTest]
        congr 1
        funext w s4
        congr 1
        funext z s5
        exact key z s5 w
    | _ => rfl
  | tmp => rfl
  | var => rfl
theorem isn_q (n : Bool) (l : List I) (s : S) : isnop n (.val (.tup l)) s = .ok (.val (.bl n)) s := rfl
theorem w_par {c : Ctx} {pin : List Nat} {e : List (Option D)} {h : List O} {Q : Fl → S → Prop} (ks : List Nat) (es : List E) : (exS c pin (.par ks es) ⟨e, h⟩).wp Q = (evEs c es ⟨e, h⟩).wp fun xs s1 => (asgNs pin ks xs s1).wp fun _ s2 => Q .nx s2 := by simp only [exS, wp_bind, wp_ok]
theorem w_ns0 {pin : List Nat} {e : List (Option D)} {h : List O} {Q : Unit → S → Prop} : (asgNs pin [] [] ⟨e, h⟩).wp Q = Q () ⟨e, h⟩ := rfl
theorem w_nsV {pin : List Nat} {e : List (Option D)} {h : List O} {Q : Unit → S → Prop} (k : Nat) (ks : List Nat) (i : I) (xs : List R) : (asgNs pin (k :: ks) (.val i :: xs) ⟨e, h⟩).wp Q = (asgN pin k (.val i) ⟨e, h⟩).wp fun _ s1 => (asgNs pin ks xs s1).wp Q := by
  show ((asgN pin k (.val i) ⟨e, h⟩).bind fun _ s1 => asgNs pin ks xs s1).wp Q = _
  rw [wp_bind]
theorem w_nsO {pin : List Nat} {e : List (Option D)} {h : List O} {Q : Unit → S → Prop} (k : Nat) (ks : List Nat) (i : O) (xs : List R) : (asgNs pin (k :: ks) (.tmp i :: xs) ⟨e, h⟩).wp Q = (asgN pin k (.tmp i) ⟨e, h⟩).wp fun _ s1 => (asgNs pin ks xs s1).wp Q := by
  show ((asgN pin k (.tmp i) ⟨e, h⟩).bind fun _ s1 => asgNs pin ks xs s1).wp Q = _
  rw [wp_bind]
theorem of_wp {x : Rc} (h : x.wp fun d _ _ => d = .im (.bl true)) : ∃ as hp, x = .ok (.im (.bl true)) as hp := by
  cases x with
  | ok d as hp =>
    cases h
    exact ⟨_, _, rfl⟩
  | exc => exact h.elim
  | bad => exact h.elim
end CP
/-! Steps of more constructs: a name that holds a def, written tuples as keys, isinstance of two types. -/
namespace CP
open CH
section
variable {c : Ctx} {e : List (Option D)} {h : List O} {pin : List Nat} {Q : R → S → Prop}
theorem w_callv {P : String → Option Fn} {gl : Glb} {n : Nat} (k : Nat) (es : List E) : (evE ⟨runF P gl n, gl, knF P⟩ (.callv k es) ⟨e, h⟩).wp Q = mb (faOf ⟨runF P gl n, gl, knF P⟩ (e.getD k none)) fun f => (evEs ⟨runF P gl n, gl, knF P⟩ es ⟨e, h⟩).wp fun xs s1 => (doCall ⟨runF P gl n, gl, knF P⟩ f xs s1).wp Q := by
  simp only [evE, S.g]
  cases faOf ⟨runF P gl n, gl, knF P⟩ (e.getD k none) with
  | none => rfl
  | some f =>
    simp only [mb_some, wp_req, wp_bind, wp_noX]
    refine propext ⟨fun z => z.2, fun z => ⟨?_, z⟩⟩
    obtain ⟨_, _, z⟩ := wp_some z
    exact doCall_kn z
theorem fa_of {cl : String → List D → List O → Rc} {kn : String → Bool} {gl : Glb} {a : Nat} {f : String} (hg : gl f = some (.fa a f)) : faOf ⟨cl, gl, kn⟩ (some (.im (.fa a f))) = some f := by
  unfold faOf
  simp only [hg, and_self, if_true]
theorem w_ixt (a : E) (es : List E) : (evE c (.ixt a es) ⟨e, h⟩).wp Q = (evE c a ⟨e, h⟩).wp fun x s1 => (evIs c es s1).wp fun l s2 => (ixtop x l s2).wp Q := by simp only [evE, wp_bind]
theorem ixt_mk (l : List I) (x : R) : ixtop x l ⟨e, h⟩ = match viewD x ⟨e, h⟩ with
    | some (true, kvs) => Res.req (keyT l) (opt ((lookD kvs (.tup l)).map .val) ⟨e, h⟩)
    | _ => .bad := by
  unfold ixtop
  cases viewD x ⟨e, h⟩ with
  | none => rfl
  | some q =>
    obtain ⟨t, l⟩ := q
    cases t <;> rfl
theorem w_isi2 (a : E) (t u : Ty) : (evE c (.isi2 a t u) ⟨e, h⟩).wp Q = (evE c a ⟨e, h⟩).wp fun x s1 => (isi2op x t u s1).wp Q := by simp only [evE, wp_bind]
theorem isi2_mk (x : R) (t u : Ty) : isi2op x t u ⟨e, h⟩ = match viewI x ⟨e, h⟩ with
    | some (.ref _) => .bad
    | some (.fa _ _) => .bad
    | some (.ex _ _) => .bad
    | some i => .ok (.val (.bl (tyI i t || tyI i u))) ⟨e, h⟩
    | none => .bad := rfl
theorem w_srtSetD (a : E) : (evE c (.srtSetD a) ⟨e, h⟩).wp Q = (evE c a ⟨e, h⟩).wp fun x s1 => (srtSDop x s1).wp Q := by simp only [evE, wp_bind]
theorem srtSD_mk (x : R) : srtSDop x ⟨e, h⟩ = match viewD x ⟨e, h⟩ with
    | some (false, kvs) => (match strsOf (kvs.map (·.1)) with
      | some ss => Res.req (decide (ss.length < 64)) (.ok (.tmp (.lst ((sortS ss).map .str))) ⟨e, h⟩)
      | none => .bad)
    | _ => .bad := by
  unfold srtSDop
  cases viewD x ⟨e, h⟩ with
  | none => rfl
  | some q =>
    obtain ⟨t, l⟩ := q
    cases t <;> rfl
end
section
variable {c : Ctx} {e : List (Option D)} {h : List O} {pin : List Nat}
theorem w_sbt {Q : Fl → S → Prop} (a v : E) (es : List E) : (exS c pin (.sbt a es v) ⟨e, h⟩).wp Q = (evE c v ⟨e, h⟩).wp fun x s1 => (asI x s1).wp fun v s2 => (evE c a s2).wp fun r s3 => (evIs c es s3).wp fun l s4 => (keySetT r l v s4).wp fun _ s5 => Q .nx s5 := by simp only [exS, wp_bind, wp_ok]
def isT : Bool × List (I × I) → Option (List (I × I))
  | (true, l) => some l
  | _ => none
theorem isT_mk (l : List (I × I)) : isT (true, l) = some l := rfl
theorem w_keySetT {Q : Unit → S → Prop} (x : R) (l : List I) (v : I) : (keySetT x l v ⟨e, h⟩).wp Q = mb (ownD x ⟨e, h⟩) fun q => mb (isT q) fun kvs => (keyT l = true ∧ kvs.length < 16777216) ∧ Q () (putO x (.dct true (putD kvs (.tup l) v)) ⟨e, h⟩) := by
  unfold keySetT
  cases ownD x ⟨e, h⟩ with
  | none => rfl
  | some q =>
    obtain ⟨t, kvs⟩ := q
    cases t with
    | false => rfl
    | true => simp only [mb_some, isT_mk, wp_req, wp_ok, Bool.and_eq_true, decide_eq_true_eq]
end
/-- over range(n): what comes first, with a return -/
def rgZ (n : Int) : List Int := (List.range n.toNat).map fun (i : Nat) => (i : Int)
def flO : Option D → Fl
  | none => .nx
  | some d => .rt d
theorem wp_first {f : I → S → Res Fl} {Q : Fl → S → Prop} {n : Int} (g : Int → Option D) (Inv : S → Prop)
    (hs : ∀ i : Int, 0 ≤ i → i < n → ∀ s, Inv s → (f (.int i) s).wp fun fl s' => Inv s' ∧ fl = flO (g i))
    (h : ∀ s, Inv s → Q (flO ((rgZ n).findSome? g)) s) (s : S) (hi : Inv s) : (forL .imm f (rng 0 n) s).wp Q := by
  unfold rng rgZ at *
  rw [Int.sub_zero]
  suffices z : ∀ (L : List Nat) (s : S), (∀ i ∈ L, (i : Int) < n) → Inv s → (∀ s, Inv s → Q (flO ((L.map fun (i : Nat) => (i : Int)).findSome? g)) s) → (forL .imm f (L.map fun (i : Nat) => .int (0 + i)) s).wp Q from
    z _ s (fun i hi => by have := List.mem_range.mp hi; omega) hi h
  intro L
  induction L with
  | nil =>
    intro s _ hi h
    simp only [List.map_nil, forL, wp_req, Src.good, wp_ok, true_and]
    exact h s hi
  | cons i L ih =>
    intro s hL hi h
    simp only [List.map_cons, forL, wp_req, wp_bind, Src.good, true_and]
    have h1 := hs i (by omega) (hL i (by simp)) s hi
    rw [show ((0 : Int) + (i : Int)) = (i : Int) by omega]
    refine wp_mono h1 fun fl s' hq => ?_
    obtain ⟨i1, e1⟩ := hq
    subst e1
    rw [List.map_cons] at h
    cases e : g i with
    | none =>
      simp only [List.findSome?_cons, e] at h
      exact ih s' (fun j hj => hL j (by simp [hj])) i1 h
    | some d =>
      simp only [List.findSome?_cons, e] at h
      exact h s' i1
/-- over a mapped list: what comes first, with a return -/
theorem wp_firstE {α : Type} {c : Src} {f : I → S → Res Fl} {Q : Fl → S → Prop} (w : α → I) (g : α → Option D) (Inv : S → Prop) (hg : ∀ s, Inv s → c.good s = true) : ∀ (L : List α)
    (hs : ∀ a ∈ L, ∀ s, Inv s → (f (w a) s).wp fun fl s' => Inv s' ∧ fl = flO (g a))
    (h : ∀ s, Inv s → Q (flO (L.findSome? g)) s) (s : S) (hi : Inv s), (forL c f (L.map w) s).wp Q
  | [], hs, h, s, hi => by
    simp only [List.map_nil, forL, wp_req, wp_ok]
    exact ⟨hg s hi, h s hi⟩
  | a :: L, hs, h, s, hi => by
    simp only [List.map_cons, forL, wp_req, wp_bind]
    refine ⟨hg s hi, wp_mono (hs a (by simp) s hi) fun fl s' hq => ?_⟩
    obtain ⟨i1, e1⟩ := hq
    subst e1
    cases e : g a with
    | none =>
      simp only [List.findSome?_cons, e] at h
      exact wp_firstE w g Inv hg L (fun b hb => hs b (by simp [hb])) h s' i1
    | some d =>
      simp only [List.findSome?_cons, e] at h
      exact h s' i1
/-- over an enumerate -/
theorem wp_forEn0 {α : Type} {c : Src} {f : I → S → Res Fl} {Q : Fl → S → Prop} (e : α → I) (l : List α) (Inv : Nat → S → Prop) (hg : ∀ i s, Inv i s → c.good s = true)
    (hs : ∀ (i : Nat) (a : α) s, l[i]? = some a → Inv i s → (f (.tup [.int (i : Int), e a]) s).wp fun fl s' => match fl with | .nx => Inv (i + 1) s' | .rt d => Q (.rt d) s') (h0 : ∀ s, Inv l.length s → Q .nx s) (s : S) (h : Inv 0 s) : (forL c f (enumL (l.map e)) s).wp Q := by
  have ln : (enumL (l.map e)).length = l.length := by unfold enumL; simp
  have gt : ∀ (i : Nat) (a : α), l[i]? = some a → (enumL (l.map e))[i]? = some (I.tup [.int (i : Int), e a]) := by
    intro i a ha
    have hl := (List.getElem?_eq_some_iff.mp ha).1
    unfold enumL
    rw [List.getElem?_zipWith, List.getElem?_map, ha, List.length_map, List.getElem?_range hl]
    rfl
  refine wp_forL (fun r s => ∃ i, i ≤ l.length ∧ r = (enumL (l.map e)).drop i ∧ Inv i s) (fun r s ⟨i, _, _, h⟩ => hg i s h) ?_ ?_ _ s ⟨0, Nat.zero_le _, rfl, h⟩
  · rintro x r s ⟨i, hi, hr, hI⟩
    have hlt : i < l.length := by
      have := congrArg List.length hr
      rw [List.length_cons, List.length_drop, ln] at this
      omega
    have hx : (enumL (l.map e))[i]? = some x := by
      have := congrArg (fun l => l[0]?) hr
      simpa using this.symm
    have ga := gt i l[i] (List.getElem?_eq_getElem hlt)
    rw [hx] at ga
    cases ga
    refine wp_mono (hs i l[i] s (List.getElem?_eq_getElem hlt) hI) fun fl s' hq => ?_
    cases fl with
    | nx =>
      refine ⟨i + 1, hlt, ?_, hq⟩
      have := congrArg (fun l => l.drop 1) hr
      simpa using this
    | rt d => exact hq
  · rintro s ⟨i, hi, hr, hI⟩
    have : i = l.length := by
      have := congrArg List.length hr
      rw [List.length_nil, List.length_drop, ln] at this
      omega
    subst this
    exact h0 s hI
end CP
local macro_rules | `(tactic| simp! $c:optConfig only [$xs,*] $[$l]?) => `(tactic| simp $c:optConfig only [↓CP.w_mkx, ↓CP.w_exf, ↓CP.w_isx, ↓CP.w_ist, CP.exL_1, CP.exL_0, CP.exf_mk, CP.isx_mk, CP.ist_b, ↓CP.w_zip, ↓CP.w_keys, ↓CP.w_lock, CP.lk_mk, CP.ul_mk, CP.keysop_v, ↓CP.w_remove, CH.srcK, ↓CP.w_callv, ↓CP.w_ixt, ↓CP.w_isi2, ↓CP.w_srtSetD, ↓CP.w_sbt, ↓CP.w_keySetT, CP.ixt_mk, CP.isi2_mk, CP.srtSD_mk, CP.isT_mk, CH.keyT, ↓CP.w_asgTp, ↓CP.w_asgTs, ↓CP.w_par, ↓CP.w_ns0, ↓CP.w_nsV, ↓CP.w_nsO, ↓CP.w_asgLv, ↓CP.w_asgLt, ↓CP.w_chain3, ↓CP.w_loc, ↓CP.w_glb, ↓CP.w_cst, ↓CP.w_tup, ↓CP.w_lst, ↓CP.w_box, ↓CP.w_lrg1, ↓CP.w_lrg2, ↓CP.w_rev, ↓CP.w_sb2, ↓CP.w_dct, ↓CP.w_op, ↓CP.w_cmp, ↓CP.w_chain, ↓CP.w_and, ↓CP.w_or, ↓CP.w_not, ↓CP.w_neg, ↓CP.w_inq, ↓CP.w_ins, ↓CP.w_ind, ↓CP.w_isn, ↓CP.w_idx, ↓CP.w_ixd, ↓CP.w_slc, ↓CP.w_rvs, ↓CP.w_call, ↓CP.w_dcall, ↓CP.w_len, ↓CP.w_toInt, ↓CP.w_toTup, ↓CP.w_toLst, ↓CP.w_dictP, ↓CP.w_listD, ↓CP.w_srt, ↓CP.w_all, ↓CP.w_any, ↓CP.w_sum, ↓CP.w_maxd, ↓CP.w_srtSet, ↓CP.w_raise, ↓CP.w_abs, ↓CP.w_mn, ↓CP.w_mx, ↓CP.w_app, ↓CP.w_ext, ↓CP.w_pop, ↓CP.w_popAt, ↓CP.w_get1, ↓CP.w_get2, ↓CP.w_index, ↓CP.w_tindex, ↓CP.w_sindex, ↓CP.w_join, ↓CP.w_upper, ↓CP.w_isi, ↓CP.w_comp, ↓CP.w_turn, ↓CP.w_Es0, ↓CP.w_Es1, ↓CP.w_Is0, ↓CP.w_Is1, ↓CP.w_O0, ↓CP.w_O1, ↓CP.w_C0, ↓CP.w_C1, ↓CP.w_seq, ↓CP.w_chars, ↓CP.w_range1, ↓CP.w_range2, ↓CP.w_enum, ↓CP.w_asg, ↓CP.w_sub, ↓CP.w_sbd, ↓CP.w_expr, ↓CP.w_ret, ↓CP.w_retN, ↓CP.w_pass, ↓CP.w_ite, ↓CP.w_for, ↓CP.w_while, ↓CP.w_Ss0, ↓CP.w_Ss1, ↓CP.w_asgT, ↓CP.w_asgV, ↓CP.w_asgO, ↓CP.w_asgL, ↓CP.w_bind1, ↓CP.w_bindp, ↓CP.w_bindTs0, ↓CP.w_bindTs1, ↓CP.w_idxSet, ↓CP.w_keySet, ↓CP.w_asV, ↓CP.w_asO, CP.wLoc_im, CP.wLoc_ob, CP.wTest_b, CP.wFl_nx, CP.wFl_rt, CP.st_mk, CP.g_mk, CP.as_var, CP.wBox_t, CP.wPair_t, CP.vq_ref, CP.vd_ref, CP.vdr_ref, CP.vdr_var, CP.vdr_tmp, CP.vi_ref, CP.ol_ref, CP.od_ref, CP.put_ref, CP.lenop_r, CP.ixop_r, CP.vq_var, CP.vd_var, CP.vi_var, CP.ol_var, CP.od_var, CP.ad_var, CP.ad_val, CP.ad_tmp, CP.vq_tup, CP.vq_fl, CP.vq_xl, CP.vq_tmp, CP.vq_tmpd, CP.vd_tmp, CP.vi_tmp, CP.vi_str, CP.vi_int, CP.vi_bl, CP.vi_tup, CP.vi_fl, CP.vi_xl, CP.vi_non, CP.put_var, CP.seq_add, CP.in_mk, CP.ind_mk, CP.ixd_mk, CP.get1_mk, CP.get2_mk, CP.isi_mk, CP.join_mk, CP.all_mk, CP.any_mk, CP.sum_mk, CP.maxd_mk, CP.srtS_mk, CP.dictP_mk, CP.listD_mk, CP.tup_mk, CP.lst_mk, CP.rv_mk, CP.app_mk, CP.ext_mk, CP.ls_mk, CP.dc_mk, CP.wipeS_mk, CP.retV, CP.retO, CP.retL, CP.retQ_rt, CP.retQ_nx, CP.small_iff, CP.isxl_tmp, CP.isxl_var, CP.isxl_fl, CP.wp_ok, CP.wp_bad, CP.wp_bind, CP.wp_bindN, CP.wp_noX, CP.wp_req, CP.mb_some, CP.wp_ite, CP.binop_ii, CP.binop_ss, CP.binop_si, CP.binop_tt, CP.binop_vt, CP.binop_tv, CP.binop_vv, CP.binop_pp, CH.arith, CP.cmp_ii, CP.cmp_ss, CP.cmp_vv, CP.cmp_tv, CP.cmp_vt, CP.cmp_tt, CP.cmp_pp, CP.cmp_bb, CH.eqop, CH.ordI, CH.ordS, CP.ixop_s, CP.ixop_v, CP.ixop_t, CP.ixop_q, CP.ixop_f, CP.ixop_x, CP.lenop_s, CP.lenop_v, CP.lenop_t, CP.lenop_q, CP.lenop_f, CP.lenop_x, CP.lenop_d, CP.slop_s, CP.slop_v, CP.slop_t, CP.slop_q, CP.slop_f, CH.tyI, CH.isSt, CH.asDs, CH.vars, CH.outs, CH.ofD, CH.pins, CH.pinned, CH.Src.names, CH.rint, CH.srcOf, CH.wipeE, CH.restE, CH.ownFree, CH.keyOk, CH.keyS, CH.Src.good, CP.sameL_refl, List.map_cons, List.map_nil, List.cons_append, List.nil_append, List.replicate_succ, List.replicate_zero, List.getD_cons_zero, List.getD_cons_succ, List.getD_nil, List.set_cons_zero, List.set_cons_succ, List.take_succ_cons, List.take_zero, List.take_nil, List.length_cons, List.length_nil, List.contains_cons, List.contains_nil, List.nodup_cons, List.nodup_nil, List.mem_cons, List.not_mem_nil, List.all_cons, List.all_nil, Option.map_some, Option.map_none, Option.some.injEq, exists_eq_left', exists_eq_left, Bool.not_true, Bool.not_false, Bool.and_eq_true, Bool.and_true, Bool.true_and, Bool.and_self, Bool.or_false, Bool.false_or, Bool.or_eq_true, decide_eq_true_eq, decide_true, decide_false, if_true, if_false, ite_true, ite_false, true_and, and_true, and_self, reduceCtorEq, false_or, or_false, not_false_eq_true, beq_iff_eq, Bool.not_eq_true', Nat.reduceBEq, Nat.reduceAdd, Nat.reduceSub, Nat.reduceLT, Int.reduceLT, Int.reduceLE, Int.reduceNeg, decide_eq_false_iff_not, not_true_eq_false, CP.opt_some, CP.int_b, CP.int_ii, CP.abs_i, CP.mn_i, CP.mx_i, CP.up_s, CP.ins_mk, CP.isn_v, CP.isn_n, CP.isn_t, CP.isn_q, CH.sameR, CP.rbool, CP.rstr, CP.rwp_ok, CP.ixn20, CP.ixn21, or_true, true_or, Option.isSome_some, Option.isSome_none, beq_self_eq_true, Int.reduceToNat, Int.reducePow, Nat.reduceLeDiff, Nat.reduceEqDiff, CP.atN_0, CP.atN_1, CP.atN_2, CP.atN_3, List.length_map, $xs,*] $[$l]?)
local macro_rules | `(tactic| dsimp! $c:optConfig only [$xs,*] $[$l]?) => `(tactic| simp $c:optConfig only [↓CP.w_mkx, ↓CP.w_exf, ↓CP.w_isx, ↓CP.w_ist, CP.exL_1, CP.exL_0, CP.exf_mk, CP.isx_mk, CP.ist_b, ↓CP.w_zip, ↓CP.w_keys, ↓CP.w_lock, CP.lk_mk, CP.ul_mk, CP.keysop_v, ↓CP.w_remove, CH.srcK, ↓CP.w_callv, ↓CP.w_ixt, ↓CP.w_isi2, ↓CP.w_srtSetD, ↓CP.w_sbt, ↓CP.w_keySetT, CP.ixt_mk, CP.isi2_mk, CP.srtSD_mk, CP.isT_mk, CH.keyT, ↓CP.w_asgTp, ↓CP.w_asgTs, ↓CP.w_par, ↓CP.w_ns0, ↓CP.w_nsV, ↓CP.w_nsO, ↓CP.w_asgLv, ↓CP.w_asgLt, ↓CP.w_chain3, ↓CP.w_loc, ↓CP.w_glb, ↓CP.w_cst, ↓CP.w_tup, ↓CP.w_lst, ↓CP.w_box, ↓CP.w_lrg1, ↓CP.w_lrg2, ↓CP.w_rev, ↓CP.w_sb2, ↓CP.w_dct, ↓CP.w_op, ↓CP.w_cmp, ↓CP.w_chain, ↓CP.w_and, ↓CP.w_or, ↓CP.w_not, ↓CP.w_neg, ↓CP.w_inq, ↓CP.w_ins, ↓CP.w_ind, ↓CP.w_isn, ↓CP.w_idx, ↓CP.w_ixd, ↓CP.w_slc, ↓CP.w_rvs, ↓CP.w_call, ↓CP.w_dcall, ↓CP.w_len, ↓CP.w_toInt, ↓CP.w_toTup, ↓CP.w_toLst, ↓CP.w_dictP, ↓CP.w_listD, ↓CP.w_srt, ↓CP.w_all, ↓CP.w_any, ↓CP.w_sum, ↓CP.w_maxd, ↓CP.w_srtSet, ↓CP.w_raise, ↓CP.w_abs, ↓CP.w_mn, ↓CP.w_mx, ↓CP.w_app, ↓CP.w_ext, ↓CP.w_pop, ↓CP.w_popAt, ↓CP.w_get1, ↓CP.w_get2, ↓CP.w_index, ↓CP.w_tindex, ↓CP.w_sindex, ↓CP.w_join, ↓CP.w_upper, ↓CP.w_isi, ↓CP.w_comp, ↓CP.w_turn, ↓CP.w_Es0, ↓CP.w_Es1, ↓CP.w_Is0, ↓CP.w_Is1, ↓CP.w_O0, ↓CP.w_O1, ↓CP.w_C0, ↓CP.w_C1, ↓CP.w_seq, ↓CP.w_chars, ↓CP.w_range1, ↓CP.w_range2, ↓CP.w_enum, ↓CP.w_asg, ↓CP.w_sub, ↓CP.w_sbd, ↓CP.w_expr, ↓CP.w_ret, ↓CP.w_retN, ↓CP.w_pass, ↓CP.w_ite, ↓CP.w_for, ↓CP.w_while, ↓CP.w_Ss0, ↓CP.w_Ss1, ↓CP.w_asgT, ↓CP.w_asgV, ↓CP.w_asgO, ↓CP.w_asgL, ↓CP.w_bind1, ↓CP.w_bindp, ↓CP.w_bindTs0, ↓CP.w_bindTs1, ↓CP.w_idxSet, ↓CP.w_keySet, ↓CP.w_asV, ↓CP.w_asO, CP.wLoc_im, CP.wLoc_ob, CP.wTest_b, CP.wFl_nx, CP.wFl_rt, CP.st_mk, CP.g_mk, CP.as_var, CP.wBox_t, CP.wPair_t, CP.vq_ref, CP.vd_ref, CP.vdr_ref, CP.vdr_var, CP.vdr_tmp, CP.vi_ref, CP.ol_ref, CP.od_ref, CP.put_ref, CP.lenop_r, CP.ixop_r, CP.vq_var, CP.vd_var, CP.vi_var, CP.ol_var, CP.od_var, CP.ad_var, CP.ad_val, CP.ad_tmp, CP.vq_tup, CP.vq_fl, CP.vq_xl, CP.vq_tmp, CP.vq_tmpd, CP.vd_tmp, CP.vi_tmp, CP.vi_str, CP.vi_int, CP.vi_bl, CP.vi_tup, CP.vi_fl, CP.vi_xl, CP.vi_non, CP.put_var, CP.seq_add, CP.in_mk, CP.ind_mk, CP.ixd_mk, CP.get1_mk, CP.get2_mk, CP.isi_mk, CP.join_mk, CP.all_mk, CP.any_mk, CP.sum_mk, CP.maxd_mk, CP.srtS_mk, CP.dictP_mk, CP.listD_mk, CP.tup_mk, CP.lst_mk, CP.rv_mk, CP.app_mk, CP.ext_mk, CP.ls_mk, CP.dc_mk, CP.wipeS_mk, CP.retV, CP.retO, CP.retL, CP.retQ_rt, CP.retQ_nx, CP.small_iff, CP.isxl_tmp, CP.isxl_var, CP.isxl_fl, CP.wp_ok, CP.wp_bad, CP.wp_bind, CP.wp_bindN, CP.wp_noX, CP.wp_req, CP.mb_some, CP.wp_ite, CP.binop_ii, CP.binop_ss, CP.binop_si, CP.binop_tt, CP.binop_vt, CP.binop_tv, CP.binop_vv, CP.binop_pp, CH.arith, CP.cmp_ii, CP.cmp_ss, CP.cmp_vv, CP.cmp_tv, CP.cmp_vt, CP.cmp_tt, CP.cmp_pp, CP.cmp_bb, CH.eqop, CH.ordI, CH.ordS, CP.ixop_s, CP.ixop_v, CP.ixop_t, CP.ixop_q, CP.ixop_f, CP.ixop_x, CP.lenop_s, CP.lenop_v, CP.lenop_t, CP.lenop_q, CP.lenop_f, CP.lenop_x, CP.lenop_d, CP.slop_s, CP.slop_v, CP.slop_t, CP.slop_q, CP.slop_f, CH.tyI, CH.isSt, CH.asDs, CH.vars, CH.outs, CH.ofD, CH.pins, CH.pinned, CH.Src.names, CH.rint, CH.srcOf, CH.wipeE, CH.restE, CH.ownFree, CH.keyOk, CH.keyS, CH.Src.good, CP.sameL_refl, List.map_cons, List.map_nil, List.cons_append, List.nil_append, List.replicate_succ, List.replicate_zero, List.getD_cons_zero, List.getD_cons_succ, List.getD_nil, List.set_cons_zero, List.set_cons_succ, List.take_succ_cons, List.take_zero, List.take_nil, List.length_cons, List.length_nil, List.contains_cons, List.contains_nil, List.nodup_cons, List.nodup_nil, List.mem_cons, List.not_mem_nil, List.all_cons, List.all_nil, Option.map_some, Option.map_none, Option.some.injEq, exists_eq_left', exists_eq_left, Bool.not_true, Bool.not_false, Bool.and_eq_true, Bool.and_true, Bool.true_and, Bool.and_self, Bool.or_false, Bool.false_or, Bool.or_eq_true, decide_eq_true_eq, decide_true, decide_false, if_true, if_false, ite_true, ite_false, true_and, and_true, and_self, reduceCtorEq, false_or, or_false, not_false_eq_true, beq_iff_eq, Bool.not_eq_true', Nat.reduceBEq, Nat.reduceAdd, Nat.reduceSub, Nat.reduceLT, Int.reduceLT, Int.reduceLE, Int.reduceNeg, decide_eq_false_iff_not, not_true_eq_false, CP.opt_some, CP.int_b, CP.int_ii, CP.abs_i, CP.mn_i, CP.mx_i, CP.up_s, CP.ins_mk, CP.isn_v, CP.isn_n, CP.isn_t, CP.isn_q, CH.sameR, CP.rbool, CP.rstr, CP.rwp_ok, CP.ixn20, CP.ixn21, or_true, true_or, Option.isSome_some, Option.isSome_none, beq_self_eq_true, Int.reduceToNat, Int.reducePow, Nat.reduceLeDiff, Nat.reduceEqDiff, CP.atN_0, CP.atN_1, CP.atN_2, CP.atN_3, List.length_map, List.cons.injEq, CP.ixn30, CP.ixn31, CP.ixn32, eq_self, CP.c0, CP.c1, CP.c2, CP.c3, CP.c4, CP.atN_4, CP.sx_mk, CH.cIdx, CH.indexop, CH.tindexop, CH.isTp, CH.dep, CH.depL, CH.idxOf, CH.eqI, Bool.and_false, Bool.false_eq_true, Int.reduceAdd, Int.reduceSub, Int.reduceMul, $xs,*] $[$l]?)
set_option maxHeartbeats 0
namespace CHL
open PySem PySem.Spec PyProof.Rows L2 CH
/-- _law_feed: _law_script, _law_k, _law_number, _law_own -/
def f_law_feed : Fn := ⟨2, 4, [.asg (.nm 2) (.op .add (.op .mul (.cst (.int 7919)) (.loc 1)) (.cst (.int 13))), .ite (.cmp .gt (.len (.loc 0)) (.cst (.int 0))) [.asg (.nm 2) (.op .add (.op .mul (.op .mod (.idx (.loc 0) (.op .mod (.loc 1) (.len (.loc 0)))) (.cst (.int 2147483629))) (.cst (.int 48271))) (.op .mul (.cst (.int 7919)) (.loc 1)))] [], .asg (.nm 3) (.cst (.int 0)), .ite (.and (.cmp .lt (.loc 1) (.len (.loc 0))) (.cmp .ge (.abs (.idx (.loc 0) (.loc 1))) (.op .pow (.cst (.int 10)) (.cst (.int 18))))) [.asg (.nm 3) (.abs (.idx (.loc 0) (.loc 1)))] [], .ret (.lst [(.loc 3), (.op .mod (.loc 2) (.cst (.int 2147483647)))])]⟩
/-- _law_next: _law_feed_here, _law_many, _law_digit, _law_number, _law_one_here, _law_two -/
def f_law_next : Fn := ⟨2, 6, [.ite (.cmp .gt (.idx (.loc 0) (.cst (.int 0))) (.cst (.int 0))) [.asg (.nm 2) (.op .mod (.idx (.loc 0) (.cst (.int 0))) (.loc 1)), .sub (.loc 0) (.cst (.int 0)) (.op .div (.idx (.loc 0) (.cst (.int 0))) (.loc 1)), .ret (.loc 2)] [], .asg (.nm 3) (.op .mod (.op .add (.op .mul (.idx (.loc 0) (.cst (.int 1))) (.cst (.int 48271))) (.cst (.int 7919))) (.cst (.int 2147483647))), .sub (.loc 0) (.cst (.int 1)) (.op .mod (.op .add (.op .mul (.loc 3) (.cst (.int 40692))) (.cst (.int 104729))) (.cst (.int 2147483399))), .asg (.nm 4) (.op .mod (.op .mul (.loc 3) (.loc 3)) (.cst (.int 2147483629))), .asg (.nm 5) (.op .mod (.op .mul (.idx (.loc 0) (.cst (.int 1))) (.idx (.loc 0) (.cst (.int 1)))) (.cst (.int 2147483563))), .ret (.op .mod (.op .add (.op .mul (.loc 4) (.cst (.int 2147483563))) (.loc 5)) (.loc 1))]⟩
/-- _law_one: _law_feed_here, _law_some -/
def f_law_one : Fn := ⟨2, 2, [.ret (.idx (.loc 1) (.call "_law_next" [(.loc 0), (.len (.loc 1))]))]⟩
/-- _law_word: _law_feed_here, _law_some, _law_k -/
def f_law_word : Fn := ⟨1, 3, [.ite (.cmp .eq (.call "_law_next" [(.loc 0), (.cst (.int 3))]) (.cst (.int 0))) [.asg (.nm 1) (.lst [(.cst (.str [97])), (.cst (.str [98])), (.cst (.str [97, 98])), (.cst (.str [97, 97])), (.cst (.str [115, 101, 116])), (.cst (.str [109, 111, 114, 101])), (.cst (.str [105, 110])), (.cst (.str [111, 117, 116])), (.cst (.str [108, 97, 121])), (.cst (.str [100, 114, 111, 112])), (.cst (.str [116, 101, 108, 108])), (.cst (.str [119, 104, 101, 110])), (.cst (.str [115, 112, 108, 105, 116])), (.cst (.str [106, 111, 105, 110]))]), .asg (.nm 1) (.op .add (.loc 1) (.lst [(.cst (.str [115, 104, 101, 108, 102])), (.cst (.str [104, 97, 110, 100])), (.cst (.str [98, 97, 103])), (.cst (.str [114, 111, 119])), (.cst (.str [116, 111, 108, 100])), (.cst (.str [115, 117, 109])), (.cst (.str [108, 97, 115, 116])), (.cst (.str [109, 97, 110, 121])), (.cst (.str [108, 111, 110, 103])), (.cst (.str [105, 102])), (.cst (.str [119, 97, 115])), (.cst (.str [109, 105, 110, 101]))])), .ret (.call "_law_one" [(.loc 0), (.op .add (.loc 1) (.lst [(.cst (.str [121, 111, 117, 114, 115])), (.cst (.str [115, 101, 116, 115])), (.cst (.str [109, 97, 110, 121, 97])), (.cst (.str [119, 97, 115, 97])), (.cst (.str [104, 97, 110, 100, 115]))]))])] [], .ret (.join (.cst (.str [])) (.comp [2] (.nm 2) (.range1 (.op .add (.cst (.int 1)) (.call "_law_next" [(.loc 0), (.cst (.int 8))]))) none (.call "_law_one" [(.loc 0), (.cst (.str [97, 98, 99, 100, 101, 102, 103, 104, 105, 106, 107, 108, 109, 110, 111, 112, 113, 114, 115, 116, 117, 118, 119, 120, 121, 122]))])))]⟩
/-- _law_of: _law_e, _law_found, _law_k -/
def f_law_of : Fn := ⟨1, 3, [.asg (.nm 1) (.lst [(.isx (.loc 0) ["BadText"]), (.isx (.loc 0) ["Left"]), (.isx (.loc 0) ["NoAsk"]), (.isx (.loc 0) ["NoHand"])]), .asg (.nm 1) (.op .add (.loc 1) (.lst [(.isx (.loc 0) ["NoName"]), (.isx (.loc 0) ["NoPaper"]), (.isx (.loc 0) ["NoSplit"])])), .asg (.nm 1) (.op .add (.loc 1) (.lst [(.isx (.loc 0) ["NoTurn"]), (.isx (.loc 0) ["NotHeld"]), (.isx (.loc 0) ["TooMany"])])), .asg (.nm 1) (.op .add (.loc 1) (.lst [(.isx (.loc 0) ["Twice"]), (.isx (.loc 0) ["WrongShelf"])])), .ret (.comp [2] (.nm 2) (.range1 (.cst (.int 12))) (some (.idx (.loc 1) (.loc 2))) (.loc 2))]⟩
/-- law: _law_script, _law_feed_here, _law_number, _law_word_here, _law_some, _law_k, _law_e, _law_fields, _law_words -/
def f_law : Fn := ⟨1, 9, [.asg (.nm 1) (.call "_law_feed" [(.loc 0), (.cst (.int 0))]), .asg (.nm 2) (.call "_law_next" [(.loc 1), (.cst (.int 1200))]), .asg (.nm 3) (.call "_law_word" [(.loc 1)]), .asg (.nm 4) (.lst [(.mkx "BadText" [97, 116] [(.loc 2)]), (.mkx "Left" [119, 111, 114, 100] [(.loc 3)]), (.mkx "NoAsk" [] []), (.mkx "NoHand" [] []), (.mkx "NoName" [119, 111, 114, 100] [(.loc 3)]), (.mkx "NoPaper" [97, 116] [(.loc 2)]), (.mkx "NoSplit" [119, 111, 114, 100] [(.loc 3)])]), .asg (.nm 4) (.op .add (.loc 4) (.lst [(.mkx "NoTurn" [] []), (.mkx "NotHeld" [119, 111, 114, 100] [(.loc 3)]), (.mkx "TooMany" [109, 111, 115, 116] [(.loc 2)]), (.mkx "Twice" [119, 111, 114, 100] [(.loc 3)]), (.mkx "WrongShelf" [119, 111, 114, 100] [(.loc 3)])])), .for (.tp [(.nm 5), (.nm 6)]) (.enum (.loc 4)) [.ite (.or (.cmp .ne (.call "_law_of" [(.loc 6)]) (.lst [(.loc 5)])) (.or (.not (.isx (.loc 6) ["HouseError"])) (.not (.isx (.loc 6) ["ValueError"])))) [.ret (.cst (.bl false))] []], .asg (.nm 7) (.lst [(.exf (.idx (.loc 4) (.cst (.int 0))) [97, 116]), (.exf (.idx (.loc 4) (.cst (.int 5))) [97, 116]), (.exf (.idx (.loc 4) (.cst (.int 9))) [109, 111, 115, 116])]), .asg (.nm 8) (.lst [(.exf (.idx (.loc 4) (.cst (.int 1))) [119, 111, 114, 100]), (.exf (.idx (.loc 4) (.cst (.int 4))) [119, 111, 114, 100]), (.exf (.idx (.loc 4) (.cst (.int 6))) [119, 111, 114, 100]), (.exf (.idx (.loc 4) (.cst (.int 8))) [119, 111, 114, 100]), (.exf (.idx (.loc 4) (.cst (.int 10))) [119, 111, 114, 100]), (.exf (.idx (.loc 4) (.cst (.int 11))) [119, 111, 114, 100])]), .ret (.and (.cmp .eq (.loc 7) (.op .mul (.lst [(.loc 2)]) (.cst (.int 3)))) (.cmp .eq (.loc 8) (.op .mul (.lst [(.loc 3)]) (.cst (.int 6)))))]⟩
def prog : String → Option Fn
  | "_law_feed" => some f_law_feed
  | "_law_next" => some f_law_next
  | "_law_one" => some f_law_one
  | "_law_word" => some f_law_word
  | "_law_of" => some f_law_of
  | "law" => some f_law
  | _ => none
def globG : String → Option CH.I
  | _ => none
def xkL : List (String × List Nat) := [("BadText", [97, 116]), ("Twice", [119, 111, 114, 100]), ("NoHand", []), ("NoName", [119, 111, 114, 100]), ("WrongShelf", [119, 111, 114, 100]), ("NoSplit", [119, 111, 114, 100]), ("NotHeld", [119, 111, 114, 100]), ("Left", [119, 111, 114, 100]), ("NoPaper", [97, 116]), ("TooMany", [109, 111, 115, 116]), ("NoTurn", []), ("NoAsk", [])]
def ikL : List (String × String) := [("BadText", "BadText"), ("BadText", "Left"), ("BadText", "NoAsk"), ("BadText", "NoHand"), ("BadText", "NoName"), ("BadText", "NoPaper"), ("BadText", "NoSplit"), ("BadText", "NoTurn"), ("BadText", "NotHeld"), ("BadText", "TooMany"), ("BadText", "Twice"), ("BadText", "WrongShelf"), ("BadText", "HouseError"), ("BadText", "ValueError"), ("Twice", "BadText"), ("Twice", "Left"), ("Twice", "NoAsk"), ("Twice", "NoHand"), ("Twice", "NoName"), ("Twice", "NoPaper"), ("Twice", "NoSplit"), ("Twice", "NoTurn"), ("Twice", "NotHeld"), ("Twice", "TooMany"), ("Twice", "Twice"), ("Twice", "WrongShelf"), ("Twice", "HouseError"), ("Twice", "ValueError"), ("NoHand", "BadText"), ("NoHand", "Left"), ("NoHand", "NoAsk"), ("NoHand", "NoHand"), ("NoHand", "NoName"), ("NoHand", "NoPaper"), ("NoHand", "NoSplit"), ("NoHand", "NoTurn"), ("NoHand", "NotHeld"), ("NoHand", "TooMany"), ("NoHand", "Twice"), ("NoHand", "WrongShelf"), ("NoHand", "HouseError"), ("NoHand", "ValueError"), ("NoName", "BadText"), ("NoName", "Left"), ("NoName", "NoAsk"), ("NoName", "NoHand"), ("NoName", "NoName"), ("NoName", "NoPaper"), ("NoName", "NoSplit"), ("NoName", "NoTurn"), ("NoName", "NotHeld"), ("NoName", "TooMany"), ("NoName", "Twice"), ("NoName", "WrongShelf"), ("NoName", "HouseError"), ("NoName", "ValueError"), ("WrongShelf", "BadText"), ("WrongShelf", "Left"), ("WrongShelf", "NoAsk"), ("WrongShelf", "NoHand"), ("WrongShelf", "NoName"), ("WrongShelf", "NoPaper"), ("WrongShelf", "NoSplit"), ("WrongShelf", "NoTurn"), ("WrongShelf", "NotHeld"), ("WrongShelf", "TooMany"), ("WrongShelf", "Twice"), ("WrongShelf", "WrongShelf"), ("WrongShelf", "HouseError"), ("WrongShelf", "ValueError"), ("NoSplit", "BadText"), ("NoSplit", "Left"), ("NoSplit", "NoAsk"), ("NoSplit", "NoHand"), ("NoSplit", "NoName"), ("NoSplit", "NoPaper"), ("NoSplit", "NoSplit"), ("NoSplit", "NoTurn"), ("NoSplit", "NotHeld"), ("NoSplit", "TooMany"), ("NoSplit", "Twice"), ("NoSplit", "WrongShelf"), ("NoSplit", "HouseError"), ("NoSplit", "ValueError"), ("NotHeld", "BadText"), ("NotHeld", "Left"), ("NotHeld", "NoAsk"), ("NotHeld", "NoHand"), ("NotHeld", "NoName"), ("NotHeld", "NoPaper"), ("NotHeld", "NoSplit"), ("NotHeld", "NoTurn"), ("NotHeld", "NotHeld"), ("NotHeld", "TooMany"), ("NotHeld", "Twice"), ("NotHeld", "WrongShelf"), ("NotHeld", "HouseError"), ("NotHeld", "ValueError"), ("Left", "BadText"), ("Left", "Left"), ("Left", "NoAsk"), ("Left", "NoHand"), ("Left", "NoName"), ("Left", "NoPaper"), ("Left", "NoSplit"), ("Left", "NoTurn"), ("Left", "NotHeld"), ("Left", "TooMany"), ("Left", "Twice"), ("Left", "WrongShelf"), ("Left", "HouseError"), ("Left", "ValueError"), ("NoPaper", "BadText"), ("NoPaper", "Left"), ("NoPaper", "NoAsk"), ("NoPaper", "NoHand"), ("NoPaper", "NoName"), ("NoPaper", "NoPaper"), ("NoPaper", "NoSplit"), ("NoPaper", "NoTurn"), ("NoPaper", "NotHeld"), ("NoPaper", "TooMany"), ("NoPaper", "Twice"), ("NoPaper", "WrongShelf"), ("NoPaper", "HouseError"), ("NoPaper", "ValueError"), ("TooMany", "BadText"), ("TooMany", "Left"), ("TooMany", "NoAsk"), ("TooMany", "NoHand"), ("TooMany", "NoName"), ("TooMany", "NoPaper"), ("TooMany", "NoSplit"), ("TooMany", "NoTurn"), ("TooMany", "NotHeld"), ("TooMany", "TooMany"), ("TooMany", "Twice"), ("TooMany", "WrongShelf"), ("TooMany", "HouseError"), ("TooMany", "ValueError"), ("NoTurn", "BadText"), ("NoTurn", "Left"), ("NoTurn", "NoAsk"), ("NoTurn", "NoHand"), ("NoTurn", "NoName"), ("NoTurn", "NoPaper"), ("NoTurn", "NoSplit"), ("NoTurn", "NoTurn"), ("NoTurn", "NotHeld"), ("NoTurn", "TooMany"), ("NoTurn", "Twice"), ("NoTurn", "WrongShelf"), ("NoTurn", "HouseError"), ("NoTurn", "ValueError"), ("NoAsk", "BadText"), ("NoAsk", "Left"), ("NoAsk", "NoAsk"), ("NoAsk", "NoHand"), ("NoAsk", "NoName"), ("NoAsk", "NoPaper"), ("NoAsk", "NoSplit"), ("NoAsk", "NoTurn"), ("NoAsk", "NotHeld"), ("NoAsk", "TooMany"), ("NoAsk", "Twice"), ("NoAsk", "WrongShelf"), ("NoAsk", "HouseError"), ("NoAsk", "ValueError")]
def glob : CH.Glb := ⟨globG, fun _ => none, fun _ _ => false, fun c f => xkL.contains (c, f), fun c d => ikL.contains (c, d)⟩
end CHL
namespace CHL
open CH CP
abbrev RQ := D → List (Option D) → List O → Prop
def Feed (f : List I) : Prop := ∃ a b : Int, f = [.int a, .int b]
theorem s_feed (n : Nat) (ns : List Int) (k : Int) (hk : 0 ≤ k ∧ k < 1000) (hp : List O) {Q : RQ}
    (h : ∀ f, Feed f → Q (.ob (.lst f)) [some (.im (.xl (ns.map .int))), some (.im (.int k))] hp) :
    (runF prog glob (n + 1) "_law_feed" [.im (.xl (ns.map .int)), .im (.int k)] hp).wp Q := by
  refine wp_runF rfl rfl ?_
  simp! only [f_law_feed]
  split
  · refine ⟨by omega, wp_idx (Int.emod_nonneg _ (by omega)) (by rw [List.length_map]; exact Int.emod_lt_of_pos _ (by omega)) fun x hx _ => ?_⟩
    obtain ⟨z, _, rfl⟩ := List.mem_map.mp hx
    simp! only []
    repeat' first | omega | exact h _ ⟨_, _, rfl⟩ | (refine wp_idx (by omega) (by rw [List.length_map]; omega) fun x hx _ => ?_; obtain ⟨z, _, rfl⟩ := List.mem_map.mp hx; simp! only []) | split | refine ⟨?_, ?_⟩
  · repeat' first | omega | exact h _ ⟨_, _, rfl⟩ | split
theorem s_next (n : Nat) (f : List I) (hf : Feed f) (m : Int) (hm : 0 < m ∧ m < 10000) (hp : List O) {Q : RQ}
    (h : ∀ d f', 0 ≤ d → d < m → Feed f' → Q (.im (.int d)) [some (.ob (.lst f')), some (.im (.int m))] hp) :
    (runF prog glob (n + 1) "_law_next" [.ob (.lst f), .im (.int m)] hp).wp Q := by
  obtain ⟨a, b, rfl⟩ := hf
  refine wp_runF rfl rfl ?_
  simp! only [f_law_next]
  split
  · exact ⟨by omega, by omega, h _ _ (Int.emod_nonneg _ (by omega)) (Int.emod_lt_of_pos _ (by omega)) ⟨_, _, rfl⟩⟩
  · exact ⟨by omega, by omega, by omega, h _ _ (Int.emod_nonneg _ (by omega)) (Int.emod_lt_of_pos _ (by omega)) ⟨_, _, rfl⟩⟩
theorem s_oneS (n : Nat) (f : List I) (hf : Feed f) (l : List Nat) (hl : 0 < l.length ∧ l.length < 10000) (hp : List O) {Q : RQ}
    (h : ∀ c f', c ∈ l → Feed f' → Q (.im (.str [c])) [some (.ob (.lst f')), some (.im (.str l))] hp) :
    (runF prog glob (n + 2) "_law_one" [.ob (.lst f), .im (.str l)] hp).wp Q := by
  refine wp_runF rfl rfl ?_
  simp! only [f_law_one]
  refine ⟨by omega, s_next n f hf _ (by omega) _ fun d f' h0 h1 hf' => ?_⟩
  simp! only []
  exact ⟨by omega, wp_idc h0 h1 fun x hx _ => h x f' hx hf'⟩
theorem s_oneL (n : Nat) (f : List I) (hf : Feed f) (l : List I) (hl : 0 < l.length ∧ l.length < 10000) (hp : List O) {Q : RQ}
    (h : ∀ c f', c ∈ l → Feed f' → Q (.im c) [some (.ob (.lst f')), some (.ob (.lst l))] hp) :
    (runF prog glob (n + 2) "_law_one" [.ob (.lst f), .ob (.lst l)] hp).wp Q := by
  refine wp_runF rfl rfl ?_
  simp! only [f_law_one]
  refine s_next n f hf _ (by omega) _ fun d f' h0 h1 hf' => ?_
  simp! only []
  exact wp_idx h0 h1 fun x hx _ => h x f' hx hf'
/-- a text that may be made larger -/
def Tx (k : Nat) (w : List Nat) : Prop := w.length ≤ k ∧ ∀ c ∈ w, c < 128
def isTx (k : Nat) : I → Prop
  | .str w => Tx k w
  | _ => False
instance (k : Nat) (w : List Nat) : Decidable (Tx k w) := by unfold Tx; infer_instance
instance (k : Nat) (i : I) : Decidable (isTx k i) := by unfold isTx; split <;> infer_instance
theorem isTx_of {k : Nat} {i : I} (h : isTx k i) : ∃ w, i = .str w ∧ Tx k w := by
  cases i <;> first | exact h.elim | exact ⟨_, rfl, h⟩
theorem Tx.more {k j : Nat} {w : List Nat} (h : Tx k w) (kj : k ≤ j) : Tx j w := ⟨by have := h.1; omega, h.2⟩
/-- one sign a text -/
theorem strs1 : ∀ (l : List I), (∀ v ∈ l, ∃ c, v = .str [c] ∧ c < 128) → ∃ ss, strsOf l = some ss ∧ ss.length = l.length ∧ (∀ s ∈ ss, s.length = 1) ∧ ∀ s ∈ ss, ∀ c ∈ s, c < 128
  | [], _ => ⟨[], rfl, rfl, by simp, by simp⟩
  | v :: r, h => by
    obtain ⟨c, rfl, hc⟩ := h v (by simp)
    obtain ⟨ss, e, l1, l2, l3⟩ := strs1 r fun u hu => h u (by simp [hu])
    refine ⟨[c] :: ss, by simp [strsOf, e], by simp [l1], ?_, ?_⟩
    · intro s hs
      rcases List.mem_cons.mp hs with rfl | hs
      · rfl
      · exact l2 s hs
    · intro s hs
      rcases List.mem_cons.mp hs with rfl | hs
      · intro c' hc'
        simp only [List.mem_cons, List.not_mem_nil, or_false] at hc'
        rw [hc']; exact hc
      · exact l3 s hs
theorem join1 : ∀ (ss : List (List Nat)), (∀ s ∈ ss, s.length = 1) → (∀ s ∈ ss, ∀ c ∈ s, c < 128) → (joinS [] ss).length = ss.length ∧ (∀ c ∈ joinS [] ss, c < 128) ∧ (ss.map List.length).sum = ss.length
  | [], _, _ => ⟨rfl, by simp [joinS], rfl⟩
  | [s], h1, h2 => ⟨by simpa [joinS] using h1 s (by simp), by simpa [joinS] using h2 s (by simp), by simpa using h1 s (by simp)⟩
  | s :: t :: r, h1, h2 => by
    obtain ⟨i1, i2, i3⟩ := join1 (t :: r) (fun u hu => h1 u (by simp [hu])) (fun u hu => h2 u (by simp [hu]))
    have hs := h1 s (by simp)
    refine ⟨by simp only [joinS, List.length_append, List.length_nil, i1, hs, List.length_cons]; omega, ?_, by rw [List.map_cons, List.sum_cons, i3, hs]; simp only [List.length_cons]; omega⟩
    intro c hc
    simp only [joinS, List.mem_append, List.append_nil] at hc
    rcases hc with hc | hc
    · exact h2 s (by simp) c hc
    · exact i2 c hc
theorem s_word (n : Nat) (f : List I) (hf : Feed f) (hp : List O) {Q : RQ}
    (h : ∀ w f', Tx 8 w → Feed f' → Q (.im (.str w)) [some (.ob (.lst f'))] hp) :
    (runF prog glob (n + 3) "_law_word" [.ob (.lst f)] hp).wp Q := by
  refine wp_runF rfl rfl ?_
  simp! only [f_law_word]
  refine s_next (n + 1) f hf 3 (by omega) _ fun d f' h0 h1 hf' => ?_
  simp! only []
  split
  · refine s_oneL n f' hf' _ (by decide) _ fun c f2 hc hf2 => ?_
    obtain ⟨w, rfl, hw⟩ := isTx_of ((by decide : ∀ c ∈ _, isTx 8 c) c hc)
    simp! only []
    exact h w f2 hw hf2
  · refine s_next (n + 1) f' hf' 8 (by omega) _ fun d f2 h0 h1 hf2 => ?_
    simp! only []
    refine ⟨by omega, wp_compR (fun s => ∃ f, Feed f ∧ s = ⟨[some (.ob (.lst f)), none, none], hp⟩) (fun v => ∃ c, v = .str [c] ∧ c < 128) (by omega) ?_ ?_ _ ⟨_, hf2, rfl⟩⟩
    · rintro i s hi ⟨f3, hf3, rfl⟩
      simp! only []
      refine s_oneS n f3 hf3 _ (by decide) _ fun c f4 hc hf4 => ?_
      simp! only []
      exact ⟨⟨c, rfl, (by decide : ∀ c ∈ _, c < 128) c hc⟩, _, hf4, rfl⟩
    · rintro l s hl hv ⟨f3, hf3, rfl⟩
      obtain ⟨ss, e, l1, l2, l3⟩ := strs1 l hv
      obtain ⟨i1, i2, i3⟩ := join1 ss l2 l3
      simp! only [e]
      refine ⟨by omega, h _ _ ⟨by omega, i2⟩ hf3⟩
/-- the twelve, with what they hold -/
def xs (m : Int) (w : List Nat) : List (String × List I) := [("BadText", [.str [97, 116], .int m]), ("Left", [.str [119, 111, 114, 100], .str w]), ("NoAsk", []), ("NoHand", []), ("NoName", [.str [119, 111, 114, 100], .str w]), ("NoPaper", [.str [97, 116], .int m]), ("NoSplit", [.str [119, 111, 114, 100], .str w]),
  ("NoTurn", []), ("NotHeld", [.str [119, 111, 114, 100], .str w]), ("TooMany", [.str [109, 111, 115, 116], .int m]), ("Twice", [.str [119, 111, 114, 100], .str w]), ("WrongShelf", [.str [119, 111, 114, 100], .str w])]
abbrev eX (p : String × List I) : I := .ex p.1 p.2
theorem of_k (n : Nat) (hp : List O) (m : Int) (w : List Nat) : ∀ (i : Nat) (p : String × List I), (xs m w)[i]? = some p →
    runF prog glob (n + 1) "_law_of" [.im (eX p)] hp = .ok (.ob (.lst [.int i])) [some (.im (eX p))] hp ∧ [("HouseError" : String)].all (glob.ik p.1) = true ∧ [("ValueError" : String)].all (glob.ik p.1) = true ∧ under p.1 ["HouseError"] = true ∧ under p.1 ["ValueError"] = true
  | 0, _, h | 1, _, h | 2, _, h | 3, _, h | 4, _, h | 5, _, h | 6, _, h | 7, _, h | 8, _, h | 9, _, h | 10, _, h | 11, _, h => by
    cases h
    exact ⟨by kernel_rfl, by kernel_rfl, by kernel_rfl, by kernel_rfl, by kernel_rfl⟩
  | _ + 12, _, h => by simp [xs] at h
theorem s_of (n : Nat) (hp : List O) (m : Int) (w : List Nat) (i : Nat) (p : String × List I) (e : (xs m w)[i]? = some p) {Q : RQ} (h : Q (.ob (.lst [.int i])) [some (.im (eX p))] hp) : (runF prog glob (n + 1) "_law_of" [.im (eX p)] hp).wp Q := by
  rw [(of_k n hp m w i p e).1]
  exact h
theorem a0 (m : Int) (w : List Nat) : atN ((xs m w).map eX) 0 = some (.ex "BadText" [.str [97, 116], .int m]) := rfl
theorem a5 (m : Int) (w : List Nat) : atN ((xs m w).map eX) 5 = some (.ex "NoPaper" [.str [97, 116], .int m]) := rfl
theorem a9 (m : Int) (w : List Nat) : atN ((xs m w).map eX) 9 = some (.ex "TooMany" [.str [109, 111, 115, 116], .int m]) := rfl
theorem a1 (m : Int) (w : List Nat) : atN ((xs m w).map eX) 1 = some (.ex "Left" [.str [119, 111, 114, 100], .str w]) := rfl
theorem a4 (m : Int) (w : List Nat) : atN ((xs m w).map eX) 4 = some (.ex "NoName" [.str [119, 111, 114, 100], .str w]) := rfl
theorem a6 (m : Int) (w : List Nat) : atN ((xs m w).map eX) 6 = some (.ex "NoSplit" [.str [119, 111, 114, 100], .str w]) := rfl
theorem a8 (m : Int) (w : List Nat) : atN ((xs m w).map eX) 8 = some (.ex "NotHeld" [.str [119, 111, 114, 100], .str w]) := rfl
theorem a10 (m : Int) (w : List Nat) : atN ((xs m w).map eX) 10 = some (.ex "Twice" [.str [119, 111, 114, 100], .str w]) := rfl
theorem a11 (m : Int) (w : List Nat) : atN ((xs m w).map eX) 11 = some (.ex "WrongShelf" [.str [119, 111, 114, 100], .str w]) := rfl
theorem mul3 (m : Int) (s : S) : binop .mul (.tmp (.lst [.int m])) (.val (.int 3)) s = .ok (.tmp (.lst [.int m, .int m, .int m])) s := rfl
theorem mul6 (w : List Nat) (s : S) : binop .mul (.tmp (.lst [.str w])) (.val (.int 6)) s = .ok (.tmp (.lst [.str w, .str w, .str w, .str w, .str w, .str w])) s := rfl
theorem law_true (ns : List Int) (hl : ns.length ≤ 63) : ∃ as hp, runF prog glob 40 "law" [.im (.xl (ns.map .int))] [] = .ok (.im (.bl true)) as hp := by
  refine of_wp ?_
  refine wp_runF rfl rfl ?_
  simp! only [f_law]
  refine s_feed 38 ns 0 (by omega) [] fun f hf => ?_
  simp! only []
  refine s_next 38 f hf 1200 (by omega) _ fun m f1 m0 m1 hf1 => ?_
  simp! only []
  refine s_word 36 f1 hf1 _ fun w f2 hw hf2 => ?_
  simp! only []
  refine ⟨by kernel_rfl, by kernel_rfl, by kernel_rfl, by kernel_rfl, by kernel_rfl, by kernel_rfl, by kernel_rfl, by kernel_rfl, by kernel_rfl, by kernel_rfl, by kernel_rfl, by kernel_rfl, ?_⟩
  refine wp_forEn0 eX (xs m w) (fun _ s => ∃ a b, s = ⟨[some (.im (.xl (ns.map .int))), some (.ob (.lst f2)), some (.im (.int m)), some (.im (.str w)), some (.ob (.lst ((xs m w).map eX))), a, b, none, none], []⟩) ?_ ?_ ?_ _ ⟨_, _, rfl⟩
  · rintro i s ⟨a, b, rfl⟩
    simp only [Src.good, S.g, List.getD_cons_succ, List.getD_cons_zero]
    exact CP.sameL_refl _
  · rintro i p s hi ⟨a, b, rfl⟩
    obtain ⟨_, g1, g2, g3, g4⟩ := of_k 38 [] m w i p hi
    simp! only []
    refine s_of 38 [] m w i p hi ?_
    simp! only [eX, g1, g2, g3, g4]
    refine ⟨rfl, ?_⟩
    have e : eqI (.fl [.int (i : Int)]) (.fl [.int (i : Int)]) = true := by simp [eqI, eqL]
    rw [e, if_neg (by decide)]
    exact ⟨_, _, rfl⟩
  · rintro s ⟨a, b, rfl⟩
    simp! only [a0 m w, a5 m w, a9 m w, a1 m w, a4 m w, a6 m w, a8 m w, a10 m w, a11 m w]
    refine ⟨⟨by kernel_rfl, by simp⟩, ⟨by kernel_rfl, by simp⟩, ⟨by kernel_rfl, by simp⟩, ⟨by kernel_rfl, by simp⟩, ⟨by kernel_rfl, by simp⟩, ⟨by kernel_rfl, by simp⟩, ⟨by kernel_rfl, by simp⟩, ⟨by kernel_rfl, by simp⟩, ⟨by kernel_rfl, by simp⟩, ?_⟩
    have e3 : eqI (.fl [.int m, .int m, .int m]) (.fl [.int m, .int m, .int m]) = true := by simp [eqI, eqL]
    have e6 : eqI (.fl [.str w, .str w, .str w, .str w, .str w, .str w]) (.fl [.str w, .str w, .str w, .str w, .str w, .str w]) = true := by simp [eqI, eqL]
    simp! only [mul3, mul6, e3, e6]
    exact ⟨rfl, rfl⟩
end CHL
namespace CHL
open PySem PySem.Spec PyProof.Rows L2 CH
def topS (i : Nat) : Stmt := PySem.Challenge.pw_copiedhouse_k10_what_refusals_are.main.body.getD i (.Pass ⟨0, 0, 0, 0⟩)
theorem k_law_feed : dOk (topS 15) ["_law_script", "_law_k", "_law_number", "_law_own"] ["_law_script", "_law_k"] f_law_feed = true := by decide +kernel
def D_law_feed : He.DefD := ⟨("_law_feed", none), "_law_feed", "_law_feed", defArgs (topS 15), defBody (topS 15), defScope (topS 15), [], []⟩
theorem k_law_next : dOk (topS 16) ["_law_feed_here", "_law_many", "_law_digit", "_law_number", "_law_one_here", "_law_two"] ["_law_feed_here", "_law_many"] f_law_next = true := by decide +kernel
def D_law_next : He.DefD := ⟨("_law_next", none), "_law_next", "_law_next", defArgs (topS 16), defBody (topS 16), defScope (topS 16), [], []⟩
theorem k_law_one : dOk (topS 17) ["_law_feed_here", "_law_some"] ["_law_feed_here", "_law_some"] f_law_one = true := by decide +kernel
def D_law_one : He.DefD := ⟨("_law_one", none), "_law_one", "_law_one", defArgs (topS 17), defBody (topS 17), defScope (topS 17), [], []⟩
theorem k_law_word : dOk (topS 18) ["_law_feed_here", "_law_some", "_law_k"] ["_law_feed_here"] f_law_word = true := by decide +kernel
def D_law_word : He.DefD := ⟨("_law_word", none), "_law_word", "_law_word", defArgs (topS 18), defBody (topS 18), defScope (topS 18), [], []⟩
theorem k_law_of : dOk (topS 19) ["_law_e", "_law_found", "_law_k"] ["_law_e"] f_law_of = true := by decide +kernel
def D_law_of : He.DefD := ⟨("_law_of", none), "_law_of", "_law_of", defArgs (topS 19), defBody (topS 19), defScope (topS 19), [], []⟩
theorem k_law : dOk (topS 20) ["_law_script", "_law_feed_here", "_law_number", "_law_word_here", "_law_some", "_law_k", "_law_e", "_law_fields", "_law_words"] ["_law_script"] f_law = true := by decide +kernel
def D_law : He.DefD := ⟨("law", none), "law", "law", defArgs (topS 20), defBody (topS 20), defScope (topS 20), [], []⟩
def initS_BadText : Stmt := (clB (topS 2)).getD 0 (.Pass ⟨0, 0, 0, 0⟩)
theorem kI_BadText : iOk1 initS_BadText ["self", "at"] "HouseError" (mkS [97, 116]) = true := by decide +kernel
def DI_BadText : He.DefD := ⟨("BadText", some "__init__"), "__init__", "BadText.__init__", defArgs initS_BadText, defBody initS_BadText, defScope initS_BadText, [], []⟩
def initS_Twice : Stmt := (clB (topS 3)).getD 0 (.Pass ⟨0, 0, 0, 0⟩)
theorem kI_Twice : iOk1 initS_Twice ["self", "word"] "HouseError" (mkS [119, 111, 114, 100]) = true := by decide +kernel
def DI_Twice : He.DefD := ⟨("Twice", some "__init__"), "__init__", "Twice.__init__", defArgs initS_Twice, defBody initS_Twice, defScope initS_Twice, [], []⟩
def initS_NoHand : Stmt := (clB (topS 4)).getD 0 (.Pass ⟨0, 0, 0, 0⟩)
theorem kI_NoHand : iOk0 initS_NoHand ["self"] "HouseError" = true := by decide +kernel
def DI_NoHand : He.DefD := ⟨("NoHand", some "__init__"), "__init__", "NoHand.__init__", defArgs initS_NoHand, defBody initS_NoHand, defScope initS_NoHand, [], []⟩
def initS_NoName : Stmt := (clB (topS 5)).getD 0 (.Pass ⟨0, 0, 0, 0⟩)
theorem kI_NoName : iOk1 initS_NoName ["self", "word"] "HouseError" (mkS [119, 111, 114, 100]) = true := by decide +kernel
def DI_NoName : He.DefD := ⟨("NoName", some "__init__"), "__init__", "NoName.__init__", defArgs initS_NoName, defBody initS_NoName, defScope initS_NoName, [], []⟩
def initS_WrongShelf : Stmt := (clB (topS 6)).getD 0 (.Pass ⟨0, 0, 0, 0⟩)
theorem kI_WrongShelf : iOk1 initS_WrongShelf ["self", "word"] "HouseError" (mkS [119, 111, 114, 100]) = true := by decide +kernel
def DI_WrongShelf : He.DefD := ⟨("WrongShelf", some "__init__"), "__init__", "WrongShelf.__init__", defArgs initS_WrongShelf, defBody initS_WrongShelf, defScope initS_WrongShelf, [], []⟩
def initS_NoSplit : Stmt := (clB (topS 7)).getD 0 (.Pass ⟨0, 0, 0, 0⟩)
theorem kI_NoSplit : iOk1 initS_NoSplit ["self", "word"] "HouseError" (mkS [119, 111, 114, 100]) = true := by decide +kernel
def DI_NoSplit : He.DefD := ⟨("NoSplit", some "__init__"), "__init__", "NoSplit.__init__", defArgs initS_NoSplit, defBody initS_NoSplit, defScope initS_NoSplit, [], []⟩
def initS_NotHeld : Stmt := (clB (topS 8)).getD 0 (.Pass ⟨0, 0, 0, 0⟩)
theorem kI_NotHeld : iOk1 initS_NotHeld ["self", "word"] "HouseError" (mkS [119, 111, 114, 100]) = true := by decide +kernel
def DI_NotHeld : He.DefD := ⟨("NotHeld", some "__init__"), "__init__", "NotHeld.__init__", defArgs initS_NotHeld, defBody initS_NotHeld, defScope initS_NotHeld, [], []⟩
def initS_Left : Stmt := (clB (topS 9)).getD 0 (.Pass ⟨0, 0, 0, 0⟩)
theorem kI_Left : iOk1 initS_Left ["self", "word"] "HouseError" (mkS [119, 111, 114, 100]) = true := by decide +kernel
def DI_Left : He.DefD := ⟨("Left", some "__init__"), "__init__", "Left.__init__", defArgs initS_Left, defBody initS_Left, defScope initS_Left, [], []⟩
def initS_NoPaper : Stmt := (clB (topS 10)).getD 0 (.Pass ⟨0, 0, 0, 0⟩)
theorem kI_NoPaper : iOk1 initS_NoPaper ["self", "at"] "HouseError" (mkS [97, 116]) = true := by decide +kernel
def DI_NoPaper : He.DefD := ⟨("NoPaper", some "__init__"), "__init__", "NoPaper.__init__", defArgs initS_NoPaper, defBody initS_NoPaper, defScope initS_NoPaper, [], []⟩
def initS_TooMany : Stmt := (clB (topS 11)).getD 0 (.Pass ⟨0, 0, 0, 0⟩)
theorem kI_TooMany : iOk1 initS_TooMany ["self", "most"] "HouseError" (mkS [109, 111, 115, 116]) = true := by decide +kernel
def DI_TooMany : He.DefD := ⟨("TooMany", some "__init__"), "__init__", "TooMany.__init__", defArgs initS_TooMany, defBody initS_TooMany, defScope initS_TooMany, [], []⟩
def initS_NoTurn : Stmt := (clB (topS 12)).getD 0 (.Pass ⟨0, 0, 0, 0⟩)
theorem kI_NoTurn : iOk0 initS_NoTurn ["self"] "HouseError" = true := by decide +kernel
def DI_NoTurn : He.DefD := ⟨("NoTurn", some "__init__"), "__init__", "NoTurn.__init__", defArgs initS_NoTurn, defBody initS_NoTurn, defScope initS_NoTurn, [], []⟩
def initS_NoAsk : Stmt := (clB (topS 13)).getD 0 (.Pass ⟨0, 0, 0, 0⟩)
theorem kI_NoAsk : iOk0 initS_NoAsk ["self"] "HouseError" = true := by decide +kernel
def DI_NoAsk : He.DefD := ⟨("NoAsk", some "__init__"), "__init__", "NoAsk.__init__", defArgs initS_NoAsk, defBody initS_NoAsk, defScope initS_NoAsk, [], []⟩
def fns : List He.DefD := [D_law_feed, D_law_next, D_law_one, D_law_word, D_law_of, D_law, DI_BadText, DI_Twice, DI_NoHand, DI_NoName, DI_WrongShelf, DI_NoSplit, DI_NotHeld, DI_Left, DI_NoPaper, DI_TooMany, DI_NoTurn, DI_NoAsk]
def fas : List He.Fa := [.glo "_law_feed", .glo "_law_next", .glo "_law_one", .glo "_law_word", .glo "_law_of", .glo "law", .free "len", .free "int", .free "tuple", .free "list", .free "dict", .free "range", .free "isinstance", .free "enumerate", .free "sorted", .free "all", .free "any", .free "min", .free "max", .free "abs", .free "reversed", .free "sum", .free "set", .free "zip", .free "str", .free "bool", .free "ValueError", .glo "HouseError", .glo "BadText", .meth "BadText" "__init__", .noat "BadText" (mkS [97, 116]), .glo "Twice", .meth "Twice" "__init__", .noat "Twice" (mkS [119, 111, 114, 100]), .glo "NoHand", .meth "NoHand" "__init__", .glo "NoName", .meth "NoName" "__init__", .noat "NoName" (mkS [119, 111, 114, 100]), .glo "WrongShelf", .meth "WrongShelf" "__init__", .noat "WrongShelf" (mkS [119, 111, 114, 100]), .glo "NoSplit", .meth "NoSplit" "__init__", .noat "NoSplit" (mkS [119, 111, 114, 100]), .glo "NotHeld", .meth "NotHeld" "__init__", .noat "NotHeld" (mkS [119, 111, 114, 100]), .glo "Left", .meth "Left" "__init__", .noat "Left" (mkS [119, 111, 114, 100]), .glo "NoPaper", .meth "NoPaper" "__init__", .noat "NoPaper" (mkS [97, 116]), .glo "TooMany", .meth "TooMany" "__init__", .noat "TooMany" (mkS [109, 111, 115, 116]), .glo "NoTurn", .meth "NoTurn" "__init__", .glo "NoAsk", .meth "NoAsk" "__init__"]
def names : List PySem.Str := (["_law_feed", "_law_next", "_law_one", "_law_word", "_law_of", "HouseError", "BadText", "Twice", "NoHand", "NoName", "WrongShelf", "NoSplit", "NotHeld", "Left", "NoPaper", "TooMany", "NoTurn", "NoAsk"] : List PySem.Str)
abbrev R : PySem.W.OpenRow := PySem.W.OpenLaw.row PySem.Challenge.rw_copiedhouse_k10_what_refusals_are
abbrev hk : PySem.W.Hook := hookX 4 (exB (["BadText", "Twice", "NoHand", "NoName", "WrongShelf", "NoSplit", "NotHeld", "Left", "NoPaper", "TooMany", "NoTurn", "NoAsk"] : List String) ikL (["HouseError"] : List String)) fas fns
def ob (s : PySem.W.SharedT) : He.AlD := obsXG 4 (exB (["BadText", "Twice", "NoHand", "NoName", "WrongShelf", "NoSplit", "NotHeld", "Left", "NoPaper", "TooMany", "NoTurn", "NoAsk"] : List String) ikL (["HouseError"] : List String)) fas fns (HandSHeadRun.getT s)
theorem ob_eq (s : PySem.W.SharedT) : ob s = hk.obs s.abs := obsXG_eq (HandSHeadRun.getT_eq s)
theorem run (w : World) : HandSHeadRun.RunEq R (PySem.W.view R.prog [20]) hk ob 4000 names w := by
  intro os
  kernel_rfl
theorem facts {P : Program} {w : World} {K : PySem.W.Frag} {h : Heap} {mg : Str → Option Value} {f : Addr} (X : K.In h) (G : h.Ns mainGlobals mg) (hfa : mg ("law" : Str) = some (.ref f)) (c : obsX (exB (["BadText", "Twice", "NoHand", "NoName", "WrongShelf", "NoSplit", "NotHeld", "Left", "NoPaper", "TooMany", "NoTurn", "NoAsk"] : List String) ikL (["HouseError"] : List String)) fas fns K = He.valD fns) :
    ∃ fd : FuncData, (∀ (s : Shared) (v : Value), BindsTo s fd ⟨[v], []⟩ [("_law_script", v)]) ∧ ∀ base : Heap, K.In base → base.Ns mainGlobals mg → FnOk P w K mg base CX0 82 f fd ["_law_script"] (fun vs H Q _ => spOf K (runF prog glob 40) "law" vs H Q fun _ _ _ => False) := by
  obtain ⟨cx, c⟩ := saysX c
  obtain ⟨x1, x2, _⟩ := exB_ok cx
  obtain ⟨fd_law_feed, F_law_feed⟩ := c.def_ 0 (d := D_law_feed) rfl
  have B_law_feed := FunD.bindsN (ps := ["_law_script", "_law_k"]) F_law_feed fun _ _ _ _ _ _ us hl => match us, hl with | [_, _], _ => rfl
  have A_law_feed := dOk_ok (f := "_law_feed") k_law_feed F_law_feed (fun _ => He.glo_ok X G (c.fact 0 (f := .glo "_law_feed") rfl)) B_law_feed (gl := glob) (fun _ _ e => by cases (show (none : Option (String × String)) = some _ from e))
  obtain ⟨fd_law_next, F_law_next⟩ := c.def_ 1 (d := D_law_next) rfl
  have B_law_next := FunD.bindsN (ps := ["_law_feed_here", "_law_many"]) F_law_next fun _ _ _ _ _ _ us hl => match us, hl with | [_, _], _ => rfl
  have A_law_next := dOk_ok (f := "_law_next") k_law_next F_law_next (fun _ => He.glo_ok X G (c.fact 1 (f := .glo "_law_next") rfl)) B_law_next (gl := glob) (fun _ _ e => by cases (show (none : Option (String × String)) = some _ from e))
  obtain ⟨fd_law_one, F_law_one⟩ := c.def_ 2 (d := D_law_one) rfl
  have B_law_one := FunD.bindsN (ps := ["_law_feed_here", "_law_some"]) F_law_one fun _ _ _ _ _ _ us hl => match us, hl with | [_, _], _ => rfl
  have A_law_one := dOk_ok (f := "_law_one") k_law_one F_law_one (fun _ => He.glo_ok X G (c.fact 2 (f := .glo "_law_one") rfl)) B_law_one (gl := glob) (fun _ _ e => by cases (show (none : Option (String × String)) = some _ from e))
  obtain ⟨fd_law_word, F_law_word⟩ := c.def_ 3 (d := D_law_word) rfl
  have B_law_word := FunD.bindsN (ps := ["_law_feed_here"]) F_law_word fun _ _ _ _ _ _ us hl => match us, hl with | [_], _ => rfl
  have A_law_word := dOk_ok (f := "_law_word") k_law_word F_law_word (fun _ => He.glo_ok X G (c.fact 3 (f := .glo "_law_word") rfl)) B_law_word (gl := glob) (fun _ _ e => by cases (show (none : Option (String × String)) = some _ from e))
  obtain ⟨fd_law_of, F_law_of⟩ := c.def_ 4 (d := D_law_of) rfl
  have B_law_of := FunD.bindsN (ps := ["_law_e"]) F_law_of fun _ _ _ _ _ _ us hl => match us, hl with | [_], _ => rfl
  have A_law_of := dOk_ok (f := "_law_of") k_law_of F_law_of (fun _ => He.glo_ok X G (c.fact 4 (f := .glo "_law_of") rfl)) B_law_of (gl := glob) (fun _ _ e => by cases (show (none : Option (String × String)) = some _ from e))
  obtain ⟨fd_law, F_law⟩ := c.def_ 5 (d := D_law) rfl
  have B_law := FunD.bindsN (ps := ["_law_script"]) F_law fun _ _ _ _ _ _ us hl => match us, hl with | [_], _ => rfl
  have A_law := dOk_ok (f := "law") k_law F_law (fun _ => He.glo_ok X G (c.fact 5 (f := .glo "law") rfl)) B_law (gl := glob) (fun _ _ e => by cases (show (none : Option (String × String)) = some _ from e))
  have e := hfa.symm.trans (He.glo_ok X G (c.fact 5 (f := .glo "law") rfl))
  cases e
  have hbl : ∀ x ∈ bnames, mg x = none := by
    intro x hx
    simp only [bnames, List.mem_cons, List.mem_nil_iff, or_false] at hx
    rcases hx with rfl | rfl | rfl | rfl | rfl | rfl | rfl | rfl | rfl | rfl | rfl | rfl | rfl | rfl | rfl | rfl | rfl | rfl | rfl | rfl
    · exact He.free_ok X G (c.fact 6 (f := .free "len") rfl)
    · exact He.free_ok X G (c.fact 7 (f := .free "int") rfl)
    · exact He.free_ok X G (c.fact 8 (f := .free "tuple") rfl)
    · exact He.free_ok X G (c.fact 9 (f := .free "list") rfl)
    · exact He.free_ok X G (c.fact 10 (f := .free "dict") rfl)
    · exact He.free_ok X G (c.fact 11 (f := .free "range") rfl)
    · exact He.free_ok X G (c.fact 12 (f := .free "isinstance") rfl)
    · exact He.free_ok X G (c.fact 13 (f := .free "enumerate") rfl)
    · exact He.free_ok X G (c.fact 14 (f := .free "sorted") rfl)
    · exact He.free_ok X G (c.fact 15 (f := .free "all") rfl)
    · exact He.free_ok X G (c.fact 16 (f := .free "any") rfl)
    · exact He.free_ok X G (c.fact 17 (f := .free "min") rfl)
    · exact He.free_ok X G (c.fact 18 (f := .free "max") rfl)
    · exact He.free_ok X G (c.fact 19 (f := .free "abs") rfl)
    · exact He.free_ok X G (c.fact 20 (f := .free "reversed") rfl)
    · exact He.free_ok X G (c.fact 21 (f := .free "sum") rfl)
    · exact He.free_ok X G (c.fact 22 (f := .free "set") rfl)
    · exact He.free_ok X G (c.fact 23 (f := .free "zip") rfl)
    · exact He.free_ok X G (c.fact 24 (f := .free "str") rfl)
    · exact He.free_ok X G (c.fact 25 (f := .free "bool") rfl)
  have hgl : ∀ (g : String) (i : CH.I), glob g = some i → ∃ u v, mg (Str.ofString g) = some u ∧ RelV v u ∧ ∀ H W ρ, Rp K H W ρ i v := by
    intro g i hg
    change globG g = _ at hg
    unfold globG at hg
    split at hg
    · cases hg
  have hnm : ∀ (f : String) (a : Nat), glob f = some (.fa a f) → isM f = false := by
    intro g a hg
    change globG g = _ at hg
    unfold globG at hg
    split at hg <;> first | (cases hg; done) | (cases hg; decide +kernel)
  have hfk : ∀ cl f, (glob).fk cl f = true → Cls K (He.ga K (Str.ofString cl)) ∧ NoAttr K (He.ga K (Str.ofString cl)) (Str.ofString f) := fun _ _ e => by cases (show false = true from e)
  obtain ⟨fdI_BadText, FI_BadText⟩ := c.def_ 6 (d := DI_BadText) rfl
  have BI_BadText := FunD.bindsN (ps := ["self", "at"]) FI_BadText fun _ _ _ _ _ _ us hl => match us, hl with | [_, _], _ => rfl
  obtain ⟨fdI_Twice, FI_Twice⟩ := c.def_ 7 (d := DI_Twice) rfl
  have BI_Twice := FunD.bindsN (ps := ["self", "word"]) FI_Twice fun _ _ _ _ _ _ us hl => match us, hl with | [_, _], _ => rfl
  obtain ⟨fdI_NoHand, FI_NoHand⟩ := c.def_ 8 (d := DI_NoHand) rfl
  have BI_NoHand := FunD.bindsN (ps := ["self"]) FI_NoHand fun _ _ _ _ _ _ us hl => match us, hl with | [_], _ => rfl
  obtain ⟨fdI_NoName, FI_NoName⟩ := c.def_ 9 (d := DI_NoName) rfl
  have BI_NoName := FunD.bindsN (ps := ["self", "word"]) FI_NoName fun _ _ _ _ _ _ us hl => match us, hl with | [_, _], _ => rfl
  obtain ⟨fdI_WrongShelf, FI_WrongShelf⟩ := c.def_ 10 (d := DI_WrongShelf) rfl
  have BI_WrongShelf := FunD.bindsN (ps := ["self", "word"]) FI_WrongShelf fun _ _ _ _ _ _ us hl => match us, hl with | [_, _], _ => rfl
  obtain ⟨fdI_NoSplit, FI_NoSplit⟩ := c.def_ 11 (d := DI_NoSplit) rfl
  have BI_NoSplit := FunD.bindsN (ps := ["self", "word"]) FI_NoSplit fun _ _ _ _ _ _ us hl => match us, hl with | [_, _], _ => rfl
  obtain ⟨fdI_NotHeld, FI_NotHeld⟩ := c.def_ 12 (d := DI_NotHeld) rfl
  have BI_NotHeld := FunD.bindsN (ps := ["self", "word"]) FI_NotHeld fun _ _ _ _ _ _ us hl => match us, hl with | [_, _], _ => rfl
  obtain ⟨fdI_Left, FI_Left⟩ := c.def_ 13 (d := DI_Left) rfl
  have BI_Left := FunD.bindsN (ps := ["self", "word"]) FI_Left fun _ _ _ _ _ _ us hl => match us, hl with | [_, _], _ => rfl
  obtain ⟨fdI_NoPaper, FI_NoPaper⟩ := c.def_ 14 (d := DI_NoPaper) rfl
  have BI_NoPaper := FunD.bindsN (ps := ["self", "at"]) FI_NoPaper fun _ _ _ _ _ _ us hl => match us, hl with | [_, _], _ => rfl
  obtain ⟨fdI_TooMany, FI_TooMany⟩ := c.def_ 15 (d := DI_TooMany) rfl
  have BI_TooMany := FunD.bindsN (ps := ["self", "most"]) FI_TooMany fun _ _ _ _ _ _ us hl => match us, hl with | [_, _], _ => rfl
  obtain ⟨fdI_NoTurn, FI_NoTurn⟩ := c.def_ 16 (d := DI_NoTurn) rfl
  have BI_NoTurn := FunD.bindsN (ps := ["self"]) FI_NoTurn fun _ _ _ _ _ _ us hl => match us, hl with | [_], _ => rfl
  obtain ⟨fdI_NoAsk, FI_NoAsk⟩ := c.def_ 17 (d := DI_NoAsk) rfl
  have BI_NoAsk := FunD.bindsN (ps := ["self"]) FI_NoAsk fun _ _ _ _ _ _ us hl => match us, hl with | [_], _ => rfl
  have hcl : ∀ c ∈ (["BadText", "Twice", "NoHand", "NoName", "WrongShelf", "NoSplit", "NotHeld", "Left", "NoPaper", "TooMany", "NoTurn", "NoAsk"] : List String) ++ (["HouseError"] : List String), mg (Str.ofString c) = some (clsA K c) := by
    intro c0 hc0
    simp only [List.cons_append, List.nil_append, List.mem_cons, List.mem_nil_iff, or_false] at hc0
    rcases hc0 with rfl | rfl | rfl | rfl | rfl | rfl | rfl | rfl | rfl | rfl | rfl | rfl | rfl
    · exact He.glo_ok X G (c.fact 28 (f := .glo "BadText") rfl)
    · exact He.glo_ok X G (c.fact 31 (f := .glo "Twice") rfl)
    · exact He.glo_ok X G (c.fact 34 (f := .glo "NoHand") rfl)
    · exact He.glo_ok X G (c.fact 36 (f := .glo "NoName") rfl)
    · exact He.glo_ok X G (c.fact 39 (f := .glo "WrongShelf") rfl)
    · exact He.glo_ok X G (c.fact 42 (f := .glo "NoSplit") rfl)
    · exact He.glo_ok X G (c.fact 45 (f := .glo "NotHeld") rfl)
    · exact He.glo_ok X G (c.fact 48 (f := .glo "Left") rfl)
    · exact He.glo_ok X G (c.fact 51 (f := .glo "NoPaper") rfl)
    · exact He.glo_ok X G (c.fact 54 (f := .glo "TooMany") rfl)
    · exact He.glo_ok X G (c.fact 57 (f := .glo "NoTurn") rfl)
    · exact He.glo_ok X G (c.fact 59 (f := .glo "NoAsk") rfl)
    · exact He.glo_ok X G (c.fact 27 (f := .glo "HouseError") rfl)
  have hik : ∀ cl d, (glob).ik cl d = true → IkOk K mg cl d := iks_ok cx (by decide +kernel) hcl (He.free_ok X G (c.fact 26 (f := .free "ValueError") rfl)) (by decide +kernel)
  have hxk : ∀ (base : Heap) cl f, (glob).xk cl f = true → XkAt P w K mg base (He.ga K (Str.ofString cl)) f ∧ mg (Str.ofString cl) = some (clsA K cl) := by
    intro base cl f e
    have e : (cl, f) ∈ xkL := List.contains_iff_mem.mp e
    simp only [xkL, List.mem_cons, List.mem_nil_iff, or_false, Prod.mk.injEq] at e
    rcases e with ⟨rfl, rfl⟩ | ⟨rfl, rfl⟩ | ⟨rfl, rfl⟩ | ⟨rfl, rfl⟩ | ⟨rfl, rfl⟩ | ⟨rfl, rfl⟩ | ⟨rfl, rfl⟩ | ⟨rfl, rfl⟩ | ⟨rfl, rfl⟩ | ⟨rfl, rfl⟩ | ⟨rfl, rfl⟩ | ⟨rfl, rfl⟩
    · exact ⟨xk1_ok kI_BadText (by simp) (x1 "BadText" (by simp)) (He.glo_ok X G (c.fact 27 (f := .glo "HouseError") rfl)) (x2 "HouseError" (by simp)) (He.meth_ok (c.fact 29 (f := .meth "BadText" "__init__") rfl)) (He.noat_ok (c.fact 30 (f := .noat "BadText" (mkS [97, 116])) rfl)) FI_BadText BI_BadText, He.glo_ok X G (c.fact 28 (f := .glo "BadText") rfl)⟩
    · exact ⟨xk1_ok kI_Twice (by simp) (x1 "Twice" (by simp)) (He.glo_ok X G (c.fact 27 (f := .glo "HouseError") rfl)) (x2 "HouseError" (by simp)) (He.meth_ok (c.fact 32 (f := .meth "Twice" "__init__") rfl)) (He.noat_ok (c.fact 33 (f := .noat "Twice" (mkS [119, 111, 114, 100])) rfl)) FI_Twice BI_Twice, He.glo_ok X G (c.fact 31 (f := .glo "Twice") rfl)⟩
    · exact ⟨xk0_ok kI_NoHand (x1 "NoHand" (by simp)) (He.glo_ok X G (c.fact 27 (f := .glo "HouseError") rfl)) (x2 "HouseError" (by simp)) (He.meth_ok (c.fact 35 (f := .meth "NoHand" "__init__") rfl)) FI_NoHand BI_NoHand, He.glo_ok X G (c.fact 34 (f := .glo "NoHand") rfl)⟩
    · exact ⟨xk1_ok kI_NoName (by simp) (x1 "NoName" (by simp)) (He.glo_ok X G (c.fact 27 (f := .glo "HouseError") rfl)) (x2 "HouseError" (by simp)) (He.meth_ok (c.fact 37 (f := .meth "NoName" "__init__") rfl)) (He.noat_ok (c.fact 38 (f := .noat "NoName" (mkS [119, 111, 114, 100])) rfl)) FI_NoName BI_NoName, He.glo_ok X G (c.fact 36 (f := .glo "NoName") rfl)⟩
    · exact ⟨xk1_ok kI_WrongShelf (by simp) (x1 "WrongShelf" (by simp)) (He.glo_ok X G (c.fact 27 (f := .glo "HouseError") rfl)) (x2 "HouseError" (by simp)) (He.meth_ok (c.fact 40 (f := .meth "WrongShelf" "__init__") rfl)) (He.noat_ok (c.fact 41 (f := .noat "WrongShelf" (mkS [119, 111, 114, 100])) rfl)) FI_WrongShelf BI_WrongShelf, He.glo_ok X G (c.fact 39 (f := .glo "WrongShelf") rfl)⟩
    · exact ⟨xk1_ok kI_NoSplit (by simp) (x1 "NoSplit" (by simp)) (He.glo_ok X G (c.fact 27 (f := .glo "HouseError") rfl)) (x2 "HouseError" (by simp)) (He.meth_ok (c.fact 43 (f := .meth "NoSplit" "__init__") rfl)) (He.noat_ok (c.fact 44 (f := .noat "NoSplit" (mkS [119, 111, 114, 100])) rfl)) FI_NoSplit BI_NoSplit, He.glo_ok X G (c.fact 42 (f := .glo "NoSplit") rfl)⟩
    · exact ⟨xk1_ok kI_NotHeld (by simp) (x1 "NotHeld" (by simp)) (He.glo_ok X G (c.fact 27 (f := .glo "HouseError") rfl)) (x2 "HouseError" (by simp)) (He.meth_ok (c.fact 46 (f := .meth "NotHeld" "__init__") rfl)) (He.noat_ok (c.fact 47 (f := .noat "NotHeld" (mkS [119, 111, 114, 100])) rfl)) FI_NotHeld BI_NotHeld, He.glo_ok X G (c.fact 45 (f := .glo "NotHeld") rfl)⟩
    · exact ⟨xk1_ok kI_Left (by simp) (x1 "Left" (by simp)) (He.glo_ok X G (c.fact 27 (f := .glo "HouseError") rfl)) (x2 "HouseError" (by simp)) (He.meth_ok (c.fact 49 (f := .meth "Left" "__init__") rfl)) (He.noat_ok (c.fact 50 (f := .noat "Left" (mkS [119, 111, 114, 100])) rfl)) FI_Left BI_Left, He.glo_ok X G (c.fact 48 (f := .glo "Left") rfl)⟩
    · exact ⟨xk1_ok kI_NoPaper (by simp) (x1 "NoPaper" (by simp)) (He.glo_ok X G (c.fact 27 (f := .glo "HouseError") rfl)) (x2 "HouseError" (by simp)) (He.meth_ok (c.fact 52 (f := .meth "NoPaper" "__init__") rfl)) (He.noat_ok (c.fact 53 (f := .noat "NoPaper" (mkS [97, 116])) rfl)) FI_NoPaper BI_NoPaper, He.glo_ok X G (c.fact 51 (f := .glo "NoPaper") rfl)⟩
    · exact ⟨xk1_ok kI_TooMany (by simp) (x1 "TooMany" (by simp)) (He.glo_ok X G (c.fact 27 (f := .glo "HouseError") rfl)) (x2 "HouseError" (by simp)) (He.meth_ok (c.fact 55 (f := .meth "TooMany" "__init__") rfl)) (He.noat_ok (c.fact 56 (f := .noat "TooMany" (mkS [109, 111, 115, 116])) rfl)) FI_TooMany BI_TooMany, He.glo_ok X G (c.fact 54 (f := .glo "TooMany") rfl)⟩
    · exact ⟨xk0_ok kI_NoTurn (x1 "NoTurn" (by simp)) (He.glo_ok X G (c.fact 27 (f := .glo "HouseError") rfl)) (x2 "HouseError" (by simp)) (He.meth_ok (c.fact 58 (f := .meth "NoTurn" "__init__") rfl)) FI_NoTurn BI_NoTurn, He.glo_ok X G (c.fact 57 (f := .glo "NoTurn") rfl)⟩
    · exact ⟨xk0_ok kI_NoAsk (x1 "NoAsk" (by simp)) (He.glo_ok X G (c.fact 27 (f := .glo "HouseError") rfl)) (x2 "HouseError" (by simp)) (He.meth_ok (c.fact 60 (f := .meth "NoAsk" "__init__") rfl)) FI_NoAsk BI_NoAsk, He.glo_ok X G (c.fact 59 (f := .glo "NoAsk") rfl)⟩
  have hd : ∀ f fn, prog f = some fn → ∃ a fd st N ps nm qn, DefOk glob K mg f fn a fd st N ps nm qn := by
    intro f fn hf
    unfold prog at hf
    split at hf
    · cases hf; exact ⟨_, _, _, _, _, _, _, A_law_feed⟩
    · cases hf; exact ⟨_, _, _, _, _, _, _, A_law_next⟩
    · cases hf; exact ⟨_, _, _, _, _, _, _, A_law_one⟩
    · cases hf; exact ⟨_, _, _, _, _, _, _, A_law_word⟩
    · cases hf; exact ⟨_, _, _, _, _, _, _, A_law_of⟩
    · cases hf; exact ⟨_, _, _, _, _, _, _, A_law⟩
    · cases hf
  exact ⟨fd_law, fun s v => (FunD.bindsA (ps := ["_law_script"]) F_law fun _ _ _ _ _ _ us hl => match us, hl with | [_], _ => rfl) s [v] rfl, fun base _ _ => fn_calm (fn_all hbl hgl hnm hfk (hxk base) hik hd 40 "law" f_law rfl _ _ _ _ _ _ _ A_law)⟩
end CHL
open PySem PySem.W PySem.Calls PyProof.Rows
set_option maxRecDepth 100000 in
set_option maxHeartbeats 0 in
theorem PySem.Challenge.cw_copiedhouse_k10_what_refusals_are_holds : PySem.Challenge.rw_copiedhouse_k10_what_refusals_are.Holds := by
  w_on; o_law
  refine HandSHeadRun.head_any (r := OpenLaw.row PySem.Challenge.rw_copiedhouse_k10_what_refusals_are) (q := view (OpenLaw.row PySem.Challenge.rw_copiedhouse_k10_what_refusals_are).prog [20]) (H := CHL.hk) (ob := CHL.ob) (M := 4000) (loose := CHL.names) (d := HandSHeadRun.topDef (OpenLaw.row PySem.Challenge.rw_copiedhouse_k10_what_refusals_are).prog 20) (kwd := []) CHL.ob_eq
    (by kernel_rfl) (fun s => by kernel_rfl) CHL.run (by kernel_rfl) (by kernel_rfl) (by kernel_rfl) (by rfl) (by first | assumption | decide +kernel) (by decide +kernel) ⟨rfl, rfl, rfl, rfl, rfl, by decide +kernel⟩ ?hw ?hc
  case hw => w_witness2
  case hc =>
    refine L2.walk_ofE (l := PySem.Challenge.rw_copiedhouse_k10_what_refusals_are) (n := 63) (k := 82) (x := "_law_script") (CX := L2.CX0) rfl (by decide) (by kernel_rfl) ⟨rfl, by decide, by decide⟩ ?F (fun _ _ _ _ z => z)
    intro w mg fa h Y G hmg0
    obtain ⟨K, KX, c⟩ := Y
    have hmg : mg ("law" : PySem.Str) = some (.ref fa) := by
      have e : (HandSHeadRun.topDef (OpenLaw.row PySem.Challenge.rw_copiedhouse_k10_what_refusals_are).prog 20).name = ("law" : PySem.Str) := by kernel_rfl
      rw [← e]
      exact hmg0
    obtain ⟨fd, hb, hF⟩ := CHL.facts (P := (PySem.Challenge.rw_copiedhouse_k10_what_refusals_are).prog) (w := w) KX G hmg c
    refine ⟨K, fd, fun vs H Q _ => CH.spOf K (CH.runF CHL.prog CHL.glob 40) "law" vs H Q fun _ _ _ => False, KX, hb, fun H a ns hl hO hS => ?_, hF⟩
    obtain ⟨as, hp, e⟩ := CHL.law_true ns hl
    exact CH.law_sp e hO hS _
