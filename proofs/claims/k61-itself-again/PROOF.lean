import PyProof.Rows.All
import Wide.All
import OpenK.AllK
import Wide.FinOn
import HandS.ForMost
import HandS.ForExc
import HandS.Deep
import HandS.Lambda
import HandS.Style
import HandS.TupAny
import HandS.IsInst
import HandS.Conv
import HandS.TupLen
import HandS.EndTab
import HandS.RevTup
import KE.DataFind
import HandS.ExcOwn
import HandS.ExcIs
import HandS.TryOnly
import HandS.Zip
import KE.KDictPairs
import HandS.TupSets
import HandS.SortRule
import KE.SortCalls
import KE.SortKeyHeap
import HandS.More
import KE.DataMinMax
import KE.GoesEnum
import PySem.Challenge.RW_treewatch_k61_whole_itself_again
set_option Elab.async false
set_option linter.all false
set_option maxRecDepth 100000
set_option autoImplicit false
/-! Tw, the pure part: data, results, slots, and one combinator for each construct of the Python that the texts use. No program in sight. -/
namespace Tw

/-- a text: its code points -/
abbrev Nm := List Nat
/-- a key of a dict -/
inductive Ky where
  | int (i : Int) | str (s : Nm) | tup (ks : List (Int ⊕ Nm))
  deriving DecidableEq
/-- a datum -/
inductive D where
  | non | bl (b : Bool) | int (i : Int) | str (s : Nm)
  | tup (xs : List D) | lst (xs : List D) | dct (t : Bool) (kvs : List (Ky × D)) | exc (c : Nat)
  /-- the list of ints that the law is given -/
  | inp (ns : List Int)
/-- what comes of a piece: a value, an error of the program's class c, or nothing that we speak of -/
inductive Res (α : Type) where
  | ok (a : α) | err (c : Nat) | stk

namespace Res
def bind {α β : Type} : Res α → (α → Res β) → Res β
  | .ok a, f => f a
  | .err c, _ => .err c
  | .stk, _ => .stk
@[simp] theorem bind_ok {α β : Type} (a : α) (f : α → Res β) : (Res.ok a).bind f = f a := (rfl)
@[simp] theorem bind_err {α β : Type} (c : Nat) (f : α → Res β) : (Res.err c : Res α).bind f = .err c := (rfl)
@[simp] theorem bind_stk {α β : Type} (f : α → Res β) : (Res.stk : Res α).bind f = .stk := (rfl)
def ofOpt {α : Type} : Option α → Res α
  | some a => .ok a
  | none => .stk
@[simp] theorem ofOpt_some {α : Type} (a : α) : ofOpt (some a) = .ok a := (rfl)
@[simp] theorem ofOpt_none {α : Type} : ofOpt (none : Option α) = .stk := (rfl)
end Res

/-- the longest list -/
def szl : Nat := 16777216

/-! ### equality -/
def eqvI : List Int → List D → Bool
  | [], [] => true
  | n :: ns, .int m :: ys => n == m && eqvI ns ys
  | n :: ns, .bl b :: ys => n == (if b then 1 else 0) && eqvI ns ys
  | _, _ => false
mutual
def D.eqv : D → D → Bool
  | .non, .non => true
  | .bl a, .bl b => a == b
  | .bl a, .int j => (if a then 1 else 0) == j
  | .int i, .bl b => i == (if b then 1 else 0)
  | .int i, .int j => i == j
  | .str x, .str y => x == y
  | .lst xs, .lst ys => D.eqvs xs ys
  | .tup xs, .tup ys => D.eqvs xs ys
  | .inp ns, .lst ys => eqvI ns ys
  | .lst xs, .inp ns => eqvI ns xs
  | .inp ns, .inp ms => ns == ms
  | _, _ => false
def D.eqvs : List D → List D → Bool
  | [], [] => true
  | x :: xs, y :: ys => D.eqv x y && D.eqvs xs ys
  | [], _ :: _ => false
  | _ :: _, [] => false
end
mutual
/-- plain data, at most n deep -/
def D.pl : Nat → D → Bool
  | _, .non => true
  | _, .bl _ => true
  | _, .int _ => true
  | _, .str s => s.all fun c => decide (c < 1114112)
  | n, .lst xs => match n with
    | 0 => false
    | n + 1 => D.pls n xs
  | n, .tup xs => match n with
    | 0 => false
    | n + 1 => D.pls n xs
  | n, .inp _ => match n with
    | 0 => false
    | _ + 1 => true
  | _, .dct _ _ => false
  | _, .exc _ => false
def D.pls : Nat → List D → Bool
  | _, [] => true
  | n, x :: xs => D.pl n x && D.pls n xs
end
/-- what may be compared -/
abbrev D.good (d : D) : Bool := D.pl 40 d

/-! ### order -/
/-- a datum as a row of ints, whose order is the order of data -/
def strT : Nm → List Int
  | [] => [0]
  | c :: s => ((c : Int) + 1) :: strT s
mutual
def D.toks : D → List Int
  | .non => [5]
  | .bl b => [6, if b then 1 else 0]
  | .int i => [6, i]
  | .str s => 7 :: strT s
  | .tup xs => 8 :: D.tokss xs
  | .lst xs => 9 :: D.tokss xs
  | _ => [10]
def D.tokss : List D → List Int
  | [] => [0]
  | x :: xs => 1 :: (D.toks x ++ D.tokss xs)
end
def lexI : List Int → List Int → Bool
  | [], [] => false
  | [], _ :: _ => true
  | _ :: _, [] => false
  | x :: xs, y :: ys => if x = y then lexI xs ys else decide (x < y)
def D.lt (x y : D) : Bool := lexI x.toks y.toks
def D.le (x y : D) : Bool := !(D.lt y x)
def sortD (xs : List D) : List D := xs.mergeSort D.le
mutual
/-- of one kind through and through: ints, texts, tuples of such -/
def D.alk : D → D → Bool
  | .int _, .int _ => true
  | .str _, .str _ => true
  | .tup xs, .tup ys => D.alks xs ys
  | _, _ => false
def D.alks : List D → List D → Bool
  | x :: xs, y :: ys => D.alk x y && D.alks xs ys
  | [], _ => true
  | _ :: _, [] => true
end
/-- where they first differ, they are alike -/
def D.cmps : List D → List D → Bool
  | x :: xs, y :: ys => if D.eqv x y then D.cmps xs ys else D.alk x y
  | [], _ => true
  | _ :: _, [] => true
mutual
/-- plain data without the script -/
def D.flat : Nat → D → Bool
  | _, .non => true
  | _, .bl _ => true
  | _, .int _ => true
  | _, .str s => s.all fun c => decide (c < 1114112)
  | n, .tup xs => match n with
    | 0 => false
    | n + 1 => D.flats n xs
  | _, _ => false
def D.flats : Nat → List D → Bool
  | _, [] => true
  | n, x :: xs => D.flat n x && D.flats n xs
end
/-- what kind of first item -/
def D.kind : D → Nat
  | .non => 0
  | .bl _ => 1
  | .int _ => 2
  | .str _ => 3
  | .tup _ => 4
  | _ => 5
def D.hd : D → Option Nat
  | .tup (x :: _) => some x.kind
  | _ => none
/-- can be sorted: ints, texts, or tuples with first items of one kind -/
def sortable (xs : List D) : Bool :=
  xs.all (D.flat 40) && ((xs.all fun x => x.kind == 2) || (xs.all fun x => x.kind == 3) ||
    ((xs.all fun x => x.hd.isSome && xs.all fun y => x.hd == y.hd) && xs.all fun x => xs.all fun y => match x, y with
      | .tup a, .tup b => D.cmps a b
      | _, _ => false))

/-! ### dicts -/
def kget (k : Ky) : List (Ky × D) → Option D
  | [] => none
  | (q, v) :: r => if q = k then some v else kget k r
def khas (k : Ky) (kvs : List (Ky × D)) : Bool := (kget k kvs).isSome
def kput (k : Ky) (v : D) (kvs : List (Ky × D)) : List (Ky × D) :=
  if khas k kvs then kvs.map fun p => if p.1 = k then (p.1, v) else p else kvs ++ [(k, v)]
def kdel (k : Ky) (kvs : List (Ky × D)) : List (Ky × D) := kvs.filter fun p => decide (p.1 ≠ k)
def leaf? : D → Option (Int ⊕ Nm)
  | .int i => some (.inl i)
  | .str s => some (.inr s)
  | _ => none
def leaves? : List D → Option (List (Int ⊕ Nm))
  | [] => some []
  | x :: xs => match leaf? x, leaves? xs with
    | some a, some r => some (a :: r)
    | _, _ => none
def D.key? : D → Option Ky
  | .int i => some (.int i)
  | .str s => some (.str s)
  | .tup xs => (leaves? xs).map Ky.tup
  | _ => none
def leafD : Int ⊕ Nm → D
  | .inl i => .int i
  | .inr s => .str s
def Ky.toD : Ky → D
  | .int i => .int i
  | .str s => .str s
  | .tup ks => .tup (ks.map leafD)
def Ky.isTup : Ky → Bool
  | .tup _ => true
  | _ => false
/-- x as a key of a dict of that kind (true: keys are tuples) -/
def D.kf (t : Bool) (x : D) : Option Ky := match x.key? with
  | some k => if k.isTup == t then some k else none
  | none => none

/-! ### places -/
def atI {α : Type} (xs : List α) (i : Int) : Option α :=
  if 0 ≤ i then xs[i.toNat]? else if -(xs.length : Int) ≤ i then xs[(i + xs.length).toNat]? else none
def clip (n : Nat) (i : Int) : Nat := if i < 0 then (i + n).toNat else min i.toNat n
def cutL {α : Type} (xs : List α) (lo hi : Option Int) : List α :=
  let a := match lo with
    | none => 0
    | some i => clip xs.length i
  let b := match hi with
    | none => xs.length
    | some i => clip xs.length i
  (xs.drop a).take (b - a)
def big (n : Nat) : Bool := decide (n ≤ szl)

/-! ### operators -/
def D.add : D → D → Res D
  | .int i, .int j => .ok (.int (i + j))
  | .str x, .str y => if x.length + y.length ≤ szl then .ok (.str (x ++ y)) else .stk
  | .lst x, .lst y => if x.length + y.length ≤ szl then .ok (.lst (x ++ y)) else .stk
  | .tup x, .tup y => if x.length + y.length ≤ szl then .ok (.tup (x ++ y)) else .stk
  | _, _ => .stk
def D.sub : D → D → Res D
  | .int i, .int j => .ok (.int (i - j))
  | _, _ => .stk
def smallI (i : Int) : Bool := decide (-(2 ^ 64) < i) && decide (i < 2 ^ 64)
def D.mul : D → D → Res D
  | .int i, .int j => if smallI i || smallI j then .ok (.int (i * j)) else .stk
  | .lst x, .int k => if decide (-(2 ^ 62) ≤ k) && decide (k < 2 ^ 62) && decide (x.length * k.toNat ≤ szl) then .ok (.lst (List.replicate k.toNat x).flatten) else .stk
  | _, _ => .stk
def D.fdiv : D → D → Res D
  | .int i, .int j => if decide (0 < j) && decide (j < 1073741824) then .ok (.int (i / j)) else .stk
  | _, _ => .stk
def D.mod : D → D → Res D
  | .int i, .int j => if 0 < j then .ok (.int (i % j)) else .stk
  | _, _ => .stk
def D.pow : D → D → Res D
  | .int i, .int j => if decide (0 ≤ j) && decide (j ≤ 100) && decide (i.natAbs < 2 ^ 64) then .ok (.int (i ^ j.toNat)) else .stk
  | _, _ => .stk
def D.neg : D → Res D
  | .int i => .ok (.int (-i))
  | _ => .stk
/-- comparisons -/
def D.eq (x y : D) : Res D := if x.good && y.good then .ok (.bl (D.eqv x y)) else .stk
def D.ne (x y : D) : Res D := if x.good && y.good then .ok (.bl (!D.eqv x y)) else .stk
def D.cmp (f : Int → Int → Bool) : D → D → Res D
  | .int i, .int j => .ok (.bl (f i j))
  | _, _ => .stk
def D.ltI : D → D → Res D := D.cmp fun i j => decide (i < j)
def D.leI : D → D → Res D := D.cmp fun i j => decide (i ≤ j)
def D.gtI : D → D → Res D := D.cmp fun i j => decide (j < i)
def D.geI : D → D → Res D := D.cmp fun i j => decide (j ≤ i)
def D.isNon : D → Bool
  | .non => true
  | _ => false
def D.isN (x : D) : Res D := .ok (.bl x.isNon)
def D.notN (x : D) : Res D := .ok (.bl (!x.isNon))
/-- x is True, x is False -/
def D.isB (b : Bool) : D → Res D
  | .bl a => .ok (.bl (a == b))
  | _ => .stk
def D.notB (b : Bool) : D → Res D
  | .bl a => .ok (.bl (!(a == b)))
  | _ => .stk
/-- x in c -/
def D.has : D → D → Option Bool
  | x, .lst ys => if x.good && D.pl 40 (.lst ys) then some (ys.any fun y => D.eqv y x) else none
  | x, .tup ys => if x.good && D.pl 40 (.tup ys) then some (ys.any fun y => D.eqv y x) else none
  | .str x, .str y => match x with
    | [c] => some (decide (c ∈ y))
    | _ => none
  | x, .dct t kvs => match x.kf t with
    | some k => some (khas k kvs)
    | none => none
  | _, _ => none
def D.isIn (x c : D) : Res D := (Res.ofOpt (D.has x c)).bind fun b => .ok (.bl b)
def D.notIn (x c : D) : Res D := (Res.ofOpt (D.has x c)).bind fun b => .ok (.bl (!b))
/-- c[x] -/
def D.idx : D → D → Res D
  | .inp xs, .int i => (Res.ofOpt (atI xs i)).bind fun j => .ok (.int j)
  | .lst xs, .int i => Res.ofOpt (atI xs i)
  | .tup xs, .int i => Res.ofOpt (atI xs i)
  | .str s, .int i => if s.length ≤ szl then (Res.ofOpt (atI s i)).bind fun c => .ok (.str [c]) else .stk
  | .dct t kvs, x => match x.kf t with
    | some k => Res.ofOpt (kget k kvs)
    | none => .stk
  | _, _ => .stk
def D.cut (a b : Option Int) : D → Res D
  | .lst xs => .ok (.lst (cutL xs a b))
  | .tup xs => .ok (.tup (cutL xs a b))
  | .str s => if s.length ≤ szl then .ok (.str (cutL s a b)) else .stk
  | _ => .stk
def D.revL : D → Res D
  | .lst xs => .ok (.lst xs.reverse)
  | _ => .stk
def D.revT : D → Res D
  | .tup xs => .ok (.tup xs.reverse)
  | _ => .stk
def D.rev : D → Res D
  | .lst xs => .ok (.lst xs.reverse)
  | .tup xs => .ok (.tup xs.reverse)
  | _ => .stk

/-! ### built-ins -/
def D.len : D → Res D
  | .inp xs => .ok (.int xs.length)
  | .lst xs => .ok (.int xs.length)
  | .tup xs => .ok (.int xs.length)
  | .str s => if s.length ≤ szl then .ok (.int s.length) else .stk
  | .dct _ kvs => .ok (.int kvs.length)
  | _ => .stk
def D.toLst : D → Res D
  | .lst xs => .ok (.lst xs)
  | .tup xs => .ok (.lst xs)
  | .dct _ kvs => .ok (.lst (kvs.map fun kv => kv.1.toD))
  | _ => .stk
def D.toTup : D → Res D
  | .lst xs => .ok (.tup xs)
  | .tup xs => .ok (.tup xs)
  | _ => .stk
def bools? : List D → Option (List Bool)
  | [] => some []
  | .bl b :: r => (bools? r).map (b :: ·)
  | _ :: _ => none
def ints? : List D → Option (List Int)
  | [] => some []
  | .int b :: r => (ints? r).map (b :: ·)
  | _ :: _ => none
def D.all : D → Res D
  | .lst xs => (Res.ofOpt (bools? xs)).bind fun bs => .ok (.bl (bs.all id))
  | _ => .stk
def D.any : D → Res D
  | .lst xs => (Res.ofOpt (bools? xs)).bind fun bs => .ok (.bl (bs.any id))
  | _ => .stk
def D.sum : D → Res D
  | .lst xs => (Res.ofOpt (ints? xs)).bind fun bs => .ok (.int bs.sum)
  | _ => .stk
def D.sorted : D → Res D
  | .lst xs => if sortable xs && decide (xs.length ≤ szl) then .ok (.lst (sortD xs)) else .stk
  | _ => .stk
/-- each one once -/
def nub {α : Type} [DecidableEq α] : List α → List α
  | [] => []
  | x :: r => if x ∈ nub r then nub r else x :: nub r
def insI (x : Int) : List Int → List Int
  | [] => [x]
  | y :: r => if x < y then x :: y :: r else if x = y then y :: r else y :: insI x r
/-- the members, ascending -/
def setI (l : List Int) : List Int := l.foldr insI []
/-- sorted(set(xs)), ints -/
def D.sortedSet : D → Res D
  | .lst xs => match ints? xs with
    | some is => if is.length < 64 then .ok (.lst ((setI is).map D.int)) else .stk
    | none => .stk
  | _ => .stk
def tups? : List D → Option (List (List (Int ⊕ Nm)))
  | [] => some []
  | .tup xs :: r => match leaves? xs, tups? r with
    | some a, some b => some (a :: b)
    | _, _ => none
  | _ :: _ => none
/-- len(set(xs)), tuples of ints and texts -/
def D.lenSet : D → Res D
  | .lst xs => match tups? xs with
    | some ks => if ks.length < 64 then .ok (.int (nub ks).length) else .stk
    | none => .stk
  | _ => .stk
def pair? : D → Option (Ky × D)
  | .tup [k, v] => k.key?.map fun q => (q, v)
  | _ => none
def pairs? : List D → Option (List (Ky × D))
  | [] => some []
  | x :: r => match pair? x, pairs? r with
    | some p, some ps => some (p :: ps)
    | _, _ => none
def kmerge (kvs more : List (Ky × D)) : List (Ky × D) := more.foldl (fun acc kv => kput kv.1 kv.2 acc) kvs
/-- dict(pairs), the keys ints and texts -/
def D.dictK : D → Res D
  | .lst xs => match pairs? xs with
    | some ps => if ps.all fun p => !p.1.isTup then .ok (.dct false (kmerge [] ps)) else .stk
    | none => .stk
  | _ => .stk
def D.get1 : D → D → Res D
  | .dct t kvs, k => match k.kf t with
    | some q => .ok ((kget q kvs).getD .non)
    | none => .stk
  | _, _ => .stk
def D.get2 : D → D → D → Res D
  | .dct t kvs, k, d => match k.kf t with
    | some q => .ok ((kget q kvs).getD d)
    | none => .stk
  | _, _, _ => .stk
inductive Ty where
  | int | bool | str | tup | lst | dict
  deriving DecidableEq
def D.isa (t : Ty) : D → Res D
  | .non => .ok (.bl false)
  | .bl _ => .ok (.bl (t == .bool || t == .int))
  | .int _ => .ok (.bl (t == .int))
  | .str _ => .ok (.bl (t == .str))
  | .tup _ => .ok (.bl (t == .tup))
  | .lst _ => .ok (.bl (t == .lst))
  | .inp _ => .stk
  | .dct _ _ => .stk
  | .exc _ => .stk
def D.asB : D → Res Bool
  | .bl b => .ok b
  | _ => .stk

/-! ### slots -/
inductive Slot where
  | un | sh (d : D) | own (d : D) | bor (d : D)
abbrev Env := List Slot
def D.box : D → Bool
  | .inp _ => true
  | .lst _ => true
  | .dct _ _ => true
  | _ => false
def Slot.lend : Slot → Slot
  | .own d => .bor d
  | s => s
def wipeE : Env → List Nat → Env
  | e, [] => e
  | e, i :: r => (wipeE e r).set i .un

/-! ### expressions -/
abbrev E := Env → Res D
abbrev T := Env → Res Bool
def eV (i : Nat) : E := fun e => match e[i]? with
  | some (.sh d) => .ok d
  | some (.bor d) => if d.box then .stk else .ok d
  | _ => .stk
def eB (i : Nat) : E := fun e => match e[i]? with
  | some (.sh d) => .ok d
  | some (.bor d) => .ok d
  | some (.own d) => .ok d
  | _ => .stk
def eC (d : D) : E := fun _ => .ok d
def e1 (f : D → Res D) (a : E) : E := fun e => (a e).bind f
def e2 (f : D → D → Res D) (a b : E) : E := fun e => (a e).bind fun x => (b e).bind fun y => f x y
def e3 (f : D → D → D → Res D) (a b c : E) : E := fun e => (a e).bind fun x => (b e).bind fun y => (c e).bind fun z => f x y z
def eL : List E → Env → Res (List D)
  | [], _ => .ok []
  | a :: r, e => (a e).bind fun x => (eL r e).bind fun xs => .ok (x :: xs)
def eTup (es : List E) : E := fun e => (eL es e).bind fun xs => .ok (.tup xs)
def eLst (es : List E) : E := fun e => (eL es e).bind fun xs => .ok (.lst xs)
def eCall (m : List D → Res D) (es : List E) : E := fun e => (eL es e).bind m
def D.asI : D → Res Int
  | .int i => .ok i
  | _ => .stk
def eP : Option E → Env → Res (Option Int)
  | none, _ => .ok none
  | some a, e => (a e).bind fun x => x.asI.bind fun i => .ok (some i)
def eSl (a : E) (lo hi : Option E) : E := fun e => (a e).bind fun x => (eP lo e).bind fun l => (eP hi e).bind fun h => D.cut l h x
def tE (a : E) : T := fun e => (a e).bind D.asB
def tAnd (a b : T) : T := fun e => (a e).bind fun x => if x then b e else .ok false
def tOr (a b : T) : T := fun e => (a e).bind fun x => if x then .ok true else b e
def tNot (a : T) : T := fun e => (a e).bind fun x => .ok (!x)
def tTrue : T := fun _ => .ok true
/-- a.get(b), a.get(b, c) -/
def eGet1 (a b : E) : E := fun e => (a e).bind fun x => match x with
  | .dct _ _ => (b e).bind fun y => D.get1 x y
  | _ => .stk
def eGet2 (a b c : E) : E := fun e => (a e).bind fun x => match x with
  | .dct _ _ => (b e).bind fun y => (c e).bind fun z => D.get2 x y z
  | _ => .stk
def eIf (c : T) (a b : E) : E := fun e => (c e).bind fun x => if x then a e else b e
def eAnd (a b : E) : E := fun e => (a e).bind fun x => x.asB.bind fun k => if k then b e else .ok (.bl false)
def eOr (a b : E) : E := fun e => (a e).bind fun x => x.asB.bind fun k => if k then .ok (.bl true) else b e
def eNot (a : E) : E := fun e => (a e).bind fun x => x.asB.bind fun k => .ok (.bl (!k))
/-- a f b g c -/
def eCh (f g : D → D → Res D) (a b c : E) : E := fun e => (a e).bind fun x => (b e).bind fun y => (f x y).bind fun z => z.asB.bind fun k => if k then (c e).bind fun u => g y u else .ok (.bl false)

/-! ### what a loop walks; targets -/
abbrev I := Env → Res (List D)
abbrev G := D → Env → Res Env
def D.items : D → Res (List D)
  | .inp xs => .ok (xs.map D.int)
  | .lst xs => .ok xs
  | .tup xs => .ok xs
  | .str s => .ok (s.map fun c => .str [c])
  | _ => .stk
def iE (a : E) : I := fun e => (a e).bind D.items
/-- the keys of a dict -/
def D.keys : D → Res (List D)
  | .dct _ kvs => .ok (kvs.map fun kv => kv.1.toD)
  | _ => .stk
def iK (a : E) : I := fun e => (a e).bind D.keys
def rangeL (lo : Int) (n : Nat) : List D := (List.range n).map fun (k : Nat) => D.int (lo + (k : Int))
def smallR (i : Int) : Bool := decide (-(2 ^ 62) ≤ i) && decide (i < 2 ^ 62)
def rng1 : D → Res (List D)
  | .int j => if smallR j then .ok (rangeL 0 j.toNat) else .stk
  | _ => .stk
def rng2 : D → D → Res (List D)
  | .int i, .int j => if smallR i && smallR j then .ok (rangeL i (j - i).toNat) else .stk
  | _, _ => .stk
def iR1 (a : E) : I := fun e => (a e).bind rng1
def iR2 (a b : E) : I := fun e => (a e).bind fun x => (b e).bind fun y => rng2 x y
def enumL (xs : List D) : List D := List.zipWith (fun (k : Nat) (x : D) => D.tup [.int (k : Int), x]) (List.range xs.length) xs
def zipL : List D → List D → List D := List.zipWith fun x y => D.tup [x, y]
def iEnum (a : E) : I := fun e => (a e).bind fun x => match x with
  | .lst xs => .ok (enumL xs)
  | _ => .stk
def iZip (a b : E) : I := fun e => (a e).bind fun x => (b e).bind fun y => match x, y with
  | .lst xs, .lst ys => .ok (zipL xs ys)
  | _, _ => .stk
/-- list(range(a, b)) -/
def eRng (a b : E) : E := fun e => (a e).bind fun x => (b e).bind fun y => (rng2 x y).bind fun l => if l.length ≤ szl then .ok (.lst l) else .stk
def gN (i : Nat) : G := fun d e => .ok (e.set i (.sh d))
def gsGo : List G → List D → Env → Res Env
  | [], [], e => .ok e
  | g :: gs, d :: ds, e => (g d e).bind fun e1 => gsGo gs ds e1
  | _, _, _ => .stk
/-- a, b, .. = a tuple -/
def gT (gs : List G) : G := fun d e => match d with
  | .tup ds => gsGo gs ds e
  | _ => .stk
/-- one turn of a comprehension after the other; an error within is nothing that we speak of -/
def compGo (f : D → Res (Option D)) : List D → Res (List D)
  | [] => .ok []
  | x :: xs => match f x with
    | .ok o => (compGo f xs).bind fun r => .ok (match o with
      | some y => y :: r
      | none => r)
    | _ => .stk
def blkE (own : List Nat) (e : Env) : Env := (wipeE e own).map Slot.lend
def compTurn (own : List Nat) (g : G) (c : T) (a : E) (e : Env) (x : D) : Res (Option D) :=
  (g x (blkE own e)).bind fun e1 => (c e1).bind fun b => if b then (a e1).bind fun y => .ok (some y) else .ok none
def eComp (it : I) (own : List Nat) (g : G) (c : T) (a : E) : E := fun e =>
  (it e).bind fun xs => if xs.length < szl then (compGo (compTurn own g c a e) xs).bind fun ys => .ok (.lst ys) else .stk

/-! ### statements -/
inductive RS where
  | nx (e : Env) | rt (d : D) | bk (e : Env) | ct (e : Env) | er (c : Nat) (e : Env) | stk
abbrev S := Env → RS
def Res.run {α : Type} (r : Res α) (e : Env) (k : α → RS) : RS := match r with
  | .ok a => k a
  | .err c => .er c e
  | .stk => .stk
@[simp] theorem Res.run_ok {α : Type} (a : α) (e : Env) (k : α → RS) : (Res.ok a).run e k = k a := (rfl)
@[simp] theorem Res.run_err {α : Type} (c : Nat) (e : Env) (k : α → RS) : (Res.err c : Res α).run e k = .er c e := (rfl)
@[simp] theorem Res.run_stk {α : Type} (e : Env) (k : α → RS) : (Res.stk : Res α).run e k = .stk := (rfl)
def sNil : S := fun e => .nx e
def sSeq (a b : S) : S := fun e => match a e with
  | .nx e1 => b e1
  | r => r
/-- x = e, shared from now on -/
def sSet (i : Nat) (a : E) : S := fun e => (a e).run e fun d => .nx (e.set i (.sh d))
/-- x = e, e's object new -/
def sOwn (i : Nat) (a : E) : S := fun e => (a e).run e fun d => .nx (e.set i (.own d))
/-- targets = e -/
def sAsg (g : G) (a : E) : S := fun e => (a e).run e fun d => match g d e with
  | .ok e1 => .nx e1
  | _ => .stk
/-- nothing happens; the object in a slot is shared from now on -/
def sFrz (i : Nat) : S := fun e => match e[i]? with
  | some (.own d) => .nx (e.set i (.sh d))
  | _ => .nx e
/-- x.append(e) -/
def sApp (i : Nat) (a : E) : S := fun e => match e[i]? with
  | some (.own (.lst xs)) => (a e).run e fun d => if xs.length < szl then .nx (e.set i (.own (.lst (xs ++ [d])))) else .stk
  | _ => .stk
/-- x.extend(a list) -/
def sExt (i : Nat) (a : E) : S := fun e => match e[i]? with
  | some (.own (.lst xs)) => (a e).run e fun d => match d with
    | .lst ys => if xs.length + ys.length ≤ szl then .nx (e.set i (.own (.lst (xs ++ ys)))) else .stk
    | _ => .stk
  | _ => .stk
/-- y = x.pop(e) -/
def sPopAt (j i : Nat) (a : E) : S := fun e => match e[i]? with
  | some (.own (.lst xs)) => (a e).run e fun d => match d with
    | .int k => if 0 ≤ k ∧ k < 4611686018427387904 then (match xs[k.toNat]? with
      | some x => .nx ((e.set i (.own (.lst (xs.eraseIdx k.toNat)))).set j (.sh x))
      | none => .stk) else .stk
    | _ => .stk
  | _ => .stk
/-- x[k] = v, x a dict -/
def sPut (i : Nat) (k v : E) : S := fun e => match e[i]? with
  | some (.own (.dct t kvs)) => (v e).run e fun w => (k e).run e fun q => match q.kf t with
    | some y => if kvs.length < szl then .nx (e.set i (.own (.dct t (kput y w kvs)))) else .stk
    | none => .stk
  | _ => .stk
/-- x[k] = v, x a list -/
def sPutL (i : Nat) (k v : E) : S := fun e => match e[i]? with
  | some (.own (.lst xs)) => (v e).run e fun w => (k e).run e fun q => match q with
    | .int j => if 0 ≤ j ∧ j < xs.length then .nx (e.set i (.own (.lst (xs.set j.toNat w)))) else .stk
    | _ => .stk
  | _ => .stk
/-- x.pop(k), x a dict; k is there -/
def sDel (i : Nat) (k : E) : S := fun e => match e[i]? with
  | some (.own (.dct false kvs)) => (k e).run e fun q => match q.kf false with
    | some y => if khas y kvs then .nx (e.set i (.own (.dct false (kdel y kvs)))) else .stk
    | none => .stk
  | _ => .stk
def sIf (c : T) (a b : S) : S := fun e => (c e).run e fun k => if k then a e else b e
def whileGo (c : T) (b : S) : Nat → Env → RS
  | 0, _ => .stk
  | n + 1, e => (c e).run e fun k => if k then (match b e with
      | .nx e1 => whileGo c b n e1
      | .ct e1 => whileGo c b n e1
      | .bk e1 => .nx e1
      | r => r) else .nx e
/-- the most turns of a while that we speak of -/
def fuel : Nat := 1000000
def sWhile (c : T) (b : S) : S := fun e => whileGo c b fuel e
def forGo (g : G) (b : S) : List D → Env → RS
  | [], e => .nx e
  | x :: xs, e => match g x e with
    | .ok e1 => (match b e1 with
      | .nx e2 => forGo g b xs e2
      | .ct e2 => forGo g b xs e2
      | .bk e2 => .nx e2
      | r => r)
    | _ => .stk
def sFor (it : I) (g : G) (b : S) : S := fun e => (it e).run e fun xs => forGo g b xs e
def sBrk : S := fun e => .bk e
def sCnt : S := fun e => .ct e
/-- return e -/
def sRet (a : E) : S := fun e => (a e).run e fun d => .rt d
/-- return x, x's object this def's own -/
def sRetO (i : Nat) : S := fun e => match e[i]? with
  | some (.own d) => .rt d
  | _ => .stk
def sRaise (c : Nat) : S := fun e => .er c e
/-- e -/
def sDrop (a : E) : S := fun e => (a e).run e fun _ => .nx e

/-- a def: which parameters are lent, how many names, its body -/
def initE : List Bool → List D → Env
  | true :: ms, d :: ds => .bor d :: initE ms ds
  | false :: ms, d :: ds => .sh d :: initE ms ds
  | _, _ => []
def runD (ms : List Bool) (n : Nat) (b : S) (ds : List D) : Res D :=
  if ds.length = ms.length then
    match b (initE ms ds ++ List.replicate (n - ms.length) .un) with
    | .nx _ => .ok .non
    | .rt d => .ok d
    | .er c _ => .err c
    | _ => .stk
  else .stk
end Tw

set_option autoImplicit false
set_option Elab.async false
set_option linter.all false
set_option maxRecDepth 100000
/-! Tw, how data lie in the tracked heap; what an expression, a test, a statement does, said by its mirror. -/
namespace Tw
open PySem L2
abbrev Sl := List (Option V)
/-- what the text's errors' classes are, and the tables of code objects -/
structure XA where
  ad : Nat → Addr
  tb : List (Addr × Str)
instance : CoeFun XA (fun _ => Nat → Addr) := ⟨XA.ad⟩

/-! ### data in the heap -/
def leafK : Int ⊕ Nm → Key
  | .inl i => .inl i
  | .inr s => .inr ⟨s.toArray⟩
def keyK : Ky → Option Key
  | .int i => some (.inl i)
  | .str s => some (.inr ⟨s.toArray⟩)
  | .tup _ => none
def keyT : Ky → Option (List Key)
  | .tup ks => some (ks.map leafK)
  | _ => none
/-- an error that is held as a value -/
def ErrO (C : Addr) (a : Addr) : HO := .ext fun h => ∃ oe : Obj, h.get? a = some oe ∧ oe.cls = .ref C ∧ oe.dict = none ∧ ∃ vs, oe.data = .fields vs
mutual
inductive Rep (K : PySem.W.Frag) (xa : XA) (F : Hp) : V → D → Prop
  | non : Rep K xa F .non .non
  | bl (b : Bool) : Rep K xa F (.bl b) (.bl b)
  | int (i : Int) : Rep K xa F (.int i) (.int i)
  | str (s : Nm) : Rep K xa F (.str ⟨s.toArray⟩) (.str s)
  | tup {a : Addr} {xs : List V} {ds : List D} : F a = some (.tup xs) → Reps K xa F xs ds → Rep K xa F (.ref a) (.tup ds)
  | lst {a : Addr} {xs : List V} {ds : List D} : F a = some (.lst xs) → Reps K xa F xs ds → Rep K xa F (.ref a) (.lst ds)
  | inp {a : Addr} {ns : List Int} : SqL K F a (ns.map V.int) → Rep K xa F (.ref a) (.inp ns)
  | dK {a : Addr} {kvs : List (Key × V)} {ds : List (Ky × D)} : Rd F a (.dK kvs) → RepK K xa F kvs ds → Rep K xa F (.ref a) (.dct false ds)
  | dT {a : Addr} {kvs : List (List Key × V)} {ds : List (Ky × D)} : Rd F a (.dT kvs) → RepT K xa F kvs ds → Rep K xa F (.ref a) (.dct true ds)
  | exc {a : Addr} {c : Nat} : F a = some (ErrO (xa c) a) → Rep K xa F (.ref a) (.exc c)
inductive Reps (K : PySem.W.Frag) (xa : XA) (F : Hp) : List V → List D → Prop
  | nil : Reps K xa F [] []
  | cons {v : V} {vs : List V} {d : D} {ds : List D} : Rep K xa F v d → Reps K xa F vs ds → Reps K xa F (v :: vs) (d :: ds)
inductive RepK (K : PySem.W.Frag) (xa : XA) (F : Hp) : List (Key × V) → List (Ky × D) → Prop
  | nil : RepK K xa F [] []
  | cons {k : Key} {v : V} {kvs : List (Key × V)} {q : Ky} {d : D} {ds : List (Ky × D)} : keyK q = some k → Rep K xa F v d → RepK K xa F kvs ds → RepK K xa F ((k, v) :: kvs) ((q, d) :: ds)
inductive RepT (K : PySem.W.Frag) (xa : XA) (F : Hp) : List (List Key × V) → List (Ky × D) → Prop
  | nil : RepT K xa F [] []
  | cons {k : List Key} {v : V} {kvs : List (List Key × V)} {q : Ky} {d : D} {ds : List (Ky × D)} : keyT q = some k → Rep K xa F v d → RepT K xa F kvs ds → RepT K xa F ((k, v) :: kvs) ((q, d) :: ds)
end

/-- what is known of F is known of F' (a dict may be locked) -/
def isTbl : HO → Bool
  | .tbl _ => true
  | _ => false
def isFrz : HO → Bool
  | .frz _ _ => true
  | .tbl _ => true
  | _ => false
/-- all but the tables stays -/
def Ke (H H' : Hp) : Prop := ∀ b o, isTbl o = false → H b = some o → H' b = some o
/-- .. and tables stay tables, and are kept in order -/
structure Kp (T : List (Addr × Str)) (H H' : Hp) : Prop where
  k : Ke H H'
  tb : ∀ b o, H b = some o → isTbl o = true → ∃ o', isTbl o' = true ∧ H' b = some o'
  tab : LamX.Tabs T H → LamX.Tabs T H'
/-- no tables -/
def NT (F : Hp) : Prop := ∀ b o, F b = some o → isTbl o = false
theorem Ke.refl (H : Hp) : Ke H H := fun _ _ _ e => e
theorem Ke.trans {H1 H2 H3 : Hp} (a : Ke H1 H2) (b : Ke H2 H3) : Ke H1 H3 := fun c o t e => b c o t (a c o t e)
theorem Ke.of {H H' : Hp} (h : Same H H') : Ke H H' := fun b o _ e => h b o e
theorem Kp.of {T : List (Addr × Str)} {H H' : Hp} (h : Same H H') : Kp T H H' := ⟨.of h, fun b o e t => ⟨o, t, h _ _ e⟩, fun t => t.ext fun b o e => h b o e⟩
theorem Kp.refl {T : List (Addr × Str)} (H : Hp) : Kp T H H := .of (.refl _)
theorem Kp.trans {T : List (Addr × Str)} {H1 H2 H3 : Hp} (a : Kp T H1 H2) (b : Kp T H2 H3) : Kp T H1 H3 := ⟨a.k.trans b.k, fun c o e t => by
  obtain ⟨o', t', e'⟩ := a.tb c o e t
  exact b.tb c o' e' t', fun t => b.tab (a.tab t)⟩
theorem Kp.free {T : List (Addr × Str)} {H H' : Hp} (a : Kp T H H') {b : Addr} (n : H' b = none) : H b = none := by
  cases e : H b with
  | none => rfl
  | some o =>
    cases t : isTbl o with
    | false => rw [a.k b o t e] at n; cases n
    | true => obtain ⟨o', _, e'⟩ := a.tb b o e t; rw [e'] at n; cases n
theorem NT.ke {F H H' : Hp} (n : NT F) (fs : Same F H) (k : Ke H H') : Same F H' := fun b o e => k b o (n b o e) (fs b o e)
/-- no table, no code object -/
def isExt : HO → Bool
  | .ext _ => true
  | _ => false
theorem tabs_upd {T : List (Addr × Str)} {H : Hp} {a : Addr} {u o : HO} (e : H a = some u) (nt : isTbl u = false) (nx : isExt u = false) (t : LamX.Tabs T H) : LamX.Tabs T (upd H a o) := fun p hp => by
  obtain ⟨ps, h1, h2, h3⟩ := t p hp
  refine ⟨ps, by rw [upd_ne (fun z => by rw [z, e] at h1; cases h1; cases nt)]; exact h1, h2, fun pos cv hc => ?_⟩
  obtain ⟨c, e1, e2⟩ := h3 pos cv hc
  exact ⟨c, e1, by rw [upd_ne (fun z => by rw [z, e] at e2; cases e2; cases nx)]; exact e2⟩
theorem Kp.upd {T : List (Addr × Str)} {B H : Hp} {a : Addr} {u o : HO} (k : Kp T B H) (e : H a = some u) (nt : isTbl u = false) (nx : isExt u = false) (n : B a = none) : Kp T B (L2.upd H a o) :=
  ⟨fun b w t q => by rw [upd_ne (ne_of_none q n)]; exact k.k b w t q, fun b w q t => by rw [upd_ne (ne_of_none q n)]; exact k.tb b w q t, fun t => tabs_upd e nt nx (k.tab t)⟩
def RM (F F' : Hp) : Prop := ∀ a u, isFrz u = false → Rd F a u → Rd F' a u
theorem RM.of {F F' : Hp} (h : Same F F') : RM F F' := fun a u _ r => by
  rcases r with r | ⟨o, r⟩
  · exact .inl (h _ _ r)
  · exact .inr ⟨o, h _ _ r⟩
/-- .. tuples and errors stand as they are -/
structure Up (F F' : Hp) : Prop where
  rm : RM F F'
  tup : ∀ a xs, F a = some (.tup xs) → F' a = some (.tup xs)
  ls : ∀ a xs, F a = some (.lst xs) → F' a = some (.lst xs)
  ext : ∀ a φ, F a = some (.ext φ) → F' a = some (.ext φ)
theorem Up.of {F F' : Hp} (h : Same F F') : Up F F' := ⟨RM.of h, fun _ _ e => h _ _ e, fun _ _ e => h _ _ e, fun _ _ e => h _ _ e⟩
theorem Ke.up {F F' : Hp} (h : Ke F F') : Up F F' := ⟨fun a u n r => by
  rcases r with r | ⟨o, r⟩
  · exact .inl (h _ _ (by cases u <;> first | rfl | cases n) r)
  · exact .inr ⟨o, h _ _ rfl r⟩, fun _ _ e => h _ _ rfl e, fun _ _ e => h _ _ rfl e, fun _ _ e => h _ _ rfl e⟩
theorem Ke.seq {K : PySem.W.Frag} {H H' : Hp} {a : Addr} {xs : List V} (e : Ke H H') (h : SqL K H a xs) : SqL K H' a xs := by
  rcases h with (h | ⟨o, h⟩) | h
  · exact .inl (.inl (e _ _ rfl h))
  · exact .inl (.inr ⟨o, e _ _ rfl h⟩)
  · exact .inr h
theorem Up.lst {K : PySem.W.Frag} {F F' : Hp} (h : Up F F') {a : Addr} {xs : List V} (q : SqL K F a xs) : SqL K F' a xs := by
  rcases q with q | q
  · exact .inl (h.rm a _ rfl q)
  · exact .inr q
section
variable {K : PySem.W.Frag} {xa : XA} {F F' : Hp}
theorem Rep.up (h : Up F F') {v : V} {d : D} (r : Rep K xa F v d) : Rep K xa F' v d :=
  Rep.rec (motive_1 := fun v d _ => Rep K xa F' v d) (motive_2 := fun v d _ => Reps K xa F' v d) (motive_3 := fun v d _ => RepK K xa F' v d) (motive_4 := fun v d _ => RepT K xa F' v d)
    .non .bl .int .str (fun e _ ih => .tup (h.tup _ _ e) ih) (fun e _ ih => .lst (h.ls _ _ e) ih) (fun e => .inp (h.lst e)) (fun e _ ih => .dK (h.rm _ _ rfl e) ih) (fun e _ ih => .dT (h.rm _ _ rfl e) ih) (fun e => .exc (h.ext _ _ e))
    .nil (fun _ _ i1 i2 => .cons i1 i2) .nil (fun e _ _ i1 i2 => .cons e i1 i2) .nil (fun e _ _ i1 i2 => .cons e i1 i2) r
theorem Reps.up (h : Up F F') : ∀ {v : List V} {d : List D}, Reps K xa F v d → Reps K xa F' v d := by
  intro v
  induction v with
  | nil => intro d r; cases r; exact .nil
  | cons x v ih => intro d r; cases r with | cons r t => exact .cons (r.up h) (ih t)
theorem RepK.up (h : Up F F') : ∀ {v : List (Key × V)} {d : List (Ky × D)}, RepK K xa F v d → RepK K xa F' v d := by
  intro v
  induction v with
  | nil => intro d r; cases r; exact .nil
  | cons x v ih => intro d r; cases r with | cons e r t => exact .cons e (r.up h) (ih t)
theorem RepT.up (h : Up F F') : ∀ {v : List (List Key × V)} {d : List (Ky × D)}, RepT K xa F v d → RepT K xa F' v d := by
  intro v
  induction v with
  | nil => intro d r; cases r; exact .nil
  | cons x v ih => intro d r; cases r with | cons e r t => exact .cons e (r.up h) (ih t)
theorem Rep.on (h : Same F F') {v : V} {d : D} (r : Rep K xa F v d) : Rep K xa F' v d := r.up (.of h)
theorem Reps.on (h : Same F F') {v : List V} {d : List D} (r : Reps K xa F v d) : Reps K xa F' v d := r.up (.of h)
theorem RepK.on (h : Same F F') {v : List (Key × V)} {d : List (Ky × D)} (r : RepK K xa F v d) : RepK K xa F' v d := r.up (.of h)
theorem RepT.on (h : Same F F') {v : List (List Key × V)} {d : List (Ky × D)} (r : RepT K xa F v d) : RepT K xa F' v d := r.up (.of h)
theorem Reps.length : ∀ {vs : List V} {ds : List D}, Reps K xa F vs ds → vs.length = ds.length
  | _, _, .nil => rfl
  | _, _, .cons _ t => by simp [Reps.length t]
theorem Reps.append : ∀ {vs ws : List V} {ds es : List D}, Reps K xa F vs ds → Reps K xa F ws es → Reps K xa F (vs ++ ws) (ds ++ es)
  | _, _, _, _, .nil, s => s
  | _, _, _, _, .cons r t, s => .cons r (Reps.append t s)
theorem Reps.one {v : V} {d : D} (r : Rep K xa F v d) : Reps K xa F [v] [d] := .cons r .nil
theorem Reps.get : ∀ {vs : List V} {ds : List D} {i : Nat} {d : D}, Reps K xa F vs ds → ds[i]? = some d → ∃ v, vs[i]? = some v ∧ Rep K xa F v d
  | _, _, _, _, .nil, e => by simp at e
  | _, _, 0, _, .cons r _, e => by
    simp at e
    subst e
    exact ⟨_, rfl, r⟩
  | _, _, i + 1, d, .cons _ t, e => by
    obtain ⟨u, h1, h2⟩ := Reps.get (i := i) (d := d) t (by simpa using e)
    exact ⟨u, by simpa using h1, h2⟩
theorem Reps.got : ∀ {vs : List V} {ds : List D} {i : Nat} {v : V}, Reps K xa F vs ds → vs[i]? = some v → ∃ d, ds[i]? = some d ∧ Rep K xa F v d
  | _, _, _, _, .nil, e => by simp at e
  | _, _, 0, _, .cons r _, e => by
    simp at e
    subst e
    exact ⟨_, rfl, r⟩
  | _, _, i + 1, d, .cons _ t, e => by
    obtain ⟨u, h1, h2⟩ := Reps.got (i := i) (v := d) t (by simpa using e)
    exact ⟨u, by simpa using h1, h2⟩
theorem Reps.take (n : Nat) : ∀ {vs : List V} {ds : List D}, Reps K xa F vs ds → Reps K xa F (vs.take n) (ds.take n) := by
  induction n with
  | zero => intro vs ds _; simp; exact .nil
  | succ n ih =>
    intro vs ds r
    cases r with
    | nil => simp; exact .nil
    | cons r t => simp; exact .cons r (ih t)
theorem Reps.drop (n : Nat) : ∀ {vs : List V} {ds : List D}, Reps K xa F vs ds → Reps K xa F (vs.drop n) (ds.drop n) := by
  induction n with
  | zero => intro vs ds r; simpa using r
  | succ n ih =>
    intro vs ds r
    cases r with
    | nil => simp; exact .nil
    | cons r t => simp; exact ih t
theorem Reps.reverse : ∀ {vs : List V} {ds : List D}, Reps K xa F vs ds → Reps K xa F vs.reverse ds.reverse
  | _, _, .nil => .nil
  | _, _, .cons r t => by simp; exact (Reps.reverse t).append (.one r)
theorem Reps.eraseIdx : ∀ {vs : List V} {ds : List D} (i : Nat), Reps K xa F vs ds → Reps K xa F (vs.eraseIdx i) (ds.eraseIdx i)
  | _, _, _, .nil => by simp; exact .nil
  | _, _, 0, .cons _ t => by simpa using t
  | _, _, i + 1, .cons r t => by simp; exact .cons r (Reps.eraseIdx i t)
theorem Reps.set {v : V} {d : D} (q : Rep K xa F v d) : ∀ {vs : List V} {ds : List D} (i : Nat), Reps K xa F vs ds → Reps K xa F (vs.set i v) (ds.set i d)
  | _, _, _, .nil => by simp; exact .nil
  | _, _, 0, .cons _ t => by simpa using .cons q t
  | _, _, i + 1, .cons r t => by simp; exact .cons r (Reps.set q i t)
end

/-- an object at a that holds d, its parts told by F -/
def ObjAt (K : PySem.W.Frag) (xa : XA) (F G : Hp) (a : Addr) : D → Prop
  | .lst ds => ∃ xs, G a = some (.lst xs) ∧ Reps K xa F xs ds
  | .dct false ds => ∃ kvs, Rd G a (.dK kvs) ∧ RepK K xa F kvs ds
  | .dct true ds => ∃ kvs, Rd G a (.dT kvs) ∧ RepT K xa F kvs ds
  | _ => False
/-- .. one's own -/
def OwnAt (K : PySem.W.Frag) (xa : XA) (F G : Hp) (a : Addr) : D → Prop
  | .lst ds => ∃ xs, G a = some (.lst xs) ∧ Reps K xa F xs ds
  | .dct false ds => ∃ kvs, G a = some (.dK kvs) ∧ RepK K xa F kvs ds
  | .dct true ds => ∃ kvs, G a = some (.dT kvs) ∧ RepT K xa F kvs ds
  | _ => False
/-- a value that is shared, or lent -/
def Bor (K : PySem.W.Frag) (xa : XA) (F G : Hp) (v : V) (d : D) : Prop := Rep K xa F v d ∨ ∃ a, v = .ref a ∧ ObjAt K xa F G a d
section
variable {K : PySem.W.Frag} {xa : XA} {F F' G G' : Hp} {a : Addr} {v : V} {d : D}
theorem OwnAt.obj (h : OwnAt K xa F G a d) : ObjAt K xa F G a d := by
  cases d with
  | lst ds => obtain ⟨xs, e, r⟩ := h; exact ⟨xs, e, r⟩
  | dct t ds =>
    cases t
    · obtain ⟨kvs, e, r⟩ := h; exact ⟨kvs, .inl e, r⟩
    · obtain ⟨kvs, e, r⟩ := h; exact ⟨kvs, .inl e, r⟩
  | _ => exact h
theorem ObjAt.up (f : Up F F') (g : Up G G') (h : ObjAt K xa F G a d) : ObjAt K xa F' G' a d := by
  cases d with
  | lst ds => obtain ⟨xs, e, r⟩ := h; exact ⟨xs, g.ls _ _ e, r.up f⟩
  | dct t ds =>
    cases t
    · obtain ⟨kvs, e, r⟩ := h; exact ⟨kvs, g.rm _ _ rfl e, r.up f⟩
    · obtain ⟨kvs, e, r⟩ := h; exact ⟨kvs, g.rm _ _ rfl e, r.up f⟩
  | _ => exact h
theorem OwnAt.on (f : Same F F') (g : Ke G G') (h : OwnAt K xa F G a d) : OwnAt K xa F' G' a d := by
  cases d with
  | lst ds => obtain ⟨xs, e, r⟩ := h; exact ⟨xs, g _ _ rfl e, r.on f⟩
  | dct t ds =>
    cases t
    · obtain ⟨kvs, e, r⟩ := h; exact ⟨kvs, g _ _ rfl e, r.on f⟩
    · obtain ⟨kvs, e, r⟩ := h; exact ⟨kvs, g _ _ rfl e, r.on f⟩
  | _ => exact h
theorem OwnAt.ex (h : OwnAt K xa F G a d) : ∃ o, G a = some o := by
  cases d with
  | lst ds => obtain ⟨xs, e, r⟩ := h; exact ⟨_, e⟩
  | dct t ds =>
    cases t
    · obtain ⟨kvs, e, r⟩ := h; exact ⟨_, e⟩
    · obtain ⟨kvs, e, r⟩ := h; exact ⟨_, e⟩
  | _ => exact h.elim
theorem OwnAt.notTup {xs : List V} (h : OwnAt K xa F G a d) (e : G a = some (.tup xs)) : False := by
  cases d with
  | lst ds => obtain ⟨ys, e2, _⟩ := h; rw [e] at e2; cases e2
  | dct t ds =>
    cases t
    · obtain ⟨ys, e2, _⟩ := h; rw [e] at e2; cases e2
    · obtain ⟨ys, e2, _⟩ := h; rw [e] at e2; cases e2
  | _ => exact h.elim
theorem OwnAt.notTbl {o : HO} (h : OwnAt K xa F G a d) (e : G a = some o := by assumption) : isTbl o = false := by
  cases d with
  | lst ds => obtain ⟨ys, e2, _⟩ := h; rw [e] at e2; cases e2; rfl
  | dct t ds =>
    cases t
    · obtain ⟨ys, e2, _⟩ := h; rw [e] at e2; cases e2; rfl
    · obtain ⟨ys, e2, _⟩ := h; rw [e] at e2; cases e2; rfl
  | _ => exact h.elim
theorem OwnAt.notExt {o : HO} (h : OwnAt K xa F G a d) (e : G a = some o := by assumption) : isExt o = false := by
  cases d with
  | lst ds => obtain ⟨ys, e2, _⟩ := h; rw [e] at e2; cases e2; rfl
  | dct t ds =>
    cases t
    · obtain ⟨ys, e2, _⟩ := h; rw [e] at e2; cases e2; rfl
    · obtain ⟨ys, e2, _⟩ := h; rw [e] at e2; cases e2; rfl
  | _ => exact h.elim
theorem Bor.up (f : Up F F') (g : Up G G') (h : Bor K xa F G v d) : Bor K xa F' G' v d := by
  rcases h with h | ⟨a, e, h⟩
  · exact .inl (h.up f)
  · exact .inr ⟨a, e, h.up f g⟩
theorem Bor.on (f : Same F F') (g : Up G G') (h : Bor K xa F G v d) : Bor K xa F' G' v d := h.up (.of f) g
/-- no list, no dict: shared -/
theorem Bor.rep (h : Bor K xa F G v d) (n : d.box = false) : Rep K xa F v d := by
  rcases h with h | ⟨a, e, h⟩
  · exact h
  · cases d <;> first | exact h.elim | (simp [D.box] at n)
theorem Bor.lst_ {ds : List D} (h : Bor K xa F G v (.lst ds)) (fg : Same F G) : ∃ a xs, v = .ref a ∧ G a = some (.lst xs) ∧ Reps K xa F xs ds := by
  rcases h with h | ⟨a, e, xs, q, r⟩
  · cases h with
    | lst q r => exact ⟨_, _, rfl, fg _ _ q, r⟩
  · exact ⟨a, xs, e, q, r⟩
theorem Bor.int_ {i : Int} (h : Bor K xa F G v (.int i)) : v = .int i := by
  rcases h with h | ⟨a, e, h⟩
  · cases h; rfl
  · exact h.elim
theorem Bor.bl_ {i : Bool} (h : Bor K xa F G v (.bl i)) : v = .bl i := by
  rcases h with h | ⟨a, e, h⟩
  · cases h; rfl
  · exact h.elim
theorem Bor.non_ (h : Bor K xa F G v .non) : v = .non := by
  rcases h with h | ⟨a, e, h⟩
  · cases h; rfl
  · exact h.elim
theorem Bor.str_ {s : Nm} (h : Bor K xa F G v (.str s)) : v = .str ⟨s.toArray⟩ := by
  rcases h with h | ⟨a, e, h⟩
  · cases h; rfl
  · exact h.elim
theorem Bor.tup_ {ds : List D} (h : Bor K xa F G v (.tup ds)) : ∃ a xs, v = .ref a ∧ F a = some (.tup xs) ∧ Reps K xa F xs ds := by
  rcases h with h | ⟨a, e, h⟩
  · cases h with | tup e r => exact ⟨_, _, rfl, e, r⟩
  · exact h.elim
theorem Bor.inp_ {ns : List Int} (h : Bor K xa F G v (.inp ns)) : ∃ a, v = .ref a ∧ SqL K F a (ns.map V.int) := by
  rcases h with h | ⟨a, e, h⟩
  · cases h with | inp e => exact ⟨_, rfl, e⟩
  · exact h.elim
theorem Bor.dK_ {ds : List (Ky × D)} (h : Bor K xa F G v (.dct false ds)) (fg : Same F G) : ∃ a kvs, v = .ref a ∧ Rd G a (.dK kvs) ∧ RepK K xa F kvs ds := by
  rcases h with h | ⟨a, e, kvs, h1, h2⟩
  · cases h with | dK e r => exact ⟨_, _, rfl, RM.of fg _ _ rfl e, r⟩
  · exact ⟨a, kvs, e, h1, h2⟩
theorem Bor.dT_ {ds : List (Ky × D)} (h : Bor K xa F G v (.dct true ds)) (fg : Same F G) : ∃ a kvs, v = .ref a ∧ Rd G a (.dT kvs) ∧ RepT K xa F kvs ds := by
  rcases h with h | ⟨a, e, kvs, h1, h2⟩
  · cases h with | dT e r => exact ⟨_, _, rfl, RM.of fg _ _ rfl e, r⟩
  · exact ⟨a, kvs, e, h1, h2⟩
end

/-! ### slots -/
def SlotOk (K : PySem.W.Frag) (xa : XA) (B F H : Hp) : Slot → Option (Option V) → Prop
  | .un, _ => True
  | .sh d, o => ∃ v, o = some (some v) ∧ Rep K xa F v d
  | .bor d, o => ∃ v, o = some (some v) ∧ Bor K xa F B v d
  | .own d, o => ∃ a, o = some (some (.ref a)) ∧ F a = none ∧ B a = none ∧ OwnAt K xa F H a d
/-- the slots as the mirror has them. B: what stood before, and stands; F: what is shared -/
structure Sim (K : PySem.W.Frag) (xa : XA) (B F : Hp) (env : Env) (σ : Sl) (H : Hp) : Prop where
  len : env.length = σ.length
  hB : Kp xa.tb B H
  hF : Same F H
  nt : NT F
  tab : LamX.Tabs xa.tb H
  sl : ∀ (i : Nat) (s : Slot), env[i]? = some s → SlotOk K xa B F H s σ[i]?
  ap : ∀ (i j : Nat) (a : Addr) (d d' : D), env[i]? = some (.own d) → env[j]? = some (.own d') → σ[i]? = some (some (.ref a)) → σ[j]? = some (some (.ref a)) → i = j
/-- the heap has grown, what is shared too -/
structure Ext (T : List (Addr × Str)) (F H F' H' : Hp) : Prop where
  f : Same F F'
  h : Kp T H H'
  le : Same F' H'
  new : ∀ a o, F' a = some o → F a = some o ∨ H a = none ∨ ∃ xs, o = .tup xs
  nt : NT F → NT F'
section
variable {T : List (Addr × Str)}
theorem Ext.refl {F H : Hp} (h : Same F H) : Ext T F H F H := ⟨.refl _, .refl _, h, fun _ _ e => .inl e, id⟩
theorem Ext.trans {F H F1 H1 F2 H2 : Hp} (a : Ext T F H F1 H1) (b : Ext T F1 H1 F2 H2) : Ext T F H F2 H2 :=
  ⟨a.f.trans b.f, a.h.trans b.h, b.le, fun c o e => by
    rcases b.new c o e with q | q | q
    · exact a.new c o q
    · exact .inr (.inl (a.h.free q))
    · exact .inr (.inr q), fun n => b.nt (a.nt n)⟩
theorem NT.upd {F : Hp} {p : Addr} {o : HO} (n : NT F) (h : isTbl o = false) : NT (L2.upd F p o) := fun b u e => by
  by_cases hb : b = p
  · subst hb; rw [upd_same] at e; cases e; exact h
  · rw [upd_ne hb] at e; exact n b u e
/-- F grows by what is new in H -/
theorem Ext.grow {F H : Hp} {p : Addr} {o : HO} (h : Same F H) (n : H p = none) (ho : isTbl o = false := by rfl) : Ext T F H (upd F p o) (upd H p o) := by
  have nF : F p = none := h.free n
  refine ⟨fun b u e => ?_, .of fun b u e => ?_, fun b u e => ?_, fun b u e => ?_, fun t => t.upd ho⟩
  · rw [upd_ne (ne_of_none e nF)]; exact e
  · rw [upd_ne (ne_of_none e n)]; exact e
  · by_cases hb : b = p
    · subst hb; rw [upd_same] at e ⊢; exact e
    · rw [upd_ne hb] at e ⊢; exact h _ _ e
  · by_cases hb : b = p
    · subst hb; exact .inr (.inl n)
    · rw [upd_ne hb] at e; exact .inl e
/-- H alone grows -/
theorem Ext.heap {F H : Hp} {p : Addr} {o : HO} (h : Same F H) (n : H p = none) : Ext T F H F (upd H p o) :=
  ⟨.refl _, .of fun b u e => by rw [upd_ne (ne_of_none e n)]; exact e, fun b u e => by rw [upd_ne (ne_of_none (h _ _ e) n)]; exact h _ _ e, fun _ _ e => .inl e, id⟩
end
section
variable {K : PySem.W.Frag} {xa : XA} {B F F' H H' : Hp} {env : Env} {σ : Sl}
theorem Sim.ext (S : Sim K xa B F env σ H) (x : Ext xa.tb F H F' H') : Sim K xa B F' env σ H' := by
  refine ⟨S.len, S.hB.trans x.h, x.le, x.nt S.nt, x.h.tab S.tab, fun i s e => ?_, S.ap⟩
  have q := S.sl i s e
  cases s with
  | un => trivial
  | sh d => obtain ⟨v, e, r⟩ := q; exact ⟨v, e, r.on x.f⟩
  | bor d => obtain ⟨v, e, r⟩ := q; exact ⟨v, e, r.on x.f (.of (.refl _))⟩
  | own d =>
    obtain ⟨a, e, nF, nB, r⟩ := q
    refine ⟨a, e, ?_, nB, r.on x.f x.h.k⟩
    obtain ⟨o, ho⟩ := r.ex
    cases z : F' a with
    | none => rfl
    | some u =>
      rcases x.new a u z with y | y | ⟨xs, y⟩
      · rw [nF] at y; cases y
      · rw [ho] at y; cases y
      · have h1 := x.le _ _ z
        rw [x.h.k _ _ r.notTbl ho, y] at h1
        cases h1
        exact (r.notTup ho).elim
end

/-! ### what is wanted behind a piece whose mirror gives r -/
def Post {α : Type} (xa : XA) (W : WX) (σ : Sl) (F H : Hp) (r : Res α) (k : α → Hp → Hp → Prop) : Prop := match r with
  | .ok a => ∀ F' H', Ext xa.tb F H F' H' → k a F' H'
  | .err c => ∀ F' H', Ext xa.tb F H F' H' → W (.ref (xa c)) none σ H'
  | .stk => False
section
variable {α β : Type} {xa : XA} {W : WX} {σ : Sl} {F H F1 H1 : Hp} {r : Res α} {k : α → Hp → Hp → Prop}
theorem Post.on (p : Post xa W σ F H r k) (x : Ext xa.tb F H F1 H1) : Post xa W σ F1 H1 r k := by
  cases r with
  | ok a => exact fun F' H' y => p F' H' (x.trans y)
  | err c => exact fun F' H' y => p F' H' (x.trans y)
  | stk => exact p
theorem Post.imp {k' : α → Hp → Hp → Prop} (p : Post xa W σ F H r k) (h : ∀ a F' H', r = .ok a → Ext xa.tb F H F' H' → k a F' H' → k' a F' H') : Post xa W σ F H r k' := by
  cases r with
  | ok a => exact fun F' H' y => h a F' H' rfl y (p F' H' y)
  | err c => exact p
  | stk => exact p
theorem Post.bind {f : α → Res β} {k : β → Hp → Hp → Prop} (p : Post xa W σ F H (r.bind f) k) : Post xa W σ F H r (fun a F' H' => Post xa W σ F' H' (f a) k) := by
  cases r with
  | ok a => exact fun F' H' y => Post.on (r := f a) p y
  | err c => exact p
  | stk => exact p
theorem Post.now {a : α} (p : Post xa W σ F H (.ok a) k) (h : Same F H) : k a F H := p F H (.refl h)
end

/-! ### the judgements -/
variable (K : PySem.W.Frag) (xa : XA) (W : WX)
def pB (f : E) : TE := fun σ H Q => ∃ B F env, Sim K xa B F env σ H ∧ Post xa W σ F H (f env) fun d F' H' => ∀ v, Bor K xa F' H' v d → Q v H'
def pE (f : E) : TE := fun σ H Q => ∃ B F env, Sim K xa B F env σ H ∧ Post xa W σ F H (f env) fun d F' H' => ∀ v, Rep K xa F' v d → Q v H'
def pF (f : E) : TE := fun σ H Q => ∃ B F env, Sim K xa B F env σ H ∧ Post xa W σ F H (f env) fun d F' H' => ∀ a, H a = none → F' a = none → OwnAt K xa F' H' a d → Q (.ref a) H'
def pT (t : T) : TT := fun σ H Q => ∃ B F env, Sim K xa B F env σ H ∧ Post xa W σ F H (t env) fun b _ H' => Q b H'
variable {K xa W}
/-- e's value, shared or lent, is that of f -/
structure RB (X : Cx) (xa : XA) (W : WX) (e : Expr) (f : E) : Prop where
  pe : PE X e (pB X.K xa W f)
/-- .. shared -/
structure RE (X : Cx) (xa : XA) (W : WX) (e : Expr) (f : E) : Prop where
  pe : PE X e (pE X.K xa W f)
/-- .. a new object that nobody else has -/
structure RF (X : Cx) (xa : XA) (W : WX) (e : Expr) (f : E) : Prop where
  pe : PE X e (pF X.K xa W f)
structure RT (X : Cx) (xa : XA) (W : WX) (e : Expr) (t : T) : Prop where
  pt : PT X e (pT X.K xa W t)
structure RW (X : Cx) (xa : XA) (W : WX) (e : Expr) (t : T) : Prop where
  pw : PW X e (pT X.K xa W t)
theorem peW {X : Cx} {e : Expr} {t t' : TE} (p : PE X e t) (h : ∀ σ H Q, t' σ H Q → t σ H Q) : PE X e t' := ⟨fun pins s σ H Q I q => p.run pins s σ H Q I (h σ H Q q)⟩
theorem ptW {X : Cx} {e : Expr} {t t' : TT} (p : PT X e t) (h : ∀ σ H Q, t' σ H Q → t σ H Q) : PT X e t' := ⟨fun pins s σ H Q I q => p.run pins s σ H Q I (h σ H Q q)⟩
theorem pwW {X : Cx} {e : Expr} {t t' : TT} (p : PW X e t) (h : ∀ σ H Q, t' σ H Q → t σ H Q) : PW X e t' := ⟨fun wh pins s σ H Q I q => p.run wh pins s σ H Q I (h σ H Q q)⟩
section
variable {X : Cx} {e : Expr} {f : E} {t : T}
theorem RE.toB (h : RE X xa W e f) : RB X xa W e f := ⟨peW h.pe fun σ H Q ⟨B, F, env, S, p⟩ => ⟨B, F, env, S, p.imp fun d F' H' _ _ q v r => q v (.inl r)⟩⟩
/-- what is new may be shared -/
theorem Ext.share {T : List (Addr × Str)} {F H F' H' : Hp} (x : Ext T F H F' H') {a : Addr} {o : HO} (n : H a = none) (nF : F' a = none) (e : H' a = some o) (ho : isTbl o = false) : Ext T F H (upd F' a o) H' := by
  refine ⟨fun b u q => ?_, x.h, fun b u q => ?_, fun b u q => ?_, fun t => (x.nt t).upd ho⟩
  · rw [upd_ne (ne_of_none (x.f _ _ q) nF)]; exact x.f _ _ q
  · by_cases hb : b = a
    · subst hb; rw [upd_same] at q; rw [← q]; exact e
    · rw [upd_ne hb] at q; exact x.le _ _ q
  · by_cases hb : b = a
    · subst hb; exact .inr (.inl n)
    · rw [upd_ne hb] at q; exact x.new _ _ q
theorem same_upd {F : Hp} {a : Addr} {o : HO} (n : F a = none) : Same F (upd F a o) := fun b u q => by
  rw [upd_ne (ne_of_none q n)]; exact q
theorem OwnAt.rep' {K : PySem.W.Frag} {F G : Hp} {a : Addr} {d : D} (h : OwnAt K xa F G a d) (n : F a = none) : ∃ o, G a = some o ∧ Rep K xa (upd F a o) (.ref a) d := by
  cases d with
  | lst ds =>
    obtain ⟨xs, e, r⟩ := h
    exact ⟨_, e, .lst upd_same (r.on (same_upd n))⟩
  | dct t ds =>
    cases t
    · obtain ⟨kvs, e, r⟩ := h; exact ⟨_, e, .dK (.inl upd_same) (r.on (same_upd n))⟩
    · obtain ⟨kvs, e, r⟩ := h; exact ⟨_, e, .dT (.inl upd_same) (r.on (same_upd n))⟩
  | _ => exact h.elim
theorem RF.toE (h : RF X xa W e f) : RE X xa W e f := ⟨peW h.pe fun σ H Q ⟨B, F, env, S, p⟩ => by
  refine ⟨B, F, env, S, ?_⟩
  cases q : f env with
  | ok d =>
    rw [q] at p
    intro F' H' x a n nF o
    obtain ⟨u, e, r⟩ := o.rep' nF
    exact p _ _ (x.share n nF e (o.notTbl e)) _ r
  | err c => rw [q] at p; exact p
  | stk => rw [q] at p; exact p⟩
theorem RF.toB (h : RF X xa W e f) : RB X xa W e f := h.toE.toB
end
end Tw

set_option autoImplicit false
set_option Elab.async false
set_option linter.all false
set_option maxRecDepth 100000
/-! Tw, the operators: what HandS's rules by values give, said of data. -/
namespace Tw
open PySem L2
theorem szl_eq : szl = sizeLine := by rw [sizeLine_eq]; rfl

section
variable {K : PySem.W.Frag} {xa : XA}
def Ans (K : PySem.W.Frag) (xa : XA) (F H : Hp) (r : Res D) (p : VK → Prop) : Prop := match r with
  | .ok z => ∀ Q : VK, (∀ F' H', Ext xa.tb F H F' H' → ∀ v, Rep K xa F' v z → Q v H') → p Q
  | .err _ => False
  | .stk => True
def Ok1 (K : PySem.W.Frag) (xa : XA) (r : V → Hp → VK → Prop) (f : D → Res D) : Prop := ∀ (F H : Hp) (x : V) (d : D), Same F H → Bor K xa F H x d → Ans K xa F H (f d) (r x H)
def Ok2 (K : PySem.W.Frag) (xa : XA) (r : R2) (f : D → D → Res D) : Prop := ∀ (F H : Hp) (x y : V) (d e : D), Same F H → Bor K xa F H x d → Bor K xa F H y e → Ans K xa F H (f d e) (r x y H)
theorem Ans.post {F H : Hp} {r : Res D} {p : VK → Prop} {W : WX} {σ : Sl} {Q : VK} (a : Ans K xa F H r p) (q : Post xa W σ F H r fun d F' H' => ∀ v, Rep K xa F' v d → Q v H') : p Q := by
  cases r with
  | ok z => exact a Q q
  | err c => exact a.elim
  | stk => exact q.elim

/-- a value that no object bears -/
theorem ans_val {F H : Hp} {z : D} {v : V} {p : VK → Prop} (fs : Same F H) (hv : ∀ F' : Hp, Rep K xa F' v z) (h : ∀ Q : VK, Q v H → p Q) : Ans K xa F H (.ok z) p := fun Q q => h Q (q F H (.refl fs) v (hv F))
/-- a value that is there already -/
theorem ans_rep {F H : Hp} {z : D} {v : V} {p : VK → Prop} (fs : Same F H) (hv : Rep K xa F v z) (h : ∀ Q : VK, Q v H → p Q) : Ans K xa F H (.ok z) p := fun Q q => h Q (q F H (.refl fs) v hv)
/-- a new list, a new tuple -/
theorem ans_lst {F H : Hp} {ds : List D} {xs : List V} {p : VK → Prop} (fs : Same F H) (r : Reps K xa F xs ds) (h : ∀ Q : VK, (∀ a, H a = none → Q (.ref a) (upd H a (.lst xs))) → p Q) : Ans K xa F H (.ok (.lst ds)) p := fun Q q =>
  h Q fun a n => q _ _ (.grow fs n) _ (.lst upd_same (r.on (same_upd (fs.free n))))
theorem ans_tup {F H : Hp} {ds : List D} {xs : List V} {p : VK → Prop} (fs : Same F H) (r : Reps K xa F xs ds) (h : ∀ Q : VK, (∀ a, H a = none → Q (.ref a) (upd H a (.tup xs))) → p Q) : Ans K xa F H (.ok (.tup ds)) p := fun Q q =>
  h Q fun a n => q _ _ (.grow fs n) _ (.tup upd_same (r.on (same_upd (fs.free n))))

/-! ### + - * // % ** -/
theorem ok_add {X : Cx} : ∃ r, OpR X (binaryOp .Add) r ∧ Ok2 X.K xa r D.add := by
  refine ⟨_, (op_add.or (op_add_str.or (op_cat.or op_catA))), fun F H x y d e fs bx by_ => ?_⟩
  cases d <;> cases e <;> try exact trivial
  · -- ints
    rw [bx.int_, by_.int_]
    exact ans_val fs (fun _ => .int _) fun Q q => .inl ⟨_, _, rfl, rfl, q⟩
  · rename_i s t
    rw [bx.str_, by_.str_]
    simp only [D.add]
    split
    · rename_i h
      refine ans_val (v := .str (⟨s.toArray⟩ ++ ⟨t.toArray⟩)) fs (fun F' => ?_) fun Q q => .inr (.inl ⟨_, _, rfl, rfl, ?_, q⟩)
      · have e : ((⟨s.toArray⟩ : Str) ++ ⟨t.toArray⟩) = ⟨(s ++ t).toArray⟩ := by
          show (⟨s.toArray ++ t.toArray⟩ : Str) = _
          simp
        rw [e]; exact .str _
      · rw [szl_eq] at h
        simpa [Str.length] using h
    · trivial
  · obtain ⟨a, xs, rfl, ea, ra⟩ := bx.tup_
    obtain ⟨b, ys, rfl, eb, rb⟩ := by_.tup_
    simp only [D.add]
    split
    · rename_i h
      rw [szl_eq] at h
      intro Q q
      refine .inr (.inr (.inr ⟨a, b, xs, ys, rfl, rfl, SqT.of (fs _ _ ea), SqT.of (fs _ _ eb), by rw [ra.length, rb.length]; exact h, fun e => ?_, fun _ e => ?_, fun _ _ p n => ?_⟩))
      · subst e
        cases ra
        exact q F H (.refl fs) _ (.tup eb rb)
      · subst e
        cases rb
        exact q F H (.refl fs) _ (.tup ea (by simpa using ra))
      · exact q _ _ (.grow fs n) _ (.tup upd_same ((ra.append rb).on (same_upd (fs.free n))))
    · trivial
  · obtain ⟨a, xs, rfl, ea, ra⟩ := bx.lst_ fs
    obtain ⟨b, ys, rfl, eb, rb⟩ := by_.lst_ fs
    simp only [D.add]
    split
    · rename_i h
      rw [szl_eq] at h
      exact ans_lst fs (ra.append rb) fun Q q => .inr (.inr (.inl ⟨a, b, xs, ys, rfl, rfl, ea, eb, by rw [ra.length, rb.length]; exact h, q⟩))
    · trivial
theorem ok_sub {X : Cx} : ∃ r, OpR X (binaryOp .Sub) r ∧ Ok2 X.K xa r D.sub := by
  refine ⟨_, op_sub, fun F H x y d e fs bx by_ => ?_⟩
  cases d <;> cases e <;> try exact trivial
  rw [bx.int_, by_.int_]
  exact ans_val fs (fun _ => .int _) fun Q q => ⟨_, _, rfl, rfl, q⟩
theorem reps_rep {F : Hp} {xs : List V} {ds : List D} (r : Reps K xa F xs ds) : ∀ k : Nat, Reps K xa F (List.replicate k xs).flatten (List.replicate k ds).flatten
  | 0 => .nil
  | k + 1 => by
    simp only [List.replicate_succ, List.flatten_cons]
    exact r.append (reps_rep r k)
theorem ok_mul {X : Cx} : ∃ r, OpR X (binaryOp .Mult) r ∧ Ok2 X.K xa r D.mul := by
  refine ⟨_, op_mul.or op_rep, fun F H x y d e fs bx by_ => ?_⟩
  cases d <;> cases e <;> try exact trivial
  · rename_i i j
    rw [bx.int_, by_.int_]
    simp only [D.mul]
    split
    · rename_i h
      refine ans_val fs (fun _ => .int _) fun Q q => .inl ⟨i, j, rfl, rfl, ?_, q⟩
      simpa [smallI, CMul] using h
    · trivial
  · rename_i ds k
    obtain ⟨a, xs, rfl, ea, ra⟩ := bx.lst_ fs
    rw [by_.int_]
    simp only [D.mul]
    split
    · rename_i h
      simp only [Bool.and_eq_true, decide_eq_true_eq] at h
      obtain ⟨⟨h1, h2⟩, h3⟩ := h
      exact ans_lst fs (reps_rep ra _) fun Q q => .inr ⟨a, k, xs, rfl, rfl, ea, by omega, by omega, by rw [ra.length, ← szl_eq]; exact h3, q⟩
    · trivial
theorem ok_fdiv {X : Cx} : ∃ r, OpR X (binaryOp .FloorDiv) r ∧ Ok2 X.K xa r D.fdiv := by
  refine ⟨_, op_fdiv, fun F H x y d e fs bx by_ => ?_⟩
  cases d <;> cases e <;> try exact trivial
  rw [bx.int_, by_.int_]
  simp only [D.fdiv]
  split
  · rename_i h
    simp only [Bool.and_eq_true, decide_eq_true_eq] at h
    exact ans_val fs (fun _ => .int _) fun Q q => ⟨_, _, rfl, rfl, h, q⟩
  · trivial
theorem ok_mod {X : Cx} : ∃ r, OpR X (binaryOp .Mod) r ∧ Ok2 X.K xa r D.mod := by
  refine ⟨_, op_mod, fun F H x y d e fs bx by_ => ?_⟩
  cases d <;> cases e <;> try exact trivial
  rw [bx.int_, by_.int_]
  simp only [D.mod]
  split
  · rename_i h
    exact ans_val fs (fun _ => .int _) fun Q q => ⟨_, _, rfl, rfl, h, q⟩
  · trivial
theorem ok_pow {X : Cx} : ∃ r, OpR X (binaryOp .Pow) r ∧ Ok2 X.K xa r D.pow := by
  refine ⟨_, op_pow, fun F H x y d e fs bx by_ => ?_⟩
  cases d <;> cases e <;> try exact trivial
  rw [bx.int_, by_.int_]
  simp only [D.pow]
  split
  · rename_i h
    simp only [Bool.and_eq_true, decide_eq_true_eq] at h
    obtain ⟨⟨h1, h2⟩, h3⟩ := h
    exact ans_val fs (fun _ => .int _) fun Q q => ⟨_, _, rfl, rfl, ⟨h1, by omega, h3⟩, q⟩
  · trivial
theorem ok_neg {X : Cx} : ∃ r, UnR X (unaryOp .USub) r ∧ Ok1 X.K xa r D.neg := by
  refine ⟨_, un_neg, fun F H x d fs bx => ?_⟩
  cases d <;> try exact trivial
  rw [bx.int_]
  exact ans_val fs (fun _ => .int _) fun Q q => ⟨_, rfl, q⟩

/-! ### == -/
mutual
def toPy : D → PyData
  | .non => .none
  | .bl b => .bool b
  | .int i => .int i
  | .str s => .str ⟨s.toArray⟩
  | .tup xs => .tuple (toPys xs)
  | .lst xs => .list (toPys xs)
  | .dct _ _ => .none
  | .exc _ => .none
  | .inp ns => .list (ns.map PyData.int)
def toPys : List D → List PyData
  | [] => []
  | x :: xs => toPy x :: toPys xs
end
theorem eqvAll_ints : ∀ (ns ms : List Int), PyData.eqvAll (ns.map PyData.int) (ms.map PyData.int) = (ns == ms)
  | [], [] => by simp [PyData.eqvAll]
  | [], _ :: _ => by simp [PyData.eqvAll]
  | _ :: _, [] => by simp [PyData.eqvAll]
  | n :: ns, m :: ms => by
    simp only [List.map_cons, PyData.eqvAll, PyData.eqv, eqvAll_ints ns ms]
    rfl
theorem eqvAll_inp1 : ∀ (ns : List Int) (ds : List D), (∀ n, D.pls n ds = true → PyData.eqvAll (ns.map PyData.int) (toPys ds) = eqvI ns ds)
  | [], [], _, _ => by simp [PyData.eqvAll, toPys, eqvI]
  | [], d :: ds, _, _ => by cases d <;> simp [PyData.eqvAll, toPys, eqvI]
  | n :: ns, [], _, _ => by simp [PyData.eqvAll, toPys, eqvI]
  | n :: ns, d :: ds, k, h => by
    have h2 : D.pls k ds = true := by
      simp only [D.pls, Bool.and_eq_true] at h
      exact h.2
    have ih := eqvAll_inp1 ns ds k h2
    cases d <;> simp [PyData.eqvAll, PyData.eqv, toPys, toPy, eqvI, ih]
    all_goals simp [D.pls, D.pl] at h
theorem eqvAll_inp2 : ∀ (ns : List Int) (ds : List D), (∀ n, D.pls n ds = true → PyData.eqvAll (toPys ds) (ns.map PyData.int) = eqvI ns ds)
  | [], [], _, _ => by simp [PyData.eqvAll, toPys, eqvI]
  | [], d :: ds, _, _ => by cases d <;> simp [PyData.eqvAll, toPys, eqvI]
  | n :: ns, [], _, _ => by simp [PyData.eqvAll, toPys, eqvI]
  | n :: ns, d :: ds, k, h => by
    have h2 : D.pls k ds = true := by
      simp only [D.pls, Bool.and_eq_true] at h
      exact h.2
    have ih := eqvAll_inp2 ns ds k h2
    cases d <;> simp [PyData.eqvAll, PyData.eqv, toPys, toPy, eqvI, ih]
    · rw [BEq.comm]
    · rw [BEq.comm]
    all_goals simp [D.pls, D.pl] at h
theorem pls_cons {n : Nat} {x : D} {xs : List D} (h : D.pls n (x :: xs) = true) : D.pl n x = true ∧ D.pls n xs = true := by
  simpa [D.pls, Bool.and_eq_true] using h
theorem pl_lst {n : Nat} {xs : List D} (h : D.pl n (.lst xs) = true) : ∃ m, n = m + 1 ∧ D.pls m xs = true := by
  cases n with
  | zero => simp [D.pl] at h
  | succ m => exact ⟨m, rfl, by simpa [D.pl] using h⟩
theorem pl_tup {n : Nat} {xs : List D} (h : D.pl n (.tup xs) = true) : ∃ m, n = m + 1 ∧ D.pls m xs = true := by
  cases n with
  | zero => simp [D.pl] at h
  | succ m => exact ⟨m, rfl, by simpa [D.pl] using h⟩
mutual
theorem eqv_py : ∀ (d e : D) (n m : Nat), D.pl n d = true → D.pl m e = true → PyData.eqv (toPy d) (toPy e) = D.eqv d e
  | .non, e, _, m, _, h => by cases e <;> first | rfl | (simp [D.pl] at h; done) | simp [toPy, PyData.eqv, D.eqv]
  | .bl b, e, _, m, _, h => by cases e <;> first | rfl | (simp [D.pl] at h; done) | simp [toPy, PyData.eqv, D.eqv]
  | .int i, e, _, m, _, h => by cases e <;> first | rfl | (simp [D.pl] at h; done) | simp [toPy, PyData.eqv, D.eqv]
  | .str s, e, _, m, _, h => by
    cases e with
    | str t =>
      by_cases q : s = t
      · subst q; simp [toPy, PyData.eqv, D.eqv]
      · have q2 : (s == t) = false := by simpa using q
        have q3 : ¬ (⟨s.toArray⟩ : Str) = ⟨t.toArray⟩ := fun z => q (by
          have z2 := congrArg Str.cps z
          simpa using z2)
        simp only [toPy, PyData.eqv, D.eqv]
        rw [q2]
        simpa using q3
    | _ => first | rfl | (simp [D.pl] at h; done) | simp [toPy, PyData.eqv, D.eqv]
  | .dct _ _, _, n, _, h, _ => by simp [D.pl] at h
  | .exc _, _, n, _, h, _ => by simp [D.pl] at h
  | .inp ns, e, n, m, h, g => by
    cases e <;> first | (simp [D.pl] at g; done) | (simp [toPy, PyData.eqv, D.eqv]; done) | skip
    · obtain ⟨k, rfl, g⟩ := pl_lst g
      simp only [toPy, PyData.eqv, D.eqv]
      exact eqvAll_inp1 ns _ _ g
    · simp only [toPy, PyData.eqv, D.eqv]
      exact eqvAll_ints _ _
  | .lst xs, e, n, m, h, g => by
    obtain ⟨k, rfl, h⟩ := pl_lst h
    cases e <;> first | (simp [D.pl] at g; done) | (simp [toPy, PyData.eqv, D.eqv]; done) | skip
    · obtain ⟨l, rfl, g⟩ := pl_lst g
      simp only [toPy, PyData.eqv, D.eqv]
      exact eqvs_py xs _ k l h g
    · simp only [toPy, PyData.eqv, D.eqv]
      exact eqvAll_inp2 _ _ _ h
  | .tup xs, e, n, m, h, g => by
    obtain ⟨k, rfl, h⟩ := pl_tup h
    cases e <;> first | (simp [D.pl] at g; done) | (simp [toPy, PyData.eqv, D.eqv]; done) | skip
    obtain ⟨l, rfl, g⟩ := pl_tup g
    simp only [toPy, PyData.eqv, D.eqv]
    exact eqvs_py xs _ k l h g
theorem eqvs_py : ∀ (ds es : List D) (n m : Nat), D.pls n ds = true → D.pls m es = true → PyData.eqvAll (toPys ds) (toPys es) = D.eqvs ds es
  | [], [], _, _, _, _ => by simp [toPys, PyData.eqvAll, D.eqvs]
  | [], _ :: _, _, _, _, _ => by simp [toPys, PyData.eqvAll, D.eqvs]
  | _ :: _, [], _, _, _, _ => by simp [toPys, PyData.eqvAll, D.eqvs]
  | d :: ds, e :: es, n, m, h, g => by
    obtain ⟨h1, h2⟩ := pls_cons h
    obtain ⟨g1, g2⟩ := pls_cons g
    simp only [toPys, PyData.eqvAll, D.eqvs]
    rw [eqv_py d e n m h1 g1, eqvs_py ds es n m h2 g2]
end
theorem ints_lay : ∀ ns : List Int, PyData.canLayAll0 (ns.map PyData.int) = true ∧ PyData.depthAll (ns.map PyData.int) = 0
  | [] => by simp [PyData.canLayAll0, PyData.depthAll]
  | n :: ns => by
    obtain ⟨h1, h2⟩ := ints_lay ns
    simp [PyData.canLayAll0, PyData.canLay0, PyData.depthAll, PyData.depth, h1, h2]
mutual
theorem lay_py : ∀ (d : D) (n : Nat), D.pl n d = true → (toPy d).canLay0 = true ∧ (toPy d).depth ≤ n
  | .non, _, _ => by simp [toPy, PyData.canLay0, PyData.depth]
  | .bl _, _, _ => by simp [toPy, PyData.canLay0, PyData.depth]
  | .int _, _, _ => by simp [toPy, PyData.canLay0, PyData.depth]
  | .str s, _, h => by
    simp only [D.pl] at h
    refine ⟨?_, by simp [toPy, PyData.depth]⟩
    simp only [toPy, PyData.canLay0, PySem.PyData.strOk]
    simpa using h
  | .dct _ _, _, h => by simp [D.pl] at h
  | .exc _, _, h => by simp [D.pl] at h
  | .inp ns, n, h => by
    obtain ⟨h1, h2⟩ := ints_lay ns
    cases n with
    | zero => simp [D.pl] at h
    | succ m => simp [toPy, PyData.canLay0, PyData.depth, h1, h2]
  | .lst xs, n, h => by
    obtain ⟨k, rfl, h⟩ := pl_lst h
    obtain ⟨h1, h2⟩ := lays_py xs k h
    simp only [toPy, PyData.canLay0, PyData.depth]
    exact ⟨h1, by omega⟩
  | .tup xs, n, h => by
    obtain ⟨k, rfl, h⟩ := pl_tup h
    obtain ⟨h1, h2⟩ := lays_py xs k h
    simp only [toPy, PyData.canLay0, PyData.depth]
    exact ⟨h1, by omega⟩
theorem lays_py : ∀ (ds : List D) (n : Nat), D.pls n ds = true → PyData.canLayAll0 (toPys ds) = true ∧ PyData.depthAll (toPys ds) ≤ n
  | [], _, _ => by simp [toPys, PyData.canLayAll0, PyData.depthAll]
  | d :: ds, n, h => by
    obtain ⟨h1, h2⟩ := pls_cons h
    obtain ⟨a1, a2⟩ := lay_py d n h1
    obtain ⟨b1, b2⟩ := lays_py ds n h2
    simp only [toPys, PyData.canLayAll0, PyData.depthAll]
    exact ⟨by rw [a1, b1]; rfl, by omega⟩
end
theorem shaped_py {d : D} {n : Nat} (h : D.pl n d = true) (hn : n ≤ 64) : SeqAt.shaped (toPy d) = true := by
  obtain ⟨h1, h2⟩ := lay_py d n h
  unfold SeqAt.shaped
  rw [h1, decide_eq_true (by omega)]
  rfl
theorem dp_ints {H : Hp} : ∀ ns : List Int, DpAll K H (ns.map V.int) (ns.map PyData.int)
  | [] => .nil
  | n :: ns => .cons (.int n) (dp_ints ns)
mutual
theorem dp_of {F H : Hp} (fs : Same F H) : ∀ (d : D) (v : V) (n : Nat), D.pl n d = true → Rep K xa F v d → Dp K H v (toPy d)
  | .non, _, _, _, h => by cases h; exact .non
  | .bl _, _, _, _, h => by cases h; exact .bl _
  | .int _, _, _, _, h => by cases h; exact .int _
  | .str _, _, _, _, h => by cases h; exact .str _
  | .dct _ _, _, _, h, _ => by simp [D.pl] at h
  | .exc _, _, _, h, _ => by simp [D.pl] at h
  | .inp ns, _, _, _, h => by cases h with | inp e => exact .lst (fs.seq e) (dp_ints ns)
  | .lst xs, _, n, hn, h => by
    obtain ⟨k, rfl, hn⟩ := pl_lst hn
    cases h with | lst e r => exact .lst (SqL.of (fs _ _ e)) (dps_of fs xs _ k hn r)
  | .tup xs, _, n, hn, h => by
    obtain ⟨k, rfl, hn⟩ := pl_tup hn
    cases h with | tup e r => exact .tup (SqT.of (fs _ _ e)) (dps_of fs xs _ k hn r)
theorem dps_of {F H : Hp} (fs : Same F H) : ∀ (ds : List D) (vs : List V) (n : Nat), D.pls n ds = true → Reps K xa F vs ds → DpAll K H vs (toPys ds)
  | [], _, _, _, h => by cases h; exact .nil
  | d :: ds, _, n, hn, h => by
    obtain ⟨h1, h2⟩ := pls_cons hn
    cases h with | cons r t => exact .cons (dp_of fs d _ n h1 r) (dps_of fs ds _ n h2 t)
end
theorem dp_bor {F H : Hp} (fs : Same F H) {d : D} {v : V} {n : Nat} (hn : D.pl n d = true) (h : Bor K xa F H v d) : Dp K H v (toPy d) := by
  rcases h with h | ⟨a, rfl, h⟩
  · exact dp_of fs d v n hn h
  · cases d with
    | lst ds =>
      obtain ⟨xs, e, r⟩ := h
      obtain ⟨k, rfl, hn⟩ := pl_lst hn
      exact .lst (SqL.of e) (dps_of fs ds xs k hn r)
    | dct _ _ => simp [D.pl] at hn
    | _ => exact h.elim
theorem ok_eq {X : Cx} (hu : X.A.units + 64 < cLine) : ∃ r, OpR X (compareOp .Eq) r ∧ Ok2 X.K xa r D.eq := by
  refine ⟨_, op_eqD hu, fun F H x y d e fs bx by_ => ?_⟩
  unfold D.eq
  split
  · rename_i h
    simp only [Bool.and_eq_true] at h
    exact ans_val fs (fun _ => .bl _) fun Q q => ⟨toPy d, toPy e, dp_bor fs h.1 bx, dp_bor fs h.2 by_, shaped_py h.1 (by decide), shaped_py h.2 (by decide), by rw [eqv_py d e _ _ h.1 h.2]; exact q⟩
  · trivial
theorem ok_ne {X : Cx} (hu : X.A.units + 64 < cLine) : ∃ r, OpR X (compareOp .NotEq) r ∧ Ok2 X.K xa r D.ne := by
  refine ⟨_, op_neD hu, fun F H x y d e fs bx by_ => ?_⟩
  unfold D.ne
  split
  · rename_i h
    simp only [Bool.and_eq_true] at h
    exact ans_val fs (fun _ => .bl _) fun Q q => ⟨toPy d, toPy e, dp_bor fs h.1 bx, dp_bor fs h.2 by_, shaped_py h.1 (by decide), shaped_py h.2 (by decide), by rw [eqv_py d e _ _ h.1 h.2]; exact q⟩
  · trivial
/-! ### < and its like, is -/
theorem ok_ltI {X : Cx} : ∃ r, OpR X (compareOp .Lt) r ∧ Ok2 X.K xa r D.ltI := by
  refine ⟨_, op_lt, fun F H x y d e fs bx by_ => ?_⟩
  cases d <;> cases e <;> try exact trivial
  rw [bx.int_, by_.int_]
  exact ans_val fs (fun _ => .bl _) fun Q q => ⟨_, _, rfl, rfl, q⟩
theorem ok_leI {X : Cx} : ∃ r, OpR X (compareOp .LtE) r ∧ Ok2 X.K xa r D.leI := by
  refine ⟨_, op_le, fun F H x y d e fs bx by_ => ?_⟩
  cases d <;> cases e <;> try exact trivial
  rw [bx.int_, by_.int_]
  exact ans_val fs (fun _ => .bl _) fun Q q => ⟨_, _, rfl, rfl, q⟩
theorem ok_gtI {X : Cx} : ∃ r, OpR X (compareOp .Gt) r ∧ Ok2 X.K xa r D.gtI := by
  refine ⟨_, op_gt, fun F H x y d e fs bx by_ => ?_⟩
  cases d <;> cases e <;> try exact trivial
  rw [bx.int_, by_.int_]
  exact ans_val fs (fun _ => .bl _) fun Q q => ⟨_, _, rfl, rfl, q⟩
theorem ok_geI {X : Cx} : ∃ r, OpR X (compareOp .GtE) r ∧ Ok2 X.K xa r D.geI := by
  refine ⟨_, op_ge, fun F H x y d e fs bx by_ => ?_⟩
  cases d <;> cases e <;> try exact trivial
  rw [bx.int_, by_.int_]
  exact ans_val fs (fun _ => .bl _) fun Q q => ⟨_, _, rfl, rfl, q⟩
theorem non_iff {F H : Hp} {x : V} {d : D} (bx : Bor K xa F H x d) : decide (x = .non) = d.isNon := by
  cases d with
  | non => rw [bx.non_]; rfl
  | bl b => rw [bx.bl_]; rfl
  | int b => rw [bx.int_]; rfl
  | str b => rw [bx.str_]; rfl
  | tup _ => obtain ⟨a, xs, rfl, _⟩ := bx.tup_; rfl
  | lst _ => rcases bx with h | ⟨a, rfl, h⟩; cases h; rfl; rfl
  | dct _ _ => rcases bx with h | ⟨a, rfl, h⟩; cases h <;> rfl; rfl
  | exc _ => rcases bx with h | ⟨a, rfl, h⟩; cases h; rfl; rfl
  | inp _ => rcases bx with h | ⟨a, rfl, h⟩; cases h; rfl; rfl
end
end Tw

set_option autoImplicit false
set_option Elab.async false
set_option linter.all false
set_option maxRecDepth 100000
/-! Tw, the operators, further: in, subscripts, slices, built-ins by values. -/
namespace Tw
open PySem L2
section
variable {K : PySem.W.Frag} {xa : XA}
theorem ok_isB {X : Cx} (b : Bool) : ∃ r, OpR X (compareOp .Is) r ∧ ∀ (F H : Hp) (x : V) (d : D), Same F H → Bor X.K xa F H x d → Ans X.K xa F H (D.isB b d) (r x (.bl b) H) := by
  refine ⟨_, op_isBl, fun F H x d fs bx => ?_⟩
  cases d <;> try exact trivial
  rename_i a
  rw [bx.bl_]
  refine ans_val fs (fun _ => .bl _) fun Q q => ⟨a, b, rfl, rfl, ?_⟩
  have e : (a == b) = decide (a = b) := by cases a <;> cases b <;> rfl
  rw [← e]; exact q
theorem ok_notB {X : Cx} (b : Bool) : ∃ r, OpR X (compareOp .IsNot) r ∧ ∀ (F H : Hp) (x : V) (d : D), Same F H → Bor X.K xa F H x d → Ans X.K xa F H (D.notB b d) (r x (.bl b) H) := by
  refine ⟨_, op_notBl, fun F H x d fs bx => ?_⟩
  cases d <;> try exact trivial
  rename_i a
  rw [bx.bl_]
  refine ans_val fs (fun _ => .bl _) fun Q q => ⟨a, b, rfl, rfl, ?_⟩
  have e : (a == b) = decide (a = b) := by cases a <;> cases b <;> rfl
  rw [← e]; exact q

/-! ### keys -/
theorem keyT_inj {p q : Ky} {k : List Key} (h : keyT p = some k) (g : keyT q = some k) : p = q := by
  cases p <;> cases q <;> simp [keyT] at h g
  rename_i a b
  subst h
  have inj : ∀ (a b : List (Int ⊕ Nm)), b.map leafK = a.map leafK → a = b := by
    intro a
    induction a with
    | nil => intro b e; cases b <;> simp at e ⊢
    | cons x a ih =>
      intro b e
      cases b with
      | nil => simp at e
      | cons y b =>
        simp only [List.map_cons, List.cons.injEq] at e
        rw [ih b e.2]
        have e1 := e.1
        cases x <;> cases y <;> simp [leafK] at e1 ⊢
        · exact e1.symm
        · exact e1.symm
  rw [inj a b g]
theorem keyK_inj {p q : Ky} {k : Key} (h : keyK p = some k) (g : keyK q = some k) : p = q := by
  cases p <;> cases q <;> simp [keyK] at h g
  · subst h; simp at g; rw [g]
  · subst h; simp at g
  · subst h; simp at g
  · subst h; simp at g; rw [g]
theorem repK_get {F : Hp} {q : Ky} {k : Key} (hk : keyK q = some k) : ∀ {kvs : List (Key × V)} {ds : List (Ky × D)}, RepK K xa F kvs ds → match kget q ds with
    | some d => ∃ v, valV kvs k = some v ∧ Rep K xa F v d
    | none => valV kvs k = none
  | _, _, .nil => by simp [kget, valV]
  | _, _, .cons (k := k') (v := v) (kvs := kvs) (q := q') (d := d) (ds := ds) e r t => by
    unfold kget
    by_cases h : q' = q
    · subst h
      rw [if_pos rfl]
      rw [hk] at e
      cases e
      exact ⟨v, valV_pos rfl, r⟩
    · rw [if_neg h]
      have h' : ¬ k' = k := fun z => h (keyK_inj e (z ▸ hk))
      rw [valV_neg h']
      exact repK_get hk t
theorem repT_get {F : Hp} {q : Ky} {k : List Key} (hk : keyT q = some k) : ∀ {kvs : List (List Key × V)} {ds : List (Ky × D)}, RepT K xa F kvs ds → match kget q ds with
    | some d => ∃ v, valV kvs k = some v ∧ Rep K xa F v d
    | none => valV kvs k = none
  | _, _, .nil => by simp [kget, valV]
  | _, _, .cons (k := k') (v := v) (kvs := kvs) (q := q') (d := d) (ds := ds) e r t => by
    unfold kget
    by_cases h : q' = q
    · subst h
      rw [if_pos rfl]
      rw [hk] at e
      cases e
      exact ⟨v, valV_pos rfl, r⟩
    · rw [if_neg h]
      have h' : ¬ k' = k := fun z => h (keyT_inj e (z ▸ hk))
      rw [valV_neg h']
      exact repT_get hk t
theorem leaves_vals {F : Hp} : ∀ {xs : List V} {ds : List D} {ks : List (Int ⊕ Nm)}, Reps K xa F xs ds → leaves? ds = some ks → xs = (ks.map leafK).map kV
  | _, _, ks, .nil, e => by simp [leaves?] at e; subst e; rfl
  | _, _, ks, .cons (v := v) (vs := vs) (d := d) (ds := ds) r t, e => by
    unfold leaves? at e
    cases h1 : leaf? d with
    | none => rw [h1] at e; cases e
    | some a =>
      cases h2 : leaves? ds with
      | none => rw [h1, h2] at e; cases e
      | some rr =>
        rw [h1, h2] at e
        have e' : a :: rr = ks := Option.some.inj e
        subst e'
        have ih := leaves_vals t h2
        rw [ih]
        cases d <;> simp [leaf?] at h1
        · subst h1; cases r; rfl
        · subst h1; cases r; rfl
/-- a key of either kind -/
theorem key_val {F H : Hp} (fs : Same F H) {x : V} {d : D} {q : Ky} (bx : Bor K xa F H x d) (e : d.key? = some q) : (∃ k, keyK q = some k ∧ x = kV k) ∨ ∃ k b, keyT q = some k ∧ x = .ref b ∧ F b = some (.tup (k.map kV)) := by
  cases d <;> simp [D.key?] at e
  · subst e; exact .inl ⟨_, rfl, bx.int_⟩
  · subst e; exact .inl ⟨_, rfl, bx.str_⟩
  · obtain ⟨ks, e1, e2⟩ := e
    subst e2
    obtain ⟨a, xs, rfl, ea, r⟩ := bx.tup_
    rw [leaves_vals r e1] at ea
    exact .inr ⟨_, a, rfl, rfl, ea⟩
theorem kf_key {t : Bool} {d : D} {q : Ky} (e : d.kf t = some q) : d.key? = some q ∧ q.isTup = t := by
  unfold D.kf at e
  cases h : d.key? with
  | none => rw [h] at e; cases e
  | some k =>
    rw [h] at e
    simp only at e
    split at e
    · rename_i z
      cases e
      exact ⟨rfl, by simpa using z⟩
    · cases e
/-- what a dict gives at a key -/
theorem dget_of {F H : Hp} (fs : Same F H) {x y : V} {t : Bool} {ds : List (Ky × D)} {d : D} {q : Ky} (bd : Bor K xa F H x (.dct t ds)) (bk : Bor K xa F H y d) (e : d.kf t = some q) :
    ∃ a o, x = .ref a ∧ DGet H a y o ∧ IsD H a ∧ match kget q ds with
      | some d => ∃ v, o = some v ∧ Rep K xa F v d
      | none => o = none := by
  obtain ⟨ek, et⟩ := kf_key e
  clear e
  cases t with
  | false =>
    obtain ⟨a, kvs, rfl, h, r⟩ := bd.dK_ fs
    rcases key_val fs bk ek with ⟨k, hk, rfl⟩ | ⟨k, b, hk, rfl, eb⟩
    · exact ⟨a, valV kvs k, rfl, .inl ⟨kvs, k, h, rfl, rfl⟩, .inl ⟨_, h⟩, by
        have z := repK_get hk r
        cases h : kget q ds <;> rw [h] at z <;> simpa using z⟩
    · cases q <;> first | (simp [keyT] at hk; done) | (simp [Ky.isTup] at et; done)
  | true =>
    obtain ⟨a, kvs, rfl, h, r⟩ := bd.dT_ fs
    rcases key_val fs bk ek with ⟨k, hk, rfl⟩ | ⟨k, b, hk, rfl, eb⟩
    · cases q <;> first | (simp [keyK] at hk; done) | (simp [Ky.isTup] at et; done)
    · exact ⟨a, valV kvs k, rfl, .inr ⟨kvs, k, b, h, rfl, fs _ _ eb, rfl⟩, .inr ⟨_, h⟩, by
        have z := repT_get hk r
        cases h : kget q ds <;> rw [h] at z <;> simpa using z⟩

/-! ### in -/
theorem opr_din {X : Cx} (hu : X.A.units + 1 < cLine) : OpR X (compareOp .In) (fun y x H Q => ∃ a o, x = .ref a ∧ DGet H a y o ∧ Q (.bl o.isSome) H) := by
  intro pins s σ H y x u v Q I ry rx h
  obtain ⟨a, o, rfl, g, q⟩ := h
  obtain rfl : v = Value.ref a := rx
  exact d_in hu I g ry fun s' I' => ⟨.bl o.isSome, H, I', rfl, q⟩
theorem opr_dnotin {X : Cx} (hu : X.A.units + 1 < cLine) : OpR X (compareOp .NotIn) (fun y x H Q => ∃ a o, x = .ref a ∧ DGet H a y o ∧ Q (.bl (!o.isSome)) H) := by
  intro pins s σ H y x u v Q I ry rx h
  obtain ⟨a, o, rfl, g, q⟩ := h
  obtain rfl : v = Value.ref a := rx
  exact d_notIn hu I g ry fun s' I' => ⟨.bl (!o.isSome), H, I', rfl, q⟩
theorem eqv_any {d : D} {n m : Nat} (hd : D.pl n d = true) : ∀ {ys : List D}, D.pls m ys = true → ((toPys ys).any fun z => PyData.eqv z (toPy d)) = ys.any fun y => D.eqv y d
  | [], _ => rfl
  | y :: ys, h => by
    obtain ⟨h1, h2⟩ := pls_cons h
    simp only [toPys, List.any_cons]
    rw [eqv_any hd h2, eqv_py y d m n h1 hd]
/-- x in, not in a list, a tuple of plain data -/
def rInP (K : PySem.W.Frag) (neg : Bool) : R2 := fun x y H Q => ∃ (d : PyData) (ds : List PyData) (n : Nat), Dp K H x d ∧ (Dp K H y (.list ds) ∨ Dp K H y (.tuple ds)) ∧ d.canLay0 = true ∧ PyData.canLayAll0 ds = true ∧ PyData.depthAll ds ≤ 40 ∧
  Q (.bl (if neg then !ds.any fun z => PyData.eqv z d else ds.any fun z => PyData.eqv z d)) H
theorem opr_inP {X : Cx} (hu : X.A.units + 64 < cLine) : OpR X (compareOp .In) (rInP X.K false) := by
  intro pins s σ H x y u v Q I rx ry h
  obtain ⟨d, ds, n, hx, hy, l1, l2, dp, q⟩ := h
  obtain ⟨as, r1⟩ := Dp.reads I d x u hx rx
  have room : X.A.units + 1 + min (PyData.depthAll ds) d.depth < cLine := by
    have := Nat.min_le_left (PyData.depthAll ds) d.depth
    omega
  rcases hy with hy | hy
  · obtain ⟨bs, r2⟩ := Dp.reads I (.list ds) y v hy ry
    exact SeqAt.in_list_reads r2 r1 l2 l1 room ⟨.bl _, H, I, rfl, q⟩
  · obtain ⟨bs, r2⟩ := Dp.reads I (.tuple ds) y v hy ry
    exact SeqAt.in_tuple_reads r2 r1 l2 l1 room ⟨.bl _, H, I, rfl, q⟩
theorem opr_notInP {X : Cx} (hu : X.A.units + 64 < cLine) : OpR X (compareOp .NotIn) (rInP X.K true) := by
  intro pins s σ H x y u v Q I rx ry h
  obtain ⟨d, ds, n, hx, hy, l1, l2, dp, q⟩ := h
  obtain ⟨as, r1⟩ := Dp.reads I d x u hx rx
  have room : X.A.units + 1 + min (PyData.depthAll ds) d.depth < cLine := by
    have := Nat.min_le_left (PyData.depthAll ds) d.depth
    omega
  rcases hy with hy | hy
  · obtain ⟨bs, r2⟩ := Dp.reads I (.list ds) y v hy ry
    exact SeqAt.notIn_list_reads r2 r1 l2 l1 room ⟨.bl _, H, I, rfl, q⟩
  · obtain ⟨bs, r2⟩ := Dp.reads I (.tuple ds) y v hy ry
    exact SeqAt.notIn_tuple_reads r2 r1 l2 l1 room ⟨.bl _, H, I, rfl, q⟩
theorem rInP_of {F H : Hp} (fs : Same F H) {x y : V} {d e : D} {ds : List D} (he : e = .lst ds ∨ e = .tup ds) (hx : x = x) (bx : Bor K xa F H x d) (by_ : Bor K xa F H y e) (g : d.good = true) (p : D.pl 40 e = true) (neg : Bool) {Q : VK}
    (q : Q (.bl (if neg then !ds.any fun z => D.eqv z d else ds.any fun z => D.eqv z d)) H) : rInP K neg x y H Q := by
  have pk : ∃ k, 40 = k + 1 ∧ D.pls k ds = true := by
    rcases he with rfl | rfl
    · exact pl_lst p
    · exact pl_tup p
  obtain ⟨k, hk, pk⟩ := pk
  obtain ⟨a1, a2⟩ := lays_py ds k pk
  refine ⟨toPy d, toPys ds, 0, dp_bor fs g bx, ?_, (lay_py d _ g).1, a1, by omega, ?_⟩
  · rcases he with rfl | rfl
    · exact .inl (by have := dp_bor fs p by_; simpa [toPy] using this)
    · exact .inr (by have := dp_bor fs p by_; simpa [toPy] using this)
  · rw [eqv_any g pk]
    exact q
theorem has_cases {d e : D} {b : Bool} (h : D.has d e = some b) : (∃ ds, (e = .lst ds ∨ e = .tup ds) ∧ d.good = true ∧ D.pl 40 e = true ∧ b = ds.any fun y => D.eqv y d) ∨ (∃ c s, d = .str [c] ∧ e = .str s ∧ b = decide (c ∈ s)) ∨ ∃ t kvs q, e = .dct t kvs ∧ d.kf t = some q ∧ b = khas q kvs := by
  cases e with
  | lst ds =>
    simp only [D.has] at h
    split at h
    · rename_i z
      simp only [Bool.and_eq_true] at z
      exact .inl ⟨ds, .inl rfl, z.1, z.2, (Option.some.inj h).symm⟩
    · cases h
  | tup ds =>
    simp only [D.has] at h
    split at h
    · rename_i z
      simp only [Bool.and_eq_true] at z
      exact .inl ⟨ds, .inr rfl, z.1, z.2, (Option.some.inj h).symm⟩
    · cases h
  | str s =>
    cases d <;> simp only [D.has] at h <;> try cases h
    rename_i x
    split at h
    · exact .inr (.inl ⟨_, _, rfl, rfl, (Option.some.inj h).symm⟩)
    · cases h
  | dct t kvs =>
    simp only [D.has] at h
    cases z : d.kf t with
    | none => rw [z] at h; cases h
    | some q => rw [z] at h; exact .inr (.inr ⟨t, kvs, q, rfl, z, (Option.some.inj h).symm⟩)
  | _ => cases d <;> simp [D.has] at h
theorem ok_in {X : Cx} (hu : X.A.units + 64 < cLine) : ∃ r, OpR X (compareOp .In) r ∧ Ok2 X.K xa r D.isIn := by
  refine ⟨_, (opr_inP hu).or (op_in_sign.or (opr_din (by omega))), fun F H x y d e fs bx by_ => ?_⟩
  unfold D.isIn
  cases h : D.has d e with
  | none => trivial
  | some b =>
    refine ans_val fs (fun _ => .bl _) fun Q q => ?_
    rcases has_cases h with ⟨ds, he, g, p, rfl⟩ | ⟨c, s, rfl, rfl, rfl⟩ | ⟨t, kvs, k, rfl, hk, rfl⟩
    · exact .inl (rInP_of fs he rfl bx by_ g p false (by simpa using q))
    · rw [bx.str_, by_.str_]
      exact .inr (.inl ⟨c, _, rfl, rfl, by simpa using q⟩)
    · obtain ⟨a, o, rfl, g, _, m⟩ := dget_of fs by_ bx hk
      refine .inr (.inr ⟨a, o, rfl, g, ?_⟩)
      unfold khas at q
      cases z : kget k kvs with
      | none => rw [z] at m q; rw [m]; exact q
      | some w => rw [z] at m q; obtain ⟨v, rfl, _⟩ := m; exact q
theorem ok_notIn {X : Cx} (hu : X.A.units + 64 < cLine) : ∃ r, OpR X (compareOp .NotIn) r ∧ Ok2 X.K xa r D.notIn := by
  refine ⟨_, (opr_notInP hu).or (op_notIn_sign.or (opr_dnotin (by omega))), fun F H x y d e fs bx by_ => ?_⟩
  unfold D.notIn
  cases h : D.has d e with
  | none => trivial
  | some b =>
    refine ans_val fs (fun _ => .bl _) fun Q q => ?_
    rcases has_cases h with ⟨ds, he, g, p, rfl⟩ | ⟨c, s, rfl, rfl, rfl⟩ | ⟨t, kvs, k, rfl, hk, rfl⟩
    · exact .inl (rInP_of fs he rfl bx by_ g p true (by simpa using q))
    · rw [bx.str_, by_.str_]
      exact .inr (.inl ⟨c, _, rfl, rfl, by simpa using q⟩)
    · obtain ⟨a, o, rfl, g, _, m⟩ := dget_of fs by_ bx hk
      refine .inr (.inr ⟨a, o, rfl, g, ?_⟩)
      unfold khas at q
      cases z : kget k kvs with
      | none => rw [z] at m q; rw [m]; exact q
      | some w => rw [z] at m q; obtain ⟨v, rfl, _⟩ := m; exact q

/-! ### places, slices -/
theorem atI_reps {F : Hp} {xs : List V} {ds : List D} {i : Int} {d : D} (r : Reps K xa F xs ds) (h : Tw.atI ds i = some d) : ∃ v, L2.atI xs i = some v ∧ Rep K xa F v d := by
  unfold Tw.atI at h
  unfold L2.atI L2.ixN
  rw [r.length]
  by_cases h0 : 0 ≤ i
  · rw [if_pos h0] at h ⊢
    obtain ⟨v, e, q⟩ := r.get h
    have hl := (List.getElem?_eq_some_iff.mp h).1
    rw [if_pos (by omega)]
    exact ⟨v, e, q⟩
  · rw [if_neg h0] at h ⊢
    by_cases h1 : -(ds.length : Int) ≤ i
    · rw [if_pos h1] at h ⊢
      obtain ⟨v, e, q⟩ := r.get h
      exact ⟨v, e, q⟩
    · rw [if_neg h1] at h; cases h
theorem atI_cps {s : Nm} {i : Int} {c : Nat} (h : Tw.atI s i = some c) : L2.atI s i = some c := by
  unfold Tw.atI at h
  unfold L2.atI L2.ixN
  by_cases h0 : 0 ≤ i
  · rw [if_pos h0] at h ⊢
    have hl := (List.getElem?_eq_some_iff.mp h).1
    rw [if_pos (by omega)]
    exact h
  · rw [if_neg h0] at h ⊢
    by_cases h1 : -(s.length : Int) ≤ i
    · rw [if_pos h1] at h ⊢; exact h
    · rw [if_neg h1] at h; cases h
theorem atI_ints {s : List Int} {i : Int} {c : Int} (h : Tw.atI s i = some c) : L2.atI (s.map V.int) i = some (.int c) := by
  unfold Tw.atI at h
  unfold L2.atI L2.ixN
  rw [List.length_map]
  by_cases h0 : 0 ≤ i
  · rw [if_pos h0] at h ⊢
    have hl := (List.getElem?_eq_some_iff.mp h).1
    rw [if_pos (by omega)]
    simp [h]
  · rw [if_neg h0] at h ⊢
    by_cases h1 : -(s.length : Int) ≤ i
    · rw [if_pos h1] at h ⊢; simp [h]
    · rw [if_neg h1] at h; cases h
theorem ix_dict {X : Cx} (hu : X.A.units + 1 < cLine) : IxR X (fun x y H Q => ∃ a v, x = .ref a ∧ DGet H a y (some v) ∧ Q v H) := by
  intro value slice pins s σ H x y v u Q I rx ry h hs
  obtain ⟨a, z, rfl, g, q⟩ := h
  obtain rfl : v = Value.ref a := rx
  have hT := dict_typeIs I g
  unfold PyProof.Rows.subscriptTail
  refine wpAny_bind ?_
  rw [getitemInPython_of_ne hT.not_modules]
  refine wpAny_bind (wpAny_specialOf hT PySem.F.slot_dict_getitem.lookup ?_)
  have last : wpAny (model X.prog X.w) X.A (subscripted slice false (.ref a) u) (fun r s3 => wpAny (model X.prog X.w) X.A (letTemporaryGo value (.ref a) r >>= fun _ => pure r) (EP X pins σ Q) X.xe s3) X.xe s := by
    rw [hs]
    exact wpAny_operating (d_getItem hu I g ry fun w' s' I' rw' => wpAny_bind (wpAny_letTemporaryGo (wpAny_pure ⟨z, H, I', rw', q⟩)))
  first
    | exact wpAny_bind (wpAny_pure (wpAny_bind last))
    | exact wpAny_pure (wpAny_bind last)
    | exact wpAny_bind last
theorem ok_idx {X : Cx} (hu : X.A.units + 64 < cLine) : ∃ r, IxR X r ∧ Ok2 X.K xa r D.idx := by
  refine ⟨_, ix_seq.or (ix_dict (by omega)), fun F H x y d e fs bx by_ => ?_⟩
  cases d with
  | lst ds =>
    cases e <;> try exact trivial
    rename_i i
    obtain ⟨a, xs, rfl, ea, ra⟩ := bx.lst_ fs
    rw [by_.int_]
    simp only [D.idx]
    cases h : Tw.atI ds i with
    | none => trivial
    | some z =>
      obtain ⟨v, e, r⟩ := atI_reps ra h
      exact ans_rep fs r fun Q q => .inl (.inl ⟨a, xs, i, v, rfl, rfl, SqL.of ea, e, q⟩)
  | tup ds =>
    cases e <;> try exact trivial
    rename_i i
    obtain ⟨a, xs, rfl, ea, ra⟩ := bx.tup_
    rw [by_.int_]
    simp only [D.idx]
    cases h : Tw.atI ds i with
    | none => trivial
    | some z =>
      obtain ⟨v, e, r⟩ := atI_reps ra h
      exact ans_rep fs r fun Q q => .inl (.inr (.inl ⟨a, xs, i, v, rfl, rfl, SqT.of (fs _ _ ea), e, q⟩))
  | inp ns =>
    cases e <;> try exact trivial
    rename_i i
    obtain ⟨a, rfl, ea⟩ := bx.inp_
    rw [by_.int_]
    simp only [D.idx]
    cases h : Tw.atI ns i with
    | none => trivial
    | some z => exact ans_rep fs (.int _) fun Q q => .inl (.inl ⟨a, _, i, _, rfl, rfl, fs.seq ea, atI_ints h, q⟩)
  | str s =>
    cases e <;> try exact trivial
    rename_i i
    rw [bx.str_, by_.int_]
    simp only [D.idx]
    split
    · rename_i hl
      cases h : Tw.atI s i with
      | none => trivial
      | some z =>
        rw [szl_eq] at hl
        exact ans_rep fs (.str [z]) fun Q q => .inl (.inr (.inr ⟨_, i, z, rfl, rfl, by simpa [Str.length] using hl, by simpa using atI_cps h, q⟩))
    · trivial
  | dct t kvs =>
    simp only [D.idx]
    cases hk : e.kf t with
    | none => cases e <;> trivial
    | some k =>
      cases z : kget k kvs with
      | none => cases e <;> simp only [hk, z] <;> trivial
      | some w =>
        obtain ⟨a, o, rfl, g, _, m⟩ := dget_of fs bx by_ hk
        rw [z] at m
        obtain ⟨v, rfl, r⟩ := m
        cases e <;> simp only [hk, z] <;> exact ans_rep fs r fun Q q => Or.inr ⟨a, v, rfl, g, q⟩
  | _ => cases e <;> exact trivial
end
end Tw

set_option autoImplicit false
set_option Elab.async false
set_option linter.all false
set_option maxRecDepth 100000
/-! Tw, slices and built-in functions by values. -/
namespace Tw
open PySem L2
section
variable {K : PySem.W.Frag} {xa : XA}
/-! ### slices -/
theorem clip_six (n d : Nat) (i : Int) : clip n i = HT.sIx n d (some i) := rfl
theorem cut_six {α : Type} (xs : List α) (lo hi : Option Int) : cutL xs lo hi = (xs.drop (HT.sIx xs.length 0 lo)).take (HT.sIx xs.length xs.length hi - HT.sIx xs.length 0 lo) := by
  cases lo <;> cases hi <;> rfl
theorem cut_reps {F : Hp} {xs : List V} {ds : List D} (r : Reps K xa F xs ds) (lo hi : Option Int) : Reps K xa F (cutV xs lo hi) (cutL ds lo hi) := by
  rw [cut_six]
  unfold cutV
  rw [r.length]
  exact (r.drop _).take _
theorem cut_whole {α : Type} {xs : List α} {lo hi : Option Int} (h : HT.sIx xs.length 0 lo = 0 ∧ HT.sIx xs.length xs.length hi = xs.length) : cutL xs lo hi = xs := by
  rw [cut_six, h.1, h.2]; simp
def OkSl (K : PySem.W.Frag) (xa : XA) (r : V → Option Int → Option Int → Hp → VK → Prop) : Prop := ∀ (F H : Hp) (x : V) (d : D) (lo hi : Option Int), Same F H → Bor K xa F H x d →
  Ans K xa F H (D.cut lo hi d) (r x lo hi H)
theorem ok_slice {X : Cx} : ∃ r, SlR X r ∧ OkSl X.K xa r := by
  refine ⟨_, sl_list.or (sl_tupA.or sl_str), fun F H x d lo hi fs bx => ?_⟩
  cases d with
  | lst ds =>
    obtain ⟨a, xs, rfl, ea, ra⟩ := bx.lst_ fs
    exact ans_lst fs (cut_reps ra lo hi) fun Q q => .inl ⟨a, xs, rfl, SqL.of ea, q⟩
  | tup ds =>
    obtain ⟨a, xs, rfl, ea, ra⟩ := bx.tup_
    intro Q q
    refine .inr (.inl ⟨a, xs, rfl, SqT.of (fs _ _ ea), fun w => ?_, fun _ p n => ?_⟩)
    · refine q F H (.refl fs) _ (.tup ea ?_)
      rw [ra.length] at w
      rw [cut_whole w]; exact ra
    · exact q _ _ (.grow fs n) _ (.tup upd_same ((cut_reps ra lo hi).on (same_upd (fs.free n))))
  | str s =>
    rw [bx.str_]
    simp only [D.cut]
    split
    · rename_i h
      rw [szl_eq] at h
      refine ans_rep fs (.str _) fun Q q => .inr (.inr ⟨_, rfl, by simpa [Str.length] using h, ?_⟩)
      have e : cutS ⟨s.toArray⟩ lo hi = ⟨(cutL s lo hi).toArray⟩ := by
        rw [cut_six]
        unfold cutS
        simp [Str.length]
      rw [e]; exact q
    · trivial
  | _ => trivial

/-! ### built-in functions of one value -/
def OkC (K : PySem.W.Frag) (xa : XA) (r : List V → Hp → VK → Prop) (f : D → Res D) : Prop := ∀ (F H : Hp) (x : V) (d : D), Same F H → Bor K xa F H x d → Ans K xa F H (f d) (r [x] H)
theorem call_len_dK {X : Cx} : CallR X (.builtin "len") (fun xs H Q => ∃ (p : Addr) (kvs : List (Key × V)), xs = [.ref p] ∧ Rd H p (.dK kvs) ∧ Q (.int (kvs.length : Nat)) H) := by
  intro pins s σ H xs us Q I r h
  obtain ⟨p, kvs, rfl, e, q⟩ := h
  rw [Vals.ref1 r]
  exact d_len I e fun t s' I' => ⟨.int _, H, I', ⟨_, rfl⟩, q⟩
theorem repK_len {F : Hp} : ∀ {kvs : List (Key × V)} {ds : List (Ky × D)}, RepK K xa F kvs ds → kvs.length = ds.length
  | _, _, .nil => rfl
  | _, _, .cons _ _ t => by simp [repK_len t]
theorem repT_len {F : Hp} : ∀ {kvs : List (List Key × V)} {ds : List (Ky × D)}, RepT K xa F kvs ds → kvs.length = ds.length
  | _, _, .nil => rfl
  | _, _, .cons _ _ t => by simp [repT_len t]
theorem call_len_dT' {X : Cx} : CallR X (.builtin "len") (fun xs H Q => ∃ (p : Addr) (kvs : List (List Key × V)), xs = [.ref p] ∧ Rd H p (.dT kvs) ∧ Q (.int (kvs.length : Nat)) H) := by
  intro pins s σ H xs us Q I r h
  obtain ⟨p, kvs, rfl, e, q⟩ := h
  rw [Vals.ref1 r]
  obtain ⟨z, hd, xs, rel, dd⟩ := dt_rd I.hok e
  have hl : kvs.length = xs.length := Paired.length rel
  have hz : (xs.length : Int) < 2 ^ 63 := by
    have := line63
    omega
  refine call_len_dictH hd dd hz ?_
  rw [← hl]
  exact ⟨.int _, H, (I.tok _).tok _, ⟨_, rfl⟩, q⟩
theorem ok_len {X : Cx} : ∃ r, CallR X (.builtin "len") r ∧ OkC X.K xa r D.len := by
  refine ⟨_, call_len.or (call_len_dK.or call_len_dT'), fun F H x d fs bx => ?_⟩
  cases d with
  | lst ds =>
    obtain ⟨a, xs, rfl, ea, ra⟩ := bx.lst_ fs
    exact ans_rep fs (.int _) fun Q q => .inl ⟨_, xs.length, rfl, .inl ⟨xs, SqL.of ea, rfl⟩, by rw [ra.length]; exact q⟩
  | tup ds =>
    obtain ⟨a, xs, rfl, ea, ra⟩ := bx.tup_
    exact ans_rep fs (.int _) fun Q q => .inl ⟨_, xs.length, rfl, .inr ⟨xs, SqT.of (fs _ _ ea), rfl⟩, by rw [ra.length]; exact q⟩
  | inp ns =>
    obtain ⟨a, rfl, ea⟩ := bx.inp_
    exact ans_rep fs (.int _) fun Q q => .inl ⟨_, _, rfl, .inl ⟨_, fs.seq ea, rfl⟩, by rw [List.length_map]; exact q⟩
  | str s =>
    rw [bx.str_]
    simp only [D.len]
    split
    · rename_i h
      rw [szl_eq] at h
      exact ans_rep fs (.int _) fun Q q => .inl ⟨_, s.length, rfl, ⟨by simpa [Str.length] using h, by simp [Str.length]⟩, q⟩
    · trivial
  | dct t kvs =>
    cases t with
    | false =>
      obtain ⟨a, kv, rfl, e, r⟩ := bx.dK_ fs
      exact ans_rep fs (.int _) fun Q q => .inr (.inl ⟨a, kv, rfl, e, by rw [repK_len r]; exact q⟩)
    | true =>
      obtain ⟨a, kv, rfl, e, r⟩ := bx.dT_ fs
      exact ans_rep fs (.int _) fun Q q => .inr (.inr ⟨a, kv, rfl, e, by rw [repT_len r]; exact q⟩)
  | _ => trivial
theorem bools_vals {F : Hp} : ∀ {xs : List V} {ds : List D} {bs : List Bool}, Reps K xa F xs ds → bools? ds = some bs → xs = bs.map V.bl
  | _, _, bs, .nil, e => by simp [bools?] at e; subst e; rfl
  | _, _, bs, .cons (v := v) (d := d) r t, e => by
    cases d <;> simp [bools?] at e
    obtain ⟨rr, e1, e2⟩ := e
    subst e2
    rw [bools_vals t e1]
    cases r
    rfl
theorem ints_vals {F : Hp} : ∀ {xs : List V} {ds : List D} {bs : List Int}, Reps K xa F xs ds → ints? ds = some bs → xs = bs.map V.int
  | _, _, bs, .nil, e => by simp [ints?] at e; subst e; rfl
  | _, _, bs, .cons (v := v) (d := d) r t, e => by
    cases d <;> simp [ints?] at e
    obtain ⟨rr, e1, e2⟩ := e
    subst e2
    rw [ints_vals t e1]
    cases r
    rfl
theorem ok_all {X : Cx} (hc : X.calm = true) : ∃ r, CallR X (.builtin "all") r ∧ OkC X.K xa r D.all := by
  refine ⟨_, cr_all hc, fun F H x d fs bx => ?_⟩
  cases d <;> try exact trivial
  rename_i ds
  obtain ⟨a, xs, rfl, ea, ra⟩ := bx.lst_ fs
  simp only [D.all]
  cases h : bools? ds with
  | none => trivial
  | some bs => exact ans_rep fs (.bl _) fun Q q => ⟨a, bs, rfl, by rw [← bools_vals ra h]; exact SqL.of ea, q⟩
theorem ok_any {X : Cx} (hc : X.calm = true) : ∃ r, CallR X (.builtin "any") r ∧ OkC X.K xa r D.any := by
  refine ⟨_, cr_any hc, fun F H x d fs bx => ?_⟩
  cases d <;> try exact trivial
  rename_i ds
  obtain ⟨a, xs, rfl, ea, ra⟩ := bx.lst_ fs
  simp only [D.any]
  cases h : bools? ds with
  | none => trivial
  | some bs => exact ans_rep fs (.bl _) fun Q q => ⟨a, bs, rfl, by rw [← bools_vals ra h]; exact SqL.of ea, q⟩
theorem ok_sum {X : Cx} (hc : X.calm = true) : ∃ r, CallR X (.builtin "sum") r ∧ OkC X.K xa r D.sum := by
  refine ⟨_, cr_sum hc, fun F H x d fs bx => ?_⟩
  cases d <;> try exact trivial
  rename_i ds
  obtain ⟨a, xs, rfl, ea, ra⟩ := bx.lst_ fs
  simp only [D.sum]
  cases h : ints? ds with
  | none => trivial
  | some bs => exact ans_rep fs (.int _) fun Q q => ⟨a, bs, rfl, by rw [← ints_vals ra h]; exact SqL.of ea, q⟩
/-! list(..), tuple(..) -/
theorem repK_keys {F : Hp} : ∀ {kvs : List (Key × V)} {ds : List (Ky × D)}, RepK K xa F kvs ds → Reps K xa F (kvs.map fun kv => kV kv.1) (ds.map fun kv => kv.1.toD)
  | _, _, .nil => .nil
  | _, _, .cons (q := q) e _ t => by
    refine .cons ?_ (repK_keys t)
    cases q <;> simp [keyK] at e
    · subst e; exact .int _
    · subst e; exact .str _
theorem reps_leaves {F : Hp} : ∀ ks : List (Int ⊕ Nm), Reps K xa F ((ks.map leafK).map kV) (ks.map leafD)
  | [] => .nil
  | .inl i :: r => .cons (.int i) (reps_leaves r)
  | .inr s :: r => .cons (.str s) (reps_leaves r)
theorem repT_keys {F : Hp} : ∀ {kvs : List (List Key × V)} {ds : List (Ky × D)} {bs : List Addr}, RepT K xa F kvs ds → IsKeys F kvs bs → Reps K xa F (bs.map V.ref) (ds.map fun kv => kv.1.toD)
  | _, _, _, .nil, h => by cases h; exact .nil
  | _, _, _, .cons (q := q) e _ t, h => by
    cases h with
    | cons h1 h2 =>
      refine .cons ?_ (repT_keys t h2)
      cases q <;> simp [keyT] at e
      subst e
      exact .tup h1 (reps_leaves _)
/-- the keys' tuples may be shared -/
theorem keys_in {F H : Hp} (fs : Same F H) {kvs : List (List Key × V)} {bs : List Addr} (ks : IsKeys H kvs bs) : ∃ F', Ext xa.tb F H F' H ∧ IsKeys F' kvs bs := by
  induction ks with
  | nil => exact ⟨F, .refl fs, .nil⟩
  | cons h t ih =>
    rename_i kv b kvs bs
    obtain ⟨F1, x, k1⟩ := ih
    refine ⟨upd F1 b (.tup (kv.1.map kV)), ⟨fun c o e => ?_, x.h, fun c o e => ?_, fun c o e => ?_, fun t => (x.nt t).upd rfl⟩, ?_⟩
    · by_cases hc : c = b
      · subst hc
        rw [upd_same, ← h]
        exact (x.le _ _ (x.f _ _ e)).symm ▸ rfl
      · rw [upd_ne hc]; exact x.f _ _ e
    · by_cases hc : c = b
      · subst hc
        rw [upd_same] at e
        rw [← e]; exact h
      · rw [upd_ne hc] at e; exact x.le _ _ e
    · by_cases hc : c = b
      · subst hc
        rw [upd_same] at e
        cases e
        exact .inr (.inr ⟨_, rfl⟩)
      · rw [upd_ne hc] at e; exact x.new _ _ e
    · refine .cons upd_same ?_
      refine Paired.mapP k1 fun p c e => ?_
      by_cases hc : c = b
      · subst hc
        have e1 := x.le _ _ e
        rw [h] at e1
        rw [upd_same, e1]
      · rw [upd_ne hc]; exact e
/-- list(d), d locked or not -/
theorem call_keys {X : Cx} (hc : X.calm = true) : CallR X (.type "list") (fun xs H Q => ∃ (p : Addr) (kvs : List (Key × V)), xs = [.ref p] ∧ Rd H p (.dK kvs) ∧ ∀ q, H q = none → Q (.ref q) (upd H q (.lst (kvs.map fun kv => kV kv.1)))) := by
  intro pins s σ H xs us Q I r h
  obtain ⟨p, kvs, rfl, e, q⟩ := h
  rw [Vals.ref1 r]
  obtain ⟨hz, hm, vs, rel, dd⟩ := dk_rd I.hok e
  obtain ⟨ep, dat⟩ := dd.dictAt
  have len : kvs.length = vs.length := Paired.length rel
  refine PySem.W.kdl_call (PySem.W.kdl_dict (knd := mixKind X.prog X.w) (kvs := vs) (ep := ep) hm) (I.ok.hd hc) dat (by omega) fun h' tk acc n keeps stands got => ?_
  have vals : Vals (kvs.map fun kv => kV kv.1) acc.toList := by
    refine vals_of_at (by simp [got.1, len]) fun j x w h1 h2 => ?_
    obtain ⟨k, y, at1, is1⟩ := got.2 j w (by rw [← Array.getElem?_toList]; exact h2)
    have hk : (kvs[j]?).map (·.1) = some k := by
      have z := congrArg (fun l => l[j]?) (KV.keys rel)
      simp only [List.getElem?_map, at1] at z
      simpa using z
    rw [List.getElem?_map] at h1
    cases hj : kvs[j]? with
    | none => rw [hj] at hk; cases hk
    | some kv =>
      rw [hj] at hk h1
      simp at hk h1
      subst h1
      rw [hk]
      exact keyIs_rel is1
  have lens : (kvs.map fun kv => kV kv.1).length ≤ sizeLine := by rw [List.length_map]; exact hz
  exact ⟨.ref _, _, I.laid (o := .lst (kvs.map fun kv => kV kv.1)) keeps (Nat.le_refl _) ⟨lens, acc.toList, n, vals, by rw [Array.toArray_toList]; exact stands⟩, rfl, q _ (I.hok.fresh (Nat.le_refl _))⟩
/-- a new object, one's own -/
def AnsF (K : PySem.W.Frag) (xa : XA) (F H : Hp) (r : Res D) (p : VK → Prop) : Prop := match r with
  | .ok z => ∀ Q : VK, (∀ F' H', Ext xa.tb F H F' H' → ∀ a, H a = none → F' a = none → OwnAt K xa F' H' a z → Q (.ref a) H') → p Q
  | .err _ => False
  | .stk => True
theorem AnsF.post {F H : Hp} {r : Res D} {p : VK → Prop} {W : WX} {σ : Sl} {Q : VK} (a : AnsF K xa F H r p) (q : Post xa W σ F H r fun d F' H' => ∀ a, H a = none → F' a = none → OwnAt K xa F' H' a d → Q (.ref a) H') : p Q := by
  cases r with
  | ok z => exact a Q fun F' H' x a n nF o => q F' H' x a n nF o
  | err c => exact a.elim
  | stk => exact q.elim
/-- what is new may be shared -/
theorem AnsF.ans {F H : Hp} {r : Res D} {p : VK → Prop} (a : AnsF K xa F H r p) : Ans K xa F H r p := by
  cases r with
  | ok z =>
    intro Q q
    refine a Q fun F' H' x b n nF o => ?_
    obtain ⟨u, e, rr⟩ := OwnAt.rep' o nF
    exact q _ _ (x.share n nF e (o.notTbl e)) _ rr
  | err c => exact a.elim
  | stk => exact a
theorem ansF_lst {F H : Hp} {ds : List D} {xs : List V} {p : VK → Prop} (fs : Same F H) (r : Reps K xa F xs ds) (h : ∀ Q : VK, (∀ a, H a = none → Q (.ref a) (upd H a (.lst xs))) → p Q) : AnsF K xa F H (.ok (.lst ds)) p := fun Q q =>
  h Q fun a n => q F _ (.heap fs n) a n (fs.free n) ⟨xs, upd_same, r⟩
def OkF (K : PySem.W.Frag) (xa : XA) (r : List V → Hp → VK → Prop) (f : D → Res D) : Prop := ∀ (F H : Hp) (x : V) (d : D), Same F H → Bor K xa F H x d → AnsF K xa F H (f d) (r [x] H)
theorem OkF.c {r : List V → Hp → VK → Prop} {f : D → Res D} (h : OkF K xa r f) : OkC K xa r f := fun F H x d fs bx => (h F H x d fs bx).ans
theorem ok_toLst {X : Cx} (hc : X.calm = true) : ∃ r, CallR X (.type "list") r ∧ OkF X.K xa r D.toLst := by
  refine ⟨_, call_list_of.or ((call_keys hc).or (call_list_dT hc)), fun F H x d fs bx => ?_⟩
  cases d with
  | lst ds =>
    obtain ⟨a, xs, rfl, ea, ra⟩ := bx.lst_ fs
    exact ansF_lst fs ra fun Q q => .inl ⟨a, xs, rfl, .inl (SqL.of ea), q⟩
  | tup ds =>
    obtain ⟨a, xs, rfl, ea, ra⟩ := bx.tup_
    exact ansF_lst fs ra fun Q q => .inl ⟨a, xs, rfl, .inr (SqT.of (fs _ _ ea)), q⟩
  | dct t kvs =>
    cases t with
    | false =>
      obtain ⟨a, kv, rfl, e, r⟩ := bx.dK_ fs
      exact ansF_lst fs (repK_keys r) fun Q q => .inr (.inl ⟨a, kv, rfl, e, q⟩)
    | true =>
      obtain ⟨a, kv, rfl, e, r⟩ := bx.dT_ fs
      intro Q q
      refine .inr (.inr ⟨a, kv, rfl, e, fun p bs n ks => ?_⟩)
      obtain ⟨F', x, ks'⟩ := keys_in fs ks
      have nF : F' p = none := x.le.free n
      have x' : Ext xa.tb F H F' (upd H p (.lst (bs.map V.ref))) := x.trans (.heap x.le n)
      exact q F' _ x' p n nF ⟨_, upd_same, repT_keys (r.on x.f) ks'⟩
  | _ => trivial
theorem ok_toTup {X : Cx} : ∃ r, CallR X (.type "tuple") r ∧ OkC X.K xa r D.toTup := by
  refine ⟨_, call_tuple_of, fun F H x d fs bx => ?_⟩
  cases d with
  | lst ds =>
    obtain ⟨a, xs, rfl, ea, ra⟩ := bx.lst_ fs
    exact ans_tup fs ra fun Q q => ⟨a, xs, rfl, .inl ⟨SqL.of ea, q⟩⟩
  | tup ds =>
    obtain ⟨a, xs, rfl, ea, ra⟩ := bx.tup_
    exact ans_rep fs (.tup ea ra) fun Q q => ⟨a, xs, rfl, .inr ⟨SqT.of (fs _ _ ea), q⟩⟩
  | _ => trivial
/-- xs[::-1], a list -/
theorem ok_rev {ds : List D} {F H : Hp} {x : V} (fs : Same F H) (bx : Bor K xa F H x (.lst ds)) : ∃ a xs, x = .ref a ∧ SqL K H a xs ∧ Reps K xa F xs.reverse ds.reverse := by
  obtain ⟨a, xs, rfl, ea, ra⟩ := bx.lst_ fs
  exact ⟨a, xs, rfl, SqL.of ea, ra.reverse⟩
end
end Tw

set_option autoImplicit false
set_option Elab.async false
set_option linter.all false
set_option maxRecDepth 100000
/-! Tw, one rule for each combinator: expressions. -/
namespace Tw
open PySem L2
section
variable {X : Cx} {xa : XA} {W : WX} {a b c e : Expr} {fa fb fc f g : E} {pos p p2 : Pos} {x : Str}

/-! ### names, constants -/
theorem rb_var (i : Nat) (hN : X.N[i]? = some x := by rfl) (hv : Vis X.env.scope x := by first | exact Or.inl rfl | exact Or.inr (Or.inl rfl) | exact Or.inr (Or.inr rfl)) (hd : (x == ("__debug__" : Str)) = false := by decide)
    (hcd : (x == ("__classdict__" : Str)) = false := by decide) : RB X xa W (.Name x pos) (eB i) := ⟨peW (pe_var (i := i) hN hv hd hcd) fun σ H Q ⟨B, F, env, S, q⟩ => by
  show ∃ v, σ[i]? = some (some v) ∧ Q v H
  unfold eB at q
  cases z : env[i]? with
  | none => simp only [z] at q; exact q.elim
  | some s =>
    have k := S.sl i s z
    simp only [z] at q
    cases s with
    | un => exact q.elim
    | sh d => obtain ⟨v, hv, r⟩ := k; exact ⟨v, hv, q F H (.refl S.hF) v (.inl r)⟩
    | bor d => obtain ⟨v, hv, r⟩ := k; exact ⟨v, hv, q F H (.refl S.hF) v (r.on (.refl _) S.hB.k.up)⟩
    | own d => obtain ⟨u, hv, _, _, r⟩ := k; exact ⟨_, hv, q F H (.refl S.hF) _ (.inr ⟨u, rfl, r.obj⟩)⟩⟩
theorem re_var (i : Nat) (hN : X.N[i]? = some x := by rfl) (hv : Vis X.env.scope x := by first | exact Or.inl rfl | exact Or.inr (Or.inl rfl) | exact Or.inr (Or.inr rfl)) (hd : (x == ("__debug__" : Str)) = false := by decide)
    (hcd : (x == ("__classdict__" : Str)) = false := by decide) : RE X xa W (.Name x pos) (eV i) := ⟨peW (pe_var (i := i) hN hv hd hcd) fun σ H Q ⟨B, F, env, S, q⟩ => by
  show ∃ v, σ[i]? = some (some v) ∧ Q v H
  unfold eV at q
  cases z : env[i]? with
  | none => simp only [z] at q; exact q.elim
  | some s =>
    have k := S.sl i s z
    simp only [z] at q
    cases s with
    | un => exact q.elim
    | sh d => obtain ⟨v, hv, r⟩ := k; exact ⟨v, hv, q F H (.refl S.hF) v r⟩
    | bor d =>
      obtain ⟨v, hv, r⟩ := k
      simp only at q
      split at q
      · exact q.elim
      · rename_i nb
        exact ⟨v, hv, q F H (.refl S.hF) v (r.rep (by simpa using nb))⟩
    | own d => exact q.elim⟩
theorem re_const {t : TE} {d : D} {v : V} (h : PE X e t) (ht : ∀ σ H Q, Q v H → t σ H Q) (r : ∀ F, Rep X.K xa F v d) : RE X xa W e (eC d) := ⟨peW h fun σ H Q ⟨B, F, env, S, q⟩ => ht _ _ _ (q F H (.refl S.hF) v (r F))⟩
theorem re_int {i : Int} {j : Nat} : RE X xa W (.Constant (.int i) j pos) (eC (.int i)) := re_const pe_int (fun _ _ _ h => h) fun _ => .int _
theorem re_bl {i : Bool} {j : Nat} : RE X xa W (.Constant (.bool i) j pos) (eC (.bl i)) := re_const pe_bl (fun _ _ _ h => h) fun _ => .bl _
theorem re_non {j : Nat} : RE X xa W (.Constant .none j pos) (eC .non) := re_const pe_non (fun _ _ _ h => h) fun _ => .non
theorem rep_str {K : PySem.W.Frag} {F : Hp} (z : Str) {s : Nm} (h : z.cps.toList = s) : Rep K xa F (.str z) (.str s) := by
  obtain ⟨c⟩ := z
  have e : (⟨c⟩ : Str) = ⟨s.toArray⟩ := by rw [← h]
  rw [e]
  exact .str s
theorem re_str {z : Str} {j : Nat} (s : Nm) (h : z.cps.toList = s := by decide +kernel) : RE X xa W (.Constant (.str z) j pos) (eC (.str s)) := re_const pe_str (fun _ _ _ h => h) fun _ => rep_str z h
theorem re_glob {d : D} {v : V} {u : Value} (hg : Gl X x) (hm : X.mg x = some u) (r : RelV v u) (rp : ∀ F, Rep X.K xa F v d) (hd : (x == ("__debug__" : Str)) = false := by decide) : RE X xa W (.Name x pos) (eC d) :=
  re_const (pe_glob hg hm r hd) (fun _ _ _ h => h) rp

/-! ### operators -/
theorem re_op2 {r : R2} {F2 : D → D → Res D} {t : Expr} (h : PE X t (tOp r (pB X.K xa W fa) (pB X.K xa W fb))) (hr : Ok2 X.K xa r F2) : RE X xa W t (e2 F2 fa fb) := ⟨peW h fun σ H Q ⟨B, F, env, S, q⟩ =>
  ⟨B, F, env, S, (Post.bind (r := fa env) q).imp fun d1 F1 H1 _ x1 q1 v1 b1 => ⟨B, F1, env, S.ext x1, (Post.bind (r := fb env) q1).imp fun d2 F2 H2 _ x2 q2 v2 b2 =>
    (hr F2 H2 v1 v2 d1 d2 x2.le (b1.on x2.f x2.h.k.up) b2).post q2⟩⟩⟩
theorem re_bin {op : Operator} {F2 : D → D → Res D} (hr : ∃ r, OpR X (binaryOp op) r ∧ Ok2 X.K xa r F2) (ha : RB X xa W a fa) (hb : RB X xa W b fb) : RE X xa W (.BinOp a op b pos) (e2 F2 fa fb) := by
  obtain ⟨r, h1, h2⟩ := hr
  exact re_op2 (pe_op h1 ha.pe hb.pe) h2
theorem re_cmp {op : CmpOp} {F2 : D → D → Res D} (hr : ∃ r, OpR X (compareOp op) r ∧ Ok2 X.K xa r F2) (ha : RB X xa W a fa) (hb : RB X xa W b fb) (hm : behindInMarks op b = false := by first | exact nomark _ | rfl) : RE X xa W (.Compare a [op] [b] pos) (e2 F2 fa fb) := by
  obtain ⟨r, h1, h2⟩ := hr
  exact re_op2 (pe_cmpR h1 ha.pe hb.pe hm) h2
theorem re_un {op : UnaryOp} {F1 : D → Res D} (hr : ∃ r, UnR X (unaryOp op) r ∧ Ok1 X.K xa r F1) (ha : RB X xa W a fa) : RE X xa W (.UnaryOp op a pos) (e1 F1 fa) := by
  obtain ⟨r, h1, h2⟩ := hr
  exact ⟨peW (pe_un h1 ha.pe) fun σ H Q ⟨B, F, env, S, q⟩ => ⟨B, F, env, S, (Post.bind (r := fa env) q).imp fun d1 F1 H1 _ x1 q1 v1 b1 => (h2 F1 H1 v1 d1 x1.le b1).post q1⟩⟩
theorem re_sub {F2 : D → D → Res D} (hr : ∃ r, IxR X r ∧ Ok2 X.K xa r F2) (ha : RB X xa W a fa) (hb : RB X xa W b fb) (hs : PlainIx b := by exact fun _ _ => rfl) : RE X xa W (.Subscript a b pos) (e2 F2 fa fb) := by
  obtain ⟨r, h1, h2⟩ := hr
  exact re_op2 (pe_ix h1 ha.pe hb.pe hs) h2
/-- a test out of a comparison -/
theorem rt_op2 {r : R2} {F2 : D → D → Res D} {t : Expr} (h : PT X t (tTest (tOp r (pB X.K xa W fa) (pB X.K xa W fb)))) (hr : Ok2 X.K xa r F2) : RT X xa W t (tE (e2 F2 fa fb)) := ⟨ptW h fun σ H Q ⟨B, F, env, S, q⟩ =>
  ⟨B, F, env, S, (Post.bind (r := fa env) (Post.bind (r := e2 F2 fa fb env) q)).imp fun d1 F1 H1 _ x1 q1 v1 b1 => ⟨B, F1, env, S.ext x1, (Post.bind (r := fb env) q1).imp fun d2 F2' H2 _ x2 q2 v2 b2 =>
    (hr F2' H2 v1 v2 d1 d2 x2.le (b1.on x2.f x2.h.k.up) b2).post (q2.imp fun d3 F3 H3 _ x3 q3 v3 r3 => by
      cases d3 <;> try exact q3.elim
      cases r3
      exact ⟨_, rfl, q3 F3 H3 (.refl x3.le)⟩)⟩⟩⟩
theorem rt_cmp {op : CmpOp} {F2 : D → D → Res D} (hr : ∃ r, OpR X (compareOp op) r ∧ Ok2 X.K xa r F2) (ha : RB X xa W a fa) (hb : RB X xa W b fb) (hm : behindInMarks op b = false := by first | exact nomark _ | rfl) : RT X xa W (.Compare a [op] [b] pos) (tE (e2 F2 fa fb)) := by
  obtain ⟨r, h1, h2⟩ := hr
  exact rt_op2 (pt_cmpR h1 ha.pe hb.pe hm) h2
/-- a test out of a value -/
theorem rt_val (ha : RB X xa W a fa) (he : ∀ whole, isTrue a X.env whole = (do let v ← whole; standAt a.pos; holding [v] (truthy v)) := by intro _; rfl) : RT X xa W a (tE fa) := ⟨ptW (pt_val ha.pe he) fun σ H Q ⟨B, F, env, S, q⟩ =>
  ⟨B, F, env, S, (Post.bind (r := fa env) q).imp fun d1 F1 H1 _ x1 q1 v1 b1 => by
    cases d1 <;> try exact q1.elim
    rw [b1.bl_]
    exact ⟨_, rfl, q1 F1 H1 (.refl x1.le)⟩⟩⟩
/-! is, with a constant -/
theorem rt_of_const {op : CmpOp} {F1 : D → Res D} {r : R2} {v : V} {t : TE} (h1 : OpR X (compareOp op) r) (h2 : ∀ (F H : Hp) (x : V) (d : D), Same F H → Bor X.K xa F H x d → Ans X.K xa F H (F1 d) (r x v H)) (ha : RB X xa W a fa) (hb : PE X b t) (ht : ∀ σ H Q, Q v H → t σ H Q)
    (hm : behindInMarks op b = false) : RT X xa W (.Compare a [op] [b] pos) (tE (e1 F1 fa)) := ⟨ptW (pt_cmpR h1 ha.pe hb hm) fun σ H Q ⟨B, F, env, S, q⟩ =>
  ⟨B, F, env, S, (Post.bind (r := fa env) (Post.bind (r := e1 F1 fa env) q)).imp fun d1 F1' H1 _ x1 q1 v1 b1 => ht _ _ _ ((h2 F1' H1 v1 d1 x1.le b1).post (q1.imp fun d3 F3 H3 _ x3 q3 v3 r3 => by
      cases d3 <;> try exact q3.elim
      cases r3
      exact ⟨_, rfl, q3 F3 H3 (.refl x3.le)⟩))⟩⟩
theorem re_of_const {op : CmpOp} {F1 : D → Res D} {r : R2} {v : V} {t : TE} (h1 : OpR X (compareOp op) r) (h2 : ∀ (F H : Hp) (x : V) (d : D), Same F H → Bor X.K xa F H x d → Ans X.K xa F H (F1 d) (r x v H)) (ha : RB X xa W a fa) (hb : PE X b t) (ht : ∀ σ H Q, Q v H → t σ H Q)
    (hm : behindInMarks op b = false) : RE X xa W (.Compare a [op] [b] pos) (e1 F1 fa) := ⟨peW (pe_cmpR h1 ha.pe hb hm) fun σ H Q ⟨B, F, env, S, q⟩ =>
  ⟨B, F, env, S, (Post.bind (r := fa env) q).imp fun d1 F1' H1 _ x1 q1 v1 b1 => ht _ _ _ ((h2 F1' H1 v1 d1 x1.le b1).post q1)⟩⟩
theorem ok_isN : ∀ (F H : Hp) (x : V) (d : D), Same F H → Bor X.K xa F H x d → Ans X.K xa F H (D.isN d) ((fun x y H Q => y = V.non ∧ Q (.bl (decide (x = .non))) H : R2) x .non H) := fun F H x d fs bx => ans_val fs (fun _ => .bl _) fun Q q => ⟨rfl, by rw [non_iff bx]; exact q⟩
theorem ok_notN : ∀ (F H : Hp) (x : V) (d : D), Same F H → Bor X.K xa F H x d → Ans X.K xa F H (D.notN d) ((fun x y H Q => y = V.non ∧ Q (.bl (!decide (x = .non))) H : R2) x .non H) := fun F H x d fs bx => ans_val fs (fun _ => .bl _) fun Q q => ⟨rfl, by rw [non_iff bx]; exact q⟩
theorem rt_isN {j : Nat} (ha : RB X xa W a fa) : RT X xa W (.Compare a [.Is] [.Constant .none j p] pos) (tE (e1 D.isN fa)) := rt_of_const op_isN ok_isN ha pe_non (fun _ _ _ h => h) (nomark _)
theorem rt_notN {j : Nat} (ha : RB X xa W a fa) : RT X xa W (.Compare a [.IsNot] [.Constant .none j p] pos) (tE (e1 D.notN fa)) := rt_of_const op_notN ok_notN ha pe_non (fun _ _ _ h => h) (nomark _)
theorem re_isN {j : Nat} (ha : RB X xa W a fa) : RE X xa W (.Compare a [.Is] [.Constant .none j p] pos) (e1 D.isN fa) := re_of_const op_isN ok_isN ha pe_non (fun _ _ _ h => h) (nomark _)
theorem re_notN {j : Nat} (ha : RB X xa W a fa) : RE X xa W (.Compare a [.IsNot] [.Constant .none j p] pos) (e1 D.notN fa) := re_of_const op_notN ok_notN ha pe_non (fun _ _ _ h => h) (nomark _)
theorem rt_isB {j : Nat} {k : Bool} (ha : RB X xa W a fa) : RT X xa W (.Compare a [.Is] [.Constant (.bool k) j p] pos) (tE (e1 (D.isB k) fa)) := by
  obtain ⟨r, h1, h2⟩ := ok_isB (X := X) (xa := xa) k
  exact rt_of_const h1 h2 ha pe_bl (fun _ _ _ h => h) (nomark _)
theorem rt_notB {j : Nat} {k : Bool} (ha : RB X xa W a fa) : RT X xa W (.Compare a [.IsNot] [.Constant (.bool k) j p] pos) (tE (e1 (D.notB k) fa)) := by
  obtain ⟨r, h1, h2⟩ := ok_notB (X := X) (xa := xa) k
  exact rt_of_const h1 h2 ha pe_bl (fun _ _ _ h => h) (nomark _)
theorem re_isB {j : Nat} {k : Bool} (ha : RB X xa W a fa) : RE X xa W (.Compare a [.Is] [.Constant (.bool k) j p] pos) (e1 (D.isB k) fa) := by
  obtain ⟨r, h1, h2⟩ := ok_isB (X := X) (xa := xa) k
  exact re_of_const h1 h2 ha pe_bl (fun _ _ _ h => h) (nomark _)
theorem re_notB {j : Nat} {k : Bool} (ha : RB X xa W a fa) : RE X xa W (.Compare a [.IsNot] [.Constant (.bool k) j p] pos) (e1 (D.notB k) fa) := by
  obtain ⟨r, h1, h2⟩ := ok_notB (X := X) (xa := xa) k
  exact re_of_const h1 h2 ha pe_bl (fun _ _ _ h => h) (nomark _)
/-- a f b g c -/
theorem re_chain {op op' : CmpOp} {F2 G2 : D → D → Res D} (hr : ∃ r, OpR X (compareOp op) r ∧ Ok2 X.K xa r F2) (hr' : ∃ r, OpR X (compareOp op') r ∧ Ok2 X.K xa r G2) (ha : RB X xa W a fa) (hb : RB X xa W b fb) (hc : RB X xa W c fc)
    (hm : lastMarks [op, op'] [b, c] = false := by with_unfolding_all rfl) : RE X xa W (.Compare a [op, op'] [b, c] pos) (eCh F2 G2 fa fb fc) := by
  obtain ⟨r, o1, k1⟩ := hr
  obtain ⟨r', o2, k2⟩ := hr'
  refine ⟨peW (pe_chain o1 o2 ha.pe hb.pe hc.pe hm) fun σ H Q ⟨B, F, env, S, q⟩ => ?_⟩
  refine ⟨B, F, env, S, (Post.bind (r := fa env) q).imp fun d1 F1 H1 _ x1 q1 v1 b1 => ⟨B, F1, env, S.ext x1, (Post.bind (r := fb env) q1).imp fun d2 F2' H2 _ x2 q2 v2 b2 => ?_⟩⟩
  refine (k1 F2' H2 v1 v2 d1 d2 x2.le (b1.on x2.f x2.h.k.up) b2).post ((Post.bind (r := F2 d1 d2) q2).imp fun d3 F3 H3 _ x3 q3 v3 r3 => ?_)
  cases d3 <;> try exact q3.elim
  rename_i k _
  cases r3
  refine ⟨k, rfl, ?_⟩
  cases k with
  | false =>
    have q4 : Post xa W σ F3 H3 (Res.ok (D.bl false)) fun d F' H' => ∀ v, Rep X.K xa F' v d → Q v H' := q3
    exact q4 F3 H3 (.refl x3.le) _ (.bl false)
  | true =>
    simp only [if_true]
    refine ⟨B, F3, env, (S.ext x1).ext (x2.trans x3), (Post.bind (r := fc env) q3).imp fun d4 F4 H4 _ x4 q4 v4 b4 => ?_⟩
    exact (k2 F4 H4 v2 v4 d2 d4 x4.le (b2.on (x3.trans x4).f (x3.trans x4).h.k.up) b4).post q4
theorem rt_chain {op op' : CmpOp} {F2 G2 : D → D → Res D} (hr : ∃ r, OpR X (compareOp op) r ∧ Ok2 X.K xa r F2) (hr' : ∃ r, OpR X (compareOp op') r ∧ Ok2 X.K xa r G2) (ha : RB X xa W a fa) (hb : RB X xa W b fb) (hc : RB X xa W c fc)
    (hm : lastMarks [op, op'] [b, c] = false := by with_unfolding_all rfl) : RT X xa W (.Compare a [op, op'] [b, c] pos) (tE (eCh F2 G2 fa fb fc)) := by
  obtain ⟨r, o1, k1⟩ := hr
  obtain ⟨r', o2, k2⟩ := hr'
  refine ⟨ptW (pt_chain o1 o2 ha.pe hb.pe hc.pe hm) fun σ H Q ⟨B, F, env, S, q⟩ => ?_⟩
  refine ⟨B, F, env, S, (Post.bind (r := fa env) (Post.bind (r := eCh F2 G2 fa fb fc env) q)).imp fun d1 F1 H1 _ x1 q1 v1 b1 => ⟨B, F1, env, S.ext x1, (Post.bind (r := fb env) q1).imp fun d2 F2' H2 _ x2 q2 v2 b2 => ?_⟩⟩
  refine (k1 F2' H2 v1 v2 d1 d2 x2.le (b1.on x2.f x2.h.k.up) b2).post ((Post.bind (r := F2 d1 d2) q2).imp fun d3 F3 H3 _ x3 q3 v3 r3 => ?_)
  cases d3 <;> try exact q3.elim
  rename_i k _
  cases r3
  refine ⟨k, rfl, ?_⟩
  cases k with
  | false =>
    have q4 : Post xa W σ F3 H3 (Res.ok (D.bl false)) _ := q3
    exact ⟨false, rfl, q4 F3 H3 (.refl x3.le) F3 H3 (.refl x3.le)⟩
  | true =>
    simp only [if_true]
    refine ⟨B, F3, env, (S.ext x1).ext (x2.trans x3), (Post.bind (r := fc env) q3).imp fun d4 F4 H4 _ x4 q4 v4 b4 => ?_⟩
    exact (k2 F4 H4 v2 v4 d2 d4 x4.le (b2.on (x3.trans x4).f (x3.trans x4).h.k.up) b4).post (q4.imp fun d5 F5 H5 _ x5 q5 v5 r5 => by
      cases d5 <;> try exact q5.elim
      cases r5
      exact ⟨_, rfl, q5 F5 H5 (.refl x5.le)⟩)

/-! ### and, or, not -/
variable {ta tb tc : T} {rest : List Expr}
theorem rw_and1 (ha : RT X xa W a ta) : RW X xa W (.BoolOp .And [a] pos) ta := ⟨pw_and1 ha.pt⟩
theorem rw_or1 (ha : RT X xa W a ta) : RW X xa W (.BoolOp .Or [a] pos) ta := ⟨pw_or1 ha.pt⟩
theorem rw_and (ha : RT X xa W a ta) (hb : RW X xa W (.BoolOp .And (b :: rest) pos) tb) : RW X xa W (.BoolOp .And (a :: b :: rest) pos) (tAnd ta tb) := ⟨pwW (pw_and ha.pt hb.pw) fun σ H Q ⟨B, F, env, S, q⟩ =>
  ⟨B, F, env, S, (Post.bind (r := ta env) q).imp fun k F1 H1 _ x1 q1 => by
    cases k with
    | true => exact ⟨B, F1, env, S.ext x1, q1⟩
    | false => exact (q1 : Post xa W σ F1 H1 (Res.ok false) fun b _ H' => Q b H') F1 H1 (.refl x1.le)⟩⟩
theorem rw_or (ha : RT X xa W a ta) (hb : RW X xa W (.BoolOp .Or (b :: rest) pos) tb) : RW X xa W (.BoolOp .Or (a :: b :: rest) pos) (tOr ta tb) := ⟨pwW (pw_or ha.pt hb.pw) fun σ H Q ⟨B, F, env, S, q⟩ =>
  ⟨B, F, env, S, (Post.bind (r := ta env) q).imp fun k F1 H1 _ x1 q1 => by
    cases k with
    | false => exact ⟨B, F1, env, S.ext x1, q1⟩
    | true => exact (q1 : Post xa W σ F1 H1 (Res.ok true) fun b _ H' => Q b H') F1 H1 (.refl x1.le)⟩⟩
theorem RW.t (h : RW X xa W a ta) : RT X xa W a ta := ⟨h.pw.pt⟩
theorem rt_not (ha : RT X xa W a ta) : RT X xa W (.UnaryOp .Not a pos) (tNot ta) := ⟨ptW (pt_not ha.pt) fun σ H Q ⟨B, F, env, S, q⟩ =>
  ⟨B, F, env, S, (Post.bind (r := ta env) q).imp fun k F1 H1 _ x1 q1 => q1 F1 H1 (.refl x1.le)⟩⟩
theorem re_one {op : BoolOp} (h : RE X xa W a fa) : RE X xa W (.BoolOp op [a] pos) fa := ⟨pe_one h.pe⟩
theorem re_and (ha : RB X xa W a fa) (hb : RE X xa W (.BoolOp .And (b :: rest) pos) fb) : RE X xa W (.BoolOp .And (a :: b :: rest) pos) (eAnd fa fb) := ⟨peW (pe_and ha.pe hb.pe) fun σ H Q ⟨B, F, env, S, q⟩ =>
  ⟨B, F, env, S, (Post.bind (r := fa env) q).imp fun d F1 H1 _ x1 q1 v1 b1 => by
    cases d <;> try exact q1.elim
    rename_i k _
    refine ⟨k, b1.bl_, ?_⟩
    cases k with
    | true => exact ⟨B, F1, env, S.ext x1, q1⟩
    | false => exact (q1 : Post xa W σ F1 H1 (Res.ok (D.bl false)) fun d F' H' => ∀ v, Rep X.K xa F' v d → Q v H') F1 H1 (.refl x1.le) _ (.bl false)⟩⟩
theorem re_or (ha : RB X xa W a fa) (hb : RE X xa W (.BoolOp .Or (b :: rest) pos) fb) : RE X xa W (.BoolOp .Or (a :: b :: rest) pos) (eOr fa fb) := ⟨peW (pe_or ha.pe hb.pe) fun σ H Q ⟨B, F, env, S, q⟩ =>
  ⟨B, F, env, S, (Post.bind (r := fa env) q).imp fun d F1 H1 _ x1 q1 v1 b1 => by
    cases d <;> try exact q1.elim
    rename_i k _
    refine ⟨k, b1.bl_, ?_⟩
    cases k with
    | false => exact ⟨B, F1, env, S.ext x1, q1⟩
    | true => exact (q1 : Post xa W σ F1 H1 (Res.ok (D.bl true)) fun d F' H' => ∀ v, Rep X.K xa F' v d → Q v H') F1 H1 (.refl x1.le) _ (.bl true)⟩⟩
theorem re_not (ha : RB X xa W a fa) : RE X xa W (.UnaryOp .Not a pos) (eNot fa) := ⟨peW (pe_not ha.pe) fun σ H Q ⟨B, F, env, S, q⟩ =>
  ⟨B, F, env, S, (Post.bind (r := fa env) q).imp fun d F1 H1 _ x1 q1 v1 b1 => by
    cases d <;> try exact q1.elim
    rename_i k _
    exact ⟨k, b1.bl_, (q1 : Post xa W σ F1 H1 (Res.ok (D.bl (!k))) fun d F' H' => ∀ v, Rep X.K xa F' v d → Q v H') F1 H1 (.refl x1.le) _ (.bl _)⟩⟩⟩
theorem re_ifExp (hc : RT X xa W c tc) (ha : RE X xa W a fa) (hb : RE X xa W b fb) : RE X xa W (.IfExp c a b pos) (eIf tc fa fb) := ⟨peW (pe_ifExp hc.pt ha.pe hb.pe) fun σ H Q ⟨B, F, env, S, q⟩ =>
  ⟨B, F, env, S, (Post.bind (r := tc env) q).imp fun k F1 H1 _ x1 q1 => by
    cases k with
    | true => exact ⟨B, F1, env, S.ext x1, q1⟩
    | false => exact ⟨B, F1, env, S.ext x1, q1⟩⟩⟩
/-- a test that is if .. else .. -/
theorem rt_bool {t : Expr} (h : RE X xa W t f) (he : ∀ whole, isTrue t X.env whole = (do let v ← whole; standAt t.pos; holding [v] (truthy v)) := by intro _; rfl) : RT X xa W t (tE f) := rt_val h.toB he

/-! ### displays, arguments -/
structure RAs (X : Cx) (xa : XA) (W : WX) (es : List Expr) (fs : List E) : Prop where
  pa : PA X es fun σ H Q => ∃ B F env, Sim X.K xa B F env σ H ∧ Post xa W σ F H (eL fs env) fun ds F' H' => ∀ vs, Reps X.K xa F' vs ds → Q vs H'
theorem paW {es : List Expr} {t t' : TA} (p : PA X es t) (h : ∀ σ H Q, t' σ H Q → t σ H Q) : PA X es t' := ⟨fun pos pins s σ H Q I q => p.run pos pins s σ H Q I (h σ H Q q)⟩
theorem ras_nil : RAs X xa W [] [] := ⟨paW pa_nil fun σ H Q ⟨B, F, env, S, q⟩ => (q : Post xa W σ F H (Res.ok []) _) F H (.refl S.hF) [] .nil⟩
theorem ras_cons {es : List Expr} {fs : List E} (ha : RE X xa W a fa) (hr : RAs X xa W es fs) (hs : starEach (a :: es) X.env = (false, eval a X.env) :: starEach es X.env := by rfl) : RAs X xa W (a :: es) (fa :: fs) := ⟨paW (pa_cons ha.pe hr.pa hs) fun σ H Q ⟨B, F, env, S, q⟩ =>
  ⟨B, F, env, S, (Post.bind (r := fa env) q).imp fun d F1 H1 _ x1 q1 v1 r1 => ⟨B, F1, env, S.ext x1, (Post.bind (r := eL fs env) q1).imp fun ds F2 H2 _ x2 q2 vs rs =>
    (q2 : Post xa W σ F2 H2 (Res.ok (d :: ds)) _) F2 H2 (.refl x2.le) _ (.cons (r1.on x2.f) rs)⟩⟩⟩
theorem eL_length {env : Env} : ∀ {fs : List E} {ds : List D}, eL fs env = .ok ds → ds.length = fs.length
  | [], ds, e => by
    have e' : Res.ok [] = Res.ok ds := e
    cases e'
    rfl
  | g :: gs, ds, e => by
    have e' : ((g env).bind fun x => (eL gs env).bind fun xs => Res.ok (x :: xs)) = .ok ds := e
    cases h : g env with
    | err c => rw [h] at e'; cases e'
    | stk => rw [h] at e'; cases e'
    | ok d =>
      rw [h] at e'
      cases k : eL gs env with
      | err c => rw [k] at e'; cases e'
      | stk => rw [k] at e'; cases e'
      | ok ds' =>
        rw [k] at e'
        cases e'
        rw [List.length_cons, List.length_cons, eL_length k]
theorem re_tup {es : List Expr} {fs : List E} {k : Nat} (h : RAs X xa W es fs) (hl : fs.length ≤ 1000 := by decide) : RE X xa W (.Tuple es k pos) (eTup fs) := ⟨peW (pe_tup h.pa) fun σ H Q ⟨B, F, env, S, q⟩ =>
  ⟨B, F, env, S, (Post.bind (r := eL fs env) q).imp fun ds F1 H1 e x1 q1 vs rs => by
    refine ⟨?_, fun a n => ?_⟩
    · rw [rs.length, sizeLine_eq, eL_length e]
      omega
    · exact (q1 : Post xa W σ F1 H1 (Res.ok (D.tup ds)) fun d F' H' => ∀ v, Rep X.K xa F' v d → Q v H') _ _ (.grow x1.le n) _ (.tup upd_same (rs.on (same_upd (x1.le.free n))))⟩⟩
/-- a new object: a list's display -/
theorem rf_lst {es : List Expr} {fs : List E} (h : RAs X xa W es fs) (hl : fs.length ≤ 1000 := by decide) : RF X xa W (.List es pos) (eLst fs) := ⟨peW (pe_lst h.pa) fun σ H Q ⟨B, F, env, S, q⟩ =>
  ⟨B, F, env, S, (Post.bind (r := eL fs env) q).imp fun ds F1 H1 e x1 q1 vs rs => by
    refine ⟨?_, fun a n => ?_⟩
    · rw [rs.length, sizeLine_eq, eL_length e]
      omega
    · exact (q1 : Post xa W σ F1 H1 (Res.ok (D.lst ds)) fun d F' H' => ∀ a, H a = none → F' a = none → OwnAt X.K xa F' H' a d → Q (.ref a) H') F1 _ (.heap x1.le n) a (x1.h.free n) (x1.le.free n) ⟨vs, upd_same, rs⟩⟩⟩
theorem rf_dict0 : RF X xa W (.Dict [] [] pos) (eC (.dct false [])) := ⟨peW pe_dnewK fun σ H Q ⟨B, F, env, S, q⟩ a n =>
  (q : Post xa W σ F H (Res.ok (D.dct false [])) fun d F' H' => ∀ a, H a = none → F' a = none → OwnAt X.K xa F' H' a d → Q (.ref a) H') F _ (.heap S.hF n) a n (S.hF.free n) ⟨[], upd_same, .nil⟩⟩
theorem rf_dictT : RF X xa W (.Dict [] [] pos) (eC (.dct true [])) := ⟨peW pe_dnewT fun σ H Q ⟨B, F, env, S, q⟩ a n =>
  (q : Post xa W σ F H (Res.ok (D.dct true [])) fun d F' H' => ∀ a, H a = none → F' a = none → OwnAt X.K xa F' H' a d → Q (.ref a) H') F _ (.heap S.hF n) a n (S.hF.free n) ⟨[], upd_same, .nil⟩⟩

/-! ### slices -/
variable {K : PySem.W.Frag}
structure RP (X : Cx) (xa : XA) (W : WX) (e : Option Expr) (f : Option E) : Prop where
  po : PO X e fun σ H Q => ∃ B F env, Sim X.K xa B F env σ H ∧ Post xa W σ F H (eP f env) fun o _ H' => Q o H'
theorem poW {e : Option Expr} {t t' : TO} (p : PO X e t) (h : ∀ σ H Q, t' σ H Q → t σ H Q) : PO X e t' := ⟨fun pins s σ H Q I q => p.run pins s σ H Q I (h σ H Q q)⟩
theorem rp_none : RP X xa W none none := ⟨poW po_none fun σ H Q ⟨B, F, env, S, q⟩ => (q : Post xa W σ F H (Res.ok none) fun o _ H' => Q o H') F H (.refl S.hF)⟩
theorem rp_some (ha : RB X xa W a fa) : RP X xa W (some a) (some fa) := ⟨poW (po_some ha.pe) fun σ H Q ⟨B, F, env, S, q⟩ =>
  ⟨B, F, env, S, (Post.bind (r := fa env) q).imp fun d F1 H1 _ x1 q1 v1 b1 => by
    cases d <;> try exact q1.elim
    rename_i i _
    exact ⟨i, b1.int_, (q1 : Post xa W σ F1 H1 (Res.ok (some i)) fun o _ H' => Q o H') F1 H1 (.refl x1.le)⟩⟩⟩
variable {lo hi : Option Expr} {fl fh : Option E}
theorem re_slice (ha : RB X xa W a fa) (hl : RP X xa W lo fl) (hh : RP X xa W hi fh) : RE X xa W (.Subscript a (.Slice lo hi none p2) pos) (eSl fa fl fh) := by
  obtain ⟨r, h1, h2⟩ := ok_slice (X := X) (xa := xa)
  exact ⟨peW (pe_slice h1 ha.pe hl.po hh.po) fun σ H Q ⟨B, F, env, S, q⟩ =>
    ⟨B, F, env, S, (Post.bind (r := fa env) q).imp fun d F1 H1 _ x1 q1 v1 b1 => ⟨B, F1, env, S.ext x1, (Post.bind (r := eP fl env) q1).imp fun l F2 H2 _ x2 q2 =>
      ⟨B, F2, env, (S.ext x1).ext x2, (Post.bind (r := eP fh env) q2).imp fun h F3 H3 _ x3 q3 => (h2 F3 H3 v1 d l h x3.le (b1.on (x2.trans x3).f (x2.trans x3).h.k.up)).post q3⟩⟩⟩⟩
/-- a[::-1], a list -/
theorem re_rev {k : Nat} {p1 p3 p4 : Pos} (ha : RB X xa W a fa) : RE X xa W (.Subscript a (.Slice none none (some (.UnaryOp .USub (.Constant (.int 1) k p1) p4)) p3) pos) (e1 D.revL fa) := ⟨peW (pe_revL ha.pe) fun σ H Q ⟨B, F, env, S, q⟩ =>
  ⟨B, F, env, S, (Post.bind (r := fa env) q).imp fun d F1 H1 _ x1 q1 v1 b1 => by
    cases d with
    | lst ds =>
      obtain ⟨u, xs, rfl, h, r⟩ := ok_rev x1.le b1
      exact ⟨u, xs, rfl, h, fun p n => (q1 : Post xa W σ F1 H1 (Res.ok (D.lst ds.reverse)) fun d F' H' => ∀ v, Rep X.K xa F' v d → Q v H') _ _ (.grow x1.le n) _ (.lst upd_same (r.on (same_upd (x1.le.free n))))⟩
    | _ => exact q1.elim⟩⟩

/-! ### calls of built-ins -/
theorem re_b1 {id : String} {F1 : D → Res D} (hr : ∃ r, CallR X (.builtin id) r ∧ OkC X.K xa r F1) (hg : Gl X x) (hm : X.mg x = none) (hv : bootBuiltins x = some (.builtin id)) (ha : RB X xa W a fa) (hn : x ≠ "__name__" := by decide) (hdb : (x == ("__debug__" : Str)) = false := by decide)
    (hs : starEach [a] X.env = (false, eval a X.env) :: starEach [] X.env := by rfl) : RE X xa W (.Call (.Name x p) [a] [] pos) (e1 F1 fa) := by
  obtain ⟨r, h1, h2⟩ := hr
  exact ⟨peW (pe_callB h1 hg hm hv (pa_cons ha.pe pa_nil hs) hn hdb hs rfl) fun σ H Q ⟨B, F, env, S, q⟩ =>
    ⟨B, F, env, S, (Post.bind (r := fa env) q).imp fun d F1' H1 _ x1 q1 v1 b1 => (h2 F1' H1 v1 d x1.le b1).post q1⟩⟩
theorem re_t1 {id : String} {F1 : D → Res D} (hr : ∃ r, CallR X (.type id) r ∧ OkC X.K xa r F1) (hg : Gl X x) (hm : X.mg x = none) (hv : bootBuiltins x = some (.type id)) (ha : RB X xa W a fa) (hn : x ≠ "__name__" := by decide) (hdb : (x == ("__debug__" : Str)) = false := by decide)
    (hs : starEach [a] X.env = (false, eval a X.env) :: starEach [] X.env := by rfl) : RE X xa W (.Call (.Name x p) [a] [] pos) (e1 F1 fa) := by
  obtain ⟨r, h1, h2⟩ := hr
  exact ⟨peW (pe_callTy h1 hg hm hv (pa_cons ha.pe pa_nil hs) hn hdb hs rfl) fun σ H Q ⟨B, F, env, S, q⟩ =>
    ⟨B, F, env, S, (Post.bind (r := fa env) q).imp fun d F1' H1 _ x1 q1 v1 b1 => (h2 F1' H1 v1 d x1.le b1).post q1⟩⟩
theorem rf_b1 {id : String} {F1 : D → Res D} (hr : ∃ r, CallR X (.builtin id) r ∧ OkF X.K xa r F1) (hg : Gl X x) (hm : X.mg x = none) (hv : bootBuiltins x = some (.builtin id)) (ha : RB X xa W a fa) (hn : x ≠ "__name__" := by decide) (hdb : (x == ("__debug__" : Str)) = false := by decide)
    (hs : starEach [a] X.env = (false, eval a X.env) :: starEach [] X.env := by rfl) : RF X xa W (.Call (.Name x p) [a] [] pos) (e1 F1 fa) := by
  obtain ⟨r, h1, h2⟩ := hr
  exact ⟨peW (pe_callB h1 hg hm hv (pa_cons ha.pe pa_nil hs) hn hdb hs rfl) fun σ H Q ⟨B, F, env, S, q⟩ =>
    ⟨B, F, env, S, (Post.bind (r := fa env) q).imp fun d F1' H1 _ x1 q1 v1 b1 => (h2 F1' H1 v1 d x1.le b1).post (q1.imp fun z F2 H2 _ x2 q2 u n nF o => q2 u (x1.h.free n) nF o)⟩⟩
theorem rf_t1 {id : String} {F1 : D → Res D} (hr : ∃ r, CallR X (.type id) r ∧ OkF X.K xa r F1) (hg : Gl X x) (hm : X.mg x = none) (hv : bootBuiltins x = some (.type id)) (ha : RB X xa W a fa) (hn : x ≠ "__name__" := by decide) (hdb : (x == ("__debug__" : Str)) = false := by decide)
    (hs : starEach [a] X.env = (false, eval a X.env) :: starEach [] X.env := by rfl) : RF X xa W (.Call (.Name x p) [a] [] pos) (e1 F1 fa) := by
  obtain ⟨r, h1, h2⟩ := hr
  exact ⟨peW (pe_callTy h1 hg hm hv (pa_cons ha.pe pa_nil hs) hn hdb hs rfl) fun σ H Q ⟨B, F, env, S, q⟩ =>
    ⟨B, F, env, S, (Post.bind (r := fa env) q).imp fun d F1' H1 _ x1 q1 v1 b1 => (h2 F1' H1 v1 d x1.le b1).post (q1.imp fun z F2 H2 _ x2 q2 u n nF o => q2 u (x1.h.free n) nF o)⟩⟩

/-! ### calls of defs -/
/-- the arguments: lent ones (true), shared ones (false) -/
inductive Args (K : PySem.W.Frag) (xa : XA) (F G : Hp) : List Bool → List V → List D → Prop
  | nil : Args K xa F G [] [] []
  | lent {ms : List Bool} {v : V} {vs : List V} {d : D} {ds : List D} : Bor K xa F G v d → Args K xa F G ms vs ds → Args K xa F G (true :: ms) (v :: vs) (d :: ds)
  | sh {ms : List Bool} {v : V} {vs : List V} {d : D} {ds : List D} : Rep K xa F v d → Args K xa F G ms vs ds → Args K xa F G (false :: ms) (v :: vs) (d :: ds)
theorem Args.on {F F' G G' : Hp} {ms : List Bool} {vs : List V} {ds : List D} (h : Args K xa F G ms vs ds) (f : Same F F') (g : Up G G') : Args K xa F' G' ms vs ds := by
  induction h with
  | nil => exact .nil
  | lent b _ ih => exact .lent (b.on f g) ih
  | sh b _ ih => exact .sh (b.on f) ih
theorem Args.len {F G : Hp} {ms : List Bool} {vs : List V} {ds : List D} (h : Args K xa F G ms vs ds) : vs.length = ms.length ∧ ds.length = ms.length := by
  induction h with
  | nil => exact ⟨rfl, rfl⟩
  | lent _ _ ih => simp [ih.1, ih.2]
  | sh _ _ ih => simp [ih.1, ih.2]
/-- how a def hands back: a new object of its own, or a shared value -/
def Ret (K : PySem.W.Frag) (xa : XA) (F H F' H' : Hp) : Bool → V → D → Prop
  | true, v, d => ∃ a, v = .ref a ∧ H a = none ∧ F' a = none ∧ OwnAt K xa F' H' a d
  | false, v, d => Rep K xa F' v d
/-- the promise of a def whose mirror is m -/
def spD (K : PySem.W.Frag) (xa : XA) (ms : List Bool) (fr : Bool) (m : List D → Res D) : Sp := fun vs H Q E => ∃ F ds, Same F H ∧ NT F ∧ LamX.Tabs xa.tb H ∧ Args K xa F H ms vs ds ∧ match m ds with
  | .ok d => ∀ F' H' v, Ext xa.tb F H F' H' → Ret K xa F H F' H' fr v d → Q v H'
  | .err c => ∀ F' H', Ext xa.tb F H F' H' → E (.ref (xa c)) none H'
  | .stk => False
/-- a def of the text that keeps that promise -/
structure Df (P : Program) (w : World) (K : PySem.W.Frag) (mg : Str → Option Value) (base : Heap) (xa : XA) (k : Nat) (x : Str) (ms : List Bool) (fr : Bool) (m : List D → Res D) : Prop where
  ex : ∃ (f : Addr) (fd : FuncData) (ps : List Str), FnOk P w K mg base (L2.CX P w) k f fd ps (spD K xa ms fr m) ∧ mg x = some (.ref f) ∧ PySem.W.keepIn K (.ref f) = true ∧ Binds K fd ps []
structure RAm (X : Cx) (xa : XA) (W : WX) (ms : List Bool) (es : List Expr) (fs : List E) : Prop where
  pa : PA X es fun σ H Q => ∃ B F env, Sim X.K xa B F env σ H ∧ Post xa W σ F H (eL fs env) fun ds F' H' => ∀ vs, Args X.K xa F' H' ms vs ds → Q vs H'
theorem ram_nil : RAm X xa W [] [] [] := ⟨paW pa_nil fun σ H Q ⟨B, F, env, S, q⟩ => (q : Post xa W σ F H (Res.ok []) fun ds F' H' => ∀ vs, Args X.K xa F' H' [] vs ds → Q vs H') F H (.refl S.hF) [] .nil⟩
theorem ram_b {ms : List Bool} {es : List Expr} {fs : List E} (ha : RB X xa W a fa) (hr : RAm X xa W ms es fs) (hs : starEach (a :: es) X.env = (false, eval a X.env) :: starEach es X.env := by rfl) : RAm X xa W (true :: ms) (a :: es) (fa :: fs) := ⟨paW (pa_cons ha.pe hr.pa hs) fun σ H Q ⟨B, F, env, S, q⟩ =>
  ⟨B, F, env, S, (Post.bind (r := fa env) q).imp fun d F1 H1 _ x1 q1 v1 r1 => ⟨B, F1, env, S.ext x1, (Post.bind (r := eL fs env) q1).imp fun ds F2 H2 _ x2 q2 vs rs =>
    (q2 : Post xa W σ F2 H2 (Res.ok (d :: ds)) fun ds F' H' => ∀ vs, Args X.K xa F' H' (true :: ms) vs ds → Q vs H') F2 H2 (.refl x2.le) _ (.lent (r1.on x2.f x2.h.k.up) rs)⟩⟩⟩
theorem ram_s {ms : List Bool} {es : List Expr} {fs : List E} (ha : RE X xa W a fa) (hr : RAm X xa W ms es fs) (hs : starEach (a :: es) X.env = (false, eval a X.env) :: starEach es X.env := by rfl) : RAm X xa W (false :: ms) (a :: es) (fa :: fs) := ⟨paW (pa_cons ha.pe hr.pa hs) fun σ H Q ⟨B, F, env, S, q⟩ =>
  ⟨B, F, env, S, (Post.bind (r := fa env) q).imp fun d F1 H1 _ x1 q1 v1 r1 => ⟨B, F1, env, S.ext x1, (Post.bind (r := eL fs env) q1).imp fun ds F2 H2 _ x2 q2 vs rs =>
    (q2 : Post xa W σ F2 H2 (Res.ok (d :: ds)) fun ds F' H' => ∀ vs, Args X.K xa F' H' (false :: ms) vs ds → Q vs H') F2 H2 (.refl x2.le) _ (.sh (r1.on x2.f) rs)⟩⟩⟩
/-- what a call hands back -/
theorem call_core {k : Nat} {ms : List Bool} {fr : Bool} {m : List D → Res D} {es : List Expr} {fs : List E} (Df_ : Df X.prog X.w X.K X.mg X.base xa k x ms fr m) (hr : Room k X.A) (tk : Takes X W) (hg : Gl X x) (ha : RAm X xa W ms (a :: es) fs)
    (hdb : (x == ("__debug__" : Str)) = false := by decide) (he : starEach (a :: es) X.env = (false, eval a X.env) :: starEach es X.env := by rfl) (hpl : (backTo pos (starEach es X.env)).any (·.1) = false := by rfl) :
    PE X (.Call (.Name x p) (a :: es) [] pos) (fun σ H Q => ∃ B F env, Sim X.K xa B F env σ H ∧ Post xa W σ F H (eCall m fs env) fun d F' H' => ∀ v, Ret X.K xa F H F' H' fr v d → Q v H') := by
  obtain ⟨f, fd, ps, hf, hm, hk, hb⟩ := Df_.ex
  refine peW (pe_callS hf hr hg hm hk hb (fun σ => passAt tk σ) ha.pa hdb he hpl) fun σ H Q ⟨B, F, env, S, q⟩ => ?_
  refine ⟨B, F, env, S, (Post.bind (r := eL fs env) q).imp fun ds F1 H1 _ x1 q1 vs as => ?_⟩
  refine ⟨F1, ds, x1.le, x1.nt S.nt, x1.h.tab S.tab, as, ?_⟩
  cases z : m ds with
  | ok d =>
    rw [z] at q1
    intro F2 H2 v x2 rt
    refine q1 F2 H2 x2 v ?_
    cases fr with
    | true => obtain ⟨u, e1, e2, e3, e4⟩ := rt; exact ⟨u, e1, x1.h.free e2, e3, e4⟩
    | false => exact rt
  | err c => rw [z] at q1; exact q1
  | stk => rw [z] at q1; exact q1
theorem re_call {k : Nat} {ms : List Bool} {m : List D → Res D} {es : List Expr} {fs : List E} (Df_ : Df X.prog X.w X.K X.mg X.base xa k x ms false m) (hr : Room k X.A) (tk : Takes X W) (hg : Gl X x) (ha : RAm X xa W ms (a :: es) fs)
    (hdb : (x == ("__debug__" : Str)) = false := by decide) (he : starEach (a :: es) X.env = (false, eval a X.env) :: starEach es X.env := by rfl) (hpl : (backTo pos (starEach es X.env)).any (·.1) = false := by rfl) :
    RE X xa W (.Call (.Name x p) (a :: es) [] pos) (eCall m fs) := ⟨call_core Df_ hr tk hg ha hdb he hpl⟩
theorem rf_call {k : Nat} {ms : List Bool} {m : List D → Res D} {es : List Expr} {fs : List E} (Df_ : Df X.prog X.w X.K X.mg X.base xa k x ms true m) (hr : Room k X.A) (tk : Takes X W) (hg : Gl X x) (ha : RAm X xa W ms (a :: es) fs)
    (hdb : (x == ("__debug__" : Str)) = false := by decide) (he : starEach (a :: es) X.env = (false, eval a X.env) :: starEach es X.env := by rfl) (hpl : (backTo pos (starEach es X.env)).any (·.1) = false := by rfl) :
    RF X xa W (.Call (.Name x p) (a :: es) [] pos) (eCall m fs) := ⟨peW (call_core Df_ hr tk hg ha hdb he hpl) fun σ H Q ⟨B, F, env, S, q⟩ =>
  ⟨B, F, env, S, q.imp fun d F' H' _ _ q1 v ⟨u, e1, e2, e3, e4⟩ => by subst e1; exact q1 u e2 e3 e4⟩⟩
end
end Tw

set_option autoImplicit false
set_option Elab.async false
set_option linter.all false
set_option maxRecDepth 100000
/-! Tw, one rule for each combinator: targets, walks, comprehensions. -/
namespace Tw
open PySem L2
section
variable {K : PySem.W.Frag} {xa : XA} {B F H F' H' : Hp} {env : Env} {σ : Sl}
theorem Sim.set_sh (S : Sim K xa B F env σ H) {v : V} {d : D} (r : Rep K xa F v d) (i : Nat) : Sim K xa B F (env.set i (.sh d)) (σ.set i (some v)) H := by
  refine ⟨by simp [S.len], S.hB, S.hF, S.nt, S.tab, fun j s e => ?_, fun j k a d1 d2 e1 e2 o1 o2 => ?_⟩
  · by_cases h : i = j
    · subst h
      have hi : i < env.length := by
        have := (List.getElem?_eq_some_iff.mp e).1
        simpa using this
      rw [List.getElem?_set_self hi] at e
      cases e
      exact ⟨v, List.getElem?_set_self (by rw [← S.len]; exact hi), r⟩
    · rw [List.getElem?_set_ne h] at e ⊢
      exact S.sl j s e
  · have nj : i ≠ j := fun h => by
      subst h
      have hi : i < env.length := by
        have := (List.getElem?_eq_some_iff.mp e1).1
        simpa using this
      rw [List.getElem?_set_self hi] at e1; cases e1
    have nk : i ≠ k := fun h => by
      subst h
      have hi : i < env.length := by
        have := (List.getElem?_eq_some_iff.mp e2).1
        simpa using this
      rw [List.getElem?_set_self hi] at e2; cases e2
    rw [List.getElem?_set_ne nj] at e1 o1
    rw [List.getElem?_set_ne nk] at e2 o2
    exact S.ap j k a d1 d2 e1 e2 o1 o2
theorem Sim.set_own (S : Sim K xa B F env σ H) {a : Addr} {d : D} (nF : F a = none) (nB : B a = none) (o : OwnAt K xa F H a d) (i : Nat) (ne : ∀ (j : Nat) d', j ≠ i → env[j]? = some (.own d') → σ[j]? ≠ some (some (.ref a))) : Sim K xa B F (env.set i (.own d)) (σ.set i (some (.ref a))) H := by
  refine ⟨by simp [S.len], S.hB, S.hF, S.nt, S.tab, fun j s e => ?_, fun j k b d1 d2 e1 e2 o1 o2 => ?_⟩
  · by_cases h : i = j
    · subst h
      have hi : i < env.length := by
        have := (List.getElem?_eq_some_iff.mp e).1
        simpa using this
      rw [List.getElem?_set_self hi] at e
      cases e
      exact ⟨a, List.getElem?_set_self (by rw [← S.len]; exact hi), nF, nB, o⟩
    · rw [List.getElem?_set_ne h] at e ⊢
      exact S.sl j s e
  · have lj : j < env.length := by
      have := (List.getElem?_eq_some_iff.mp e1).1
      simpa using this
    have lk : k < env.length := by
      have := (List.getElem?_eq_some_iff.mp e2).1
      simpa using this
    by_cases hj : i = j
    · by_cases hk : i = k
      · omega
      · subst hj
        rw [List.getElem?_set_self (by rw [← S.len]; exact lj)] at o1
        cases o1
        rw [List.getElem?_set_ne hk] at e2 o2
        exact absurd o2 (ne k d2 (fun z => hk z.symm) e2)
    · by_cases hk : i = k
      · subst hk
        rw [List.getElem?_set_self (by rw [← S.len]; exact lk)] at o2
        cases o2
        rw [List.getElem?_set_ne hj] at e1 o1
        exact absurd o1 (ne j d1 (fun z => hj z.symm) e1)
      · rw [List.getElem?_set_ne hj] at e1 o1
        rw [List.getElem?_set_ne hk] at e2 o2
        exact S.ap j k b d1 d2 e1 e2 o1 o2
theorem wipeE_length : ∀ (own : List Nat), (wipeE env own).length = env.length
  | [] => rfl
  | i :: r => by unfold wipeE; rw [List.length_set, wipeE_length r]
theorem wipeE_get {s : Slot} {j : Nat} : ∀ {own : List Nat}, (wipeE env own)[j]? = some s → (s = .un ∧ j ∈ own) ∨ (env[j]? = some s ∧ j ∉ own)
  | [], h => .inr ⟨h, by simp⟩
  | i :: r, h => by
    unfold wipeE at h
    by_cases e : i = j
    · subst e
      have hi : i < (wipeE env r).length := by
        have := (List.getElem?_eq_some_iff.mp h).1
        simpa using this
      rw [List.getElem?_set_self hi] at h
      cases h
      exact .inl ⟨rfl, by simp⟩
    · rw [List.getElem?_set_ne e] at h
      rcases wipeE_get h with ⟨h1, h2⟩ | ⟨h1, h2⟩
      · exact .inl ⟨h1, List.mem_cons_of_mem _ h2⟩
      · exact .inr ⟨h1, by simp [h2, Ne.symm e]⟩
theorem wipe_get {j : Nat} : ∀ {own : List Nat}, j ∉ own → (wipe σ own)[j]? = σ[j]?
  | [], _ => rfl
  | i :: r, h => by
    unfold wipe
    rw [List.getElem?_set_ne (fun e => h (by simp [e]))]
    exact wipe_get fun z => h (List.mem_cons_of_mem _ z)
theorem wipe_own {j : Nat} : ∀ {own : List Nat}, j ∈ own → j < σ.length → (wipe σ own)[j]? = some none
  | i :: r, h, hl => by
    unfold wipe
    by_cases e : i = j
    · subst e
      exact List.getElem?_set_self (by rw [wipe_length]; exact hl)
    · rw [List.getElem?_set_ne e]
      rcases List.mem_cons.mp h with z | z
      · exact absurd z.symm e
      · exact wipe_own z hl
theorem Up.refl (F : Hp) : Up F F := .of (.refl _)
theorem RM.trans {F1 F2 F3 : Hp} (a : RM F1 F2) (b : RM F2 F3) : RM F1 F3 := fun c u h r => b c u h (a c u h r)
theorem Up.trans {F1 F2 F3 : Hp} (a : Up F1 F2) (b : Up F2 F3) : Up F1 F3 := ⟨a.rm.trans b.rm, fun c x e => b.tup c x (a.tup c x e), fun c x e => b.ls c x (a.ls c x e), fun c x e => b.ext c x (a.ext c x e)⟩
/-- into a comprehension's block: what is one's own is lent to it -/
theorem Sim.lend {B' : Hp} (S : Sim K xa B F env σ H) (own : List Nat) (f : Up F F') (h : Up H B') (bh : Kp xa.tb B' H') (fh : Same F' H') (nt : NT F') (tb : LamX.Tabs xa.tb H') : Sim K xa B' F' (blkE own env) (wipe σ own) H' := by
  refine ⟨by unfold blkE; rw [List.length_map, wipeE_length, wipe_length, S.len], bh, fh, nt, tb, fun j s e => ?_, fun i j a d d' e1 _ _ _ => ?_⟩
  · unfold blkE at e
    rw [List.getElem?_map] at e
    cases z : (wipeE env own)[j]? with
    | none => rw [z] at e; cases e
    | some t =>
      rw [z] at e
      simp only [Option.map_some, Option.some.injEq] at e
      rcases wipeE_get z with ⟨rfl, _⟩ | ⟨h1, h2⟩
      · subst e; trivial
      · have q := S.sl j t h1
        rw [wipe_get h2]
        cases t with
        | un => subst e; trivial
        | sh d => subst e; obtain ⟨v, e, r⟩ := q; exact ⟨v, e, r.up f⟩
        | bor d => subst e; obtain ⟨v, e, r⟩ := q; exact ⟨v, e, r.up f (S.hB.k.up.trans h)⟩
        | own d =>
          subst e
          obtain ⟨a, e, _, _, o⟩ := q
          exact ⟨_, e, .inr ⟨a, rfl, o.obj.up f h⟩⟩
  · unfold blkE at e1
    rw [List.getElem?_map] at e1
    cases z : (wipeE env own)[i]? with
    | none => rw [z] at e1; cases e1
    | some t => rw [z] at e1; cases t <;> simp [Slot.lend] at e1
theorem Sim.blk (S : Sim K xa B F env σ H) (own : List Nat) (x : Ext xa.tb F H F' H') : Sim K xa H F' (blkE own env) (wipe σ own) H' := S.lend own (.of x.f) (.refl H) x.h x.le (x.nt S.nt) (x.h.tab S.tab)

/-! ### targets -/
def Agr (is : List Nat) (σ σ' : Sl) : Prop := σ'.length = σ.length ∧ ∀ j, j ∉ is → σ'[j]? = σ[j]?
theorem Agr.refl (is : List Nat) (σ : Sl) : Agr is σ σ := ⟨rfl, fun _ _ => rfl⟩
theorem Agr.trans {is js : List Nat} {σ σ1 σ2 : Sl} (a : Agr is σ σ1) (b : Agr js σ1 σ2) : Agr (is ++ js) σ σ2 := ⟨b.1.trans a.1, fun j h => by
  rw [List.mem_append, not_or] at h
  rw [b.2 j h.2, a.2 j h.1]⟩
theorem Agr.wipe {is own : List Nat} {σ σ' : Sl} (a : Agr is (L2.wipe σ own) σ') (h : ∀ i ∈ is, i ∈ own) : L2.wipe σ' own = L2.wipe σ own := by
  have e1 := a.1
  rw [wipe_length] at e1
  apply List.ext_getElem?
  intro j
  by_cases hj : j ∈ own
  · by_cases hl : j < σ.length
    · rw [wipe_own hj hl, wipe_own hj (by rw [e1]; exact hl)]
    · rw [List.getElem?_eq_none (by rw [wipe_length]; omega), List.getElem?_eq_none (by rw [wipe_length]; omega)]
  · rw [wipe_get hj, a.2 j fun z => hj (h j z)]
def pG (K : PySem.W.Frag) (xa : XA) (is : List Nat) (g : G) : TG := fun v σ H Q => ∃ B F env d, Sim K xa B F env σ H ∧ Rep K xa F v d ∧ ∃ e', g d env = .ok e' ∧ ∀ σ', Sim K xa B F e' σ' H → Agr is σ σ' → Q σ' H
def pGs (K : PySem.W.Frag) (xa : XA) (is : List Nat) (gs : List G) : TGs := fun vs σ H Q => ∃ B F env ds, Sim K xa B F env σ H ∧ Reps K xa F vs ds ∧ ∃ e', gsGo gs ds env = .ok e' ∧ ∀ σ', Sim K xa B F e' σ' H → Agr is σ σ' → Q σ' H
structure RG (X : Cx) (xa : XA) (tg : Expr) (is : List Nat) (g : G) : Prop where
  pg : PG X tg (pG X.K xa is g)
structure RGs (X : Cx) (xa : XA) (ts : List Expr) (is : List Nat) (gs : List G) : Prop where
  pgs : PGs X ts (pGs X.K xa is gs)
theorem pgW {X : Cx} {tg : Expr} {t t' : TG} (p : PG X tg t) (h : ∀ v σ H Q, t' v σ H Q → t v σ H Q) : PG X tg t' := ⟨fun pins s σ H v u Q I r q => p.run pins s σ H v u Q I r (h v σ H Q q)⟩
theorem pgsW {X : Cx} {ts : List Expr} {t t' : TGs} (p : PGs X ts t) (h : ∀ v σ H Q, t' v σ H Q → t v σ H Q) : PGs X ts t' := ⟨fun pins s σ H v u Q I r q => p.run pins s σ H v u Q I r (h v σ H Q q)⟩
variable {X : Cx} {x : Str} {pos p p2 : Pos}
theorem agr_set (i : Nat) (σ : Sl) (o : Option V) : Agr [i] σ (σ.set i o) := ⟨by simp, fun j h => List.getElem?_set_ne (fun e => h (by simp [e]))⟩
theorem rg_name {i : Nat} (hN : X.N.Nodup) (hi : X.N[i]? = some x) (hx : Loc X.env.scope x) (hf : X.fn x = true ∨ X.env.scope.names.lookup x = some .local := by first | exact .inl rfl | exact .inr rfl | assumption) : RG X xa (.Name x pos) [i] (gN i) :=
  ⟨pgW (pg_name (i := i) hN hi hx hf) fun v σ H Q ⟨B, F, env, d, S, r, e', he, q⟩ => by
    cases he
    exact q _ (S.set_sh r i) (agr_set i σ _)⟩
theorem rgs_nil : RGs X xa [] [] [] := ⟨pgsW pgs_nil fun vs σ H Q ⟨B, F, env, ds, S, r, e', he, q⟩ => by
  cases r with
  | nil =>
    cases he
    exact ⟨rfl, q _ S (.refl _ _)⟩
  | cons _ _ => cases he⟩
theorem rgs_cons {e : Expr} {es : List Expr} {is js : List Nat} {g : G} {gs : List G} (h1 : RG X xa e is g) (h2 : RGs X xa es js gs)
    (hs : (assignEach (e :: es) X.env).map (·.2) = assign e X.env :: (assignEach es X.env).map (·.2) := by rfl) : RGs X xa (e :: es) (is ++ js) (g :: gs) := ⟨pgsW (pgs_cons h1.pg h2.pgs hs) fun vs σ H Q ⟨B, F, env, ds, S, r, e', he, q⟩ => by
  cases r with
  | nil => cases he
  | @cons v1 vs1 d1 ds1 r1 r2 =>
    have he' : ((g d1 env).bind fun e1 => gsGo gs ds1 e1) = .ok e' := he
    cases z : g d1 env with
    | err c => rw [z] at he'; cases he'
    | stk => rw [z] at he'; cases he'
    | ok e1 =>
      rw [z] at he'
      exact ⟨v1, vs1, rfl, B, F, env, d1, S, r1, e1, z, fun σ1 S1 a1 => ⟨B, F, e1, ds1, S1, r2, e', he', fun σ2 S2 a2 => q σ2 S2 (a1.trans a2)⟩⟩⟩
theorem gsGo_length : ∀ {gs : List G} {ds : List D} {e e' : Env}, gsGo gs ds e = .ok e' → ds.length = gs.length
  | [], [], _, _, _ => rfl
  | [], _ :: _, _, _, h => by cases h
  | _ :: _, [], _, _, h => by cases h
  | g :: gs, d :: ds, e, e', h => by
    have h' : ((g d e).bind fun e1 => gsGo gs ds e1) = .ok e' := h
    cases z : g d e with
    | err c => rw [z] at h'; cases h'
    | stk => rw [z] at h'; cases h'
    | ok e1 =>
      rw [z] at h'
      rw [List.length_cons, List.length_cons, gsGo_length h']
theorem rg_tup {es : List Expr} {is : List Nat} {gs : List G} {k : Nat} (hc : X.calm = true) (h : RGs X xa es is gs) (hn : (assignEach es X.env).length = gs.length := by rfl) (hst : (assignEach es X.env).findIdx? (·.1) = none := by rfl) : RG X xa (.Tuple es k pos) is (gT gs) :=
  ⟨pgW (pg_tup hc h.pgs hn hst) fun v σ H Q ⟨B, F, env, d, S, r, e', he, q⟩ => by
    cases d with
    | tup ds =>
      have he' : gsGo gs ds env = .ok e' := he
      cases r with
      | tup e r => exact ⟨_, _, rfl, SqT.of (S.hF _ _ e), by rw [r.length, gsGo_length he'], B, F, env, ds, S, r, e', he', q⟩
    | _ => cases he⟩

/-! ### what is walked -/
/-- the iterator J yields the data ds, while S stands -/
structure Walk (K : PySem.W.Frag) (xa : XA) (S F : Hp) (ds : List D) (J : It) : Prop where
  go : ∀ i H, Ke S H → i < ds.length → J.go i H
  stop : ∀ i H, Ke S H → ds.length ≤ i → J.stop i H
  yld : ∀ i H x H' F1, Ke S H → Same F F1 → Same F1 H → i < ds.length → J.yld i H x H' → ∃ F2 d, Ext xa.tb F1 H F2 H' ∧ ds[i]? = some d ∧ Rep K xa F2 x d
theorem walk_list {S : Hp} {a : Addr} {xs : List V} {ds : List D} (h : SqL K S a xs) (r : Reps K xa F xs ds) : Walk K xa S F ds (Itl K a) where
  go := fun i H s l => ⟨xs, xs[i]'(by rw [r.length]; exact l), s.seq h, by simp [r.length, l]⟩
  stop := fun i H s l => ⟨xs, s.seq h, by rw [r.length]; exact l⟩
  yld := fun i H x H' F1 s f fh l y => by
    obtain ⟨rfl, y⟩ := y
    obtain ⟨d, e, q⟩ := r.got (y xs (s.seq h))
    exact ⟨F1, d, .refl fh, e, q.on f⟩
theorem walk_tup {S : Hp} {a : Addr} {xs : List V} {ds : List D} (h : S a = some (.tup xs)) (r : Reps K xa F xs ds) : Walk K xa S F ds (Itt K a) where
  go := fun i H s l => ⟨xs, xs[i]'(by rw [r.length]; exact l), SqT.of (s _ _ rfl h), by simp [r.length, l]⟩
  stop := fun i H s l => ⟨xs, SqT.of (s _ _ rfl h), by rw [r.length]; exact l⟩
  yld := fun i H x H' F1 s f fh l y => by
    obtain ⟨rfl, y⟩ := y
    obtain ⟨d, e, q⟩ := r.got (y xs (SqT.of (s _ _ rfl h)))
    exact ⟨F1, d, .refl fh, e, q.on f⟩
theorem walk_range {S : Hp} (lo : Int) (n : Nat) : Walk K xa S F (rangeL lo n) (Itr lo n) where
  go := fun i H s l => by
    show i < n
    simpa [rangeL] using l
  stop := fun i H s l => by
    show n ≤ i
    simpa [rangeL] using l
  yld := fun i H x H' F1 s f fh l y => by
    obtain ⟨rfl, rfl⟩ := y
    have l' : i < n := by simpa [rangeL] using l
    exact ⟨F1, .int (lo + i), .refl fh, by simp [rangeL, l'], .int _⟩
theorem walk_str {S : Hp} (s : Nm) : Walk K xa S F (s.map fun c => D.str [c]) (Its ⟨s.toArray⟩) where
  go := fun i H _ l => by
    show i < (⟨s.toArray⟩ : Str).cps.size
    simpa using l
  stop := fun i H _ l => by
    show (⟨s.toArray⟩ : Str).cps.size ≤ i
    simpa using l
  yld := fun i H x H' F1 _ f fh l y => by
    obtain ⟨rfl, c, hc, rfl⟩ := y
    refine ⟨F1, .str [c], .refl fh, ?_, .str [c]⟩
    have hc' : s[i]? = some c := by simpa using hc
    simp [hc']
/-- iterators: shared ones (a loop's), lent ones (a comprehension's) -/
def pI (K : PySem.W.Frag) (xa : XA) (W : WX) (lent : Bool) (it : I) : TI := fun σ H R => ∃ B F env, Sim K xa B F env σ H ∧ Post xa W σ F H (it env) fun ds F' H' => ∀ J, Walk K xa (if lent then H' else F') F' ds J → R J H'
structure RI (X : Cx) (xa : XA) (W : WX) (lent : Bool) (tg e : Expr) (it : I) : Prop where
  pi : PI X tg e (pI X.K xa W lent it)
theorem piW {X : Cx} {tg e : Expr} {t t' : TI} (p : PI X tg e t) (h : ∀ σ H R, t' σ H R → t σ H R) : PI X tg e t' := ⟨fun pins s σ H R I q => p.run pins s σ H R I (h σ H R q)⟩
theorem pi_or {X : Cx} {tg e : Expr} {t t' : TI} (p : PI X tg e t) (p' : PI X tg e t') : PI X tg e (fun σ H R => t σ H R ∨ t' σ H R) := ⟨fun pins s σ H R I q => by
  rcases q with q | q
  · exact p.run pins s σ H R I q
  · exact p'.run pins s σ H R I q⟩
variable {W : WX} {tg a b c e : Expr} {fa fb fc : E}
theorem reps_ints {F : Hp} : ∀ ns : List Int, Reps K xa F (ns.map V.int) (ns.map D.int)
  | [] => .nil
  | n :: ns => .cons (.int n) (reps_ints ns)
theorem ri_lent (ha : RB X xa W a fa) : RI X xa W true tg a (iE fa) := ⟨piW (pi_or (pi_list ha.pe) (pi_or (pi_tup ha.pe) (pi_str ha.pe))) fun σ H R ⟨B, F, env, S, q⟩ => by
  have q0 := Post.bind (r := fa env) (f := D.items) q
  cases z : fa env with
  | stk => rw [z] at q0; exact q0.elim
  | err c =>
    refine .inl ⟨B, F, env, S, ?_⟩
    rw [z] at q0 ⊢
    exact q0
  | ok d =>
    rw [z] at q0
    cases d with
    | lst ds => exact .inl ⟨B, F, env, S, by
        rw [z]
        intro F1 H1 x1 v b1
        obtain ⟨u, xs, rfl, e, r⟩ := b1.lst_ x1.le
        exact ⟨u, rfl, ⟨xs, SqL.of e⟩, q0 F1 H1 x1 F1 H1 (.refl x1.le) _ (walk_list (SqL.of e) r)⟩⟩
    | inp ns => exact .inl ⟨B, F, env, S, by
        rw [z]
        intro F1 H1 x1 v b1
        obtain ⟨u, rfl, e⟩ := b1.inp_
        exact ⟨u, rfl, ⟨_, x1.le.seq e⟩, q0 F1 H1 x1 F1 H1 (.refl x1.le) _ (walk_list (x1.le.seq e) (reps_ints ns))⟩⟩
    | tup ds => exact .inr (.inl ⟨B, F, env, S, by
        rw [z]
        intro F1 H1 x1 v b1
        obtain ⟨u, xs, rfl, e, r⟩ := b1.tup_
        exact ⟨u, rfl, ⟨xs, SqT.of (x1.le _ _ e)⟩, q0 F1 H1 x1 F1 H1 (.refl x1.le) _ (walk_tup (x1.le _ _ e) r)⟩⟩)
    | str s => exact .inr (.inr ⟨B, F, env, S, by
        rw [z]
        intro F1 H1 x1 v b1
        exact ⟨_, b1.str_, q0 F1 H1 x1 F1 H1 (.refl x1.le) _ (walk_str s)⟩⟩)
    | _ => exact (q0 F H (.refl S.hF)).elim⟩
theorem ri_sh (ha : RE X xa W a fa) : RI X xa W false tg a (iE fa) := ⟨piW (pi_or (pi_list ha.pe) (pi_or (pi_tup ha.pe) (pi_str ha.pe))) fun σ H R ⟨B, F, env, S, q⟩ => by
  have q0 := Post.bind (r := fa env) (f := D.items) q
  cases z : fa env with
  | stk => rw [z] at q0; exact q0.elim
  | err c =>
    refine .inl ⟨B, F, env, S, ?_⟩
    rw [z] at q0 ⊢
    exact q0
  | ok d =>
    rw [z] at q0
    cases d with
    | lst ds => exact .inl ⟨B, F, env, S, by
        rw [z]
        intro F1 H1 x1 v b1
        cases b1 with
        | lst e r => exact ⟨_, rfl, ⟨_, SqL.of (x1.le _ _ e)⟩, q0 F1 H1 x1 F1 H1 (.refl x1.le) _ (walk_list (SqL.of e) r)⟩⟩
    | inp ns => exact .inl ⟨B, F, env, S, by
        rw [z]
        intro F1 H1 x1 v b1
        cases b1 with
        | inp e => exact ⟨_, rfl, ⟨_, x1.le.seq e⟩, q0 F1 H1 x1 F1 H1 (.refl x1.le) _ (walk_list e (reps_ints ns))⟩⟩
    | tup ds => exact .inr (.inl ⟨B, F, env, S, by
        rw [z]
        intro F1 H1 x1 v b1
        cases b1 with
        | tup e r => exact ⟨_, rfl, ⟨_, SqT.of (x1.le _ _ e)⟩, q0 F1 H1 x1 F1 H1 (.refl x1.le) _ (walk_tup e r)⟩⟩)
    | str s => exact .inr (.inr ⟨B, F, env, S, by
        rw [z]
        intro F1 H1 x1 v b1
        cases b1
        exact ⟨_, rfl, q0 F1 H1 x1 F1 H1 (.refl x1.le) _ (walk_str s)⟩⟩)
    | _ => exact (q0 F H (.refl S.hF)).elim⟩
theorem ri_r1 {lent : Bool} (hg : Gl X "range") (hm : X.mg "range" = none) (ha : RB X xa W a fa) (hs : starEach [a] X.env = [(false, eval a X.env)] := by rfl) : RI X xa W lent tg (.Call (.Name "range" p) [a] [] pos) (iR1 fa) := ⟨piW (pi_range1 hg hm (pa_cons ha.pe pa_nil hs) hs) fun σ H R ⟨B, F, env, S, q⟩ =>
  ⟨B, F, env, S, (Post.bind (r := fa env) q).imp fun d F1 H1 _ x1 q1 v1 b1 => by
    cases d <;> try exact q1.elim
    rename_i j _
    rw [b1.int_]
    simp only [rng1] at q1
    split at q1
    · rename_i h
      simp only [smallR, Bool.and_eq_true, decide_eq_true_eq] at h
      exact ⟨j, rfl, h.1, h.2, q1 F1 H1 (.refl x1.le) _ (walk_range 0 _)⟩
    · exact q1.elim⟩⟩
theorem ri_r2 {lent : Bool} (hg : Gl X "range") (hm : X.mg "range" = none) (ha : RB X xa W a fa) (hb : RB X xa W b fb) (hs : starEach [a, b] X.env = [(false, eval a X.env), (false, eval b X.env)] := by rfl) (hs2 : starEach [b] X.env = [(false, eval b X.env)] := by rfl) :
    RI X xa W lent tg (.Call (.Name "range" p) [a, b] [] pos) (iR2 fa fb) := ⟨piW (pi_range2 hg hm (pa_cons ha.pe (pa_cons hb.pe pa_nil hs2) (by rw [hs, hs2])) hs hs2) fun σ H R ⟨B, F, env, S, q⟩ =>
  ⟨B, F, env, S, (Post.bind (r := fa env) q).imp fun d F1 H1 _ x1 q1 v1 b1 => ⟨B, F1, env, S.ext x1, (Post.bind (r := fb env) q1).imp fun d2 F2 H2 _ x2 q2 v2 b2 => by
    cases d <;> try exact q2.elim
    cases d2 <;> try exact q2.elim
    rename_i i _ j _
    rw [b1.int_, b2.int_]
    simp only [rng2] at q2
    split at q2
    · rename_i h
      simp only [smallR, Bool.and_eq_true, decide_eq_true_eq] at h
      exact ⟨i, j, rfl, ⟨h.1.1, h.1.2, h.2.1, h.2.2⟩, q2 F2 H2 (.refl x2.le) _ (walk_range i _)⟩
    · exact q2.elim⟩⟩⟩
end
end Tw

set_option autoImplicit false
set_option Elab.async false
set_option linter.all false
set_option maxRecDepth 100000
/-! Tw, comprehensions. -/
namespace Tw
open PySem L2
/-- around a comprehension's block nothing is let out -/
abbrev W0 : WX := fun _ _ _ _ => False
section
variable {X : Cx} {xa : XA} {W : WX} {tg iter elt a e : Expr} {ifs : List Expr} {scope : Scope} {pos p : Pos}
structure RTs (X : Cx) (xa : XA) (W : WX) (ifs : List Expr) (t : T) : Prop where
  pts : PTs X ifs (pT X.K xa W t)
theorem rts_nil : RTs X xa W [] tTrue := ⟨⟨fun pins s σ H Q I ⟨B, F, env, S, q⟩ => pts_nil.run pins s σ H Q I ((q : Post xa W σ F H (Res.ok true) fun b _ H' => Q b H') F H (.refl S.hF))⟩⟩
theorem rts_one {t : T} (h : RT X xa W a t) : RTs X xa W [a] t := ⟨pts_one h.pt⟩

theorem compGo_snoc {f : D → Res (Option D)} : ∀ {xs : List D} {ys : List D} {x : D} {o : Option D}, compGo f xs = .ok ys → f x = .ok o → compGo f (xs ++ [x]) = .ok (match o with
    | some y => ys ++ [y]
    | none => ys)
  | [], ys, x, o, h, g => by
    cases h
    show compGo f [x] = _
    unfold compGo
    rw [g]
    cases o <;> rfl
  | z :: xs, ys, x, o, h, g => by
    unfold compGo at h
    show compGo f (z :: (xs ++ [x])) = _
    unfold compGo
    cases k : f z with
    | err c => rw [k] at h; cases h
    | stk => rw [k] at h; cases h
    | ok w =>
      rw [k] at h
      simp only at h ⊢
      cases l : compGo f xs with
      | err c => rw [l] at h; cases h
      | stk => rw [l] at h; cases h
      | ok r =>
        rw [l] at h
        rw [compGo_snoc l g]
        cases w <;> cases o <;> (simp at h ⊢; first | exact h | (subst h; simp))
theorem compGo_noErr {f : D → Res (Option D)} : ∀ {xs : List D} {k : Nat}, compGo f xs = .err k → False
  | [], _, h => by cases h
  | z :: xs, k, h => by
    unfold compGo at h
    cases e : f z with
    | err c => rw [e] at h; cases h
    | stk => rw [e] at h; cases h
    | ok w =>
      rw [e] at h
      simp only at h
      cases l : compGo f xs with
      | err c => exact compGo_noErr l
      | stk => rw [l] at h; cases h
      | ok r => rw [l] at h; cases h
theorem compGo_at {f : D → Res (Option D)} : ∀ {xs : List D} {ys : List D} {i : Nat} {x : D}, compGo f xs = .ok ys → xs[i]? = some x → ∃ o, f x = .ok o
  | [], _, _, _, _, h => by simp at h
  | z :: xs, ys, i, x, h, g => by
    unfold compGo at h
    cases k : f z with
    | err c => rw [k] at h; cases h
    | stk => rw [k] at h; cases h
    | ok w =>
      rw [k] at h
      simp only at h
      cases l : compGo f xs with
      | err c => rw [l] at h; cases h
      | stk => rw [l] at h; cases h
      | ok r =>
        cases i with
        | zero => simp at g; subst g; exact ⟨w, k⟩
        | succ i => exact compGo_at l (by simpa using g)
theorem compGo_take {f : D → Res (Option D)} {xs ys : List D} (h : compGo f xs = .ok ys) (n : Nat) : ∃ zs, compGo f (xs.take n) = .ok zs ∧ zs.length ≤ n := by
  induction n with
  | zero => exact ⟨[], rfl, Nat.le_refl _⟩
  | succ n ih =>
    obtain ⟨zs, h1, h2⟩ := ih
    cases g : xs[n]? with
    | none =>
      have : xs.length ≤ n := List.getElem?_eq_none_iff.mp g
      rw [List.take_of_length_le (by omega)] at h1 ⊢
      exact ⟨zs, h1, by omega⟩
    | some x =>
      obtain ⟨o, ho⟩ := compGo_at h g
      have e : xs.take (n + 1) = xs.take n ++ [x] := by rw [List.take_succ, g]; rfl
      rw [e]
      refine ⟨_, compGo_snoc h1 ho, ?_⟩
      cases o <;> simp <;> omega
theorem Ext.updD {T : List (Addr × Str)} {F H F' H' : Hp} (x : Ext T F H F' H') {D : Addr} {o : HO} {acc : List V} (n : H D = none) (nF : F' D = none) (e : H' D = some (.lst acc)) : Ext T F H F' (upd H' D o) :=
  ⟨x.f, x.h.upd e rfl rfl n, fun b u q => by rw [upd_ne (ne_of_none q nF)]; exact x.le _ _ q, x.new, x.nt⟩
theorem Ext.stillNone {T : List (Addr × Str)} {F H F' H' : Hp} (x : Ext T F H F' H') {D : Addr} {xs : List V} (nF : F D = none) (e : H D = some (.lst xs)) : F' D = none := by
  cases z : F' D with
  | none => rfl
  | some o =>
    rcases x.new D o z with y | y | ⟨ys, y⟩
    · rw [nF] at y; cases y
    · rw [e] at y; cases y
    · subst y
      have h1 := x.le _ _ z
      rw [x.h.k _ _ rfl e] at h1
      cases h1
/-- THE COMPREHENSION: the turns -/
theorem comp_body {K : PySem.W.Frag} {own : List Nat} {is : List Nat} {g : G} {c : T} {f : E} {σ : Sl} {B F1 H1 : Hp} {env : Env} {xs ys : List D} {J : It} {L : Addr} {P : Hp → Prop} (his : ∀ i ∈ is, i ∈ own)
    (S1 : Sim K xa B F1 env σ H1) (hl : xs.length < szl) (z : compGo (compTurn own g c f env) xs = .ok ys) (wk : Walk K xa H1 F1 xs J) (nD : H1 L = none)
    (q1 : ∀ F' H', Ext xa.tb F1 H1 F' H' → F' L = none → OwnAt K xa F' H' L (.lst ys) → P H') :
    ∃ W : Nat → Nat → Hp → Prop, (∃ m, W 0 m (upd H1 L (.lst []))) ∧ ∀ i m H, W i m H → (J.stop i H ∧ P H) ∨ (J.go i H ∧ ∃ Nx : Hp → Prop, (∀ H', Nx H' → ∃ m', m' < m ∧ W (i + 1) m' H') ∧
      ∀ x H', J.yld i H x H' → pG K xa is g x (wipe σ own) H' fun σ2 H2 => wipe σ2 own = wipe σ own ∧ pT K xa W0 c σ2 H2 fun b H3 =>
        if b = true then pE K xa W0 f σ2 H3 fun y H4 => ∃ acc, H4 L = some (.lst acc) ∧ acc.length < sizeLine ∧ Nx (upd H4 L (.lst (acc ++ [y]))) else Nx H3) := by
  refine ⟨fun i m Hc => m = xs.length - i ∧ i ≤ xs.length ∧ ∃ Fi acc zs, Ext xa.tb F1 H1 Fi Hc ∧ Fi L = none ∧ Hc L = some (.lst acc) ∧ Reps K xa Fi acc zs ∧ compGo (compTurn own g c f env) (xs.take i) = .ok zs ∧ zs.length ≤ i,
    ⟨xs.length, by simp, Nat.zero_le _, F1, [], [], .heap S1.hF nD, S1.hF.free nD, upd_same, .nil, rfl, Nat.le_refl _⟩, ?_⟩
  rintro i m Hc ⟨rfl, hi, Fi, acc, zs, xi, nDi, eD, ra, cg, zl⟩
  by_cases hlt : i < xs.length
  · refine .inr ⟨wk.go i Hc xi.h.k hlt, fun Hn => i + 1 ≤ xs.length ∧ ∃ Fi acc zs, Ext xa.tb F1 H1 Fi Hn ∧ Fi L = none ∧ Hn L = some (.lst acc) ∧ Reps K xa Fi acc zs ∧ compGo (compTurn own g c f env) (xs.take (i + 1)) = .ok zs ∧ zs.length ≤ i + 1, fun Hn ⟨k1, k2⟩ => ⟨_, by omega, rfl, k1, k2⟩, fun x H2 y => ?_⟩
    obtain ⟨F2, d, x2, hd, rd⟩ := wk.yld i Hc x H2 Fi xi.h.k xi.f xi.le hlt y
    have n2 : F2 L = none := x2.stillNone nDi eD
    obtain ⟨o, ho⟩ := compGo_at z hd
    have e2 : xs.take (i + 1) = xs.take i ++ [d] := by rw [List.take_succ, hd]; rfl
    have cg2 := compGo_snoc cg ho
    rw [← e2] at cg2
    have x12 := xi.trans x2
    have Sb : Sim K xa H1 F2 (blkE own env) (wipe σ own) H2 := S1.blk own x12
    have ho' : ((g d (blkE own env)).bind fun e1 => (c e1).bind fun b => if b then (f e1).bind fun y => Res.ok (some y) else Res.ok none) = .ok o := ho
    cases hg : g d (blkE own env) with
    | err c => rw [hg] at ho'; cases ho'
    | stk => rw [hg] at ho'; cases ho'
    | ok e1 =>
      rw [hg] at ho'
      refine ⟨H1, F2, blkE own env, d, Sb, rd, e1, hg, fun σ2 S2 ag => ⟨ag.wipe his, H1, F2, e1, S2, ?_⟩⟩
      simp only [Res.bind_ok] at ho'
      cases hc : c e1 with
      | err c => rw [hc] at ho'; cases ho'
      | stk => rw [hc] at ho'; cases ho'
      | ok b =>
        rw [hc] at ho'
        intro F3 H3 x3
        have eD3 : H3 L = some (.lst acc) := x3.h.k _ _ rfl (x2.h.k _ _ rfl eD)
        have n3 : F3 L = none := x3.stillNone n2 (x2.h.k _ _ rfl eD)
        cases b with
        | false =>
          simp only [Bool.false_eq_true, if_false]
          have e3 : o = none := by simpa using ho'.symm
          subst e3
          exact ⟨hlt, F3, acc, zs, x12.trans x3, n3, eD3, ra.on (x2.trans x3).f, cg2, by omega⟩
        | true =>
          simp only [if_true]
          refine ⟨H1, F3, e1, S2.ext x3, ?_⟩
          simp only [Res.bind_ok, if_true] at ho'
          cases hf : f e1 with
          | err c => rw [hf] at ho'; cases ho'
          | stk => rw [hf] at ho'; cases ho'
          | ok y =>
            rw [hf] at ho'
            have e3 : o = some y := by simpa using ho'.symm
            subst e3
            intro F4 H4 x4 v rv
            have eD4 : H4 L = some (.lst acc) := x4.h.k _ _ rfl eD3
            have n4 : F4 L = none := x4.stillNone n3 eD3
            refine ⟨acc, eD4, ?_, hlt, F4, acc ++ [v], zs ++ [y], ?_, n4, upd_same, (ra.on ((x2.trans x3).trans x4).f).append (.one rv), cg2, by simp; omega⟩
            · rw [ra.length, ← szl_eq]; omega
            · exact ((x12.trans x3).trans x4).updD nD n4 eD4
  · have e : i = xs.length := by omega
    subst e
    rw [List.take_length, z] at cg
    cases cg
    exact .inl ⟨wk.stop _ Hc xi.h.k (Nat.le_refl _), q1 Fi Hc xi nDi ⟨acc, eD, ra⟩⟩
theorem comp_ok {W : WX} {σ : Sl} {own : List Nat} {g : G} {c : T} {f : E} {F H : Hp} {env : Env} {xs : List D} {k : D → Hp → Hp → Prop}
    (q : Post xa W σ F H (if xs.length < szl then (compGo (compTurn own g c f env) xs).bind fun ys => Res.ok (D.lst ys) else .stk) k) : xs.length < szl ∧ ∃ ys, compGo (compTurn own g c f env) xs = .ok ys ∧ ∀ F' H', Ext xa.tb F H F' H' → k (.lst ys) F' H' := by
  by_cases hl : xs.length < szl
  · rw [if_pos hl] at q
    cases z : compGo (compTurn own g c f env) xs with
    | err k => exact (compGo_noErr z).elim
    | stk => rw [z] at q; exact q.elim
    | ok ys => rw [z] at q; exact ⟨hl, ys, rfl, q⟩
  · rw [if_neg hl] at q
    exact q.elim
theorem comp_core {K : PySem.W.Frag} {it : I} {own : List Nat} {is : List Nat} {g : G} {c : T} {f : E} {σ : Sl} {H : Hp} {Q : VK} (his : ∀ i ∈ is, i ∈ own)
    (h : pF K xa W (eComp it own g c f) σ H Q) : tLc (pI K xa W true it) (pG K xa is g) (pT K xa W0 c) (pE K xa W0 f) own σ H Q := by
  obtain ⟨B, F, env, S, q⟩ := h
  refine ⟨B, F, env, S, (Post.bind (r := it env) q).imp fun xs F1 H1 _ x1 q1 J wk L nD => ?_⟩
  obtain ⟨hl, ys, z, q2⟩ := comp_ok q1
  exact comp_body his (S.ext x1) hl z wk nD fun F' H' x n o => q2 F' H' x L (x1.h.free nD) n o
/-- a comprehension over a list, a tuple, a text, a range .. -/
theorem rf_comp {it : I} {own : List (Str × Nat)} {is : List Nat} {g : G} {c : T} {f : E} (hc : X.calm = true) (hN : X.N.Nodup) (hi : RI X xa W true tg iter it) (ok : BlkOk X.N X.env.scope scope own)
    (hg : ∀ (s : Shared) (H : Hp) (C : Addr) (cl : List (Str × Addr)) (fp : List Addr), RG (X.blk s H scope (compEnvC scope cl C X.env) fp) xa tg is g) (ht : ∀ (s : Shared) (H : Hp) (C : Addr) (cl : List (Str × Addr)) (fp : List Addr), RTs (X.blk s H scope (compEnvC scope cl C X.env) fp) xa W0 ifs c)
    (he : ∀ (s : Shared) (H : Hp) (C : Addr) (cl : List (Str × Addr)) (fp : List Addr), RE (X.blk s H scope (compEnvC scope cl C X.env) fp) xa W0 elt f) (his : ∀ i ∈ is, i ∈ own.map (·.2) := by decide) (hs : ∀ x, foldedSetIterable iter X.env x = pure x := by intro _; rfl) :
    RF X xa W (.ListComp elt [⟨tg, iter, ifs, 0⟩] scope pos) (eComp it (own.map (·.2)) g c f) :=
  ⟨peW (pe_lc hc hN hi.pi ok (fun s H C cl fp => (hg s H C cl fp).pg) (fun s H C cl fp => (ht s H C cl fp).pts) (fun s H C cl fp => (he s H C cl fp).pe) hs) fun σ H Q h => comp_core his h⟩

/-! ### over a dict's keys -/
theorem key_rep {K : PySem.W.Frag} {F : Hp} {q : Ky} {k : Key} (e : keyK q = some k) : Rep K xa F (kV k) q.toD := by
  cases q <;> simp [keyK] at e
  · subst e; exact .int _
  · subst e; exact .str _
theorem repK_at {K : PySem.W.Frag} {F : Hp} : ∀ {kvs : List (Key × V)} {ds : List (Ky × D)} {i : Nat} {k : Key} {v : V}, RepK K xa F kvs ds → kvs[i]? = some (k, v) → ∃ q d, ds[i]? = some (q, d) ∧ keyK q = some k
  | _, _, _, _, _, .nil, h => by simp at h
  | _, _, 0, _, _, .cons e _ _, h => by simp at h; obtain ⟨rfl, rfl⟩ := h; exact ⟨_, _, rfl, e⟩
  | _, _, i + 1, _, _, .cons _ _ t, h => by
    obtain ⟨q, d, h1, h2⟩ := repK_at (i := i) t (by simpa using h)
    exact ⟨q, d, by simpa using h1, h2⟩
theorem repT_at {K : PySem.W.Frag} {F : Hp} : ∀ {kvs : List (List Key × V)} {ds : List (Ky × D)} {i : Nat} {k : List Key} {v : V}, RepT K xa F kvs ds → kvs[i]? = some (k, v) → ∃ q d, ds[i]? = some (q, d) ∧ keyT q = some k
  | _, _, _, _, _, .nil, h => by simp at h
  | _, _, 0, _, _, .cons e _ _, h => by simp at h; obtain ⟨rfl, rfl⟩ := h; exact ⟨_, _, rfl, e⟩
  | _, _, i + 1, _, _, .cons _ _ t, h => by
    obtain ⟨q, d, h1, h2⟩ := repT_at (i := i) t (by simpa using h)
    exact ⟨q, d, by simpa using h1, h2⟩
theorem walk_keysK {K : PySem.W.Frag} {S F : Hp} {d : Addr} {o : Obj} {kvs : List (Key × V)} {ds : List (Ky × D)} (h : S d = some (.frz o (.dK kvs))) (r : RepK K xa F kvs ds) : Walk K xa S F (ds.map fun kv => kv.1.toD) (Itk d o kvs) where
  go := fun i H s l => ⟨s _ _ rfl h, by rw [repK_len r]; simpa using l⟩
  stop := fun i H s l => ⟨s _ _ rfl h, by rw [repK_len r]; simpa using l⟩
  yld := fun i H x H' F1 s f fh l y => by
    obtain ⟨rfl, k, v, h1, rfl⟩ := y
    obtain ⟨q, d, e1, e2⟩ := repK_at r h1
    exact ⟨F1, q.toD, .refl fh, by simp [e1], key_rep e2⟩
theorem Ext.tupIn {T : List (Addr × Str)} {F H : Hp} (fs : Same F H) {b : Addr} {xs : List V} (e : H b = some (.tup xs)) : Ext T F H (upd F b (.tup xs)) H := by
  refine ⟨fun c o q => ?_, .refl _, fun c o q => ?_, fun c o q => ?_, fun t => t.upd rfl⟩
  · by_cases h : c = b
    · subst h
      have := fs _ _ q
      rw [e] at this
      rw [upd_same, ← this]
    · rw [upd_ne h]; exact q
  · by_cases h : c = b
    · subst h; rw [upd_same] at q; rw [← q]; exact e
    · rw [upd_ne h] at q; exact fs _ _ q
  · by_cases h : c = b
    · subst h; rw [upd_same] at q; cases q; exact .inr (.inr ⟨_, rfl⟩)
    · rw [upd_ne h] at q; exact .inl q
theorem walk_keysT {K : PySem.W.Frag} {S F : Hp} {d : Addr} {o : Obj} {kvs : List (List Key × V)} {ds : List (Ky × D)} (h : S d = some (.frz o (.dT kvs))) (r : RepT K xa F kvs ds) : Walk K xa S F (ds.map fun kv => kv.1.toD) (Itkt d o kvs) where
  go := fun i H s l => ⟨s _ _ rfl h, by rw [repT_len r]; simpa using l⟩
  stop := fun i H s l => ⟨s _ _ rfl h, by rw [repT_len r]; simpa using l⟩
  yld := fun i H x H' F1 s f fh l y => by
    obtain ⟨rfl, k, v, b, h1, rfl, hb⟩ := y
    obtain ⟨q, d, e1, e2⟩ := repT_at r h1
    cases q <;> simp [keyT] at e2
    subst e2
    exact ⟨_, _, .tupIn fh hb, by simp [e1, Ky.toD], .tup upd_same (reps_leaves _)⟩
theorem blkE_nil (own : List Nat) (env : Env) : blkE own (blkE [] env) = blkE own env := by
  have lw : ∀ (own : List Nat) (e : Env), (wipeE (e.map Slot.lend) own).map Slot.lend = (wipeE e own).map Slot.lend := by
    intro own
    induction own with
    | nil => intro e; unfold wipeE; rw [List.map_map]; congr 1; funext s; cases s <;> rfl
    | cons i r ih =>
      intro e
      unfold wipeE
      rw [List.map_set, List.map_set, ih e]
  exact lw own env
theorem eB_blk (i : Nat) (env : Env) : eB i (blkE [] env) = eB i env := by
  unfold eB blkE wipeE
  rw [List.getElem?_map]
  cases env[i]? with
  | none => rfl
  | some s => cases s <;> rfl
/-- the dict at d locked, unlocked -/
def lockF (F : Hp) (d : Addr) (u : HO) : Hp := fun b => if b = d then (F d).map fun _ => u else F b
theorem pe_or {X : Cx} {e : Expr} {t t' : TE} (p : PE X e t) (p' : PE X e t') : PE X e (fun σ H Q => t σ H Q ∨ t' σ H Q) := ⟨fun pins s σ H Q I q => by
  rcases q with q | q
  · exact p.run pins s σ H Q I q
  · exact p'.run pins s σ H Q I q⟩
def isDct : HO → Bool
  | .dK _ => true
  | .dT _ => true
  | _ => false
theorem lockF_at {F : Hp} {d : Addr} {u o : HO} (q : F d = some o) : lockF F d u d = some u := by simp [lockF, q]
theorem lockF_ne {F : Hp} {b d : Addr} {u : HO} (h : b ≠ d) : lockF F d u b = F b := by simp [lockF, h]
theorem lockF_none {F : Hp} {d : Addr} {u : HO} (q : F d = none) : lockF F d u d = none := by simp [lockF, q]
theorem up_lock {F : Hp} {d : Addr} {od : Obj} {u : HO} (hu : isDct u = true) (e : ∀ o, F d = some o → o = u) : Up F (lockF F d (.frz od u)) := by
  refine ⟨fun a w nf r => ?_, fun a xs q => ?_, fun a xs q => ?_, fun a φ q => ?_⟩
  · by_cases h : a = d
    · subst h
      rcases r with r | ⟨o, r⟩
      · have := e _ r
        subst this
        exact .inr ⟨od, lockF_at r⟩
      · have := e _ r
        subst this
        cases hu
    · rcases r with r | ⟨o, r⟩
      · exact .inl (by rw [lockF_ne h]; exact r)
      · exact .inr ⟨o, by rw [lockF_ne h]; exact r⟩
  · by_cases h : a = d
    · subst h
      have := e _ q
      subst this
      cases hu
    · rw [lockF_ne h]; exact q
  · by_cases h : a = d
    · subst h
      have := e _ q
      subst this
      cases hu
    · rw [lockF_ne h]; exact q
  · by_cases h : a = d
    · subst h
      have := e _ q
      subst this
      cases hu
    · rw [lockF_ne h]; exact q
/-- .. and back -/
theorem up_unlock {F : Hp} {d : Addr} {od : Obj} {u : HO} {o : Option HO} (e : ∀ w, F d = some w → w = .frz od u ∧ o = some u) : Up F (fun b => if b = d then o else F b) := by
  refine ⟨fun a w nf r => ?_, fun a xs q => ?_, fun a xs q => ?_, fun a φ q => ?_⟩
  · by_cases h : a = d
    · subst h
      rcases r with r | ⟨ob, r⟩
      · obtain ⟨h1, h2⟩ := e _ r
        subst h1
        cases nf
      · obtain ⟨h1, h2⟩ := e _ r
        cases h1
        exact .inl (by simp [h2])
    · rcases r with r | ⟨ob, r⟩
      · exact .inl (by simp [h, r])
      · exact .inr ⟨ob, by simp [h, r]⟩
  · by_cases h : a = d
    · subst h
      obtain ⟨h1, _⟩ := e _ q
      cases h1
    · simp [h, q]
  · by_cases h : a = d
    · subst h
      obtain ⟨h1, _⟩ := e _ q
      cases h1
    · simp [h, q]
  · by_cases h : a = d
    · subst h
      obtain ⟨h1, _⟩ := e _ q
      cases h1
    · simp [h, q]
theorem nt_lock {F : Hp} {d : Addr} {od : Obj} {u : HO} (n : NT F) : NT (lockF F d (.frz od u)) := fun b o e => by
  by_cases h : b = d
  · subst h
    cases q : F b with
    | none => rw [lockF_none q] at e; cases e
    | some w => rw [lockF_at q] at e; cases e; rfl
  · rw [lockF_ne h] at e; exact n b o e
theorem nt_unlock {F F' : Hp} {d : Addr} (n : NT F) (n' : NT F') : NT (fun b => if b = d then F d else F' b) := fun b o e => by
  by_cases h : b = d
  · subst h; simp only [if_true] at e; exact n _ _ e
  · simp only [h, if_false] at e; exact n' _ _ e
theorem Kp.unlock {T : List (Addr × Str)} {H H' : Hp} {d : Addr} {od : Obj} {u : HO} (x : Kp T (L2.upd H d (.frz od u)) H') (rd : H d = some u) (hu : isDct u = true) : Kp T H (L2.upd H' d u) := by
  have n1 : isTbl u = false := by cases u <;> first | rfl | cases hu
  have n2 : isExt u = false := by cases u <;> first | rfl | cases hu
  have dH' : H' d = some (.frz od u) := x.k _ _ rfl upd_same
  refine ⟨fun b o t e => ?_, fun b o e t => ?_, fun t => tabs_upd dH' rfl rfl (x.tab (tabs_upd rd n1 n2 t))⟩
  · by_cases hb : b = d
    · subst hb; rw [upd_same]; rw [rd] at e; exact e
    · rw [upd_ne hb]; exact x.k _ _ t (by rw [upd_ne hb]; exact e)
  · have hb : b ≠ d := fun z => by subst z; rw [rd] at e; cases e; rw [n1] at t; cases t
    rw [upd_ne hb]
    exact x.tb b o (by rw [upd_ne hb]; exact e) t
/-- where a dict's slot points -/
theorem slot_dict {K : PySem.W.Frag} {B F H : Hp} {env : Env} {σ : Sl} {i : Nat} {t : Bool} {kvs : List (Ky × D)} (S : Sim K xa B F env σ H) (h : eB i env = .ok (.dct t kvs)) : ∃ d u, σ[i]? = some (some (.ref d)) ∧ isDct u = true ∧ Rd H d u ∧
    ((t = false ∧ ∃ kv, u = .dK kv ∧ RepK K xa F kv kvs) ∨ (t = true ∧ ∃ kv, u = .dT kv ∧ RepT K xa F kv kvs)) := by
  have main : ∀ v, σ[i]? = some (some v) → Bor K xa F H v (.dct t kvs) → ∃ d u, σ[i]? = some (some (.ref d)) ∧ isDct u = true ∧ Rd H d u ∧ ((t = false ∧ ∃ kv, u = .dK kv ∧ RepK K xa F kv kvs) ∨ (t = true ∧ ∃ kv, u = .dT kv ∧ RepT K xa F kv kvs)) := by
    intro v hv b
    cases t with
    | false => obtain ⟨a, kv, rfl, e, r⟩ := b.dK_ S.hF; exact ⟨a, _, hv, rfl, e, .inl ⟨rfl, kv, rfl, r⟩⟩
    | true => obtain ⟨a, kv, rfl, e, r⟩ := b.dT_ S.hF; exact ⟨a, _, hv, rfl, e, .inr ⟨rfl, kv, rfl, r⟩⟩
  unfold eB at h
  cases z : env[i]? with
  | none => rw [z] at h; cases h
  | some s =>
    have k := S.sl i s z
    rw [z] at h
    cases s with
    | un => cases h
    | sh d => cases h; obtain ⟨v, hv, r⟩ := k; exact main v hv (.inl r)
    | bor d => cases h; obtain ⟨v, hv, r⟩ := k; exact main v hv (r.on (.refl _) S.hB.k.up)
    | own d => cases h; obtain ⟨a, hv, _, _, r⟩ := k; exact main _ hv (.inr ⟨a, rfl, r.obj⟩)
theorem repK_up {K : PySem.W.Frag} {F F' : Hp} (h : Up F F') {t : Bool} {u : HO} {kvs : List (Ky × D)} (q : (t = false ∧ ∃ kv, u = .dK kv ∧ RepK K xa F kv kvs) ∨ (t = true ∧ ∃ kv, u = .dT kv ∧ RepT K xa F kv kvs)) :
    (t = false ∧ ∃ kv, u = .dK kv ∧ RepK K xa F' kv kvs) ∨ (t = true ∧ ∃ kv, u = .dT kv ∧ RepT K xa F' kv kvs) := by
  rcases q with ⟨h1, kv, h2, r⟩ | ⟨h1, kv, h2, r⟩
  · exact .inl ⟨h1, kv, h2, r.up h⟩
  · exact .inr ⟨h1, kv, h2, r.up h⟩
/-- the keys of a locked dict in a slot, walked -/
theorem keys_core {K : PySem.W.Frag} {own : List Nat} {is : List Nat} {g : G} {c : T} {f : E} {i : Nat} {σ : Sl} {B F H : Hp} {env : Env} {d : Addr} {od : Obj} {u : HO} {t : Bool} {kvs : List (Ky × D)} {ys : List D} {P : V → Hp → Prop} (his : ∀ i ∈ is, i ∈ own)
    (S : Sim K xa B F env σ H) (hd : σ[i]? = some (some (.ref d))) (hl : H d = some (.frz od u)) (hk : (t = false ∧ ∃ kv, u = .dK kv ∧ RepK K xa F kv kvs) ∨ (t = true ∧ ∃ kv, u = .dT kv ∧ RepT K xa F kv kvs))
    (lz : (kvs.map fun kv => kv.1.toD).length < szl) (z : compGo (compTurn own g c f env) (kvs.map fun kv => kv.1.toD) = .ok ys)
    (q : ∀ F' H' L, Ext xa.tb F H F' H' → H L = none → F' L = none → OwnAt K xa F' H' L (.lst ys) → P (.ref L) H') : tLc (iKeys (tVar i)) (pG K xa is g) (pT K xa W0 c) (pE K xa W0 f) own σ H P := by
  refine ⟨_, hd, d, od, rfl, ?_⟩
  rcases hk with ⟨_, kv, rfl, r⟩ | ⟨_, kv, rfl, r⟩
  · refine .inl ⟨kv, hl, fun L nD => ?_⟩
    exact comp_body his S lz z (walk_keysK hl r) nD fun F' H' x n o => q F' H' L x nD n o
  · refine .inr ⟨kv, hl, fun L nD => ?_⟩
    exact comp_body his S lz z (walk_keysT hl r) nD fun F' H' x n o => q F' H' L x nD n o
/-- a comprehension over the keys of the dict in slot i -/
theorem comp_keys {K : PySem.W.Frag} {own : List Nat} {is : List Nat} {g : G} {c : T} {f : E} {i : Nat} {σ : Sl} {H : Hp} {Q : VK} (his : ∀ i ∈ is, i ∈ own)
    (h : pF K xa W (eComp (iK (eB i)) own g c f) σ H Q) : tLc (iKeys (tVar i)) (pG K xa is g) (pT K xa W0 c) (pE K xa W0 f) own σ H Q ∨ tLockE (tLc (iKeys (tVar i)) (pG K xa is g) (pT K xa W0 c) (pE K xa W0 f) own) σ H Q := by
  obtain ⟨B, F, env, S, q⟩ := h
  have q0 := Post.bind (r := iK (eB i) env) q
  cases e1 : eB i env with
  | err k => simp only [eB] at e1; split at e1 <;> cases e1
  | stk => unfold iK at q0; rw [e1] at q0; exact q0.elim
  | ok dd =>
    unfold iK at q0
    rw [e1] at q0
    simp only [Res.bind_ok] at q0
    cases dd with
    | dct t kvs =>
      obtain ⟨lz, ys, z, q2⟩ := comp_ok (q0 F H (.refl S.hF))
      obtain ⟨d, u, hd, hu, rd, hk⟩ := slot_dict S e1
      rcases rd with rd | ⟨od, rd⟩
      · right
        have mu : Mut (some u) := by cases u <;> first | trivial | cases hu
        refine ⟨d, u, rd, mu, fun od => ?_⟩
        have eH : lockF H d (.frz od u) = upd H d (.frz od u) := by
          funext b
          by_cases hb : b = d
          · subst hb; rw [lockF_at rd, upd_same]
          · rw [lockF_ne hb, upd_ne hb]
        have uF : Up F (lockF F d (.frz od u)) := up_lock hu fun o ho => by
          have := S.hF _ _ ho
          rw [rd] at this; exact (Option.some.inj this).symm
        have uH : Up H (upd H d (.frz od u)) := by
          rw [← eH]
          exact up_lock hu fun o ho => by rw [rd] at ho; exact (Option.some.inj ho).symm
        have sFH : Same (lockF F d (.frz od u)) (upd H d (.frz od u)) := fun b o ho => by
          by_cases hb : b = d
          · subst hb
            cases hF : F b with
            | none => rw [lockF_none hF] at ho; cases ho
            | some w => rw [lockF_at hF] at ho; rw [upd_same, ← ho]
          · rw [lockF_ne hb] at ho; rw [upd_ne hb]; exact S.hF _ _ ho
        have S1 := S.lend [] uF uH (.refl _) sFH (nt_lock S.nt) (tabs_upd rd (by cases u <;> first | rfl | cases hu) (by cases u <;> first | rfl | cases hu) S.tab)
        refine keys_core (t := t) his S1 hd upd_same (repK_up uF hk) lz (by rw [← z]; congr 1; funext x; unfold compTurn; rw [blkE_nil]) fun F' H' L x nL nF o => ?_
        have hLd : L ≠ d := fun e => by subst e; rw [upd_same] at nL; cases nL
        have dH' : H' d = some (.frz od u) := x.h.k _ _ rfl upd_same
        refine ⟨dH', ?_⟩
        have fd : ∀ w, F' d = some w → w = .frz od u ∧ F d = some u := fun w hw => by
          have h1 := x.le _ _ hw
          rw [dH'] at h1
          cases h1
          refine ⟨rfl, ?_⟩
          rcases x.new _ _ hw with y | y | ⟨ts, y⟩
          · cases hF : F d with
            | none => rw [lockF_none hF] at y; cases y
            | some w =>
              have := S.hF _ _ hF
              rw [rd] at this
              rw [← this]
          · rw [upd_same] at y; cases y
          · cases y
        have uU : Up F' (fun b => if b = d then F d else F' b) := up_unlock (od := od) (u := u) fd
        have xx : Ext xa.tb F H (fun b => if b = d then F d else F' b) (upd H' d u) := by
          refine ⟨fun b o ho => ?_, x.h.unlock rd hu, fun b o ho => ?_, fun b o ho => ?_, fun t => nt_unlock S.nt (x.nt (nt_lock S.nt))⟩
          · by_cases hb : b = d
            · subst hb; simpa using ho
            · simp only [hb, if_false]
              exact x.f _ _ (by rw [lockF_ne hb]; exact ho)
          · by_cases hb : b = d
            · subst hb
              simp only [if_true] at ho
              have := S.hF _ _ ho
              rw [rd] at this
              rw [upd_same]; exact this
            · simp only [hb, if_false] at ho
              rw [upd_ne hb]; exact x.le _ _ ho
          · by_cases hb : b = d
            · subst hb
              simp only [if_true] at ho
              exact .inl ho
            · simp only [hb, if_false] at ho
              rcases x.new _ _ ho with y | y | y
              · rw [lockF_ne hb] at y; exact .inl y
              · rw [upd_ne hb] at y; exact .inr (.inl y)
              · exact .inr (.inr y)
        have nLH : H L = none := by rw [upd_ne hLd] at nL; exact nL
        refine q2 _ _ xx L nLH (by simp [hLd, nF]) ?_
        obtain ⟨vs, hv, rr⟩ := o
        exact ⟨vs, by rw [upd_ne hLd]; exact hv, rr.up uU⟩
      · left
        exact keys_core (t := t) his S hd rd hk lz z fun F' H' L x nL nF o => q2 F' H' x L nL nF o
    | _ => exact q0.elim
theorem rf_compD {own : List (Str × Nat)} {is : List Nat} {g : G} {c : T} {f : E} {x : Str} (i : Nat) (hN' : X.N[i]? = some x) (hv : Vis X.env.scope x) (hc : X.calm = true) (hN : X.N.Nodup) (ok : BlkOk X.N X.env.scope scope own)
    (hg : ∀ (s : Shared) (H : Hp) (C : Addr) (cl : List (Str × Addr)) (fp : List Addr), RG (X.blk s H scope (compEnvC scope cl C X.env) fp) xa tg is g) (ht : ∀ (s : Shared) (H : Hp) (C : Addr) (cl : List (Str × Addr)) (fp : List Addr), RTs (X.blk s H scope (compEnvC scope cl C X.env) fp) xa W0 ifs c)
    (he : ∀ (s : Shared) (H : Hp) (C : Addr) (cl : List (Str × Addr)) (fp : List Addr), RE (X.blk s H scope (compEnvC scope cl C X.env) fp) xa W0 elt f) (his : ∀ i ∈ is, i ∈ own.map (·.2) := by decide) (hd : (x == ("__debug__" : Str)) = false := by decide)
    (hcd : (x == ("__classdict__" : Str)) = false := by decide) (hs : ∀ y, foldedSetIterable (.Name x p) X.env y = pure y := by intro _; rfl) :
    RF X xa W (.ListComp elt [⟨tg, .Name x p, ifs, 0⟩] scope pos) (eComp (iK (eB i)) (own.map (·.2)) g c f) := by
  have base := pe_lc (own := own) (g := pG X.K xa is g) (tt := pT X.K xa W0 c) (te := pE X.K xa W0 f) hc hN (pi_keys (tg := tg) (pe_var (i := i) (pos := p) hN' hv hd hcd)) ok (fun s H C cl fp => (hg s H C cl fp).pg) (fun s H C cl fp => (ht s H C cl fp).pts) (fun s H C cl fp => (he s H C cl fp).pe) (pos := pos) hs
  exact ⟨peW (pe_or base (pe_lock base)) fun σ H Q h => comp_keys his h⟩
end
end Tw

set_option autoImplicit false
set_option Elab.async false
set_option linter.all false
set_option maxRecDepth 100000
/-! Tw, statements, loops, defs. -/
namespace Tw
open PySem L2
section
variable {K : PySem.W.Frag} {xa : XA} {W : WX} {fr : Bool} {B F H F' H' : Hp} {env : Env} {σ : Sl}
/-- what is shared grows by what did not stand before -/
structure Grow (B F F' : Hp) : Prop where
  f : Same F F'
  new : ∀ a o, F' a = some o → F a = some o ∨ B a = none ∨ ∃ xs, o = .tup xs
theorem Grow.refl (B F : Hp) : Grow B F F := ⟨.refl _, fun _ _ e => .inl e⟩
theorem Grow.trans {F1 F2 : Hp} (a : Grow B F F1) (b : Grow B F1 F2) : Grow B F F2 := ⟨a.f.trans b.f, fun c o e => by
  rcases b.new c o e with q | q
  · exact a.new c o q
  · exact .inr q⟩
theorem Ext.grow' {T : List (Addr × Str)} (x : Ext T F H F' H') (h : Kp T B H) : Grow B F F' := ⟨x.f, fun a o e => by
  rcases x.new a o e with q | q | q
  · exact .inl q
  · exact .inr (.inl (h.free q))
  · exact .inr (.inr q)⟩
/-- what is wanted behind a statement whose mirror gives r -/
def PostS (K : PySem.W.Frag) (xa : XA) (W : WX) (fr : Bool) (B F : Hp) (r : RS) (D : Ends) : Prop := match r with
  | .nx e => ∀ F' σ' H', Grow B F F' → Sim K xa B F' e σ' H' → D.nx σ' H'
  | .bk e => ∀ F' σ' H', Grow B F F' → Sim K xa B F' e σ' H' → D.bk σ' H'
  | .ct e => ∀ F' σ' H', Grow B F F' → Sim K xa B F' e σ' H' → D.ct σ' H'
  | .rt d => ∀ F' H' v, Grow B F F' → Kp xa.tb B H' → Same F' H' → NT F' → Ret K xa F B F' H' fr v d → D.rt v H'
  | .er c e => ∀ F' σ' H', Grow B F F' → Sim K xa B F' e σ' H' → W (.ref (xa c)) none σ' H'
  | .stk => False
theorem PostS.on {r : RS} {D : Ends} (p : PostS K xa W fr B F r D) (g : Grow B F F') : PostS K xa W fr B F' r D := by
  cases r with
  | nx e => exact fun F1 σ1 H1 g1 s => p F1 σ1 H1 (g.trans g1) s
  | bk e => exact fun F1 σ1 H1 g1 s => p F1 σ1 H1 (g.trans g1) s
  | ct e => exact fun F1 σ1 H1 g1 s => p F1 σ1 H1 (g.trans g1) s
  | rt d => exact fun F1 H1 v g1 b f n rt => p F1 H1 v (g.trans g1) b f n rt
  | er c e => exact fun F1 σ1 H1 g1 s => p F1 σ1 H1 (g.trans g1) s
  | stk => exact p
def pS (K : PySem.W.Frag) (xa : XA) (W : WX) (fr : Bool) (s : S) : TS := fun D σ H => ∃ B F env, Sim K xa B F env σ H ∧ PostS K xa W fr B F (s env) D
structure RSt (X : Cx) (xa : XA) (W : WX) (fr : Bool) (st : Stmt) (s : S) : Prop where
  ps : PS X st (pS X.K xa W fr s)
structure RSs (X : Cx) (xa : XA) (W : WX) (fr : Bool) (st : List Stmt) (s : S) : Prop where
  pss : PSs X st (pS X.K xa W fr s)
theorem psW {X : Cx} {st : Stmt} {t t' : TS} (p : PS X st t) (h : ∀ D σ H, t' D σ H → t D σ H) : PS X st t' := ⟨fun pins s σ H D I q => p.run pins s σ H D I (h D σ H q)⟩
theorem pssW {X : Cx} {st : List Stmt} {t t' : TS} (p : PSs X st t) (h : ∀ D σ H, t' D σ H → t D σ H) : PSs X st t' := ⟨fun pins s σ H D I q => p.run pins s σ H D I (h D σ H q)⟩
/-- an expression ahead of the rest of a statement -/
theorem PostS.run {α : Type} {r : Res α} {k : α → RS} {D : Ends} (S : Sim K xa B F env σ H) (p : PostS K xa W fr B F (r.run env k) D) : Post xa W σ F H r fun a F' _ => PostS K xa W fr B F' (k a) D := by
  cases r with
  | ok a => exact fun F1 H1 x => PostS.on (r := k a) p (x.grow' S.hB)
  | err c => exact fun F1 H1 x => p F1 σ H1 (x.grow' S.hB) (S.ext x)
  | stk => exact p.elim
variable {X : Cx} {st : Stmt} {rest : List Stmt} {s1 s2 : S} {a b c e tg iter elt : Expr} {f fa fb : E} {t : T} {pos p p2 : Pos} {x : Str} {g : G} {it : I}
theorem rss_nil : RSs X xa W fr [] sNil := ⟨pssW pss_nil fun D σ H ⟨B, F, env, S, q⟩ => q F σ H (.refl _ _) S⟩
theorem rss_cons (h1 : RSt X xa W fr st s1) (h2 : RSs X xa W fr rest s2) : RSs X xa W fr (st :: rest) (sSeq s1 s2) := ⟨pssW (pss_cons h1.ps h2.pss) fun D σ H ⟨B, F, env, S, q⟩ => by
  refine ⟨B, F, env, S, ?_⟩
  unfold sSeq at q
  cases z : s1 env with
  | nx e1 => rw [z] at q; exact fun F1 σ1 H1 g1 S1 => ⟨B, F1, e1, S1, q.on g1⟩
  | bk e1 => rw [z] at q; exact q
  | ct e1 => rw [z] at q; exact q
  | rt d => rw [z] at q; exact q
  | er k e1 => rw [z] at q; exact q
  | stk => rw [z] at q; exact q⟩
theorem rss_one (h1 : RSt X xa W fr st s1) : RSs X xa W fr [st] s1 := ⟨pss_one h1.ps⟩
/-- nothing happens, an object is shared from now on -/
theorem Sim.share (S : Sim K xa B F env σ H) {i : Nat} {d : D} (h : env[i]? = some (.own d)) : ∃ F', Grow B F F' ∧ Sim K xa B F' (env.set i (.sh d)) σ H := by
  obtain ⟨a, ea, nF, nB, o⟩ := S.sl i _ h
  obtain ⟨u, eu, r⟩ := o.rep' nF
  have sf : Same F (upd F a u) := same_upd nF
  have hi : i < env.length := (List.getElem?_eq_some_iff.mp h).1
  refine ⟨upd F a u, ⟨sf, fun b w q => ?_⟩, ⟨by simp [S.len], S.hB, fun b w q => ?_, S.nt.upd (o.notTbl eu), S.tab, fun j s q => ?_, fun j k b d1 d2 e1 e2 o1 o2 => ?_⟩⟩
  · by_cases hb : b = a
    · subst hb; exact .inr (.inl nB)
    · rw [upd_ne hb] at q; exact .inl q
  · by_cases hb : b = a
    · subst hb; rw [upd_same] at q; rw [← q]; exact eu
    · rw [upd_ne hb] at q; exact S.hF _ _ q
  · by_cases hj : i = j
    · subst hj
      rw [List.getElem?_set_self hi] at q
      cases q
      exact ⟨_, ea, r⟩
    · rw [List.getElem?_set_ne hj] at q
      have k := S.sl j s q
      cases s with
      | un => trivial
      | sh d1 => obtain ⟨v, hv, rr⟩ := k; exact ⟨v, hv, rr.on sf⟩
      | bor d1 => obtain ⟨v, hv, rr⟩ := k; exact ⟨v, hv, rr.on sf (.of (.refl _))⟩
      | own d1 =>
        obtain ⟨b, eb, nFb, nBb, ob⟩ := k
        have hab : b ≠ a := fun z => by
          subst z
          exact hj (S.ap i j b d d1 h q ea eb)
        exact ⟨b, eb, by rw [upd_ne hab]; exact nFb, nBb, ob.on sf (.refl _)⟩
  · have hj : i ≠ j := fun z => by
      subst z; rw [List.getElem?_set_self hi] at e1; cases e1
    have hk : i ≠ k := fun z => by
      subst z; rw [List.getElem?_set_self hi] at e2; cases e2
    rw [List.getElem?_set_ne hj] at e1
    rw [List.getElem?_set_ne hk] at e2
    exact S.ap j k b d1 d2 e1 e2 o1 o2
theorem rss_frz (i : Nat) {sts : List Stmt} {s : S} (h : RSs X xa W fr sts s) : RSs X xa W fr sts (sSeq (sFrz i) s) := ⟨pssW h.pss fun D σ H ⟨B, F, env, S, q⟩ => by
  unfold sSeq sFrz at q
  cases z : env[i]? with
  | none => rw [z] at q; exact ⟨B, F, env, S, q⟩
  | some sl =>
    cases sl with
    | own d =>
      rw [z] at q
      obtain ⟨F1, g1, S1⟩ := S.share z
      exact ⟨B, F1, _, S1, q.on g1⟩
    | _ => rw [z] at q; exact ⟨B, F, env, S, q⟩⟩

/-! ### small statements -/
theorem rs_pass : RSt X xa W fr (.Pass pos) sNil := ⟨psW ps_pass fun D σ H ⟨B, F, env, S, q⟩ => q F σ H (.refl _ _) S⟩
theorem rs_break : RSt X xa W fr (.Break pos) sBrk := ⟨psW ps_break fun D σ H ⟨B, F, env, S, q⟩ => q F σ H (.refl _ _) S⟩
theorem rs_cont : RSt X xa W fr (.Continue pos) sCnt := ⟨psW ps_continue fun D σ H ⟨B, F, env, S, q⟩ => q F σ H (.refl _ _) S⟩
theorem rs_expr (ha : RB X xa W a fa) (hs : swapsWith a none pos.line X.env = pure false := by rfl) : RSt X xa W fr (.Expr a pos) (sDrop fa) := ⟨psW (ps_expr ha.pe hs) fun D σ H ⟨B, F, env, S, q⟩ =>
  ⟨B, F, env, S, (PostS.run (r := fa env) S q).imp fun d F1 H1 _ x1 q1 v1 b1 => q1 F1 σ H1 (.refl _ _) (S.ext x1)⟩⟩
theorem rs_set {i : Nat} (hN : X.N.Nodup) (hi : X.N[i]? = some x) (hx : Loc X.env.scope x) (ha : RE X xa W a fa) (hs : swapsWith a (some (.Name x p)) pos.line X.env = pure false := by rfl) (hf : X.fn x = true ∨ X.env.scope.names.lookup x = some .local := by first | exact .inl rfl | exact .inr rfl | assumption) :
    RSt X xa W fr (.Assign [.Name x p] a pos) (sSet i fa) := ⟨psW (ps_set (i := i) hN hi hx ha.pe hs hf) fun D σ H ⟨B, F, env, S, q⟩ =>
  ⟨B, F, env, S, (PostS.run (r := fa env) S q).imp fun d F1 H1 _ x1 q1 v1 r1 => q1 F1 _ H1 (.refl _ _) ((S.ext x1).set_sh r1 i)⟩⟩
/-- a new object for a slot -/
theorem Sim.new (S : Sim K xa B F env σ H) (x : Ext xa.tb F H F' H') {a : Addr} {d : D} (n : H a = none) (nF : F' a = none) (o : OwnAt K xa F' H' a d) (i : Nat) : Sim K xa B F' (env.set i (.own d)) (σ.set i (some (.ref a))) H' := by
  refine (S.ext x).set_own nF (S.hB.free n) o i fun j d' _ e z => ?_
  obtain ⟨b, eb, _, _, ob⟩ := S.sl j _ e
  rw [z] at eb
  cases eb
  obtain ⟨u, hu⟩ := ob.ex
  rw [n] at hu; cases hu
theorem rs_own {i : Nat} (hN : X.N.Nodup) (hi : X.N[i]? = some x) (hx : Loc X.env.scope x) (ha : RF X xa W a fa) (hs : swapsWith a (some (.Name x p)) pos.line X.env = pure false := by rfl) (hf : X.fn x = true ∨ X.env.scope.names.lookup x = some .local := by first | exact .inl rfl | exact .inr rfl | assumption) :
    RSt X xa W fr (.Assign [.Name x p] a pos) (sOwn i fa) := ⟨psW (ps_set (i := i) hN hi hx ha.pe hs hf) fun D σ H ⟨B, F, env, S, q⟩ =>
  ⟨B, F, env, S, (PostS.run (r := fa env) S q).imp fun d F1 H1 _ x1 q1 u n nF o => q1 F1 _ H1 (.refl _ _) (S.new x1 n nF o i)⟩⟩
theorem rs_asg {is : List Nat} (ha : RE X xa W a fa) (hg : RG X xa tg is g) (hs : swapsWithSole [tg] a pos.line X.env = pure false := by rfl) (hw : swappedStores [tg] a X.env = pure none := by rfl)
    (h1 : (assignEach [tg] X.env).map (·.2) = [assign tg X.env] := by rfl) : RSt X xa W fr (.Assign [tg] a pos) (sAsg g fa) := ⟨psW (ps_asg ha.pe hg.pg hs hw h1) fun D σ H ⟨B, F, env, S, q⟩ =>
  ⟨B, F, env, S, (PostS.run (r := fa env) S q).imp fun d F1 H1 _ x1 q1 v1 r1 => by
    cases z : g d env with
    | ok e1 => rw [z] at q1; exact ⟨B, F1, env, d, S.ext x1, r1, e1, z, fun σ' S' _ => q1 F1 σ' H1 (.refl _ _) S'⟩
    | err k => rw [z] at q1; exact q1.elim
    | stk => rw [z] at q1; exact q1.elim⟩⟩
theorem rs_ret (ha : RE X xa W a fa) : RSt X xa W false (.Return (some a) pos) (sRet fa) := ⟨psW (ps_ret ha.pe) fun D σ H ⟨B, F, env, S, q⟩ =>
  ⟨B, F, env, S, (PostS.run (r := fa env) S q).imp fun d F1 H1 _ x1 q1 v1 r1 => q1 F1 H1 v1 (.refl _ _) (S.hB.trans x1.h) x1.le (x1.nt S.nt) r1⟩⟩
theorem rs_retF (ha : RF X xa W a fa) : RSt X xa W true (.Return (some a) pos) (sRet fa) := ⟨psW (ps_ret ha.pe) fun D σ H ⟨B, F, env, S, q⟩ =>
  ⟨B, F, env, S, (PostS.run (r := fa env) S q).imp fun d F1 H1 _ x1 q1 u n nF o => q1 F1 H1 _ (.refl _ _) (S.hB.trans x1.h) x1.le (x1.nt S.nt) ⟨u, rfl, S.hB.free n, nF, o⟩⟩⟩
theorem rs_retN : RSt X xa W false (.Return none pos) (sRet (eC .non)) := ⟨psW ps_retN fun D σ H ⟨B, F, env, S, q⟩ => q F H .non (.refl _ _) S.hB S.hF S.nt .non⟩
theorem rs_retO (i : Nat) (hN : X.N[i]? = some x := by rfl) (hv : Vis X.env.scope x := by first | exact Or.inl rfl | exact Or.inr (Or.inl rfl) | exact Or.inr (Or.inr rfl)) (hd : (x == ("__debug__" : Str)) = false := by decide)
    (hcd : (x == ("__classdict__" : Str)) = false := by decide) : RSt X xa W true (.Return (some (.Name x p)) pos) (sRetO i) := ⟨psW (ps_ret (pe_var (i := i) hN hv hd hcd)) fun D σ H ⟨B, F, env, S, q⟩ => by
  unfold sRetO at q
  cases z : env[i]? with
  | none => rw [z] at q; exact q.elim
  | some sl =>
    cases sl with
    | own d =>
      rw [z] at q
      obtain ⟨a, ea, nF, nB, o⟩ := S.sl i _ z
      exact ⟨_, ea, q F H _ (.refl _ _) S.hB S.hF S.nt ⟨a, rfl, nB, nF, o⟩⟩
    | _ => rw [z] at q; exact q.elim⟩
theorem rs_if {sa sb : List Stmt} (hc : RT X xa W c t) (ha : RSs X xa W fr sa s1) (hb : RSs X xa W fr sb s2) : RSt X xa W fr (.If c sa sb pos) (sIf t s1 s2) := ⟨psW (ps_if hc.pt ha.pss hb.pss) fun D σ H ⟨B, F, env, S, q⟩ =>
  ⟨B, F, env, S, (PostS.run (r := t env) S q).imp fun k F1 H1 _ x1 q1 => by
    cases k with
    | true => exact ⟨B, F1, env, S.ext x1, q1⟩
    | false => exact ⟨B, F1, env, S.ext x1, q1⟩⟩⟩

/-! ### what changes one's own objects -/
theorem OwnAt.upd_ne {G : Hp} {a b : Addr} {d : D} {o : HO} (h : OwnAt K xa F G b d) (n : b ≠ a) : OwnAt K xa F (upd G a o) b d := by
  cases d with
  | lst ds => obtain ⟨xs, e, r⟩ := h; exact ⟨xs, by rw [L2.upd_ne n]; exact e, r⟩
  | dct t ds =>
    cases t
    · obtain ⟨xs, e, r⟩ := h; exact ⟨xs, by rw [L2.upd_ne n]; exact e, r⟩
    · obtain ⟨xs, e, r⟩ := h; exact ⟨xs, by rw [L2.upd_ne n]; exact e, r⟩
  | _ => exact h.elim
theorem Sim.mut (S : Sim K xa B F env σ H) {i : Nat} {a : Addr} {d d' : D} {o : HO} (h : env[i]? = some (.own d)) (ha : σ[i]? = some (some (.ref a))) (nF : F a = none) (nB : B a = none) (ow : OwnAt K xa F (upd H a o) a d') : Sim K xa B F (env.set i (.own d')) σ (upd H a o) := by
  have hi : i < env.length := (List.getElem?_eq_some_iff.mp h).1
  obtain ⟨a', ea', _, _, o0⟩ := S.sl i _ h
  rw [ha] at ea'
  cases ea'
  obtain ⟨u0, hu0⟩ := o0.ex
  refine ⟨by simp [S.len], S.hB.upd hu0 (o0.notTbl hu0) (o0.notExt hu0) nB, fun b u q => by rw [L2.upd_ne (ne_of_none q nF)]; exact S.hF _ _ q, S.nt, tabs_upd hu0 (o0.notTbl hu0) (o0.notExt hu0) S.tab, fun j s e => ?_, fun j k b d1 d2 e1 e2 o1 o2 => ?_⟩
  · by_cases hj : i = j
    · subst hj
      rw [List.getElem?_set_self hi] at e
      cases e
      exact ⟨a, ha, nF, nB, ow⟩
    · rw [List.getElem?_set_ne hj] at e
      have q := S.sl j s e
      cases s with
      | own d1 =>
        obtain ⟨b, eb, nFb, nBb, ob⟩ := q
        have hab : b ≠ a := fun z => by
          subst z
          exact hj (S.ap i j b d d1 h e ha eb)
        exact ⟨b, eb, nFb, nBb, ob.upd_ne hab⟩
      | _ => exact q
  · have old : ∀ j d1, (env.set i (.own d'))[j]? = some (Slot.own d1) → ∃ d2, env[j]? = some (Slot.own d2) := fun j d1 e => by
      by_cases hj : i = j
      · subst hj; exact ⟨d, h⟩
      · rw [List.getElem?_set_ne hj] at e; exact ⟨d1, e⟩
    obtain ⟨d3, e3⟩ := old j d1 e1
    obtain ⟨d4, e4⟩ := old k d2 e2
    exact S.ap j k b d3 d4 e3 e4 o1 o2
/-- the list in a slot -/
theorem Sim.lstAt (S : Sim K xa B F env σ H) {i : Nat} {ds : List D} (h : env[i]? = some (.own (.lst ds))) : ∃ a xs, σ[i]? = some (some (.ref a)) ∧ F a = none ∧ B a = none ∧ H a = some (.lst xs) ∧ Reps K xa F xs ds := by
  obtain ⟨a, ea, nF, nB, xs, e, r⟩ := S.sl i _ h
  exact ⟨a, xs, ea, nF, nB, e, r⟩
/-- a name's own object by its slot -/
structure VarAt (X : Cx) (i : Nat) (x : Str) : Prop where
  pe : ∀ p, PE X (.Name x p) (tVar i)
theorem var_at (i : Nat) {x : Str} (hN : X.N[i]? = some x := by rfl) (hv : Vis X.env.scope x := by first | exact Or.inl rfl | exact Or.inr (Or.inl rfl) | exact Or.inr (Or.inr rfl)) (hd : (x == ("__debug__" : Str)) = false := by decide)
    (hcd : (x == ("__classdict__" : Str)) = false := by decide) : VarAt X i x := ⟨fun _ => pe_var hN hv hd hcd⟩
theorem rs_app {i : Nat} {apos : Pos} (hv : VarAt X i x) (ha : RE X xa W a fa) (hs : swapsWith (.Call (.Attribute (.Name x p) "append" apos) [a] [] p2) none pos.line X.env = pure false := by rfl)
    (hbase : attributeBase (.Name x p) "append" X.env (eval (.Name x p) X.env) = eval (.Name x p) X.env := by rfl)
    (hfew : ((backTo p2 (starEach [a] X.env)).all (fun x => !x.1) && (backToKw p2 (keywordEach [] X.env)).all (fun x => x.1.isSome) && decide (([a] : List Expr).length + ([] : List Keyword).length + (if ([] : List Keyword).isEmpty then 0 else 1) < 30)) = true := by rfl)
    (hline : (apos.endLine == p2.line) = true := by rfl) (hst : starEach [a] X.env = (false, eval a X.env) :: starEach [] X.env := by rfl) (hplain : (backTo p2 (starEach [] X.env)).any (·.1) = false := by rfl) :
    RSt X xa W fr (.Expr (.Call (.Attribute (.Name x p) "append" apos) [a] [] p2) pos) (sApp i fa) :=
  ⟨psW (ps_expr (pe_bm PySem.F.plainAttrs_list PySem.F.slot_list_append PySem.F.type_list_append mt_append (hv.pe p) (pa_cons ha.pe pa_nil hst) hbase hfew hline hst hplain) hs) fun D σ H ⟨B, F, env, S, q⟩ => by
    unfold sApp at q
    cases z : env[i]? with
    | none => rw [z] at q; exact q.elim
    | some sl =>
      rw [z] at q
      cases sl with
      | own d =>
        cases d with
        | lst ds =>
          obtain ⟨u, xs, eu, nF, nB, hu, r⟩ := S.lstAt z
          refine ⟨_, eu, .inl ⟨rfl, xs, SqL.of hu⟩, B, F, env, S, (PostS.run (r := fa env) S q).imp fun d F1 H1 _ x1 q1 v1 r1 => ?_⟩
          have hu1 := x1.h.k _ _ rfl hu
          have S1 := S.ext x1
          obtain ⟨u', xs', eu', nF1, _, hu', r'⟩ := S1.lstAt z
          rw [eu] at eu'
          cases eu'
          rw [hu1] at hu'
          cases hu'
          split at q1
          · rename_i hl
            exact ⟨u, xs, v1, rfl, rfl, hu1, by rw [r.length, ← szl_eq]; exact hl, q1 F1 σ _ (.refl _ _) (S1.mut z eu nF1 nB ⟨_, upd_same, r'.append (.one r1)⟩)⟩
          · exact q1.elim
        | _ => exact q.elim
      | _ => exact q.elim⟩
theorem rs_ext {i : Nat} {apos : Pos} (hv : VarAt X i x) (ha : RB X xa W a fa) (hs : swapsWith (.Call (.Attribute (.Name x p) "extend" apos) [a] [] p2) none pos.line X.env = pure false := by rfl)
    (hbase : attributeBase (.Name x p) "extend" X.env (eval (.Name x p) X.env) = eval (.Name x p) X.env := by rfl)
    (hfew : ((backTo p2 (starEach [a] X.env)).all (fun x => !x.1) && (backToKw p2 (keywordEach [] X.env)).all (fun x => x.1.isSome) && decide (([a] : List Expr).length + ([] : List Keyword).length + (if ([] : List Keyword).isEmpty then 0 else 1) < 30)) = true := by rfl)
    (hline : (apos.endLine == p2.line) = true := by rfl) (hst : starEach [a] X.env = (false, eval a X.env) :: starEach [] X.env := by rfl) (hplain : (backTo p2 (starEach [] X.env)).any (·.1) = false := by rfl) :
    RSt X xa W fr (.Expr (.Call (.Attribute (.Name x p) "extend" apos) [a] [] p2) pos) (sExt i fa) :=
  ⟨psW (ps_expr (pe_bm PySem.F.plainAttrs_list PySem.F.slot_list_extend PySem.F.type_list_extend mt_extend (hv.pe p) (pa_cons ha.pe pa_nil hst) hbase hfew hline hst hplain) hs) fun D σ H ⟨B, F, env, S, q⟩ => by
    unfold sExt at q
    cases z : env[i]? with
    | none => rw [z] at q; exact q.elim
    | some sl =>
      rw [z] at q
      cases sl with
      | own d =>
        cases d with
        | lst ds =>
          obtain ⟨u, xs, eu, nF, nB, hu, r⟩ := S.lstAt z
          refine ⟨_, eu, .inl ⟨rfl, xs, SqL.of hu⟩, B, F, env, S, (PostS.run (r := fa env) S q).imp fun d F1 H1 _ x1 q1 v1 b1 => ?_⟩
          have hu1 := x1.h.k _ _ rfl hu
          have S1 := S.ext x1
          obtain ⟨u', xs', eu', nF1, _, hu', r'⟩ := S1.lstAt z
          rw [eu] at eu'
          cases eu'
          rw [hu1] at hu'
          cases hu'
          cases d with
          | lst es =>
            obtain ⟨w, ys, rfl, hw, rw_⟩ := b1.lst_ x1.le
            simp only at q1
            split at q1
            · rename_i hl
              exact ⟨u, w, xs, ys, rfl, rfl, hu1, hw, by rw [r.length, rw_.length, ← szl_eq]; exact hl, q1 F1 σ _ (.refl _ _) (S1.mut z eu nF1 nB ⟨_, upd_same, r'.append rw_⟩)⟩
            · exact q1.elim
          | _ => exact q1.elim
        | _ => exact q.elim
      | _ => exact q.elim⟩
theorem seqIx {k : Int} {n : Nat} (h0 : 0 ≤ k) (h1 : k < n) : seqIndex? k n = some k.toNat := (ixN_seq (n := n) (i := k) (j := k.toNat) (by unfold L2.ixN; rw [if_pos h0, if_pos h1])).1
/-- y = x.pop(k) -/
theorem rs_popAt {i j : Nat} {y : Str} {apos : Pos} (hv : VarAt X i x) (ha : RB X xa W a fa) (hN : X.N.Nodup) (hj : X.N[j]? = some y) (hy : Loc X.env.scope y) (hs : swapsWith (.Call (.Attribute (.Name x p) "pop" apos) [a] [] p2) (some (.Name y p)) pos.line X.env = pure false := by rfl)
    (hf : X.fn y = true ∨ X.env.scope.names.lookup y = some .local := by first | exact .inl rfl | exact .inr rfl | assumption) (hbase : attributeBase (.Name x p) "pop" X.env (eval (.Name x p) X.env) = eval (.Name x p) X.env := by rfl)
    (hfew : ((backTo p2 (starEach [a] X.env)).all (fun x => !x.1) && (backToKw p2 (keywordEach [] X.env)).all (fun x => x.1.isSome) && decide (([a] : List Expr).length + ([] : List Keyword).length + (if ([] : List Keyword).isEmpty then 0 else 1) < 30)) = true := by rfl)
    (hline : (apos.endLine == p2.line) = true := by rfl) (hst : starEach [a] X.env = (false, eval a X.env) :: starEach [] X.env := by rfl) (hplain : (backTo p2 (starEach [] X.env)).any (·.1) = false := by rfl) {p3 : Pos} (hs' : swapsWith (.Call (.Attribute (.Name x p) "pop" apos) [a] [] p2) (some (.Name y p3)) pos.line X.env = pure false := by rfl) :
    RSt X xa W fr (.Assign [.Name y p3] (.Call (.Attribute (.Name x p) "pop" apos) [a] [] p2) pos) (sPopAt j i fa) :=
  ⟨psW (ps_set (i := j) hN hj hy (pe_bm PySem.F.plainAttrs_list PySem.F.slot_list_pop PySem.F.type_list_pop mt_popAt (hv.pe p) (pa_cons ha.pe pa_nil hst) hbase hfew hline hst hplain) hs' hf) fun D σ H ⟨B, F, env, S, q⟩ => by
    unfold sPopAt at q
    cases z : env[i]? with
    | none => rw [z] at q; exact q.elim
    | some sl =>
      rw [z] at q
      cases sl with
      | own d =>
        cases d with
        | lst ds =>
          obtain ⟨u, xs, eu, nF, nB, hu, r⟩ := S.lstAt z
          refine ⟨_, eu, .inl ⟨rfl, xs, SqL.of hu⟩, B, F, env, S, (PostS.run (r := fa env) S q).imp fun d F1 H1 _ x1 q1 v1 b1 => ?_⟩
          have hu1 := x1.h.k _ _ rfl hu
          have S1 := S.ext x1
          obtain ⟨u', xs', eu', nF1, _, hu', r'⟩ := S1.lstAt z
          rw [eu] at eu'
          cases eu'
          rw [hu1] at hu'
          cases hu'
          cases d with
          | int k =>
            rw [b1.int_]
            simp only at q1
            split at q1
            · rename_i hk
              cases g : ds[k.toNat]? with
              | none => rw [g] at q1; exact q1.elim
              | some w =>
                rw [g] at q1
                obtain ⟨wv, hw, rw_⟩ := r'.get g
                have hlen := (List.getElem?_eq_some_iff.mp hw).1
                refine ⟨u, xs, k, k.toNat, wv, rfl, rfl, hu1, by omega, by omega, seqIx hk.1 (by omega), hw, ?_⟩
                exact q1 F1 _ _ (.refl _ _) ((S1.mut (d' := .lst (ds.eraseIdx k.toNat)) z eu nF1 nB ⟨xs.eraseIdx k.toNat, upd_same, r'.eraseIdx _⟩).set_sh rw_ j)
            · exact q1.elim
          | _ => exact q1.elim
        | _ => exact q.elim
      | _ => exact q.elim⟩
end
end Tw

set_option autoImplicit false
set_option Elab.async false
set_option linter.all false
set_option maxRecDepth 100000
/-! Tw, loops, a comprehension that is stored, defs. -/
namespace Tw
open PySem L2
section
variable {K : PySem.W.Frag} {xa : XA} {W : WX} {fr : Bool} {B F H F' H' : Hp} {env : Env} {σ : Sl}
variable {X : Cx} {st : Stmt} {rest : List Stmt} {s1 s2 : S} {a b c e tg iter elt : Expr} {f fa fb : E} {t : T} {pos p p2 spos : Pos} {x y : Str} {g : G} {it : I}
theorem rs_while {body : List Stmt} (hp : PassesOwn (model X.prog X.w) X.A X.env X.xe) (hc : RT X xa W c t) (hb : RSs X xa W fr body s1) : RSt X xa W fr (.While c body [] pos) (sWhile t s1) := ⟨psW (ps_while hp hc.pt hb.pss) fun D σ H ⟨B, F, env, S, q⟩ => by
  refine ⟨fun n σ' H' => ∃ F1 e1, Grow B F F1 ∧ Sim X.K xa B F1 e1 σ' H' ∧ PostS X.K xa W fr B F1 (whileGo t s1 n e1) D, ⟨fuel, F, env, .refl _ _, S, q⟩, ?_⟩
  rintro m σ1 H1 ⟨F1, e1, g1, S1, q1⟩
  cases m with
  | zero => exact q1.elim
  | succ n =>
    unfold whileGo at q1
    refine ⟨B, F1, e1, S1, (PostS.run (r := t e1) S1 q1).imp fun k F2 H2 _ x2 q2 => ?_⟩
    have S2 := S1.ext x2
    have g2 := g1.trans (x2.grow' S1.hB)
    cases k with
    | false =>
      simp only [Bool.false_eq_true, if_false] at q2 ⊢
      exact q2 F2 σ1 H2 (.refl _ _) S2
    | true =>
      simp only [if_true] at q2 ⊢
      refine ⟨fun σ' H' => ∃ F3 e3, Grow B F F3 ∧ Sim X.K xa B F3 e3 σ' H' ∧ PostS X.K xa W fr B F3 (whileGo t s1 n e3) D, fun σ' H' h => ⟨n, Nat.lt_succ_self _, h⟩, B, F2, e1, S2, ?_⟩
      cases z : s1 e1 with
      | nx e3 => rw [z] at q2; exact fun F3 σ3 H3 g3 S3 => ⟨F3, e3, g2.trans g3, S3, q2.on g3⟩
      | ct e3 => rw [z] at q2; exact fun F3 σ3 H3 g3 S3 => ⟨F3, e3, g2.trans g3, S3, q2.on g3⟩
      | bk e3 => rw [z] at q2; exact q2
      | rt d => rw [z] at q2; exact q2
      | er k e3 => rw [z] at q2; exact q2
      | stk => rw [z] at q2; exact q2⟩
theorem rs_for {is : List Nat} {body : List Stmt} (hp : PassesOwn (model X.prog X.w) X.A X.env X.xe) (hcalm : X.calm = true) (hi : RI X xa W false tg iter it) (hg : RG X xa tg is g) (hb : RSs X xa W fr body s1) (hs : ∀ x, foldedSetIterable iter X.env x = pure x := by intro _; rfl) :
    RSt X xa W fr (.For tg iter body [] pos) (sFor it g s1) := ⟨psW (ps_for hp hcalm hi.pi hg.pg hb.pss hs) fun D σ H ⟨B, F, env, S, q⟩ => by
  refine ⟨B, F, env, S, (PostS.run (r := it env) S q).imp fun xs F1 H1 _ x1 q1 J wk => ?_⟩
  have wk : Walk X.K xa F1 F1 xs J := wk
  have S1 := S.ext x1
  refine ⟨fun i m σ' H' => m = xs.length - i ∧ i ≤ xs.length ∧ ∃ F2 e2, Grow B F1 F2 ∧ Sim X.K xa B F2 e2 σ' H' ∧ PostS X.K xa W fr B F2 (forGo g s1 (xs.drop i) e2) D, ⟨_, rfl, Nat.zero_le _, F1, env, .refl _ _, S1, q1⟩, ?_⟩
  rintro i m σ2 H2 ⟨rfl, hi, F2, e2, g2, S2, q2⟩
  have sF : Same F1 H2 := g2.f.trans S2.hF
  by_cases hlt : i < xs.length
  · refine .inr ⟨wk.go i H2 (.of sF) hlt, fun σ' H' => i + 1 ≤ xs.length ∧ ∃ F3 e3, Grow B F1 F3 ∧ Sim X.K xa B F3 e3 σ' H' ∧ PostS X.K xa W fr B F3 (forGo g s1 (xs.drop (i + 1)) e3) D, fun σ' H' ⟨k1, k2⟩ => ⟨_, by omega, rfl, k1, k2⟩, fun x H3 yy => ?_⟩
    obtain ⟨F3, d, x3, hd, rd⟩ := wk.yld i H2 x H3 F2 (.of sF) g2.f S2.hF hlt yy
    have S3 := S2.ext x3
    have g3 := g2.trans (x3.grow' S2.hB)
    have hdr : xs.drop i = d :: xs.drop (i + 1) := by
      rw [List.drop_eq_getElem_cons hlt]
      rw [List.getElem?_eq_getElem hlt] at hd
      cases hd
      rfl
    rw [hdr] at q2
    unfold forGo at q2
    cases hg : g d e2 with
    | err k => rw [hg] at q2; exact q2.elim
    | stk => rw [hg] at q2; exact q2.elim
    | ok e3 =>
      rw [hg] at q2
      refine ⟨B, F3, e2, d, S3, rd, e3, hg, fun σ4 S4 _ => ⟨B, F3, e3, S4, ?_⟩⟩
      have gg := x3.grow' S2.hB
      simp only at q2
      cases z : s1 e3 with
      | nx e4 => rw [z] at q2; exact fun F5 σ5 H5 g5 S5 => ⟨hlt, F5, e4, g3.trans g5, S5, q2.on (gg.trans g5)⟩
      | ct e4 => rw [z] at q2; exact fun F5 σ5 H5 g5 S5 => ⟨hlt, F5, e4, g3.trans g5, S5, q2.on (gg.trans g5)⟩
      | bk e4 =>
        rw [z] at q2
        have q3 : PostS X.K xa W fr B F2 (RS.nx e4) D := q2
        exact fun F5 σ5 H5 g5 S5 => q3 F5 σ5 H5 (gg.trans g5) S5
      | rt d2 => rw [z] at q2; exact PostS.on (r := .rt d2) q2 gg
      | er k e4 => rw [z] at q2; exact PostS.on (r := .er k e4) q2 gg
      | stk => rw [z] at q2; exact q2.elim
  · have e : i = xs.length := by omega
    subst e
    rw [List.drop_length] at q2
    refine .inl ⟨wk.stop _ H2 (.of sF) (Nat.le_refl _), ?_⟩
    have q3 : PostS X.K xa W fr B F2 (RS.nx e2) D := q2
    exact q3 F2 σ2 H2 (.refl _ _) S2⟩

/-! ### y = [..] on one line -/
/-- a comprehension with its reading, as a value or stored -/
structure RC (X : Cx) (xa : XA) (W : WX) (elt tg iter : Expr) (ifs : List Expr) (scope : Scope) (f : E) : Prop where
  ex : ∃ (wi : TI) (g : TG) (tt : TT) (te : TE) (own : List (Str × Nat)), PI X tg iter wi ∧ BlkOk X.N X.env.scope scope own ∧
    (∀ (s : Shared) (H : Hp) (C : Addr) (cl : List (Str × Addr)) (fp : List Addr), PG (X.blk s H scope (compEnvC scope cl C X.env) fp) tg g) ∧
    (∀ (s : Shared) (H : Hp) (C : Addr) (cl : List (Str × Addr)) (fp : List Addr), PTs (X.blk s H scope (compEnvC scope cl C X.env) fp) ifs tt) ∧
    (∀ (s : Shared) (H : Hp) (C : Addr) (cl : List (Str × Addr)) (fp : List Addr), PE (X.blk s H scope (compEnvC scope cl C X.env) fp) elt te) ∧
    (∀ y, foldedSetIterable iter X.env y = pure y) ∧
    ((∀ σ H Q, pF X.K xa W f σ H Q → tLc wi g tt te (own.map (·.2)) σ H Q) ∨ ∀ σ H Q, pF X.K xa W f σ H Q → tLc wi g tt te (own.map (·.2)) σ H Q ∨ tLockE (tLc wi g tt te (own.map (·.2))) σ H Q)
theorem RC.toF {ifs : List Expr} {scope : Scope} (h : RC X xa W elt tg iter ifs scope f) (hc : X.calm = true) (hN : X.N.Nodup) : RF X xa W (.ListComp elt [⟨tg, iter, ifs, 0⟩] scope pos) f := by
  obtain ⟨wi, g, tt, te, own, h1, h2, h3, h4, h5, h6, h7⟩ := h.ex
  have base := pe_lc hc hN h1 h2 h3 h4 h5 h6 (pos := pos)
  rcases h7 with h7 | h7
  · exact ⟨peW base h7⟩
  · exact ⟨peW (pe_or base (pe_lock base)) h7⟩
theorem rc_comp {ifs : List Expr} {scope : Scope} {own : List (Str × Nat)} {is : List Nat} {t : T} (hi : RI X xa W true tg iter it) (ok : BlkOk X.N X.env.scope scope own)
    (hg : ∀ (s : Shared) (H : Hp) (C : Addr) (cl : List (Str × Addr)) (fp : List Addr), RG (X.blk s H scope (compEnvC scope cl C X.env) fp) xa tg is g) (ht : ∀ (s : Shared) (H : Hp) (C : Addr) (cl : List (Str × Addr)) (fp : List Addr), RTs (X.blk s H scope (compEnvC scope cl C X.env) fp) xa W0 ifs t)
    (he : ∀ (s : Shared) (H : Hp) (C : Addr) (cl : List (Str × Addr)) (fp : List Addr), RE (X.blk s H scope (compEnvC scope cl C X.env) fp) xa W0 elt f) (his : ∀ i ∈ is, i ∈ own.map (·.2) := by decide) (hs : ∀ x, foldedSetIterable iter X.env x = pure x := by intro _; rfl) :
    RC X xa W elt tg iter ifs scope (eComp it (own.map (·.2)) g t f) :=
  ⟨_, _, _, _, own, hi.pi, ok, fun s H C cl fp => (hg s H C cl fp).pg, fun s H C cl fp => (ht s H C cl fp).pts, fun s H C cl fp => (he s H C cl fp).pe, hs, .inl fun σ H Q h => comp_core his h⟩
theorem rc_keys {ifs : List Expr} {scope : Scope} {own : List (Str × Nat)} {is : List Nat} {t : T} {i : Nat} (hv : VarAt X i x) (ok : BlkOk X.N X.env.scope scope own)
    (hg : ∀ (s : Shared) (H : Hp) (C : Addr) (cl : List (Str × Addr)) (fp : List Addr), RG (X.blk s H scope (compEnvC scope cl C X.env) fp) xa tg is g) (ht : ∀ (s : Shared) (H : Hp) (C : Addr) (cl : List (Str × Addr)) (fp : List Addr), RTs (X.blk s H scope (compEnvC scope cl C X.env) fp) xa W0 ifs t)
    (he : ∀ (s : Shared) (H : Hp) (C : Addr) (cl : List (Str × Addr)) (fp : List Addr), RE (X.blk s H scope (compEnvC scope cl C X.env) fp) xa W0 elt f) (his : ∀ i ∈ is, i ∈ own.map (·.2) := by decide) (hs : ∀ y, foldedSetIterable (.Name x p) X.env y = pure y := by intro _; rfl) :
    RC X xa W elt tg (.Name x p) ifs scope (eComp (iK (eB i)) (own.map (·.2)) g t f) :=
  ⟨_, pG X.K xa is g, pT X.K xa W0 t, pE X.K xa W0 f, own, pi_keys (hv.pe p), ok, fun s H C cl fp => (hg s H C cl fp).pg, fun s H C cl fp => (ht s H C cl fp).pts, fun s H C cl fp => (he s H C cl fp).pe, hs, .inr fun σ H Q h => comp_keys his h⟩
theorem ps_or {t t' : TS} (h : PS X st t) (h' : PS X st t') : PS X st (fun D σ H => t D σ H ∨ t' D σ H) := ⟨fun pins s σ H D I q => by
  rcases q with q | q
  · exact h.run pins s σ H D I q
  · exact h'.run pins s σ H D I q⟩
theorem rs_ownC {ifs : List Expr} {scope : Scope} {i : Nat} (h : RC X xa W elt tg iter ifs scope f) (hc : X.calm = true) (hN : X.N.Nodup) (hi : X.N[i]? = some y) (hl : X.env.scope.names.lookup y = some .local)
    (hsw : swapsWith (.ListComp elt [⟨tg, iter, ifs, 0⟩] scope pos) (some (.Name y p)) spos.line X.env = pure true) : RSt X xa W fr (.Assign [.Name y p] (.ListComp elt [⟨tg, iter, ifs, 0⟩] scope pos) spos) (sOwn i f) := by
  obtain ⟨wi, g, tt, te, own, h1, h2, h3, h4, h5, h6, h7⟩ := h.ex
  have base := ps_setLc (i := i) hc hN hi hl hsw h1 h2 h3 h4 h5 h6
  have conv : ∀ (D : Ends) (σ : Sl) (H : Hp), pS X.K xa W fr (sOwn i f) D σ H → pF X.K xa W f σ H fun v H1 => gName i v σ H1 D.nx := fun D σ H ⟨B, F, env, S, q⟩ =>
    ⟨B, F, env, S, (PostS.run (r := f env) S q).imp fun d F1 H1 _ x1 q1 u n nF o => q1 F1 _ H1 (.refl _ _) (S.new x1 n nF o i)⟩
  rcases h7 with h7 | h7
  · exact ⟨psW base fun D σ H q => h7 _ _ _ (conv D σ H q)⟩
  · refine ⟨psW (ps_or base (ps_lock base)) fun D σ H q => ?_⟩
    rcases h7 _ _ _ (conv D σ H q) with h | h
    · exact .inl h
    · exact .inr h

/-! ### a def -/
theorem args_env {B F : Hp} : ∀ {ms : List Bool} {vs : List V} {ds : List D}, Args K xa F B ms vs ds → ∀ (i : Nat) (s : Slot), (initE ms ds)[i]? = some s → SlotOk K xa B F B s (vs.map some)[i]? ∧ ∀ d, s ≠ .own d := by
  intro ms vs ds h
  induction h with
  | nil => intro i s e; simp [initE] at e
  | lent b _ ih =>
    intro i s e
    cases i with
    | zero =>
      simp [initE] at e
      subst e
      exact ⟨⟨_, rfl, b⟩, fun d z => nomatch z⟩
    | succ i => exact ih i s (by simpa [initE] using e)
  | sh b _ ih =>
    intro i s e
    cases i with
    | zero =>
      simp [initE] at e
      subst e
      exact ⟨⟨_, rfl, b⟩, fun d z => nomatch z⟩
    | succ i => exact ih i s (by simpa [initE] using e)
theorem initE_length : ∀ {ms : List Bool} {ds : List D}, ds.length = ms.length → (initE ms ds).length = ms.length
  | [], [], _ => rfl
  | true :: ms, d :: ds, h => by simp [initE, initE_length (ms := ms) (ds := ds) (by simpa using h)]
  | false :: ms, d :: ds, h => by simp [initE, initE_length (ms := ms) (ds := ds) (by simpa using h)]
/-- THE DEF: its body's rule gives its promise -/
theorem fn_core {P : Program} {w : World} {K : PySem.W.Frag} {mg : Str → Option Value} {base : Heap} {xa : XA} {x qual : Str} {st : Stmt} {f : Addr} {fd : FuncData} {N ps : List Str} {k : Nat} {ms : List Bool} {fr : Bool} {s : S}
    (Fu : Fun K x qual st f fd) (sc : FnScope N ps (defScope st)) (hl : ms.length = ps.length) (hN : ms.length ≤ N.length)
    (body : ∀ (cdv : Value) (A : Around) (outer : List PySem.Env) (sh : Shared) (H : Hp) (Ex : XK), fd.code = cdv → Room k (A.deeper (PyProof.Rows.envOfC qual (defScope st) sh.heap.objs.size f cdv)) →
      RSs (cxOf (L2.CX P w) P w K mg base N qual (defScope st) f cdv A outer sh H Ex) xa (fun cls d _ H => Ex cls d H) fr (defBody st) s) (hret : fr = false ∨ ∀ e e', s e ≠ .nx e') :
    FnOk P w K mg base (L2.CX P w) (k + 1) f fd ps (spD K xa ms fr (runD ms N.length s)) := by
  obtain ⟨oc, od, kV, doc, pm, an, cdv, ct, osl, rfl, lk, hcd⟩ := Fu.ex
  refine fn_of lk hcd sc (fun vs H Q E h => ?_) (fun A outer sh H vs Q Ex hr h => ?_)
  · obtain ⟨F, ds, _, _, _, as, _⟩ := h
    rw [as.len.1, hl]
  · refine ⟨_, (body cdv A outer sh H Ex rfl hr).pss, ?_⟩
    obtain ⟨F, ds, sF, ntF, tb, as, q⟩ := h
    have l1 := as.len
    unfold runD at q
    rw [if_pos l1.2] at q
    have S : Sim K xa H F (initE ms ds ++ List.replicate (N.length - ms.length) .un) (L2.start N vs) H := by
      refine ⟨?_, .refl _, sF, ntF, tb, fun i sl e => ?_, fun i j a d d' e1 _ _ _ => ?_⟩
      · unfold L2.start
        rw [List.length_append, List.length_append, List.length_replicate, List.length_replicate, List.length_map, initE_length l1.2, l1.1]
      · by_cases hi : i < (initE ms ds).length
        · rw [List.getElem?_append_left hi] at e
          have z := (args_env as i sl e).1
          unfold L2.start
          rw [List.getElem?_append_left (by rw [List.length_map, l1.1, ← initE_length l1.2]; exact hi)]
          exact z
        · rw [List.getElem?_append_right (by omega)] at e
          have : sl = .un := by
            rw [List.getElem?_replicate] at e
            split at e
            · exact (Option.some.inj e).symm
            · cases e
          subst this
          trivial
      · by_cases hi : i < (initE ms ds).length
        · rw [List.getElem?_append_left hi] at e1
          exact ((args_env as i _ e1).2 d rfl).elim
        · rw [List.getElem?_append_right (by omega), List.getElem?_replicate] at e1
          split at e1 <;> cases e1
    refine ⟨H, F, _, S, ?_⟩
    cases z : s (initE ms ds ++ List.replicate (N.length - ms.length) .un) with
    | nx e1 =>
      rw [z] at q
      intro F1 σ1 H1 g1 S1
      rcases hret with h | h
      · subst h
        exact q F1 H1 .non ⟨g1.f, S1.hB, S1.hF, g1.new, fun _ => S1.nt⟩ .non
      · exact (h _ _ z).elim
    | rt d =>
      rw [z] at q
      intro F1 H1 v g1 b1 f1 n1 rt
      exact q F1 H1 v ⟨g1.f, b1, f1, g1.new, fun _ => n1⟩ rt
    | er c e1 =>
      rw [z] at q
      intro F1 σ1 H1 g1 S1
      exact q F1 H1 ⟨g1.f, S1.hB, S1.hF, g1.new, fun _ => S1.nt⟩
    | bk e1 => rw [z] at q; exact q.elim
    | ct e1 => rw [z] at q; exact q.elim
    | stk => rw [z] at q; exact q.elim
theorem df_core {P : Program} {w : World} {K : PySem.W.Frag} {mg : Str → Option Value} {base : Heap} {xa : XA} {x qual : Str} {st : Stmt} {f : Addr} {fd : FuncData} {N ps : List Str} {k : Nat} {ms : List Bool} {fr : Bool} {s : S}
    (Fu : Fun K x qual st f fd) (sc : FnScope N ps (defScope st)) (hb : Binds K fd ps []) (hm : mg x = some (.ref f)) (hk : PySem.W.keepIn K (.ref f) = true) (hl : ms.length = ps.length) (hN : ms.length ≤ N.length)
    (body : ∀ (cdv : Value) (A : Around) (outer : List PySem.Env) (sh : Shared) (H : Hp) (Ex : XK), fd.code = cdv → Room k (A.deeper (PyProof.Rows.envOfC qual (defScope st) sh.heap.objs.size f cdv)) →
      RSs (cxOf (L2.CX P w) P w K mg base N qual (defScope st) f cdv A outer sh H Ex) xa (fun cls d _ H => Ex cls d H) fr (defBody st) s) (hret : fr = false ∨ ∀ e e', s e ≠ .nx e') :
    Df P w K mg base xa (k + 1) x ms fr (runD ms N.length s) := ⟨f, fd, ps, fn_core Fu sc hl hN body hret, hm, hk, hb⟩
/-- the law's promise: True, of every list of at most 63 ints -/
def spLaw (K : PySem.W.Frag) (T : List (Addr × Str)) : Sp := fun vs H Q _ => ∃ (a : Addr) (ns : List Int), vs = [.ref a] ∧ SqL K H a (ns.map V.int) ∧ ns.length ≤ 63 ∧ LamX.Tabs T H ∧ ∀ H', Q (.bl true) H'
/-- all but the tables -/
def noT (H : Hp) : Hp := fun a => match H a with
  | some o => if isTbl o then none else some o
  | none => none
theorem noT_same (H : Hp) : Same (noT H) H := fun a o e => by
  unfold noT at e
  cases q : H a with
  | none => rw [q] at e; cases e
  | some u =>
    rw [q] at e
    simp only at e
    split at e
    · cases e
    · exact e
theorem noT_nt (H : Hp) : NT (noT H) := fun a o e => by
  unfold noT at e
  cases q : H a with
  | none => rw [q] at e; cases e
  | some u =>
    rw [q] at e
    simp only at e
    split at e
    · cases e
    · rename_i h; cases e; simpa using h
theorem noT_ke (H : Hp) : Ke H (noT H) := fun a o t e => by
  unfold noT
  rw [e]
  simp [t]
theorem law_imp {P : Program} {w : World} {K : PySem.W.Frag} {mg : Str → Option Value} {base : Heap} {xa : XA} {k : Nat} {f : Addr} {fd : FuncData} {ps : List Str} {m : List D → Res D} (F : FnOk P w K mg base (L2.CX P w) k f fd ps (spD K xa [true] false m)) (ok : ∀ ns : List Int, ns.length ≤ 63 → m [.inp ns] = .ok (.bl true)) :
    FnOk P w K mg base (L2.CX P w) k f fd ps (spLaw K xa.tb) := F.imp fun vs H Q E ⟨a, ns, e, hs, hl, tb, q⟩ => by
  refine ⟨noT H, [.inp ns], noT_same H, noT_nt H, tb, by rw [e]; exact .lent (.inl (.inp ((noT_ke H).seq hs))) .nil, ?_⟩
  rw [ok ns hl]
  intro F' H' v _ r
  cases (show Rep K xa F' v (.bl true) from r)
  exact q H'
theorem tabs_nil {T : List (Addr × Str)} {H : Hp} (h : ∀ p ∈ T, H p.1 = some (.tbl #[])) : LamX.Tabs T H := fun p hp => .nil (h p hp)
theorem tabIn_of {K : PySem.W.Frag} {x : Str} {f c p : Addr} {o1 o2 : Value} {d1 d2 : Option Addr} {s1 s2 : Array (Option Value)} {fd : FuncData} {vs : Array Value} (a : PySem.W.nsIn K mainGlobals x = some (some (.ref f))) (l : K.lookup f = some ⟨o1, d1, .func fd, s1⟩) (hc : fd.code = .ref c)
    (w : K.lookup c = some ⟨o2, d2, .fields vs, s2⟩) (v : vs[11]? = some (.ref p)) : PySem.W.tabIn K x = some (c, p) := by
  unfold PySem.W.tabIn
  rw [a]
  simp only [l, hc, w, v]
/-- THE END. LN: the names of the defs that make lambdas; their code objects and tables -/
theorem law_walkT {l : PySem.W.OpenLaw} {q : Program} {loose : List Str} {XP : (Str → Option Value) → Heap → Prop} {YP : World → Heap → Prop} {d : DefRec} {K : Params → PySem.W.Frag} {k : Nat} {x : Str} (hn : l.most = some 63) (hdf : d.params.defaults = []) (hr : Room k callerA)
    (hY : ∀ (w : World) (h : Heap), YP w h → (K w.params).In h)
    (F : ∀ (w : World) (mg : Str → Option Value) (fa : Addr) (h : Heap), (K w.params).In h → h.Ns mainGlobals mg → mg d.name = some (.ref fa) →
      ∃ (fd : FuncData) (cs : List (Addr × Addr)) (T : List (Addr × Str)), (∀ p ∈ T, p.1 ∈ cs.map (·.2)) ∧ (∀ p ∈ cs, (K w.params).lookup p.2 = none) ∧
        (∀ p ∈ cs, ∃ y : Str, ((PyProof.Rows.recsOf q).find? (fun e => e.name == y)).isSome = true ∧ PySem.W.tabIn (K w.params) y = some p) ∧
        (∀ (s : Shared) (u : Value), BindsTo s fd ⟨[u], []⟩ [(x, u)]) ∧ ∀ base : Heap, (K w.params).In base → base.Ns mainGlobals mg → (∀ p ∈ cs, LamX.TabB base mg p.1 p.2) → FnOk l.prog w (K w.params) mg base (L2.CX l.prog w) k fa fd [x] (spLaw (K w.params) T)) :
    PySem.W.WalkO q loose XP YP l.row.toRowW d [] (fun f vs => PySem.call f vs) := by
  refine Att.attach_callB hn hdf fun w s₀ s₁ mg mb fa o pm cd doc a vs ns G Y ho hd hcd hmg hobj hints hlen hbits hg => ?_
  have KX := hY w _ Y
  obtain ⟨fd, cs, T, hT, nT, C, hb, hF⟩ := F w mg fa _ KX G.T.g hmg
  have tb : ∀ p ∈ cs, PySem.W.CodeHd s₁.heap p.1 p.2 ∧ s₁.heap.get? p.2 = some (PySem.W.tabObj #[]) := fun p hp => by
    obtain ⟨y, h0, h2⟩ := C p hp
    obtain ⟨e, h1⟩ := Option.isSome_iff_exists.mp h0
    exact PySem.W.tab_of G.T KX h1 h2
  refine LamX.law_callTs (sp := spLaw (K w.params) T) KX G.T.g G.T.b G.T.builtins G.T.nolimit hg (fun p hp => (tb p hp).2) nT (fun p hp => (tb p hp).1) G.T.bmain hobj hints (Nat.le_trans hlen (by decide)) hr hF hb (fun H hH hS => ⟨a, ns, rfl, hS, hlen, tabs_nil fun p hp => ?_, fun _ => rfl⟩) fun H e s' ⟨_, _, _, _, _, _, _, _, _, _, _, _, z⟩ => z
  obtain ⟨r, hr, e⟩ := List.mem_map.mp (hT p hp)
  rw [← e]; exact hH r hr
end
end Tw

set_option autoImplicit false
set_option Elab.async false
set_option linter.all false
set_option maxRecDepth 100000
/-! Tw, isinstance, dict(pairs), list(range(..)), t[::-1]. -/
namespace Tw
open PySem L2
def Ty.nm : Ty → String
  | .int => "int"
  | .bool => "bool"
  | .str => "str"
  | .tup => "tuple"
  | .lst => "list"
  | .dict => "dict"
section
variable {X : Cx} {xa : XA} {W : WX} {a b : Expr} {fa fb : E} {p p2 p3 q pos : Pos} {x : Str}
theorem isa_ans {F H : Hp} {v : V} {d : D} {r : Bool} {t : Ty} (fs : Same F H) (bx : Bor X.K xa F H v d) (e : D.isa t d = .ok (.bl r)) : ∃ tv, TyX X.K H v tv ∧ PySem.W.kitOne X.K tv (.type t.nm) = some r := by
  cases d with
  | non => rw [bx.non_]; refine ⟨_, .base .non, ?_⟩; simp [D.isa] at e; subst e; cases t <;> exact kit_ty (by decide +kernel)
  | bl b => rw [bx.bl_]; refine ⟨_, .base (.bl _), ?_⟩; simp [D.isa] at e; subst e; cases t <;> exact kit_ty (by decide +kernel)
  | int i => rw [bx.int_]; refine ⟨_, .base (.int _), ?_⟩; simp [D.isa] at e; subst e; cases t <;> exact kit_ty (by decide +kernel)
  | str s => rw [bx.str_]; refine ⟨_, .base (.str _), ?_⟩; simp [D.isa] at e; subst e; cases t <;> exact kit_ty (by decide +kernel)
  | tup ds => obtain ⟨u, xs, rfl, ea, _⟩ := bx.tup_; refine ⟨_, .base (.tup (fs _ _ ea)), ?_⟩; simp [D.isa] at e; subst e; cases t <;> exact kit_ty (by decide +kernel)
  | lst ds => obtain ⟨u, xs, rfl, ea, _⟩ := bx.lst_ fs; refine ⟨_, .base (.lst ea), ?_⟩; simp [D.isa] at e; subst e; cases t <;> exact kit_ty (by decide +kernel)
  | _ => simp [D.isa] at e
theorem isa_bl {t : Ty} {d z : D} (e : D.isa t d = .ok z) : ∃ r, z = .bl r := by
  cases d <;> simp [D.isa] at e <;> exact ⟨_, e.symm⟩
theorem isa_no {t : Ty} {d : D} {c : Nat} (e : D.isa t d = .err c) : False := by
  cases d <;> simp [D.isa] at e
theorem re_isa (t : Ty) (hg : Gl X "isinstance") (hm : X.mg "isinstance" = none) (hg2 : Gl X x) (hm2 : X.mg x = none) (hv : bootBuiltins x = some (.type t.nm)) (ha : RB X xa W a fa) (hn : x ≠ "__name__" := by decide) (hdb : (x == ("__debug__" : Str)) = false := by decide)
    (hs1 : starEach [a, .Name x p2] X.env = (false, eval a X.env) :: starEach [.Name x p2] X.env := by rfl) (hs2 : starEach [.Name x p2] X.env = (false, eval (.Name x p2) X.env) :: starEach [] X.env := by rfl) (hpl : (backTo pos (starEach [.Name x p2] X.env)).any (·.1) = false := by rfl) :
    RE X xa W (.Call (.Name "isinstance" p) [a, .Name x p2] [] pos) (e1 (D.isa t) fa) :=
  ⟨peW (pe_callB call_isi hg hm PyProof.Rows.boot_isinstance (pa_cons ha.pe (pa_cons (pe_bltn hg2 hm2 hv (v := .ty t.nm) rfl hn hdb) pa_nil hs2) hs1) (by decide) (by decide) hs1 hpl) fun σ H Q ⟨B, F, env, S, q⟩ =>
    ⟨B, F, env, S, (Post.bind (r := fa env) q).imp fun d F1 H1 _ x1 q1 v1 b1 => by
      cases e : D.isa t d with
      | ok z =>
        rw [e] at q1
        obtain ⟨r, rfl⟩ := isa_bl e
        obtain ⟨tv, h1, h2⟩ := isa_ans x1.le b1 e
        exact ⟨v1, .ty t.nm, tv, .type t.nm, r, rfl, .ty _, h1, h2, q1 F1 H1 (.refl x1.le) _ (.bl r)⟩
      | err c => exact (isa_no e).elim
      | stk => rw [e] at q1; exact q1.elim⟩⟩

/-! ### dict(pairs) -/
theorem repK_any {K : PySem.W.Frag} {F : Hp} {q : Ky} {k : Key} (hk : keyK q = some k) : ∀ {kvs : List (Key × V)} {ds : List (Ky × D)}, RepK K xa F kvs ds → (kvs.any fun kv => decide (kv.1 = k)) = khas q ds
  | _, _, .nil => rfl
  | _, _, .cons (k := k') (q := q') (v := v) (d := d) (kvs := kvs) (ds := ds) e r t => by
    have ih := repK_any hk t
    unfold khas at ih ⊢
    unfold kget
    by_cases h : q' = q
    · subst h
      rw [hk] at e
      cases e
      simp
    · have h' : ¬ k' = k := fun z => h (keyK_inj e (z ▸ hk))
      rw [if_neg h, List.any_cons, decide_eq_false h', Bool.false_or, ih]
theorem repK_map {K : PySem.W.Frag} {F : Hp} {q : Ky} {k : Key} {v : V} {d : D} (hk : keyK q = some k) (r : Rep K xa F v d) : ∀ {kvs : List (Key × V)} {ds : List (Ky × D)}, RepK K xa F kvs ds → RepK K xa F (kvs.map fun kv => if kv.1 = k then (kv.1, v) else kv) (ds.map fun p => if p.1 = q then (p.1, d) else p)
  | _, _, .nil => .nil
  | _, _, .cons (k := k') (q := q') e r' t => by
    simp only [List.map_cons]
    by_cases h : q' = q
    · subst h
      rw [hk] at e
      cases e
      rw [if_pos rfl, if_pos rfl]
      exact .cons hk r (repK_map hk r t)
    · have h' : ¬ k' = k := fun z => h (keyK_inj e (z ▸ hk))
      rw [if_neg h, if_neg h']
      exact .cons e r' (repK_map hk r t)
theorem RepK.append {K : PySem.W.Frag} {F : Hp} : ∀ {kvs lvs : List (Key × V)} {ds es : List (Ky × D)}, RepK K xa F kvs ds → RepK K xa F lvs es → RepK K xa F (kvs ++ lvs) (ds ++ es)
  | _, _, _, _, .nil, s => s
  | _, _, _, _, .cons e r t, s => .cons e r (RepK.append t s)
theorem repK_put {K : PySem.W.Frag} {F : Hp} {q : Ky} {k : Key} {v : V} {d : D} {kvs : List (Key × V)} {ds : List (Ky × D)} (hk : keyK q = some k) (r : Rep K xa F v d) (h : RepK K xa F kvs ds) : RepK K xa F (putK kvs k v) (kput q d ds) := by
  unfold putK kput
  rw [repK_any hk h]
  by_cases z : khas q ds = true
  · rw [if_pos z, if_pos z]
    exact repK_map hk r h
  · rw [if_neg z, if_neg z]
    exact h.append (.cons hk r .nil)
theorem pairs_vals {F H : Hp} (fs : Same F H) : ∀ {xs : List V} {ds : List D} {ps : List (Ky × D)}, Reps X.K xa F xs ds → pairs? ds = some ps → (ps.all fun p => !p.1.isTup) = true → ∃ as kvs, xs = as.map V.ref ∧ Paired (fun p kv => SqT X.K H p [kV kv.1, kv.2]) as kvs ∧ RepK X.K xa F kvs ps
  | _, _, ps, .nil, e, _ => by simp [pairs?] at e; subst e; exact ⟨[], [], rfl, .nil, .nil⟩
  | _, _, ps, .cons (v := v) (vs := vs) (d := d) (ds := ds) r t, e, al => by
    unfold pairs? at e
    cases h1 : pair? d with
    | none => rw [h1] at e; cases e
    | some pr =>
      cases h2 : pairs? ds with
      | none => rw [h1, h2] at e; cases e
      | some rest =>
        rw [h1, h2] at e
        obtain rfl : pr :: rest = ps := Option.some.inj e
        simp only [List.all_cons, Bool.and_eq_true] at al
        obtain ⟨as, kvs, l1, l2, l3⟩ := pairs_vals fs t h2 al.2
        unfold pair? at h1
        split at h1
        · rename_i k w
          cases hk : k.key? with
          | none => rw [hk] at h1; cases h1
          | some y =>
            rw [hk] at h1
            obtain rfl : (y, w) = pr := Option.some.inj h1
            cases r with
            | @tup u us _ eu ru =>
              cases ru with
              | cons r1 t1 =>
                cases t1 with
                | cons r2 t2 =>
                  cases t2
                  rcases key_val (K := X.K) (xa := xa) (Same.refl F) (.inl r1) hk with ⟨k', hk', rfl⟩ | ⟨k', b, hk', _, _⟩
                  · exact ⟨u :: as, (k', _) :: kvs, by rw [l1]; rfl, .cons (SqT.of (fs _ _ eu)) l2, .cons hk' r2 l3⟩
                  · cases y <;> first | (simp [keyT] at hk'; done) | (simp [Ky.isTup] at al)
        · cases h1
theorem repK_merge {K : PySem.W.Frag} {F : Hp} : ∀ {more : List (Key × V)} {ms : List (Ky × D)}, RepK K xa F more ms → ∀ {kvs : List (Key × V)} {ds : List (Ky × D)}, RepK K xa F kvs ds → RepK K xa F (mergeK kvs more) (kmerge ds ms)
  | _, _, .nil, _, _, h => h
  | _, _, .cons e r t, _, _, h => by
    unfold mergeK kmerge
    simp only [List.foldl_cons]
    exact repK_merge t (repK_put e r h)
theorem ok_dictK (hc : X.calm = true) : ∃ r, CallR X (.type "dict") r ∧ OkF X.K xa r D.dictK := by
  refine ⟨_, call_dictP hc, fun F H x d fs bx => ?_⟩
  cases d <;> try exact trivial
  rename_i ds
  obtain ⟨u, xs, rfl, ea, ra⟩ := bx.lst_ fs
  simp only [D.dictK]
  cases e : pairs? ds with
  | none => exact trivial
  | some ps =>
    simp only
    split
    · rename_i al
      obtain ⟨as, kvs, l1, l2, l3⟩ := pairs_vals fs ra e al
      intro Q q
      exact ⟨u, as, kvs, rfl, by rw [← l1]; exact SqL.of ea, l2, fun p n => q F _ (.heap fs n) p n (fs.free n) ⟨_, upd_same, repK_merge l3 .nil⟩⟩
    · exact trivial

/-! ### list(range(a, b)) -/
theorem rg_reps {K : PySem.W.Frag} {F : Hp} (i j : Int) : Reps K xa F (rgV i j) (rangeL i (j - i).toNat) := by
  unfold rgV rangeL
  generalize List.range (j - i).toNat = l
  induction l with
  | nil => exact .nil
  | cons k l ih => exact .cons (.int _) ih
theorem rf_rng (hc : X.calm = true) (hg : Gl X "list") (hm : X.mg "list" = none) (hg2 : Gl X "range") (hm2 : X.mg "range" = none) (ha : RB X xa W a fa) (hb : RB X xa W b fb)
    (na : starEach [.Call (.Name "range" p2) [a, b] [] p3] X.env = (false, eval (.Call (.Name "range" p2) [a, b] [] p3) X.env) :: starEach [] X.env := by rfl) (n1 : starEach [a, b] X.env = (false, eval a X.env) :: starEach [b] X.env := by rfl)
    (n2 : starEach [b] X.env = (false, eval b X.env) :: starEach [] X.env := by rfl) (n3 : (backTo p3 (starEach [b] X.env)).any (·.1) = false := by rfl) : RF X xa W (.Call (.Name "list" p) [.Call (.Name "range" p2) [a, b] [] p3] [] pos) (eRng fa fb) :=
  ⟨peW (pe_listRg hc hg hm (prg_2 hg2 hm2 ha.pe hb.pe n1 n2 n3) na) fun σ H Q ⟨B, F, env, S, q⟩ =>
    ⟨B, F, env, S, (Post.bind (r := fa env) q).imp fun d F1 H1 z1 x1 q1 v1 b1 => ⟨B, F1, env, S.ext x1, (Post.bind (r := fb env) q1).imp fun d2 F2 H2 z2 x2 q2 v2 b2 => by
      clear z1 z2
      cases d <;> try exact q2.elim
      cases d2 <;> try exact q2.elim
      rename_i i j
      refine ⟨i, j, b1.int_, b2.int_, ?_⟩
      simp only [rng2] at q2
      split at q2
      · rename_i h
        simp only [Res.bind_ok] at q2
        split at q2
        · rename_i hl
          simp only [smallR, Bool.and_eq_true, decide_eq_true_eq] at h
          have hl2 : (j - i).toNat ≤ 16777216 := by
            have e : (rangeL i (j - i).toNat).length = (j - i).toNat := by simp [rangeL]
            rw [e] at hl
            exact hl
          exact ⟨⟨h.1.1, h.1.2, h.2.1, h.2.2, hl2⟩, fun u n => (q2 : Post xa W σ F2 H2 (Res.ok (D.lst (rangeL i (j - i).toNat))) _) F2 _ (.heap x2.le n) u ((x1.trans x2).h.free n) (x2.le.free n) ⟨_, upd_same, rg_reps i j⟩⟩
        · exact q2.elim
      · exact q2.elim⟩⟩⟩
end
end Tw

set_option autoImplicit false
set_option Elab.async false
set_option linter.all false
set_option maxRecDepth 100000
/-! Tw, dicts: put, get; two names at once; raise. -/
namespace Tw
open PySem L2
section
variable {K : PySem.W.Frag} {xa : XA} {W : WX} {fr : Bool} {B F H F' H' : Hp} {env : Env} {σ : Sl}
theorem repT_any {q : Ky} {k : List Key} (hk : keyT q = some k) : ∀ {kvs : List (List Key × V)} {ds : List (Ky × D)}, RepT K xa F kvs ds → (kvs.any fun kv => decide (kv.1 = k)) = khas q ds
  | _, _, .nil => rfl
  | _, _, .cons (k := k') (q := q') (v := v) (d := d) (kvs := kvs) (ds := ds) e r t => by
    have ih := repT_any hk t
    unfold khas at ih ⊢
    unfold kget
    by_cases h : q' = q
    · subst h
      rw [hk] at e
      cases e
      simp
    · have h' : ¬ k' = k := fun z => h (keyT_inj e (z ▸ hk))
      rw [if_neg h, List.any_cons, decide_eq_false h', Bool.false_or, ih]
theorem repT_map {q : Ky} {k : List Key} {v : V} {d : D} (hk : keyT q = some k) (r : Rep K xa F v d) : ∀ {kvs : List (List Key × V)} {ds : List (Ky × D)}, RepT K xa F kvs ds → RepT K xa F (kvs.map fun kv => if kv.1 = k then (kv.1, v) else kv) (ds.map fun p => if p.1 = q then (p.1, d) else p)
  | _, _, .nil => .nil
  | _, _, .cons (k := k') (q := q') e r' t => by
    simp only [List.map_cons]
    by_cases h : q' = q
    · subst h
      rw [hk] at e
      cases e
      rw [if_pos rfl, if_pos rfl]
      exact .cons hk r (repT_map hk r t)
    · have h' : ¬ k' = k := fun z => h (keyT_inj e (z ▸ hk))
      rw [if_neg h, if_neg h']
      exact .cons e r' (repT_map hk r t)
theorem RepT.append : ∀ {kvs lvs : List (List Key × V)} {ds es : List (Ky × D)}, RepT K xa F kvs ds → RepT K xa F lvs es → RepT K xa F (kvs ++ lvs) (ds ++ es)
  | _, _, _, _, .nil, s => s
  | _, _, _, _, .cons e r t, s => .cons e r (RepT.append t s)
theorem repT_put {q : Ky} {k : List Key} {v : V} {d : D} {kvs : List (List Key × V)} {ds : List (Ky × D)} (hk : keyT q = some k) (r : Rep K xa F v d) (h : RepT K xa F kvs ds) : RepT K xa F (putK kvs k v) (kput q d ds) := by
  unfold putK kput
  rw [repT_any hk h]
  by_cases z : khas q ds = true
  · rw [if_pos z, if_pos z]
    exact repT_map hk r h
  · rw [if_neg z, if_neg z]
    exact h.append (.cons hk r .nil)
variable {X : Cx} {a b c e o : Expr} {f fa fb fc : E} {pos p p2 : Pos} {x : Str}
/-- x[k] = v -/
theorem rs_put {i : Nat} {pos' : Pos} (hu : X.A.units + 64 < cLine) (hv : VarAt X i x) (hk : RB X xa W a fa) (hw : RE X xa W b fb) (hs : swapsWith b (some (.Subscript (.Name x p) a pos')) pos.line X.env = pure false := by rfl) : RSt X xa W fr (.Assign [.Subscript (.Name x p) a pos'] b pos) (sPut i fa fb) :=
  ⟨psW (ps_dput (by omega) (hv.pe p) hk.pe hw.pe hs) fun D σ H ⟨B, F, env, S, q⟩ => by
    unfold sPut at q
    cases z : env[i]? with
    | none => rw [z] at q; exact q.elim
    | some sl =>
      cases sl with
      | own d =>
        cases d with
        | dct t kvs =>
          rw [z] at q
          refine ⟨B, F, env, S, (PostS.run (r := fb env) S q).imp fun w F1 H1 _ x1 q1 v1 r1 => ?_⟩
          obtain ⟨u, eu, _, _, _⟩ := S.sl i _ z
          refine ⟨_, eu, ?_⟩
          refine ⟨B, F1, env, S.ext x1, (PostS.run (r := fa env) (S.ext x1) q1).imp fun qd F2 H2 _ x2 q2 y by_ => ?_⟩
          have S2 := (S.ext x1).ext x2
          obtain ⟨u', eu', nF, nB, ow⟩ := S2.sl i _ z
          rw [eu] at eu'
          cases eu'
          cases hq : qd.kf t with
          | none => rw [hq] at q2; exact q2.elim
          | some key =>
            rw [hq] at q2
            simp only at q2
            split at q2
            · rename_i few
              have few' : kvs.length < sizeLine := by rw [sizeLine_eq]; exact few
              obtain ⟨ek, et⟩ := kf_key hq
              have r2 := r1.on x2.f
              cases t with
              | false =>
                obtain ⟨kk, e1, e2⟩ := ow
                rcases key_val x2.le by_ ek with ⟨k', hk', rfl⟩ | ⟨k', b', hk', rfl, eb⟩
                · refine ⟨u, _, rfl, .inl ⟨kk, k', e1, rfl, by rw [repK_len e2]; exact few', rfl⟩, ?_⟩
                  exact q2 F2 _ _ (.refl _ _) (S2.mut z eu nF nB ⟨_, upd_same, repK_put hk' r2 e2⟩)
                · cases key <;> first | (simp [keyT] at hk'; done) | (simp [Ky.isTup] at et; done)
              | true =>
                obtain ⟨kk, e1, e2⟩ := ow
                rcases key_val x2.le by_ ek with ⟨k', hk', rfl⟩ | ⟨k', b', hk', rfl, eb⟩
                · cases key <;> first | (simp [keyK] at hk'; done) | (simp [Ky.isTup] at et; done)
                · refine ⟨u, _, rfl, .inr ⟨kk, k', b', e1, rfl, x2.le _ _ eb, by rw [repT_len e2]; exact few', rfl⟩, ?_⟩
                  exact q2 F2 _ _ (.refl _ _) (S2.mut z eu nF nB ⟨_, upd_same, repT_put hk' r2 e2⟩)
            · exact q2.elim
        | _ => rw [z] at q; exact q.elim
      | _ => rw [z] at q; exact q.elim⟩
/-- d.get(k) -/
theorem re_get1 {apos cpos : Pos} (hu : X.A.units + 64 < cLine) (ha : RB X xa W o fa) (hb : RB X xa W e fb) (m : M1 X o "get" apos e cpos := by exact ⟨rfl, rfl, rfl, rfl⟩) : RE X xa W (.Call (.Attribute o "get" apos) [e] [] cpos) (eGet1 fa fb) :=
  ⟨peW (pe_dget1 (by omega) ha.pe hb.pe m) fun σ H Q ⟨B, F, env, S, q⟩ => ⟨B, F, env, S, (Post.bind (r := fa env) q).imp fun d F1 H1 _ x1 q1 v1 b1 => by
    cases d with
    | dct t kvs =>
      have hd : ∃ a, v1 = .ref a ∧ IsD H1 a := by
        cases t with
        | false => obtain ⟨a, kk, rfl, h, r⟩ := b1.dK_ x1.le; exact ⟨a, rfl, .inl ⟨_, h⟩⟩
        | true => obtain ⟨a, kk, rfl, h, r⟩ := b1.dT_ x1.le; exact ⟨a, rfl, .inr ⟨_, h⟩⟩
      obtain ⟨u, rfl, hd⟩ := hd
      refine ⟨u, rfl, hd, B, F1, env, S.ext x1, (Post.bind (r := fb env) q1).imp fun d2 F2 H2 _ x2 q2 v2 b2 => ?_⟩
      simp only [D.get1] at q2
      cases hq : d2.kf t with
      | none => rw [hq] at q2; exact q2.elim
      | some key =>
        rw [hq] at q2
        obtain ⟨u', ov, eu, g, _, r⟩ := dget_of x2.le (b1.on x2.f x2.h.k.up) b2 hq
        cases eu
        refine ⟨ov, g, (q2 : Post xa W σ F2 H2 (Res.ok ((kget key kvs).getD .non)) fun d F' H' => ∀ v, Rep X.K xa F' v d → Q v H') F2 H2 (.refl x2.le) _ ?_⟩
        cases z : kget key kvs with
        | none => rw [z] at r; rw [r]; exact .non
        | some d => rw [z] at r; obtain ⟨v, e, r⟩ := r; rw [e]; exact r
    | _ => exact q1.elim⟩⟩
end
end Tw

set_option autoImplicit false
/-! Tw, the pure part, more: further constructs. -/
namespace Tw
/-- the i-th item of a tuple, as a key -/
def keyAt (i : Nat) : D → D
  | .tup xs => xs.getD i .non
  | _ => .non
def hasAt (i : Nat) : D → Bool
  | .tup xs => decide (i < xs.length)
  | _ => false
/-- keys by which can be sorted: ints, texts, tuples of texts -/
def strs? : List D → Option (List Nm)
  | [] => some []
  | .str s :: r => (strs? r).map (s :: ·)
  | _ :: _ => none
def keyOk : D → Nat
  | .int _ => 1
  | .str s => if s.all fun c => decide (c < 1114112) then 2 else 0
  | .tup xs => match strs? xs with
    | some (s :: ss) => if ((s :: ss).all fun s => s.all fun c => decide (c < 1114112)) && decide ((s :: ss).length ≤ 1000) then 3 else 0
    | _ => 0
  | _ => 0
def keysOk (ks : List D) : Bool := (ks.all fun k => keyOk k == 1) || (ks.all fun k => keyOk k == 2) || (ks.all fun k => keyOk k == 3)
def sortAt (i : Nat) (xs : List D) : List D := xs.mergeSort fun a b => D.le (keyAt i a) (keyAt i b)
/-- sorted(xs, key=lambda x: x[i]) -/
def D.sortedAt (i : Nat) (x : D) : Res D :=
  match (match x with
    | .lst xs => some xs
    | .tup xs => some xs
    | _ => none) with
  | some xs => if xs.all (hasAt i) && keysOk (xs.map (keyAt i)) && decide (xs.length ≤ szl) then .ok (.lst (sortAt i xs)) else .stk
  | none => .stk
def D.min2 : D → D → Res D
  | .int i, .int j => .ok (.int (if j < i then j else i))
  | _, _ => .stk
def maxI : Int → List Int → Int
  | a, [] => a
  | a, b :: r => maxI (if a < b then b else a) r
/-- max(a list of ints) -/
def D.maxL : D → Res D
  | .lst xs => match ints? xs with
    | some (a :: r) => .ok (.int (maxI a r))
    | _ => .stk
  | _ => .stk
/-- max(a list of ints, default=z) -/
def D.maxLD (z : Int) : D → Res D
  | .lst xs => match ints? xs with
    | some (a :: r) => .ok (.int (maxI a r))
    | some [] => .ok (.int z)
    | none => .stk
  | _ => .stk
def D.cntOk : D → Bool
  | .bl _ => true
  | .str s => s.all fun c => decide (c < 1114112)
  | _ => false
/-- xs.count(y), of truths or texts -/
def D.count : D → D → Res D
  | .lst xs, y => if D.cntOk y && xs.all (fun x => D.cntOk x && x.kind == y.kind) then .ok (.int ((xs.filter fun x => D.eqv x y).length : Nat)) else .stk
  | _, _ => .stk
/-- xs.index(y), of truths or texts; it is there -/
def D.index : D → D → Res D
  | .lst xs, y => if D.cntOk y && xs.all (fun x => D.cntOk x && x.kind == y.kind) && xs.any (fun x => D.eqv x y) then .ok (.int (xs.findIdx fun x => D.eqv x y)) else .stk
  | _, _ => .stk
/-- sorted(a dict) -/
def D.sortedD : D → Res D
  | .dct false kvs => if kvs.length < 64 then D.sorted (.lst (kvs.map fun kv => kv.1.toD)) else .stk
  | _ => .stk
def D.isLst : D → Bool
  | .lst _ => true
  | _ => false
def D.isStr : D → Bool
  | .str _ => true
  | _ => false
/-- a.m(b), a of the kind that ok tells -/
def eM1 (ok : D → Bool) (f : D → D → Res D) (a b : E) : E := fun e => (a e).bind fun x => if ok x then (b e).bind fun y => f x y else .stk
/-- x, y = a, b -/
def sPar (i j : Nat) (a b : E) : S := fun e => (a e).run e fun x => (b e).run e fun y => .nx ((e.set i (.sh x)).set j (.sh y))
def sPar3 (i j k : Nat) (a b c : E) : S := fun e => (a e).run e fun x => (b e).run e fun y => (c e).run e fun z => .nx (((e.set i (.sh x)).set j (.sh y)).set k (.sh z))
/-- zip of lists, of tuples -/
def zipD : D → D → Res (List D)
  | .lst xs, .lst ys => .ok (zipL xs ys)
  | .tup xs, .tup ys => .ok (zipL xs ys)
  | _, _ => .stk
def iZip2 (a b : E) : I := fun e => (a e).bind fun x => (b e).bind fun y => zipD x y
/-- enumerate of a list -/
def enumD : D → Res (List D)
  | .lst xs => .ok (enumL xs)
  | _ => .stk
def iEnu (a : E) : I := fun e => (a e).bind enumD
/-- try: a except (a class that takes cs of the classes ks) as x: b -/
def sTry (ks cs : List Nat) (i : Nat) (a b : S) : S := fun e => match a e with
  | .er c e1 => if c ∈ ks then (if c ∈ cs then (match b (e1.set i (.sh (.exc c))) with
      | .nx e2 => .nx (e2.set i .un)
      | .bk e2 => .bk (e2.set i .un)
      | .ct e2 => .ct (e2.set i .un)
      | .rt d => .rt d
      | _ => .stk) else .er c e1) else .stk
  | r => r
/-- .. without a name -/
def sTryN (ks cs : List Nat) (a b : S) : S := fun e => match a e with
  | .er c e1 => if c ∈ ks then (if c ∈ cs then (match b e1 with
      | .nx e2 => .nx e2
      | .bk e2 => .bk e2
      | .ct e2 => .ct e2
      | .rt d => .rt d
      | _ => .stk) else .er c e1) else .stk
  | r => r
/-- isinstance(e, a class that takes cs), e an error of ks that is held -/
def D.isExc (ks cs : List Nat) : D → Res D
  | .exc c => if c ∈ ks then .ok (.bl (decide (c ∈ cs))) else .stk
  | _ => .stk
/-- for x in d: body, d a dict that is shared or lent; nothing is raised within -/
def sForK (i : Nat) (g : G) (b : S) : S := fun e => match (match e[i]? with
    | some (.sh d) => D.keys d
    | some (.bor d) => D.keys d
    | _ => .stk) with
  | .ok xs => (match forGo g b xs e with
    | .er _ _ => .stk
    | r => r)
  | _ => .stk
/-- dict(pairs), the keys tuples -/
def D.dictT : D → Res D
  | .lst xs => match pairs? xs with
    | some ps => if ps.all fun p => p.1.isTup then .ok (.dct true (kmerge [] ps)) else .stk
    | none => .stk
  | _ => .stk
end Tw

set_option autoImplicit false
set_option Elab.async false
set_option linter.all false
set_option maxRecDepth 100000
/-! Tw: raise; items of lists stored; two names at once; count. -/
namespace Tw
open PySem L2
/-- what the module's text tells of an error's class -/
structure ExcF (K : PySem.W.Frag) (mg : Str → Option Value) (xa : XA) (x : Str) (c : Nat) : Prop where
  g : mg x = some (.ref (xa c))
  q : PySem.W.excIn K (xa c) [.type "ValueError", .type "Exception", .type "BaseException", .type "object"] "ValueError.__new__" = true
  k : PySem.W.keepIn K (.ref (xa c)) = true
  s : PySem.W.subIn K (.ref (xa c)) (.type "BaseException") = some true
  t : PySem.W.typeIn K (.ref (xa c)) = some (.type "type")
section
variable {K : PySem.W.Frag} {xa : XA} {W : WX} {fr : Bool} {B F H F' H' : Hp} {env : Env} {σ : Sl}
variable {X : Cx} {a b c e o : Expr} {f fa fb fc : E} {pos p p2 pos' : Pos} {x y z : Str}
theorem rs_raise {m : Str} {c j : Nat} (E : ExcF X.K X.mg xa x c) (hc : X.calm = true) (tk : Takes X W) (hg : Gl X x := by rfl) (hdb : (x == ("__debug__" : Str)) = false := by decide) :
    RSt X xa W fr (.Raise (some (.Call (.Name x p) [.Constant (.str m) j p2] [] pos)) none pos') (sRaise c) :=
  ⟨psW (ps_raise hc tk (pmk_own PySem.F.excBase_ValueError E.q E.g E.k (raises_own E.s E.t) hg hdb)) fun D σ H ⟨B, F, env, S, q⟩ => q F σ H (.refl _ _) S⟩
/-- x[k] = v, x one's own list -/
theorem rs_putL {i : Nat} {pos' : Pos} (hv : VarAt X i x) (hk : RB X xa W a fa) (hw : RE X xa W b fb) (hs : swapsWithSole [.Subscript (.Name x p) a pos'] b pos.line X.env = pure false := by rfl) (hst : swappedStores [.Subscript (.Name x p) a pos'] b X.env = pure none := by rfl)
    (h1 : (assignEach [.Subscript (.Name x p) a pos'] X.env).map (·.2) = [assign (.Subscript (.Name x p) a pos') X.env] := by rfl)
    (ha : ∀ v, assign (.Subscript (.Name x p) a pos') X.env v = (do
      let ov ← holding [v] (eval (.Name x p) X.env)
      let iv ← holding [v, ov] (eval a X.env)
      standAt pos'
      holding [v, ov, iv] (setItem ov iv v)
      release [v, ov, iv] []) := by intro _; rfl) : RSt X xa W fr (.Assign [.Subscript (.Name x p) a pos'] b pos) (sPutL i fa fb) :=
  ⟨psW (ps_asg hw.pe (pg_sub (hv.pe p) hk.pe set_list ha) hs hst h1) fun D σ H ⟨B, F, env, S, q⟩ => by
    unfold sPutL at q
    cases z : env[i]? with
    | none => rw [z] at q; exact q.elim
    | some sl =>
      rw [z] at q
      cases sl with
      | own d =>
        cases d with
        | lst ds =>
          refine ⟨B, F, env, S, (PostS.run (r := fb env) S q).imp fun w F1 H1 _ x1 q1 v1 r1 => ?_⟩
          have S1 := S.ext x1
          obtain ⟨u, xs, eu, nF, nB, hu, r⟩ := S1.lstAt z
          refine ⟨_, eu, B, F1, env, S1, (PostS.run (r := fa env) S1 q1).imp fun qd F2 H2 _ x2 q2 v2 b2 => ?_⟩
          have S2 := S1.ext x2
          obtain ⟨u', xs', eu', nF2, _, hu', r'⟩ := S2.lstAt z
          rw [eu] at eu'
          cases eu'
          cases qd with
          | int j =>
            rw [b2.int_]
            simp only at q2
            split at q2
            · rename_i hj
              have hl := r'.length
              refine ⟨u, xs', j, j.toNat, rfl, rfl, hu', ?_, ?_⟩
              · unfold ixN
                rw [if_pos hj.1, if_pos (by rw [hl]; exact hj.2)]
              · exact q2 F2 σ _ (.refl _ _) (S2.mut z eu nF2 nB ⟨_, upd_same, Reps.set (r1.on x2.f) _ r'⟩)
            · exact q2.elim
          | _ => exact q2.elim
        | _ => exact q.elim
      | _ => exact q.elim⟩
/-- x, y = a, b -/
theorem rs_par {i j : Nat} {px py pt pt2 : Pos} {kt k2 : Nat} (hc : X.calm = true) (hN : X.N.Nodup) (hi : X.N[i]? = some x) (hj : X.N[j]? = some y) (ha : RE X xa W a fa) (hb : RE X xa W b fb) (hij : i ≠ j := by decide)
    (hx : X.env.scope.names.lookup x = some .local := by rfl) (hy : X.env.scope.names.lookup y = some .local := by rfl)
    (hw : swappedStores [.Tuple [.Name x px, .Name y py] kt pt] (.Tuple [a, b] k2 pt2) X.env = pure (some [x, y]) := by rfl)
    (hs : swapsWithSole [.Tuple [.Name x px, .Name y py] kt pt] (.Tuple [a, b] k2 pt2) pos.line X.env = pure false := by rfl)
    (s1 : starEach [a, b] X.env = (false, eval a X.env) :: starEach [b] X.env := by rfl) (s2 : starEach [b] X.env = (false, eval b X.env) :: starEach [] X.env := by rfl) :
    RSt X xa W fr (.Assign [.Tuple [.Name x px, .Name y py] kt pt] (.Tuple [a, b] k2 pt2) pos) (sPar i j fa fb) :=
  ⟨psW (ps_par hc hN hi hj hij hx hy (pa_cons ha.pe (pa_cons hb.pe pa_nil s2) s1) hw hs) fun D σ H ⟨B, F, env, S, q⟩ =>
    ⟨B, F, env, S, (PostS.run (r := fa env) S q).imp fun d F1 H1 _ x1 q1 v1 r1 => ⟨B, F1, env, S.ext x1, (PostS.run (r := fb env) (S.ext x1) q1).imp fun d2 F2 H2 _ x2 q2 v2 r2 =>
      ⟨v1, v2, rfl, q2 F2 _ H2 (.refl _ _) ((((S.ext x1).ext x2).set_sh (r1.on x2.f) i).set_sh r2 j)⟩⟩⟩⟩
theorem repK_del {q : Ky} {k : Key} (hk : keyK q = some k) : ∀ {kvs : List (Key × V)} {ds : List (Ky × D)}, RepK K xa F kvs ds → RepK K xa F (dropK kvs k) (kdel q ds)
  | _, _, .nil => .nil
  | _, _, .cons (k := k') (q := q') e r t => by
    have ih := repK_del hk t
    unfold dropK kdel at ih ⊢
    rw [List.filter_cons, List.filter_cons]
    by_cases h : q' = q
    · subst h
      rw [hk] at e
      cases e
      simpa using ih
    · have h' : ¬ k' = k := fun z => h (keyK_inj e (z ▸ hk))
      simp only [ne_eq, h, h', not_false_iff, decide_true, if_true]
      exact .cons e r ih
/-- x.pop(k), x one's own dict -/
theorem rs_del {i : Nat} {apos : Pos} (hv : VarAt X i x) (hk : RB X xa W a fa) (m : M1 X (.Name x p) "pop" apos a p2 := by exact ⟨rfl, rfl, rfl, rfl⟩) (hs : swapsWith (.Call (.Attribute (.Name x p) "pop" apos) [a] [] p2) none pos.line X.env = pure false := by rfl) :
    RSt X xa W fr (.Expr (.Call (.Attribute (.Name x p) "pop" apos) [a] [] p2) pos) (sDel i fa) :=
  ⟨psW (ps_expr (pe_dpop1 (hv.pe p) hk.pe m) hs) fun D σ H ⟨B, F, env, S, q⟩ => by
    unfold sDel at q
    cases z : env[i]? with
    | none => rw [z] at q; exact q.elim
    | some sl =>
      rw [z] at q
      cases sl with
      | own d =>
        cases d with
        | dct t kvs =>
          cases t with
          | true => exact q.elim
          | false =>
            obtain ⟨u, eu, nF, nB, kk, hu, rk⟩ := S.sl i _ z
            refine ⟨_, eu, u, rfl, .inl ⟨_, .inl hu⟩, B, F, env, S, (PostS.run (r := fa env) S q).imp fun qd F2 H2 _ x2 q2 v2 b2 => ?_⟩
            have S2 := S.ext x2
            obtain ⟨u', eu', nF2, nB2, kk2, hu2, rk2⟩ := S2.sl i _ z
            rw [eu] at eu'
            cases eu'
            cases hq : qd.kf false with
            | none => rw [hq] at q2; exact q2.elim
            | some key =>
              rw [hq] at q2
              simp only at q2
              split at q2
              · rename_i hh
                obtain ⟨ek, et⟩ := kf_key hq
                rcases key_val x2.le b2 ek with ⟨k', hk', rfl⟩ | ⟨k', b', hk', rfl, eb⟩
                · have g := repK_get hk' rk2
                  unfold khas at hh
                  cases gg : kget key kvs with
                  | none => rw [gg] at hh; cases hh
                  | some dd =>
                    rw [gg] at g
                    obtain ⟨v, hv', _⟩ := g
                    refine ⟨kk2, k', v, hu2, rfl, hv', ?_⟩
                    exact q2 F2 σ _ (.refl _ _) (S2.mut z eu nF2 nB2 ⟨_, upd_same, repK_del hk' rk2⟩)
                · cases key <;> first | (simp [keyT] at hk'; done) | (simp [Ky.isTup] at et; done)
              · exact q2.elim
        | _ => exact q.elim
      | _ => exact q.elim⟩
theorem nonx_ret {f : E} : ∀ e e', sRet f e ≠ .nx e' := fun e e' h => by
  unfold sRet at h
  cases z : f e <;> rw [z] at h <;> cases h
theorem nonx_retO {i : Nat} : ∀ e e', sRetO i e ≠ .nx e' := fun e e' h => by
  unfold sRetO at h
  split at h <;> cases h
theorem nonx_seq {a b : S} (hb : ∀ e e', b e ≠ .nx e') : ∀ e e', sSeq a b e ≠ .nx e' := fun e e' h => by
  unfold sSeq at h
  cases z : a e with
  | nx e1 => rw [z] at h; exact hb _ _ h
  | _ => rw [z] at h; cases h
/-! ### count -/
def rCountD (K : PySem.W.Frag) : V → List V → Hp → VK → Prop := fun x xs H Q => ∃ (a : Addr) (y : V) (d : PyData) (ds : List PyData), x = V.ref a ∧ xs = [y] ∧ Dp K H (V.ref a) (.list ds) ∧ Dp K H y d ∧
  PyData.plainAll ds = true ∧ d.plain = true ∧ d.depth ≤ 2 ∧ Q (.int (ds.countP fun z => PyData.eqv z d : Nat)) H
theorem mt_countD (hu : X.A.units + 64 < cLine) : MtR X "list.count" (rCountD X.K) := by
  intro pins s σ H x xs v us Q I rx rxs h
  obtain ⟨a, y, d, ds, rfl, rfl, hl, hy, sl, sd, dd, q⟩ := h
  cases rx
  cases rxs with
  | cons ry rt =>
    rename_i uy ut
    cases rt
    obtain ⟨bs, r1⟩ := Dp.reads I d y uy hy ry
    cases hl with
    | lst hs ha =>
      obtain ⟨its, rv, pl, hlen⟩ := I.list hs
      obtain ⟨as, h4⟩ := Dp.readsAll I ds _ its ha rv
      refine SeqAt.count_list_data (vs := its.toArray) pl.isList (by simpa using h4) r1 sl sd (by omega) ?_
      exact ⟨.int _, H, I.tok _, ⟨_, rfl⟩, q⟩
theorem cnt_pl {d : D} (h : D.cntOk d = true) (n : Nat) : D.pl n d = true := by
  cases d <;> first | (simp [D.cntOk] at h; done) | (simpa [D.pl, D.cntOk] using h)
theorem cnt_plain {d : D} (h : D.cntOk d = true) : (toPy d).plain = true ∧ (toPy d).depth ≤ 2 := by
  cases d <;> first | (simp [D.cntOk] at h; done) | (simp [toPy, PyData.plain, PyData.depth])
theorem cnts_plain : ∀ {ds : List D}, (∀ d ∈ ds, D.cntOk d = true) → PyData.plainAll (toPys ds) = true
  | [], _ => rfl
  | d :: ds, h => by
    simp only [toPys, PyData.plainAll]
    rw [(cnt_plain (h d List.mem_cons_self)).1, cnts_plain fun x m => h x (List.mem_cons_of_mem _ m)]
    rfl
theorem cnts_count {y : D} (hy : D.cntOk y = true) : ∀ {ds : List D}, (∀ d ∈ ds, D.cntOk d = true) → (toPys ds).countP (fun z => PyData.eqv z (toPy y)) = (ds.filter fun x => D.eqv x y).length
  | [], _ => rfl
  | d :: ds, h => by
    have hd := h d List.mem_cons_self
    have ih := cnts_count hy (ds := ds) fun x m => h x (List.mem_cons_of_mem _ m)
    simp only [toPys, List.countP_cons, ih, List.filter_cons]
    rw [eqv_py d y 0 0 (cnt_pl hd 0) (cnt_pl hy 0)]
    cases D.eqv d y <;> simp
theorem pls_all {n : Nat} : ∀ {xs : List D}, (∀ x ∈ xs, D.pl n x = true) → D.pls n xs = true
  | [], _ => by simp [D.pls]
  | x :: xs, h => by simp [D.pls, h x List.mem_cons_self, pls_all fun y m => h y (List.mem_cons_of_mem _ m)]
/-- xs.count(y) -/
theorem re_count {apos cpos : Pos} (hu : X.A.units + 64 < cLine) (ha : RB X xa W o fa) (hb : RB X xa W e fb) (hbase : attributeBase o "count" X.env (eval o X.env) = eval o X.env := by rfl)
    (hfew : ((backTo cpos (starEach [e] X.env)).all (fun x => !x.1) && (backToKw cpos (keywordEach [] X.env)).all (fun x => x.1.isSome) && decide (([e] : List Expr).length + ([] : List Keyword).length + (if ([] : List Keyword).isEmpty then 0 else 1) < 30)) = true := by rfl)
    (hline : (apos.endLine == cpos.line) = true := by rfl) (hst : starEach [e] X.env = (false, eval e X.env) :: starEach [] X.env := by rfl) (hplain : (backTo cpos (starEach [] X.env)).any (·.1) = false := by rfl) :
    RE X xa W (.Call (.Attribute o "count" apos) [e] [] cpos) (eM1 D.isLst D.count fa fb) :=
  ⟨peW (pe_bm PySem.F.plainAttrs_list PySem.F.slot_list_count PySem.F.type_list_count (mt_countD hu) ha.pe (pa_cons hb.pe pa_nil hst) hbase hfew hline hst hplain) fun σ H Q ⟨B, F, env, S, q⟩ =>
    ⟨B, F, env, S, (Post.bind (r := fa env) q).imp fun d F1 H1 _ x1 q1 v1 b1 => by
      cases d with
      | lst ds =>
        simp only [D.isLst, if_true] at q1
        obtain ⟨u, xs, rfl, hu1, r⟩ := b1.lst_ x1.le
        refine ⟨.inl ⟨rfl, xs, SqL.of hu1⟩, B, F1, env, S.ext x1, (Post.bind (r := fb env) q1).imp fun y F2 H2 _ x2 q2 v2 b2 => ?_⟩
        simp only [D.count] at q2
        split at q2
        · rename_i h
          simp only [Bool.and_eq_true, List.all_eq_true] at h
          have hall : ∀ d ∈ ds, D.cntOk d = true := fun d m => (h.2 d m).1
          have dl := dp_bor (n := 1) x2.le (d := .lst ds) (by simp only [D.pl]; exact pls_all fun d m => cnt_pl (hall d m) 0) (b1.on x2.f x2.h.k.up)
          have dy := dp_bor (n := 0) x2.le (cnt_pl h.1 0) b2
          obtain ⟨p1, p2⟩ := cnt_plain h.1
          refine ⟨u, v2, toPy y, toPys ds, rfl, rfl, dl, dy, cnts_plain hall, p1, p2, ?_⟩
          rw [cnts_count h.1 hall]
          exact (q2 : Post xa W σ F2 H2 (Res.ok (D.int _)) fun d F' H' => ∀ v, Rep X.K xa F' v d → Q v H') F2 H2 (.refl x2.le) _ (.int _)
        · exact q2.elim
      | _ => exact q1.elim⟩⟩
end
end Tw

set_option autoImplicit false
set_option Elab.async false
set_option linter.all false
set_option maxRecDepth 100000
/-! Tw: try, an error that is held as a value, its class asked. -/
namespace Tw
open PySem L2
/-- what the text says of the classes of errors that can be raised, ks -/
structure ExcKs (K : PySem.W.Frag) (xa : XA) (ks : List Nat) : Prop where
  c : ∀ k ∈ ks, ExcC K (xa k)
/-- .. of the class x, number t, that takes those of cs among them -/
structure ExcT (K : PySem.W.Frag) (mg : Str → Option Value) (xa : XA) (ks cs : List Nat) (x : Str) (t : Nat) : Prop where
  g : mg x = some (.ref (xa t))
  sb : PySem.W.subIn K (.ref (xa t)) (.type "BaseException") = some true
  hd : PySem.W.hasDictIn K (xa t) = true
  ty : PySem.W.typeIn K (.ref (xa t)) = some (.type "type")
  me : PySem.W.subIn K (.ref (xa t)) (.ref (xa t)) = some true
  sub : ∀ k ∈ ks, PySem.W.subIn K (.ref (xa k)) (.ref (xa t)) = some (decide (k ∈ cs))
section
variable {X : Cx} {pins : List (Addr × Obj)} {σ : Sl} {H : Hp} {s : Shared} {a : Addr} {o : HO}
/-- an object that stands in the heap is tracked from now on -/
theorem inv_also (I : Inv X pins σ H s) (h0 : X.s_0.heap.get? a = none) (hn : H a = none) (nL : a ≠ X.env.locals) (nC : ∀ y c, X.env.cells.lookup y = some c → c ≠ a) (nP : ∀ p ∈ X.pn ++ pins, p.1 ≠ a)
    (new : ObjOk X.prog X.w (upd H a o) s.heap a o) : Inv X pins σ (upd H a o) s := by
  have nn : ∀ {b : Addr} {u : HO}, H b = some u → b ≠ a := fun e z => by
    rw [z, hn] at e
    cases e
  have n0 : ∀ {b : Addr} {u : Obj}, X.s_0.heap.get? b = some u → b ≠ a := fun e z => by
    rw [z, h0] at e
    cases e
  refine ⟨I.ok, I.os, I.bare, ⟨I.base.keep, I.base.slot, fun b u e q r => ?_, I.base.there, fun b xs e => ?_, fun b u xs e => ?_, fun b ps e => ?_⟩, I.loc, I.cell, ?_, fun y c e => ?_, fun p hp => ?_, fun b u e => ?_, I.len⟩
  · rw [upd_ne (n0 e)]; exact I.base.free b u e q r
  · have z := I.base.tups b xs e
    rw [upd_ne (nn z)]; exact z
  · have z := I.base.frzs b u xs e
    rw [upd_ne (nn z)]; exact z
  · obtain ⟨m, z⟩ := I.base.tbls b ps e
    exact ⟨m, by rw [upd_ne (nn z)]; exact z⟩
  · rw [upd_ne (Ne.symm nL)]; exact I.free
  · rw [upd_ne (nC y c e)]; exact I.freeC y c e
  · obtain ⟨e1, e2, e3⟩ := I.pin p hp
    exact ⟨e1, by rw [upd_ne (nP p hp)]; exact e2, e3⟩
  · by_cases hb : b = a
    · subst hb
      rw [upd_same] at e
      cases e
      exact new
    · rw [upd_ne hb] at e
      exact (I.hok b u e).stay (fun _ _ _ q => q) (fun c q => by rw [upd_ne (nn q)]; exact q) fun c xs q => by rw [upd_ne (nn q)]; exact q
/-- into an except suite whose error is tracked, and out again -/
theorem inv_into (I : Inv X pins σ H s) : Inv (X.suite a (X.pn ++ pins)) [] σ H s :=
  ⟨I.ok.suite a _, I.os, I.bare, I.base, I.loc, I.cell, I.free, I.freeC, fun p hp => I.pin p (by simpa using hp), I.hok, I.len⟩
theorem inv_outof {σ' : Sl} {H' : Hp} {s' : Shared} (ok : X.Ok) (J : Inv (X.suite a (X.pn ++ pins)) [] σ' H' s') : Inv X pins σ' H' s' :=
  ⟨ok, J.os, J.bare, J.base, J.loc, J.cell, J.free, J.freeC, fun p hp => J.pin p (by simpa using hp), J.hok, J.len⟩
/-- what the clause wishes of an error of the body -/
def wHeld (K : PySem.W.Frag) (c : Value) (i : Nat) (ts : TS) (Wo : WX) (D : Ends) : WX := fun cls d σ H => ∃ b, PySem.W.exmOne K cls c = some b ∧
  (b = true → ∃ C, cls = .ref C ∧ d = none ∧ ∀ a, H a = none → ts ⟨fun σ' => D.nx (σ'.set i none), D.rt, fun σ' => D.bk (σ'.set i none), fun σ' => D.ct (σ'.set i none)⟩ (σ.set i (some (.ref a))) (upd H a (ErrO C a))) ∧
  (b = false → Wo cls d σ H)
variable {x n : Str} {c : Value} {i : Nat} {body suite : List Stmt} {b₀ : Stmt} {np pos pos' : Pos} {tb : WX → TS} {ts : TS} {Wo : WX}
theorem ps_try_held (hs : X.stack = X.env :: X.outer) (hf : X.env.frame = some X.env.locals) (hex : X.ex = []) (hN : X.N.Nodup) (hi : X.N[i]? = some n) (hln : X.env.kindOf n = some .local) (hc : Names X x c) (tk : Takes X Wo)
    (hb : ∀ (W : WX) (pn : List (Addr × Obj)) (xe : Value → Shared → Prop), Takes (X.tr pn xe) W → PassesOwn (model X.prog X.w) X.A X.env xe → PSs (X.tr pn xe) body (tb W))
    (hsu : ∀ (a : Addr) (pn : List (Addr × Obj)), PSs (X.suite a pn) (b₀ :: suite) ts) :
    PS X (.Try body [.ExceptHandler (some (.Name x np)) (some n) (b₀ :: suite) pos'] [] [] pos) (fun D σ H => tb (wHeld X.K c i ts Wo D) D σ H) := by
  constructor
  intro pins s σ H D I h
  have ok := I.ok
  have frA : X.A.frames = some (X.env :: X.outer) := by rw [ok.frames, hs]
  refine wpAny_Try_except ?_
  have run := (hb (wHeld X.K c i ts Wo D) (X.pn ++ pins) (fun e t1 => wpAny (model X.prog X.w) X.A (noteFrame e X.env)
      (fun _ t2 => wpAny (model X.prog X.w) X.A (setFlight e none)
        (fun _ t3 => wpAny (model X.prog X.w) X.A (handleBy e X.env [.ExceptHandler (some (.Name x np)) (some n) (b₀ :: suite) pos']) (SP X pins D) X.xe t3) X.xe t2) X.xe t1) ?_ PassesOwn.looking).run [] s σ H D (I.toTry _) h
  · refine wpAny_mono run (fun f s1 r => ?_) fun _ _ z => z
    cases f with
    | next => obtain ⟨σ1, H1, J, q⟩ := r; exact wpAny_execs_nil ⟨σ1, H1, J.ofTry ok, q⟩
    | brk => obtain ⟨σ1, H1, J, q⟩ := r; exact ⟨σ1, H1, J.ofTry ok, q⟩
    | cont => obtain ⟨σ1, H1, J, q⟩ := r; exact ⟨σ1, H1, J.ofTry ok, q⟩
    | ret u => obtain ⟨v, σ1, H1, J, rv, q⟩ := r; exact ⟨v, σ1, H1, J.ofTry ok, rv, q⟩
  · intro u s' air
    obtain ⟨a, B, sI, pins', σ1, H1, cls, d, rfl, J0, nb, up, sky, na, os, ag, b, yes, hy, hno⟩ := air
    have J : Inv X pins σ1 H1 sI := J0.ofTry ok
    rw [show (X.tr _ _).stack = X.env :: X.outer from hs] at sky
    show wpAny (model X.prog X.w) X.A (noteFrame (.ref a) X.env) _ _ _
    refine Sky.land Zc.steady frA hf sky fun g fly upg => ?_
    have I1 : Inv X pins σ1 H1 { s' with heap := g } := J.landed nb fly.1 (up.trans upg) os ag
    obtain ⟨oe, fs, hoe, hz, hd⟩ := fly.there
    have out : a ∉ frs (X.env :: X.outer) := fun hm => by
      obtain ⟨_, oe', e', no⟩ := fly.2.2.1.mem hm
      rw [hoe] at e'
      cases e'
      exact no _ hd
    have aL : a ≠ X.env.locals := fun z => out (List.mem_filterMap.mpr ⟨X.env, List.mem_cons_self, by rw [hf, z]⟩)
    have aI : sI.heap.get? a = none := by
      cases e : sI.heap.get? a with
      | none => rfl
      | some w =>
        have z := nb a w e (by rw [show (X.tr _ _).stack = X.env :: X.outer from hs]; exact out)
        rw [fly.2.1] at z
        cases z
    have a0 : X.s_0.heap.get? a = none := by
      cases e : X.s_0.heap.get? a with
      | none => rfl
      | some w =>
        obtain ⟨w', z⟩ := J.base.there a w e (by rw [hex]; exact fun z => nomatch z)
        rw [aI] at z
        cases z
    have aP : ∀ p ∈ X.pn ++ pins, p.1 ≠ a := fun p hp z => by
      have e := (J.pin p hp).1
      rw [z, aI] at e
      cases e
    refine wpAny_handleBy_cons (codeAny_handlers_test ?_) (by intro z; cases z)
    have ty : PySem.W.Looks (model X.prog X.w) g (typeOf (.ref a)) cls := fun A Q E t k q => wpAny_typeOf_ref (k _ _ hoe) (by rw [hz.1]; exact q)
    have look := PySem.W.exm_one (M := model X.prog X.w) I1.kIn ty yes
    have named : ∀ {Q E : Value → Shared → Prop}, Q c { s' with heap := g } → wpAny (model X.prog X.w) (X.A.mark (some (.ref a))) (eval (.Name x np) X.env) Q E { s' with heap := g } := fun q => by
      have Z := inv_into (a := a) I1
      rcases hc with ⟨hg, hdb, hm | ⟨hm, hv, hne⟩⟩
      · exact ld_glob Z hg hm q hdb
      · exact ld_blt Z hg hm hv q hne hdb
    refine named (look.here ?_)
    cases b with
    | false =>
      show wpAny _ X.A (handleBy (.ref a) X.env []) _ _ _
      refine wpAny_handleBy_nil ?_
      obtain ⟨_, _, _, oe2, vs2, T2, _, _, e2, _, d2, p2, _⟩ := id fly
      unfold PySem.passOn
      refine wpAny_bind (wpAny_field e2 d2 p2 ?_)
      rw [if_neg (show ¬ ((Value.ref T2 == Value.none) = true) from by simp)]
      have go : wpAny (model X.prog X.w) X.A (setFlight (.ref a) X.env.frame) (fun _ t => wpAny (model X.prog X.w) X.A (throw (.ref a) : Sem Flow) (SP X pins D) X.xe t) X.xe { s' with heap := g } := by
        rw [hf]
        refine HandSPX.setFlight_upZ fly fun g2 held up2 => wpAny_throw (tk _ _ ?_)
        exact ⟨a, B, sI, pins, σ1, H1, cls, d, rfl, J, nb, (up.trans upg).trans up2, .inr (.inr (by rw [hs]; exact held)), na, os, ag, hno rfl⟩
      first
        | exact wpAny_bind (wpAny_pure (wpAny_bind go))
        | exact wpAny_bind go
    | true =>
      obtain ⟨C, rfl, rfl, ht⟩ := hy rfl
      refine codeAny_handlers_suite_as ?_
      refine HandSPX.lands_againZ fly fun g2 fly2 up2 => ?_
      have I2 : Inv X pins σ1 H1 { s' with heap := g2 } := J.landed nb fly2.1 ((up.trans upg).trans up2) os ag
      obtain ⟨o2, fs2, ho2, hz2, hd2⟩ := fly2.there
      have aC : ∀ y k, X.env.cells.lookup y = some k → k ≠ a := fun y k e z => by
        obtain ⟨v, oc, ec, dc⟩ := I2.cell y k e
        rw [z] at ec
        cases (ho2.symm.trans ec)
        rw [hd2] at dc
        cases dc
      have I3 : Inv X pins σ1 (upd H1 a (ErrO C a)) { s' with heap := g2 } := inv_also I2 a0 na aL aC aP ⟨⟨o2, ho2, hz2.1, hz2.2, _, hd2⟩, ⟨o2, ho2⟩, fun _ _ ⟨w, e, r⟩ k => ⟨w, k w e, r⟩⟩
      refine store_ok (X := X.suite a (X.pn ++ pins)) (v := .ref a) (inv_into I3) hN hi (.inl hln) rfl (fun s5 I5 => ?_) (.inr hln)
      refine wpAny_mono ((hsu a (X.pn ++ pins)).run [] s5 _ _ _ I5 (ht a na)) (fun f s6 r => ?_) (fun _ _ z => False.elim z)
      have gone : ∀ {σ6 : Sl} {H6 : Hp} {Q : Shared → Prop}, Inv (X.suite a (X.pn ++ pins)) [] σ6 H6 s6 → (∀ s7, Inv X pins (σ6.set i none) H6 s7 → Q s7) →
          wpAny (model X.prog X.w) X.A (do bindName X.env n .none; unbindBehindTheSuite X.env n pos') (fun _ s7 => Q s7) X.xe s6 := fun z hq => gone_ok (inv_outof ok z) hN hi hln hq
      cases f with
      | next => obtain ⟨σ6, H6, z, q⟩ := r; exact gone z fun s7 w => ⟨_, _, w, q⟩
      | brk => obtain ⟨σ6, H6, z, q⟩ := r; exact gone z fun s7 w => ⟨_, _, w, q⟩
      | cont => obtain ⟨σ6, H6, z, q⟩ := r; exact gone z fun s7 w => ⟨_, _, w, q⟩
      | ret u => obtain ⟨v, σ6, H6, z, rv, q⟩ := r; exact gone z fun s7 w => ⟨_, _, _, w, rv, q⟩
end
section
variable {X : Cx} {xa : XA} {W : WX} {fr : Bool} {a : Expr} {fa : E} {x n : Str} {i t : Nat} {body suite : List Stmt} {b₀ : Stmt} {np p p2 pos pos' : Pos} {ks cs : List Nat} {m1 m2 : S}
theorem Sim.set_un {K : PySem.W.Frag} {B F H : Hp} {env : Env} {σ : Sl} (S : Sim K xa B F env σ H) (i : Nat) : Sim K xa B F (env.set i .un) (σ.set i none) H := by
  refine ⟨by simp [S.len], S.hB, S.hF, S.nt, S.tab, fun j s h => ?_, fun j k b d d' h1 h2 h3 h4 => ?_⟩
  · by_cases e : i = j
    · subst e
      by_cases hl : i < env.length
      · rw [List.getElem?_set_self hl] at h
        cases h
        rw [List.getElem?_set_self (by rw [← S.len]; exact hl)]
        exact trivial
      · rw [List.getElem?_eq_none (by simpa using hl)] at h
        cases h
    · rw [List.getElem?_set_ne e] at h ⊢
      exact S.sl j s h
  · by_cases e : i = j
    · subst e
      by_cases hl : i < env.length
      · rw [List.getElem?_set_self hl] at h1
        cases h1
      · rw [List.getElem?_eq_none (by simpa using hl)] at h1
        cases h1
    · by_cases e2 : i = k
      · subst e2
        by_cases hl : i < env.length
        · rw [List.getElem?_set_self hl] at h2
          cases h2
        · rw [List.getElem?_eq_none (by simpa using hl)] at h2
          cases h2
      · rw [List.getElem?_set_ne e] at h1 h3
        rw [List.getElem?_set_ne e2] at h2 h4
        exact S.ap j k b d d' h1 h2 h3 h4
theorem ExcT.exm {K : PySem.W.Frag} {mg : Str → Option Value} (T : ExcT K mg xa ks cs x t) {c : Nat} (h : c ∈ ks) : PySem.W.exmOne K (.ref (xa c)) (.ref (xa t)) = some (decide (c ∈ cs)) := PySem.W.exm_ref T.sb T.hd T.ty (T.sub c h)
/-- try: body except x as n: suite -/
theorem rs_try (T : ExcT X.K X.mg xa ks cs x t) (hN : X.N.Nodup) (tk : Takes X W) (hi : X.N[i]? = some n)
    (hb : ∀ (W' : WX) (pn : List (Addr × Obj)) (xe : Value → Shared → Prop), Takes (X.tr pn xe) W' → PassesOwn (model X.prog X.w) X.A X.env xe → RSs (X.tr pn xe) xa W' fr body m1) (hsu : ∀ (a : Addr) (pn : List (Addr × Obj)), RSs (X.suite a pn) xa (fun _ _ _ _ => False) fr (b₀ :: suite) m2)
    (hs : X.stack = X.env :: X.outer := by rfl) (hf : X.env.frame = some X.env.locals := by rfl) (hex : X.ex = [] := by rfl) (hln : X.env.kindOf n = some .local := by rfl) (hg : Gl X x := by rfl) (hdb : (x == ("__debug__" : Str)) = false := by decide) :
    RSt X xa W fr (.Try body [.ExceptHandler (some (.Name x np)) (some n) (b₀ :: suite) pos'] [] [] pos) (sTry ks cs i m1 m2) :=
  ⟨psW (ps_try_held (tb := fun W' => pS X.K xa W' fr m1) (ts := pS X.K xa (fun _ _ _ _ => False) fr m2) hs hf hex hN hi hln ⟨hg, hdb, .inl T.g⟩ tk (fun W' pn xe t' po => (hb W' pn xe t' po).pss) (fun a pn => (hsu a pn).pss)) fun D σ H ⟨B, F, env, S, q⟩ => by
    refine ⟨B, F, env, S, ?_⟩
    unfold sTry at q
    cases z : m1 env with
    | nx e1 => rw [z] at q; exact q
    | bk e1 => rw [z] at q; exact q
    | ct e1 => rw [z] at q; exact q
    | rt d => rw [z] at q; exact q
    | stk => rw [z] at q; exact q
    | er c e1 =>
      rw [z] at q
      simp only at q
      intro F1 σ1 H1 g1 S1
      by_cases hk : c ∈ ks
      · rw [if_pos hk] at q
        refine ⟨_, T.exm hk, fun hc => ?_, fun hc => ?_⟩
        · rw [if_pos (by simpa using hc)] at q
          refine ⟨_, rfl, rfl, fun a na => ?_⟩
          have x1 := Ext.grow (T := xa.tb) (o := ErrO (xa c) a) S1.hF na
          have S2 := (S1.ext x1).set_sh (.exc upd_same) i
          refine ⟨B, _, _, S2, ?_⟩
          have g2 := g1.trans (x1.grow' S1.hB)
          cases y : m2 (e1.set i (.sh (.exc c))) with
          | nx e2 => rw [y] at q; exact fun F' σ' H' g' S' => q F' _ H' (g2.trans g') (S'.set_un i)
          | bk e2 => rw [y] at q; exact fun F' σ' H' g' S' => q F' _ H' (g2.trans g') (S'.set_un i)
          | ct e2 => rw [y] at q; exact fun F' σ' H' g' S' => q F' _ H' (g2.trans g') (S'.set_un i)
          | rt d => rw [y] at q; exact fun F' H' v g' b f n r => q F' H' v (g2.trans g') b f n r
          | er _ _ => rw [y] at q; exact q.elim
          | stk => rw [y] at q; exact q.elim
        · rw [if_neg (by simpa using hc)] at q
          exact q F1 σ1 H1 g1 S1
      · rw [if_neg hk] at q
        exact q.elim⟩
/-- isinstance(e, c), e an error that is held -/
def rIsX (K : PySem.W.Frag) (xa : XA) (k : Nat) : List V → Hp → VK → Prop := fun xs H Q => ∃ (a : Addr) (c : V) (cv : Value) (b : Bool), xs = [.ref a, c] ∧ H a = some (ErrO (xa k) a) ∧ (∀ u, RelV c u → u = cv) ∧ PySem.W.kitOne K (.ref (xa k)) cv = some b ∧ Q (.bl b) H
theorem call_isX {k : Nat} (hk : ExcC X.K (xa k)) : CallR X (.builtin "isinstance") (rIsX X.K xa k) := by
  intro pins s σ H xs us Q I r h
  obtain ⟨a, c, cv, b, rfl, ha, hc, e, q⟩ := h
  cases r with
  | cons r1 r2 =>
    cases r2 with
    | cons r3 r4 =>
      cases r4
      cases r1
      rw [hc _ r3]
      obtain ⟨⟨oe, hget, hcl, hdi, vs, hv⟩, _⟩ := I.hok a _ ha
      have J : PySem.W.InstAt s.heap a oe (xa k) none := by
        cases oe
        dsimp only at hcl hdi hv
        subst hcl hdi hv
        exact ⟨hget, rfl, rfl, trivial⟩
      refine PySem.W.kia_one (PySem.W.handS_kitx_exc hk.hg hk.hk hk.hs hk.hd hk.ha hk.hn hk.ht hk.hm) I.kIn J e (fun z => nomatch z) fun tk => ?_
      exact ⟨.bl b, H, I.tok tk, rfl, q⟩
/-- isinstance(e, x), for an own class, for a built-in one -/
theorem re_isX {cv : Value} {vc : V} (A : ExcKs X.K xa ks) (hg : Gl X "isinstance") (hm : X.mg "isinstance" = none) (hx : PE X (.Name x p2) (tC vc)) (rv : RelV vc cv) (hv : ∀ u, RelV vc u → u = cv) (hk : ∀ k ∈ ks, PySem.W.kitOne X.K (.ref (xa k)) cv = some (decide (k ∈ cs))) (ha : RB X xa W a fa)
    (hs1 : starEach [a, .Name x p2] X.env = (false, eval a X.env) :: starEach [.Name x p2] X.env := by rfl) (hs2 : starEach [.Name x p2] X.env = (false, eval (.Name x p2) X.env) :: starEach [] X.env := by rfl) (hpl : (backTo pos (starEach [.Name x p2] X.env)).any (·.1) = false := by rfl) :
    RE X xa W (.Call (.Name "isinstance" p) [a, .Name x p2] [] pos) (e1 (D.isExc ks cs) fa) :=
  ⟨peW (pe_callB (r := fun xs H Q => ∃ k ∈ ks, rIsX X.K xa k xs H Q) (fun pins s σ H xs us Q I r ⟨k, hk', h⟩ => call_isX (A.c k hk') pins s σ H xs us Q I r h) hg hm PyProof.Rows.boot_isinstance (pa_cons ha.pe (pa_cons hx pa_nil hs2) hs1) (by decide) (by decide) hs1 hpl) fun σ H Q ⟨B, F, env, S, q⟩ =>
    ⟨B, F, env, S, (Post.bind (r := fa env) q).imp fun d F1 H1 _ x1 q1 v1 b1 => by
      cases d with
      | exc c =>
        unfold D.isExc at q1
        simp only at q1
        by_cases h : c ∈ ks
        · rw [if_pos h] at q1
          obtain ⟨a1, rfl, ea⟩ : ∃ a1, v1 = V.ref a1 ∧ H1 a1 = some (ErrO (xa c) a1) := by
            rcases b1 with b1 | ⟨a1, rfl, b1⟩
            · cases b1 with
              | exc e => exact ⟨_, rfl, x1.le _ _ e⟩
            · exact b1.elim
          exact ⟨c, h, a1, vc, cv, _, rfl, ea, hv, hk c h, q1 F1 H1 (.refl x1.le) _ (.bl _)⟩
        · rw [if_neg h] at q1
          exact q1.elim
      | _ => exact q1.elim⟩⟩
/-- .. for a class of the text -/
theorem re_isT (A : ExcKs X.K xa ks) (T : ExcT X.K X.mg xa ks cs x t) (hg : Gl X "isinstance") (hm : X.mg "isinstance" = none) (ha : RB X xa W a fa) (hg2 : Gl X x := by rfl) (hdb : (x == ("__debug__" : Str)) = false := by decide)
    (hs1 : starEach [a, .Name x p2] X.env = (false, eval a X.env) :: starEach [.Name x p2] X.env := by rfl) (hs2 : starEach [.Name x p2] X.env = (false, eval (.Name x p2) X.env) :: starEach [] X.env := by rfl) (hpl : (backTo pos (starEach [.Name x p2] X.env)).any (·.1) = false := by rfl) :
    RE X xa W (.Call (.Name "isinstance" p) [a, .Name x p2] [] pos) (e1 (D.isExc ks cs) fa) :=
  re_isX (vc := .ref (xa t)) (cv := .ref (xa t)) A hg hm (pe_glob hg2 T.g rfl hdb) rfl (fun u r => r) (fun k hk => by
    have e := T.exm hk
    unfold PySem.W.exmOne at e
    rw [if_pos (by rw [T.sb]; rfl)] at e
    unfold PySem.W.kitOne
    by_cases h : (Value.ref (xa k) == Value.ref (xa t)) = true
    · rw [if_pos h]
      have e2 : xa k = xa t := Value.ref.inj (beq_iff_eq.mp h)
      have z := T.sub k hk
      rw [e2, T.me] at z
      exact z
    · rw [if_neg h]; exact e) ha hs1 hs2 hpl
/-- .. for ValueError -/
theorem re_isVE (A : ExcKs X.K xa ks) (hv : ∀ k ∈ ks, PySem.W.subIn X.K (.ref (xa k)) (.type "ValueError") = some true) (hg : Gl X "isinstance") (hm : X.mg "isinstance" = none) (hm2 : X.mg "ValueError" = none) (ha : RB X xa W a fa) (hg2 : Gl X "ValueError" := by rfl)
    (hs1 : starEach [a, .Name "ValueError" p2] X.env = (false, eval a X.env) :: starEach [.Name "ValueError" p2] X.env := by rfl) (hs2 : starEach [.Name "ValueError" p2] X.env = (false, eval (.Name "ValueError" p2) X.env) :: starEach [] X.env := by rfl) (hpl : (backTo pos (starEach [.Name "ValueError" p2] X.env)).any (·.1) = false := by rfl) :
    RE X xa W (.Call (.Name "isinstance" p) [a, .Name "ValueError" p2] [] pos) (e1 (D.isExc ks ks) fa) :=
  re_isX (vc := .ty "ValueError") (cv := .type "ValueError") A hg hm (pe_bltn hg2 hm2 (by decide +kernel) rfl (by decide) (by decide)) rfl (fun u r => r) (fun k hk => by
    have e : PySem.W.kitOne X.K (.ref (xa k)) (.type "ValueError") = PySem.W.subIn X.K (.ref (xa k)) (.type "ValueError") := by
      unfold PySem.W.kitOne PySem.W.kitCls
      rw [if_neg (by simp)]
      rfl
    rw [e, hv k hk, decide_eq_true hk]) ha hs1 hs2 hpl
/-- try: body except x: suite -/
theorem rs_tryN (T : ExcT X.K X.mg xa ks cs x t) (tk : Takes X W)
    (hb : ∀ (W' : WX) (pn : List (Addr × Obj)) (xe : Value → Shared → Prop), Takes (X.tr pn xe) W' → PassesOwn (model X.prog X.w) X.A X.env xe → RSs (X.tr pn xe) xa W' fr body m1) (hsu : ∀ (a : Addr) (pn : List (Addr × Obj)), RSs (X.suite a pn) xa (fun _ _ _ _ => False) fr (b₀ :: suite) m2)
    (hs : X.stack = X.env :: X.outer := by rfl) (hf : X.env.frame = some X.env.locals := by rfl) (hg : Gl X x := by rfl) (hdb : (x == ("__debug__" : Str)) = false := by decide) :
    RSt X xa W fr (.Try body [.ExceptHandler (some (.Name x np)) none (b₀ :: suite) pos'] [] [] pos) (sTryN ks cs m1 m2) :=
  ⟨psW (ps_try_only (tb := fun W' => pS X.K xa W' fr m1) (ts := fun _ _ _ => pS X.K xa (fun _ _ _ _ => False) fr m2) hs hf ⟨hg, hdb, .inl T.g⟩ tk (fun W' pn xe t' po => (hb W' pn xe t' po).pss) (fun a _ _ _ pn _ _ => (hsu a _).pss)) fun D σ H ⟨B, F, env, S, q⟩ => by
    refine ⟨B, F, env, S, ?_⟩
    unfold sTryN at q
    cases z : m1 env with
    | nx e1 => rw [z] at q; exact q
    | bk e1 => rw [z] at q; exact q
    | ct e1 => rw [z] at q; exact q
    | rt d => rw [z] at q; exact q
    | stk => rw [z] at q; exact q
    | er c e1 =>
      rw [z] at q
      simp only at q
      intro F1 σ1 H1 g1 S1
      by_cases hk : c ∈ ks
      · rw [if_pos hk] at q
        refine ⟨_, T.exm hk, fun hc => ?_, fun hc => ?_⟩
        · rw [if_pos (by simpa using hc)] at q
          refine fun a na => ⟨B, F1, _, S1, ?_⟩
          cases y : m2 e1 with
          | nx e2 => rw [y] at q; exact fun F' σ' H' g' S' => q F' _ H' (g1.trans g') S'
          | bk e2 => rw [y] at q; exact fun F' σ' H' g' S' => q F' _ H' (g1.trans g') S'
          | ct e2 => rw [y] at q; exact fun F' σ' H' g' S' => q F' _ H' (g1.trans g') S'
          | rt d => rw [y] at q; exact fun F' H' v g' b f r => q F' H' v (g1.trans g') b f r
          | er _ _ => rw [y] at q; exact q.elim
          | stk => rw [y] at q; exact q.elim
        · rw [if_neg (by simpa using hc)] at q
          exact q F1 σ1 H1 g1 S1
      · rw [if_neg hk] at q
        exact q.elim⟩
end
end Tw

set_option autoImplicit false
set_option Elab.async false
set_option linter.all false
set_option maxRecDepth 100000
/-! Tw: a loop over the keys of a dict. -/
namespace Tw
open PySem L2
section
variable {K : PySem.W.Frag} {xa : XA} {W : WX} {fr : Bool} {B F H F' H' : Hp} {env : Env} {σ : Sl}
variable {X : Cx} {e tg iter : Expr} {pos p : Pos} {x : Str} {g : G} {s1 : S}
/-- the turns of a loop, whatever is walked -/
theorem for_core {is : List Nat} {S0 : Hp} {J : It} {xs : List D} {D0 : Ends} (wk : Walk K xa S0 F xs J) (hS : ∀ F2 H2, Same F F2 → Same F2 H2 → Ke B H2 → Ke S0 H2) (S1 : Sim K xa B F env σ H) (q1 : PostS K xa W fr B F (forGo g s1 xs env) D0) :
    ∃ U : Nat → Nat → Sl → Hp → Prop, (∃ m, U 0 m σ H) ∧ ∀ i m σ H, U i m σ H → (J.stop i H ∧ D0.nx σ H) ∨ (J.go i H ∧ ∃ N : Sl → Hp → Prop, (∀ σ' H', N σ' H' → ∃ m', m' < m ∧ U (i + 1) m' σ' H') ∧ ∀ x H', J.yld i H x H' → pG K xa is g x σ H' fun σ2 H2 => pS K xa W fr s1 { D0 with nx := N, ct := N, bk := D0.nx } σ2 H2) := by
  refine ⟨fun i m σ' H' => m = xs.length - i ∧ i ≤ xs.length ∧ ∃ F2 e2, Grow B F F2 ∧ Sim K xa B F2 e2 σ' H' ∧ PostS K xa W fr B F2 (forGo g s1 (xs.drop i) e2) D0, ⟨_, rfl, Nat.zero_le _, F, env, .refl _ _, S1, q1⟩, ?_⟩
  rintro i m σ2 H2 ⟨rfl, hi, F2, e2, g2, S2, q2⟩
  have sS : Ke S0 H2 := hS _ _ g2.f S2.hF S2.hB.k
  by_cases hlt : i < xs.length
  · refine .inr ⟨wk.go i H2 sS hlt, fun σ' H' => i + 1 ≤ xs.length ∧ ∃ F3 e3, Grow B F F3 ∧ Sim K xa B F3 e3 σ' H' ∧ PostS K xa W fr B F3 (forGo g s1 (xs.drop (i + 1)) e3) D0, fun σ' H' ⟨k1, k2⟩ => ⟨_, by omega, rfl, k1, k2⟩, fun x H3 yy => ?_⟩
    obtain ⟨F3, d, x3, hd, rd⟩ := wk.yld i H2 x H3 F2 sS g2.f S2.hF hlt yy
    have S3 := S2.ext x3
    have g3 := g2.trans (x3.grow' S2.hB)
    have hdr : xs.drop i = d :: xs.drop (i + 1) := by
      rw [List.drop_eq_getElem_cons hlt]
      rw [List.getElem?_eq_getElem hlt] at hd
      cases hd
      rfl
    rw [hdr] at q2
    unfold forGo at q2
    cases hg : g d e2 with
    | err k => rw [hg] at q2; exact q2.elim
    | stk => rw [hg] at q2; exact q2.elim
    | ok e3 =>
      rw [hg] at q2
      refine ⟨B, F3, e2, d, S3, rd, e3, hg, fun σ4 S4 _ => ⟨B, F3, e3, S4, ?_⟩⟩
      have gg := x3.grow' S2.hB
      simp only at q2
      cases z : s1 e3 with
      | nx e4 => rw [z] at q2; exact fun F5 σ5 H5 g5 S5 => ⟨hlt, F5, e4, g3.trans g5, S5, q2.on (gg.trans g5)⟩
      | ct e4 => rw [z] at q2; exact fun F5 σ5 H5 g5 S5 => ⟨hlt, F5, e4, g3.trans g5, S5, q2.on (gg.trans g5)⟩
      | bk e4 =>
        rw [z] at q2
        have q3 : PostS K xa W fr B F2 (RS.nx e4) D0 := q2
        exact fun F5 σ5 H5 g5 S5 => q3 F5 σ5 H5 (gg.trans g5) S5
      | rt d2 => rw [z] at q2; exact PostS.on (r := .rt d2) q2 gg
      | er k e4 => rw [z] at q2; exact PostS.on (r := .er k e4) q2 gg
      | stk => rw [z] at q2; exact q2.elim
  · have e : i = xs.length := by omega
    subst e
    rw [List.drop_length] at q2
    refine .inl ⟨wk.stop _ H2 sS (Nat.le_refl _), ?_⟩
    have q3 : PostS K xa W fr B F2 (RS.nx e2) D0 := q2
    exact q3 F2 σ2 H2 (.refl _ _) S2
theorem Kp.at_ {T : List (Addr × Str)} {B H : Hp} {d : Addr} {o u : HO} (k : Kp T B H) (h : B d = some o) (rd : H d = some u) (nu : isTbl u = false) : o = u := by
  cases t : isTbl o with
  | false => have := k.k _ _ t h; rw [rd] at this; exact (Option.some.inj this).symm
  | true => obtain ⟨o', t', e⟩ := k.tb _ _ h t; rw [rd] at e; cases e; rw [nu] at t'; cases t'
theorem tabs_lock {T : List (Addr × Str)} {B : Hp} {d : Addr} {od : Obj} {u : HO} (t : LamX.Tabs T (lockF B d (.frz od u))) : LamX.Tabs T B := fun p hp => by
  have back : ∀ b o, lockF B d (.frz od u) b = some o → (∀ x y, o ≠ .frz x y) → B b = some o := fun b o e n => by
    by_cases h : b = d
    · subst h
      cases q : B b with
      | none => rw [lockF_none q] at e; cases e
      | some w => rw [lockF_at q] at e; exact absurd (Option.some.inj e).symm (n _ _)
    · rw [lockF_ne h] at e; exact e
  obtain ⟨ps, h1, h2, h3⟩ := t p hp
  refine ⟨ps, back _ _ h1 (fun x y z => by cases z), h2, fun pos cv hc => ?_⟩
  obtain ⟨c, e1, e2⟩ := h3 pos cv hc
  exact ⟨c, e1, back _ _ e2 fun x y z => by cases z⟩
theorem tabs_lock' {T : List (Addr × Str)} {B : Hp} {d : Addr} {od : Obj} {u : HO} (hu : isDct u = true) (fB : ∀ o, B d = some o → o = u) (t : LamX.Tabs T B) : LamX.Tabs T (lockF B d (.frz od u)) := fun p hp => by
  have fwd : ∀ b o, B b = some o → isDct o = false → lockF B d (.frz od u) b = some o := fun b o e n => by
    have h : b ≠ d := fun z => by subst z; rw [fB _ e, hu] at n; cases n
    rw [lockF_ne h]; exact e
  obtain ⟨ps, h1, h2, h3⟩ := t p hp
  refine ⟨ps, fwd _ _ h1 rfl, h2, fun pos cv hc => ?_⟩
  obtain ⟨c, e1, e2⟩ := h3 pos cv hc
  exact ⟨c, e1, fwd _ _ e2 rfl⟩
theorem Kp.lock {T : List (Addr × Str)} {B H : Hp} {d : Addr} {od : Obj} {u : HO} (k : Kp T B H) (rd : H d = some u) (hu : isDct u = true) : Kp T (lockF B d (.frz od u)) (L2.upd H d (.frz od u)) := by
  have n1 : isTbl u = false := by cases u <;> first | rfl | cases hu
  have n2 : isExt u = false := by cases u <;> first | rfl | cases hu
  refine ⟨fun b o t e => ?_, fun b o e t => ?_, fun t => tabs_upd rd n1 n2 (k.tab (tabs_lock t))⟩
  · by_cases hb : b = d
    · subst hb
      cases q : B b with
      | none => rw [lockF_none q] at e; cases e
      | some w => rw [lockF_at q] at e; cases e; rw [upd_same]
    · rw [lockF_ne hb] at e; rw [upd_ne hb]; exact k.k _ _ t e
  · have hb : b ≠ d := fun z => by
      subst z
      cases q : B b with
      | none => rw [lockF_none q] at e; cases e
      | some w => rw [lockF_at q] at e; cases e; cases t
    rw [lockF_ne hb] at e
    rw [upd_ne hb]; exact k.tb _ _ e t
theorem Kp.unlockB {T : List (Addr × Str)} {B H : Hp} {d : Addr} {od : Obj} {u : HO} (x : Kp T (lockF B d (.frz od u)) H) (hH : H d = some (.frz od u)) (fB : ∀ o, B d = some o → o = u) (hu : isDct u = true) : Kp T B (L2.upd H d u) := by
  refine ⟨fun b o t e => ?_, fun b o e t => ?_, fun t => tabs_upd hH rfl rfl (x.tab (tabs_lock' hu fB t))⟩
  · by_cases hb : b = d
    · subst hb; rw [upd_same, fB _ e]
    · rw [upd_ne hb]; exact x.k _ _ t (by rw [lockF_ne hb]; exact e)
  · have hb : b ≠ d := fun z => by
      subst z
      rw [fB _ e] at t
      cases u <;> first | (cases hu; done) | (simp [isTbl] at t)
    rw [upd_ne hb]; exact x.tb _ _ (by rw [lockF_ne hb]; exact e) t
/-- the slots, where things turn at addresses that no slot owns -/
theorem Sim.turn {B' : Hp} (S : Sim K xa B F env σ H) (uF : Up F F') (uB : Up B B') (hB : Kp xa.tb B' H') (hF : Same F' H') (nt : NT F') (tb : LamX.Tabs xa.tb H') (own : ∀ a, F a = none → B a = none → F' a = none ∧ B' a = none ∧ H' a = H a) : Sim K xa B' F' env σ H' := by
  refine ⟨S.len, hB, hF, nt, tb, fun j s h => ?_, S.ap⟩
  have q := S.sl j s h
  cases s with
  | un => trivial
  | sh d => obtain ⟨v, e, r⟩ := q; exact ⟨v, e, r.up uF⟩
  | bor d => obtain ⟨v, e, r⟩ := q; exact ⟨v, e, r.up uF uB⟩
  | own d =>
    obtain ⟨a, e, nF, nB, o⟩ := q
    obtain ⟨n1, n2, n3⟩ := own a nF nB
    refine ⟨a, e, n1, n2, ?_⟩
    cases d with
    | lst ds => obtain ⟨xs, e1, r⟩ := o; exact ⟨xs, n3.trans e1, r.up uF⟩
    | dct t ds =>
      cases t
      · obtain ⟨xs, e1, r⟩ := o; exact ⟨xs, n3.trans e1, r.up uF⟩
      · obtain ⟨xs, e1, r⟩ := o; exact ⟨xs, n3.trans e1, r.up uF⟩
    | _ => exact o.elim
theorem slot_dict2 {i : Nat} {t : Bool} {kvs : List (Ky × D)} (S : Sim K xa B F env σ H) (h : env[i]? = some (.sh (.dct t kvs)) ∨ env[i]? = some (.bor (.dct t kvs))) : ∃ d u, σ[i]? = some (some (.ref d)) ∧ isDct u = true ∧ (Rd F d u ∨ Rd B d u) ∧
    ((t = false ∧ ∃ kv, u = .dK kv ∧ RepK K xa F kv kvs) ∨ (t = true ∧ ∃ kv, u = .dT kv ∧ RepT K xa F kv kvs)) := by
  have rp : ∀ v, Rep K xa F v (.dct t kvs) → σ[i]? = some (some v) → ∃ d u, σ[i]? = some (some (.ref d)) ∧ isDct u = true ∧ (Rd F d u ∨ Rd B d u) ∧ ((t = false ∧ ∃ kv, u = .dK kv ∧ RepK K xa F kv kvs) ∨ (t = true ∧ ∃ kv, u = .dT kv ∧ RepT K xa F kv kvs)) := by
    intro v r hv
    cases r with
    | dK e r => exact ⟨_, _, hv, rfl, .inl e, .inl ⟨rfl, _, rfl, r⟩⟩
    | dT e r => exact ⟨_, _, hv, rfl, .inl e, .inr ⟨rfl, _, rfl, r⟩⟩
  rcases h with h | h
  · obtain ⟨v, hv, r⟩ := S.sl i _ h
    exact rp v r hv
  · obtain ⟨v, hv, r⟩ := S.sl i _ h
    rcases r with r | ⟨a, rfl, o⟩
    · exact rp v r hv
    · cases t with
      | false => obtain ⟨kv, e, r⟩ := o; exact ⟨a, _, hv, rfl, .inr e, .inl ⟨rfl, kv, rfl, r⟩⟩
      | true => obtain ⟨kv, e, r⟩ := o; exact ⟨a, _, hv, rfl, .inr e, .inr ⟨rfl, kv, rfl, r⟩⟩
/-- one thing, at d -/
def only (d : Addr) (u : HO) : Hp := fun b => if b = d then some u else none
theorem only_same {d : Addr} {u : HO} {G : Hp} (h : G d = some u) : Same (only d u) G := fun b o e => by
  unfold only at e
  split at e
  · rename_i z; subst z; cases e; exact h
  · cases e
/-- for x in d -/
theorem rs_forK {is : List Nat} {body : List Stmt} {i : Nat} (hp : PassesOwn (model X.prog X.w) X.A X.env X.xe) (hcalm : X.calm = true) (hv : VarAt X i x) (hg : RG X xa tg is g) (hb : RSs X xa W false body s1) (hs : ∀ y, foldedSetIterable (.Name x p) X.env y = pure y := by intro _; rfl) :
    RSt X xa W false (.For tg (.Name x p) body [] pos) (sForK i g s1) := by
  have base := ps_for (tg := tg) (pos := pos) hp hcalm (pi_keys (tg := tg) (hv.pe p)) hg.pg hb.pss hs
  refine ⟨psW (ps_or base (ps_lock base)) fun D0 σ H ⟨B, F, env, S, q⟩ => ?_⟩
  unfold sForK at q
  have main : ∀ dd, (env[i]? = some (.sh dd) ∨ env[i]? = some (.bor dd)) → PostS X.K xa W false B F (match D.keys dd with
      | .ok xs => (match forGo g s1 xs env with
        | .er _ _ => .stk
        | r => r)
      | _ => .stk) D0 → tFor (iKeys (tVar i)) (pG X.K xa is g) (pS X.K xa W false s1) D0 σ H ∨ tLock (tFor (iKeys (tVar i)) (pG X.K xa is g) (pS X.K xa W false s1)) D0 σ H := by
    intro dd hdd q
    cases dd with
    | dct t kvs =>
      simp only [D.keys] at q
      obtain ⟨d, u, hd, hu, rdd, hk⟩ := slot_dict2 S hdd
      -- the loop, the dict locked
      have go : ∀ (B1 F1 H1 : Hp) (od : Obj) (D1 : Ends), Sim X.K xa B1 F1 env σ H1 → Up F F1 → H1 d = some (.frz od u) → (F1 d = some (.frz od u) ∨ B1 d = some (.frz od u)) → PostS X.K xa W false B1 F1 (forGo g s1 (kvs.map fun kv => kv.1.toD) env) D1 → tFor (iKeys (tVar i)) (pG X.K xa is g) (pS X.K xa W false s1) D1 σ H1 := by
        intro B1 F1 H1 od D1 S1 uF hH hFB q1
        have hS : ∀ F2 H2, Same F1 F2 → Same F2 H2 → Ke B1 H2 → Ke (only d (.frz od u)) H2 := fun F2 H2 f h b => by
          rcases hFB with z | z
          · exact .of (only_same (h _ _ (f _ _ z)))
          · exact .of (only_same (b _ _ rfl z))
        refine ⟨_, hd, d, od, rfl, ?_⟩
        rcases hk with ⟨_, kv, rfl, r⟩ | ⟨_, kv, rfl, r⟩
        · exact .inl ⟨kv, hH, for_core (walk_keysK (S := only d (.frz od (.dK kv))) (by simp [only]) (repK_up uF (.inl ⟨rfl, kv, rfl, r⟩) |> fun z => by
            rcases z with ⟨_, kv', e, r'⟩ | ⟨_, kv', e, r'⟩
            · cases e; exact r'
            · cases e)) hS S1 q1⟩
        · exact .inr ⟨kv, hH, for_core (walk_keysT (S := only d (.frz od (.dT kv))) (by simp [only]) (repK_up uF (.inr ⟨rfl, kv, rfl, r⟩) |> fun z => by
            rcases z with ⟨_, kv', e, r'⟩ | ⟨_, kv', e, r'⟩
            · cases e
            · cases e; exact r')) hS S1 q1⟩
      have nfu : ∀ o w, u ≠ .frz o w := fun o w z => by rw [z] at hu; cases hu
      have rdH : Rd H d u := by
        rcases rdd with z | z
        · exact RM.of S.hF d u (by cases u <;> first | rfl | cases hu) z
        · exact S.hB.k.up.rm d u (by cases u <;> first | rfl | cases hu) z
      cases z : forGo g s1 (kvs.map fun kv => kv.1.toD) env with
      | stk => rw [z] at q; exact q.elim
      | er c e1 => rw [z] at q; exact q.elim
      | _ =>
        rw [z] at q
        rcases rdH with rd | ⟨od, rd⟩
        · right
          have mu : Mut (some u) := by cases u <;> first | trivial | cases hu
          refine ⟨d, u, rd, mu, fun od => ?_⟩
          have n1 : isTbl u = false := by cases u <;> first | rfl | cases hu
          have n2 : isExt u = false := by cases u <;> first | rfl | cases hu
          have fF : ∀ {o}, F d = some o → o = u := fun h => by have := S.hF _ _ h; rw [rd] at this; exact (Option.some.inj this).symm
          have fB : ∀ {o}, B d = some o → o = u := fun h => S.hB.at_ h rd n1
          have uF : Up F (lockF F d (.frz od u)) := up_lock hu fun o h => fF h
          have uB : Up B (lockF B d (.frz od u)) := up_lock hu fun o h => fB h
          have sG : ∀ {G : Hp}, Same G H → Same (lockF G d (.frz od u)) (upd H d (.frz od u)) := fun {G} h b o ho => by
            by_cases hb : b = d
            · subst hb
              cases hG : G b with
              | none => rw [lockF_none hG] at ho; cases ho
              | some w => rw [lockF_at hG] at ho; rw [upd_same, ← ho]
            · rw [lockF_ne hb] at ho; rw [upd_ne hb]; exact h _ _ ho
          have inFB : F d = some u ∨ B d = some u := by
            rcases rdd with (h | ⟨o, h⟩) | (h | ⟨o, h⟩)
            · exact .inl h
            · exact absurd (fF h).symm (nfu _ _)
            · exact .inr h
            · exact absurd (fB h).symm (nfu _ _)
          have S1 : Sim X.K xa (lockF B d (.frz od u)) (lockF F d (.frz od u)) env σ (upd H d (.frz od u)) := S.turn uF uB (S.hB.lock rd hu) (sG S.hF) (nt_lock S.nt) (tabs_upd rd n1 n2 S.tab) fun a nF nB => by
            have hne : a ≠ d := fun e => by subst e; rcases inFB with h | h <;> simp_all
            exact ⟨by rw [lockF_ne hne]; exact nF, by rw [lockF_ne hne]; exact nB, by rw [upd_ne hne]⟩
          refine go _ _ _ od _ S1 uF upd_same (inFB.imp lockF_at lockF_at) ?_
          rw [z]
          -- back
          have dH : ∀ {F1 H1 : Hp}, Same (lockF F d (.frz od u)) F1 → Same F1 H1 → Kp xa.tb (lockF B d (.frz od u)) H1 → H1 d = some (.frz od u) := fun f h b => by
            rcases inFB with y | y
            · exact h _ _ (f _ _ (lockF_at y))
            · exact b.k _ _ rfl (lockF_at y)
          have back : ∀ {F1 H1 : Hp}, Grow (lockF B d (.frz od u)) (lockF F d (.frz od u)) F1 → Same F1 H1 → Kp xa.tb (lockF B d (.frz od u)) H1 →
              Up F1 (fun b => if b = d then F d else F1 b) ∧ Grow B F (fun b => if b = d then F d else F1 b) ∧ Same (fun b => if b = d then F d else F1 b) (upd H1 d u) ∧ Kp xa.tb B (upd H1 d u) := fun {F1 H1} gr h b => by
            have hH := dH gr.f h b
            have fd : ∀ w, F1 d = some w → w = .frz od u ∧ F d = some u := fun w hw => by
              have h1 := h _ _ hw
              rw [hH] at h1
              cases h1
              refine ⟨rfl, ?_⟩
              rcases gr.new _ _ hw with y | y | ⟨ts, y⟩
              · cases hF : F d with
                | none => rw [lockF_none hF] at y; cases y
                | some w => rw [fF hF]
              · rcases inFB with k | k
                · exact k
                · rw [lockF_at k] at y; cases y
              · cases y
            refine ⟨up_unlock (od := od) (u := u) fd, ⟨fun a o ho => ?_, fun a o ho => ?_⟩, fun a o ho => ?_, b.unlockB hH (fun o h => fB h) hu⟩
            · by_cases hb : a = d
              · subst hb; simpa using ho
              · simp only [hb, if_false]; exact gr.f _ _ (by rw [lockF_ne hb]; exact ho)
            · by_cases hb : a = d
              · subst hb; simp only [if_true] at ho; exact .inl ho
              · simp only [hb, if_false] at ho
                rcases gr.new _ _ ho with y | y | y
                · rw [lockF_ne hb] at y; exact .inl y
                · rw [lockF_ne hb] at y; exact .inr (.inl y)
                · exact .inr (.inr y)
            · by_cases hb : a = d
              · subst hb; simp only [if_true] at ho; rw [upd_same, fF ho]
              · simp only [hb, if_false] at ho; rw [upd_ne hb]; exact h _ _ ho
          have upB : ∀ {H1 : Hp}, Up (lockF B d (.frz od u)) B := by
            have e : (fun b => if b = d then B d else lockF B d (.frz od u) b) = B := by
              funext b
              by_cases hb : b = d
              · subst hb; simp
              · simp [hb, lockF_ne hb]
            have y := up_unlock (F := lockF B d (.frz od u)) (d := d) (od := od) (u := u) (o := B d) fun w hw => by
              cases hB : B d with
              | none => rw [lockF_none hB] at hw; cases hw
              | some w' => rw [lockF_at hB] at hw; cases hw; exact ⟨rfl, by rw [fB hB]⟩
            rw [e] at y
            exact fun {_} => y
          have sim : ∀ {F1 H1 : Hp} {e1 : Env} {σ1 : Sl}, Grow (lockF B d (.frz od u)) (lockF F d (.frz od u)) F1 → Sim X.K xa (lockF B d (.frz od u)) F1 e1 σ1 H1 → Sim X.K xa B (fun b => if b = d then F d else F1 b) e1 σ1 (upd H1 d u) := fun {F1 H1 e1 σ1} gr S2 => by
            obtain ⟨b1, b2, b3, b4⟩ := back gr S2.hF S2.hB
            refine S2.turn b1 (upB (H1 := H1)) b4 b3 (nt_unlock S.nt S2.nt) (tabs_upd (dH gr.f S2.hF S2.hB) rfl rfl S2.tab) fun a nF nB => ?_
            have hne : a ≠ d := fun e => by
              subst e
              rcases inFB with y | y
              · rw [gr.f _ _ (lockF_at y)] at nF; cases nF
              · rw [lockF_at y] at nB; cases nB
            exact ⟨by simp only [hne, if_false]; exact nF, by rw [lockF_ne hne] at nB; exact nB, upd_ne hne⟩
          first
            | exact fun F1 σ1 H1 gr S2 => ⟨dH gr.f S2.hF S2.hB, q _ _ _ (back gr S2.hF S2.hB).2.1 (sim gr S2)⟩
            | exact fun F1 H1 v gr b f n r => ⟨dH gr.f f b, q _ _ v (back gr f b).2.1 (back gr f b).2.2.2 (back gr f b).2.2.1 (nt_unlock S.nt n) (Rep.up (back gr f b).1 r)⟩
        · left
          have inFB : F d = some (.frz od u) ∨ B d = some (.frz od u) := by
            rcases rdd with (h | ⟨o, h⟩) | (h | ⟨o, h⟩)
            · have := S.hF _ _ h; rw [rd] at this; exact absurd (Option.some.inj this).symm (nfu _ _)
            · have := S.hF _ _ h; rw [rd] at this; exact .inl (h.trans this.symm)
            · have := S.hB.at_ h rd rfl; exact absurd this (nfu _ _)
            · have := S.hB.at_ h rd rfl; rw [this] at h; exact .inr h
          exact go B F H od D0 S (.of (.refl _)) rd inFB (by rw [z]; exact q)
    | _ => exact q.elim
  cases z : env[i]? with
  | none => rw [z] at q; exact q.elim
  | some s =>
    rw [z] at q
    cases s with
    | sh dd => exact main dd (.inl z) q
    | bor dd => exact main dd (.inr z) q
    | _ => exact q.elim
end
end Tw

set_option autoImplicit false
set_option Elab.async false
set_option linter.all false
set_option maxRecDepth 100000
/-! Tw: index, get with a default, min, zip, sorted of a dict. -/
namespace Tw
open PySem L2
section
variable {K : PySem.W.Frag} {xa : XA} {W : WX} {fr : Bool} {B F H F' H' : Hp} {env : Env} {σ : Sl}
variable {X : Cx} {a b c e o tg iter : Expr} {fa fb fc : E} {pos p apos cpos : Pos} {x : Str} {g : G} {s1 : S}
theorem cnt_rep {d : D} {v : V} (h : D.cntOk d = true) (r : Rep K xa F v d) : flatV v = true ∧ (∀ {d2 v2}, D.cntOk d2 = true → Rep K xa F v2 d2 → eqV v v2 = D.eqv d d2) := by
  cases d with
  | bl b =>
    cases r
    refine ⟨rfl, fun {d2 v2} h2 r2 => ?_⟩
    cases d2 <;> first | (simp [D.cntOk] at h2; done) | (cases r2; simp [eqV, D.eqv])
  | str s =>
    cases r
    refine ⟨rfl, fun {d2 v2} h2 r2 => ?_⟩
    cases d2 with
    | bl b => cases r2; simp [eqV, D.eqv]
    | str t =>
      cases r2
      show ((⟨s.toArray⟩ : Str) == ⟨t.toArray⟩) = _
      rw [show D.eqv (.str s) (.str t) = (s == t) from by simp [D.eqv]]
      by_cases q : s = t
      · subst q; simp
      · have : (⟨s.toArray⟩ : Str) ≠ ⟨t.toArray⟩ := fun z => q (by simpa using z)
        rw [beq_eq_false_iff_ne.mpr this, beq_eq_false_iff_ne.mpr q]
    | _ => simp [D.cntOk] at h2
  | _ => simp [D.cntOk] at h
theorem reps_at {vs : List V} {ds : List D} (r : Reps K xa F vs ds) : ∀ i : Nat, (∀ d, ds[i]? = some d → ∃ v, vs[i]? = some v ∧ Rep K xa F v d) ∧ (∀ v, vs[i]? = some v → ∃ d, ds[i]? = some d ∧ Rep K xa F v d) := by
  induction vs generalizing ds with
  | nil => cases r; exact fun i => ⟨fun d h => by simp at h, fun v h => by simp at h⟩
  | cons v vs ih =>
    cases r with
    | cons r t =>
      intro i
      cases i with
      | zero => exact ⟨fun d h => by cases h; exact ⟨_, rfl, r⟩, fun d h => by cases h; exact ⟨_, rfl, r⟩⟩
      | succ i => exact ih t i
/-- xs.index(y) -/
theorem re_index (hu : X.A.units + 64 < cLine) (ha : RB X xa W o fa) (hb : RB X xa W e fb) (hbase : attributeBase o "index" X.env (eval o X.env) = eval o X.env := by rfl)
    (hfew : ((backTo cpos (starEach [e] X.env)).all (fun x => !x.1) && (backToKw cpos (keywordEach [] X.env)).all (fun x => x.1.isSome) && decide (([e] : List Expr).length + ([] : List Keyword).length + (if ([] : List Keyword).isEmpty then 0 else 1) < 30)) = true := by rfl)
    (hline : (apos.endLine == cpos.line) = true := by rfl) (hst : starEach [e] X.env = (false, eval e X.env) :: starEach [] X.env := by rfl) (hplain : (backTo cpos (starEach [] X.env)).any (·.1) = false := by rfl) :
    RE X xa W (.Call (.Attribute o "index" apos) [e] [] cpos) (eM1 D.isLst D.index fa fb) :=
  ⟨peW (pe_bm PySem.F.plainAttrs_list PySem.F.slot_list_index PySem.F.type_list_index mt_index ha.pe (pa_cons hb.pe pa_nil hst) hbase hfew hline hst hplain) fun σ H Q ⟨B, F, env, S, q⟩ =>
    ⟨B, F, env, S, (Post.bind (r := fa env) q).imp fun d F1 H1 _ x1 q1 v1 b1 => by
      cases d with
      | lst ds =>
        simp only [D.isLst, if_true] at q1
        obtain ⟨u, xs, rfl, hu1, r⟩ := b1.lst_ x1.le
        refine ⟨.inl ⟨rfl, xs, SqL.of hu1⟩, B, F1, env, S.ext x1, (Post.bind (r := fb env) q1).imp fun y F2 H2 _ x2 q2 v2 b2 => ?_⟩
        simp only [D.index] at q2
        split at q2
        · rename_i h
          simp only [Bool.and_eq_true, List.all_eq_true] at h
          obtain ⟨⟨hy, hall⟩, hany⟩ := h
          have r2 := r.on x2.f
          have by2 : Rep X.K xa F2 v2 y := b2.rep (by cases y <;> first | rfl | (simp [D.cntOk] at hy; done))
          have hlt : ds.findIdx (fun x => D.eqv x y) < ds.length := List.findIdx_lt_length.mpr (by simpa using hany)
          obtain ⟨z, hz, rz⟩ := ((reps_at r2) _).1 _ (List.getElem?_eq_getElem hlt)
          refine ⟨u, xs, v2, ds.findIdx (fun x => D.eqv x y), z, rfl, rfl, SqL.of (x2.h.k _ _ rfl hu1), (cnt_rep hy by2).1, ?_, hz, ?_, fun m z' hm hz' => ?_, ?_⟩
          · rw [List.all_eq_true]
            intro v hv
            obtain ⟨i, hi⟩ := List.getElem?_of_mem hv
            obtain ⟨d, hd, rd⟩ := ((reps_at r2) i).2 _ hi
            exact (cnt_rep (hall d (List.mem_of_getElem? hd)).1 rd).1
          · rw [(cnt_rep (hall _ (List.getElem_mem hlt)).1 rz).2 hy by2]
            exact List.findIdx_getElem (w := hlt)
          · obtain ⟨d, hd, rd⟩ := ((reps_at r2) m).2 _ hz'
            rw [(cnt_rep (hall d (List.mem_of_getElem? hd)).1 rd).2 hy by2]
            have := List.not_of_lt_findIdx hm
            have hm2 : m < ds.length := by omega
            rw [List.getElem?_eq_getElem hm2] at hd
            cases hd
            simpa using this
          · exact (q2 : Post xa W σ F2 H2 (Res.ok (D.int _)) fun d F' H' => ∀ v, Rep X.K xa F' v d → Q v H') F2 H2 (.refl x2.le) _ (.int _)
        · exact q2.elim
      | _ => exact q1.elim⟩⟩
/-- d.get(k, v) -/
theorem re_get2 (hu : X.A.units + 64 < cLine) (ha : RB X xa W o fa) (hb : RB X xa W e fb) (hc : RE X xa W c fc) (m : M2 X o "get" apos e c cpos := by exact ⟨rfl, rfl, rfl, rfl, rfl⟩) : RE X xa W (.Call (.Attribute o "get" apos) [e, c] [] cpos) (eGet2 fa fb fc) :=
  ⟨peW (pe_dget2 (by omega) ha.pe hb.pe hc.pe m) fun σ H Q ⟨B, F, env, S, q⟩ => ⟨B, F, env, S, (Post.bind (r := fa env) q).imp fun d F1 H1 _ x1 q1 v1 b1 => by
    cases d with
    | dct t kvs =>
      have hd : ∃ a, v1 = .ref a ∧ IsD H1 a := by
        cases t with
        | false => obtain ⟨a, kk, rfl, h, r⟩ := b1.dK_ x1.le; exact ⟨a, rfl, .inl ⟨_, h⟩⟩
        | true => obtain ⟨a, kk, rfl, h, r⟩ := b1.dT_ x1.le; exact ⟨a, rfl, .inr ⟨_, h⟩⟩
      obtain ⟨u, rfl, hd⟩ := hd
      refine ⟨u, rfl, hd, B, F1, env, S.ext x1, (Post.bind (r := fb env) q1).imp fun d2 F2 H2 _ x2 q2 v2 b2 => ⟨B, F2, env, (S.ext x1).ext x2, (Post.bind (r := fc env) q2).imp fun d3 F3 H3 _ x3 q3 v3 r3 => ?_⟩⟩
      simp only [D.get2] at q3
      cases hq : d2.kf t with
      | none => rw [hq] at q3; exact q3.elim
      | some key =>
        rw [hq] at q3
        obtain ⟨u', ov, eu, g, _, r⟩ := dget_of x3.le ((b1.on x2.f x2.h.k.up).on x3.f x3.h.k.up) (b2.on x3.f x3.h.k.up) hq
        cases eu
        refine ⟨ov, g, (q3 : Post xa W σ F3 H3 (Res.ok ((kget key kvs).getD d3)) fun d F' H' => ∀ v, Rep X.K xa F' v d → Q v H') F3 H3 (.refl x3.le) _ ?_⟩
        cases z : kget key kvs with
        | none => rw [z] at r; rw [r]; exact r3
        | some d => rw [z] at r; obtain ⟨v, e, r⟩ := r; rw [e]; exact r
    | _ => exact q1.elim⟩⟩
/-- min(a, b) -/
theorem re_min2 (hc : X.calm = true) (hg : Gl X "min") (hm : X.mg "min" = none) (ha : RB X xa W a fa) (hb : RB X xa W b fb)
    (hs1 : starEach [a, b] X.env = (false, eval a X.env) :: starEach [b] X.env := by rfl) (hs2 : starEach [b] X.env = (false, eval b X.env) :: starEach [] X.env := by rfl) (hpl : (backTo pos (starEach [b] X.env)).any (·.1) = false := by rfl) :
    RE X xa W (.Call (.Name "min" p) [a, b] [] pos) (e2 D.min2 fa fb) :=
  ⟨peW (pe_callB (call_min2 hc) hg hm PyProof.Rows.boot_min (pa_cons ha.pe (pa_cons hb.pe pa_nil hs2) hs1) (by decide) (by decide) hs1 hpl) fun σ H Q ⟨B, F, env, S, q⟩ =>
    ⟨B, F, env, S, (Post.bind (r := fa env) q).imp fun d F1 H1 _ x1 q1 v1 b1 => ⟨B, F1, env, S.ext x1, (Post.bind (r := fb env) q1).imp fun d2 F2 H2 _ x2 q2 v2 b2 => by
      cases d with
      | int i =>
        cases d2 with
        | int j =>
          rw [b1.int_, b2.int_]
          exact ⟨i, j, rfl, (q2 : Post xa W σ F2 H2 (Res.ok (D.int _)) fun d F' H' => ∀ v, Rep X.K xa F' v d → Q v H') F2 H2 (.refl x2.le) _ (.int _)⟩
        | _ => exact q2.elim
      | _ => exact q2.elim⟩⟩⟩
end
end Tw

set_option autoImplicit false
set_option Elab.async false
set_option linter.all false
set_option maxRecDepth 100000
/-! Tw: dict(pairs) whose keys are tuples. -/
namespace Tw
open PySem L2
def mergeT (kvs : List (List Key × V)) (ks : List (List Key × Addr × V)) : List (List Key × V) := ks.foldl (fun acc q => putK acc q.1 q.2.2) kvs
section
variable {X : Cx}
theorem pairsT_of {pins : List (Addr × Obj)} {σ : Sl} {H : Hp} {s : Shared} (I : Inv X pins σ H s) : ∀ {ps : List Addr} {ks : List (List Key × Addr × V)}, Paired (fun p q => SqT X.K H p [V.ref q.2.1, q.2.2] ∧ H q.2.1 = some (.tup (q.1.map kV))) ps ks →
    ∃ prs : List (List Key × Addr × Value), prs.length = ps.length ∧ (∀ (j : Nat) (q : List Key × Addr × Value), prs[j]? = some q → ∃ b, ps[j]? = some b ∧ PyProof.Rows.IsTup s.heap b #[.ref q.2.1, q.2.2] ∧ H q.2.1 = some (.tup (q.1.map kV))) ∧
      ∀ {kvs : List (List Key × V)} {xs : List (List Key × Addr × Value)}, KT H kvs xs → KT H (mergeT kvs ks) (storedAllH xs prs)
  | _, _, .nil => ⟨[], rfl, fun j q e => by simp at e, fun r => r⟩
  | _, _, .cons (a := p) (b := kv) h t => by
    obtain ⟨prs, hl, hp, hk⟩ := pairsT_of I t
    obtain ⟨its, rv, ht, _⟩ := I.tuple h.1
    obtain ⟨u, y, ei, ru, ry⟩ := vals2 rv
    subst ei
    obtain rfl : u = Value.ref kv.2.1 := ru
    refine ⟨(kv.1, kv.2.1, y) :: prs, by rw [List.length_cons, List.length_cons, hl], fun j q e => ?_, fun {kvs xs} r => ?_⟩
    · cases j with
      | zero =>
        have e' : (kv.1, kv.2.1, y) = q := Option.some.inj e
        subst e'
        exact ⟨p, rfl, ht, h.2⟩
      | succ j =>
        obtain ⟨b, e1, e2, e3⟩ := hp j q (by simpa using e)
        exact ⟨b, by simpa using e1, e2, e3⟩
    · exact hk (r.put kv.1 h.2 ry)
theorem length_mergeT : ∀ (ks : List (List Key × Addr × V)) (kvs : List (List Key × V)), (mergeT kvs ks).length ≤ kvs.length + ks.length
  | [], _ => by simp [mergeT]
  | q :: ks, kvs => by
    have h1 := length_mergeT ks (putK kvs q.1 q.2.2)
    have h2 := length_putK kvs q.1 q.2.2
    unfold mergeT at h1 ⊢
    rw [List.foldl_cons, List.length_cons]
    omega
theorem call_dictT (hcalm : X.calm = true) (hu : X.A.units + 64 < cLine) : CallR X (.type "dict") (fun xs H Q => ∃ (a : Addr) (ps : List Addr) (ks : List (List Key × Addr × V)), xs = [.ref a] ∧ SqL X.K H a (ps.map V.ref) ∧
    Paired (fun p q => SqT X.K H p [V.ref q.2.1, q.2.2] ∧ H q.2.1 = some (.tup (q.1.map kV))) ps ks ∧ ∀ p, H p = none → Q (.ref p) (upd H p (.dT (mergeT [] ks)))) := by
  intro pins s σ H xs us Q I r q
  obtain ⟨a, ps, ks, rfl, hq, hp, q⟩ := q
  obtain ⟨u, rfl, rx⟩ := vals1 r
  cases rx
  obtain ⟨its, rv, pl, hz⟩ := I.list hq
  have ei := refs_at rv
  subst ei
  rw [List.length_map] at hz
  obtain ⟨prs, hl, hpr, hk⟩ := pairsT_of I hp
  obtain ⟨o, n, ho, hc, hd, hdat⟩ := pl
  have P := PairArg.list (prog := X.prog) (w := X.w) a (ps.map Value.ref).toArray (fun j => ps.getD j 0) (prs.map fun q => (Value.ref q.2.1, q.2.2))
  refine call_dict_pairsH (knd := tupleKind (mixKind X.prog X.w)) (ps := prs) P (I.ok.hd hcalm) ?_ ⟨⟨o, n, ho, hc, hd, hdat⟩, ?_, ?_⟩ ⟨by simp, fun i key v e => ?_⟩ (fun h' k x hx => ?_) (by rw [List.length_map, hl]; exact hz) fun h' tk hd' k => ?_
  · show X.A.in1.in1.units < cLine
    have : X.A.in1.in1.units = X.A.units + 2 := rfl
    omega
  · simp [hl]
  · intro j k v e
    rw [List.getElem?_map] at e
    cases e2 : prs[j]? with
    | none => rw [e2] at e; cases e
    | some q =>
      rw [e2] at e
      cases e
      obtain ⟨b, h1, h2, _⟩ := hpr j q e2
      have h3 : ps.getD j 0 = b := by rw [List.getD_eq_getElem?_getD, h1]; rfl
      show (ps.map Value.ref).toArray[j]? = some (.ref (ps.getD j 0)) ∧ PairAt s.heap (ps.getD j 0) _ _
      rw [h3]
      exact ⟨by simp [h1], .inl h2⟩
  · have e : (prs.map fun q => (Value.ref q.2.1, q.2.2))[i]? = some (key, v) := e
    rw [List.getElem?_map] at e
    cases e2 : prs[i]? with
    | none => rw [e2] at e; cases e
    | some q =>
      rw [e2] at e
      cases e
      exact ⟨q.1, q.2.1, rfl, rfl⟩
  · obtain ⟨j, hj⟩ := List.getElem?_of_mem hx
    obtain ⟨b, h1, h2, h3⟩ := hpr j x hj
    have hok : HOk X.prog X.w H s.heap := I.hok
    have lt : x.2.1 < s.heap.objs.size := hok.lt h3
    have kk := key_of hok h3
    obtain ⟨o1, it1, n1, a1, a2, a3, a4⟩ := kk
    exact ⟨o1, it1, n1, k _ _ (Nat.ne_of_lt (Heap.lt_size a1)) (by simp) a1, a2, a3, a4⟩
  · have hm : (s.heap.objs.size == sysModules) = false := beq_eq_false_iff_ne.mpr (Nat.ne_of_gt I.big)
    have hlen : (mergeT [] ks).length ≤ sizeLine := by
      have := length_mergeT ks []
      have := Paired.length hp
      simp at *
      omega
    obtain ⟨o', es, ep, g1, g2, g3, g4, _, g6⟩ := hd'
    refine ⟨.ref s.heap.objs.size, upd H s.heap.objs.size (.dT (mergeT [] ks)), I.laid (t' := tk) (fun b o e => k b o (by simp) e) (Nat.le_refl _) ⟨hlen, hm, _, (hk .nil).keeps fun b ys e => ?_, o', es, ep, g1, g2, g3, g4, g6⟩, rfl, q _ (I.hok.fresh (Nat.le_refl _))⟩
    rw [upd_ne (fun z => by rw [z, I.hok.fresh (Nat.le_refl _)] at e; cases e)]
    exact e
variable {xa : XA}
theorem pairsT_vals {F H : Hp} (fs : Same F H) : ∀ {xs : List V} {ds : List D} {ps : List (Ky × D)}, Reps X.K xa F xs ds → pairs? ds = some ps → (ps.all fun p => p.1.isTup) = true →
    ∃ (as : List Addr) (ks : List (List Key × Addr × V)), xs = as.map V.ref ∧ Paired (fun p q => SqT X.K H p [V.ref q.2.1, q.2.2] ∧ H q.2.1 = some (.tup (q.1.map kV))) as ks ∧ ∀ {kvs : List (List Key × V)} {ms : List (Ky × D)}, RepT X.K xa F kvs ms → RepT X.K xa F (mergeT kvs ks) (kmerge ms ps)
  | _, _, ps, .nil, e, _ => by simp [pairs?] at e; subst e; exact ⟨[], [], rfl, .nil, fun r => r⟩
  | _, _, ps, .cons (v := v) (vs := vs) (d := d) (ds := ds) r t, e, al => by
    unfold pairs? at e
    cases h1 : pair? d with
    | none => rw [h1] at e; cases e
    | some pr =>
      cases h2 : pairs? ds with
      | none => rw [h1, h2] at e; cases e
      | some rest =>
        rw [h1, h2] at e
        obtain rfl : pr :: rest = ps := Option.some.inj e
        simp only [List.all_cons, Bool.and_eq_true] at al
        obtain ⟨as, ks, l1, l2, l3⟩ := pairsT_vals fs t h2 al.2
        unfold pair? at h1
        split at h1
        · rename_i k w
          cases hk : k.key? with
          | none => rw [hk] at h1; cases h1
          | some y =>
            rw [hk] at h1
            obtain rfl : (y, w) = pr := Option.some.inj h1
            cases r with
            | @tup u us _ eu ru =>
              cases ru with
              | cons r1 t1 =>
                cases t1 with
                | cons r2 t2 =>
                  cases t2
                  rcases key_val (K := X.K) (xa := xa) (Same.refl F) (.inl r1) hk with ⟨k', hk', _⟩ | ⟨k', b, hk', rfl, eb⟩
                  · cases y <;> first | (simp [keyK] at hk'; done) | (simp [Ky.isTup] at al)
                  · exact ⟨u :: as, (k', b, _) :: ks, by rw [l1]; rfl, .cons ⟨SqT.of (fs _ _ eu), fs _ _ eb⟩ l2, fun {kvs ms} rr => l3 (repT_put hk' r2 rr)⟩
        · cases h1
theorem ok_dictT (hc : X.calm = true) (hu : X.A.units + 64 < cLine) : ∃ r, CallR X (.type "dict") r ∧ OkF X.K xa r D.dictT := by
  refine ⟨_, call_dictT hc hu, fun F H x d fs bx => ?_⟩
  cases d <;> try exact trivial
  rename_i ds
  obtain ⟨u, xs, rfl, ea, ra⟩ := bx.lst_ fs
  simp only [D.dictT]
  cases e : pairs? ds with
  | none => exact trivial
  | some ps =>
    simp only
    split
    · rename_i al
      obtain ⟨as, ks, l1, l2, l3⟩ := pairsT_vals fs ra e al
      intro Q q
      exact ⟨u, as, ks, rfl, by rw [← l1]; exact SqL.of ea, l2, fun p n => q F _ (.heap fs n) p n (fs.free n) ⟨_, upd_same, l3 .nil⟩⟩
    · exact trivial
end
end Tw

set_option autoImplicit false
set_option Elab.async false
set_option linter.all false
set_option maxRecDepth 100000
/-! Tw, set(xs) of a list: ints, and tuples of ints and texts. -/
namespace Tw.MS
open PySem PySem.Spec PyProof.Rows L2

/-! ### the call of set: what is left is the loop -/
/-- an empty set -/
abbrev set0 (w : World) : Obj := { cls := .type "set", dict := none, data := .set #[] 0 (.fresh 0 0 (!w.params.followText "set-order")) }
abbrev itr0 (l : Addr) : Obj := { cls := .type "list_iterator", data := .fields #[.ref l, .int 0 0] }
/-- the heap in which the loop begins: the set at size, the list's iterator behind it -/
abbrev begun (w : World) (h : Heap) (l : Addr) : Heap := (h.push (set0 w)).push (itr0 l)
section
variable {P : Program} {w : World} {A : Around} {E : Value → Shared → Prop} {s : Shared}
set_option maxHeartbeats 3200000 in
theorem set_call {l : Addr} {items : Array Value} {Q : Value → Shared → Prop} {Ok : Heap → Prop} (hl : s.heap.IsList l items)
    (loop : ∀ R : Result → Shared → Prop, (∀ (h' : Heap) (k : Nat), Ok h' → (∀ b o, s.heap.get? b = some o → h'.get? b = some o) → R (.ok (.ret .none)) { s with heap := h', toks := k }) →
      codeAny (model P w) A.in1.in1 (.builtin "set.update.loop" ⟨[.ref s.heap.objs.size, .ref (s.heap.objs.size + 1)], []⟩) R { s with heap := begun w s.heap l })
    (fin : ∀ (h' : Heap) (k : Nat), Ok h' → (∀ b o, s.heap.get? b = some o → h'.get? b = some o) → Q (.ref s.heap.objs.size) { s with heap := h', toks := k }) :
    wpAny (model P w) A (call (.type "set") [.ref l]) Q E s := by
  have ⟨m1, m2, m3⟩ := F.called_set.mro; have made_ := F.called_set.made; have sub_ := F.called_set.sub
  refine wpAny_call (codeAny_of_tree (show wpAny _ _ (callAny (.type "set") _) _ _ _ from ?_))
  refine wpAny_pure ⟨Code.quiet_builtin _ (by decide +kernel), codeAny_builtin F.entry_type_call (?_)⟩; rw [Around.under_plain (weight_type_call_type "set" [.ref l] []) rfl]
  have no_ := F.called_set.notType; have can_ := F.called_set.canCreate; have tc_ := F.typeCall_set_1 (.ref l)
  repeat (any_goals (first | assumption | wp_step))
  refine codeAny_mono (code_set_led1 (.ref l) (E := E) (Q₁ := fun x z => x = .ref s.heap.objs.size ∧ z = { s with heap := s.heap.push (set0 w) }) ⟨rfl, rfl⟩) fun r z hz => ?_
  match r, hz with
  | .error e, hz => exact hz
  | .ok (.ret x), hz =>
    obtain ⟨rfl, rfl⟩ := hz
    have atS : (s.heap.push (set0 w)).get? s.heap.objs.size = some (set0 w) := Heap.get?_push_size _ rfl
    have tyS : Shared.TypeIs { s with heap := s.heap.push (set0 w) } (.ref s.heap.objs.size) "set" := ⟨_, atS, rfl⟩
    have il_ := F.called_set.init.lookup; have ib_ := F.called_set.init.bind (.ref s.heap.objs.size)
    repeat (any_goals (first | assumption | wp_step))
    refine codeAny_mono (codeAny_call_builtin (R := wants (fun r z => r = .none ∧ ∃ h' k, z = { s with heap := h', toks := k } ∧ Ok h' ∧ ∀ b o, s.heap.get? b = some o → h'.get? b = some o) E) F.called_set.init.plain F.entry_set_init (check_set_init_1 tyS ?_)) fun r z hz => ?_
    · obtain ⟨⟨c1, c2, c3, c4⟩, at1, e1, n1, e2⟩ := hl
      simp only at e1 e2
      subst e1; subst e2
      have at2 : (s.heap.push (set0 w)).get? l = some { cls := .type "list", dict := c2, data := .seq items n1, slots := c4 } := Heap.get?_push_of_some _ at1
      have s1_ := F.sub_list_set; have s2_ := F.sub_list_frozenset
      have s3_ : (Value.type "list" == Value.type "dict") = false := by decide
      have isL : (s.heap.push (set0 w)).IsList l items := ⟨_, at2, rfl, n1, rfl⟩
      unfold Builtin.«set.__init__» noKeywords Builtin.Frozenset.updateFrom; generalize gi : pyIter = gi_
      wp_walk
      subst gi
      refine wpAny_pyIter_list isL (wpAny_bind (wpAny_runValue ?_))
      have sz : (s.heap.push (set0 w)).objs.size = s.heap.objs.size + 1 := Heap.size_push ..
      show codeAny (model P w) _ (.builtin "set.update.loop" ⟨[.ref s.heap.objs.size, .ref (s.heap.push (set0 w)).objs.size], []⟩) _ _
      rw [sz]
      refine loop _ fun h' k ok keep => ?_
      exact wpAny_pure (show wpAny _ _ (ret Value.none) _ _ _ from wpAny_pure ⟨rfl, h', k, rfl, ok, keep⟩)
    · match r, hz with
      | .error e, hz => exact hz
      | .ok (.ret r), hz =>
        obtain ⟨rfl, h', k, rfl, ok, keep⟩ := hz
        repeat (any_goals (first | assumption | wp_step))
        exact fin _ _ ok keep
theorem no_obj {h : Heap} {b : Addr} (hb : h.objs.size ≤ b) : h.get? b = none := by
  cases q : h.get? b with
  | none => rfl
  | some o => exact absurd (Nat.lt_of_lt_of_le (Heap.lt_size q) hb) (Nat.lt_irrefl _)
theorem notin2 {α : Type} {x a b : α} (h : x ≠ a) (g : x ≠ b) : x ∉ [a, b] := fun z => by
  rcases List.mem_cons.mp z with e | z
  · exact h e
  · exact g (List.mem_singleton.mp z)
/-- set(xs), ints -/
theorem set_ints {l : Addr} {items : Array Value} (ns : List Int) {Q : Value → Shared → Prop} (hh : A.handled = none) (hl : s.heap.IsList l items) (hit : IntsAre items.toList ns) (hb : ns.length + 1 < scanBound)
    (fin : ∀ (h' : Heap) (k c : Nat), SetR w h' s.heap.objs.size (fun j => decide (j ∈ ns)) c → c ≤ ns.length → (∀ b o, s.heap.get? b = some o → h'.get? b = some o) → Q (.ref s.heap.objs.size) { s with heap := h', toks := k }) :
    wpAny (model P w) A (call (.type "set") [.ref l]) Q E s := by
  have hn : items.size = ns.length := by
    have q := IntsAre.length hit
    rwa [Array.length_toList] at q
  refine set_call (Ok := fun h' => ∃ c, SetR w h' s.heap.objs.size (fun j => decide (j ∈ ns)) c ∧ c ≤ ns.length) hl (fun R hR => ?_) fun h' k ⟨c, a, b⟩ keep => fin h' k c a b keep
  have hlS : l < s.heap.objs.size := by obtain ⟨o, e, _⟩ := hl; exact Heap.lt_size e
  have hval : ∀ (i : Nat) (v : Value), items[i]? = some v → ∃ k t, ns[i]? = some k ∧ v = .int k t := fun i v hv => by
    have hi : i < ns.length := by rw [← hn]; exact (Array.getElem?_eq_some_iff.mp hv).1
    obtain ⟨t, e⟩ := PyProof.Rows.IntsAre.int_at hit i v ((Array.getElem?_toList ..).trans hv)
    exact ⟨ns[i], t, List.getElem?_eq_getElem hi, by rw [e, List.getD_eq_getElem?_getD, List.getElem?_eq_getElem hi]; rfl⟩
  have sz : (s.heap.push (set0 w)).objs.size = s.heap.objs.size + 1 := Heap.size_push ..
  refine set_update_ints ((Walks.list (A := A.in1.in1.in1) (by simp [hh]) (s.heap.objs.size + 1) l (Nat.ne_of_lt (Nat.lt_succ_of_lt hlS)) items).toS) s.heap.objs.size (notin2 (Nat.ne_of_lt (Nat.lt_succ_self _)) (Nat.ne_of_gt hlS)) ns hn hb hval (items.size - 0) 0 _ (by omega) (Nat.zero_le _)
    ⟨⟨_, by rw [← sz]; exact Heap.get?_push_size _ rfl, rfl, rfl⟩, (hl.push _).push _⟩ ⟨0, Nat.le_refl 0, setR_new_at (Heap.get?_push_of_some _ (Heap.get?_push_size _ rfl))⟩ fun z c mv hc R' => ?_
  obtain ⟨h', g2, d', k, os'⟩ := z
  have eg : g2 = s.gens := mv.gens
  have ed : d' = s.drawn := mv.drawn
  have eo : os' = s.os := mv.os
  subst eg; subst ed; subst eo
  refine hR h' k ⟨c, R', by omega⟩ fun b o e => ?_
  have hb0 : b < s.heap.objs.size := Heap.lt_size e
  exact mv.heap b o (notin2 (Nat.ne_of_lt hb0) (Nat.ne_of_lt (Nat.lt_succ_of_lt hb0))) (Heap.get?_push_of_some _ (Heap.get?_push_of_some _ e))
end
end Tw.MS

set_option autoImplicit false
set_option Elab.async false
set_option linter.all false
set_option maxRecDepth 100000
/-! Tw, the table of a set of tuples, whose items are ints and texts. -/
namespace Tw.MS
open PySem PySem.Spec PyProof.Rows L2
abbrev hK (P : Program) (w : World) (k : List Key) : Int := tupleKeyHash (mixKind P w) k
abbrev isK (P : Program) (w : World) (h : Heap) (k : List Key) (a : Addr) : Prop := IsTupleKey (mixKind P w) h k a
abbrev prb (m : Nat) (h : Int) (c : Nat) : SetTable.Probe := nth m (runAt m (SetTable.bits h % (m + 1)) (SetTable.bits h)) c
theorem prb_add (m : Nat) (h : Int) (c q : Nat) : nth m (prb m h c) q = prb m h (c + q) := (nth_add m c _ q).symm
theorem nth_dm (m : Nat) : ∀ (n : Nat) (p : SetTable.Probe), p.dummy = none → (nth m p n).dummy = none
  | 0, _, h => h
  | n + 1, p, h => nth_dm m n (adv m p) (by unfold adv; split <;> exact h)
section
variable {P : Program} {w : World} {A : Around} {E : Value → Shared → Prop} {s : Shared}
/-- an item: an int or a text -/
def Leaf (v : Value) : Prop := (∃ i t, v = .int i t) ∨ ∃ x t, v = .str x t
theorem leaves {k : List Key} {vs : List Value} (h : ItemsAre (mixKind P w) k vs) : ∀ v ∈ vs, Leaf v := by
  induction h with
  | nil => exact fun v z => nomatch z
  | cons q _ ih =>
    intro v z
    rcases List.mem_cons.mp z with e | z
    · subst e
      rcases keyIs_shape q with ⟨i, t, _, e⟩ | ⟨x, t, _, e⟩
      · exact .inl ⟨i, t, e⟩
      · exact .inr ⟨x, t, e⟩
    · exact ih v z
theorem leaf_q1 (n : Nat) {v : Value} (h : Leaf v) : ofAClassStatement n v = pure false := by
  rcases h with ⟨i, t, rfl⟩ | ⟨x, t, rfl⟩ <;> cases n <;> rfl
theorem leaf_q2 (n : Nat) {v : Value} (h : Leaf v) : ∃ b, hashByValue n v = pure b := by
  rcases h with ⟨i, t, rfl⟩ | ⟨x, t, rfl⟩ <;> exact ⟨_, hashByValue_scannable n rfl⟩
theorem ask_class {k : List Key} {b : Addr} {Q : Bool → Shared → Prop} (hk : isK P w s.heap k b) (h : Q false s) : wpAny (model P w) A (ofAClassStatement 8 (.ref b)) Q E s := by
  have ty := hk.typeIs
  obtain ⟨o, its, n, at_, _, dat, hi⟩ := hk
  unfold ofAClassStatement
  refine wpAny_bind (wpAny_typeOf ty ?_)
  dsimp only
  simp only [show (("tuple" : String) == "tuple") = true by decide, if_true, Bool.not_true, Bool.false_eq_true, if_false]
  try (refine wpAny_bind (wpAny_pure ?_); simp only [Bool.not_true, Bool.false_eq_true, if_false])
  refine wpAny_bind (show wpAny _ _ (seqItems? (.ref b)) _ _ s from wpAny_seqItems at_ dat ?_)
  refine wpAny_bind (show wpAny _ _ (forIn its _ _) _ _ s from ?_)
  rw [← Array.forIn_toList]
  refine wpAny_forIn_list _ (fun rest r z => r.1 = none ∧ z = s ∧ ∀ v ∈ rest, Leaf v) _ (fun v rest r z ⟨e1, e2, e3⟩ => ?_) (fun ⟨r1, r2⟩ z ⟨e1, e2, _⟩ => ?_) _ _ ⟨rfl, rfl, leaves hi⟩
  · subst e2
    rw [leaf_q1 _ (e3 v List.mem_cons_self)]
    refine wpAny_bind (wpAny_pure (show wpAny _ _ (if false = true then _ else _) _ _ _ from ?_))
    exact wpAny_pure ⟨rfl, rfl, fun u m => e3 u (List.mem_cons_of_mem _ m)⟩
  · subst e2
    simp only at e1
    subst e1
    exact wpAny_pure h
theorem ask_hash {k : List Key} {b : Addr} {Q : Bool → Shared → Prop} (hk : isK P w s.heap k b) (h : ∀ v, Q v s) : wpAny (model P w) A (hashByValue 8 (.ref b)) Q E s := by
  have ty := hk.typeIs
  obtain ⟨o, its, n, at_, _, dat, hi⟩ := hk
  unfold hashByValue
  refine wpAny_bind (wpAny_specialOf ty F.slot_tuple_hash.lookup (wpAny_bind (show wpAny _ _ (seqItems? (.ref b)) _ _ s from wpAny_seqItems at_ dat ?_)))
  refine wpAny_bind (show wpAny _ _ (forIn its _ _) _ _ s from ?_)
  rw [← Array.forIn_toList]
  refine wpAny_forIn_list _ (fun rest r z => r.1 = none ∧ z = s ∧ ∀ v ∈ rest, Leaf v) _ (fun v rest r z ⟨e1, e2, e3⟩ => ?_) (fun ⟨r1, r2⟩ z ⟨e1, e2, _⟩ => ?_) _ _ ⟨rfl, rfl, leaves hi⟩
  · subst e2
    obtain ⟨c, ec⟩ := leaf_q2 7 (e3 v List.mem_cons_self)
    rw [ec]
    refine wpAny_bind (wpAny_pure ?_)
    cases c with
    | true =>
      refine (show wpAny _ _ (if (!true) = true then _ else _) _ _ _ from ?_)
      exact wpAny_pure ⟨rfl, rfl, fun u m => e3 u (List.mem_cons_of_mem _ m)⟩
    | false =>
      refine (show wpAny _ _ (if (!false) = true then _ else _) _ _ _ from ?_)
      exact wpAny_pure (wpAny_pure (h false))
  · subst e2
    simp only at e1
    subst e1
    exact wpAny_pure (h true)
/-- searching among such tuples shows nothing of the table -/
theorem ask_seen {k : List Key} {b : Addr} {Q : Bool → Shared → Prop} (hk : isK P w s.heap k b) {ys : List Value} (hy : ∀ y ∈ ys, ∃ q c, y = Value.ref c ∧ isK P w s.heap q c) (h : Q false s) : wpAny (model P w) A (searchCouldBeSeen (.ref b) ys) Q E s := by
  unfold searchCouldBeSeen
  refine wpAny_bind (wpAny_forIn_list _ (fun rest r z => r.1 = none ∧ z = s ∧ ∀ y ∈ rest, ∃ q c, y = Value.ref c ∧ isK P w s.heap q c) _ (fun v rest r z ⟨e1, e2, e3⟩ => ?_) (fun ⟨r1, r2⟩ z ⟨e1, e2, _⟩ => ?_) _ _ ⟨rfl, rfl, hy⟩)
  · subst e2
    obtain ⟨q, c, rfl, hc⟩ := e3 v List.mem_cons_self
    have e4 := fun u (m : u ∈ rest) => e3 u (List.mem_cons_of_mem _ m)
    dsimp only
    by_cases hv : (b == c || (carriedByValue (.ref b) && carriedByValue (.ref c))) = true
    · exact wp_if_pos hv (wpAny_pure ⟨rfl, rfl, e4⟩)
    · refine wp_if_neg hv (wpAny_bind (wpAny_eqIsQuiet_tuple hk ?_))
      simp only [Bool.not_true, Bool.false_eq_true, if_false]; refine wpAny_bind (wpAny_eqIsQuiet_tuple hc ?_)
      simp only [Bool.not_true, Bool.false_eq_true, if_false]; refine wpAny_bind (ask_class hk ?_)
      simp only [Bool.false_eq_true, if_false]; refine wpAny_bind (ask_class hc ?_)
      simp only [Bool.false_eq_true, if_false]; exact wpAny_pure ⟨rfl, rfl, e4⟩
  · subst e2
    simp only at e1
    subst e1
    exact wpAny_pure h

/-! ### the set -/
def rowK (P : Program) (w : World) (L : List (Addr × List Key)) : List (Int × Value) := L.map fun p => (hK P w p.2, Value.ref p.1)
abbrev hsK (P : Program) (w : World) (L : List (Addr × List Key)) : List Int := L.map fun p => hK P w p.2
abbrev ksK (L : List (Addr × List Key)) : List (List Key) := L.map (·.2)
structure Tb (P : Program) (w : World) (h : Heap) (a : Addr) (L : List (Addr × List Key)) (es : Array (Int × Value)) (ep : Nat) (t : SetTable) : Prop where
  ob : ∃ o, h.get? a = some o ∧ o.ExactSet ∧ o.data = .set es ep t
  rows : es.toList = rowK P w L
  tab : TabOk t (hsK P w L)
  nd : (ksK L).Nodup
  tup : ∀ p ∈ L, isK P w h p.2 p.1
  led : w.params.followText "set-order" = true ∨ t.led = true
  room : L.length * 5 < t.mask * 3
  few : L.length < 64
theorem rowK_size {es : Array (Int × Value)} {L : List (Addr × List Key)} (h : es.toList = rowK P w L) : es.size = L.length := by
  have q := congrArg List.length h
  unfold rowK at q
  rwa [Array.length_toList, List.length_map] at q
theorem fits_of {t : SetTable} {n : Nat} (h1 : t.place.size = n) (h2 : t.dummies = #[]) (h3 : n ≤ t.mask) : t.fits n = true := by
  unfold SetTable.fits SetTable.fill
  rw [h2, Bool.and_eq_true, beq_iff_eq, decide_eq_true_eq]
  exact ⟨h1, by show t.place.size + 0 ≤ t.mask; omega⟩
variable {a : Addr} {L : List (Addr × List Key)} {es : Array (Int × Value)} {ep : Nat} {t : SetTable}
theorem Tb.place (R : Tb P w s.heap a L es ep t) : t.place.size = L.length := by
  have q := R.tab.sz
  rwa [List.length_map] at q
theorem Tb.fits (R : Tb P w s.heap a L es ep t) : t.fits es.size = true := by
  have := R.room
  exact fits_of (by rw [R.place, rowK_size R.rows]) R.tab.dm (by rw [rowK_size R.rows]; omega)
theorem Tb.entry (R : Tb P w s.heap a L es ep t) {i : Nat} {p : Addr × List Key} (h : L[i]? = some p) : es[i]? = some (hK P w p.2, Value.ref p.1) := by
  rw [← Array.getElem?_toList, R.rows, rowK, List.getElem?_map, h]
  rfl
theorem Tb.hashAt (R : Tb P w s.heap a L es ep t) {i : Nat} {p : Addr × List Key} (h : L[i]? = some p) : (es[i]?.map (·.1)).getD 0 = hK P w p.2 := by
  rw [R.entry h]
  rfl
/-- the search, from the c-th step of the way on -/
theorem seek (R : Tb P w s.heap a L es ep t) {x : Addr} {k : List Key} (hx : isK P w s.heap k x) (hu : A.units < cLine) {K : Nat} (hf : K < 10 * SetTable.turns t.mask) (hK1 : way t.mask (hK P w k) K ∉ t.place.toList) (hK2 : ∀ c, c < K → way t.mask (hK P w k) c ∈ t.place.toList) {Q : SetFound → Shared → Prop}
    (yes : k ∈ ksK L → Q (.there none) s) (no : k ∉ ksK L → Q (.free (way t.mask (hK P w k) K) false) s) :
    ∀ (f c : Nat) (st : Option SetTable.Probe), st.getD (t.probeStart (hK P w k)) = prb t.mask (hK P w k) c → c ≤ K → K - c < f →
      (∀ (i : Nat) p, L[i]? = some p → p.2 = k → ∃ c', c ≤ c' ∧ c' < K ∧ t.place.toList[i]? = some (way t.mask (hK P w k) c')) → wpAny (model P w) A (setSearchFrom a (.ref x) (hK P w k) true f st) Q E s
  | 0, c, _, _, _, hf, _ => absurd hf (Nat.not_lt_zero _)
  | f + 1, c, st, hst, hc, hff, ahead => by
    obtain ⟨o, at_, ex, dat⟩ := R.ob
    have gw : ¬ t.gaveWay = true := by
      unfold SetTable.gaveWay
      rw [mask_odd R.tab.mok]
      decide
    rw [setSearchFrom_succ]
    refine wpAny_bind (wpAny_setState_of at_ dat R.fits (?_)); dsimp only
    refine wp_if_neg gw (?_); try refine wpAny_bind (wpAny_pure (?_))
    have e1 : ∀ q, (nth t.mask (prb t.mask (hK P w k) c) q).j = way t.mask (hK P w k) (c + q) := fun q => congrArg SetTable.Probe.j (prb_add ..)
    have met := go_spec t R.tab.ris R.tab.dm (fun i => (es[i]?.map (·.1)).getD 0) (hK P w k) (10 * SetTable.turns t.mask) (K - c) (prb t.mask (hK P w k) c) (nth_dm _ _ _ rfl) (by omega)
      (fun q hq => by rw [e1]; exact hK2 (c + q) (by omega)) (by rw [e1, show c + (K - c) = K by omega]; exact hK1)
    rcases met with ⟨q, i, hq, hi, hh, before, pr⟩ | ⟨before, pr⟩
    · have pr' : t.probe (fun i => (es[i]?.map (·.1)).getD 0) (hK P w k) (st.getD (t.probeStart (hK P w k))) = some (.candidate (way t.mask (hK P w k) (c + q)) i (prb t.mask (hK P w k) (c + (q + 1)))) := by
        rw [hst, ← e1, ← prb_add]
        exact pr
      rw [pr']
      dsimp only
      rw [e1] at hi
      have il : i < L.length := by
        have z := (List.getElem?_eq_some_iff.mp hi).1
        rw [Array.length_toList, R.place] at z
        exact z
      obtain ⟨p, hp⟩ : ∃ p, L[i]? = some p := ⟨_, List.getElem?_eq_getElem il⟩
      have pm : p ∈ L := List.mem_of_getElem? hp
      have live : t.slot (way t.mask (hK P w k) (c + q)) = .live i := slot_live R.tab.ris hi
      have go : wpAny (model P w) A (searchRest a (.ref x) (hK P w k) true f es t (way t.mask (hK P w k) (c + q)) i (prb t.mask (hK P w k) (c + (q + 1)))) Q E s := by
        unfold searchRest; rw [R.entry hp]; dsimp only
        refine wpAny_bind (wpAny_holding (wpAny_eqBool_tuple hu (R.tup p pm) hx (wpAny_bind (wpAny_setState_of at_ dat R.fits ?_))))
        dsimp only
        by_cases same : p.2 = k
        · exact wp_if_pos (by simp [same]) (wpAny_pure (yes (List.mem_map.mpr ⟨p, pm, same⟩)))
        · refine wp_if_neg (by simp [same]) (?_); try refine wpAny_bind (wpAny_pure (?_))
          rw [sameMem]; dsimp only
          simp only [if_true, live, R.entry hp]
          refine wpAny_bind (wpAny_isSame_ref_self (wpAny_bind (wpAny_pure (?_)))); simp only [if_true]
          refine wp_if_neg (by simp [same]) (seek R hx hu hf hK1 hK2 yes no f (c + (q + 1)) _ rfl (by omega) (by omega) fun i0 p0 h0 k0 => ?_)
          obtain ⟨c', g1, g2, g3⟩ := ahead i0 p0 h0 k0
          refine ⟨c', Decidable.byContradiction fun le => ?_, g2, g3⟩
          rcases Nat.lt_or_ge c' (c + q) with z | z
          · exact before (c' - c) i0 (by omega) (by rw [e1, show c + (c' - c) = c' by omega]; exact g3) ((R.hashAt h0).trans (congrArg (hK P w) k0))
          · have ec : c' = c + q := by omega
            subst ec
            have z2 := (slot_live R.tab.ris g3).symm.trans live
            injection z2 with z2
            subst z2
            rw [hp] at h0
            cases h0
            exact same k0
      by_cases hl : t.led = true
      · refine wp_if_neg (by simp [hl]) (?_); try refine wpAny_bind (wpAny_pure (?_))
        exact go
      · refine wp_if_pos (by simp [hl]) (wpAny_bind (ask_seen hx (fun y hy => ?_) (?_)))
        · obtain ⟨e, he, rfl⟩ := List.mem_map.mp hy
          have me : e ∈ rowK P w L := by
            rw [← R.rows]
            have := (by simpa using he : e ∈ es ∧ e.1 = hK P w k)
            simpa using this.1
          obtain ⟨p2, m2, rfl⟩ := List.mem_map.mp me
          exact ⟨p2.2, p2.1, rfl, R.tup p2 m2⟩
        · refine wp_if_neg (by decide) (?_); try refine wpAny_bind (wpAny_pure (?_))
          exact go
    · have pr' : t.probe (fun i => (es[i]?.map (·.1)).getD 0) (hK P w k) (st.getD (t.probeStart (hK P w k))) = some (.empty (way t.mask (hK P w k) K) none) := by
        rw [hst, show way t.mask (hK P w k) K = (nth t.mask (prb t.mask (hK P w k) c) (K - c)).j by rw [e1, show c + (K - c) = K by omega]]
        exact pr
      rw [pr']
      dsimp only
      refine wpAny_pure (no fun hm => ?_)
      obtain ⟨p0, m0, k0⟩ := List.mem_map.mp hm
      obtain ⟨i0, l0, e0⟩ := List.getElem_of_mem m0
      have h0 : L[i0]? = some p0 := by rw [List.getElem?_eq_getElem l0, e0]
      obtain ⟨c', g1, g2, g3⟩ := ahead i0 p0 h0 k0
      exact before (c' - c) i0 (by omega) (by rw [e1, show c + (c' - c) = c' by omega]; exact g3) ((R.hashAt h0).trans (congrArg (hK P w) k0))
theorem seek_all (R : Tb P w s.heap a L es ep t) {x : Addr} {k : List Key} (hx : isK P w s.heap k x) (hu : A.units < cLine) {Q : SetFound → Shared → Prop} (yes : k ∈ ksK L → Q (.there none) s)
    (no : ∀ K, k ∉ ksK L → way t.mask (hK P w k) K ∉ t.place.toList → (∀ c, c < K → way t.mask (hK P w k) c ∈ t.place.toList) → Q (.free (way t.mask (hK P w k) K) false) s) : wpAny (model P w) A (setSearch a (.ref x) (hK P w k) true) Q E s := by
  have room := R.room
  obtain ⟨K, k1, k2, k3⟩ := R.tab.first (by rw [List.length_map]; omega) (hK P w k)
  have few : K < 100000 := by
    have : 10 * SetTable.turns t.mask ≤ 1420 := by unfold SetTable.turns; rcases R.tab.mok with e | e | e <;> omega
    omega
  unfold setSearch
  refine seek R hx hu k1 k2 k3 yes (fun z => no K z k2 k3) 100000 0 none rfl (Nat.zero_le _) (by omega) fun i p hp hk => ?_
  have il : i < t.place.toList.length := by
    rw [Array.length_toList, R.place]
    exact (List.getElem?_eq_some_iff.mp hp).1
  obtain ⟨c, c1, c2⟩ := R.tab.before k2 (i := i) (by rw [List.getElem?_map, hp, ← hk]; rfl) (List.getElem?_eq_getElem il)
  exact ⟨c, Nat.zero_le _, c1, by rw [List.getElem?_eq_getElem il, c2]⟩

/-! ### adding -/
theorem isK_same {h h' : Heap} {k : List Key} {b : Addr} {o : Obj} (hb : isK P w h k b) (at_ : h.get? a = some o) (dat : o.data = .set es ep t) (hs : Heap.SameBut a h h') : isK P w h' k b := by
  obtain ⟨o', its, n, q1, q2, q3, q4⟩ := hb
  refine ⟨o', its, n, (hs.2 b fun z => ?_).trans q1, q2, q3, q4⟩
  rw [z, at_] at q1
  cases q1
  rw [dat] at q3
  cases q3
theorem isK_keep {h h' : Heap} {k : List Key} {b : Addr} (x : isK P w h k b) (kp : ∀ c o, h.get? c = some o → h'.get? c = some o) : isK P w h' k b := let ⟨o, its, n, e, r⟩ := x; ⟨o, its, n, kp b o e, r⟩
theorem pick_rows (order : List Nat) (hr : es.toList = rowK P w L) (hl : ∀ i ∈ order, i < L.length) : ∃ L2, order.filterMap (fun i => es[i]?) = rowK P w L2 ∧ L2 = order.filterMap (fun i => L[i]?) ∧ hsK P w L2 = order.map fun i => (es.map (·.1)).getD i 0 := by
  induction order with
  | nil => exact ⟨[], rfl, rfl, rfl⟩
  | cons i r ih =>
    obtain ⟨L2, q1, q2, q3⟩ := ih fun j m => hl j (List.mem_cons_of_mem _ m)
    have hi := hl i List.mem_cons_self
    have en : es[i]? = some (hK P w (L[i]).2, Value.ref (L[i]).1) := by
      rw [← Array.getElem?_toList, hr, rowK, List.getElem?_map, List.getElem?_eq_getElem hi]
      rfl
    refine ⟨L[i] :: L2, ?_, ?_, ?_⟩
    · rw [List.filterMap_cons_some en, q1]; rfl
    · rw [List.filterMap_cons_some (List.getElem?_eq_getElem hi), q2]
    · have e5 : (es.map (·.1))[i]? = some (hK P w (L[i]).2) := by rw [Array.getElem?_map, en]; rfl
      rw [hsK, List.map_cons, List.map_cons, ← q3]
      simp [Array.getD_eq_getD_getElem?, e5]
theorem all_picked {α : Type} (l : List α) : (List.range l.length).filterMap (fun i => l[i]?) = l := by
  have h : ∀ n, n ≤ l.length → (List.range n).filterMap (fun i => l[i]?) = l.take n := by
    intro n
    induction n with
    | zero => intro _; rfl
    | succ n ih =>
      intro hn
      rw [List.range_succ, List.filterMap_append, ih (by omega), List.take_succ, List.getElem?_eq_getElem hn, List.filterMap_cons_some (List.getElem?_eq_getElem hn)]
      rfl
  rw [h _ (Nat.le_refl _), List.take_length]
/-- what is asked of a table that is to be laid anew -/
structure Pre (P : Program) (w : World) (h : Heap) (a : Addr) (L : List (Addr × List Key)) (es : Array (Int × Value)) (ep : Nat) (t : SetTable) : Prop where
  ob : ∃ o, h.get? a = some o ∧ o.ExactSet ∧ o.data = .set es ep t
  rows : es.toList = rowK P w L
  sz : t.place.size = L.length
  dm : t.dummies = #[]
  fl : L.length ≤ t.mask
  nd : (ksK L).Nodup
  tup : ∀ p ∈ L, isK P w h p.2 p.1
  led : w.params.followText "set-order" = true ∨ t.led = true
  few : L.length < 64
theorem relay (R : Pre P w s.heap a L es ep t) {wanted M : Nat} (hw : SetTable.sizeAbove wanted - 1 = M) (hM : MaskOk M) (hw2 : SetTable.sizeAbove wanted ≤ 128) (hn : L.length * 5 < M * 3) {Q : Unit → Shared → Prop}
    (fin : ∀ h' L' es' ep' t', Heap.SameBut a s.heap h' → Tb P w h' a L' es' ep' t' → L'.Perm L → Q () { s with heap := h' }) : wpAny (model P w) A (setRelay a wanted) Q E s := by
  have sl := rowK_size R.rows
  obtain ⟨o, at_, ex, dat⟩ := R.ob
  obtain ⟨t', order, e, hp, T, em, el, ep', ed⟩ := relaid_ok t (hs := es.map (·.1)) (wanted := wanted) hw hM (by rw [Array.size_map, sl]; omega)
  rw [Array.size_map, sl] at hp
  obtain ⟨L2, r1, r2, r3⟩ := pick_rows (P := P) (w := w) order.toList R.rows fun i m => List.mem_range.mp (hp.mem_iff.mp m)
  have r1' : (order.filterMap (es[·]?)).toList = rowK P w L2 := by first | (rw [Array.toList_filterMap]; exact r1) | simpa using r1
  have pm : L2.Perm L := by
    rw [r2]
    have := hp.filterMap (fun i => L[i]?)
    rwa [all_picked] at this
  rw [← r3] at T
  have s2 : (order.filterMap (es[·]?)).size = es.size := by rw [rowK_size r1', pm.length_eq, sl]
  rw [setRelay_eq]
  refine wpAny_bind (wpAny_setState_of at_ dat (fits_of (by rw [R.sz, sl]) R.dm (by rw [sl]; exact R.fl)) (?_)); dsimp only
  refine wp_if_neg (by rw [sizeLine_eq]; omega) (?_); try refine wpAny_bind (wpAny_pure (?_))
  rw [e]; dsimp only
  refine wpAny_bind (wp_if_neg (by rw [s2]; simp) (?_)); try refine wpAny_bind (wpAny_pure (?_))
  refine wpAny_pure (?_); dsimp only
  refine wpAny_storeSet_of at_ dat (?_) (by rw [s2, sl, sizeLine_eq]; have := R.few; omega)
  have sb : Heap.SameBut a s.heap (s.heap.update a (Obj.putSet (order.filterMap (es[·]?)) t')) := Heap.SameBut.update ..
  exact fin _ L2 _ (ep + 1) t' sb ⟨⟨_, store_at at_ dat, ⟨ex.1, ex.2.1, ex.2.2⟩, rfl⟩, r1', T, (pm.map (·.2)).nodup_iff.mpr R.nd, fun p m => isK_same (R.tup p (pm.mem_iff.mp m)) at_ dat sb, by rw [el]; exact R.led, by rw [pm.length_eq, em]; exact hn, by rw [pm.length_eq]; exact R.few⟩ pm
theorem put_rows (p : Nat) (x : Addr) (k : List Key) (hr : es.toList = rowK P w L) : (SetTable.insertAt es p (hK P w k, Value.ref x)).toList = rowK P w (L.take p ++ (x, k) :: L.drop p) := by
  rw [SetTable.toList_insertAt, hr, rowK, rowK, List.map_append, List.map_cons, List.map_take, List.map_drop]
/-- one more -/
theorem add_one (R : Tb P w s.heap a L es ep t) {x : Addr} {k : List Key} (hx : isK P w s.heap k x) (hu : A.units < cLine) (few : L.length + 1 < 64) {Q : Bool → Shared → Prop}
    (fin : ∀ b h' L' es' ep' t', Heap.SameBut a s.heap h' → Tb P w h' a L' es' ep' t' → (k ∈ ksK L → L' = L) → (k ∉ ksK L → L'.Perm ((x, k) :: L)) → Q b { s with heap := h' }) : wpAny (model P w) A (setAddHashed a (.ref x) (hK P w k)) Q E s := by
  obtain ⟨o, at_, ex, dat⟩ := R.ob
  have sl := rowK_size R.rows
  have room := R.room
  unfold setAddHashed
  refine wpAny_holding (?_); rw [show (100000 : Nat) = 99999 + 1 from rfl, setAddHashedIn_succ]
  refine wpAny_bind (wpAny_setState_of at_ dat R.fits (?_)); dsimp only
  refine wp_if_neg (by simp [byScan, Value.scannable]) (?_); try refine wpAny_bind (wpAny_pure (?_))
  refine wpAny_bind (seek_all R hx hu (fun hm => ?_) fun K hm k2 k3 => ?_)
  · exact wpAny_pure (fin false s.heap L es ep t (Heap.SameBut.refl a s.heap) R (fun _ => rfl) fun z => absurd hm z)
  dsimp only
  refine wpAny_bind (wpAny_setState_of at_ dat R.fits (?_)); dsimp only
  obtain ⟨q1, q2, q3, q4, q5, q6, q7, q8, q9⟩ := R.tab.put k2 k3
  generalize ept : t.put (way t.mask (hK P w k) K) = pt at q1 q3 q4 q5 q9 ⊢
  obtain ⟨t1, p⟩ := pt
  dsimp only at q1 q3 q4 q5 q9 ⊢
  subst q1
  clear q6 q7 q8
  suffices behind : ∀ bv : Bool, wpAny (model P w) A (do
      storeSet a (SetTable.insertAt es (SetTable.below t.place (way t.mask (hK P w k) K)) (hK P w k, Value.ref x)) (if bv = true then t1 else { t1 with plain := false })
      if (!false && (if bv = true then t1 else { t1 with plain := false }).tooFull) = true then (do setRelay a (SetTable.grown (es.size + 1)); pure true) else pure true) Q E s by
    by_cases hp : t1.plain = true
    · exact wp_if_pos hp (wpAny_bind (ask_hash hx fun bv => behind bv))
    · exact wp_if_neg hp (wpAny_bind (wpAny_pure (behind true)))
  intro bv
  obtain ⟨t2, et2, em2, el2, ef2, ed2, ep2, T2⟩ : ∃ t2, (if bv = true then t1 else { t1 with plain := false }) = t2 ∧ t2.mask = t1.mask ∧ t2.led = t1.led ∧ t2.fill = t1.fill ∧ t2.dummies = t1.dummies ∧ t2.place = t1.place ∧ ∀ hs, TabOk t1 hs → TabOk t2 hs := by
    cases bv with
    | true => exact ⟨t1, rfl, rfl, rfl, rfl, rfl, rfl, fun _ h => h⟩
    | false => exact ⟨_, rfl, rfl, rfl, rfl, rfl, rfl, fun _ T => ⟨T.ris, T.dm, T.sz, T.mok, T.bd, T.reach⟩⟩
  rw [et2]
  have q3 := T2 _ q3
  rw [← em2] at q4
  rw [← el2] at q5
  rw [← ef2] at q9
  clear et2 T2 em2 el2 ef2 ed2 ep2
  skip
  have rows1 := put_rows (SetTable.below t.place (way t.mask (hK P w k) K)) x k R.rows
  generalize SetTable.below t.place (way t.mask (hK P w k) K) = p at q2 q3 rows1 ⊢
  have pm : (L.take p ++ (x, k) :: L.drop p).Perm ((x, k) :: L) := put_perm L p (x, k)
  have hh : hsK P w (L.take p ++ (x, k) :: L.drop p) = (hsK P w L).take p ++ hK P w k :: (hsK P w L).drop p := by rw [hsK, List.map_append, List.map_cons, List.map_take, List.map_drop]
  rw [← hh] at q3
  have es1 := rowK_size rows1
  generalize SetTable.insertAt es p (hK P w k, Value.ref x) = es1_ at rows1 es1 ⊢
  generalize L.take p ++ (x, k) :: L.drop p = L1 at pm q3 rows1 es1
  have len1 : L1.length = L.length + 1 := pm.length_eq
  have nd1 : (ksK L1).Nodup := (pm.map (·.2)).nodup_iff.mpr (List.nodup_cons.mpr ⟨hm, R.nd⟩)
  refine wpAny_bind (wpAny_storeSet_of at_ dat (?_) (by rw [es1, len1, sizeLine_eq]; omega))
  have sb : Heap.SameBut a s.heap (s.heap.update a (Obj.putSet es1_ t2)) := Heap.SameBut.update ..
  have at1 := store_at (es' := es1_) (t' := t2) at_ dat
  generalize s.heap.update a (Obj.putSet es1_ t2) = h1 at sb at1 ⊢
  have tup1 : ∀ p ∈ L1, isK P w h1 p.2 p.1 := fun p m => by
    rcases List.mem_cons.mp (pm.mem_iff.mp m) with e | m
    · subst e; exact isK_same hx at_ dat sb
    · exact isK_same (R.tup p m) at_ dat sb
  have ld1 : w.params.followText "set-order" = true ∨ t2.led = true := by rw [q5]; exact R.led
  have full : t2.tooFull = decide ((L.length + 1) * 5 ≥ t2.mask * 3) := by unfold SetTable.tooFull; rw [q9, List.length_map]
  by_cases hf : t2.tooFull = true
  · first
      | (refine wpAny_bind (?_); refine wp_if_pos (by simp [hf]) (?_))
      | refine wp_if_pos (by simp [hf]) (wpAny_bind (?_))
    rw [full, decide_eq_true_eq, q4] at hf
    have two : (t.mask = 7 ∧ L.length = 4) ∨ (t.mask = 31 ∧ L.length = 18) := by
      rcases R.tab.mok with e | e | e <;> rw [e] at hf room
      · exact .inl ⟨e, by omega⟩
      · exact .inr ⟨e, by omega⟩
      · omega
    have sz1 : t2.place.size = L1.length := by
      have z := q3.sz
      rwa [List.length_map] at z
    have pre : Pre P w h1 a L1 es1_ (ep + 1) t2 := ⟨⟨_, at1, ⟨ex.1, ex.2.1, ex.2.2⟩, rfl⟩, rows1, sz1, q3.dm, by rw [len1, q4]; rcases two with ⟨e, e2⟩ | ⟨e, e2⟩ <;> omega, nd1, tup1, ld1, by omega⟩
    have again : ∀ M, SetTable.sizeAbove (SetTable.grown (L.length + 1)) - 1 = M → MaskOk M → SetTable.sizeAbove (SetTable.grown (L.length + 1)) ≤ 128 → (L.length + 1) * 5 < M * 3 →
        wpAny (model P w) A (setRelay a (SetTable.grown (L.length + 1))) (fun _ z => wpAny (model P w) A (pure true) Q E z) E { s with heap := h1 } := fun M m1 m2 m3 m4 =>
      relay (s := { s with heap := h1 }) pre m1 m2 m3 (by rw [len1]; exact m4) fun h2 L2 es2 ep2 t3 sb2 R2 pm2 => wpAny_pure (fin true h2 L2 es2 ep2 t3 (sb.trans sb2) R2 (fun z => absurd z hm) fun _ => pm2.trans pm)
    rw [sl]
    rcases two with ⟨_, e2⟩ | ⟨_, e2⟩
    · exact again 31 (by rw [e2, size_20]) (.inr (.inl rfl)) (by rw [e2, size_20]; decide) (by omega)
    · exact again 127 (by rw [e2, size_76]) (.inr (.inr rfl)) (by rw [e2, size_76]; decide) (by omega)
  · have done : ∀ b, Q b { s with heap := h1 } := fun b => fin b h1 L1 es1_ (ep + 1) t2 sb ⟨⟨_, at1, ⟨ex.1, ex.2.1, ex.2.2⟩, rfl⟩, rows1, q3, nd1, tup1, ld1, by rw [full, decide_eq_true_eq] at hf; rw [len1]; omega, by omega⟩ (fun z => absurd z hm) fun _ => pm
    first
      | exact wp_if_neg (by simp [hf]) (wpAny_pure (done true))
      | exact wpAny_bind (wp_if_neg (by simp [hf]) (wpAny_pure (wpAny_pure (done true))))
end
end Tw.MS

set_option autoImplicit false
/-! Tw, the order of data. -/
namespace Tw
theorem lexI_self : ∀ a : List Int, lexI a a = false
  | [] => rfl
  | x :: a => by simp [lexI, lexI_self a]
theorem lexI_asym : ∀ a b : List Int, lexI a b = true → lexI b a = false
  | [], [], h => by simp [lexI] at h
  | [], _ :: _, _ => rfl
  | _ :: _, [], h => by simp [lexI] at h
  | x :: a, y :: b, h => by
    unfold lexI at h ⊢
    by_cases e : x = y
    · rw [if_pos e] at h
      rw [if_pos e.symm]
      exact lexI_asym a b h
    · rw [if_neg e] at h
      rw [if_neg (Ne.symm e)]
      have := of_decide_eq_true h
      exact decide_eq_false (by omega)
theorem lexI_ntr : ∀ a b c : List Int, lexI b a = false → lexI c b = false → lexI c a = false
  | [], [], c, _, h => h
  | [], y :: b, c, h, h2 => by simp [lexI] at h; cases c <;> simp [lexI] at h2 ⊢
  | x :: a, [], c, h, h2 => by simp [lexI] at h
  | x :: a, y :: b, [], h, h2 => by simp [lexI] at h2
  | x :: a, y :: b, z :: c, h, h2 => by
    unfold lexI at h h2 ⊢
    by_cases e : y = x
    · rw [if_pos e] at h
      by_cases e2 : z = y
      · rw [if_pos e2] at h2
        rw [if_pos (e2.trans e)]
        exact lexI_ntr a b c h h2
      · rw [if_neg e2] at h2
        rw [if_neg (by rw [← e]; exact e2), ← e]
        exact h2
    · rw [if_neg e] at h
      have h' := of_decide_eq_false h
      by_cases e2 : z = y
      · rw [if_neg (by rw [e2]; exact e)]
        exact decide_eq_false (by omega)
      · rw [if_neg e2] at h2
        have h2' := of_decide_eq_false h2
        rw [if_neg (by omega)]
        exact decide_eq_false (by omega)
theorem lexI_eq : ∀ a b : List Int, lexI a b = false → lexI b a = false → a = b
  | [], [], _, _ => rfl
  | [], _ :: _, h, _ => by simp [lexI] at h
  | _ :: _, [], _, h => by simp [lexI] at h
  | x :: a, y :: b, h, h2 => by
    unfold lexI at h h2
    by_cases e : x = y
    · rw [if_pos e] at h
      rw [if_pos e.symm] at h2
      rw [e, lexI_eq a b h h2]
    · rw [if_neg e] at h
      rw [if_neg (Ne.symm e)] at h2
      have := of_decide_eq_false h
      have := of_decide_eq_false h2
      omega
theorem lexI_pre : ∀ p a b : List Int, lexI (p ++ a) (p ++ b) = lexI a b
  | [], _, _ => rfl
  | x :: p, a, b => by simp [lexI, lexI_pre p a b]
/-- they differ at a place -/
def Dif (a b : List Int) : Prop := ∃ p x y a' b', a = p ++ x :: a' ∧ b = p ++ y :: b' ∧ x ≠ y
theorem Dif.lex {a b : List Int} (h : Dif a b) (r s : List Int) : lexI (a ++ r) (b ++ s) = lexI a b := by
  obtain ⟨p, x, y, a', b', rfl, rfl, n⟩ := h
  rw [List.append_assoc, List.append_assoc, lexI_pre, lexI_pre]
  simp [lexI, n]
theorem Dif.ne {a b : List Int} (h : Dif a b) (r s : List Int) : a ++ r ≠ b ++ s := by
  obtain ⟨p, x, y, a', b', rfl, rfl, n⟩ := h
  rw [List.append_assoc, List.append_assoc]
  intro e
  have := List.append_cancel_left e
  simp at this
  exact n this.1
theorem Dif.pre {a b : List Int} (h : Dif a b) (q : List Int) : Dif (q ++ a) (q ++ b) := by
  obtain ⟨p, x, y, a', b', rfl, rfl, n⟩ := h
  exact ⟨q ++ p, x, y, a', b', by simp, by simp, n⟩
theorem Dif.app {a b : List Int} (h : Dif a b) (r s : List Int) : Dif (a ++ r) (b ++ s) := by
  obtain ⟨p, x, y, a', b', rfl, rfl, n⟩ := h
  exact ⟨p, x, y, a' ++ r, b' ++ s, by simp, by simp, n⟩
theorem Dif.at0 {x y : Int} {a b : List Int} (h : x ≠ y) : Dif (x :: a) (y :: b) := ⟨[], x, y, a, b, rfl, rfl, h⟩
theorem Dif.cons {a b : List Int} (x : Int) (h : Dif a b) : Dif (x :: a) (x :: b) := h.pre [x]
theorem strT_dif : ∀ s t : Nm, s ≠ t → Dif (strT s) (strT t)
  | [], [], h => absurd rfl h
  | [], c :: t, _ => .at0 (by omega)
  | c :: s, [], _ => .at0 (by omega)
  | c :: s, d :: t, h => by
    unfold strT
    by_cases e : c = d
    · subst e
      exact (strT_dif s t fun z => h (by rw [z])).cons _
    · exact .at0 (by omega)
theorem flats_cons {n : Nat} {x : D} {xs : List D} (h : D.flats n (x :: xs) = true) : D.flat n x = true ∧ D.flats n xs = true := by
  simpa [D.flats, Bool.and_eq_true] using h
theorem flat_tup {n : Nat} {xs : List D} (h : D.flat n (.tup xs) = true) : ∃ m, n = m + 1 ∧ D.flats m xs = true := by
  cases n with
  | zero => simp [D.flat] at h
  | succ m => exact ⟨m, rfl, by simpa [D.flat] using h⟩
theorem tokss_nil : D.tokss [] = [0] := by simp [D.tokss]
theorem tokss_cons (x : D) (xs : List D) : D.tokss (x :: xs) = 1 :: (x.toks ++ D.tokss xs) := by simp [D.tokss]
theorem toks_tup (xs : List D) : (D.tup xs).toks = 8 :: D.tokss xs := by simp [D.toks]
mutual
theorem toks_eqv : ∀ (x y : D) (n m : Nat), D.flat n x = true → D.flat m y = true → (D.eqv x y = true → x.toks = y.toks) ∧ (D.eqv x y = false → Dif x.toks y.toks)
  | .non, y, n, m, _, h => by
    cases y <;> simp [D.flat] at h <;> simp [D.eqv, D.toks] <;> exact .at0 (by decide)
  | .bl b, y, n, m, _, h => by
    cases y <;> simp [D.flat] at h <;> simp [D.eqv, D.toks] <;> first | exact .at0 (by decide) | skip
    · rename_i c
      cases b <;> cases c <;> simp <;> exact (Dif.at0 (by decide)).cons _
    · rename_i j
      exact fun e => (Dif.at0 e).cons _
  | .int i, y, n, m, _, h => by
    cases y <;> simp [D.flat] at h <;> simp [D.eqv, D.toks] <;> first | exact .at0 (by decide) | skip
    · exact fun e => (Dif.at0 e).cons _
    · exact fun e => (Dif.at0 e).cons _
  | .str s, y, n, m, _, h => by
    cases y <;> simp [D.flat] at h <;> simp [D.eqv, D.toks] <;> first | exact .at0 (by decide) | skip
    exact ⟨fun e => by rw [e], fun e => (strT_dif _ _ e).cons _⟩
  | .tup xs, y, n, m, g, h => by
    cases y <;> simp [D.flat] at h <;> simp [D.eqv, D.toks] <;> first | exact .at0 (by decide) | skip
    obtain ⟨k, rfl, g⟩ := flat_tup g
    obtain ⟨l, rfl, h⟩ := flat_tup (by simpa [D.flat] using h)
    have q := tokss_eqv xs _ k l g h
    exact ⟨fun e => q.1 e, fun e => (q.2 e).cons _⟩
  | .lst _, _, n, _, g, _ => by simp [D.flat] at g
  | .dct _ _, _, n, _, g, _ => by simp [D.flat] at g
  | .exc _, _, n, _, g, _ => by simp [D.flat] at g
  | .inp _, _, n, _, g, _ => by simp [D.flat] at g
theorem tokss_eqv : ∀ (xs ys : List D) (n m : Nat), D.flats n xs = true → D.flats m ys = true → (D.eqvs xs ys = true → D.tokss xs = D.tokss ys) ∧ (D.eqvs xs ys = false → Dif (D.tokss xs) (D.tokss ys))
  | [], [], _, _, _, _ => by simp [D.eqvs]
  | [], y :: ys, _, _, _, _ => by
    simp only [D.eqvs, tokss_nil, tokss_cons]
    exact ⟨fun h => by simp at h, fun _ => .at0 (by decide)⟩
  | x :: xs, [], _, _, _, _ => by
    simp only [D.eqvs, tokss_nil, tokss_cons]
    exact ⟨fun h => by simp at h, fun _ => .at0 (by decide)⟩
  | x :: xs, y :: ys, n, m, g, h => by
    obtain ⟨g1, g2⟩ := flats_cons g
    obtain ⟨h1, h2⟩ := flats_cons h
    obtain ⟨a1, a2⟩ := toks_eqv x y n m g1 h1
    obtain ⟨b1, b2⟩ := tokss_eqv xs ys n m g2 h2
    simp only [D.eqvs, tokss_cons]
    cases e : D.eqv x y with
    | false =>
      simp only [Bool.false_and]
      exact ⟨fun h => by simp at h, fun _ => ((a2 e).app _ _).cons _⟩
    | true =>
      simp only [Bool.true_and]
      rw [a1 e]
      exact ⟨fun z => by rw [b1 z], fun z => ((b2 z).pre _).cons _⟩
end
/-- the order of tuples, item by item -/
theorem lexI_tokss {x y : D} {xs ys : List D} {n m : Nat} (hx : D.flat n x = true) (hy : D.flat m y = true) : lexI (D.tokss (x :: xs)) (D.tokss (y :: ys)) = if D.eqv x y then lexI (D.tokss xs) (D.tokss ys) else D.lt x y := by
  obtain ⟨a1, a2⟩ := toks_eqv x y n m hx hy
  rw [tokss_cons, tokss_cons]
  cases e : D.eqv x y with
  | true => simp [lexI, a1 e, lexI_pre]
  | false =>
    simp only [lexI, if_true, Bool.false_eq_true, if_false]
    exact (a2 e).lex _ _
theorem lt_tup {xs ys : List D} : D.lt (.tup xs) (.tup ys) = lexI (D.tokss xs) (D.tokss ys) := by
  unfold D.lt
  rw [toks_tup, toks_tup]
  simp [lexI]
theorem lt_int {i j : Int} : D.lt (.int i) (.int j) = decide (i < j) := by
  unfold D.lt
  simp only [D.toks, lexI, if_true]
  by_cases h : i = j
  · simp [h, lexI]
  · simp [h]
def lexNat : Nm → Nm → Bool
  | [], [] => false
  | [], _ :: _ => true
  | _ :: _, [] => false
  | x :: xs, y :: ys => if x = y then lexNat xs ys else decide (x < y)
theorem lexI_strT : ∀ s t : Nm, lexI (strT s) (strT t) = lexNat s t
  | [], [] => by simp [strT, lexI, lexNat]
  | [], c :: t => by
    have h : (0 : Int) ≠ (c : Int) + 1 := by omega
    simp only [strT, lexI, lexNat, if_neg h]
    exact decide_eq_true (by omega)
  | c :: s, [] => by
    have h : (c : Int) + 1 ≠ 0 := by omega
    simp only [strT, lexI, lexNat, if_neg h]
    exact decide_eq_false (by omega)
  | c :: s, d :: t => by
    simp only [strT, lexI, lexNat]
    by_cases h : c = d
    · simp [h, lexI_strT s t]
    · have h2 : (c : Int) + 1 ≠ (d : Int) + 1 := by omega
      rw [if_neg h, if_neg h2]
      by_cases h3 : c < d
      · rw [decide_eq_true h3]; exact decide_eq_true (by omega)
      · rw [decide_eq_false h3]; exact decide_eq_false (by omega)
theorem lt_str {s t : Nm} : D.lt (.str s) (.str t) = lexNat s t := by
  unfold D.lt
  simp [D.toks, lexI, lexI_strT]

/-! ### sortD -/
theorem le_total (x y : D) : (D.le x y || D.le y x) = true := by
  unfold D.le D.lt
  cases h : lexI y.toks x.toks with
  | false => rfl
  | true => rw [lexI_asym _ _ h]; rfl
theorem le_trans (x y z : D) (h : D.le x y = true) (g : D.le y z = true) : D.le x z = true := by
  unfold D.le D.lt at *
  simp only [Bool.not_eq_true'] at *
  exact lexI_ntr _ _ _ h g
theorem sortD_perm (xs : List D) : (sortD xs).Perm xs := List.mergeSort_perm xs D.le
theorem sortD_pw (xs : List D) : (sortD xs).Pairwise fun a b => D.le a b = true := List.pairwise_mergeSort (fun a b c => le_trans a b c) (fun a b => le_total a b) xs
def same (x y : D) : Bool := D.le x y && D.le y x
theorem sortD_stb (xs : List D) (x : D) : (sortD xs).filter (same x) = xs.filter (same x) := by
  have h1 : (xs.filter (same x)).Pairwise fun a b => D.le a b = true := by
    refine List.Pairwise.imp_of_mem (R := fun _ _ => True) (fun {a b} ha hb _ => ?_) (by simp [List.pairwise_iff_forall_sublist])
    have ha := (List.mem_filter.mp ha).2
    have hb := (List.mem_filter.mp hb).2
    unfold same at ha hb
    simp only [Bool.and_eq_true] at ha hb
    exact le_trans _ _ _ ha.2 hb.1
  have h2 : (xs.filter (same x)).Sublist (sortD xs) := List.sublist_mergeSort (fun a b c => le_trans a b c) (fun a b => le_total a b) h1 List.filter_sublist
  have h3 : (xs.filter (same x)).Sublist ((sortD xs).filter (same x)) := by
    have := h2.filter (same x)
    rwa [List.filter_filter, show (fun a => same x a && same x a) = same x from funext fun a => Bool.and_self _] at this
  exact (h3.eq_of_length (((sortD_perm xs).filter (same x)).length_eq).symm).symm
/-- what is sorted and keeps the classes is THE sorted list -/
theorem sorted_uniq : ∀ {xs ys : List D}, xs.Pairwise (fun a b => D.le a b = true) → ys.Pairwise (fun a b => D.le a b = true) → (∀ x, xs.filter (same x) = ys.filter (same x)) → xs = ys := by
  have refl : ∀ a, same a a = true := fun a => by unfold same D.le D.lt; rw [lexI_self]; rfl
  intro xs
  induction xs with
  | nil =>
    intro ys _ _ h
    cases ys with
    | nil => rfl
    | cons b ys => have := h b; simp [refl] at this
  | cons a xs ih =>
    intro ys hx hy h
    cases ys with
    | nil => have := h a; simp [refl] at this
    | cons b ys =>
      have hab : D.le a b = true := by
        have : b ∈ (a :: xs).filter (same b) := by rw [h b]; simp [refl]
        rcases List.mem_cons.mp (List.mem_filter.mp this).1 with e | e
        · subst e; have := refl b; unfold same at this; simp only [Bool.and_eq_true] at this; exact this.1
        · exact (List.pairwise_cons.mp hx).1 b e
      have hba : D.le b a = true := by
        have : a ∈ (b :: ys).filter (same a) := by rw [← h a]; simp [refl]
        rcases List.mem_cons.mp (List.mem_filter.mp this).1 with e | e
        · subst e; have := refl a; unfold same at this; simp only [Bool.and_eq_true] at this; exact this.1
        · exact (List.pairwise_cons.mp hy).1 a e
      have hs : same a b = true := by unfold same; rw [hab, hba]; rfl
      have e := h a
      rw [List.filter_cons_of_pos (refl a), List.filter_cons_of_pos hs] at e
      obtain ⟨e1, e2⟩ := List.cons.inj e
      subst e1
      have := ih (List.pairwise_cons.mp hx).2 (List.pairwise_cons.mp hy).2 fun x => by
        have z := h x
        by_cases q : same x a = true
        · rw [List.filter_cons_of_pos q, List.filter_cons_of_pos q] at z
          exact (List.cons.inj z).2
        · rw [List.filter_cons_of_neg q, List.filter_cons_of_neg q] at z
          exact z
      rw [this]

/-! ### sets -/
theorem mem_nub {α : Type} [DecidableEq α] {x : α} : ∀ {l : List α}, x ∈ nub l ↔ x ∈ l
  | [] => by simp [nub]
  | y :: l => by
    unfold nub
    split
    · rename_i h
      rw [mem_nub, List.mem_cons]
      constructor
      · exact .inr
      · rintro (e | e)
        · subst e; exact mem_nub.mp h
        · exact e
    · rw [List.mem_cons, List.mem_cons, mem_nub]
theorem nodup_nub {α : Type} [DecidableEq α] : ∀ l : List α, (nub l).Nodup
  | [] => by simp [nub]
  | y :: l => by
    unfold nub
    split
    · exact nodup_nub l
    · rename_i h
      exact List.nodup_cons.mpr ⟨h, nodup_nub l⟩
theorem nub_id {α : Type} [DecidableEq α] : ∀ {l : List α}, l.Nodup → nub l = l
  | [], _ => rfl
  | y :: l, h => by
    obtain ⟨h1, h2⟩ := List.nodup_cons.mp h
    unfold nub
    rw [nub_id h2, if_neg h1]
theorem nub_len {α : Type} [DecidableEq α] : ∀ l : List α, (nub l).length ≤ l.length
  | [] => Nat.le_refl _
  | y :: l => by
    have := nub_len l
    unfold nub
    split
    · simp; omega
    · simp; omega
theorem nub_lt {α : Type} [DecidableEq α] : ∀ {l : List α}, ¬ l.Nodup → (nub l).length < l.length
  | [], h => absurd List.nodup_nil h
  | y :: l, h => by
    unfold nub
    split
    · have := nub_len l
      simp; omega
    · rename_i q
      have h2 : ¬ l.Nodup := fun z => h (List.nodup_cons.mpr ⟨fun m => q (mem_nub.mpr m), z⟩)
      have := nub_lt h2
      simp; omega
theorem sub_len {α : Type} [DecidableEq α] : ∀ {l m : List α}, l.Nodup → (∀ x ∈ l, x ∈ m) → l.length ≤ m.length
  | [], _, _, _ => Nat.zero_le _
  | x :: l, m, h, s => by
    obtain ⟨h1, h2⟩ := List.nodup_cons.mp h
    have hx := s x List.mem_cons_self
    have := sub_len (l := l) (m := m.erase x) h2 fun y hy => (List.mem_erase_of_ne (fun e => h1 (by rw [← e]; exact hy))).mpr (s y (List.mem_cons_of_mem _ hy))
    have e := List.length_erase_of_mem hx
    have p := List.length_pos_of_mem hx
    simp; omega
theorem mem_insI {x y : Int} : ∀ {l : List Int}, y ∈ insI x l ↔ y = x ∨ y ∈ l
  | [] => by simp [insI]
  | z :: l => by
    unfold insI
    split
    · simp
    · split
      · rename_i e
        subst e
        simp
      · rw [List.mem_cons, List.mem_cons, mem_insI]
        constructor
        · rintro (h | h | h) <;> simp [h]
        · rintro (h | h | h) <;> simp [h]
theorem mem_setI {y : Int} : ∀ {l : List Int}, y ∈ setI l ↔ y ∈ l
  | [] => by simp [setI]
  | x :: l => by
    show y ∈ insI x (setI l) ↔ _
    rw [mem_insI, mem_setI, List.mem_cons]
theorem insI_pw {x : Int} : ∀ {l : List Int}, l.Pairwise (· < ·) → (insI x l).Pairwise (· < ·)
  | [], _ => by simp [insI]
  | z :: l, h => by
    obtain ⟨h1, h2⟩ := List.pairwise_cons.mp h
    unfold insI
    split
    · rename_i q
      refine List.pairwise_cons.mpr ⟨fun a m => ?_, h⟩
      rcases List.mem_cons.mp m with e | m
      · omega
      · have := h1 a m; omega
    · split
      · exact h
      · refine List.pairwise_cons.mpr ⟨fun a m => ?_, insI_pw h2⟩
        rcases mem_insI.mp m with e | m
        · omega
        · exact h1 a m
theorem setI_pw : ∀ l : List Int, (setI l).Pairwise (· < ·)
  | [] => .nil
  | x :: l => insI_pw (setI_pw l)
theorem pw_uniq : ∀ {l m : List Int}, l.Pairwise (· < ·) → m.Pairwise (· < ·) → (∀ x, x ∈ l ↔ x ∈ m) → l = m
  | [], [], _, _, _ => rfl
  | [], y :: m, _, _, h => absurd ((h y).mpr List.mem_cons_self) (by simp)
  | x :: l, [], _, _, h => absurd ((h x).mp List.mem_cons_self) (by simp)
  | x :: l, y :: m, hl, hm, h => by
    obtain ⟨l1, l2⟩ := List.pairwise_cons.mp hl
    obtain ⟨m1, m2⟩ := List.pairwise_cons.mp hm
    have a : x = y := by
      rcases List.mem_cons.mp ((h x).mp List.mem_cons_self) with e | e
      · exact e
      · rcases List.mem_cons.mp ((h y).mpr List.mem_cons_self) with e2 | e2
        · exact e2.symm
        · have := m1 x e
          have := l1 y e2
          omega
    subst a
    rw [pw_uniq l2 m2 fun z => ?_]
    constructor
    · intro hz
      rcases List.mem_cons.mp ((h z).mp (List.mem_cons_of_mem _ hz)) with e | e
      · have := l1 z hz; omega
      · exact e
    · intro hz
      rcases List.mem_cons.mp ((h z).mpr (List.mem_cons_of_mem _ hz)) with e | e
      · have := m1 z hz; omega
      · exact e
theorem setI_id {l : List Int} (h : l.Pairwise (· < ·)) : setI l = l := pw_uniq (setI_pw l) h fun _ => mem_setI
end Tw

set_option autoImplicit false
set_option Elab.async false
set_option linter.all false
set_option maxRecDepth 100000
/-! Tw, sorted(xs). -/
namespace Tw
open PySem L2 PySem.W
mutual
def fromPy : PyData → D
  | .none => .non
  | .bool b => .bl b
  | .int i => .int i
  | .str s => .str s.cps.toList
  | .list xs => .lst (fromPys xs)
  | .tuple xs => .tup (fromPys xs)
  | .dict _ => .non
def fromPys : List PyData → List D
  | [] => []
  | x :: xs => fromPy x :: fromPys xs
end
mutual
theorem from_to : ∀ (d : D) (n : Nat), D.flat n d = true → fromPy (toPy d) = d
  | .non, _, _ => by simp [toPy, fromPy]
  | .bl _, _, _ => by simp [toPy, fromPy]
  | .int _, _, _ => by simp [toPy, fromPy]
  | .str _, _, _ => by simp [toPy, fromPy]
  | .tup xs, n, h => by
    obtain ⟨m, rfl, h⟩ := flat_tup h
    simp only [toPy, fromPy]
    rw [froms_to xs m h]
  | .lst _, _, h => by simp [D.flat] at h
  | .dct _ _, _, h => by simp [D.flat] at h
  | .exc _, _, h => by simp [D.flat] at h
  | .inp _, _, h => by simp [D.flat] at h
theorem froms_to : ∀ (xs : List D) (n : Nat), D.flats n xs = true → fromPys (toPys xs) = xs
  | [], _, _ => by simp [toPys, fromPys]
  | x :: xs, n, h => by
    obtain ⟨h1, h2⟩ := flats_cons h
    simp only [toPys, fromPys]
    rw [from_to x n h1, froms_to xs n h2]
end
mutual
theorem flat_pl : ∀ (d : D) (n : Nat), D.flat n d = true → D.pl n d = true
  | .non, _, _ => by simp [D.pl]
  | .bl _, _, _ => by simp [D.pl]
  | .int _, _, _ => by simp [D.pl]
  | .str _, _, h => by simpa [D.pl, D.flat] using h
  | .tup xs, n, h => by
    obtain ⟨m, rfl, h⟩ := flat_tup h
    simpa [D.pl] using flats_pl xs m h
  | .lst _, _, h => by simp [D.flat] at h
  | .dct _ _, _, h => by simp [D.flat] at h
  | .exc _, _, h => by simp [D.flat] at h
  | .inp _, _, h => by simp [D.flat] at h
theorem flats_pl : ∀ (xs : List D) (n : Nat), D.flats n xs = true → D.pls n xs = true
  | [], _, _ => by simp [D.pls]
  | x :: xs, n, h => by
    obtain ⟨h1, h2⟩ := flats_cons h
    simp [D.pls, flat_pl x n h1, flats_pl xs n h2]
end
mutual
theorem alk_py : ∀ (x y : D), D.alk x y = true → alike (toPy x) (toPy y) = true
  | .int _, y, h => by cases y <;> simp [D.alk] at h; simp [toPy, alike]
  | .str _, y, h => by cases y <;> simp [D.alk] at h; simp [toPy, alike]
  | .tup xs, y, h => by
    cases y <;> simp [D.alk] at h
    simp only [toPy, alike]
    exact alks_py xs _ h
  | .non, _, h => by simp [D.alk] at h
  | .bl _, _, h => by simp [D.alk] at h
  | .lst _, _, h => by simp [D.alk] at h
  | .dct _ _, _, h => by simp [D.alk] at h
  | .exc _, _, h => by simp [D.alk] at h
  | .inp _, _, h => by simp [D.alk] at h
theorem alks_py : ∀ (xs ys : List D), D.alks xs ys = true → alikeAll (toPys xs) (toPys ys) = true
  | [], _, _ => by simp [toPys, alikeAll]
  | _ :: _, [], _ => by simp [toPys, alikeAll]
  | x :: xs, y :: ys, h => by
    simp only [D.alks, Bool.and_eq_true] at h
    simp only [toPys, alikeAll]
    rw [alk_py x y h.1, alks_py xs ys h.2]
    rfl
end
theorem lexNat_lt : ∀ s t : List Nat, lexNat s t = decide (s < t)
  | [], [] => by simp [lexNat]
  | [], _ :: _ => by simp [lexNat]
  | _ :: _, [] => by simp [lexNat]
  | x :: s, y :: t => by
    simp only [lexNat, List.cons_lt_cons_iff, lexNat_lt s t]
    by_cases h : x = y
    · subst h; simp
    · simp [h]
mutual
theorem dataLt_py : ∀ (x y : D) (n m : Nat), D.flat n x = true → D.flat m y = true → D.alk x y = true → dataLt (toPy x) (toPy y) = D.lt x y
  | .int _, y, _, _, _, _, h => by
    cases y <;> simp [D.alk] at h
    simp only [toPy]
    rw [dataLt_int, lt_int]
  | .str _, y, _, _, _, _, h => by
    cases y <;> simp [D.alk] at h
    simp only [toPy]
    rw [dataLt_str, lt_str, lexNat_lt]
  | .tup xs, y, n, m, f, g, h => by
    cases y <;> simp [D.alk] at h
    obtain ⟨k, rfl, f⟩ := flat_tup f
    obtain ⟨l, rfl, g⟩ := flat_tup g
    simp only [toPy]
    rw [dataLt_tuple, lt_tup]
    exact dataLts_py xs _ k l f g h
  | .non, _, _, _, _, _, h => by simp [D.alk] at h
  | .bl _, _, _, _, _, _, h => by simp [D.alk] at h
  | .lst _, _, _, _, _, _, h => by simp [D.alk] at h
  | .dct _ _, _, _, _, _, _, h => by simp [D.alk] at h
  | .exc _, _, _, _, _, _, h => by simp [D.alk] at h
  | .inp _, _, _, _, _, _, h => by simp [D.alk] at h
theorem dataLts_py : ∀ (xs ys : List D) (n m : Nat), D.flats n xs = true → D.flats m ys = true → D.alks xs ys = true → PyProof.Rows.lexLt PyProof.Rows.itemOrd (keyToksAll (toPys xs)) (keyToksAll (toPys ys)) = lexI (D.tokss xs) (D.tokss ys)
  | [], [], _, _, _, _, _ => by
    simp only [toPys]
    rw [PyProof.Rows.lex_irrefl, lexI_self]
  | [], y :: ys, _, _, _, _, _ => by
    simp only [toPys]
    rw [toks_all_cons]
    simp only [keyToksAll]
    rw [PyProof.Rows.lex_diff (O := PyProof.Rows.itemOrd) (by simp), tokss_nil, tokss_cons]
    simp [PyProof.Rows.itemLt, lexI]
  | x :: xs, [], _, _, _, _, _ => by
    simp only [toPys]
    rw [toks_all_cons]
    simp only [keyToksAll]
    rw [PyProof.Rows.lex_diff (O := PyProof.Rows.itemOrd) (by simp), tokss_nil, tokss_cons]
    simp [PyProof.Rows.itemLt, lexI]
  | x :: xs, y :: ys, n, m, f, g, h => by
    obtain ⟨f1, f2⟩ := flats_cons f
    obtain ⟨g1, g2⟩ := flats_cons g
    simp only [D.alks, Bool.and_eq_true] at h
    rw [lexI_tokss f1 g1]
    simp only [toPys]
    cases e : D.eqv x y with
    | true =>
      rw [dataLt_all_yes (alk_py x y h.1) (by rw [eqv_py x y n m (flat_pl x n f1) (flat_pl y m g1)]; exact e)]
      simp only [if_true]
      exact dataLts_py xs ys n m f2 g2 h.2
    | false =>
      rw [dataLt_all_no (alk_py x y h.1) (by rw [eqv_py x y n m (flat_pl x n f1) (flat_pl y m g1)]; exact e)]
      simp only [Bool.false_eq_true, if_false]
      exact dataLt_py x y n m f1 g1 h.1
end
section
variable {prog : Program} {w : World} {A : Around} {E : Value → Shared → Prop} {s : Shared}
theorem toPy_tup {x : D} {t : List PyData} (h : toPy x = .tuple t) : x.kind = 4 := by
  cases x <;> simp [toPy] at h
  rfl
theorem katLex_d {b fin : Bool} {Q : Bool → Shared → Prop} (hu : A.units + 50 < cLine) : ∀ (xs ys : List D) (n m i : Nat) (vs ws : List Value) (as bs : List Addr), D.flats n xs = true → D.flats m ys = true → n ≤ 40 → D.cmps xs ys = true →
    ReadsAll s.heap vs (toPys xs) as → ReadsAll s.heap ws (toPys ys) bs → (b = true → i = 0 → ∀ x r, xs = x :: r → x.kind ≠ 4) → fin = decide (xs.length < ys.length) → Q (lexI (D.tokss xs) (D.tokss ys)) s → KatLex prog w A b fin Q (vs.zip ws) i s
  | [], [], _, _, i, _, _, _, _, _, _, _, _, ra, rb, _, hf, hq => by
    simp only [toPys] at ra rb
    cases ra
    cases rb
    have e : fin = false := by rw [hf]; rfl
    subst e
    rw [lexI_self] at hq
    exact kat_nil hq
  | [], y :: ys, _, _, i, _, _, _, _, _, _, _, _, ra, rb, _, hf, hq => by
    simp only [toPys] at ra
    cases ra
    have e : fin = true := by rw [hf]; exact decide_eq_true (Nat.succ_pos _)
    subst e
    rw [List.zip_nil_left]
    exact kat_nil (by simpa [tokss_nil, tokss_cons, lexI] using hq)
  | x :: xs, [], _, _, i, _, _, _, _, _, _, _, _, ra, rb, _, hf, hq => by
    simp only [toPys] at rb
    cases rb
    have e : fin = false := by rw [hf]; exact decide_eq_false (Nat.not_lt_zero _)
    subst e
    rw [List.zip_nil_right]
    exact kat_nil (by simpa [tokss_nil, tokss_cons, lexI] using hq)
  | x :: xs, y :: ys, n, m, i, _, _, _, _, f, g, hn, hc, ra, rb, hb, hf, hq => by
    obtain ⟨f1, f2⟩ := flats_cons f
    obtain ⟨g1, g2⟩ := flats_cons g
    have hf' : fin = decide (xs.length < ys.length) := by
      rw [hf]
      simp only [List.length_cons, Nat.add_lt_add_iff_right]
    simp only [toPys] at ra rb
    have px := flat_pl x n f1
    have py := flat_pl y m g1
    obtain ⟨l1, d1⟩ := lay_py x n px
    obtain ⟨l2, d2⟩ := lay_py y m py
    have room : A.units + min (toPy x).depth (toPy y).depth < cLine := by
      have := Nat.min_le_left (toPy x).depth (toPy y).depth
      omega
    cases ra with
    | cons r rs =>
      cases rb with
      | cons r' rs' =>
        rw [List.zip_cons_cons]
        refine kat_cons (SeqAt.eqAt_reads (toPy x) (toPy y) A s _ _ _ _ r r' l1 l2 room prog w _ _ ?_)
        rw [eqv_py x y n m px py]
        rw [lexI_tokss f1 g1] at hq
        unfold D.cmps at hc
        cases e : D.eqv x y with
        | true =>
          rw [e] at hq hc
          simp only [if_true] at hq hc
          exact kat_yes (katLex_d hu xs ys n m (i + 1) _ _ _ _ f2 g2 hn hc rs rs' (fun _ hi => absurd hi (Nat.succ_ne_zero i)) hf' hq)
        | false =>
          rw [e] at hq hc
          simp only [Bool.false_eq_true, if_false] at hq hc
          refine kat_no (oneLt_alike (fun hbi t ht => ?_) r r' (alk_py x y hc) (fun z => ?_) room (by rw [dataLt_py x y n m f1 g1 hc]; exact hq))
          · simp only [Bool.and_eq_true, beq_iff_eq] at hbi
            exact hb hbi.1 hbi.2 x xs rfl (toPy_tup ht)
          · cases x <;> simp [toPy] at z <;> simp [D.alk] at hc
end

theorem toPys_length : ∀ xs : List D, (toPys xs).length = xs.length
  | [] => rfl
  | x :: xs => by simp [toPys, toPys_length xs]
mutual
theorem flat_up : ∀ (d : D) (n : Nat), D.flat n d = true → D.flat (n + 1) d = true
  | .non, _, _ => by simp [D.flat]
  | .bl _, _, _ => by simp [D.flat]
  | .int _, _, _ => by simp [D.flat]
  | .str _, _, h => by simpa [D.flat] using h
  | .tup xs, n, h => by
    obtain ⟨m, rfl, h⟩ := flat_tup h
    simpa [D.flat] using flats_up xs m h
  | .lst _, _, h => by simp [D.flat] at h
  | .dct _ _, _, h => by simp [D.flat] at h
  | .exc _, _, h => by simp [D.flat] at h
  | .inp _, _, h => by simp [D.flat] at h
theorem flats_up : ∀ (xs : List D) (n : Nat), D.flats n xs = true → D.flats (n + 1) xs = true
  | [], _, _ => by simp [D.flats]
  | x :: xs, n, h => by
    obtain ⟨h1, h2⟩ := flats_cons h
    simp [D.flats, flat_up x n h1, flats_up xs n h2]
end

/-! ### the rule -/
section
variable {K : PySem.W.Frag} {xa : XA} {F H : Hp}
theorem all_of {xs : List D} {p : D → Bool} (h : xs.all p = true) : ∀ x ∈ xs, p x = true := by simpa [List.all_eq_true] using h
/-- the datum that a value is -/
noncomputable def kOf (h : Heap) (u : Value) : D := fromPy (SeqAt.readOf h u)
theorem kOf_eq {h : Heap} {u : Value} {d : D} {n : Nat} {as : List Addr} (f : D.flat n d = true) (r : Reads h u (toPy d) as) : kOf h u = d := by
  unfold kOf
  rw [SeqAt.readOf_eq (lay_py d n (flat_pl d n f)).1 r, from_to d n f]
theorem swo_D : SrtO.Swo D.lt := ⟨fun _ _ h => lexI_asym _ _ h, fun _ _ _ h g => lexI_ntr _ _ _ h g⟩
theorem swo_k (h : Heap) : SrtO.Swo fun u v => D.lt (kOf h u) (kOf h v) := ⟨fun _ _ h => lexI_asym _ _ h, fun _ _ _ h g => lexI_ntr _ _ _ h g⟩
theorem sortD_of {ys ds : List D} (h1 : SrtO.Srtd D.lt ys) (h2 : SrtO.Stb D.lt ys ds) : ys = sortD ds := by
  refine SrtO.stb_uniq swo_D h1 ?_ ⟨h2.perm.trans (sortD_perm ds).symm, fun x => (h2.cls x).trans ?_⟩
  · refine (sortD_pw ds).imp fun {a b} h => ?_
    simpa [D.le] using h
  · have e : SrtO.eqv D.lt x = same x := funext fun y => by
      unfold SrtO.eqv same D.le
      rw [Bool.and_comm]
    rw [e]
    exact (sortD_stb ds x).symm
/-- what is read off each item -/
theorem each_reads {X : Cx} {pins : List (Addr × Obj)} {σ : Sl} {s : Shared} (I : Inv X pins σ H s) (fs : Same F H) : ∀ {xs : List V} {ds : List D} {us : List Value}, Reps X.K xa F xs ds → Vals xs us → (∀ d ∈ ds, D.flat 40 d = true) →
    us.map (kOf s.heap) = ds ∧ ∀ u ∈ us, ∃ x d as, RelV x u ∧ Rep X.K xa F x d ∧ d ∈ ds ∧ Reads s.heap u (toPy d) as ∧ kOf s.heap u = d
  | _, _, _, .nil, .nil, _ => ⟨rfl, by simp⟩
  | _, _, _, .cons (d := d) r t, .cons q p, h => by
    obtain ⟨h1, h2⟩ := each_reads I fs t p fun d hd => h d (List.mem_cons_of_mem _ hd)
    have f := h d List.mem_cons_self
    obtain ⟨as, rd⟩ := Dp.reads I _ _ _ (dp_of fs d _ 40 (flat_pl d 40 f) r) q
    have e := kOf_eq f rd
    refine ⟨by rw [List.map_cons, e, h1], fun u hu => ?_⟩
    rcases List.mem_cons.mp hu with z | z
    · subst z; exact ⟨_, d, as, q, r, List.mem_cons_self, rd, e⟩
    · obtain ⟨x, d', as', a1, a2, a3, a4, a5⟩ := h2 u z
      exact ⟨x, d', as', a1, a2, List.mem_cons_of_mem _ a3, a4, a5⟩
theorem back_reps {h : Heap} : ∀ {us : List Value}, (∀ u ∈ us, ∃ x, RelV x u ∧ Rep K xa F x (kOf h u)) → ∃ ys, Vals ys us ∧ Reps K xa F ys (us.map (kOf h))
  | [], _ => ⟨[], .nil, .nil⟩
  | u :: us, h => by
    obtain ⟨x, h1, h2⟩ := h u List.mem_cons_self
    obtain ⟨ys, h3, h4⟩ := back_reps fun v hv => h v (List.mem_cons_of_mem _ hv)
    exact ⟨x :: ys, .cons h1 h3, .cons h2 h4⟩
theorem reads_each {h h' : Heap} : ∀ {us : List Value} {ds : List D}, us.map (kOf h) = ds → (∀ u ∈ us, ∃ as, Reads h' u (toPy (kOf h u)) as) → EachIs (fun v d => ∃ as, Reads h' v d as) us (ds.map toPy)
  | [], _, e, _ => by subst e; exact .nil
  | u :: us, _, e, h => by
    subst e
    exact .cons (h u List.mem_cons_self) (reads_each rfl fun v hv => h v (List.mem_cons_of_mem _ hv))
def rSrt (K : PySem.W.Frag) (xa : XA) : List V → Hp → VK → Prop := fun vs H Q => ∃ (a : Addr) (xs : List V) (ds : List D) (F : Hp), vs = [V.ref a] ∧ SqL K H a xs ∧ Same F H ∧ Reps K xa F xs ds ∧ sortable ds = true ∧
  ∀ ys p, Reps K xa F ys (sortD ds) → H p = none → Q (.ref p) (upd H p (.lst ys))
theorem sort_kind {X : Cx} {A : Around} {s : Shared} {vs : List Value} {ds : List D} {h : Heap} (hu : A.units + 50 < cLine) (h2 : 2 ≤ vs.length) (e : vs.map (kOf h) = ds) (rd : ∀ u ∈ vs, ∃ as, Reads s.heap u (toPy (kOf h u)) as) (srt : sortable ds = true) : ∃ κ,
    (∀ (Q : PyProof.Rows.SortKind → Shared → Prop) (E : Value → Shared → Prop), Q κ s → wpAny (model X.prog X.w) A (PyProof.Rows.keyKind' vs.toArray) Q E s) ∧ SrtO.Cmp X.prog X.w A s κ (fun p => p.1 ∈ vs) (SrtO.lt2 fun u v => D.lt (kOf h u) (kOf h v)) := by
  unfold sortable at srt
  simp only [Bool.and_eq_true, Bool.or_eq_true] at srt
  obtain ⟨hf, hk⟩ := srt
  have mem : ∀ u ∈ vs, kOf h u ∈ ds := fun u hu => by rw [← e]; exact List.mem_map.mpr ⟨u, hu, rfl⟩
  have ff : ∀ u ∈ vs, D.flat 40 (kOf h u) = true := fun u hu => all_of hf _ (mem u hu)
  have one : ∀ (T : String), (Value.type T != Value.type "tuple") = true → (∀ u ∈ vs, dataType (toPy (kOf h u)) = .type T) → (∀ u ∈ vs, ∀ v ∈ vs, D.alk (kOf h u) (kOf h v) = true) → (∀ u ∈ vs, (kOf h u).kind ≠ 4) → ∃ κ,
      (∀ (Q : PyProof.Rows.SortKind → Shared → Prop) (E : Value → Shared → Prop), Q κ s → wpAny (model X.prog X.w) A (PyProof.Rows.keyKind' vs.toArray) Q E s) ∧ SrtO.Cmp X.prog X.w A s κ (fun p => p.1 ∈ vs) (SrtO.lt2 fun u v => D.lt (kOf h u) (kOf h v)) := by
    intro T hT ht ha h4
    refine ⟨PyProof.Rows.oneType', fun Q E q => kas_kind (T := .type T) h2 (fun v hv => ?_) hT (beq_self_eq_true _) q, fun p q hp hq => ?_⟩
    · obtain ⟨as, r⟩ := rd v hv
      rw [← ht v hv]
      exact looks_reads r
    · obtain ⟨as, r⟩ := rd p.1 hp
      obtain ⟨bs, r'⟩ := rd q.1 hq
      have := lay_py _ 40 (flat_pl _ 40 (ff _ hp))
      have := Nat.min_le_left (toPy (kOf h p.1)).depth (toPy (kOf h q.1)).depth
      rw [PyProof.Rows.keyLt'_oneType]
      refine oneLt_alike (fun _ t ht => h4 _ hp (toPy_tup ht)) r r' (alk_py _ _ (ha _ hp _ hq)) (fun z => ?_) (by omega) ⟨rfl, dataLt_py _ _ 40 40 (ff _ hp) (ff _ hq) (ha _ hp _ hq)⟩
      have := ha _ hp _ hp
      revert this z
      cases kOf h p.1 <;> simp [toPy, D.alk]
  rcases hk with (hk | hk) | ⟨h1, hc⟩
  · refine one "int" (by decide) (fun u hu => ?_) (fun u hu v hv => ?_) (fun u hu => ?_)
    · have := all_of hk _ (mem u hu)
      revert this
      cases kOf h u <;> simp [D.kind, toPy, dataType]
    · have a := all_of hk _ (mem u hu)
      have b := all_of hk _ (mem v hv)
      revert a b
      cases kOf h u <;> cases kOf h v <;> simp [D.kind, D.alk]
    · have := all_of hk _ (mem u hu)
      intro z
      rw [z] at this
      simp at this
  · refine one "str" (by decide) (fun u hu => ?_) (fun u hu v hv => ?_) (fun u hu => ?_)
    · have := all_of hk _ (mem u hu)
      revert this
      cases kOf h u <;> simp [D.kind, toPy, dataType]
    · have a := all_of hk _ (mem u hu)
      have b := all_of hk _ (mem v hv)
      revert a b
      cases kOf h u <;> cases kOf h v <;> simp [D.kind, D.alk]
    · have := all_of hk _ (mem u hu)
      intro z
      rw [z] at this
      simp at this
  · have tup : ∀ u ∈ vs, ∃ x r, kOf h u = .tup (x :: r) := fun u hu => by
      have := all_of h1 _ (mem u hu)
      revert this
      cases kOf h u with
      | tup xs => cases xs <;> simp [D.hd]
      | _ => simp [D.hd]
    have same_hd : ∀ u ∈ vs, ∀ v ∈ vs, (kOf h u).hd = (kOf h v).hd := fun u hu v hv => by
      have := all_of h1 _ (mem u hu)
      simp only [Bool.and_eq_true] at this
      simpa using all_of this.2 _ (mem v hv)
    obtain ⟨u0, hu0⟩ : ∃ u0, u0 ∈ vs := by
      cases vs with
      | nil => simp at h2
      | cons a _ => exact ⟨a, List.mem_cons_self⟩
    obtain ⟨x0, r0, e0⟩ := tup u0 hu0
    have dt : ∀ x y : D, x.kind = y.kind → D.flat 40 x = true → D.flat 40 y = true → dataType (toPy x) = dataType (toPy y) := fun x y => by
      cases x <;> cases y <;> simp [D.kind, toPy, dataType, D.flat]
    have t4 : ∀ x : D, D.flat 40 x = true → x.kind ≠ 4 ∨ (dataType (toPy x) != Value.type "tuple") = false := fun x => by
      cases x <;> simp [D.kind, toPy, dataType, D.flat]
    obtain ⟨fs, k1, k2, k3⟩ := each_katTups (reads_each e rd) fun d hd => by
      obtain ⟨d', hd', rfl⟩ := List.mem_map.mp hd
      obtain ⟨u, hu', rfl⟩ : ∃ u ∈ vs, kOf h u = d' := by rw [← e] at hd'; exact List.mem_map.mp hd'
      obtain ⟨x, r, ex⟩ := tup u hu'
      exact ⟨toPy x, toPys r, by rw [ex]; simp [toPy, toPys]⟩
    have up : ∀ x : D, D.flat 39 x = true → D.flat 40 x = true := fun x f => flat_up x 39 f
    have f0 : D.flat 40 x0 = true := by
      have z := ff u0 hu0
      rw [e0] at z
      obtain ⟨m, hm, z⟩ := flat_tup z
      cases hm
      exact up _ (flats_cons z).1
    have kinds : ∀ u ∈ vs, ∀ x r, kOf h u = .tup (x :: r) → x.kind = x0.kind ∧ D.flat 40 x = true := fun u hu' x r ex => by
      have z := same_hd u hu' u0 hu0
      rw [ex, e0] at z
      have z2 := ff u hu'
      rw [ex] at z2
      obtain ⟨m, hm, z2⟩ := flat_tup z2
      cases hm
      exact ⟨by simpa [D.hd] using z, up _ (flats_cons z2).1⟩
    refine ⟨PyProof.Rows.tuples' (dataType (toPy x0) != Value.type "tuple"), fun Q E q => kat_kind (T := dataType (toPy x0)) k1 (by omega) (fun f hf' => ?_) (beq_self_eq_true _) q, fun p q hp hq => ?_⟩
    · obtain ⟨x, r, as, m1, m2⟩ := k3 f hf'
      obtain ⟨d', hd', ed⟩ := List.mem_map.mp m1
      obtain ⟨u, hu', rfl⟩ : ∃ u ∈ vs, kOf h u = d' := by rw [← e] at hd'; exact List.mem_map.mp hd'
      obtain ⟨x', r', ex⟩ := tup u hu'
      rw [ex] at ed
      simp only [toPy, toPys, PyData.tuple.injEq, List.cons.injEq] at ed
      obtain ⟨q1, q2⟩ := kinds u hu' x' r' ex
      rw [← dt x' x0 q1 q2 f0, ed.1]
      exact looks_reads m2
    · obtain ⟨x, r, ex⟩ := tup p.1 hp
      obtain ⟨y, t, ey⟩ := tup q.1 hq
      obtain ⟨as, ra⟩ := rd p.1 hp
      obtain ⟨bs, rb⟩ := rd q.1 hq
      have fx := ff p.1 hp
      have fy := ff q.1 hq
      have hcc := all_of (all_of hc _ (mem p.1 hp)) _ (mem q.1 hq)
      obtain ⟨qk, qf⟩ := kinds p.1 hp x r ex
      show wpAny _ A _ (fun r s' => s' = s ∧ r = D.lt (kOf h p.1) (kOf h q.1)) _ s
      rw [ex] at ra fx hcc
      rw [ey] at rb fy hcc
      rw [ex, ey]
      obtain ⟨m, hm, fx⟩ := flat_tup fx
      cases hm
      obtain ⟨m, hm, fy⟩ := flat_tup fy
      cases hm
      simp only [toPy] at ra rb
      generalize p.1 = pv at ra
      generalize q.1 = qv at rb
      cases ra with
      | @tuple l o xs n _ _ a1 a2 a3 a4 =>
        cases rb with
        | @tuple l' o' xs' n' _ _ b1 b2 b3 b4 =>
          have n1 : xs.size = (x :: r).length := by
            have := SeqAt.ReadsAll.length _ _ _ a4
            rw [toPys_length] at this
            simpa using this
          have n2 : xs'.size = (y :: t).length := by
            have := SeqAt.ReadsAll.length _ _ _ b4
            rw [toPys_length] at this
            simpa using this
          refine kat_lt a1 a3 b1 b3 (katLex_d hu (x :: r) (y :: t) 39 39 0 _ _ _ _ fx fy (by decide) hcc a4 b4 (fun hb _ x' r' ex' => ?_) (by rw [n1, n2]) ⟨rfl, by rw [lt_tup]⟩)
          cases ex'
          intro z
          rcases t4 x0 f0 with h4 | h4
          · exact h4 (qk.symm.trans z)
          · rw [h4] at hb; cases hb
theorem cr_srt {X : Cx} (hu : X.A.units + 64 < cLine) : CallR X (.builtin "sorted") (rSrt X.K xa) := by
  intro pins s σ H vs us Q I r h
  obtain ⟨a, xs, ds, F, rfl, hs, fs, hr, srt, q⟩ := h
  obtain ⟨its, rv, hl, hz⟩ := I.list hs
  rw [Vals.ref1 r]
  have hf : ∀ d ∈ ds, D.flat 40 d = true := by
    have z := srt
    unfold sortable at z
    simp only [Bool.and_eq_true] at z
    exact all_of z.1
  obtain ⟨e1, e2⟩ := each_reads I fs hr rv hf
  refine SrtO.sorted_ord (swo_k s.heap) hl.isList (by rw [← rv.length]; exact hz) (fun h2 h1 l ha kk => ?_) fun out g1 g2 => ?_
  · intro h' keep
    refine sort_kind (X := X) (by simp only [Around.in1_units]; omega) h2 e1 (fun u m => ?_) srt
    obtain ⟨x, d, as, _, _, _, rd, ek⟩ := e2 u m
    rw [ek]
    exact ⟨as, PyProof.Rows.Reads.keeps (fun b o e => keep b o (kk b o e).1 (kk b o e).2) rd⟩
  · obtain ⟨ep, he'⟩ := PyProof.Rows.sortedAll_at s.heap its out.toArray
    obtain ⟨ys, v1, v2⟩ := back_reps (K := X.K) (xa := xa) (F := F) (h := s.heap) (us := out) fun u m => by
      obtain ⟨x, d, as, a1, a2, a3, a4, a5⟩ := e2 u (g2.perm.mem_iff.mp m)
      exact ⟨x, a1, by rw [a5]; exact a2⟩
    have es : out.map (kOf s.heap) = sortD ds := by
      refine sortD_of (SrtO.srtd_map g1) ?_
      rw [← e1]
      exact SrtO.Stb.map swo_D _ g2
    rw [es] at v2
    have hlen : ys.length ≤ sizeLine := by
      rw [v1.length, g2.len, ← rv.length]
      exact hz
    refine ⟨.ref _, upd H (s.heap.objs.size + 1) (.lst ys), I.laid (t' := s.toks) (fun _ _ => PyProof.Rows.sortedAll_old) (Nat.le_succ _) ⟨hlen, out, ep, v1, he'⟩, rfl, q _ _ v2 (I.hok.fresh (Nat.le_succ _))⟩
theorem ok_sorted {X : Cx} (hu : X.A.units + 64 < cLine) : ∃ r, CallR X (.builtin "sorted") r ∧ OkF X.K xa r D.sorted := by
  refine ⟨_, cr_srt (xa := xa) hu, fun F H x d fs bx => ?_⟩
  cases d <;> try exact trivial
  rename_i ds
  obtain ⟨a, xs, rfl, ea, ra⟩ := bx.lst_ fs
  simp only [D.sorted]
  split
  · rename_i h
    simp only [Bool.and_eq_true, decide_eq_true_eq] at h
    intro Q q
    exact ⟨a, xs, ds, F, rfl, SqL.of ea, fs, ra, h.1, fun ys p rp n => q F _ (.heap fs n) p n (fs.free n) ⟨ys, upd_same, rp⟩⟩
  · trivial
end
end Tw

set_option autoImplicit false
set_option Elab.async false
set_option linter.all false
set_option maxRecDepth 100000
/-! Tw, len(set(xs)), sorted(set(xs)). -/
namespace Tw.MS
open PySem PySem.Spec PyProof.Rows L2
/-- what the set has got of the first i items -/
structure Part (ks : List (Addr × List Key)) (i : Nat) (L : List (Addr × List Key)) : Prop where
  sub : ∀ p ∈ L, p ∈ ks.take i
  all : ∀ p ∈ ks.take i, p.2 ∈ ksK L
  len : L.length ≤ i
theorem take_one {α : Type} {l : List α} {i : Nat} {x : α} (h : l[i]? = some x) : l.take (i + 1) = l.take i ++ [x] := by
  rw [List.take_succ, h]; rfl
theorem Part.next {ks L L' : List (Addr × List Key)} {i : Nat} {x : Addr × List Key} (g : Part ks i L) (h : ks[i]? = some x) (c1 : x.2 ∈ ksK L → L' = L) (c2 : x.2 ∉ ksK L → L'.Perm (x :: L)) : Part ks (i + 1) L' := by
  have hx : x ∈ ks.take (i + 1) := by rw [take_one h]; simp
  have old : ∀ p ∈ ks.take i, p ∈ ks.take (i + 1) := fun p m => by rw [take_one h]; exact List.mem_append_left _ m
  by_cases c : x.2 ∈ ksK L
  · rw [c1 c]
    refine ⟨fun p m => old p (g.sub p m), fun p m => ?_, Nat.le_succ_of_le g.len⟩
    rw [take_one h] at m
    rcases List.mem_append.mp m with z | z
    · exact g.all p z
    · rw [List.mem_singleton.mp z]; exact c
  · have pm := c2 c
    refine ⟨fun p m => ?_, fun p m => ?_, by rw [pm.length_eq]; exact Nat.succ_le_succ g.len⟩
    · rcases List.mem_cons.mp (pm.mem_iff.mp m) with e | m
      · rw [e]; exact hx
      · exact old p (g.sub p m)
    · rw [take_one h] at m
      refine (pm.map (·.2)).mem_iff.mpr ?_
      rcases List.mem_append.mp m with z | z
      · exact List.mem_cons_of_mem _ (g.all p z)
      · rw [List.mem_singleton.mp z]; exact List.mem_cons_self
section
variable {P : Program} {w : World} {A : Around} {E : Value → Shared → Prop} {s : Shared}
theorem Tb.keep {h h' : Heap} {a : Addr} {L : List (Addr × List Key)} {es : Array (Int × Value)} {ep : Nat} {t : SetTable} (R : Tb P w h a L es ep t) (ha : ∀ o, h.get? a = some o → h'.get? a = some o) (ht : ∀ p ∈ L, isK P w h' p.2 p.1) : Tb P w h' a L es ep t :=
  let ⟨o, at_, r⟩ := R.ob; ⟨⟨o, ha o at_, r⟩, R.rows, R.tab, R.nd, ht, R.led, R.room, R.few⟩
theorem tb_new {h : Heap} {a : Addr} (ho : h.get? a = some (set0 w)) : Tb P w h a [] #[] 0 (.fresh 0 0 (!w.params.followText "set-order")) :=
  ⟨⟨_, ho, ⟨rfl, rfl, rfl⟩, rfl⟩, rfl, ⟨List.Pairwise.nil, rfl, rfl, .inl rfl, fun x hx => (by cases hx), fun i h j hi => (by simp at hi)⟩, List.nodup_nil, fun p hp => (by cases hp), (by
    show _ ∨ (!w.params.followText "set-order") = true
    cases w.params.followText "set-order"
    · exact .inr rfl
    · exact .inl rfl), (show 0 * 5 < 7 * 3 by decide), (show 0 < 64 by decide)⟩
/-- the loop -/
theorem loop_tups {I : Addr} {fp wr : List Addr} {G : Array GenState → Array GenState → Prop} {n : Nat} {Pv : Nat → Value → Prop} {St : Nat → Shared → Prop} {R : Result → Shared → Prop}
    (W : WalksS P w A.in1 I fp wr G n Pv St) (S : Addr) (hSf : S ∉ fp) (ks : List (Addr × List Key)) (hn : n = ks.length) (few : ks.length < 64) (val : ∀ i v, Pv i v → ∃ p, ks[i]? = some p ∧ v = .ref p.1)
    (h0 : Heap) (hk : ∀ p ∈ ks, isK P w h0 p.2 p.1) (hS0 : h0.get? S = none) (hw0 : ∀ b ∈ wr, h0.get? b = none) (hu : A.in1.units < cLine) :
    ∀ (m i : Nat) (s : Shared), n - i = m → i ≤ n → St i s → (∀ b o, h0.get? b = some o → s.heap.get? b = some o) → (∃ L es ep t, Tb P w s.heap S L es ep t ∧ Part ks i L) →
      (∀ z L es ep t, Moved (S :: wr) G s z → Tb P w z.heap S L es ep t → Part ks n L → (∀ b o, h0.get? b = some o → z.heap.get? b = some o) → R (.ok (.ret .none)) z) →
      codeAny (model P w) A (.builtin "set.update.loop" ⟨[.ref S, .ref I], []⟩) R s := by
  have hSw : S ∉ wr := fun h => hSf (W.sub _ h)
  have more : ∀ b ∈ wr, b ∈ S :: wr := fun b m => List.mem_cons_of_mem _ m
  have kept : ∀ {s z : Shared}, Moved wr G s z → (∀ b o, h0.get? b = some o → s.heap.get? b = some o) → ∀ b o, h0.get? b = some o → z.heap.get? b = some o := fun mv kp b o e =>
    mv.heap b o (fun m => by rw [hw0 b m] at e; cases e) (kp b o e)
  intro m
  induction m with
  | zero =>
    intro i s hm hi st kp ⟨L, es, ep, t, T, g⟩ hR
    obtain rfl : i = n := by omega
    refine codeAny_builtin F.entry_set_update_loop (?_); rw [Around.under_plainId F.plain_set_update_loop _]
    refine wpAny_bind (show wpAny _ A.in1 (pyNext (.ref I)) _ _ s from W.done s _ _ st fun z mv => ?_)
    have kp' := kept mv kp
    refine show wpAny _ A.in1 (ret Value.none) _ _ z from wpAny_pure (hR z L es ep t (mv.mono more) (T.keep (fun o e => mv.heap S o hSw e) fun p hp => isK_keep (hk p (List.mem_of_mem_take (g.sub p hp))) kp') g kp')
  | succ m ih =>
    intro i s hm hi st kp ⟨L, es, ep, t, T, g⟩ hR
    have lt : i < n := by omega
    refine codeAny_builtin F.entry_set_update_loop (?_); rw [Around.under_plainId F.plain_set_update_loop _]
    refine wpAny_bind (show wpAny _ A.in1 (pyNext (.ref I)) _ _ s from W.item i s _ _ lt st fun v z hP st' mv => ?_)
    obtain ⟨p, hp, rfl⟩ := val i v hP
    have kp' := kept mv kp
    have T' : Tb P w z.heap S L es ep t := T.keep (fun o e => mv.heap S o hSw e) fun q hq => isK_keep (hk q (List.mem_of_mem_take (g.sub q hq))) kp'
    have hx : isK P w z.heap p.2 p.1 := isK_keep (hk p (List.mem_of_getElem? hp)) kp'
    refine wpAny_bind (show wpAny _ A.in1 (holding [Value.ref p.1] (setAdd S (.ref p.1))) _ _ z from wpAny_holding ?_)
    unfold setAdd
    refine wpAny_holding (wpAny_bind (wpAny_pyHash_tuple hu hx ?_))
    refine add_one (s := { z with toks := z.toks + (p.2.length + 1) }) T' hx hu (by have := g.len; omega) fun b h' L' es' ep' t' sb T2 c1 c2 => ?_
    have kp2 : ∀ b o, h0.get? b = some o → h'.get? b = some o := fun b o e => (sb.2 b (fun q => by rw [q, hS0] at e; cases e)).trans (kp' b o e)
    refine wpAny_pure ⟨plainId_quiet F.plain_set_update_loop _, ih (i + 1) _ (by omega) lt (W.frame _ z _ _ st' (Nat.le_add_right _ _) fun b hb o e => ?_) kp2 ⟨L', es', ep', t', T2, g.next hp c1 c2⟩ fun z2 L2 es2 ep2 t2 mv2 T3 g2 kp3 => ?_⟩
    · rw [sb.2 b (fun q => hSf (q ▸ hb))]; exact e
    · refine hR z2 L2 es2 ep2 t2 (Moved.trans W.gtrans ((mv.mono more).then_heap (Nat.le_add_right _ _) fun b o hb e => ?_) mv2) T3 g2 kp3
      rw [sb.2 b (fun q => hb (by rw [q]; exact List.mem_cons_self))]; exact e
/-- set(xs), tuples -/
theorem set_tups {l : Addr} {items : Array Value} (ks : List (Addr × List Key)) {Q : Value → Shared → Prop} (hh : A.handled = none) (hl : s.heap.IsList l items) (hit : items.toList = ks.map fun p => Value.ref p.1) (hk : ∀ p ∈ ks, isK P w s.heap p.2 p.1) (few : ks.length < 64) (hu : A.units + 3 < cLine)
    (fin : ∀ (h' : Heap) (k : Nat) L es ep t, Tb P w h' s.heap.objs.size L es ep t → Part ks ks.length L → (∀ b o, s.heap.get? b = some o → h'.get? b = some o) → Q (.ref s.heap.objs.size) { s with heap := h', toks := k }) :
    wpAny (model P w) A (call (.type "set") [.ref l]) Q E s := by
  have hn : items.size = ks.length := by
    have q := congrArg List.length hit
    rwa [Array.length_toList, List.length_map] at q
  refine set_call (Ok := fun h' => ∃ L es ep t, Tb P w h' s.heap.objs.size L es ep t ∧ Part ks ks.length L) hl (fun R hR => ?_) fun h' k ⟨L, es, ep, t, a, b⟩ keep => fin h' k L es ep t a b keep
  have hlS : l < s.heap.objs.size := by obtain ⟨o, e, _⟩ := hl; exact Heap.lt_size e
  have val : ∀ (i : Nat) (v : Value), items[i]? = some v → ∃ p, ks[i]? = some p ∧ v = .ref p.1 := fun i v hv => by
    have q : items.toList[i]? = some v := (Array.getElem?_toList ..).trans hv
    rw [hit, List.getElem?_map] at q
    cases e : ks[i]? with
    | none => rw [e] at q; cases q
    | some p => rw [e] at q; exact ⟨p, rfl, (Option.some.inj q).symm⟩
  have sz : (s.heap.push (set0 w)).objs.size = s.heap.objs.size + 1 := Heap.size_push ..
  refine loop_tups ((Walks.list (A := A.in1.in1.in1) (by simp [hh]) (s.heap.objs.size + 1) l (Nat.ne_of_lt (Nat.lt_succ_of_lt hlS)) items).toS) s.heap.objs.size (notin2 (Nat.ne_of_lt (Nat.lt_succ_self _)) (Nat.ne_of_gt hlS)) ks hn few val s.heap hk (no_obj (Nat.le_refl _))
    (fun b m => no_obj (by rw [List.mem_singleton.mp m]; exact Nat.le_succ _)) hu (items.size - 0) 0 _ (by omega) (Nat.zero_le _)
    ⟨⟨_, by rw [← sz]; exact Heap.get?_push_size _ rfl, rfl, rfl⟩, (hl.push _).push _⟩ (fun b o e => Heap.get?_push_of_some _ (Heap.get?_push_of_some _ e)) ⟨[], #[], 0, _, tb_new (Heap.get?_push_of_some _ (Heap.get?_push_size _ rfl)), ⟨fun p h => (by cases h), fun p h => (by simp at h), Nat.le_refl _⟩⟩ fun z L es ep t mv T g kp => ?_
  obtain ⟨h', g2, d', k, os'⟩ := z
  have eg : g2 = s.gens := mv.gens
  have ed : d' = s.drawn := mv.drawn
  have eo : os' = s.os := mv.os
  subst eg; subst ed; subst eo
  exact hR h' k ⟨L, es, ep, t, T, hn ▸ g⟩ kp
end

/-! ### the rules -/
theorem items_mix {P : Program} {w : World} : ∀ {k : List Key} {us : List Value}, Vals (k.map kV) us → ItemsAre (mixKind P w) k us
  | [], _, h => by cases h; exact .nil
  | q :: k, _, h => by
    cases h with
    | cons r t =>
      refine .cons ?_ (items_mix t)
      cases q with
      | inl i => obtain ⟨t, rfl⟩ := r; exact intKind_is P w i t
      | inr x => obtain ⟨t, rfl⟩ := r; exact strKind_is P w x t
theorem refs_of_vals' : ∀ {ks : List (Addr × List Key)} {us : List Value}, Vals (ks.map fun p => V.ref p.1) us → us = ks.map fun p => Value.ref p.1
  | [], _, .nil => rfl
  | p :: ks, _, .cons r t => by
    cases r
    rw [List.map_cons, ← refs_of_vals' t]
section
variable {X : Cx} {xa : XA} {W : WX} {a : Expr} {fa : E} {p p2 q pos : Pos}
theorem inv_isK {pins : List (Addr × Obj)} {σ : Sl} {H : Hp} {s : Shared} {b : Addr} {k : List Key} (I : Inv X pins σ H s) (h : H b = some (.tup (k.map kV))) : isK X.prog X.w s.heap k b := by
  obtain ⟨_, its, rv, o, h1, h2, n, h3⟩ := (show ObjOk X.prog X.w H s.heap b (.tup (k.map kV)) from I.hok b _ h)
  exact ⟨o, _, n, h1, h2, h3, items_mix (by simpa using rv)⟩
theorem tups_vals {F : Hp} : ∀ {xs : List V} {ds : List D} {ks : List (List (Int ⊕ Nm))}, Reps X.K xa F xs ds → tups? ds = some ks → ∃ L : List (Addr × List Key), xs = L.map (fun p => V.ref p.1) ∧ ksK L = ks.map (·.map leafK) ∧ ∀ p ∈ L, F p.1 = some (.tup (p.2.map kV))
  | _, _, ks, .nil, e => by simp [tups?] at e; subst e; exact ⟨[], rfl, rfl, by simp⟩
  | _, _, ks, .cons (v := v) (vs := vs) (d := d) (ds := ds) r t, e => by
    cases d with
    | tup zs =>
      unfold tups? at e
      cases h1 : leaves? zs with
      | none => rw [h1] at e; cases e
      | some k =>
        cases h2 : tups? ds with
        | none => rw [h1, h2] at e; cases e
        | some rest =>
          rw [h1, h2] at e
          obtain rfl : k :: rest = ks := Option.some.inj e
          obtain ⟨L, l1, l2, l3⟩ := tups_vals t h2
          cases r with
          | @tup b us _ eb rb =>
            rw [leaves_vals rb h1] at eb
            refine ⟨(b, k.map leafK) :: L, by rw [l1]; rfl, by rw [ksK, List.map_cons, List.map_cons, ← l2], fun p m => ?_⟩
            rcases List.mem_cons.mp m with z | z
            · subst z; exact eb
            · exact l3 p z
    | _ => simp [tups?] at e
theorem leafK_inj {x y : Int ⊕ Nm} (h : leafK x = leafK y) : x = y := by
  cases x <;> cases y <;> simp [leafK] at h <;> rw [h]
theorem leafs_inj : ∀ {x y : List (Int ⊕ Nm)}, x.map leafK = y.map leafK → x = y
  | [], [], _ => rfl
  | [], _ :: _, h => by simp at h
  | _ :: _, [], h => by simp at h
  | x :: xs, y :: ys, h => by
    simp only [List.map_cons, List.cons.injEq] at h
    rw [leafK_inj h.1, leafs_inj h.2]
theorem part_len {ks : List (List (Int ⊕ Nm))} {L0 L : List (Addr × List Key)} (h0 : ksK L0 = ks.map (·.map leafK)) (g : Part L0 L0.length L) (nd : (ksK L).Nodup) : L.length = (nub ks).length := by
  rw [show L.length = (ksK L).length by simp, show (nub ks).length = ((nub ks).map (·.map leafK)).length by simp]
  have nd2 : ((nub ks).map (·.map leafK)).Nodup := by
    exact List.pairwise_map.mpr ((nodup_nub ks).imp fun h e => h (leafs_inj e))
  have e : L0.take L0.length = L0 := List.take_length
  refine Nat.le_antisymm (sub_len nd fun x hx => ?_) (sub_len nd2 fun x hx => ?_)
  · obtain ⟨p, hp, rfl⟩ := List.mem_map.mp hx
    have := g.sub p hp
    rw [e] at this
    have m : p.2 ∈ ksK L0 := List.mem_map.mpr ⟨p, this, rfl⟩
    rw [h0] at m
    obtain ⟨k, hk, ek⟩ := List.mem_map.mp m
    exact List.mem_map.mpr ⟨k, mem_nub.mpr hk, ek⟩
  · obtain ⟨k, hk, rfl⟩ := List.mem_map.mp hx
    have m : k.map leafK ∈ ksK L0 := by rw [h0]; exact List.mem_map.mpr ⟨k, mem_nub.mp hk, rfl⟩
    obtain ⟨p, hp, ep⟩ := List.mem_map.mp m
    rw [← ep]
    exact g.all p (by rw [e]; exact hp)
/-- len(set(xs)) -/
theorem re_lenSet (hc : X.calm = true) (hu : X.A.units + 64 < cLine) (hg : Gl X "len") (hm : X.mg "len" = none) (hg2 : Gl X "set") (hm2 : X.mg "set" = none) (ha : RB X xa W a fa)
    (na : starEach [a] X.env = (false, eval a X.env) :: starEach [] X.env := by rfl) : RE X xa W (.Call (.Name "len" p) [.Call (.Name "set" p2) [a] [] q] [] pos) (e1 D.lenSet fa) := by
  refine ⟨⟨fun pins s σ H Q I ⟨B, F, env, S, h⟩ => ?_⟩⟩
  refine Call_ (ld_blt I hg hm PySem.boot_len (PyProof.Rows.callWith_builtin1 (PyProof.Rows.args_cons (?_) rfl) rfl rfl))
  have h1 := (Post.bind (r := fa env) h).imp fun d F1 H1 _ x1 q1 v1 (b1 : Bor X.K xa F1 H1 v1 d) => show (∃ F1 d, Same F1 H1 ∧ Bor X.K xa F1 H1 v1 d ∧ Post xa W σ F1 H1 (D.lenSet d) fun d' F' H' => ∀ v, Rep X.K xa F' v d' → Q v H') from ⟨F1, d, x1.le, b1, q1⟩
  refine Call_ (ld_blt I hg2 hm2 PyProof.Rows.boot_set (PyProof.Rows.callWith_type1 (PyProof.Rows.args_cons (thn (ha.pe.run pins s σ H _ I ⟨B, F, env, S, h1⟩) fun v s1 ⟨x, H1, I1, r1, q1⟩ => PyProof.Rows.args_nil ?_) na) na rfl))
  obtain ⟨F1, d, fs, b1, q1⟩ := q1
  cases d <;> try exact q1.elim
  rename_i ds
  obtain ⟨l, xs, rfl, el, rs⟩ := b1.lst_ fs
  simp only [D.lenSet] at q1
  cases e1 : tups? ds with
  | none => rw [e1] at q1; exact q1.elim
  | some ks =>
    rw [e1] at q1
    simp only at q1
    split at q1
    · rename_i few
      obtain ⟨L, l1, l2, l3⟩ := tups_vals rs e1
      have len : L.length = ks.length := by
        have := congrArg List.length l2
        simpa using this
      cases r1
      obtain ⟨its, rv, pl, hz⟩ := I1.list (SqL.of el)
      rw [l1] at rv
      refine set_tups L (I1.ok.hd hc) pl.isList (by simpa using refs_of_vals' rv) (fun p m => inv_isK I1 (fs _ _ (l3 p m))) (by rw [len]; exact few) (by omega) fun h' tk L2 es ep t T g keep => ?_
      refine PyProof.Rows.args_nil ?_
      obtain ⟨o, at_, ex, dat⟩ := T.ob
      have I2 : Inv X pins σ H1 { s1 with heap := h', toks := tk } := I1.kept fun b o e => keep b o e
      have n1 : es.size = L2.length := rowK_size T.rows
      refine call_len_set at_ ex dat (Tb.fits (s := { s1 with heap := h', toks := tk }) T) (by rw [n1]; have := T.few; omega) ⟨.int _, H1, I2.tok _, ⟨_, rfl⟩, ?_⟩
      have n2 := part_len l2 g T.nd
      rw [n1, n2]
      exact q1 F1 H1 (.refl fs) _ (.int _)
    · exact q1.elim
theorem ints_reps {F : Hp} : ∀ l : List Int, Reps X.K xa F (l.map V.int) (l.map D.int)
  | [] => .nil
  | i :: l => .cons (.int i) (ints_reps l)
/-- sorted(set(xs)) -/
theorem rf_sortedSet (hc : X.calm = true) (hg : Gl X "sorted") (hm : X.mg "sorted" = none) (hg2 : Gl X "set") (hm2 : X.mg "set" = none) (ha : RB X xa W a fa)
    (na : starEach [a] X.env = (false, eval a X.env) :: starEach [] X.env := by rfl) : RF X xa W (.Call (.Name "sorted" p) [.Call (.Name "set" p2) [a] [] q] [] pos) (e1 D.sortedSet fa) := by
  refine ⟨⟨fun pins s σ H Q I ⟨B, F, env, S, h⟩ => ?_⟩⟩
  refine Call_ (ld_blt I hg hm (u := .builtin "sorted") (by decide +kernel) (PyProof.Rows.callWith_builtin1 (PyProof.Rows.args_cons (?_) rfl) rfl rfl))
  have h1 := (Post.bind (r := fa env) h).imp fun d F1 H1 _ x1 q1 v1 (b1 : Bor X.K xa F1 H1 v1 d) => show (∃ F1 d, Kp xa.tb H H1 ∧ Same F1 H1 ∧ Bor X.K xa F1 H1 v1 d ∧ Post xa W σ F1 H1 (D.sortedSet d) fun d' F' H' => ∀ a, H a = none → F' a = none → OwnAt X.K xa F' H' a d' → Q (.ref a) H') from ⟨F1, d, x1.h, x1.le, b1, q1⟩
  refine Call_ (ld_blt I hg2 hm2 PyProof.Rows.boot_set (PyProof.Rows.callWith_type1 (PyProof.Rows.args_cons (thn (ha.pe.run pins s σ H _ I ⟨B, F, env, S, h1⟩) fun v s1 ⟨x, H1, I1, r1, q1⟩ => PyProof.Rows.args_nil ?_) na) na rfl))
  obtain ⟨F1, d, hh, fs, b1, q1⟩ := q1
  cases d <;> try exact q1.elim
  rename_i ds
  obtain ⟨l, xs, rfl, el, rs⟩ := b1.lst_ fs
  simp only [D.sortedSet] at q1
  cases e1 : ints? ds with
  | none => rw [e1] at q1; exact q1.elim
  | some is =>
    rw [e1] at q1
    simp only at q1
    split at q1
    · rename_i few
      have l1 := ints_vals rs e1
      cases r1
      obtain ⟨its, rv, pl, hz⟩ := I1.list (SqL.of el)
      rw [l1] at rv
      refine set_ints is (I1.ok.hd hc) pl.isList (by simpa using intsAre_of rv) (by unfold scanBound; omega) fun h' tk c R le keep => ?_
      refine PyProof.Rows.args_nil ?_
      have I2 : Inv X pins σ H1 { s1 with heap := h', toks := tk } := I1.kept fun b o e => keep b o e
      refine sorted_set R (I2.ok.hd hc) (by omega) fun z p out c ns kp g o hp hg hi hs hm hl => ?_
      have en : ns = setI is := pw_uniq hs (setI_pw is) fun x => by rw [hm x, mem_setI, decide_eq_true_eq]
      have hlen : (ns.map V.int).length ≤ sizeLine := by rw [List.length_map, hl, sizeLine_eq]; omega
      have hn : H1 p = none := I2.hok.fresh hp
      have J : Inv X pins σ (upd H1 p (.lst (ns.map V.int))) { ({ s1 with heap := h', toks := tk } : Shared) with heap := z.heap, gens := z.gens, drawn := z.drawn, toks := z.toks } :=
        I2.call (ch := []) (Un.laid kp hp hn) (I2.hok.laid kp hp ⟨hlen, out.toList, c, vals_of_ints hi, hg⟩) (by rw [g]; exact I2.bare) (fun _ z => nomatch z)
      have e : z = { s1 with heap := z.heap, gens := z.gens, drawn := z.drawn, toks := z.toks } := by
        cases z; cases s1; cases o; rfl
      rw [e]
      refine ⟨.ref p, _, J, rfl, q1 F1 _ (.heap fs hn) p (hh.free hn) (fs.free hn) ⟨_, upd_same, ?_⟩⟩
      rw [en]
      exact ints_reps _
    · exact q1.elim
end
end Tw.MS

set_option autoImplicit false
set_option Elab.async false
set_option linter.all false
set_option maxRecDepth 100000
/-! Tw, t[::-1], t a tuple. -/
namespace Tw
open PySem L2
section
variable {prog : Program} {w : World} {A : Around} {E : Value → Shared → Prop} {s : Shared}
theorem applied_rev {sl : Addr} {t : Tok} {n : Nat} {Q : Int × Int × Nat → Shared → Prop} (hs : s.heap.IsSliceOf sl .none .none (.int (-1) t)) (h : Q ((n : Int) - 1, -1, n) s) :
    wpAny (model prog w) A (Builtin.Slice.sliceApplied (.ref sl) (pure (n : Int))) Q E s := by
  obtain ⟨os, hos, hcs, hds⟩ := id hs
  unfold Builtin.Slice.sliceApplied Builtin.Slice.sliceFields
  refine wpAny_bind (wpAny_bind (wpAny_field hos hds (x := .none) rfl (wpAny_bind (wpAny_field hos hds (x := .none) rfl (wpAny_bind (wpAny_field hos hds (x := .int (-1) t) rfl (wpAny_pure (?_))))))))
  refine wpAny_bind (PyProof.Rows.slicePart_int (show wpAny _ _ (if ((-1 : Int) == 0) = true then _ else _) _ _ s from (?_)))
  rw [if_neg (by decide)]
  refine wpAny_bind (PyProof.Rows.slicePart_none (wpAny_bind (PyProof.Rows.slicePart_none (wpAny_bind (wpAny_pure (?_))))))
  have e1 : Builtin.Slice.sliceAdjust none none (-1) (n : Int) = ((n : Int) - 1, -1) := rfl
  have e2 : Builtin.Slice.slicePlaces ((n : Int) - 1) (-1) (-1) = n := by
    unfold Builtin.Slice.slicePlaces
    have h1 : ¬ ((-1 : Int) > 0) := by decide
    have h2 : (- (-1 : Int)) = 1 := by decide
    simp only [h1, if_false, h2, Int.ediv_one]
    split <;> omega
  show wpAny _ _ (match Builtin.Slice.sliceAdjust none none (-1) (n : Int) with | (lo, hi) => pure (lo, (-1 : Int), Builtin.Slice.slicePlaces lo hi (-1))) _ _ s
  rw [e1]
  show wpAny _ _ (pure ((n : Int) - 1, (-1 : Int), Builtin.Slice.slicePlaces ((n : Int) - 1) (-1) (-1))) _ _ s
  rw [e2]
  exact wpAny_pure h
theorem pick_rev (xs : Array Value) : ((List.range xs.size).filterMap fun (m : Nat) => xs[(((xs.size : Int) - 1) + (m : Int) * -1).toNat]?).toArray = xs.toList.reverse.toArray := by
  have e : (List.range xs.size).filterMap (fun (m : Nat) => xs[(((xs.size : Int) - 1) + (m : Int) * -1).toNat]?) = ((List.range xs.size).map fun m => xs.size - 1 - m).filterMap fun i => xs[i]? := by
    rw [List.filterMap_map]
    have all : ∀ l : List Nat, (∀ m ∈ l, m < xs.size) → l.filterMap (fun (m : Nat) => xs[(((xs.size : Int) - 1) + (m : Int) * -1).toNat]?) = l.filterMap ((fun i => xs[i]?) ∘ fun m => xs.size - 1 - m) := by
      intro l
      induction l with
      | nil => intro _; rfl
      | cons m l ih =>
        intro h
        have hm := h m List.mem_cons_self
        have e : (((xs.size : Int) - 1) + (m : Int) * -1).toNat = xs.size - 1 - m := by omega
        rw [List.filterMap_cons, List.filterMap_cons, ih fun k hk => h k (List.mem_cons_of_mem _ hk), e]
        rfl
    exact all _ fun m hm => List.mem_range.mp hm
  rw [e, PySem.W.krv_range, List.filterMap_reverse, PySem.W.krv_all]
theorem item_rev {t sl : Addr} {items : Array Value} {k : Tok} {Q : Value → Shared → Prop} (ht : PyProof.Rows.IsTup s.heap t items) (hs : s.heap.IsSliceOf sl .none .none (.int (-1) k)) (hz : items.size ≤ sizeLine)
    (h : Q (.ref s.heap.objs.size) { s with heap := s.heap.push { cls := .type "tuple", data := .seq items.toList.reverse.toArray } }) : wpAny (model prog w) A (getItem (.ref t) (.ref sl)) Q E s := by
  have fits : sizeOk (.seq items.toList.reverse.toArray) := by
    show items.toList.reverse.toArray.size ≤ sizeLine
    simpa using hz
  obtain ⟨os, h1, h2, h3⟩ := id hs
  have ty : s.TypeIs (.ref sl) "slice" := ⟨os, h1, h2⟩
  unfold getItem
  try with_reducible refine wpAny_holding (?_)
  first | refine wpAny_bind (wpAny_pure (?_)) | skip
  refine wpAny_bind (wpAny_sequenceKey ht.typeIs (by decide) (wpAny_bind (wpAny_callSpecial?_slot (name := Str.ofString "__getitem__") ht.typeIs PyProof.Rows.slot_tuple_getitem (wpAny_call_entry PyProof.Rows.slot_tuple_getitem ht.typeIs PyProof.Rows.entry_tuple_getitem (?_) (PyProof.Rows.args_tuple_getitem _ _)))))
  refine (show wpAny _ _ (Builtin.Tuple.tupleItemsOf (.ref t) >>= _) _ _ s from wpAny_bind (PyProof.Rows.tupleItemsOf_ ht (wpAny_bind (wpAny_typeOf ty (?_)))))
  rw [if_pos (by decide)]
  refine wpAny_bind (applied_rev hs (?_))
  have no : ¬ ((((items.size : Int) - 1) == 0 && (-1 : Int) == 1 && items.size == items.size) = true) := by
    intro z
    rw [Bool.and_eq_true, Bool.and_eq_true] at z
    exact absurd z.1.2 (by decide)
  show wpAny _ _ (if (((items.size : Int) - 1) == 0 && (-1 : Int) == 1 && items.size == items.size) = true then _ else _) _ _ s
  rw [if_neg no, pick_rev]
  first
    | exact wpAny_bind (m := Builtin.Tuple.tupleExact _) (wpAny_newObj_type (wpAny_pure ⟨_, rfl, wpAny_pure h⟩) fits)
    | exact wpAny_bind (m := Builtin.Tuple.tupleExact _) (wpAny_newObj_type (wpAny_bind (wpAny_pure (wpAny_pure ⟨_, rfl, wpAny_pure h⟩))) fits)
    | exact wpAny_bind (wpAny_bind (m := Builtin.Tuple.tupleExact _) (wpAny_newObj_type (wpAny_pure (wpAny_pure ⟨_, rfl, wpAny_pure h⟩)) fits))
    | exact wpAny_bind (wpAny_bind (m := Builtin.Tuple.tupleExact _) (wpAny_newObj_type (wpAny_pure ⟨_, rfl, wpAny_pure h⟩) fits))
end
section
variable {X : Cx} {xa : XA} {W : WX} {a : Expr} {fa : E}
/-- t[::-1] -/
theorem re_revT {k : Nat} {p1 p2 p3 pos : Pos} (ha : RB X xa W a fa) : RE X xa W (.Subscript a (.Slice none none (some (.UnaryOp .USub (.Constant (.int 1) k p1) p2)) p3) pos) (e1 D.revT fa) := by
  refine ⟨⟨fun pins s σ H Q I ⟨B, F, env, S, h⟩ => ?_⟩⟩
  have h1 := (Post.bind (r := fa env) h).imp fun d F1 H1 _ x1 q1 v1 (b1 : Bor X.K xa F1 H1 v1 d) => show (∃ F1 d, Same F1 H1 ∧ Bor X.K xa F1 H1 v1 d ∧ Post xa W σ F1 H1 (D.revT d) fun d' F' H' => ∀ v, Rep X.K xa F' v d' → Q v H') from ⟨F1, d, x1.le, b1, q1⟩
  refine PyProof.Rows.Subscript_ (thn (ha.pe.run pins s σ H _ I ⟨B, F, env, S, h1⟩) fun v s1 ⟨x, H1, I1, r1, q1⟩ => ?_)
  obtain ⟨F1, d, fs, b1, q1⟩ := q1
  cases d <;> try exact q1.elim
  rename_i ds
  obtain ⟨l, xs, rfl, el, rs⟩ := b1.tup_
  cases r1
  have step : PO X (some (.UnaryOp .USub (.Constant (.int 1) k p1) p2)) (tPart (tUn (rU fun i => .int (-i)) (tC (.int 1)))) := po_some (pe_un un_neg pe_int)
  refine wpAny_Slice (thn (po_none.run pins s1 σ H1 (fun o H2 => o = none ∧ H2 = H1) I1 ⟨rfl, rfl⟩) fun vl s2 ⟨o1, H2, I2, pl, e1, e2⟩ => thn (po_none.run pins s2 σ H2 (fun o H3 => o = none ∧ H3 = H2) I2 ⟨rfl, rfl⟩) fun vu s3 ⟨o2, H3, I3, pu, e3, e4⟩ => thn (step.run pins s3 σ H3 (fun o H4 => o = some (-1) ∧ H4 = H3) I3 ⟨1, rfl, -1, rfl, rfl, rfl⟩) fun vs s4 ⟨o3, H4, I4, ps, e5, e6⟩ => ?_)
  subst e1 e2 e3 e4 e5 e6
  cases pl; cases pu
  obtain ⟨tk, rfl⟩ : ∃ tk, vs = .int (-1) tk := by cases ps; exact ⟨_, rfl⟩
  have I5 : Inv X pins σ H4 { s4 with heap := s4.heap.push { cls := .type "slice", data := .fields #[.none, .none, .int (-1) tk] } } := I4.kept (t' := s4.toks) fun b ob q => Heap.get?_push_of_some _ q
  obtain ⟨its, r, ht, hz⟩ := I5.tuple (SqT.of (fs _ _ el))
  have hlen := r.length
  show wpAny (model X.prog X.w) X.A (PyProof.Rows.subscriptTail a (.Slice none none (some (.UnaryOp .USub (.Constant (.int 1) k p1) p2)) p3) (.ref l) (.ref s4.heap.objs.size)) (EP X pins σ Q) X.xe { s4 with heap := s4.heap.push { cls := .type "slice", data := .fields #[.none, .none, .int (-1) tk] } }
  refine PyProof.Rows.tail_any (ops := [.ref l, .ref s4.heap.objs.size]) ht.typeIs PyProof.Rows.slot_tuple_getitem.lookup (?_) (by with_unfolding_all rfl)
  refine item_rev ht (Heap.IsSliceOf.new _ .none .none (.int (-1) tk)) (by rw [List.size_toArray]; omega) (?_)
  have n : H4 (s4.heap.push { cls := .type "slice", data := .fields #[.none, .none, .int (-1) tk] }).objs.size = none := I5.hok.fresh (Nat.le_refl _)
  refine ⟨.ref _, _, I5.laid (t' := s4.toks) (o := .tup xs.reverse) (fun b ob q => Heap.get?_push_of_some _ q) (Nat.le_refl _) (?_), rfl, (q1 : Post xa W σ F1 H4 (Res.ok (D.tup ds.reverse)) fun d' F' H' => ∀ v, Rep X.K xa F' v d' → Q v H') _ _ (.grow fs n) _ (.tup upd_same (rs.reverse.on (same_upd (fs.free n))))⟩
  exact ⟨by rw [List.length_reverse]; exact hz, _, r.reverse, ⟨_, Heap.get?_push_size _ rfl, rfl, 0, by simp⟩⟩
theorem re_split {f g h : E} {t : Expr} (ha : RE X xa W t g) (hb : RE X xa W t h) (s : ∀ env, f env = g env ∨ f env = h env) : RE X xa W t f := ⟨⟨fun pins sh σ H Q I ⟨B, F, env, S, q⟩ => by
  rcases s env with e | e
  · exact ha.pe.run pins sh σ H Q I ⟨B, F, env, S, by rw [← e]; exact q⟩
  · exact hb.pe.run pins sh σ H Q I ⟨B, F, env, S, by rw [← e]; exact q⟩⟩⟩
/-- a[::-1], a list or a tuple -/
theorem re_rv {k : Nat} {p1 p2 p3 pos : Pos} (ha : RB X xa W a fa) : RE X xa W (.Subscript a (.Slice none none (some (.UnaryOp .USub (.Constant (.int 1) k p1) p2)) p3) pos) (e1 D.rev fa) :=
  re_split (re_rev ha) (re_revT ha) fun env => by
    unfold e1
    cases fa env with
    | ok d => cases d <;> first | exact .inl rfl | exact .inr rfl
    | err c => exact .inl rfl
    | stk => exact .inl rfl
end
end Tw

set_option autoImplicit false
set_option Elab.async false
set_option linter.all false
set_option maxRecDepth 100000
/-! Tw: lambdas made. -/
namespace Tw
open PySem L2 LamX
/-- what is known of a def that makes lambdas: its code object, its table -/
structure LamT (X : Cx) (xa : XA) (c P : Addr) : Prop where
  tb : TabB X.base X.mg c P
  code : X.env.code = .ref c
  mem : (P, X.env.qual ++ "<lambda>") ∈ xa.tb
  uniq : ∀ p ∈ xa.tb, p.1 = P → p.2 = X.env.qual ++ "<lambda>"
abbrev lamObj (X : Cx) (params : Arguments) (body : Expr) (scope : Scope) (pm : Value) (c' : Addr) (ctv : Value) : Obj := PySem.W.kla_obj "<lambda>" (X.env.qual ++ "<lambda>") params body scope (cloFrom X.env.cells scope.names []) pm c' ctv
section
variable {X : Cx} {xa : XA} {pins : List (Addr × Obj)} {σ : L2.St} {H : Hp} {s : Shared} {c P : Addr} {params : Arguments} {body : Expr} {scope : Scope} {pos : Pos} {E : Value → Shared → Prop} {Q : Value → Shared → Prop}
theorem kp_code {T : List (Addr × Str)} {ps more : Array Value} {c' : Addr} {q : Str} (hP : H P = some (.tbl ps)) (nC : H c' = none)
    (tab : Tabs T H → Tabs T (upd (upd H P (.tbl (ps ++ more))) c' (CodeO c' q))) : Kp T H (upd (upd H P (.tbl (ps ++ more))) c' (CodeO c' q)) := by
  refine ⟨fun b o t e => ?_, fun b o e t => ?_, tab⟩
  · have n1 : b ≠ c' := ne_of_none e nC
    have n2 : b ≠ P := fun z => by subst z; rw [hP] at e; cases e; cases t
    rw [upd_ne n1, upd_ne n2]; exact e
  · rw [upd_ne (ne_of_none e nC)]
    by_cases z : b = P
    · subst z; exact ⟨_, rfl, upd_same⟩
    · rw [upd_ne z]; exact ⟨o, t, e⟩
/-- a lambda is made -/
theorem lam_mk (I : Inv X pins σ H s) (LT : LamT X xa c P) (hT : Tabs xa.tb H) (hdef : defaultsOf params X.env = ([], [])) (hfree : ∀ y ∈ scope.names, y.2 = .free → ∃ c, X.env.cells.lookup y.1 = some c)
    (h : ∀ (f c' : Addr) (pm ctv : Value) (H1 : Hp) (s' : Shared), Inv X pins σ H1 s' → Kp xa.tb H H1 → s'.heap.get? f = some (lamObj X params body scope pm c' ctv) → H1 f = none → f ∉ frs X.stack →
      H1 c' = some (CodeO c' (X.env.qual ++ "<lambda>")) → Q (.ref f) s') : wpAny (model X.prog X.w) X.A (eval (.Lambda params body scope pos) X.env) Q E s := by
  obtain ⟨ps, hP, ok, kn⟩ := hT _ LT.mem
  have bP := LT.tb.bm.keeps I.bk
  have gP : s.heap.get? P = some (PySem.W.tabObj ps) := I.hok P _ hP
  have away : ∀ f, s.heap.objs.size ≤ f → f ∉ frs X.stack := fun f hf z => by
    rcases List.mem_cons.mp (I.stkSub _ z) with e | e
    · exact absurd (by rw [e]; exact I.lt) (Nat.not_lt.mpr hf)
    · exact I.nofs hf e
  refine PySem.W.kla_eval hdef ?_
  cases hc : codeAmong pos ps.toList with
  | some cv =>
    obtain ⟨c', rfl, co⟩ := kn pos cv hc
    refine PySem.W.kla_makeFunctionHit (mg := X.mg) (c := c) (P := P) (ps := ps) (closure_ok hfree) I.ok.glob (I.mod.glob.keeps I.bk) LT.code
      (LT.tb.code.keeps I.bk) gP ok hc bP fun ctv g tk kx hs => ?_
    exact h _ _ _ _ H _ (I.kept fun b o e => Heap.get?_push_of_some _ (kx b o e)) (.refl _) (Heap.get?_push_size _ rfl) (I.hok.fresh hs) (away _ hs) co
  | none =>
    refine PySem.W.kla_makeFunction (mg := X.mg) (c := c) (P := P) (ps := ps) (closure_ok hfree) I.ok.glob (I.mod.glob.keeps I.bk) LT.code
      (LT.tb.code.keeps I.bk) gP ok hc LT.tb.gP bP fun c' ctv g tk kx l1 l2 rec_ tb_ => ?_
    obtain ⟨c0, oc, vs, t, e0, g1, g2, g3⟩ := rec_
    cases e0
    have nC : H c' = none := I.hok.fresh l1
    have up := Nat.le_trans l1 (Nat.le_of_lt l2)
    have spl : (ps ++ #[rawInt pos.line, rawInt pos.col, .ref c']).toList = ps.toList ++ [rawInt pos.line, rawInt pos.col, .ref c'] := by simp
    have J := inv_table (q := X.env.qual ++ "<lambda>") (t' := tk) (more := #[rawInt pos.line, rawInt pos.col, .ref c']) (h' := g.push (lamObj X params body scope ((X.mg "__name__").getD .none) c' ctv)) I hP
      (fun b o hb e => Heap.get?_push_of_some _ (kx b o hb e)) (Heap.get?_push_of_some _ tb_) l1 ⟨oc, vs, t, Heap.get?_push_of_some _ g1, g2, g3⟩
    have kp : Kp xa.tb H (upd (upd H P (.tbl (ps ++ #[rawInt pos.line, rawInt pos.col, .ref c']))) c' (CodeO c' (X.env.qual ++ "<lambda>"))) := kp_code hP nC fun tt p hp => by
      have keep : ∀ b u, H b = some (CodeO b u) → upd (upd H P (.tbl (ps ++ #[rawInt pos.line, rawInt pos.col, .ref c']))) c' (CodeO c' (X.env.qual ++ "<lambda>")) b = some (CodeO b u) := fun b u e => by
        rw [upd_ne (ne_of_none e nC), upd_ne fun z => by rw [z, hP] at e; cases e]; exact e
      by_cases hb : p.1 = P
      · rw [LT.uniq p hp hb, hb]
        refine ⟨_, by rw [upd_ne (ne_of_none hP nC), upd_same], by rw [spl]; exact PySem.TriplesOk_snoc _ _ _ _ ok, fun p' cv hv => ?_⟩
        rw [spl] at hv
        rcases among_app _ ok hv with z | z
        · obtain ⟨c1, e1, e2⟩ := kn p' cv z
          exact ⟨c1, e1, keep _ _ e2⟩
        · exact ⟨c', z, upd_same⟩
      · obtain ⟨qs, a1, a2, a3⟩ := tt p hp
        refine ⟨qs, by rw [upd_ne (ne_of_none a1 nC), upd_ne hb]; exact a1, a2, fun p' cv hv => ?_⟩
        obtain ⟨c1, e1, e2⟩ := a3 p' cv hv
        exact ⟨c1, e1, keep _ _ e2⟩
    refine h g.objs.size c' _ ctv _ _ J kp (Heap.get?_push_size _ rfl) ?_ (away _ up) upd_same
    have lP := Heap.lt_size gP
    rw [upd_ne (Nat.ne_of_gt l2), upd_ne (Nat.ne_of_gt (Nat.lt_of_lt_of_le lP up))]
    exact I.hok.fresh up
end
end Tw

set_option autoImplicit false
set_option Elab.async false
set_option linter.all false
set_option maxRecDepth 100000
/-! Tw: sorted(x, key=lambda y: y[i]), x a list or a tuple. -/
namespace Tw
open PySem PySem.W PyProof.Rows
section
variable {prog : Program} {w : World} {A : Around} {E : Value → Shared → Prop} {s : Shared}
theorem tup_collected {t : Addr} {vs : List Value} {Q : List Value → Shared → Prop} (ht : IsTup s.heap t vs.toArray) (hz : vs.length ≤ sizeLine)
    (h : Q vs { s with heap := (s.heap.push (seqObj "list" #[] 0)).update s.heap.objs.size (Obj.mapSeq (· ++ vs.toArray)) }) : wpAny (model prog w) A (collect (.ref t)) Q E s := by
  obtain ⟨o, ho, hc, n, hd⟩ := id ht
  have ho1 : (s.heap.push (seqObj "list" #[] 0)).get? t = some o := Heap.get?_push_of_some _ ho
  unfold collect
  refine wpAny_bind (wpAny_runValue (codeAny_builtin entry_proto_collect' ?_))
  show wpAny _ _ (newList [] >>= fun l => again (.builtin "list.__iadd__" ⟨[l, .ref t], []⟩)) _ _ s
  refine wpAny_bind (wpAny_newList (wpAny_pure ⟨Code.quiet_builtin _ (by decide +kernel), codeAny_builtin entry_list_iadd' ?_⟩))
  show wpAny _ _ (Builtin.List.listExtendWith (.ref s.heap.objs.size) (.ref t) (.ref s.heap.objs.size)) _ _ ({ s with heap := s.heap.push (seqObj "list" #[] 0) } : Shared)
  unfold Builtin.List.listExtendWith
  refine wpAny_bind (wpAny_typeOf (T := "tuple") ⟨o, ho1, hc⟩ ?_)
  rw [if_pos (by rw [show (Value.type "tuple" == Value.type "tuple") = true from rfl]; simp)]
  refine wpAny_bind (listItems_at ho1 hd ?_)
  refine wpAny_bind (listItems_at (xs := #[]) (n := 0) (Heap.get?_push_size _ rfl) rfl ?_)
  rw [if_neg (by simp)]
  refine wpAny_bind (listUpdate_at (xs := #[]) (n := 0) (Heap.get?_push_size _ rfl) rfl ?_ (Nat.zero_le _) (by simp; omega))
  refine wpAny_pure ?_
  show wpAny (model prog w) A (load s.heap.objs.size >>= fun o => match o.data with
    | .seq xs _ => pure xs.toList
    | _ => unsupported "internal:collect") Q E ({ s with heap := (s.heap.push (seqObj "list" #[] 0)).update s.heap.objs.size (Obj.mapSeq (· ++ vs.toArray)) } : Shared)
  refine wpAny_bind (wpAny_load (get?_update_seq (Heap.get?_push_size _ rfl) _) ?_)
  have e : ((#[] : Array Value) ++ vs.toArray).toList = vs := by simp
  show wpAny _ _ (pure ((#[] : Array Value) ++ vs.toArray).toList) Q E _
  rw [e]
  exact wpAny_pure h
/-- sorted(t, ..) of a tuple -/
theorem tup_sorted {t : Addr} {vs : List Value} {kw : List (Str × Value)} {Q : Value → Shared → Prop} (ht : IsTup s.heap t vs.toArray) (hz : vs.length ≤ sizeLine) (ha1 : argsOk "sorted" ⟨[.ref t], kw⟩) (ha2 : ∀ x, argsOk "list.sort" ⟨[.ref x], kw⟩)
    (b : ∀ E' : Value → Shared → Prop, wpAny (model prog w) A.in1.in1 (Builtin.«list.sort» ⟨[.ref (s.heap.objs.size + 1)], kw⟩) (fun f s' => f = .done (.ret .none) ∧ Q (.ref (s.heap.objs.size + 1)) s') E' { s with heap := copyHeap s.heap vs }) :
    wpAny (model prog w) A (call (.builtin "sorted") [.ref t] kw) Q E s := by
  refine call_function_entry_kw kind_sorted plain_sorted entry_sorted ha1 ?_
  unfold Builtin.«sorted»
  refine wpAny_bind (m := checkCount "sorted" 1 1 _) (wpAny_pure ?_)
  refine wpAny_bind (tup_collected ht hz ?_)
  refine wpAny_bind (wpAny_newList ?_ hz)
  have sz : ((s.heap.push (seqObj "list" #[] 0)).update s.heap.objs.size (Obj.mapSeq (· ++ vs.toArray))).objs.size = s.heap.objs.size + 1 := by rw [Heap.size_update, size_push']
  show wpAny _ _ _ _ _ ({ s with heap := copyHeap s.heap vs } : Shared)
  rw [sz]
  refine wpAny_bind (wpAny_holding (wpAny_call_entry_kw slot_list_sort ⟨_, copyHeap_at s.heap vs, rfl⟩ entry_list_sort ?bd (ha2 _)))
  case bd =>
    refine wpAny_mono (b _) (fun f s' hf => ?_) fun _ _ e => e
    obtain ⟨h1, hq⟩ := hf
    subst h1
    exact ⟨_, rfl, wpAny_pure ⟨_, rfl, hq⟩⟩
/-- sorted(t, key=f) of a tuple, as sorted_key_data of a list -/
theorem tup_sorted_key {β : Type} {R : Value → β → Prop} {bs : List β} {t : Addr} {vs : List Value} {f : Value} {kw : List (Str × Value)} {Q : Value → Shared → Prop} (k : β → PyData) (ht : IsTup s.heap t vs.toArray) (e : EachIs R vs bs) (al : AllAlike (bs.map k)) (so : Sortable (bs.map k)) (hz : bs.length ≤ sizeLine)
    (hu : ∀ x, x ∈ bs → A.units + 2 + (k x).depth < cLine) (ha1 : argsOk "sorted" ⟨[.ref t], kw⟩) (ha2 : ∀ x, argsOk "list.sort" ⟨[.ref x], kw⟩) (hk : ∀ x, Builtin.«list.sort» ⟨[.ref x], kw⟩ = ksk_tree x f false)
    (turn : ∀ (v : Value) (x : β), R v x → x ∈ bs → ∀ (h : Heap) (tk : Nat), (∀ b o, s.heap.get? b = some o → h.get? b = some o) → wpAny (model prog w) A.in1.in1 (call f [v]) (KeyPure (k x) { s with heap := h, toks := tk }) (fun _ _ => False) { s with heap := h, toks := tk })
    (h : ∀ out c h' tk, (∀ b o, s.heap.get? b = some o → h'.get? b = some o) → h'.get? (s.heap.objs.size + 1) = some (seqObj "list" (List.toArray out) c) → out.length = bs.length → EachIs R out (bs.mergeSort (dataLe false k)) → Q (.ref (s.heap.objs.size + 1)) { s with heap := h', toks := tk }) :
    wpAny (model prog w) A (call (.builtin "sorted") [.ref t] kw) Q E s := by
  have up : ∀ {g : Heap}, KeepsBut (s.heap.objs.size + 1) (copyHeap s.heap vs) g → ∀ b o, s.heap.get? b = some o → g.get? b = some o := fun {g} kp b o q =>
    kp b o (Nat.ne_of_lt (Nat.lt_succ_of_lt (Heap.lt_size q))) (copyHeap_old q)
  have l1 : (bs.map k).length = vs.length := by rw [List.length_map]; exact e.length.symm
  refine tup_sorted ht (by rw [e.length]; exact hz) ha1 ha2 fun E' => ?_
  rw [hk]
  refine keyH_tree (kz := bs.map k) (s := { s with heap := copyHeap s.heap vs }) (copyHeap_at s.heap vs) l1 (by rw [e.length]; exact hz) al so (bound_map (A := A.in1.in1) hu)
    (keyH_turns (s := { s with heap := copyHeap s.heap vs }) e fun v x hR hx h tk kp => turn v x hR hx h tk (up kp)) fun h' tk out c kp hD ko => ⟨rfl, ?_⟩
  exact h out c h' tk (up kp) hD ((ko.length l1).trans e.length) (keyedOut_each k ko e)
/-- y[i], y the one parameter: a tuple -/
theorem key_item {f c' : Addr} {q y : Str} {params : Arguments} {scope : Scope} {cl : List (Str × Addr)} {pm ctv u : Value} {p1 p2 p3 : Pos} {i j : Nat} {t : Addr} {items : Array Value} (dp : A.depth < recursionLimit)
    (ho : s.heap.get? f = some (kla_obj "<lambda>" q params (.Subscript (.Name y p1) (.Constant (.int (i : Int)) j p2) p3) scope cl pm c' ctv)) (cd : s.heap.CodeRec (.ref c') q) (lim : s.heap.NoLimit)
    (hb : bindArgs (kla_fn "<lambda>" q params (.Subscript (.Name y p1) (.Constant (.int (i : Int)) j p2) p3) scope cl pm (.ref c') ctv) ⟨[.ref t], []⟩ = pure [(y, .ref t)])
    (hk : scope.kind = .function) (hco : scope.isCoroutine = false) (hge : scope.isGenerator = false) (hce : ∀ x ∈ scope.names, x.2 ≠ .cell) (hl : scope.names.lookup y = some .local) (hd : (y == ("__debug__" : Str)) = false)
    (ht : IsTup s.heap t items) (hi : items[i]? = some u) (hz : items.size ≤ sizeLine) :
    wpAny (model prog w) A (call (.ref f) [.ref t]) (fun r s' => r = u ∧ ∃ h' tk, s' = { s with heap := h', toks := tk } ∧ ∀ b o, s.heap.get? b = some o → h'.get? b = some o) (fun _ _ => False) s := by
  refine wpAny_call ?_
  refine kla_callFunE dp ho rfl hco hge rfl cd ?_
  rw [hb]
  refine wpAny_pure (wpAny_newFunctionEnv hce (fun x hx => by rcases List.mem_singleton.mp hx with rfl; exact hl) (fun h₁ hns hsb => ⟨lim.fresh _ hsb, ?_⟩) hk)
  have kp : ∀ b o, s.heap.get? b = some o → h₁.get? b = some o := fun b o e => hsb.extBut b o (Nat.ne_of_lt (Heap.lt_size e)) (Heap.get?_push_of_some _ e)
  refine kla_codeExpr ?_
  refine Subscript_ (wpAny_Name (wpAny_loadName_local hk hl hns (v := .ref t) (by simp [List.lookup]) ?_) hd)
  refine wpAny_Constant_int ?_
  have ht1 : IsTup h₁ t items := ht.keeps kp
  have line : sizeLine < 2 ^ 62 := by unfold sizeLine; decide
  have il : i < items.size := (Array.getElem?_eq_some_iff.mp hi).1
  refine subscriptTail_builtinR (x := u) (IsTup.typeIs ht1) slot_tuple_getitem.lookup (getItem_tuple (j := i) ht1 (by omega) (by omega) ?_ hi ⟨rfl, rfl, _, _, rfl, kp⟩) (by with_unfolding_all rfl)
  exact seqIx (by omega) (by omega)
end
end Tw

set_option autoImplicit false
set_option Elab.async false
set_option linter.all false
set_option maxRecDepth 100000
/-! Tw: the rule for sorted(x, key=lambda y: y[i]). -/
namespace Tw
open PySem L2 PySem.W LamX
/-! ### keys -/
theorem strs_flat : ∀ {xs : List D} {ss : List Nm}, strs? xs = some ss → (ss.all fun s => s.all fun c => decide (c < 1114112)) = true → ∀ n, D.flats n xs = true
  | [], _, _, _, _ => by simp [D.flats]
  | .str s :: r, ss, h, g, n => by
    simp only [strs?] at h
    cases q : strs? r with
    | none => rw [q] at h; cases h
    | some rs =>
      rw [q] at h
      cases h
      simp only [List.all_cons, Bool.and_eq_true] at g
      simp only [D.flats, D.flat, Bool.and_eq_true]
      exact ⟨g.1, strs_flat q g.2 n⟩
  | .non :: _, _, h, _, _ => by cases h
  | .bl _ :: _, _, h, _, _ => by cases h
  | .int _ :: _, _, h, _, _ => by cases h
  | .tup _ :: _, _, h, _, _ => by cases h
  | .lst _ :: _, _, h, _, _ => by cases h
  | .dct _ _ :: _, _, h, _, _ => by cases h
  | .exc _ :: _, _, h, _, _ => by cases h
  | .inp _ :: _, _, h, _, _ => by cases h
theorem strs_alks : ∀ {xs ys : List D} {ss ts : List Nm}, strs? xs = some ss → strs? ys = some ts → D.alks xs ys = true
  | [], _, _, _, _, _ => by simp [D.alks]
  | _ :: _, [], _, _, _, _ => by simp [D.alks]
  | x :: xs, y :: ys, ss, ts, h, g => by
    cases x with
    | str s =>
      cases y with
      | str t =>
        simp only [strs?] at h g
        cases q : strs? xs with
        | none => rw [q] at h; cases h
        | some rs =>
          cases p : strs? ys with
          | none => rw [p] at g; cases g
          | some us => simp only [D.alks, D.alk, Bool.true_and]; exact strs_alks q p
      | _ => cases g
    | _ => cases h
theorem mergeSort_congr {α : Type} {r t : α → α → Bool} {l : List α} (h : ∀ a ∈ l, ∀ b ∈ l, r a b = t a b) : l.mergeSort r = l.mergeSort t := by
  have := List.map_mergeSort (f := id) (r := r) (s := t) (l := l) h
  simpa using this
/-- one kind of keys -/
structure Keyed (k : D) (n : Nat) : Prop where
  flat : D.flat 40 k = true
  kd : (n = 1 ∧ ∃ i, k = .int i) ∨ (n = 2 ∧ ∃ s, k = .str s) ∨ (n = 3 ∧ ∃ xs ss, k = .tup xs ∧ strs? xs = some ss ∧ xs ≠ [])
theorem keyed_of {k : D} {n : Nat} (h : keyOk k = n) (hn : n ≠ 0) : Keyed k n := by
  subst h
  cases k with
  | int i => exact ⟨by simp [D.flat], .inl ⟨rfl, i, rfl⟩⟩
  | str s =>
    simp only [keyOk] at hn ⊢
    split at hn
    · rename_i q; rw [if_pos q]; exact ⟨by simpa [D.flat] using q, .inr (.inl ⟨rfl, s, rfl⟩)⟩
    · exact absurd rfl hn
  | tup xs =>
    simp only [keyOk] at hn ⊢
    cases q : strs? xs with
    | none => rw [q] at hn; exact absurd rfl hn
    | some ss =>
      cases ss with
      | nil => rw [q] at hn; exact absurd rfl hn
      | cons s ss =>
        rw [q] at hn
        simp only at hn ⊢
        split at hn
        · rename_i g
          rw [if_pos g]
          simp only [Bool.and_eq_true] at g
          refine ⟨by simp only [D.flat]; exact strs_flat q g.1 39, .inr (.inr ⟨rfl, xs, _, rfl, q, fun z => ?_⟩)⟩
          subst z; cases q
        · exact absurd rfl hn
  | _ => exact absurd rfl hn
theorem keyed_alk {a b : D} {n : Nat} (ha : Keyed a n) (hb : Keyed b n) : D.alk a b = true := by
  rcases ha.kd with ⟨h1, i, rfl⟩ | ⟨h1, s, rfl⟩ | ⟨h1, xs, ss, rfl, q, _⟩ <;> rcases hb.kd with ⟨h2, j, rfl⟩ | ⟨h2, t, rfl⟩ | ⟨h2, ys, ts, rfl, p, _⟩ <;> first | (omega) | rfl | skip
  simp only [D.alk]; exact strs_alks q p
theorem keys_one {ks : List D} (h : keysOk ks = true) : ∃ n, ∀ k ∈ ks, Keyed k n := by
  unfold keysOk at h
  simp only [Bool.or_eq_true] at h
  rcases h with (h | h) | h
  · exact ⟨1, fun k hk => keyed_of (by simpa using all_of h k hk) (by decide)⟩
  · exact ⟨2, fun k hk => keyed_of (by simpa using all_of h k hk) (by decide)⟩
  · exact ⟨3, fun k hk => keyed_of (by simpa using all_of h k hk) (by decide)⟩
theorem keys_alike {ks : List D} (h : keysOk ks = true) : AllAlike (ks.map toPy) := by
  obtain ⟨n, hn⟩ := keys_one h
  intro a ha b hb
  obtain ⟨x, hx, rfl⟩ := List.mem_map.mp ha
  obtain ⟨y, hy, rfl⟩ := List.mem_map.mp hb
  exact alk_py x y (keyed_alk (hn x hx) (hn y hy))
theorem keys_sortable {ks : List D} (h : keysOk ks = true) : Sortable (ks.map toPy) := by
  obtain ⟨n, hn⟩ := keys_one h
  by_cases z : n = 3
  · left
    intro a ha
    obtain ⟨x, hx, rfl⟩ := List.mem_map.mp ha
    rcases (hn x hx).kd with ⟨h1, _⟩ | ⟨h1, _⟩ | ⟨_, xs, ss, rfl, _, ne⟩
    · omega
    · omega
    · cases xs with
      | nil => exact absurd rfl ne
      | cons x xs => exact ⟨toPy x, toPys xs, by simp [toPy, toPys]⟩
  · right
    intro a ha
    obtain ⟨x, hx, rfl⟩ := List.mem_map.mp ha
    rcases (hn x hx).kd with ⟨_, i, rfl⟩ | ⟨_, s, rfl⟩ | ⟨h1, _⟩
    · exact ⟨by simp [toPy], fun xs => by simp [toPy]⟩
    · exact ⟨by simp [toPy], fun xs => by simp [toPy]⟩
    · exact absurd h1 z
theorem keys_le {ks : List D} (h : keysOk ks = true) {x y : D} (hx : x ∈ ks) (hy : y ∈ ks) : dataLt (toPy x) (toPy y) = D.lt x y := by
  obtain ⟨n, hn⟩ := keys_one h
  exact dataLt_py x y 40 40 (hn x hx).flat (hn y hy).flat (keyed_alk (hn x hx) (hn y hy))
/-! ### reading without lists -/
mutual
theorem reads_flat {h : Heap} : ∀ (d : D) (n : Nat) (u : Value) (as : List Addr), D.flat n d = true → Reads h u (toPy d) as → as = []
  | .non, _, _, _, _, r => by cases r; rfl
  | .bl _, _, _, _, _, r => by cases r; rfl
  | .int _, _, _, _, _, r => by cases r; rfl
  | .str _, _, _, _, _, r => by cases r; rfl
  | .tup xs, n, _, _, f, r => by
    obtain ⟨m, rfl, f⟩ := flat_tup f
    simp only [toPy] at r
    cases r with | tuple _ _ _ ra => exact readsAll_flat xs m _ _ f ra
  | .lst _, _, _, _, f, _ => by simp [D.flat] at f
  | .dct _ _, _, _, _, f, _ => by simp [D.flat] at f
  | .exc _, _, _, _, f, _ => by simp [D.flat] at f
  | .inp _, _, _, _, f, _ => by simp [D.flat] at f
theorem readsAll_flat {h : Heap} : ∀ (ds : List D) (n : Nat) (us : List Value) (as : List Addr), D.flats n ds = true → ReadsAll h us (toPys ds) as → as = []
  | [], _, _, _, _, r => by cases r; rfl
  | d :: ds, n, _, _, f, r => by
    obtain ⟨f1, f2⟩ := flats_cons f
    simp only [toPys] at r
    cases r with
    | cons a b => rw [reads_flat d n _ _ f1 a, readsAll_flat ds n _ _ f2 b]; rfl
end
theorem Ext.kp {T : List (Addr × Str)} {F H H' : Hp} (fs : Same F H) (nt : NT F) (k : Kp T H H') : Ext T F H F H' := ⟨.refl _, k, nt.ke fs k.k, fun _ _ e => .inl e, id⟩
theorem Reps.mem {K : PySem.W.Frag} {xa : XA} {F : Hp} {β : Type} : ∀ {us : List Value} {ds : List D} {xs : List V}, Reps K xa F xs ds → Vals xs us → EachIs (fun u d => ∃ x, RelV x u ∧ Rep K xa F x d) us ds
  | _, _, _, .nil, .nil => .nil
  | _, _, _, .cons r t, .cons q p => .cons ⟨_, q, r⟩ (Reps.mem (β := β) t p)
theorem back_each {K : PySem.W.Frag} {xa : XA} {F : Hp} : ∀ {us : List Value} {ds : List D}, EachIs (fun u d => ∃ x, RelV x u ∧ Rep K xa F x d) us ds → ∃ xs, Vals xs us ∧ Reps K xa F xs ds
  | _, _, .nil => ⟨[], .nil, .nil⟩
  | _, _, .cons ⟨x, h1, h2⟩ t => by
    obtain ⟨xs, h3, h4⟩ := back_each t
    exact ⟨x :: xs, .cons h1 h3, .cons h2 h4⟩
/-- a lambda y: y[i] -/
structure KeyLam (params : Arguments) (scope : Scope) (y : Str) (sc : Scope) : Prop where
  kind : scope.kind = .function
  co : scope.isCoroutine = false
  gen : scope.isGenerator = false
  cell : ∀ x ∈ scope.names, x.2 ≠ .cell
  free : ∀ x ∈ scope.names, x.2 ≠ .free
  loc : scope.names.lookup y = some .local
  deb : (y == ("__debug__" : Str)) = false
  bind : ∀ (q : Str) (body : Expr) (cl : List (Str × Addr)) (pm cv ctv v : Value), bindArgs (PySem.W.kla_fn "<lambda>" q params body scope cl pm cv ctv) ⟨[v], []⟩ = pure [(y, v)]
section
variable {X : Cx} {xa : XA} {W : WX} {a : Expr} {fa : E} {c P : Addr} {params : Arguments} {scope : Scope} {y : Str} {p p1 p2 p3 lpos kpos pos : Pos} {j : Nat}
/-- the call sorted(.., key=f), f that lambda -/
theorem sorted_call {pins : List (Addr × Obj)} {σ : Sl} {s : Shared} {F H : Hp} {i : Nat} {ds : List D} {u : Value} {v : V} {f c' : Addr} {pm ctv : Value} {Q : VK} {tup : Bool} (I : Inv X pins σ H s) (fs : Same F H) (hk : KeyLam params scope y X.env.scope) (dp : X.A.depth < recursionLimit) (hu : X.A.units + 64 < cLine)
    (hf : s.heap.get? f = some (lamObj X params (.Subscript (.Name y p1) (.Constant (.int (i : Int)) j p2) p3) scope pm c' ctv)) (hc : H c' = some (CodeO c' (X.env.qual ++ "<lambda>")))
    (hv : RelV v u) (hs : Rep X.K xa F v (if tup then .tup ds else .lst ds) ∨ ∃ (l : Addr) (xs : List V), tup = false ∧ v = .ref l ∧ H l = some (.lst xs) ∧ Reps X.K xa F xs ds) (h1 : ds.all (hasAt i) = true) (h2 : keysOk (ds.map (keyAt i)) = true) (h3 : ds.length ≤ sizeLine)
    (q : ∀ xs p, Reps X.K xa F xs (sortAt i ds) → H p = none → Q (.ref p) (upd H p (.lst xs))) :
    wpAny (model X.prog X.w) X.A (call (.builtin "sorted") [u] [("key", .ref f)]) (EP X pins σ Q) X.xe s := by
  have turn : ∀ (u : Value) (d : D), (∃ x, RelV x u ∧ Rep X.K xa F x d) → d ∈ ds → ∀ (h : Heap) (tk : Nat), (∀ b o, s.heap.get? b = some o → h.get? b = some o) →
      wpAny (model X.prog X.w) X.A.in1.in1 (call (.ref f) [u]) (KeyPure (toPy (keyAt i d)) { s with heap := h, toks := tk }) (fun _ _ => False) { s with heap := h, toks := tk } := by
    rintro u d ⟨x, rx, rd⟩ hd h tk kp
    have ha := all_of h1 d hd
    cases d with
    | tup ys =>
      cases rd with
      | @tup t zs _ ft rz =>
        cases rx
        obtain ⟨its, rv, it, hz⟩ := I.tuple (SqT.of (fs _ _ ft))
        have il : i < ys.length := by simpa [hasAt] using ha
        obtain ⟨z, hz1, hz2⟩ := rz.get (List.getElem?_eq_getElem il)
        obtain ⟨w, hw1, hw2⟩ := rv.get hz1
        have mem : keyAt i (.tup ys) ∈ ds.map (keyAt i) := List.mem_map.mpr ⟨_, hd, rfl⟩
        have ek : keyAt i (.tup ys) = ys[i] := by simp [keyAt, List.getD_eq_getElem?_getD, List.getElem?_eq_getElem il]
        obtain ⟨n, hn⟩ := keys_one h2
        have fl := (hn _ mem).flat
        rw [ek] at fl ⊢
        obtain ⟨as, rr⟩ := Dp.reads I _ _ _ (dp_of fs ys[i] z 40 (flat_pl _ 40 fl) hz2) hw2
        have e0 := reads_flat _ 40 _ _ fl rr
        subst e0
        obtain ⟨⟨oc, vs, t0, g1, g2, g3⟩, _, _⟩ := I.hok c' _ hc
        refine wpAny_mono (key_item (s := { s with heap := h, toks := tk }) (i := i) (items := its.toArray) (u := w) dp (kp _ _ hf) ⟨c', oc, vs, t0, rfl, kp _ _ g1, g2, g3⟩ (I.nolimit.keeps kp) (hk.bind _ _ _ _ _ _ _) hk.kind hk.co hk.gen hk.cell hk.loc hk.deb
          (it.keeps kp) (by simpa using hw1) (by simpa [← rv.length] using hz)) ?_ fun _ _ e => e
        rintro r s' ⟨rfl, h', tk', rfl, kp'⟩
        exact ⟨h', tk', rfl, kp', PyProof.Rows.Reads.keeps (fun b o e => kp' b o (kp b o e)) rr⟩
    | _ => cases ha
  have al : AllAlike (ds.map fun d => toPy (keyAt i d)) := by
    have := keys_alike h2
    rwa [List.map_map] at this
  have so : Sortable (ds.map fun d => toPy (keyAt i d)) := by
    have := keys_sortable h2
    rwa [List.map_map] at this
  have depth : ∀ d ∈ ds, X.A.units + 2 + (toPy (keyAt i d)).depth < cLine := fun d hd => by
    obtain ⟨n, hn⟩ := keys_one h2
    have := (lay_py _ 40 (flat_pl _ 40 (hn (keyAt i d) (List.mem_map.mpr ⟨d, hd, rfl⟩)).flat)).2
    omega
  have es : ds.mergeSort (dataLe false fun d => toPy (keyAt i d)) = sortAt i ds := by
    unfold sortAt
    refine mergeSort_congr fun a ha b hb => ?_
    have := keys_le h2 (x := keyAt i b) (y := keyAt i a) (List.mem_map.mpr ⟨b, hb, rfl⟩) (List.mem_map.mpr ⟨a, ha, rfl⟩)
    unfold D.le
    rw [← this]
    rfl
  have fin : ∀ (out : List Value) (c : Nat) (h' : Heap) (tk : Nat), (∀ b o, s.heap.get? b = some o → h'.get? b = some o) → h'.get? (s.heap.objs.size + 1) = some (PyProof.Rows.seqObj "list" (List.toArray out) c) → out.length = ds.length →
      EachIs (fun u d => ∃ x, RelV x u ∧ Rep X.K xa F x d) out (ds.mergeSort (dataLe false fun d => toPy (keyAt i d))) → EP X pins σ Q (.ref (s.heap.objs.size + 1)) { s with heap := h', toks := tk } := by
    intro out c h' tk kp ho hl each
    rw [es] at each
    obtain ⟨xs, v1, v2⟩ := back_each each
    refine ⟨.ref _, upd H (s.heap.objs.size + 1) (.lst xs), I.laid (t' := tk) kp (Nat.le_succ _) ⟨by rw [v1.length, hl]; exact h3, out, c, v1, ho⟩, rfl, q _ _ v2 (I.hok.fresh (Nat.le_succ _))⟩
  have lst : ∀ (l : Addr) (xs : List V), u = .ref l → H l = some (.lst xs) → Reps X.K xa F xs ds → wpAny (model X.prog X.w) X.A (call (.builtin "sorted") [u] [("key", .ref f)]) (EP X pins σ Q) X.xe s := by
    rintro l xs rfl e r
    obtain ⟨its, rv, hl, hz⟩ := I.list (SqL.of e)
    refine sorted_key_data (b := false) (R := fun u d => ∃ x, RelV x u ∧ Rep X.K xa F x d) (fun d => toPy (keyAt i d)) hl.isList (Reps.mem (β := Nat) r rv) al so h3 depth (PyProof.Rows.ksk_s1 _ _) (fun _ => PyProof.Rows.ksk_l1 _ _) (fun x => PyProof.Rows.ksk_t1 _ _) turn fun out c h' tk kp _ ho hl each => fin out c h' tk kp ho hl each
  rcases hs with hs | ⟨l, xs, rfl, rfl, e, r⟩
  · cases tup with
    | false =>
      cases hs with
      | lst e r => cases hv; exact lst _ _ rfl (fs _ _ e) r
    | true =>
      cases hs with
      | tup e r =>
        cases hv
        obtain ⟨its, rv, it, hz⟩ := I.tuple (SqT.of (fs _ _ e))
        exact tup_sorted_key (R := fun u d => ∃ x, RelV x u ∧ Rep X.K xa F x d) (fun d => toPy (keyAt i d)) it (Reps.mem (β := Nat) r rv) al so h3 depth (PyProof.Rows.ksk_s1 _ _) (fun _ => PyProof.Rows.ksk_l1 _ _) (fun x => PyProof.Rows.ksk_t1 _ _) turn fin
  · cases hv
    exact lst l xs rfl e r
end
end Tw

set_option autoImplicit false
set_option Elab.async false
set_option linter.all false
set_option maxRecDepth 100000
/-! Tw: the rule for sorted(x, key=lambda y: y[i]). -/
namespace Tw
open PySem L2 PySem.W LamX
section
variable {X : Cx} {xa : XA} {W : WX} {a : Expr} {fa : E} {c P : Addr} {params : Arguments} {scope : Scope} {y : Str} {p p1 p2 p3 lpos kpos pos : Pos} {j : Nat}
theorem sortedAt_ok {i : Nat} {d : D} {r : D} (h : D.sortedAt i d = .ok r) : ∃ (ds : List D) (tup : Bool), d = (if tup then .tup ds else .lst ds) ∧ ds.all (hasAt i) = true ∧ keysOk (ds.map (keyAt i)) = true ∧ ds.length ≤ szl ∧ r = .lst (sortAt i ds) := by
  cases d with
  | lst ds =>
    unfold D.sortedAt at h
    simp only at h
    split at h
    · rename_i g
      simp only [Bool.and_eq_true, decide_eq_true_eq] at g
      cases h
      exact ⟨ds, false, rfl, g.1.1, g.1.2, g.2, rfl⟩
    · cases h
  | tup ds =>
    unfold D.sortedAt at h
    simp only at h
    split at h
    · rename_i g
      simp only [Bool.and_eq_true, decide_eq_true_eq] at g
      cases h
      exact ⟨ds, true, rfl, g.1.1, g.1.2, g.2, rfl⟩
    · cases h
  | _ => cases h
theorem sortedAt_noErr {i : Nat} {d : D} {k : Nat} (h : D.sortedAt i d = .err k) : False := by
  unfold D.sortedAt at h
  cases d <;> simp only at h <;> first | (split at h <;> cases h) | cases h
theorem rf_sortedAt (i : Nat) (LT : LamT X xa c P) (hk : KeyLam params scope y X.env.scope) (hdef : defaultsOf params X.env = ([], [])) (dp : X.A.depth < recursionLimit) (hu : X.A.units + 64 < cLine) (hg : Gl X "sorted") (hm : X.mg "sorted" = none) (ha : RB X xa W a fa)
    (hs : starEach [a] X.env = (false, eval a X.env) :: starEach [] X.env := by rfl) (he : backTo pos (starEach [a] X.env) = (false, eval a X.env) :: backTo pos (starEach [] X.env) := by rfl) (hpl : (backTo pos (starEach [a] X.env)).any (·.1) = false := by rfl) :
    RF X xa W (.Call (.Name "sorted" p) [a] [⟨some "key", .Lambda params (.Subscript (.Name y p1) (.Constant (.int (i : Int)) j p2) p3) scope lpos, kpos⟩] pos) (e1 (D.sortedAt i) fa) := by
  refine ⟨⟨fun pins s σ H Q I ⟨B, F, env, S, h⟩ => ?_⟩⟩
  refine wpAny_Call_Name_kw (ld_blt I hg hm (u := .builtin "sorted") (by decide +kernel) ?_)
  have h1 := (Post.bind (r := fa env) h).imp fun d F1 H1 _ x1 q1 v1 (b1 : Bor X.K xa F1 H1 v1 d) => show (∃ F1 d, Ext xa.tb F H F1 H1 ∧ Bor X.K xa F1 H1 v1 d ∧ Post xa W σ F1 H1 (D.sortedAt i d) fun d' F' H' => ∀ a, H a = none → F' a = none → OwnAt X.K xa F' H' a d' → Q (.ref a) H') from ⟨F1, d, x1, b1, q1⟩
  refine PyProof.Rows.callWith_kw (thn ((pa_cons ha.pe pa_nil hs).run pos pins s σ H (fun vs H1 => ∃ v, vs = [v] ∧ ∃ F1 d, Ext xa.tb F H F1 H1 ∧ Bor X.K xa F1 H1 v d ∧ Post xa W σ F1 H1 (D.sortedAt i d) fun d' F' H' => ∀ a, H a = none → F' a = none → OwnAt X.K xa F' H' a d' → Q (.ref a) H') I
    ⟨B, F, env, S, h1.imp fun d F1 H1 _ _ q v1 b1 => ⟨v1, rfl, q v1 b1⟩⟩) fun us s1 ⟨vs, H1, I1, r1, v, ev, F1, d, x1, b1, q1⟩ => ?_) he hpl rfl rfl
  subst ev
  obtain ⟨u, rfl, ru⟩ := vals1 r1
  show wpAny _ _ (evalAll [(do let v ← eval (.Lambda params (.Subscript (.Name y p1) (.Constant (.int (i : Int)) j p2) p3) scope lpos) X.env; standAt pos; pure v)]) _ _ s1
  refine wpAny_evalAll_cons (wpAny_bind (lam_mk I1 LT (x1.h.tab S.tab) hdef (fun z hz e => absurd e (hk.free z hz)) fun f c' pm ctv H2 s2 I2 kp gf nf _ hc => wpAny_bind (wpAny_standAt (wpAny_pure (wpAny_evalAll_nil ?_)))))
  show wpAny _ _ (call (.builtin "sorted") [u] [("key", .ref f)]) _ _ s2
  have fs1 : Same F1 H2 := (x1.nt S.nt).ke x1.le kp.k
  have ext2 : Ext xa.tb F1 H1 F1 H2 := .kp x1.le (x1.nt S.nt) kp
  cases z : D.sortedAt i d with
  | err k => exact (sortedAt_noErr z).elim
  | stk => rw [z] at q1; exact q1.elim
  | ok r =>
    rw [z] at q1
    obtain ⟨ds, tup, ed, g1, g2, g3, er⟩ := sortedAt_ok z
    subst ed
    subst er
    have bor : Rep X.K xa F1 v (if tup then .tup ds else .lst ds) ∨ ∃ (l : Addr) (xs : List V), tup = false ∧ v = .ref l ∧ H2 l = some (.lst xs) ∧ Reps X.K xa F1 xs ds := by
      rcases b1 with r | ⟨l, e, o⟩
      · exact .inl r
      · cases tup with
        | true => exact o.elim
        | false =>
          obtain ⟨xs, hl, r⟩ := o
          exact .inr ⟨l, xs, rfl, e, kp.k _ _ rfl hl, r⟩
    refine sorted_call (tup := tup) I2 fs1 hk dp hu gf hc ru bor g1 g2 (by rw [← szl_eq]; exact g3) fun xs p rp np => ?_
    have e3 : Ext xa.tb F1 H1 F1 (upd H2 p (.lst xs)) := ext2.trans (.heap fs1 np)
    exact q1 F1 _ e3 p ((x1.h.trans kp).free np) (fs1.free np) ⟨xs, upd_same, rp⟩
end
end Tw

set_option autoImplicit false
set_option Elab.async false
set_option linter.all false
set_option maxRecDepth 100000
/-! Tw: sorted(a dict), zip, enumerate, max, {k: v}. -/
namespace Tw
open PySem L2
/-! ### sorted of a dict -/
theorem keys_ints {K : PySem.W.Frag} {xa : XA} {F : Hp} : ∀ {kvs : List (Key × V)} {ds : List (Ky × D)}, RepK K xa F kvs ds → ((ds.map fun kv => kv.1.toD).all fun x => x.kind == 2) = true → ∃ ks : List Int, kvs.map (·.1) = ks.map Sum.inl ∧ (ds.map fun kv => kv.1.toD) = ks.map D.int
  | _, _, .nil, _ => ⟨[], rfl, rfl⟩
  | _, _, .cons (q := q) e _ t, h => by
    simp only [List.map_cons, List.all_cons, Bool.and_eq_true] at h
    obtain ⟨ks, h1, h2⟩ := keys_ints t h.2
    cases q with
    | int i => cases e; exact ⟨i :: ks, by simp [h1], by rw [List.map_cons, h2]; rfl⟩
    | str s => cases h.1
    | tup ks => cases h.1
theorem keys_strs {K : PySem.W.Frag} {xa : XA} {F : Hp} : ∀ {kvs : List (Key × V)} {ds : List (Ky × D)}, RepK K xa F kvs ds → ((ds.map fun kv => kv.1.toD).all fun x => x.kind == 3) = true → ∃ ks : List Nm, kvs.map (·.1) = (ks.map fun s => (⟨s.toArray⟩ : Str)).map Sum.inr ∧ (ds.map fun kv => kv.1.toD) = ks.map D.str
  | _, _, .nil, _ => ⟨[], rfl, rfl⟩
  | _, _, .cons (q := q) e _ t, h => by
    simp only [List.map_cons, List.all_cons, Bool.and_eq_true] at h
    obtain ⟨ks, h1, h2⟩ := keys_strs t h.2
    cases q with
    | int i => cases h.1
    | str s => cases e; exact ⟨s :: ks, by simp [h1], by rw [List.map_cons, h2]; rfl⟩
    | tup ks => cases h.1
theorem sortD_ints {l m : List Int} (p : m.Perm l) (o : m.Pairwise (· ≤ ·)) : sortD (l.map D.int) = m.map D.int := by
  have e := List.map_mergeSort (r := fun a b : Int => decide (a ≤ b)) (s := D.le) (f := D.int) (l := l) fun a _ b _ => by
    unfold D.le; rw [lt_int]; simp only [decide_not.symm, Int.not_lt]
  unfold sortD
  rw [← e]
  congr 1
  refine List.Perm.eq_of_pairwise (le := fun a b : Int => a ≤ b) (fun a b _ _ h1 h2 => Int.le_antisymm h1 h2) ?_ o ((List.mergeSort_perm _ _).trans p.symm)
  have := List.pairwise_mergeSort (le := fun a b : Int => decide (a ≤ b)) (fun a b c h g => by simp at *; omega) (fun a b => by simp; omega) l
  exact this.imp fun h => by simpa using h
theorem lt_cps (s t : Nm) : D.lt (.str s) (.str t) = PySem.Spec.ltCps s t := by
  rw [lt_str]
  induction s generalizing t with
  | nil => cases t <;> rfl
  | cons a r ih =>
    cases t with
    | nil => rfl
    | cons b u =>
      unfold lexNat PySem.Spec.ltCps
      rw [ih u]
      by_cases h : a = b
      · subst h; simp
      · simp [h]
theorem rising_pw : ∀ (xs : List Str) (p : Str), PyProof.Rows.risingS p xs = true → (p :: xs).Pairwise fun a b => D.le (.str a.cps.toList) (.str b.cps.toList) = true
  | [], p, _ => by simp
  | x :: r, p, h => by
    unfold PyProof.Rows.risingS at h
    simp only [Bool.and_eq_true] at h
    have ih := rising_pw r x h.2
    have px : D.le (.str p.cps.toList) (.str x.cps.toList) = true := by unfold D.le; rw [lt_cps]; exact h.1
    refine List.pairwise_cons.mpr ⟨fun y hy => ?_, ih⟩
    rcases List.mem_cons.mp hy with rfl | hy
    · exact px
    · exact le_trans _ _ _ px ((List.pairwise_cons.mp ih).1 y hy)
theorem strD_anti {a b : Nm} (h1 : D.le (.str a) (.str b) = true) (h2 : D.le (.str b) (.str a) = true) : a = b := by
  unfold D.le at h1 h2
  simp only [Bool.not_eq_true'] at h1 h2
  unfold D.lt at h1 h2
  have e := lexI_eq _ _ h2 h1
  simp only [D.toks, List.cons.injEq, true_and] at e
  refine Classical.byContradiction fun q => ?_
  have := (strT_dif a b q).ne [] []
  simp only [List.append_nil] at this
  exact this e
theorem sortD_strs {l : List Nm} {ys : List Str} (p : ys.Perm (l.map fun s => (⟨s.toArray⟩ : Str))) (o : PyProof.Rows.sortedS ys = true) : sortD (l.map D.str) = ys.map fun y => D.str y.cps.toList := by
  have e := List.map_mergeSort (r := fun a b : Nm => D.le (.str a) (.str b)) (s := D.le) (f := D.str) (l := l) fun a _ b _ => rfl
  unfold sortD
  rw [← e]
  have e2 : (ys.map fun y => D.str y.cps.toList) = (ys.map fun y => y.cps.toList).map D.str := by rw [List.map_map]; rfl
  rw [e2]
  congr 1
  have pw : (ys.map fun y => y.cps.toList).Pairwise fun a b => D.le (.str a) (.str b) = true := by
    rw [List.pairwise_map]
    cases ys with
    | nil => simp
    | cons y ys => exact rising_pw ys y o
  have pp : (ys.map fun y => y.cps.toList).Perm l := by
    have := p.map fun y : Str => y.cps.toList
    rw [List.map_map] at this
    have e3 : (l.map ((fun y : Str => y.cps.toList) ∘ fun s : Nm => (⟨s.toArray⟩ : Str))) = l := by
      conv => rhs; rw [← List.map_id l]
      refine List.map_congr_left fun s _ => ?_
      simp
    rwa [e3] at this
  refine List.Perm.eq_of_pairwise (le := fun a b : Nm => D.le (.str a) (.str b) = true) (fun a b _ _ h1 h2 => strD_anti h1 h2) ?_ pw ((List.mergeSort_perm _ _).trans pp.symm)
  exact List.pairwise_mergeSort (le := fun a b : Nm => D.le (.str a) (.str b)) (fun a b c h g => le_trans (.str a) (.str b) (.str c) h g) (fun a b => le_total (.str a) (.str b)) _
theorem reps_strs {K : PySem.W.Frag} {xa : XA} {F : Hp} : ∀ ys : List Str, Reps K xa F (ys.map V.str) (ys.map fun y => D.str y.cps.toList)
  | [] => .nil
  | y :: ys => .cons (rep_str y rfl) (reps_strs ys)
theorem ok_sortedD {X : Cx} {xa : XA} (hc : X.calm = true) : ∃ r, CallR X (.builtin "sorted") r ∧ OkF X.K xa r D.sortedD := by
  refine ⟨fun vs H Q => (∃ (a : Addr) (kvs : List (Key × V)) (ks : List Str), vs = [.ref a] ∧ Rd H a (.dK kvs) ∧ kvs.map (·.1) = ks.map Sum.inr ∧ ks.length < 64 ∧ ∀ ys p, ys.Perm ks → PyProof.Rows.sortedS ys = true → H p = none → Q (.ref p) (upd H p (.lst (ys.map V.str)))) ∨
      (∃ (a : Addr) (kvs : List (Key × V)) (ks : List Int), vs = [.ref a] ∧ Rd H a (.dK kvs) ∧ kvs.map (·.1) = ks.map Sum.inl ∧ ks.length < 64 ∧ ∀ (ys : List Int) (p : Addr), ys.Perm ks → ys.Pairwise (· ≤ ·) → H p = none → Q (.ref p) (upd H p (.lst (ys.map V.int)))), fun pins s σ H vs us Q I rv h => ?_, fun F H x d fs bx => ?_⟩
  · rcases h with h | h
    · exact call_sortedD hc pins s σ H vs us Q I rv h
    · exact call_sortedDI hc pins s σ H vs us Q I rv h
  · cases d with
    | dct t ds =>
      cases t with
      | true => exact trivial
      | false =>
        obtain ⟨a, kvs, rfl, ha, r⟩ := bx.dK_ fs
        unfold D.sortedD
        simp only
        split
        · rename_i hl
          unfold D.sorted
          simp only
          split
          · rename_i h
            simp only [Bool.and_eq_true, decide_eq_true_eq] at h
            have srt := h.1
            unfold sortable at srt
            simp only [Bool.and_eq_true, Bool.or_eq_true] at srt
            have ln := repK_len r
            rcases srt.2 with (hk | hk) | ⟨hk, _⟩
            · obtain ⟨ks, k1, k2⟩ := keys_ints r hk
              intro Q q
              refine .inr ⟨a, kvs, ks, rfl, ha, k1, by have := congrArg List.length k1; simp at this; omega, fun ys p pm o n => ?_⟩
              rw [k2, sortD_ints pm o] at q
              exact q F _ (.heap fs n) p n (fs.free n) ⟨_, upd_same, MS.ints_reps _⟩
            · obtain ⟨ks, k1, k2⟩ := keys_strs r hk
              intro Q q
              refine .inl ⟨a, kvs, _, rfl, ha, k1, by have := congrArg List.length k1; simp at this ⊢; omega, fun ys p pm o n => ?_⟩
              rw [k2, sortD_strs pm o] at q
              exact q F _ (.heap fs n) p n (fs.free n) ⟨_, upd_same, reps_strs _⟩
            · -- keys are no tuples
              cases ds with
              | nil =>
                cases r
                intro Q q
                refine .inr ⟨a, [], [], rfl, ha, rfl, by decide, fun ys p pm o n => ?_⟩
                rw [show ys = [] from pm.eq_nil]
                exact q F _ (.heap fs n) p n (fs.free n) ⟨[], upd_same, by rw [show sortD (List.map (fun kv : Ky × D => kv.1.toD) []) = [] from by simp [sortD]]; exact .nil⟩
              | cons kv ds =>
                obtain ⟨q, v⟩ := kv
                cases r with
                | cons e _ _ =>
                  simp only [List.map_cons, List.all_cons, Bool.and_eq_true] at hk
                  have := hk.1.1
                  cases q <;> first | (simp [D.hd, Ky.toD] at this; done) | cases e
          · trivial
        · trivial
    | _ => exact trivial
end Tw

set_option autoImplicit false
set_option Elab.async false
set_option linter.all false
set_option maxRecDepth 100000
/-! Tw: zip, enumerate, max, {k: v}. -/
namespace Tw
open PySem L2
section
variable {K : PySem.W.Frag} {xa : XA} {F : Hp}
theorem zipL_len (ds es : List D) : (zipL ds es).length = min ds.length es.length := by unfold zipL; simp
theorem zipL_at {ds es : List D} {i : Nat} {x y : D} (h : ds[i]? = some x) (g : es[i]? = some y) : (zipL ds es)[i]? = some (.tup [x, y]) := by
  unfold zipL; rw [List.getElem?_zipWith, h, g]
theorem yld_pair {F1 H : Hp} {T : Addr} {x y : V} {d e : D} (fs : Same F1 H) (n : H T = none) (r1 : Rep K xa F1 x d) (r2 : Rep K xa F1 y e) : Ext xa.tb F1 H (upd F1 T (.tup [x, y])) (upd H T (.tup [x, y])) ∧ Rep K xa (upd F1 T (.tup [x, y])) (.ref T) (.tup [d, e]) :=
  ⟨.grow fs n, .tup upd_same (.cons (r1.on (same_upd (fs.free n))) (.cons (r2.on (same_upd (fs.free n))) .nil))⟩
theorem walk_zipL {S : Hp} {a b : Addr} {xs ys : List V} {ds es : List D} (h1 : SqL K S a xs) (h2 : SqL K S b ys) (r1 : Reps K xa F xs ds) (r2 : Reps K xa F ys es) : Walk K xa S F (zipL ds es) (Itz K a b) where
  go := fun i H s l => by
    rw [zipL_len] at l
    exact ⟨xs, ys, xs[i]'(by rw [r1.length]; omega), ys[i]'(by rw [r2.length]; omega), s.seq h1, s.seq h2, List.getElem?_eq_getElem _, List.getElem?_eq_getElem _⟩
  stop := fun i H s l => by
    rw [zipL_len] at l
    exact ⟨xs, ys, s.seq h1, s.seq h2, by rw [r1.length, r2.length]; omega⟩
  yld := fun i H x H' F1 s f fh l y => by
    obtain ⟨T, u, v, rfl, n, rfl, e1, e2⟩ := y
    obtain ⟨d, hd, rd⟩ := r1.got (e1 xs (s.seq h1))
    obtain ⟨e, he, re⟩ := r2.got (e2 ys (s.seq h2))
    obtain ⟨x1, x2⟩ := yld_pair fh n (rd.on f) (re.on f)
    exact ⟨_, _, x1, zipL_at hd he, x2⟩
theorem walk_zipT {S : Hp} {a b : Addr} {xs ys : List V} {ds es : List D} (h1 : S a = some (.tup xs)) (h2 : S b = some (.tup ys)) (r1 : Reps K xa F xs ds) (r2 : Reps K xa F ys es) : Walk K xa S F (zipL ds es) (RZ.ItzT K a b) where
  go := fun i H s l => by
    rw [zipL_len] at l
    exact ⟨xs, ys, xs[i]'(by rw [r1.length]; omega), ys[i]'(by rw [r2.length]; omega), SqT.of (s _ _ rfl h1), SqT.of (s _ _ rfl h2), List.getElem?_eq_getElem _, List.getElem?_eq_getElem _⟩
  stop := fun i H s l => by
    rw [zipL_len] at l
    exact ⟨xs, ys, SqT.of (s _ _ rfl h1), SqT.of (s _ _ rfl h2), by rw [r1.length, r2.length]; omega⟩
  yld := fun i H x H' F1 s f fh l y => by
    obtain ⟨T, u, v, rfl, n, rfl, e1, e2⟩ := y
    obtain ⟨d, hd, rd⟩ := r1.got (e1 xs (SqT.of (s _ _ rfl h1)))
    obtain ⟨e, he, re⟩ := r2.got (e2 ys (SqT.of (s _ _ rfl h2)))
    obtain ⟨x1, x2⟩ := yld_pair fh n (rd.on f) (re.on f)
    exact ⟨_, _, x1, zipL_at hd he, x2⟩
theorem enumL_at {ds : List D} {i : Nat} {x : D} (h : ds[i]? = some x) : (enumL ds)[i]? = some (.tup [.int (i : Int), x]) := by
  unfold enumL
  have hl := (List.getElem?_eq_some_iff.mp h).1
  rw [List.getElem?_zipWith, h, List.getElem?_range hl]
theorem walk_enum {S : Hp} {a : Addr} {xs : List V} {ds : List D} (h : SqL K S a xs) (r : Reps K xa F xs ds) : Walk K xa S F (enumL ds) (Ite K a) where
  go := fun i H s l => by
    have l' : i < ds.length := by unfold enumL at l; simpa using l
    exact ⟨xs, xs[i]'(by rw [r.length]; exact l'), s.seq h, List.getElem?_eq_getElem _⟩
  stop := fun i H s l => by
    have l' : ds.length ≤ i := by unfold enumL at l; simpa using l
    exact ⟨xs, s.seq h, by rw [r.length]; exact l'⟩
  yld := fun i H x H' F1 s f fh l y => by
    obtain ⟨T, u, rfl, n, rfl, e1⟩ := y
    obtain ⟨d, hd, rd⟩ := r.got (e1 xs (s.seq h))
    obtain ⟨x1, x2⟩ := yld_pair fh n (.int (i : Int)) (rd.on f)
    exact ⟨_, _, x1, enumL_at hd, x2⟩
end
section
variable {X : Cx} {xa : XA} {W : WX} {a b : Expr} {fa fb : E} {elts : List Expr} {kk : Nat} {tpos p pos : Pos}
theorem ri_zip (hg : Gl X "zip") (hm : X.mg "zip" = none) (ha : RE X xa W a fa) (hb : RE X xa W b fb) (hs : starEach [a, b] X.env = (false, eval a X.env) :: starEach [b] X.env := by rfl) (hs2 : starEach [b] X.env = (false, eval b X.env) :: starEach [] X.env := by rfl) (hpl : (backTo pos (starEach [b] X.env)).any (·.1) = false := by rfl) :
    RI X xa W false (.Tuple elts kk tpos) (.Call (.Name "zip" p) [a, b] [] pos) (iZip2 fa fb) := ⟨piW (RZ.pi_zipA hg hm (pa_cons ha.pe (pa_cons hb.pe pa_nil hs2) hs) hs hpl) fun σ H R ⟨B, F, env, S, q⟩ =>
  ⟨B, F, env, S, (Post.bind (r := fa env) q).imp fun d F1 H1 _ x1 q1 v1 r1 => ⟨B, F1, env, S.ext x1, (Post.bind (r := fb env) q1).imp fun e F2 H2 _ x2 q2 v2 r2 => by
    have r1' := r1.on x2.f
    cases d with
    | lst ds =>
      cases e with
      | lst es =>
        cases r1' with
        | lst e1 m1 =>
          cases r2 with
          | lst e2 m2 => exact ⟨_, _, _, _, rfl, .inl ⟨SqL.of (x2.le _ _ e1), SqL.of (x2.le _ _ e2), (q2 : Post xa W σ F2 H2 (Res.ok (zipL ds es)) _) F2 H2 (.refl x2.le) _ (walk_zipL (SqL.of e1) (SqL.of e2) m1 m2)⟩⟩
      | _ => exact q2.elim
    | tup ds =>
      cases e with
      | tup es =>
        cases r1' with
        | tup e1 m1 =>
          cases r2 with
          | tup e2 m2 => exact ⟨_, _, _, _, rfl, .inr ⟨SqT.of (x2.le _ _ e1), SqT.of (x2.le _ _ e2), (q2 : Post xa W σ F2 H2 (Res.ok (zipL ds es)) _) F2 H2 (.refl x2.le) _ (walk_zipT e1 e2 m1 m2)⟩⟩
      | _ => exact q2.elim
    | _ => exact q2.elim⟩⟩⟩
theorem ri_enu (hg : Gl X "enumerate") (hm : X.mg "enumerate" = none) (ha : RE X xa W a fa) (hs : starEach [a] X.env = (false, eval a X.env) :: starEach [] X.env := by rfl) :
    RI X xa W false (.Tuple elts kk tpos) (.Call (.Name "enumerate" p) [a] [] pos) (iEnu fa) := ⟨piW (pi_enum hg hm (pa_cons ha.pe pa_nil hs) hs) fun σ H R ⟨B, F, env, S, q⟩ =>
  ⟨B, F, env, S, (Post.bind (r := fa env) q).imp fun d F1 H1 _ x1 q1 v1 r1 => by
    cases d with
    | lst ds =>
      cases r1 with
      | lst e1 m1 => exact ⟨_, _, rfl, SqL.of (x1.le _ _ e1), (q1 : Post xa W σ F1 H1 (Res.ok (enumL ds)) _) F1 H1 (.refl x1.le) _ (walk_enum (SqL.of e1) m1)⟩
    | _ => exact q1.elim⟩⟩
theorem maxI_spec : ∀ (l : List Int) (a : Int), (maxI a l = a ∨ maxI a l ∈ l) ∧ a ≤ maxI a l ∧ ∀ y ∈ l, y ≤ maxI a l
  | [], a => ⟨.inl rfl, Int.le_refl _, by simp⟩
  | b :: l, a => by
    obtain ⟨h1, h2, h3⟩ := maxI_spec l (if a < b then b else a)
    have e : maxI a (b :: l) = maxI (if a < b then b else a) l := rfl
    rw [e]
    by_cases h : a < b
    · simp only [h, if_true] at h1 h2 h3 ⊢
      exact ⟨.inr (by rcases h1 with h1 | h1; · rw [h1]; simp
                      · exact List.mem_cons_of_mem _ h1), by omega, fun y hy => by rcases List.mem_cons.mp hy with rfl | hy; exact h2; exact h3 y hy⟩
    · simp only [h, if_false] at h1 h2 h3 ⊢
      exact ⟨by rcases h1 with h1 | h1; exact .inl h1; exact .inr (List.mem_cons_of_mem _ h1), h2, fun y hy => by rcases List.mem_cons.mp hy with rfl | hy; omega; exact h3 y hy⟩
theorem ok_maxL (hc : X.calm = true) : ∃ r, CallR X (.builtin "max") r ∧ OkC X.K xa r D.maxL := by
  refine ⟨_, cr_max hc, fun F H x d fs bx => ?_⟩
  cases d with
  | lst ds =>
    obtain ⟨l, xs, rfl, el, rs⟩ := bx.lst_ fs
    unfold D.maxL
    simp only
    cases e : ints? ds with
    | none => exact trivial
    | some is =>
      cases is with
      | nil => exact trivial
      | cons a r =>
        simp only
        refine ans_val fs (fun _ => .int _) fun Q q => ?_
        have ev := ints_vals rs e
        refine ⟨l, a :: r, rfl, by rw [← ev]; exact SqL.of el, by simp, fun m hm hle => ?_⟩
        obtain ⟨h1, h2, h3⟩ := maxI_spec r a
        have : m = maxI a r := by
          have g1 : m ≤ maxI a r := by rcases List.mem_cons.mp hm with rfl | hm; exact h2; exact h3 m hm
          have g2 : maxI a r ≤ m := hle _ (by rcases h1 with h1 | h1; · rw [h1]; simp
                                              · exact List.mem_cons_of_mem _ h1)
          omega
        rw [this]; exact q
  | _ => exact trivial
/-- {i: j} -/
theorem rf_disp1 {i j : Int} {n1 n2 : Nat} {p1 p2 : Pos} : RF X xa W (.Dict [some (.Constant (.int i) n1 p1)] [.Constant (.int j) n2 p2] pos) (eC (.dct false [(.int i, .int j)])) := ⟨peW (pe_disp (pps_cons pe_int pe_int pps_nil) (by rfl) (by rfl) (fun z => by cases z) (by show 1 ≤ 15; decide)) fun σ H Q ⟨B, F, env, S, q⟩ => by
  intro p n
  refine ⟨upd_same, [(.inl i, .int j)], rfl, by show 1 ≤ 15; decide, ?_⟩
  have e : upd (upd H p (.dK [])) p (.dK (mergeK [] [((.inl i : Key), V.int j)])) = upd H p (.dK [(.inl i, .int j)]) := by
    funext b
    by_cases h : b = p
    · subst h; rw [upd_same, upd_same]; rfl
    · rw [upd_ne h, upd_ne h, upd_ne h]
  rw [e]
  exact (q : Post xa W σ F H (Res.ok (D.dct false [(.int i, .int j)])) _) F _ (.heap S.hF n) p n (S.hF.free n) ⟨_, upd_same, .cons rfl (.int j) .nil⟩⟩
end
end Tw

set_option autoImplicit false
set_option linter.all false
/-! Tw: further mirrors. -/
namespace Tw
/-- int(a truth) -/
def D.toInt : D → Res D
  | .bl b => .ok (.int (if b then 1 else 0))
  | _ => .stk
/-- d[k] = l.pop(a) -/
def sPutPop (i j : Nat) (k a : E) : S := fun e => match e[j]? with
  | some (.own (.lst xs)) => (a e).run e fun d => match d with
    | .int n => if 0 ≤ n ∧ n < 4611686018427387904 then (match xs[n.toNat]? with
      | some x => sPut i k (fun _ => .ok x) (e.set j (.own (.lst (xs.eraseIdx n.toNat))))
      | none => .stk) else .stk
    | _ => .stk
  | _ => .stk
/-- enumerate of a list, of a tuple -/
def enumB : D → Res (List D)
  | .lst xs => .ok (enumL xs)
  | .tup xs => .ok (enumL xs)
  | _ => .stk
def iEnuB (a : E) : I := fun e => (a e).bind enumB
end Tw

set_option autoImplicit false
set_option Elab.async false
set_option linter.all false
set_option maxRecDepth 100000
/-! Tw: max(x, default=z); int of a truth; d[k] = l.pop(i). -/
namespace Tw
open PySem L2 PySem.W
section
variable {X : Cx} {xa : XA} {W : WX} {fr : Bool} {a b k : Expr} {fa fb fk : E} {x l : Str} {p p1 p2 p3 kpos pos : Pos} {j n : Nat}
theorem Walk.to {K : PySem.W.Frag} {S S' F : Hp} {ds : List D} {J : It} (h : Ke S S') (w : Walk K xa S F ds J) : Walk K xa S' F ds J :=
  ⟨fun i H k => w.go i H (h.trans k), fun i H k => w.stop i H (h.trans k), fun i H x H' F1 k => w.yld i H x H' F1 (h.trans k)⟩
/-- a shared iterator, lent -/
theorem RI.lent {tg e : Expr} {it : I} (h : RI X xa W false tg e it) : RI X xa W true tg e it := ⟨piW h.pi fun σ H R ⟨B, F, env, S, q⟩ =>
  ⟨B, F, env, S, Post.imp (r := it env) q fun ds F1 H1 _ x1 q1 J wk => q1 J (Walk.to (.of x1.le) wk)⟩⟩
theorem ok_toInt : ∃ r, CallR X (.type "int") r ∧ OkC X.K xa r D.toInt := by
  refine ⟨_, call_int1, fun F H x d fs bx => ?_⟩
  cases d with
  | bl b => exact ans_val fs (fun _ => .int _) fun Q q => .inr ⟨b, by rw [bx.bl_], q⟩
  | _ => exact trivial
theorem reads_ints {h : Heap} : ∀ {ns : List Int} {us : List Value}, Vals (ns.map V.int) us → ReadsAll h us (ns.map PyData.int) []
  | [], us, v => by cases v; exact .nil
  | n :: ns, us, v => by
    cases v with
    | cons r t =>
      obtain ⟨tk, rfl⟩ := r
      exact ReadsAll.cons (.int _ _) (reads_ints t)
theorem foldl_max : ∀ (r : List Int) (a : Int), r.foldl max a = maxI a r
  | [], a => rfl
  | b :: r, a => by
    show r.foldl max (max a b) = maxI (if a < b then b else a) r
    rw [foldl_max r]
    congr 1
    omega
theorem max_default {pins : List (Addr × Obj)} {σ : Sl} {s : Shared} {H : Hp} {l : Addr} {ns : List Int} {z : Int} {t : Tok} {Q : VK} (hc : X.calm = true) (hu : X.A.units + 64 < cLine) (I : Inv X pins σ H s) (hl : SqL X.K H l (ns.map V.int))
    (q : Q (.int (match ns with | [] => z | a :: r => maxI a r)) H) : wpAny (model X.prog X.w) X.A (call (.builtin "max") [.ref l] [("default", .int z t)]) (EP X pins σ Q) X.xe s := by
  obtain ⟨its, rv, il, hz⟩ := I.list hl
  have dp : ∀ ns : List Int, PyData.depthAll (ns.map PyData.int) ≤ 2 := by
    intro ns
    induction ns with
    | nil => simp [PyData.depthAll]
    | cons n ns ih => simp only [List.map_cons, PyData.depthAll, PyData.depth]; omega
  refine PySem.W.max_list_default (vs := its.toArray) (xs := ns.map PyData.int) (as := []) (I.ok.hd hc) il.isList (by simpa using reads_ints rv) ⟨?_, ?_⟩ ?_ ?_ ?_
  · intro a ha b hb
    obtain ⟨i, _, rfl⟩ := List.mem_map.mp ha
    obtain ⟨k, _, rfl⟩ := List.mem_map.mp hb
    rfl
  · intro a ha e
    obtain ⟨i, _, rfl⟩ := List.mem_map.mp ha
    cases e
  · have := dp ns; omega
  · intro e h' tk kp
    cases ns with
    | nil => exact ⟨.int z, H, I.kept kp, ⟨_, rfl⟩, q⟩
    | cons a r => cases e
  · intro y ys i v h' tk bs e hv r kp
    cases ns with
    | nil => cases e
    | cons a rest =>
      cases e
      rw [PySem.W.maxD_ints, foldl_max] at r
      cases r
      exact ⟨.int _, H, I.kept kp, ⟨_, rfl⟩, q⟩
theorem re_maxLD {z : Int} (hc : X.calm = true) (hu : X.A.units + 64 < cLine) (hg : Gl X "max") (hm : X.mg "max" = none) (ha : RB X xa W a fa)
    (hs : starEach [a] X.env = (false, eval a X.env) :: starEach [] X.env := by rfl) (he : backTo pos (starEach [a] X.env) = (false, eval a X.env) :: backTo pos (starEach [] X.env) := by rfl) (hpl : (backTo pos (starEach [a] X.env)).any (·.1) = false := by rfl) :
    RE X xa W (.Call (.Name "max" p) [a] [⟨some "default", .Constant (.int z) j p2, kpos⟩] pos) (e1 (D.maxLD z) fa) := by
  refine ⟨⟨fun pins s σ H Q I ⟨B, F, env, S, h⟩ => ?_⟩⟩
  refine wpAny_Call_Name_kw (ld_blt I hg hm (u := .builtin "max") (by decide +kernel) ?_)
  have h1 := (Post.bind (r := fa env) h).imp fun d F1 H1 _ x1 q1 v1 (b1 : Bor X.K xa F1 H1 v1 d) => show (∃ F1 d, Same F1 H1 ∧ Bor X.K xa F1 H1 v1 d ∧ Post xa W σ F1 H1 (D.maxLD z d) fun d' F' H' => ∀ v, Rep X.K xa F' v d' → Q v H') from ⟨F1, d, x1.le, b1, q1⟩
  refine PyProof.Rows.callWith_kw (thn ((pa_cons ha.pe pa_nil hs).run pos pins s σ H (fun vs H1 => ∃ v, vs = [v] ∧ ∃ F1 d, Same F1 H1 ∧ Bor X.K xa F1 H1 v d ∧ Post xa W σ F1 H1 (D.maxLD z d) fun d' F' H' => ∀ v, Rep X.K xa F' v d' → Q v H') I
    ⟨B, F, env, S, h1.imp fun d F1 H1 _ _ q v1 b1 => ⟨v1, rfl, q v1 b1⟩⟩) fun us s1 ⟨vs, H1, I1, r1, v, ev, F1, d, x1, b1, q1⟩ => ?_) he hpl rfl rfl
  subst ev
  obtain ⟨u, rfl, ru⟩ := vals1 r1
  show wpAny _ _ (evalAll [(do let v ← eval (.Constant (.int z) j p2) X.env; standAt pos; pure v)]) _ _ s1
  refine wpAny_evalAll_cons (wpAny_bind (wpAny_Constant_int (wpAny_bind (wpAny_standAt (wpAny_pure (wpAny_evalAll_nil ?_))))))
  show wpAny _ _ (call (.builtin "max") [u] [("default", .int z _)]) _ _ _
  cases d with
  | lst ds =>
    obtain ⟨l, xs, rfl, el, rs⟩ := b1.lst_ x1
    cases ru
    unfold D.maxLD at q1
    simp only at q1
    cases e : ints? ds with
    | none => rw [e] at q1; exact q1.elim
    | some is =>
      have ev := ints_vals rs e
      have ev' : SqL X.K H1 l (is.map V.int) := by rw [← ev]; exact SqL.of el
      refine max_default hc hu (I1.tok _) ev' ?_
      rw [e] at q1
      cases is with
      | nil => exact (q1 : Post xa W σ F1 H1 (Res.ok (D.int z)) fun d' F' H' => ∀ v, Rep X.K xa F' v d' → Q v H') F1 H1 (.refl x1) _ (.int _)
      | cons a r => exact (q1 : Post xa W σ F1 H1 (Res.ok (D.int (maxI a r))) fun d' F' H' => ∀ v, Rep X.K xa F' v d' → Q v H') F1 H1 (.refl x1) _ (.int _)
  | _ => exact q1.elim
/-- d[k] = l.pop(a) -/
theorem rs_putPop {i m : Nat} {apos pos' : Pos} (hu : X.A.units + 64 < cLine) (hv : VarAt X i x) (hl : VarAt X m l) (hk : RB X xa W k fk) (ha : RB X xa W a fa) (hs : swapsWith (.Call (.Attribute (.Name l p) "pop" apos) [a] [] p2) (some (.Subscript (.Name x p1) k pos')) pos.line X.env = pure false := by rfl)
    (hbase : attributeBase (.Name l p) "pop" X.env (eval (.Name l p) X.env) = eval (.Name l p) X.env := by rfl)
    (hfew : ((backTo p2 (starEach [a] X.env)).all (fun x => !x.1) && (backToKw p2 (keywordEach [] X.env)).all (fun x => x.1.isSome) && decide (([a] : List Expr).length + ([] : List Keyword).length + (if ([] : List Keyword).isEmpty then 0 else 1) < 30)) = true := by rfl)
    (hline : (apos.endLine == p2.line) = true := by rfl) (hst : starEach [a] X.env = (false, eval a X.env) :: starEach [] X.env := by rfl) (hplain : (backTo p2 (starEach [] X.env)).any (·.1) = false := by rfl) :
    RSt X xa W fr (.Assign [.Subscript (.Name x p1) k pos'] (.Call (.Attribute (.Name l p) "pop" apos) [a] [] p2) pos) (sPutPop i m fk fa) :=
  ⟨psW (ps_dput (by omega) (hv.pe p1) hk.pe (pe_bm PySem.F.plainAttrs_list PySem.F.slot_list_pop PySem.F.type_list_pop mt_popAt (hl.pe p) (pa_cons ha.pe pa_nil hst) hbase hfew hline hst hplain) hs) fun D σ H ⟨B, F, env, S, q⟩ => by
    unfold sPutPop at q
    cases z : env[m]? with
    | none => rw [z] at q; exact q.elim
    | some sl =>
      rw [z] at q
      cases sl with
      | own d =>
        cases d with
        | lst ds =>
          obtain ⟨u, xs, eu, nF, nB, hu, r⟩ := S.lstAt z
          refine ⟨_, eu, .inl ⟨rfl, xs, SqL.of hu⟩, B, F, env, S, (PostS.run (r := fa env) S q).imp fun d F1 H1 _ x1 q1 v1 b1 => ?_⟩
          have hu1 := x1.h.k _ _ rfl hu
          have S1 := S.ext x1
          obtain ⟨u', xs', eu', nF1, nB1, hu', r'⟩ := S1.lstAt z
          rw [eu] at eu'
          cases eu'
          rw [hu1] at hu'
          cases hu'
          cases d with
          | int c =>
            rw [b1.int_]
            simp only at q1
            split at q1
            · rename_i hc
              cases g : ds[c.toNat]? with
              | none => rw [g] at q1; exact q1.elim
              | some w =>
                rw [g] at q1
                obtain ⟨wv, hw, rw_⟩ := r'.get g
                have hlen := (List.getElem?_eq_some_iff.mp hw).1
                refine ⟨u, xs, c, c.toNat, wv, rfl, rfl, hu1, by omega, by omega, seqIx hc.1 (by omega), hw, ?_⟩
                have S2 := S1.mut (d' := .lst (ds.eraseIdx c.toNat)) z eu nF1 nB1 ⟨xs.eraseIdx c.toNat, upd_same, r'.eraseIdx _⟩
                simp only at q1
                unfold sPut at q1
                have sS : ∀ {j : Nat} {sl : Slot}, (env.set m (.own (.lst (ds.eraseIdx c.toNat))))[j]? = some sl → SlotOk X.K xa B F1 _ sl σ[j]? := fun {j sl} e => S2.sl j sl e
                cases z1 : (env.set m (.own (.lst (ds.eraseIdx c.toNat))))[i]? with
                | none => rw [z1] at q1; exact q1.elim
                | some sl =>
                  cases sl with
                  | own d =>
                    cases d with
                    | dct t kvs =>
                      rw [z1] at q1
                      simp only [Res.run_ok] at q1
                      obtain ⟨u, eu, _, _, _⟩ := sS z1
                      refine ⟨_, eu, ?_⟩
                      refine ⟨B, F1, _, S2, (PostS.run (r := fk _) S2 q1).imp fun qd F2 H2 _ x2 q2 y by_ => ?_⟩
                      have S3 := S2.ext x2
                      obtain ⟨u', eu', nF, nB, ow⟩ := S3.sl i _ z1
                      rw [eu] at eu'
                      cases eu'
                      cases hq : qd.kf t with
                      | none => rw [hq] at q2; exact q2.elim
                      | some key =>
                        rw [hq] at q2
                        simp only at q2
                        split at q2
                        · rename_i few
                          have few' : kvs.length < sizeLine := by rw [sizeLine_eq]; exact few
                          obtain ⟨ek, et⟩ := kf_key hq
                          have r2 := rw_.on x2.f
                          cases t with
                          | false =>
                            obtain ⟨kk, e1, e2⟩ := ow
                            rcases key_val x2.le by_ ek with ⟨k', hk', rfl⟩ | ⟨k', b', hk', rfl, eb⟩
                            · refine ⟨u, _, rfl, .inl ⟨kk, k', e1, rfl, by rw [repK_len e2]; exact few', rfl⟩, ?_⟩
                              exact q2 F2 _ _ (.refl _ _) (S3.mut z1 eu nF nB ⟨_, upd_same, repK_put hk' r2 e2⟩)
                            · cases key <;> first | (simp [keyT] at hk'; done) | (simp [Ky.isTup] at et; done)
                          | true =>
                            obtain ⟨kk, e1, e2⟩ := ow
                            rcases key_val x2.le by_ ek with ⟨k', hk', rfl⟩ | ⟨k', b', hk', rfl, eb⟩
                            · cases key <;> first | (simp [keyK] at hk'; done) | (simp [Ky.isTup] at et; done)
                            · refine ⟨u, _, rfl, .inr ⟨kk, k', b', e1, rfl, x2.le _ _ eb, by rw [repT_len e2]; exact few', rfl⟩, ?_⟩
                              exact q2 F2 _ _ (.refl _ _) (S3.mut z1 eu nF nB ⟨_, upd_same, repT_put hk' r2 e2⟩)
                        · exact q2.elim
                    | _ => rw [z1] at q1; exact q1.elim
                  | _ => rw [z1] at q1; exact q1.elim
            · exact q1.elim
          | _ => exact q1.elim
        | _ => exact q.elim
      | _ => exact q.elim⟩
end
end Tw

set_option autoImplicit false
set_option Elab.async false
set_option linter.all false
set_option maxRecDepth 100000
/-! Tw: enumerate of a tuple. -/
namespace Tw
open PySem L2 PySem.Spec PyProof.Rows
set_option maxHeartbeats 1000000 in
theorem meets_enum1 {v : Value} {o : Obj} {H : Heap → Prop} (B : Begins v o H) :
    Meets (Builtin.«enumerate.__new__» ⟨[.type "enumerate", v], []⟩) (fun _ R s => H s.heap ∧
      R (.ok (.ret (.ref (s.heap.push o).objs.size))) { s with heap := (s.heap.push o).push { cls := .type "enumerate", data := .fields #[.none, .bool false, .ref s.heap.objs.size, rawInt 0, .none, .none] } }) :=
  .of_wp fun prog w A R s h => by
    obtain ⟨hp, g, d, tk, os⟩ := s; obtain ⟨h1, h⟩ := h
    have hsub := sub_enumerate
    have q1 : ∀ {A' : Around} {E : Value → Shared → Prop} {Q : Value → Shared → Prop}, Q (.ref hp.objs.size) ⟨hp.push o, g, d, tk, os⟩ → wpAny (model prog w) A' (pyIter v) Q E ⟨hp, g, d, tk, os⟩ :=
      fun q => B.iter prog w _ _ ⟨hp, g, d, tk, os⟩ _ h1 q
    wp_walk using q1
    refine wpAny_stack_any fun st => wpAny_pure ?_
    split
    · rename_i c _ _ _ _ _
      cases (c == Value.type "enumerate")
      · wp_walk using q1
        exact ⟨_, rfl, h⟩
      · wp_walk using q1
        exact ⟨_, rfl, h⟩
    · wp_walk using q1
      exact ⟨_, rfl, h⟩
theorem call_enum_tuple {prog : Program} {w : World} {A : Around} {E : Value → Shared → Prop} {s : Shared} {t : Addr} {items : Array Value} {Q : Value → Shared → Prop} (hT : s.heap.IsTuple t items)
    (h : ∀ h', IsEnum h' (s.heap.objs.size + 1) s.heap.objs.size 0 .none → h'.IsTupleIter s.heap.objs.size t 0 → h'.IsTuple t items → h'.objs.size = s.heap.objs.size + 2 →
      (∀ b o, s.heap.get? b = some o → h'.get? b = some o) → Q (.ref (s.heap.objs.size + 1)) { s with heap := h' }) :
    wpAny (model prog w) A (call (.type "enumerate") [.ref t]) Q E s := by
  refine callType_new F.called_enumerate (by decide) (F.typeCall_enumerate_1 _) (F.newCall_enumerate_1 _) (fun obj => F.args_object_init_2 obj _) F.entry_enumerate_new
    (meets_enum1 (begins_tuple t items)) ⟨hT, ?_⟩
  have hz : (s.heap.push { cls := .type "tuple_iterator", data := .fields #[.ref t, .int 0 0] }).objs.size = s.heap.objs.size + 1 := Heap.size_push ..
  show _ ∧ _
  rw [hz]
  have he : IsEnum ((s.heap.push { cls := .type "tuple_iterator", data := .fields #[.ref t, .int 0 0] }).push
      { cls := .type "enumerate", data := .fields #[.none, .bool false, .ref s.heap.objs.size, rawInt 0, .none, .none] }) (s.heap.objs.size + 1) s.heap.objs.size 0 .none := by
    have := Heap.get?_push_size (s.heap.push { cls := .type "tuple_iterator", data := .fields #[.ref t, .int 0 0] })
      (o := { cls := .type "enumerate", data := .fields #[.none, .bool false, .ref s.heap.objs.size, rawInt 0, .none, .none] }) rfl
    rw [hz] at this; exact this
  exact ⟨⟨_, he, rfl⟩, h _ he ⟨_, Heap.get?_push_of_some _ (Heap.get?_push_size _ rfl), rfl, rfl⟩ (hT.at fun o x => Heap.get?_push_of_some _ (Heap.get?_push_of_some _ x)) (by rw [Heap.size_push, hz]) fun b o x => Heap.get?_push_of_some _ (Heap.get?_push_of_some _ x)⟩
theorem enum_endT {prog : Program} {w : World} {A : Around} {E : Value → Shared → Prop} {s : Shared} {e it t : Addr} {i : Nat} {items : Array Value} {old : Value} {Q : Option Value → Shared → Prop} (hh : A.handled = none)
    (he : IsEnum s.heap e it i old) (hit : s.heap.IsTupleIter it t i) (hl : s.heap.IsTuple t items) (hx : items[i]? = none)
    (hQ : ∀ h', Heap.ExtBut it s.heap h' → Q none { s with heap := h' }) : wpAny (model prog w) A (pyNext (.ref e)) Q E s := by
  have hT : s.TypeIs (.ref e) "enumerate" := ⟨_, he, rfl⟩
  unfold pyNext
  refine wpAny_bind (wpAny_attempt (wpAny_callSpecial?_slot (name := Str.ofString "__next__") hT F.slot_enumerate_next
    (wpAny_call_entry F.slot_enumerate_next hT F.entry_enumerate_next ?_ (F.args_enumerate_next_1 _))))
  show wpAny _ _ (field (.ref e) 2 >>= _) _ _ _
  refine wpAny_bind (wpAny_field he rfl (x := .ref it) rfl ?_)
  refine wpAny_bind (wpAny_nextOf_tuple_end (A := A.in1) hh hit hl hx fun h' x he' hx' => ?_)
  obtain ⟨o, ho, hc⟩ := hx'
  refine wpAny_bind (wpAny_isInstance (T := "StopIteration") (b := true) ⟨o, ho, hc⟩ isSubtype_stop ?_)
  exact wpAny_pure (hQ _ he')
/-- the tuple at a as it stands at each turn, each item in a new pair -/
def IteT (K : PySem.W.Frag) (a : Addr) : It :=
  ⟨fun i H => ∃ (xs : List V) (x : V), SqT K H a xs ∧ xs[i]? = some x, fun i H v H' => ∃ T x, v = .ref T ∧ H T = none ∧ H' = upd H T (.tup [.int (i : Nat), x]) ∧ ∀ xs, SqT K H a xs → xs[i]? = some x, fun i H => ∃ xs : List V, SqT K H a xs ∧ xs.length ≤ i⟩
theorem turn_enumT {P : Program} {w : World} {K : PySem.W.Frag} {elts : List Expr} {kk : Nat} {tpos : Pos} (a e it : Addr) :
    Turn P w K (.Tuple elts kk tpos) (IteT K a) [e, it] e (fun i h => (∃ old, IsEnum h e it ((i : Nat) : Int) old) ∧ h.IsTupleIter it a i ∧ e ≠ it ∧ a ≠ it ∧ e ≠ a) where
  mem := by simp
  obj := fun i h st b hb => by
    obtain ⟨⟨old, he⟩, ⟨o, ho, hc, hd⟩, _⟩ := st
    have e' : b = e ∨ b = it := by simpa using hb
    rcases e' with z | z
    · rw [z]; exact ⟨_, he, fun v q => nomatch q⟩
    · rw [z]; exact ⟨o, ho, fun v q => by rw [hd] at q; cases q⟩
  keep := fun i h h' st k => let ⟨⟨old, he⟩, hi, hne⟩ := st; ⟨⟨old, k e (by simp) _ he⟩, hi.at fun o q => k it (by simp) o q, hne⟩
  item := by
    intro X hP hw hK hc i pins s σ H E I hf st hg
    subst hP hw hK
    obtain ⟨⟨old, he⟩, hit, hne, hna, hea⟩ := st
    obtain ⟨xs, x, hq, hx⟩ := hg
    obtain ⟨its, rv, p, hz⟩ := I.tuple hq
    obtain ⟨u, hu, ru⟩ := rv.get hx
    have hel : e < s.heap.objs.size := Heap.lt_size he
    have hil : it < s.heap.objs.size := by obtain ⟨_, q, _⟩ := hit; exact Heap.lt_size q
    have hlt : i < its.toArray.size := by
      have := (List.getElem?_eq_some_iff.mp hu).1
      simpa using this
    refine wpAny_pyNext_enum_itemD (Draws.tuple (A := X.A.in1) (I.ok.hd hc) it a hna its.toArray) he ⟨hit, p⟩ hlt hne (by simp [hne, hea]) fun y h' tk hy ho hst hT hsz hk => ?_
    have ey : y = u := by
      have : its[i]? = some y := by simpa using hy
      rw [hu] at this; exact (Option.some.inj this).symm
    subst ey
    refine ⟨_, rfl, wpAny_letOwnedTupleGo_enum (s := { s with heap := h', toks := tk + 1 }) ho fun h'' he' sb => ?_⟩
    have hT2 : h''.get? s.heap.objs.size = some { cls := .type "tuple", data := .seq #[.int i tk, y] } := (sb.2 _ (Nat.ne_of_gt hel)).trans hT
    have new : ObjOk X.prog X.w (upd H s.heap.objs.size (.tup [.int (i : Nat), x])) h'' s.heap.objs.size (.tup [.int (i : Nat), x]) :=
      ⟨by show 2 ≤ sizeLine; decide, [.int i tk, y], .cons ⟨_, rfl⟩ (.cons ru .nil), ⟨_, hT2, rfl, _, rfl⟩⟩
    have I1 : Inv X pins σ (upd H s.heap.objs.size (.tup [.int (i : Nat), x])) { s with heap := h'', toks := tk + 1 } :=
      I.turnedNew (ch := [e, it]) (fun b ob hb q => (sb.2 b (fun z => hb (by simp [z]))).trans (hk b ob (fun z => hb (by simp [z])) (fun z => hb (by simp [z])) q)) hf (Nat.le_refl _) new
    refine ⟨.ref s.heap.objs.size, _, I1, rfl, ⟨_, x, rfl, I.hok.fresh (Nat.le_refl _), rfl, fun ys hy => by rw [I.tuple_inj hy hq]; exact hx⟩, ⟨⟨y, ?_⟩, hst.1.at fun o q => (sb.2 it (Ne.symm hne)).trans q, hne, hna, hea⟩, fun b hb => ?_⟩
    · have e1 : ((i + 1 : Nat) : Int) = (i : Int) + 1 := by omega
      rw [e1]; exact he'
    · have hb' : b < s.heap.objs.size := by
        have e' : b = e ∨ b = it := by simpa using hb
        rcases e' with z | z
        · rw [z]; exact hel
        · rw [z]; exact hil
      rw [upd_ne (Nat.ne_of_lt hb')]
      exact (hf b hb).1
  done := by
    intro X hP hw hK hc i pins s σ H E I hf st hg
    subst hP hw hK
    obtain ⟨⟨old, he⟩, hit, hne, hna, hea⟩ := st
    obtain ⟨xs, hq, hx⟩ := hg
    obtain ⟨its, rv, p, hz⟩ := I.tuple hq
    obtain ⟨f0, f1, f2, f3, f4, f5⟩ := hf it (by simp)
    have hl := rv.length
    exact enum_endT (I.ok.hd hc) he hit p (by simp; omega) fun h' eb => ⟨rfl, I.turned (t' := s.toks) (fun b o hb q => eb b o hb q) f0 f1 f3 f4 f5⟩
  self := fun A i s Q E st h => let ⟨⟨_, he⟩, _⟩ := st; wpAny_pyIter_enum he h
def iEnumT (K : PySem.W.Frag) (ta : TA) : TI := fun σ H R => ta σ H fun vs H1 => ∃ a xs, vs = [.ref a] ∧ SqT K H1 a xs ∧ R (IteT K a) H1
theorem pi_enumT {X : Cx} {e : Expr} {ta : TA} {p pos tpos : Pos} {elts : List Expr} {kk : Nat} (hg : Gl X "enumerate") (hm : X.mg "enumerate" = none) (ha : PA X [e] ta) (hs : starEach [e] X.env = [(false, eval e X.env)] := by rfl) :
    PI X (.Tuple elts kk tpos) (.Call (.Name "enumerate" p) [e] [] pos) (iEnumT X.K ta) := by
  refine ⟨fun pins s σ H R I h => ?_⟩
  refine Call_ (ld_blt I hg hm boot_enumerate (PyProof.Rows.callWith_type1 (thn (ha.run pos pins s σ H _ I h) fun us s1 ⟨vs, H1, I1, r1, q1⟩ => ?_) hs rfl))
  obtain ⟨a, xs, ex, hq, q⟩ := q1
  subst ex
  cases r1 with
  | cons r rr =>
    cases rr
    cases r
    obtain ⟨its, rv, p', hz⟩ := I1.tuple hq
    have al : a < s1.heap.objs.size := by obtain ⟨_, e, _⟩ := p'; exact Heap.lt_size e
    refine call_enum_tuple p' fun h' he hit hT hsz hk => wpAny_pyIter_enum he ?_
    have I2 : Inv X pins σ H1 { s1 with heap := h' } := I1.kept (t' := s1.toks) hk
    refine ⟨s1.heap.objs.size + 1, [s1.heap.objs.size + 1, s1.heap.objs.size], _, _, H1, rfl, I2, turn_enumT a (s1.heap.objs.size + 1) s1.heap.objs.size, ⟨⟨.none, he⟩, hit, Nat.succ_ne_self _, Nat.ne_of_lt al, Nat.ne_of_gt (Nat.lt_succ_of_lt al)⟩, fun b hb => ?_, q⟩
    have e' : b = s1.heap.objs.size + 1 ∨ b = s1.heap.objs.size := by simpa using hb
    have hle : s1.heap.objs.size ≤ b := by
      rcases e' with z | z
      · rw [z]; exact Nat.le_add_right _ _
      · rw [z]; exact Nat.le_refl _
    exact I1.fpOk hle (I1.hok.fresh hle)
section
variable {K : PySem.W.Frag} {xa : XA} {F : Hp}
theorem walk_enumT {S : Hp} {a : Addr} {xs : List V} {ds : List D} (h : S a = some (.tup xs)) (r : Reps K xa F xs ds) : Walk K xa S F (enumL ds) (IteT K a) where
  go := fun i H s l => by
    have l' : i < ds.length := by unfold enumL at l; simpa using l
    exact ⟨xs, xs[i]'(by rw [r.length]; exact l'), SqT.of (s _ _ rfl h), List.getElem?_eq_getElem _⟩
  stop := fun i H s l => by
    have l' : ds.length ≤ i := by unfold enumL at l; simpa using l
    exact ⟨xs, SqT.of (s _ _ rfl h), by rw [r.length]; exact l'⟩
  yld := fun i H x H' F1 s f fh l y => by
    obtain ⟨T, u, rfl, n, rfl, e1⟩ := y
    obtain ⟨d, hd, rd⟩ := r.got (e1 xs (SqT.of (s _ _ rfl h)))
    obtain ⟨x1, x2⟩ := yld_pair fh n (.int (i : Int)) (rd.on f)
    exact ⟨_, _, x1, enumL_at hd, x2⟩
end
section
variable {X : Cx} {xa : XA} {W : WX} {a b : Expr} {fa fb : E} {elts : List Expr} {kk : Nat} {tpos p pos : Pos}
theorem ri_enuB (hg : Gl X "enumerate") (hm : X.mg "enumerate" = none) (ha : RE X xa W a fa) (hs : starEach [a] X.env = (false, eval a X.env) :: starEach [] X.env := by rfl) :
    RI X xa W false (.Tuple elts kk tpos) (.Call (.Name "enumerate" p) [a] [] pos) (iEnuB fa) := ⟨piW (pi_or (pi_enum hg hm (pa_cons ha.pe pa_nil hs) hs) (pi_enumT hg hm (pa_cons ha.pe pa_nil hs) hs)) fun σ H R ⟨B, F, env, S, q⟩ => by
  cases z : fa env with
  | stk => unfold iEnuB at q; rw [z] at q; exact q.elim
  | err c => exact .inl ⟨B, F, env, S, (Post.bind (r := fa env) q).imp fun d F1 H1 e1 => by rw [z] at e1; cases e1⟩
  | ok d =>
    cases d with
    | lst ds =>
      refine .inl ⟨B, F, env, S, (Post.bind (r := fa env) q).imp fun d F1 H1 e1 x1 q1 v1 r1 => ?_⟩
      rw [z] at e1
      cases e1
      cases r1 with
      | lst e1 m1 => exact ⟨_, _, rfl, SqL.of (x1.le _ _ e1), (q1 : Post xa W σ F1 H1 (Res.ok (enumL ds)) _) F1 H1 (.refl x1.le) _ (walk_enum (SqL.of e1) m1)⟩
    | tup ds =>
      refine .inr ⟨B, F, env, S, (Post.bind (r := fa env) q).imp fun d F1 H1 e1 x1 q1 v1 r1 => ?_⟩
      rw [z] at e1
      cases e1
      cases r1 with
      | tup e1 m1 => exact ⟨_, _, rfl, SqT.of (x1.le _ _ e1), (q1 : Post xa W σ F1 H1 (Res.ok (enumL ds)) _) F1 H1 (.refl x1.le) _ (walk_enumT e1 m1)⟩
    | _ => unfold iEnuB at q; rw [z] at q; exact q.elim⟩
end
end Tw

set_option autoImplicit false
/-! Mirrors of what many laws reach, printed by our tool. -/
namespace Tw.M
def b_book_L : S := (sRet (e1 D.dictK (eComp (iE (eB 0)) [1] (gN 1) tTrue (eTup [(e2 D.idx (eB 1) (eC (.int 0))), (eSl (eB 1) (some (eC (.int 1))) none)]))))
def m_book_L : List D → Res D := runD [true] 2 b_book_L
def b_between_L : S := (sSeq (sSet 2 (eCall m_book_L [(eB 0)])) (sSeq (sSet 3 (eCall m_book_L [(eB 1)])) (sSeq (sSet 4 (e1 D.sortedSet (e2 D.add (e1 D.toLst (eB 2)) (e1 D.toLst (eB 3))))) (sSeq (sOwn 5 (eComp (iE (eB 4)) [6] (gN 6) tTrue (eTup [(eV 6), (eGet1 (eB 2) (eB 6)), (eGet1 (eB 3) (eB 6))]))) (sSeq (sFrz 5) (sRet (e1 D.toTup (eComp (iE (eB 5)) [7] (gN 7) (tE (e2 D.ne (e2 D.idx (eB 7) (eC (.int 1))) (e2 D.idx (eB 7) (eC (.int 2))))) (eV 7)))))))))
def m_between_L : List D → Res D := runD [true, true] 8 b_between_L
def b_cell_L : S := (sSeq (sIf (tE (e2 D.ltI (eB 1) (e1 D.len (eB 0)))) (sRet (e2 D.idx (eB 0) (eB 1))) sNil) (sSeq (sIf (tE (e2 D.eq (eB 0) (eLst []))) (sRet (eC (.int 0))) sNil) (sRet (e2 D.add (e2 D.mul (e2 D.idx (eB 0) (e2 D.mod (eB 1) (e1 D.len (eB 0)))) (eC (.int 31))) (eB 1)))))
def m_cell_L : List D → Res D := runD [true, true] 2 b_cell_L
def b_pick_L : S := (sSeq (sSet 3 (e2 D.mod (e2 D.mul (e2 D.add (eCall m_cell_L [(eB 0), (eB 1)]) (e2 D.mul (eC (.int 6151)) (e2 D.add (eB 1) (eC (.int 1))))) (eC (.int 40692))) (eC (.int 2147483399)))) (sRet (e2 D.mod (e2 D.mod (e2 D.add (e2 D.mul (eB 3) (eB 3)) (e2 D.fdiv (eB 3) (eC (.int 31)))) (eC (.int 2147483629))) (eB 2))))
def m_pick_L : List D → Res D := runD [true, true, true] 4 b_pick_L
def b_deed_L : S := (sSeq (sOwn 3 (eComp (iE (eB 2)) [4] (gN 4) tTrue (e2 D.idx (eB 4) (eC (.int 0))))) (sSeq (sFrz 3) (sSeq (sSet 5 (e2 D.add (e2 D.add (e2 D.add (eB 3) (eB 3)) (eB 3)) (eLst [(eC (.int 55))]))) (sSeq (sSet 6 (e2 D.idx (eB 5) (eCall m_pick_L [(eB 0), (eB 1), (e1 D.len (eB 5))]))) (sSeq (sSet 7 (e2 D.add (eComp (iE (eB 2)) [4] (gN 4) (tE (e1 D.isN (e2 D.idx (eB 4) (eC (.int 3))))) (e2 D.idx (eB 4) (eC (.int 0)))) (eLst [(eC (.int 0))]))) (sSeq (sSet 8 (e2 D.idx (e2 D.add (e2 D.add (eB 7) (eB 7)) (eB 5)) (eCall m_pick_L [(eB 0), (e2 D.add (eB 1) (eC (.int 1))), (e2 D.add (e2 D.mul (eC (.int 2)) (e1 D.len (eB 7))) (e1 D.len (eB 5)))]))) (sSeq (sSet 9 (e2 D.idx (eLst [(eC (.str [97])), (eC (.str [98])), (eC (.str [99])), (eC (.str [97, 98, 99, 100, 101]))]) (eCall m_pick_L [(eB 0), (e2 D.add (eB 1) (eC (.int 2))), (eC (.int 4))]))) (sSeq (sSet 10 (eCall m_pick_L [(eB 0), (e2 D.add (eB 1) (eC (.int 3))), (eC (.int 8))])) (sSeq (sIf (tOr (tE (e2 D.ltI (eB 10) (eC (.int 3)))) (tE (e2 D.eq (eB 3) (eLst [])))) (sSeq (sSet 11 (e2 D.idx (eLst [(eC .non), (eC .non), (eC (.int 0)), (eC (.int 1)), (eC (.int 2)), (eC (.int 3))]) (eCall m_pick_L [(eB 0), (e2 D.add (eB 1) (eC (.int 4))), (eC (.int 6))]))) (sSeq (sSet 12 (e2 D.idx (eLst [(e2 D.add (eC (.int 1)) (eCall m_pick_L [(eB 0), (e2 D.add (eB 1) (eC (.int 5))), (eC (.int 30))])), (eV 6)]) (e2 D.fdiv (eCall m_pick_L [(eB 0), (e2 D.add (eB 1) (eC (.int 6))), (eC (.int 5))]) (eC (.int 4))))) (sRet (eTup [(eC (.str [109, 97, 107, 101])), (eV 12), (eV 8), (eV 9), (eV 11)])))) sNil) (sSeq (sIf (tE (e2 D.eq (eB 10) (eC (.int 3)))) (sRet (eTup [(eC (.str [119, 114, 105, 116, 101])), (eV 6), (e2 D.idx (eLst [(eC (.int 0)), (eC (.int 1)), (eC (.int 2)), (eC (.int 998))]) (eCall m_pick_L [(eB 0), (e2 D.add (eB 1) (eC (.int 4))), (eC (.int 4))]))])) sNil) (sSeq (sIf (tE (e2 D.ltI (eB 10) (eC (.int 7)))) (sRet (eTup [(eC (.str [109, 111, 118, 101])), (eV 6), (eV 8), (eV 9)])) sNil) (sRet (eTup [(eC (.str [100, 114, 111, 112])), (eV 6)])))))))))))))
def m_deed_L : List D → Res D := runD [true, true, true] 13 b_deed_L
def b_under_L : S := (sSeq (sWhile (tAnd (tE (e2 D.ne (eB 1) (eC (.int 0)))) (tE (e2 D.ne (eB 1) (eB 2)))) (sSet 1 (e2 D.idx (e2 D.idx (eB 0) (eB 1)) (eC (.int 0))))) (sRet (e2 D.eq (eB 1) (eB 2))))
def m_under_L : List D → Res D := runD [true, true, true] 3 b_under_L
def b_done_L : S := (sSeq (sOwn 2 (eCall m_book_L [(eB 0)])) (sSeq (sSet 3 (e2 D.idx (eB 1) (eC (.int 1)))) (sSeq (sIf (tAnd (tE (e2 D.eq (e2 D.idx (eB 1) (eC (.int 0))) (eC (.str [109, 97, 107, 101])))) (tE (e2 D.isIn (eB 3) (eB 2)))) (sRet (eC (.str [107, 110, 111, 119, 110]))) sNil) (sSeq (sIf (tAnd (tE (e2 D.ne (e2 D.idx (eB 1) (eC (.int 0))) (eC (.str [109, 97, 107, 101])))) (tE (e2 D.notIn (eB 3) (eB 2)))) (sRet (eC (.str [110, 111, 32, 110, 111, 100, 101]))) sNil) (sSeq (sIf (tE (e2 D.eq (e2 D.idx (eB 1) (eC (.int 0))) (eC (.str [100, 114, 111, 112])))) (sRet (e1 D.toTup (eComp (iE (eB 0)) [4] (gN 4) (tNot (tE (eCall m_under_L [(eB 2), (e2 D.idx (eB 4) (eC (.int 0))), (eB 3)]))) (eV 4)))) sNil) (sSeq (sIf (tE (e2 D.eq (e2 D.idx (eB 1) (eC (.int 0))) (eC (.str [119, 114, 105, 116, 101])))) (sSeq (sIf (tE (e1 D.isN (e2 D.idx (e2 D.idx (eB 2) (eB 3)) (eC (.int 2))))) (sRet (eC (.str [110, 111, 116, 32, 102, 105, 108, 101]))) sNil) (sPut 2 (eB 3) (e2 D.add (eSl (e2 D.idx (eB 2) (eB 3)) none (some (eC (.int 2)))) (eTup [(e2 D.idx (eB 1) (eC (.int 2)))])))) (sSeq (sSet 5 (e2 D.idx (eB 1) (eC (.int 2)))) (sSeq (sIf (tAnd (tE (e2 D.ne (eB 5) (eC (.int 0)))) (tE (e2 D.notIn (eB 5) (eB 2)))) (sRet (eC (.str [110, 111, 32, 110, 111, 100, 101]))) sNil) (sSeq (sIf (tAnd (tE (e2 D.ne (eB 5) (eC (.int 0)))) (tE (e1 D.notN (e2 D.idx (e2 D.idx (eB 2) (eB 5)) (eC (.int 2)))))) (sRet (eC (.str [110, 111, 116, 32, 102, 111, 108, 100, 101, 114]))) sNil) (sSeq (sIf (tAnd (tE (e2 D.eq (e2 D.idx (eB 1) (eC (.int 0))) (eC (.str [109, 111, 118, 101])))) (tAnd (tE (e2 D.ne (eB 5) (eC (.int 0)))) (tE (eCall m_under_L [(eB 2), (eB 5), (eB 3)])))) (sRet (eC (.str [105, 110, 115, 105, 100, 101]))) sNil) (sSeq (sIf (tE (e2 D.isIn (eSl (eB 1) (some (eC (.int 2))) (some (eC (.int 4)))) (eComp (iK (eB 2)) [6] (gN 6) (tE (e2 D.ne (eB 6) (eB 3))) (eSl (e2 D.idx (eB 2) (eB 6)) none (some (eC (.int 2))))))) (sRet (eC (.str [116, 97, 107, 101, 110]))) sNil) (sPut 2 (eB 3) (e2 D.add (eSl (eB 1) (some (eC (.int 2))) (some (eC (.int 4)))) (eTup [(eIf (tE (e2 D.eq (e2 D.idx (eB 1) (eC (.int 0))) (eC (.str [109, 97, 107, 101])))) (e2 D.idx (eB 1) (eC (.int 4))) (e2 D.idx (e2 D.idx (eB 2) (eB 3)) (eC (.int 2))))]))))))))) (sRet (e1 D.toTup (e1 D.sorted (eComp (iK (eB 2)) [6] (gN 6) tTrue (e2 D.add (eTup [(eV 6)]) (e2 D.idx (eB 2) (eB 6)))))))))))))
def m_done_L : List D → Res D := runD [true, true] 7 b_done_L
def b_further_L : S := (sSeq (sFor (iR1 (eB 3)) (gN 4) (sSeq (sSet 5 (eCall m_done_L [(eB 2), (eCall m_deed_L [(eB 0), (e2 D.add (eB 1) (e2 D.mul (eC (.int 9)) (eB 4))), (eB 2)])])) (sIf (tNot (tE (e1 (D.isa .str) (eB 5)))) (sSet 2 (eV 5)) sNil))) (sRet (eV 2)))
def m_further_L : List D → Res D := runD [true, true, false, true] 6 b_further_L
def b_other_numbers_L : S := (sSeq (sOwn 3 (eRng (eC (.int 1)) (eC (.int 40)))) (sSeq (sOwn 4 (eC (.dct false [(.int 0, .int 0)]))) (sSeq (sFor (iEnuB (eV 2)) (gT [(gN 5), (gN 6)]) (sPutPop 4 3 (e2 D.idx (eB 6) (eC (.int 0))) (eCall m_pick_L [(eB 0), (e2 D.add (eB 1) (eB 5)), (e1 D.len (eB 3))]))) (sRet (e1 D.toTup (e1 D.sorted (eComp (iE (eB 2)) [6] (gN 6) tTrue (e2 D.add (eTup [(e2 D.idx (eB 4) (e2 D.idx (eB 6) (eC (.int 0)))), (e2 D.idx (eB 4) (e2 D.idx (eB 6) (eC (.int 1))))]) (eSl (eB 6) (some (eC (.int 2))) none)))))))))
def m_other_numbers_L : List D → Res D := runD [true, true, false] 7 b_other_numbers_L
def b_path_L : S := (sSeq (sSet 2 (eLst [])) (sSeq (sWhile (tE (e2 D.ne (eB 1) (eC (.int 0)))) (sSeq (sSet 2 (e2 D.add (eLst [(e2 D.idx (e2 D.idx (eB 0) (eB 1)) (eC (.int 1)))]) (eB 2))) (sSet 1 (e2 D.idx (e2 D.idx (eB 0) (eB 1)) (eC (.int 0)))))) (sRet (e1 D.toTup (eB 2)))))
def m_path_L : List D → Res D := runD [true, true] 3 b_path_L
def b_same_kinds_L : S := (sSeq (sSet 2 (eCall m_book_L [(eB 0)])) (sSeq (sSet 3 (eCall m_book_L [(eB 1)])) (sSeq (sOwn 4 (eComp (iK (eB 3)) [5] (gN 5) (tE (e2 D.isIn (eB 5) (eB 2))) (eV 5))) (sSeq (sFrz 4) (sSeq (sOwn 6 (eComp (iE (eB 4)) [5] (gN 5) (tE (e2 D.ne (e1 D.isN (e2 D.idx (e2 D.idx (eB 2) (eB 5)) (eC (.int 2)))) (e1 D.isN (e2 D.idx (e2 D.idx (eB 3) (eB 5)) (eC (.int 2)))))) (eV 5))) (sSeq (sFrz 6) (sSeq (sOwn 7 (e1 D.dictK (eComp (iK (eB 3)) [5] (gN 5) tTrue (eTup [(eV 5), (eIf (tE (e2 D.isIn (eB 5) (eB 6))) (e2 D.add (eB 5) (eC (.int 60))) (eV 5))])))) (sSeq (sPut 7 (eC (.int 0)) (eC (.int 0))) (sRet (e1 D.toTup (e1 D.sorted (eComp (iK (eB 3)) [5] (gN 5) tTrue (e2 D.add (eTup [(e2 D.idx (eB 7) (eB 5)), (e2 D.idx (eB 7) (e2 D.idx (e2 D.idx (eB 3) (eB 5)) (eC (.int 0))))]) (eSl (e2 D.idx (eB 3) (eB 5)) (some (eC (.int 1))) none))))))))))))))
def m_same_kinds_L : List D → Res D := runD [true, true] 8 b_same_kinds_L
def b_spoilt_L : S := (sSeq (sSet 3 (e2 D.mod (eB 1) (e2 D.add (e1 D.len (eB 0)) (eC (.int 1))))) (sSeq (sSet 4 (e2 D.idx (eB 2) (e2 D.mod (e2 D.fdiv (eB 1) (eC (.int 1000))) (e1 D.len (eB 2))))) (sSeq (sSet 5 (e2 D.add (e2 D.add (eB 3) (eC (.int 1))) (e2 D.mod (e2 D.fdiv (eB 1) (eC (.int 7))) (eC (.int 9))))) (sSeq (sSet 6 (e2 D.mod (e2 D.fdiv (eB 1) (eC (.int 100000))) (eC (.int 8)))) (sSeq (sIf (tE (e2 D.ltI (eB 6) (eC (.int 2)))) (sRet (e2 D.add (e2 D.add (eSl (eB 0) none (some (eB 3))) (eB 4)) (eSl (eB 0) (some (eB 3)) none))) sNil) (sSeq (sIf (tE (e2 D.eq (eB 6) (eC (.int 2)))) (sRet (e2 D.add (eSl (eB 0) none (some (eB 3))) (eSl (eB 0) (some (e2 D.add (eB 3) (eC (.int 1)))) none))) sNil) (sSeq (sIf (tE (e2 D.ltI (eB 6) (eC (.int 5)))) (sRet (e2 D.add (e2 D.add (eSl (eB 0) none (some (eB 3))) (eB 4)) (eSl (eB 0) (some (e2 D.add (eB 3) (eC (.int 1)))) none))) sNil) (sSeq (sIf (tE (e2 D.eq (eB 6) (eC (.int 5)))) (sRet (e2 D.add (eSl (eB 0) none (some (eB 3))) (eSl (eB 0) (some (eB 5)) none))) sNil) (sSeq (sIf (tE (e2 D.eq (eB 6) (eC (.int 6)))) (sRet (e2 D.add (eSl (eB 0) none (some (eB 5))) (eSl (eB 0) (some (eB 3)) none))) sNil) (sRet (e2 D.idx (eLst [(e2 D.add (eB 0) (eC (.str [32]))), (e2 D.add (eC (.str [32])) (eB 0)), (e2 D.add (eSl (eB 0) (some (eB 3)) none) (eSl (eB 0) none (some (eB 3)))), (eC (.str [])), (e2 D.add (eB 0) (eB 0))]) (e2 D.mod (eB 1) (eC (.int 5))))))))))))))
def m_spoilt_L : List D → Res D := runD [true, true, true] 7 b_spoilt_L
def b_step_L : S := (sSeq (sIf (tE (e2 D.eq (eCall m_pick_L [(eB 0), (e2 D.add (eB 1) (eC (.int 8))), (eC (.int 4))]) (eC (.int 0)))) (sRet (eTup [(eC (.str [116, 97, 103])), (e2 D.idx (eLst [(eC (.str [97])), (eC (.str [111, 110, 101])), (eC (.str [116, 119, 111])), (eC (.str [66, 97, 100]))]) (eCall m_pick_L [(eB 0), (eB 1), (eC (.int 4))]))])) sNil) (sRet (eCall m_deed_L [(eB 0), (eB 1), (eB 2)])))
def m_step_L : List D → Res D := runD [true, true, true] 3 b_step_L
def b_tree_L : S := (sSeq (sOwn 3 (eRng (eC (.int 1)) (e2 D.add (eB 2) (eC (.int 4))))) (sSeq (sOwn 4 (eLst [(eC (.int 0))])) (sSeq (sOwn 5 (eLst [])) (sSeq (sFor (iR1 (eCall m_pick_L [(eB 0), (eB 1), (e2 D.add (eB 2) (eC (.int 1)))])) (gN 6) (sSeq (sPopAt 7 3 (eCall m_pick_L [(eB 0), (e2 D.add (e2 D.add (eB 1) (eC (.int 1))) (e2 D.mul (eC (.int 6)) (eB 6))), (e1 D.len (eB 3))])) (sSeq (sSet 8 (e2 D.idx (eB 4) (eCall m_pick_L [(eB 0), (e2 D.add (e2 D.add (eB 1) (eC (.int 2))) (e2 D.mul (eC (.int 6)) (eB 6))), (e1 D.len (eB 4))]))) (sSeq (sSet 9 (e2 D.idx (eLst [(eC (.str [97])), (eC (.str [98])), (eC (.str [99])), (eC (.str [97, 98, 99, 100, 101]))]) (eCall m_pick_L [(eB 0), (e2 D.add (e2 D.add (eB 1) (eC (.int 3))) (e2 D.mul (eC (.int 6)) (eB 6))), (eC (.int 4))]))) (sSeq (sSet 10 (eC .non)) (sSeq (sIf (tE (e2 D.gtI (eCall m_pick_L [(eB 0), (e2 D.add (e2 D.add (eB 1) (eC (.int 4))) (e2 D.mul (eC (.int 6)) (eB 6))), (eC (.int 5))]) (eC (.int 1)))) (sSet 10 (e2 D.idx (eLst [(eC (.int 0)), (eC (.int 1)), (eC (.int 2)), (eC (.int 999))]) (eCall m_pick_L [(eB 0), (e2 D.add (e2 D.add (eB 1) (eC (.int 5))) (e2 D.mul (eC (.int 6)) (eB 6))), (eC (.int 4))]))) sNil) (sIf (tE (e2 D.notIn (eTup [(eV 8), (eV 9)]) (eComp (iE (eB 5)) [11] (gN 11) tTrue (eSl (eB 11) (some (eC (.int 1))) (some (eC (.int 3))))))) (sSeq (sApp 5 (eTup [(eV 7), (eV 8), (eV 9), (eV 10)])) (sIf (tE (e1 D.isN (eB 10))) (sApp 4 (eV 7)) sNil)) sNil))))))) (sRet (e1 D.toTup (e1 D.sorted (eB 5))))))))
def m_tree_L : List D → Res D := runD [true, true, true] 12 b_tree_L
def b_look_node : S := (sIf (tE (e2 D.notIn (eB 1) (eComp (iE (eB 0)) [2] (gN 2) tTrue (e2 D.idx (eB 2) (eC (.int 0)))))) (sRaise 1) sNil)
def m_look_node : List D → Res D := runD [true, true] 3 b_look_node
def b_book_of : S := (sRet (e1 D.dictK (eComp (iE (eB 0)) [1] (gN 1) tTrue (eTup [(e2 D.idx (eB 1) (eC (.int 0))), (eSl (eB 1) (some (eC (.int 1))) none)]))))
def m_book_of : List D → Res D := runD [true] 2 b_book_of
def b_look_folder : S := (sIf (tE (e2 D.ne (eB 1) (eC (.int 0)))) (sSeq (sDrop (eCall m_look_node [(eB 0), (eB 1)])) (sIf (tE (e1 D.notN (e2 D.idx (e2 D.idx (eCall m_book_of [(eB 0)]) (eB 1)) (eC (.int 2))))) (sRaise 3) sNil)) sNil)
def m_look_folder : List D → Res D := runD [true, true] 2 b_look_folder
def b_path_in : S := (sSeq (sOwn 2 (eLst [])) (sSeq (sSet 3 (eV 1)) (sSeq (sWhile (tE (e2 D.ne (eB 3) (eC (.int 0)))) (sSeq (sApp 2 (e2 D.idx (e2 D.idx (eB 0) (eB 3)) (eC (.int 1)))) (sSet 3 (e2 D.idx (e2 D.idx (eB 0) (eB 3)) (eC (.int 0)))))) (sRet (e1 D.toTup (e1 D.rev (eB 2)))))))
def m_path_in : List D → Res D := runD [true, false] 4 b_path_in
def b_path_of : S := (sSeq (sDrop (eCall m_look_node [(eB 0), (eB 1)])) (sRet (eCall m_path_in [(eCall m_book_of [(eB 0)]), (eV 1)])))
def m_path_of : List D → Res D := runD [true, false] 2 b_path_of
def b_is_under : S := (sSeq (sSet 3 (eV 1)) (sSeq (sWhile (tAnd (tE (e2 D.ne (eB 3) (eC (.int 0)))) (tE (e2 D.ne (eB 3) (eB 2)))) (sSet 3 (e2 D.idx (e2 D.idx (eB 0) (eB 3)) (eC (.int 0))))) (sRet (e2 D.eq (eB 3) (eB 2)))))
def m_is_under : List D → Res D := runD [true, false, true] 4 b_is_under
def b_below : S := (sSeq (sIf (tE (e2 D.ne (eB 1) (eC (.int 0)))) (sDrop (eCall m_look_node [(eB 0), (eB 1)])) sNil) (sSeq (sSet 2 (eCall m_book_of [(eB 0)])) (sRet (eComp (iE (e1 D.sorted (e1 D.toLst (eB 2)))) [3] (gN 3) (tAnd (tE (e2 D.ne (eB 3) (eB 1))) (tE (eCall m_is_under [(eB 2), (eV 3), (eB 1)]))) (eV 3)))))
def m_below : List D → Res D := runD [true, true] 4 b_below
def b_shape : S := (sSeq (sDrop (eCall m_look_folder [(eB 0), (eB 1)])) (sSeq (sSet 2 (eCall m_book_of [(eB 0)])) (sSeq (sSet 3 (eIf (tE (e2 D.ne (eB 1) (eC (.int 0)))) (e1 D.len (eCall m_path_of [(eB 0), (eV 1)])) (eC (.int 0)))) (sRet (e1 (D.sortedAt 0) (eComp (iE (eCall m_below [(eB 0), (eB 1)])) [4] (gN 4) tTrue (eTup [(eSl (eCall m_path_of [(eB 0), (eV 4)]) (some (eB 3)) none), (e2 D.idx (e2 D.idx (eB 2) (eB 4)) (eC (.int 2)))])))))))
def m_shape : List D → Res D := runD [true, false] 5 b_shape
def b_alike_folders : S := (sSeq (sOwn 1 (eComp (iE (eB 0)) [2] (gN 2) (tE (e1 D.isN (e2 D.idx (eB 2) (eC (.int 3))))) (e2 D.idx (eB 2) (eC (.int 0))))) (sSeq (sFrz 1) (sSeq (sOwn 3 (eLst [])) (sSeq (sFor (iE (eV 1)) (gN 4) (sSeq (sSet 5 (eCall m_shape [(eB 0), (eV 4)])) (sExt 3 (eComp (iE (eB 1)) [6] (gN 6) (tAnd (tE (e2 D.ltI (eB 4) (eB 6))) (tAnd (tE (e2 D.ne (eB 5) (eLst []))) (tE (e2 D.eq (eCall m_shape [(eB 0), (eV 6)]) (eB 5))))) (eTup [(eV 4), (eV 6)]))))) (sSeq (sFrz 3) (sRet (eV 3)))))))
def m_alike_folders : List D → Res D := runD [true] 7 b_alike_folders
def b_look_parent : S := (sSeq (sIf (tAnd (tE (e2 D.ne (eB 1) (eC (.int 0)))) (tE (e2 D.notIn (eB 1) (eB 0)))) (sRaise 1) sNil) (sIf (tAnd (tE (e2 D.ne (eB 1) (eC (.int 0)))) (tE (e1 D.notN (e2 D.idx (e2 D.idx (eB 0) (eB 1)) (eC (.int 2)))))) (sRaise 3) sNil))
def m_look_parent : List D → Res D := runD [true, true] 2 b_look_parent
def b_look_name : S := (sIf (tE (e1 D.any (eComp (iK (eB 0)) [4] (gN 4) (tE (e2 D.ne (eB 4) (eB 1))) (e2 D.eq (eSl (e2 D.idx (eB 0) (eB 4)) none (some (eC (.int 2)))) (eTup [(eV 2), (eV 3)]))))) (sRaise 6) sNil)
def m_look_name : List D → Res D := runD [true, true, false, false] 5 b_look_name
def b_tree_of : S := (sRet (e1 D.toTup (eComp (iE (e1 D.sorted (e1 D.toLst (eB 0)))) [1] (gN 1) tTrue (e2 D.add (eTup [(eV 1)]) (e2 D.idx (eB 0) (eB 1))))))
def m_tree_of : List D → Res D := runD [true] 2 b_tree_of
def b_tree_made : S := (sSeq (sOwn 5 (eCall m_book_of [(eB 0)])) (sSeq (sIf (tE (e2 D.isIn (eB 1) (eB 5))) (sRaise 2) sNil) (sSeq (sDrop (eCall m_look_parent [(eB 5), (eB 2)])) (sSeq (sDrop (eCall m_look_name [(eB 5), (eB 1), (eV 2), (eV 3)])) (sSeq (sPut 5 (eB 1) (eTup [(eV 2), (eV 3), (eV 4)])) (sRet (eCall m_tree_of [(eB 5)])))))))
def m_tree_made : List D → Res D := runD [true, true, false, false, false] 6 b_tree_made
def b_tree_wrote : S := (sSeq (sOwn 3 (eCall m_book_of [(eB 0)])) (sSeq (sDrop (eCall m_look_node [(eB 0), (eB 1)])) (sSeq (sIf (tE (e1 D.isN (e2 D.idx (e2 D.idx (eB 3) (eB 1)) (eC (.int 2))))) (sRaise 4) sNil) (sSeq (sPut 3 (eB 1) (e2 D.add (eSl (e2 D.idx (eB 3) (eB 1)) none (some (eC (.int 2)))) (eTup [(eV 2)]))) (sRet (eCall m_tree_of [(eB 3)]))))))
def m_tree_wrote : List D → Res D := runD [true, true, false] 4 b_tree_wrote
def b_tree_moved : S := (sSeq (sOwn 4 (eCall m_book_of [(eB 0)])) (sSeq (sDrop (eCall m_look_node [(eB 0), (eB 1)])) (sSeq (sDrop (eCall m_look_parent [(eB 4), (eB 2)])) (sSeq (sIf (tAnd (tE (e2 D.ne (eB 2) (eC (.int 0)))) (tE (eCall m_is_under [(eB 4), (eV 2), (eB 1)]))) (sRaise 5) sNil) (sSeq (sDrop (eCall m_look_name [(eB 4), (eB 1), (eV 2), (eV 3)])) (sSeq (sPut 4 (eB 1) (eTup [(eV 2), (eV 3), (e2 D.idx (e2 D.idx (eB 4) (eB 1)) (eC (.int 2)))])) (sRet (eCall m_tree_of [(eB 4)]))))))))
def m_tree_moved : List D → Res D := runD [true, true, false, false] 5 b_tree_moved
def b_tree_dropped : S := (sSeq (sSet 2 (eCall m_book_of [(eB 0)])) (sSeq (sDrop (eCall m_look_node [(eB 0), (eB 1)])) (sRet (eCall m_tree_of [(e1 D.dictK (eComp (iK (eB 2)) [3] (gN 3) (tNot (tE (eCall m_is_under [(eB 2), (eV 3), (eB 1)]))) (eTup [(eV 3), (e2 D.idx (eB 2) (eB 3))])))]))))
def m_tree_dropped : List D → Res D := runD [true, true] 4 b_tree_dropped
def b_done : S := (sSeq (sIf (tE (e2 D.eq (e2 D.idx (eB 1) (eC (.int 0))) (eC (.str [109, 97, 107, 101])))) (sRet (eCall m_tree_made [(eB 0), (e2 D.idx (eB 1) (eC (.int 1))), (e2 D.idx (eB 1) (eC (.int 2))), (e2 D.idx (eB 1) (eC (.int 3))), (e2 D.idx (eB 1) (eC (.int 4)))])) sNil) (sSeq (sIf (tE (e2 D.eq (e2 D.idx (eB 1) (eC (.int 0))) (eC (.str [119, 114, 105, 116, 101])))) (sRet (eCall m_tree_wrote [(eB 0), (e2 D.idx (eB 1) (eC (.int 1))), (e2 D.idx (eB 1) (eC (.int 2)))])) sNil) (sSeq (sIf (tE (e2 D.eq (e2 D.idx (eB 1) (eC (.int 0))) (eC (.str [109, 111, 118, 101])))) (sRet (eCall m_tree_moved [(eB 0), (e2 D.idx (eB 1) (eC (.int 1))), (e2 D.idx (eB 1) (eC (.int 2))), (e2 D.idx (eB 1) (eC (.int 3)))])) sNil) (sRet (eCall m_tree_dropped [(eB 0), (e2 D.idx (eB 1) (eC (.int 1)))])))))
def m_done : List D → Res D := runD [true, true] 2 b_done
def b_all_done : S := (sSeq (sFor (iE (eV 1)) (gN 2) (sSet 0 (eCall m_done [(eB 0), (eB 2)]))) (sRet (eV 0)))
def m_all_done : List D → Res D := runD [false, false] 3 b_all_done
def b_is_whole : S := (sRet (eAnd (e1 (D.isa .int) (eB 0)) (eNot (e1 (D.isa .bool) (eB 0)))))
def m_is_whole : List D → Res D := runD [true] 1 b_is_whole
def b_is_name : S := (sRet (eAnd (e1 (D.isa .str) (eB 0)) (eAnd (eCh D.leI D.leI (eC (.int 1)) (e1 D.len (eB 0)) (eC (.int 5))) (e1 D.all (eComp (iE (eB 0)) [1] (gN 1) tTrue (e2 D.isIn (eB 1) (eC (.str [97, 98, 99, 100, 101, 102, 103, 104, 105, 106, 107, 108, 109, 110, 111, 112, 113, 114, 115, 116, 117, 118, 119, 120, 121, 122]))))))))
def m_is_name : List D → Res D := runD [true] 2 b_is_name
def b_is_stamp : S := (sRet (eOr (e1 D.isN (eB 0)) (eAnd (eCall m_is_whole [(eB 0)]) (eCh D.leI D.leI (eC (.int 0)) (eB 0) (eC (.int 999))))))
def m_is_stamp : List D → Res D := runD [true] 1 b_is_stamp
def b_is_node : S := (sSeq (sIf (tOr (tNot (tE (e1 (D.isa .tup) (eB 0)))) (tOr (tE (e2 D.ne (e1 D.len (eB 0)) (eC (.int 4)))) (tOr (tNot (tE (eCall m_is_whole [(e2 D.idx (eB 0) (eC (.int 0)))]))) (tE (e2 D.ltI (e2 D.idx (eB 0) (eC (.int 0))) (eC (.int 1))))))) (sRet (eC (.bl false))) sNil) (sRet (eAnd (eCall m_is_whole [(e2 D.idx (eB 0) (eC (.int 1)))]) (eAnd (e2 D.geI (e2 D.idx (eB 0) (eC (.int 1))) (eC (.int 0))) (eAnd (eCall m_is_name [(e2 D.idx (eB 0) (eC (.int 2)))]) (eCall m_is_stamp [(e2 D.idx (eB 0) (eC (.int 3)))]))))))
def m_is_node : List D → Res D := runD [true] 1 b_is_node
def b_comes_up : S := (sSeq (sSet 2 (eV 1)) (sSeq (sFor (iR1 (e1 D.len (eB 0))) (gN 3) (sSeq (sSet 2 (e2 D.idx (e2 D.idx (eB 0) (eB 2)) (eC (.int 0)))) (sSeq (sIf (tE (e2 D.eq (eB 2) (eC (.int 0)))) (sRet (eC (.bl true))) sNil) (sIf (tOr (tE (e2 D.notIn (eB 2) (eB 0))) (tE (e1 D.notN (e2 D.idx (e2 D.idx (eB 0) (eB 2)) (eC (.int 2)))))) (sRet (eC (.bl false))) sNil)))) (sRet (eC (.bl false)))))
def m_comes_up : List D → Res D := runD [true, false] 4 b_comes_up
def b_is_tree : S := (sSeq (sIf (tOr (tNot (tE (e1 (D.isa .tup) (eB 0)))) (tNot (tE (e1 D.all (eComp (iE (eB 0)) [1] (gN 1) tTrue (eCall m_is_node [(eB 1)])))))) (sRet (eC (.bl false))) sNil) (sSeq (sOwn 2 (eComp (iE (eB 0)) [1] (gN 1) tTrue (e2 D.idx (eB 1) (eC (.int 0))))) (sSeq (sFrz 2) (sSeq (sIf (tE (e2 D.ne (eB 2) (e1 D.sortedSet (eB 2)))) (sRet (eC (.bl false))) sNil) (sSeq (sOwn 3 (eComp (iE (eB 0)) [1] (gN 1) tTrue (eSl (eB 1) (some (eC (.int 1))) (some (eC (.int 3)))))) (sSeq (sFrz 3) (sSeq (sSet 4 (eCall m_book_of [(eB 0)])) (sRet (eAnd (e2 D.eq (e1 D.lenSet (eB 3)) (e1 D.len (eB 3))) (e1 D.all (eComp (iE (eB 2)) [5] (gN 5) tTrue (eCall m_comes_up [(eB 4), (eV 5)]))))))))))))
def m_is_tree : List D → Res D := runD [true] 6 b_is_tree
def b_applied : S := (sSeq (sOwn 2 (eCall m_book_of [(eB 0)])) (sSeq (sFor (iE (eV 1)) (gT [(gN 3), (gN 4), (gN 5)]) (sSeq (sIf (tE (e2 D.ne (eGet1 (eB 2) (eB 3)) (eB 4))) (sRaise 7) sNil) (sIf (tE (e1 D.isN (eB 5))) (sDel 2 (eB 3)) (sPut 2 (eB 3) (eV 5))))) (sSeq (sSet 6 (eCall m_tree_of [(eB 2)])) (sSeq (sIf (tNot (tE (eCall m_is_tree [(eB 6)]))) (sRaise 7) sNil) (sRet (eV 6))))))
def m_applied : List D → Res D := runD [true, false] 7 b_applied
def b_walked : S := (sSeq (sSet 1 (eCall m_book_of [(eB 0)])) (sRet (e1 D.sorted (eComp (iK (eB 1)) [2] (gN 2) tTrue (eTup [(eCall m_path_in [(eB 1), (eV 2)]), (eV 2)])))))
def m_walked : List D → Res D := runD [true] 3 b_walked
def b_kind_of : S := (sRet (e1 D.isN (e2 D.idx (e2 D.idx (eB 0) (eB 1)) (eC (.int 2)))))
def m_kind_of : List D → Res D := runD [true, true] 2 b_kind_of
def b_by_paths : S := (sSeq (sSet 2 (eCall m_book_of [(eB 0)])) (sSeq (sSet 3 (eCall m_book_of [(eB 1)])) (sSeq (sSet 4 (e1 D.dictT (eCall m_walked [(eB 1)]))) (sSeq (sOwn 5 (eLst [])) (sSeq (sFor (iE (eCall m_walked [(eB 0)])) (gT [(gN 6), (gN 7)]) (sIf (tAnd (tE (e2 D.isIn (eB 6) (eB 4))) (tE (e2 D.eq (eCall m_kind_of [(eB 2), (eB 7)]) (eCall m_kind_of [(eB 3), (e2 D.idx (eB 4) (eB 6))])))) (sApp 5 (eTup [(eV 7), (e2 D.idx (eB 4) (eB 6))])) sNil)) (sRetO 5))))))
def m_by_paths : List D → Res D := runD [true, true] 8 b_by_paths
def b_stamped : S := (sRet (eComp (iE (eB 0)) [3] (gN 3) (tAnd (tE (e1 D.notN (e2 D.idx (eB 3) (eC (.int 3))))) (tE (eCh D.leI D.leI (eB 1) (e2 D.idx (eB 3) (eC (.int 3))) (eB 2)))) (e2 D.idx (eB 3) (eC (.int 0)))))
def m_stamped : List D → Res D := runD [true, true, true] 4 b_stamped
def b_by_stamps : S := (sSeq (sSet 1 (e1 D.sortedSet (eComp (iE (eB 0)) [2] (gN 2) (tE (e1 D.notN (e2 D.idx (eB 2) (eC (.int 3))))) (e2 D.idx (eB 2) (eC (.int 3)))))) (sRet (eComp (iE (eB 1)) [3] (gN 3) tTrue (eTup [(eV 3), (eCall m_stamped [(eB 0), (eB 3), (eB 3)])]))))
def m_by_stamps : List D → Res D := runD [true] 4 b_by_stamps
def b_change_between : S := (sSeq (sSet 2 (eCall m_book_of [(eB 0)])) (sSeq (sSet 3 (eCall m_book_of [(eB 1)])) (sSeq (sOwn 4 (eLst [])) (sSeq (sFor (iE (e1 D.sortedSet (e2 D.add (e1 D.toLst (eB 2)) (e1 D.toLst (eB 3))))) (gN 5) (sIf (tE (e2 D.ne (eGet1 (eB 2) (eB 5)) (eGet1 (eB 3) (eB 5)))) (sApp 4 (eTup [(eV 5), (eGet1 (eB 2) (eB 5)), (eGet1 (eB 3) (eB 5))])) sNil)) (sRet (e1 D.toTup (eB 4)))))))
def m_change_between : List D → Res D := runD [true, true] 6 b_change_between
def b_is_seen : S := (sRet (eNot (e1 D.any (eComp (iE (eCall m_path_in [(eB 0), (eV 1)])) [3] (gN 3) tTrue (e2 D.isIn (eB 3) (eB 2))))))
def m_is_seen : List D → Res D := runD [true, false, true] 4 b_is_seen
def b_seen : S := (sSeq (sSet 2 (eCall m_book_of [(eB 0)])) (sRet (e1 D.toTup (eComp (iE (eB 0)) [3] (gN 3) (tE (eCall m_is_seen [(eB 2), (e2 D.idx (eB 3) (eC (.int 0))), (eB 1)])) (eV 3)))))
def m_seen : List D → Res D := runD [true, true] 4 b_seen
def b_change_seen : S := (sSeq (sSet 3 (eCall m_book_of [(eCall m_seen [(eB 0), (eB 2)])])) (sSeq (sSet 4 (eCall m_book_of [(eCall m_seen [(eB 1), (eB 2)])])) (sSeq (sOwn 5 (eLst [])) (sSeq (sFor (iE (e1 D.sortedSet (e2 D.add (e1 D.toLst (eB 3)) (e1 D.toLst (eB 4))))) (gN 6) (sIf (tE (e2 D.ne (eGet1 (eB 3) (eB 6)) (eGet1 (eB 4) (eB 6)))) (sApp 5 (eTup [(eV 6), (eGet1 (eB 3) (eB 6)), (eGet1 (eB 4) (eB 6))])) sNil)) (sRet (e1 D.toTup (eB 5)))))))
def m_change_seen : List D → Res D := runD [true, true, true] 7 b_change_seen
def b_children : S := (sSeq (sDrop (eCall m_look_folder [(eB 0), (eB 1)])) (sRet (eComp (iE (e1 (D.sortedAt 2) (eB 0))) [2] (gN 2) (tE (e2 D.eq (e2 D.idx (eB 2) (eC (.int 1))) (eB 1))) (e2 D.idx (eB 2) (eC (.int 0))))))
def m_children : List D → Res D := runD [true, true] 3 b_children
def b_clashing : S := (sSeq (sSet 3 (e1 D.dictK (eComp (iE (eCall m_change_between [(eB 0), (eB 1)])) [4] (gN 4) tTrue (eTup [(e2 D.idx (eB 4) (eC (.int 0))), (e2 D.idx (eB 4) (eC (.int 2)))])))) (sSeq (sSet 5 (e1 D.dictK (eComp (iE (eCall m_change_between [(eB 0), (eB 2)])) [4] (gN 4) tTrue (eTup [(e2 D.idx (eB 4) (eC (.int 0))), (e2 D.idx (eB 4) (eC (.int 2)))])))) (sRet (eComp (iE (e1 D.sortedD (eB 3))) [6] (gN 6) (tAnd (tE (e2 D.isIn (eB 6) (eB 5))) (tE (e2 D.ne (e2 D.idx (eB 3) (eB 6)) (e2 D.idx (eB 5) (eB 6))))) (eV 6)))))
def m_clashing : List D → Res D := runD [true, true, true] 7 b_clashing
def b_word_of : S := (sSeq (sIf (tE (e1 D.isN (eB 0))) (sRet (eC (.str [109, 97, 100, 101]))) sNil) (sSeq (sIf (tE (e1 D.isN (eB 1))) (sRet (eC (.str [103, 111, 110, 101]))) sNil) (sSeq (sIf (tE (e2 D.eq (eSl (eB 0) none (some (eC (.int 2)))) (eSl (eB 1) none (some (eC (.int 2)))))) (sRet (eC (.str [119, 114, 105, 116, 116, 101, 110]))) sNil) (sRet (eIf (tE (e2 D.eq (e2 D.idx (eB 0) (eC (.int 2))) (e2 D.idx (eB 1) (eC (.int 2))))) (eC (.str [109, 111, 118, 101, 100])) (eC (.str [98, 111, 116, 104])))))))
def m_word_of : List D → Res D := runD [true, true] 2 b_word_of
def b_counted : S := (sSeq (sOwn 1 (eComp (iE (eB 0)) [2, 3, 4] (gT [(gN 2), (gN 3), (gN 4)]) tTrue (eCall m_word_of [(eB 3), (eB 4)]))) (sSeq (sFrz 1) (sRet (e1 D.toTup (eComp (iE (eTup [(eC (.str [109, 97, 100, 101])), (eC (.str [103, 111, 110, 101])), (eC (.str [119, 114, 105, 116, 116, 101, 110])), (eC (.str [109, 111, 118, 101, 100])), (eC (.str [98, 111, 116, 104]))])) [5] (gN 5) tTrue (eM1 D.isLst D.count (eB 1) (eB 5)))))))
def m_counted : List D → Res D := runD [true] 6 b_counted
def b_cut_out : S := (sSeq (sDrop (eCall m_look_folder [(eB 0), (eB 1)])) (sSeq (sSet 2 (eCall m_below [(eB 0), (eB 1)])) (sSeq (sOwn 3 (eComp (iE (eB 0)) [4, 5, 6, 7] (gT [(gN 4), (gN 5), (gN 6), (gN 7)]) tTrue (eTup [(eV 4), (eIf (tE (e2 D.eq (eB 5) (eB 1))) (eC (.int 0)) (eV 5)), (eV 6), (eV 7)]))) (sSeq (sFrz 3) (sRet (e1 D.toTup (eComp (iE (eB 3)) [8] (gN 8) (tE (e2 D.isIn (e2 D.idx (eB 8) (eC (.int 0))) (eB 2))) (eV 8))))))))
def m_cut_out : List D → Res D := runD [true, true] 9 b_cut_out
def b_depth_of : S := (sRet (e1 D.len (eCall m_path_of [(eB 0), (eV 1)])))
def m_depth_of : List D → Res D := runD [true, false] 2 b_depth_of
def b_find : S := (sSeq (sIf (tE (e2 D.eq (eB 1) (eTup []))) (sRet (eC (.int 0))) sNil) (sSeq (sFor (iE (eCall m_walked [(eB 0)])) (gT [(gN 2), (gN 3)]) (sIf (tE (e2 D.eq (eB 2) (eB 1))) (sRet (eV 3)) sNil)) (sRet (eC .non))))
def m_find : List D → Res D := runD [true, true] 4 b_find
def b_first_of_kind : S := (sSeq (sSet 1 (eCall m_book_of [(eB 0)])) (sSeq (sOwn 2 (eComp (iE (eCall m_walked [(eB 0)])) [3, 4] (gT [(gN 3), (gN 4)]) (tE (e1 D.isN (e2 D.idx (e2 D.idx (eB 1) (eB 4)) (eC (.int 2))))) (eV 4))) (sSeq (sFrz 2) (sSeq (sOwn 5 (eComp (iE (eCall m_walked [(eB 0)])) [3, 4] (gT [(gN 3), (gN 4)]) (tE (e1 D.notN (e2 D.idx (e2 D.idx (eB 1) (eB 4)) (eC (.int 2))))) (eV 4))) (sSeq (sFrz 5) (sRet (eTup [(e2 D.idx (e2 D.add (eB 2) (eLst [(eC .non)])) (eC (.int 0))), (e2 D.idx (e2 D.add (eB 5) (eLst [(eC .non)])) (eC (.int 0)))])))))))
def m_first_of_kind : List D → Res D := runD [true] 6 b_first_of_kind
def b_grafted : S := (sSeq (sDrop (eCall m_look_folder [(eB 0), (eB 1)])) (sSeq (sOwn 3 (eComp (iE (eB 0)) [4] (gN 4) (tE (e2 D.eq (e2 D.idx (eB 4) (eC (.int 1))) (eB 1))) (e2 D.idx (eB 4) (eC (.int 2))))) (sSeq (sFrz 3) (sSeq (sIf (tE (e1 D.any (eComp (iE (eB 2)) [4] (gN 4) tTrue (eAnd (e2 D.eq (e2 D.idx (eB 4) (eC (.int 1))) (eC (.int 0))) (e2 D.isIn (e2 D.idx (eB 4) (eC (.int 2))) (eB 3)))))) (sRaise 6) sNil) (sSeq (sSet 5 (e1 D.maxL (e2 D.add (eLst [(eC (.int 0))]) (eComp (iE (eB 0)) [4] (gN 4) tTrue (e2 D.idx (eB 4) (eC (.int 0))))))) (sSeq (sOwn 6 (eComp (iE (eB 2)) [7, 8, 9, 10] (gT [(gN 7), (gN 8), (gN 9), (gN 10)]) tTrue (eTup [(e2 D.add (eB 7) (eB 5)), (eIf (tE (e2 D.eq (eB 8) (eC (.int 0)))) (eV 1) (e2 D.add (eB 8) (eB 5))), (eV 9), (eV 10)]))) (sSeq (sFrz 6) (sRet (e2 D.add (eB 0) (e1 D.toTup (eB 6)))))))))))
def m_grafted : List D → Res D := runD [true, false, true] 11 b_grafted
def b_is_quiet : S := (sRet (e2 D.eq (eCall m_seen [(eB 0), (eB 2)]) (eCall m_seen [(eB 1), (eB 2)])))
def m_is_quiet : List D → Res D := runD [true, true, true] 3 b_is_quiet
def b_joined : S := (sSeq (sOwn 2 (eC (.dct false []))) (sSeq (sFor (iE (eV 0)) (gT [(gN 3), (gN 4), (gN 5)]) (sPut 2 (eB 3) (eTup [(eV 4), (eV 5)]))) (sSeq (sFor (iE (eV 1)) (gT [(gN 3), (gN 4), (gN 5)]) (sSeq (sIf (tAnd (tE (e2 D.isIn (eB 3) (eB 2))) (tE (e2 D.ne (e2 D.idx (e2 D.idx (eB 2) (eB 3)) (eC (.int 1))) (eB 4)))) (sRaise 7) sNil) (sPut 2 (eB 3) (eIf (tE (e2 D.isIn (eB 3) (eB 2))) (eTup [(e2 D.idx (e2 D.idx (eB 2) (eB 3)) (eC (.int 0))), (eV 5)]) (eTup [(eV 4), (eV 5)]))))) (sRet (e1 D.toTup (eComp (iE (e1 D.sorted (e1 D.toLst (eB 2)))) [3] (gN 3) (tE (e2 D.ne (e2 D.idx (e2 D.idx (eB 2) (eB 3)) (eC (.int 0))) (e2 D.idx (e2 D.idx (eB 2) (eB 3)) (eC (.int 1))))) (e2 D.add (eTup [(eV 3)]) (e2 D.idx (eB 2) (eB 3)))))))))
def m_joined : List D → Res D := runD [false, false] 6 b_joined
def b_kept_alike : S := (sRet (e1 D.sortedSet (eComp (iE (eB 0)) [2] (gN 2) (tE (e2 D.isIn (eB 2) (eB 1))) (e2 D.idx (eB 2) (eC (.int 0))))))
def m_kept_alike : List D → Res D := runD [true, true] 3 b_kept_alike
def b_rest_of : S := (sSeq (sSet 2 (eCall m_book_of [(eB 0)])) (sSeq (sOwn 3 (eComp (iE (eCall m_walked [(eB 0)])) [4, 5] (gT [(gN 4), (gN 5)]) (tAnd (tE (e2 D.notIn (eB 5) (eB 1))) (tNot (tE (eCall m_kind_of [(eB 2), (eB 5)])))) (eV 5))) (sSeq (sFrz 3) (sRet (eComp (iE (eB 3)) [5] (gN 5) tTrue (eTup [(eV 5), (e2 D.idx (e2 D.idx (eB 2) (eB 5)) (eC (.int 2)))]))))))
def m_rest_of : List D → Res D := runD [true, true] 6 b_rest_of
def b_known_again : S := (sSeq (sOwn 2 (eCall m_by_paths [(eB 0), (eB 1)])) (sSeq (sSet 3 (eCall m_rest_of [(eB 1), (eComp (iE (eB 2)) [4] (gN 4) tTrue (e2 D.idx (eB 4) (eC (.int 1))))])) (sSeq (sFor (iE (eCall m_rest_of [(eB 0), (eComp (iE (eB 2)) [4] (gN 4) tTrue (e2 D.idx (eB 4) (eC (.int 0))))])) (gT [(gN 5), (gN 6)]) (sSeq (sOwn 7 (eComp (iE (eB 3)) [4] (gN 4) (tE (e2 D.eq (e2 D.idx (eB 4) (eC (.int 1))) (eB 6))) (eV 4))) (sSeq (sFrz 7) (sIf (tE (e2 D.ne (eB 7) (eLst []))) (sSeq (sApp 2 (eTup [(eV 5), (e2 D.idx (e2 D.idx (eB 7) (eC (.int 0))) (eC (.int 0)))])) (sOwn 3 (eComp (iE (eB 3)) [4] (gN 4) (tE (e2 D.ne (eB 4) (e2 D.idx (eB 7) (eC (.int 0))))) (eV 4)))) sNil)))) (sRet (e1 D.sorted (eB 2))))))
def m_known_again : List D → Res D := runD [true, true] 8 b_known_again
def b_meeting : S := (sSeq (sDrop (eCall m_look_node [(eB 0), (eB 1)])) (sSeq (sDrop (eCall m_look_node [(eB 0), (eB 2)])) (sSeq (sSet 3 (eCall m_book_of [(eB 0)])) (sSeq (sPar 4 5 (eCall m_path_in [(eB 3), (eV 1)]) (eCall m_path_in [(eB 3), (eV 2)])) (sSeq (sSet 6 (eC (.int 0))) (sSeq (sWhile (tAnd (tE (e2 D.ltI (eB 6) (e2 D.min2 (e1 D.len (eB 4)) (e1 D.len (eB 5))))) (tE (e2 D.eq (e2 D.idx (eB 4) (eB 6)) (e2 D.idx (eB 5) (eB 6))))) (sSet 6 (e2 D.add (eB 6) (eC (.int 1))))) (sRet (eCall m_find [(eB 0), (eSl (eB 4) none (some (eB 6)))]))))))))
def m_meeting : List D → Res D := runD [true, false, false] 7 b_meeting
def b_merged : S := (sSeq (sIf (tE (e2 D.ne (eCall m_clashing [(eB 0), (eB 1), (eB 2)]) (eLst []))) (sRaise 7) sNil) (sSeq (sSet 3 (eCall m_change_between [(eB 0), (eB 1)])) (sSeq (sOwn 4 (eComp (iE (eB 3)) [5] (gN 5) tTrue (e2 D.idx (eB 5) (eC (.int 0))))) (sSeq (sFrz 4) (sSeq (sOwn 6 (eComp (iE (eCall m_change_between [(eB 0), (eB 2)])) [5] (gN 5) (tE (e2 D.notIn (e2 D.idx (eB 5) (eC (.int 0))) (eB 4))) (eV 5))) (sSeq (sFrz 6) (sRet (eCall m_applied [(eB 0), (e1 D.toTup (e1 (D.sortedAt 0) (e2 D.add (eB 3) (e1 D.toTup (eB 6)))))]))))))))
def m_merged : List D → Res D := runD [true, true, true] 7 b_merged
def b_named : S := (sRet (eComp (iE (eB 0)) [2] (gN 2) (tE (e2 D.eq (e2 D.idx (eB 2) (eC (.int 2))) (eB 1))) (e2 D.idx (eB 2) (eC (.int 0)))))
def m_named : List D → Res D := runD [true, true] 3 b_named
def b_number_first : S := (sRet (e2 D.idx (eB 0) (eC (.int 0))))
def m_number_first : List D → Res D := runD [true] 1 b_number_first
def b_numbered_by_paths : S := (sSeq (sOwn 2 (eC (.dct false [(.int 0, .int 0)]))) (sSeq (sFor (iEnuB (eCall m_walked [(eB 0)])) (gT [(gN 3), (gT [(gN 4), (gN 5)])]) (sPut 2 (eB 5) (e2 D.add (eB 1) (eB 3)))) (sRet (e1 D.toTup (e1 D.sorted (eComp (iE (eB 0)) [6, 7, 8, 9] (gT [(gN 6), (gN 7), (gN 8), (gN 9)]) tTrue (eTup [(e2 D.idx (eB 2) (eB 6)), (e2 D.idx (eB 2) (eB 7)), (eV 8), (eV 9)])))))))
def m_numbered_by_paths : List D → Res D := runD [true, true] 10 b_numbered_by_paths
def b_renumbered : S := (sSeq (sOwn 2 (e1 D.dictK (eComp (iE (eCall m_known_again [(eB 0), (eB 1)])) [3] (gN 3) tTrue (eTup [(e2 D.idx (eB 3) (eC (.int 1))), (e2 D.idx (eB 3) (eC (.int 0)))])))) (sSeq (sPut 2 (eC (.int 0)) (eC (.int 0))) (sSeq (sSet 4 (e1 (D.maxLD 0) (eComp (iE (eB 0)) [5] (gN 5) tTrue (e2 D.idx (eB 5) (eC (.int 0)))))) (sSeq (sFor (iE (eCall m_walked [(eB 1)])) (gT [(gN 6), (gN 7)]) (sIf (tE (e2 D.notIn (eB 7) (eB 2))) (sSeq (sSet 4 (e2 D.add (eB 4) (eC (.int 1)))) (sPut 2 (eB 7) (eV 4))) sNil)) (sSeq (sSet 8 (eCall m_book_of [(eB 1)])) (sSeq (sOwn 9 (eC (.dct false []))) (sSeq (sForK 8 (gN 7) (sSeq (sAsg (gT [(gN 10), (gN 11), (gN 12)]) (e2 D.idx (eB 8) (eB 7))) (sPut 9 (e2 D.idx (eB 2) (eB 7)) (eTup [(e2 D.idx (eB 2) (eB 10)), (eV 11), (eV 12)])))) (sRet (eCall m_tree_of [(eB 9)])))))))))
def m_renumbered : List D → Res D := runD [true, true] 13 b_renumbered
def b_total : S := (sSeq (sDrop (eCall m_look_folder [(eB 0), (eB 1)])) (sSeq (sSet 2 (eCall m_book_of [(eB 0)])) (sSeq (sOwn 3 (eComp (iE (eCall m_below [(eB 0), (eB 1)])) [4] (gN 4) tTrue (e2 D.idx (e2 D.idx (eB 2) (eB 4)) (eC (.int 2))))) (sSeq (sFrz 3) (sSeq (sOwn 5 (eComp (iE (eB 3)) [6] (gN 6) (tE (e1 D.notN (eB 6))) (eV 6))) (sSeq (sFrz 5) (sRet (eTup [(e2 D.sub (e1 D.len (eB 3)) (e1 D.len (eB 5))), (e1 D.len (eB 5)), (e1 D.sum (eB 5))]))))))))
def m_total : List D → Res D := runD [true, true] 7 b_total
def b_turned_back : S := (sRet (e1 D.toTup (eComp (iE (eB 0)) [1, 2, 3] (gT [(gN 1), (gN 2), (gN 3)]) tTrue (eTup [(eV 1), (eV 3), (eV 2)]))))
def m_turned_back : List D → Res D := runD [true] 4 b_turned_back
def b_without : S := (sSeq (sDrop (eCall m_look_folder [(eB 0), (eB 1)])) (sSeq (sSet 2 (eCall m_below [(eB 0), (eB 1)])) (sRet (e1 D.toTup (eComp (iE (eB 0)) [3] (gN 3) (tE (e2 D.notIn (e2 D.idx (eB 3) (eC (.int 0))) (eB 2))) (eV 3))))))
def m_without : List D → Res D := runD [true, true] 4 b_without
end Tw.M

set_option autoImplicit false
/-! Mirrors, printed by our tool. -/
namespace Tw.K61
def b_law : S := (sSeq (sSet 1 (eCall M.m_tree_L [(eB 0), (eC (.int 0)), (eC (.int 8))])) (sSeq (sSet 2 (eCall M.m_other_numbers_L [(eB 0), (eC (.int 100)), (eV 1)])) (sSeq (sSet 3 (eCall M.m_known_again [(eB 1), (eB 2)])) (sSeq (sIf (tE (e2 D.ne (e1 D.sorted (eComp (iE (eB 3)) [4] (gN 4) tTrue (e2 D.idx (eB 4) (eC (.int 0))))) (eComp (iE (eB 1)) [5] (gN 5) tTrue (e2 D.idx (eB 5) (eC (.int 0)))))) (sRet (eC (.bl false))) sNil) (sSeq (sIf (tOr (tE (e2 D.ne (eCall M.m_renumbered [(eB 1), (eB 2)]) (eB 1))) (tE (e2 D.ne (eCall M.m_change_between [(eB 1), (eCall M.m_renumbered [(eB 1), (eB 2)])]) (eTup [])))) (sRet (eC (.bl false))) sNil) (sSeq (sIf (tE (e2 D.ne (e1 D.sorted (eComp (iE (eB 3)) [4] (gN 4) tTrue (eTup [(e2 D.idx (eB 4) (eC (.int 1))), (e2 D.idx (eB 4) (eC (.int 0)))]))) (eCall M.m_known_again [(eB 2), (eB 1)]))) (sRet (eC (.bl false))) sNil) (sSeq (sSet 6 (eCall M.m_tree_L [(eB 0), (eC (.int 200)), (eC (.int 8))])) (sSeq (sSet 7 (eCall M.m_renumbered [(eB 1), (eB 6)])) (sSeq (sIf (tE (e2 D.ne (eCall M.m_renumbered [(eB 1), (eB 7)]) (eB 7))) (sRet (eC (.bl false))) sNil) (sRet (e2 D.eq (eComp (iE (eCall M.m_walked [(eB 7)])) [8, 9] (gT [(gN 8), (gN 9)]) tTrue (eV 8)) (eComp (iE (eCall M.m_walked [(eB 6)])) [8, 9] (gT [(gN 8), (gN 9)]) tTrue (eV 8)))))))))))))
def m_law : List D → Res D := runD [true] 10 b_law
end Tw.K61

set_option autoImplicit false
set_option Elab.async false
set_option linter.all false
set_option maxRecDepth 100000
set_option maxHeartbeats 4000000
/-! The walk, printed by our tool. -/
namespace Tw.K61
open PySem L2
def top (i : Nat) : Stmt := PySem.Challenge.pw_treewatch_k61_whole_itself_again.main.body.getD i (.Pass ⟨0, 0, 0, 0⟩)
abbrev st_book_of : Stmt := top 1
abbrev st_tree_of : Stmt := top 2
abbrev st_path_in : Stmt := top 3
abbrev st_walked : Stmt := top 4
abbrev st_kind_of : Stmt := top 6
abbrev st_by_paths : Stmt := top 7
abbrev st_rest_of : Stmt := top 8
abbrev st_known_again : Stmt := top 9
abbrev st_renumbered : Stmt := top 10
abbrev st_change_between : Stmt := top 12
abbrev st_cell_L : Stmt := top 14
abbrev st_pick_L : Stmt := top 15
abbrev st_tree_L : Stmt := top 16
abbrev st_other_numbers_L : Stmt := top 17
abbrev st_law : Stmt := top 18
structure Tx (K : PySem.W.Frag) (mg : Str → Option Value) (xa : XA) : Prop where
  b_dict : mg "dict" = none
  b_enumerate : mg "enumerate" = none
  b_len : mg "len" = none
  b_list : mg "list" = none
  b_max : mg "max" = none
  b_range : mg "range" = none
  b_set : mg "set" = none
  b_sorted : mg "sorted" = none
  b_tuple : mg "tuple" = none
variable {P : Program} {w : World} {K : PySem.W.Frag} {mg : Str → Option Value} {base : Heap} {xa : XA}
abbrev N_book_of : List Str := ["tree", "node"]
theorem df_book_of {f : Addr} {fd : FuncData} (T : Tx K mg xa)  (Fu : Fun K "book_of" "book_of" st_book_of f fd) (hb : Binds K fd ["tree"] []) (hm : mg "book_of" = some (.ref f)) (hk : PySem.W.keepIn K (.ref f) = true) : Df P w K mg base xa 1 "book_of" [true] true M.m_book_of := by
  have sc : FnScope N_book_of ["tree"] (defScope st_book_of) := ⟨rfl, rfl, rfl, by decide +kernel, rfl, by decide +kernel, by decide +kernel⟩
  exact df_core Fu sc hb hm hk rfl (by decide) (fun cdv A outer sh H Ex hcd hr => (rss_one (rs_retF (rf_t1 (ok_dictK (by rfl)) (by rfl) T.b_dict (by decide +kernel) (RF.toB (RC.toF (rc_comp (own := [("node", 1)]) (ri_lent (rb_var 0)) (by exact blkOk_by (N := N_book_of) (sc := defScope st_book_of) (own := [("node", 1)]) (by decide +kernel)) (fun _ _ _ _ _ => (rg_name (i := 1) sc.nd (by rfl) (by first | exact Or.inl rfl | exact Or.inr rfl))) (fun _ _ _ _ _ => rts_nil) (fun _ _ _ _ _ => (re_tup (ras_cons (re_sub (ok_idx (by exact hr.units)) (rb_var 1) (RE.toB re_int)) (ras_cons (re_slice (rb_var 1) (rp_some (RE.toB re_int)) rp_none) ras_nil))))) (by rfl) sc.nd)))))) (.inr nonx_ret)
abbrev N_tree_of : List Str := ["book", "number"]
theorem df_tree_of {f : Addr} {fd : FuncData} (T : Tx K mg xa)  (Fu : Fun K "tree_of" "tree_of" st_tree_of f fd) (hb : Binds K fd ["book"] []) (hm : mg "tree_of" = some (.ref f)) (hk : PySem.W.keepIn K (.ref f) = true) : Df P w K mg base xa 1 "tree_of" [true] false M.m_tree_of := by
  have sc : FnScope N_tree_of ["book"] (defScope st_tree_of) := ⟨rfl, rfl, rfl, by decide +kernel, rfl, by decide +kernel, by decide +kernel⟩
  exact df_core Fu sc hb hm hk rfl (by decide) (fun cdv A outer sh H Ex hcd hr => (rss_one (rs_ret (re_t1 ok_toTup (by rfl) T.b_tuple (by decide +kernel) (RF.toB (RC.toF (rc_comp (own := [("number", 1)]) (ri_lent (RF.toB (rf_b1 (ok_sorted (by exact hr.units)) (by rfl) T.b_sorted (by decide +kernel) (RF.toB (rf_t1 (ok_toLst (by rfl)) (by rfl) T.b_list (by decide +kernel) (rb_var 0)))))) (by exact blkOk_by (N := N_tree_of) (sc := defScope st_tree_of) (own := [("number", 1)]) (by decide +kernel)) (fun _ _ _ _ _ => (rg_name (i := 1) sc.nd (by rfl) (by first | exact Or.inl rfl | exact Or.inr rfl))) (fun _ _ _ _ _ => rts_nil) (fun _ _ _ _ _ => (re_bin ok_add (RE.toB (re_tup (ras_cons (re_var 1) ras_nil))) (RE.toB (re_sub (ok_idx (by exact hr.units)) (rb_var 0) (rb_var 1)))))) (by rfl) sc.nd)))))) (.inl rfl)
abbrev N_path_in : List Str := ["book", "number", "made", "here"]
theorem df_path_in {f : Addr} {fd : FuncData} (T : Tx K mg xa)  (Fu : Fun K "path_in" "path_in" st_path_in f fd) (hb : Binds K fd ["book", "number"] []) (hm : mg "path_in" = some (.ref f)) (hk : PySem.W.keepIn K (.ref f) = true) : Df P w K mg base xa 1 "path_in" [true, false] false M.m_path_in := by
  have sc : FnScope N_path_in ["book", "number"] (defScope st_path_in) := ⟨rfl, rfl, rfl, by decide +kernel, rfl, by decide +kernel, by decide +kernel⟩
  exact df_core Fu sc hb hm hk rfl (by decide) (fun cdv A outer sh H Ex hcd hr => (rss_cons (rs_own (i := 2) sc.nd (by rfl) (by first | exact Or.inl rfl | exact Or.inr rfl) (rf_lst ras_nil)) (rss_cons (rs_set (i := 3) sc.nd (by rfl) (by first | exact Or.inl rfl | exact Or.inr rfl) (re_var 1)) (rss_cons (rs_while (passes_of (by rfl)) (rt_cmp (ok_ne (by exact hr.units)) (rb_var 3) (RE.toB re_int)) (rss_cons (rs_app (var_at 2) (re_sub (ok_idx (by exact hr.units)) (RE.toB (re_sub (ok_idx (by exact hr.units)) (rb_var 0) (rb_var 3))) (RE.toB re_int))) (rss_one (rs_set (i := 3) sc.nd (by rfl) (by first | exact Or.inl rfl | exact Or.inr rfl) (re_sub (ok_idx (by exact hr.units)) (RE.toB (re_sub (ok_idx (by exact hr.units)) (rb_var 0) (rb_var 3))) (RE.toB re_int)))))) (rss_one (rs_ret (re_t1 ok_toTup (by rfl) T.b_tuple (by decide +kernel) (RE.toB (re_rv (rb_var 2)))))))))) (.inl rfl)
abbrev N_walked : List Str := ["tree", "book", "number"]
theorem df_walked {f : Addr} {fd : FuncData} (T : Tx K mg xa) (D_book_of : Df P w K mg base xa 1 "book_of" [true] true M.m_book_of) (D_path_in : Df P w K mg base xa 1 "path_in" [true, false] false M.m_path_in) (Fu : Fun K "walked" "walked" st_walked f fd) (hb : Binds K fd ["tree"] []) (hm : mg "walked" = some (.ref f)) (hk : PySem.W.keepIn K (.ref f) = true) : Df P w K mg base xa 2 "walked" [true] false M.m_walked := by
  have sc : FnScope N_walked ["tree"] (defScope st_walked) := ⟨rfl, rfl, rfl, by decide +kernel, rfl, by decide +kernel, by decide +kernel⟩
  exact df_core Fu sc hb hm hk rfl (by decide) (fun cdv A outer sh H Ex hcd hr => (rss_cons (rs_set (i := 1) sc.nd (by rfl) (by first | exact Or.inl rfl | exact Or.inr rfl) (RF.toE (rf_call (by exact D_book_of) (by exact hr.mono (by decide)) (by exact takes_of rfl rfl rfl rfl) (by rfl) (ram_b (rb_var 0) ram_nil)))) (rss_one (rs_ret (RF.toE (rf_b1 (ok_sorted (by exact hr.units)) (by rfl) T.b_sorted (by decide +kernel) (RF.toB (RC.toF (rc_keys (own := [("number", 2)]) (var_at 1) (by exact blkOk_by (N := N_walked) (sc := defScope st_walked) (own := [("number", 2)]) (by decide +kernel)) (fun _ _ _ _ _ => (rg_name (i := 2) sc.nd (by rfl) (by first | exact Or.inl rfl | exact Or.inr rfl))) (fun _ _ _ _ _ => rts_nil) (fun _ _ _ _ _ => (re_tup (ras_cons (re_call (by exact D_path_in) (by exact hr.mono (by decide)) (by exact takes0) (by rfl) (ram_b (rb_var 1) (ram_s (re_var 2) ram_nil))) (ras_cons (re_var 2) ras_nil))))) (by rfl) sc.nd)))))))) (.inl rfl)
abbrev N_kind_of : List Str := ["book", "number"]
theorem df_kind_of {f : Addr} {fd : FuncData} (T : Tx K mg xa)  (Fu : Fun K "kind_of" "kind_of" st_kind_of f fd) (hb : Binds K fd ["book", "number"] []) (hm : mg "kind_of" = some (.ref f)) (hk : PySem.W.keepIn K (.ref f) = true) : Df P w K mg base xa 1 "kind_of" [true, true] false M.m_kind_of := by
  have sc : FnScope N_kind_of ["book", "number"] (defScope st_kind_of) := ⟨rfl, rfl, rfl, by decide +kernel, rfl, by decide +kernel, by decide +kernel⟩
  exact df_core Fu sc hb hm hk rfl (by decide) (fun cdv A outer sh H Ex hcd hr => (rss_one (rs_ret (re_isN (RE.toB (re_sub (ok_idx (by exact hr.units)) (RE.toB (re_sub (ok_idx (by exact hr.units)) (rb_var 0) (rb_var 1))) (RE.toB re_int))))))) (.inl rfl)
abbrev N_by_paths : List Str := ["old", "new", "first", "second", "paths", "made", "path", "number"]
theorem df_by_paths {f : Addr} {fd : FuncData} (T : Tx K mg xa) (D_book_of : Df P w K mg base xa 1 "book_of" [true] true M.m_book_of) (D_walked : Df P w K mg base xa 2 "walked" [true] false M.m_walked) (D_kind_of : Df P w K mg base xa 1 "kind_of" [true, true] false M.m_kind_of) (Fu : Fun K "by_paths" "by_paths" st_by_paths f fd) (hb : Binds K fd ["old", "new"] []) (hm : mg "by_paths" = some (.ref f)) (hk : PySem.W.keepIn K (.ref f) = true) : Df P w K mg base xa 3 "by_paths" [true, true] true M.m_by_paths := by
  have sc : FnScope N_by_paths ["old", "new"] (defScope st_by_paths) := ⟨rfl, rfl, rfl, by decide +kernel, rfl, by decide +kernel, by decide +kernel⟩
  exact df_core Fu sc hb hm hk rfl (by decide) (fun cdv A outer sh H Ex hcd hr => (rss_cons (rs_set (i := 2) sc.nd (by rfl) (by first | exact Or.inl rfl | exact Or.inr rfl) (RF.toE (rf_call (by exact D_book_of) (by exact hr.mono (by decide)) (by exact takes_of rfl rfl rfl rfl) (by rfl) (ram_b (rb_var 0) ram_nil)))) (rss_cons (rs_set (i := 3) sc.nd (by rfl) (by first | exact Or.inl rfl | exact Or.inr rfl) (RF.toE (rf_call (by exact D_book_of) (by exact hr.mono (by decide)) (by exact takes_of rfl rfl rfl rfl) (by rfl) (ram_b (rb_var 1) ram_nil)))) (rss_cons (rs_set (i := 4) sc.nd (by rfl) (by first | exact Or.inl rfl | exact Or.inr rfl) (RF.toE (rf_t1 (ok_dictT (by rfl) (by exact hr.units)) (by rfl) T.b_dict (by decide +kernel) (RE.toB (re_call (by exact D_walked) (by exact hr.mono (by decide)) (by exact takes_of rfl rfl rfl rfl) (by rfl) (ram_b (rb_var 1) ram_nil)))))) (rss_cons (rs_own (i := 5) sc.nd (by rfl) (by first | exact Or.inl rfl | exact Or.inr rfl) (rf_lst ras_nil)) (rss_cons (rs_for (passes_of (by rfl)) (by rfl) (ri_sh (re_call (by exact D_walked) (by exact hr.mono (by decide)) (by exact takes_of rfl rfl rfl rfl) (by rfl) (ram_b (rb_var 0) ram_nil))) (rg_tup (by rfl) (rgs_cons (rg_name (i := 6) sc.nd (by rfl) (by first | exact Or.inl rfl | exact Or.inr rfl)) (rgs_cons (rg_name (i := 7) sc.nd (by rfl) (by first | exact Or.inl rfl | exact Or.inr rfl)) rgs_nil))) (rss_one (rs_if (rw_and (rt_cmp (ok_in (by exact hr.units)) (rb_var 6) (rb_var 4)) (rw_and1 (rt_cmp (ok_eq (by exact hr.units)) (RE.toB (re_call (by exact D_kind_of) (by exact hr.mono (by decide)) (by exact takes_of rfl rfl rfl rfl) (by rfl) (ram_b (rb_var 2) (ram_b (rb_var 7) ram_nil)))) (RE.toB (re_call (by exact D_kind_of) (by exact hr.mono (by decide)) (by exact takes_of rfl rfl rfl rfl) (by rfl) (ram_b (rb_var 3) (ram_b (RE.toB (re_sub (ok_idx (by exact hr.units)) (rb_var 4) (rb_var 6))) ram_nil))))))).t (rss_one (rs_app (var_at 5) (re_tup (ras_cons (re_var 7) (ras_cons (re_sub (ok_idx (by exact hr.units)) (rb_var 4) (rb_var 6)) ras_nil))))) rss_nil))) (rss_one (rs_retO 5)))))))) (.inr (nonx_seq (nonx_seq (nonx_seq (nonx_seq (nonx_seq nonx_retO))))))
abbrev N_rest_of : List Str := ["tree", "numbers", "book", "left", "path", "number"]
theorem df_rest_of {f : Addr} {fd : FuncData} (T : Tx K mg xa) (D_book_of : Df P w K mg base xa 1 "book_of" [true] true M.m_book_of) (D_walked : Df P w K mg base xa 2 "walked" [true] false M.m_walked) (D_kind_of : Df P w K mg base xa 1 "kind_of" [true, true] false M.m_kind_of) (Fu : Fun K "rest_of" "rest_of" st_rest_of f fd) (hb : Binds K fd ["tree", "numbers"] []) (hm : mg "rest_of" = some (.ref f)) (hk : PySem.W.keepIn K (.ref f) = true) : Df P w K mg base xa 3 "rest_of" [true, true] false M.m_rest_of := by
  have sc : FnScope N_rest_of ["tree", "numbers"] (defScope st_rest_of) := ⟨rfl, rfl, rfl, by decide +kernel, rfl, by decide +kernel, by decide +kernel⟩
  exact df_core Fu sc hb hm hk rfl (by decide) (fun cdv A outer sh H Ex hcd hr => (rss_cons (rs_set (i := 2) sc.nd (by rfl) (by first | exact Or.inl rfl | exact Or.inr rfl) (RF.toE (rf_call (by exact D_book_of) (by exact hr.mono (by decide)) (by exact takes_of rfl rfl rfl rfl) (by rfl) (ram_b (rb_var 0) ram_nil)))) (rss_cons (rs_ownC (i := 3) (rc_comp (own := [("path", 4), ("number", 5)]) (ri_lent (RE.toB (re_call (by exact D_walked) (by exact hr.mono (by decide)) (by exact takes_of rfl rfl rfl rfl) (by rfl) (ram_b (rb_var 0) ram_nil)))) (by exact blkOk_by (N := N_rest_of) (sc := defScope st_rest_of) (own := [("path", 4), ("number", 5)]) (by decide +kernel)) (fun _ _ _ _ _ => (rg_tup (by rfl) (rgs_cons (rg_name (i := 4) sc.nd (by rfl) (by first | exact Or.inl rfl | exact Or.inr rfl)) (rgs_cons (rg_name (i := 5) sc.nd (by rfl) (by first | exact Or.inl rfl | exact Or.inr rfl)) rgs_nil)))) (fun _ _ _ _ _ => (rts_one (rw_and (rt_cmp (ok_notIn (by exact hr.units)) (rb_var 5) (rb_var 1)) (rw_and1 (rt_not (rt_val (RE.toB (re_call (by exact D_kind_of) (by exact hr.mono (by decide)) (by exact takes0) (by rfl) (ram_b (rb_var 2) (ram_b (rb_var 5) ram_nil)))))))).t)) (fun _ _ _ _ _ => (re_var 5))) (by rfl) sc.nd (by rfl) (by first | rfl | decide +kernel) (sw_true (by rfl) (by first | rfl | decide +kernel) (by rfl) (by decide +kernel))) (rss_frz 3 (rss_one (rs_ret (RF.toE (RC.toF (rc_comp (own := [("number", 5)]) (ri_lent (rb_var 3)) (by exact blkOk_by (N := N_rest_of) (sc := defScope st_rest_of) (own := [("number", 5)]) (by decide +kernel)) (fun _ _ _ _ _ => (rg_name (i := 5) sc.nd (by rfl) (by first | exact Or.inl rfl | exact Or.inr rfl))) (fun _ _ _ _ _ => rts_nil) (fun _ _ _ _ _ => (re_tup (ras_cons (re_var 5) (ras_cons (re_sub (ok_idx (by exact hr.units)) (RE.toB (re_sub (ok_idx (by exact hr.units)) (rb_var 2) (rb_var 5))) (RE.toB re_int)) ras_nil))))) (by rfl) sc.nd)))))))) (.inl rfl)
abbrev N_known_again : List Str := ["old", "new", "made", "left", "pair", "number", "stamp", "some"]
theorem df_known_again {f : Addr} {fd : FuncData} (T : Tx K mg xa) (D_by_paths : Df P w K mg base xa 3 "by_paths" [true, true] true M.m_by_paths) (D_rest_of : Df P w K mg base xa 3 "rest_of" [true, true] false M.m_rest_of) (Fu : Fun K "known_again" "known_again" st_known_again f fd) (hb : Binds K fd ["old", "new"] []) (hm : mg "known_again" = some (.ref f)) (hk : PySem.W.keepIn K (.ref f) = true) : Df P w K mg base xa 4 "known_again" [true, true] false M.m_known_again := by
  have sc : FnScope N_known_again ["old", "new"] (defScope st_known_again) := ⟨rfl, rfl, rfl, by decide +kernel, rfl, by decide +kernel, by decide +kernel⟩
  exact df_core Fu sc hb hm hk rfl (by decide) (fun cdv A outer sh H Ex hcd hr => (rss_cons (rs_own (i := 2) sc.nd (by rfl) (by first | exact Or.inl rfl | exact Or.inr rfl) (rf_call (by exact D_by_paths) (by exact hr.mono (by decide)) (by exact takes_of rfl rfl rfl rfl) (by rfl) (ram_b (rb_var 0) (ram_b (rb_var 1) ram_nil)))) (rss_cons (rs_set (i := 3) sc.nd (by rfl) (by first | exact Or.inl rfl | exact Or.inr rfl) (re_call (by exact D_rest_of) (by exact hr.mono (by decide)) (by exact takes_of rfl rfl rfl rfl) (by rfl) (ram_b (rb_var 1) (ram_b (RF.toB (RC.toF (rc_comp (own := [("pair", 4)]) (ri_lent (rb_var 2)) (by exact blkOk_by (N := N_known_again) (sc := defScope st_known_again) (own := [("pair", 4)]) (by decide +kernel)) (fun _ _ _ _ _ => (rg_name (i := 4) sc.nd (by rfl) (by first | exact Or.inl rfl | exact Or.inr rfl))) (fun _ _ _ _ _ => rts_nil) (fun _ _ _ _ _ => (re_sub (ok_idx (by exact hr.units)) (rb_var 4) (RE.toB re_int)))) (by rfl) sc.nd)) ram_nil)))) (rss_cons (rs_for (passes_of (by rfl)) (by rfl) (ri_sh (re_call (by exact D_rest_of) (by exact hr.mono (by decide)) (by exact takes_of rfl rfl rfl rfl) (by rfl) (ram_b (rb_var 0) (ram_b (RF.toB (RC.toF (rc_comp (own := [("pair", 4)]) (ri_lent (rb_var 2)) (by exact blkOk_by (N := N_known_again) (sc := defScope st_known_again) (own := [("pair", 4)]) (by decide +kernel)) (fun _ _ _ _ _ => (rg_name (i := 4) sc.nd (by rfl) (by first | exact Or.inl rfl | exact Or.inr rfl))) (fun _ _ _ _ _ => rts_nil) (fun _ _ _ _ _ => (re_sub (ok_idx (by exact hr.units)) (rb_var 4) (RE.toB re_int)))) (by rfl) sc.nd)) ram_nil)))) (rg_tup (by rfl) (rgs_cons (rg_name (i := 5) sc.nd (by rfl) (by first | exact Or.inl rfl | exact Or.inr rfl)) (rgs_cons (rg_name (i := 6) sc.nd (by rfl) (by first | exact Or.inl rfl | exact Or.inr rfl)) rgs_nil))) (rss_cons (rs_own (i := 7) sc.nd (by rfl) (by first | exact Or.inl rfl | exact Or.inr rfl) (RC.toF (rc_comp (own := [("pair", 4)]) (ri_lent (rb_var 3)) (by exact blkOk_by (N := N_known_again) (sc := defScope st_known_again) (own := [("pair", 4)]) (by decide +kernel)) (fun _ _ _ _ _ => (rg_name (i := 4) sc.nd (by rfl) (by first | exact Or.inl rfl | exact Or.inr rfl))) (fun _ _ _ _ _ => (rts_one (rt_cmp (ok_eq (by exact hr.units)) (RE.toB (re_sub (ok_idx (by exact hr.units)) (rb_var 4) (RE.toB re_int))) (rb_var 6)))) (fun _ _ _ _ _ => (re_var 4))) (by rfl) sc.nd)) (rss_frz 7 (rss_one (rs_if (rt_cmp (ok_ne (by exact hr.units)) (rb_var 7) (RF.toB (rf_lst ras_nil))) (rss_cons (rs_app (var_at 2) (re_tup (ras_cons (re_var 5) (ras_cons (re_sub (ok_idx (by exact hr.units)) (RE.toB (re_sub (ok_idx (by exact hr.units)) (rb_var 7) (RE.toB re_int))) (RE.toB re_int)) ras_nil)))) (rss_one (rs_ownC (i := 3) (rc_comp (own := [("pair", 4)]) (ri_lent (rb_var 3)) (by exact blkOk_by (N := N_known_again) (sc := defScope st_known_again) (own := [("pair", 4)]) (by decide +kernel)) (fun _ _ _ _ _ => (rg_name (i := 4) sc.nd (by rfl) (by first | exact Or.inl rfl | exact Or.inr rfl))) (fun _ _ _ _ _ => (rts_one (rt_cmp (ok_ne (by exact hr.units)) (rb_var 4) (RE.toB (re_sub (ok_idx (by exact hr.units)) (rb_var 7) (RE.toB re_int)))))) (fun _ _ _ _ _ => (re_var 4))) (by rfl) sc.nd (by rfl) (by first | rfl | decide +kernel) (sw_true (by rfl) (by first | rfl | decide +kernel) (by rfl) (by decide +kernel))))) rss_nil))))) (rss_one (rs_ret (RF.toE (rf_b1 (ok_sorted (by exact hr.units)) (by rfl) T.b_sorted (by decide +kernel) (rb_var 2))))))))) (.inl rfl)
abbrev N_renumbered : List Str := ["old", "new", "book", "pair", "most", "node", "path", "number", "nodes", "made", "parent", "name", "stamp"]
theorem df_renumbered {f : Addr} {fd : FuncData} (T : Tx K mg xa) (D_known_again : Df P w K mg base xa 4 "known_again" [true, true] false M.m_known_again) (D_walked : Df P w K mg base xa 2 "walked" [true] false M.m_walked) (D_book_of : Df P w K mg base xa 1 "book_of" [true] true M.m_book_of) (D_tree_of : Df P w K mg base xa 1 "tree_of" [true] false M.m_tree_of) (Fu : Fun K "renumbered" "renumbered" st_renumbered f fd) (hb : Binds K fd ["old", "new"] []) (hm : mg "renumbered" = some (.ref f)) (hk : PySem.W.keepIn K (.ref f) = true) : Df P w K mg base xa 5 "renumbered" [true, true] false M.m_renumbered := by
  have sc : FnScope N_renumbered ["old", "new"] (defScope st_renumbered) := ⟨rfl, rfl, rfl, by decide +kernel, rfl, by decide +kernel, by decide +kernel⟩
  exact df_core Fu sc hb hm hk rfl (by decide) (fun cdv A outer sh H Ex hcd hr => (rss_cons (rs_own (i := 2) sc.nd (by rfl) (by first | exact Or.inl rfl | exact Or.inr rfl) (rf_t1 (ok_dictK (by rfl)) (by rfl) T.b_dict (by decide +kernel) (RF.toB (RC.toF (rc_comp (own := [("pair", 3)]) (ri_lent (RE.toB (re_call (by exact D_known_again) (by exact hr.mono (by decide)) (by exact takes_of rfl rfl rfl rfl) (by rfl) (ram_b (rb_var 0) (ram_b (rb_var 1) ram_nil))))) (by exact blkOk_by (N := N_renumbered) (sc := defScope st_renumbered) (own := [("pair", 3)]) (by decide +kernel)) (fun _ _ _ _ _ => (rg_name (i := 3) sc.nd (by rfl) (by first | exact Or.inl rfl | exact Or.inr rfl))) (fun _ _ _ _ _ => rts_nil) (fun _ _ _ _ _ => (re_tup (ras_cons (re_sub (ok_idx (by exact hr.units)) (rb_var 3) (RE.toB re_int)) (ras_cons (re_sub (ok_idx (by exact hr.units)) (rb_var 3) (RE.toB re_int)) ras_nil))))) (by rfl) sc.nd)))) (rss_cons (rs_put (by exact hr.units) (var_at 2) (RE.toB re_int) re_int) (rss_cons (rs_set (i := 4) sc.nd (by rfl) (by first | exact Or.inl rfl | exact Or.inr rfl) (re_maxLD (by rfl) (by exact hr.units) (by rfl) T.b_max (RF.toB (RC.toF (rc_comp (own := [("node", 5)]) (ri_lent (rb_var 0)) (by exact blkOk_by (N := N_renumbered) (sc := defScope st_renumbered) (own := [("node", 5)]) (by decide +kernel)) (fun _ _ _ _ _ => (rg_name (i := 5) sc.nd (by rfl) (by first | exact Or.inl rfl | exact Or.inr rfl))) (fun _ _ _ _ _ => rts_nil) (fun _ _ _ _ _ => (re_sub (ok_idx (by exact hr.units)) (rb_var 5) (RE.toB re_int)))) (by rfl) sc.nd)))) (rss_cons (rs_for (passes_of (by rfl)) (by rfl) (ri_sh (re_call (by exact D_walked) (by exact hr.mono (by decide)) (by exact takes_of rfl rfl rfl rfl) (by rfl) (ram_b (rb_var 1) ram_nil))) (rg_tup (by rfl) (rgs_cons (rg_name (i := 6) sc.nd (by rfl) (by first | exact Or.inl rfl | exact Or.inr rfl)) (rgs_cons (rg_name (i := 7) sc.nd (by rfl) (by first | exact Or.inl rfl | exact Or.inr rfl)) rgs_nil))) (rss_one (rs_if (rt_cmp (ok_notIn (by exact hr.units)) (rb_var 7) (rb_var 2)) (rss_cons (rs_set (i := 4) sc.nd (by rfl) (by first | exact Or.inl rfl | exact Or.inr rfl) (re_bin ok_add (rb_var 4) (RE.toB re_int))) (rss_one (rs_put (by exact hr.units) (var_at 2) (rb_var 7) (re_var 4)))) rss_nil))) (rss_cons (rs_set (i := 8) sc.nd (by rfl) (by first | exact Or.inl rfl | exact Or.inr rfl) (RF.toE (rf_call (by exact D_book_of) (by exact hr.mono (by decide)) (by exact takes_of rfl rfl rfl rfl) (by rfl) (ram_b (rb_var 1) ram_nil)))) (rss_cons (rs_own (i := 9) sc.nd (by rfl) (by first | exact Or.inl rfl | exact Or.inr rfl) rf_dict0) (rss_cons (rs_forK (passes_of (by rfl)) (by rfl) (var_at 8) (rg_name (i := 7) sc.nd (by rfl) (by first | exact Or.inl rfl | exact Or.inr rfl)) (rss_cons (rs_asg (re_sub (ok_idx (by exact hr.units)) (rb_var 8) (rb_var 7)) (rg_tup (by rfl) (rgs_cons (rg_name (i := 10) sc.nd (by rfl) (by first | exact Or.inl rfl | exact Or.inr rfl)) (rgs_cons (rg_name (i := 11) sc.nd (by rfl) (by first | exact Or.inl rfl | exact Or.inr rfl)) (rgs_cons (rg_name (i := 12) sc.nd (by rfl) (by first | exact Or.inl rfl | exact Or.inr rfl)) rgs_nil))))) (rss_one (rs_put (by exact hr.units) (var_at 9) (RE.toB (re_sub (ok_idx (by exact hr.units)) (rb_var 2) (rb_var 7))) (re_tup (ras_cons (re_sub (ok_idx (by exact hr.units)) (rb_var 2) (rb_var 10)) (ras_cons (re_var 11) (ras_cons (re_var 12) ras_nil)))))))) (rss_one (rs_ret (re_call (by exact D_tree_of) (by exact hr.mono (by decide)) (by exact takes_of rfl rfl rfl rfl) (by rfl) (ram_b (rb_var 9) ram_nil)))))))))))) (.inl rfl)
abbrev N_change_between : List Str := ["one", "other", "first", "second", "made", "number"]
theorem df_change_between {f : Addr} {fd : FuncData} (T : Tx K mg xa) (D_book_of : Df P w K mg base xa 1 "book_of" [true] true M.m_book_of) (Fu : Fun K "change_between" "change_between" st_change_between f fd) (hb : Binds K fd ["one", "other"] []) (hm : mg "change_between" = some (.ref f)) (hk : PySem.W.keepIn K (.ref f) = true) : Df P w K mg base xa 2 "change_between" [true, true] false M.m_change_between := by
  have sc : FnScope N_change_between ["one", "other"] (defScope st_change_between) := ⟨rfl, rfl, rfl, by decide +kernel, rfl, by decide +kernel, by decide +kernel⟩
  exact df_core Fu sc hb hm hk rfl (by decide) (fun cdv A outer sh H Ex hcd hr => (rss_cons (rs_set (i := 2) sc.nd (by rfl) (by first | exact Or.inl rfl | exact Or.inr rfl) (RF.toE (rf_call (by exact D_book_of) (by exact hr.mono (by decide)) (by exact takes_of rfl rfl rfl rfl) (by rfl) (ram_b (rb_var 0) ram_nil)))) (rss_cons (rs_set (i := 3) sc.nd (by rfl) (by first | exact Or.inl rfl | exact Or.inr rfl) (RF.toE (rf_call (by exact D_book_of) (by exact hr.mono (by decide)) (by exact takes_of rfl rfl rfl rfl) (by rfl) (ram_b (rb_var 1) ram_nil)))) (rss_cons (rs_own (i := 4) sc.nd (by rfl) (by first | exact Or.inl rfl | exact Or.inr rfl) (rf_lst ras_nil)) (rss_cons (rs_for (passes_of (by rfl)) (by rfl) (ri_sh (RF.toE (MS.rf_sortedSet (by rfl) (by rfl) T.b_sorted (by rfl) T.b_set (RE.toB (re_bin ok_add (RF.toB (rf_t1 (ok_toLst (by rfl)) (by rfl) T.b_list (by decide +kernel) (rb_var 2))) (RF.toB (rf_t1 (ok_toLst (by rfl)) (by rfl) T.b_list (by decide +kernel) (rb_var 3)))))))) (rg_name (i := 5) sc.nd (by rfl) (by first | exact Or.inl rfl | exact Or.inr rfl)) (rss_one (rs_if (rt_cmp (ok_ne (by exact hr.units)) (RE.toB (re_get1 (by exact hr.units) (rb_var 2) (rb_var 5))) (RE.toB (re_get1 (by exact hr.units) (rb_var 3) (rb_var 5)))) (rss_one (rs_app (var_at 4) (re_tup (ras_cons (re_var 5) (ras_cons (re_get1 (by exact hr.units) (rb_var 2) (rb_var 5)) (ras_cons (re_get1 (by exact hr.units) (rb_var 3) (rb_var 5)) ras_nil)))))) rss_nil))) (rss_one (rs_ret (re_t1 ok_toTup (by rfl) T.b_tuple (by decide +kernel) (rb_var 4))))))))) (.inl rfl)
abbrev N_cell_L : List Str := ["_law_script", "_law_k"]
theorem df_cell_L {f : Addr} {fd : FuncData} (T : Tx K mg xa)  (Fu : Fun K "_law_cell" "_law_cell" st_cell_L f fd) (hb : Binds K fd ["_law_script", "_law_k"] []) (hm : mg "_law_cell" = some (.ref f)) (hk : PySem.W.keepIn K (.ref f) = true) : Df P w K mg base xa 1 "_law_cell" [true, true] false M.m_cell_L := by
  have sc : FnScope N_cell_L ["_law_script", "_law_k"] (defScope st_cell_L) := ⟨rfl, rfl, rfl, by decide +kernel, rfl, by decide +kernel, by decide +kernel⟩
  exact df_core Fu sc hb hm hk rfl (by decide) (fun cdv A outer sh H Ex hcd hr => (rss_cons (rs_if (rt_cmp ok_ltI (rb_var 1) (RE.toB (re_b1 ok_len (by rfl) T.b_len (by decide +kernel) (rb_var 0)))) (rss_one (rs_ret (re_sub (ok_idx (by exact hr.units)) (rb_var 0) (rb_var 1)))) rss_nil) (rss_cons (rs_if (rt_cmp (ok_eq (by exact hr.units)) (rb_var 0) (RF.toB (rf_lst ras_nil))) (rss_one (rs_ret re_int)) rss_nil) (rss_one (rs_ret (re_bin ok_add (RE.toB (re_bin ok_mul (RE.toB (re_sub (ok_idx (by exact hr.units)) (rb_var 0) (RE.toB (re_bin ok_mod (rb_var 1) (RE.toB (re_b1 ok_len (by rfl) T.b_len (by decide +kernel) (rb_var 0))))))) (RE.toB re_int))) (rb_var 1))))))) (.inl rfl)
abbrev N_pick_L : List Str := ["_law_script", "_law_k", "_law_many", "_law_drawn"]
theorem df_pick_L {f : Addr} {fd : FuncData} (T : Tx K mg xa) (D_cell_L : Df P w K mg base xa 1 "_law_cell" [true, true] false M.m_cell_L) (Fu : Fun K "_law_pick" "_law_pick" st_pick_L f fd) (hb : Binds K fd ["_law_script", "_law_k", "_law_many"] []) (hm : mg "_law_pick" = some (.ref f)) (hk : PySem.W.keepIn K (.ref f) = true) : Df P w K mg base xa 2 "_law_pick" [true, true, true] false M.m_pick_L := by
  have sc : FnScope N_pick_L ["_law_script", "_law_k", "_law_many"] (defScope st_pick_L) := ⟨rfl, rfl, rfl, by decide +kernel, rfl, by decide +kernel, by decide +kernel⟩
  exact df_core Fu sc hb hm hk rfl (by decide) (fun cdv A outer sh H Ex hcd hr => (rss_cons (rs_set (i := 3) sc.nd (by rfl) (by first | exact Or.inl rfl | exact Or.inr rfl) (re_bin ok_mod (RE.toB (re_bin ok_mul (RE.toB (re_bin ok_add (RE.toB (re_call (by exact D_cell_L) (by exact hr.mono (by decide)) (by exact takes_of rfl rfl rfl rfl) (by rfl) (ram_b (rb_var 0) (ram_b (rb_var 1) ram_nil)))) (RE.toB (re_bin ok_mul (RE.toB re_int) (RE.toB (re_bin ok_add (rb_var 1) (RE.toB re_int))))))) (RE.toB re_int))) (RE.toB re_int))) (rss_one (rs_ret (re_bin ok_mod (RE.toB (re_bin ok_mod (RE.toB (re_bin ok_add (RE.toB (re_bin ok_mul (rb_var 3) (rb_var 3))) (RE.toB (re_bin ok_fdiv (rb_var 3) (RE.toB re_int))))) (RE.toB re_int))) (rb_var 2)))))) (.inl rfl)
abbrev N_tree_L : List Str := ["_law_script", "_law_at", "_law_most", "_law_left", "_law_folders", "_law_nodes", "_law_k", "_law_number", "_law_parent", "_law_name", "_law_stamp", "_law_node"]
theorem df_tree_L {f : Addr} {fd : FuncData} (T : Tx K mg xa) (D_pick_L : Df P w K mg base xa 2 "_law_pick" [true, true, true] false M.m_pick_L) (Fu : Fun K "_law_tree" "_law_tree" st_tree_L f fd) (hb : Binds K fd ["_law_script", "_law_at", "_law_most"] []) (hm : mg "_law_tree" = some (.ref f)) (hk : PySem.W.keepIn K (.ref f) = true) : Df P w K mg base xa 3 "_law_tree" [true, true, true] false M.m_tree_L := by
  have sc : FnScope N_tree_L ["_law_script", "_law_at", "_law_most"] (defScope st_tree_L) := ⟨rfl, rfl, rfl, by decide +kernel, rfl, by decide +kernel, by decide +kernel⟩
  exact df_core Fu sc hb hm hk rfl (by decide) (fun cdv A outer sh H Ex hcd hr => (rss_cons (rs_own (i := 3) sc.nd (by rfl) (by first | exact Or.inl rfl | exact Or.inr rfl) (rf_rng (by rfl) (by rfl) T.b_list (by rfl) T.b_range (RE.toB re_int) (RE.toB (re_bin ok_add (rb_var 2) (RE.toB re_int))))) (rss_cons (rs_own (i := 4) sc.nd (by rfl) (by first | exact Or.inl rfl | exact Or.inr rfl) (rf_lst (ras_cons re_int ras_nil))) (rss_cons (rs_own (i := 5) sc.nd (by rfl) (by first | exact Or.inl rfl | exact Or.inr rfl) (rf_lst ras_nil)) (rss_cons (rs_for (passes_of (by rfl)) (by rfl) (ri_r1 (by rfl) T.b_range (RE.toB (re_call (by exact D_pick_L) (by exact hr.mono (by decide)) (by exact takes_of rfl rfl rfl rfl) (by rfl) (ram_b (rb_var 0) (ram_b (rb_var 1) (ram_b (RE.toB (re_bin ok_add (rb_var 2) (RE.toB re_int))) ram_nil)))))) (rg_name (i := 6) sc.nd (by rfl) (by first | exact Or.inl rfl | exact Or.inr rfl)) (rss_cons (rs_popAt (i := 3) (j := 7) (var_at 3) (RE.toB (re_call (by exact D_pick_L) (by exact hr.mono (by decide)) (by exact takes_of rfl rfl rfl rfl) (by rfl) (ram_b (rb_var 0) (ram_b (RE.toB (re_bin ok_add (RE.toB (re_bin ok_add (rb_var 1) (RE.toB re_int))) (RE.toB (re_bin ok_mul (RE.toB re_int) (rb_var 6))))) (ram_b (RE.toB (re_b1 ok_len (by rfl) T.b_len (by decide +kernel) (rb_var 3))) ram_nil))))) sc.nd (by rfl) (by first | exact Or.inl rfl | exact Or.inr rfl)) (rss_cons (rs_set (i := 8) sc.nd (by rfl) (by first | exact Or.inl rfl | exact Or.inr rfl) (re_sub (ok_idx (by exact hr.units)) (rb_var 4) (RE.toB (re_call (by exact D_pick_L) (by exact hr.mono (by decide)) (by exact takes_of rfl rfl rfl rfl) (by rfl) (ram_b (rb_var 0) (ram_b (RE.toB (re_bin ok_add (RE.toB (re_bin ok_add (rb_var 1) (RE.toB re_int))) (RE.toB (re_bin ok_mul (RE.toB re_int) (rb_var 6))))) (ram_b (RE.toB (re_b1 ok_len (by rfl) T.b_len (by decide +kernel) (rb_var 4))) ram_nil))))))) (rss_cons (rs_set (i := 9) sc.nd (by rfl) (by first | exact Or.inl rfl | exact Or.inr rfl) (re_sub (ok_idx (by exact hr.units)) (RF.toB (rf_lst (ras_cons (re_str [97]) (ras_cons (re_str [98]) (ras_cons (re_str [99]) (ras_cons (re_str [97, 98, 99, 100, 101]) ras_nil)))))) (RE.toB (re_call (by exact D_pick_L) (by exact hr.mono (by decide)) (by exact takes_of rfl rfl rfl rfl) (by rfl) (ram_b (rb_var 0) (ram_b (RE.toB (re_bin ok_add (RE.toB (re_bin ok_add (rb_var 1) (RE.toB re_int))) (RE.toB (re_bin ok_mul (RE.toB re_int) (rb_var 6))))) (ram_b (RE.toB re_int) ram_nil))))))) (rss_cons (rs_set (i := 10) sc.nd (by rfl) (by first | exact Or.inl rfl | exact Or.inr rfl) re_non) (rss_cons (rs_if (rt_cmp ok_gtI (RE.toB (re_call (by exact D_pick_L) (by exact hr.mono (by decide)) (by exact takes_of rfl rfl rfl rfl) (by rfl) (ram_b (rb_var 0) (ram_b (RE.toB (re_bin ok_add (RE.toB (re_bin ok_add (rb_var 1) (RE.toB re_int))) (RE.toB (re_bin ok_mul (RE.toB re_int) (rb_var 6))))) (ram_b (RE.toB re_int) ram_nil))))) (RE.toB re_int)) (rss_one (rs_set (i := 10) sc.nd (by rfl) (by first | exact Or.inl rfl | exact Or.inr rfl) (re_sub (ok_idx (by exact hr.units)) (RF.toB (rf_lst (ras_cons re_int (ras_cons re_int (ras_cons re_int (ras_cons re_int ras_nil)))))) (RE.toB (re_call (by exact D_pick_L) (by exact hr.mono (by decide)) (by exact takes_of rfl rfl rfl rfl) (by rfl) (ram_b (rb_var 0) (ram_b (RE.toB (re_bin ok_add (RE.toB (re_bin ok_add (rb_var 1) (RE.toB re_int))) (RE.toB (re_bin ok_mul (RE.toB re_int) (rb_var 6))))) (ram_b (RE.toB re_int) ram_nil)))))))) rss_nil) (rss_one (rs_if (rt_cmp (ok_notIn (by exact hr.units)) (RE.toB (re_tup (ras_cons (re_var 8) (ras_cons (re_var 9) ras_nil)))) (RF.toB (RC.toF (rc_comp (own := [("_law_node", 11)]) (ri_lent (rb_var 5)) (by exact blkOk_by (N := N_tree_L) (sc := defScope st_tree_L) (own := [("_law_node", 11)]) (by decide +kernel)) (fun _ _ _ _ _ => (rg_name (i := 11) sc.nd (by rfl) (by first | exact Or.inl rfl | exact Or.inr rfl))) (fun _ _ _ _ _ => rts_nil) (fun _ _ _ _ _ => (re_slice (rb_var 11) (rp_some (RE.toB re_int)) (rp_some (RE.toB re_int))))) (by rfl) sc.nd))) (rss_cons (rs_app (var_at 5) (re_tup (ras_cons (re_var 7) (ras_cons (re_var 8) (ras_cons (re_var 9) (ras_cons (re_var 10) ras_nil)))))) (rss_one (rs_if (rt_isN (rb_var 10)) (rss_one (rs_app (var_at 4) (re_var 7))) rss_nil))) rss_nil)))))))) (rss_one (rs_ret (re_t1 ok_toTup (by rfl) T.b_tuple (by decide +kernel) (RF.toB (rf_b1 (ok_sorted (by exact hr.units)) (by rfl) T.b_sorted (by decide +kernel) (rb_var 5))))))))))) (.inl rfl)
abbrev N_other_numbers_L : List Str := ["_law_script", "_law_at", "_law_tree_here", "_law_left", "_law_names", "_law_k", "_law_node"]
theorem df_other_numbers_L {f : Addr} {fd : FuncData} (T : Tx K mg xa) (D_pick_L : Df P w K mg base xa 2 "_law_pick" [true, true, true] false M.m_pick_L) (Fu : Fun K "_law_other_numbers" "_law_other_numbers" st_other_numbers_L f fd) (hb : Binds K fd ["_law_script", "_law_at", "_law_tree_here"] []) (hm : mg "_law_other_numbers" = some (.ref f)) (hk : PySem.W.keepIn K (.ref f) = true) : Df P w K mg base xa 3 "_law_other_numbers" [true, true, false] false M.m_other_numbers_L := by
  have sc : FnScope N_other_numbers_L ["_law_script", "_law_at", "_law_tree_here"] (defScope st_other_numbers_L) := ⟨rfl, rfl, rfl, by decide +kernel, rfl, by decide +kernel, by decide +kernel⟩
  exact df_core Fu sc hb hm hk rfl (by decide) (fun cdv A outer sh H Ex hcd hr => (rss_cons (rs_own (i := 3) sc.nd (by rfl) (by first | exact Or.inl rfl | exact Or.inr rfl) (rf_rng (by rfl) (by rfl) T.b_list (by rfl) T.b_range (RE.toB re_int) (RE.toB re_int))) (rss_cons (rs_own (i := 4) sc.nd (by rfl) (by first | exact Or.inl rfl | exact Or.inr rfl) rf_disp1) (rss_cons (rs_for (passes_of (by rfl)) (by rfl) (ri_enuB (by rfl) T.b_enumerate (re_var 2)) (rg_tup (by rfl) (rgs_cons (rg_name (i := 5) sc.nd (by rfl) (by first | exact Or.inl rfl | exact Or.inr rfl)) (rgs_cons (rg_name (i := 6) sc.nd (by rfl) (by first | exact Or.inl rfl | exact Or.inr rfl)) rgs_nil))) (rss_one (rs_putPop (by exact hr.units) (var_at 4) (var_at 3) (RE.toB (re_sub (ok_idx (by exact hr.units)) (rb_var 6) (RE.toB re_int))) (RE.toB (re_call (by exact D_pick_L) (by exact hr.mono (by decide)) (by exact takes_of rfl rfl rfl rfl) (by rfl) (ram_b (rb_var 0) (ram_b (RE.toB (re_bin ok_add (rb_var 1) (rb_var 5))) (ram_b (RE.toB (re_b1 ok_len (by rfl) T.b_len (by decide +kernel) (rb_var 3))) ram_nil)))))))) (rss_one (rs_ret (re_t1 ok_toTup (by rfl) T.b_tuple (by decide +kernel) (RF.toB (rf_b1 (ok_sorted (by exact hr.units)) (by rfl) T.b_sorted (by decide +kernel) (RF.toB (RC.toF (rc_comp (own := [("_law_node", 6)]) (ri_lent (rb_var 2)) (by exact blkOk_by (N := N_other_numbers_L) (sc := defScope st_other_numbers_L) (own := [("_law_node", 6)]) (by decide +kernel)) (fun _ _ _ _ _ => (rg_name (i := 6) sc.nd (by rfl) (by first | exact Or.inl rfl | exact Or.inr rfl))) (fun _ _ _ _ _ => rts_nil) (fun _ _ _ _ _ => (re_bin ok_add (RE.toB (re_tup (ras_cons (re_sub (ok_idx (by exact hr.units)) (rb_var 4) (RE.toB (re_sub (ok_idx (by exact hr.units)) (rb_var 6) (RE.toB re_int)))) (ras_cons (re_sub (ok_idx (by exact hr.units)) (rb_var 4) (RE.toB (re_sub (ok_idx (by exact hr.units)) (rb_var 6) (RE.toB re_int)))) ras_nil)))) (RE.toB (re_slice (rb_var 6) (rp_some (RE.toB re_int)) rp_none))))) (by rfl) sc.nd))))))))))) (.inl rfl)
abbrev N_law : List Str := ["_law_script", "_law_tree_here", "_law_other", "_law_pairs", "_law_pair", "_law_node", "_law_third", "_law_once", "_law_path", "_law_number"]
theorem fn_law {f : Addr} {fd : FuncData} (T : Tx K mg xa) (D_tree_L : Df P w K mg base xa 3 "_law_tree" [true, true, true] false M.m_tree_L) (D_other_numbers_L : Df P w K mg base xa 3 "_law_other_numbers" [true, true, false] false M.m_other_numbers_L) (D_known_again : Df P w K mg base xa 4 "known_again" [true, true] false M.m_known_again) (D_renumbered : Df P w K mg base xa 5 "renumbered" [true, true] false M.m_renumbered) (D_change_between : Df P w K mg base xa 2 "change_between" [true, true] false M.m_change_between) (D_walked : Df P w K mg base xa 2 "walked" [true] false M.m_walked) (Fu : Fun K "law" "law" st_law f fd) : FnOk P w K mg base (L2.CX P w) 6 f fd ["_law_script"] (spD K xa [true] false m_law) := by
  have sc : FnScope N_law ["_law_script"] (defScope st_law) := ⟨rfl, rfl, rfl, by decide +kernel, rfl, by decide +kernel, by decide +kernel⟩
  exact fn_core Fu sc rfl (by decide) (fun cdv A outer sh H Ex hcd hr => (rss_cons (rs_set (i := 1) sc.nd (by rfl) (by first | exact Or.inl rfl | exact Or.inr rfl) (re_call (by exact D_tree_L) (by exact hr.mono (by decide)) (by exact takes_of rfl rfl rfl rfl) (by rfl) (ram_b (rb_var 0) (ram_b (RE.toB re_int) (ram_b (RE.toB re_int) ram_nil))))) (rss_cons (rs_set (i := 2) sc.nd (by rfl) (by first | exact Or.inl rfl | exact Or.inr rfl) (re_call (by exact D_other_numbers_L) (by exact hr.mono (by decide)) (by exact takes_of rfl rfl rfl rfl) (by rfl) (ram_b (rb_var 0) (ram_b (RE.toB re_int) (ram_s (re_var 1) ram_nil))))) (rss_cons (rs_set (i := 3) sc.nd (by rfl) (by first | exact Or.inl rfl | exact Or.inr rfl) (re_call (by exact D_known_again) (by exact hr.mono (by decide)) (by exact takes_of rfl rfl rfl rfl) (by rfl) (ram_b (rb_var 1) (ram_b (rb_var 2) ram_nil)))) (rss_cons (rs_if (rt_cmp (ok_ne (by exact hr.units)) (RF.toB (rf_b1 (ok_sorted (by exact hr.units)) (by rfl) T.b_sorted (by decide +kernel) (RF.toB (RC.toF (rc_comp (own := [("_law_pair", 4)]) (ri_lent (rb_var 3)) (by exact blkOk_by (N := N_law) (sc := defScope st_law) (own := [("_law_pair", 4)]) (by decide +kernel)) (fun _ _ _ _ _ => (rg_name (i := 4) sc.nd (by rfl) (by first | exact Or.inl rfl | exact Or.inr rfl))) (fun _ _ _ _ _ => rts_nil) (fun _ _ _ _ _ => (re_sub (ok_idx (by exact hr.units)) (rb_var 4) (RE.toB re_int)))) (by rfl) sc.nd)))) (RF.toB (RC.toF (rc_comp (own := [("_law_node", 5)]) (ri_lent (rb_var 1)) (by exact blkOk_by (N := N_law) (sc := defScope st_law) (own := [("_law_node", 5)]) (by decide +kernel)) (fun _ _ _ _ _ => (rg_name (i := 5) sc.nd (by rfl) (by first | exact Or.inl rfl | exact Or.inr rfl))) (fun _ _ _ _ _ => rts_nil) (fun _ _ _ _ _ => (re_sub (ok_idx (by exact hr.units)) (rb_var 5) (RE.toB re_int)))) (by rfl) sc.nd))) (rss_one (rs_ret re_bl)) rss_nil) (rss_cons (rs_if (rw_or (rt_cmp (ok_ne (by exact hr.units)) (RE.toB (re_call (by exact D_renumbered) (by exact hr.mono (by decide)) (by exact takes_of rfl rfl rfl rfl) (by rfl) (ram_b (rb_var 1) (ram_b (rb_var 2) ram_nil)))) (rb_var 1)) (rw_or1 (rt_cmp (ok_ne (by exact hr.units)) (RE.toB (re_call (by exact D_change_between) (by exact hr.mono (by decide)) (by exact takes_of rfl rfl rfl rfl) (by rfl) (ram_b (rb_var 1) (ram_b (RE.toB (re_call (by exact D_renumbered) (by exact hr.mono (by decide)) (by exact takes_of rfl rfl rfl rfl) (by rfl) (ram_b (rb_var 1) (ram_b (rb_var 2) ram_nil)))) ram_nil)))) (RE.toB (re_tup ras_nil))))).t (rss_one (rs_ret re_bl)) rss_nil) (rss_cons (rs_if (rt_cmp (ok_ne (by exact hr.units)) (RF.toB (rf_b1 (ok_sorted (by exact hr.units)) (by rfl) T.b_sorted (by decide +kernel) (RF.toB (RC.toF (rc_comp (own := [("_law_pair", 4)]) (ri_lent (rb_var 3)) (by exact blkOk_by (N := N_law) (sc := defScope st_law) (own := [("_law_pair", 4)]) (by decide +kernel)) (fun _ _ _ _ _ => (rg_name (i := 4) sc.nd (by rfl) (by first | exact Or.inl rfl | exact Or.inr rfl))) (fun _ _ _ _ _ => rts_nil) (fun _ _ _ _ _ => (re_tup (ras_cons (re_sub (ok_idx (by exact hr.units)) (rb_var 4) (RE.toB re_int)) (ras_cons (re_sub (ok_idx (by exact hr.units)) (rb_var 4) (RE.toB re_int)) ras_nil))))) (by rfl) sc.nd)))) (RE.toB (re_call (by exact D_known_again) (by exact hr.mono (by decide)) (by exact takes_of rfl rfl rfl rfl) (by rfl) (ram_b (rb_var 2) (ram_b (rb_var 1) ram_nil))))) (rss_one (rs_ret re_bl)) rss_nil) (rss_cons (rs_set (i := 6) sc.nd (by rfl) (by first | exact Or.inl rfl | exact Or.inr rfl) (re_call (by exact D_tree_L) (by exact hr.mono (by decide)) (by exact takes_of rfl rfl rfl rfl) (by rfl) (ram_b (rb_var 0) (ram_b (RE.toB re_int) (ram_b (RE.toB re_int) ram_nil))))) (rss_cons (rs_set (i := 7) sc.nd (by rfl) (by first | exact Or.inl rfl | exact Or.inr rfl) (re_call (by exact D_renumbered) (by exact hr.mono (by decide)) (by exact takes_of rfl rfl rfl rfl) (by rfl) (ram_b (rb_var 1) (ram_b (rb_var 6) ram_nil)))) (rss_cons (rs_if (rt_cmp (ok_ne (by exact hr.units)) (RE.toB (re_call (by exact D_renumbered) (by exact hr.mono (by decide)) (by exact takes_of rfl rfl rfl rfl) (by rfl) (ram_b (rb_var 1) (ram_b (rb_var 7) ram_nil)))) (rb_var 7)) (rss_one (rs_ret re_bl)) rss_nil) (rss_one (rs_ret (re_cmp (ok_eq (by exact hr.units)) (RF.toB (RC.toF (rc_comp (own := [("_law_path", 8), ("_law_number", 9)]) (ri_lent (RE.toB (re_call (by exact D_walked) (by exact hr.mono (by decide)) (by exact takes_of rfl rfl rfl rfl) (by rfl) (ram_b (rb_var 7) ram_nil)))) (by exact blkOk_by (N := N_law) (sc := defScope st_law) (own := [("_law_path", 8), ("_law_number", 9)]) (by decide +kernel)) (fun _ _ _ _ _ => (rg_tup (by rfl) (rgs_cons (rg_name (i := 8) sc.nd (by rfl) (by first | exact Or.inl rfl | exact Or.inr rfl)) (rgs_cons (rg_name (i := 9) sc.nd (by rfl) (by first | exact Or.inl rfl | exact Or.inr rfl)) rgs_nil)))) (fun _ _ _ _ _ => rts_nil) (fun _ _ _ _ _ => (re_var 8))) (by rfl) sc.nd)) (RF.toB (RC.toF (rc_comp (own := [("_law_path", 8), ("_law_number", 9)]) (ri_lent (RE.toB (re_call (by exact D_walked) (by exact hr.mono (by decide)) (by exact takes_of rfl rfl rfl rfl) (by rfl) (ram_b (rb_var 6) ram_nil)))) (by exact blkOk_by (N := N_law) (sc := defScope st_law) (own := [("_law_path", 8), ("_law_number", 9)]) (by decide +kernel)) (fun _ _ _ _ _ => (rg_tup (by rfl) (rgs_cons (rg_name (i := 8) sc.nd (by rfl) (by first | exact Or.inl rfl | exact Or.inr rfl)) (rgs_cons (rg_name (i := 9) sc.nd (by rfl) (by first | exact Or.inl rfl | exact Or.inr rfl)) rgs_nil)))) (fun _ _ _ _ _ => rts_nil) (fun _ _ _ _ _ => (re_var 8))) (by rfl) sc.nd))))))))))))))) (.inl rfl)
end Tw.K61

set_option autoImplicit false
set_option linter.all false
/-! Tw, plain: how mirrors run on known data. -/
namespace Tw
/-! ### comprehensions -/
theorem compGo_enc {α : Type} {f : D → Res (Option D)} {e g : α → D} {p : α → Bool} : ∀ {xs : List α}, (∀ x ∈ xs, f (e x) = .ok (if p x then some (g x) else none)) → compGo f (xs.map e) = .ok ((xs.filter p).map g)
  | [], _ => rfl
  | x :: xs, h => by
    have ih := compGo_enc (xs := xs) fun y m => h y (List.mem_cons_of_mem _ m)
    simp only [List.map_cons, compGo]
    rw [h x List.mem_cons_self]
    simp only [ih, Res.bind_ok]
    cases e2 : p x <;> simp [e2]
theorem compGo_map {α : Type} {f : D → Res (Option D)} {e g : α → D} {xs : List α} (h : ∀ x ∈ xs, f (e x) = .ok (some (g x))) : compGo f (xs.map e) = .ok (xs.map g) := by
  have := compGo_enc (p := fun _ => true) (g := g) (xs := xs) (f := f) (e := e) fun x m => by rw [h x m]; rfl
  rw [this, List.filter_eq_self.mpr fun _ _ => rfl]
theorem compGo_id {f : D → Res (Option D)} {g : D → D} {xs : List D} (h : ∀ x ∈ xs, f x = .ok (some (g x))) : compGo f xs = .ok (xs.map g) := by
  have := compGo_map (e := id) (g := g) (f := f) (xs := xs) h
  simpa using this
theorem compGo_fil {f : D → Res (Option D)} {g : D → D} {p : D → Bool} {xs : List D} (h : ∀ x ∈ xs, f x = .ok (if p x then some (g x) else none)) : compGo f xs = .ok ((xs.filter p).map g) := by
  have := compGo_enc (e := id) (g := g) (f := f) (p := p) (xs := xs) h
  simpa using this
theorem bools_map {α : Type} (p : α → Bool) : ∀ xs : List α, bools? (xs.map fun x => D.bl (p x)) = some (xs.map p)
  | [] => rfl
  | x :: xs => by simp [bools?, bools_map p xs]
theorem ints_map {α : Type} (p : α → Int) : ∀ xs : List α, ints? (xs.map fun x => D.int (p x)) = some (xs.map p)
  | [] => rfl
  | x :: xs => by simp [ints?, ints_map p xs]
theorem ints_int : ∀ xs : List Int, ints? (xs.map D.int) = some xs
  | [] => rfl
  | x :: xs => by simp [ints?, ints_int xs]

/-! ### loops -/
theorem forGo_rel {α σ : Type} {R : σ → Env → Prop} {g : G} {b : S} {e : α → D} {step : σ → α → σ} : ∀ {xs : List α} {s : σ} {env : Env},
    (∀ x ∈ xs, ∀ s env, R s env → ∃ env1 env2, g (e x) env = .ok env1 ∧ b env1 = .nx env2 ∧ R (step s x) env2) → R s env → ∃ env', forGo g b (xs.map e) env = .nx env' ∧ R (xs.foldl step s) env'
  | [], s, env, _, r => ⟨env, rfl, r⟩
  | x :: xs, s, env, h, r => by
    obtain ⟨env1, env2, h1, h2, h3⟩ := h x List.mem_cons_self s env r
    obtain ⟨env', h4, h5⟩ := forGo_rel (xs := xs) (fun y m => h y (List.mem_cons_of_mem _ m)) h3
    refine ⟨env', ?_, h5⟩
    simp only [List.map_cons, forGo, h1, h2]
    exact h4

theorem forGo_idx {R : Nat → Env → Prop} {g : G} {b : S} : ∀ {xs : List D} {env : Env} (k : Nat), (∀ i x env, xs[i]? = some x → R (k + i) env → ∃ env1 env2, g x env = .ok env1 ∧ (b env1 = .nx env2 ∨ b env1 = .ct env2) ∧ R (k + i + 1) env2) → R k env → ∃ env', forGo g b xs env = .nx env' ∧ R (k + xs.length) env'
  | [], env, k, _, r => ⟨env, rfl, r⟩
  | x :: xs, env, k, h, r => by
    obtain ⟨env1, env2, h1, h2, h3⟩ := h 0 x env rfl r
    obtain ⟨env', h4, h5⟩ := forGo_idx (xs := xs) (k + 1) (fun i y env m q => by
      have := h (i + 1) y env (by simpa using m) (by rw [show k + (i + 1) = k + 1 + i by omega]; exact q)
      rwa [show k + (i + 1) + 1 = k + 1 + i + 1 by omega] at this) h3
    refine ⟨env', ?_, by rw [show k + (x :: xs).length = k + 1 + xs.length by simp; omega]; exact h5⟩
    unfold forGo
    rw [h1]
    rcases h2 with h2 | h2 <;> (simp only [h2]; exact h4)

/-! ### equality of plain data -/
mutual
theorem eqv_refl : ∀ (d : D) (n : Nat), D.pl n d = true → D.eqv d d = true
  | .non, _, _ => by simp [D.eqv]
  | .bl _, _, _ => by simp [D.eqv]
  | .int _, _, _ => by simp [D.eqv]
  | .str _, _, _ => by simp [D.eqv]
  | .inp _, _, _ => by simp [D.eqv]
  | .lst xs, n, h => by
    cases n with
    | zero => simp [D.pl] at h
    | succ n => simp only [D.eqv]; exact eqvs_refl xs n (by simpa [D.pl] using h)
  | .tup xs, n, h => by
    cases n with
    | zero => simp [D.pl] at h
    | succ n => simp only [D.eqv]; exact eqvs_refl xs n (by simpa [D.pl] using h)
  | .dct _ _, _, h => by simp [D.pl] at h
  | .exc _, _, h => by simp [D.pl] at h
theorem eqvs_refl : ∀ (ds : List D) (n : Nat), D.pls n ds = true → D.eqvs ds ds = true
  | [], _, _ => by simp [D.eqvs]
  | d :: ds, n, h => by
    simp only [D.pls, Bool.and_eq_true] at h
    simp [D.eqvs, eqv_refl d n h.1, eqvs_refl ds n h.2]
end
theorem eqvs_ints : ∀ xs ys : List Int, D.eqvs (xs.map D.int) (ys.map D.int) = decide (xs = ys)
  | [], [] => by simp [D.eqvs]
  | [], _ :: _ => by simp [D.eqvs]
  | _ :: _, [] => by simp [D.eqvs]
  | x :: xs, y :: ys => by
    simp only [List.map_cons, D.eqvs, D.eqv, eqvs_ints xs ys]
    by_cases h : x = y <;> by_cases h2 : xs = ys <;> simp [h, h2]
theorem pls_ints : ∀ (xs : List Int) (n : Nat), D.pls n (xs.map D.int) = true
  | [], _ => by simp [D.pls]
  | x :: xs, n => by simp [D.pls, D.pl, pls_ints xs n]
theorem pl_ints (xs : List Int) (n : Nat) : D.pl (n + 1) (.lst (xs.map D.int)) = true := by simp [D.pl, pls_ints]
theorem pls_mem {n : Nat} : ∀ {xs : List D}, (∀ x ∈ xs, D.pl n x = true) → D.pls n xs = true
  | [], _ => by simp [D.pls]
  | x :: xs, h => by simp [D.pls, h x List.mem_cons_self, pls_mem fun y m => h y (List.mem_cons_of_mem _ m)]
theorem flats_mem {n : Nat} : ∀ {xs : List D}, (∀ x ∈ xs, D.flat n x = true) → D.flats n xs = true
  | [], _ => by simp [D.flats]
  | x :: xs, h => by simp [D.flats, h x List.mem_cons_self, flats_mem fun y m => h y (List.mem_cons_of_mem _ m)]

/-! ### the script -/
/-- S is the list ns: the script itself, or a list made of it -/
def Scr (S : D) (ns : List Int) : Prop := S = .inp ns ∨ S = .lst (ns.map D.int)
def cellV (ns : List Int) (k : Nat) : Int := if k < ns.length then ns.getD k 0 else if ns = [] then 0 else ns.getD (k % ns.length) 0 * 31 + k
def pickV (ns : List Int) (k : Nat) (many : Int) : Int :=
  let drawn := (cellV ns k + 6151 * ((k : Int) + 1)) * 40692 % 2147483399
  (drawn * drawn + drawn / 31) % 2147483629 % many
theorem pickV_lt (ns : List Int) (k : Nat) {many : Int} (h : 0 < many) : 0 ≤ pickV ns k many ∧ pickV ns k many < many := ⟨Int.emod_nonneg _ (by omega), Int.emod_lt_of_pos _ h⟩
theorem scr_len {S : D} {ns : List Int} (h : Scr S ns) : D.len S = .ok (.int ns.length) := by
  rcases h with rfl | rfl <;> simp [D.len]
theorem scr_idx {S : D} {ns : List Int} (h : Scr S ns) {k : Nat} (hk : k < ns.length) : D.idx S (.int k) = .ok (.int (ns.getD k 0)) := by
  rcases h with rfl | rfl <;> simp [D.idx, atI, List.getElem?_eq_getElem hk, Res.ofOpt]
theorem scr_eq {S : D} {ns : List Int} (h : Scr S ns) : D.eq S (.lst []) = .ok (.bl (decide (ns = []))) := by
  rcases h with rfl | rfl
  · cases ns <;> simp [D.eq, D.good, D.pl, D.pls, D.eqv, eqvI]
  · cases ns with
    | nil => simp [D.eq, D.good, D.pl, D.pls, D.eqv, D.eqvs]
    | cons a r => simp [D.eq, D.good, D.pl, D.pls, D.eqv, D.eqvs, pls_ints]
/-- the reading of straight code -/
theorem eB0 {s : Slot} {e : Env} : eB 0 (s :: e) = match s with
    | .sh d => .ok d
    | .bor d => .ok d
    | .own d => .ok d
    | .un => .stk := by cases s <;> rfl
theorem cell_ok {S : D} {ns : List Int} (h : Scr S ns) (k : Nat) : M.m_cell_L [S, .int k] = .ok (.int (cellV ns k)) := by
  have hl := scr_len h
  have he := scr_eq h
  unfold M.m_cell_L M.b_cell_L cellV
  by_cases hk : k < ns.length
  · simp [runD, initE, sSeq, sIf, sRet, tE, e2, e1, eB, eL, D.ltI, D.cmp, D.asB, hl, hk, scr_idx h hk]
  · by_cases hn : ns = []
    · subst hn
      have hkn : ¬ ((k : Int) < 0) := by omega
      simp [runD, initE, sSeq, sIf, sRet, sNil, tE, e2, e1, eB, eC, eLst, eL, D.ltI, D.cmp, D.asB, hl, he, hkn]
    · have hp : 0 < ns.length := List.length_pos_iff.mpr hn
      have hm : k % ns.length < ns.length := Nat.mod_lt _ hp
      have hx := scr_idx h hm
      have e1' : ((k : Int) % (ns.length : Int)) = ((k % ns.length : Nat) : Int) := by simp
      simp [runD, initE, sSeq, sIf, sRet, sNil, tE, e2, e1, eB, eC, eLst, eL, D.ltI, D.cmp, D.asB, hl, he, hk, hn, D.mod, D.mul, D.add, smallI]
      rw [if_pos (by omega)]
      simp only [Res.bind_ok]
      rw [e1', hx]
      simp
theorem pick_ok {S : D} {ns : List Int} (h : Scr S ns) (k : Nat) {many : Int} (hm : 0 < many) : M.m_pick_L [S, .int k, .int many] = .ok (.int (pickV ns k many)) := by
  unfold M.m_pick_L M.b_pick_L pickV
  have hc := cell_ok h k
  have b1 := Int.emod_nonneg ((cellV ns k + 6151 * ((k : Int) + 1)) * 40692) (b := 2147483399) (by decide)
  have b2 := Int.emod_lt_of_pos ((cellV ns k + 6151 * ((k : Int) + 1)) * 40692) (b := 2147483399) (by decide)
  simp only [runD, initE, sSeq, sSet, sRet, e2, eCall, eL, eB, eC, hc, List.length_cons, List.length_nil, List.replicate, List.getElem?_cons_zero, List.getElem?_cons_succ, List.cons_append, List.nil_append, Res.bind_ok, D.add, D.mul, D.mod, smallI, if_true]
  generalize hd : (cellV ns k + 6151 * ((k : Int) + 1)) * 40692 % 2147483399 = d at b1 b2
  have s1 : (decide (-(2 : Int) ^ 64 < d) && decide (d < 2 ^ 64)) = true := by
    simp only [Bool.and_eq_true, decide_eq_true_eq]; omega
  have s2 : -18446744073709551616 < d ∧ d < 18446744073709551616 := by omega
  simp [hd, s1, s2, D.fdiv, hm]
end Tw

set_option autoImplicit false
/-! Tw, plain: one lemma a statement (so that no big term is reduced). -/
namespace Tw
variable {a b : S} {e e1 e2 : Env} {d : D} {r : RS} {f : E} {t : T} {it : I} {g : G} {xs : List D} {i j : Nat} {ms : List Bool} {n : Nat} {ds : List D} {c : Nat}
theorem bind_eq {α β : Type} {r : Res α} {x : α} {f : α → Res β} {z : Res β} (h : r = .ok x) (h2 : f x = z) : r.bind f = z := by subst h; exact h2
theorem runD_rt (hl : ds.length = ms.length) (h : a (initE ms ds ++ List.replicate (n - ms.length) .un) = .rt d) : runD ms n a ds = .ok d := by
  unfold runD; rw [if_pos hl, h]
theorem runD_nx (hl : ds.length = ms.length) (h : a (initE ms ds ++ List.replicate (n - ms.length) .un) = .nx e) : runD ms n a ds = .ok .non := by
  unfold runD; rw [if_pos hl, h]
theorem runD_er (hl : ds.length = ms.length) (h : a (initE ms ds ++ List.replicate (n - ms.length) .un) = .er c e) : runD ms n a ds = .err c := by
  unfold runD; rw [if_pos hl, h]
theorem seq_nx (h : a e = .nx e1) (h2 : b e1 = r) : sSeq a b e = r := by unfold sSeq; rw [h]; exact h2
theorem seq_rt (h : a e = .rt d) : sSeq a b e = .rt d := by unfold sSeq; rw [h]
theorem seq_er (h : a e = .er c e1) : sSeq a b e = .er c e1 := by unfold sSeq; rw [h]
theorem seq_bk (h : a e = .bk e1) : sSeq a b e = .bk e1 := by unfold sSeq; rw [h]
theorem set_ok (h : f e = .ok d) : sSet i f e = .nx (e.set i (.sh d)) := by unfold sSet; rw [h]; rfl
theorem own_ok (h : f e = .ok d) : sOwn i f e = .nx (e.set i (.own d)) := by unfold sOwn; rw [h]; rfl
theorem ret_ok (h : f e = .ok d) : sRet f e = .rt d := by unfold sRet; rw [h]; rfl
theorem if_t (h : t e = .ok true) (h2 : a e = r) : sIf t a b e = r := by unfold sIf; rw [h]; exact h2
theorem if_f (h : t e = .ok false) (h2 : b e = r) : sIf t a b e = r := by unfold sIf; rw [h]; exact h2
theorem for_go (h : it e = .ok xs) (h2 : forGo g a xs e = r) : sFor it g a e = r := by unfold sFor; rw [h]; exact h2
theorem asg_ok (h : f e = .ok d) (h2 : g d e = .ok e1) : sAsg g f e = .nx e1 := by unfold sAsg; rw [h]; simp [h2]
theorem frz_ok (h : e[i]? = some (.own d)) : sFrz i e = .nx (e.set i (.sh d)) := by unfold sFrz; rw [h]
theorem app_ok (h : e[i]? = some (.own (.lst xs))) (h2 : f e = .ok d) (h3 : xs.length < szl) : sApp i f e = .nx (e.set i (.own (.lst (xs ++ [d])))) := by
  unfold sApp; rw [h, h2]; simp only [Res.run_ok]; rw [if_pos h3]
theorem ext_ok {ys : List D} (h : e[i]? = some (.own (.lst xs))) (h2 : f e = .ok (.lst ys)) (h3 : xs.length + ys.length ≤ szl) : sExt i f e = .nx (e.set i (.own (.lst (xs ++ ys)))) := by
  unfold sExt; rw [h, h2]; simp only [Res.run_ok]; rw [if_pos h3]
theorem popAt_ok {k : Int} {x : D} (h : e[i]? = some (.own (.lst xs))) (h2 : f e = .ok (.int k)) (h3 : 0 ≤ k ∧ k < 4611686018427387904) (h4 : xs[k.toNat]? = some x) : sPopAt j i f e = .nx ((e.set i (.own (.lst (xs.eraseIdx k.toNat)))).set j (.sh x)) := by
  unfold sPopAt; rw [h, h2]; simp only [Res.run_ok]; rw [if_pos h3, h4]
theorem ecomp_ok {own : List Nat} {ys : List D} (h : it e = .ok xs) (hl : xs.length < szl) (h2 : compGo (compTurn own g t f e) xs = .ok ys) : eComp it own g t f e = .ok (.lst ys) := by
  unfold eComp; rw [h]; simp only [Res.bind_ok]; rw [if_pos hl, h2]; rfl
theorem call_ok {m : List D → Res D} {es : List E} {x : Res D} (h : eL es e = .ok ds) (h2 : m ds = x) : eCall m es e = x := by unfold eCall; rw [h]; exact h2
theorem rng_ok {fa fb : E} {x y : D} {l : List D} (ha : fa e = .ok x) (hb : fb e = .ok y) (h : rng2 x y = .ok l) (hl : l.length ≤ szl) : eRng fa fb e = .ok (.lst l) := by
  unfold eRng; rw [ha]; simp only [Res.bind_ok]; rw [hb]; simp only [Res.bind_ok]; rw [h]; simp only [Res.bind_ok]; rw [if_pos hl]
theorem szl_big : 16777215 < szl := by unfold szl; omega
theorem small_szl {n : Nat} (h : n ≤ 16777215) : n < szl := Nat.lt_of_le_of_lt h szl_big
theorem iR1_ok {x : D} {l : List D} (h : f e = .ok x) (h2 : rng1 x = .ok l) : iR1 f e = .ok l := by unfold iR1; rw [h]; exact h2
end Tw

set_option autoImplicit false
set_option linter.all false
/-! Tw, plain: trees, and how they are drawn. -/
namespace Tw
structure Nd where
  n : Int
  p : Int
  nm : Nm
  st : Option Int
  deriving DecidableEq
def stD : Option Int → D
  | none => .non
  | some i => .int i
def Nd.row (x : Nd) : D := .tup [.int x.p, .str x.nm, stD x.st]
def Nd.enc (x : Nd) : D := .tup [.int x.n, .int x.p, .str x.nm, stD x.st]
def encT (T : List Nd) : D := .tup (T.map Nd.enc)
abbrev nums (T : List Nd) : List Int := T.map (·.n)
abbrev spots (T : List Nd) : List (Int × Nm) := T.map fun x => (x.p, x.nm)
def goodName (s : Nm) : Bool := decide (1 ≤ s.length) && decide (s.length ≤ 5) && s.all fun c => decide (97 ≤ c) && decide (c ≤ 122)
def goodSt : Option Int → Bool
  | none => true
  | some i => decide (0 ≤ i) && decide (i ≤ 999)
def Nd.good (x : Nd) : Bool := decide (1 ≤ x.n) && decide (0 ≤ x.p) && goodName x.nm && goodSt x.st
/-- a tree in the order of its making -/
inductive Grown : List Nd → Prop
  | nil : Grown []
  | snoc {L : List Nd} {x : Nd} : Grown L → x.good = true → x.n ∉ nums L → (x.p, x.nm) ∉ spots L → (x.p = 0 ∨ ∃ f ∈ L, f.n = x.p ∧ f.st = none) → Grown (L ++ [x])
theorem Grown.good {L : List Nd} (h : Grown L) : ∀ x ∈ L, x.good = true := by
  induction h with
  | nil => simp
  | snoc _ g _ _ _ ih =>
    intro y m
    rcases List.mem_append.mp m with m | m
    · exact ih y m
    · rw [List.mem_singleton.mp m]; exact g
theorem Grown.nodup {L : List Nd} (h : Grown L) : (nums L).Nodup ∧ (spots L).Nodup := by
  induction h with
  | nil => exact ⟨List.nodup_nil, List.nodup_nil⟩
  | snoc _ _ a b _ ih =>
    refine ⟨?_, ?_⟩
    · unfold nums at *
      rw [List.map_append, List.nodup_append]
      refine ⟨ih.1, by simp, fun x hx y hy => ?_⟩
      simp at hy
      subst hy
      exact fun e => a (e ▸ hx)
    · unfold spots at *
      rw [List.map_append, List.nodup_append]
      refine ⟨ih.2, by simp, fun x hx y hy => ?_⟩
      simp at hy
      subst hy
      exact fun e => b (e ▸ hx)

/-! ### data of nodes -/
theorem name_ok {s : Nm} (h : goodName s = true) : (s.all fun c => decide (c < 1114112)) = true := by
  unfold goodName at h
  simp only [Bool.and_eq_true, List.all_eq_true, decide_eq_true_eq] at h ⊢
  intro c m
  have := h.2 c m
  omega
theorem pl_st (o : Option Int) (n : Nat) : D.pl n (stD o) = true := by cases o <;> simp [stD, D.pl]
theorem flat_st (o : Option Int) (n : Nat) : D.flat n (stD o) = true := by cases o <;> simp [stD, D.flat]
theorem pl_enc {x : Nd} (h : x.good = true) (n : Nat) : D.pl (n + 1) x.enc = true := by
  unfold Nd.good at h
  simp only [Bool.and_eq_true] at h
  have hn := name_ok h.1.2
  simp only [Nd.enc, D.pl, D.pls, pl_st, Bool.and_true, Bool.true_and]
  exact hn
theorem flat_enc {x : Nd} (h : x.good = true) (n : Nat) : D.flat (n + 1) x.enc = true := by
  unfold Nd.good at h
  simp only [Bool.and_eq_true] at h
  have hn := name_ok h.1.2
  simp only [Nd.enc, D.flat, D.flats, flat_st, Bool.and_true, Bool.true_and]
  exact hn
theorem pl_tree {T : List Nd} (h : ∀ x ∈ T, x.good = true) (n : Nat) : D.pl (n + 2) (encT T) = true := by
  simp only [encT, D.pl]
  exact pls_mem fun y m => by
    obtain ⟨x, hx, rfl⟩ := List.mem_map.mp m
    exact pl_enc (h x hx) n
theorem eqv_st (a b : Option Int) : D.eqv (stD a) (stD b) = decide (a = b) := by
  cases a <;> cases b <;> simp [stD, D.eqv]
  rename_i a b
  by_cases h : a = b <;> simp [h]
theorem eqv_enc (x y : Nd) : D.eqv x.enc y.enc = decide (x = y) := by
  obtain ⟨a, b, c, d⟩ := x
  obtain ⟨a', b', c', d'⟩ := y
  simp only [Nd.enc, D.eqv, D.eqvs, eqv_st, Nd.mk.injEq, Bool.and_true]
  by_cases h1 : a = a' <;> by_cases h2 : b = b' <;> by_cases h3 : c = c' <;> by_cases h4 : d = d' <;> simp [h1, h2, h3, h4]
theorem eqvs_enc : ∀ T U : List Nd, D.eqvs (T.map Nd.enc) (U.map Nd.enc) = decide (T = U)
  | [], [] => by simp [D.eqvs]
  | [], _ :: _ => by simp [D.eqvs]
  | _ :: _, [] => by simp [D.eqvs]
  | x :: T, y :: U => by
    simp only [List.map_cons, D.eqvs, eqv_enc, eqvs_enc T U]
    by_cases h1 : x = y <;> by_cases h2 : T = U <;> simp [h1, h2]

/-! ### sorted by their numbers -/
def byN (x y : Nd) : Bool := decide (x.n ≤ y.n)
def sortN (L : List Nd) : List Nd := L.mergeSort byN
theorem sortN_perm (L : List Nd) : (sortN L).Perm L := List.mergeSort_perm L byN
theorem sortN_pw (L : List Nd) : (sortN L).Pairwise fun a b => a.n ≤ b.n := by
  have := List.pairwise_mergeSort (le := byN) (fun a b c h g => by simp only [byN, decide_eq_true_eq] at *; omega) (fun a b => by simp only [byN, Bool.or_eq_true, decide_eq_true_eq]; omega) L
  exact this.imp fun h => by simpa [byN] using h
theorem lt_enc {x y : Nd} (h : x.n ≠ y.n) : D.lt x.enc y.enc = decide (x.n < y.n) := by
  unfold Nd.enc
  rw [lt_tup, lexI_tokss (n := 1) (m := 1) (by simp [D.flat]) (by simp [D.flat])]
  simp [D.eqv, h, lt_int]
theorem lt_self (d : D) : D.lt d d = false := lexI_self _
theorem sorted_strict {T : List Nd} (h : T.Pairwise fun a b => a.n ≤ b.n) (nd : (nums T).Nodup) : T.Pairwise fun a b => a.n < b.n := by
  unfold nums at nd
  rw [List.Nodup, List.pairwise_map] at nd
  exact (h.and nd).imp fun ⟨a, b⟩ => by omega
theorem nodup_inj {L : List Nd} (nd : (nums L).Nodup) {x y : Nd} (hx : x ∈ L) (hy : y ∈ L) (e : x.n = y.n) : x = y := by
  induction L with
  | nil => simp at hx
  | cons a L ih =>
    obtain ⟨h1, h2⟩ := List.nodup_cons.mp nd
    rcases List.mem_cons.mp hx with p | p <;> rcases List.mem_cons.mp hy with q | q
    · rw [p, q]
    · subst p; exact absurd (List.mem_map.mpr ⟨y, q, e.symm⟩) h1
    · subst q; exact absurd (List.mem_map.mpr ⟨x, p, e⟩) h1
    · exact ih h2 p q
theorem sortD_enc {L : List Nd} (nd : (nums L).Nodup) : sortD (L.map Nd.enc) = (sortN L).map Nd.enc := by
  have pm := sortN_perm L
  have st := sorted_strict (sortN_pw L) ((pm.map (·.n)).nodup_iff.mpr nd)
  refine sorted_uniq (sortD_pw _) ?_ fun x => ?_
  · rw [List.pairwise_map]
    refine st.imp fun {a b} h => ?_
    unfold D.le
    rw [lt_enc (by omega)]
    simp; omega
  · rw [sortD_stb]
    -- each class has one member at most
    have uniq : ∀ (M : List Nd), (nums M).Nodup → (M.map Nd.enc).filter (same x) = (M.find? fun y => same x y.enc).toList.map Nd.enc := by
      intro M
      induction M with
      | nil => intro _; rfl
      | cons a M ih =>
        intro hn
        obtain ⟨h1, h2⟩ := List.nodup_cons.mp hn
        rw [List.map_cons]
        by_cases q : same x a.enc = true
        · rw [List.filter_cons_of_pos q, List.find?_cons_of_pos (p := fun y : Nd => same x y.enc) q]
          have : (M.map Nd.enc).filter (same x) = [] := by
            rw [List.filter_eq_nil_iff]
            intro d hd
            obtain ⟨b, hb, rfl⟩ := List.mem_map.mp hd
            intro z
            have ne : a.n ≠ b.n := fun e => h1 (List.mem_map.mpr ⟨b, hb, e.symm⟩)
            unfold same at q z
            simp only [Bool.and_eq_true] at q z
            have l1 := le_trans _ _ _ q.2 z.1
            have l2 := le_trans _ _ _ z.2 q.1
            unfold D.le at l1 l2
            rw [lt_enc (fun e => ne e.symm)] at l1
            rw [lt_enc ne] at l2
            simp at l1 l2
            omega
          rw [this]
          rfl
        · rw [List.filter_cons_of_neg q, List.find?_cons_of_neg (p := fun y : Nd => same x y.enc) q]
          exact ih h2
    rw [uniq L nd, uniq (sortN L) ((pm.map (·.n)).nodup_iff.mpr nd)]
    congr 2
    -- the one that is found is the same one
    have same1 : ∀ y ∈ L, ∀ z ∈ L, same x y.enc = true → same x z.enc = true → y = z := by
      intro y hy z hz q1 q2
      by_cases e : y.n = z.n
      · by_cases hyz : y = z
        · exact hyz
        · exact (nodup_inj nd hy hz e)
      · exfalso
        unfold same at q1 q2
        simp only [Bool.and_eq_true] at q1 q2
        have l1 := le_trans _ _ _ q1.2 q2.1
        have l2 := le_trans _ _ _ q2.2 q1.1
        unfold D.le at l1 l2
        rw [lt_enc (fun z => e z.symm)] at l1
        rw [lt_enc e] at l2
        simp at l1 l2
        omega
    cases e1 : L.find? fun y => same x y.enc with
    | none =>
      rw [List.find?_eq_none] at e1
      symm
      rw [List.find?_eq_none]
      exact fun y hy => e1 y (pm.mem_iff.mp hy)
    | some a =>
      cases e2 : (sortN L).find? fun y => same x y.enc with
      | none =>
        rw [List.find?_eq_none] at e2
        exact absurd (List.find?_some e1) (e2 a (pm.mem_iff.mpr (List.mem_of_find?_eq_some e1)))
      | some b =>
        rw [same1 a (List.mem_of_find?_eq_some e1) b (pm.mem_iff.mp (List.mem_of_find?_eq_some e2)) (by simpa using List.find?_some e1) (by simpa using List.find?_some e2)]
theorem sortable_enc {L : List Nd} (g : ∀ x ∈ L, x.good = true) (nd : (nums L).Nodup) : sortable (L.map Nd.enc) = true := by
  unfold sortable
  simp only [Bool.and_eq_true, Bool.or_eq_true, List.all_eq_true]
  refine ⟨fun d m => ?_, .inr ⟨fun d m => ?_, fun d m e k => ?_⟩⟩
  · obtain ⟨x, hx, rfl⟩ := List.mem_map.mp m
    exact flat_enc (g x hx) 39
  · obtain ⟨x, hx, rfl⟩ := List.mem_map.mp m
    refine ⟨rfl, fun e k => ?_⟩
    obtain ⟨y, hy, rfl⟩ := List.mem_map.mp k
    rfl
  · obtain ⟨x, hx, rfl⟩ := List.mem_map.mp m
    obtain ⟨y, hy, rfl⟩ := List.mem_map.mp k
    by_cases e : x.n = y.n
    · have := nodup_inj nd hx hy e
      subst this
      simp [Nd.enc, D.cmps, D.eqv, eqv_st]
    · simp [Nd.enc, D.cmps, D.eqv, e, D.alk]
end Tw

set_option autoImplicit false
set_option linter.all false
/-! Tw, plain: the tree that is drawn. -/
namespace Tw
structure Gr where
  left : List Int
  fold : List Int
  nodes : List Nd
def dName (v : Int) : Nm := [[97], [98], [99], [97, 98, 99, 100, 101]].getD v.toNat [97]
def dStamp (v : Int) : Int := [0, 1, 2, 999].getD v.toNat 0
def gStep (ns : List Int) (at_ : Nat) (s : Gr) (k : Nat) : Gr :=
  let i := (pickV ns (at_ + 1 + 6 * k) s.left.length).toNat
  let num := s.left.getD i 0
  let par := s.fold.getD (pickV ns (at_ + 2 + 6 * k) s.fold.length).toNat 0
  let name := dName (pickV ns (at_ + 3 + 6 * k) 4)
  let st := if 1 < pickV ns (at_ + 4 + 6 * k) 5 then some (dStamp (pickV ns (at_ + 5 + 6 * k) 4)) else none
  if (par, name) ∈ spots s.nodes then { s with left := s.left.eraseIdx i }
  else ⟨s.left.eraseIdx i, if st = none then s.fold ++ [num] else s.fold, s.nodes ++ [⟨num, par, name, st⟩]⟩
def count (ns : List Int) (at_ most : Nat) : Nat := (pickV ns at_ (most + 1)).toNat
def drawnG (ns : List Int) (at_ most : Nat) : Gr := (List.range (count ns at_ most)).foldl (gStep ns at_) ⟨(List.range (most + 3)).map fun (k : Nat) => (1 : Int) + (k : Int), [0], []⟩
/-- the tree that is drawn -/
def drawn (ns : List Int) (at_ most : Nat) : List Nd := sortN (drawnG ns at_ most).nodes
theorem dName_good (v : Int) : goodName (dName v) = true := by
  unfold dName
  match v.toNat with
  | 0 => decide
  | 1 => decide
  | 2 => decide
  | 3 => decide
  | n + 4 => simp [goodName]
theorem dStamp_good (v : Int) : 0 ≤ dStamp v ∧ dStamp v ≤ 999 := by
  unfold dStamp
  match v.toNat with
  | 0 => decide
  | 1 => decide
  | 2 => decide
  | 3 => decide
  | n + 4 => simp
/-- what holds while the tree is drawn, k nodes asked for -/
structure GInv (most : Nat) (s : Gr) (k : Nat) : Prop where
  grown : Grown s.nodes
  nd : (s.left ++ nums s.nodes).Nodup
  rng : ∀ x ∈ s.left ++ nums s.nodes, 1 ≤ x ∧ x ≤ most + 3
  len : s.left.length + k = most + 3
  folds : ∀ x ∈ s.fold, x = 0 ∨ ∃ f ∈ s.nodes, f.n = x ∧ f.st = none
  some_ : s.fold ≠ []
  few : s.nodes.length ≤ k
  few2 : s.fold.length ≤ k + 1
theorem getD_mem {α : Type} {l : List α} {i : Nat} {d : α} (h : i < l.length) : l.getD i d ∈ l := by
  rw [List.getD_eq_getElem?_getD, List.getElem?_eq_getElem h]
  exact List.getElem_mem h
theorem erase_perm {α : Type} : ∀ (l : List α) (i : Nat) (h : i < l.length), (l[i] :: l.eraseIdx i).Perm l
  | a :: l, 0, _ => by simp
  | a :: l, i + 1, h => by
    have := erase_perm l i (by simpa using h)
    simp only [List.getElem_cons_succ, List.eraseIdx_cons_succ]
    exact (List.Perm.swap a _ _).trans (this.cons a)
theorem toNat_lt {v : Int} {n : Nat} (h : 0 ≤ v ∧ v < (n : Int)) : v.toNat < n := by omega
theorem gStep_inv {ns : List Int} {at_ most k : Nat} {s : Gr} (I : GInv most s k) (hk : k < most + 3) : GInv most (gStep ns at_ s k) (k + 1) := by
  have hl : 0 < s.left.length := by have := I.len; omega
  have hf : 0 < s.fold.length := List.length_pos_iff.mpr I.some_
  have b1 := pickV_lt ns (at_ + 1 + 6 * k) (many := s.left.length) (by omega)
  have b2 := pickV_lt ns (at_ + 2 + 6 * k) (many := s.fold.length) (by omega)
  unfold gStep
  simp only
  have hi := toNat_lt b1
  have hj := toNat_lt b2
  generalize (pickV ns (at_ + 1 + 6 * k) s.left.length).toNat = i at hi
  generalize (pickV ns (at_ + 2 + 6 * k) s.fold.length).toNat = j at hj
  have m1 : s.left.getD i 0 ∈ s.left := getD_mem hi
  have m2 : s.fold.getD j 0 ∈ s.fold := getD_mem hj
  have pm : (s.left.getD i 0 :: s.left.eraseIdx i).Perm s.left := by
    rw [List.getD_eq_getElem?_getD, List.getElem?_eq_getElem hi]
    exact erase_perm _ _ hi
  have sub : (s.left.eraseIdx i).Sublist s.left := List.eraseIdx_sublist _ _
  have lenE : (s.left.eraseIdx i).length + (k + 1) = most + 3 := by
    have := List.length_eraseIdx_of_lt hi
    have := I.len
    omega
  have gst : goodSt (if 1 < pickV ns (at_ + 4 + 6 * k) 5 then some (dStamp (pickV ns (at_ + 5 + 6 * k) 4)) else none) = true := by
    split
    · have := dStamp_good (pickV ns (at_ + 5 + 6 * k) 4)
      simp only [goodSt, Bool.and_eq_true, decide_eq_true_eq]
      exact this
    · rfl
  generalize (if 1 < pickV ns (at_ + 4 + 6 * k) 5 then some (dStamp (pickV ns (at_ + 5 + 6 * k) 4)) else none) = st at gst ⊢
  have gnm := dName_good (pickV ns (at_ + 3 + 6 * k) 4)
  generalize dName (pickV ns (at_ + 3 + 6 * k) 4) = name at gnm ⊢
  split
  · refine ⟨I.grown, ?_, fun x m => I.rng x ?_, lenE, I.folds, I.some_, Nat.le_succ_of_le I.few, Nat.le_succ_of_le I.few2⟩
    · exact I.nd.sublist (sub.append (List.Sublist.refl _))
    · rcases List.mem_append.mp m with m | m
      · exact List.mem_append_left _ (sub.subset m)
      · exact List.mem_append_right _ m
  · rename_i hs
    have nd := I.nd
    rw [List.nodup_append] at nd
    have fresh : s.left.getD i 0 ∉ nums s.nodes := fun m => nd.2.2 _ m1 _ m rfl
    have r1 := I.rng _ (List.mem_append_left _ m1)
    have pz : s.fold.getD j 0 = 0 ∨ ∃ f ∈ s.nodes, f.n = s.fold.getD j 0 ∧ f.st = none := I.folds _ m2
    have p0 : 0 ≤ s.fold.getD j 0 := by
      rcases pz with e | ⟨f, hf, e, _⟩
      · omega
      · have := I.rng f.n (List.mem_append_right _ (List.mem_map.mpr ⟨f, hf, rfl⟩)); omega
    refine ⟨I.grown.snoc ?_ fresh hs pz, ?_, fun x m => ?_, lenE, fun x m => ?_, ?_, ?_, ?_⟩
    · unfold Nd.good
      simp only [Bool.and_eq_true, decide_eq_true_eq]
      exact ⟨⟨⟨r1.1, p0⟩, gnm⟩, gst⟩
    · have e : (s.left.eraseIdx i ++ nums (s.nodes ++ [⟨s.left.getD i 0, s.fold.getD j 0, name, st⟩])).Perm (s.left ++ nums s.nodes) := by
        simp only [nums, List.map_append, List.map_cons, List.map_nil]
        refine List.Perm.trans ?_ (pm.append_right _)
        rw [← List.append_assoc]
        exact List.perm_append_comm.trans (List.Perm.refl _)
      exact e.nodup_iff.mpr I.nd
    · rcases List.mem_append.mp m with m | m
      · exact I.rng x (List.mem_append_left _ (sub.subset m))
      · simp only [nums, List.map_append, List.map_cons, List.map_nil, List.mem_append, List.mem_singleton] at m
        rcases m with m | m
        · exact I.rng x (List.mem_append_right _ m)
        · subst m; exact r1
    · have old : x ∈ s.fold → x = 0 ∨ ∃ f ∈ s.nodes ++ [⟨s.left.getD i 0, s.fold.getD j 0, name, st⟩], f.n = x ∧ f.st = none := fun m => by
        rcases I.folds x m with e | ⟨f, hf, e⟩
        · exact .inl e
        · exact .inr ⟨f, List.mem_append_left _ hf, e⟩
      by_cases hst : st = none
      · rw [if_pos hst] at m
        rcases List.mem_append.mp m with m | m
        · exact old m
        · rw [List.mem_singleton.mp m]
          exact .inr ⟨_, List.mem_append_right _ (List.mem_singleton.mpr rfl), rfl, hst⟩
      · rw [if_neg hst] at m
        exact old m
    · show (if st = none then s.fold ++ [s.left.getD i 0] else s.fold) ≠ []
      split
      · simp
      · exact I.some_
    · have := I.few
      show (s.nodes ++ [_]).length ≤ k + 1
      simp; omega
    · have := I.few2
      show (if st = none then s.fold ++ [s.left.getD i 0] else s.fold).length ≤ k + 1 + 1
      split
      · simp; omega
      · omega
theorem gInv_fold {ns : List Int} {at_ most : Nat} : ∀ (n : Nat) , n ≤ most → GInv most ((List.range n).foldl (gStep ns at_) ⟨(List.range (most + 3)).map fun (k : Nat) => (1 : Int) + (k : Int), [0], []⟩) n
  | 0, _ => by
    refine ⟨.nil, ?_, fun x m => ?_, by simp, fun x m => .inl (by simpa using m), by simp, by simp, by simp⟩
    · simp only [List.range_zero, List.foldl_nil, nums, List.map_nil, List.append_nil]
      show ((List.range (most + 3)).map fun (k : Nat) => (1 : Int) + (k : Int)).Nodup
      refine List.pairwise_map.mpr (List.Pairwise.imp (R := fun a b : Nat => a ≠ b) (fun {a b} h => ?_) List.nodup_range)
      intro e
      exact h (by omega)
    · simp at m
      obtain ⟨k, hk, e⟩ := m
      omega
  | n + 1, h => by
    rw [List.range_succ (n := n), List.foldl_append]
    exact gStep_inv (gInv_fold n (by omega)) (by omega)
theorem count_le (ns : List Int) (at_ most : Nat) : count ns at_ most ≤ most := by
  have := pickV_lt ns at_ (many := most + 1) (by omega)
  unfold count
  omega
theorem drawn_inv (ns : List Int) (at_ most : Nat) : GInv most (drawnG ns at_ most) (count ns at_ most) := gInv_fold _ (count_le ns at_ most)

/-! ### the mirror -/
theorem pick_ok' {S : D} {ns : List Int} (h : Scr S ns) {i : Int} {k : Nat} (e : i = (k : Int)) {many : Int} (hm : 0 < many) : M.m_pick_L [S, .int i, .int many] = .ok (.int (pickV ns k many)) := by
  subst e; exact pick_ok h k hm
theorem idx_ints {l : List Int} {v : Int} (h : 0 ≤ v ∧ v < (l.length : Int)) : D.idx (.lst (l.map D.int)) (.int v) = .ok (.int (l.getD v.toNat 0)) := by
  have hi : v.toNat < l.length := toNat_lt h
  simp [D.idx, atI, h.1, List.getElem?_eq_getElem hi, Res.ofOpt]
theorem idx_name {v : Int} (h : 0 ≤ v ∧ v < 4) : D.idx (.lst [.str [97], .str [98], .str [99], .str [97, 98, 99, 100, 101]]) (.int v) = .ok (.str (dName v)) := by
  have : v = 0 ∨ v = 1 ∨ v = 2 ∨ v = 3 := by omega
  rcases this with rfl | rfl | rfl | rfl <;> rfl
theorem idx_stamp {v : Int} (h : 0 ≤ v ∧ v < 4) : D.idx (.lst [.int 0, .int 1, .int 2, .int 999]) (.int v) = .ok (.int (dStamp v)) := by
  have : v = 0 ∨ v = 1 ∨ v = 2 ∨ v = 3 := by omega
  rcases this with rfl | rfl | rfl | rfl <;> rfl
def tEnv (S : D) (at_ most : Nat) (s : Gr) (r : List Slot) : Env := [.bor S, .bor (.int at_), .bor (.int most), .own (.lst (s.left.map D.int)), .own (.lst (s.fold.map D.int)), .own (.lst (s.nodes.map Nd.enc))] ++ r
/-- (parent, name) not in [node[1:3] for node in nodes] -/
theorem spot_in {L : List Nd} (g : ∀ x ∈ L, x.good = true) {p : Int} {nm : Nm} (hn : goodName nm = true) : D.notIn (.tup [.int p, .str nm]) (.lst (L.map fun x => .tup [.int x.p, .str x.nm])) = .ok (.bl (!decide ((p, nm) ∈ spots L))) := by
  have h1 : D.good (.tup [.int p, .str nm]) = true := by simpa [D.good, D.pl, D.pls] using name_ok hn
  have h2 : D.pl 40 (.lst (L.map fun x => .tup [.int x.p, .str x.nm])) = true := by
    simp only [D.pl]
    refine pls_mem fun y m => ?_
    obtain ⟨x, hx, rfl⟩ := List.mem_map.mp m
    have := g x hx
    unfold Nd.good at this
    simp only [Bool.and_eq_true] at this
    simpa [D.pl, D.pls] using name_ok this.1.2
  have h3 : (L.map fun x : Nd => D.tup [.int x.p, .str x.nm]).any (fun y => D.eqv y (.tup [.int p, .str nm])) = decide ((p, nm) ∈ spots L) := by
    rw [List.any_map]
    induction L with
    | nil => simp
    | cons x L ih =>
      rw [List.any_cons, ih (fun y m => g y (List.mem_cons_of_mem _ m)) (by
        simp only [D.pl, List.map_cons, D.pls, Bool.and_eq_true] at h2 ⊢
        exact h2.2)]
      have h3 : D.eqv (.tup [.int x.p, .str x.nm]) (.tup [.int p, .str nm]) = decide ((p, nm) = (x.p, x.nm)) := by
        by_cases e1 : x.p = p
        · by_cases e2 : x.nm = nm
          · simp [D.eqv, D.eqvs, e1, e2]
          · have e3 : nm ≠ x.nm := fun z => e2 z.symm
            simp [D.eqv, D.eqvs, e1, e2, e3]
        · have e3 : p ≠ x.p := fun z => e1 z.symm
          simp [D.eqv, D.eqvs, e1, e3]
      simp only [Function.comp, h3]
      show (decide ((p, nm) = (x.p, x.nm)) || decide ((p, nm) ∈ spots L)) = decide ((p, nm) ∈ (x.p, x.nm) :: spots L)
      by_cases e1 : (p, nm) = (x.p, x.nm)
      · rw [e1]; simp
      · rw [decide_eq_false e1, Bool.false_or]
        by_cases e2 : (p, nm) ∈ spots L
        · rw [decide_eq_true e2, decide_eq_true (List.mem_cons_of_mem _ e2)]
        · rw [decide_eq_false e2, decide_eq_false]
          intro z
          rcases List.mem_cons.mp z with z | z
          · exact e1 z
          · exact e2 z
  have h4 : D.has (.tup [.int p, .str nm]) (.lst (L.map fun x => .tup [.int x.p, .str x.nm])) = some (decide ((p, nm) ∈ spots L)) := by
    unfold D.has
    simp only
    have h1' : D.pl 40 (.tup [.int p, .str nm]) = true := h1
    rw [show D.good (.tup [.int p, .str nm]) = true from h1, h2]
    simp [h3]
  unfold D.notIn
  rw [h4]
  rfl
end Tw

set_option autoImplicit false
set_option linter.all false
namespace Tw
def gAt (ns : List Int) (at_ most : Nat) (i : Nat) : Gr := (List.range i).foldl (gStep ns at_) ⟨(List.range (most + 3)).map fun (k : Nat) => (1 : Int) + (k : Int), [0], []⟩
theorem gAt_succ (ns : List Int) (at_ most i : Nat) : gAt ns at_ most (i + 1) = gStep ns at_ (gAt ns at_ most i) i := by
  unfold gAt
  rw [List.range_succ (n := i), List.foldl_append]
  rfl
theorem rng_left {most : Nat} (ns : List Int) (at_ : Nat) (hm : most ≤ 1000) : rng2 (.int 1) (.int ((most : Int) + 4)) = .ok ((gAt ns at_ most 0).left.map D.int) ∧ ((gAt ns at_ most 0).left.map D.int).length ≤ szl := by
  have e : ((most : Int) + 4 - 1).toNat = most + 3 := by omega
  have s1 : (smallR 1 && smallR ((most : Int) + 4)) = true := by simp [smallR]; omega
  refine ⟨?_, ?_⟩
  · simp only [rng2, s1, if_true, rangeL, e, gAt, List.range_zero, List.foldl_nil, List.map_map]
    rfl
  · refine Nat.le_of_lt (small_szl ?_)
    simp [gAt]; omega
theorem rng_count {v : Int} (h : 0 ≤ v ∧ v ≤ 1000) : rng1 (.int v) = .ok ((List.range v.toNat).map fun (k : Nat) => D.int (0 + (k : Int))) := by
  have s1 : smallR v = true := by simp [smallR]; omega
  simp only [rng1, s1, if_true, rangeL]
/-- the slots while the tree is drawn -/
abbrev eAt (S : D) (at_ most : Nat) (s : Gr) (a b c d e f : Slot) : Env := [.bor S, .bor (.int at_), .bor (.int most), .own (.lst (s.left.map D.int)), .own (.lst (s.fold.map D.int)), .own (.lst (s.nodes.map Nd.enc)), a, b, c, d, e, f]
theorem comp_spots {S : D} {at_ most : Nat} {s : Gr} {a b c d e f : Slot} (hl : s.nodes.length ≤ 1000) : eComp (iE (eB 5)) [11] (gN 11) tTrue (eSl (eB 11) (some (eC (.int 1))) (some (eC (.int 3)))) (eAt S at_ most s a b c d e f) = .ok (.lst (s.nodes.map fun x => .tup [.int x.p, .str x.nm])) := by
  refine ecomp_ok (xs := s.nodes.map Nd.enc) rfl (small_szl (by simp; omega)) ?_
  exact compGo_map fun x m => rfl
theorem eL_nil {e : Env} : eL [] e = .ok [] := rfl
theorem eL_cons {a : E} {r : List E} {e : Env} {x : D} {xs : List D} (h : a e = .ok x) (h2 : eL r e = .ok xs) : eL (a :: r) e = .ok (x :: xs) := by unfold eL; rw [h]; simp only [Res.bind_ok]; rw [h2]; rfl
/-- one pick of the loop: place at + j + 6 * i -/
theorem pick_at {S : D} {ns : List Int} (h : Scr S ns) {at_ most i : Nat} {s : Gr} {b c d e f : Slot} (j : Nat) {many : Int} {fm : E} (hm : fm (eAt S at_ most s (.sh (.int (0 + (i : Int)))) b c d e f) = .ok (.int many)) (hp : 0 < many) :
    eCall M.m_pick_L [eB 0, e2 D.add (e2 D.add (eB 1) (eC (.int (j : Int)))) (e2 D.mul (eC (.int 6)) (eB 6)), fm] (eAt S at_ most s (.sh (.int (0 + (i : Int)))) b c d e f) = .ok (.int (pickV ns (at_ + j + 6 * i) many)) := by
  refine call_ok (ds := [S, .int (at_ + j + 6 * (0 + (i : Int))), .int many]) (eL_cons rfl (eL_cons rfl (eL_cons hm eL_nil))) ?_
  exact pick_ok' h (by simp) hp
theorem map_erase {α β : Type} (f : α → β) : ∀ (l : List α) (i : Nat), (l.map f).eraseIdx i = (l.eraseIdx i).map f
  | [], _ => by simp
  | _ :: _, 0 => by simp
  | a :: l, i + 1 => by simp [map_erase f l i]
theorem stD_isN (o : Option Int) : D.isN (stD o) = .ok (.bl (decide (o = none))) := by cases o <;> rfl
theorem tree_ok {S : D} {ns : List Int} (h : Scr S ns) (at_ most : Nat) (hm : most ≤ 1000) : M.m_tree_L [S, .int at_, .int most] = .ok (encT (drawn ns at_ most)) := by
  have p0 := pick_ok h at_ (many := (most : Int) + 1) (by omega)
  have c0 := pickV_lt ns at_ (many := (most : Int) + 1) (by omega)
  obtain ⟨r1, l1⟩ := rng_left ns at_ hm
  have r2 := rng_count (v := pickV ns at_ ((most : Int) + 1)) (by omega)
  refine runD_rt (a := M.b_tree_L) rfl ?_
  refine seq_nx (e1 := [.bor S, .bor (.int at_), .bor (.int most), .own (.lst ((gAt ns at_ most 0).left.map D.int)), .un, .un, .un, .un, .un, .un, .un, .un]) ?_ ?_
  · exact own_ok (d := .lst ((gAt ns at_ most 0).left.map D.int)) (rng_ok rfl rfl r1 l1)
  refine seq_nx (e1 := [.bor S, .bor (.int at_), .bor (.int most), .own (.lst ((gAt ns at_ most 0).left.map D.int)), .own (.lst [.int 0]), .un, .un, .un, .un, .un, .un, .un]) (own_ok rfl) ?_
  refine seq_nx (e1 := eAt S at_ most (gAt ns at_ most 0) .un .un .un .un .un .un) (own_ok rfl) ?_
  have loop := forGo_idx (R := fun i env => ∃ a b c d e f, env = eAt S at_ most (gAt ns at_ most i) a b c d e f) (g := gN 6)
    (b := (sSeq (sPopAt 7 3 (eCall M.m_pick_L [(eB 0), (e2 D.add (e2 D.add (eB 1) (eC (.int 1))) (e2 D.mul (eC (.int 6)) (eB 6))), (e1 D.len (eB 3))])) (sSeq (sSet 8 (e2 D.idx (eB 4) (eCall M.m_pick_L [(eB 0), (e2 D.add (e2 D.add (eB 1) (eC (.int 2))) (e2 D.mul (eC (.int 6)) (eB 6))), (e1 D.len (eB 4))]))) (sSeq (sSet 9 (e2 D.idx (eLst [(eC (.str [97])), (eC (.str [98])), (eC (.str [99])), (eC (.str [97, 98, 99, 100, 101]))]) (eCall M.m_pick_L [(eB 0), (e2 D.add (e2 D.add (eB 1) (eC (.int 3))) (e2 D.mul (eC (.int 6)) (eB 6))), (eC (.int 4))]))) (sSeq (sSet 10 (eC .non)) (sSeq (sIf (tE (e2 D.gtI (eCall M.m_pick_L [(eB 0), (e2 D.add (e2 D.add (eB 1) (eC (.int 4))) (e2 D.mul (eC (.int 6)) (eB 6))), (eC (.int 5))]) (eC (.int 1)))) (sSet 10 (e2 D.idx (eLst [(eC (.int 0)), (eC (.int 1)), (eC (.int 2)), (eC (.int 999))]) (eCall M.m_pick_L [(eB 0), (e2 D.add (e2 D.add (eB 1) (eC (.int 5))) (e2 D.mul (eC (.int 6)) (eB 6))), (eC (.int 4))]))) sNil) (sIf (tE (e2 D.notIn (eTup [(eV 8), (eV 9)]) (eComp (iE (eB 5)) [11] (gN 11) tTrue (eSl (eB 11) (some (eC (.int 1))) (some (eC (.int 3))))))) (sSeq (sApp 5 (eTup [(eV 7), (eV 8), (eV 9), (eV 10)])) (sIf (tE (e1 D.isN (eB 10))) (sApp 4 (eV 7)) sNil)) sNil)))))))
    (xs := (List.range (count ns at_ most)).map fun (k : Nat) => D.int (0 + (k : Int))) (env := eAt S at_ most (gAt ns at_ most 0) .un .un .un .un .un .un) 0 (fun i x env hx ⟨a, b, c, d, e, f, he⟩ => by
      subst he
      rw [Nat.zero_add]
      rw [List.getElem?_map] at hx
      have hi : i < count ns at_ most := by
        cases q : (List.range (count ns at_ most))[i]? with
        | none => rw [q] at hx; cases hx
        | some z => simpa using (List.getElem?_eq_some_iff.mp q).1
      have ex : x = .int (0 + (i : Int)) := by
        rw [List.getElem?_range hi] at hx
        exact (Option.some.inj hx).symm
      subst ex
      have I := gInv_fold (ns := ns) (at_ := at_) (most := most) i (by have := count_le ns at_ most; omega)
      rw [gAt_succ]
      change GInv most (gAt ns at_ most i) i at I
      generalize gAt ns at_ most i = s at I
      have hc := count_le ns at_ most
      have hl : 0 < s.left.length := by have := I.len; omega
      have hll : s.left.length ≤ 2000 := by have := I.len; omega
      have hf : 0 < s.fold.length := List.length_pos_iff.mpr I.some_
      have hfl : s.fold.length ≤ 1001 := by have := I.few2; omega
      have hnl : s.nodes.length ≤ 1000 := by have := I.few; omega
      have b1 := pickV_lt ns (at_ + 1 + 6 * i) (many := s.left.length) (by omega)
      have b2 := pickV_lt ns (at_ + 2 + 6 * i) (many := s.fold.length) (by omega)
      have b3 := pickV_lt ns (at_ + 3 + 6 * i) (many := 4) (by decide)
      have b5 := pickV_lt ns (at_ + 5 + 6 * i) (many := 4) (by decide)
      have g1 := I.grown.good
      refine ⟨eAt S at_ most s (.sh (.int (0 + (i : Int)))) b c d e f, ?_⟩
      refine (fun hb => let ⟨a', b', c', d', e', f', hb⟩ := hb; ⟨_, rfl, .inl hb, a', b', c', d', e', f', rfl⟩ : (∃ a' b' c' d' e' f', _ = RS.nx (eAt S at_ most (gStep ns at_ s i) a' b' c' d' e' f')) → _) ?_
      have n1 : (pickV ns (at_ + 1 + 6 * i) s.left.length).toNat < s.left.length := toNat_lt b1
      -- number
      have st1 : sPopAt 7 3 (eCall M.m_pick_L [(eB 0), (e2 D.add (e2 D.add (eB 1) (eC (.int 1))) (e2 D.mul (eC (.int 6)) (eB 6))), (e1 D.len (eB 3))]) (eAt S at_ most s (.sh (.int (0 + (i : Int)))) b c d e f) =
          .nx (eAt S at_ most { s with left := s.left.eraseIdx (pickV ns (at_ + 1 + 6 * i) s.left.length).toNat } (.sh (.int (0 + (i : Int)))) (.sh (.int (s.left.getD (pickV ns (at_ + 1 + 6 * i) s.left.length).toNat 0))) c d e f) := by
        refine (popAt_ok (xs := s.left.map D.int) (k := pickV ns (at_ + 1 + 6 * i) s.left.length) (x := .int (s.left.getD (pickV ns (at_ + 1 + 6 * i) s.left.length).toNat 0)) rfl ?_ ⟨b1.1, by omega⟩ ?_).trans ?_
        · exact pick_at h 1 (many := s.left.length) (by simp [e1, eB, D.len]) (by omega)
        · rw [List.getElem?_map, List.getElem?_eq_getElem n1, List.getD_eq_getElem?_getD, List.getElem?_eq_getElem n1]
          rfl
        · simp [eAt, map_erase]
      -- parent
      have st2 : ∀ z : Slot, sSet 8 (e2 D.idx (eB 4) (eCall M.m_pick_L [(eB 0), (e2 D.add (e2 D.add (eB 1) (eC (.int 2))) (e2 D.mul (eC (.int 6)) (eB 6))), (e1 D.len (eB 4))])) (eAt S at_ most { s with left := s.left.eraseIdx (pickV ns (at_ + 1 + 6 * i) s.left.length).toNat } (.sh (.int (0 + (i : Int)))) z c d e f) =
          .nx (eAt S at_ most { s with left := s.left.eraseIdx (pickV ns (at_ + 1 + 6 * i) s.left.length).toNat } (.sh (.int (0 + (i : Int)))) z (.sh (.int (s.fold.getD (pickV ns (at_ + 2 + 6 * i) s.fold.length).toNat 0))) d e f) := fun z => by
        refine set_ok ?_
        unfold e2
        rw [show eB 4 (eAt S at_ most { s with left := s.left.eraseIdx (pickV ns (at_ + 1 + 6 * i) s.left.length).toNat } (.sh (.int (0 + (i : Int)))) z c d e f) = .ok (.lst (s.fold.map D.int)) from rfl]
        simp only [Res.bind_ok]
        refine (congrArg (fun r => Res.bind r fun y => D.idx (.lst (s.fold.map D.int)) y) (pick_at h 2 (many := s.fold.length) (by simp [e1, eB, D.len]) (by omega))).trans ?_
        exact idx_ints b2
      generalize hs1 : ({ s with left := s.left.eraseIdx (pickV ns (at_ + 1 + 6 * i) s.left.length).toNat } : Gr) = s1 at st1 st2
      have en : s1.nodes = s.nodes := by rw [← hs1]
      have ef : s1.fold = s.fold := by rw [← hs1]
      have el : s1.left = s.left.eraseIdx (pickV ns (at_ + 1 + 6 * i) s.left.length).toNat := by rw [← hs1]
      generalize hnum : s.left.getD (pickV ns (at_ + 1 + 6 * i) s.left.length).toNat 0 = num at st1
      generalize hpar : s.fold.getD (pickV ns (at_ + 2 + 6 * i) s.fold.length).toNat 0 = par at st2
      -- name
      have st3 : ∀ z y : Slot, sSet 9 (e2 D.idx (eLst [(eC (.str [97])), (eC (.str [98])), (eC (.str [99])), (eC (.str [97, 98, 99, 100, 101]))]) (eCall M.m_pick_L [(eB 0), (e2 D.add (e2 D.add (eB 1) (eC (.int 3))) (e2 D.mul (eC (.int 6)) (eB 6))), (eC (.int 4))])) (eAt S at_ most s1 (.sh (.int (0 + (i : Int)))) z y d e f) =
          .nx (eAt S at_ most s1 (.sh (.int (0 + (i : Int)))) z y (.sh (.str (dName (pickV ns (at_ + 3 + 6 * i) 4)))) e f) := fun z y => by
        refine set_ok ?_
        refine (congrArg (fun r => Res.bind r fun y => D.idx (.lst [.str [97], .str [98], .str [99], .str [97, 98, 99, 100, 101]]) y) (pick_at h 3 (many := 4) rfl (by decide))).trans ?_
        exact idx_name b3
      have gnm := dName_good (pickV ns (at_ + 3 + 6 * i) 4)
      -- stamp
      have st5 : ∀ z y x : Slot, sIf (tE (e2 D.gtI (eCall M.m_pick_L [(eB 0), (e2 D.add (e2 D.add (eB 1) (eC (.int 4))) (e2 D.mul (eC (.int 6)) (eB 6))), (eC (.int 5))]) (eC (.int 1)))) (sSet 10 (e2 D.idx (eLst [(eC (.int 0)), (eC (.int 1)), (eC (.int 2)), (eC (.int 999))]) (eCall M.m_pick_L [(eB 0), (e2 D.add (e2 D.add (eB 1) (eC (.int 5))) (e2 D.mul (eC (.int 6)) (eB 6))), (eC (.int 4))]))) sNil (eAt S at_ most s1 (.sh (.int (0 + (i : Int)))) z y x (.sh .non) f) =
          .nx (eAt S at_ most s1 (.sh (.int (0 + (i : Int)))) z y x (.sh (stD (if 1 < pickV ns (at_ + 4 + 6 * i) 5 then some (dStamp (pickV ns (at_ + 5 + 6 * i) 4)) else none))) f) := fun z y x => by
        have ht : tE (e2 D.gtI (eCall M.m_pick_L [(eB 0), (e2 D.add (e2 D.add (eB 1) (eC (.int 4))) (e2 D.mul (eC (.int 6)) (eB 6))), (eC (.int 5))]) (eC (.int 1))) (eAt S at_ most s1 (.sh (.int (0 + (i : Int)))) z y x (.sh .non) f) = .ok (decide (1 < pickV ns (at_ + 4 + 6 * i) 5)) :=
          (congrArg (fun r => Res.bind (Res.bind r fun y => D.gtI y (.int 1)) D.asB) (pick_at h 4 (many := 5) rfl (by decide))).trans rfl
        by_cases q : 1 < pickV ns (at_ + 4 + 6 * i) 5
        · rw [decide_eq_true q] at ht
          refine if_t ht ?_
          rw [if_pos q]
          refine set_ok ?_
          refine (congrArg (fun r => Res.bind r fun y => D.idx (.lst [.int 0, .int 1, .int 2, .int 999]) y) (pick_at h 5 (many := 4) rfl (by decide))).trans ?_
          exact idx_stamp b5
        · rw [decide_eq_false q] at ht
          refine if_f ht ?_
          rw [if_neg q]
          rfl
      refine (fun hb => let ⟨a', b', c', d', e', f', hb⟩ := hb; ⟨a', b', c', d', e', f', seq_nx st1 (seq_nx (st2 _) (seq_nx (st3 _ _) (seq_nx (e1 := eAt S at_ most s1 (.sh (.int (0 + (i : Int)))) _ _ _ (.sh .non) f) (set_ok rfl) (seq_nx (st5 _ _ _) hb))))⟩ : (∃ a' b' c' d' e' f', _ = RS.nx (eAt S at_ most (gStep ns at_ s i) a' b' c' d' e' f')) → _) ?_
      unfold gStep
      simp only [hnum, hpar, ← el]
      generalize dName (pickV ns (at_ + 3 + 6 * i) 4) = name at gnm ⊢
      generalize (if 1 < pickV ns (at_ + 4 + 6 * i) 5 then some (dStamp (pickV ns (at_ + 5 + 6 * i) 4)) else none) = st
      have hin : tE (e2 D.notIn (eTup [(eV 8), (eV 9)]) (eComp (iE (eB 5)) [11] (gN 11) tTrue (eSl (eB 11) (some (eC (.int 1))) (some (eC (.int 3)))))) (eAt S at_ most s1 (.sh (.int (0 + (i : Int)))) (.sh (.int num)) (.sh (.int par)) (.sh (.str name)) (.sh (stD st)) f) = .ok (!decide ((par, name) ∈ spots s.nodes)) := by
        have hcs := comp_spots (S := S) (at_ := at_) (most := most) (s := s1) (a := .sh (.int (0 + (i : Int)))) (b := .sh (.int num)) (c := .sh (.int par)) (d := .sh (.str name)) (e := .sh (stD st)) (f := f) (by rw [en]; exact hnl)
        refine (congrArg (fun r => Res.bind (Res.bind r fun y => D.notIn (.tup [.int par, .str name]) y) D.asB) hcs).trans ?_
        simp only [Res.bind_ok]
        rw [en, spot_in g1 gnm]
        rfl
      by_cases q : (par, name) ∈ spots s.nodes
      · rw [decide_eq_true q] at hin
        rw [if_pos q]
        refine ⟨.sh (.int (0 + (i : Int))), .sh (.int num), .sh (.int par), .sh (.str name), .sh (stD st), f, if_f hin ?_⟩
        show RS.nx _ = RS.nx _
        simp only [eAt, en, ef]
      · rw [decide_eq_false q] at hin
        rw [if_neg q]
        refine ⟨.sh (.int (0 + (i : Int))), .sh (.int num), .sh (.int par), .sh (.str name), .sh (stD st), f, if_t hin (seq_nx (app_ok (xs := s1.nodes.map Nd.enc) rfl (d := Nd.enc ⟨num, par, name, st⟩) rfl (small_szl (by simp [en]; omega))) ?_)⟩
        cases st with
        | none =>
          refine if_t rfl ?_
          refine (app_ok (xs := s1.fold.map D.int) rfl (d := .int num) rfl (small_szl (by simp [ef]; omega))).trans ?_
          simp [eAt, en, ef]
        | some v =>
          refine if_f rfl ?_
          simp [eAt, en, ef, sNil]
      ) ⟨_, _, _, _, _, _, rfl⟩
  obtain ⟨env', h1, a, b, c, d, e, f, he⟩ := loop
  rw [Nat.zero_add, List.length_map, List.length_range] at he
  subst he
  have it : iR1 (eCall M.m_pick_L [(eB 0), (eB 1), (e2 D.add (eB 2) (eC (.int 1)))]) (eAt S at_ most (gAt ns at_ most 0) .un .un .un .un .un .un) = .ok ((List.range (count ns at_ most)).map fun (k : Nat) => D.int (0 + (k : Int))) :=
    (congrArg (fun r => Res.bind r rng1) (call_ok (ds := [S, .int at_, .int ((most : Int) + 1)]) (eL_cons rfl (eL_cons rfl (eL_cons rfl eL_nil))) p0)).trans r2
  refine seq_nx (for_go it h1) (ret_ok ?_)
  have I := drawn_inv ns at_ most
  have eg : gAt ns at_ most (count ns at_ most) = drawnG ns at_ most := rfl
  rw [eg]
  have hs := sortable_enc I.grown.good I.grown.nodup.1
  have hl : ((drawnG ns at_ most).nodes.map Nd.enc).length ≤ szl := Nat.le_of_lt (small_szl (by have := I.few; have := count_le ns at_ most; simp; omega))
  have e5 : D.sorted (.lst ((drawnG ns at_ most).nodes.map Nd.enc)) = .ok (.lst ((drawn ns at_ most).map Nd.enc)) := by
    unfold D.sorted
    simp only
    rw [hs, decide_eq_true hl, sortD_enc I.grown.nodup.1]
    rfl
  exact congrArg (fun r => Res.bind r D.toTup) e5
end Tw

set_option autoImplicit false
set_option linter.all false
/-! Tw, plain: is_tree. -/
namespace Tw
def isWh : D → Bool
  | .int _ => true
  | _ => false
def isNm : D → Bool
  | .str s => goodName s
  | _ => false
def isSt : D → Bool
  | .non => true
  | .int i => decide (0 ≤ i) && decide (i ≤ 999)
  | _ => false
/-- what is_node may be asked of -/
def smp : D → Bool
  | .dct _ _ => false
  | .exc _ => false
  | .inp _ => false
  | .str s => decide (s.length ≤ 100)
  | _ => true
def smp2 : D → Bool
  | .tup xs => xs.all smp && decide (xs.length ≤ 100)
  | d => smp d
def intOf : D → Int
  | .int i => i
  | _ => 0
def isNd : D → Bool
  | .tup [a, b, c, e] => isWh a && decide (1 ≤ intOf a) && isWh b && decide (0 ≤ intOf b) && isNm c && isSt e
  | _ => false
theorem and_f {a b : E} {e : Env} (h : a e = .ok (.bl false)) : eAnd a b e = .ok (.bl false) := by unfold eAnd; rw [h]; rfl
theorem and_t {a b : E} {e : Env} {r : Res D} (h : a e = .ok (.bl true)) (h2 : b e = r) : eAnd a b e = r := by unfold eAnd; rw [h]; exact h2
theorem or_f {a b : E} {e : Env} {r : Res D} (h : a e = .ok (.bl false)) (h2 : b e = r) : eOr a b e = r := by unfold eOr; rw [h]; exact h2
theorem or_t {a b : E} {e : Env} (h : a e = .ok (.bl true)) : eOr a b e = .ok (.bl true) := by unfold eOr; rw [h]; rfl
theorem and_b {a b : E} {e : Env} {x y : Bool} (h : a e = .ok (.bl x)) (h2 : x = true → b e = .ok (.bl y)) : eAnd a b e = .ok (.bl (x && y)) := by
  cases x with
  | true => exact and_t h (h2 rfl)
  | false => exact and_f h
theorem tor_b {a b : T} {e : Env} {x y : Bool} (h : a e = .ok x) (h2 : x = false → b e = .ok y) : tOr a b e = .ok (x || y) := by
  unfold tOr; rw [h]
  cases x with
  | true => rfl
  | false => exact h2 rfl
theorem tand_b {a b : T} {e : Env} {x y : Bool} (h : a e = .ok x) (h2 : x = true → b e = .ok y) : tAnd a b e = .ok (x && y) := by
  unfold tAnd; rw [h]
  cases x with
  | true => exact h2 rfl
  | false => rfl
theorem tnot_b {a : T} {e : Env} {x : Bool} (h : a e = .ok x) : tNot a e = .ok (!x) := by unfold tNot; rw [h]; rfl
theorem te_b {a : E} {e : Env} {x : Bool} (h : a e = .ok (.bl x)) : tE a e = .ok x := by unfold tE; rw [h]; rfl
theorem whole_ok {d : D} (h : smp d = true) : M.m_is_whole [d] = .ok (.bl (isWh d)) := by
  refine runD_rt (a := M.b_is_whole) rfl (ret_ok ?_)
  cases d <;> first | rfl | (simp [smp] at h)
theorem small_in (c : Nat) : D.isIn (.str [c]) (.str [97, 98, 99, 100, 101, 102, 103, 104, 105, 106, 107, 108, 109, 110, 111, 112, 113, 114, 115, 116, 117, 118, 119, 120, 121, 122]) = .ok (.bl (decide (97 ≤ c) && decide (c ≤ 122))) := by
  have e : decide (c ∈ [97, 98, 99, 100, 101, 102, 103, 104, 105, 106, 107, 108, 109, 110, 111, 112, 113, 114, 115, 116, 117, 118, 119, 120, 121, 122]) = (decide (97 ≤ c) && decide (c ≤ 122)) := by
    rw [← Bool.decide_and]
    refine decide_eq_decide.mpr ?_
    simp only [List.mem_cons, List.not_mem_nil, or_false]
    omega
  show Res.ok (D.bl (decide _)) = _
  rw [e]
theorem name_ok' {d : D} (h : smp d = true) : M.m_is_name [d] = .ok (.bl (isNm d)) := by
  refine runD_rt (a := M.b_is_name) rfl (ret_ok ?_)
  cases d with
  | str s =>
    simp only [smp, decide_eq_true_eq] at h
    have hl : D.len (.str s) = .ok (.int s.length) := by
      unfold D.len
      simp only
      rw [if_pos (Nat.le_of_lt (small_szl (by omega)))]
    have hch : eCh D.leI D.leI (eC (.int 1)) (e1 D.len (eB 0)) (eC (.int 5)) [.bor (.str s), .un] = .ok (.bl (decide (1 ≤ s.length) && decide (s.length ≤ 5))) := by
      show ((Res.ok (D.int 1)).bind fun x => (D.len (.str s)).bind fun y => (D.leI x y).bind fun z => z.asB.bind fun k => if k then (Res.ok (D.int 5)).bind fun u => D.leI y u else .ok (.bl false)) = _
      rw [hl]
      simp only [Res.bind_ok, D.leI, D.cmp, D.asB]
      by_cases q : 1 ≤ s.length
      · have q' : (1 : Int) ≤ (s.length : Int) := by omega
        rw [decide_eq_true q, decide_eq_true q']
        simp only [if_true, Bool.true_and]
        by_cases r : s.length ≤ 5
        · rw [decide_eq_true r, decide_eq_true (by omega)]
        · rw [decide_eq_false r, decide_eq_false (by omega)]
      · rw [decide_eq_false q, decide_eq_false (by omega)]
        simp
    have hco : e1 D.all (eComp (iE (eB 0)) [1] (gN 1) tTrue (e2 D.isIn (eB 1) (eC (.str [97, 98, 99, 100, 101, 102, 103, 104, 105, 106, 107, 108, 109, 110, 111, 112, 113, 114, 115, 116, 117, 118, 119, 120, 121, 122])))) [.bor (.str s), .un] = .ok (.bl (s.all fun c => decide (97 ≤ c) && decide (c ≤ 122))) := by
      have c1 : eComp (iE (eB 0)) [1] (gN 1) tTrue (e2 D.isIn (eB 1) (eC (.str [97, 98, 99, 100, 101, 102, 103, 104, 105, 106, 107, 108, 109, 110, 111, 112, 113, 114, 115, 116, 117, 118, 119, 120, 121, 122]))) [.bor (.str s), .un] = .ok (.lst (s.map fun c => .bl (decide (97 ≤ c) && decide (c ≤ 122)))) := by
        refine ecomp_ok (xs := s.map fun c => .str [c]) rfl (small_szl (by simp; omega)) ?_
        refine compGo_map fun c _ => ?_
        exact (congrArg (fun r => Res.bind r fun y => Res.ok (some y)) (small_in c)).trans rfl
      refine (congrArg (fun r => Res.bind r D.all) c1).trans ?_
      simp [D.all, bools_map, List.all_map]
    refine (and_t rfl (and_b hch fun _ => hco)).trans ?_
    simp [isNm, goodName]
  | _ => first | rfl | (simp [smp] at h)
theorem stamp_ok {d : D} (h : smp d = true) : M.m_is_stamp [d] = .ok (.bl (isSt d)) := by
  refine runD_rt (a := M.b_is_stamp) rfl (ret_ok ?_)
  cases d with
  | non => rfl
  | int i =>
    refine or_f rfl (and_t (call_ok (eL_cons rfl eL_nil) (whole_ok rfl)) ?_)
    show ((D.leI (.int 0) (.int i)).bind fun z => z.asB.bind fun k => if k then D.leI (.int i) (.int 999) else .ok (.bl false)) = _
    simp only [D.leI, D.cmp, Res.bind_ok, D.asB, isSt]
    by_cases q : 0 ≤ i <;> simp [q]
  | dct _ _ => simp [smp] at h
  | exc _ => simp [smp] at h
  | inp _ => simp [smp] at h
  | bl b => rfl
  | str s => exact or_f rfl (and_f (call_ok (eL_cons rfl eL_nil) (whole_ok h)))
  | lst xs => exact or_f rfl (and_f (call_ok (eL_cons rfl eL_nil) (whole_ok h)))
  | tup xs => exact or_f rfl (and_f (call_ok (eL_cons rfl eL_nil) (whole_ok h)))
theorem tor_t {a b : T} {e : Env} (h : a e = .ok true) : tOr a b e = .ok true := by unfold tOr; rw [h]; rfl
theorem tor_f {a b : T} {e : Env} {r : Res Bool} (h : a e = .ok false) (h2 : b e = r) : tOr a b e = r := by unfold tOr; rw [h]; exact h2
theorem ne_len {n : Int} {m : Nat} : D.ne (.int (m : Int)) (.int n) = .ok (.bl (!decide ((m : Int) = n))) := by
  show Res.ok (D.bl (!((m : Int) == n))) = _
  by_cases h : (m : Int) = n <;> simp [h]
theorem node_ok {d : D} (h : smp2 d = true) : M.m_is_node [d] = .ok (.bl (isNd d)) := by
  refine runD_rt (a := M.b_is_node) rfl ?_
  have no : ∀ (hd : D.isa .tup d = .ok (.bl false)) (hn : isNd d = false), M.b_is_node [.bor d] = .rt (.bl (isNd d)) := fun hd hn => by
    refine seq_rt (if_t (tor_t (tnot_b (x := false) (te_b hd))) (ret_ok ?_))
    rw [hn]
    rfl
  cases d with
  | tup xs =>
    simp only [smp2, Bool.and_eq_true, decide_eq_true_eq] at h
    obtain ⟨hs, hl⟩ := h
    have hs' : ∀ x ∈ xs, smp x = true := by simpa using hs
    by_cases h4 : xs.length = 4
    · obtain ⟨a, b, c, e, rfl⟩ : ∃ a b c e, xs = [a, b, c, e] := by
        match xs, h4 with
        | [a, b, c, e], _ => exact ⟨a, b, c, e, rfl⟩
      have sa := hs' a (by simp)
      have sb := hs' b (by simp)
      have sc := hs' c (by simp)
      have se := hs' e (by simp)
      have w1 : eCall M.m_is_whole [(e2 D.idx (eB 0) (eC (.int 0)))] [.bor (.tup [a, b, c, e])] = .ok (.bl (isWh a)) := call_ok (ds := [a]) (eL_cons rfl eL_nil) (whole_ok sa)
      have w2 : eCall M.m_is_whole [(e2 D.idx (eB 0) (eC (.int 1)))] [.bor (.tup [a, b, c, e])] = .ok (.bl (isWh b)) := call_ok (ds := [b]) (eL_cons rfl eL_nil) (whole_ok sb)
      have w3 : eCall M.m_is_name [(e2 D.idx (eB 0) (eC (.int 2)))] [.bor (.tup [a, b, c, e])] = .ok (.bl (isNm c)) := call_ok (ds := [c]) (eL_cons rfl eL_nil) (name_ok' sc)
      have w4 : eCall M.m_is_stamp [(e2 D.idx (eB 0) (eC (.int 3)))] [.bor (.tup [a, b, c, e])] = .ok (.bl (isSt e)) := call_ok (ds := [e]) (eL_cons rfl eL_nil) (stamp_ok se)
      cases qa : isWh a with
      | false =>
        rw [qa] at w1
        refine seq_rt (if_t (tor_f (tnot_b (x := true) (te_b rfl)) (tor_f rfl (tor_t (tnot_b (x := false) (te_b w1))))) (ret_ok ?_))
        simp [isNd, qa]
        rfl
      | true =>
        rw [qa] at w1
        obtain ⟨i, rfl⟩ : ∃ i, a = .int i := by cases a <;> simp [isWh] at qa; exact ⟨_, rfl⟩
        have lt : tE (e2 D.ltI (e2 D.idx (eB 0) (eC (.int 0))) (eC (.int 1))) [.bor (.tup [.int i, b, c, e])] = .ok (decide (i < 1)) := rfl
        by_cases q1 : i < 1
        · rw [decide_eq_true q1] at lt
          refine seq_rt (if_t (tor_f (tnot_b (x := true) (te_b rfl)) (tor_f rfl (tor_f (tnot_b (x := true) (te_b w1)) lt))) (ret_ok ?_))
          have : ¬ 1 ≤ i := by omega
          simp [isNd, isWh, intOf, this]
          rfl
        · rw [decide_eq_false q1] at lt
          refine seq_nx (if_f (tor_f (tnot_b (x := true) (te_b rfl)) (tor_f rfl (tor_f (tnot_b (x := true) (te_b w1)) lt))) rfl) (ret_ok ?_)
          have g : 1 ≤ i := by omega
          refine (and_b (y := decide (0 ≤ intOf b) && (isNm c && isSt e)) w2 fun qb => ?_).trans (by simp [isNd, isWh, intOf, g, Bool.and_assoc])
          obtain ⟨j, rfl⟩ : ∃ j, b = .int j := by cases b <;> simp [isWh] at qb; exact ⟨_, rfl⟩
          exact and_b rfl fun _ => and_b w3 fun _ => w4
    · have hne : tE (e2 D.ne (e1 D.len (eB 0)) (eC (.int 4))) [.bor (.tup xs)] = .ok true := by
        refine te_b ?_
        show D.ne (.int (xs.length : Int)) (.int 4) = _
        rw [ne_len, decide_eq_false (by omega)]
        rfl
      refine seq_rt (if_t (tor_f (tnot_b (x := true) (te_b rfl)) (tor_t hne)) (ret_ok ?_))
      have : isNd (.tup xs) = false := by
        match xs, h4 with
        | [], _ => rfl
        | [_], _ => rfl
        | [_, _], _ => rfl
        | [_, _, _], _ => rfl
        | [_, _, _, _], h4 => exact absurd rfl h4
        | _ :: _ :: _ :: _ :: _ :: _, _ => rfl
      rw [this]
      rfl
  | dct _ _ => simp [smp2, smp] at h
  | exc _ => simp [smp2, smp] at h
  | inp _ => simp [smp2, smp] at h
  | _ => exact no rfl rfl
theorem nodes_all {e : Env} {xs : List D} (h0 : e[0]? = some (.bor (.tup xs))) (hw : blkE [1] e = [.bor (.tup xs), .un] ++ e.drop 2) (hl : xs.length ≤ 1000) (h : ∀ x ∈ xs, smp2 x = true) : e1 D.all (eComp (iE (eB 0)) [1] (gN 1) tTrue (eCall M.m_is_node [(eB 1)])) e = .ok (.bl (xs.all isNd)) := by
  have c1 : eComp (iE (eB 0)) [1] (gN 1) tTrue (eCall M.m_is_node [(eB 1)]) e = .ok (.lst (xs.map fun d => .bl (isNd d))) := by
    refine ecomp_ok (xs := xs) ?_ (small_szl (by omega)) ?_
    · show (eB 0 e).bind D.items = _
      unfold eB
      rw [h0]
      rfl
    · refine compGo_id (g := fun d => .bl (isNd d)) fun d m => ?_
      unfold compTurn
      rw [hw]
      refine (congrArg (fun r => Res.bind r fun y => Res.ok (some y)) (call_ok (ds := [d]) (eL_cons rfl eL_nil) (node_ok (h d m)))).trans rfl
  refine (congrArg (fun r => Res.bind r D.all) c1).trans ?_
  simp [D.all, bools_map, List.all_map]
/-- what is no tuple of nodes is no tree -/
theorem no_tree {d : D} (h : D.isa .tup d = .ok (.bl false)) : M.m_is_tree [d] = .ok (.bl false) := by
  refine runD_rt (a := M.b_is_tree) rfl ?_
  exact seq_rt (if_t (tor_t (tnot_b (x := false) (te_b h))) (ret_ok rfl))
theorem bad_tree {xs : List D} (hl : xs.length ≤ 1000) (h : ∀ x ∈ xs, smp2 x = true) (hb : xs.all isNd = false) : M.m_is_tree [.tup xs] = .ok (.bl false) := by
  refine runD_rt (a := M.b_is_tree) rfl ?_
  have := nodes_all (e := [.bor (.tup xs), .un, .un, .un, .un, .un]) rfl rfl hl h
  rw [hb] at this
  exact seq_rt (if_t (tor_f (tnot_b (x := true) (te_b rfl)) (tnot_b (x := false) (te_b this))) (ret_ok rfl))
end Tw

set_option autoImplicit false
set_option linter.all false
/-! Tw, plain: is_tree of nodes; books. -/
namespace Tw
def look (T : List Nd) (n : Int) : Option Nd := T.find? fun x => decide (x.n = n)
def bookOf (T : List Nd) : List (Ky × D) := T.map fun x => (.int x.n, x.row)
theorem kget_book (n : Int) : ∀ T : List Nd, kget (.int n) (bookOf T) = (look T n).map Nd.row
  | [] => rfl
  | x :: T => by
    show (if Ky.int x.n = Ky.int n then some x.row else kget (.int n) (bookOf T)) = _
    unfold look
    rw [List.find?_cons]
    by_cases h : x.n = n
    · simp [h]
    · have := kget_book n T
      unfold look at this
      simp [h, this]
theorem kmerge_new : ∀ (ps : List (Ky × D)) (acc : List (Ky × D)), (∀ p ∈ ps, khas p.1 acc = false) → (ps.map (·.1)).Nodup → kmerge acc ps = acc ++ ps
  | [], acc, _, _ => by simp [kmerge]
  | (k, v) :: ps, acc, h, nd => by
    obtain ⟨n1, n2⟩ := List.nodup_cons.mp nd
    have e : kput k v acc = acc ++ [(k, v)] := by
      unfold kput
      rw [h (k, v) List.mem_cons_self]
      rfl
    unfold kmerge
    rw [List.foldl_cons]
    show kmerge (kput k v acc) ps = _
    rw [e, kmerge_new ps _ (fun p m => ?_) n2, List.append_assoc]
    · rfl
    · have h2 := h p (List.mem_cons_of_mem _ m)
      have ne : k ≠ p.1 := fun z => n1 (by rw [z]; exact List.mem_map.mpr ⟨p, m, rfl⟩)
      unfold khas at *
      have key : ∀ l : List (Ky × D), (kget p.1 l).isSome = false → (kget p.1 (l ++ [(k, v)])).isSome = false := by
        intro l
        induction l with
        | nil => intro _; simp [kget, ne]
        | cons q l ih =>
          intro hq
          obtain ⟨q1, q2⟩ := q
          simp only [List.cons_append, kget] at hq ⊢
          by_cases z : q1 = p.1
          · rw [if_pos z] at hq; simp at hq
          · rw [if_neg z] at hq ⊢
            exact ih hq
      exact key acc h2
theorem cut1 (x : Nd) : D.cut (some 1) none x.enc = .ok x.row := rfl
theorem book_ok {T : List Nd} (nd : (nums T).Nodup) (hl : T.length ≤ 1000) : M.m_book_of [encT T] = .ok (.dct false (bookOf T)) := by
  refine runD_rt (a := M.b_book_of) rfl (ret_ok ?_)
  have c1 : eComp (iE (eB 0)) [1] (gN 1) tTrue (eTup [(e2 D.idx (eB 1) (eC (.int 0))), (eSl (eB 1) (some (eC (.int 1))) none)]) [.bor (encT T), .un] = .ok (.lst (T.map fun x => .tup [.int x.n, x.row])) := by
    refine ecomp_ok (xs := T.map Nd.enc) rfl (small_szl (by simp; omega)) ?_
    exact compGo_map fun x _ => rfl
  refine (congrArg (fun r => Res.bind r D.dictK) c1).trans ?_
  have p1 : pairs? (T.map fun x : Nd => D.tup [.int x.n, x.row]) = some (bookOf T) := by
    unfold bookOf
    generalize T = U
    induction U with
    | nil => rfl
    | cons x U ih => simp [pairs?, pair?, D.key?, ih]
  have p2 : (bookOf T).all (fun p => !p.1.isTup) = true := by simp [bookOf, Ky.isTup]
  have p3 : kmerge [] (bookOf T) = bookOf T := by
    rw [kmerge_new _ _ (fun p _ => rfl)]
    · rfl
    · unfold bookOf
      rw [List.map_map]
      exact List.pairwise_map.mpr ((List.pairwise_map.mp nd).imp fun h e => h (by simpa using e))
  simp only [Res.bind_ok, D.dictK, p1, p2, if_true, p3]

/-! ### comes_up -/
def upsR (T : List Nd) : Nat → Int → Option Bool
  | 0, _ => none
  | k + 1, n => match look T n with
    | none => none
    | some x => if x.p = 0 then some true else match look T x.p with
      | none => some false
      | some y => if y.st.isSome then some false else upsR T k x.p
theorem idx_book {T : List Nd} {n : Int} {x : Nd} (h : look T n = some x) : D.idx (.dct false (bookOf T)) (.int n) = .ok x.row := by
  show Res.ofOpt (kget (.int n) (bookOf T)) = _
  rw [kget_book, h]
  rfl
theorem in_book {T : List Nd} {n : Int} : D.notIn (.int n) (.dct false (bookOf T)) = .ok (.bl (!(look T n).isSome)) := by
  show ((Res.ofOpt (some (khas (.int n) (bookOf T)))).bind fun b => Res.ok (D.bl (!b))) = _
  unfold khas
  rw [kget_book]
  cases look T n <;> rfl
theorem if_nx {t : T} {a b : S} {e e' : Env} {r : RS} (h : t e = .ok false) (h2 : b e = .nx e') (h3 : RS.nx e' = r) : sIf t a b e = r := (if_f h h2).trans h3
theorem up_loop {T : List Nd} {n : Slot} : ∀ (xs : List D) (here : Int) (s : Slot), (look T here).isSome = true →
    match upsR T xs.length here with
    | some b => forGo (gN 3) (sSeq (sSet 2 (e2 D.idx (e2 D.idx (eB 0) (eB 2)) (eC (.int 0)))) (sSeq (sIf (tE (e2 D.eq (eB 2) (eC (.int 0)))) (sRet (eC (.bl true))) sNil) (sIf (tOr (tE (e2 D.notIn (eB 2) (eB 0))) (tE (e1 D.notN (e2 D.idx (e2 D.idx (eB 0) (eB 2)) (eC (.int 2)))))) (sRet (eC (.bl false))) sNil))) xs [.bor (.dct false (bookOf T)), n, .sh (.int here), s] = .rt (.bl b)
    | none => ∃ env', forGo (gN 3) (sSeq (sSet 2 (e2 D.idx (e2 D.idx (eB 0) (eB 2)) (eC (.int 0)))) (sSeq (sIf (tE (e2 D.eq (eB 2) (eC (.int 0)))) (sRet (eC (.bl true))) sNil) (sIf (tOr (tE (e2 D.notIn (eB 2) (eB 0))) (tE (e1 D.notN (e2 D.idx (e2 D.idx (eB 0) (eB 2)) (eC (.int 2)))))) (sRet (eC (.bl false))) sNil))) xs [.bor (.dct false (bookOf T)), n, .sh (.int here), s] = .nx env'
  | [], here, s, _ => ⟨_, rfl⟩
  | x :: xs, here, s, hh => by
    obtain ⟨nd, hn⟩ := Option.isSome_iff_exists.mp hh
    have st1 : sSet 2 (e2 D.idx (e2 D.idx (eB 0) (eB 2)) (eC (.int 0))) [.bor (.dct false (bookOf T)), n, .sh (.int here), .sh x] = .nx [.bor (.dct false (bookOf T)), n, .sh (.int nd.p), .sh x] := by
      refine set_ok (d := .int nd.p) ?_
      refine (congrArg (fun r => Res.bind r fun y => D.idx y (.int 0)) (idx_book hn)).trans ?_
      rfl
    have ht : tE (e2 D.eq (eB 2) (eC (.int 0))) [.bor (.dct false (bookOf T)), n, .sh (.int nd.p), .sh x] = .ok (decide (nd.p = 0)) := by
      show Res.ok (nd.p == 0) = _
      by_cases q : nd.p = 0 <;> simp [q]
    simp only [List.length_cons, upsR, hn]
    have turn : ∀ {r : RS}, (sSeq (sSet 2 (e2 D.idx (e2 D.idx (eB 0) (eB 2)) (eC (.int 0)))) (sSeq (sIf (tE (e2 D.eq (eB 2) (eC (.int 0)))) (sRet (eC (.bl true))) sNil) (sIf (tOr (tE (e2 D.notIn (eB 2) (eB 0))) (tE (e1 D.notN (e2 D.idx (e2 D.idx (eB 0) (eB 2)) (eC (.int 2)))))) (sRet (eC (.bl false))) sNil))) [.bor (.dct false (bookOf T)), n, .sh (.int here), .sh x] = r →
        forGo (gN 3) (sSeq (sSet 2 (e2 D.idx (e2 D.idx (eB 0) (eB 2)) (eC (.int 0)))) (sSeq (sIf (tE (e2 D.eq (eB 2) (eC (.int 0)))) (sRet (eC (.bl true))) sNil) (sIf (tOr (tE (e2 D.notIn (eB 2) (eB 0))) (tE (e1 D.notN (e2 D.idx (e2 D.idx (eB 0) (eB 2)) (eC (.int 2)))))) (sRet (eC (.bl false))) sNil))) (x :: xs) [.bor (.dct false (bookOf T)), n, .sh (.int here), s] = (match r with
          | .nx e2' => forGo (gN 3) (sSeq (sSet 2 (e2 D.idx (e2 D.idx (eB 0) (eB 2)) (eC (.int 0)))) (sSeq (sIf (tE (e2 D.eq (eB 2) (eC (.int 0)))) (sRet (eC (.bl true))) sNil) (sIf (tOr (tE (e2 D.notIn (eB 2) (eB 0))) (tE (e1 D.notN (e2 D.idx (e2 D.idx (eB 0) (eB 2)) (eC (.int 2)))))) (sRet (eC (.bl false))) sNil))) xs e2'
          | .ct e2' => forGo (gN 3) (sSeq (sSet 2 (e2 D.idx (e2 D.idx (eB 0) (eB 2)) (eC (.int 0)))) (sSeq (sIf (tE (e2 D.eq (eB 2) (eC (.int 0)))) (sRet (eC (.bl true))) sNil) (sIf (tOr (tE (e2 D.notIn (eB 2) (eB 0))) (tE (e1 D.notN (e2 D.idx (e2 D.idx (eB 0) (eB 2)) (eC (.int 2)))))) (sRet (eC (.bl false))) sNil))) xs e2'
          | .bk e2' => .nx e2'
          | q => q) := fun {r} h => by rw [← h]; rfl
    by_cases q : nd.p = 0
    · rw [if_pos q]
      rw [decide_eq_true q] at ht
      exact turn (seq_nx st1 (seq_rt (if_t ht (ret_ok rfl))))
    · rw [if_neg q]
      rw [decide_eq_false q] at ht
      have hno : tE (e2 D.notIn (eB 2) (eB 0)) [.bor (.dct false (bookOf T)), n, .sh (.int nd.p), .sh x] = .ok (!(look T nd.p).isSome) := te_b in_book
      cases hy : look T nd.p with
      | none =>
        rw [hy] at hno
        exact turn (seq_nx st1 (seq_nx (if_f ht rfl) (if_t (tor_t hno) (ret_ok rfl))))
      | some y =>
        rw [hy] at hno
        have hst : tE (e1 D.notN (e2 D.idx (e2 D.idx (eB 0) (eB 2)) (eC (.int 2)))) [.bor (.dct false (bookOf T)), n, .sh (.int nd.p), .sh x] = .ok y.st.isSome := by
          refine te_b ?_
          refine (congrArg (fun r => Res.bind (Res.bind r fun y => D.idx y (.int 2)) D.notN) (idx_book hy)).trans ?_
          show D.notN (stD y.st) = _
          cases y.st <;> rfl
        simp only
        cases hz : y.st.isSome with
        | true =>
          rw [hz] at hst
          exact turn (seq_nx st1 (seq_nx (if_f ht rfl) (if_t (tor_f hno hst) (ret_ok rfl))))
        | false =>
          rw [hz] at hst
          have ih := up_loop (T := T) (n := n) xs nd.p (.sh x) (by rw [hy]; rfl)
          have tn := turn (seq_nx st1 (seq_nx (if_f ht rfl) (if_f (tor_f hno hst) rfl)))
          simp only [Bool.false_eq_true, if_false]
          cases hu : upsR T xs.length nd.p with
          | some b => rw [hu] at ih; exact tn.trans ih
          | none => rw [hu] at ih; obtain ⟨env', h⟩ := ih; exact ⟨env', tn.trans h⟩
def ups (T : List Nd) (n : Int) : Bool := (upsR T T.length n).getD false
theorem len_book {T : List Nd} {r : Env} : e1 D.len (eB 0) (.bor (.dct false (bookOf T)) :: r) = .ok (.int ((bookOf T).length : Int)) := rfl
theorem rng_book {T : List Nd} (hl : T.length ≤ 1000) : rng1 (.int ((bookOf T).length : Int)) = .ok ((List.range T.length).map fun (k : Nat) => D.int (0 + (k : Int))) := by
  rw [rng_count (by simp [bookOf]; omega)]
  simp [bookOf]
theorem up_ok {T : List Nd} {n : Int} (h : (look T n).isSome = true) (hl : T.length ≤ 1000) : M.m_comes_up [.dct false (bookOf T), .int n] = .ok (.bl (ups T n)) := by
  refine runD_rt (a := M.b_comes_up) rfl ?_
  refine seq_nx (e1 := [.bor (.dct false (bookOf T)), .sh (.int n), .sh (.int n), .un]) (set_ok rfl) ?_
  have hr : iR1 (e1 D.len (eB 0)) [.bor (.dct false (bookOf T)), .sh (.int n), .sh (.int n), .un] = .ok ((List.range T.length).map fun (k : Nat) => D.int (0 + (k : Int))) := by
    exact bind_eq len_book (rng_book hl)
  have lp := up_loop (T := T) (n := .sh (.int n)) ((List.range T.length).map fun (k : Nat) => D.int (0 + (k : Int))) n .un h
  rw [List.length_map, List.length_range] at lp
  unfold ups
  cases hu : upsR T T.length n with
  | some b => rw [hu] at lp; exact seq_rt (for_go hr lp)
  | none => rw [hu] at lp; obtain ⟨env', lp⟩ := lp; exact seq_nx (for_go hr lp) (ret_ok rfl)
end Tw

set_option autoImplicit false
set_option linter.all false
/-! Tw, plain: is_tree of a tree. -/
namespace Tw
/-- a tree, of good nodes -/
def isTree (T : List Nd) : Bool := decide (nums T = setI (nums T)) && (decide ((spots T).Nodup) && T.all fun x => ups T x.n)
theorem smp_st (o : Option Int) : smp (stD o) = true := by cases o <;> rfl
theorem smp_enc {x : Nd} (h : x.good = true) : smp2 x.enc = true := by
  unfold Nd.good goodName at h
  simp only [Bool.and_eq_true, decide_eq_true_eq] at h
  simp only [smp2, Nd.enc, List.all_cons, List.all_nil, smp_st]
  simp [smp]
  omega
theorem nd_enc {x : Nd} (h : x.good = true) : isNd x.enc = true := by
  unfold Nd.good at h
  simp only [Bool.and_eq_true, decide_eq_true_eq] at h
  show (true && decide (1 ≤ x.n) && true && decide (0 ≤ x.p) && goodName x.nm && isSt (stD x.st)) = true
  rw [decide_eq_true h.1.1.1, decide_eq_true h.1.1.2, h.1.2]
  have := h.2
  cases hs : x.st with
  | none => rfl
  | some i => rw [hs] at this; exact this
theorem look_mem {T : List Nd} {x : Nd} (h : x ∈ T) : (look T x.n).isSome = true := by
  unfold look
  rw [List.find?_isSome]
  exact ⟨x, h, by simp⟩
theorem tups_spots : ∀ T : List Nd, tups? (T.map fun x => D.tup [.int x.p, .str x.nm]) = some (T.map fun x => [Sum.inl x.p, Sum.inr x.nm])
  | [] => rfl
  | x :: T => by simp [tups?, leaves?, leaf?, tups_spots T]
theorem nodup_spots (T : List Nd) : (T.map fun x => [(Sum.inl x.p : Int ⊕ Nm), Sum.inr x.nm]).Nodup ↔ (spots T).Nodup := by
  unfold spots List.Nodup
  rw [List.pairwise_map, List.pairwise_map]
  constructor <;> intro h <;> refine h.imp fun {a b} q e => q ?_
  · simpa using e
  · simpa using e
theorem lenSet_spots {T : List Nd} (hl : T.length < 64) : D.lenSet (.lst (T.map fun x => D.tup [.int x.p, .str x.nm])) = .ok (.int (nub (T.map fun x => [(Sum.inl x.p : Int ⊕ Nm), Sum.inr x.nm])).length) := by
  unfold D.lenSet
  simp only [tups_spots]
  rw [if_pos (by simpa using hl)]
theorem istree_ok {T : List Nd} (g : ∀ x ∈ T, x.good = true) (hl : T.length < 64) : M.m_is_tree [encT T] = .ok (.bl (isTree T)) := by
  refine runD_rt (a := M.b_is_tree) rfl ?_
  have hn := nodes_all (e := [.bor (encT T), .un, .un, .un, .un, .un]) (xs := T.map Nd.enc) rfl rfl (by simp; omega) (fun d m => by obtain ⟨x, hx, rfl⟩ := List.mem_map.mp m; exact smp_enc (g x hx))
  have ha : (T.map Nd.enc).all isNd = true := by
    rw [List.all_map, List.all_eq_true]
    exact fun x hx => nd_enc (g x hx)
  rw [ha] at hn
  refine seq_nx (if_f (tor_f (tnot_b (x := true) (te_b rfl)) (tnot_b (x := true) (te_b hn))) rfl) ?_
  have c1 : eComp (iE (eB 0)) [1] (gN 1) tTrue (e2 D.idx (eB 1) (eC (.int 0))) [.bor (encT T), .un, .un, .un, .un, .un] = .ok (.lst (T.map fun x => .int x.n)) := by
    refine ecomp_ok (xs := T.map Nd.enc) rfl (small_szl (by simp; omega)) ?_
    exact compGo_map fun x _ => rfl
  refine seq_nx (own_ok c1) (seq_nx (e1 := [.bor (encT T), .un, .sh (.lst (T.map fun x => .int x.n)), .un, .un, .un]) (frz_ok rfl) ?_)
  have en : (T.map fun x => D.int x.n) = (nums T).map D.int := by simp [nums]
  have ht : tE (e2 D.ne (eB 2) (e1 D.sortedSet (eB 2))) [.bor (encT T), .un, .sh (.lst (T.map fun x => .int x.n)), .un, .un, .un] = .ok (!decide (nums T = setI (nums T))) := by
    refine te_b ?_
    have s1 : D.sortedSet (.lst (T.map fun x => .int x.n)) = .ok (.lst ((setI (nums T)).map D.int)) := by
      unfold D.sortedSet
      simp only [ints_map]
      rw [if_pos (by simpa using hl)]
    refine bind_eq (x := .lst (T.map fun x => .int x.n)) rfl (bind_eq (bind_eq (x := .lst (T.map fun x => .int x.n)) rfl s1) ?_)
    rw [en]
    unfold D.ne
    have p1 : D.good (.lst ((nums T).map D.int)) = true := pl_ints _ 39
    have p2 : D.good (.lst ((setI (nums T)).map D.int)) = true := pl_ints _ 39
    rw [p1, p2]
    have p3 : D.eqv (.lst ((nums T).map D.int)) (.lst ((setI (nums T)).map D.int)) = decide (nums T = setI (nums T)) := eqvs_ints _ _
    rw [p3]
    rfl
  unfold isTree
  by_cases q : nums T = setI (nums T)
  · rw [decide_eq_true q] at ht ⊢
    refine seq_nx (if_f ht rfl) ?_
    have c2 : eComp (iE (eB 0)) [1] (gN 1) tTrue (eSl (eB 1) (some (eC (.int 1))) (some (eC (.int 3)))) [.bor (encT T), .un, .sh (.lst (T.map fun x => .int x.n)), .un, .un, .un] = .ok (.lst (T.map fun x => .tup [.int x.p, .str x.nm])) := by
      refine ecomp_ok (xs := T.map Nd.enc) rfl (small_szl (by simp; omega)) ?_
      exact compGo_map fun x _ => rfl
    refine seq_nx (own_ok c2) (seq_nx (e1 := [.bor (encT T), .un, .sh (.lst (T.map fun x => .int x.n)), .sh (.lst (T.map fun x => .tup [.int x.p, .str x.nm])), .un, .un]) (frz_ok rfl) ?_)
    have ndn : (nums T).Nodup := by
      rw [q]
      exact (setI_pw _).imp fun h => by omega
    refine seq_nx (set_ok (call_ok (ds := [encT T]) (eL_cons rfl eL_nil) (book_ok ndn (by omega)))) (ret_ok ?_)
    simp only [Bool.true_and]
    refine and_b (x := decide ((spots T).Nodup)) ?_ fun _ => ?_
    · refine bind_eq (bind_eq (x := .lst (T.map fun x => .tup [.int x.p, .str x.nm])) rfl (lenSet_spots hl)) (bind_eq (x := .int (T.length : Int)) ?_ ?_)
      · show Res.ok (D.int ((T.map fun x : Nd => D.tup [.int x.p, .str x.nm]).length : Int)) = _
        rw [List.length_map]
      · show Res.ok (D.bl (((nub (T.map fun x => [(Sum.inl x.p : Int ⊕ Nm), Sum.inr x.nm])).length : Int) == (T.length : Int))) = _
        congr 2
        by_cases nd : (spots T).Nodup
        · rw [decide_eq_true nd, nub_id ((nodup_spots T).mpr nd)]
          simp
        · rw [decide_eq_false nd]
          have := nub_lt (fun z => nd ((nodup_spots T).mp z))
          rw [List.length_map] at this
          simp
          omega
    · have c3 : eComp (iE (eB 2)) [5] (gN 5) tTrue (eCall M.m_comes_up [(eB 4), (eV 5)]) [.bor (encT T), .un, .sh (.lst (T.map fun x => .int x.n)), .sh (.lst (T.map fun x => .tup [.int x.p, .str x.nm])), .sh (.dct false (bookOf T)), .un] = .ok (.lst (T.map fun x => .bl (ups T x.n))) := by
        refine ecomp_ok (xs := T.map fun x => .int x.n) rfl (small_szl (by simp; omega)) ?_
        refine compGo_map fun x hx => ?_
        exact bind_eq (x := [.bor (encT T), .un, .sh (.lst (T.map fun x => .int x.n)), .sh (.lst (T.map fun x => .tup [.int x.p, .str x.nm])), .sh (.dct false (bookOf T)), .sh (.int x.n)]) rfl
          (bind_eq (x := true) rfl (bind_eq (call_ok (ds := [.dct false (bookOf T), .int x.n]) (eL_cons rfl (eL_cons rfl eL_nil)) (up_ok (look_mem hx) (by omega))) rfl))
      refine bind_eq c3 ?_
      simp [D.all, bools_map, List.all_map]
  · rw [decide_eq_false q] at ht ⊢
    exact seq_rt (if_t ht (ret_ok rfl))

/-! ### what is drawn is a tree -/
theorem look_of {T : List Nd} (nd : (nums T).Nodup) {x : Nd} (h : x ∈ T) : look T x.n = some x := by
  have := look_mem h
  obtain ⟨y, hy⟩ := Option.isSome_iff_exists.mp this
  have e : y.n = x.n := by
    have := List.find?_some hy
    simpa using this
  rw [hy, nodup_inj nd (List.mem_of_find?_eq_some hy) h e]
theorem ups_mono {T : List Nd} : ∀ (k : Nat) (n : Int), upsR T k n = some true → upsR T (k + 1) n = some true
  | 0, n, h => by simp [upsR] at h
  | k + 1, n, h => by
    unfold upsR at h ⊢
    cases e : look T n with
    | none => rw [e] at h; simp at h
    | some x =>
      rw [e] at h
      simp only at h ⊢
      split at h
      · rename_i q; rw [if_pos q]
      · rename_i q
        rw [if_neg q]
        cases e2 : look T x.p with
        | none => rw [e2] at h; simp at h
        | some y =>
          rw [e2] at h
          simp only at h ⊢
          split at h
          · simp at h
          · rename_i r
            rw [if_neg r]
            exact ups_mono k x.p h
theorem grown_ups {L : List Nd} (h : Grown L) : ∀ T : List Nd, (∀ y ∈ L, look T y.n = some y) → ∀ x ∈ L, upsR T L.length x.n = some true := by
  induction h with
  | nil => intro T _ x m; simp at m
  | @snoc L x _ _ _ _ hp ih =>
    intro T hT y m
    rw [List.length_append, List.length_singleton]
    have hL : ∀ z ∈ L, look T z.n = some z := fun z hz => hT z (List.mem_append_left _ hz)
    rcases List.mem_append.mp m with m | m
    · exact ups_mono _ _ (ih T hL y m)
    · rw [List.mem_singleton.mp m]
      unfold upsR
      rw [hT x (List.mem_append_right _ (List.mem_singleton.mpr rfl))]
      simp only
      by_cases q : x.p = 0
      · rw [if_pos q]
      · rw [if_neg q]
        rcases hp with e | ⟨f, hf, e1, e2⟩
        · exact absurd e q
        · rw [← e1, hL f hf]
          simp only [e2, Option.isSome_none, Bool.false_eq_true, if_false]
          exact ih T hL f hf
theorem grown_tree {L T : List Nd} (h : Grown L) (pm : T.Perm L) (pw : T.Pairwise fun a b => a.n ≤ b.n) : isTree T = true := by
  have nd := h.nodup
  have ndT : (nums T).Nodup := (pm.map (·.n)).nodup_iff.mpr nd.1
  have sp : (spots T).Nodup := (pm.map fun x : Nd => (x.p, x.nm)).nodup_iff.mpr nd.2
  have st := sorted_strict pw ndT
  unfold isTree
  rw [decide_eq_true (setI_id (by unfold nums; exact List.pairwise_map.mpr st)).symm, decide_eq_true sp]
  simp only [Bool.true_and, List.all_eq_true]
  intro x hx
  unfold ups
  rw [pm.length_eq, grown_ups h T (fun y hy => look_of ndT (pm.mem_iff.mpr hy)) x (pm.mem_iff.mp hx)]
  rfl
/-- a tree: sorted, grown somehow -/
structure IsT (T : List Nd) : Prop where
  grown : ∃ L, Grown L ∧ T.Perm L
  pw : T.Pairwise fun a b => a.n < b.n
theorem IsT.good {T : List Nd} (h : IsT T) : ∀ x ∈ T, x.good = true := by
  obtain ⟨L, g, pm⟩ := h.grown
  exact fun x hx => g.good x (pm.mem_iff.mp hx)
theorem IsT.tree {T : List Nd} (h : IsT T) : isTree T = true := by
  obtain ⟨L, g, pm⟩ := h.grown
  exact grown_tree g pm (h.pw.imp fun h => by omega)
theorem IsT.nd {T : List Nd} (h : IsT T) : (nums T).Nodup := List.pairwise_map.mpr (h.pw.imp fun h => by omega)
theorem drawn_isT (ns : List Int) (at_ most : Nat) : IsT (drawn ns at_ most) := by
  have I := drawn_inv ns at_ most
  have pm := sortN_perm (drawnG ns at_ most).nodes
  exact ⟨⟨_, I.grown, pm⟩, sorted_strict (sortN_pw _) ((pm.map (·.n)).nodup_iff.mpr I.grown.nodup.1)⟩
theorem drawn_len (ns : List Int) (at_ most : Nat) : (drawn ns at_ most).length ≤ most := by
  have I := drawn_inv ns at_ most
  have := I.few
  have := count_le ns at_ most
  rw [drawn, (sortN_perm _).length_eq]
  omega
theorem drawn_rng (ns : List Int) (at_ most : Nat) : ∀ x ∈ drawn ns at_ most, 1 ≤ x.n ∧ x.n ≤ most + 3 := by
  have I := drawn_inv ns at_ most
  intro x hx
  exact I.rng x.n (List.mem_append_right _ (List.mem_map.mpr ⟨x, (sortN_perm _).mem_iff.mp hx, rfl⟩))
end Tw

set_option autoImplicit false
set_option linter.all false
/-! Tw, plain: the reading of code by simp. -/
namespace Tw
section
variable {a b c f g : E} {s t : T} {u v : S} {e : Env} {i j : Nat} {d x y : D} {gs : List G} {it : I} {tg : G}
@[simp] theorem ev_eB : eB i e = match e[i]? with
  | some (.sh d) => .ok d
  | some (.bor d) => .ok d
  | some (.own d) => .ok d
  | _ => .stk := (rfl)
@[simp] theorem ev_eV : eV i e = match e[i]? with
  | some (.sh d) => .ok d
  | some (.bor d) => if d.box then .stk else .ok d
  | _ => .stk := (rfl)
@[simp] theorem ev_eC : eC d e = .ok d := (rfl)
@[simp] theorem ev_e1 {h : D → Res D} : e1 h a e = (a e).bind h := (rfl)
@[simp] theorem ev_e2 {h : D → D → Res D} : e2 h a b e = (a e).bind fun x => (b e).bind fun y => h x y := (rfl)
@[simp] theorem ev_eL0 : eL [] e = .ok [] := (rfl)
@[simp] theorem ev_eL1 {r : List E} : eL (a :: r) e = (a e).bind fun x => (eL r e).bind fun xs => .ok (x :: xs) := (rfl)
@[simp] theorem ev_eTup {es : List E} : eTup es e = (eL es e).bind fun xs => .ok (.tup xs) := (rfl)
@[simp] theorem ev_eLst {es : List E} : eLst es e = (eL es e).bind fun xs => .ok (.lst xs) := (rfl)
@[simp] theorem ev_eCall {m : List D → Res D} {es : List E} : eCall m es e = (eL es e).bind m := (rfl)
@[simp] theorem ev_eP0 : eP none e = .ok none := (rfl)
@[simp] theorem ev_eP1 : eP (some a) e = (a e).bind fun x => x.asI.bind fun i => .ok (some i) := (rfl)
@[simp] theorem ev_asI {i : Int} : D.asI (.int i) = .ok i := (rfl)
@[simp] theorem ev_eSl {lo hi : Option E} : eSl a lo hi e = (a e).bind fun x => (eP lo e).bind fun l => (eP hi e).bind fun h => D.cut l h x := (rfl)
@[simp] theorem ev_tE : tE a e = (a e).bind D.asB := (rfl)
@[simp] theorem ev_asB {k : Bool} : D.asB (.bl k) = .ok k := (rfl)
@[simp] theorem ev_tAnd : tAnd s t e = (s e).bind fun x => if x then t e else .ok false := (rfl)
@[simp] theorem ev_tOr : tOr s t e = (s e).bind fun x => if x then .ok true else t e := (rfl)
@[simp] theorem ev_tNot : tNot s e = (s e).bind fun x => .ok (!x) := (rfl)
@[simp] theorem ev_tTrue : tTrue e = .ok true := (rfl)
@[simp] theorem ev_eIf : eIf s a b e = (s e).bind fun x => if x then a e else b e := (rfl)
@[simp] theorem ev_eAnd : eAnd a b e = (a e).bind fun x => x.asB.bind fun k => if k then b e else .ok (.bl false) := (rfl)
@[simp] theorem ev_eOr : eOr a b e = (a e).bind fun x => x.asB.bind fun k => if k then .ok (.bl true) else b e := (rfl)
@[simp] theorem ev_eNot : eNot a e = (a e).bind fun x => x.asB.bind fun k => .ok (.bl (!k)) := (rfl)
@[simp] theorem ev_eCh {p q : D → D → Res D} : eCh p q a b c e = (a e).bind fun x => (b e).bind fun y => (p x y).bind fun z => z.asB.bind fun k => if k then (c e).bind fun u => q y u else .ok (.bl false) := (rfl)
def getB (x : D) (r : Res D) : Res D := match x with
  | .dct _ _ => r.bind fun y => D.get1 x y
  | _ => .stk
@[simp] theorem ev_get1 : eGet1 a b e = (a e).bind fun x => getB x (b e) := (rfl)
@[simp] theorem ev_getB {t : Bool} {kvs : List (Ky × D)} {r : Res D} : getB (.dct t kvs) r = r.bind fun y => D.get1 (.dct t kvs) y := (rfl)
@[simp] theorem ev_eM1 {ok : D → Bool} {h : D → D → Res D} : eM1 ok h a b e = (a e).bind fun x => if ok x then (b e).bind fun y => h x y else .stk := (rfl)
@[simp] theorem ev_isLst {xs : List D} : D.isLst (.lst xs) = true := (rfl)
@[simp] theorem ev_isStr {xs : Nm} : D.isStr (.str xs) = true := (rfl)
@[simp] theorem ev_iE : iE a e = (a e).bind D.items := (rfl)
@[simp] theorem ev_iK : iK a e = (a e).bind D.keys := (rfl)
@[simp] theorem ev_iR1 : iR1 a e = (a e).bind rng1 := (rfl)
@[simp] theorem ev_iR2 : iR2 a b e = (a e).bind fun x => (b e).bind fun y => rng2 x y := (rfl)
@[simp] theorem ev_gN : gN i d e = .ok (e.set i (.sh d)) := (rfl)
@[simp] theorem ev_gs0 : gsGo [] [] e = .ok e := (rfl)
@[simp] theorem ev_gs1 {ds : List D} : gsGo (tg :: gs) (d :: ds) e = (tg d e).bind fun e1 => gsGo gs ds e1 := (rfl)
@[simp] theorem ev_gT {ds : List D} : gT gs (.tup ds) e = gsGo gs ds e := (rfl)
@[simp] theorem ev_items_l {xs : List D} : D.items (.lst xs) = .ok xs := (rfl)
@[simp] theorem ev_items_t {xs : List D} : D.items (.tup xs) = .ok xs := (rfl)
@[simp] theorem ev_items_s {s : Nm} : D.items (.str s) = .ok (s.map fun c => .str [c]) := (rfl)
@[simp] theorem ev_keys {k : Bool} {kvs : List (Ky × D)} : D.keys (.dct k kvs) = .ok (kvs.map fun kv => kv.1.toD) := (rfl)
@[simp] theorem ev_nil : sNil e = .nx e := (rfl)
@[simp] theorem ev_seq : sSeq u v e = match u e with
  | .nx e1 => v e1
  | r => r := (rfl)
@[simp] theorem ev_set : sSet i a e = (a e).run e fun d => .nx (e.set i (.sh d)) := (rfl)
@[simp] theorem ev_own : sOwn i a e = (a e).run e fun d => .nx (e.set i (.own d)) := (rfl)
@[simp] theorem ev_asg : sAsg tg a e = (a e).run e fun d => match tg d e with
  | .ok e1 => .nx e1
  | _ => .stk := (rfl)
@[simp] theorem ev_frz : sFrz i e = match e[i]? with
  | some (.own d) => .nx (e.set i (.sh d))
  | _ => .nx e := (rfl)
@[simp] theorem ev_if : sIf s u v e = (s e).run e fun k => if k then u e else v e := (rfl)
@[simp] theorem ev_for : sFor it tg u e = (it e).run e fun xs => forGo tg u xs e := (rfl)
@[simp] theorem ev_for0 : forGo tg u [] e = .nx e := (rfl)
@[simp] theorem ev_brk : sBrk e = .bk e := (rfl)
@[simp] theorem ev_cnt : sCnt e = .ct e := (rfl)
@[simp] theorem ev_ret : sRet a e = (a e).run e fun d => .rt d := (rfl)
@[simp] theorem ev_retO : sRetO i e = match e[i]? with
  | some (.own d) => .rt d
  | _ => .stk := (rfl)
@[simp] theorem ev_raise {k : Nat} : sRaise k e = .er k e := (rfl)
@[simp] theorem ev_drop : sDrop a e = (a e).run e fun _ => .nx e := (rfl)
@[simp] theorem ev_forK {k : Nat} : sForK k tg u e = match (match e[k]? with
    | some (.sh d) => D.keys d
    | some (.bor d) => D.keys d
    | _ => .stk) with
  | .ok xs => (match forGo tg u xs e with
    | .er _ _ => .stk
    | r => r)
  | _ => .stk := (rfl)
@[simp] theorem ev_try {ks cs : List Nat} {k : Nat} : sTry ks cs k u v e = match u e with
  | .er c e1 => if c ∈ ks then (if c ∈ cs then (match v (e1.set k (.sh (.exc c))) with
      | .nx e2 => .nx (e2.set k .un)
      | .bk e2 => .bk (e2.set k .un)
      | .ct e2 => .ct (e2.set k .un)
      | .rt d => .rt d
      | _ => .stk) else .er c e1) else .stk
  | r => r := (rfl)
@[simp] theorem ev_isExc {ks cs : List Nat} {c : Nat} : D.isExc ks cs (.exc c) = if c ∈ ks then .ok (.bl (decide (c ∈ cs))) else .stk := (rfl)
@[simp] theorem ev_boxX {c : Nat} : D.box (.exc c) = false := (rfl)
@[simp] theorem ev_nonX {c : Nat} : D.isNon (.exc c) = false := (rfl)
@[simp] theorem ev_par : sPar i j a b e = (a e).run e fun x => (b e).run e fun y => .nx ((e.set i (.sh x)).set j (.sh y)) := (rfl)
@[simp] theorem ev_app : sApp i a e = match e[i]? with
  | some (.own (.lst xs)) => (a e).run e fun d => if xs.length < szl then .nx (e.set i (.own (.lst (xs ++ [d])))) else .stk
  | _ => .stk := (rfl)
@[simp] theorem ev_put : sPut i a b e = match e[i]? with
  | some (.own (.dct t kvs)) => (b e).run e fun w => (a e).run e fun q => match q.kf t with
    | some y => if kvs.length < szl then .nx (e.set i (.own (.dct t (kput y w kvs)))) else .stk
    | none => .stk
  | _ => .stk := (rfl)
@[simp] theorem ev_comp {own : List Nat} : eComp it own tg t f e = (it e).bind fun xs => if xs.length < szl then (compGo (compTurn own tg t f e) xs).bind fun ys => .ok (.lst ys) else .stk := (rfl)
@[simp] theorem ev_turn {own : List Nat} : compTurn own tg t f e x = (tg x (blkE own e)).bind fun e1 => (t e1).bind fun b => if b then (f e1).bind fun y => .ok (some y) else .ok none := (rfl)
@[simp] theorem ev_blk {own : List Nat} : blkE own e = (wipeE e own).map Slot.lend := (rfl)
@[simp] theorem ev_wipe0 : wipeE e [] = e := (rfl)
@[simp] theorem ev_wipe1 {r : List Nat} : wipeE e (i :: r) = (wipeE e r).set i .un := (rfl)
@[simp] theorem ev_lend1 : Slot.lend (.own d) = .bor d := (rfl)
@[simp] theorem ev_lend2 : Slot.lend (.sh d) = .sh d := (rfl)
@[simp] theorem ev_lend3 : Slot.lend (.bor d) = .bor d := (rfl)
@[simp] theorem ev_lend4 : Slot.lend .un = .un := (rfl)
@[simp] theorem ev_init1 {ms : List Bool} {ds : List D} : initE (true :: ms) (d :: ds) = .bor d :: initE ms ds := (rfl)
@[simp] theorem ev_init2 {ms : List Bool} {ds : List D} : initE (false :: ms) (d :: ds) = .sh d :: initE ms ds := (rfl)
@[simp] theorem ev_init0 : initE [] [] = [] := (rfl)
@[simp] theorem ev_rep0 : List.replicate 0 (Slot.un) = [] := (rfl)
@[simp] theorem ev_rep1 {n : Nat} : List.replicate (n + 1) (Slot.un) = .un :: List.replicate n .un := (rfl)
@[simp] theorem ev_box1 {xs : List D} : D.box (.lst xs) = true := (rfl)
@[simp] theorem ev_box2 {k : Bool} {xs : List (Ky × D)} : D.box (.dct k xs) = true := (rfl)
@[simp] theorem ev_box3 {xs : List D} : D.box (.tup xs) = false := (rfl)
@[simp] theorem ev_box4 {xs : Nm} : D.box (.str xs) = false := (rfl)
@[simp] theorem ev_box5 {n : Int} : D.box (.int n) = false := (rfl)
@[simp] theorem ev_box6 : D.box .non = false := (rfl)
@[simp] theorem ev_box7 {n : Bool} : D.box (.bl n) = false := (rfl)
@[simp] theorem ev_addI {m n : Int} : D.add (.int m) (.int n) = .ok (.int (m + n)) := (rfl)
@[simp] theorem ev_subI {m n : Int} : D.sub (.int m) (.int n) = .ok (.int (m - n)) := (rfl)
@[simp] theorem ev_eqI {m n : Int} : D.eq (.int m) (.int n) = .ok (.bl (decide (m = n))) := by
  show Res.ok (D.bl (m == n)) = _
  by_cases h : m = n <;> simp [h]
@[simp] theorem ev_neI {m n : Int} : D.ne (.int m) (.int n) = .ok (.bl (!decide (m = n))) := by
  show Res.ok (D.bl (!(m == n))) = _
  by_cases h : m = n <;> simp [h]
@[simp] theorem ev_ltI {m n : Int} : D.ltI (.int m) (.int n) = .ok (.bl (decide (m < n))) := (rfl)
@[simp] theorem ev_leI {m n : Int} : D.leI (.int m) (.int n) = .ok (.bl (decide (m ≤ n))) := (rfl)
@[simp] theorem ev_gtI {m n : Int} : D.gtI (.int m) (.int n) = .ok (.bl (decide (n < m))) := (rfl)
@[simp] theorem ev_geI {m n : Int} : D.geI (.int m) (.int n) = .ok (.bl (decide (n ≤ m))) := (rfl)
@[simp] theorem ev_isN : D.isN x = .ok (.bl x.isNon) := (rfl)
@[simp] theorem ev_notN : D.notN x = .ok (.bl (!x.isNon)) := (rfl)
@[simp] theorem ev_non1 : D.isNon .non = true := (rfl)
@[simp] theorem ev_non2 {n : Int} : D.isNon (.int n) = false := (rfl)
@[simp] theorem ev_non3 {n : Nm} : D.isNon (.str n) = false := (rfl)
@[simp] theorem ev_non4 {n : List D} : D.isNon (.tup n) = false := (rfl)
@[simp] theorem ev_non5 {n : List D} : D.isNon (.lst n) = false := (rfl)
@[simp] theorem ev_non6 {n : Bool} : D.isNon (.bl n) = false := (rfl)
@[simp] theorem ev_len1 {xs : List D} : D.len (.lst xs) = .ok (.int xs.length) := (rfl)
@[simp] theorem ev_len2 {xs : List D} : D.len (.tup xs) = .ok (.int xs.length) := (rfl)
@[simp] theorem ev_len3 {k : Bool} {xs : List (Ky × D)} : D.len (.dct k xs) = .ok (.int xs.length) := (rfl)
@[simp] theorem ev_tolst1 {xs : List D} : D.toLst (.lst xs) = .ok (.lst xs) := (rfl)
@[simp] theorem ev_tolst2 {xs : List D} : D.toLst (.tup xs) = .ok (.lst xs) := (rfl)
@[simp] theorem ev_tolst3 {k : Bool} {xs : List (Ky × D)} : D.toLst (.dct k xs) = .ok (.lst (xs.map fun kv => kv.1.toD)) := (rfl)
@[simp] theorem ev_totup1 {xs : List D} : D.toTup (.lst xs) = .ok (.tup xs) := (rfl)
@[simp] theorem ev_totup2 {xs : List D} : D.toTup (.tup xs) = .ok (.tup xs) := (rfl)
@[simp] theorem ev_cut1 {xs : List D} {lo hi : Option Int} : D.cut lo hi (.lst xs) = .ok (.lst (cutL xs lo hi)) := (rfl)
@[simp] theorem ev_cut2 {xs : List D} {lo hi : Option Int} : D.cut lo hi (.tup xs) = .ok (.tup (cutL xs lo hi)) := (rfl)
@[simp] theorem ev_rev1 {xs : List D} : D.rev (.lst xs) = .ok (.lst xs.reverse) := (rfl)
@[simp] theorem ev_rev2 {xs : List D} : D.rev (.tup xs) = .ok (.tup xs.reverse) := (rfl)
@[simp] theorem ev_idxT {xs : List D} {n : Int} : D.idx (.tup xs) (.int n) = Res.ofOpt (atI xs n) := (rfl)
@[simp] theorem ev_idxL {xs : List D} {n : Int} : D.idx (.lst xs) (.int n) = Res.ofOpt (atI xs n) := (rfl)
@[simp] theorem ev_at0 {α : Type} {x : α} {xs : List α} : atI (x :: xs) 0 = some x := (rfl)
@[simp] theorem ev_at1 {α : Type} {x y : α} {xs : List α} : atI (x :: y :: xs) 1 = some y := (rfl)
@[simp] theorem ev_at2 {α : Type} {x y z : α} {xs : List α} : atI (x :: y :: z :: xs) 2 = some z := (rfl)
@[simp] theorem ev_at3 {α : Type} {x y z w : α} {xs : List α} : atI (x :: y :: z :: w :: xs) 3 = some w := (rfl)
@[simp] theorem ev_at4 {α : Type} {x y z w r : α} {xs : List α} : atI (x :: y :: z :: w :: r :: xs) 4 = some r := (rfl)
@[simp] theorem ev_kfI {n : Int} : D.kf false (.int n) = some (.int n) := (rfl)
@[simp] theorem ev_kfS {n : Nm} : D.kf false (.str n) = some (.str n) := (rfl)
@[simp] theorem ev_all {xs : List D} {bs : List Bool} (h : bools? xs = some bs) : D.all (.lst xs) = .ok (.bl (bs.all id)) := by simp [D.all, h]
@[simp] theorem ev_any {xs : List D} {bs : List Bool} (h : bools? xs = some bs) : D.any (.lst xs) = .ok (.bl (bs.any id)) := by simp [D.any, h]
end
@[simp] theorem szl_0 : 0 ≤ szl := by unfold szl; omega
@[simp] theorem szl_lt0 : 0 < szl := by unfold szl; omega
@[simp] theorem szl_1 : 1 ≤ szl := by unfold szl; omega
@[simp] theorem szl_lt1 : 1 < szl := by unfold szl; omega
@[simp] theorem szl_2 : 2 ≤ szl := by unfold szl; omega
@[simp] theorem szl_lt2 : 2 < szl := by unfold szl; omega
@[simp] theorem szl_3 : 3 ≤ szl := by unfold szl; omega
@[simp] theorem szl_lt3 : 3 < szl := by unfold szl; omega
@[simp] theorem szl_4 : 4 ≤ szl := by unfold szl; omega
@[simp] theorem szl_lt4 : 4 < szl := by unfold szl; omega
@[simp] theorem szl_5 : 5 ≤ szl := by unfold szl; omega
@[simp] theorem szl_lt5 : 5 < szl := by unfold szl; omega
@[simp] theorem szl_6 : 6 ≤ szl := by unfold szl; omega
@[simp] theorem szl_lt6 : 6 < szl := by unfold szl; omega
@[simp] theorem szl_7 : 7 ≤ szl := by unfold szl; omega
@[simp] theorem szl_lt7 : 7 < szl := by unfold szl; omega
@[simp] theorem szl_8 : 8 ≤ szl := by unfold szl; omega
@[simp] theorem szl_lt8 : 8 < szl := by unfold szl; omega
@[simp] theorem szl_9 : 9 ≤ szl := by unfold szl; omega
@[simp] theorem szl_lt9 : 9 < szl := by unfold szl; omega
@[simp] theorem szl_10 : 10 ≤ szl := by unfold szl; omega
@[simp] theorem szl_lt10 : 10 < szl := by unfold szl; omega
@[simp] theorem szl_11 : 11 ≤ szl := by unfold szl; omega
@[simp] theorem szl_lt11 : 11 < szl := by unfold szl; omega
@[simp] theorem szl_12 : 12 ≤ szl := by unfold szl; omega
@[simp] theorem szl_lt12 : 12 < szl := by unfold szl; omega
theorem cutL_take {α : Type} (xs : List α) (k : Nat) : cutL xs none (some (k : Int)) = xs.take k := by
  unfold cutL clip
  have : ¬ ((k : Int) < 0) := by omega
  simp only [this, if_false, Int.toNat_natCast, List.drop_zero, Nat.sub_zero]
  rcases Nat.le_total k xs.length with h | h
  · rw [Nat.min_eq_left h]
  · rw [Nat.min_eq_right h, List.take_of_length_le (Nat.le_refl _), List.take_of_length_le h]
theorem cutL_drop {α : Type} (xs : List α) (k : Nat) : cutL xs (some (k : Int)) none = xs.drop k := by
  unfold cutL clip
  have : ¬ ((k : Int) < 0) := by omega
  simp only [this, if_false, Int.toNat_natCast]
  rcases Nat.le_total k xs.length with h | h
  · rw [Nat.min_eq_left h, List.take_of_length_le (by simp)]
  · rw [Nat.min_eq_right h]; simp [h]
/-- a loop by what holds behind each part of the list -/
theorem forGo_pre {α : Type} {R : List α → Env → Prop} {g : G} {b : S} {e : α → D} {ys : List α} {env : Env}
    (h : ∀ pre x post, ys = pre ++ x :: post → ∀ env, R pre env → ∃ env1 env2, g (e x) env = .ok env1 ∧ (b env1 = .nx env2 ∨ b env1 = .ct env2) ∧ R (pre ++ [x]) env2) (r : R [] env) : ∃ env', forGo g b (ys.map e) env = .nx env' ∧ R ys env' := by
  have go : ∀ (post pre : List α) (env : Env), ys = pre ++ post → R pre env → ∃ env', forGo g b (post.map e) env = .nx env' ∧ R ys env' := by
    intro post
    induction post with
    | nil => intro pre env hy r; rw [List.append_nil] at hy; subst hy; exact ⟨env, rfl, r⟩
    | cons x post ih =>
      intro pre env hy r
      obtain ⟨env1, env2, h1, h2, h3⟩ := h pre x post hy env r
      obtain ⟨env', h4, h5⟩ := ih (pre ++ [x]) env2 (by rw [hy]; simp) h3
      refine ⟨env', ?_, h5⟩
      rw [List.map_cons]
      unfold forGo
      rw [h1]
      rcases h2 with h2 | h2 <;> (simp only [h2]; exact h4)
  exact go ys [] env rfl r
/-- .. the first items gone through -/
theorem forGo_to {α : Type} {R : List α → Env → Prop} {g : G} {b : S} {e : α → D} {ys : List α} {env : Env} (rest : List D)
    (h : ∀ pre x post, ys = pre ++ x :: post → ∀ env, R pre env → ∃ env1 env2, g (e x) env = .ok env1 ∧ (b env1 = .nx env2 ∨ b env1 = .ct env2) ∧ R (pre ++ [x]) env2) (r : R [] env) : ∃ env', forGo g b (ys.map e ++ rest) env = forGo g b rest env' ∧ R ys env' := by
  have go : ∀ (post pre : List α) (env : Env), ys = pre ++ post → R pre env → ∃ env', forGo g b (post.map e ++ rest) env = forGo g b rest env' ∧ R ys env' := by
    intro post
    induction post with
    | nil => intro pre env hy r; rw [List.append_nil] at hy; subst hy; exact ⟨env, rfl, r⟩
    | cons x post ih =>
      intro pre env hy r
      obtain ⟨env1, env2, h1, h2, h3⟩ := h pre x post hy env r
      obtain ⟨env', h4, h5⟩ := ih (pre ++ [x]) env2 (by rw [hy]; simp) h3
      refine ⟨env', ?_, h5⟩
      rw [List.map_cons, List.cons_append]
      conv => lhs; unfold forGo
      rw [h1]
      rcases h2 with h2 | h2 <;> (simp only [h2]; exact h4)
  exact go ys [] env rfl r
theorem forGo_er {g : G} {b : S} {x : D} {xs : List D} {env env1 env2 : Env} {c : Nat} (h1 : g x env = .ok env1) (h2 : b env1 = .er c env2) : forGo g b (x :: xs) env = .er c env2 := by
  unfold forGo; rw [h1]; simp only [h2]
theorem forGo_rt {g : G} {b : S} {x d : D} {xs : List D} {env env1 : Env} (h1 : g x env = .ok env1) (h2 : b env1 = .rt d) : forGo g b (x :: xs) env = .rt d := by
  unfold forGo; rw [h1]; simp only [h2]
theorem forGo_bk {g : G} {b : S} {x : D} {xs : List D} {env env1 env2 : Env} (h1 : g x env = .ok env1) (h2 : b env1 = .bk env2) : forGo g b (x :: xs) env = .nx env2 := by
  unfold forGo; rw [h1]; simp only [h2]
theorem first_bad {α : Type} (p : α → Bool) : ∀ {l : List α}, l.any p = true → ∃ pre x post, l = pre ++ x :: post ∧ p x = true ∧ ∀ y ∈ pre, p y = false
  | [], h => by simp at h
  | x :: l, h => by
    cases e : p x with
    | true => exact ⟨[], x, l, rfl, e, by simp⟩
    | false =>
      rw [List.any_cons, e, Bool.false_or] at h
      obtain ⟨pre, y, post, h1, h2, h3⟩ := first_bad p h
      refine ⟨x :: pre, y, post, by rw [h1]; rfl, h2, fun z hz => ?_⟩
      rcases List.mem_cons.mp hz with rfl | hz
      · exact e
      · exact h3 z hz
theorem run_er {ms : List Bool} {n : Nat} {b : S} {ds : List D} {c : Nat} {e : Env} (hl : ds.length = ms.length) (h : b (initE ms ds ++ List.replicate (n - ms.length) .un) = .er c e) : runD ms n b ds = .err c := runD_er hl h
theorem run_rt {ms : List Bool} {n : Nat} {b : S} {ds : List D} {d : D} (hl : ds.length = ms.length) (h : b (initE ms ds ++ List.replicate (n - ms.length) .un) = .rt d) : runD ms n b ds = .ok d := runD_rt hl h
end Tw

set_option autoImplicit false
set_option linter.all false
/-! Tw, plain: the ways up in a tree; books; what the first defs compute. -/
namespace Tw
/-! ### ways -/
inductive Upw (T : List Nd) : Int → List Nd → Prop
  | top : Upw T 0 []
  | step {n : Int} {x : Nd} {l : List Nd} : n ≠ 0 → look T n = some x → Upw T x.p l → Upw T n (x :: l)
def wayR (T : List Nd) : Nat → Int → List Nd
  | 0, _ => []
  | k + 1, n => if n = 0 then [] else match look T n with
    | none => []
    | some x => x :: wayR T k x.p
/-- the nodes from n up, n's own first -/
def way (T : List Nd) (n : Int) : List Nd := wayR T (T.length + 1) n
theorem Upw.det {T : List Nd} {n : Int} {l m : List Nd} (h : Upw T n l) (g : Upw T n m) : l = m := by
  induction h generalizing m with
  | top => cases g with
    | top => rfl
    | step h _ _ => exact absurd rfl h
  | step h e _ ih => cases g with
    | top => exact absurd rfl h
    | step _ e2 g => rw [e] at e2; cases e2; rw [ih g]
theorem Upw.wayR {T : List Nd} {n : Int} {l : List Nd} (h : Upw T n l) : ∀ {k : Nat}, l.length < k → wayR T k n = l := by
  induction h with
  | top => intro k hk; cases k <;> simp [Tw.wayR]
  | step h e _ ih =>
    intro k hk
    cases k with
    | zero => simp at hk
    | succ k => simp only [Tw.wayR, h, if_false, e]; rw [ih (by simp at hk; omega)]
/-- a tree whose nodes all come to the top -/
structure Ups (T : List Nd) : Prop where
  nd : (nums T).Nodup
  pos : ∀ x ∈ T, x.n ≠ 0
  len : T.length ≤ 1000
  up : ∀ x ∈ T, ∃ l, Upw T x.n l
theorem look_some {T : List Nd} {n : Int} {x : Nd} (h : look T n = some x) : x ∈ T ∧ x.n = n := by
  unfold look at h
  exact ⟨List.mem_of_find?_eq_some h, by simpa using List.find?_some h⟩
theorem Upw.mem {T : List Nd} {n : Int} {l : List Nd} (h : Upw T n l) : ∀ x ∈ l, x ∈ T := by
  induction h with
  | top => simp
  | step h e _ ih =>
    intro y hy
    rcases List.mem_cons.mp hy with rfl | hy
    · exact (look_some e).1
    · exact ih y hy
theorem Upw.suf {T : List Nd} {n : Int} {l : List Nd} (h : Upw T n l) : ∀ x ∈ l, ∃ m, Upw T x.n m ∧ m <:+ l := by
  induction h with
  | top => simp
  | @step n x l h e u ih =>
    intro y hy
    rcases List.mem_cons.mp hy with rfl | hy
    · refine ⟨_, ?_, List.suffix_refl _⟩
      rw [(look_some e).2]
      exact .step h e u
    · obtain ⟨m, h1, h2⟩ := ih y hy
      exact ⟨m, h1, h2.trans (List.suffix_cons _ _)⟩
theorem Upw.nodup {T : List Nd} {n : Int} {l : List Nd} (h : Upw T n l) : (l.map (·.n)).Nodup := by
  induction h with
  | top => simp
  | @step n x l h e u ih =>
    rw [List.map_cons, List.nodup_cons]
    refine ⟨fun m => ?_, ih⟩
    obtain ⟨y, hy, ey⟩ := List.mem_map.mp m
    obtain ⟨m1, h1, h2⟩ := u.suf y hy
    have e2 : Upw T x.n (x :: l) := by rw [(look_some e).2]; exact .step h e u
    rw [ey] at h1
    have := h1.det e2
    have l1 := h2.length_le
    rw [this] at l1
    simp at l1
    omega
theorem Upw.le {T : List Nd} {n : Int} {l : List Nd} (h : Upw T n l) : l.length ≤ T.length := by
  have h1 := sub_len (m := T.map (·.n)) h.nodup fun y hy => by
    obtain ⟨x, hx, rfl⟩ := List.mem_map.mp hy
    exact List.mem_map.mpr ⟨x, h.mem x hx, rfl⟩
  simpa using h1
theorem Upw.way {T : List Nd} {n : Int} {l : List Nd} (h : Upw T n l) : way T n = l := h.wayR (Nat.lt_succ_of_le h.le)
theorem Ups.way {T : List Nd} (h : Ups T) {n : Int} (hn : n = 0 ∨ n ∈ nums T) : Upw T n (way T n) := by
  rcases hn with rfl | hn
  · have : Upw T 0 [] := .top
    rw [this.way]; exact this
  · obtain ⟨x, hx, rfl⟩ := List.mem_map.mp hn
    obtain ⟨l, hl⟩ := h.up x hx
    rw [hl.way]; exact hl
theorem upsR_up {T : List Nd} (pos : ∀ x ∈ T, x.n ≠ 0) : ∀ (k : Nat) (n : Int), (look T n).isSome = true → upsR T k n = some true → ∃ l, Upw T n l ∧ ∀ x ∈ l.tail, x.st = none
  | 0, _, _, h => by simp [upsR] at h
  | k + 1, n, hs, h => by
    obtain ⟨x, hx⟩ := Option.isSome_iff_exists.mp hs
    have hm := look_some hx
    have hn : n ≠ 0 := by rw [← hm.2]; exact pos x hm.1
    unfold upsR at h
    rw [hx] at h
    simp only at h
    by_cases hp : x.p = 0
    · refine ⟨[x], .step hn hx (by rw [hp]; exact .top), by simp⟩
    · rw [if_neg hp] at h
      cases hy : look T x.p with
      | none => rw [hy] at h; simp at h
      | some y =>
        rw [hy] at h
        simp only at h
        cases hz : y.st.isSome with
        | true => rw [hz] at h; simp at h
        | false =>
          rw [hz] at h
          simp only [Bool.false_eq_true, if_false] at h
          obtain ⟨l, hl, hf⟩ := upsR_up pos k x.p (by rw [hy]; rfl) h
          refine ⟨x :: l, .step hn hx hl, ?_⟩
          intro z hz'
          simp only [List.tail_cons] at hz'
          generalize hq : x.p = q at hl hy
          cases hl with
          | top => simp at hz'
          | step _ e2 u =>
            rw [hy] at e2
            cases e2
            rcases List.mem_cons.mp hz' with rfl | h3
            · simpa using hz
            · exact hf z (by simpa using h3)
theorem isTree_up2 {T : List Nd} (g : ∀ x ∈ T, x.good = true) (h : isTree T = true) : ∀ x ∈ T, ∃ l, Upw T x.n l ∧ ∀ y ∈ l.tail, y.st = none := fun x hx => by
  unfold isTree at h
  simp only [Bool.and_eq_true, List.all_eq_true] at h
  have h1 := h.2.2 x hx
  unfold ups at h1
  have h2 : upsR T T.length x.n = some true := by
    cases e : upsR T T.length x.n with
    | none => rw [e] at h1; simp at h1
    | some b => rw [e] at h1; simp at h1; rw [h1]
  refine upsR_up (fun y hy z => ?_) _ _ (look_mem hx) h2
  have := g y hy
  unfold Nd.good at this
  simp only [Bool.and_eq_true, decide_eq_true_eq] at this
  omega
/-- the names from the top to n -/
def path (T : List Nd) (n : Int) : List Nm := ((way T n).map (·.nm)).reverse
/-- n is g, or below it -/
def under (T : List Nd) (n g : Int) : Bool := decide (g = 0) || (way T n).any fun x => decide (x.n = g)
def strD (p : List Nm) : D := .tup (p.map D.str)
end Tw

set_option autoImplicit false
set_option linter.all false
/-! Tw, plain: path_in, is_under, walked and such. -/
namespace Tw
@[simp] theorem row0 (x : Nd) : D.idx x.row (.int 0) = .ok (.int x.p) := rfl
@[simp] theorem row1 (x : Nd) : D.idx x.row (.int 1) = .ok (.str x.nm) := rfl
@[simp] theorem row2 (x : Nd) : D.idx x.row (.int 2) = .ok (stD x.st) := rfl
@[simp] theorem enc0 (x : Nd) : D.idx x.enc (.int 0) = .ok (.int x.n) := rfl
@[simp] theorem enc1 (x : Nd) : D.idx x.enc (.int 1) = .ok (.int x.p) := rfl
@[simp] theorem enc2 (x : Nd) : D.idx x.enc (.int 2) = .ok (.str x.nm) := rfl
@[simp] theorem enc3 (x : Nd) : D.idx x.enc (.int 3) = .ok (stD x.st) := rfl
@[simp] theorem st_non (o : Option Int) : D.isNon (stD o) = o.isNone := by cases o <;> rfl
@[simp] theorem keyI_toD (n : Int) : (Ky.int n).toD = .int n := rfl
theorem book_get {T : List Nd} {n : Int} : D.get1 (.dct false (bookOf T)) (.int n) = .ok (((look T n).map Nd.row).getD .non) := by
  show Res.ok ((kget (.int n) (bookOf T)).getD .non) = _
  rw [kget_book]
theorem book_in {T : List Nd} {n : Int} : D.isIn (.int n) (.dct false (bookOf T)) = .ok (.bl (look T n).isSome) := by
  show ((Res.ofOpt (some (khas (.int n) (bookOf T)))).bind fun b => Res.ok (D.bl b)) = _
  unfold khas
  rw [kget_book]
  cases look T n <;> rfl
theorem look_iff {T : List Nd} {n : Int} : (look T n).isSome = true ↔ n ∈ nums T := by
  constructor
  · intro h
    obtain ⟨x, hx⟩ := Option.isSome_iff_exists.mp h
    have := look_some hx
    exact List.mem_map.mpr ⟨x, this.1, this.2⟩
  · intro h
    obtain ⟨x, hx, rfl⟩ := List.mem_map.mp h
    exact look_mem hx
theorem look_isSome {T : List Nd} {n : Int} : (look T n).isSome = decide (n ∈ nums T) := by
  cases h : (look T n).isSome with
  | true => rw [look_iff] at h; simp [h]
  | false =>
    by_cases h2 : n ∈ nums T
    · rw [← look_iff, h] at h2; simp at h2
    · simp [h2]
theorem path_loop {T : List Nd} {b : Slot} {n : Int} {l : List Nd} (u : Upw T n l) : ∀ {k : Nat} {acc : List D}, l.length < k → l.length + acc.length < szl →
   whileGo (tE (e2 D.ne (eB 3) (eC (.int 0)))) (sSeq (sApp 2 (e2 D.idx (e2 D.idx (eB 0) (eB 3)) (eC (.int 1)))) (sSet 3 (e2 D.idx (e2 D.idx (eB 0) (eB 3)) (eC (.int 0))))) k
   [.bor (.dct false (bookOf T)), b, .own (.lst acc), .sh (.int n)] = .nx [.bor (.dct false (bookOf T)), b, .own (.lst (acc ++ l.map fun x => .str x.nm)), .sh (.int 0)] := by
  induction u with
  | top =>
    intro k acc hk _
    obtain ⟨k, rfl⟩ : ∃ j, k = j + 1 := ⟨k - 1, by omega⟩
    simp [whileGo]
  | @step n x l hn hx u ih =>
    intro k acc hk hs
    obtain ⟨k, rfl⟩ : ∃ j, k = j + 1 := ⟨k - 1, by simp at hk; omega⟩
    have ha : acc.length < szl := by simp at hs; omega
    simp [whileGo, hn, idx_book hx, ha]
    rw [ih (by simpa using hk) (by simp at hs ⊢; omega)]
    simp
theorem fuel_big {n : Nat} (h : n ≤ 1001) : n < fuel := by unfold fuel; omega
theorem path_in_ok {T : List Nd} (h : Ups T) {n : Int} (hn : n = 0 ∨ n ∈ nums T) : M.m_path_in [.dct false (bookOf T), .int n] = .ok (strD (path T n)) := by
  have u := h.way hn
  have lp := path_loop (b := .sh (.int n)) (acc := []) (k := fuel) u (fuel_big (by have := u.le; have := h.len; omega)) (by have := u.le; have := h.len; have := szl_big; simp; omega)
  refine run_rt rfl ?_
  show M.b_path_in [.bor (.dct false (bookOf T)), .sh (.int n), .un, .un] = _
  simp [M.b_path_in, sWhile, lp, strD, path]
theorem path_L_loop {T : List Nd} {n : Int} {l : List Nd} (u : Upw T n l) : ∀ {k : Nat} {acc : List D}, l.length < k → l.length + acc.length < szl →
   whileGo (tE (e2 D.ne (eB 1) (eC (.int 0)))) (sSeq (sSet 2 (e2 D.add (eLst [(e2 D.idx (e2 D.idx (eB 0) (eB 1)) (eC (.int 1)))]) (eB 2))) (sSet 1 (e2 D.idx (e2 D.idx (eB 0) (eB 1)) (eC (.int 0))))) k
   [.bor (.dct false (bookOf T)), .bor (.int n), .sh (.lst acc)] = .nx [.bor (.dct false (bookOf T)), (if l = [] then .bor (.int 0) else .sh (.int 0)), .sh (.lst ((l.map fun x => .str x.nm).reverse ++ acc))] ∧
   whileGo (tE (e2 D.ne (eB 1) (eC (.int 0)))) (sSeq (sSet 2 (e2 D.add (eLst [(e2 D.idx (e2 D.idx (eB 0) (eB 1)) (eC (.int 1)))]) (eB 2))) (sSet 1 (e2 D.idx (e2 D.idx (eB 0) (eB 1)) (eC (.int 0))))) k
   [.bor (.dct false (bookOf T)), .sh (.int n), .sh (.lst acc)] = .nx [.bor (.dct false (bookOf T)), .sh (.int 0), .sh (.lst ((l.map fun x => .str x.nm).reverse ++ acc))] := by
  induction u with
  | top =>
    intro k acc hk _
    obtain ⟨k, rfl⟩ : ∃ j, k = j + 1 := ⟨k - 1, by omega⟩
    simp [whileGo]
  | @step n x l hn hx u ih =>
    intro k acc hk hs
    obtain ⟨k, rfl⟩ : ∃ j, k = j + 1 := ⟨k - 1, by simp at hk; omega⟩
    have ha : 1 + acc.length ≤ szl := by simp at hs; omega
    simp [whileGo, hn, idx_book hx, D.add, ha]
    rw [(ih (by simpa using hk) (by simp at hs ⊢; omega)).2]
theorem path_L_ok {T : List Nd} (h : Ups T) {n : Int} (hn : n = 0 ∨ n ∈ nums T) : M.m_path_L [.dct false (bookOf T), .int n] = .ok (strD (path T n)) := by
  have u := h.way hn
  have lp := (path_L_loop (acc := []) (k := fuel) u (fuel_big (by have := u.le; have := h.len; omega)) (by have := u.le; have := h.len; have := szl_big; simp; omega)).1
  refine run_rt rfl ?_
  show M.b_path_L [.bor (.dct false (bookOf T)), .bor (.int n), .un] = _
  simp [M.b_path_L, sWhile, lp, strD, path]

/-! ### is_under -/
def undR (T : List Nd) (g : Int) : List Nd → Bool
  | [] => decide (g = 0)
  | x :: l => decide (x.n = g) || undR T g l
theorem undR_eq {T : List Nd} {g : Int} : ∀ l : List Nd, undR T g l = (decide (g = 0) || l.any fun x => decide (x.n = g))
  | [] => by simp [undR]
  | x :: l => by
    rw [undR, undR_eq l, List.any_cons, ← Bool.or_assoc, ← Bool.or_assoc, Bool.or_comm (decide (x.n = g))]
theorem under_loop {T : List Nd} {b c : Slot} {g : Int} (hc : c = .bor (.int g)) {n : Int} {l : List Nd} (u : Upw T n l) : ∀ {k : Nat}, l.length < k → ∃ m,
   whileGo (tAnd (tE (e2 D.ne (eB 3) (eC (.int 0)))) (tE (e2 D.ne (eB 3) (eB 2)))) (sSet 3 (e2 D.idx (e2 D.idx (eB 0) (eB 3)) (eC (.int 0)))) k
   [.bor (.dct false (bookOf T)), b, c, .sh (.int n)] = .nx [.bor (.dct false (bookOf T)), b, c, .sh (.int m)] ∧ decide (m = g) = undR T g l := by
  subst hc
  induction u with
  | top =>
    intro k hk
    obtain ⟨k, rfl⟩ : ∃ j, k = j + 1 := ⟨k - 1, by omega⟩
    exact ⟨0, by simp [whileGo], by simp [undR, eq_comm]⟩
  | @step n x l hn hx u ih =>
    intro k hk
    obtain ⟨k, rfl⟩ : ∃ j, k = j + 1 := ⟨k - 1, by simp at hk; omega⟩
    have e := (look_some hx).2
    by_cases hg : n = g
    · exact ⟨n, by simp [whileGo, hn, hg], by simp [undR, e, hg]⟩
    · obtain ⟨m, h1, h2⟩ := ih (k := k) (by simpa using hk)
      exact ⟨m, by simp [whileGo, hn, hg, idx_book hx, h1], by rw [h2]; simp [undR, e, hg]⟩
theorem under_undR {T : List Nd} {n g : Int} : undR T g (way T n) = under T n g := by rw [undR_eq]; rfl
theorem is_under_ok {T : List Nd} (h : Ups T) {n g : Int} (hn : n = 0 ∨ n ∈ nums T) : M.m_is_under [.dct false (bookOf T), .int n, .int g] = .ok (.bl (under T n g)) := by
  have u := h.way hn
  obtain ⟨m, lp, e⟩ := under_loop (b := .sh (.int n)) (g := g) rfl (k := fuel) u (fuel_big (by have := u.le; have := h.len; omega))
  refine run_rt rfl ?_
  show M.b_is_under [.bor (.dct false (bookOf T)), .sh (.int n), .bor (.int g), .un] = _
  rw [under_undR] at e
  simp [M.b_is_under, sWhile, lp, e]
theorem under_L_loop {T : List Nd} {g : Int} {n : Int} {l : List Nd} (u : Upw T n l) : ∀ {k : Nat}, l.length < k → ∀ z, (z = Slot.bor (.int n) ∨ z = .sh (.int n)) → ∃ m s, (s = Slot.bor (.int m) ∨ s = .sh (.int m)) ∧
   whileGo (tAnd (tE (e2 D.ne (eB 1) (eC (.int 0)))) (tE (e2 D.ne (eB 1) (eB 2)))) (sSet 1 (e2 D.idx (e2 D.idx (eB 0) (eB 1)) (eC (.int 0)))) k
   [.bor (.dct false (bookOf T)), z, .bor (.int g)] = .nx [.bor (.dct false (bookOf T)), s, .bor (.int g)] ∧ decide (m = g) = undR T g l := by
  induction u with
  | top =>
    intro k hk z hz
    obtain ⟨k, rfl⟩ : ∃ j, k = j + 1 := ⟨k - 1, by omega⟩
    refine ⟨0, z, hz, ?_, by simp [undR, eq_comm]⟩
    rcases hz with rfl | rfl <;> simp [whileGo]
  | @step n x l hn hx u ih =>
    intro k hk z hz
    obtain ⟨k, rfl⟩ : ∃ j, k = j + 1 := ⟨k - 1, by simp at hk; omega⟩
    have e := (look_some hx).2
    by_cases hg : n = g
    · refine ⟨n, z, hz, ?_, by simp [undR, e, hg]⟩
      rcases hz with rfl | rfl <;> simp [whileGo, hn, hg]
    · obtain ⟨m, s, h0, h1, h2⟩ := ih (k := k) (by simpa using hk) _ (.inr rfl)
      refine ⟨m, s, h0, ?_, by rw [h2]; simp [undR, e, hg]⟩
      rcases hz with rfl | rfl <;> simp [whileGo, hn, hg, idx_book hx, h1]
theorem under_L_ok {T : List Nd} (h : Ups T) {n g : Int} (hn : n = 0 ∨ n ∈ nums T) : M.m_under_L [.dct false (bookOf T), .int n, .int g] = .ok (.bl (under T n g)) := by
  have u := h.way hn
  obtain ⟨m, s, hs, lp, e⟩ := under_L_loop (g := g) (k := fuel) u (fuel_big (by have := u.le; have := h.len; omega)) _ (.inl rfl)
  refine run_rt rfl ?_
  show M.b_under_L [.bor (.dct false (bookOf T)), .bor (.int n), .bor (.int g)] = _
  rw [under_undR] at e
  rcases hs with rfl | rfl <;> simp [M.b_under_L, sWhile, lp, e]

/-! ### books, looks -/
theorem book_ok2 {T : List Nd} (nd : (nums T).Nodup) (hl : T.length ≤ 1000) : M.m_book_L [encT T] = .ok (.dct false (bookOf T)) := book_ok nd hl
theorem has_l {x : D} {ys : List D} (h : x.good = true) (g : D.pl 40 (.lst ys) = true) : D.has x (.lst ys) = some (ys.any fun y => D.eqv y x) := by
  cases x <;> simp [D.has, h, g]
theorem has_t {x : D} {ys : List D} (h : x.good = true) (g : D.pl 40 (.tup ys) = true) : D.has x (.tup ys) = some (ys.any fun y => D.eqv y x) := by
  cases x <;> simp [D.has, h, g]
theorem notIn_l {x : D} {ys : List D} (h : x.good = true) (g : D.pl 40 (.lst ys) = true) : D.notIn x (.lst ys) = .ok (.bl (!(ys.any fun y => D.eqv y x))) := by
  unfold D.notIn; rw [has_l h g]; rfl
theorem isIn_l {x : D} {ys : List D} (h : x.good = true) (g : D.pl 40 (.lst ys) = true) : D.isIn x (.lst ys) = .ok (.bl (ys.any fun y => D.eqv y x)) := by
  unfold D.isIn; rw [has_l h g]; rfl
theorem isIn_t {x : D} {ys : List D} (h : x.good = true) (g : D.pl 40 (.tup ys) = true) : D.isIn x (.tup ys) = .ok (.bl (ys.any fun y => D.eqv y x)) := by
  unfold D.isIn; rw [has_t h g]; rfl
theorem notIn_t {x : D} {ys : List D} (h : x.good = true) (g : D.pl 40 (.tup ys) = true) : D.notIn x (.tup ys) = .ok (.bl (!(ys.any fun y => D.eqv y x))) := by
  unfold D.notIn; rw [has_t h g]; rfl
theorem any_num (T : List Nd) (n : Int) : ((T.map fun x => D.int x.n).any fun y => D.eqv y (.int n)) = decide (n ∈ nums T) := by
  induction T with
  | nil => rfl
  | cons x T ih =>
    simp only [List.map_cons, List.any_cons, ih]
    by_cases h : x.n = n
    · simp [D.eqv, h]
    · have h' : ¬ n = x.n := fun z => h z.symm
      simp [D.eqv, h, h', nums]
theorem notIn_nums {T : List Nd} {n : Int} : D.notIn (.int n) (.lst (T.map fun x => D.int x.n)) = .ok (.bl (!decide (n ∈ nums T))) := by
  have hp : D.pl 40 (.lst (T.map fun x => D.int x.n)) = true := by simp [D.pl]; exact pls_mem fun x m => by obtain ⟨y, _, rfl⟩ := List.mem_map.mp m; simp [D.pl]
  rw [notIn_l (by simp [D.good, D.pl]) hp, any_num]
theorem comp_nums {T : List Nd} (hl : T.length ≤ 1000) (i : Nat) {e : Env} (g : ∀ y, eB i ((blkE [i] e).set i (.sh y)) = .ok y) : compGo (compTurn [i] (gN i) tTrue (e2 D.idx (eB i) (eC (.int 0))) e) (T.map Nd.enc) = .ok (T.map fun x => D.int x.n) := by
  refine compGo_map fun x _ => ?_
  unfold compTurn gN tTrue e2
  simp only [Res.bind_ok]
  rw [g]
  rfl
theorem look_node_ok {T : List Nd} (hl : T.length ≤ 1000) (n : Int) : M.m_look_node [encT T, .int n] = if n ∈ nums T then .ok .non else .err 1 := by
  have h1 : T.length < szl := small_szl (by omega)
  have c : compGo (compTurn [2] (gN 2) tTrue (e2 D.idx (eB 2) (eC (.int 0))) [.bor (encT T), .bor (.int n), .un]) (T.map Nd.enc) = .ok (T.map fun x => D.int x.n) := comp_nums hl 2 fun y => rfl
  unfold M.m_look_node M.b_look_node runD
  unfold encT at c ⊢
  by_cases h : n ∈ nums T
  · simp [- ev_turn, c, h1, notIn_nums, h]
  · simp [- ev_turn, c, h1, notIn_nums, h]
end Tw

set_option autoImplicit false
set_option linter.all false
/-! Tw, plain: whole trees, and deeds on them (no code here). -/
namespace Tw
theorem look_at {T : List Nd} (nd : (nums T).Nodup) {n : Int} {x : Nd} : look T n = some x ↔ x ∈ T ∧ x.n = n :=
  ⟨look_some, fun ⟨h, e⟩ => by rw [← e]; exact look_of nd h⟩
theorem Nd.good_n {x : Nd} (h : x.good = true) : 1 ≤ x.n := by
  unfold Nd.good at h; simp only [Bool.and_eq_true, decide_eq_true_eq] at h; exact h.1.1.1
theorem Nd.good_p {x : Nd} (h : x.good = true) : 0 ≤ x.p := by
  unfold Nd.good at h; simp only [Bool.and_eq_true, decide_eq_true_eq] at h; exact h.1.1.2
theorem Nd.good_nm {x : Nd} (h : x.good = true) : goodName x.nm = true := by
  unfold Nd.good at h; simp only [Bool.and_eq_true, decide_eq_true_eq] at h; exact h.1.2
theorem Nd.good_st {x : Nd} (h : x.good = true) : goodSt x.st = true := by
  unfold Nd.good at h; simp only [Bool.and_eq_true, decide_eq_true_eq] at h; exact h.2
theorem Nd.good_mk {n p : Int} {nm : Nm} {st : Option Int} (h1 : 1 ≤ n) (h2 : 0 ≤ p) (h3 : goodName nm = true) (h4 : goodSt st = true) : (Nd.mk n p nm st).good = true := by
  unfold Nd.good; simp only [Bool.and_eq_true, decide_eq_true_eq]; exact ⟨⟨⟨h1, h2⟩, h3⟩, h4⟩
theorem up_look {T U : List Nd} (h : ∀ n x, look T n = some x → look U n = some x) {n : Int} {l : List Nd} (u : Upw T n l) : Upw U n l := by
  induction u with
  | top => exact .top
  | step a b _ ih => exact .step a (h _ _ b) ih
/-- over folders to the top -/
def Fup (T : List Nd) (n : Int) : Prop := ∃ l, Upw T n l ∧ ∀ y ∈ l.tail, y.st = none
/-- a whole tree, its nodes in any order -/
structure Wh (T : List Nd) : Prop where
  good : ∀ x ∈ T, x.good = true
  nd : (nums T).Nodup
  sp : (spots T).Nodup
  up : ∀ x ∈ T, Fup T x.n
theorem Wh.pos {T : List Nd} (h : Wh T) : ∀ x ∈ T, x.n ≠ 0 := fun x hx => by have := Nd.good_n (h.good x hx); omega
theorem look_perm {T U : List Nd} (nd : (nums T).Nodup) (p : T.Perm U) (n : Int) : look U n = look T n := by
  have ndU : (nums U).Nodup := (p.map (·.n)).nodup_iff.mp nd
  cases e : look T n with
  | none =>
    cases e2 : look U n with
    | none => rfl
    | some x =>
      have := look_some e2
      rw [(look_at nd).mpr ⟨p.mem_iff.mpr this.1, this.2⟩] at e
      cases e
  | some x =>
    have := look_some e
    exact (look_at ndU).mpr ⟨p.mem_iff.mp this.1, this.2⟩
theorem Fup.look {T U : List Nd} (h : ∀ n x, look T n = some x → look U n = some x) {n : Int} (f : Fup T n) : Fup U n := by
  obtain ⟨l, u, q⟩ := f
  exact ⟨l, up_look h u, q⟩
theorem Wh.perm {T U : List Nd} (h : Wh T) (p : T.Perm U) : Wh U where
  good := fun x hx => h.good x (p.mem_iff.mpr hx)
  nd := (p.map (·.n)).nodup_iff.mp h.nd
  sp := (p.map _).nodup_iff.mp h.sp
  up := fun x hx => (h.up x (p.mem_iff.mpr hx)).look fun n y e => by rw [look_perm h.nd p]; exact e
/-- a tree as the program has it -/
structure Tr (T : List Nd) : Prop extends Wh T where
  pw : T.Pairwise fun a b => a.n < b.n
  len : T.length ≤ 1000
theorem Tr.ups {T : List Nd} (h : Tr T) : Ups T := ⟨h.nd, h.pos, h.len, fun x hx => let ⟨l, u, _⟩ := h.up x hx; ⟨l, u⟩⟩
theorem Wh.sort {T : List Nd} (h : Wh T) (hl : T.length ≤ 1000) : Tr (sortN T) :=
  { h.perm (sortN_perm T).symm with
    pw := sorted_strict (sortN_pw T) ((sortN_perm T).map (·.n) |>.nodup_iff.mpr h.nd)
    len := by rw [(sortN_perm T).length_eq]; exact hl }
theorem sortN_id {T : List Nd} (pw : T.Pairwise fun a b => a.n < b.n) : sortN T = T :=
  List.mergeSort_of_pairwise (pw.imp fun h => by unfold byN; simp; omega)
theorem isTree_wh {T : List Nd} (g : ∀ x ∈ T, x.good = true) (h : isTree T = true) : Wh T ∧ T.Pairwise fun a b => a.n < b.n := by
  have hu := isTree_up2 g h
  unfold isTree at h
  simp only [Bool.and_eq_true, decide_eq_true_eq] at h
  have pw : (nums T).Pairwise (· < ·) := by rw [h.1]; exact setI_pw _
  have pw' : T.Pairwise fun a b => a.n < b.n := List.pairwise_map.mp pw
  exact ⟨⟨g, pw.imp fun h => by omega, h.2.1, hu⟩, pw'⟩
theorem up_upsR {T : List Nd} {n : Int} {l : List Nd} (u : Upw T n l) : n ≠ 0 → (∀ y ∈ l.tail, y.st = none) → ∀ k, l.length ≤ k → upsR T k n = some true := by
  induction u with
  | top => intro h; exact absurd rfl h
  | @step n x l hn hx u ih =>
    intro _ hf k hk
    cases k with
    | zero => simp at hk
    | succ k =>
      simp only [upsR, hx]
      by_cases hp : x.p = 0
      · simp [hp]
      · rw [if_neg hp]
        generalize hq : x.p = q at u ih hp
        cases u with
        | top => exact absurd rfl hp
        | step _ e2 u2 =>
          rename_i y l2 _
          have hy : y.st = none := hf y (by simp)
          simp only [e2, hy]
          exact ih hp (fun z hz => hf z (by simp only [List.tail_cons] at hz ⊢; exact List.mem_cons_of_mem _ hz)) k (by simpa using hk)
theorem Tr.tree {T : List Nd} (h : Tr T) : isTree T = true := by
  unfold isTree
  simp only [Bool.and_eq_true, decide_eq_true_eq, List.all_eq_true]
  refine ⟨(setI_id (List.pairwise_map.mpr h.pw)).symm, h.sp, fun x hx => ?_⟩
  obtain ⟨l, u, q⟩ := h.up x hx
  unfold Tw.ups
  rw [up_upsR u (h.pos x hx) q _ u.le]
  rfl
theorem IsT.wh {T : List Nd} (h : IsT T) : Wh T := (isTree_wh h.good h.tree).1
theorem IsT.tr {T : List Nd} (h : IsT T) (hl : T.length ≤ 1000) : Tr T := { h.wh with pw := h.pw, len := hl }
theorem drawn_tr (ns : List Int) (at_ most : Nat) (h : most ≤ 1000) : Tr (drawn ns at_ most) := (drawn_isT ns at_ most).tr (by have := drawn_len ns at_ most; omega)

/-! ### deeds -/
/-- a folder of the tree, or the top -/
def Fol (T : List Nd) (p : Int) : Prop := p = 0 ∨ ∃ x ∈ T, x.n = p ∧ x.st = none
theorem Fol.fup {T : List Nd} (h : Wh T) {p : Int} (f : Fol T p) : ∃ l, Upw T p l ∧ ∀ y ∈ l, y.st = none := by
  rcases f with rfl | ⟨x, hx, rfl, hs⟩
  · exact ⟨[], .top, by simp⟩
  · obtain ⟨l, u, q⟩ := h.up x hx
    refine ⟨l, u, fun y hy => ?_⟩
    generalize hn : x.n = m at u
    cases u with
    | top => simp at hy
    | step hz e u2 =>
      rw [(look_at h.nd).mpr ⟨hx, hn⟩] at e
      cases e
      rcases List.mem_cons.mp hy with rfl | hy
      · exact hs
      · exact q y (by simpa using hy)
theorem Wh.snoc {T : List Nd} (h : Wh T) {x : Nd} (g : x.good = true) (hn : x.n ∉ nums T) (hs : (x.p, x.nm) ∉ spots T) (hf : Fol T x.p) : Wh (T ++ [x]) := by
  have nd : (nums (T ++ [x])).Nodup := by
    unfold nums
    rw [List.map_append, List.nodup_append]
    refine ⟨h.nd, by simp, fun a ha b hb => ?_⟩
    simp at hb; subst hb
    exact fun e => hn (e ▸ ha)
  have lk : ∀ n y, look T n = some y → look (T ++ [x]) n = some y := fun n y e => (look_at nd).mpr ⟨List.mem_append_left _ (look_some e).1, (look_some e).2⟩
  refine ⟨fun y hy => ?_, nd, ?_, fun y hy => ?_⟩
  · rcases List.mem_append.mp hy with hy | hy
    · exact h.good y hy
    · rw [List.mem_singleton.mp hy]; exact g
  · unfold spots
    rw [List.map_append, List.nodup_append]
    refine ⟨h.sp, by simp, fun a ha b hb => ?_⟩
    simp at hb; subst hb
    exact fun e => hs (e ▸ ha)
  · rcases List.mem_append.mp hy with hy | hy
    · exact (h.up y hy).look lk
    · rw [List.mem_singleton.mp hy]
      obtain ⟨l, u, q⟩ := hf.fup h
      exact ⟨x :: l, .step (by have := Nd.good_n g; omega) ((look_at nd).mpr ⟨by simp, rfl⟩) (up_look lk u), by simpa using q⟩
/-- x in the stead of the node with its number -/
def repN (T : List Nd) (x : Nd) : List Nd := T.map fun y => if y.n = x.n then x else y
theorem nums_rep (T : List Nd) (x : Nd) : nums (repN T x) = nums T := by
  unfold nums repN
  rw [List.map_map]
  refine List.map_congr_left fun y _ => ?_
  by_cases h : y.n = x.n <;> simp [h]
theorem mem_rep {T : List Nd} {x z : Nd} : z ∈ repN T x ↔ (z = x ∧ x.n ∈ nums T) ∨ (z ∈ T ∧ z.n ≠ x.n) := by
  unfold repN
  rw [List.mem_map]
  constructor
  · rintro ⟨y, hy, rfl⟩
    by_cases h : y.n = x.n
    · rw [if_pos h]; exact .inl ⟨rfl, List.mem_map.mpr ⟨y, hy, h⟩⟩
    · rw [if_neg h]; exact .inr ⟨hy, h⟩
  · rintro (⟨rfl, h⟩ | ⟨h, g⟩)
    · obtain ⟨y, hy, e⟩ := List.mem_map.mp h
      exact ⟨y, hy, by rw [if_pos e]⟩
    · exact ⟨z, h, by rw [if_neg g]⟩
theorem look_rep {T : List Nd} (nd : (nums T).Nodup) {x : Nd} (hx : x.n ∈ nums T) (n : Int) : look (repN T x) n = if n = x.n then some x else look T n := by
  have nd2 : (nums (repN T x)).Nodup := by rw [nums_rep]; exact nd
  by_cases h : n = x.n
  · rw [if_pos h]
    exact (look_at nd2).mpr ⟨mem_rep.mpr (.inl ⟨rfl, hx⟩), h.symm⟩
  · rw [if_neg h]
    cases e : look T n with
    | none =>
      cases e2 : look (repN T x) n with
      | none => rfl
      | some y =>
        have := look_some e2
        rcases mem_rep.mp this.1 with ⟨rfl, _⟩ | ⟨h1, _⟩
        · exact absurd this.2.symm h
        · rw [(look_at nd).mpr ⟨h1, this.2⟩] at e; cases e
    | some y =>
      have := look_some e
      exact (look_at nd2).mpr ⟨mem_rep.mpr (.inr ⟨this.1, fun z => h (this.2.symm.trans z)⟩), this.2⟩
theorem spots_rep {T : List Nd} (h : Wh T) {x : Nd} (hs : ∀ y ∈ T, y.n ≠ x.n → (y.p, y.nm) ≠ (x.p, x.nm)) : (spots (repN T x)).Nodup := by
  unfold spots repN
  rw [List.map_map]
  refine List.pairwise_map.mpr ?_
  have h1 := List.pairwise_map.mp h.sp
  have h2 := List.pairwise_map.mp h.nd
  refine (List.Pairwise.and_mem.mp (h1.and h2)).imp fun {a b} ⟨ha, hb, ⟨q, r⟩⟩ => ?_
  simp only [Function.comp]
  by_cases ea : a.n = x.n
  · have eb : ¬ b.n = x.n := fun z => r (ea.trans z.symm)
    rw [if_pos ea, if_neg eb]
    exact fun z => hs b hb eb z.symm
  · rw [if_neg ea]
    by_cases eb : b.n = x.n
    · rw [if_pos eb]; exact hs a ha ea
    · rw [if_neg eb]; exact q
/-- a file written anew: the way up stays -/
theorem Wh.write {T : List Nd} (h : Wh T) {x : Nd} (hx : x ∈ T) {st : Option Int} (hst : x.st = none → st = none) (g : goodSt st = true) : Wh (repN T { x with st := st }) := by
  have hn : x.n ∈ nums T := List.mem_map.mpr ⟨x, hx, rfl⟩
  have lk := look_rep h.nd (x := { x with st := st }) hn
  have key : ∀ {n l}, Upw T n l → ∃ m, Upw (repN T { x with st := st }) n m ∧ m = l.map (fun y => if y.n = x.n then { x with st := st } else y) := by
    intro n l u
    induction u with
    | top => exact ⟨_, .top, rfl⟩
    | @step n y l a b u ih =>
      obtain ⟨m, h1, h2⟩ := ih
      have hy := look_some b
      by_cases e : n = x.n
      · have : y = x := nodup_inj h.nd hy.1 hx (hy.2.trans e)
        subst this
        exact ⟨{ y with st := st } :: m, .step a (by rw [lk, if_pos e]) h1, by simp [h2]⟩
      · exact ⟨y :: m, .step a (by rw [lk, if_neg e]; exact b) h1, by simp [h2, hy.2, e]⟩
  refine ⟨fun y hy => ?_, by rw [nums_rep]; exact h.nd, spots_rep h fun y hy e z => ?_, fun y hy => ?_⟩
  · rcases mem_rep.mp hy with ⟨rfl, _⟩ | ⟨hy, _⟩
    · have := h.good x hx
      exact Nd.good_mk (Nd.good_n this) (Nd.good_p this) (Nd.good_nm this) g
    · exact h.good y hy
  · have h1 := List.pairwise_map.mp h.sp
    have : y = x := by
      have ne : y ≠ x := fun z => e (by rw [z])
      exact absurd z (by
        have := List.pairwise_iff_getElem.mp h1
        obtain ⟨i, hi, rfl⟩ := List.mem_iff_getElem.mp hy
        obtain ⟨j, hj, rfl⟩ := List.mem_iff_getElem.mp hx
        rcases Nat.lt_trichotomy i j with q | q | q
        · exact this i j hi hj q
        · subst q; exact absurd rfl ne
        · exact fun w => this j i hj hi q w.symm)
    exact e (by rw [this])
  · have : ∃ z ∈ T, z.n = y.n := by
      rcases mem_rep.mp hy with ⟨rfl, _⟩ | ⟨hy, _⟩
      · exact ⟨x, hx, rfl⟩
      · exact ⟨y, hy, rfl⟩
    obtain ⟨z, hz, ez⟩ := this
    obtain ⟨l, u, q⟩ := h.up z hz
    rw [ez] at u
    obtain ⟨m, h1, h2⟩ := key u
    refine ⟨m, h1, ?_⟩
    rw [h2]
    intro w hw
    rw [← List.map_tail] at hw
    obtain ⟨v, hv, rfl⟩ := List.mem_map.mp hw
    by_cases e : v.n = x.n
    · rw [if_pos e]
      have hvT := u.mem v (List.mem_of_mem_tail hv)
      have : v = x := nodup_inj h.nd hvT hx e
      exact hst (by rw [← this]; exact q v hv)
    · rw [if_neg e]; exact q v hv
end Tw

set_option autoImplicit false
set_option linter.all false
/-! Tw, plain: deeds: moved, dropped; what comes of a deed. -/
namespace Tw
theorem way_num {T : List Nd} (h : Wh T) {n : Int} (hn : n = 0 ∨ n ∈ nums T) : Upw T n (way T n) := by
  rcases hn with rfl | hn
  · have : Upw T 0 [] := .top
    rw [this.way]; exact this
  · obtain ⟨x, hx, rfl⟩ := List.mem_map.mp hn
    obtain ⟨l, hl, _⟩ := h.up x hx
    rw [hl.way]; exact hl
theorem under_iff {T : List Nd} {n g : Int} : under T n g = true ↔ g = 0 ∨ g ∈ (way T n).map (·.n) := by
  unfold under
  simp [List.any_eq_true]
/-- a node moved -/
theorem Wh.move {T : List Nd} (h : Wh T) {x : Nd} (hx : x ∈ T) {p : Int} {nm : Nm} (hp : 0 ≤ p) (hnm : goodName nm = true) (hf : Fol T p) (hu : p ≠ 0 → under T p x.n = false) (hs : ∀ y ∈ T, y.n ≠ x.n → (y.p, y.nm) ≠ (p, nm)) : Wh (repN T { x with p := p, nm := nm }) := by
  have hn : x.n ∈ nums T := List.mem_map.mpr ⟨x, hx, rfl⟩
  have hx0 := h.pos x hx
  have lk := look_rep h.nd (x := { x with p := p, nm := nm }) hn
  -- the way of p stays
  have stay : ∀ {n l}, Upw T n l → x.n ∉ l.map (·.n) → Upw (repN T { x with p := p, nm := nm }) n l := by
    intro n l u
    induction u with
    | top => intro _; exact .top
    | @step n y l a b u ih =>
      intro q
      simp only [List.map_cons, List.mem_cons, not_or] at q
      exact .step a (by rw [lk, if_neg (fun e => q.1 (e.symm.trans (look_some b).2.symm))]; exact b) (ih q.2)
  obtain ⟨lp, up_, qp⟩ := hf.fup h
  have np : x.n ∉ lp.map (·.n) := by
    by_cases z : p = 0
    · subst z
      cases up_ with
      | top => simp
      | step a _ _ => exact absurd rfl a
    · intro m
      have := hu z
      rw [Bool.eq_false_iff] at this
      exact this (under_iff.mpr (.inr (by rw [up_.way]; exact m)))
  have newx : Upw (repN T { x with p := p, nm := nm }) x.n ({ x with p := p, nm := nm } :: lp) := .step hx0 (by rw [lk, if_pos rfl]) (stay up_ np)
  have key : ∀ {n l}, Upw T n l → (∀ y ∈ l, y ≠ x → ∀ z ∈ l.tail, True) → (∀ y ∈ l.tail, y.st = none) → ∃ m, Upw (repN T { x with p := p, nm := nm }) n m ∧ (∀ y ∈ m.tail, y.st = none) ∧ ((∀ y ∈ l, y.st = none) → ∀ y ∈ m, y.st = none) := by
    intro n l u
    induction u with
    | top => intro _ _; exact ⟨[], .top, by simp, by simp⟩
    | @step n y l a b u ih =>
      intro _ q
      simp only [List.tail_cons] at q
      obtain ⟨m, h1, h2, h3⟩ := ih (fun _ _ _ _ _ => trivial) fun z hz => q z (List.mem_of_mem_tail hz)
      have hy := look_some b
      by_cases e : n = x.n
      · have : y = x := nodup_inj h.nd hy.1 hx (hy.2.trans e)
        subst this
        refine ⟨_, by rw [e]; exact newx, by simpa using qp, fun k z hz => ?_⟩
        rcases List.mem_cons.mp hz with rfl | hz
        · exact k y List.mem_cons_self
        · exact qp z hz
      · refine ⟨y :: m, .step a (by rw [lk, if_neg e]; exact b) h1, ?_, fun k z hz => ?_⟩
        · simpa using h3 q
        · rcases List.mem_cons.mp hz with rfl | hz
          · exact k z List.mem_cons_self
          · exact h3 (fun w hw => k w (List.mem_cons_of_mem _ hw)) z hz
  refine ⟨fun y hy => ?_, by rw [nums_rep]; exact h.nd, spots_rep h fun y hy e => hs y hy e, fun y hy => ?_⟩
  · rcases mem_rep.mp hy with ⟨rfl, _⟩ | ⟨hy, _⟩
    · have := h.good x hx
      exact Nd.good_mk (Nd.good_n this) hp hnm (Nd.good_st this)
    · exact h.good y hy
  · have : ∃ z ∈ T, z.n = y.n := by
      rcases mem_rep.mp hy with ⟨rfl, _⟩ | ⟨hy, _⟩
      · exact ⟨x, hx, rfl⟩
      · exact ⟨y, hy, rfl⟩
    obtain ⟨z, hz, ez⟩ := this
    obtain ⟨l, u, q⟩ := h.up z hz
    rw [ez] at u
    obtain ⟨m, h1, h2, _⟩ := key u (fun _ _ _ _ _ => trivial) q
    exact ⟨m, h1, h2⟩
/-- a part of the nodes with which the parents come -/
theorem Wh.part {T : List Nd} (h : Wh T) (f : Nd → Bool) (hf : ∀ x ∈ T, f x = true → x.p = 0 ∨ ∃ y ∈ T, y.n = x.p ∧ f y = true) : Wh (T.filter f) := by
  have sub : ∀ {α : Type} (g : Nd → α), (T.map g).Nodup → ((T.filter f).map g).Nodup := fun g k => k.sublist (List.filter_sublist.map g)
  have nd := sub _ h.nd
  have key : ∀ {n l}, Upw T n l → (n = 0 ∨ ∃ y ∈ T, y.n = n ∧ f y = true) → Upw (T.filter f) n l := by
    intro n l u
    induction u with
    | top => intro _; exact .top
    | @step n y l a b u ih =>
      intro q
      rcases q with q | ⟨z, hz, e, fz⟩
      · exact absurd q a
      · have hy := look_some b
        have : z = y := nodup_inj h.nd hz hy.1 (e.trans hy.2.symm)
        subst this
        exact .step a ((look_at nd).mpr ⟨List.mem_filter.mpr ⟨hz, fz⟩, e⟩) (ih (hf z hz fz))
  refine ⟨fun x hx => h.good x (List.mem_filter.mp hx).1, nd, sub _ h.sp, fun x hx => ?_⟩
  obtain ⟨hx, fx⟩ := List.mem_filter.mp hx
  obtain ⟨l, u, q⟩ := h.up x hx
  exact ⟨l, key u (.inr ⟨x, hx, rfl, fx⟩), q⟩
theorem way_par {T : List Nd} (h : Wh T) {x : Nd} (hx : x ∈ T) : way T x.n = x :: way T x.p := by
  obtain ⟨l, u, _⟩ := h.up x hx
  rw [u.way]
  have hn := h.pos x hx
  generalize e : x.n = n at u hn
  cases u with
  | top => exact absurd rfl hn
  | step a b u =>
    rw [(look_at h.nd).mpr ⟨hx, e⟩] at b
    cases b
    rw [u.way]
theorem par_in {T : List Nd} (h : Wh T) {x : Nd} (hx : x ∈ T) : x.p = 0 ∨ ∃ y ∈ T, y.n = x.p ∧ y.st = none := by
  obtain ⟨l, u, q⟩ := h.up x hx
  generalize e : x.n = n at u
  cases u with
  | top => exact absurd e (h.pos x hx)
  | step a b u =>
    rw [(look_at h.nd).mpr ⟨hx, e⟩] at b
    cases b
    generalize e2 : x.p = m at u
    cases u with
    | top => exact .inl rfl
    | step c d u2 => exact .inr ⟨_, (look_some d).1, (look_some d).2, q _ (by simp)⟩
theorem under_par {T : List Nd} (h : Wh T) {x : Nd} (hx : x ∈ T) (g : Int) : under T x.n g = (decide (x.n = g) || under T x.p g) := by
  unfold under
  rw [way_par h hx, List.any_cons]
  by_cases h1 : g = 0 <;> by_cases h2 : x.n = g <;> simp [h1, h2]
theorem Wh.drop {T : List Nd} (h : Wh T) (n : Int) : Wh (T.filter fun x => !under T x.n n) := by
  refine h.part _ fun x hx fx => ?_
  rw [under_par h hx] at fx
  simp only [Bool.not_or, Bool.and_eq_true] at fx
  rcases par_in h hx with q | ⟨y, hy, e, _⟩
  · exact .inl q
  · exact .inr ⟨y, hy, e, by rw [e]; exact fx.2⟩

/-! ### deeds -/
inductive Deed where
  | make (n p : Int) (nm : Nm) (st : Option Int)
  | write (n : Int) (st : Int)
  | move (n p : Int) (nm : Nm)
  | drop (n : Int)
def Deed.num : Deed → Int
  | .make n _ _ _ => n
  | .write n _ => n
  | .move n _ _ => n
  | .drop n => n
def sMake : Nm := [109, 97, 107, 101]
def sWrite : Nm := [119, 114, 105, 116, 101]
def sMove : Nm := [109, 111, 118, 101]
def sDrp : Nm := [100, 114, 111, 112]
def Deed.enc : Deed → D
  | .make n p nm st => .tup [.str sMake, .int n, .int p, .str nm, stD st]
  | .write n st => .tup [.str sWrite, .int n, .int st]
  | .move n p nm => .tup [.str sMove, .int n, .int p, .str nm]
  | .drop n => .tup [.str sDrp, .int n]
/-- of the right kinds -/
def Deed.good : Deed → Bool
  | .make n p nm st => decide (1 ≤ n) && decide (0 ≤ p) && goodName nm && goodSt st
  | .write _ st => goodSt (some st)
  | .move _ p nm => decide (0 ≤ p) && goodName nm
  | .drop n => decide (n ≠ 0)
/-- no such folder (1), a file (3) -/
def parE (T : List Nd) (p : Int) : Option Nat :=
  if p = 0 then none else match look T p with
    | none => some 1
    | some x => if x.st = none then none else some 3
def takenE (T : List Nd) (n p : Int) (nm : Nm) : Bool := T.any fun y => !decide (y.n = n) && decide ((y.p, y.nm) = (p, nm))
/-- what comes of a deed: a tree, or an error -/
def doneV (T : List Nd) : Deed → Except Nat (List Nd)
  | .make n p nm st => if n ∈ nums T then .error 2 else match parE T p with
    | some c => .error c
    | none => if takenE T n p nm then .error 6 else .ok (sortN (T ++ [⟨n, p, nm, st⟩]))
  | .write n st => match look T n with
    | none => .error 1
    | some x => if x.st = none then .error 4 else .ok (repN T { x with st := some st })
  | .move n p nm => match look T n with
    | none => .error 1
    | some x => match parE T p with
      | some c => .error c
      | none => if p ≠ 0 ∧ under T p n = true then .error 5 else if takenE T n p nm then .error 6 else .ok (repN T { x with p := p, nm := nm })
  | .drop n => if n ∈ nums T then .ok (T.filter fun x => !under T x.n n) else .error 1
theorem parE_fol {T : List Nd} {p : Int} (h : parE T p = none) : Fol T p := by
  unfold parE at h
  by_cases z : p = 0
  · exact .inl z
  · rw [if_neg z] at h
    cases e : look T p with
    | none => rw [e] at h; simp at h
    | some x =>
      rw [e] at h
      simp only at h
      have := look_some e
      by_cases q : x.st = none
      · exact .inr ⟨x, this.1, this.2, q⟩
      · rw [if_neg q] at h; cases h
theorem takenE_not {T : List Nd} {n p : Int} {nm : Nm} (h : takenE T n p nm = false) : ∀ y ∈ T, y.n ≠ n → (y.p, y.nm) ≠ (p, nm) := fun y hy hn e => by
  unfold takenE at h
  rw [List.any_eq_false] at h
  exact h y hy (by simp only [Bool.and_eq_true, decide_eq_true_eq, Bool.not_eq_true', decide_eq_false_iff_not]; exact ⟨hn, e⟩)
theorem rep_pw {T : List Nd} (pw : T.Pairwise fun a b => a.n < b.n) (x : Nd) : (repN T x).Pairwise fun a b => a.n < b.n := by
  have : (nums (repN T x)).Pairwise (· < ·) := by rw [nums_rep]; exact List.pairwise_map.mpr pw
  exact List.pairwise_map.mp this
theorem done_wh {T : List Nd} (h : Tr T) {d : Deed} (g : d.good = true) {U : List Nd} (e : doneV T d = .ok U) : Wh U ∧ U.Pairwise (fun a b => a.n < b.n) ∧ U.length ≤ T.length + 1 := by
  cases d with
  | make n p nm st =>
    simp only [doneV] at e
    simp only [Deed.good, Bool.and_eq_true, decide_eq_true_eq] at g
    by_cases hn : n ∈ nums T
    · rw [if_pos hn] at e; cases e
    · rw [if_neg hn] at e
      cases hp : parE T p with
      | some c => rw [hp] at e; cases e
      | none =>
        rw [hp] at e
        simp only at e
        cases ht : takenE T n p nm with
        | true => rw [ht] at e; simp at e
        | false =>
          rw [ht] at e
          simp only [Bool.false_eq_true, if_false] at e
          cases e
          have w : Wh (T ++ [⟨n, p, nm, st⟩]) := h.toWh.snoc (x := ⟨n, p, nm, st⟩) (Nd.good_mk g.1.1.1 g.1.1.2 g.1.2 g.2) hn (fun m => by
            obtain ⟨y, hy, ey⟩ := List.mem_map.mp m
            exact takenE_not ht y hy (fun z => hn (List.mem_map.mpr ⟨y, hy, z⟩)) ey) (parE_fol hp)
          refine ⟨w.perm (sortN_perm _).symm, sorted_strict (sortN_pw _) ((sortN_perm _).map (·.n) |>.nodup_iff.mpr w.nd), ?_⟩
          rw [(sortN_perm _).length_eq]; simp
  | write n st =>
    simp only [doneV] at e
    cases hl : look T n with
    | none => rw [hl] at e; cases e
    | some x =>
      rw [hl] at e
      simp only at e
      by_cases hs : x.st = none
      · rw [if_pos hs] at e; cases e
      · rw [if_neg hs] at e
        cases e
        exact ⟨h.toWh.write (look_some hl).1 (fun z => absurd z hs) g, rep_pw h.pw _, by simp [repN]⟩
  | move n p nm =>
    simp only [doneV] at e
    simp only [Deed.good, Bool.and_eq_true, decide_eq_true_eq] at g
    cases hl : look T n with
    | none => rw [hl] at e; cases e
    | some x =>
      rw [hl] at e
      simp only at e
      cases hp : parE T p with
      | some c => rw [hp] at e; cases e
      | none =>
        rw [hp] at e
        simp only at e
        by_cases hu : p ≠ 0 ∧ under T p n = true
        · rw [if_pos hu] at e; cases e
        · rw [if_neg hu] at e
          cases ht : takenE T n p nm with
          | true => rw [ht] at e; simp at e
          | false =>
            rw [ht] at e
            simp only [Bool.false_eq_true, if_false] at e
            cases e
            have hx := look_some hl
            refine ⟨h.toWh.move hx.1 g.1 g.2 (parE_fol hp) (fun z => ?_) fun y hy q => takenE_not ht y hy (fun w => q (w.trans hx.2.symm)), rep_pw h.pw _, by simp [repN]⟩
            rw [hx.2]
            cases k : under T p n with
            | false => rfl
            | true => exact absurd ⟨z, k⟩ hu
  | drop n =>
    simp only [doneV] at e
    by_cases hn : n ∈ nums T
    · rw [if_pos hn] at e
      cases e
      exact ⟨h.toWh.drop n, h.pw.sublist List.filter_sublist, by have := List.length_filter_le (fun x : Nd => !under T x.n n) T; omega⟩
    · rw [if_neg hn] at e; cases e
end Tw

set_option autoImplicit false
set_option linter.all false
/-! Tw, plain: tree_of; the law's own done. -/
namespace Tw
theorem le_int (i j : Int) : D.le (.int i) (.int j) = decide (i ≤ j) := by
  unfold D.le
  rw [lt_int]
  by_cases h : j < i
  · simp [h]
  · simp [h]; omega
theorem sortD_nums (L : List Nd) : sortD (L.map fun x => D.int x.n) = (sortN L).map fun x => D.int x.n := by
  unfold sortD sortN
  exact (List.map_mergeSort fun a _ b _ => by rw [le_int]; rfl).symm
theorem sortable_ints (xs : List Int) : sortable (xs.map D.int) = true := by
  unfold sortable
  simp [List.all_eq_true, D.flat, D.kind]
theorem sorted_eq {xs : List D} (h : sortable xs = true) (hl : xs.length ≤ 1000) : D.sorted (.lst xs) = .ok (.lst (sortD xs)) := by
  have h2 : xs.length ≤ szl := by have := szl_big; omega
  simp [D.sorted, h, h2]
theorem sorted_nums {L : List Nd} (hl : L.length ≤ 1000) : D.sorted (.lst (L.map fun x => D.int x.n)) = .ok (.lst ((sortN L).map fun x => D.int x.n)) := by
  have h1 : sortable (L.map fun x => D.int x.n) = true := by
    have := sortable_ints (nums L)
    unfold nums at this
    rw [List.map_map] at this
    exact this
  rw [sorted_eq h1 (by simpa using hl), sortD_nums]
theorem keys_book (L : List Nd) : ((bookOf L).map fun kv => kv.1.toD) = L.map fun x => D.int x.n := by
  unfold bookOf
  rw [List.map_map]
  rfl
theorem enc_row (x : Nd) : D.add (.tup [.int x.n]) x.row = .ok x.enc := rfl
theorem tree_of_ok {L : List Nd} (nd : (nums L).Nodup) (hl : L.length ≤ 1000) : M.m_tree_of [.dct false (bookOf L)] = .ok (encT (sortN L)) := by
  have hz : (sortN L).length ≤ 1000 := by rw [(sortN_perm L).length_eq]; exact hl
  have h1 : (sortN L).length < szl := small_szl (by omega)
  have c : compGo (compTurn [1] (gN 1) tTrue (e2 D.add (eTup [(eV 1)]) (e2 D.idx (eB 0) (eB 1))) [.bor (.dct false (bookOf L)), .un]) ((sortN L).map fun x => D.int x.n) = .ok ((sortN L).map Nd.enc) := by
    refine compGo_map fun x hx => ?_
    have : look L x.n = some x := (look_at nd).mpr ⟨(sortN_perm L).mem_iff.mp hx, rfl⟩
    simp [idx_book this, enc_row]
  refine run_rt rfl ?_
  show M.b_tree_of [.bor (.dct false (bookOf L)), .un] = _
  simp only [M.b_tree_of, ev_ret, ev_e1, ev_comp, ev_iE]
  simp [- ev_turn, keys_book, sorted_nums hl, h1, c, encT]
/-! ### a dict of nodes -/
def putN (L : List Nd) (x : Nd) : List Nd := if x.n ∈ nums L then repN L x else L ++ [x]
theorem khas_book {L : List Nd} {n : Int} : khas (.int n) (bookOf L) = decide (n ∈ nums L) := by
  unfold khas
  rw [kget_book, ← look_isSome]
  cases look L n <;> rfl
theorem kput_book {L : List Nd} {x : Nd} : kput (.int x.n) x.row (bookOf L) = bookOf (putN L x) := by
  unfold kput putN
  rw [khas_book]
  by_cases h : x.n ∈ nums L
  · rw [if_pos (by simpa using h), if_pos h]
    unfold bookOf repN
    rw [List.map_map, List.map_map]
    refine List.map_congr_left fun y _ => ?_
    by_cases e : y.n = x.n <;> simp [e]
  · rw [if_neg (by simpa using h), if_neg h]
    simp [bookOf]
theorem put_len (L : List Nd) (x : Nd) : (putN L x).length ≤ L.length + 1 := by
  unfold putN repN
  split <;> simp
theorem book_len (L : List Nd) : (bookOf L).length = L.length := by simp [bookOf]
/-- the places that others have -/
theorem comp_taken {T : List Nd} (nd : (nums T).Nodup) (n : Int) {f : E} {e : Env} {i : Nat} {own : List Nat} {c : Env → Res Bool} (h1 : ∀ x ∈ T, compTurn own (gN i) c f e (.int x.n) = .ok (if !decide (x.n = n) then some (.tup [.int x.p, .str x.nm]) else none)) :
    compGo (compTurn own (gN i) c f e) (T.map fun x => D.int x.n) = .ok ((T.filter fun x => !decide (x.n = n)).map (fun x : Nd => D.tup [.int x.p, .str x.nm])) :=
  compGo_enc (e := fun x : Nd => D.int x.n) (g := fun x : Nd => D.tup [.int x.p, .str x.nm]) (p := fun x => !decide (x.n = n)) h1
theorem eqv_spot (x : Nd) (p : Int) (nm : Nm) : D.eqv (.tup [.int x.p, .str x.nm]) (.tup [.int p, .str nm]) = decide ((x.p, x.nm) = (p, nm)) := by
  simp only [D.eqv, D.eqvs, Bool.and_true]
  by_cases h1 : x.p = p <;> by_cases h2 : x.nm = nm <;> simp [h1, h2]
theorem pl_spot {p : Int} {nm : Nm} (h : goodName nm = true) (n : Nat) : D.pl (n + 1) (.tup [.int p, .str nm]) = true := by
  simp [D.pl, D.pls, name_ok h]
theorem taken_any {T : List Nd} {n p : Int} {nm : Nm} : ((T.filter fun x => !decide (x.n = n)).map (fun x : Nd => D.tup [.int x.p, .str x.nm])).any (fun y => D.eqv y (.tup [.int p, .str nm])) = takenE T n p nm := by
  unfold takenE
  rw [List.any_map, List.any_filter]
  congr 1
  funext x
  simp only [Function.comp, eqv_spot]
theorem isIn_taken {T : List Nd} (g : ∀ x ∈ T, x.good = true) {n p : Int} {nm : Nm} (hn : goodName nm = true) : D.isIn (.tup [.int p, .str nm]) (.lst ((T.filter fun x => !decide (x.n = n)).map (fun x : Nd => D.tup [.int x.p, .str x.nm]))) = .ok (.bl (takenE T n p nm)) := by
  rw [isIn_l (pl_spot hn 39) ?_, taken_any]
  simp only [D.pl]
  refine pls_mem fun d hd => ?_
  obtain ⟨x, hx, rfl⟩ := List.mem_map.mp hd
  exact pl_spot (Nd.good_nm (g x (List.mem_filter.mp hx).1)) 38
def wKnown : Nm := [107, 110, 111, 119, 110]
def wNoNode : Nm := [110, 111, 32, 110, 111, 100, 101]
def wNotFile : Nm := [110, 111, 116, 32, 102, 105, 108, 101]
def wNotFolder : Nm := [110, 111, 116, 32, 102, 111, 108, 100, 101, 114]
def wInside : Nm := [105, 110, 115, 105, 100, 101]
def wTaken : Nm := [116, 97, 107, 101, 110]
/-- an error's word -/
def wordE : Nat → Nm
  | 1 => wNoNode
  | 2 => wKnown
  | 3 => wNotFolder
  | 4 => wNotFile
  | 5 => wInside
  | 6 => wTaken
  | _ => []
def doneD (r : Except Nat (List Nd)) : D := match r with
  | .ok U => encT U
  | .error c => .str (wordE c)
@[simp] theorem eq_str {a b : Nm} (ha : (a.all fun c => decide (c < 1114112)) = true) (hb : (b.all fun c => decide (c < 1114112)) = true) : D.eq (.str a) (.str b) = .ok (.bl (a == b)) := by
  unfold D.eq
  rw [if_pos (by simp only [D.good, D.pl, ha, hb]; rfl)]
  rfl
@[simp] theorem ne_str {a b : Nm} (ha : (a.all fun c => decide (c < 1114112)) = true) (hb : (b.all fun c => decide (c < 1114112)) = true) : D.ne (.str a) (.str b) = .ok (.bl (!(a == b))) := by
  unfold D.ne
  rw [if_pos (by simp only [D.good, D.pl, ha, hb]; rfl)]
  rfl
theorem notIn_book {T : List Nd} {n : Int} : D.notIn (.int n) (.dct false (bookOf T)) = .ok (.bl (!decide (n ∈ nums T))) := by rw [in_book, look_isSome]
theorem isIn_book {T : List Nd} {n : Int} : D.isIn (.int n) (.dct false (bookOf T)) = .ok (.bl (decide (n ∈ nums T))) := by rw [book_in, look_isSome]
theorem sorted_enc {L : List Nd} (w : Wh L) (hl : L.length ≤ 1000) : D.sorted (.lst (L.map Nd.enc)) = .ok (.lst ((sortN L).map Nd.enc)) := by
  rw [sorted_eq (sortable_enc w.good w.nd) (by simpa using hl), sortD_enc w.nd]
theorem rep_self {L : List Nd} (pw : L.Pairwise fun a b => a.n < b.n) (x : Nd) : sortN (repN L x) = repN L x := sortN_id (rep_pw pw x)

theorem rep_wh {T : List Nd} {x : Nd} (hx : x.n ∈ nums T) : putN T x = repN T x := by unfold putN; rw [if_pos hx]
theorem new_wh {T : List Nd} {x : Nd} (hx : x.n ∉ nums T) : putN T x = T ++ [x] := by unfold putN; rw [if_neg hx]
/-- the law's own done -/
theorem done_L_ok {T : List Nd} (h : Tr T) (hs : T.length ≤ 900) {d : Deed} (g : d.good = true) : M.m_done_L [encT T, d.enc] = .ok (doneD (doneV T d)) := by
  have hb := book_ok2 h.nd h.len
  have hl : T.length < szl := small_szl (by have := h.len; omega)
  have hkl : (bookOf T).length < szl := by rw [book_len]; exact hl
  refine run_rt rfl ?_
  show M.b_done_L [.bor (encT T), .bor d.enc, .un, .un, .un, .un, .un] = _
  -- what stands at the end
  have fin : ∀ (U : List Nd) (s3 s4 s5 s6 : Slot), Wh U → U.length ≤ 1001 - 1 →
      sRet (e1 D.toTup (e1 D.sorted (eComp (iK (eB 2)) [6] (gN 6) tTrue (e2 D.add (eTup [(eV 6)]) (e2 D.idx (eB 2) (eB 6)))))) [.bor (encT T), .bor d.enc, .own (.dct false (bookOf U)), s3, s4, s5, s6] = .rt (encT (sortN U)) := fun U s3 s4 s5 s6 w hU => by
    have hl' : U.length < szl := small_szl (by omega)
    have c : compGo (compTurn [6] (gN 6) tTrue (e2 D.add (eTup [(eV 6)]) (e2 D.idx (eB 2) (eB 6))) [.bor (encT T), .bor d.enc, .own (.dct false (bookOf U)), s3, s4, s5, s6]) (U.map fun x => D.int x.n) = .ok (U.map Nd.enc) := by
      refine compGo_map fun x hx => ?_
      have : look U x.n = some x := (look_at w.nd).mpr ⟨hx, rfl⟩
      simp [idx_book this, enc_row]
    simp [- ev_turn, keys_book, hl', c, sorted_enc w (by omega)]
    rfl
  have tk : ∀ (n : Int) (s3 s4 s5 s6 : Slot), s3 = .sh (.int n) → 
      eComp (iK (eB 2)) [6] (gN 6) (tE (e2 D.ne (eB 6) (eB 3))) (eSl (e2 D.idx (eB 2) (eB 6)) none (some (eC (.int 2)))) [.bor (encT T), .bor d.enc, .own (.dct false (bookOf T)), s3, s4, s5, s6] = .ok (.lst ((T.filter fun x => !decide (x.n = n)).map (fun x : Nd => D.tup [.int x.p, .str x.nm]))) := fun n s3 s4 s5 s6 e => by
    subst e
    have c := comp_taken h.nd n (f := eSl (e2 D.idx (eB 2) (eB 6)) none (some (eC (.int 2)))) (e := [.bor (encT T), .bor d.enc, .own (.dct false (bookOf T)), .sh (.int n), s4, s5, s6]) (i := 6) (own := [6]) (c := tE (e2 D.ne (eB 6) (eB 3))) fun x hx => by
      have : look T x.n = some x := (look_at h.nd).mpr ⟨hx, rfl⟩
      by_cases q : x.n = n
      · simp [q]
      · simp [q, idx_book this]
        rfl
    rw [ev_comp]
    simp only [ev_iK, ev_eB, List.getElem?_cons_zero, List.getElem?_cons_succ, Res.bind_ok, ev_keys, keys_book, List.length_map, hl, if_true, c]
  have wd := fun U e => done_wh h g (U := U) e
  cases d with
  | make n p nm st =>
    simp only [Deed.good, Bool.and_eq_true, decide_eq_true_eq] at g
    simp only [Deed.enc, sMake] at tk fin
    simp only [doneV] at wd ⊢
    by_cases hn : n ∈ nums T
    · simp [- ev_comp, M.b_done_L, Deed.enc, hb, isIn_book, hn, sMake, sWrite, sMove, sDrp, doneD, wordE, wKnown]
    · have nf : look T n = none := by
        cases e : look T n with
        | none => rfl
        | some x => exact absurd (look_iff.mp (by rw [e]; rfl)) hn
      rw [if_neg hn] at wd ⊢
      have ti := isIn_taken h.good (n := n) (p := p) g.1.2
      have go : parE T p = none → ∀ (hp : p = 0 ∨ p ∈ nums T), (p ≠ 0 → ∃ x, look T p = some x ∧ x.st = none) → M.b_done_L [.bor (encT T), .bor (.tup [.str [109, 97, 107, 101], .int n, .int p, .str nm, stD st]), .un, .un, .un, .un, .un] = .rt (doneD (if takenE T n p nm = true then .error 6 else .ok (sortN (T ++ [⟨n, p, nm, st⟩])))) := fun hpe hp hx => by
        rw [hpe] at wd
        simp only at wd
        have tk' := tk n (.sh (.int n)) .un (.sh (.int p)) .un rfl
        have kp := kput_book (L := T) (x := ⟨n, p, nm, st⟩)
        rw [new_wh (x := ⟨n, p, nm, st⟩) hn] at kp
        simp only [Nd.row] at kp
        cases ht : takenE T n p nm with
        | true =>
          rw [ht] at ti
          by_cases z : p = 0
          · subst z
            simp [- ev_comp, M.b_done_L, hb, isIn_book, notIn_book, hn, tk', cutL, clip, ti, doneD, wordE, wTaken]
          · obtain ⟨x, h1, h2⟩ := hx z
            have hpn : p ∈ nums T := look_iff.mp (by rw [h1]; rfl)
            simp [- ev_comp, M.b_done_L, hb, isIn_book, notIn_book, hn, hpn, z, idx_book h1, h2, tk', cutL, clip, ti, doneD, wordE, wTaken]
        | false =>
          rw [ht] at ti wd
          simp only [Bool.false_eq_true, if_false] at wd
          have w := (wd _ rfl).1.perm (sortN_perm _)
          have fin' := fin (T ++ [⟨n, p, nm, st⟩]) (.sh (.int n)) .un (.sh (.int p)) .un w (by simp; omega)
          by_cases z : p = 0
          · subst z
            simp [- ev_comp, - ev_ret, M.b_done_L, hb, isIn_book, notIn_book, hn, tk', cutL, clip, ti, doneD, D.add, hkl, kp, fin']
          · obtain ⟨x, h1, h2⟩ := hx z
            have hpn : p ∈ nums T := look_iff.mp (by rw [h1]; rfl)
            simp [- ev_comp, - ev_ret, M.b_done_L, hb, isIn_book, notIn_book, hn, hpn, z, idx_book h1, h2, tk', cutL, clip, ti, doneD, D.add, hkl, kp, fin']
      by_cases z : p = 0
      · have hpe : parE T p = none := by simp [parE, z]
        rw [hpe] at wd ⊢
        exact go hpe (.inl z) fun q => absurd z q
      · cases e : look T p with
        | none =>
          have hpn : p ∉ nums T := fun q => by rw [← look_iff, e] at q; cases q
          have hpe : parE T p = some 1 := by simp [parE, z, e]
          rw [hpe]
          simp [- ev_comp, M.b_done_L, Deed.enc, sMake, hb, isIn_book, notIn_book, hn, hpn, z, doneD, wordE, wNoNode]
        | some x =>
          have hpn : p ∈ nums T := look_iff.mp (by rw [e]; rfl)
          by_cases q : x.st = none
          · have hpe : parE T p = none := by simp [parE, z, e, q]
            rw [hpe] at wd ⊢
            exact go hpe (.inr hpn) fun _ => ⟨x, e, q⟩
          · have hpe : parE T p = some 3 := by simp [parE, z, e, q]
            have q' : x.st.isNone = false := by cases k : x.st <;> simp_all
            rw [hpe]
            simp [- ev_comp, M.b_done_L, Deed.enc, sMake, hb, isIn_book, notIn_book, hn, hpn, z, idx_book e, q', doneD, wordE, wNotFolder]
  | write n st =>
    simp only [Deed.enc, sWrite] at tk fin ⊢
    simp only [doneV] at wd ⊢
    cases e : look T n with
    | none =>
      have hn : n ∉ nums T := fun q => by rw [← look_iff, e] at q; cases q
      simp [- ev_comp, M.b_done_L, hb, isIn_book, notIn_book, hn, doneD, wordE, wNoNode]
    | some x =>
      obtain ⟨hxm, rfl⟩ := look_some e
      have hn : x.n ∈ nums T := look_iff.mp (by rw [e]; rfl)
      by_cases q : x.st = none
      · simp [- ev_comp, M.b_done_L, hb, isIn_book, notIn_book, hn, idx_book e, q, doneD, wordE, wNotFile]
      · have q' : x.st.isNone = false := by cases k : x.st <;> simp_all
        have kp := kput_book (L := T) (x := { x with st := some st })
        rw [rep_wh (x := { x with st := some st }) hn] at kp
        dsimp only at kp
        rw [e] at wd
        simp only [if_neg q] at wd
        have w := wd _ rfl
        have fin' := fin _ (.sh (.int x.n)) .un .un .un w.1 (by have := w.2.2; omega)
        rw [rep_self h.pw] at fin'
        have hr : D.cut none (some 2) x.row = .ok (.tup [.int x.p, .str x.nm]) := rfl
        have ha : D.add (.tup [.int x.p, .str x.nm]) (.tup [.int st]) = .ok (Nd.row { x with st := some st }) := rfl
        simp [- ev_comp, - ev_ret, M.b_done_L, hb, isIn_book, notIn_book, hn, idx_book e, q, q', hr, ha, hkl, kp, fin', doneD]
  | move n p nm =>
    simp only [Deed.good, Bool.and_eq_true, decide_eq_true_eq] at g
    simp only [Deed.enc, sMove] at tk fin ⊢
    simp only [doneV] at wd ⊢
    cases e : look T n with
    | none =>
      have hn : n ∉ nums T := fun q => by rw [← look_iff, e] at q; cases q
      simp [- ev_comp, M.b_done_L, hb, isIn_book, notIn_book, hn, doneD, wordE, wNoNode]
    | some x =>
      obtain ⟨hxm, rfl⟩ := look_some e
      have hn : x.n ∈ nums T := look_iff.mp (by rw [e]; rfl)
      rw [e] at wd
      simp only at wd ⊢
      have ti := isIn_taken h.good (n := x.n) (p := p) g.2
      have kp := kput_book (L := T) (x := { x with p := p, nm := nm })
      rw [rep_wh (x := { x with p := p, nm := nm }) hn] at kp
      simp only [Nd.row] at kp
      have tk' := tk x.n (.sh (.int x.n)) .un (.sh (.int p)) .un rfl
      by_cases z : p = 0
      · have hpe : parE T p = none := by simp [parE, z]
        rw [hpe] at wd ⊢
        subst z
        simp only [ne_eq, not_true, false_and, if_false] at wd ⊢
        cases ht : takenE T x.n 0 nm with
        | true =>
          rw [ht] at ti
          simp [- ev_comp, M.b_done_L, hb, isIn_book, notIn_book, hn, tk', cutL, clip, ti, doneD, wordE, wTaken]
        | false =>
          rw [ht] at ti wd
          simp only [Bool.false_eq_true, if_false] at wd
          have w := wd _ rfl
          have fin' := fin _ (.sh (.int x.n)) .un (.sh (.int 0)) .un w.1 (by have := w.2.2; omega)
          rw [rep_self h.pw] at fin'
          simp [- ev_comp, - ev_ret, M.b_done_L, hb, isIn_book, notIn_book, hn, tk', cutL, clip, ti, idx_book e, D.add, hkl, kp, fin', doneD]
      · cases ep : look T p with
        | none =>
          have hpn : p ∉ nums T := fun q => by rw [← look_iff, ep] at q; cases q
          have hpe : parE T p = some 1 := by simp [parE, z, ep]
          rw [hpe]
          simp [- ev_comp, M.b_done_L, hb, isIn_book, notIn_book, hn, hpn, z, doneD, wordE, wNoNode]
        | some y =>
          have hpn : p ∈ nums T := look_iff.mp (by rw [ep]; rfl)
          have hu := under_L_ok h.ups (n := p) (g := x.n) (.inr hpn)
          by_cases q : y.st = none
          · have hpe : parE T p = none := by simp [parE, z, ep, q]
            rw [hpe] at wd ⊢
            simp only [ne_eq, z, not_false_iff, true_and] at wd ⊢
            cases hun : under T p x.n with
            | true =>
              rw [hun] at hu
              simp [- ev_comp, M.b_done_L, hb, isIn_book, notIn_book, hn, hpn, z, idx_book ep, q, hu, doneD, wordE, wInside]
            | false =>
              rw [hun] at hu wd
              simp only [Bool.false_eq_true, if_false] at wd ⊢
              cases ht : takenE T x.n p nm with
              | true =>
                rw [ht] at ti
                simp [- ev_comp, M.b_done_L, hb, isIn_book, notIn_book, hn, hpn, z, idx_book ep, q, hu, tk', cutL, clip, ti, doneD, wordE, wTaken]
              | false =>
                rw [ht] at ti wd
                simp only [Bool.false_eq_true, if_false] at wd
                have w := wd _ rfl
                have fin' := fin _ (.sh (.int x.n)) .un (.sh (.int p)) .un w.1 (by have := w.2.2; omega)
                rw [rep_self h.pw] at fin'
                simp [- ev_comp, - ev_ret, M.b_done_L, hb, isIn_book, notIn_book, hn, hpn, z, idx_book ep, q, hu, tk', cutL, clip, ti, idx_book e, D.add, hkl, kp, fin', doneD]
          · have hpe : parE T p = some 3 := by simp [parE, z, ep, q]
            have q' : y.st.isNone = false := by cases k : y.st <;> simp_all
            rw [hpe]
            simp [- ev_comp, M.b_done_L, hb, isIn_book, notIn_book, hn, hpn, z, idx_book ep, q', doneD, wordE, wNotFolder]
  | drop n =>
    simp only [Deed.enc, sDrp] at tk fin ⊢
    simp only [doneV]
    by_cases hn : n ∈ nums T
    · have c : compGo (compTurn [4] (gN 4) (tNot (tE (eCall M.m_under_L [(eB 2), (e2 D.idx (eB 4) (eC (.int 0))), (eB 3)]))) (eV 4) [.bor (.tup (T.map Nd.enc)), .bor (.tup [.str [100, 114, 111, 112], .int n]), .own (.dct false (bookOf T)), .sh (.int n), .un, .un, .un]) (T.map Nd.enc) = .ok ((T.filter fun x => !under T x.n n).map Nd.enc) := by
        refine compGo_enc fun x hx => ?_
        have hu := under_L_ok h.ups (n := x.n) (g := n) (.inr (List.mem_map.mpr ⟨x, hx, rfl⟩))
        cases k : under T x.n n with
        | true => rw [k] at hu; simp [hu]
        | false => rw [k] at hu; simp [hu, Nd.enc]
      unfold encT at *
      simp [- ev_turn, M.b_done_L, hb, isIn_book, notIn_book, hn, hl, c, doneD]
      rfl
    · simp [- ev_comp, M.b_done_L, hb, isIn_book, notIn_book, hn, doneD, wordE, wNoNode]
end Tw

set_option autoImplicit false
set_option linter.all false
/-! Tw, plain: drawn deeds, trees some deeds further. -/
namespace Tw
def someN (T : List Nd) : List Int := nums T ++ nums T ++ nums T ++ [55]
def foldN (T : List Nd) : List Int := nums (T.filter fun x => x.st.isNone) ++ [0]
def numV (ns : List Int) (at_ : Nat) (T : List Nd) : Int := (someN T).getD (pickV ns at_ (someN T).length).toNat 0
def parV (ns : List Int) (at_ : Nat) (T : List Nd) : Int := (foldN T ++ foldN T ++ someN T).getD (pickV ns (at_ + 1) (2 * (foldN T).length + (someN T).length)).toNat 0
def stV (v : Int) : Option Int := [none, none, some 0, some 1, some 2, some 3].getD v.toNat none
def wrV (v : Int) : Int := [0, 1, 2, 998].getD v.toNat 0
def newV (ns : List Int) (at_ : Nat) (T : List Nd) : Int := [1 + pickV ns (at_ + 5) 30, numV ns at_ T].getD (pickV ns (at_ + 6) 5 / 4).toNat 0
def deedV (ns : List Int) (at_ : Nat) (T : List Nd) : Deed :=
  if pickV ns (at_ + 3) 8 < 3 ∨ T = [] then .make (newV ns at_ T) (parV ns at_ T) (dName (pickV ns (at_ + 2) 4)) (stV (pickV ns (at_ + 4) 6))
  else if pickV ns (at_ + 3) 8 = 3 then .write (numV ns at_ T) (wrV (pickV ns (at_ + 4) 4))
  else if pickV ns (at_ + 3) 8 < 7 then .move (numV ns at_ T) (parV ns at_ T) (dName (pickV ns (at_ + 2) 4))
  else .drop (numV ns at_ T)
theorem getD_of {α : Type} {P : α → Prop} {l : List α} {i : Nat} {d : α} (h : ∀ x ∈ l, P x) (hi : i < l.length) : P (l.getD i d) := h _ (getD_mem hi)
theorem numV_pos {ns : List Int} {at_ : Nat} {T : List Nd} (g : ∀ x ∈ T, x.good = true) : 1 ≤ numV ns at_ T := by
  have hp := pickV_lt ns at_ (many := (someN T).length) (by simp [someN]; omega)
  refine getD_of (P := fun v => 1 ≤ v) (fun v hv => ?_) (by omega)
  simp only [someN, List.mem_append, List.mem_singleton] at hv
  have k : v ∈ nums T → 1 ≤ v := fun h => by
    obtain ⟨x, hx, rfl⟩ := List.mem_map.mp h
    exact Nd.good_n (g x hx)
  rcases hv with ((h | h) | h) | h
  · exact k h
  · exact k h
  · exact k h
  · omega
theorem parV_pos {ns : List Int} {at_ : Nat} {T : List Nd} (g : ∀ x ∈ T, x.good = true) : 0 ≤ parV ns at_ T := by
  have hp := pickV_lt ns (at_ + 1) (many := 2 * (foldN T).length + (someN T).length) (by simp [someN]; omega)
  refine getD_of (P := fun v => 0 ≤ v) (fun v hv => ?_) (by simp only [List.length_append]; omega)
  have k : v ∈ nums T → 0 ≤ v := fun h => by
    obtain ⟨x, hx, rfl⟩ := List.mem_map.mp h
    have := Nd.good_n (g x hx); omega
  have k1 : v ∈ foldN T → 0 ≤ v := fun h => by
    simp only [foldN, List.mem_append, List.mem_singleton] at h
    rcases h with h | h
    · obtain ⟨x, hx, rfl⟩ := List.mem_map.mp h
      have := Nd.good_n (g x (List.mem_filter.mp hx).1); omega
    · omega
  simp only [List.mem_append] at hv
  rcases hv with (h | h) | h
  · exact k1 h
  · exact k1 h
  · simp only [someN, List.mem_append, List.mem_singleton] at h
    rcases h with ((h | h) | h) | h
    · exact k h
    · exact k h
    · exact k h
    · omega
theorem cases_lt {n : Nat} (P : Int → Prop) (h : ∀ k : Nat, k < n → P (k : Int)) {v : Int} (h0 : 0 ≤ v) (hn : v < n) : P v := by
  have := h v.toNat (by omega)
  rwa [Int.toNat_of_nonneg h0] at this
theorem stV_good (ns : List Int) (k : Nat) : goodSt (stV (pickV ns k 6)) = true := by
  have hp := pickV_lt ns k (many := 6) (by decide)
  exact cases_lt (n := 6) (fun v => goodSt (stV v) = true) (by decide) hp.1 hp.2
theorem wrV_good (ns : List Int) (k : Nat) : goodSt (some (wrV (pickV ns k 4))) = true := by
  have hp := pickV_lt ns k (many := 4) (by decide)
  exact cases_lt (n := 4) (fun v => goodSt (some (wrV v)) = true) (by decide) hp.1 hp.2
theorem deedV_good {ns : List Int} {at_ : Nat} {T : List Nd} (g : ∀ x ∈ T, x.good = true) : (deedV ns at_ T).good = true := by
  have h1 := numV_pos (ns := ns) (at_ := at_) g
  have h2 := parV_pos (ns := ns) (at_ := at_) g
  have h3 := dName_good (pickV ns (at_ + 2) 4)
  have h4 : 1 ≤ newV ns at_ T := by
    have hp := pickV_lt ns (at_ + 6) (many := 5) (by decide)
    have hq := pickV_lt ns (at_ + 5) (many := 30) (by decide)
    refine getD_of (P := fun v => 1 ≤ v) (fun v hv => ?_) (by simp; omega)
    simp only [List.mem_cons, List.not_mem_nil, or_false] at hv
    rcases hv with rfl | rfl <;> omega
  unfold deedV
  split
  · simp only [Deed.good, Bool.and_eq_true, decide_eq_true_eq]; exact ⟨⟨⟨h4, h2⟩, h3⟩, stV_good _ _⟩
  · split
    · exact wrV_good _ _
    · split
      · simp only [Deed.good, Bool.and_eq_true, decide_eq_true_eq]; exact ⟨h2, h3⟩
      · simp only [Deed.good, decide_eq_true_eq]; omega
theorem idx_getD {l : List D} {v : Int} (h0 : 0 ≤ v) (h1 : v < (l.length : Int)) : D.idx (.lst l) (.int v) = .ok (l.getD v.toNat .non) := by
  have hi : v.toNat < l.length := by omega
  show Res.ofOpt (atI l v) = _
  unfold atI
  rw [if_pos h0, List.getElem?_eq_getElem hi, List.getD_eq_getElem?_getD, List.getElem?_eq_getElem hi]
  rfl
theorem getD_map {α β : Type} (f : α → β) {l : List α} {i : Nat} {a : α} {b : β} (h : i < l.length) : (l.map f).getD i b = f (l.getD i a) := by
  rw [List.getD_eq_getElem?_getD, List.getElem?_map, List.getD_eq_getElem?_getD, List.getElem?_eq_getElem h]
  rfl
theorem idx_int {l : List Int} {v : Int} (h0 : 0 ≤ v) (h1 : v < (l.length : Int)) : D.idx (.lst (l.map D.int)) (.int v) = .ok (.int (l.getD v.toNat 0)) := by
  rw [idx_getD h0 (by simpa using h1), getD_map (a := 0) _ (by omega)]
theorem idx_st {v : Int} (h0 : 0 ≤ v) (h1 : v < 6) : D.idx (.lst [.non, .non, .int 0, .int 1, .int 2, .int 3]) (.int v) = .ok (stD (stV v)) := by
  exact cases_lt (n := 6) (fun v => D.idx (.lst [.non, .non, .int 0, .int 1, .int 2, .int 3]) (.int v) = .ok (stD (stV v))) (fun k hk => by
    match k, hk with
    | 0, _ => rfl
    | 1, _ => rfl
    | 2, _ => rfl
    | 3, _ => rfl
    | 4, _ => rfl
    | 5, _ => rfl) h0 h1
theorem idx_wr {v : Int} (h0 : 0 ≤ v) (h1 : v < 4) : D.idx (.lst [.int 0, .int 1, .int 2, .int 998]) (.int v) = .ok (.int (wrV v)) := by
  exact cases_lt (n := 4) (fun v => D.idx (.lst [.int 0, .int 1, .int 2, .int 998]) (.int v) = .ok (.int (wrV v))) (fun k hk => by
    match k, hk with
    | 0, _ => rfl
    | 1, _ => rfl
    | 2, _ => rfl
    | 3, _ => rfl) h0 h1
theorem mul2 (j : Int) : D.mul (.int 2) (.int j) = .ok (.int (2 * j)) := by
  have : smallI 2 = true := by decide
  simp [D.mul, this]
theorem add_lst {x y : List D} (h : x.length + y.length ≤ 10000) : D.add (.lst x) (.lst y) = .ok (.lst (x ++ y)) := by
  have : x.length + y.length ≤ szl := by have := szl_big; omega
  simp [D.add, this]
theorem eq_nil {xs : List Int} : D.eq (.lst (xs.map D.int)) (.lst []) = .ok (.bl (decide (xs = []))) := by
  unfold D.eq
  rw [if_pos (by simp [D.good, D.pl, D.pls, pls_ints])]
  cases xs <;> simp [D.eqv, D.eqvs]
theorem deed_L_ok {S : D} {ns : List Int} (hS : Scr S ns) (at_ : Nat) {T : List Nd} (hl : T.length ≤ 900) : M.m_deed_L [S, .int at_, encT T] = .ok (deedV ns at_ T).enc := by
  have hsz : T.length < szl := small_szl (by omega)
  have ls : ((someN T).length : Int) = 3 * T.length + 1 := by simp [someN]; omega
  have lf0 : (foldN T).length ≤ T.length + 1 := by
    have := List.length_filter_le (fun x : Nd => x.st.isNone) T
    simp [foldN]; omega
  have c1 : eComp (iE (eB 2)) [4] (gN 4) tTrue (e2 D.idx (eB 4) (eC (.int 0))) [.bor S, .bor (.int at_), .bor (encT T), .un, .un, .un, .un, .un, .un, .un, .un, .un, .un] = .ok (.lst ((nums T).map D.int)) := by
    refine ecomp_ok (xs := T.map Nd.enc) rfl (by simpa using hsz) ?_
    rw [List.map_map]
    exact compGo_map fun x _ => rfl
  have c2 : ∀ a b c d e f g h i j : Slot, eComp (iE (eB 2)) [4] (gN 4) (tE (e1 D.isN (e2 D.idx (eB 4) (eC (.int 3))))) (e2 D.idx (eB 4) (eC (.int 0))) [.bor S, .bor (.int at_), .bor (encT T), a, b, c, d, e, f, g, h, i, j] = .ok (.lst ((nums (T.filter fun x => x.st.isNone)).map D.int)) := fun a b c d e f g h i j => by
    refine ecomp_ok (xs := T.map Nd.enc) rfl (by simpa using hsz) ?_
    unfold nums
    rw [List.map_map]
    exact compGo_enc fun x _ => by cases k : x.st <;> simp [k]
  have pk : ∀ (k : Nat) (i : Int), i = ((at_ + k : Nat) : Int) → ∀ m : Int, 0 < m → M.m_pick_L [S, .int i, .int m] = .ok (.int (pickV ns (at_ + k) m)) := fun k i e m hm => pick_ok' hS e hm
  have p0 := fun m h => pk 0 at_ (by simp) m h
  have p1 := fun m h => pk 1 (at_ + 1) (by simp) m h
  have p2 := pk 2 (at_ + 2) (by simp) 4 (by decide)
  have p3 := pk 3 (at_ + 3) (by simp) 8 (by decide)
  have p4 := pk 4 (at_ + 4) (by simp) 4 (by decide)
  have p4' := pk 4 (at_ + 4) (by simp) 6 (by decide)
  have p5 := pk 5 (at_ + 5) (by simp) 30 (by decide)
  have p6 := pk 6 (at_ + 6) (by simp) 5 (by decide)
  have b2 := pickV_lt ns (at_ + 2) (many := 4) (by decide)
  have b4 := pickV_lt ns (at_ + 4) (many := 4) (by decide)
  have b4' := pickV_lt ns (at_ + 4) (many := 6) (by decide)
  have b6 := pickV_lt ns (at_ + 6) (many := 5) (by decide)
  have a1 : D.add (.lst ((nums T).map D.int)) (.lst ((nums T).map D.int)) = .ok (.lst ((nums T ++ nums T).map D.int)) := by rw [add_lst (by simp; omega), ← List.map_append]
  have a2 : D.add (.lst ((nums T ++ nums T).map D.int)) (.lst ((nums T).map D.int)) = .ok (.lst ((nums T ++ nums T ++ nums T).map D.int)) := by rw [add_lst (by simp; omega), ← List.map_append]
  have a3 : D.add (.lst ((nums T ++ nums T ++ nums T).map D.int)) (.lst [.int 55]) = .ok (.lst ((someN T).map D.int)) := by rw [add_lst (by simp; omega), someN, List.map_append (l₂ := [55])]; rfl
  have a4 : D.add (.lst ((nums (T.filter fun x => x.st.isNone)).map D.int)) (.lst [.int 0]) = .ok (.lst ((foldN T).map D.int)) := by
    rw [add_lst (by have := List.length_filter_le (fun x : Nd => x.st.isNone) T; simp; omega), foldN, List.map_append (l₂ := [0])]; rfl
  have a5 : D.add (.lst ((foldN T).map D.int)) (.lst ((foldN T).map D.int)) = .ok (.lst ((foldN T ++ foldN T).map D.int)) := by rw [add_lst (by simp; omega), ← List.map_append]
  have a6 : D.add (.lst ((foldN T ++ foldN T).map D.int)) (.lst ((someN T).map D.int)) = .ok (.lst ((foldN T ++ foldN T ++ someN T).map D.int)) := by rw [add_lst (by simp; omega), ← List.map_append]
  have ix1 : D.idx (.lst ((someN T).map D.int)) (.int (pickV ns at_ (someN T).length)) = .ok (.int (numV ns at_ T)) := by
    have hp := pickV_lt ns at_ (many := (someN T).length) (by omega)
    exact idx_int hp.1 hp.2
  have ix2 : D.idx (.lst ((foldN T ++ foldN T ++ someN T).map D.int)) (.int (pickV ns (at_ + 1) (2 * (foldN T).length + (someN T).length))) = .ok (.int (parV ns at_ T)) := by
    have hp := pickV_lt ns (at_ + 1) (many := 2 * (foldN T).length + (someN T).length) (by omega)
    exact idx_int hp.1 (by simp only [List.length_append]; omega)
  have ix3 := idx_name b2
  have ix4 := idx_wr b4.1 b4.2
  have ix5 := idx_st b4'.1 b4'.2
  have fd : D.fdiv (.int (pickV ns (at_ + 6) 5)) (.int 4) = .ok (.int (pickV ns (at_ + 6) 5 / 4)) := by simp [D.fdiv]
  have ix6 : D.idx (.lst [.int (1 + pickV ns (at_ + 5) 30), .int (numV ns at_ T)]) (.int (pickV ns (at_ + 6) 5 / 4)) = .ok (.int (newV ns at_ T)) := by
    have := idx_int (l := [1 + pickV ns (at_ + 5) 30, numV ns at_ T]) (v := pickV ns (at_ + 6) 5 / 4) (by omega) (by simp; omega)
    exact this
  have q0 := p0 (someN T).length (by omega)
  have q1 := p1 (2 * (foldN T).length + (someN T).length) (by omega)
  refine run_rt rfl ?_
  show M.b_deed_L [.bor S, .bor (.int at_), .bor (encT T), .un, .un, .un, .un, .un, .un, .un, .un, .un, .un] = _
  unfold deedV
  by_cases hw : pickV ns (at_ + 3) 8 < 3
  · rw [if_pos (.inl hw)]
    simp [- ev_comp, - List.map_append, - List.map_map, - List.append_assoc, - ev_idxL, M.b_deed_L, c1, c2, a1, a2, a3, a4, a5, a6, q0, q1, p2, p3, p4', p5, p6, ix1, ix2, ix3, ix5, ix6, fd, mul2, hw, Deed.enc, sMake]
  · have e0 := eq_nil (xs := nums T)
    have ct := c2
    by_cases hT : T = []
    · have z : (nums T = []) := by rw [hT]; rfl
      have e0' : D.eq (.lst ((nums T).map D.int)) (.lst []) = .ok (.bl true) := by rw [e0]; simp [z]
      rw [if_pos (.inr hT)]
      simp [- ev_comp, - List.map_append, - List.map_map, - List.append_assoc, - ev_idxL, M.b_deed_L, c1, c2, a1, a2, a3, a4, a5, a6, q0, q1, p2, p3, p4', p5, p6, ix1, ix2, ix3, ix5, ix6, fd, mul2, hw, Deed.enc, sMake, e0']
    · have z : ¬ (nums T = []) := by simpa [nums] using hT
      rw [if_neg (by simp [hw, hT])]
      by_cases h3 : pickV ns (at_ + 3) 8 = 3
      · simp [- ev_comp, - List.map_append, - List.map_map, - List.append_assoc, - ev_idxL, M.b_deed_L, c1, c2, a1, a2, a3, a4, a5, a6, q0, q1, p2, p3, p4, ix1, ix2, ix3, ix4, mul2, hw, Deed.enc, sWrite, e0, z, h3]
      · by_cases h7 : pickV ns (at_ + 3) 8 < 7
        · simp [- ev_comp, - List.map_append, - List.map_map, - List.append_assoc, - ev_idxL, M.b_deed_L, c1, c2, a1, a2, a3, a4, a5, a6, q0, q1, p2, p3, ix1, ix2, ix3, mul2, hw, Deed.enc, sMove, e0, z, h3, h7]
        · simp [- ev_comp, - List.map_append, - List.map_map, - List.append_assoc, - ev_idxL, M.b_deed_L, c1, c2, a1, a2, a3, a4, a5, a6, q0, q1, p2, p3, ix1, ix2, ix3, mul2, hw, Deed.enc, sDrp, e0, z, h3, h7]
/-! ### some deeds further -/
def stepV (ns : List Int) (at_ : Nat) (T : List Nd) : List Nd := match doneV T (deedV ns at_ T) with
  | .ok U => U
  | .error _ => T
def furV (ns : List Int) (at_ : Nat) (T : List Nd) (many : Nat) : List Nd := (List.range many).foldl (fun U j => stepV ns (at_ + 9 * j) U) T
theorem step_tr {ns : List Int} {at_ : Nat} {T : List Nd} (h : Tr T) (hl : T.length ≤ 900) : Tr (stepV ns at_ T) ∧ (stepV ns at_ T).length ≤ T.length + 1 := by
  unfold stepV
  cases e : doneV T (deedV ns at_ T) with
  | error c => exact ⟨h, Nat.le_succ _⟩
  | ok U =>
    obtain ⟨w, pw, l⟩ := done_wh h (deedV_good h.good) e
    have l2 : U.length ≤ 1000 := by omega
    exact ⟨{ w with pw := pw, len := l2 }, l⟩
theorem fur_succ (ns : List Int) (at_ : Nat) (T : List Nd) (k : Nat) : furV ns at_ T (k + 1) = stepV ns (at_ + 9 * k) (furV ns at_ T k) := by
  unfold furV
  rw [List.range_succ, List.foldl_append]
  rfl
theorem fur_tr {ns : List Int} {at_ : Nat} {T : List Nd} (h : Tr T) : ∀ many : Nat, T.length + many ≤ 900 → Tr (furV ns at_ T many) ∧ (furV ns at_ T many).length ≤ T.length + many
  | 0, _ => ⟨h, by simp [furV]⟩
  | k + 1, hk => by
    obtain ⟨h1, h2⟩ := fur_tr h k (by omega)
    rw [fur_succ]
    obtain ⟨h3, h4⟩ := step_tr (ns := ns) (at_ := at_ + 9 * k) h1 (by omega)
    exact ⟨h3, by omega⟩
theorem isa_str_doneD (r : Except Nat (List Nd)) : D.isa .str (doneD r) = .ok (.bl (match r with
    | .ok _ => false
    | .error _ => true)) := by cases r <;> rfl
theorem further_L_ok {S : D} {ns : List Int} (hS : Scr S ns) (at_ : Nat) {T : List Nd} (h : Tr T) (many : Nat) (hm : many ≤ 100) (hl : T.length ≤ 700) : M.m_further_L [S, .int at_, encT T, .int many] = .ok (encT (furV ns at_ T many)) := by
  have hr : rng1 (.int many) = .ok ((List.range many).map fun (k : Nat) => D.int (0 + (k : Int))) := by rw [rng_count (by omega)]; simp
  have box : ∀ U : List Nd, (encT U).box = false := fun _ => rfl
  have lp := forGo_idx (g := gN 4) (b := (sSeq (sSet 5 (eCall M.m_done_L [(eB 2), (eCall M.m_deed_L [(eB 0), (e2 D.add (eB 1) (e2 D.mul (eC (.int 9)) (eB 4))), (eB 2)])])) (sIf (tNot (tE (e1 (D.isa .str) (eB 5)))) (sSet 2 (eV 5)) sNil)))
    (R := fun k e => k ≤ many ∧ ∃ s2 a b, (s2 = Slot.bor (encT (furV ns at_ T k)) ∨ s2 = .sh (encT (furV ns at_ T k))) ∧ e = [.bor S, .bor (.int at_), s2, .bor (.int many), a, b])
    (xs := (List.range many).map fun (k : Nat) => D.int (0 + (k : Int))) (env := [.bor S, .bor (.int at_), .sh (encT T), .bor (.int many), .un, .un]) 0 (fun i x env hx hR => by
      obtain ⟨hk, s2, a, b, hs2, rfl⟩ := hR
      have hi : i < many := by
        have := (List.getElem?_eq_some_iff.mp hx).1
        simpa using this
      have ex : x = .int i := by simp [hi] at hx; exact hx.symm
      subst ex
      simp only [Nat.zero_add] at hs2 ⊢
      obtain ⟨h1, h2⟩ := fur_tr (ns := ns) (at_ := at_) h i (by omega)
      have m9 : D.mul (.int 9) (.int i) = .ok (.int (9 * i)) := by
        have : smallI 9 = true := by decide
        simp [D.mul, this]
      have dd := deed_L_ok hS (at_ + 9 * i) (T := furV ns at_ T i) (by omega)
      have dn := done_L_ok h1 (by omega) (d := deedV ns (at_ + 9 * i) (furV ns at_ T i)) (deedV_good h1.good)
      have is := isa_str_doneD (doneV (furV ns at_ T i) (deedV ns (at_ + 9 * i) (furV ns at_ T i)))
      simp only [Int.natCast_add, Int.natCast_mul] at dd
      have dd' : M.m_deed_L [S, .int (at_ + 9 * i), encT (furV ns at_ T i)] = .ok (deedV ns (at_ + 9 * i) (furV ns at_ T i)).enc := dd
      rw [fur_succ]
      unfold stepV
      cases e : doneV (furV ns at_ T i) (deedV ns (at_ + 9 * i) (furV ns at_ T i)) with
      | ok U =>
        rw [e] at dn is
        simp only [doneD] at dn is
        refine ⟨_, [.bor S, .bor (.int at_), .sh (encT U), .bor (.int many), .sh (.int i), .sh (encT U)], rfl, .inl ?_, by omega, _, _, _, .inr rfl, rfl⟩
        rcases hs2 with rfl | rfl <;> simp [m9, dd', dn, is, box]
      | error c =>
        rw [e] at dn is
        simp only [doneD] at dn is
        refine ⟨_, [.bor S, .bor (.int at_), s2, .bor (.int many), .sh (.int i), .sh (.str (wordE c))], rfl, .inl ?_, by omega, _, _, _, hs2, rfl⟩
        rcases hs2 with rfl | rfl <;> simp [m9, dd', dn, is, box]) ⟨Nat.zero_le _, _, _, _, .inr rfl, rfl⟩
  obtain ⟨env', lp, hk, s2, a, b, hs2, rfl⟩ := lp
  simp only [Nat.zero_add, List.length_map, List.length_range] at hs2
  refine run_rt rfl ?_
  show M.b_further_L [.bor S, .bor (.int at_), .sh (encT T), .bor (.int many), .un, .un] = _
  have hri : iR1 (eB 3) [.bor S, .bor (.int at_), .sh (encT T), .bor (.int many), .un, .un] = .ok ((List.range many).map fun (k : Nat) => D.int (0 + (k : Int))) := by
    exact iR1_ok (x := .int many) rfl hr
  unfold M.b_further_L
  have fg := for_go (it := iR1 (eB 3)) (g := gN 4) hri lp
  have sq := seq_nx (r := .rt (encT (furV ns at_ T many))) (b := sRet (eV 2)) fg (by rcases hs2 with rfl | rfl <;> rfl)
  exact sq
end Tw

set_option autoImplicit false
set_option linter.all false
/-! Tw, plain: rows, changes, dicts with numbers for keys. -/
namespace Tw
abbrev Row := Int × Nm × Option Int
def rowD (r : Row) : D := .tup [.int r.1, .str r.2.1, stD r.2.2]
def orowD : Option Row → D
  | none => .non
  | some r => rowD r
def Nd.r (x : Nd) : Row := (x.p, x.nm, x.st)
theorem row_r (x : Nd) : x.row = rowD x.r := rfl
def rowAt (T : List Nd) (n : Int) : Option Row := (look T n).map Nd.r
def goodR (r : Row) : Bool := decide (0 ≤ r.1) && goodName r.2.1 && goodSt r.2.2
def goodO : Option Row → Bool
  | none => true
  | some r => goodR r
theorem r_good {x : Nd} (h : x.good = true) : goodR x.r = true := by
  simp only [goodR, Nd.r, Bool.and_eq_true]
  exact ⟨⟨decide_eq_true (Nd.good_p h), Nd.good_nm h⟩, Nd.good_st h⟩
theorem rowAt_good {T : List Nd} (g : ∀ x ∈ T, x.good = true) (n : Int) : goodO (rowAt T n) = true := by
  unfold rowAt
  cases e : look T n with
  | none => rfl
  | some x => exact r_good (g x (look_some e).1)
structure Ch where
  n : Int
  o : Option Row
  w : Option Row
  deriving DecidableEq
def Ch.enc (c : Ch) : D := .tup [.int c.n, orowD c.o, orowD c.w]
abbrev Chg := List Ch
def encC (c : Chg) : D := .tup (c.map Ch.enc)
def Ch.good (c : Ch) : Bool := goodO c.o && goodO c.w
@[simp] theorem orow_non (o : Option Row) : D.isNon (orowD o) = o.isNone := by cases o <;> rfl
@[simp] theorem rowD_non (r : Row) : D.isNon (rowD r) = false := (rfl)
@[simp] theorem rowD_box (r : Row) : D.box (rowD r) = false := (rfl)
@[simp] theorem orowD_box (r : Option Row) : D.box (orowD r) = false := by cases r <;> rfl
@[simp] theorem encC_box (c : Chg) : D.box (encC c) = false := (rfl)
@[simp] theorem encT_box (T : List Nd) : D.box (encT T) = false := (rfl)
@[simp] theorem chenc_box (c : Ch) : D.box c.enc = false := (rfl)
@[simp] theorem ndenc_box (c : Nd) : D.box c.enc = false := (rfl)
@[simp] theorem itC (c : Chg) : D.items (encC c) = .ok (c.map Ch.enc) := (rfl)
@[simp] theorem itT (c : List Nd) : D.items (encT c) = .ok (c.map Nd.enc) := (rfl)
@[simp] theorem stD_box (o : Option Int) : D.box (stD o) = false := by cases o <;> rfl
@[simp] theorem lenT (c : List Nd) : D.len (encT c) = .ok (.int c.length) := by simp [encT]
@[simp] theorem lenC (c : Chg) : D.len (encC c) = .ok (.int c.length) := by simp [encC]
theorem pl_row {r : Row} (h : goodR r = true) (n : Nat) : D.pl (n + 1) (rowD r) = true := by
  simp only [goodR, Bool.and_eq_true, decide_eq_true_eq] at h
  simp [rowD, D.pl, D.pls, name_ok h.1.2, pl_st]
theorem pl_orow {o : Option Row} (h : goodO o = true) (n : Nat) : D.pl (n + 1) (orowD o) = true := by
  cases o with
  | none => simp [orowD, D.pl]
  | some r => exact pl_row h n
theorem eqv_row (a b : Row) : D.eqv (rowD a) (rowD b) = decide (a = b) := by
  obtain ⟨p, m, s⟩ := a
  obtain ⟨q, k, t⟩ := b
  simp only [rowD, D.eqv, D.eqvs, Bool.and_true, eqv_st]
  by_cases h1 : p = q <;> by_cases h2 : m = k <;> by_cases h3 : s = t <;> simp [h1, h2, h3]
theorem eqv_orow (a b : Option Row) : D.eqv (orowD a) (orowD b) = decide (a = b) := by
  cases a with
  | none => cases b with
    | none => simp [orowD, D.eqv]
    | some r => simp [orowD, rowD, D.eqv]
  | some r => cases b with
    | none => simp [orowD, rowD, D.eqv]
    | some s => simp only [orowD, eqv_row, Option.some.injEq]
theorem ne_orow {a b : Option Row} (ha : goodO a = true) (hb : goodO b = true) : D.ne (orowD a) (orowD b) = .ok (.bl (!decide (a = b))) := by
  unfold D.ne
  rw [if_pos (by simp only [D.good]; rw [pl_orow ha 39, pl_orow hb 39]; rfl), eqv_orow]
theorem eq_orow {a b : Option Row} (ha : goodO a = true) (hb : goodO b = true) : D.eq (orowD a) (orowD b) = .ok (.bl (decide (a = b))) := by
  unfold D.eq
  rw [if_pos (by simp only [D.good]; rw [pl_orow ha 39, pl_orow hb 39]; rfl), eqv_orow]
theorem eqv_ch (a b : Ch) : D.eqv a.enc b.enc = decide (a = b) := by
  obtain ⟨n, o, w⟩ := a
  obtain ⟨m, p, v⟩ := b
  simp only [Ch.enc, D.eqv, D.eqvs, eqv_orow, Bool.and_true]
  by_cases h1 : n = m <;> by_cases h2 : o = p <;> by_cases h3 : w = v <;> simp [h1, h2, h3]
theorem eqvs_ch : ∀ a b : Chg, D.eqvs (a.map Ch.enc) (b.map Ch.enc) = decide (a = b)
  | [], [] => by simp [D.eqvs]
  | [], _ :: _ => by simp [D.eqvs]
  | _ :: _, [] => by simp [D.eqvs]
  | x :: a, y :: b => by
    simp only [List.map_cons, D.eqvs, eqv_ch, eqvs_ch a b]
    by_cases h1 : x = y <;> by_cases h2 : a = b <;> simp [h1, h2]
def goodC (c : Chg) : Prop := ∀ x ∈ c, x.good = true
theorem pl_ch {c : Ch} (h : c.good = true) (n : Nat) : D.pl (n + 2) c.enc = true := by
  simp only [Ch.good, Bool.and_eq_true] at h
  simp [Ch.enc, D.pl, D.pls, pl_orow h.1 n, pl_orow h.2 n]
theorem pl_chg {c : Chg} (h : goodC c) (n : Nat) : D.pl (n + 3) (encC c) = true := by
  simp only [encC, D.pl]
  refine pls_mem fun d hd => ?_
  obtain ⟨x, hx, rfl⟩ := List.mem_map.mp hd
  exact pl_ch (h x hx) n
theorem ne_chg {a b : Chg} (ha : goodC a) (hb : goodC b) : D.ne (encC a) (encC b) = .ok (.bl (!decide (a = b))) := by
  unfold D.ne
  rw [if_pos (by simp only [D.good]; rw [pl_chg ha 37, pl_chg hb 37]; rfl)]
  simp only [encC, D.eqv, eqvs_ch]
theorem eq_chg {a b : Chg} (ha : goodC a) (hb : goodC b) : D.eq (encC a) (encC b) = .ok (.bl (decide (a = b))) := by
  unfold D.eq
  rw [if_pos (by simp only [D.good]; rw [pl_chg ha 37, pl_chg hb 37]; rfl)]
  simp only [encC, D.eqv, eqvs_ch]
/-- all numbers of two trees, ascending -/
def allN (T U : List Nd) : List Int := setI (nums T ++ nums U)
def chOf (T U : List Nd) (l : List Int) : Chg := (l.filter fun n => !decide (rowAt T n = rowAt U n)).map fun n => ⟨n, rowAt T n, rowAt U n⟩
def chgV (T U : List Nd) : Chg := chOf T U (allN T U)
theorem chOf_snoc (T U : List Nd) (l : List Int) (n : Int) : chOf T U (l ++ [n]) = if rowAt T n = rowAt U n then chOf T U l else chOf T U l ++ [⟨n, rowAt T n, rowAt U n⟩] := by
  unfold chOf
  rw [List.filter_append, List.map_append]
  by_cases h : rowAt T n = rowAt U n <;> simp [h]
theorem chOf_len (T U : List Nd) (l : List Int) : (chOf T U l).length ≤ l.length := by
  have := List.length_filter_le (fun n => !decide (rowAt T n = rowAt U n)) l
  simpa [chOf] using this
theorem chg_good {T U : List Nd} (g : ∀ x ∈ T, x.good = true) (k : ∀ x ∈ U, x.good = true) : goodC (chgV T U) := fun c hc => by
  obtain ⟨n, _, rfl⟩ := List.mem_map.mp hc
  simp only [Ch.good, Bool.and_eq_true]
  exact ⟨rowAt_good g n, rowAt_good k n⟩
theorem get_row {T : List Nd} {n : Int} : D.get1 (.dct false (bookOf T)) (.int n) = .ok (orowD (rowAt T n)) := by
  rw [book_get]
  unfold rowAt
  cases look T n <;> rfl
theorem insI_len (x : Int) : ∀ l : List Int, (insI x l).length ≤ l.length + 1
  | [] => by simp [insI]
  | y :: l => by
    unfold insI
    split
    · simp
    · split
      · simp
      · have := insI_len x l; simp; omega
theorem setI_len : ∀ l : List Int, (setI l).length ≤ l.length
  | [] => by simp [setI]
  | x :: l => by
    have h1 := setI_len l
    have h2 := insI_len x (setI l)
    show (insI x (setI l)).length ≤ _
    simp; omega
theorem all_numbers {T U : List Nd} (hl : T.length + U.length < 64) : (D.add (.lst ((bookOf T).map fun kv => kv.1.toD)) (.lst ((bookOf U).map fun kv => kv.1.toD))).bind D.sortedSet = .ok (.lst ((allN T U).map D.int)) := by
  rw [keys_book, keys_book, add_lst (by simp; omega)]
  have e : (T.map fun x => D.int x.n) ++ (U.map fun x => D.int x.n) = (nums T ++ nums U).map D.int := by simp [nums, Function.comp_def]
  rw [e]
  simp only [Res.bind_ok, D.sortedSet, ints_int]
  rw [if_pos (by simp; omega)]
  rfl
theorem allN_len {T U : List Nd} : (allN T U).length ≤ T.length + U.length := by
  have := setI_len (nums T ++ nums U)
  simpa [allN] using this
theorem change_between_ok {T U : List Nd} (hT : Tr T) (hU : Tr U) (hl : T.length + U.length < 64) : M.m_change_between [encT T, encT U] = .ok (encC (chgV T U)) := by
  have hb := book_ok hT.nd hT.len
  have hb2 := book_ok hU.nd hU.len
  have hal := allN_len (T := T) (U := U)
  have ag := fun n => rowAt_good hT.good n
  have bg := fun n => rowAt_good hU.good n
  have en : ∀ n, D.tup [.int n, orowD (rowAt T n), orowD (rowAt U n)] = Ch.enc ⟨n, rowAt T n, rowAt U n⟩ := fun _ => rfl
  obtain ⟨env', lp, z, rfl⟩ := forGo_pre (g := gN 5) (b := sIf (tE (e2 D.ne (eGet1 (eB 2) (eB 5)) (eGet1 (eB 3) (eB 5)))) (sApp 4 (eTup [(eV 5), (eGet1 (eB 2) (eB 5)), (eGet1 (eB 3) (eB 5))])) sNil)
    (e := D.int) (ys := allN T U)
    (R := fun pre e => ∃ z, e = [.bor (encT T), .bor (encT U), .sh (.dct false (bookOf T)), .sh (.dct false (bookOf U)), .own (.lst ((chOf T U pre).map Ch.enc)), z])
    (env := [.bor (encT T), .bor (encT U), .sh (.dct false (bookOf T)), .sh (.dct false (bookOf U)), .own (.lst []), .un]) (fun pre n post hy env hR => by
      obtain ⟨z, rfl⟩ := hR
      have hlen : (chOf T U pre).length < szl := by
        have h1 := chOf_len T U pre
        have h2 : pre.length ≤ (allN T U).length := by rw [hy]; simp
        have := szl_big
        omega
      have hne := ne_orow (ag n) (bg n)
      by_cases q : rowAt T n = rowAt U n
      · rw [decide_eq_true q] at hne
        rw [chOf_snoc, if_pos q]
        refine ⟨_, [.bor (encT T), .bor (encT U), .sh (.dct false (bookOf T)), .sh (.dct false (bookOf U)), .own (.lst ((chOf T U pre).map Ch.enc)), .sh (.int n)], rfl, .inl ?_, _, rfl⟩
        simp [get_row, hne]
      · rw [decide_eq_false q] at hne
        rw [chOf_snoc, if_neg q]
        refine ⟨_, [.bor (encT T), .bor (encT U), .sh (.dct false (bookOf T)), .sh (.dct false (bookOf U)), .own (.lst ((chOf T U pre ++ [(⟨n, rowAt T n, rowAt U n⟩ : Ch)]).map Ch.enc)), .sh (.int n)], rfl, .inl ?_, _, rfl⟩
        simp [get_row, hne, hlen, en]) ⟨_, rfl⟩
  have ha := all_numbers (T := T) (U := U) hl
  refine run_rt rfl ?_
  show M.b_change_between [.bor (encT T), .bor (encT U), .un, .un, .un, .un] = _
  simp [M.b_change_between, hb, hb2, ha, lp, encC, chgV]
theorem between_L_ok {T U : List Nd} (hT : Tr T) (hU : Tr U) (hl : T.length + U.length < 64) : M.m_between_L [encT T, encT U] = .ok (encC (chgV T U)) := by
  have hb := book_ok2 hT.nd hT.len
  have hb2 := book_ok2 hU.nd hU.len
  have hal := allN_len (T := T) (U := U)
  have ag := fun n => rowAt_good hT.good n
  have bg := fun n => rowAt_good hU.good n
  have hsz : (allN T U).length < szl := small_szl (by omega)
  have ha := all_numbers (T := T) (U := U) hl
  have en : ∀ n, D.tup [.int n, orowD (rowAt T n), orowD (rowAt U n)] = Ch.enc ⟨n, rowAt T n, rowAt U n⟩ := fun _ => rfl
  have c1 : compGo (compTurn [6] (gN 6) tTrue (eTup [(eV 6), (eGet1 (eB 2) (eB 6)), (eGet1 (eB 3) (eB 6))]) [.bor (encT T), .bor (encT U), .sh (.dct false (bookOf T)), .sh (.dct false (bookOf U)), .sh (.lst ((allN T U).map D.int)), .un, .un, .un]) ((allN T U).map D.int) = .ok ((allN T U).map fun n => Ch.enc ⟨n, rowAt T n, rowAt U n⟩) := by
    refine compGo_map fun n _ => ?_
    simp [get_row, en]
  have c2 : compGo (compTurn [7] (gN 7) (tE (e2 D.ne (e2 D.idx (eB 7) (eC (.int 1))) (e2 D.idx (eB 7) (eC (.int 2))))) (eV 7) [.bor (encT T), .bor (encT U), .sh (.dct false (bookOf T)), .sh (.dct false (bookOf U)), .sh (.lst ((allN T U).map D.int)), .sh (.lst ((allN T U).map fun n => Ch.enc ⟨n, rowAt T n, rowAt U n⟩)), .un, .un]) ((allN T U).map fun n => Ch.enc ⟨n, rowAt T n, rowAt U n⟩) = .ok ((chOf T U (allN T U)).map Ch.enc) := by
    unfold chOf
    rw [List.map_map]
    refine compGo_enc (e := fun n => Ch.enc ⟨n, rowAt T n, rowAt U n⟩) fun n _ => ?_
    have hne := ne_orow (ag n) (bg n)
    by_cases q : rowAt T n = rowAt U n
    · rw [decide_eq_true q] at hne ⊢
      simp [Ch.enc, hne]
    · rw [decide_eq_false q] at hne ⊢
      simp [Ch.enc, hne]
  refine run_rt rfl ?_
  show M.b_between_L [.bor (encT T), .bor (encT U), .un, .un, .un, .un, .un, .un] = _
  simp [- ev_turn, M.b_between_L, hb, hb2, ha, hsz, c1, c2, encC, chgV]
end Tw

set_option autoImplicit false
set_option linter.all false
/-! Tw, plain: dicts with numbers for keys. -/
namespace Tw
section
variable {α : Type} (f : α → D)
def encI (L : List (Int × α)) : List (Ky × D) := L.map fun p => (.int p.1, f p.2)
def iget (L : List (Int × α)) (n : Int) : Option α := (L.find? fun p => decide (p.1 = n)).map (·.2)
def iput (L : List (Int × α)) (n : Int) (v : α) : List (Int × α) := if n ∈ L.map (·.1) then L.map fun p => if p.1 = n then (p.1, v) else p else L ++ [(n, v)]
def idel (L : List (Int × α)) (n : Int) : List (Int × α) := L.filter fun p => !decide (p.1 = n)
variable {f}
theorem iget_none {L : List (Int × α)} {n : Int} (h : n ∉ L.map (·.1)) : iget L n = none := by
  unfold iget
  rw [List.find?_eq_none.mpr]
  · rfl
  · intro p hp e
    exact h (List.mem_map.mpr ⟨p, hp, by simpa using e⟩)
theorem iget_some {L : List (Int × α)} {n : Int} {v : α} (h : iget L n = some v) : (n, v) ∈ L := by
  unfold iget at h
  cases e : L.find? fun p => decide (p.1 = n) with
  | none => rw [e] at h; cases h
  | some p =>
    rw [e] at h
    cases h
    have h1 := List.mem_of_find?_eq_some e
    have h2 := List.find?_some e
    simp only [decide_eq_true_eq] at h2
    rw [← h2]; exact h1
theorem iget_isSome {L : List (Int × α)} {n : Int} : (iget L n).isSome = decide (n ∈ L.map (·.1)) := by
  by_cases h : n ∈ L.map (·.1)
  · obtain ⟨p, hp, e⟩ := List.mem_map.mp h
    unfold iget
    cases q : L.find? fun p => decide (p.1 = n) with
    | none =>
      have := List.find?_eq_none.mp q p hp
      simp [e] at this
    | some x => simp [h]
  · rw [iget_none h]; simp [h]
theorem iget_mem {L : List (Int × α)} (nd : (L.map (·.1)).Nodup) {n : Int} {v : α} (h : (n, v) ∈ L) : iget L n = some v := by
  induction L with
  | nil => cases h
  | cons p L ih =>
    obtain ⟨m, u⟩ := p
    simp only [List.map_cons, List.nodup_cons] at nd
    unfold iget
    rw [List.find?_cons]
    rcases List.mem_cons.mp h with h | h
    · cases h; simp
    · have ne : m ≠ n := fun e => nd.1 (by rw [e]; exact List.mem_map.mpr ⟨_, h, rfl⟩)
      simp only [ne, decide_false]
      exact ih nd.2 h
theorem kget_I (n : Int) : ∀ L : List (Int × α), kget (.int n) (encI f L) = (iget L n).map f
  | [] => rfl
  | (m, u) :: L => by
    have ih := kget_I n L
    show (if Ky.int m = Ky.int n then some (f u) else kget (.int n) (encI f L)) = _
    unfold iget at ih ⊢
    rw [List.find?_cons]
    by_cases h : m = n
    · simp [h]
    · simp [h, ih]
theorem khas_I (n : Int) (L : List (Int × α)) : khas (.int n) (encI f L) = decide (n ∈ L.map (·.1)) := by
  unfold khas
  rw [kget_I, ← iget_isSome]
  cases iget L n <;> rfl
theorem kput_I (n : Int) (v : α) (L : List (Int × α)) : kput (.int n) (f v) (encI f L) = encI f (iput L n v) := by
  unfold kput iput
  rw [khas_I]
  by_cases h : n ∈ L.map (·.1)
  · rw [if_pos (by simpa using h), if_pos h]
    unfold encI
    rw [List.map_map, List.map_map]
    refine List.map_congr_left fun p _ => ?_
    by_cases e : p.1 = n <;> simp [e]
  · rw [if_neg (by simpa using h), if_neg h]
    simp [encI]
theorem kdel_I (n : Int) (L : List (Int × α)) : kdel (.int n) (encI f L) = encI f (idel L n) := by
  unfold kdel idel encI
  rw [List.filter_map]
  congr 1
  refine List.filter_congr fun p _ => ?_
  by_cases e : p.1 = n <;> simp [e, Function.comp]
theorem iput_len (L : List (Int × α)) (n : Int) (v : α) : (iput L n v).length ≤ L.length + 1 := by
  unfold iput; split <;> simp
theorem encI_len (L : List (Int × α)) : (encI f L).length = L.length := by simp [encI]
theorem keys_I (L : List (Int × α)) : ((encI f L).map fun kv => kv.1.toD) = (L.map (·.1)).map D.int := by simp [encI, Function.comp_def]
theorem iget_put {L : List (Int × α)} {n : Int} {v : α} (m : Int) : iget (iput L n v) m = if m = n then some v else iget L m := by
  unfold iput
  by_cases h : n ∈ L.map (·.1)
  · rw [if_pos h]
    induction L with
    | nil => cases h
    | cons p L ih =>
      obtain ⟨k, u⟩ := p
      unfold iget at ih ⊢
      rw [List.map_cons, List.find?_cons, List.find?_cons]
      by_cases e : k = n
      · subst e
        by_cases q : k = m
        · subst q; simp
        · simp only [if_true, q, decide_false]
          by_cases h2 : k ∈ L.map (·.1)
          · exact ih h2
          · have : (L.map fun p => if p.1 = k then (p.1, v) else p) = L := by
              conv => rhs; rw [← List.map_id L]
              refine List.map_congr_left fun p hp => ?_
              have : p.1 ≠ k := fun z => h2 (List.mem_map.mpr ⟨p, hp, z⟩)
              simp [this]
            rw [this]
            have : ¬ m = k := fun z => q z.symm
            simp [this]
      · simp only [e, if_false]
        by_cases q : k = m
        · subst q; simp [e]
        · simp only [q, decide_false]
          have h2 : n ∈ L.map (·.1) := by
            rcases List.mem_cons.mp h with h | h
            · exact absurd h.symm e
            · exact h
          exact ih h2
  · rw [if_neg h]
    unfold iget
    rw [List.find?_append]
    by_cases e : m = n
    · subst e
      have : L.find? (fun p => decide (p.1 = m)) = none := List.find?_eq_none.mpr fun p hp z => h (List.mem_map.mpr ⟨p, hp, by simpa using z⟩)
      rw [this]; simp
    · have e2 : ¬ n = m := fun z => e z.symm
      simp [e, e2]
theorem put_nums {L : List (Int × α)} {n : Int} {v : α} : (iput L n v).map (·.1) = if n ∈ L.map (·.1) then L.map (·.1) else L.map (·.1) ++ [n] := by
  unfold iput
  by_cases h : n ∈ L.map (·.1)
  · rw [if_pos h, if_pos h, List.map_map]
    refine List.map_congr_left fun p _ => ?_
    by_cases e : p.1 = n <;> simp [e]
  · rw [if_neg h, if_neg h]; simp
theorem put_nodup {L : List (Int × α)} {n : Int} {v : α} (nd : (L.map (·.1)).Nodup) : ((iput L n v).map (·.1)).Nodup := by
  rw [put_nums]
  split
  · exact nd
  · rename_i h
    rw [List.nodup_append]
    refine ⟨nd, by simp, fun a ha b hb => ?_⟩
    simp at hb; subst hb
    exact fun e => h (e ▸ ha)
theorem iget_del {L : List (Int × α)} {n : Int} (m : Int) : iget (idel L n) m = if m = n then none else iget L m := by
  unfold idel iget
  by_cases e : m = n
  · subst e
    rw [if_pos rfl]
    have : (L.filter fun p => !decide (p.1 = m)).find? (fun p => decide (p.1 = m)) = none := List.find?_eq_none.mpr fun p hp z => by
      have := (List.mem_filter.mp hp).2
      simp at this z
      exact this z
    rw [this]; rfl
  · rw [if_neg e, List.find?_filter]
    congr 1
    congr 1
    funext p
    by_cases q : p.1 = m
    · simp [q, e]
    · simp [q]
theorem del_nodup {L : List (Int × α)} {n : Int} (nd : (L.map (·.1)).Nodup) : ((idel L n).map (·.1)).Nodup := nd.sublist (List.filter_sublist.map _)
/-- by numbers, as tables -/
theorem get_I {L : List (Int × α)} {n : Int} : D.get1 (.dct false (encI f L)) (.int n) = .ok (((iget L n).map f).getD .non) := by
  show Res.ok ((kget (.int n) (encI f L)).getD .non) = _
  rw [kget_I]
theorem idx_I {L : List (Int × α)} {n : Int} {v : α} (h : iget L n = some v) : D.idx (.dct false (encI f L)) (.int n) = .ok (f v) := by
  show Res.ofOpt (kget (.int n) (encI f L)) = _
  rw [kget_I, h]; rfl
theorem isIn_I {L : List (Int × α)} {n : Int} : D.isIn (.int n) (.dct false (encI f L)) = .ok (.bl (decide (n ∈ L.map (·.1)))) := by
  show ((Res.ofOpt (some (khas (.int n) (encI f L)))).bind fun b => Res.ok (D.bl b)) = _
  rw [khas_I]; rfl
theorem notIn_I {L : List (Int × α)} {n : Int} : D.notIn (.int n) (.dct false (encI f L)) = .ok (.bl (!decide (n ∈ L.map (·.1)))) := by
  show ((Res.ofOpt (some (khas (.int n) (encI f L)))).bind fun b => Res.ok (D.bl (!b))) = _
  rw [khas_I]; rfl
end
/-- the numbers in order -/
def sortI (l : List Int) : List Int := l.mergeSort fun a b => decide (a ≤ b)
theorem sortD_int (l : List Int) : sortD (l.map D.int) = (sortI l).map D.int := by
  unfold sortD sortI
  exact (List.map_mergeSort fun a _ b _ => by rw [le_int]).symm
theorem sorted_int {l : List Int} (hl : l.length ≤ 1000) : D.sorted (.lst (l.map D.int)) = .ok (.lst ((sortI l).map D.int)) := by
  rw [sorted_eq (sortable_ints l) (by simpa using hl), sortD_int]
theorem sortI_perm (l : List Int) : (sortI l).Perm l := List.mergeSort_perm l _
theorem sortI_pw {l : List Int} (nd : l.Nodup) : (sortI l).Pairwise (· < ·) := by
  have h1 : (sortI l).Pairwise fun a b => decide (a ≤ b) = true := List.pairwise_mergeSort (fun a b c h g => by simp at h g ⊢; omega) (fun a b => by simp; omega) l
  have h2 := (sortI_perm l).nodup_iff.mpr nd
  exact (h1.and h2).imp fun ⟨h, g⟩ => by simp at h; omega
theorem sortI_set {l : List Int} (nd : l.Nodup) : sortI l = setI l := pw_uniq (sortI_pw nd) (setI_pw l) fun x => by rw [(sortI_perm l).mem_iff, mem_setI]
end Tw

set_option autoImplicit false
set_option linter.all false
/-! Tw, plain: changes counted, turned back, joined. -/
namespace Tw
def kindV (c : Ch) : Nat := match c.o, c.w with
  | none, _ => 0
  | some _, none => 1
  | some a, some b => if (a.1, a.2.1) = (b.1, b.2.1) then 2 else if a.2.2 = b.2.2 then 3 else 4
def sMade : Nm := [109, 97, 100, 101]
def sGone : Nm := [103, 111, 110, 101]
def sWritten : Nm := [119, 114, 105, 116, 116, 101, 110]
def sMoved : Nm := [109, 111, 118, 101, 100]
def sBoth : Nm := [98, 111, 116, 104]
def kinds : List Nm := [sMade, sGone, sWritten, sMoved, sBoth]
def kindN (k : Nat) : Nm := kinds.getD k []
theorem eq_spot {p q : Int} {m k : Nm} (h : goodName m = true) (g : goodName k = true) : D.eq (.tup [.int p, .str m]) (.tup [.int q, .str k]) = .ok (.bl (decide ((p, m) = (q, k)))) := by
  unfold D.eq
  rw [if_pos (by simp only [D.good]; rw [pl_spot h 39, pl_spot g 39]; rfl)]
  exact congrArg (fun b => Res.ok (D.bl b)) (eqv_spot ⟨0, p, m, none⟩ q k)
theorem eq_st (a b : Option Int) : D.eq (stD a) (stD b) = .ok (.bl (decide (a = b))) := by
  unfold D.eq
  rw [if_pos (by simp only [D.good]; rw [pl_st, pl_st]; rfl), eqv_st]
theorem cut_row (r : Row) : D.cut none (some 2) (rowD r) = .ok (.tup [.int r.1, .str r.2.1]) := rfl
theorem rowD2 (r : Row) : D.idx (rowD r) (.int 2) = .ok (stD r.2.2) := rfl
theorem rowD0 (r : Row) : D.idx (rowD r) (.int 0) = .ok (.int r.1) := rfl
theorem rowD1 (r : Row) : D.idx (rowD r) (.int 1) = .ok (.str r.2.1) := rfl
theorem word_of_ok {c : Ch} (g : c.good = true) : M.m_word_of [orowD c.o, orowD c.w] = .ok (.str (kindN (kindV c))) := by
  obtain ⟨n, o, w⟩ := c
  refine run_rt rfl ?_
  show M.b_word_of [.bor (orowD o), .bor (orowD w)] = _
  cases o with
  | none => simp [M.b_word_of, kindV, kindN, kinds, sMade]
  | some a =>
    cases w with
    | none => simp [M.b_word_of, kindV, kindN, kinds, sGone]
    | some b =>
      simp only [Ch.good, goodO, goodR, Bool.and_eq_true] at g
      have e1 := eq_spot (p := a.1) (q := b.1) g.1.1.2 g.2.1.2
      have e2 := eq_st a.2.2 b.2.2
      by_cases h : (a.1, a.2.1) = (b.1, b.2.1)
      · rw [decide_eq_true h] at e1
        have k : kindV ⟨n, some a, some b⟩ = 2 := by simp only [kindV]; rw [if_pos h]
        rw [k]
        simp [M.b_word_of, orowD, cut_row, e1, kindN, kinds, sWritten]
      · rw [decide_eq_false h] at e1
        by_cases q : a.2.2 = b.2.2
        · rw [decide_eq_true q] at e2
          have k : kindV ⟨n, some a, some b⟩ = 3 := by simp only [kindV]; rw [if_neg h, if_pos q]
          rw [k]
          simp [M.b_word_of, orowD, cut_row, rowD2, e1, e2, kindN, kinds, sMoved]
        · rw [decide_eq_false q] at e2
          have k : kindV ⟨n, some a, some b⟩ = 4 := by simp only [kindV]; rw [if_neg h, if_neg q]
          rw [k]
          simp [M.b_word_of, orowD, cut_row, rowD2, e1, e2, kindN, kinds, sBoth]
theorem kind_lt (c : Ch) : kindV c < 5 := by
  unfold kindV
  split
  · omega
  · omega
  · split
    · omega
    · split <;> omega
def countV (c : Chg) : List Int := (List.range 5).map fun k => ((c.filter fun x => kindV x == k).length : Int)
theorem kindN_ok {k : Nat} (h : k < 5) : (kindN k).all (fun c => decide (c < 1114112)) = true := by
  match k, h with
  | 0, _ => decide
  | 1, _ => decide
  | 2, _ => decide
  | 3, _ => decide
  | 4, _ => decide
theorem kindN_inj {j k : Nat} (h : j < 5) (g : k < 5) : (kindN j == kindN k) = (j == k) := by
  match j, h, k, g with
  | 0, _, 0, _ => decide
  | 0, _, 1, _ => decide
  | 0, _, 2, _ => decide
  | 0, _, 3, _ => decide
  | 0, _, 4, _ => decide
  | 1, _, 0, _ => decide
  | 1, _, 1, _ => decide
  | 1, _, 2, _ => decide
  | 1, _, 3, _ => decide
  | 1, _, 4, _ => decide
  | 2, _, 0, _ => decide
  | 2, _, 1, _ => decide
  | 2, _, 2, _ => decide
  | 2, _, 3, _ => decide
  | 2, _, 4, _ => decide
  | 3, _, 0, _ => decide
  | 3, _, 1, _ => decide
  | 3, _, 2, _ => decide
  | 3, _, 3, _ => decide
  | 3, _, 4, _ => decide
  | 4, _, 0, _ => decide
  | 4, _, 1, _ => decide
  | 4, _, 2, _ => decide
  | 4, _, 3, _ => decide
  | 4, _, 4, _ => decide
theorem count_kinds {c : Chg} {k : Nat} (h : k < 5) : D.count (.lst (c.map fun x => .str (kindN (kindV x)))) (.str (kindN k)) = .ok (.int ((c.filter fun x => kindV x == k).length : Nat)) := by
  have h1 : D.cntOk (.str (kindN k)) = true := kindN_ok h
  have h2 : ((c.map fun x => D.str (kindN (kindV x))).all fun x => D.cntOk x && x.kind == (D.str (kindN k)).kind) = true := by
    rw [List.all_eq_true]
    intro d hd
    obtain ⟨x, _, rfl⟩ := List.mem_map.mp hd
    have : D.cntOk (.str (kindN (kindV x))) = true := kindN_ok (kind_lt x)
    simp [this, D.kind]
  simp only [D.count]
  rw [if_pos (by rw [h1, h2]; rfl), List.filter_map, List.length_map]
  have : ((fun x => D.eqv x (.str (kindN k))) ∘ fun x : Ch => D.str (kindN (kindV x))) = fun x => kindV x == k := by
    funext x
    simp only [Function.comp, D.eqv]
    exact kindN_inj (kind_lt x) h
  rw [this]
theorem counted_ok {c : Chg} (g : goodC c) (hl : c.length ≤ 1000) : M.m_counted [encC c] = .ok (.tup ((countV c).map D.int)) := by
  have hsz : c.length < szl := small_szl (by omega)
  have c1 : compGo (compTurn [2, 3, 4] (gT [(gN 2), (gN 3), (gN 4)]) tTrue (eCall M.m_word_of [(eB 3), (eB 4)]) [.bor (encC c), .un, .un, .un, .un, .un]) (c.map Ch.enc) = .ok (c.map fun x => .str (kindN (kindV x))) := by
    refine compGo_map fun x hx => ?_
    simp [Ch.enc, word_of_ok (g x hx)]
  have k0 : D.count (.lst (c.map fun x => .str (kindN (kindV x)))) (.str [109, 97, 100, 101]) = .ok (.int ((c.filter fun x => kindV x == 0).length : Nat)) := count_kinds (c := c) (k := 0) (by decide)
  have k1 : D.count (.lst (c.map fun x => .str (kindN (kindV x)))) (.str [103, 111, 110, 101]) = .ok (.int ((c.filter fun x => kindV x == 1).length : Nat)) := count_kinds (c := c) (k := 1) (by decide)
  have k2 : D.count (.lst (c.map fun x => .str (kindN (kindV x)))) (.str [119, 114, 105, 116, 116, 101, 110]) = .ok (.int ((c.filter fun x => kindV x == 2).length : Nat)) := count_kinds (c := c) (k := 2) (by decide)
  have k3 : D.count (.lst (c.map fun x => .str (kindN (kindV x)))) (.str [109, 111, 118, 101, 100]) = .ok (.int ((c.filter fun x => kindV x == 3).length : Nat)) := count_kinds (c := c) (k := 3) (by decide)
  have k4 : D.count (.lst (c.map fun x => .str (kindN (kindV x)))) (.str [98, 111, 116, 104]) = .ok (.int ((c.filter fun x => kindV x == 4).length : Nat)) := count_kinds (c := c) (k := 4) (by decide)
  refine run_rt rfl ?_
  show M.b_counted [.bor (encC c), .un, .un, .un, .un, .un] = _
  have it : (encC c).items = .ok (c.map Ch.enc) := rfl
  simp [- ev_turn, M.b_counted, it, hsz, c1]
  simp [compGo, k0, k1, k2, k3, k4, countV, List.range_succ]
def turnV (c : Chg) : Chg := c.map fun x => ⟨x.n, x.w, x.o⟩
theorem turned_back_ok {c : Chg} (hl : c.length ≤ 1000) : M.m_turned_back [encC c] = .ok (encC (turnV c)) := by
  have hsz : c.length < szl := small_szl (by omega)
  have bx : ∀ o, (orowD o).box = false := fun o => by cases o <;> rfl
  have c1 : compGo (compTurn [1, 2, 3] (gT [(gN 1), (gN 2), (gN 3)]) tTrue (eTup [(eV 1), (eV 3), (eV 2)]) [.bor (encC c), .un, .un, .un]) (c.map Ch.enc) = .ok (c.map fun x => Ch.enc ⟨x.n, x.w, x.o⟩) := by
    refine compGo_map fun x hx => ?_
    simp [Ch.enc]
  have it : (encC c).items = .ok (c.map Ch.enc) := rfl
  refine run_rt rfl ?_
  show M.b_turned_back [.bor (encC c), .un, .un, .un] = _
  simp [- ev_turn, M.b_turned_back, it, hsz, c1]
  simp [encC, turnV, Ch.enc]

/-! ### joined -/
abbrev OW := Option Row × Option Row
def owD (v : OW) : D := .tup [orowD v.1, orowD v.2]
@[simp] theorem owD0 (v : OW) : D.idx (owD v) (.int 0) = .ok (orowD v.1) := (rfl)
@[simp] theorem owD1 (v : OW) : D.idx (owD v) (.int 1) = .ok (orowD v.2) := (rfl)
def chL (c : Chg) : List (Int × OW) := c.map fun x => (x.n, (x.o, x.w))
def jStep (L : List (Int × OW)) (b : Ch) : List (Int × OW) := iput L b.n (match iget L b.n with
  | some v => (v.1, b.w)
  | none => (b.o, b.w))
theorem jStep_eq (L : List (Int × OW)) (b : Ch) : jStep L b = iput L b.n (match iget L b.n with
  | some v => (v.1, b.w)
  | none => (b.o, b.w)) := rfl
def jBad (A : Chg) (b : Ch) : Bool := match iget (chL A) b.n with
  | some v => !decide (v.2 = b.o)
  | none => false
abbrev cnums (c : Chg) : List Int := c.map (·.n)
theorem chL_nums (c : Chg) : (chL c).map (·.1) = cnums c := by simp [chL, Function.comp_def]
theorem iput_new {L : List (Int × OW)} {n : Int} {v : OW} (h : n ∉ L.map (·.1)) : iput L n v = L ++ [(n, v)] := by unfold iput; rw [if_neg h]
/-- what two tell of a number -/
def jAt (A B : Chg) (n : Int) : OW := ((match iget (chL A) n with
  | some v => v.1
  | none => match iget (chL B) n with
    | some v => v.1
    | none => none), match iget (chL B) n with
  | some v => v.2
  | none => match iget (chL A) n with
    | some v => v.2
    | none => none)
def joinV (A B : Chg) : Chg := ((setI (cnums A ++ cnums B)).filter fun n => !decide ((jAt A B n).1 = (jAt A B n).2)).map fun n => ⟨n, (jAt A B n).1, (jAt A B n).2⟩
theorem snoc_ind {α : Type} {P : List α → Prop} (h0 : P []) (h1 : ∀ l x, P l → P (l ++ [x])) : ∀ l, P l := fun l => by
  rw [← List.reverse_reverse l]
  induction l.reverse with
  | nil => exact h0
  | cons x r ih => rw [List.reverse_cons]; exact h1 _ _ ih
theorem nodup_snoc {α : Type} {l : List α} {x : α} (h : (l ++ [x]).Nodup) : l.Nodup ∧ x ∉ l := by
  rw [List.nodup_append] at h
  exact ⟨h.1, fun m => h.2.2 x m x (by simp) rfl⟩
theorem jfold (A : Chg) : ∀ pre : Chg, (cnums pre).Nodup → ∀ n, iget (pre.foldl jStep (chL A)) n = match iget (chL pre) n with
    | some v => some (match iget (chL A) n with
      | some a => (a.1, v.2)
      | none => v)
    | none => iget (chL A) n := by
  refine snoc_ind ?_ ?_
  · intro _ n; simp [chL, iget]
  · intro r b ih nd n
    unfold cnums at nd
    rw [List.map_append] at nd
    obtain ⟨nd1, nb⟩ := nodup_snoc nd
    have ih' := ih nd1
    have e1 : ∀ m, iget (chL (r ++ [b])) m = if m = b.n then some (b.o, b.w) else iget (chL r) m := fun m => by
      have : chL (r ++ [b]) = iput (chL r) b.n (b.o, b.w) := by
        rw [iput_new (by rw [chL_nums]; exact nb)]
        simp [chL]
      rw [this, iget_put]
    have e2 : iget (chL r) b.n = none := iget_none (by rw [chL_nums]; exact nb)
    rw [e1, List.foldl_append]
    show iget (jStep (r.foldl jStep (chL A)) b) n = _
    rw [jStep_eq, iget_put]
    by_cases h : n = b.n
    · subst h
      rw [if_pos rfl, if_pos rfl, ih', e2]
      try (cases iget (chL A) b.n <;> rfl)
    · rw [if_neg h, if_neg h, ih']
theorem jfold_nums (A : Chg) : ∀ pre : Chg, (cnums A).Nodup → ((pre.foldl jStep (chL A)).map (·.1)).Nodup ∧ (∀ n, n ∈ (pre.foldl jStep (chL A)).map (·.1) ↔ n ∈ cnums A ++ cnums pre) ∧ (pre.foldl jStep (chL A)).length ≤ A.length + pre.length := by
  refine snoc_ind ?_ ?_
  · intro nd
    refine ⟨by rw [List.foldl_nil, chL_nums]; exact nd, fun n => by rw [List.foldl_nil, chL_nums]; simp, by simp [chL]⟩
  · intro r b ih nd
    obtain ⟨h1, h2, h3⟩ := ih nd
    rw [List.foldl_append]
    show ((jStep (r.foldl jStep (chL A)) b).map (·.1)).Nodup ∧ (∀ n, n ∈ (jStep (r.foldl jStep (chL A)) b).map (·.1) ↔ _) ∧ (jStep (r.foldl jStep (chL A)) b).length ≤ _
    rw [jStep_eq]
    refine ⟨put_nodup h1, fun n => ?_, ?_⟩
    · have e : cnums A ++ cnums (r ++ [b]) = (cnums A ++ cnums r) ++ [b.n] := by simp [cnums]
      rw [put_nums, e, List.mem_append (s := cnums A ++ cnums r), ← h2 n]
      split
      · rename_i q
        constructor
        · exact .inl
        · rintro (z | z)
          · exact z
          · simp at z; rw [z]; exact q
      · rw [List.mem_append]
    · have := iput_len (r.foldl jStep (chL A)) b.n (match iget (r.foldl jStep (chL A)) b.n with
        | some v => (v.1, b.w)
        | none => (b.o, b.w))
      simp only [List.length_append, List.length_singleton]; omega
theorem jfold_at {A B : Chg} (nB : (cnums B).Nodup) {n : Int} (h : n ∈ cnums A ++ cnums B) : iget (B.foldl jStep (chL A)) n = some (jAt A B n) := by
  rw [jfold A B nB n]
  unfold jAt
  cases e : iget (chL B) n with
  | some v => cases e2 : iget (chL A) n <;> rfl
  | none =>
    cases e2 : iget (chL A) n with
    | some v => rfl
    | none =>
      have f1 := iget_isSome (L := chL A) (n := n)
      have f2 := iget_isSome (L := chL B) (n := n)
      rw [e2, chL_nums] at f1
      rw [e, chL_nums] at f2
      simp only [Option.isSome_none] at f1 f2
      rcases List.mem_append.mp h with q | q
      · simp [q] at f1
      · simp [q] at f2
def goodL (L : List (Int × OW)) : Prop := ∀ p ∈ L, goodO p.2.1 = true ∧ goodO p.2.2 = true
theorem chL_good {A : Chg} (g : goodC A) : goodL (chL A) := fun p hp => by
  obtain ⟨x, hx, rfl⟩ := List.mem_map.mp hp
  have := g x hx
  simp only [Ch.good, Bool.and_eq_true] at this
  exact this
theorem jstep_good {L : List (Int × OW)} (g : goodL L) {b : Ch} (gb : b.good = true) : goodL (jStep L b) := fun p hp => by
  simp only [Ch.good, Bool.and_eq_true] at gb
  rw [jStep_eq] at hp
  unfold iput at hp
  have gv : goodO (match iget L b.n with
    | some v => (v.1, b.w)
    | none => (b.o, b.w)).1 = true ∧ goodO (match iget L b.n with
    | some v => (v.1, b.w)
    | none => (b.o, b.w)).2 = true := by
    cases e : iget L b.n with
    | some v => exact ⟨(g _ (iget_some e)).1, gb.2⟩
    | none => exact gb
  split at hp
  · obtain ⟨q, hq, rfl⟩ := List.mem_map.mp hp
    by_cases z : q.1 = b.n
    · rw [if_pos z]; exact gv
    · rw [if_neg z]; exact g q hq
  · rcases List.mem_append.mp hp with hp | hp
    · exact g p hp
    · rw [List.mem_singleton.mp hp]; exact gv
theorem jfold_good {A : Chg} (gA : goodC A) : ∀ pre : Chg, goodC pre → goodL (pre.foldl jStep (chL A)) := by
  refine snoc_ind (fun _ => chL_good gA) fun r b ih g => ?_
  rw [List.foldl_append]
  exact jstep_good (ih fun x hx => g x (List.mem_append_left _ hx)) (g b (by simp))
theorem jAt_good {A B : Chg} (gA : goodC A) (gB : goodC B) (nB : (cnums B).Nodup) {n : Int} (h : n ∈ cnums A ++ cnums B) : goodO (jAt A B n).1 = true ∧ goodO (jAt A B n).2 = true := jfold_good gA B gB _ (iget_some (jfold_at nB h))
theorem join_good {A B : Chg} (gA : goodC A) (gB : goodC B) (nB : (cnums B).Nodup) : goodC (joinV A B) := fun c hc => by
  obtain ⟨n, hn, rfl⟩ := List.mem_map.mp hc
  have := jAt_good gA gB nB (mem_setI.mp (List.mem_filter.mp hn).1)
  simp only [Ch.good, Bool.and_eq_true]
  exact this
theorem joined_ok {A B : Chg} (gA : goodC A) (gB : goodC B) (nA : (cnums A).Nodup) (nB : (cnums B).Nodup) (lA : A.length ≤ 400) (lB : B.length ≤ 400) :
    M.m_joined [encC A, encC B] = if B.any (jBad A) then .err 7 else .ok (encC (joinV A B)) := by
  -- the first loop
  obtain ⟨e1, lp1, a, b, c, h1⟩ := forGo_pre (g := gT [(gN 3), (gN 4), (gN 5)]) (b := sPut 2 (eB 3) (eTup [(eV 4), (eV 5)])) (e := Ch.enc) (ys := A) (env := [.sh (encC A), .sh (encC B), .own (.dct false []), .un, .un, .un])
    (R := fun pre e => ∃ a b c, e = [.sh (encC A), .sh (encC B), .own (.dct false (encI owD (chL pre))), a, b, c]) (fun pre x post hy env hR => by
      obtain ⟨a, b, c, rfl⟩ := hR
      have hl : (encI owD (chL pre)).length < szl := by
        have : pre.length ≤ A.length := by rw [hy]; simp
        have := szl_big
        simp [encI, chL]; omega
      have hx : x.n ∉ (chL pre).map (·.1) := by
        rw [chL_nums]
        intro m
        rw [hy] at nA
        unfold cnums at nA
        rw [List.map_append, List.nodup_append] at nA
        exact nA.2.2 _ m x.n (by simp) rfl
      have kp := kput_I (f := owD) x.n (x.o, x.w) (chL pre)
      have en : D.tup [orowD x.o, orowD x.w] = owD (x.o, x.w) := rfl
      have e3 : iput (chL pre) x.n (x.o, x.w) = chL (pre ++ [x]) := by rw [iput_new hx]; simp [chL]
      rw [e3] at kp
      refine ⟨[.sh (encC A), .sh (encC B), .own (.dct false (encI owD (chL pre))), .sh (.int x.n), .sh (orowD x.o), .sh (orowD x.w)], [.sh (encC A), .sh (encC B), .own (.dct false (encI owD (chL (pre ++ [x])))), .sh (.int x.n), .sh (orowD x.o), .sh (orowD x.w)], rfl, .inl ?_, _, _, _, rfl⟩
      simp [hl, en, kp]) ⟨_, _, _, rfl⟩
  subst h1
  -- a turn of the second
  have turn : ∀ (pre : Chg) (x : Ch) (post : Chg), B = pre ++ x :: post → ∀ a b c : Slot, ∃ env1, gT [(gN 3), (gN 4), (gN 5)] x.enc [.sh (encC A), .sh (encC B), .own (.dct false (encI owD (pre.foldl jStep (chL A)))), a, b, c] = .ok env1 ∧
      (sSeq (sIf (tAnd (tE (e2 D.isIn (eB 3) (eB 2))) (tE (e2 D.ne (e2 D.idx (e2 D.idx (eB 2) (eB 3)) (eC (.int 1))) (eB 4)))) (sRaise 7) sNil) (sPut 2 (eB 3) (eIf (tE (e2 D.isIn (eB 3) (eB 2))) (eTup [(e2 D.idx (e2 D.idx (eB 2) (eB 3)) (eC (.int 0))), (eV 5)]) (eTup [(eV 4), (eV 5)])))) env1 =
      if jBad A x then .er 7 env1 else .nx [.sh (encC A), .sh (encC B), .own (.dct false (encI owD ((pre ++ [x]).foldl jStep (chL A)))), .sh (.int x.n), .sh (orowD x.o), .sh (orowD x.w)] := by
    intro pre x post hy a b c
    refine ⟨[.sh (encC A), .sh (encC B), .own (.dct false (encI owD (pre.foldl jStep (chL A)))), .sh (.int x.n), .sh (orowD x.o), .sh (orowD x.w)], rfl, ?_⟩
    have nB' : (cnums (pre ++ x :: post)).Nodup := hy ▸ nB
    unfold cnums at nB'
    rw [List.map_append, List.nodup_append] at nB'
    have nx : x.n ∉ cnums pre := fun m => nB'.2.2 _ m x.n (by simp) rfl
    have gpre : goodC pre := fun y hy' => gB y (by rw [hy]; exact List.mem_append_left _ hy')
    have gx : x.good = true := gB x (by rw [hy]; simp)
    simp only [Ch.good, Bool.and_eq_true] at gx
    have at_ : iget (pre.foldl jStep (chL A)) x.n = iget (chL A) x.n := by
      rw [jfold A pre nB'.1 x.n, iget_none (L := chL pre) (by rw [chL_nums]; exact nx)]
    have hl : (encI owD (pre.foldl jStep (chL A))).length < szl := by
      have h1 := (jfold_nums A pre nA).2.2
      have : pre.length ≤ B.length := by rw [hy]; simp
      have := szl_big
      rw [encI_len]; omega
    have ii := isIn_I (f := owD) (L := pre.foldl jStep (chL A)) (n := x.n)
    rw [← iget_isSome, at_] at ii
    have gl := jfold_good gA pre gpre
    rw [List.foldl_append]
    show _ = if jBad A x = true then _ else RS.nx [.sh (encC A), .sh (encC B), .own (.dct false (encI owD (jStep (pre.foldl jStep (chL A)) x))), .sh (.int x.n), .sh (orowD x.o), .sh (orowD x.w)]
    unfold jBad
    rw [jStep_eq, at_]
    cases e : iget (chL A) x.n with
    | none =>
      rw [e] at ii
      have kp := kput_I (f := owD) x.n (x.o, x.w) (pre.foldl jStep (chL A))
      have en : D.tup [orowD x.o, orowD x.w] = owD (x.o, x.w) := rfl
      simp [ii, hl, en, kp]
    | some v =>
      rw [e] at ii
      have ix := idx_I (f := owD) (at_.trans e)
      have gv := gl _ (iget_some (at_.trans e))
      have hne := ne_orow gv.2 gx.1
      have kp := kput_I (f := owD) x.n (v.1, x.w) (pre.foldl jStep (chL A))
      have en : D.tup [orowD v.1, orowD x.w] = owD (v.1, x.w) := rfl
      by_cases q : v.2 = x.o
      · simp only [decide_eq_true q] at hne ⊢
        simp [ii, ix, hl, hne, en, kp]
      · simp only [decide_eq_false q] at hne ⊢
        simp [ii, ix, hl, hne]
  have it : (encC B).items = .ok (B.map Ch.enc) := rfl
  have itA : (encC A).items = .ok (A.map Ch.enc) := rfl
  by_cases hb : B.any (jBad A) = true
  · rw [if_pos hb]
    obtain ⟨pre, x, post, hy, hx, hpre⟩ := first_bad _ hb
    obtain ⟨e2, lp2, a2, b2, c2, h2⟩ := forGo_to (g := gT [(gN 3), (gN 4), (gN 5)]) (b := (sSeq (sIf (tAnd (tE (e2 D.isIn (eB 3) (eB 2))) (tE (e2 D.ne (e2 D.idx (e2 D.idx (eB 2) (eB 3)) (eC (.int 1))) (eB 4)))) (sRaise 7) sNil) (sPut 2 (eB 3) (eIf (tE (e2 D.isIn (eB 3) (eB 2))) (eTup [(e2 D.idx (e2 D.idx (eB 2) (eB 3)) (eC (.int 0))), (eV 5)]) (eTup [(eV 4), (eV 5)])))))
      (e := Ch.enc) (ys := pre) (env := [.sh (encC A), .sh (encC B), .own (.dct false (encI owD (chL A))), a, b, c]) ((x :: post).map Ch.enc)
      (R := fun p e => ∃ a b c, e = [.sh (encC A), .sh (encC B), .own (.dct false (encI owD (p.foldl jStep (chL A)))), a, b, c]) (fun p y q hq env hR => by
        obtain ⟨a, b, c, rfl⟩ := hR
        obtain ⟨env1, g1, g2⟩ := turn p y (q ++ x :: post) (by rw [hy, hq]; simp) a b c
        rw [hpre y (by rw [hq]; simp)] at g2
        exact ⟨env1, _, g1, .inl g2, _, _, _, rfl⟩) ⟨_, _, _, rfl⟩
    subst h2
    obtain ⟨env1, g1, g2⟩ := turn pre x post hy a2 b2 c2
    rw [hx] at g2
    have lp3 := forGo_er (xs := post.map Ch.enc) g1 g2
    rw [← List.map_append, ← hy] at lp2
    rw [List.map_cons] at lp2
    have lp4 := lp2.trans lp3
    refine run_er (e := env1) rfl ?_
    show M.b_joined [.sh (encC A), .sh (encC B), .un, .un, .un, .un] = _
    simp [M.b_joined, it, itA, lp1, lp4]
  · rw [if_neg hb]
    have hb' : ∀ x ∈ B, jBad A x = false := fun x hx => by
      cases q : jBad A x with
      | false => rfl
      | true => exact absurd (List.any_eq_true.mpr ⟨x, hx, q⟩) hb
    obtain ⟨e2, lp2, a2, b2, c2, h2⟩ := forGo_pre (g := gT [(gN 3), (gN 4), (gN 5)]) (b := (sSeq (sIf (tAnd (tE (e2 D.isIn (eB 3) (eB 2))) (tE (e2 D.ne (e2 D.idx (e2 D.idx (eB 2) (eB 3)) (eC (.int 1))) (eB 4)))) (sRaise 7) sNil) (sPut 2 (eB 3) (eIf (tE (e2 D.isIn (eB 3) (eB 2))) (eTup [(e2 D.idx (e2 D.idx (eB 2) (eB 3)) (eC (.int 0))), (eV 5)]) (eTup [(eV 4), (eV 5)])))))
      (e := Ch.enc) (ys := B) (env := [.sh (encC A), .sh (encC B), .own (.dct false (encI owD (chL A))), a, b, c])
      (R := fun p e => ∃ a b c, e = [.sh (encC A), .sh (encC B), .own (.dct false (encI owD (p.foldl jStep (chL A)))), a, b, c]) (fun p y q hq env hR => by
        obtain ⟨a, b, c, rfl⟩ := hR
        obtain ⟨env1, g1, g2⟩ := turn p y q hq a b c
        rw [hb' y (by rw [hq]; simp)] at g2
        exact ⟨env1, _, g1, .inl g2, _, _, _, rfl⟩) ⟨_, _, _, rfl⟩
    subst h2
    obtain ⟨f1, f2, f3⟩ := jfold_nums A B nA
    have so : sortI ((B.foldl jStep (chL A)).map (·.1)) = setI (cnums A ++ cnums B) := by
      rw [sortI_set f1]
      exact pw_uniq (setI_pw _) (setI_pw _) fun n => by rw [mem_setI, mem_setI, f2]
    have srt := sorted_int (l := (B.foldl jStep (chL A)).map (·.1)) (by rw [List.length_map]; omega)
    rw [so] at srt
    have hsz : (setI (cnums A ++ cnums B)).length < szl := by
      have := setI_len (cnums A ++ cnums B)
      have := szl_big
      simp [cnums] at *; omega
    have cc : compGo (compTurn [3] (gN 3) (tE (e2 D.ne (e2 D.idx (e2 D.idx (eB 2) (eB 3)) (eC (.int 0))) (e2 D.idx (e2 D.idx (eB 2) (eB 3)) (eC (.int 1))))) (e2 D.add (eTup [(eV 3)]) (e2 D.idx (eB 2) (eB 3))) [.sh (encC A), .sh (encC B), .own (.dct false (encI owD (B.foldl jStep (chL A)))), a2, b2, c2]) ((setI (cnums A ++ cnums B)).map D.int) = .ok ((joinV A B).map Ch.enc) := by
      unfold joinV
      rw [List.map_map]
      refine compGo_enc fun n hn => ?_
      have ix := idx_I (f := owD) (jfold_at nB (mem_setI.mp hn))
      have gv := jAt_good gA gB nB (mem_setI.mp hn)
      have hne := ne_orow gv.1 gv.2
      have ad : D.add (.tup [.int n]) (owD (jAt A B n)) = .ok (Ch.enc ⟨n, (jAt A B n).1, (jAt A B n).2⟩) := by simp [owD, D.add, Ch.enc]
      by_cases q : (jAt A B n).1 = (jAt A B n).2
      · rw [decide_eq_true q] at hne ⊢
        simp [ix, hne]
      · rw [decide_eq_false q] at hne ⊢
        simp [ix, hne, ad]
    refine run_rt rfl ?_
    show M.b_joined [.sh (encC A), .sh (encC B), .un, .un, .un, .un] = _
    simp [- ev_turn, - List.map_append, - List.map_map, M.b_joined, it, itA, lp1, lp2, keys_I, srt, hsz, cc]
    rfl
end Tw

set_option autoImplicit false
set_option linter.all false
/-! Tw, plain: changes between trees. -/
namespace Tw
@[simp] theorem ev_putL {i : Nat} {k v : E} {e : Env} : sPutL i k v e = match e[i]? with
  | some (.own (.lst xs)) => (v e).run e fun w => (k e).run e fun q => match q with
    | .int j => if 0 ≤ j ∧ j < xs.length then .nx (e.set i (.own (.lst (xs.set j.toNat w)))) else .stk
    | _ => .stk
  | _ => .stk := (rfl)
theorem rowAt_none {T : List Nd} {n : Int} (h : n ∉ nums T) : rowAt T n = none := by
  unfold rowAt
  cases e : look T n with
  | none => rfl
  | some x => exact absurd (look_iff.mp (by rw [e]; rfl)) h
theorem mem_allN {T U : List Nd} {n : Int} : n ∈ allN T U ↔ n ∈ nums T ∨ n ∈ nums U := by unfold allN; rw [mem_setI, List.mem_append]
theorem chg_nums (T U : List Nd) : cnums (chgV T U) = (allN T U).filter fun n => !decide (rowAt T n = rowAt U n) := by
  unfold chgV chOf cnums
  rw [List.map_map]
  exact List.map_id _
theorem chg_pw (T U : List Nd) : (cnums (chgV T U)).Pairwise (· < ·) := by
  rw [chg_nums]
  exact (setI_pw _).sublist List.filter_sublist
theorem chg_nodup (T U : List Nd) : (cnums (chgV T U)).Nodup := (chg_pw T U).imp fun h => by omega
theorem mem_chg {T U : List Nd} {n : Int} : n ∈ cnums (chgV T U) ↔ rowAt T n ≠ rowAt U n := by
  rw [chg_nums, List.mem_filter, mem_allN]
  constructor
  · rintro ⟨_, h⟩; simpa using h
  · intro h
    refine ⟨?_, by simpa using h⟩
    by_cases h1 : n ∈ nums T
    · exact .inl h1
    · by_cases h2 : n ∈ nums U
      · exact .inr h2
      · exact absurd ((rowAt_none h1).trans (rowAt_none h2).symm) h
theorem iget_chg (T U : List Nd) (n : Int) : iget (chL (chgV T U)) n = if rowAt T n = rowAt U n then none else some (rowAt T n, rowAt U n) := by
  by_cases h : rowAt T n = rowAt U n
  · rw [if_pos h]
    exact iget_none (by rw [chL_nums, mem_chg]; exact fun z => z h)
  · rw [if_neg h]
    refine iget_mem (by rw [chL_nums]; exact chg_nodup T U) ?_
    have hm : n ∈ (allN T U).filter fun n => !decide (rowAt T n = rowAt U n) := by rw [← chg_nums]; exact mem_chg.mpr h
    exact List.mem_map.mpr ⟨⟨n, rowAt T n, rowAt U n⟩, List.mem_map.mpr ⟨n, hm, rfl⟩, rfl⟩
theorem chg_mem {T U : List Nd} {c : Ch} (h : c ∈ chgV T U) : c.o = rowAt T c.n ∧ c.w = rowAt U c.n ∧ rowAt T c.n ≠ rowAt U c.n := by
  obtain ⟨n, hn, rfl⟩ := List.mem_map.mp h
  exact ⟨rfl, rfl, by simpa using (List.mem_filter.mp hn).2⟩
theorem join_ok {T U V : List Nd} : (chgV U V).any (jBad (chgV T U)) = false := by
  rw [List.any_eq_false]
  intro c hc
  obtain ⟨h1, h2, h3⟩ := chg_mem hc
  unfold jBad
  rw [iget_chg]
  by_cases h : rowAt T c.n = rowAt U c.n
  · rw [if_pos h]; simp
  · rw [if_neg h]; simp [h1]
theorem jAt_chg (T U V : List Nd) {n : Int} (h : n ∈ cnums (chgV T U) ++ cnums (chgV U V)) : jAt (chgV T U) (chgV U V) n = (rowAt T n, rowAt V n) := by
  unfold jAt
  rw [iget_chg, iget_chg]
  rw [List.mem_append, mem_chg, mem_chg] at h
  by_cases h1 : rowAt T n = rowAt U n <;> by_cases h2 : rowAt U n = rowAt V n
  · exact absurd h (by simp [h1, h2])
  · simp [h1, h2]
  · rw [if_neg h1, if_pos h2, ← h2]
  · rw [if_neg h1, if_neg h2]
theorem join_chg (T U V : List Nd) : joinV (chgV T U) (chgV U V) = chgV T V := by
  have e : ((setI (cnums (chgV T U) ++ cnums (chgV U V))).filter fun n => !decide ((jAt (chgV T U) (chgV U V) n).1 = (jAt (chgV T U) (chgV U V) n).2)) = (allN T V).filter fun n => !decide (rowAt T n = rowAt V n) := by
    refine pw_uniq ((setI_pw _).sublist List.filter_sublist) ((setI_pw _).sublist List.filter_sublist) fun n => ?_
    rw [← chg_nums, mem_chg, List.mem_filter, mem_setI]
    constructor
    · rintro ⟨h1, h2⟩
      rw [jAt_chg T U V h1] at h2
      simpa using h2
    · intro h
      have hm : n ∈ cnums (chgV T U) ++ cnums (chgV U V) := by
        rw [List.mem_append, mem_chg, mem_chg]
        by_cases h1 : rowAt T n = rowAt U n
        · exact .inr (by rw [← h1]; exact h)
        · exact .inl h1
      exact ⟨hm, by rw [jAt_chg T U V hm]; simpa using h⟩
  have r : chgV T V = ((allN T V).filter fun n => !decide (rowAt T n = rowAt V n)).map fun n => (⟨n, rowAt T n, rowAt V n⟩ : Ch) := rfl
  unfold joinV
  rw [e, r]
  refine List.map_congr_left fun n hn => ?_
  have hm : n ∈ cnums (chgV T U) ++ cnums (chgV U V) := by
    rw [← e] at hn
    exact mem_setI.mp (List.mem_filter.mp hn).1
  rw [jAt_chg T U V hm]
theorem allN_comm (T U : List Nd) : allN T U = allN U T := pw_uniq (setI_pw _) (setI_pw _) fun n => by
  show n ∈ allN T U ↔ n ∈ allN U T
  rw [mem_allN, mem_allN, Or.comm]
theorem turn_chg (T U : List Nd) : turnV (chgV T U) = chgV U T := by
  unfold turnV chgV chOf
  rw [List.map_map, allN_comm U T]
  have : ((allN T U).filter fun n => !decide (rowAt U n = rowAt T n)) = (allN T U).filter fun n => !decide (rowAt T n = rowAt U n) := List.filter_congr fun n _ => by
    by_cases h : rowAt T n = rowAt U n
    · simp [h]
    · have h' : ¬ rowAt U n = rowAt T n := fun z => h z.symm
      simp [h, h']
  rw [this]
  rfl
theorem chg_self (T : List Nd) : chgV T T = [] := by
  unfold chgV chOf
  simp
theorem chg_len (T U : List Nd) : (chgV T U).length ≤ T.length + U.length := by
  have h1 := chOf_len T U (allN T U)
  have h2 := allN_len (T := T) (U := U)
  unfold chgV; omega
end Tw

set_option autoImplicit false
set_option linter.all false
/-! Tw, plain: applied. -/
namespace Tw
def ndOf (n : Int) (r : Row) : Nd := ⟨n, r.1, r.2.1, r.2.2⟩
@[simp] theorem ndOf_n (n : Int) (r : Row) : (ndOf n r).n = n := rfl
@[simp] theorem ndOf_r (n : Int) (r : Row) : (ndOf n r).r = r := rfl
theorem nd_eta (x : Nd) : ndOf x.n x.r = x := rfl
theorem ndOf_row (n : Int) (r : Row) : (ndOf n r).row = rowD r := rfl
def aStep (L : List Nd) (c : Ch) : List Nd := match c.w with
  | none => L.filter fun x => !decide (x.n = c.n)
  | some r => putN L (ndOf c.n r)
theorem aStep_eq (L : List Nd) (c : Ch) : aStep L c = match c.w with
  | none => L.filter fun x => !decide (x.n = c.n)
  | some r => putN L (ndOf c.n r) := rfl
@[simp] theorem orow_0 : orowD none = .non := rfl
@[simp] theorem orow_1 (r : Row) : orowD (some r) = rowD r := rfl
def appV (T : List Nd) (c : Chg) : Option (List Nd) := if c.any (fun x => !decide (rowAt T x.n = x.o)) then none else
  let U := sortN (c.foldl aStep T)
  if isTree U then some U else none
theorem rowAt_put {L : List Nd} (nd : (nums L).Nodup) (n : Int) (r : Row) (m : Int) : rowAt (putN L (ndOf n r)) m = if m = n then some r else rowAt L m := by
  unfold rowAt putN
  by_cases h : (ndOf n r).n ∈ nums L
  · rw [if_pos h, look_rep nd h, ndOf_n]
    by_cases e : m = n
    · rw [if_pos e, if_pos e]; rfl
    · rw [if_neg e, if_neg e]
  · rw [if_neg h]
    have nd2 : (nums (L ++ [ndOf n r])).Nodup := by
      unfold nums; rw [List.map_append, List.nodup_append]
      refine ⟨nd, by simp, fun a ha b hb => ?_⟩
      simp at hb; subst hb
      exact fun e => h (e ▸ ha)
    by_cases e : m = n
    · rw [if_pos e, (look_at nd2 (x := ndOf n r)).mpr ⟨by simp, e.symm⟩]; rfl
    · rw [if_neg e]
      congr 1
      cases q : look L m with
      | some x =>
        have := look_some q
        exact (look_at nd2).mpr ⟨List.mem_append_left _ this.1, this.2⟩
      | none =>
        cases q2 : look (L ++ [ndOf n r]) m with
        | none => rfl
        | some x =>
          have := look_some q2
          rcases List.mem_append.mp this.1 with h1 | h1
          · rw [(look_at nd).mpr ⟨h1, this.2⟩] at q; cases q
          · rw [List.mem_singleton.mp h1] at this; exact absurd this.2.symm e
theorem put_nodupN {L : List Nd} (nd : (nums L).Nodup) (x : Nd) : (nums (putN L x)).Nodup := by
  unfold putN
  split
  · rw [nums_rep]; exact nd
  · rename_i h
    unfold nums; rw [List.map_append, List.nodup_append]
    refine ⟨nd, by simp, fun a ha b hb => ?_⟩
    simp at hb; subst hb
    exact fun e => h (e ▸ ha)
theorem rowAt_del {L : List Nd} (nd : (nums L).Nodup) (n m : Int) : rowAt (L.filter fun x => !decide (x.n = n)) m = if m = n then none else rowAt L m := by
  have nd2 : (nums (L.filter fun x => !decide (x.n = n))).Nodup := nd.sublist (List.filter_sublist.map _)
  unfold rowAt
  by_cases e : m = n
  · rw [if_pos e]
    cases q : look (L.filter fun x => !decide (x.n = n)) m with
    | none => rfl
    | some x =>
      have := look_some q
      have h2 := (List.mem_filter.mp this.1).2
      simp at h2
      exact absurd (this.2.trans e) h2
  · rw [if_neg e]
    congr 1
    cases q : look L m with
    | some x =>
      have := look_some q
      exact (look_at nd2).mpr ⟨List.mem_filter.mpr ⟨this.1, by simp [this.2, e]⟩, this.2⟩
    | none =>
      cases q2 : look (L.filter fun x => !decide (x.n = n)) m with
      | none => rfl
      | some x =>
        have := look_some q2
        rw [(look_at nd).mpr ⟨(List.mem_filter.mp this.1).1, this.2⟩] at q; cases q
theorem aStep_nodup {L : List Nd} (nd : (nums L).Nodup) (c : Ch) : (nums (aStep L c)).Nodup := by
  unfold aStep
  cases c.w with
  | none => exact nd.sublist (List.filter_sublist.map _)
  | some r => exact put_nodupN nd _
theorem aStep_row {L : List Nd} (nd : (nums L).Nodup) (c : Ch) (m : Int) : rowAt (aStep L c) m = if m = c.n then c.w else rowAt L m := by
  unfold aStep
  cases h : c.w with
  | none => exact rowAt_del nd _ _
  | some r => exact rowAt_put nd _ _ _
theorem afold_nodup {T : List Nd} (nd : (nums T).Nodup) : ∀ c : Chg, (nums (c.foldl aStep T)).Nodup := by
  refine snoc_ind nd fun l x ih => ?_
  rw [List.foldl_append]; exact aStep_nodup ih x
theorem afold_row {T : List Nd} (nd : (nums T).Nodup) : ∀ c : Chg, (cnums c).Nodup → ∀ m, rowAt (c.foldl aStep T) m = match iget (chL c) m with
    | some v => v.2
    | none => rowAt T m := by
  refine snoc_ind (fun _ m => rfl) fun l x ih nc m => ?_
  unfold cnums at nc
  rw [List.map_append] at nc
  obtain ⟨nc1, nx⟩ := nodup_snoc nc
  have e1 : iget (chL (l ++ [x])) m = if m = x.n then some (x.o, x.w) else iget (chL l) m := by
    have : chL (l ++ [x]) = iput (chL l) x.n (x.o, x.w) := by
      rw [iput_new (by rw [chL_nums]; exact nx)]; simp [chL]
    rw [this, iget_put]
  rw [List.foldl_append, e1]
  show rowAt (aStep (l.foldl aStep T) x) m = _
  rw [aStep_row (afold_nodup nd l)]
  by_cases h : m = x.n
  · rw [if_pos h, if_pos h]
  · rw [if_neg h, if_neg h]; exact ih nc1 m
theorem afold_len {T : List Nd} : ∀ c : Chg, (c.foldl aStep T).length ≤ T.length + c.length := by
  refine snoc_ind (by simp) fun l x ih => ?_
  rw [List.foldl_append]
  show (aStep (l.foldl aStep T) x).length ≤ _
  have : (aStep (l.foldl aStep T) x).length ≤ (l.foldl aStep T).length + 1 := by
    generalize l.foldl aStep T = L
    rw [aStep_eq]
    cases x.w with
    | none => have := List.length_filter_le (fun y : Nd => !decide (y.n = x.n)) L; simp only; omega
    | some r => exact put_len _ _
  simp only [List.length_append, List.length_singleton]; omega
theorem mem_row {T : List Nd} (nd : (nums T).Nodup) {x : Nd} : x ∈ T ↔ rowAt T x.n = some x.r := by
  unfold rowAt
  constructor
  · intro h; rw [(look_at nd).mpr ⟨h, rfl⟩]; rfl
  · intro h
    cases e : look T x.n with
    | none => rw [e] at h; cases h
    | some y =>
      rw [e] at h
      have hy := look_some e
      have : y.r = x.r := by simpa using h
      have : y = x := by rw [← nd_eta y, ← nd_eta x, hy.2, this]
      rw [← this]; exact hy.1
theorem ext_row {T U : List Nd} (pT : T.Pairwise fun a b => a.n < b.n) (pU : U.Pairwise fun a b => a.n < b.n) (h : ∀ n, rowAt T n = rowAt U n) : T = U := by
  have nT : (nums T).Nodup := List.pairwise_map.mpr (pT.imp fun h => by omega)
  have nU : (nums U).Nodup := List.pairwise_map.mpr (pU.imp fun h => by omega)
  have hm : ∀ x, x ∈ T ↔ x ∈ U := fun x => by rw [mem_row nT, mem_row nU, h]
  have dT : T.Nodup := pT.imp fun h e => by rw [e] at h; omega
  have dU : U.Nodup := pU.imp fun h e => by rw [e] at h; omega
  have pm : T.Perm U := (List.perm_ext_iff_of_nodup dT dU).mpr hm
  exact List.Perm.eq_of_pairwise (le := fun a b : Nd => a.n < b.n) (fun a b _ _ h1 h2 => by omega) pT pU pm
theorem sortN_pw' {L : List Nd} (nd : (nums L).Nodup) : (sortN L).Pairwise fun a b => a.n < b.n := sorted_strict (sortN_pw L) ((sortN_perm L).map (·.n) |>.nodup_iff.mpr nd)
theorem rowAt_perm {T U : List Nd} (nd : (nums T).Nodup) (p : T.Perm U) (n : Int) : rowAt U n = rowAt T n := by
  unfold rowAt; rw [look_perm nd p]
theorem afold_chg {T U : List Nd} (nT : (nums T).Nodup) (n : Int) : rowAt ((chgV T U).foldl aStep T) n = rowAt U n := by
  rw [afold_row nT _ (chg_nodup T U), iget_chg]
  by_cases h : rowAt T n = rowAt U n
  · rw [if_pos h]; exact h
  · rw [if_neg h]
theorem app_chg {T U : List Nd} (hT : Tr T) (hU : Tr U) : appV T (chgV T U) = some U := by
  have e : sortN ((chgV T U).foldl aStep T) = U := by
    have nd := afold_nodup hT.nd (chgV T U)
    exact ext_row (sortN_pw' nd) hU.pw fun n => by rw [rowAt_perm nd (sortN_perm _).symm, afold_chg hT.nd]
  unfold appV
  rw [if_neg (by
    rw [List.any_eq_true]
    rintro ⟨c, hc, h⟩
    have := (chg_mem hc).1
    simp [this] at h)]
  simp only [e]
  rw [if_pos hU.tree]
theorem put_good {L : List Nd} (g : ∀ x ∈ L, x.good = true) {y : Nd} (gy : y.good = true) : ∀ x ∈ putN L y, x.good = true := fun x hx => by
  unfold putN at hx
  split at hx
  · rcases mem_rep.mp hx with ⟨rfl, _⟩ | ⟨h, _⟩
    · exact gy
    · exact g x h
  · rcases List.mem_append.mp hx with h | h
    · exact g x h
    · rw [List.mem_singleton.mp h]; exact gy
/-- a change as it has to be -/
structure OkChg (c : Chg) : Prop where
  good : goodC c
  nd : (cnums c).Nodup
  pos : ∀ x ∈ c, 1 ≤ x.n
  ne : ∀ x ∈ c, x.o ≠ x.w
theorem afold_good {T : List Nd} (g : ∀ x ∈ T, x.good = true) : ∀ c : Chg, goodC c → (∀ x ∈ c, 1 ≤ x.n) → ∀ x ∈ c.foldl aStep T, x.good = true := by
  refine snoc_ind (fun _ _ => g) fun l y ih gc pc => ?_
  rw [List.foldl_append]
  have ih' := ih (fun x hx => gc x (List.mem_append_left _ hx)) (fun x hx => pc x (List.mem_append_left _ hx))
  have gy := gc y (by simp)
  simp only [Ch.good, Bool.and_eq_true] at gy
  show ∀ x ∈ aStep (l.foldl aStep T) y, x.good = true
  rw [aStep_eq]
  cases h : y.w with
  | none => exact fun x hx => ih' x (List.mem_filter.mp hx).1
  | some r =>
    rw [h] at gy
    have gr := gy.2
    simp only [goodO, goodR, Bool.and_eq_true, decide_eq_true_eq] at gr
    exact put_good ih' (Nd.good_mk (pc y (by simp)) gr.1.1 gr.1.2 gr.2)
theorem chg_ok {T U : List Nd} (hT : Wh T) (hU : Wh U) : OkChg (chgV T U) where
  good := chg_good hT.good hU.good
  nd := chg_nodup T U
  pos := fun c hc => by
    obtain ⟨n, hn, rfl⟩ := List.mem_map.mp hc
    have := mem_allN.mp (List.mem_filter.mp hn).1
    rcases this with h | h <;> obtain ⟨x, hx, rfl⟩ := List.mem_map.mp h
    · exact Nd.good_n (hT.good x hx)
    · exact Nd.good_n (hU.good x hx)
  ne := fun c hc => by
    obtain ⟨h1, h2, h3⟩ := chg_mem hc
    rw [h1, h2]; exact h3
@[simp] theorem ev_del {i : Nat} {k : E} {e : Env} : sDel i k e = match e[i]? with
  | some (.own (.dct false kvs)) => (k e).run e fun q => match q.kf false with
    | some y => if khas y kvs then .nx (e.set i (.own (.dct false (kdel y kvs)))) else .stk
    | none => .stk
  | _ => .stk := (rfl)
theorem kdel_book {L : List Nd} {n : Int} : kdel (.int n) (bookOf L) = bookOf (L.filter fun x => !decide (x.n = n)) := by
  unfold kdel bookOf
  rw [List.filter_map]
  congr 1
  refine List.filter_congr fun p _ => ?_
  by_cases e : p.n = n <;> simp [e, Function.comp]
theorem row_in {T : List Nd} {n : Int} {r : Row} (h : rowAt T n = some r) : n ∈ nums T := by
  unfold rowAt at h
  cases e : look T n with
  | none => rw [e] at h; cases h
  | some x => exact look_iff.mp (by rw [e]; rfl)
theorem applied_ok {T : List Nd} (hT : Tr T) {c : Chg} (hc : OkChg c) (hl : T.length + c.length < 64) : M.m_applied [encT T, encC c] = match appV T c with
    | some U => .ok (encT U)
    | none => .err 7 := by
  have hb := book_ok hT.nd hT.len
  -- a turn
  have turn : ∀ (pre : Chg) (x : Ch) (post : Chg), c = pre ++ x :: post → ∀ a b d z : Slot, ∃ env1, gT [(gN 3), (gN 4), (gN 5)] x.enc [.bor (encT T), .sh (encC c), .own (.dct false (bookOf (pre.foldl aStep T))), a, b, d, z] = .ok env1 ∧
      (sSeq (sIf (tE (e2 D.ne (eGet1 (eB 2) (eB 3)) (eB 4))) (sRaise 7) sNil) (sIf (tE (e1 D.isN (eB 5))) (sDel 2 (eB 3)) (sPut 2 (eB 3) (eV 5)))) env1 =
      if !decide (rowAt T x.n = x.o) then RS.er 7 env1 else RS.nx [.bor (encT T), .sh (encC c), .own (.dct false (bookOf ((pre ++ [x]).foldl aStep T))), .sh (.int x.n), .sh (orowD x.o), .sh (orowD x.w), z] := by
    intro pre x post hy a b d z
    refine ⟨[.bor (encT T), .sh (encC c), .own (.dct false (bookOf (pre.foldl aStep T))), .sh (.int x.n), .sh (orowD x.o), .sh (orowD x.w), z], rfl, ?_⟩
    have nd' : (cnums (pre ++ x :: post)).Nodup := hy ▸ hc.nd
    unfold cnums at nd'
    rw [List.map_append, List.nodup_append] at nd'
    have nx : x.n ∉ cnums pre := fun m => nd'.2.2 _ m x.n (by simp) rfl
    have hx : x ∈ c := by rw [hy]; simp
    have gx := hc.good x hx
    simp only [Ch.good, Bool.and_eq_true] at gx
    have at_ : rowAt (pre.foldl aStep T) x.n = rowAt T x.n := by
      rw [afold_row hT.nd pre nd'.1, iget_none (L := chL pre) (by rw [chL_nums]; exact nx)]
    have hlen : (pre.foldl aStep T).length ≤ 100 := by
      have := afold_len (T := T) pre
      have : pre.length ≤ c.length := by rw [hy]; simp
      omega
    have hl2 : (bookOf (pre.foldl aStep T)).length < szl := by rw [book_len]; exact small_szl (by omega)
    have hne := ne_orow (rowAt_good hT.good x.n) gx.1
    have gr := get_row (T := pre.foldl aStep T) (n := x.n)
    rw [at_] at gr
    rw [List.foldl_append]
    show _ = if (!decide (rowAt T x.n = x.o)) = true then _ else RS.nx [.bor (encT T), .sh (encC c), .own (.dct false (bookOf (aStep (pre.foldl aStep T) x))), .sh (.int x.n), .sh (orowD x.o), .sh (orowD x.w), z]
    by_cases q : rowAt T x.n = x.o
    · have qq := q
      simp only [decide_eq_true q] at hne ⊢
      rw [aStep_eq]
      cases hw : x.w with
      | none =>
        have hin : x.n ∈ nums (pre.foldl aStep T) := by
          have : x.o ≠ none := fun z => hc.ne x hx (z.trans hw.symm)
          obtain ⟨r, hr⟩ := Option.ne_none_iff_exists'.mp this
          exact row_in (r := r) (by rw [at_, qq, hr])
        have kh : khas (.int x.n) (bookOf (pre.foldl aStep T)) = true := by rw [khas_book]; simpa using hin
        simp [gr, hne, kh, kdel_book]
      | some r =>
        have kp := kput_book (L := pre.foldl aStep T) (x := ndOf x.n r)
        rw [ndOf_row] at kp
        simp only [ndOf_n] at kp
        simp [gr, hne, hl2, kp]
    · simp only [decide_eq_false q] at hne ⊢
      simp [gr, hne]
  have itC' : (encC c).items = .ok (c.map Ch.enc) := rfl
  unfold appV
  by_cases hb2 : c.any (fun x => !decide (rowAt T x.n = x.o)) = true
  · rw [if_pos hb2]
    obtain ⟨pre, x, post, hy, hx, hpre⟩ := first_bad _ hb2
    obtain ⟨e2, lp2, a2, b2, c2, d2, h2⟩ := forGo_to (g := gT [(gN 3), (gN 4), (gN 5)]) (b := (sSeq (sIf (tE (e2 D.ne (eGet1 (eB 2) (eB 3)) (eB 4))) (sRaise 7) sNil) (sIf (tE (e1 D.isN (eB 5))) (sDel 2 (eB 3)) (sPut 2 (eB 3) (eV 5)))))
      (e := Ch.enc) (ys := pre) (env := [.bor (encT T), .sh (encC c), .own (.dct false (bookOf T)), .un, .un, .un, .un]) ((x :: post).map Ch.enc)
      (R := fun p e => ∃ a b d z, e = [.bor (encT T), .sh (encC c), .own (.dct false (bookOf (p.foldl aStep T))), a, b, d, z]) (fun p y q hq env hR => by
        obtain ⟨a, b, d, z, rfl⟩ := hR
        obtain ⟨env1, g1, g2⟩ := turn p y (q ++ x :: post) (by rw [hy, hq]; simp) a b d z
        rw [hpre y (by rw [hq]; simp)] at g2
        exact ⟨env1, _, g1, .inl g2, _, _, _, _, rfl⟩) ⟨_, _, _, _, rfl⟩
    subst h2
    obtain ⟨env1, g1, g2⟩ := turn pre x post hy a2 b2 c2 d2
    rw [hx] at g2
    have lp3 := forGo_er (xs := post.map Ch.enc) g1 g2
    rw [← List.map_append, ← hy] at lp2
    rw [List.map_cons] at lp2
    have lp4 := lp2.trans lp3
    refine run_er (e := env1) rfl ?_
    show M.b_applied [.bor (encT T), .sh (encC c), .un, .un, .un, .un, .un] = _
    simp [M.b_applied, hb, itC', lp4]
  · rw [if_neg hb2]
    have hb' : ∀ x ∈ c, (!decide (rowAt T x.n = x.o)) = false := fun x hx => by
      cases q : !decide (rowAt T x.n = x.o) with
      | false => rfl
      | true => exact absurd (List.any_eq_true.mpr ⟨x, hx, q⟩) hb2
    obtain ⟨e2, lp2, a2, b2, c2, d2, h2⟩ := forGo_pre (g := gT [(gN 3), (gN 4), (gN 5)]) (b := (sSeq (sIf (tE (e2 D.ne (eGet1 (eB 2) (eB 3)) (eB 4))) (sRaise 7) sNil) (sIf (tE (e1 D.isN (eB 5))) (sDel 2 (eB 3)) (sPut 2 (eB 3) (eV 5)))))
      (e := Ch.enc) (ys := c) (env := [.bor (encT T), .sh (encC c), .own (.dct false (bookOf T)), .un, .un, .un, .un])
      (R := fun p e => ∃ a b d z, z = Slot.un ∧ e = [.bor (encT T), .sh (encC c), .own (.dct false (bookOf (p.foldl aStep T))), a, b, d, z]) (fun p y q hq env hR => by
        obtain ⟨a, b, d, z, hz, rfl⟩ := hR
        obtain ⟨env1, g1, g2⟩ := turn p y q hq a b d z
        rw [hb' y (by rw [hq]; simp)] at g2
        exact ⟨env1, _, g1, .inl g2, _, _, _, _, hz, rfl⟩) ⟨_, _, _, _, rfl, rfl⟩
    obtain ⟨hz, rfl⟩ := h2
    have nd := afold_nodup hT.nd c
    have hlen := afold_len (T := T) c
    have to := tree_of_ok nd (by omega)
    have gU : ∀ x ∈ sortN (c.foldl aStep T), x.good = true := fun x hx => afold_good hT.good c hc.good hc.pos x ((sortN_perm _).mem_iff.mp hx)
    have it := istree_ok gU (by rw [(sortN_perm _).length_eq]; omega)
    simp only
    cases q : isTree (sortN (c.foldl aStep T)) with
    | true =>
      rw [q] at it
      refine run_rt rfl ?_
      show M.b_applied [.bor (encT T), .sh (encC c), .un, .un, .un, .un, .un] = _
      simp [M.b_applied, hb, itC', lp2, to, it]
    | false =>
      rw [q] at it
      refine run_er (e := [.bor (encT T), .sh (encC c), .own (.dct false (bookOf (c.foldl aStep T))), a2, b2, c2, .sh (encT (sortN (c.foldl aStep T)))]) rfl ?_
      show M.b_applied [.bor (encT T), .sh (encC c), .un, .un, .un, .un, .un] = _
      simp [M.b_applied, hb, itC', lp2, to, it]
end Tw

set_option autoImplicit false
set_option linter.all false
/-! Tw, plain: names left out. -/
namespace Tw
def hid (names : List Nm) (p : List Nm) : Bool := p.any fun s => decide (s ∈ names)
def seenV (T : List Nd) (names : List Nm) : List Nd := T.filter fun x => !hid names (path T x.n)
def okNm (s : Nm) : Bool := s.all fun c => decide (c < 1114112)
theorem good_okNm {s : Nm} (h : goodName s = true) : okNm s = true := name_ok h
theorem eqv_str (a b : Nm) : D.eqv (.str a) (.str b) = decide (a = b) := by
  show (a == b) = _
  by_cases h : a = b <;> simp [h]
theorem pls_str : ∀ (l : List Nm) (n : Nat), (∀ s ∈ l, okNm s = true) → D.pls n (l.map D.str) = true
  | [], _, _ => by simp [D.pls]
  | s :: l, n, h => by
    have h1 : D.pl n (.str s) = true := by
      have := h s List.mem_cons_self
      cases n <;> simpa [D.pl, okNm] using this
    simp [D.pls, h1, pls_str l n fun x m => h x (List.mem_cons_of_mem _ m)]
theorem isIn_str {s : Nm} {l : List Nm} (hs : okNm s = true) (hl : ∀ s ∈ l, okNm s = true) : D.isIn (.str s) (.lst (l.map D.str)) = .ok (.bl (decide (s ∈ l))) := by
  rw [isIn_l (by simpa [D.good, D.pl, okNm] using hs) (by simp only [D.pl]; exact pls_str l 39 hl)]
  congr 2
  rw [List.any_map]
  simp only [Function.comp_def, eqv_str]
  by_cases h : s ∈ l
  · rw [decide_eq_true h, List.any_eq_true]; exact ⟨s, h, by simp⟩
  · rw [decide_eq_false h, List.any_eq_false]
    intro x hx e
    exact h (by simp at e; rw [← e]; exact hx)
theorem path_names {T : List Nd} (h : Wh T) {n : Int} (hn : n = 0 ∨ n ∈ nums T) : ∀ s ∈ path T n, goodName s = true := fun s hs => by
  unfold path at hs
  rw [List.mem_reverse] at hs
  obtain ⟨x, hx, rfl⟩ := List.mem_map.mp hs
  exact Nd.good_nm (h.good x ((way_num h hn).mem x hx))
theorem way_len {T : List Nd} (h : Ups T) {n : Int} (hn : n = 0 ∨ n ∈ nums T) : (way T n).length ≤ T.length := (h.way hn).le
theorem path_len {T : List Nd} (h : Ups T) {n : Int} (hn : n = 0 ∨ n ∈ nums T) : (path T n).length ≤ T.length := by
  unfold path
  rw [List.length_reverse, List.length_map]
  exact way_len h hn
theorem is_seen_ok {T : List Nd} (h : Tr T) {names : List Nm} (hN : ∀ s ∈ names, okNm s = true) {n : Int} (hn : n = 0 ∨ n ∈ nums T) : M.m_is_seen [.dct false (bookOf T), .int n, .lst (names.map D.str)] = .ok (.bl (!hid names (path T n))) := by
  have pi := path_in_ok h.ups hn
  have hl : (path T n).length < szl := small_szl (by have := path_len h.ups hn; have := h.len; omega)
  have c : compGo (compTurn [3] (gN 3) tTrue (e2 D.isIn (eB 3) (eB 2)) [.bor (.dct false (bookOf T)), .sh (.int n), .bor (.lst (names.map D.str)), .un]) ((path T n).map D.str) = .ok ((path T n).map fun s => .bl (decide (s ∈ names))) := by
    refine compGo_map fun s hs => ?_
    have := isIn_str (good_okNm (path_names h.toWh hn s hs)) hN
    simp [this]
  have bm : bools? ((path T n).map fun s => D.bl (decide (s ∈ names))) = some ((path T n).map fun s => decide (s ∈ names)) := bools_map _ _
  have an := ev_any bm
  refine run_rt rfl ?_
  show M.b_is_seen [.bor (.dct false (bookOf T)), .sh (.int n), .bor (.lst (names.map D.str)), .un] = _
  have it : D.items (strD (path T n)) = .ok ((path T n).map D.str) := rfl
  simp [- ev_turn, - ev_any, M.b_is_seen, pi, it, hl, c, an]
  simp [hid, List.any_map, Function.comp_def]
theorem seen_ok {T : List Nd} (h : Tr T) {names : List Nm} (hN : ∀ s ∈ names, okNm s = true) : M.m_seen [encT T, .lst (names.map D.str)] = .ok (encT (seenV T names)) := by
  have hb := book_ok h.nd h.len
  have hl : T.length < szl := small_szl (by have := h.len; omega)
  have c : compGo (compTurn [3] (gN 3) (tE (eCall M.m_is_seen [(eB 2), (e2 D.idx (eB 3) (eC (.int 0))), (eB 1)])) (eV 3) [.bor (encT T), .bor (.lst (names.map D.str)), .sh (.dct false (bookOf T)), .un]) (T.map Nd.enc) = .ok ((seenV T names).map Nd.enc) := by
    refine compGo_enc fun x hx => ?_
    have := is_seen_ok h hN (n := x.n) (.inr (List.mem_map.mpr ⟨x, hx, rfl⟩))
    cases q : hid names (path T x.n) <;> rw [q] at this <;> simp [this]
  refine run_rt rfl ?_
  show M.b_seen [.bor (encT T), .bor (.lst (names.map D.str)), .un, .un] = _
  simp [- ev_turn, M.b_seen, hb, hl, c]
  rfl
/-- the part of a tree that is seen -/
theorem seen_par {T : List Nd} (h : Wh T) {names : List Nm} {x : Nd} (hx : x ∈ T) : hid names (path T x.n) = (decide (x.nm ∈ names) || hid names (path T x.p)) := by
  unfold hid path
  rw [way_par h hx]
  simp [Bool.or_comm]
theorem seen_wh {T : List Nd} (h : Wh T) (names : List Nm) : Wh (seenV T names) := h.part _ fun x hx fx => by
  rw [seen_par h hx] at fx
  simp only [Bool.not_or, Bool.and_eq_true] at fx
  rcases par_in h hx with q | ⟨y, hy, e, _⟩
  · exact .inl q
  · exact .inr ⟨y, hy, e, by rw [e]; exact fx.2⟩
theorem seen_tr {T : List Nd} (h : Tr T) (names : List Nm) : Tr (seenV T names) :=
  { seen_wh h.toWh names with
    pw := h.pw.sublist List.filter_sublist
    len := by have := List.length_filter_le (fun x => !hid names (path T x.n)) T; have := h.len; unfold seenV; omega }
theorem seen_len (T : List Nd) (names : List Nm) : (seenV T names).length ≤ T.length := List.length_filter_le _ T
/-- a way in a part is the way in the whole -/
theorem up_part {T U : List Nd} (h : Wh T) (sub : ∀ x ∈ U, x ∈ T) {n : Int} {l : List Nd} (u : Upw U n l) : Upw T n l := by
  induction u with
  | top => exact .top
  | step a b _ ih => exact .step a ((look_at h.nd).mpr ⟨sub _ (look_some b).1, (look_some b).2⟩) ih
theorem way_part {T U : List Nd} (h : Wh T) (hU : Wh U) (sub : ∀ x ∈ U, x ∈ T) {n : Int} (hn : n = 0 ∨ n ∈ nums U) : way U n = way T n := (up_part h sub (way_num hU hn)).way.symm
theorem path_part {T U : List Nd} (h : Wh T) (hU : Wh U) (sub : ∀ x ∈ U, x ∈ T) {n : Int} (hn : n = 0 ∨ n ∈ nums U) : path U n = path T n := by unfold path; rw [way_part h hU sub hn]
theorem mem_nums {T : List Nd} {x : Nd} (h : x ∈ T) : x.n ∈ nums T := List.mem_map.mpr ⟨x, h, rfl⟩
theorem mem_seen {T : List Nd} {names : List Nm} {x : Nd} : x ∈ seenV T names ↔ x ∈ T ∧ hid names (path T x.n) = false := by
  unfold seenV
  rw [List.mem_filter]
  simp
theorem seen_seen {T : List Nd} (h : Wh T) (a b : List Nm) : seenV (seenV T a) b = seenV T (a ++ b) := by
  unfold seenV
  rw [List.filter_filter]
  refine List.filter_congr fun x hx => ?_
  have hA := seen_wh h a
  unfold seenV at hA
  by_cases q : hid a (path T x.n) = true
  · have : hid (a ++ b) (path T x.n) = true := by
      unfold hid at q ⊢
      rw [List.any_eq_true] at q ⊢
      obtain ⟨s, h1, h2⟩ := q
      exact ⟨s, h1, by simp at h2 ⊢; exact .inl h2⟩
    simp [q, this]
  · have hq : hid a (path T x.n) = false := by simpa using q
    have hm : x ∈ T.filter fun x => !hid a (path T x.n) := List.mem_filter.mpr ⟨hx, by simp [hq]⟩
    have pp := path_part h hA (fun y hy => (List.mem_filter.mp hy).1) (.inr (mem_nums hm))
    rw [pp, hq]
    simp only [Bool.not_false, Bool.and_true]
    congr 1
    unfold hid at hq ⊢
    rw [List.any_eq_false] at hq
    rw [Bool.eq_iff_iff, List.any_eq_true, List.any_eq_true]
    constructor
    · rintro ⟨s, h1, h2⟩
      exact ⟨s, h1, by simp at h2 ⊢; exact .inr h2⟩
    · rintro ⟨s, h1, h2⟩
      refine ⟨s, h1, ?_⟩
      have := hq s h1
      simp at h2 this ⊢
      exact h2.resolve_left this
theorem seen_none (T : List Nd) : seenV T [] = T := by
  unfold seenV
  rw [List.filter_eq_self]
  intro x _
  simp [hid]
end Tw

set_option autoImplicit false
set_option linter.all false
/-! Tw, plain: what is quiet; changes of what is seen. -/
namespace Tw
theorem up_agree {T U : List Nd} {n : Int} (h : ∀ m, m ≠ n → look T m = look U m) {m : Int} {l : List Nd} (u : Upw T m l) : n ∉ l.map (·.n) → Upw U m l := by
  induction u with
  | top => intro _; exact .top
  | @step m x l a b u ih =>
    intro q
    simp only [List.map_cons, List.mem_cons, not_or] at q
    have hx := look_some b
    exact .step a (by rw [← h m (fun e => q.1 (by rw [hx.2]; exact e.symm))]; exact b) (ih q.2)
theorem hid_below {T : List Nd} (h : Wh T) {names : List Nm} {y : Nd} (hy : y ∈ T) {n : Int} (hn : n ∈ (way T y.n).map (·.n)) (hh : hid names (path T n) = true) : hid names (path T y.n) = true := by
  obtain ⟨x, hx, rfl⟩ := List.mem_map.mp hn
  obtain ⟨m, u, suf⟩ := (way_num h (.inr (mem_nums hy))).suf x hx
  unfold hid path at hh ⊢
  rw [u.way] at hh
  rw [List.any_reverse] at hh ⊢
  rw [List.any_eq_true] at hh ⊢
  obtain ⟨s, h1, h2⟩ := hh
  exact ⟨s, (suf.map _).subset h1, h2⟩
theorem quiet_half {T U : List Nd} (hT : Wh T) (hU : Wh U) {n : Int} (h : ∀ m, m ≠ n → look T m = look U m) {names : List Nm} (h1 : n ∉ nums (seenV T names)) {y : Nd} (hy : y ∈ seenV T names) : y ∈ seenV U names := by
  obtain ⟨yT, sy⟩ := mem_seen.mp hy
  have yn : y.n ≠ n := fun e => h1 (e ▸ mem_nums hy)
  have lk : look U y.n = some y := by rw [← h _ yn]; exact (look_at hT.nd).mpr ⟨yT, rfl⟩
  have nw : n ∉ (way T y.n).map (·.n) := fun q => by
    obtain ⟨x, hx, e⟩ := List.mem_map.mp q
    have xT := (way_num hT (.inr (mem_nums yT))).mem x hx
    have : hid names (path T n) = true := by
      cases k : hid names (path T n) with
      | true => rfl
      | false => exact absurd (List.mem_map.mpr ⟨x, mem_seen.mpr ⟨xT, by rw [e]; exact k⟩, e⟩) h1
    rw [hid_below hT yT q this] at sy
    cases sy
  have w := up_agree h (way_num hT (.inr (mem_nums yT))) nw
  refine mem_seen.mpr ⟨(look_some lk).1, ?_⟩
  unfold path
  rw [w.way]
  exact sy
theorem sorted_ext {T U : List Nd} (pT : T.Pairwise fun a b => a.n < b.n) (pU : U.Pairwise fun a b => a.n < b.n) (hm : ∀ x, x ∈ T ↔ x ∈ U) : T = U := by
  have dT : T.Nodup := pT.imp fun h e => by rw [e] at h; omega
  have dU : U.Nodup := pU.imp fun h e => by rw [e] at h; omega
  exact List.Perm.eq_of_pairwise (le := fun a b : Nd => a.n < b.n) (fun a b _ _ h1 h2 => by omega) pT pU ((List.perm_ext_iff_of_nodup dT dU).mpr hm)
theorem quiet_agree {T U : List Nd} (hT : Tr T) (hU : Wh U) (pU : U.Pairwise fun a b => a.n < b.n) {n : Int} (h : ∀ m, m ≠ n → look T m = look U m) {names : List Nm} (h1 : n ∉ nums (seenV T names)) (h2 : n ∉ nums (seenV U names)) : seenV T names = seenV U names :=
  sorted_ext (hT.pw.sublist List.filter_sublist) (pU.sublist List.filter_sublist) fun y => ⟨quiet_half hT.toWh hU h h1, quiet_half hU hT.toWh (fun m e => (h m e).symm) h2⟩
theorem quiet_deed {T U : List Nd} (hT : Tr T) {d : Deed} (g : d.good = true) (e : doneV T d = .ok U) {names : List Nm} (h1 : d.num ∉ nums (seenV T names)) (h2 : d.num ∉ nums (seenV U names)) : seenV T names = seenV U names := by
  obtain ⟨w, pw, _⟩ := done_wh hT g e
  cases d with
  | make n p nm st =>
    simp only [doneV] at e
    split at e
    · cases e
    · rename_i hn
      split at e
      · cases e
      · split at e
        · cases e
        · cases e
          refine quiet_agree hT w pw (fun m hm => ?_) h1 h2
          have nd : (nums (T ++ [⟨n, p, nm, st⟩])).Nodup := (w.perm (sortN_perm _)).nd
          rw [look_perm nd (sortN_perm _).symm]
          cases q : look T m with
          | some x =>
            have := look_some q
            exact ((look_at nd).mpr ⟨List.mem_append_left _ this.1, this.2⟩).symm
          | none =>
            cases q2 : look (T ++ [⟨n, p, nm, st⟩]) m with
            | none => rfl
            | some x =>
              have := look_some q2
              rcases List.mem_append.mp this.1 with h3 | h3
              · rw [(look_at hT.nd).mpr ⟨h3, this.2⟩] at q; cases q
              · rw [List.mem_singleton.mp h3] at this
                exact absurd this.2.symm hm
  | write n st =>
    simp only [doneV] at e
    split at e
    · cases e
    · rename_i x hl
      split at e
      · cases e
      · cases e
        have hx := look_some hl
        refine quiet_agree hT w pw (fun m hm => ?_) h1 h2
        rw [look_rep hT.nd (x := { x with st := some st }) (List.mem_map.mpr ⟨x, hx.1, rfl⟩), if_neg (fun z => hm (z.trans hx.2))]
  | move n p nm =>
    simp only [doneV] at e
    split at e
    · cases e
    · rename_i x hl
      split at e
      · cases e
      · split at e
        · cases e
        · split at e
          · cases e
          · cases e
            have hx := look_some hl
            refine quiet_agree hT w pw (fun m hm => ?_) h1 h2
            rw [look_rep hT.nd (x := { x with p := p, nm := nm }) (List.mem_map.mpr ⟨x, hx.1, rfl⟩), if_neg (fun z => hm (z.trans hx.2))]
  | drop n =>
    simp only [doneV] at e
    split at e
    · rename_i hn
      cases e
      refine sorted_ext (hT.pw.sublist List.filter_sublist) (pw.sublist List.filter_sublist) fun y => ?_
      have pp := fun m hm => path_part hT.toWh w (fun x hx => (List.mem_filter.mp hx).1) (n := m) hm
      rw [mem_seen, mem_seen]
      constructor
      · rintro ⟨yT, sy⟩
        have hu : under T y.n n = false := by
          cases k : under T y.n n with
          | false => rfl
          | true =>
            have hn0 : n ≠ 0 := by simpa [Deed.good] using g
            have hw := (under_iff.mp k).resolve_left hn0
            have : hid names (path T n) = true := by
              cases q : hid names (path T n) with
              | true => rfl
              | false =>
                obtain ⟨x, hx, ex⟩ := List.mem_map.mp hn
                exact absurd (List.mem_map.mpr ⟨x, mem_seen.mpr ⟨hx, by rw [ex]; exact q⟩, ex⟩) h1
            rw [hid_below hT.toWh yT hw this] at sy
            cases sy
        have hm : y ∈ T.filter fun x => !under T x.n n := List.mem_filter.mpr ⟨yT, by rw [hu]; rfl⟩
        exact ⟨hm, by rw [pp _ (.inr (mem_nums hm))]; exact sy⟩
      · rintro ⟨hm, sy⟩
        rw [pp _ (.inr (mem_nums hm))] at sy
        exact ⟨(List.mem_filter.mp hm).1, sy⟩
    · cases e
theorem chg_nil {T U : List Nd} (hT : Tr T) (hU : Tr U) : chgV T U = [] ↔ T = U := by
  constructor
  · intro h
    refine ext_row hT.pw hU.pw fun n => ?_
    cases q : decide (rowAt T n = rowAt U n) with
    | true => simpa using q
    | false =>
      have : n ∈ cnums (chgV T U) := mem_chg.mpr (by simpa using q)
      rw [h] at this
      cases this
  · intro h; rw [h]; exact chg_self U
/-! ### the defs -/
theorem change_seen_ok {T U : List Nd} (hT : Tr T) (hU : Tr U) {names : List Nm} (hN : ∀ s ∈ names, okNm s = true) (hl : T.length + U.length < 64) : M.m_change_seen [encT T, encT U, .lst (names.map D.str)] = .ok (encC (chgV (seenV T names) (seenV U names))) := by
  have sT := seen_ok hT hN
  have sU := seen_ok hU hN
  have hT' := seen_tr hT names
  have hU' := seen_tr hU names
  have l1 := seen_len T names
  have l2 := seen_len U names
  generalize seenV T names = A at sT hT' l1
  generalize seenV U names = B at sU hU' l2
  have hb := book_ok hT'.nd hT'.len
  have hb2 := book_ok hU'.nd hU'.len
  have hal := allN_len (T := A) (U := B)
  have ag := fun n => rowAt_good hT'.good n
  have bg := fun n => rowAt_good hU'.good n
  have en : ∀ n, D.tup [.int n, orowD (rowAt A n), orowD (rowAt B n)] = Ch.enc ⟨n, rowAt A n, rowAt B n⟩ := fun _ => rfl
  obtain ⟨env', lp, z, rfl⟩ := forGo_pre (g := gN 6) (b := sIf (tE (e2 D.ne (eGet1 (eB 3) (eB 6)) (eGet1 (eB 4) (eB 6)))) (sApp 5 (eTup [(eV 6), (eGet1 (eB 3) (eB 6)), (eGet1 (eB 4) (eB 6))])) sNil)
    (e := D.int) (ys := allN A B)
    (R := fun pre e => ∃ z, e = [.bor (encT T), .bor (encT U), .bor (.lst (names.map D.str)), .sh (.dct false (bookOf A)), .sh (.dct false (bookOf B)), .own (.lst ((chOf A B pre).map Ch.enc)), z])
    (env := [.bor (encT T), .bor (encT U), .bor (.lst (names.map D.str)), .sh (.dct false (bookOf A)), .sh (.dct false (bookOf B)), .own (.lst []), .un]) (fun pre n post hy env hR => by
      obtain ⟨z, rfl⟩ := hR
      have hlen : (chOf A B pre).length < szl := by
        have h1 := chOf_len A B pre
        have h2 : pre.length ≤ (allN A B).length := by rw [hy]; simp
        have := szl_big
        omega
      have hne := ne_orow (ag n) (bg n)
      by_cases q : rowAt A n = rowAt B n
      · rw [decide_eq_true q] at hne
        rw [chOf_snoc, if_pos q]
        refine ⟨_, [.bor (encT T), .bor (encT U), .bor (.lst (names.map D.str)), .sh (.dct false (bookOf A)), .sh (.dct false (bookOf B)), .own (.lst ((chOf A B pre).map Ch.enc)), .sh (.int n)], rfl, .inl ?_, _, rfl⟩
        simp [get_row, hne]
      · rw [decide_eq_false q] at hne
        rw [chOf_snoc, if_neg q]
        refine ⟨_, [.bor (encT T), .bor (encT U), .bor (.lst (names.map D.str)), .sh (.dct false (bookOf A)), .sh (.dct false (bookOf B)), .own (.lst ((chOf A B pre ++ [(⟨n, rowAt A n, rowAt B n⟩ : Ch)]).map Ch.enc)), .sh (.int n)], rfl, .inl ?_, _, rfl⟩
        simp [get_row, hne, hlen, en]) ⟨_, rfl⟩
  have ha := all_numbers (T := A) (U := B) (by omega)
  refine run_rt rfl ?_
  show M.b_change_seen [.bor (encT T), .bor (encT U), .bor (.lst (names.map D.str)), .un, .un, .un, .un] = _
  simp [- List.map_map, M.b_change_seen, sT, sU, hb, hb2, ha, lp, encC, chgV]
theorem eq_trees {T U : List Nd} (hT : ∀ x ∈ T, x.good = true) (hU : ∀ x ∈ U, x.good = true) : D.eq (encT T) (encT U) = .ok (.bl (decide (T = U))) := by
  unfold D.eq
  rw [if_pos (by simp only [D.good]; rw [pl_tree hT 38, pl_tree hU 38]; rfl)]
  simp only [encT, D.eqv, eqvs_enc]
theorem ne_trees {T U : List Nd} (hT : ∀ x ∈ T, x.good = true) (hU : ∀ x ∈ U, x.good = true) : D.ne (encT T) (encT U) = .ok (.bl (!decide (T = U))) := by
  unfold D.ne
  rw [if_pos (by simp only [D.good]; rw [pl_tree hT 38, pl_tree hU 38]; rfl)]
  simp only [encT, D.eqv, eqvs_enc]
theorem is_quiet_ok {T U : List Nd} (hT : Tr T) (hU : Tr U) {names : List Nm} (hN : ∀ s ∈ names, okNm s = true) : M.m_is_quiet [encT T, encT U, .lst (names.map D.str)] = .ok (.bl (decide (seenV T names = seenV U names))) := by
  have sT := seen_ok hT hN
  have sU := seen_ok hU hN
  have q := eq_trees (seen_wh hT.toWh names).good (seen_wh hU.toWh names).good
  refine run_rt rfl ?_
  show M.b_is_quiet [.bor (encT T), .bor (encT U), .bor (.lst (names.map D.str))] = _
  simp [- List.map_map, M.b_is_quiet, sT, sU, q]
end Tw

set_option autoImplicit false
set_option linter.all false
/-! Tw, plain: dict(pairs) with ints as keys; lists that are empty or not. -/
namespace Tw
theorem dict_I {α : Type} (f : α → D) {L : List (Int × α)} (nd : (L.map (·.1)).Nodup) : D.dictK (.lst (L.map fun p => D.tup [.int p.1, f p.2])) = .ok (.dct false (encI f L)) := by
  have p1 : pairs? (L.map fun p => D.tup [.int p.1, f p.2]) = some (encI f L) := by
    unfold encI
    clear nd
    induction L with
    | nil => rfl
    | cons x U ih => simp [pairs?, pair?, D.key?, ih]
  have p2 : (encI f L).all (fun p => !p.1.isTup) = true := by simp [encI, Ky.isTup]
  have p3 : kmerge [] (encI f L) = encI f L := by
    rw [kmerge_new _ _ (fun p _ => rfl)]
    · rfl
    · unfold encI
      rw [List.map_map]
      exact List.pairwise_map.mpr ((List.pairwise_map.mp nd).imp fun h e => h (by simpa using e))
  simp only [D.dictK, p1, p2, if_true, p3]
theorem ne_nil {xs : List D} (h : D.pl 40 (.lst xs) = true) : D.ne (.lst xs) (.lst []) = .ok (.bl (!xs.isEmpty)) := by
  unfold D.ne
  rw [if_pos (by simp only [D.good]; rw [h]; rfl)]
  cases xs <;> simp [D.eqv, D.eqvs]
theorem eq_nil' {xs : List D} (h : D.pl 40 (.lst xs) = true) : D.eq (.lst xs) (.lst []) = .ok (.bl xs.isEmpty) := by
  unfold D.eq
  rw [if_pos (by simp only [D.good]; rw [h]; rfl)]
  cases xs <;> simp [D.eqv, D.eqvs]
theorem pl_lst1 {xs : List D} {n : Nat} (h : ∀ x ∈ xs, D.pl n x = true) : D.pl (n + 1) (.lst xs) = true := by
  simp only [D.pl]
  exact pls_mem h
theorem filter_isEmpty {α : Type} (p : α → Bool) : ∀ l : List α, (l.filter p).isEmpty = !l.any p
  | [] => rfl
  | x :: l => by
    have := filter_isEmpty p l
    cases h : p x <;> simp [h, this]
theorem any_int (n : Int) : ∀ l : List Int, ((l.map D.int).any fun y => D.eqv y (.int n)) = decide (n ∈ l)
  | [] => rfl
  | m :: l => by
    rw [List.map_cons, List.any_cons, any_int n l]
    have : D.eqv (.int m) (.int n) = decide (n = m) := by
      by_cases h : n = m
      · subst h; simp [D.eqv]
      · simp [D.eqv, h, Ne.symm h]
    rw [this, Bool.eq_iff_iff]
    simp
theorem pl_intsL (l : List Int) (k : Nat) : D.pl (k + 1) (.lst (l.map D.int)) = true := pl_lst1 fun x m => by
  obtain ⟨y, _, rfl⟩ := List.mem_map.mp m
  simp [D.pl]
theorem notIn_ints (n : Int) (l : List Int) : D.notIn (.int n) (.lst (l.map D.int)) = .ok (.bl (!decide (n ∈ l))) := by
  rw [notIn_l (by simp [D.good, D.pl]) (pl_intsL l 39), any_int]
theorem isIn_ints (n : Int) (l : List Int) : D.isIn (.int n) (.lst (l.map D.int)) = .ok (.bl (decide (n ∈ l))) := by
  rw [isIn_l (by simp [D.good, D.pl]) (pl_intsL l 39), any_int]
end Tw

set_option autoImplicit false
set_option linter.all false
/-! Tw, plain: paths: walked, find, path_of, below. -/
namespace Tw
theorem nodup_map_inj {α β : Type} {f : α → β} : ∀ {l : List α}, (l.map f).Nodup → ∀ {a b}, a ∈ l → b ∈ l → f a = f b → a = b
  | [], _, _, _, h, _, _ => by cases h
  | c :: l, nd, a, b, ha, hb, e => by
    rw [List.map_cons, List.nodup_cons] at nd
    rcases List.mem_cons.mp ha with h1 | h1
    · rcases List.mem_cons.mp hb with h2 | h2
      · rw [h1, h2]
      · exact absurd (List.mem_map.mpr ⟨b, h2, by rw [← e, h1]⟩) nd.1
    · rcases List.mem_cons.mp hb with h2 | h2
      · exact absurd (List.mem_map.mpr ⟨a, h1, by rw [e, h2]⟩) nd.1
      · exact nodup_map_inj nd.2 h1 h2 e
theorem path_cons {T : List Nd} (h : Wh T) {x : Nd} (hx : x ∈ T) : path T x.n = path T x.p ++ [x.nm] := by
  unfold path
  rw [way_par h hx]
  simp
theorem way_zero (T : List Nd) : way T 0 = [] := (Upw.top (T := T)).way
theorem path_zero (T : List Nd) : path T 0 = [] := by unfold path; rw [way_zero]; rfl
theorem path_ne {T : List Nd} (h : Wh T) {x : Nd} (hx : x ∈ T) : path T x.n ≠ [] := by rw [path_cons h hx]; simp
theorem path_inj {T : List Nd} (h : Wh T) : ∀ (k : Nat) {x y : Nd}, x ∈ T → y ∈ T → (path T x.n).length ≤ k → path T x.n = path T y.n → x = y
  | 0, x, y, hx, _, hl, _ => absurd (List.length_eq_zero_iff.mp (Nat.le_zero.mp hl)) (path_ne h hx)
  | k + 1, x, y, hx, hy, hl, e => by
    rw [path_cons h hx] at hl e
    rw [path_cons h hy] at e
    have e2 := List.append_inj' e rfl
    have en : x.nm = y.nm := by simpa using e2.2
    have ep : x.p = y.p := by
      rcases par_in h hx with h1 | ⟨u, hu, h1, _⟩
      · rcases par_in h hy with h2 | ⟨v, hv, h2, _⟩
        · rw [h1, h2]
        · have := e2.1
          rw [h1, path_zero, ← h2] at this
          exact absurd this.symm (path_ne h hv)
      · rcases par_in h hy with h2 | ⟨v, hv, h2, _⟩
        · have := e2.1
          rw [h2, path_zero, ← h1] at this
          exact absurd this (path_ne h hu)
        · have := path_inj h k hu hv (by rw [h1]; simp at hl; omega) (by rw [h1, h2]; exact e2.1)
          rw [← h1, ← h2, this]
    have sp := h.sp
    unfold spots at sp
    exact (nodup_map_inj sp hx hy (by rw [en, ep]))
theorem path_inj' {T : List Nd} (h : Wh T) {x y : Nd} (hx : x ∈ T) (hy : y ∈ T) (e : path T x.n = path T y.n) : x = y := path_inj h _ hx hy (Nat.le_refl _) e
/-! ### paths with their numbers -/
abbrev PN := List Nm × Int
def encP (a : PN) : D := .tup [strD a.1, .int a.2]
def okP (p : List Nm) : Bool := p.all okNm
theorem pls_strs : ∀ (p : List Nm) (n : Nat), okP p = true → D.pls n (p.map D.str) = true
  | [], _, _ => by simp [D.pls]
  | s :: p, n, h => by
    simp only [okP, List.all_cons, Bool.and_eq_true] at h
    simp only [List.map_cons, D.pls, Bool.and_eq_true]
    exact ⟨by simpa [D.pl, okNm] using h.1, pls_strs p n h.2⟩
theorem flats_strs : ∀ (p : List Nm) (n : Nat), okP p = true → D.flats n (p.map D.str) = true
  | [], _, _ => by simp [D.flats]
  | s :: p, n, h => by
    simp only [okP, List.all_cons, Bool.and_eq_true] at h
    simp only [List.map_cons, D.flats, Bool.and_eq_true]
    exact ⟨by simpa [D.flat, okNm] using h.1, flats_strs p n h.2⟩
theorem pl_strD {p : List Nm} (h : okP p = true) (n : Nat) : D.pl (n + 1) (strD p) = true := by
  simp only [strD, D.pl]
  exact pls_strs p n h
theorem pl_encP {a : PN} (h : okP a.1 = true) (n : Nat) : D.pl (n + 2) (encP a) = true := by
  simp only [encP, D.pl, D.pls, Bool.and_eq_true, and_true]
  exact pl_strD h n
theorem flat_encP {a : PN} (h : okP a.1 = true) (n : Nat) : D.flat (n + 2) (encP a) = true := by
  simp only [encP, D.flat, D.flats, Bool.and_eq_true, and_true, strD]
  exact flats_strs a.1 n h
theorem alks_strs : ∀ p q : List Nm, D.alks (p.map D.str) (q.map D.str) = true
  | [], _ => by simp [D.alks]
  | _ :: _, [] => by simp [D.alks]
  | s :: p, t :: q => by simp [D.alks, D.alk, alks_strs p q]
theorem eqvs_strs : ∀ p q : List Nm, D.eqvs (p.map D.str) (q.map D.str) = decide (p = q)
  | [], [] => by simp [D.eqvs]
  | [], _ :: _ => by simp [D.eqvs]
  | _ :: _, [] => by simp [D.eqvs]
  | s :: p, t :: q => by
    simp only [List.map_cons, D.eqvs, eqvs_strs p q, eqv_str, List.cons.injEq, Bool.decide_and]
theorem eqv_strD (p q : List Nm) : D.eqv (strD p) (strD q) = decide (p = q) := by simp only [strD, D.eqv, eqvs_strs]
theorem eq_strD {p q : List Nm} (h : okP p = true) (g : okP q = true) : D.eq (strD p) (strD q) = .ok (.bl (decide (p = q))) := by
  unfold D.eq
  rw [if_pos (by rw [D.good, D.good, pl_strD h, pl_strD g]; rfl), eqv_strD]
theorem ne_strD {p q : List Nm} (h : okP p = true) (g : okP q = true) : D.ne (strD p) (strD q) = .ok (.bl (!decide (p = q))) := by
  unfold D.ne
  rw [if_pos (by rw [D.good, D.good, pl_strD h, pl_strD g]; rfl), eqv_strD]
theorem sortable_P {L : List PN} (h : ∀ a ∈ L, okP a.1 = true) : sortable (L.map encP) = true := by
  unfold sortable
  rw [Bool.and_eq_true]
  refine ⟨?_, ?_⟩
  · rw [List.all_eq_true]
    intro x hx
    obtain ⟨a, ha, rfl⟩ := List.mem_map.mp hx
    exact flat_encP (h a ha) 38
  · rw [Bool.or_eq_true]
    right
    rw [Bool.and_eq_true, List.all_eq_true, List.all_eq_true]
    refine ⟨fun x hx => ?_, fun x hx => ?_⟩
    · obtain ⟨a, ha, rfl⟩ := List.mem_map.mp hx
      rw [Bool.and_eq_true, List.all_eq_true]
      refine ⟨rfl, fun y hy => ?_⟩
      obtain ⟨b, hb, rfl⟩ := List.mem_map.mp hy
      rfl
    · obtain ⟨a, ha, rfl⟩ := List.mem_map.mp hx
      rw [List.all_eq_true]
      intro y hy
      obtain ⟨b, hb, rfl⟩ := List.mem_map.mp hy
      show D.cmps [strD a.1, .int a.2] [strD b.1, .int b.2] = true
      unfold D.cmps
      split
      · unfold D.cmps
        split
        · simp [D.cmps]
        · simp [D.alk]
      · simp only [strD, D.alk]
        exact alks_strs _ _
def sortP (L : List PN) : List PN := L.mergeSort fun a b => D.le (encP a) (encP b)
theorem sortP_perm (L : List PN) : (sortP L).Perm L := List.mergeSort_perm L _
theorem sortD_P (L : List PN) : sortD (L.map encP) = (sortP L).map encP := by
  unfold sortD sortP
  exact (List.map_mergeSort (r := fun a b => D.le (encP a) (encP b)) (s := D.le) (f := encP) (l := L) fun _ _ _ _ => rfl).symm
theorem sorted_P {L : List PN} (h : ∀ a ∈ L, okP a.1 = true) (hl : L.length ≤ 1000) : D.sorted (.lst (L.map encP)) = .ok (.lst ((sortP L).map encP)) := by
  rw [sorted_eq (sortable_P h) (by simpa using hl), sortD_P]
def pathL (T : List Nd) : List PN := T.map fun x => (path T x.n, x.n)
def walkV (T : List Nd) : List PN := sortP (pathL T)
theorem ok_path {T : List Nd} (h : Wh T) {n : Int} (hn : n = 0 ∨ n ∈ nums T) : okP (path T n) = true := by
  unfold okP
  rw [List.all_eq_true]
  exact fun s hs => good_okNm (path_names h hn s hs)
theorem pathL_ok {T : List Nd} (h : Wh T) : ∀ a ∈ pathL T, okP a.1 = true := fun a ha => by
  obtain ⟨x, hx, rfl⟩ := List.mem_map.mp ha
  exact ok_path h (.inr (mem_nums hx))
theorem walkV_ok {T : List Nd} (h : Wh T) : ∀ a ∈ walkV T, okP a.1 = true := fun a ha => pathL_ok h a ((sortP_perm _).mem_iff.mp ha)
theorem mem_walkV {T : List Nd} {a : PN} : a ∈ walkV T ↔ ∃ x ∈ T, a = (path T x.n, x.n) := by
  unfold walkV
  rw [(sortP_perm _).mem_iff]
  unfold pathL
  rw [List.mem_map]
  exact ⟨fun ⟨x, hx, e⟩ => ⟨x, hx, e.symm⟩, fun ⟨x, hx, e⟩ => ⟨x, hx, e.symm⟩⟩
theorem walked_ok {T : List Nd} (h : Tr T) : M.m_walked [encT T] = .ok (.lst ((walkV T).map encP)) := by
  have hb : M.m_book_of [encT T] = _ := book_ok h.nd h.len
  have hl : T.length < szl := small_szl (by have := h.len; omega)
  have c : compGo (compTurn [2] (gN 2) tTrue (eTup [(eCall M.m_path_in [(eB 1), (eV 2)]), (eV 2)]) [.bor (encT T), .sh (.dct false (bookOf T)), .un]) (T.map fun x => D.int x.n) = .ok ((pathL T).map encP) := by
    unfold pathL
    rw [List.map_map]
    refine compGo_map fun x hx => ?_
    have e := path_in_ok h.ups (n := x.n) (.inr (mem_nums hx))
    simp [e, encP]
  have so := sorted_P (pathL_ok h.toWh) (by simp [pathL]; exact h.len)
  refine run_rt rfl ?_
  show M.b_walked [.bor (encT T), .un, .un] = _
  simp [- ev_turn, - List.map_map, M.b_walked, hb, keys_book, hl, c, so, walkV]
/-- find -/
def findV (T : List Nd) (p : List Nm) : Option Int := if p = [] then some 0 else ((walkV T).find? fun a => decide (a.1 = p)).map (·.2)
def optI : Option Int → D
  | some n => .int n
  | none => .non
theorem findV_at {T : List Nd} (h : Wh T) {x : Nd} (hx : x ∈ T) : findV T (path T x.n) = some x.n := by
  unfold findV
  rw [if_neg (path_ne h hx)]
  cases e : (walkV T).find? fun a => decide (a.1 = path T x.n) with
  | none =>
    rw [List.find?_eq_none] at e
    exact absurd (by simp) (e _ (mem_walkV.mpr ⟨x, hx, rfl⟩))
  | some a =>
    have h1 := List.find?_some e
    obtain ⟨y, hy, rfl⟩ := mem_walkV.mp (List.mem_of_find?_eq_some e)
    have := path_inj' h hy hx (by simpa using h1)
    rw [this]; rfl
theorem findV_no {T : List Nd} {p : List Nm} (hp : p ≠ []) (h : ∀ x ∈ T, path T x.n ≠ p) : findV T p = none := by
  unfold findV
  rw [if_neg hp, Option.map_eq_none_iff, List.find?_eq_none]
  intro a ha
  obtain ⟨x, hx, rfl⟩ := mem_walkV.mp ha
  simpa using h x hx
theorem find_loop {S : D} {q : D} {p : List Nm} (hp : okP p = true) (hq : q = strD p) : ∀ (L : List PN) (a b : Slot), (∀ x ∈ L, okP x.1 = true) → ∃ a' b', forGo (gT [(gN 2), (gN 3)]) (sIf (tE (e2 D.eq (eB 2) (eB 1))) (sRet (eV 3)) sNil) (L.map encP) [.bor S, .bor q, a, b] =
    match L.find? fun x => decide (x.1 = p) with
    | some x => .rt (.int x.2)
    | none => .nx [.bor S, .bor q, a', b']
  | [], a, b, _ => ⟨a, b, rfl⟩
  | x :: L, a, b, h => by
    subst hq
    have hx := h x List.mem_cons_self
    obtain ⟨a', b', ih⟩ := find_loop (S := S) hp rfl L (.sh (strD x.1)) (.sh (.int x.2)) fun y hy => h y (List.mem_cons_of_mem _ hy)
    have es := eq_strD hx hp
    refine ⟨a', b', ?_⟩
    rw [List.map_cons, List.find?_cons]
    conv => lhs; unfold forGo
    by_cases q : x.1 = p
    · rw [decide_eq_true q] at es ⊢
      simp [encP, es]
    · rw [decide_eq_false q] at es ⊢
      simp [encP, es]
      exact ih
theorem find_ok {T : List Nd} (h : Tr T) {p : List Nm} (hp : okP p = true) : M.m_find [encT T, strD p] = .ok (optI (findV T p)) := by
  have e0 : D.eq (strD p) (.tup []) = .ok (.bl (decide (p = []))) := eq_strD (q := []) hp rfl
  have wk := walked_ok h
  have key : M.m_find [encT T, strD p] = match M.b_find [.bor (encT T), .bor (strD p), .un, .un] with
    | .nx _ => .ok .non
    | .rt d => .ok d
    | .er c _ => .err c
    | _ => .stk := rfl
  rw [key]
  by_cases q : p = []
  · rw [decide_eq_true q] at e0
    subst q
    simp [M.b_find, e0, findV, optI]
  · rw [decide_eq_false q] at e0
    obtain ⟨a, b, lp⟩ := find_loop (S := encT T) hp rfl (walkV T) .un .un (walkV_ok h.toWh)
    unfold findV
    rw [if_neg q]
    cases e : (walkV T).find? fun x => decide (x.1 = p) with
    | some x => rw [e] at lp; simp [M.b_find, e0, wk, lp, optI]
    | none => rw [e] at lp; simp [M.b_find, e0, wk, lp, optI]
theorem path_of_ok {T : List Nd} (h : Tr T) (n : Int) : M.m_path_of [encT T, .int n] = if n ∈ nums T then .ok (strD (path T n)) else .err 1 := by
  have hb : M.m_book_of [encT T] = _ := book_ok h.nd h.len
  have lk := look_node_ok (T := T) h.len n
  have key : M.m_path_of [encT T, .int n] = match M.b_path_of [.bor (encT T), .sh (.int n)] with
    | .nx _ => .ok .non
    | .rt d => .ok d
    | .er c _ => .err c
    | _ => .stk := rfl
  rw [key]
  by_cases q : n ∈ nums T
  · have e := path_in_ok h.ups (n := n) (.inr q)
    rw [if_pos q] at lk ⊢
    simp [M.b_path_of, lk, hb, e]
  · rw [if_neg q] at lk ⊢
    simp [M.b_path_of, lk]
/-- below -/
def belowV (T : List Nd) (n : Int) : List Nd := T.filter fun x => !decide (x.n = n) && under T x.n n
theorem sorted_book {T : List Nd} (h : Tr T) : D.sorted (.lst (T.map fun x => D.int x.n)) = .ok (.lst (T.map fun x => D.int x.n)) := by
  rw [sorted_nums h.len, sortN_id h.pw]
theorem below_ok {T : List Nd} (h : Tr T) (n : Int) : M.m_below [encT T, .int n] = if n = 0 ∨ n ∈ nums T then .ok (.lst ((belowV T n).map fun x => D.int x.n)) else .err 1 := by
  have hb : M.m_book_of [encT T] = _ := book_ok h.nd h.len
  have hl : T.length < szl := small_szl (by have := h.len; omega)
  have lk := look_node_ok (T := T) h.len n
  have so := sorted_book h
  have c : compGo (compTurn [3] (gN 3) (tAnd (tE (e2 D.ne (eB 3) (eB 1))) (tE (eCall M.m_is_under [(eB 2), (eV 3), (eB 1)]))) (eV 3) [.bor (encT T), .bor (.int n), .sh (.dct false (bookOf T)), .un]) (T.map fun x => D.int x.n) = .ok ((belowV T n).map fun x => D.int x.n) := by
    refine compGo_enc (e := fun x : Nd => D.int x.n) (g := fun x : Nd => D.int x.n) (p := fun x => !decide (x.n = n) && under T x.n n) fun x hx => ?_
    have u := is_under_ok h.ups (n := x.n) (g := n) (.inr (mem_nums hx))
    by_cases q : x.n = n
    · simp [q]
    · cases z : under T x.n n <;> rw [z] at u <;> simp [q, u]
  have key : M.m_below [encT T, .int n] = match M.b_below [.bor (encT T), .bor (.int n), .un, .un] with
    | .nx _ => .ok .non
    | .rt d => .ok d
    | .er c _ => .err c
    | _ => .stk := rfl
  rw [key]
  by_cases z : n = 0
  · subst z
    rw [if_pos (.inl rfl)]
    simp [- ev_turn, M.b_below, hb, keys_book, so, hl, c]
  · by_cases q : n ∈ nums T
    · rw [if_pos q] at lk
      rw [if_pos (.inr q)]
      simp [- ev_turn, M.b_below, z, lk, hb, keys_book, so, hl, c]
    · rw [if_neg q] at lk
      rw [if_neg (by simp [z, q])]
      simp [M.b_below, z, lk]
end Tw

set_option autoImplicit false
set_option linter.all false
set_option maxRecDepth 4000
/-! Tw, plain: dicts with paths as keys. -/
namespace Tw
/-! ### dicts whose keys are paths -/
def encK (L : List PN) : List (Ky × D) := L.map fun a => (.tup (a.1.map Sum.inr), .int a.2)
theorem leaves_strs : ∀ p : List Nm, leaves? (p.map D.str) = some (p.map Sum.inr)
  | [] => rfl
  | s :: p => by simp [leaves?, leaf?, leaves_strs p]
theorem key_strD (p : List Nm) : (strD p).key? = some (.tup (p.map Sum.inr)) := by simp [strD, D.key?, leaves_strs]
theorem kf_strD (p : List Nm) : (strD p).kf true = some (.tup (p.map Sum.inr)) := by
  unfold D.kf
  rw [key_strD]
  rfl
theorem toD_strD (p : List Nm) : (Ky.tup (p.map Sum.inr)).toD = strD p := by
  simp only [Ky.toD, strD, List.map_map]
  rfl
theorem inr_inj {p q : List Nm} : (p.map Sum.inr : List (Int ⊕ Nm)) = q.map Sum.inr ↔ p = q :=
  ⟨fun h => by
    induction p generalizing q with
    | nil => cases q with
      | nil => rfl
      | cons _ _ => simp at h
    | cons s p ih => cases q with
      | nil => simp at h
      | cons t q =>
        simp only [List.map_cons, List.cons.injEq, Sum.inr.injEq] at h
        rw [h.1, ih h.2], fun h => by rw [h]⟩
theorem kget_P (p : List Nm) : ∀ L : List PN, kget (.tup (p.map Sum.inr)) (encK L) = (L.find? fun a => decide (a.1 = p)).map fun a => D.int a.2
  | [] => rfl
  | a :: L => by
    unfold encK
    rw [List.map_cons, List.find?_cons]
    unfold kget
    by_cases q : a.1 = p
    · rw [if_pos (by rw [q]), decide_eq_true q]; rfl
    · rw [if_neg (by simpa [inr_inj] using q), decide_eq_false q]
      exact kget_P p L
theorem dict_P {L : List PN} (nd : (L.map (·.1)).Nodup) : D.dictT (.lst (L.map encP)) = .ok (.dct true (encK L)) := by
  have p1 : pairs? (L.map encP) = some (encK L) := by
    unfold encK
    clear nd
    induction L with
    | nil => rfl
    | cons x U ih => simp [pairs?, encP, pair?, key_strD, ih]
  have p2 : (encK L).all (fun p => p.1.isTup) = true := by simp [encK, Ky.isTup]
  have p3 : kmerge [] (encK L) = encK L := by
    rw [kmerge_new _ _ (fun p _ => rfl)]
    · rfl
    · unfold encK
      rw [List.map_map]
      exact List.pairwise_map.mpr ((List.pairwise_map.mp nd).imp fun h e => h (by simpa [inr_inj] using e))
  simp only [D.dictT, p1, p2, if_true, p3]
theorem get_P (L : List PN) (p : List Nm) : D.get1 (.dct true (encK L)) (strD p) = .ok (optI ((L.find? fun a => decide (a.1 = p)).map (·.2))) := by
  simp only [D.get1, kf_strD, kget_P]
  cases L.find? fun a => decide (a.1 = p) <;> rfl
theorem idx_P {L : List PN} {p : List Nm} {a : PN} (h : (L.find? fun a => decide (a.1 = p)) = some a) : D.idx (.dct true (encK L)) (strD p) = .ok (.int a.2) := by
  simp only [D.idx, kf_strD, kget_P, h]
  rfl
theorem keys_P (L : List PN) : ((encK L).map fun kv => kv.1.toD) = L.map fun a => strD a.1 := by
  unfold encK
  rw [List.map_map]
  exact List.map_congr_left fun a _ => toD_strD a.1
theorem pathL_nodup {T : List Nd} (h : Wh T) : ((pathL T).map (·.1)).Nodup := by
  unfold pathL
  rw [List.map_map]
  have go : ∀ L : List Nd, (∀ x ∈ L, x ∈ T) → L.Nodup → (L.map ((·.1) ∘ fun x : Nd => (path T x.n, x.n))).Nodup := by
    intro L
    induction L with
    | nil => intro _ _; exact List.nodup_nil
    | cons x L ih =>
      intro hL nd
      rw [List.map_cons, List.nodup_cons]
      rw [List.nodup_cons] at nd
      refine ⟨fun hm => ?_, ih (fun y hy => hL y (List.mem_cons_of_mem _ hy)) nd.2⟩
      obtain ⟨y, hy, e⟩ := List.mem_map.mp hm
      have := path_inj' h (hL y (List.mem_cons_of_mem _ hy)) (hL x List.mem_cons_self) e
      exact nd.1 (this ▸ hy)
  exact go T (fun _ h => h) ((List.pairwise_map.mp h.nd).imp fun hne e => hne (by rw [e]))
theorem pathL_find {T : List Nd} (h : Wh T) {x : Nd} (hx : x ∈ T) : ((pathL T).find? fun a => decide (a.1 = path T x.n)) = some (path T x.n, x.n) := by
  cases e : (pathL T).find? fun a => decide (a.1 = path T x.n) with
  | none =>
    rw [List.find?_eq_none] at e
    exact absurd (by simp) (e (path T x.n, x.n) (List.mem_map.mpr ⟨x, hx, rfl⟩))
  | some a =>
    have h1 := List.find?_some e
    obtain ⟨y, hy, rfl⟩ := List.mem_map.mp (List.mem_of_find?_eq_some e)
    have := path_inj' h hy hx (by simpa using h1)
    rw [this]
theorem findV_L {T : List Nd} (h : Wh T) {p : List Nm} (hp : p ≠ []) : findV T p = ((pathL T).find? fun a => decide (a.1 = p)).map (·.2) := by
  by_cases q : ∃ x ∈ T, path T x.n = p
  · obtain ⟨x, hx, rfl⟩ := q
    rw [findV_at h hx, pathL_find h hx]; rfl
  · have q' : ∀ x ∈ T, path T x.n ≠ p := fun x hx e => q ⟨x, hx, e⟩
    rw [findV_no hp q']
    symm
    rw [Option.map_eq_none_iff, List.find?_eq_none]
    intro a ha
    obtain ⟨x, hx, rfl⟩ := List.mem_map.mp ha
    simpa using q' x hx
theorem ne_optI (a : Option Int) : D.ne (optI a) (optI a) = .ok (.bl false) := by
  cases a <;> simp [optI, D.ne, D.good, D.pl, D.eqv]
theorem eqv_intsL : ∀ l m : List Int, D.eqvs (l.map D.int) (m.map D.int) = decide (l = m)
  | [], [] => by simp [D.eqvs]
  | [], _ :: _ => by simp [D.eqvs]
  | _ :: _, [] => by simp [D.eqvs]
  | a :: l, b :: m => by
    simp only [List.map_cons, D.eqvs, eqv_intsL l m, List.cons.injEq, Bool.decide_and]
    congr 1
theorem ne_intsL (l m : List Int) : D.ne (.lst (l.map D.int)) (.lst (m.map D.int)) = .ok (.bl (!decide (l = m))) := by
  unfold D.ne
  rw [if_pos (by rw [D.good, D.good, pl_intsL l 39, pl_intsL m 39]; rfl)]
  simp only [D.eqv, eqv_intsL]
theorem ne_P {L : List PN} (h : ∀ a ∈ L, okP a.1 = true) : D.ne (.lst (L.map encP)) (.lst (L.map encP)) = .ok (.bl false) := by
  have e : ∀ M : List PN, D.eqvs (M.map encP) (M.map encP) = true := by
    intro M
    induction M with
    | nil => simp [D.eqvs]
    | cons a M ih => simp [D.eqvs, encP, D.eqv, eqv_strD, ih]
  have p : D.pl 40 (.lst (L.map encP)) = true := pl_lst1 fun x hx => by
    obtain ⟨a, ha, rfl⟩ := List.mem_map.mp hx
    exact pl_encP (h a ha) 37
  unfold D.ne
  rw [if_pos (by rw [D.good, p]; rfl)]
  simp only [D.eqv, e]
  rfl
def nm4 (v : Int) : Nm := [[97], [98], [99], [97, 98, 99, 100, 101]].getD v.toNat [97]
theorem idx_nm4 {v : Int} (h0 : 0 ≤ v) (h1 : v < 4) : D.idx (.lst [.str [97], .str [98], .str [99], .str [97, 98, 99, 100, 101]]) (.int v) = .ok (.str (nm4 v)) :=
  cases_lt (n := 4) (fun v => D.idx (.lst [.str [97], .str [98], .str [99], .str [97, 98, 99, 100, 101]]) (.int v) = .ok (.str (nm4 v))) (fun k hk => by
    match k, hk with
    | 0, _ => rfl
    | 1, _ => rfl
    | 2, _ => rfl
    | 3, _ => rfl) h0 h1
theorem nm4_ok {v : Int} (h0 : 0 ≤ v) (h1 : v < 4) : okNm (nm4 v) = true := cases_lt (n := 4) (fun v => okNm (nm4 v) = true) (by decide) h0 h1
end Tw

set_option autoImplicit false
set_option linter.all false
/-! Tw, plain: the program's deeds: a tree, or an error. -/
namespace Tw
def resD (r : Except Nat (List Nd)) : Res D := match r with
  | .ok U => .ok (encT U)
  | .error c => .err c
theorem look_parent_ok {T : List Nd} (p : Int) : M.m_look_parent [.dct false (bookOf T), .int p] = match parE T p with
    | none => .ok .non
    | some c => .err c := by
  by_cases z : p = 0
  · subst z
    simp [M.m_look_parent, M.b_look_parent, runD, parE]
  · cases e : look T p with
    | none =>
      have hpn : p ∉ nums T := fun q => by rw [← look_iff, e] at q; cases q
      simp [M.m_look_parent, M.b_look_parent, runD, parE, z, e, notIn_book, hpn]
    | some x =>
      have hpn : p ∈ nums T := look_iff.mp (by rw [e]; rfl)
      by_cases q : x.st = none
      · simp [M.m_look_parent, M.b_look_parent, runD, parE, z, e, notIn_book, hpn, idx_book e, q]
      · have q' : x.st.isNone = false := by cases k : x.st <;> simp_all
        simp [M.m_look_parent, M.b_look_parent, runD, parE, z, e, notIn_book, hpn, idx_book e, q, q']
theorem bools_fn {α : Type} (f : α → Bool) : ∀ l : List α, bools? (l.map fun x => D.bl (f x)) = some (l.map f)
  | [] => rfl
  | b :: l => by
    show (bools? (l.map fun x => D.bl (f x))).map (f b :: ·) = _
    rw [bools_fn f l]; rfl
theorem look_name_ok {T : List Nd} (nd : (nums T).Nodup) (g : ∀ x ∈ T, x.good = true) (hl : T.length ≤ 1000) {n p : Int} {nm : Nm} (hn : goodName nm = true) : M.m_look_name [.dct false (bookOf T), .int n, .int p, .str nm] = if takenE T n p nm then .err 6 else .ok .non := by
  have h1 : T.length < szl := small_szl (by omega)
  have c : compGo (compTurn [4] (gN 4) (tE (e2 D.ne (eB 4) (eB 1))) (e2 D.eq (eSl (e2 D.idx (eB 0) (eB 4)) none (some (eC (.int 2)))) (eTup [(eV 2), (eV 3)])) [.bor (.dct false (bookOf T)), .bor (.int n), .sh (.int p), .sh (.str nm), .un]) (T.map fun x => D.int x.n) =
      .ok ((T.filter fun x => !decide (x.n = n)).map (fun x : Nd => D.bl (decide ((x.p, x.nm) = (p, nm))))) :=
    compGo_enc (e := fun x : Nd => D.int x.n) (g := fun x : Nd => D.bl (decide ((x.p, x.nm) = (p, nm)))) (p := fun x => !decide (x.n = n)) fun x hx => by
      have : look T x.n = some x := (look_at nd).mpr ⟨hx, rfl⟩
      by_cases q : x.n = n
      · simp [q]
      · have es : D.eq (.tup [.int x.p, .str x.nm]) (.tup [.int p, .str nm]) = .ok (.bl (decide ((x.p, x.nm) = (p, nm)))) := by
          unfold D.eq
          rw [if_pos (by rw [D.good, D.good, pl_spot (Nd.good_nm (g x hx)), pl_spot hn]; rfl), eqv_spot]
        have hr : D.cut none (some 2) x.row = .ok (.tup [.int x.p, .str x.nm]) := rfl
        simp [q, idx_book this, hr, es]
  have ha : D.any (.lst ((T.filter fun x => !decide (x.n = n)).map (fun x : Nd => D.bl (decide ((x.p, x.nm) = (p, nm)))))) = .ok (.bl (takenE T n p nm)) := by
    refine (ev_any (bools_fn (fun x : Nd => decide ((x.p, x.nm) = (p, nm))) (T.filter fun x => !decide (x.n = n)))).trans ?_
    congr 2
    unfold takenE
    rw [Bool.eq_iff_iff, List.any_eq_true, List.any_eq_true]
    constructor
    · rintro ⟨b, hb, rfl⟩
      obtain ⟨x, hx, hb⟩ := List.mem_map.mp hb
      have := List.mem_filter.mp hx
      exact ⟨x, this.1, by rw [this.2, hb]; rfl⟩
    · rintro ⟨x, hx, h⟩
      have := Bool.and_eq_true_iff.mp h
      exact ⟨true, List.mem_map.mpr ⟨x, List.mem_filter.mpr ⟨hx, this.1⟩, this.2⟩, rfl⟩
  have key : M.b_look_name [.bor (.dct false (bookOf T)), .bor (.int n), .sh (.int p), .sh (.str nm), .un] = if takenE T n p nm then .er 6 [.bor (.dct false (bookOf T)), .bor (.int n), .sh (.int p), .sh (.str nm), .un] else .nx [.bor (.dct false (bookOf T)), .bor (.int n), .sh (.int p), .sh (.str nm), .un] := by
    cases q : takenE T n p nm <;> rw [q] at ha <;> simp [- ev_turn, - Prod.mk.injEq, - Bool.decide_and, - ev_any, M.b_look_name, keys_book, h1, c, ha]
  cases q : takenE T n p nm with
  | true => rw [q] at key; exact run_er rfl key
  | false => rw [q] at key; exact runD_nx rfl key
theorem tree_of_id {T : List Nd} (h : Tr T) : M.m_tree_of [.dct false (bookOf T)] = .ok (encT T) := by
  rw [tree_of_ok h.nd h.len, sortN_id h.pw]
theorem tree_made_ok {T : List Nd} (h : Tr T) (hl : T.length ≤ 900) {n p : Int} {nm : Nm} {st : Option Int} (g : (Deed.make n p nm st).good = true) : M.m_tree_made [encT T, .int n, .int p, .str nm, stD st] = resD (doneV T (.make n p nm st)) := by
  have hb : M.m_book_of [encT T] = _ := book_ok h.nd h.len
  have hk : (bookOf T).length < szl := by rw [book_len]; exact small_szl (by omega)
  have g' := g
  simp only [Deed.good, Bool.and_eq_true, decide_eq_true_eq] at g'
  have lp := look_parent_ok (T := T) p
  have ln := look_name_ok h.nd h.good h.len (n := n) (p := p) g'.1.2
  have key : M.m_tree_made [encT T, .int n, .int p, .str nm, stD st] = match M.b_tree_made [.bor (encT T), .bor (.int n), .sh (.int p), .sh (.str nm), .sh (stD st), .un] with
    | .nx _ => .ok .non
    | .rt d => .ok d
    | .er c _ => .err c
    | _ => .stk := rfl
  rw [key]
  simp only [doneV]
  by_cases hn : n ∈ nums T
  · simp [M.b_tree_made, hb, isIn_book, hn, resD]
  · rw [if_neg hn]
    cases hp : parE T p with
    | some c => rw [hp] at lp; simp [M.b_tree_made, hb, isIn_book, hn, lp, resD]
    | none =>
      rw [hp] at lp
      cases ht : takenE T n p nm with
      | true => rw [ht] at ln; simp [M.b_tree_made, hb, isIn_book, hn, lp, ln, resD]
      | false =>
        rw [ht] at ln
        have kp := kput_book (L := T) (x := ⟨n, p, nm, st⟩)
        rw [new_wh (x := ⟨n, p, nm, st⟩) hn] at kp
        simp only [Nd.row] at kp
        have e : doneV T (.make n p nm st) = .ok (sortN (T ++ [⟨n, p, nm, st⟩])) := by simp [doneV, hn, hp, ht]
        have w := (done_wh h g e).1.perm (sortN_perm _)
        have to := tree_of_ok (L := T ++ [⟨n, p, nm, st⟩]) w.nd (by simp; omega)
        simp [M.b_tree_made, hb, isIn_book, hn, lp, ln, resD, hk, kp, to]
theorem tree_wrote_ok {T : List Nd} (h : Tr T) (hl : T.length ≤ 900) {n st : Int} (g : (Deed.write n st).good = true) : M.m_tree_wrote [encT T, .int n, .int st] = resD (doneV T (.write n st)) := by
  have hb : M.m_book_of [encT T] = _ := book_ok h.nd h.len
  have hk : (bookOf T).length < szl := by rw [book_len]; exact small_szl (by omega)
  have lk := look_node_ok (T := T) h.len n
  have key : M.m_tree_wrote [encT T, .int n, .int st] = match M.b_tree_wrote [.bor (encT T), .bor (.int n), .sh (.int st), .un] with
    | .nx _ => .ok .non
    | .rt d => .ok d
    | .er c _ => .err c
    | _ => .stk := rfl
  rw [key]
  simp only [doneV]
  cases e : look T n with
  | none =>
    have hn : n ∉ nums T := fun q => by rw [← look_iff, e] at q; cases q
    rw [if_neg hn] at lk
    simp [M.b_tree_wrote, hb, lk, resD]
  | some x =>
    obtain ⟨hxm, rfl⟩ := look_some e
    have hn : x.n ∈ nums T := look_iff.mp (by rw [e]; rfl)
    rw [if_pos hn] at lk
    by_cases q : x.st = none
    · simp [M.b_tree_wrote, hb, lk, idx_book e, q, resD]
    · have q' : x.st.isNone = false := by cases k : x.st <;> simp_all
      have kp := kput_book (L := T) (x := { x with st := some st })
      rw [rep_wh (x := { x with st := some st }) hn] at kp
      dsimp only at kp
      have ev : doneV T (.write x.n st) = .ok (repN T { x with st := some st }) := by simp [doneV, e, q]
      have w := done_wh h g ev
      have to := tree_of_ok (L := repN T { x with st := some st }) w.1.nd (by have := w.2.2; omega)
      rw [rep_self h.pw] at to
      have hr : D.cut none (some 2) x.row = .ok (.tup [.int x.p, .str x.nm]) := rfl
      have ha : D.add (.tup [.int x.p, .str x.nm]) (.tup [.int st]) = .ok (Nd.row { x with st := some st }) := rfl
      simp [M.b_tree_wrote, hb, lk, idx_book e, q, q', resD, hr, ha, hk, kp, to]
theorem tree_moved_ok {T : List Nd} (h : Tr T) (hl : T.length ≤ 900) {n p : Int} {nm : Nm} (g : (Deed.move n p nm).good = true) : M.m_tree_moved [encT T, .int n, .int p, .str nm] = resD (doneV T (.move n p nm)) := by
  have hb : M.m_book_of [encT T] = _ := book_ok h.nd h.len
  have hk : (bookOf T).length < szl := by rw [book_len]; exact small_szl (by omega)
  have lk := look_node_ok (T := T) h.len n
  have lp := look_parent_ok (T := T) p
  have g' := g
  simp only [Deed.good, Bool.and_eq_true, decide_eq_true_eq] at g'
  have ln := look_name_ok h.nd h.good h.len (n := n) (p := p) g'.2
  have key : M.m_tree_moved [encT T, .int n, .int p, .str nm] = match M.b_tree_moved [.bor (encT T), .bor (.int n), .sh (.int p), .sh (.str nm), .un] with
    | .nx _ => .ok .non
    | .rt d => .ok d
    | .er c _ => .err c
    | _ => .stk := rfl
  rw [key]
  obtain ⟨r, hr⟩ : ∃ r, doneV T (.move n p nm) = r := ⟨_, rfl⟩
  rw [hr]
  have ev := hr
  simp only [doneV] at ev
  cases e : look T n with
  | none =>
    have hn : n ∉ nums T := fun q => by rw [← look_iff, e] at q; cases q
    rw [if_neg hn] at lk
    rw [e] at ev; subst ev
    simp [M.b_tree_moved, hb, lk, resD]
  | some x =>
    obtain ⟨hxm, rfl⟩ := look_some e
    have hn : x.n ∈ nums T := look_iff.mp (by rw [e]; rfl)
    rw [if_pos hn] at lk
    rw [e] at ev
    simp only at ev
    cases hp : parE T p with
    | some c => rw [hp] at lp ev; subst ev; simp [M.b_tree_moved, hb, lk, lp, resD]
    | none =>
      rw [hp] at lp ev
      simp only at ev
      have kp := kput_book (L := T) (x := { x with p := p, nm := nm })
      rw [rep_wh (x := { x with p := p, nm := nm }) hn] at kp
      simp only [Nd.row] at kp
      have fin : doneV T (.move x.n p nm) = .ok (repN T { x with p := p, nm := nm }) → M.m_tree_of [.dct false (bookOf (repN T { x with p := p, nm := nm }))] = .ok (encT (repN T { x with p := p, nm := nm })) := fun q => by
        have w := done_wh h g q
        have to := tree_of_ok (L := repN T { x with p := p, nm := nm }) w.1.nd (by have := w.2.2; omega)
        rw [rep_self h.pw] at to
        exact to
      by_cases z : p = 0
      · subst z
        simp only [ne_eq, not_true, false_and, if_false] at ev
        cases ht : takenE T x.n 0 nm with
        | true => rw [ht] at ln ev; subst ev; simp [M.b_tree_moved, hb, lk, lp, ln, resD]
        | false =>
          rw [ht] at ln ev
          simp only [Bool.false_eq_true, if_false] at ev
          have to := fin (hr.trans ev.symm)
          subst ev
          simp [M.b_tree_moved, hb, lk, lp, ln, resD, hk, kp, to, idx_book e]
      · have hpn : p ∈ nums T := by
          rcases parE_fol hp with q | ⟨y, hy, rfl, _⟩
          · exact absurd q z
          · exact List.mem_map.mpr ⟨y, hy, rfl⟩
        have hu := is_under_ok h.ups (n := p) (g := x.n) (.inr hpn)
        simp only [ne_eq, z, not_false_iff, true_and] at ev
        cases hun : under T p x.n with
        | true => rw [hun] at hu ev; subst ev; simp [M.b_tree_moved, hb, lk, lp, z, hu, resD]
        | false =>
          rw [hun] at hu ev
          simp only [Bool.false_eq_true, if_false] at ev
          cases ht : takenE T x.n p nm with
          | true => rw [ht] at ln ev; subst ev; simp [M.b_tree_moved, hb, lk, lp, z, hu, ln, resD]
          | false =>
            rw [ht] at ln ev
            simp only [Bool.false_eq_true, if_false] at ev
            have to := fin (hr.trans ev.symm)
            subst ev
            simp [M.b_tree_moved, hb, lk, lp, z, hu, ln, resD, hk, kp, to, idx_book e]
theorem dict_rows {L : List Nd} (nd : (nums L).Nodup) : D.dictK (.lst (L.map fun x => D.tup [.int x.n, x.row])) = .ok (.dct false (bookOf L)) := by
  have p1 : pairs? (L.map fun x : Nd => D.tup [.int x.n, x.row]) = some (bookOf L) := by
    unfold bookOf
    clear nd
    induction L with
    | nil => rfl
    | cons x U ih => simp [pairs?, pair?, D.key?, ih]
  have p2 : (bookOf L).all (fun p => !p.1.isTup) = true := by simp [bookOf, Ky.isTup]
  have p3 : kmerge [] (bookOf L) = bookOf L := by
    rw [kmerge_new _ _ (fun p _ => rfl)]
    · rfl
    · unfold bookOf
      rw [List.map_map]
      exact List.pairwise_map.mpr ((List.pairwise_map.mp nd).imp fun h e => h (by simpa using e))
  simp only [D.dictK, p1, p2, if_true, p3]
theorem tree_dropped_ok {T : List Nd} (h : Tr T) {n : Int} : M.m_tree_dropped [encT T, .int n] = resD (doneV T (.drop n)) := by
  have hb : M.m_book_of [encT T] = _ := book_ok h.nd h.len
  have lk := look_node_ok (T := T) h.len n
  have hl : T.length < szl := small_szl (by have := h.len; omega)
  have key : M.m_tree_dropped [encT T, .int n] = match M.b_tree_dropped [.bor (encT T), .bor (.int n), .un, .un] with
    | .nx _ => .ok .non
    | .rt d => .ok d
    | .er c _ => .err c
    | _ => .stk := rfl
  rw [key]
  simp only [doneV]
  by_cases hn : n ∈ nums T
  · rw [if_pos hn] at lk
    have c : compGo (compTurn [3] (gN 3) (tNot (tE (eCall M.m_is_under [(eB 2), (eV 3), (eB 1)]))) (eTup [(eV 3), (e2 D.idx (eB 2) (eB 3))]) [.bor (encT T), .bor (.int n), .sh (.dct false (bookOf T)), .un]) (T.map fun x => D.int x.n) = .ok ((T.filter fun x => !under T x.n n).map fun x => D.tup [.int x.n, x.row]) :=
      compGo_enc (e := fun x : Nd => D.int x.n) (g := fun x : Nd => D.tup [.int x.n, x.row]) (p := fun x => !under T x.n n) fun x hx => by
        have hu := is_under_ok h.ups (n := x.n) (g := n) (.inr (List.mem_map.mpr ⟨x, hx, rfl⟩))
        have lx : look T x.n = some x := (look_at h.nd).mpr ⟨hx, rfl⟩
        cases k : under T x.n n <;> rw [k] at hu <;> simp [hu, idx_book lx]
    have w := h.drop n
    have dr := dict_rows w.nd
    have to := tree_of_ok (L := T.filter fun x => !under T x.n n) w.nd (by have := List.length_filter_le (fun x => !under T x.n n) T; have := h.len; omega)
    rw [sortN_id (h.pw.sublist List.filter_sublist)] at to
    simp [- ev_turn, M.b_tree_dropped, hb, lk, hn, keys_book, hl, c, dr, to, resD]
  · rw [if_neg hn] at lk
    simp [M.b_tree_dropped, hb, lk, hn, resD]
theorem done_ok {T : List Nd} (h : Tr T) (hl : T.length ≤ 900) {d : Deed} (g : d.good = true) : M.m_done [encT T, d.enc] = resD (doneV T d) := by
  have key : M.m_done [encT T, d.enc] = match M.b_done [.bor (encT T), .bor d.enc] with
    | .nx _ => .ok .non
    | .rt d => .ok d
    | .er c _ => .err c
    | _ => .stk := rfl
  rw [key]
  cases d with
  | make n p nm st =>
    have e := tree_made_ok h hl g
    cases r : doneV T (.make n p nm st) <;> rw [r] at e <;> simp [M.b_done, Deed.enc, sMake, e, resD]
  | write n st =>
    have e := tree_wrote_ok h hl g
    cases r : doneV T (.write n st) <;> rw [r] at e <;> simp [M.b_done, Deed.enc, sWrite, e, resD]
  | move n p nm =>
    have e := tree_moved_ok h hl g
    cases r : doneV T (.move n p nm) <;> rw [r] at e <;> simp [M.b_done, Deed.enc, sMove, e, resD]
  | drop n =>
    have e := tree_dropped_ok h (n := n)
    cases r : doneV T (.drop n) <;> rw [r] at e <;> simp [M.b_done, Deed.enc, sDrp, e, resD]
end Tw

set_option autoImplicit false
set_option linter.all false
/-! Tw, plain: what a deed leaves as it was. -/
namespace Tw
theorem done_look {T U : List Nd} (hT : Tr T) {d : Deed} (g : d.good = true) (e : doneV T d = .ok U) {m : Int} (hm : m ≠ d.num) : look U m = look T m ∨ (∃ n, d = .drop n ∧ look U m = none ∧ under T m n = true) := by
  obtain ⟨w, pw, _⟩ := done_wh hT g e
  cases d with
  | make n p nm st =>
    simp only [doneV] at e
    split at e
    · cases e
    · rename_i hn
      split at e
      · cases e
      · split at e
        · cases e
        · cases e
          left
          have nd : (nums (T ++ [⟨n, p, nm, st⟩])).Nodup := (w.perm (sortN_perm _)).nd
          rw [look_perm nd (sortN_perm _).symm]
          cases q : look T m with
          | some x =>
            have := look_some q
            exact (look_at nd).mpr ⟨List.mem_append_left _ this.1, this.2⟩
          | none =>
            cases q2 : look (T ++ [⟨n, p, nm, st⟩]) m with
            | none => rfl
            | some x =>
              have := look_some q2
              rcases List.mem_append.mp this.1 with h3 | h3
              · rw [(look_at hT.nd).mpr ⟨h3, this.2⟩] at q; cases q
              · rw [List.mem_singleton.mp h3] at this
                exact absurd this.2.symm hm
  | write n st =>
    simp only [doneV] at e
    split at e
    · cases e
    · rename_i x hl
      split at e
      · cases e
      · cases e
        have hx := look_some hl
        left
        rw [look_rep hT.nd (x := { x with st := some st }) (List.mem_map.mpr ⟨x, hx.1, rfl⟩), if_neg (fun z => hm (z.trans hx.2))]
  | move n p nm =>
    simp only [doneV] at e
    split at e
    · cases e
    · rename_i x hl
      split at e
      · cases e
      · split at e
        · cases e
        · split at e
          · cases e
          · cases e
            have hx := look_some hl
            left
            rw [look_rep hT.nd (x := { x with p := p, nm := nm }) (List.mem_map.mpr ⟨x, hx.1, rfl⟩), if_neg (fun z => hm (z.trans hx.2))]
  | drop n =>
    simp only [doneV] at e
    split at e
    · rename_i hn
      cases e
      cases q : look T m with
      | none =>
        left
        cases q2 : look (T.filter fun x => !under T x.n n) m with
        | none => rfl
        | some x =>
          have := look_some q2
          rw [(look_at hT.nd).mpr ⟨(List.mem_filter.mp this.1).1, this.2⟩] at q; cases q
      | some x =>
        have hx := look_some q
        cases hu : under T x.n n with
        | false => left; exact (look_at w.nd).mpr ⟨List.mem_filter.mpr ⟨hx.1, by simp [hu]⟩, hx.2⟩
        | true =>
          right
          refine ⟨n, rfl, ?_, by rw [← hx.2]; exact hu⟩
          cases q2 : look (T.filter fun x => !under T x.n n) m with
          | none => rfl
          | some y =>
            have hy := look_some q2
            have := (List.mem_filter.mp hy.1).2
            rw [hy.2, ← hx.2, hu] at this
            simp at this
    · cases e
/-- the tree behind a deed -/
def bh (T : List Nd) (d : Deed) : List Nd := match doneV T d with
  | .ok U => U
  | .error _ => T
theorem bh_tr {T : List Nd} (h : Tr T) (hl : T.length ≤ 900) {d : Deed} (g : d.good = true) : Tr (bh T d) ∧ (bh T d).length ≤ T.length + 1 := by
  unfold bh
  cases e : doneV T d with
  | error c => exact ⟨h, by simp⟩
  | ok U =>
    obtain ⟨w, pw, l⟩ := done_wh h g e
    exact ⟨{ w with pw := pw, len := by show U.length ≤ 1000; omega }, l⟩
theorem bh_rows {T : List Nd} (h : Tr T) {d : Deed} (g : d.good = true) {m : Int} (hm : m ≠ d.num) (hr : rowAt T m ≠ rowAt (bh T d) m) : ∃ n, d = .drop n ∧ m ∉ nums (bh T d) ∧ under T m n = true ∧ m ∈ nums T := by
  unfold bh at hr ⊢
  cases e : doneV T d with
  | error c => rw [e] at hr; exact absurd rfl hr
  | ok U =>
    rw [e] at hr
    simp only at hr ⊢
    rcases done_look h g e hm with q | ⟨n, q, z, u⟩
    · unfold rowAt at hr; rw [q] at hr; exact absurd rfl hr
    · refine ⟨n, q, fun hn => ?_, u, ?_⟩
      · rw [← look_iff, z] at hn; cases hn
      · rw [← look_iff]
        cases q2 : look T m with
        | some x => rfl
        | none => unfold rowAt at hr; rw [q2, z] at hr; exact absurd rfl hr
theorem doneV_codes {T : List Nd} {d : Deed} {c : Nat} (e : doneV T d = .error c) : c ∈ [1, 2, 3, 4, 5, 6] := by
  have pc : ∀ {p c}, parE T p = some c → c ∈ [1, 2, 3, 4, 5, 6] := fun {p c} h => by
    unfold parE at h
    split at h
    · cases h
    · split at h
      · cases h; decide
      · split at h
        · cases h
        · cases h; decide
  cases d with
  | make n p nm st =>
    simp only [doneV] at e
    split at e
    · cases e; decide
    · split at e
      · cases e; rename_i h; exact pc h
      · split at e
        · cases e; decide
        · cases e
  | write n st =>
    simp only [doneV] at e
    split at e
    · cases e; decide
    · split at e
      · cases e; decide
      · cases e
  | move n p nm =>
    simp only [doneV] at e
    split at e
    · cases e; decide
    · split at e
      · cases e; rename_i h; exact pc h
      · split at e
        · cases e; decide
        · split at e
          · cases e; decide
          · cases e
  | drop n =>
    simp only [doneV] at e
    split at e
    · cases e
    · cases e; decide
theorem num_enc (d : Deed) : D.idx d.enc (.int 1) = .ok (.int d.num) := by cases d <;> rfl
theorem enc_box (d : Deed) : d.enc.box = false := by cases d <;> rfl
end Tw

set_option autoImplicit false
set_option linter.all false
/-! Tw, plain: a law in several turns, deeds one behind the other. -/
namespace Tw
theorem turns_ok {f : List D → Res D} (N : Nat) (hN : N ≤ 1000) (hf : ∀ (S : D) (ns : List Int), Scr S ns → ns.length ≤ 63 → f [S] = .ok (.bl true)) (ns : List Int) (hns : ns.length ≤ 63) :
    sSeq (sFor (iR1 (eC (.int (N : Int)))) (gN 1) (sSeq (sIf (tNot (tE (eCall f [(eComp (iE (eB 0)) [2] (gN 2) tTrue (e2 D.add (eB 2) (e2 D.mul (eC (.int 7919)) (eB 1))))]))) (sRet (eC (.bl false))) sNil) (sIf (tE (e2 D.eq (eB 0) (eLst []))) sBrk sNil))) (sRet (eC (.bl true))) [.bor (.inp ns), .un, .un] = .rt (.bl true) := by
  have hr : iR1 (eC (.int (N : Int))) [.bor (.inp ns), .un, .un] = .ok ((List.range N).map fun (k : Nat) => D.int (0 + (k : Int))) := bind_eq (x := .int (N : Int)) rfl (by rw [rng_count (by omega)]; simp)
  have turn : ∀ (k : Int) (s2 : Slot), (sSeq (sIf (tNot (tE (eCall f [(eComp (iE (eB 0)) [2] (gN 2) tTrue (e2 D.add (eB 2) (e2 D.mul (eC (.int 7919)) (eB 1))))]))) (sRet (eC (.bl false))) sNil) (sIf (tE (e2 D.eq (eB 0) (eLst []))) sBrk sNil)) [.bor (.inp ns), .sh (.int k), s2] = (if ns = [] then .bk [.bor (.inp ns), .sh (.int k), s2] else .nx [.bor (.inp ns), .sh (.int k), s2]) := fun k s2 => by
    have c1 : eComp (iE (eB 0)) [2] (gN 2) tTrue (e2 D.add (eB 2) (e2 D.mul (eC (.int 7919)) (eB 1))) [.bor (.inp ns), .sh (.int k), s2] = .ok (.lst ((ns.map fun x => x + 7919 * k).map D.int)) := by
      refine ecomp_ok (xs := ns.map D.int) rfl (small_szl (by simp; omega)) ?_
      rw [List.map_map]
      refine compGo_map fun x _ => ?_
      have mm : D.mul (.int 7919) (.int k) = .ok (.int (7919 * k)) := by
        unfold D.mul
        simp only
        rw [if_pos (by rw [show smallI 7919 = true by decide]; rfl)]
      exact bind_eq (x := [.bor (.inp ns), .sh (.int k), .sh (.int x)]) rfl (bind_eq (x := true) rfl (bind_eq (x := .int (x + 7919 * k)) (bind_eq (x := .int x) rfl (bind_eq (x := .int (7919 * k)) (bind_eq (x := .int 7919) rfl (bind_eq (x := .int k) rfl mm)) rfl)) rfl))
    have o1 := hf (.lst ((ns.map fun x => x + 7919 * k).map D.int)) _ (.inr rfl) (by simpa using hns)
    refine seq_nx (if_f (tnot_b (x := true) (te_b (call_ok (ds := [.lst ((ns.map fun x => x + 7919 * k).map D.int)]) (eL_cons c1 eL_nil) o1))) rfl) ?_
    have he : tE (e2 D.eq (eB 0) (eLst [])) [.bor (.inp ns), .sh (.int k), s2] = .ok (decide (ns = [])) := te_b (bind_eq (x := .inp ns) rfl (bind_eq (x := .lst []) rfl (scr_eq (.inl rfl))))
    by_cases q : ns = []
    · rw [decide_eq_true q] at he
      rw [if_pos q]
      exact if_t he rfl
    · rw [decide_eq_false q] at he
      rw [if_neg q]
      exact if_f he rfl
  have loop : ∀ (xs : List Nat) (s1 s2 : Slot), ∃ e', forGo (gN 1) (sSeq (sIf (tNot (tE (eCall f [(eComp (iE (eB 0)) [2] (gN 2) tTrue (e2 D.add (eB 2) (e2 D.mul (eC (.int 7919)) (eB 1))))]))) (sRet (eC (.bl false))) sNil) (sIf (tE (e2 D.eq (eB 0) (eLst []))) sBrk sNil)) (xs.map fun (k : Nat) => D.int (0 + (k : Int))) [.bor (.inp ns), s1, s2] = .nx e' := by
    intro xs
    induction xs with
    | nil => intro s1 s2; exact ⟨_, rfl⟩
    | cons k xs ih =>
      intro s1 s2
      have tk := turn (0 + (k : Int)) s2
      by_cases q : ns = []
      · rw [if_pos q] at tk
        refine ⟨[.bor (.inp ns), .sh (.int (0 + (k : Int))), s2], ?_⟩
        rw [List.map_cons]
        unfold forGo
        simp only [gN, List.set_cons_succ, List.set_cons_zero]
        rw [tk]
      · rw [if_neg q] at tk
        obtain ⟨e', he⟩ := ih (.sh (.int (0 + (k : Int)))) s2
        refine ⟨e', ?_⟩
        rw [List.map_cons]
        unfold forGo
        simp only [gN, List.set_cons_succ, List.set_cons_zero]
        rw [tk]
        exact he
  obtain ⟨e', he⟩ := loop (List.range N) .un .un
  exact seq_nx (for_go hr he) (ret_ok rfl)
/-! ### deeds one behind the other -/
def ran : List Nd → List Deed → Option (List Nd)
  | T, [] => some T
  | T, d :: ds => match doneV T d with
    | .ok U => ran U ds
    | .error _ => none
theorem ran_snoc {d : Deed} {V W : List Nd} (e : doneV V d = .ok W) : ∀ {T : List Nd} {ds : List Deed}, ran T ds = some V → ran T (ds ++ [d]) = some W
  | T, [], h => by
    simp only [ran, Option.some.injEq] at h
    subst h
    simp [ran, e]
  | T, c :: ds, h => by
    simp only [ran, List.cons_append] at h ⊢
    cases q : doneV T c with
    | error _ => rw [q] at h; cases h
    | ok U => rw [q] at h; exact ran_snoc e h
theorem all_loop (a : Slot) : ∀ {ds : List Deed} {T V : List Nd} (b : Slot), Tr T → (∀ d ∈ ds, d.good = true) → T.length + ds.length ≤ 900 → ran T ds = some V → ∃ z, forGo (gN 2) (sSet 0 (eCall M.m_done [(eB 0), (eB 2)])) (ds.map Deed.enc) [.sh (encT T), a, b] = .nx [.sh (encT V), a, z]
  | [], T, V, b, _, _, _, h => by
    simp only [ran, Option.some.injEq] at h
    subst h
    exact ⟨b, rfl⟩
  | d :: ds, T, V, b, hT, hg, hl, h => by
    simp only [ran] at h
    cases q : doneV T d with
    | error _ => rw [q] at h; cases h
    | ok U =>
      rw [q] at h
      have gd := hg d List.mem_cons_self
      obtain ⟨w, pw, l⟩ := done_wh hT gd q
      have e := done_ok hT (by simp at hl; omega) gd
      rw [q] at e
      simp only [List.length_cons] at hl
      obtain ⟨z, hz⟩ := all_loop a (.sh d.enc) { w with pw := pw, len := by omega } (fun x hx => hg x (List.mem_cons_of_mem _ hx)) (by omega) h
      refine ⟨z, ?_⟩
      rw [List.map_cons]
      unfold forGo
      simp [e, resD]
      exact hz
theorem all_done_ok {ds : List Deed} {T V : List Nd} (hT : Tr T) (hg : ∀ d ∈ ds, d.good = true) (hl : T.length + ds.length ≤ 900) (h : ran T ds = some V) : M.m_all_done [encT T, .lst (ds.map Deed.enc)] = .ok (encT V) := by
  obtain ⟨z, lp⟩ := all_loop (.sh (.lst (ds.map Deed.enc))) .un hT hg hl h
  refine run_rt rfl ?_
  show M.b_all_done [.sh (encT T), .sh (.lst (ds.map Deed.enc)), .un] = _
  unfold M.b_all_done
  exact seq_nx (for_go (xs := ds.map Deed.enc) (by simp) lp) (by simp)
end Tw

set_option autoImplicit false
set_option linter.all false
/-! Tw, plain: straight code by one rule a statement, the code never told again. -/
namespace Tw
section
variable {a b c f : E} {t u : T} {p q : S} {e e1 e2' : Env} {d x y z : D} {r : Res D} {i j k : Nat} {g : G} {it : I} {xs ys : List D} {own : List Nat} {P : RS → Prop}
/-- the turn goes on, and R holds behind it -/
def Nx (R : Env → Prop) (r : RS) : Prop := ∃ e, (r = .nx e ∨ r = .ct e) ∧ R e
/-- d is told -/
def Rt (d : D) (r : RS) : Prop := r = .rt d
/-- c is raised -/
def Er (c : Nat) (r : RS) : Prop := ∃ e, r = .er c e
/-- all went well, to this -/
def Nxt (e : Env) (r : RS) : Prop := r = .nx e
theorem p_seq (h : p e = .nx e1) (h2 : P (q e1)) : P (sSeq p q e) := by rw [seq_nx h rfl]; exact h2
theorem p_if_t (h : t e = .ok true) (h2 : P (p e)) : P (sIf t p q e) := by rw [if_t h rfl]; exact h2
theorem p_if_f (h : t e = .ok false) (h2 : P (q e)) : P (sIf t p q e) := by rw [if_f h rfl]; exact h2
theorem p_nil {R : Env → Prop} (h : R e) : Nx R (sNil e) := ⟨e, .inl rfl, h⟩
theorem p_cnt {R : Env → Prop} (h : R e) : Nx R (sCnt e) := ⟨e, .inr rfl, h⟩
theorem p_ret (h : f e = .ok d) : Rt d (sRet f e) := ret_ok h
theorem p_rt (h : p e = .rt d) : Rt d (sSeq p q e) := seq_rt h
theorem p_raise : Er k (sRaise k e) := ⟨e, rfl⟩
theorem p_er (h : Er k (p e)) : Er k (sSeq p q e) := by obtain ⟨e1, h⟩ := h; exact ⟨e1, seq_er h⟩
/-- a check that passes -/
theorem p_chk (h : t e = .ok false) (h2 : P (q e)) : P (sSeq (sIf t p sNil) q e) := p_seq (if_f h rfl) h2
theorem p_chkL {R : Env → Prop} (h : t e = .ok false) (h2 : R e) : Nx R (sIf t p sNil e) := p_if_f h (p_nil h2)
theorem p_set (h : f e = .ok d) (h2 : P (q (e.set i (.sh d)))) : P (sSeq (sSet i f) q e) := p_seq (set_ok h) h2
theorem p_setL {R : Env → Prop} (h : f e = .ok d) (h2 : R (e.set i (.sh d))) : Nx R (sSet i f e) := ⟨_, .inl (set_ok h), h2⟩
theorem p_own (h : f e = .ok d) (h2 : P (q (e.set i (.own d)))) : P (sSeq (sOwn i f) q e) := p_seq (own_ok h) h2
theorem p_ownL {R : Env → Prop} (h : f e = .ok d) (h2 : R (e.set i (.own d))) : Nx R (sOwn i f e) := ⟨_, .inl (own_ok h), h2⟩
theorem p_frz (h : e[i]? = some (.own d)) (h2 : P (q (e.set i (.sh d)))) : P (sSeq (sFrz i) q e) := p_seq (frz_ok h) h2
theorem p_app (h : e[i]? = some (.own (.lst xs))) (h3 : f e = .ok d) (h4 : xs.length < szl) (h2 : P (q (e.set i (.own (.lst (xs ++ [d])))))) : P (sSeq (sApp i f) q e) := p_seq (app_ok h h3 h4) h2
theorem p_appL {R : Env → Prop} (h : e[i]? = some (.own (.lst xs))) (h3 : f e = .ok d) (h4 : xs.length < szl) (h2 : R (e.set i (.own (.lst (xs ++ [d]))))) : Nx R (sApp i f e) := ⟨_, .inl (app_ok h h3 h4), h2⟩
theorem p_drop (h : f e = .ok d) (h2 : P (q e)) : P (sSeq (sDrop f) q e) := p_seq (by unfold sDrop; rw [h]; rfl) h2
theorem p_dropE (h : f e = .err k) : Er k (sSeq (sDrop f) q e) := ⟨e, seq_er (by unfold sDrop; rw [h]; rfl)⟩
theorem p_asg (h : f e = .ok d) (h3 : g d e = .ok e1) (h2 : P (q e1)) : P (sSeq (sAsg g f) q e) := p_seq (asg_ok h h3) h2
theorem p_par (h : a e = .ok x) (h3 : b e = .ok y) (h2 : P (q ((e.set i (.sh x)).set j (.sh y)))) : P (sSeq (sPar i j a b) q e) := p_seq (by unfold sPar; rw [h]; simp only [Res.run_ok]; rw [h3]; rfl) h2
theorem nx_for {R : Env → Prop} : ∀ {xs : List D} {e : Env}, R e → (∀ x ∈ xs, ∀ e, R e → ∃ e1, g x e = .ok e1 ∧ Nx R (p e1)) → ∃ e', forGo g p xs e = .nx e' ∧ R e'
  | [], e, r, _ => ⟨e, rfl, r⟩
  | x :: xs, e, r, h => by
    obtain ⟨e1, h1, e2, h2, h3⟩ := h x List.mem_cons_self e r
    obtain ⟨e', h4, h5⟩ := nx_for h3 fun y m => h y (List.mem_cons_of_mem _ m)
    refine ⟨e', ?_, h5⟩
    unfold forGo
    rw [h1]
    rcases h2 with h2 | h2 <;> (simp only [h2]; exact h4)
/-- a loop, R kept -/
theorem p_for {α : Type} {L : List α} {m : α → D} (R : Env → Prop) (h : it e = .ok (L.map m)) (r : R e) (hs : ∀ x ∈ L, ∀ e, R e → ∃ e1, g (m x) e = .ok e1 ∧ Nx R (p e1)) (h2 : ∀ e, R e → P (q e)) : P (sSeq (sFor it g p) q e) := by
  obtain ⟨e', h3, h4⟩ := nx_for (xs := L.map m) (g := g) (p := p) r fun x hx e re => by
    obtain ⟨y, hy, rfl⟩ := List.mem_map.mp hx
    exact hs y hy e re
  exact p_seq (for_go h h3) (h2 _ h4)
theorem p_forL {α : Type} {L : List α} {m : α → D} (R : Env → Prop) (h : it e = .ok (L.map m)) (r : R e) (hs : ∀ x ∈ L, ∀ e, R e → ∃ e1, g (m x) e = .ok e1 ∧ Nx R (p e1)) : Nx R (sFor it g p e) := by
  obtain ⟨e', h3, h4⟩ := nx_for (xs := L.map m) (g := g) (p := p) r fun x hx e re => by
    obtain ⟨y, hy, rfl⟩ := List.mem_map.mp hx
    exact hs y hy e re
  exact ⟨e', .inl (for_go h h3), h4⟩
theorem p_forK {α : Type} {L : List α} {m : α → D} {kvs : List (Ky × D)} {tt : Bool} (R : Env → Prop) (h : e[i]? = some (.sh (.dct tt kvs)) ∨ e[i]? = some (.bor (.dct tt kvs))) (hk : (kvs.map fun kv => kv.1.toD) = L.map m) (r : R e) (hs : ∀ x ∈ L, ∀ e, R e → ∃ e1, g (m x) e = .ok e1 ∧ Nx R (p e1)) (h2 : ∀ e, R e → P (q e)) : P (sSeq (sForK i g p) q e) := by
  obtain ⟨e', h3, h4⟩ := nx_for (xs := L.map m) (g := g) (p := p) r fun x hx e re => by
    obtain ⟨y, hy, rfl⟩ := List.mem_map.mp hx
    exact hs y hy e re
  refine p_seq (e1 := e') ?_ (h2 _ h4)
  have hd : D.keys (.dct tt kvs) = .ok (L.map m) := by rw [← hk]; rfl
  rcases h with h | h <;> (unfold sForK; rw [h]; simp only [hd, h3])
/-- .. what is done so far told -/
theorem nx_pre {α : Type} {R : List α → Env → Prop} {m : α → D} {L : List α} (hs : ∀ pre x post, L = pre ++ x :: post → ∀ e, R pre e → ∃ e1, g (m x) e = .ok e1 ∧ Nx (R (pre ++ [x])) (p e1)) (r : R [] e) : ∃ e', forGo g p (L.map m) e = .nx e' ∧ R L e' :=
  forGo_pre (R := R) (fun pre x post hl env he => by
    obtain ⟨e1, h1, e2, h2, h3⟩ := hs pre x post hl env he
    exact ⟨e1, e2, h1, h2, h3⟩) r
theorem p_forP {α : Type} {L : List α} {m : α → D} (R : List α → Env → Prop) (h : it e = .ok (L.map m)) (r : R [] e) (hs : ∀ pre x post, L = pre ++ x :: post → ∀ e, R pre e → ∃ e1, g (m x) e = .ok e1 ∧ Nx (R (pre ++ [x])) (p e1)) (h2 : ∀ e, R L e → P (q e)) : P (sSeq (sFor it g p) q e) := by
  obtain ⟨e', h3, h4⟩ := nx_pre (R := R) hs r
  exact p_seq (for_go h h3) (h2 _ h4)
theorem p_forPL {α : Type} {L : List α} {m : α → D} {Q : Env → Prop} (R : List α → Env → Prop) (h : it e = .ok (L.map m)) (r : R [] e) (hs : ∀ pre x post, L = pre ++ x :: post → ∀ e, R pre e → ∃ e1, g (m x) e = .ok e1 ∧ Nx (R (pre ++ [x])) (p e1)) (h2 : ∀ e, R L e → Q e) : Nx Q (sFor it g p e) := by
  obtain ⟨e', h3, h4⟩ := nx_pre (R := R) hs r
  exact ⟨e', .inl (for_go h h3), h2 _ h4⟩
theorem p_forKP {α : Type} {L : List α} {m : α → D} {kvs : List (Ky × D)} {tt : Bool} (R : List α → Env → Prop) (h : e[i]? = some (.sh (.dct tt kvs)) ∨ e[i]? = some (.bor (.dct tt kvs))) (hk : (kvs.map fun kv => kv.1.toD) = L.map m) (r : R [] e) (hs : ∀ pre x post, L = pre ++ x :: post → ∀ e, R pre e → ∃ e1, g (m x) e = .ok e1 ∧ Nx (R (pre ++ [x])) (p e1)) (h2 : ∀ e, R L e → P (q e)) : P (sSeq (sForK i g p) q e) := by
  obtain ⟨e', h3, h4⟩ := nx_pre (R := R) hs r
  refine p_seq (e1 := e') ?_ (h2 _ h4)
  have hd : D.keys (.dct tt kvs) = .ok (L.map m) := by rw [← hk]; rfl
  rcases h with h | h <;> (unfold sForK; rw [h]; simp only [hd, h3])
/-! ### expressions -/
theorem ok_e1 {h : D → Res D} (h1 : a e = .ok x) (h2 : h x = r) : Tw.e1 h a e = r := by unfold Tw.e1; rw [h1]; exact h2
theorem ok_e2 {h : D → D → Res D} (h1 : a e = .ok x) (h2 : b e = .ok y) (h3 : h x y = r) : Tw.e2 h a b e = r := by unfold Tw.e2; rw [h1]; simp only [Res.bind_ok]; rw [h2]; exact h3
theorem ok_call1 {m : List D → Res D} (h1 : a e = .ok x) (h2 : m [x] = r) : eCall m [a] e = r := call_ok (by simp only [ev_eL1, ev_eL0, h1, Res.bind_ok]) h2
theorem ok_call2 {m : List D → Res D} (h1 : a e = .ok x) (h2 : b e = .ok y) (h3 : m [x, y] = r) : eCall m [a, b] e = r := call_ok (by simp only [ev_eL1, ev_eL0, h1, h2, Res.bind_ok]) h3
theorem ok_call3 {m : List D → Res D} (h1 : a e = .ok x) (h2 : b e = .ok y) (h4 : c e = .ok z) (h3 : m [x, y, z] = r) : eCall m [a, b, c] e = r := call_ok (by simp only [ev_eL1, ev_eL0, h1, h2, h4, Res.bind_ok]) h3
theorem ok_tup0 : eTup [] e = .ok (.tup []) := rfl
theorem ok_tup1 (h1 : a e = .ok x) : eTup [a] e = .ok (.tup [x]) := by simp only [ev_eTup, ev_eL1, ev_eL0, h1, Res.bind_ok]
theorem ok_tup2 (h1 : a e = .ok x) (h2 : b e = .ok y) : eTup [a, b] e = .ok (.tup [x, y]) := by simp only [ev_eTup, ev_eL1, ev_eL0, h1, h2, Res.bind_ok]
theorem ok_tup3 (h1 : a e = .ok x) (h2 : b e = .ok y) (h4 : c e = .ok z) : eTup [a, b, c] e = .ok (.tup [x, y, z]) := by simp only [ev_eTup, ev_eL1, ev_eL0, h1, h2, h4, Res.bind_ok]
theorem ok_te {v : Bool} (h : a e = .ok (.bl v)) : tE a e = .ok v := te_b h
theorem ok_it (h : a e = .ok x) {l : List D} (h2 : D.items x = .ok l) : iE a e = .ok l := by unfold iE; rw [h]; exact h2
theorem ok_itL (h : a e = .ok (.lst xs)) : iE a e = .ok xs := ok_it h rfl
theorem ok_itT (h : a e = .ok (.tup xs)) : iE a e = .ok xs := ok_it h rfl
theorem ok_itK {kvs : List (Ky × D)} {tt : Bool} {l : List D} (h : a e = .ok (.dct tt kvs)) (h2 : (kvs.map fun kv => kv.1.toD) = l) : iK a e = .ok l := by unfold iK; rw [h, ← h2]; rfl
/-- [h x for x in L if p x] -/
theorem ok_comp {α : Type} {L : List α} {m h : α → D} (pr : α → Bool) (hit : it e = .ok (L.map m)) (hl : L.length ≤ 16777215) (ht : ∀ x ∈ L, compTurn own g t f e (m x) = .ok (if pr x then some (h x) else none)) : eComp it own g t f e = .ok (.lst ((L.filter pr).map h)) :=
  ecomp_ok hit (by rw [List.length_map]; exact small_szl hl) (compGo_enc ht)
theorem ok_compM {α : Type} {L : List α} {m h : α → D} (hit : it e = .ok (L.map m)) (hl : L.length ≤ 16777215) (ht : ∀ x ∈ L, compTurn own g t f e (m x) = .ok (some (h x))) : eComp it own g t f e = .ok (.lst (L.map h)) :=
  ecomp_ok hit (by rw [List.length_map]; exact small_szl hl) (compGo_map ht)
/-- a turn of a comprehension, step by step -/
theorem ct_some (hg : g x (blkE own e) = .ok e1) (ht : t e1 = .ok true) (hf : f e1 = .ok y) : compTurn own g t f e x = .ok (some y) := by
  unfold compTurn; rw [hg]; simp only [Res.bind_ok]; rw [ht]; simp only [Res.bind_ok, if_true]; rw [hf]; rfl
theorem ct_if {v : Bool} (hg : g x (blkE own e) = .ok e1) (ht : t e1 = .ok v) (hf : v = true → f e1 = .ok y) : compTurn own g t f e x = .ok (if v then some y else none) := by
  unfold compTurn; rw [hg]; simp only [Res.bind_ok]; rw [ht]; simp only [Res.bind_ok]
  cases v with
  | true => simp only [if_true]; rw [hf rfl]; rfl
  | false => rfl
end
end Tw

set_option autoImplicit false
set_option linter.all false
/-! Tw, plain: sums: look_folder, total, shape. -/
namespace Tw
theorem look_folder_ok {T : List Nd} (h : Tr T) (n : Int) : M.m_look_folder [encT T, .int n] = match parE T n with | none => .ok .non | some c => .err c := by
  have e := look_node_ok h.len n
  have b := book_ok h.nd h.len
  by_cases z : n = 0
  · subst z
    simp only [parE, if_true]
    refine runD_nx rfl (e := [.bor (encT T), .bor (.int 0)]) ?_
    show M.b_look_folder [.bor (encT T), .bor (.int 0)] = _
    simp [M.b_look_folder]
  · by_cases q : n ∈ nums T
    · obtain ⟨x, hx, rfl⟩ := List.mem_map.mp q
      have l := look_of h.nd hx
      rw [if_pos q] at e
      have ix := idx_book l
      have px : parE T x.n = if x.st = none then none else some 3 := by simp [parE, z, l]
      rw [px]
      by_cases s : x.st = none
      · rw [if_pos s]
        refine runD_nx rfl (e := [.bor (encT T), .bor (.int x.n)]) ?_
        show M.b_look_folder [.bor (encT T), .bor (.int x.n)] = _
        simp [M.b_look_folder, z, e, b, ix, s]
      · rw [if_neg s]
        refine runD_er rfl (e := [.bor (encT T), .bor (.int x.n)]) ?_
        show M.b_look_folder [.bor (encT T), .bor (.int x.n)] = _
        simp [M.b_look_folder, z, e, b, ix, Option.isNone_iff_eq_none, s]
    · rw [if_neg q] at e
      have px : parE T n = some 1 := by
        have : look T n = none := by
          rw [← Option.isNone_iff_eq_none]
          have := look_isSome (T := T) (n := n)
          rw [decide_eq_false q] at this
          cases hl : look T n <;> simp [hl] at this ⊢
        simp [parE, z, this]
      rw [px]
      refine runD_er rfl (e := [.bor (encT T), .bor (.int n)]) ?_
      show M.b_look_folder [.bor (encT T), .bor (.int n)] = _
      simp [M.b_look_folder, z, e]
theorem parE_in {T : List Nd} {n : Int} (h : parE T n = none) : n = 0 ∨ n ∈ nums T := by
  rcases parE_fol h with h | ⟨x, hx, rfl, _⟩
  · exact .inl h
  · exact .inr (mem_nums hx)
theorem belowV_sub {T : List Nd} {n : Int} {x : Nd} (h : x ∈ belowV T n) : x ∈ T := (List.mem_filter.mp h).1
theorem belowV_len (T : List Nd) (n : Int) : (belowV T n).length ≤ T.length := List.length_filter_le _ _
/-- the stamps of files -/
def stamps (B : List Nd) : List Int := B.filterMap (·.st)
def totD (B : List Nd) : D := .tup [.int ((B.length : Int) - (stamps B).length), .int (stamps B).length, .int (stamps B).sum]
theorem stamps_D : ∀ B : List Nd, ((B.map fun x => x.st).filter fun o => o.isSome).map stD = (stamps B).map D.int
  | [] => rfl
  | x :: B => by
    have ih := stamps_D B
    unfold stamps at ih ⊢
    cases e : x.st with
    | none => simp [e, ih]
    | some v => simp [e, ih, stD]
theorem sum_ints (l : List Int) : D.sum (.lst (l.map D.int)) = .ok (.int l.sum) := by simp [D.sum, ints_int]
theorem ints_len (l : List Int) : D.len (.lst (l.map D.int)) = .ok (.int l.length) := by simp
theorem idx_row2 {T : List Nd} (h : Tr T) {x : Nd} (hx : x ∈ T) : D.idx (.dct false (bookOf T)) (.int x.n) = .ok x.row := idx_book (look_of h.nd hx)
theorem total_ok {T : List Nd} (h : Tr T) (n : Int) : M.m_total [encT T, .int n] = match parE T n with | none => .ok (totD (belowV T n)) | some c => .err c := by
  have lf := look_folder_ok h n
  have bk := book_ok h.nd h.len
  have hl := h.len
  have bl := belowV_len T n
  cases q : parE T n with
  | some c =>
    rw [q] at lf
    refine runD_er (e := [.bor (encT T), .bor (.int n), .un, .un, .un, .un, .un]) rfl ?_
    show M.b_total [.bor (encT T), .bor (.int n), .un, .un, .un, .un, .un] = _
    unfold M.b_total
    exact seq_er (by simp [lf])
  | none =>
    rw [q] at lf
    have bo := below_ok h n
    rw [if_pos (parE_in q)] at bo
    refine runD_rt rfl ?_
    show Rt _ (M.b_total [.bor (encT T), .bor (.int n), .un, .un, .un, .un, .un])
    unfold M.b_total
    refine p_drop (by (simp [lf] <;> repeat' (first | apply And.intro | rfl))) ?_
    refine p_set (by simp [bk]; rfl) ?_
    refine p_own (ok_compM (L := belowV T n) (m := fun x => D.int x.n) (h := fun x => stD x.st) (by simp [bo]) (by omega) fun x hx => by simp [idx_row2 h (belowV_sub hx)]) ?_
    refine p_frz rfl ?_
    refine p_own (ok_comp (L := (belowV T n).map fun x => x.st) (m := stD) (h := stD) (fun o => o.isSome) (by simp) (by simp; omega) fun x hx => by cases x <;> simp [stD]) ?_
    refine p_frz rfl ?_
    rw [stamps_D]
    refine p_ret (d := totD (belowV T n)) ?_
    simp [sum_ints, totD]
/-! ### shape -/
theorem flat_strD' {p : List Nm} (h : okP p = true) : D.flat 40 (strD p) = true := by
  unfold strD; simp only [D.flat]; exact flats_strs p 39 h
theorem way_suf {T : List Nd} (h : Wh T) {n g : Int} (hn : n = 0 ∨ n ∈ nums T) (u : under T n g = true) : way T g <:+ way T n := by
  have w := way_num h hn
  rcases under_iff.mp u with rfl | q
  · rw [way_zero]; exact List.nil_suffix
  · obtain ⟨x, hx, rfl⟩ := List.mem_map.mp q
    obtain ⟨m, um, sm⟩ := w.suf x hx
    rw [um.way]; exact sm
theorem path_pre {T : List Nd} (h : Wh T) {n g : Int} (hn : n = 0 ∨ n ∈ nums T) (u : under T n g = true) : ∃ r, path T n = path T g ++ r := by
  obtain ⟨l, e⟩ := way_suf h hn u
  refine ⟨(l.map (·.nm)).reverse, ?_⟩
  unfold path
  rw [← e]; simp
/-- the path from a folder on -/
def pathF (T : List Nd) (n m : Int) : List Nm := (path T m).drop (path T n).length
theorem path_F {T : List Nd} (h : Wh T) {n g : Int} (hn : n = 0 ∨ n ∈ nums T) (u : under T n g = true) : path T n = path T g ++ pathF T g n := by
  obtain ⟨r, e⟩ := path_pre h hn u
  unfold pathF
  rw [e]; simp
theorem pathF_inj {T : List Nd} (h : Wh T) {n : Int} {x y : Nd} (hx : x ∈ belowV T n) (hy : y ∈ belowV T n) (e : pathF T n x.n = pathF T n y.n) : x = y := by
  have ux := (List.mem_filter.mp hx).2
  have uy := (List.mem_filter.mp hy).2
  simp only [Bool.and_eq_true] at ux uy
  refine path_inj' h (belowV_sub hx) (belowV_sub hy) ?_
  rw [path_F h (.inr (mem_nums (belowV_sub hx))) ux.2, path_F h (.inr (mem_nums (belowV_sub hy))) uy.2, e]
theorem okP_drop {p : List Nm} (h : okP p = true) (k : Nat) : okP (p.drop k) = true := by
  unfold okP at h ⊢
  rw [List.all_eq_true] at h ⊢
  exact fun x hx => h x (List.mem_of_mem_drop hx)
/-- paths with stamps -/
abbrev PS := List Nm × Option Int
def encS (a : PS) : D := .tup [strD a.1, stD a.2]
/-- sorted by paths -/
def srtB (f : Nd → List Nm) (B : List Nd) : List Nd := B.mergeSort fun a b => D.le (strD (f a)) (strD (f b))
def shapeV (T : List Nd) (n : Int) : List PS := (srtB (fun x => pathF T n x.n) (belowV T n)).map fun x => (pathF T n x.n, x.st)
theorem le_encP {a b : PN} (ha : okP a.1 = true) (hb : okP b.1 = true) (h : a.1 = b.1 → a = b) : D.le (encP a) (encP b) = D.le (strD a.1) (strD b.1) := by
  unfold D.le encP
  rw [lt_tup, lexI_tokss (n := 40) (m := 40) (flat_strD' hb) (flat_strD' ha), eqv_strD]
  by_cases q : b.1 = a.1
  · have := h q.symm
    subst this
    simp only [decide_true, if_true, lt_self, lexI_self]
  · simp only [decide_eq_false q, Bool.false_eq_true, if_false]
theorem srt_P {f : Nd → List Nm} {B : List Nd} (ok : ∀ x ∈ B, okP (f x) = true) (inj : ∀ x ∈ B, ∀ y ∈ B, f x = f y → x = y) : sortP (B.map fun x => (f x, x.n)) = (srtB f B).map fun x => (f x, x.n) := by
  unfold sortP srtB
  refine (List.map_mergeSort fun a ha b hb => ?_).symm
  exact (le_encP (a := (f a, a.n)) (b := (f b, b.n)) (ok a ha) (ok b hb) fun q => by rw [inj a ha b hb q]).symm
theorem srt_perm (f : Nd → List Nm) (B : List Nd) : (srtB f B).Perm B := List.mergeSort_perm _ _
theorem mem_srt {f : Nd → List Nm} {B : List Nd} {x : Nd} : x ∈ srtB f B ↔ x ∈ B := (srt_perm f B).mem_iff
theorem srt_len (f : Nd → List Nm) (B : List Nd) : (srtB f B).length = B.length := (srt_perm f B).length_eq
theorem strs_map : ∀ p : List Nm, strs? (p.map D.str) = some p
  | [] => rfl
  | x :: p => by simp [strs?, strs_map p]
theorem sortedAt_S {B : List Nd} {f : Nd → List Nm} {g : Nd → Option Int} (ok : ∀ x ∈ B, okP (f x) = true) (ln : ∀ x ∈ B, (f x).length ≤ 1000) (ne : ∀ x ∈ B, f x ≠ []) (hl : B.length ≤ 1000) : D.sortedAt 0 (.lst (B.map fun x => encS (f x, g x))) = .ok (.lst ((srtB f B).map fun x => encS (f x, g x))) := by
  have h1 : (B.map fun x => encS (f x, g x)).all (hasAt 0) = true := by
    rw [List.all_eq_true]
    intro d hd
    obtain ⟨x, _, rfl⟩ := List.mem_map.mp hd
    rfl
  have h2 : keysOk ((B.map fun x => encS (f x, g x)).map (keyAt 0)) = true := by
    unfold keysOk
    simp only [Bool.or_eq_true]
    right
    rw [List.all_eq_true]
    intro d hd
    obtain ⟨e, he, rfl⟩ := List.mem_map.mp hd
    obtain ⟨x, hx, rfl⟩ := List.mem_map.mp he
    have o := ok x hx
    have l := ln x hx
    show (keyOk (strD (f x)) == 3) = true
    unfold strD keyOk
    simp only [strs_map]
    unfold okP okNm at o
    have n := ne x hx
    cases q : f x with
    | nil => exact absurd q n
    | cons a r =>
      rw [q] at o l
      simp only
      rw [if_pos (by simp only [o, decide_eq_true l, Bool.and_self])]; rfl
  have h3 : (B.map fun x => encS (f x, g x)).length ≤ szl := by rw [List.length_map]; exact Nat.le_of_lt (small_szl (by omega))
  unfold D.sortedAt
  simp only [h1, h2, h3, decide_true, Bool.and_self, if_true]
  unfold sortAt srtB
  rw [List.map_mergeSort (r := fun a b => D.le (strD (f a)) (strD (f b))) (s := fun a b => D.le (keyAt 0 a) (keyAt 0 b)) fun a _ b _ => rfl]
theorem okP_F {T : List Nd} (h : Wh T) (n : Int) {x : Nd} (hx : x ∈ T) : okP (pathF T n x.n) = true := okP_drop (ok_path h (.inr (mem_nums hx))) _
theorem pathF_ne {T : List Nd} (h : Wh T) {n : Int} {x : Nd} (hx : x ∈ belowV T n) : pathF T n x.n ≠ [] := fun z => by
  have hm := belowV_sub hx
  have ux := (List.mem_filter.mp hx).2
  simp only [Bool.and_eq_true, Bool.not_eq_true', decide_eq_false_iff_not] at ux
  have e := path_F h (.inr (mem_nums hm)) ux.2
  rw [z, List.append_nil] at e
  rcases under_iff.mp ux.2 with rfl | q
  · rw [path_zero] at e; exact path_ne h hm e
  · obtain ⟨y, hy, rfl⟩ := List.mem_map.mp q
    have hy' : y ∈ T := (way_num h (.inr (mem_nums hm))).mem y hy
    exact ux.1 (by rw [path_inj' h hm hy' e])
theorem pathF_len {T : List Nd} (h : Tr T) (n : Int) {x : Nd} (hx : x ∈ T) : (pathF T n x.n).length ≤ 1000 := by
  have := path_len h.ups (n := x.n) (.inr (mem_nums hx))
  have := h.len
  unfold pathF
  rw [List.length_drop]; omega
theorem cut_F (T : List Nd) (n m : Int) : D.cut (some ((path T n).length : Int)) none (strD (path T m)) = .ok (strD (pathF T n m)) := by
  unfold strD
  rw [ev_cut2, cutL_drop]
  unfold pathF
  rw [List.map_drop]
theorem shape_ok {T : List Nd} (h : Tr T) (n : Int) : M.m_shape [encT T, .int n] = match parE T n with | none => .ok (.lst ((shapeV T n).map encS)) | some c => .err c := by
  have lf := look_folder_ok h n
  have bk := book_ok h.nd h.len
  have hl := h.len
  have bl := belowV_len T n
  cases q : parE T n with
  | some c =>
    rw [q] at lf
    refine runD_er (e := [.bor (encT T), .sh (.int n), .un, .un, .un]) rfl ?_
    show M.b_shape [.bor (encT T), .sh (.int n), .un, .un, .un] = _
    unfold M.b_shape
    exact seq_er (by simp [lf])
  | none =>
    rw [q] at lf
    have bo := below_ok h n
    rw [if_pos (parE_in q)] at bo
    refine runD_rt rfl ?_
    show Rt _ (M.b_shape [.bor (encT T), .sh (.int n), .un, .un, .un])
    unfold M.b_shape
    refine p_drop (by (simp [lf] <;> repeat' (first | apply And.intro | rfl))) ?_
    refine p_set (by (simp [bk] <;> repeat' (first | apply And.intro | rfl))) ?_
    have pn := path_of_ok h n
    refine p_set (d := .int (path T n).length) ?_ ?_
    · by_cases z : n = 0
      · subst z; simp [path_zero]
      · rw [if_pos ((parE_in q).resolve_left z)] at pn
        simp [z, pn, strD]
    · refine p_ret ?_
      refine ok_e1 (ok_compM (L := belowV T n) (m := fun x => D.int x.n) (h := fun x => encS (pathF T n x.n, x.st)) (by simp [bo]) (by omega) fun x hx => ?_) ?_
      · have px := path_of_ok h x.n
        rw [if_pos (mem_nums (belowV_sub hx))] at px
        simp [idx_row2 h (belowV_sub hx), px, cut_F, encS]
      · rw [sortedAt_S (fun x hx => okP_F h.toWh n (belowV_sub hx)) (fun x hx => pathF_len h n (belowV_sub hx)) (fun x hx => pathF_ne h.toWh hx) (by omega)]
        simp [shapeV]
end Tw

set_option autoImplicit false
set_option linter.all false
/-! Tw, plain: nodes found. -/
namespace Tw
theorem eq_names {a b : Nm} (ha : okNm a = true) (hb : okNm b = true) : D.eq (.str a) (.str b) = .ok (.bl (decide (a = b))) := by
  rw [eq_str ha hb]; by_cases q : a = b <;> simp [q]
theorem nm_ok {T : List Nd} (h : Wh T) {x : Nd} (hx : x ∈ T) : okNm x.nm = true := good_okNm (Nd.good_nm (h.good x hx))
theorem filt_len {α : Type} (p : α → Bool) (l : List α) : (l.filter p).length ≤ l.length := List.length_filter_le p l
def namedV (T : List Nd) (s : Nm) : List Int := (T.filter fun x => decide (x.nm = s)).map (·.n)
theorem named_ok {T : List Nd} (h : Tr T) {s : Nm} (hs : okNm s = true) : M.m_named [encT T, .str s] = .ok (.lst ((namedV T s).map D.int)) := by
  have hl := h.len
  refine runD_rt rfl ?_
  show Rt _ (M.b_named [.bor (encT T), .bor (.str s), .un])
  unfold M.b_named namedV
  rw [List.map_map]
  refine p_ret (ok_comp (L := T) (m := Nd.enc) (fun x => decide (x.nm = s)) (by simp) (by omega) fun x hx => ?_)
  have e := eq_names (nm_ok h.toWh hx) hs
  by_cases q : x.nm = s
  · rw [q] at e; simp [e, q]
  · simp only [decide_eq_false q] at e; simp [e, q]
def inR (lo hi : Int) : Option Int → Bool
  | none => false
  | some v => decide (lo ≤ v) && decide (v ≤ hi)
def stampedV (T : List Nd) (lo hi : Int) : List Int := (T.filter fun x => inR lo hi x.st).map (·.n)
theorem stamped_ok {T : List Nd} (hl : T.length ≤ 1000) (lo hi : Int) : M.m_stamped [encT T, .int lo, .int hi] = .ok (.lst ((stampedV T lo hi).map D.int)) := by
  refine runD_rt rfl ?_
  show Rt _ (M.b_stamped [.bor (encT T), .bor (.int lo), .bor (.int hi), .un])
  unfold M.b_stamped stampedV
  rw [List.map_map]
  refine p_ret (ok_comp (L := T) (m := Nd.enc) (fun x => inR lo hi x.st) (by simp) (by omega) fun x hx => ?_)
  cases q : x.st with
  | none => simp [q, inR]
  | some v => by_cases k : lo ≤ v <;> by_cases k2 : v ≤ hi <;> simp [q, inR, stD, k, k2]
def byStV (T : List Nd) : List Int := setI (stamps T)
def stRow (T : List Nd) (v : Int) : D := .tup [.int v, .lst ((stampedV T v v).map D.int)]
theorem stamps_len (T : List Nd) : (stamps T).length ≤ T.length := List.length_filterMap_le _ _
theorem sortedSet_ok {l : List Int} (h : l.length < 64) : D.sortedSet (.lst (l.map D.int)) = .ok (.lst ((setI l).map D.int)) := by
  unfold D.sortedSet; simp only [ints_int]; rw [if_pos h]
theorem stamps_F (T : List Nd) : (T.filter fun x => x.st.isSome).map (fun x => stD x.st) = (stamps T).map D.int := by
  rw [← stamps_D, List.filter_map, List.map_map]; rfl
theorem by_stamps_ok {T : List Nd} (hl : T.length < 64) : M.m_by_stamps [encT T] = .ok (.lst ((byStV T).map (stRow T))) := by
  refine runD_rt rfl ?_
  show Rt _ (M.b_by_stamps [.bor (encT T), .un, .un, .un])
  unfold M.b_by_stamps
  refine p_set (d := .lst ((byStV T).map D.int)) (ok_e1 (ok_comp (L := T) (m := Nd.enc) (h := fun x => stD x.st) (fun x => x.st.isSome) (by simp) (by omega) fun x hx => by cases q : x.st <;> simp [q]) ?_) ?_
  · rw [stamps_F]
    exact sortedSet_ok (by have := stamps_len T; omega)
  · have l2 := setI_len (stamps T)
    have l1 := stamps_len T
    refine p_ret (ok_compM (L := byStV T) (m := D.int) (h := stRow T) (by simp) (by unfold byStV; omega) fun v hv => ?_)
    have st := stamped_ok (T := T) (by omega) v v
    simp [st, stRow]
theorem depth_ok {T : List Nd} (h : Tr T) {n : Int} (hn : n ∈ nums T) : M.m_depth_of [encT T, .int n] = .ok (.int (path T n).length) := by
  have p := path_of_ok h n
  rw [if_pos hn] at p
  refine runD_rt rfl ?_
  show Rt _ (M.b_depth_of [.bor (encT T), .sh (.int n)])
  unfold M.b_depth_of
  exact p_ret (by simp [p, strD])
theorem depth_er {T : List Nd} (h : Tr T) {n : Int} (hn : n ∉ nums T) : M.m_depth_of [encT T, .int n] = .err 1 := by
  have p := path_of_ok h n
  rw [if_neg hn] at p
  refine runD_er (e := [.bor (encT T), .sh (.int n)]) rfl ?_
  show M.b_depth_of [.bor (encT T), .sh (.int n)] = _
  unfold M.b_depth_of
  simp [p]
/-- by their names -/
def srtNm (T : List Nd) : List Nd := T.mergeSort fun a b => D.le (.str a.nm) (.str b.nm)
def childV (T : List Nd) (n : Int) : List Nd := (srtNm T).filter fun x => decide (x.p = n)
theorem srtNm_perm (T : List Nd) : (srtNm T).Perm T := List.mergeSort_perm _ _
theorem sortedAt_nm {T : List Nd} (h : Tr T) : D.sortedAt 2 (encT T) = .ok (.lst ((srtNm T).map Nd.enc)) := by
  have h1 : (T.map Nd.enc).all (hasAt 2) = true := by
    rw [List.all_eq_true]
    intro d hd
    obtain ⟨x, _, rfl⟩ := List.mem_map.mp hd
    rfl
  have h2 : keysOk ((T.map Nd.enc).map (keyAt 2)) = true := by
    unfold keysOk
    simp only [Bool.or_eq_true]
    left; right
    rw [List.all_eq_true]
    intro d hd
    obtain ⟨e, he, rfl⟩ := List.mem_map.mp hd
    obtain ⟨x, hx, rfl⟩ := List.mem_map.mp he
    have := nm_ok h.toWh hx
    unfold okNm at this
    show (keyOk (.str x.nm) == 2) = true
    simp [keyOk, this]
  have h3 : (T.map Nd.enc).length ≤ szl := by rw [List.length_map]; exact Nat.le_of_lt (small_szl (by have := h.len; omega))
  unfold D.sortedAt encT
  simp only [h1, h2, h3, decide_true, Bool.and_self, if_true]
  unfold sortAt srtNm
  rw [List.map_mergeSort (f := Nd.enc) (r := fun a b => D.le (.str a.nm) (.str b.nm)) (s := fun a b => D.le (keyAt 2 a) (keyAt 2 b)) fun a _ b _ => rfl]
theorem children_ok {T : List Nd} (h : Tr T) (n : Int) : M.m_children [encT T, .int n] = match parE T n with | none => .ok (.lst ((childV T n).map fun x => D.int x.n)) | some c => .err c := by
  have lf := look_folder_ok h n
  have hl := h.len
  cases q : parE T n with
  | some c =>
    rw [q] at lf
    refine runD_er (e := [.bor (encT T), .bor (.int n), .un]) rfl ?_
    show M.b_children [.bor (encT T), .bor (.int n), .un] = _
    unfold M.b_children
    exact seq_er (by simp [lf])
  | none =>
    rw [q] at lf
    refine runD_rt rfl ?_
    show Rt _ (M.b_children [.bor (encT T), .bor (.int n), .un])
    unfold M.b_children
    refine p_drop (by (simp [lf] <;> repeat' (first | apply And.intro | rfl))) ?_
    refine p_ret (ok_comp (L := srtNm T) (m := Nd.enc) (h := fun x => D.int x.n) (fun x => decide (x.p = n)) (ok_itL (ok_e1 (x := encT T) (by simp) (sortedAt_nm h))) (by rw [(srtNm_perm T).length_eq]; omega) fun x hx => ?_)
    by_cases k : x.p = n <;> simp [k]
theorem le_anti_str {a b : Nm} (h1 : D.le (.str a) (.str b) = true) (h2 : D.le (.str b) (.str a) = true) : a = b := by
  unfold D.le at h1 h2
  simp only [Bool.not_eq_true'] at h1 h2
  unfold D.lt at h1 h2
  have := lexI_eq _ _ h2 h1
  simp only [D.toks, List.cons.injEq, true_and] at this
  have dif := strT_dif a b
  refine Classical.byContradiction fun q => ?_
  have := (dif q).ne [] []
  simp only [List.append_nil] at this
  contradiction
theorem sortD_str (l : List Nm) (m : List Nm) (p : m.Perm l) (pw : m.Pairwise fun a b => D.le (.str a) (.str b) = true) : sortD (l.map D.str) = m.map D.str := by
  have e := List.map_mergeSort (r := fun a b => D.le (.str a) (.str b)) (s := D.le) (f := D.str) (l := l) fun a _ b _ => rfl
  unfold sortD
  rw [← e]
  congr 1
  refine List.Perm.eq_of_pairwise (le := fun a b => D.le (.str a) (.str b) = true) (fun a b _ _ h1 h2 => le_anti_str h1 h2) ?_ pw ((List.mergeSort_perm _ _).trans p.symm)
  exact List.pairwise_mergeSort (le := fun a b : Nm => D.le (.str a) (.str b)) (fun a b c h g => le_trans (.str a) (.str b) (.str c) h g) (fun a b => le_total (.str a) (.str b)) _
theorem srtNm_pw (T : List Nd) : (srtNm T).Pairwise fun a b => D.le (.str a.nm) (.str b.nm) = true :=
  List.pairwise_mergeSort (le := fun a b : Nd => D.le (.str a.nm) (.str b.nm)) (fun a b c h g => le_trans (.str a.nm) (.str b.nm) (.str c.nm) h g) (fun a b => le_total (.str a.nm) (.str b.nm)) _
theorem sorted_child {T : List Nd} (n : Int) : sortD ((T.filter fun x => decide (x.p = n)).map fun x => D.str x.nm) = (childV T n).map fun x => D.str x.nm := by
  have := sortD_str ((T.filter fun x => decide (x.p = n)).map (·.nm)) ((childV T n).map (·.nm)) (((srtNm_perm T).filter _).map _) (by
    rw [List.pairwise_map]
    exact (srtNm_pw T).sublist List.filter_sublist)
  rw [List.map_map, List.map_map] at this
  exact this
theorem sortI_eq {l m : List Int} (p : l.Perm m) : sortI l = sortI m := by
  have pl := List.pairwise_mergeSort (le := fun a b : Int => decide (a ≤ b)) (fun a b c h g => by simp at *; omega) (fun a b => by simp; omega) l
  have pm := List.pairwise_mergeSort (le := fun a b : Int => decide (a ≤ b)) (fun a b c h g => by simp at *; omega) (fun a b => by simp; omega) m
  refine List.Perm.eq_of_pairwise (le := fun a b => decide (a ≤ b) = true) (fun a b _ _ h1 h2 => by simp at h1 h2; omega) pl pm ?_
  exact ((sortI_perm l).trans p).trans (sortI_perm m).symm
theorem mem_childV {T : List Nd} {n : Int} {x : Nd} : x ∈ childV T n ↔ x ∈ T ∧ x.p = n := by
  unfold childV
  rw [List.mem_filter, (srtNm_perm T).mem_iff]
  simp
theorem child_below {T : List Nd} (h : Wh T) {n : Int} {x : Nd} (hc : x ∈ childV T n) : x ∈ belowV T n := by
  obtain ⟨hx, hp⟩ := mem_childV.mp hc
  subst hp
  have u := under_par h hx x.p
  refine List.mem_filter.mpr ⟨hx, ?_⟩
  have ne : x.n ≠ x.p := fun q => by
    have w := way_par h hx
    have nd := (way_num h (.inr (mem_nums hx))).nodup
    rw [w] at nd
    simp only [List.map_cons, List.nodup_cons] at nd
    have z : x.p ≠ 0 := by rw [← q]; exact h.pos x hx
    obtain ⟨y, hy, e, _⟩ := (par_in h hx).resolve_left z
    have w2 := way_par h hy
    rw [e] at w2
    rw [w2] at nd
    simp only [List.map_cons, List.mem_cons, not_or] at nd
    omega
  have us : under T x.p x.p = true := by
    rcases par_in h hx with z | ⟨y, hy, e, _⟩
    · simp [under, z]
    · refine under_iff.mpr (.inr ?_)
      have w2 := way_par h hy
      rw [← e, w2]
      simp
  rw [us] at u
  simp [ne, u]
/-! ### first_of_kind -/
def headD : List Int → D
  | [] => .non
  | n :: _ => .int n
theorem head_ok {l : List Int} (h : l.length ≤ 1000) : (D.add (.lst (l.map D.int)) (.lst [.non])).bind (fun x => D.idx x (.int 0)) = .ok (headD l) := by
  rw [add_lst (by simp; omega)]
  cases l <;> simp [headD]
def isFol (T : List Nd) (n : Int) : Bool := match look T n with
  | some x => x.st.isNone
  | none => false
def folW (T : List Nd) : List Int := ((walkV T).filter fun a => isFol T a.2).map (·.2)
def filW (T : List Nd) : List Int := ((walkV T).filter fun a => !isFol T a.2).map (·.2)
theorem walk_len (T : List Nd) : (walkV T).length = T.length := by
  unfold walkV; rw [(sortP_perm _).length_eq]; simp [pathL]
theorem walk_row {T : List Nd} (h : Tr T) {a : PN} (ha : a ∈ walkV T) : ∃ x ∈ T, a = (path T x.n, x.n) ∧ D.idx (.dct false (bookOf T)) (.int a.2) = .ok x.row ∧ isFol T a.2 = x.st.isNone := by
  obtain ⟨x, hx, rfl⟩ := mem_walkV.mp ha
  exact ⟨x, hx, rfl, idx_row2 h hx, by simp [isFol, look_of h.nd hx]⟩
theorem first_ok {T : List Nd} (h : Tr T) : M.m_first_of_kind [encT T] = .ok (.tup [headD (folW T), headD (filW T)]) := by
  have bk := book_ok h.nd h.len
  have wk := walked_ok h
  have wl := walk_len T
  have hl := h.len
  refine runD_rt rfl ?_
  show Rt _ (M.b_first_of_kind [.bor (encT T), .un, .un, .un, .un, .un])
  unfold M.b_first_of_kind
  refine p_set (by (simp [bk] <;> repeat' (first | apply And.intro | rfl))) ?_
  refine p_own (d := .lst ((folW T).map D.int)) ?_ ?_
  · unfold folW; rw [List.map_map]
    refine ok_comp (L := walkV T) (m := encP) (fun a => isFol T a.2) (by simp [wk]) (by omega) fun a ha => ?_
    obtain ⟨x, hx, rfl, e, f⟩ := walk_row h ha
    cases k : x.st <;> simp [encP, e, f, k] at e f ⊢ <;> simp [e, k]
  refine p_frz rfl ?_
  refine p_own (d := .lst ((filW T).map D.int)) ?_ ?_
  · unfold filW; rw [List.map_map]
    refine ok_comp (L := walkV T) (m := encP) (fun a => !isFol T a.2) (by simp [wk]) (by omega) fun a ha => ?_
    obtain ⟨x, hx, rfl, e, f⟩ := walk_row h ha
    cases k : x.st <;> simp [encP, e, f, k] at e f ⊢ <;> simp [e, k]
  refine p_frz rfl ?_
  have l1 : (folW T).length ≤ 1000 := by unfold folW; rw [List.length_map]; have := filt_len (fun a : PN => isFol T a.2) (walkV T); omega
  have l2 : (filW T).length ≤ 1000 := by unfold filW; rw [List.length_map]; have := filt_len (fun a : PN => !isFol T a.2) (walkV T); omega
  have h1 := head_ok l1
  have h2 := head_ok l2
  refine p_ret (ok_tup2 (x := headD (folW T)) (y := headD (filW T)) ?_ ?_)
  · simpa [- ev_idxL] using h1
  · simpa [- ev_idxL] using h2
end Tw

set_option autoImplicit false
set_option linter.all false
set_option maxRecDepth 4000
/-! Tw, plain: trees numbered anew. -/
namespace Tw
theorem any_congr' {α : Type} {p q : α → Bool} : ∀ {l : List α}, (∀ x ∈ l, p x = q x) → l.any p = l.any q
  | [], _ => rfl
  | x :: l, h => by rw [List.any_cons, List.any_cons, h x List.mem_cons_self, any_congr' fun y hy => h y (List.mem_cons_of_mem _ hy)]
theorem sortN_eq {L M : List Nd} (nd : (nums L).Nodup) (p : L.Perm M) : sortN L = sortN M := by
  refine List.Perm.eq_of_pairwise (le := fun a b => a.n ≤ b.n) (fun a b ha hb h1 h2 => ?_) (sortN_pw L) (sortN_pw M) (((sortN_perm L).trans p).trans (sortN_perm M).symm)
  have ha := (sortN_perm L).mem_iff.mp ha
  have hb := p.mem_iff.mpr ((sortN_perm M).mem_iff.mp hb)
  exact nodup_inj nd ha hb (by omega)
/-- f numbers T's nodes anew -/
structure Ren (f : Int → Int) (T : List Nd) : Prop where
  z : f 0 = 0
  pos : ∀ x ∈ T, 1 ≤ f x.n
  inj : ∀ x ∈ T, ∀ y ∈ T, f x.n = f y.n → x.n = y.n
def Nd.re (f : Int → Int) (x : Nd) : Nd := ⟨f x.n, f x.p, x.nm, x.st⟩
def renL (f : Int → Int) (T : List Nd) : List Nd := T.map (Nd.re f)
def reT (f : Int → Int) (T : List Nd) : List Nd := sortN (renL f T)
theorem mem_num {T : List Nd} {n : Int} (h : n ∈ nums T) : ∃ x ∈ T, x.n = n := by
  obtain ⟨x, hx, e⟩ := List.mem_map.mp h; exact ⟨x, hx, e⟩
theorem Ren.inj0 {f : Int → Int} {T : List Nd} (r : Ren f T) {a b : Int} (ha : a = 0 ∨ a ∈ nums T) (hb : b = 0 ∨ b ∈ nums T) (e : f a = f b) : a = b := by
  rcases ha with rfl | ha
  · rcases hb with rfl | hb
    · rfl
    · obtain ⟨y, hy, rfl⟩ := mem_num hb
      have := r.pos y hy
      rw [r.z] at e; omega
  · obtain ⟨x, hx, rfl⟩ := mem_num ha
    rcases hb with rfl | hb
    · have := r.pos x hx
      rw [r.z] at e; omega
    · obtain ⟨y, hy, rfl⟩ := mem_num hb
      exact r.inj x hx y hy e
theorem par0 {T : List Nd} (h : Wh T) {x : Nd} (hx : x ∈ T) : x.p = 0 ∨ x.p ∈ nums T := by
  rcases par_in h hx with z | ⟨y, hy, e, _⟩
  · exact .inl z
  · exact .inr (e ▸ mem_nums hy)
section
variable {f : Int → Int} {T : List Nd}
theorem ren_nd (h : (nums T).Nodup) (r : Ren f T) : (nums (renL f T)).Nodup := by
  unfold nums renL
  rw [List.map_map]
  have nd := List.pairwise_map.mp h
  refine List.pairwise_map.mpr (List.Pairwise.imp_of_mem (fun {a b} ha hb hne e => hne (r.inj a ha b hb e)) nd)
theorem ren_look (h : (nums T).Nodup) (r : Ren f T) {x : Nd} (hx : x ∈ T) : look (renL f T) (f x.n) = some (x.re f) :=
  (look_at (ren_nd h r)).mpr ⟨List.mem_map.mpr ⟨x, hx, rfl⟩, rfl⟩
theorem ren_up (h : (nums T).Nodup) (r : Ren f T) {n : Int} {l : List Nd} (u : Upw T n l) : Upw (renL f T) (f n) (l.map (Nd.re f)) := by
  induction u with
  | top => rw [r.z]; exact .top
  | @step n x l ne e _ ih =>
    obtain ⟨hx, rfl⟩ := look_some e
    refine .step ?_ (ren_look h r hx) ih
    have := r.pos x hx; omega
theorem ren_good (h : Wh T) (r : Ren f T) {x : Nd} (hx : x ∈ T) : (x.re f).good = true := by
  have g := h.good x hx
  refine Nd.good_mk (r.pos x hx) ?_ (Nd.good_nm g) (Nd.good_st g)
  rcases par_in h hx with z | ⟨y, hy, e, _⟩
  · rw [z, r.z]; exact Int.le_refl 0
  · rw [← e]; have := r.pos y hy; omega
theorem Wh.ren (h : Wh T) (r : Ren f T) : Wh (renL f T) where
  good := fun y hy => by obtain ⟨x, hx, rfl⟩ := List.mem_map.mp hy; exact ren_good h r hx
  nd := ren_nd h.nd r
  sp := by
    unfold spots renL
    rw [List.map_map]
    have sp := List.pairwise_map.mp h.sp
    refine List.pairwise_map.mpr (List.Pairwise.imp_of_mem (fun {a b} ha hb hne e => hne ?_) sp)
    have e1 : f a.p = f b.p := congrArg Prod.fst e
    have e2 : a.nm = b.nm := congrArg Prod.snd e
    rw [r.inj0 (par0 h ha) (par0 h hb) e1, e2]
  up := fun y hy => by
    obtain ⟨x, hx, rfl⟩ := List.mem_map.mp hy
    obtain ⟨l, u, q⟩ := h.up x hx
    refine ⟨l.map (Nd.re f), ren_up h.nd r u, fun z hz => ?_⟩
    rw [← List.map_tail] at hz
    obtain ⟨w, hw, rfl⟩ := List.mem_map.mp hz
    exact q w hw
theorem ren_way (h : Wh T) (r : Ren f T) {n : Int} (hn : n = 0 ∨ n ∈ nums T) : way (renL f T) (f n) = (way T n).map (Nd.re f) := (ren_up h.nd r (way_num h hn)).way
theorem reT_perm (f : Int → Int) (T : List Nd) : (reT f T).Perm (renL f T) := sortN_perm _
theorem reT_len (f : Int → Int) (T : List Nd) : (reT f T).length = T.length := by rw [(reT_perm f T).length_eq]; simp [renL]
theorem Tr.re (h : Tr T) (r : Ren f T) : Tr (reT f T) := (h.toWh.ren r).sort (by simp [renL]; exact h.len)
theorem mem_re {y : Nd} : y ∈ reT f T ↔ ∃ x ∈ T, y = x.re f := by
  rw [(reT_perm f T).mem_iff]
  unfold renL
  rw [List.mem_map]
  exact ⟨fun ⟨x, h, e⟩ => ⟨x, h, e.symm⟩, fun ⟨x, h, e⟩ => ⟨x, h, e.symm⟩⟩
theorem re_way (h : Tr T) (r : Ren f T) {n : Int} (hn : n = 0 ∨ n ∈ nums T) : way (reT f T) (f n) = (way T n).map (Nd.re f) := by
  have w := h.toWh.ren r
  have u := ren_up h.nd r (way_num h.toWh hn)
  exact (up_look (fun n x e => by rw [look_perm w.nd (reT_perm f T).symm]; exact e) u).way
theorem re_look (h : Tr T) (r : Ren f T) {x : Nd} (hx : x ∈ T) : look (reT f T) (f x.n) = some (x.re f) := by
  rw [look_perm (ren_nd h.nd r) (reT_perm f T).symm]; exact ren_look h.nd r hx
theorem re_path (h : Tr T) (r : Ren f T) {n : Int} (hn : n = 0 ∨ n ∈ nums T) : path (reT f T) (f n) = path T n := by
  unfold path
  rw [re_way h r hn, List.map_map]; rfl
theorem re_under (h : Tr T) (r : Ren f T) {n g : Int} (hn : n = 0 ∨ n ∈ nums T) (hg : g = 0 ∨ g ∈ nums T) : under (reT f T) (f n) (f g) = under T n g := by
  unfold under
  rw [re_way h r hn, List.any_map]
  have z : decide (f g = 0) = decide (g = 0) := by
    rw [decide_eq_decide]
    exact ⟨fun e => r.inj0 hg (.inl rfl) (by rw [e, r.z]), fun e => by rw [e, r.z]⟩
  rw [z]
  congr 1
  refine any_congr' fun x hx => ?_
  have hx := (way_num h.toWh hn).mem x hx
  show decide (f x.n = f g) = decide (x.n = g)
  rw [decide_eq_decide]
  exact ⟨fun e => r.inj0 (.inr (mem_nums hx)) hg e, fun e => by rw [e]⟩
/-! ### the walk -/
theorem sortP_pw (L : List PN) : (sortP L).Pairwise fun a b => D.le (encP a) (encP b) = true :=
  List.pairwise_mergeSort (le := fun a b : PN => D.le (encP a) (encP b)) (fun a b c h g => le_trans _ _ _ h g) (fun a b => le_total _ _) _
theorem le_anti {x y : D} {n m : Nat} (fx : D.flat n x = true) (fy : D.flat m y = true) (h1 : D.le x y = true) (h2 : D.le y x = true) : D.eqv x y = true := by
  unfold D.le at h1 h2
  simp only [Bool.not_eq_true'] at h1 h2
  unfold D.lt at h1 h2
  have e := lexI_eq _ _ h2 h1
  cases q : D.eqv x y with
  | true => rfl
  | false =>
    have := ((toks_eqv x y n m fx fy).2 q).ne [] []
    simp only [List.append_nil] at this
    exact absurd e this
theorem sortP_pair {L M : List PN} (ok : ∀ a ∈ M, okP a.1 = true) (pl : L.Pairwise fun a b => D.le (encP a) (encP b) = true) (pm : M.Pairwise fun a b => D.le (encP a) (encP b) = true) (p : L.Perm M) : L = M := by
  refine List.Perm.eq_of_pairwise (le := fun a b => D.le (encP a) (encP b) = true) (fun a b ha hb h1 h2 => ?_) pl pm p
  have e := le_anti (flat_encP (ok a (p.mem_iff.mp ha)) 38) (flat_encP (ok b hb) 38) h1 h2
  simp only [encP, D.eqv, D.eqvs, eqv_strD, Bool.and_true, Bool.and_eq_true, decide_eq_true_eq] at e
  exact Prod.ext e.1 (by simpa using e.2)
theorem walkV_inj {T : List Nd} (h : Wh T) {a b : PN} (ha : a ∈ walkV T) (hb : b ∈ walkV T) (e : a.1 = b.1) : a = b := by
  obtain ⟨x, hx, rfl⟩ := mem_walkV.mp ha
  obtain ⟨y, hy, rfl⟩ := mem_walkV.mp hb
  rw [path_inj' h hx hy e]
theorem walkV_eq {T U : List Nd} {g : PN → PN} (hT : Wh T) (hg : ∀ a ∈ walkV T, (g a).1 = a.1) (p : (walkV U).Perm ((walkV T).map g)) : walkV U = (walkV T).map g := by
  refine sortP_pair ?_ (sortP_pw _) ?_ p
  · intro b hb
    obtain ⟨a, ha, rfl⟩ := List.mem_map.mp hb
    rw [hg a ha]
    exact walkV_ok hT a ha
  · refine List.pairwise_map.mpr (List.Pairwise.imp_of_mem (fun {a b} ha hb le => ?_) (sortP_pw (pathL T)))
    have oa := walkV_ok hT a ha
    have ob := walkV_ok hT b hb
    rw [le_encP oa ob (fun e => walkV_inj hT ha hb e)] at le
    rw [le_encP (by rw [hg a ha]; exact oa) (by rw [hg b hb]; exact ob) (fun e => by
      rw [hg a ha, hg b hb] at e
      rw [walkV_inj hT ha hb e]), hg a ha, hg b hb]
    exact le
theorem re_walk (h : Tr T) (r : Ren f T) : walkV (reT f T) = (walkV T).map fun a => (a.1, f a.2) := by
  refine walkV_eq h.toWh (fun _ _ => rfl) ?_
  unfold walkV
  refine ((sortP_perm _).trans ?_).trans ((sortP_perm (pathL T)).map _).symm
  unfold pathL
  rw [List.map_map]
  refine ((reT_perm f T).map _).trans ?_
  unfold renL
  rw [List.map_map]
  refine List.Perm.of_eq (List.map_congr_left fun x hx => ?_)
  show (path (reT f T) (f x.n), f x.n) = _
  rw [re_path h r (.inr (mem_nums hx))]; rfl
theorem re_fol (h : Tr T) (r : Ren f T) {n : Int} (hn : n ∈ nums T) : isFol (reT f T) (f n) = isFol T n := by
  obtain ⟨x, hx, rfl⟩ := mem_num hn
  unfold isFol
  rw [re_look h r hx, look_of h.nd hx]; rfl
/-! ### twice -/
theorem re_re {g : Int → Int} (hr : (nums (renL (g ∘ f) T)).Nodup) : reT g (reT f T) = reT (g ∘ f) T := by
  unfold reT
  have p : (renL g (sortN (renL f T))).Perm (renL (g ∘ f) T) := by
    refine ((sortN_perm _).map _).trans (List.Perm.of_eq ?_)
    unfold renL; rw [List.map_map]; rfl
  exact sortN_eq ((p.map (·.n)).nodup_iff.mpr hr) p
theorem re_id (h : Tr T) (e : ∀ x ∈ T, f x.n = x.n) (z : f 0 = 0) : reT f T = T := by
  unfold reT renL
  have : T.map (Nd.re f) = T := by
    conv => rhs; rw [← List.map_id T]
    refine List.map_congr_left fun x hx => ?_
    have ep : f x.p = x.p := by
      rcases par_in h.toWh hx with q | ⟨y, hy, q, _⟩
      · rw [q, z]
      · rw [← q, e y hy]
    unfold Nd.re
    rw [e x hx, ep]; rfl
  rw [this, sortN_id h.pw]
end
end Tw

set_option autoImplicit false
set_option linter.all false
set_option maxRecDepth 4000
/-! Tw, plain: what is known again. -/
namespace Tw
theorem p_retO {e : Env} {i : Nat} {d : D} (h : e[i]? = some (.own d)) : Rt d (sRetO i e) := by
  show sRetO i e = .rt d
  rw [ev_retO, h]
/-! ### pairs of numbers -/
abbrev PP := Int × Int
def encPP (a : PP) : D := .tup [.int a.1, .int a.2]
theorem eqv_PP (a b : PP) : D.eqv (encPP a) (encPP b) = decide (a = b) := by
  obtain ⟨a1, a2⟩ := a
  obtain ⟨b1, b2⟩ := b
  simp only [encPP, D.eqv, D.eqvs, Bool.and_true, Prod.mk.injEq, Bool.decide_and]
  rfl
theorem flat_PP (a : PP) : D.flat 40 (encPP a) = true := by simp [encPP, D.flat, D.flats]
theorem pl_PP (a : PP) (n : Nat) : D.pl (n + 1) (encPP a) = true := by simp [encPP, D.pl, D.pls]
theorem ne_PP (a b : PP) : D.ne (encPP a) (encPP b) = .ok (.bl (!decide (a = b))) := by
  unfold D.ne
  rw [if_pos (by rw [D.good, D.good, pl_PP a 39, pl_PP b 39]; rfl), eqv_PP]
theorem eqvs_PP : ∀ l m : List PP, D.eqvs (l.map encPP) (m.map encPP) = decide (l = m)
  | [], [] => by simp [D.eqvs]
  | [], _ :: _ => by simp [D.eqvs]
  | _ :: _, [] => by simp [D.eqvs]
  | a :: l, b :: m => by simp only [List.map_cons, D.eqvs, eqvs_PP l m, eqv_PP, List.cons.injEq, Bool.decide_and]
theorem pl_PPs (l : List PP) (n : Nat) : D.pl (n + 2) (.lst (l.map encPP)) = true := pl_lst1 fun x hx => by
  obtain ⟨a, _, rfl⟩ := List.mem_map.mp hx
  exact pl_PP a n
theorem ne_PPs (l m : List PP) : D.ne (.lst (l.map encPP)) (.lst (m.map encPP)) = .ok (.bl (!decide (l = m))) := by
  unfold D.ne
  rw [if_pos (by rw [D.good, D.good, pl_PPs l 38, pl_PPs m 38]; rfl)]
  simp only [D.eqv, eqvs_PP]
def sortPP (l : List PP) : List PP := l.mergeSort fun a b => D.le (encPP a) (encPP b)
theorem sortPP_perm (l : List PP) : (sortPP l).Perm l := List.mergeSort_perm l _
theorem sortable_PP (l : List PP) : sortable (l.map encPP) = true := by
  unfold sortable
  rw [Bool.and_eq_true]
  refine ⟨?_, ?_⟩
  · rw [List.all_eq_true]
    intro x hx
    obtain ⟨a, _, rfl⟩ := List.mem_map.mp hx
    exact flat_PP a
  · rw [Bool.or_eq_true]
    right
    rw [Bool.and_eq_true, List.all_eq_true, List.all_eq_true]
    refine ⟨fun x hx => ?_, fun x hx => ?_⟩
    · obtain ⟨a, _, rfl⟩ := List.mem_map.mp hx
      rw [Bool.and_eq_true, List.all_eq_true]
      refine ⟨rfl, fun y hy => ?_⟩
      obtain ⟨b, _, rfl⟩ := List.mem_map.mp hy
      rfl
    · obtain ⟨a, _, rfl⟩ := List.mem_map.mp hx
      rw [List.all_eq_true]
      intro y hy
      obtain ⟨b, _, rfl⟩ := List.mem_map.mp hy
      show D.cmps [.int a.1, .int a.2] [.int b.1, .int b.2] = true
      unfold D.cmps
      split
      · unfold D.cmps
        split
        · simp [D.cmps]
        · simp [D.alk]
      · simp [D.alk]
theorem sorted_PP {l : List PP} (hl : l.length ≤ 1000) : D.sorted (.lst (l.map encPP)) = .ok (.lst ((sortPP l).map encPP)) := by
  rw [sorted_eq (sortable_PP l) (by simpa using hl)]
  unfold sortD sortPP
  rw [List.map_mergeSort (r := fun a b => D.le (encPP a) (encPP b)) (s := D.le) (f := encPP) (l := l) fun _ _ _ _ => rfl]
theorem sortPP_pw (l : List PP) : (sortPP l).Pairwise fun a b => D.le (encPP a) (encPP b) = true :=
  List.pairwise_mergeSort (le := fun a b : PP => D.le (encPP a) (encPP b)) (fun a b c h g => le_trans _ _ _ h g) (fun a b => le_total _ _) _
theorem sortPP_eq {l m : List PP} (p : l.Perm m) : sortPP l = sortPP m := by
  refine List.Perm.eq_of_pairwise (le := fun a b => D.le (encPP a) (encPP b) = true) (fun a b _ _ h1 h2 => ?_) (sortPP_pw l) (sortPP_pw m) (((sortPP_perm l).trans p).trans (sortPP_perm m).symm)
  have e := le_anti (flat_PP a) (flat_PP b) h1 h2
  rw [eqv_PP] at e
  exact of_decide_eq_true e
/-! ### by paths -/
def wFind (T : List Nd) (p : List Nm) : Option Int := ((walkV T).find? fun a => decide (a.1 = p)).map (·.2)
def byP1 (O N : List Nd) (a : PN) : Option PP := match wFind N a.1 with
  | some m => if isFol O a.2 = isFol N m then some (a.2, m) else none
  | none => none
def byP (O N : List Nd) : List PP := (walkV O).filterMap (byP1 O N)
theorem kind_ok {T : List Nd} (h : Tr T) {n : Int} (hn : n ∈ nums T) : M.m_kind_of [.dct false (bookOf T), .int n] = .ok (.bl (isFol T n)) := by
  obtain ⟨x, hx, rfl⟩ := mem_num hn
  have ix := idx_row2 h hx
  refine run_rt rfl ?_
  show M.b_kind_of [.bor (.dct false (bookOf T)), .bor (.int x.n)] = _
  have e : isFol T x.n = x.st.isNone := by simp [isFol, look_of h.nd hx]
  rw [e]
  cases q : x.st <;> simp [M.b_kind_of, ix, q]
theorem wFind_mem {T : List Nd} {p : List Nm} {m : Int} (h : wFind T p = some m) : ∃ x ∈ T, x.n = m ∧ path T m = p := by
  unfold wFind at h
  cases e : (walkV T).find? fun a => decide (a.1 = p) with
  | none => rw [e] at h; cases h
  | some a =>
    rw [e] at h
    cases h
    obtain ⟨x, hx, rfl⟩ := mem_walkV.mp (List.mem_of_find?_eq_some e)
    exact ⟨x, hx, rfl, by simpa using List.find?_some e⟩
theorem isIn_K (L : List PN) (p : List Nm) : D.isIn (strD p) (.dct true (encK L)) = .ok (.bl (L.find? fun a => decide (a.1 = p)).isSome) := by
  have : D.has (strD p) (.dct true (encK L)) = some (L.find? fun a => decide (a.1 = p)).isSome := by
    show (match D.kf true (strD p) with | some k => some (khas k (encK L)) | none => none) = _
    rw [kf_strD]
    simp only [khas, kget_P, Option.isSome_map]
  unfold D.isIn
  rw [this]; rfl
theorem walkV_nodup {T : List Nd} (h : Wh T) : ((walkV T).map (·.1)).Nodup := ((sortP_perm (pathL T)).map _).nodup_iff.mpr (pathL_nodup h)
theorem byP_len (O N : List Nd) : (byP O N).length ≤ O.length := by
  have := List.length_filterMap_le (byP1 O N) (walkV O)
  rw [walk_len] at this
  exact this
theorem by_paths_ok {O N : List Nd} (hO : Tr O) (hN : Tr N) : M.m_by_paths [encT O, encT N] = .ok (.lst ((byP O N).map encPP)) := by
  have b1 := book_ok hO.nd hO.len
  have b2 := book_ok hN.nd hN.len
  have w1 := walked_ok hO
  have w2 := walked_ok hN
  have dp := dict_P (walkV_nodup hN.toWh)
  have lO := hO.len
  refine runD_rt rfl ?_
  show Rt _ (M.b_by_paths [.bor (encT O), .bor (encT N), .un, .un, .un, .un, .un, .un])
  unfold M.b_by_paths
  refine p_set (by (simp [b1] <;> repeat' (first | apply And.intro | rfl))) ?_
  refine p_set (by (simp [b2] <;> repeat' (first | apply And.intro | rfl))) ?_
  refine p_set (by (simp [w2, dp] <;> repeat' (first | apply And.intro | rfl))) ?_
  refine p_own (d := .lst []) (by (simp [] <;> repeat' (first | apply And.intro | rfl))) ?_
  refine p_forP (L := walkV O) (m := encP) (fun pre e => ∃ x6 x7, e = [.bor (encT O), .bor (encT N), .sh (.dct false (bookOf O)), .sh (.dct false (bookOf N)), .sh (.dct true (encK (walkV N))), .own (.lst ((pre.filterMap (byP1 O N)).map encPP)), x6, x7]) (by simp [w1]) ⟨_, _, rfl⟩ ?_ ?_
  · rintro pre a post eq e ⟨x6, x7, rfl⟩
    have ha : a ∈ walkV O := by rw [eq]; simp
    obtain ⟨x, hx, ea⟩ := mem_walkV.mp ha
    have ax : a.2 = x.n := by rw [ea]
    have k1 := kind_ok hO (n := a.2) (by rw [ax]; exact mem_nums hx)
    have ii := isIn_K (walkV N) a.1
    have lp : (pre.filterMap (byP1 O N)).length ≤ pre.length := List.length_filterMap_le _ _
    have lw : pre.length ≤ O.length := by
      have := congrArg List.length eq
      rw [walk_len] at this
      simp at this; omega
    have hz : ((pre.filterMap (byP1 O N)).map encPP).length < szl := small_szl (by rw [List.length_map]; omega)
    refine ⟨_, rfl, ?_⟩
    cases q : (walkV N).find? fun b => decide (b.1 = a.1) with
    | none =>
      rw [q] at ii
      have wf : byP1 O N a = none := by simp [byP1, wFind, q]
      refine p_if_f (by simp [ii]) (p_nil ⟨.sh (strD a.1), .sh (.int a.2), by rw [List.filterMap_append]; simp [wf]⟩)
    | some b =>
      rw [q] at ii
      have ix := idx_P q
      have hb := List.mem_of_find?_eq_some q
      obtain ⟨y, hy, eb⟩ := mem_walkV.mp hb
      have k2 := kind_ok hN (n := b.2) (by rw [eb]; exact mem_nums hy)
      have wf : byP1 O N a = if isFol O a.2 = isFol N b.2 then some (a.2, b.2) else none := by simp [byP1, wFind, q]
      have ek : D.eq (.bl (isFol O a.2)) (.bl (isFol N b.2)) = .ok (.bl (decide (isFol O a.2 = isFol N b.2))) := by
        cases isFol O a.2 <;> cases isFol N b.2 <;> rfl
      by_cases g : isFol O a.2 = isFol N b.2
      · rw [decide_eq_true g] at ek
        rw [if_pos g] at wf
        refine p_if_t (by simp [ii, k1, ix, k2, ek]) ?_
        refine p_appL (xs := (pre.filterMap (byP1 O N)).map encPP) (d := encPP (a.2, b.2)) rfl (by simp [ix, encPP]) hz ⟨.sh (strD a.1), .sh (.int a.2), by rw [List.filterMap_append]; simp [wf]⟩
      · rw [decide_eq_false g] at ek
        rw [if_neg g] at wf
        refine p_if_f (by simp [ii, k1, ix, k2, ek]) (p_nil ⟨.sh (strD a.1), .sh (.int a.2), by rw [List.filterMap_append]; simp [wf]⟩)
  rintro e ⟨x6, x7, rfl⟩
  exact p_retO rfl
/-! ### the rest -/
def stampOf (T : List Nd) (n : Int) : Int := ((look T n).bind (·.st)).getD 0
def restV (T : List Nd) (S : List Int) : List PP := ((walkV T).filter fun a => !decide (a.2 ∈ S) && !isFol T a.2).map fun a => (a.2, stampOf T a.2)
theorem rest_ok {T : List Nd} (h : Tr T) (S : List Int) : M.m_rest_of [encT T, .lst (S.map D.int)] = .ok (.lst ((restV T S).map encPP)) := by
  have bk := book_ok h.nd h.len
  have wk := walked_ok h
  have wl := walk_len T
  have hl := h.len
  refine runD_rt rfl ?_
  show Rt _ (M.b_rest_of [.bor (encT T), .bor (.lst (S.map D.int)), .un, .un, .un, .un])
  unfold M.b_rest_of
  refine p_set (by (simp [bk] <;> repeat' (first | apply And.intro | rfl))) ?_
  refine p_own (d := .lst (((walkV T).filter fun a => !decide (a.2 ∈ S) && !isFol T a.2).map fun a => D.int a.2)) (ok_comp (L := walkV T) (m := encP) (fun a => !decide (a.2 ∈ S) && !isFol T a.2) (by simp [wk]) (by omega) fun a ha => ?_) ?_
  · obtain ⟨x, hx, rfl⟩ := mem_walkV.mp ha
    have k1 := kind_ok h (mem_nums hx)
    have ni := notIn_ints x.n S
    cases q : isFol T x.n <;> rw [q] at k1 <;> by_cases g : x.n ∈ S <;> simp [encP, ni, k1, g]
  refine p_frz rfl ?_
  have fl := List.length_filter_le (fun a : PN => !decide (a.2 ∈ S) && !isFol T a.2) (walkV T)
  unfold restV
  rw [List.map_map]
  refine p_ret (ok_compM (L := (walkV T).filter fun a => !decide (a.2 ∈ S) && !isFol T a.2) (m := fun a => D.int a.2) (ok_itL rfl) (by omega) fun a ha => ?_)
  obtain ⟨ha, g⟩ := List.mem_filter.mp ha
  obtain ⟨x, hx, rfl, ix, f⟩ := walk_row h ha
  simp only [Bool.and_eq_true, Bool.not_eq_true'] at g
  have g2 : x.st.isNone = false := by rw [← f]; exact g.2
  cases q : x.st with
  | none => rw [q] at g2; cases g2
  | some v =>
    have s : stampOf T x.n = v := by simp [stampOf, look_of h.nd hx, q]
    simp [ix, encPP, q, s, stD]
/-! ### known again -/
def stepK (s : List PP × List PP) (a : PP) : List PP × List PP := match s.2.find? fun q => decide (q.2 = a.2) with
  | some q => (s.1 ++ [(a.1, q.1)], s.2.filter fun r => !decide (r = q))
  | none => s
def knownS (O N : List Nd) : List PP × List PP := (restV O ((byP O N).map (·.1))).foldl stepK (byP O N, restV N ((byP O N).map (·.2)))
def knownU (O N : List Nd) : List PP := (knownS O N).1
theorem rest_len (T : List Nd) (S : List Int) : (restV T S).length ≤ T.length := by
  unfold restV
  rw [List.length_map]
  have := List.length_filter_le (fun a : PN => !decide (a.2 ∈ S) && !isFol T a.2) (walkV T)
  rw [walk_len] at this
  exact this
theorem stepK_len (s : List PP × List PP) (a : PP) : (stepK s a).1.length ≤ s.1.length + 1 ∧ (stepK s a).2.length ≤ s.2.length := by
  unfold stepK
  split
  · exact ⟨by simp, List.length_filter_le _ _⟩
  · exact ⟨by simp, Nat.le_refl _⟩
theorem foldK_len : ∀ (l : List PP) (s : List PP × List PP), (l.foldl stepK s).1.length ≤ s.1.length + l.length ∧ (l.foldl stepK s).2.length ≤ s.2.length
  | [], s => ⟨by simp, by simp⟩
  | a :: l, s => by
    have h1 := stepK_len s a
    have h2 := foldK_len l (stepK s a)
    simp only [List.foldl_cons, List.length_cons]
    omega
theorem known_ok {O N : List Nd} (hO : Tr O) (hN : Tr N) (hl : O.length + N.length ≤ 400) : M.m_known_again [encT O, encT N] = .ok (.lst ((sortPP (knownU O N)).map encPP)) := by
  have bp := by_paths_ok hO hN
  have r1 := rest_ok hN ((byP O N).map (·.2))
  have r2 := rest_ok hO ((byP O N).map (·.1))
  have lb := byP_len O N
  have l1 := rest_len N ((byP O N).map (·.2))
  have l2 := rest_len O ((byP O N).map (·.1))
  refine runD_rt rfl ?_
  show Rt _ (M.b_known_again [.bor (encT O), .bor (encT N), .un, .un, .un, .un, .un, .un])
  unfold M.b_known_again
  refine p_own (d := .lst ((byP O N).map encPP)) (by (simp [bp] <;> repeat' (first | apply And.intro | rfl))) ?_
  have r1' : M.m_rest_of [encT N, .lst ((byP O N).map fun a => D.int a.2)] = .ok (.lst ((restV N ((byP O N).map (·.2))).map encPP)) := by
    rw [List.map_map] at r1; exact r1
  have r2' : M.m_rest_of [encT O, .lst ((byP O N).map fun a => D.int a.1)] = .ok (.lst ((restV O ((byP O N).map (·.1))).map encPP)) := by
    rw [List.map_map] at r2; exact r2
  refine p_set (d := .lst ((restV N ((byP O N).map (·.2))).map encPP)) (ok_call2 rfl (ok_compM (L := byP O N) (m := encPP) (h := fun a => D.int a.2) (ok_itL rfl) (by omega) fun a _ => by simp [encPP]) r1') ?_
  refine p_forP (L := restV O ((byP O N).map (·.1))) (m := encPP) (fun pre e => ∃ s3 x5 x6 x7, e = [.bor (encT O), .bor (encT N), .own (.lst ((pre.foldl stepK (byP O N, restV N ((byP O N).map (·.2)))).1.map encPP)), s3, .un, x5, x6, x7] ∧
    (s3 = .sh (.lst ((pre.foldl stepK (byP O N, restV N ((byP O N).map (·.2)))).2.map encPP)) ∨ s3 = .own (.lst ((pre.foldl stepK (byP O N, restV N ((byP O N).map (·.2)))).2.map encPP)))) (ok_itL (ok_call2 rfl (ok_compM (L := byP O N) (m := encPP) (h := fun a => D.int a.1) (ok_itL rfl) (by omega) fun a _ => by simp [encPP]) r2')) ⟨_, _, _, _, rfl, .inl rfl⟩ ?_ ?_
  · rintro pre a post eq e ⟨s3, x5, x6, x7, rfl, h3⟩
    have lp : pre.length ≤ O.length := by
      have := congrArg List.length eq
      simp at this; omega
    have lk := foldK_len pre (byP O N, restV N ((byP O N).map (·.2)))
    simp only [List.foldl_append, List.foldl_cons, List.foldl_nil]
    generalize pre.foldl stepK (byP O N, restV N ((byP O N).map (·.2))) = s at h3 lk
    obtain ⟨made, left⟩ := s
    simp only at h3 lk ⊢
    have b3 : ∀ {y5 y6 y7 : Slot}, eB 3 [.bor (encT O), .bor (encT N), .own (.lst (made.map encPP)), s3, .un, y5, y6, y7] = .ok (.lst (left.map encPP)) := fun {y5 y6 y7} => by rcases h3 with rfl | rfl <;> rfl
    refine ⟨[.bor (encT O), .bor (encT N), .own (.lst (made.map encPP)), s3, .un, .sh (.int a.1), .sh (.int a.2), x7], rfl, ?_⟩
    refine p_own (d := .lst ((left.filter fun q => decide (q.2 = a.2)).map encPP)) (ok_comp (L := left) (m := encPP) (fun q => decide (q.2 = a.2)) (ok_itL b3) (by omega) fun q _ => ?_) ?_
    · by_cases g : q.2 = a.2 <;> simp [encPP, g]
    refine p_frz (d := .lst ((left.filter fun q => decide (q.2 = a.2)).map encPP)) rfl ?_
    have nn := ne_PPs (left.filter fun q => decide (q.2 = a.2)) []
    have hd := List.head?_filter (p := fun q : PP => decide (q.2 = a.2)) (l := left)
    cases q : left.filter fun q => decide (q.2 = a.2) with
    | nil =>
      rw [q] at nn hd
      have st : stepK (made, left) a = (made, left) := by
        unfold stepK
        simp only [← hd, List.head?_nil]
      rw [st]
      exact p_if_f (ok_te (ok_e2 (x := .lst []) (y := .lst []) rfl rfl nn)) (p_nil ⟨s3, _, _, _, rfl, h3⟩)
    | cons b r =>
      rw [q] at nn hd
      have st : stepK (made, left) a = (made ++ [(a.1, b.1)], left.filter fun r => !decide (r = b)) := by
        unfold stepK
        simp only [← hd, List.head?_cons]
      rw [st]
      refine p_if_t (ok_te (ok_e2 (x := .lst ((b :: r).map encPP)) (y := .lst []) rfl rfl nn)) ?_
      have hz : (made.map encPP).length < szl := small_szl (by rw [List.length_map]; omega)
      refine p_app (xs := made.map encPP) (d := encPP (a.1, b.1)) rfl (by simp [encPP]) hz ?_
      have b3' : ∀ {y2 y5 y6 y7 : Slot}, eB 3 [.bor (encT O), .bor (encT N), y2, s3, .un, y5, y6, y7] = .ok (.lst (left.map encPP)) := fun {y2 y5 y6 y7} => by rcases h3 with rfl | rfl <;> rfl
      refine p_ownL (d := .lst ((left.filter fun r => !decide (r = b)).map encPP)) (ok_comp (L := left) (m := encPP) (fun r => !decide (r = b)) (ok_itL b3') (by omega) fun w _ => ?_) ⟨.own (.lst ((left.filter fun r => !decide (r = b)).map encPP)), .sh (.int a.1), .sh (.int a.2), .sh (.lst ((b :: r).map encPP)), by simp, .inr rfl⟩
      have nw := ne_PP w b
      by_cases g : w = b
      · rw [decide_eq_true g] at nw; simp [nw, g]
        rw [g] at nw; simp [nw]
      · rw [decide_eq_false g] at nw; simp [nw, g]
  rintro e ⟨s3, x5, x6, x7, rfl, _⟩
  have lk := foldK_len (restV O ((byP O N).map (·.1))) (byP O N, restV N ((byP O N).map (·.2)))
  exact p_ret (ok_e1 rfl (sorted_PP (by simp only at lk; omega)))
end Tw

set_option autoImplicit false
set_option linter.all false
set_option maxRecDepth 4000
/-! Tw, plain: numbered as what is known again. -/
namespace Tw
def swapP (a : PP) : PP := (a.2, a.1)
def L0 (O N : List Nd) : List PP := (sortPP (knownU O N)).map swapP
def mostV (O : List Nd) : Int := match nums O with
  | [] => 0
  | a :: r => maxI a r
def stepR (s : List PP × Int) (n : Int) : List PP × Int := if n ∈ s.1.map (·.1) then s else (iput s.1 n (s.2 + 1), s.2 + 1)
def bookR (O N : List Nd) : List PP × Int := ((walkV N).map (·.2)).foldl stepR (iput (L0 O N) 0 0, mostV O)
def gOf (O N : List Nd) (n : Int) : Int := (iget (bookR O N).1 n).getD 0
theorem map_inj {α β : Type} {f : α → β} : ∀ {l : List α}, (l.map f).Nodup → ∀ {x y : α}, x ∈ l → y ∈ l → f x = f y → x = y
  | [], _, _, _, hx, _, _ => by cases hx
  | a :: l, nd, x, y, hx, hy, e => by
    rw [List.map_cons, List.nodup_cons] at nd
    by_cases h1 : x = a
    · by_cases h2 : y = a
      · rw [h1, h2]
      · have hy' : y ∈ l := (List.mem_cons.mp hy).resolve_left h2
        exact (nd.1 (List.mem_map.mpr ⟨y, hy', by rw [← e, h1]⟩)).elim
    · have hx' : x ∈ l := (List.mem_cons.mp hx).resolve_left h1
      by_cases h2 : y = a
      · exact (nd.1 (List.mem_map.mpr ⟨x, hx', by rw [e, h2]⟩)).elim
      · exact map_inj nd.2 hx' ((List.mem_cons.mp hy).resolve_left h2) e
/-! ### what is known again is known once -/
structure KInv (O N : List Nd) (s : List PP × List PP) (todo : List PP) : Prop where
  a : (s.1.map (·.1) ++ todo.map (·.1)).Nodup
  b : (s.1.map (·.2) ++ s.2.map (·.1)).Nodup
  o : ∀ q ∈ s.1, q.1 ∈ nums O ∧ q.2 ∈ nums N
  t : ∀ q ∈ todo, q.1 ∈ nums O
  l : ∀ q ∈ s.2, q.1 ∈ nums N
theorem KInv.step {O N : List Nd} {s : List PP × List PP} {a : PP} {todo : List PP} (h : KInv O N s (a :: todo)) : KInv O N (stepK s a) todo := by
  unfold stepK
  cases e : s.2.find? fun q => decide (q.2 = a.2) with
  | none =>
    exact ⟨h.a.sublist (by simp), h.b, h.o, fun q hq => h.t q (List.mem_cons_of_mem _ hq), h.l⟩
  | some q =>
    have hq := List.mem_of_find?_eq_some e
    refine ⟨by simpa using h.a, ?_, fun r hr => ?_, fun r hr => h.t r (List.mem_cons_of_mem _ hr), fun r hr => h.l r (List.mem_filter.mp hr).1⟩
    · have nb := h.b
      rw [List.nodup_append] at nb ⊢
      obtain ⟨n1, n2, n3⟩ := nb
      simp only [List.map_append, List.map_cons, List.map_nil]
      refine ⟨?_, n2.sublist (List.filter_sublist.map _), ?_⟩
      · rw [List.nodup_append]
        exact ⟨n1, by simp, fun x hx y hy => by
          rw [List.mem_singleton.mp hy]
          exact n3 x hx q.1 (List.mem_map.mpr ⟨q, hq, rfl⟩)⟩
      · intro x hx y hy
        obtain ⟨w, hw, rfl⟩ := List.mem_map.mp hy
        obtain ⟨hw, ne⟩ := List.mem_filter.mp hw
        rcases List.mem_append.mp hx with hx | hx
        · exact n3 x hx w.1 (List.mem_map.mpr ⟨w, hw, rfl⟩)
        · rw [List.mem_singleton.mp hx]
          intro ee
          have : w = q := map_inj n2 hw hq ee.symm
          simp [this] at ne
    · rcases List.mem_append.mp hr with hr | hr
      · exact h.o r hr
      · rw [List.mem_singleton.mp hr]
        exact ⟨h.t a List.mem_cons_self, h.l q hq⟩
theorem KInv.fold {O N : List Nd} : ∀ {todo : List PP} {s : List PP × List PP}, KInv O N s todo → KInv O N (todo.foldl stepK s) []
  | [], _, h => h
  | a :: todo, s, h => KInv.fold (s := stepK s a) h.step
theorem byP_mem {O N : List Nd} {q : PP} (h : q ∈ byP O N) : ∃ a ∈ walkV O, q.1 = a.2 ∧ wFind N a.1 = some q.2 ∧ isFol O a.2 = isFol N q.2 := by
  unfold byP at h
  obtain ⟨a, ha, e⟩ := List.mem_filterMap.mp h
  unfold byP1 at e
  cases w : wFind N a.1 with
  | none => rw [w] at e; cases e
  | some m =>
    rw [w] at e
    simp only at e
    split at e
    · rename_i g
      cases e
      exact ⟨a, ha, rfl, w, g⟩
    · cases e
theorem walk_num {T : List Nd} {a : PN} (h : a ∈ walkV T) : a.2 ∈ nums T := by
  obtain ⟨x, hx, rfl⟩ := mem_walkV.mp h
  exact mem_nums hx
theorem walk_nums {T : List Nd} : ((walkV T).map (·.2)).Perm (nums T) := by
  refine ((sortP_perm (pathL T)).map _).trans (List.Perm.of_eq ?_)
  unfold pathL; rw [List.map_map]; rfl
theorem walk_nd {T : List Nd} (h : Wh T) : ((walkV T).map (·.2)).Nodup := walk_nums.nodup_iff.mpr h.nd
theorem byP_fst {O N : List Nd} : ∀ L : List PN, (L.filterMap (byP1 O N)).map (·.1) = (L.filter fun a => (byP1 O N a).isSome).map (·.2)
  | [] => rfl
  | a :: L => by
    have ih := byP_fst (O := O) (N := N) L
    rw [List.filterMap_cons, List.filter_cons]
    cases e : byP1 O N a with
    | none => simpa using ih
    | some q =>
      have : q.1 = a.2 := by
        unfold byP1 at e
        split at e
        · split at e
          · cases e; rfl
          · cases e
        · cases e
      simp [ih, this]
theorem rest_fst (T : List Nd) (S : List Int) : (restV T S).map (·.1) = ((walkV T).filter fun a => !decide (a.2 ∈ S) && !isFol T a.2).map (·.2) := by
  unfold restV; rw [List.map_map]; rfl
theorem mem_rest {T : List Nd} {S : List Int} {q : PP} (h : q ∈ restV T S) : q.1 ∈ nums T ∧ q.1 ∉ S := by
  unfold restV at h
  obtain ⟨a, ha, rfl⟩ := List.mem_map.mp h
  obtain ⟨ha, g⟩ := List.mem_filter.mp ha
  exact ⟨walk_num ha, by simp at g; exact g.1⟩
theorem known_inv {O N : List Nd} (hO : Wh O) (hN : Wh N) : KInv O N (byP O N, restV N ((byP O N).map (·.2))) (restV O ((byP O N).map (·.1))) := by
  have f1 : ((byP O N).map (·.1)).Nodup := by
    unfold byP
    rw [byP_fst]
    exact (walk_nd hO).sublist (List.filter_sublist.map _)
  refine ⟨?_, ?_, fun q hq => ?_, fun q hq => (mem_rest hq).1, fun q hq => (mem_rest hq).1⟩
  · rw [List.nodup_append]
    refine ⟨f1, ?_, fun x hx y hy e => ?_⟩
    · rw [rest_fst]
      exact (walk_nd hO).sublist (List.filter_sublist.map _)
    · obtain ⟨q, hq, rfl⟩ := List.mem_map.mp hy
      exact (mem_rest hq).2 (e ▸ hx)
  · rw [List.nodup_append]
    refine ⟨?_, ?_, fun x hx y hy e => ?_⟩
    · have p1 := List.pairwise_map.mp f1
      refine List.pairwise_map.mpr (List.Pairwise.imp_of_mem (fun {a b} ha hb hne e => hne ?_) p1)
      obtain ⟨u, hu, e1, w1, _⟩ := byP_mem ha
      obtain ⟨v, hv, e2, w2, _⟩ := byP_mem hb
      obtain ⟨_, _, _, q1⟩ := wFind_mem w1
      obtain ⟨_, _, _, q2⟩ := wFind_mem w2
      rw [e1, e2, walkV_inj hO hu hv (by rw [← q1, ← q2, e])]
    · rw [rest_fst]
      exact (walk_nd hN).sublist (List.filter_sublist.map _)
    · obtain ⟨q, hq, rfl⟩ := List.mem_map.mp hy
      exact (mem_rest hq).2 (e ▸ hx)
  · obtain ⟨a, ha, e1, w, _⟩ := byP_mem hq
    obtain ⟨x, hx, e2, _⟩ := wFind_mem w
    exact ⟨e1 ▸ walk_num ha, e2 ▸ mem_nums hx⟩
structure KOk (O N : List Nd) (K : List PP) : Prop where
  a : (K.map (·.1)).Nodup
  b : (K.map (·.2)).Nodup
  o : ∀ q ∈ K, q.1 ∈ nums O ∧ q.2 ∈ nums N
theorem knownU_ok {O N : List Nd} (hO : Wh O) (hN : Wh N) : KOk O N (knownU O N) := by
  have h := KInv.fold (known_inv hO hN)
  have b := h.b
  rw [List.nodup_append] at b
  have a := h.a
  simp at a
  exact ⟨by simpa [knownU, knownS] using a, b.1, h.o⟩
/-! ### the new numbers -/
theorem maxI_ge : ∀ (l : List Int) (a : Int), a ≤ maxI a l ∧ ∀ y ∈ l, y ≤ maxI a l
  | [], a => ⟨Int.le_refl _, by simp⟩
  | b :: l, a => by
    obtain ⟨h2, h3⟩ := maxI_ge l (if a < b then b else a)
    have e : maxI a (b :: l) = maxI (if a < b then b else a) l := rfl
    rw [e]
    by_cases h : a < b
    · simp only [h, if_true] at h2 h3 ⊢
      exact ⟨by omega, fun y hy => by rcases List.mem_cons.mp hy with rfl | hy; exact h2; exact h3 y hy⟩
    · simp only [h, if_false] at h2 h3 ⊢
      exact ⟨h2, fun y hy => by rcases List.mem_cons.mp hy with rfl | hy; omega; exact h3 y hy⟩
theorem mostV_ge {O : List Nd} {n : Int} (h : n ∈ nums O) : n ≤ mostV O := by
  unfold mostV
  cases e : nums O with
  | nil => rw [e] at h; cases h
  | cons a r =>
    rw [e] at h
    obtain ⟨h1, h2⟩ := maxI_ge r a
    rcases List.mem_cons.mp h with rfl | h
    · exact h1
    · exact h2 n h
theorem mostV_pos {O : List Nd} (h : Wh O) : 0 ≤ mostV O := by
  cases e : O with
  | nil => simp [mostV]
  | cons x r =>
    have hx : x ∈ O := by rw [e]; exact List.mem_cons_self
    have := mostV_ge (mem_nums hx)
    have := Nd.good_n (h.good x hx)
    rw [← e]; omega
structure BInv (N : List Nd) (s : List PP × Int) : Prop where
  k : (s.1.map (·.1)).Nodup
  v : (s.1.map (·.2)).Nodup
  z : (0, 0) ∈ s.1
  p : ∀ q ∈ s.1, (q.1 = 0 ∧ q.2 = 0) ∨ (q.1 ∈ nums N ∧ 1 ≤ q.2 ∧ q.2 ≤ s.2)
  m : 0 ≤ s.2
theorem iputP_new {L : List PP} {n v : Int} (h : n ∉ L.map (·.1)) : iput L n v = L ++ [(n, v)] := by unfold iput; rw [if_neg h]
theorem nodup_add {α : Type} {l : List α} {a : α} (h : l.Nodup) (n : a ∉ l) : (l ++ [a]).Nodup := by
  rw [List.nodup_append]
  exact ⟨h, by simp, fun x hx y hy e => n (by rw [List.mem_singleton.mp hy] at e; exact e ▸ hx)⟩
theorem BInv.step {N : List Nd} {s : List PP × Int} {n : Int} (h : BInv N s) (hn : n ∈ nums N) : BInv N (stepR s n) := by
  unfold stepR
  by_cases q : n ∈ s.1.map (·.1)
  · rw [if_pos q]; exact h
  · rw [if_neg q, iputP_new q]
    refine ⟨?_, ?_, List.mem_append_left _ h.z, fun r hr => ?_, by have := h.m; simp only; omega⟩
    · simp only [List.map_append, List.map_cons, List.map_nil]
      exact nodup_add h.k q
    · simp only [List.map_append, List.map_cons, List.map_nil]
      refine nodup_add h.v fun hm => ?_
      obtain ⟨r, hr, e⟩ := List.mem_map.mp hm
      have := h.m
      rcases h.p r hr with ⟨_, e2⟩ | ⟨_, _, e2⟩ <;> omega
    · rcases List.mem_append.mp hr with hr | hr
      · rcases h.p r hr with e | ⟨e1, e2, e3⟩
        · exact .inl e
        · exact .inr ⟨e1, e2, by simp only; omega⟩
      · rw [List.mem_singleton.mp hr]
        have := h.m
        exact .inr ⟨hn, by simp only; omega, Int.le_refl _⟩
theorem BInv.fold {N : List Nd} : ∀ {ns : List Int} {s : List PP × Int}, BInv N s → (∀ n ∈ ns, n ∈ nums N) → BInv N (ns.foldl stepR s)
  | [], _, h, _ => h
  | n :: ns, s, h, hn => BInv.fold (s := stepR s n) (h.step (hn n List.mem_cons_self)) fun m hm => hn m (List.mem_cons_of_mem _ hm)
theorem stepR_keep {s : List PP × Int} {n : Int} {q : PP} (h : q ∈ s.1) : q ∈ (stepR s n).1 := by
  unfold stepR
  by_cases g : n ∈ s.1.map (·.1)
  · rw [if_pos g]; exact h
  · rw [if_neg g, iputP_new g]; exact List.mem_append_left _ h
theorem foldR_keep : ∀ (ns : List Int) {s : List PP × Int} {q : PP}, q ∈ s.1 → q ∈ (ns.foldl stepR s).1
  | [], _, _, h => h
  | n :: ns, _, _, h => foldR_keep ns (stepR_keep h)
theorem stepR_has (s : List PP × Int) (n : Int) : ∃ v, (n, v) ∈ (stepR s n).1 := by
  unfold stepR
  by_cases g : n ∈ s.1.map (·.1)
  · rw [if_pos g]
    obtain ⟨q, hq, e⟩ := List.mem_map.mp g
    exact ⟨q.2, by rw [← e]; exact hq⟩
  · rw [if_neg g, iputP_new g]; exact ⟨_, List.mem_append_right _ (List.mem_singleton.mpr rfl)⟩
theorem foldR_has : ∀ (ns : List Int) (s : List PP × Int) {n : Int}, n ∈ ns → ∃ v, (n, v) ∈ (ns.foldl stepR s).1
  | m :: ns, s, n, h => by
    rcases List.mem_cons.mp h with rfl | h
    · obtain ⟨v, hv⟩ := stepR_has s n
      exact ⟨v, foldR_keep ns hv⟩
    · exact foldR_has ns (stepR s m) h
theorem L0_mem {O N : List Nd} {q : PP} : q ∈ L0 O N ↔ (q.2, q.1) ∈ knownU O N := by
  unfold L0
  rw [List.mem_map]
  constructor
  · rintro ⟨a, ha, rfl⟩; exact (sortPP_perm _).mem_iff.mp ha
  · intro h; exact ⟨_, (sortPP_perm _).mem_iff.mpr h, rfl⟩
theorem L0_key {O N : List Nd} (h : KOk O N (knownU O N)) : ((L0 O N).map (·.1)).Nodup := by
  unfold L0
  rw [List.map_map]
  exact ((sortPP_perm _).map _).nodup_iff.mpr h.b
theorem L0_val {O N : List Nd} (h : KOk O N (knownU O N)) : ((L0 O N).map (·.2)).Nodup := by
  unfold L0
  rw [List.map_map]
  exact ((sortPP_perm _).map _).nodup_iff.mpr h.a
theorem zero_not {O N : List Nd} (hN : Wh N) (h : KOk O N (knownU O N)) : (0 : Int) ∉ (L0 O N).map (·.1) := fun z => by
  obtain ⟨q, hq, e⟩ := List.mem_map.mp z
  obtain ⟨x, hx, e2⟩ := mem_num (h.o _ (L0_mem.mp hq)).2
  exact hN.pos x hx (by rw [e2]; exact e)
theorem book0 {O N : List Nd} (hO : Wh O) (hN : Wh N) : BInv N (iput (L0 O N) 0 0, mostV O) := by
  have h := knownU_ok hO hN
  have z := zero_not hN h
  have nv : (0 : Int) ∉ (L0 O N).map (·.2) := fun z => by
    obtain ⟨q, hq, e⟩ := List.mem_map.mp z
    obtain ⟨x, hx, e2⟩ := mem_num (h.o _ (L0_mem.mp hq)).1
    exact hO.pos x hx (by rw [e2]; exact e)
  rw [iputP_new z]
  refine ⟨?_, ?_, List.mem_append_right _ (List.mem_singleton.mpr rfl), fun r hr => ?_, mostV_pos hO⟩
  · simp only [List.map_append, List.map_cons, List.map_nil]; exact nodup_add (L0_key h) z
  · simp only [List.map_append, List.map_cons, List.map_nil]; exact nodup_add (L0_val h) nv
  · rcases List.mem_append.mp hr with hr | hr
    · have o := h.o _ (L0_mem.mp hr)
      obtain ⟨x, hx, e⟩ := mem_num o.1
      have g := Nd.good_n (hO.good x hx)
      have e : x.n = r.2 := e
      exact .inr ⟨o.2, by omega, mostV_ge o.1⟩
    · rw [List.mem_singleton.mp hr]; exact .inl ⟨rfl, rfl⟩
theorem bookR_inv {O N : List Nd} (hO : Wh O) (hN : Wh N) : BInv N (bookR O N) := BInv.fold (book0 hO hN) fun n hn => walk_nums.mem_iff.mp hn
theorem gOf_mem {O N : List Nd} (hO : Wh O) (hN : Wh N) {q : PP} (h : q ∈ (bookR O N).1) : gOf O N q.1 = q.2 := by
  unfold gOf
  rw [iget_mem (bookR_inv hO hN).k (v := q.2) h]; rfl
theorem gOf_has {O N : List Nd} (hO : Wh O) (hN : Wh N) {n : Int} (h : n ∈ nums N) : (n, gOf O N n) ∈ (bookR O N).1 := by
  obtain ⟨v, hv⟩ := foldR_has ((walkV N).map (·.2)) (iput (L0 O N) 0 0, mostV O) (walk_nums.mem_iff.mpr h)
  have hv : (n, v) ∈ (bookR O N).1 := hv
  have := gOf_mem hO hN hv
  rw [show gOf O N n = v from this]; exact hv
theorem gOf_ren {O N : List Nd} (hO : Wh O) (hN : Wh N) : Ren (gOf O N) N where
  z := gOf_mem hO hN (bookR_inv hO hN).z
  pos := fun x hx => by
    rcases (bookR_inv hO hN).p _ (gOf_has hO hN (mem_nums hx)) with ⟨e, _⟩ | ⟨_, e, _⟩
    · exact absurd e (hN.pos x hx)
    · exact e
  inj := fun x hx y hy e => congrArg Prod.fst (map_inj (bookR_inv hO hN).v (gOf_has hO hN (mem_nums hx)) (gOf_has hO hN (mem_nums hy)) e)
theorem gOf_known {O N : List Nd} (hO : Wh O) (hN : Wh N) {q : PP} (h : q ∈ knownU O N) : gOf O N q.2 = q.1 := by
  refine gOf_mem hO hN (q := (q.2, q.1)) (foldR_keep _ ?_)
  rw [iputP_new (zero_not hN (knownU_ok hO hN))]
  exact List.mem_append_left _ (L0_mem.mpr h)
end Tw

set_option autoImplicit false
set_option linter.all false
set_option maxRecDepth 4000
/-! Tw, plain: known again, whatever the numbers. -/
namespace Tw
/-! ### the mirror -/
theorem L0_dict {O N : List Nd} (h : KOk O N (knownU O N)) : D.dictK (.lst ((sortPP (knownU O N)).map fun a => D.tup [.int a.2, .int a.1])) = .ok (.dct false (encI D.int (L0 O N))) := by
  have := dict_I D.int (L := L0 O N) (L0_key h)
  unfold L0 at this ⊢
  rw [List.map_map] at this
  exact this
theorem maxLD_nums (O : List Nd) : D.maxLD 0 (.lst (O.map fun x => D.int x.n)) = .ok (.int (mostV O)) := by
  have : ints? (O.map fun x => D.int x.n) = some (nums O) := by
    have := ints_int (nums O)
    unfold nums at this ⊢
    rw [List.map_map] at this
    exact this
  unfold D.maxLD
  simp only [this, mostV]
  cases nums O <;> rfl
theorem iputP_len (L : List PP) (n v : Int) : (iput L n v).length ≤ L.length + 1 := iput_len L n v
theorem stepR_len (s : List PP × Int) (n : Int) : (stepR s n).1.length ≤ s.1.length + 1 := by
  unfold stepR
  split
  · omega
  · exact iput_len _ _ _
theorem foldR_len : ∀ (ns : List Int) (s : List PP × Int), (ns.foldl stepR s).1.length ≤ s.1.length + ns.length
  | [], s => by simp
  | n :: ns, s => by
    have h1 := stepR_len s n
    have h2 := foldR_len ns (stepR s n)
    simp only [List.foldl_cons, List.length_cons]
    omega
theorem L0_len (O N : List Nd) : (L0 O N).length ≤ O.length + O.length := by
  unfold L0
  rw [List.length_map, (sortPP_perm _).length_eq]
  have h1 := (foldK_len (restV O ((byP O N).map (·.1))) (byP O N, restV N ((byP O N).map (·.2)))).1
  have h2 := rest_len O ((byP O N).map (·.1))
  have h3 := byP_len O N
  unfold knownU knownS
  simp only at h1
  omega
theorem renumbered_ok {O N : List Nd} (hO : Tr O) (hN : Tr N) (hl : O.length + N.length ≤ 400) : M.m_renumbered [encT O, encT N] = .ok (encT (reT (gOf O N) N)) := by
  have kn := known_ok hO hN hl
  have ko := knownU_ok hO.toWh hN.toWh
  have l0 := L0_len O N
  have ld := L0_dict ko
  have mx := maxLD_nums O
  have wk := walked_ok hN
  have bk := book_ok hN.nd hN.len
  have ren := gOf_ren hO.toWh hN.toWh
  have lk : (sortPP (knownU O N)).length = (L0 O N).length := by unfold L0; rw [List.length_map]
  refine runD_rt rfl ?_
  show Rt _ (M.b_renumbered [.bor (encT O), .bor (encT N), .un, .un, .un, .un, .un, .un, .un, .un, .un, .un, .un])
  unfold M.b_renumbered
  refine p_own (d := .dct false (encI D.int (L0 O N))) (ok_e1 (ok_compM (L := sortPP (knownU O N)) (m := encPP) (h := fun a => D.tup [.int a.2, .int a.1]) (ok_itL (ok_call2 rfl rfl kn)) (by omega) fun a _ => by simp [encPP]) ld) ?_
  have hz : (encI D.int (L0 O N)).length < szl := small_szl (by rw [encI_len]; omega)
  refine p_seq (e1 := [.bor (encT O), .bor (encT N), .own (.dct false (encI D.int (iput (L0 O N) 0 0))), .un, .un, .un, .un, .un, .un, .un, .un, .un, .un]) ?_ ?_
  · have kp := kput_I (f := D.int) 0 0 (L0 O N)
    simp [ev_put, D.kf, D.key?, Ky.isTup, hz, kp]
  refine p_set (d := .int (mostV O)) (ok_e1 (ok_compM (L := O) (m := Nd.enc) (h := fun x => D.int x.n) (ok_itT rfl) (by omega) fun x _ => by simp) mx) ?_
  refine p_forP (L := walkV N) (m := encP) (fun pre e => ∃ x6 x7, e = [.bor (encT O), .bor (encT N), .own (.dct false (encI D.int ((pre.map (·.2)).foldl stepR (iput (L0 O N) 0 0, mostV O)).1)), .un, .sh (.int ((pre.map (·.2)).foldl stepR (iput (L0 O N) 0 0, mostV O)).2), .un, x6, x7, .un, .un, .un, .un, .un]) (ok_itL (ok_call1 rfl wk)) ⟨_, _, rfl⟩ ?_ ?_
  · rintro pre a post eq e ⟨x6, x7, rfl⟩
    have lp : pre.length ≤ N.length := by
      have := congrArg List.length eq
      rw [walk_len] at this
      simp at this; omega
    have fl := foldR_len (pre.map (·.2)) (iput (L0 O N) 0 0, mostV O)
    have il := iput_len (L0 O N) 0 (0 : Int)
    simp only [List.map_append, List.map_cons, List.map_nil, List.foldl_append, List.foldl_cons, List.foldl_nil]
    generalize (pre.map (·.2)).foldl stepR (iput (L0 O N) 0 0, mostV O) = s at fl
    obtain ⟨B, m⟩ := s
    simp only [List.length_map] at fl ⊢
    refine ⟨[.bor (encT O), .bor (encT N), .own (.dct false (encI D.int B)), .un, .sh (.int m), .un, .sh (strD a.1), .sh (.int a.2), .un, .un, .un, .un, .un], rfl, ?_⟩
    have ni := notIn_I (f := D.int) (L := B) (n := a.2)
    have hz2 : (encI D.int B).length < szl := small_szl (by rw [encI_len]; omega)
    by_cases q : a.2 ∈ B.map (·.1)
    · have st : stepR (B, m) a.2 = (B, m) := by unfold stepR; rw [if_pos q]
      rw [st]
      rw [decide_eq_true q] at ni
      exact p_if_f (by simp [ni]) (p_nil ⟨_, _, rfl⟩)
    · have st : stepR (B, m) a.2 = (iput B a.2 (m + 1), m + 1) := by unfold stepR; rw [if_neg q]
      rw [st]
      rw [decide_eq_false q] at ni
      refine p_if_t (by simp [ni]) ?_
      refine p_set (d := .int (m + 1)) (by simp) ?_
      have kp := kput_I (f := D.int) a.2 (m + 1) B
      refine ⟨_, .inl ?_, .sh (strD a.1), .sh (.int a.2), rfl⟩
      simp [ev_put, D.kf, D.key?, Ky.isTup, hz2, kp]
  rintro e ⟨x6, x7, rfl⟩
  have bR : (((walkV N).map (·.2)).foldl stepR (iput (L0 O N) 0 0, mostV O)) = bookR O N := rfl
  rw [bR]
  have ixg : ∀ {n : Int}, n = 0 ∨ n ∈ nums N → D.idx (.dct false (encI D.int (bookR O N).1)) (.int n) = .ok (.int (gOf O N n)) := fun {n} hn => by
    refine idx_I (iget_mem (bookR_inv hO.toWh hN.toWh).k ?_)
    rcases hn with rfl | hn
    · have := ren.z
      rw [this]; exact (bookR_inv hO.toWh hN.toWh).z
    · exact gOf_has hO.toWh hN.toWh hn
  refine p_set (by (simp [bk] <;> repeat' (first | apply And.intro | rfl))) ?_
  refine p_own (d := .dct false []) (by (simp [] <;> repeat' (first | apply And.intro | rfl))) ?_
  have nl := hN.len
  refine p_forKP (L := N) (m := fun x => D.int x.n) (tt := false) (kvs := bookOf N) (fun pre e => ∃ x7 x10 x11 x12, e = [.bor (encT O), .bor (encT N), .own (.dct false (encI D.int (bookR O N).1)), .un, .sh (.int (bookR O N).2), .un, x6, x7, .sh (.dct false (bookOf N)), .own (.dct false (bookOf (renL (gOf O N) pre))), x10, x11, x12]) (.inl rfl) (keys_book N) ⟨_, _, _, _, rfl⟩ ?_ ?_
  · rintro pre x post eq e ⟨x7, x10, x11, x12, rfl⟩
    have hx : x ∈ N := by rw [eq]; simp
    have ix := idx_row2 hN hx
    have lp : pre.length ≤ N.length := by
      have := congrArg List.length eq
      simp at this; omega
    have i1 := ixg (.inr (mem_nums hx))
    have i2 := ixg (par0 hN.toWh hx)
    have fresh : gOf O N x.n ∉ nums (renL (gOf O N) pre) := fun z => by
      obtain ⟨y, hy, e⟩ := mem_num z
      obtain ⟨w, hw, rfl⟩ := List.mem_map.mp hy
      have hwN : w ∈ N := by rw [eq]; exact List.mem_append_left _ hw
      have nd := hN.nd
      rw [eq] at nd
      simp only [nums, List.map_append, List.map_cons] at nd
      rw [List.nodup_append] at nd
      exact nd.2.2 w.n (List.mem_map.mpr ⟨w, hw, rfl⟩) x.n (by simp) (ren.inj w hwN x hx e)
    have kh : khas (.int (gOf O N x.n)) (bookOf (renL (gOf O N) pre)) = false := by rw [khas_book, decide_eq_false fresh]
    have kp : kput (.int (gOf O N x.n)) (D.tup [.int (gOf O N x.p), .str x.nm, stD x.st]) (bookOf (renL (gOf O N) pre)) = bookOf (renL (gOf O N) (pre ++ [x])) := by
      unfold kput
      rw [kh]
      simp [bookOf, renL, Nd.re, Nd.row]
    have hz2 : (bookOf (renL (gOf O N) pre)).length < szl := small_szl (by simp [bookOf, renL]; omega)
    refine ⟨_, rfl, ?_⟩
    refine p_asg (d := x.row) (e1 := [.bor (encT O), .bor (encT N), .own (.dct false (encI D.int (bookR O N).1)), .un, .sh (.int (bookR O N).2), .un, x6, .sh (.int x.n), .sh (.dct false (bookOf N)), .own (.dct false (bookOf (renL (gOf O N) pre))), .sh (.int x.p), .sh (.str x.nm), .sh (stD x.st)]) (by simp [ix]) rfl ?_
    refine ⟨_, .inl ?_, .sh (.int x.n), .sh (.int x.p), .sh (.str x.nm), .sh (stD x.st), rfl⟩
    simp [ev_put, D.kf, D.key?, Ky.isTup, hz2, i1, i2, kp]
  rintro e ⟨x7, x10, x11, x12, rfl⟩
  have nd2 := ren_nd hN.nd ren
  have to := tree_of_ok (L := renL (gOf O N) N) nd2 (by simp [renL]; omega)
  exact p_ret (by simp [to]; rfl)
end Tw

set_option autoImplicit false
set_option linter.all false
set_option maxRecDepth 4000
/-! Tw, plain: known again, the new tree numbered anew. -/
namespace Tw
section
variable {f : Int → Int} {O N : List Nd}
def mapR (f : Int → Int) (q : PP) : PP := (q.1, f q.2)
def mapL (f : Int → Int) (q : PP) : PP := (f q.1, q.2)
theorem re_find (hN : Tr N) (r : Ren f N) (p : List Nm) : wFind (reT f N) p = (wFind N p).map f := by
  unfold wFind
  rw [re_walk hN r, List.find?_map, Option.map_map, Option.map_map]; rfl
theorem re_byP1 (hN : Tr N) (r : Ren f N) (a : PN) : byP1 O (reT f N) a = (byP1 O N a).map (mapR f) := by
  unfold byP1
  rw [re_find hN r]
  cases w : wFind N a.1 with
  | none => rfl
  | some m =>
    obtain ⟨x, hx, e, _⟩ := wFind_mem w
    simp only [Option.map_some]
    rw [re_fol hN r (by rw [← e]; exact mem_nums hx)]
    by_cases g : isFol O a.2 = isFol N m <;> simp [g, mapR]
theorem re_byP (hN : Tr N) (r : Ren f N) : byP O (reT f N) = (byP O N).map (mapR f) := by
  unfold byP
  rw [List.map_filterMap]
  congr 1
  funext a
  exact re_byP1 hN r a
theorem re_stamp (hN : Tr N) (r : Ren f N) {n : Int} (hn : n ∈ nums N) : stampOf (reT f N) (f n) = stampOf N n := by
  obtain ⟨x, hx, rfl⟩ := mem_num hn
  unfold stampOf
  rw [re_look hN r hx, look_of hN.nd hx]; rfl
theorem re_rest (hN : Tr N) (r : Ren f N) {S : List Int} (hS : ∀ n ∈ S, n ∈ nums N) : restV (reT f N) (S.map f) = (restV N S).map (mapL f) := by
  unfold restV
  rw [re_walk hN r, List.filter_map, List.map_map, List.map_map]
  have e : (walkV N).filter ((fun a : PN => !decide (a.2 ∈ S.map f) && !isFol (reT f N) a.2) ∘ fun a => (a.1, f a.2)) = (walkV N).filter fun a => !decide (a.2 ∈ S) && !isFol N a.2 := by
    refine List.filter_congr fun a ha => ?_
    have hn := walk_num ha
    have m : (f a.2 ∈ S.map f) ↔ a.2 ∈ S := by
      rw [List.mem_map]
      exact ⟨fun ⟨b, hb, e⟩ => by rw [← r.inj0 (.inr (hS b hb)) (.inr hn) e]; exact hb, fun h => ⟨_, h, rfl⟩⟩
    simp only [Function.comp_apply, re_fol hN r hn, m]
  rw [e]
  refine List.map_congr_left fun a ha => ?_
  have hn := walk_num (List.mem_filter.mp ha).1
  show (f a.2, stampOf (reT f N) (f a.2)) = _
  rw [re_stamp hN r hn]; rfl
def mapS (f : Int → Int) (s : List PP × List PP) : List PP × List PP := (s.1.map (mapR f), s.2.map (mapL f))
theorem re_step (r : Ren f N) {s : List PP × List PP} (hs : ∀ q ∈ s.2, q.1 ∈ nums N) (a : PP) : stepK (mapS f s) a = mapS f (stepK s a) := by
  unfold stepK mapS
  simp only
  rw [List.find?_map]
  have e : ((fun q : PP => decide (q.2 = a.2)) ∘ mapL f) = fun q : PP => decide (q.2 = a.2) := rfl
  rw [e]
  cases q : s.2.find? fun q => decide (q.2 = a.2) with
  | none => rfl
  | some b =>
    have hb := List.mem_of_find?_eq_some q
    simp only [Option.map_some, List.map_append, List.map_cons, List.map_nil]
    rw [List.filter_map]
    congr 2
    refine List.filter_congr fun w hw => ?_
    simp only [Function.comp_apply]
    congr 1
    rw [decide_eq_decide]
    refine ⟨fun e => ?_, fun e => by rw [e]⟩
    have e1 : (mapL f w).1 = (mapL f b).1 := congrArg Prod.fst e
    have e2 : (mapL f w).2 = (mapL f b).2 := congrArg Prod.snd e
    exact Prod.ext (r.inj0 (.inr (hs w hw)) (.inr (hs b hb)) e1) e2
theorem stepK_sub {s : List PP × List PP} {a : PP} (hs : ∀ q ∈ s.2, q.1 ∈ nums N) : ∀ q ∈ (stepK s a).2, q.1 ∈ nums N := by
  unfold stepK
  split
  · exact fun q hq => hs q (List.mem_filter.mp hq).1
  · exact hs
theorem re_fold (r : Ren f N) : ∀ (l : List PP) {s : List PP × List PP}, (∀ q ∈ s.2, q.1 ∈ nums N) → l.foldl stepK (mapS f s) = mapS f (l.foldl stepK s)
  | [], _, _ => rfl
  | a :: l, s, hs => by
    rw [List.foldl_cons, List.foldl_cons, re_step r hs a]
    exact re_fold r l (stepK_sub hs)
theorem re_known (hN : Tr N) (r : Ren f N) : knownU O (reT f N) = (knownU O N).map (mapR f) := by
  unfold knownU knownS
  have b := re_byP (O := O) hN r
  have e1 : (byP O (reT f N)).map (·.1) = (byP O N).map (·.1) := by rw [b, List.map_map]; rfl
  have e2 : (byP O (reT f N)).map (·.2) = ((byP O N).map (·.2)).map f := by rw [b, List.map_map, List.map_map]; rfl
  rw [e1, e2, re_rest hN r (fun n hn => by
    obtain ⟨q, hq, rfl⟩ := List.mem_map.mp hn
    obtain ⟨a, _, _, w, _⟩ := byP_mem hq
    obtain ⟨x, hx, e, _⟩ := wFind_mem w
    rw [← e]; exact mem_nums hx), b]
  exact congrArg Prod.fst (re_fold r _ (s := (byP O N, restV N ((byP O N).map (·.2)))) fun q hq => (mem_rest hq).1)
/-! ### the new numbers again -/
theorem gOf_re (hO : Tr O) (hN : Tr N) {n : Int} (hn : n ∈ nums N) : gOf O (reT (gOf O N) N) (gOf O N n) = gOf O N n := by
  have r := gOf_ren hO.toWh hN.toWh
  have hN' := hN.re r
  have ku := re_known (O := O) hN r
  have ok := knownU_ok hO.toWh hN.toWh
  have ok' := knownU_ok hO.toWh hN'.toWh
  have key : ∀ (ns : List Int) (s s' : List PP × Int), (∀ n ∈ ns, n ∈ nums N) → s.2 = s'.2 → (∀ m, m = 0 ∨ m ∈ nums N → iget s'.1 (gOf O N m) = iget s.1 m) →
      (∀ m, m = 0 ∨ m ∈ nums N → iget ((ns.map (gOf O N)).foldl stepR s').1 (gOf O N m) = iget (ns.foldl stepR s).1 m) := by
    intro ns
    induction ns with
    | nil => exact fun _ _ _ _ h => h
    | cons n ns ih =>
      intro s s' hns h2 h
      have hn := hns n List.mem_cons_self
      rw [List.map_cons, List.foldl_cons, List.foldl_cons]
      have mem : gOf O N n ∈ s'.1.map (·.1) ↔ n ∈ s.1.map (·.1) := by
        have a1 := iget_isSome (L := s'.1) (n := gOf O N n)
        have a2 := iget_isSome (L := s.1) (n := n)
        rw [h n (.inr hn), a2] at a1
        exact (decide_eq_decide.mp a1).symm
      refine ih (stepR s n) (stepR s' (gOf O N n)) (fun m hm => hns m (List.mem_cons_of_mem _ hm)) ?_ ?_
      · unfold stepR
        by_cases q : n ∈ s.1.map (·.1)
        · rw [if_pos q, if_pos (mem.mpr q)]; exact h2
        · rw [if_neg q, if_neg (fun z => q (mem.mp z))]; simp only; omega
      · intro m hm
        unfold stepR
        by_cases q : n ∈ s.1.map (·.1)
        · rw [if_pos q, if_pos (mem.mpr q)]; exact h m hm
        · rw [if_neg q, if_neg (fun z => q (mem.mp z))]
          simp only
          rw [iget_put, iget_put, h m hm, h2]
          by_cases e : m = n
          · rw [if_pos e, if_pos (by rw [e])]
          · rw [if_neg e, if_neg (fun z => e (r.inj0 hm (.inr hn) z))]
  have ns : (walkV (reT (gOf O N) N)).map (·.2) = ((walkV N).map (·.2)).map (gOf O N) := by
    rw [re_walk hN r, List.map_map, List.map_map]; rfl
  have fin := key ((walkV N).map (·.2)) (iput (L0 O N) 0 0, mostV O) (iput (L0 O (reT (gOf O N) N)) 0 0, mostV O) (fun n hn => walk_nums.mem_iff.mp hn) rfl (fun m hm => by
    rw [iget_put, iget_put]
    by_cases z : m = 0
    · rw [if_pos z, if_pos (by rw [z, r.z])]
    · rw [if_neg z, if_neg (fun e => z (r.inj0 hm (.inl rfl) (by rw [e, r.z])))]
      have hm := hm.resolve_left z
      cases e : iget (L0 O N) m with
      | some v =>
        have h1 := L0_mem.mp (iget_some e)
        refine iget_mem (L0_key ok') (L0_mem.mpr ?_)
        rw [ku]
        exact List.mem_map.mpr ⟨_, h1, rfl⟩
      | none =>
        refine iget_none fun hk => ?_
        obtain ⟨q, hq, e2⟩ := List.mem_map.mp hk
        have h1 := L0_mem.mp hq
        rw [ku] at h1
        obtain ⟨w, hw, e3⟩ := List.mem_map.mp h1
        have e4 : gOf O N w.2 = q.1 := congrArg Prod.snd e3
        have wn := (ok.o w hw).2
        have e5 : w.2 = m := r.inj0 (.inr wn) (.inr hm) (by rw [e4, ← e2])
        have : iget (L0 O N) m = some w.1 := iget_mem (L0_key ok) (L0_mem.mpr (by rw [← e5]; exact hw))
        rw [e] at this
        cases this) n (.inr hn)
  have g1 : iget (bookR O (reT (gOf O N) N)).1 (gOf O N n) = iget (bookR O N).1 n := by
    unfold bookR
    rw [ns]; exact fin
  have h1 := gOf_has hO.toWh hN.toWh hn
  have h2 := iget_mem (bookR_inv hO.toWh hN.toWh).k h1
  unfold gOf at h2 ⊢
  rw [show (fun n => (iget (bookR O N).fst n).getD 0) = gOf O N from rfl, show (iget (bookR O N).fst n).getD 0 = gOf O N n from rfl, g1, h2]
  rfl
/-- numbered as it is known, it is numbered so -/
theorem once_again (hO : Tr O) (hN : Tr N) : reT (gOf O (reT (gOf O N) N)) (reT (gOf O N) N) = reT (gOf O N) N := by
  have r := gOf_ren hO.toWh hN.toWh
  have hN' := hN.re r
  refine re_id hN' (fun y hy => ?_) (gOf_ren hO.toWh hN'.toWh).z
  obtain ⟨x, hx, rfl⟩ := mem_re.mp hy
  exact gOf_re hO hN (mem_nums hx)
/-! ### the same tree, other numbers -/
theorem find_at (hO : Wh O) {a : PN} (ha : a ∈ walkV O) : wFind O a.1 = some a.2 := by
  unfold wFind
  cases e : (walkV O).find? fun b => decide (b.1 = a.1) with
  | none => exact absurd (by simp) (List.find?_eq_none.mp e a ha)
  | some b =>
    have := walkV_inj hO (List.mem_of_find?_eq_some e) ha (by simpa using List.find?_some e)
    rw [this]; rfl
theorem filterMap_all {α β : Type} {g : α → Option β} {h : α → β} : ∀ {l : List α}, (∀ a ∈ l, g a = some (h a)) → l.filterMap g = l.map h
  | [], _ => rfl
  | a :: l, e => by
    rw [List.filterMap_cons, e a List.mem_cons_self, List.map_cons, filterMap_all fun b hb => e b (List.mem_cons_of_mem _ hb)]
theorem rest_nil {T : List Nd} {S : List Int} (h : ∀ n ∈ nums T, n ∈ S) : restV T S = [] := by
  unfold restV
  rw [List.filter_eq_nil_iff.mpr fun a ha => by simp [h _ (walk_num ha)]]; rfl
theorem known_same (hO : Tr O) (r : Ren f O) : knownU O (reT f O) = (walkV O).map fun a => (a.2, f a.2) := by
  have b : byP O (reT f O) = (walkV O).map fun a => (a.2, f a.2) := by
    refine filterMap_all fun a ha => ?_
    unfold byP1
    rw [re_find hO r, find_at hO.toWh ha]
    simp [re_fol hO r (walk_num ha)]
  have e1 : (byP O (reT f O)).map (·.1) = (walkV O).map (·.2) := by rw [b, List.map_map]; rfl
  unfold knownU knownS
  rw [e1, rest_nil (T := O) fun n hn => walk_nums.mem_iff.mpr hn]
  exact b
theorem known_back (hO : Tr O) (r : Ren f O) : knownU (reT f O) O = (walkV O).map fun a => (f a.2, a.2) := by
  have b : byP (reT f O) O = (walkV O).map fun a => (f a.2, a.2) := by
    unfold byP
    rw [re_walk hO r, List.filterMap_map]
    refine filterMap_all fun a ha => ?_
    simp only [Function.comp_apply]
    unfold byP1
    simp only
    rw [find_at hO.toWh ha]
    simp [re_fol hO r (walk_num ha)]
  have e1 : (byP (reT f O) O).map (·.1) = ((walkV O).map (·.2)).map f := by rw [b, List.map_map, List.map_map]; rfl
  unfold knownU knownS
  rw [e1, rest_nil (T := reT f O) fun n hn => by
    obtain ⟨y, hy, rfl⟩ := mem_num hn
    obtain ⟨x, hx, rfl⟩ := mem_re.mp hy
    exact List.mem_map.mpr ⟨x.n, walk_nums.mem_iff.mpr (mem_nums hx), rfl⟩]
  exact b
theorem same_again (hO : Tr O) (r : Ren f O) : reT (gOf O (reT f O)) (reT f O) = O := by
  have hN := hO.re r
  have rg := gOf_ren hO.toWh hN.toWh
  have e : ∀ x ∈ O, gOf O (reT f O) (f x.n) = x.n := fun x hx => by
    have := gOf_known hO.toWh hN.toWh (q := (x.n, f x.n)) (by
      rw [known_same hO r]
      exact List.mem_map.mpr ⟨(path O x.n, x.n), mem_walkV.mpr ⟨x, hx, rfl⟩, rfl⟩)
    exact this
  have id1 : reT (gOf O (reT f O) ∘ f) O = O := re_id hO (fun x hx => e x hx) (by show gOf O (reT f O) (f 0) = 0; rw [r.z, rg.z])
  rw [re_re, id1]
  have : nums (renL (gOf O (reT f O) ∘ f) O) = nums O := by
    unfold nums renL
    rw [List.map_map]
    exact List.map_congr_left fun x hx => e x hx
  rw [this]; exact hO.nd
end
end Tw

set_option autoImplicit false
set_option linter.all false
set_option maxRecDepth 4000
/-! Tw, plain: other numbers, drawn from the script. -/
namespace Tw
abbrev ON := List PP × List Int
def stepO (ns : List Int) (at_ : Nat) (s : ON) (a : Nat × Nd) : ON := (iput s.1 a.2.n (s.2.getD (pickV ns (at_ + a.1) s.2.length).toNat 0), s.2.eraseIdx (pickV ns (at_ + a.1) s.2.length).toNat)
def onS (ns : List Int) (at_ : Nat) (L : List (Nat × Nd)) : ON := L.foldl (stepO ns at_) ([(0, 0)], (List.range 39).map fun k : Nat => (1 : Int) + (k : Int))
def numd (T : List Nd) : List (Nat × Nd) := (List.range T.length).zip T
def onV (ns : List Int) (at_ : Nat) (T : List Nd) (n : Int) : Int := (iget (onS ns at_ (numd T)).1 n).getD 0
theorem numd_snd (T : List Nd) : (numd T).map (·.2) = T := by unfold numd; rw [List.map_snd_zip]; simp
theorem numd_len (T : List Nd) : (numd T).length = T.length := by simp [numd]
theorem enumL_numd (T : List Nd) : enumL (T.map Nd.enc) = (numd T).map fun a => D.tup [.int (a.1 : Int), a.2.enc] := by
  unfold enumL numd
  rw [List.length_map, List.zipWith_map_right, List.zip_eq_zipWith, List.map_zipWith]
structure OInv (L : List (Nat × Nd)) (s : ON) : Prop where
  k : s.1.map (·.1) = 0 :: L.map (·.2.n)
  v : (s.1.map (·.2) ++ s.2).Nodup
  l : ∀ v ∈ s.2, (1 : Int) ≤ v
  z : (0, 0) ∈ s.1
  p : ∀ q ∈ s.1, q.1 = 0 ∨ 1 ≤ q.2
  len : s.2.length + L.length = 39
theorem oinv0 : OInv [] ([(0, 0)], (List.range 39).map fun k : Nat => (1 : Int) + (k : Int)) := by
  refine ⟨rfl, by decide, ?_, by simp, by simp, by simp⟩
  intro v hv
  obtain ⟨k, _, rfl⟩ := List.mem_map.mp hv
  omega
theorem OInv.step {ns : List Int} {at_ : Nat} {L : List (Nat × Nd)} {s : ON} (h : OInv L s) {a : Nat × Nd} (nz : a.2.n ≠ 0) (nw : a.2.n ∉ L.map (·.2.n)) (hl : L.length < 39) : OInv (L ++ [a]) (stepO ns at_ s a) := by
  have ll := h.len
  have pv := pickV_lt ns (at_ + a.1) (many := (s.2.length : Int)) (by omega)
  have hi : (pickV ns (at_ + a.1) s.2.length).toNat < s.2.length := by omega
  have nk : a.2.n ∉ s.1.map (·.1) := by rw [h.k]; simp [nz, nw]
  unfold stepO
  generalize (pickV ns (at_ + a.1) s.2.length).toNat = i at hi
  have gd : s.2.getD i 0 = s.2[i] := by simp [List.getD_eq_getElem?_getD, List.getElem?_eq_getElem hi]
  have spl : s.2.take i ++ s.2[i] :: s.2.drop (i + 1) = s.2 := by rw [List.getElem_cons_drop, List.take_append_drop]
  have er : s.2.eraseIdx i = s.2.take i ++ s.2.drop (i + 1) := by rw [List.eraseIdx_eq_take_drop_succ]
  have mem : s.2[i] ∈ s.2 := List.getElem_mem hi
  rw [gd, iputP_new nk]
  refine ⟨by simp [h.k], ?_, fun v hv => h.l v (List.mem_of_mem_eraseIdx hv), List.mem_append_left _ h.z, fun q hq => ?_, ?_⟩
  · simp only [List.map_append, List.map_cons, List.map_nil, List.append_assoc, List.cons_append, List.nil_append]
    have pm : (s.1.map (·.2) ++ s.2[i] :: s.2.eraseIdx i).Perm (s.1.map (·.2) ++ s.2) := by
      refine List.Perm.append_left _ ?_
      rw [er]
      refine List.perm_middle.symm.trans (List.Perm.of_eq spl)
    exact pm.nodup_iff.mpr h.v
  · rcases List.mem_append.mp hq with hq | hq
    · exact h.p q hq
    · rw [List.mem_singleton.mp hq]; exact .inr (h.l _ mem)
  · rw [List.length_eraseIdx_of_lt hi]
    simp only [List.length_append, List.length_cons, List.length_nil]
    omega
theorem oinv_pre {ns : List Int} {at_ : Nat} {T : List Nd} (h : Tr T) (hl : T.length ≤ 38) : ∀ (pre post : List (Nat × Nd)), numd T = pre ++ post → OInv pre (onS ns at_ pre) := by
  intro pre
  generalize hn : pre.length = n
  induction n generalizing pre with
  | zero => rw [List.length_eq_zero_iff.mp hn]; exact fun _ _ => oinv0
  | succ n ih0 =>
    intro post e
    rcases List.eq_nil_or_concat pre with rfl | ⟨pre', a, rfl⟩
    · cases hn
    have ih := ih0 pre' (by simpa using hn) (a :: post) (by rw [e, List.concat_eq_append]; simp)
    clear ih0 hn
    rw [List.concat_eq_append] at e ⊢
    revert ih e
    generalize pre' = pre
    intro e ih
    have nd := h.nd
    have es : T = (pre.map (·.2)) ++ a.2 :: post.map (·.2) := by
      have := congrArg (List.map (·.2)) e
      rw [numd_snd] at this
      simpa using this
    have ll : pre.length < 39 := by
      have := congrArg List.length e
      rw [numd_len] at this
      simp at this; omega
    unfold onS at ih ⊢
    rw [List.foldl_append, List.foldl_cons, List.foldl_nil]
    refine ih.step (h.pos a.2 (by rw [es]; simp)) (fun z => ?_) ll
    rw [es] at nd
    simp only [nums, List.map_append, List.map_cons, List.map_map] at nd
    rw [List.nodup_append] at nd
    exact nd.2.2 a.2.n z a.2.n (by simp) rfl
theorem on_ren {ns : List Int} {at_ : Nat} {T : List Nd} (h : Tr T) (hl : T.length ≤ 38) : Ren (onV ns at_ T) T ∧ ∀ n, n = 0 ∨ n ∈ nums T → iget (onS ns at_ (numd T)).1 n = some (onV ns at_ T n) := by
  have o := oinv_pre (ns := ns) (at_ := at_) h hl (numd T) [] (by simp)
  have keys : (onS ns at_ (numd T)).1.map (·.1) = 0 :: nums T := by
    rw [o.k]
    congr 1
    have := congrArg (List.map (·.n)) (numd_snd T)
    rw [List.map_map] at this
    exact this
  have nk : ((onS ns at_ (numd T)).1.map (·.1)).Nodup := by
    rw [keys, List.nodup_cons]
    exact ⟨fun z => by obtain ⟨x, hx, e⟩ := mem_num z; exact h.pos x hx e, h.nd⟩
  have has : ∀ n, n = 0 ∨ n ∈ nums T → (n, onV ns at_ T n) ∈ (onS ns at_ (numd T)).1 := fun n hn => by
    have : n ∈ (onS ns at_ (numd T)).1.map (·.1) := by
      rw [keys]
      rcases hn with rfl | hn
      · exact List.mem_cons_self
      · exact List.mem_cons_of_mem _ hn
    obtain ⟨q, hq, e⟩ := List.mem_map.mp this
    have g := iget_mem nk (n := q.1) (v := q.2) hq
    unfold onV
    rw [← e, g]
    exact hq
  have nv := (List.nodup_append.mp o.v).1
  refine ⟨⟨?_, fun x hx => ?_, fun x hx y hy e => congrArg Prod.fst (map_inj nv (has x.n (.inr (mem_nums hx))) (has y.n (.inr (mem_nums hy))) e)⟩, fun n hn => iget_mem nk (has n hn)⟩
  · unfold onV
    rw [iget_mem nk o.z]; rfl
  · rcases o.p _ (has x.n (.inr (mem_nums hx))) with e | e
    · exact absurd e (h.pos x hx)
    · exact e
theorem other_ok {S : D} {ns : List Int} (hS : Scr S ns) (at_ : Nat) {T : List Nd} (h : Tr T) (hl : T.length ≤ 38) : M.m_other_numbers_L [S, .int at_, encT T] = .ok (encT (reT (onV ns at_ T) T)) := by
  obtain ⟨ren, look⟩ := on_ren (ns := ns) (at_ := at_) h hl
  refine runD_rt rfl ?_
  show Rt _ (M.b_other_numbers_L [.bor S, .bor (.int at_), .sh (encT T), .un, .un, .un, .un])
  unfold M.b_other_numbers_L
  refine p_own (d := .lst (((List.range 39).map fun k : Nat => (1 : Int) + (k : Int)).map D.int)) rfl ?_
  refine p_own (d := .dct false (encI D.int [(0, 0)])) rfl ?_
  refine p_forP (L := numd T) (m := fun a => D.tup [.int (a.1 : Int), a.2.enc]) (fun pre e => ∃ x5 x6, e = [.bor S, .bor (.int at_), .sh (encT T), .own (.lst ((onS ns at_ pre).2.map D.int)), .own (.dct false (encI D.int (onS ns at_ pre).1)), x5, x6]) ?_ ⟨_, _, rfl⟩ ?_ ?_
  · show iEnuB (eV 2) _ = _
    unfold iEnuB
    rw [← enumL_numd]; rfl
  · rintro pre a post eq e ⟨x5, x6, rfl⟩
    have o := oinv_pre (ns := ns) (at_ := at_) h hl pre (a :: post) eq
    have ll : pre.length < 38 := by
      have := congrArg List.length eq
      rw [numd_len] at this
      simp at this; omega
    have e1 : onS ns at_ (pre ++ [a]) = stepO ns at_ (onS ns at_ pre) a := by unfold onS; rw [List.foldl_append]; rfl
    rw [e1]
    generalize onS ns at_ pre = s at o
    obtain ⟨B, left⟩ := s
    have len := o.len
    simp only at len ⊢
    have pv := pickV_lt ns (at_ + a.1) (many := (left.length : Int)) (by omega)
    have pk : M.m_pick_L [S, .int ((at_ : Int) + (a.1 : Int)), .int left.length] = _ := pick_ok' hS (k := at_ + a.1) (by omega) (many := left.length) (by omega)
    have ll2 : D.len (.lst (left.map D.int)) = .ok (.int left.length) := by simp
    refine ⟨_, rfl, _, .inl ?_, .sh (.int (a.1 : Int)), .sh a.2.enc, rfl⟩
    have kl : B.length = pre.length + 1 := by
      have := congrArg List.length o.k
      simpa using this
    have hz : (encI D.int B).length < szl := small_szl (by rw [encI_len]; omega)
    have kp := kput_I (f := D.int) a.2.n (left[(pickV ns (at_ + a.1) left.length).toNat]?.getD 0) B
    have hlt : (pickV ns (at_ + a.1) left.length).toNat < left.length := by omega
    have gi : (left.map D.int)[(pickV ns (at_ + a.1) left.length).toNat]? = some (D.int (left.getD (pickV ns (at_ + a.1) left.length).toNat 0)) := by
      simp [List.getD_eq_getElem?_getD, List.getElem?_eq_getElem hlt]
    have bnd : 0 ≤ pickV ns (at_ + a.1) left.length ∧ pickV ns (at_ + a.1) left.length < 4611686018427387904 := by omega
    unfold sPutPop stepO
    simp only
    show (match (some (Slot.own (.lst (left.map D.int)))) with | some (.own (.lst xs)) => _ | _ => RS.stk) = _
    simp only
    rw [ok_call3 (m := M.m_pick_L) (x := S) (y := .int ((at_ : Int) + (a.1 : Int))) (z := .int left.length) rfl (ok_e2 rfl rfl rfl) (ok_e1 rfl ll2) pk]
    simp only [Res.run_ok]
    rw [if_pos bnd, gi]
    simp only
    rw [ev_put]
    simp [D.kf, D.key?, Ky.isTup, hz, kp, map_erase]
  rintro e ⟨x5, x6, rfl⟩
  have sd := sorted_enc (h.toWh.ren ren) (by simp [renL]; omega)
  refine p_ret (ok_e1 (x := .lst ((sortN (renL (onV ns at_ T) T)).map Nd.enc)) (ok_e1 (ok_compM (L := T) (m := Nd.enc) (h := fun x => (x.re (onV ns at_ T)).enc) (ok_itT rfl) (by omega) fun x hx => ?_) ?_) rfl)
  · have i1 := idx_I (f := D.int) (look x.n (.inr (mem_nums hx)))
    have i2 := idx_I (f := D.int) (look x.p (par0 h.toWh hx))
    simp [i1, i2, Nd.re, Nd.enc]
    rfl
  · unfold renL at sd
    rw [List.map_map] at sd
    exact sd
end Tw

set_option autoImplicit false
set_option linter.all false
set_option maxRecDepth 4000
/-! K61, plain. -/
namespace Tw
namespace K61
theorem ne_self {d : D} (h : D.pl 40 d = true) : D.ne d d = .ok (.bl false) := by
  simp [D.ne, D.good, h, eqv_refl d 40 h]
theorem eq_self' {d : D} (h : D.pl 40 d = true) : D.eq d d = .ok (.bl true) := by
  simp [D.eq, D.good, h, eqv_refl d 40 h]
theorem sortI_id {l : List Int} (h : l.Pairwise (· < ·)) : sortI l = l := by
  rw [sortI_set (h.imp fun q => by omega), setI_id h]
theorem pl_T {T : List Nd} (h : Wh T) : D.pl 40 (encT T) = true := by
  unfold encT D.pl
  refine pls_mem fun d hd => ?_
  obtain ⟨x, hx, rfl⟩ := List.mem_map.mp hd
  have n := nm_ok h hx
  unfold okNm at n
  cases q : x.st <;> simpa [Nd.enc, D.pl, D.pls, stD, q] using n
theorem law_ok (ns : List Int) (hn : ns.length ≤ 63) : m_law [.inp ns] = .ok (.bl true) := by
  have hS : Scr (.inp ns) ns := .inl rfl
  have t1 : M.m_tree_L [.inp ns, .int 0, .int 8] = _ := tree_ok hS 0 8 (by omega)
  have hT := drawn_tr ns 0 8 (by omega)
  have lT := drawn_len ns 0 8
  generalize drawn ns 0 8 = T at t1 hT lT
  have t3 : M.m_tree_L [.inp ns, .int 200, .int 8] = _ := tree_ok hS 200 8 (by omega)
  have hU := drawn_tr ns 200 8 (by omega)
  have lU := drawn_len ns 200 8
  generalize drawn ns 200 8 = U at t3 hU lU
  have t2 : M.m_other_numbers_L [.inp ns, .int 100, encT T] = _ := other_ok hS 100 hT (by omega)
  have ren := (on_ren (ns := ns) (at_ := 100) hT (by omega)).1
  generalize onV ns 100 T = f at t2 ren
  have hN := hT.re ren
  have lN := reT_len f T
  have k1 := known_ok hT hN (by omega)
  have k2 := known_ok hN hT (by omega)
  rw [known_same hT ren] at k1
  rw [known_back hT ren] at k2
  have r1 := renumbered_ok hT hN (by omega)
  rw [same_again hT ren] at r1
  have cb := change_between_ok hT hT (by omega)
  rw [chg_self] at cb
  have rg := gOf_ren hT.toWh hU.toWh
  have hO := hU.re rg
  have lO := reT_len (gOf T U) U
  have r2 := renumbered_ok hT hU (by omega)
  have r3 := renumbered_ok hT hO (by omega)
  rw [once_again hT hU] at r3
  have w1 := walked_ok hU
  have w2 := walked_ok hO
  rw [re_walk hU rg] at w2
  have wl := walk_len T
  have wu := walk_len U
  refine runD_rt rfl ?_
  show Rt _ (b_law [.bor (.inp ns), .un, .un, .un, .un, .un, .un, .un, .un, .un])
  unfold b_law
  refine p_set (by (simp [t1] <;> repeat' (first | apply And.intro | rfl))) ?_
  refine p_set (by (simp [t2] <;> repeat' (first | apply And.intro | rfl))) ?_
  refine p_set (by (simp [k1] <;> repeat' (first | apply And.intro | rfl))) ?_
  have lp : (sortPP ((walkV T).map fun a => (a.2, f a.2))).length ≤ 8 := by rw [(sortPP_perm _).length_eq, List.length_map]; omega
  refine p_chk (ok_te (ok_e2 (x := .lst ((nums T).map D.int)) (y := .lst ((nums T).map D.int)) (ok_e1 (ok_compM (L := sortPP ((walkV T).map fun a => (a.2, f a.2))) (m := encPP) (h := fun a => D.int a.1) (ok_itL rfl) (by omega) fun a _ => by simp [encPP]) ?_) ?_ (by rw [ne_intsL]; simp))) ?_
  · have so := sorted_int (l := (sortPP ((walkV T).map fun a => (a.2, f a.2))).map (·.1)) (by rw [List.length_map]; omega)
    rw [List.map_map] at so
    rw [show ((sortPP ((walkV T).map fun a => (a.2, f a.2))).map fun a => D.int a.1) = (sortPP ((walkV T).map fun a => (a.2, f a.2))).map (D.int ∘ (·.1)) from rfl, so, sortI_eq (m := nums T), sortI_id (List.pairwise_map.mpr hT.pw)]
    refine ((sortPP_perm _).map _).trans ?_
    rw [List.map_map]
    exact walk_nums
  · refine (ok_compM (L := T) (m := Nd.enc) (h := fun x => D.int x.n) (ok_itT rfl) (by omega) fun x _ => by simp).trans ?_
    unfold nums; rw [List.map_map]; rfl
  have neT := ne_self (pl_T hT.toWh)
  have ne0 : D.ne (encC []) (.tup []) = .ok (.bl false) := rfl
  refine p_chk (by (simp [r1, neT, cb, ne0] <;> repeat' (first | apply And.intro | rfl))) ?_
  refine p_chk (ok_te (ok_e2 (x := .lst ((sortPP ((walkV T).map fun a => (f a.2, a.2))).map encPP)) (y := .lst ((sortPP ((walkV T).map fun a => (f a.2, a.2))).map encPP)) (ok_e1 (ok_compM (L := sortPP ((walkV T).map fun a => (a.2, f a.2))) (m := encPP) (h := fun a => encPP (swapP a)) (ok_itL rfl) (by omega) fun a _ => by simp [encPP, swapP]) ?_) (by simp [k2]) (by rw [ne_PPs]; simp))) ?_
  · have so := sorted_PP (l := (sortPP ((walkV T).map fun a => (a.2, f a.2))).map swapP) (by rw [List.length_map]; omega)
    rw [List.map_map] at so
    rw [show ((sortPP ((walkV T).map fun a => (a.2, f a.2))).map fun a => encPP (swapP a)) = (sortPP ((walkV T).map fun a => (a.2, f a.2))).map (encPP ∘ swapP) from rfl, so, sortPP_eq (m := (walkV T).map fun a => (f a.2, a.2))]
    refine ((sortPP_perm _).map _).trans ?_
    rw [List.map_map]; rfl
  refine p_set (by (simp [t3] <;> repeat' (first | apply And.intro | rfl))) ?_
  refine p_set (by (simp [r2] <;> repeat' (first | apply And.intro | rfl))) ?_
  have neO := ne_self (pl_T hO.toWh)
  refine p_chk (by (simp [r3, neO] <;> repeat' (first | apply And.intro | rfl))) ?_
  refine p_ret (ok_e2 (x := .lst ((walkV U).map fun a => strD a.1)) (y := .lst ((walkV U).map fun a => strD a.1)) ?_ (ok_compM (L := walkV U) (m := encP) (h := fun a => strD a.1) (ok_itL (ok_call1 rfl w1)) (by omega) fun a _ => by simp [encP]) (eq_self' ?_))
  · rw [List.map_map] at w2
    exact ok_compM (L := walkV U) (m := encP ∘ fun a => (a.1, gOf T U a.2)) (h := fun a => strD a.1) (ok_itL (ok_call1 rfl w2)) (by omega) fun a _ => by simp [encP]
  · refine pl_lst1 fun x hx => ?_
    obtain ⟨a, ha, rfl⟩ := List.mem_map.mp hx
    exact pl_strD (walkV_ok hU.toWh a ha) 38
end K61
end Tw

set_option autoImplicit false
set_option Elab.async false
set_option maxRecDepth 100000
namespace Tw.K61
open PySem L2
theorem all_mk {l : PySem.W.OpenLaw} {w : World} {K : PySem.W.Frag} {h : Heap} {mg : Str → Option Value} {pq : Program} {fa f0 f1 f2 f3 f4 f5 f6 f7 f8 f9 f10 f11 f12 f13 f14 : Addr} (X : K.In h) (G : h.Ns mainGlobals mg) (hfa : mg "law" = some (.ref fa)) (lawOk : ∀ ns : List Int, ns.length ≤ 63 → m_law [.inp ns] = .ok (.bl true))
    {od0 an0 od1 an1 od2 an2 od3 an3 od4 an4 od5 an5 od6 an6 od7 an7 od8 an8 od9 an9 od10 an10 od11 an11 od12 an12 od13 an13 od14 an14 : Option Addr} {sl0 sl1 sl2 sl3 sl4 sl5 sl6 sl7 sl8 sl9 sl10 sl11 sl12 sl13 sl14 : Array (Option Value)} {oc0 kV0 dc0 pm0 cd0 ct0 oc1 kV1 dc1 pm1 cd1 ct1 oc2 kV2 dc2 pm2 cd2 ct2 oc3 kV3 dc3 pm3 cd3 ct3 oc4 kV4 dc4 pm4 cd4 ct4 oc5 kV5 dc5 pm5 cd5 ct5 oc6 kV6 dc6 pm6 cd6 ct6 oc7 kV7 dc7 pm7 cd7 ct7 oc8 kV8 dc8 pm8 cd8 ct8 oc9 kV9 dc9 pm9 cd9 ct9 oc10 kV10 dc10 pm10 cd10 ct10 oc11 kV11 dc11 pm11 cd11 ct11 oc12 kV12 dc12 pm12 cd12 ct12 oc13 kV13 dc13 pm13 cd13 ct13 oc14 kV14 dc14 pm14 cd14 ct14 : Value}
    (a0 : PySem.W.nsIn K mainGlobals "book_of" = some (some (.ref f0))) (l0 : K.lookup f0 = some ⟨oc0, od0, .func (PySem.W.fnOf "book_of" "book_of" (defArgs st_book_of) (defBody st_book_of) (defScope st_book_of) .none kV0 dc0 pm0 an0 cd0 ct0), sl0⟩) (c0 : PySem.W.codeIn K cd0 "book_of" = true) (k0 : PySem.W.keepIn K (.ref f0) = true)
    (a1 : PySem.W.nsIn K mainGlobals "tree_of" = some (some (.ref f1))) (l1 : K.lookup f1 = some ⟨oc1, od1, .func (PySem.W.fnOf "tree_of" "tree_of" (defArgs st_tree_of) (defBody st_tree_of) (defScope st_tree_of) .none kV1 dc1 pm1 an1 cd1 ct1), sl1⟩) (c1 : PySem.W.codeIn K cd1 "tree_of" = true) (k1 : PySem.W.keepIn K (.ref f1) = true)
    (a2 : PySem.W.nsIn K mainGlobals "path_in" = some (some (.ref f2))) (l2 : K.lookup f2 = some ⟨oc2, od2, .func (PySem.W.fnOf "path_in" "path_in" (defArgs st_path_in) (defBody st_path_in) (defScope st_path_in) .none kV2 dc2 pm2 an2 cd2 ct2), sl2⟩) (c2 : PySem.W.codeIn K cd2 "path_in" = true) (k2 : PySem.W.keepIn K (.ref f2) = true)
    (a3 : PySem.W.nsIn K mainGlobals "walked" = some (some (.ref f3))) (l3 : K.lookup f3 = some ⟨oc3, od3, .func (PySem.W.fnOf "walked" "walked" (defArgs st_walked) (defBody st_walked) (defScope st_walked) .none kV3 dc3 pm3 an3 cd3 ct3), sl3⟩) (c3 : PySem.W.codeIn K cd3 "walked" = true) (k3 : PySem.W.keepIn K (.ref f3) = true)
    (a4 : PySem.W.nsIn K mainGlobals "kind_of" = some (some (.ref f4))) (l4 : K.lookup f4 = some ⟨oc4, od4, .func (PySem.W.fnOf "kind_of" "kind_of" (defArgs st_kind_of) (defBody st_kind_of) (defScope st_kind_of) .none kV4 dc4 pm4 an4 cd4 ct4), sl4⟩) (c4 : PySem.W.codeIn K cd4 "kind_of" = true) (k4 : PySem.W.keepIn K (.ref f4) = true)
    (a5 : PySem.W.nsIn K mainGlobals "by_paths" = some (some (.ref f5))) (l5 : K.lookup f5 = some ⟨oc5, od5, .func (PySem.W.fnOf "by_paths" "by_paths" (defArgs st_by_paths) (defBody st_by_paths) (defScope st_by_paths) .none kV5 dc5 pm5 an5 cd5 ct5), sl5⟩) (c5 : PySem.W.codeIn K cd5 "by_paths" = true) (k5 : PySem.W.keepIn K (.ref f5) = true)
    (a6 : PySem.W.nsIn K mainGlobals "rest_of" = some (some (.ref f6))) (l6 : K.lookup f6 = some ⟨oc6, od6, .func (PySem.W.fnOf "rest_of" "rest_of" (defArgs st_rest_of) (defBody st_rest_of) (defScope st_rest_of) .none kV6 dc6 pm6 an6 cd6 ct6), sl6⟩) (c6 : PySem.W.codeIn K cd6 "rest_of" = true) (k6 : PySem.W.keepIn K (.ref f6) = true)
    (a7 : PySem.W.nsIn K mainGlobals "known_again" = some (some (.ref f7))) (l7 : K.lookup f7 = some ⟨oc7, od7, .func (PySem.W.fnOf "known_again" "known_again" (defArgs st_known_again) (defBody st_known_again) (defScope st_known_again) .none kV7 dc7 pm7 an7 cd7 ct7), sl7⟩) (c7 : PySem.W.codeIn K cd7 "known_again" = true) (k7 : PySem.W.keepIn K (.ref f7) = true)
    (a8 : PySem.W.nsIn K mainGlobals "renumbered" = some (some (.ref f8))) (l8 : K.lookup f8 = some ⟨oc8, od8, .func (PySem.W.fnOf "renumbered" "renumbered" (defArgs st_renumbered) (defBody st_renumbered) (defScope st_renumbered) .none kV8 dc8 pm8 an8 cd8 ct8), sl8⟩) (c8 : PySem.W.codeIn K cd8 "renumbered" = true) (k8 : PySem.W.keepIn K (.ref f8) = true)
    (a9 : PySem.W.nsIn K mainGlobals "change_between" = some (some (.ref f9))) (l9 : K.lookup f9 = some ⟨oc9, od9, .func (PySem.W.fnOf "change_between" "change_between" (defArgs st_change_between) (defBody st_change_between) (defScope st_change_between) .none kV9 dc9 pm9 an9 cd9 ct9), sl9⟩) (c9 : PySem.W.codeIn K cd9 "change_between" = true) (k9 : PySem.W.keepIn K (.ref f9) = true)
    (a10 : PySem.W.nsIn K mainGlobals "_law_cell" = some (some (.ref f10))) (l10 : K.lookup f10 = some ⟨oc10, od10, .func (PySem.W.fnOf "_law_cell" "_law_cell" (defArgs st_cell_L) (defBody st_cell_L) (defScope st_cell_L) .none kV10 dc10 pm10 an10 cd10 ct10), sl10⟩) (c10 : PySem.W.codeIn K cd10 "_law_cell" = true) (k10 : PySem.W.keepIn K (.ref f10) = true)
    (a11 : PySem.W.nsIn K mainGlobals "_law_pick" = some (some (.ref f11))) (l11 : K.lookup f11 = some ⟨oc11, od11, .func (PySem.W.fnOf "_law_pick" "_law_pick" (defArgs st_pick_L) (defBody st_pick_L) (defScope st_pick_L) .none kV11 dc11 pm11 an11 cd11 ct11), sl11⟩) (c11 : PySem.W.codeIn K cd11 "_law_pick" = true) (k11 : PySem.W.keepIn K (.ref f11) = true)
    (a12 : PySem.W.nsIn K mainGlobals "_law_tree" = some (some (.ref f12))) (l12 : K.lookup f12 = some ⟨oc12, od12, .func (PySem.W.fnOf "_law_tree" "_law_tree" (defArgs st_tree_L) (defBody st_tree_L) (defScope st_tree_L) .none kV12 dc12 pm12 an12 cd12 ct12), sl12⟩) (c12 : PySem.W.codeIn K cd12 "_law_tree" = true) (k12 : PySem.W.keepIn K (.ref f12) = true)
    (a13 : PySem.W.nsIn K mainGlobals "_law_other_numbers" = some (some (.ref f13))) (l13 : K.lookup f13 = some ⟨oc13, od13, .func (PySem.W.fnOf "_law_other_numbers" "_law_other_numbers" (defArgs st_other_numbers_L) (defBody st_other_numbers_L) (defScope st_other_numbers_L) .none kV13 dc13 pm13 an13 cd13 ct13), sl13⟩) (c13 : PySem.W.codeIn K cd13 "_law_other_numbers" = true) (k13 : PySem.W.keepIn K (.ref f13) = true)
    (a14 : PySem.W.nsIn K mainGlobals "law" = some (some (.ref f14))) (l14 : K.lookup f14 = some ⟨oc14, od14, .func (PySem.W.fnOf "law" "law" (defArgs st_law) (defBody st_law) (defScope st_law) .none kV14 dc14 pm14 an14 cd14 ct14), sl14⟩) (c14 : PySem.W.codeIn K cd14 "law" = true) (k14 : PySem.W.keepIn K (.ref f14) = true)
    (z_dict : PySem.W.nsIn K mainGlobals "dict" = some none) (z_enumerate : PySem.W.nsIn K mainGlobals "enumerate" = some none) (z_len : PySem.W.nsIn K mainGlobals "len" = some none) (z_list : PySem.W.nsIn K mainGlobals "list" = some none) (z_max : PySem.W.nsIn K mainGlobals "max" = some none) (z_range : PySem.W.nsIn K mainGlobals "range" = some none) (z_set : PySem.W.nsIn K mainGlobals "set" = some none) (z_sorted : PySem.W.nsIn K mainGlobals "sorted" = some none) (z_tuple : PySem.W.nsIn K mainGlobals "tuple" = some none)
    : ∃ (fd : FuncData) (cs : List (Addr × Addr)) (T : List (Addr × Str)), (∀ p ∈ T, p.1 ∈ cs.map (·.2)) ∧ (∀ p ∈ cs, K.lookup p.2 = none) ∧ (∀ p ∈ cs, ∃ y : Str, ((PyProof.Rows.recsOf pq).find? (fun e => e.name == y)).isSome = true ∧ PySem.W.tabIn K y = some p) ∧ (∀ (s : Shared) (v : Value), BindsTo s fd ⟨[v], []⟩ [("_law_script", v)]) ∧ ∀ base : Heap, K.In base → base.Ns mainGlobals mg → (∀ p ∈ cs, LamX.TabB base mg p.1 p.2) → FnOk l.prog w K mg base (L2.CX l.prog w) 6 fa fd ["_law_script"] (spLaw K T) := by
  have e := hfa.symm.trans (PySem.W.mg_of X G a14)
  cases e
  have T : Tx K mg (⟨(fun _ => 0), []⟩ : XA) := ⟨PySem.W.mg_none_of X G z_dict, PySem.W.mg_none_of X G z_enumerate, PySem.W.mg_none_of X G z_len, PySem.W.mg_none_of X G z_list, PySem.W.mg_none_of X G z_max, PySem.W.mg_none_of X G z_range, PySem.W.mg_none_of X G z_set, PySem.W.mg_none_of X G z_sorted, PySem.W.mg_none_of X G z_tuple⟩
  have F0 := fun_mk (st := st_book_of) l0 c0 k0
  have F1 := fun_mk (st := st_tree_of) l1 c1 k1
  have F2 := fun_mk (st := st_path_in) l2 c2 k2
  have F3 := fun_mk (st := st_walked) l3 c3 k3
  have F4 := fun_mk (st := st_kind_of) l4 c4 k4
  have F5 := fun_mk (st := st_by_paths) l5 c5 k5
  have F6 := fun_mk (st := st_rest_of) l6 c6 k6
  have F7 := fun_mk (st := st_known_again) l7 c7 k7
  have F8 := fun_mk (st := st_renumbered) l8 c8 k8
  have F9 := fun_mk (st := st_change_between) l9 c9 k9
  have F10 := fun_mk (st := st_cell_L) l10 c10 k10
  have F11 := fun_mk (st := st_pick_L) l11 c11 k11
  have F12 := fun_mk (st := st_tree_L) l12 c12 k12
  have F13 := fun_mk (st := st_other_numbers_L) l13 c13 k13
  have F14 := fun_mk (st := st_law) l14 c14 k14
  have B0 := F0.binds (ps := ["tree"]) fun _ _ _ _ _ _ us hl => match us, hl with | [_], _ => rfl
  have B1 := F1.binds (ps := ["book"]) fun _ _ _ _ _ _ us hl => match us, hl with | [_], _ => rfl
  have B2 := F2.binds (ps := ["book", "number"]) fun _ _ _ _ _ _ us hl => match us, hl with | [_, _], _ => rfl
  have B3 := F3.binds (ps := ["tree"]) fun _ _ _ _ _ _ us hl => match us, hl with | [_], _ => rfl
  have B4 := F4.binds (ps := ["book", "number"]) fun _ _ _ _ _ _ us hl => match us, hl with | [_, _], _ => rfl
  have B5 := F5.binds (ps := ["old", "new"]) fun _ _ _ _ _ _ us hl => match us, hl with | [_, _], _ => rfl
  have B6 := F6.binds (ps := ["tree", "numbers"]) fun _ _ _ _ _ _ us hl => match us, hl with | [_, _], _ => rfl
  have B7 := F7.binds (ps := ["old", "new"]) fun _ _ _ _ _ _ us hl => match us, hl with | [_, _], _ => rfl
  have B8 := F8.binds (ps := ["old", "new"]) fun _ _ _ _ _ _ us hl => match us, hl with | [_, _], _ => rfl
  have B9 := F9.binds (ps := ["one", "other"]) fun _ _ _ _ _ _ us hl => match us, hl with | [_, _], _ => rfl
  have B10 := F10.binds (ps := ["_law_script", "_law_k"]) fun _ _ _ _ _ _ us hl => match us, hl with | [_, _], _ => rfl
  have B11 := F11.binds (ps := ["_law_script", "_law_k", "_law_many"]) fun _ _ _ _ _ _ us hl => match us, hl with | [_, _, _], _ => rfl
  have B12 := F12.binds (ps := ["_law_script", "_law_at", "_law_most"]) fun _ _ _ _ _ _ us hl => match us, hl with | [_, _, _], _ => rfl
  have B13 := F13.binds (ps := ["_law_script", "_law_at", "_law_tree_here"]) fun _ _ _ _ _ _ us hl => match us, hl with | [_, _, _], _ => rfl
  refine ⟨PySem.W.fnOf "law" "law" (defArgs st_law) (defBody st_law) (defScope st_law) .none kV14 dc14 pm14 an14 cd14 ct14, [], [], List.forall_mem_nil _, List.forall_mem_nil _, List.forall_mem_nil _, fun s v => .of_eq rfl, fun base _ _ tbs => ?_⟩
  have D_book_of := df_book_of (P := l.prog) (w := w) (base := base) (xa := (⟨(fun _ => 0), []⟩ : XA)) T  F0 B0 (PySem.W.mg_of X G a0) k0
  have D_tree_of := df_tree_of (P := l.prog) (w := w) (base := base) (xa := (⟨(fun _ => 0), []⟩ : XA)) T  F1 B1 (PySem.W.mg_of X G a1) k1
  have D_path_in := df_path_in (P := l.prog) (w := w) (base := base) (xa := (⟨(fun _ => 0), []⟩ : XA)) T  F2 B2 (PySem.W.mg_of X G a2) k2
  have D_walked := df_walked (P := l.prog) (w := w) (base := base) (xa := (⟨(fun _ => 0), []⟩ : XA)) T D_book_of D_path_in F3 B3 (PySem.W.mg_of X G a3) k3
  have D_kind_of := df_kind_of (P := l.prog) (w := w) (base := base) (xa := (⟨(fun _ => 0), []⟩ : XA)) T  F4 B4 (PySem.W.mg_of X G a4) k4
  have D_by_paths := df_by_paths (P := l.prog) (w := w) (base := base) (xa := (⟨(fun _ => 0), []⟩ : XA)) T D_book_of D_walked D_kind_of F5 B5 (PySem.W.mg_of X G a5) k5
  have D_rest_of := df_rest_of (P := l.prog) (w := w) (base := base) (xa := (⟨(fun _ => 0), []⟩ : XA)) T D_book_of D_walked D_kind_of F6 B6 (PySem.W.mg_of X G a6) k6
  have D_known_again := df_known_again (P := l.prog) (w := w) (base := base) (xa := (⟨(fun _ => 0), []⟩ : XA)) T D_by_paths D_rest_of F7 B7 (PySem.W.mg_of X G a7) k7
  have D_renumbered := df_renumbered (P := l.prog) (w := w) (base := base) (xa := (⟨(fun _ => 0), []⟩ : XA)) T D_known_again D_walked D_book_of D_tree_of F8 B8 (PySem.W.mg_of X G a8) k8
  have D_change_between := df_change_between (P := l.prog) (w := w) (base := base) (xa := (⟨(fun _ => 0), []⟩ : XA)) T D_book_of F9 B9 (PySem.W.mg_of X G a9) k9
  have D_cell_L := df_cell_L (P := l.prog) (w := w) (base := base) (xa := (⟨(fun _ => 0), []⟩ : XA)) T  F10 B10 (PySem.W.mg_of X G a10) k10
  have D_pick_L := df_pick_L (P := l.prog) (w := w) (base := base) (xa := (⟨(fun _ => 0), []⟩ : XA)) T D_cell_L F11 B11 (PySem.W.mg_of X G a11) k11
  have D_tree_L := df_tree_L (P := l.prog) (w := w) (base := base) (xa := (⟨(fun _ => 0), []⟩ : XA)) T D_pick_L F12 B12 (PySem.W.mg_of X G a12) k12
  have D_other_numbers_L := df_other_numbers_L (P := l.prog) (w := w) (base := base) (xa := (⟨(fun _ => 0), []⟩ : XA)) T D_pick_L F13 B13 (PySem.W.mg_of X G a13) k13
  exact law_imp (xa := (⟨(fun _ => 0), []⟩ : XA)) (fn_law (P := l.prog) (w := w) (base := base) (xa := (⟨(fun _ => 0), []⟩ : XA)) T D_tree_L D_other_numbers_L D_known_again D_renumbered D_change_between D_walked F14) lawOk
end Tw.K61
open PySem PySem.W PyProof.Rows in
set_option maxRecDepth 100000 in
set_option maxHeartbeats 0 in
theorem PySem.Challenge.cw_treewatch_k61_whole_itself_again_holds : PySem.Challenge.rw_treewatch_k61_whole_itself_again.Holds := by
  w_on; o_law; k_head; (case hw => w_witness2)
  k_fill
  refine Tw.law_walkT (l := PySem.Challenge.rw_treewatch_k61_whole_itself_again) (k := 6) (x := "_law_script") rfl rfl ⟨rfl, by decide, by decide⟩ (fun w h Y => PySem.W.kIn_of Y) ?F
  case F =>
    intro w mg fa h KX G hmg
    refine' Tw.K61.all_mk KX G hmg Tw.K61.law_ok ?a0 ?l0 ?c0 ?k0 ?a1 ?l1 ?c1 ?k1 ?a2 ?l2 ?c2 ?k2 ?a3 ?l3 ?c3 ?k3 ?a4 ?l4 ?c4 ?k4 ?a5 ?l5 ?c5 ?k5 ?a6 ?l6 ?c6 ?k6 ?a7 ?l7 ?c7 ?k7 ?a8 ?l8 ?c8 ?k8 ?a9 ?l9 ?c9 ?k9 ?a10 ?l10 ?c10 ?k10 ?a11 ?l11 ?c11 ?k11 ?a12 ?l12 ?c12 ?k12 ?a13 ?l13 ?c13 ?k13 ?a14 ?l14 ?c14 ?k14 ?z_dict ?z_enumerate ?z_len ?z_list ?z_max ?z_range ?z_set ?z_sorted ?z_tuple
    (case a0 => k_is)
    (case l0 => k_is)
    (case c0 => k_is)
    (case k0 => k_is)
    (case a1 => k_is)
    (case l1 => k_is)
    (case c1 => k_is)
    (case k1 => k_is)
    (case a2 => k_is)
    (case l2 => k_is)
    (case c2 => k_is)
    (case k2 => k_is)
    (case a3 => k_is)
    (case l3 => k_is)
    (case c3 => k_is)
    (case k3 => k_is)
    (case a4 => k_is)
    (case l4 => k_is)
    (case c4 => k_is)
    (case k4 => k_is)
    (case a5 => k_is)
    (case l5 => k_is)
    (case c5 => k_is)
    (case k5 => k_is)
    (case a6 => k_is)
    (case l6 => k_is)
    (case c6 => k_is)
    (case k6 => k_is)
    (case a7 => k_is)
    (case l7 => k_is)
    (case c7 => k_is)
    (case k7 => k_is)
    (case a8 => k_is)
    (case l8 => k_is)
    (case c8 => k_is)
    (case k8 => k_is)
    (case a9 => k_is)
    (case l9 => k_is)
    (case c9 => k_is)
    (case k9 => k_is)
    (case a10 => k_is)
    (case l10 => k_is)
    (case c10 => k_is)
    (case k10 => k_is)
    (case a11 => k_is)
    (case l11 => k_is)
    (case c11 => k_is)
    (case k11 => k_is)
    (case a12 => k_is)
    (case l12 => k_is)
    (case c12 => k_is)
    (case k12 => k_is)
    (case a13 => k_is)
    (case l13 => k_is)
    (case c13 => k_is)
    (case k13 => k_is)
    (case a14 => k_is)
    (case l14 => k_is)
    (case c14 => k_is)
    (case k14 => k_is)
    (case z_dict => k_is)
    (case z_enumerate => k_is)
    (case z_len => k_is)
    (case z_list => k_is)
    (case z_max => k_is)
    (case z_range => k_is)
    (case z_set => k_is)
    (case z_sorted => k_is)
    (case z_tuple => k_is)
