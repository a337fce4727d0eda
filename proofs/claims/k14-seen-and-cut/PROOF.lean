import PyProof.Rows.All
import Wide.All
import OpenK.AllK
import Wide.FinOn
import HandS.ForMost
import HandS.ForExc
import HandS.Deep
import HandS.Lambda
import HandS.Style
import HandS.TupAny
import HandS.IsInst
import HandS.Conv
import HandS.TupLen
import HandS.HotCalls
import HandS.List
import HandS.EndTab
import HandS.RevTup
import KE.DataFind
import HandS.ExcOwn
import HandS.ExcIs
import HandS.TryOnly
import HandS.Zip
import KE.KDictPairs
import HandS.TupSets
import HandS.SortRule
import KE.SortCalls
import KE.SortKeyHeap
import HandS.More
import KE.DataMinMax
import KE.GoesEnum
import HandS.NoneIn
import HandS.Codes
import KE.KDictDisplayH
import HandS.RaiseMore
import HandS.ExcCtx
import HandS.SuiteRaise
import KE.KTabLook
import KE.GoesMore
import HandS.ListItems
import HandS.DeepEq
import HandS.OwnEq
import PySem.Challenge.RW_treewatch_k14_whole_seen_and_cut
set_option Elab.async false
set_option linter.all false
set_option maxRecDepth 100000
set_option autoImplicit false
namespace Tw
abbrev Nm := List Nat
inductive Ky where
  | int (i : Int) | str (s : Nm) | tup (ks : List (Int ⊕ Nm))
  deriving DecidableEq
inductive D where
  | non | bl (b : Bool) | int (i : Int) | str (s : Nm)
  | tup (xs : List D) | lst (xs : List D) | dct (t : Bool) (kvs : List (Ky × D)) | exc (c : Nat)
  /-- the list of ints that the law is given -/
  | inp (ns : List Int)
inductive Res (α : Type) where
  | ok (a : α) | err (c : Nat) | stk
namespace Res
def bind {α β : Type} : Res α → (α → Res β) → Res β
  | .ok a, f => f a
  | .err c, _ => .err c
  | .stk, _ => .stk
@[simp] theorem bind_ok {α β : Type} (a : α) (f : α → Res β) : (Res.ok a).bind f = f a := (rfl)
@[simp] theorem bind_err {α β : Type} (c : Nat) (f : α → Res β) : (Res.err c : Res α).bind f = .err c := (rfl)
@[simp] theorem bind_stk {α β : Type} (f : α → Res β) : (Res.stk : Res α).bind f = .stk := (rfl)
def ofOpt {α : Type} : Option α → Res α
  | some a => .ok a
  | none => .stk
@[simp] theorem ofOpt_some {α : Type} (a : α) : ofOpt (some a) = .ok a := (rfl)
@[simp] theorem ofOpt_none {α : Type} : ofOpt (none : Option α) = .stk := (rfl)
end Res
def szl : Nat := 16777216
def eqvI : List Int → List D → Bool
  | [], [] => true
  | n :: ns, .int m :: ys => n == m && eqvI ns ys
  | n :: ns, .bl b :: ys => n == (if b then 1 else 0) && eqvI ns ys
  | _, _ => false
mutual
def D.eqv : D → D → Bool
  | .non, .non => true
  | .bl a, .bl b => a == b
  | .bl a, .int j => (if a then 1 else 0) == j
  | .int i, .bl b => i == (if b then 1 else 0)
  | .int i, .int j => i == j
  | .str x, .str y => x == y
  | .lst xs, .lst ys => D.eqvs xs ys
  | .tup xs, .tup ys => D.eqvs xs ys
  | .inp ns, .lst ys => eqvI ns ys
  | .lst xs, .inp ns => eqvI ns xs
  | .inp ns, .inp ms => ns == ms
  | _, _ => false
def D.eqvs : List D → List D → Bool
  | [], [] => true
  | x :: xs, y :: ys => D.eqv x y && D.eqvs xs ys
  | [], _ :: _ => false
  | _ :: _, [] => false
end
mutual
/-- plain data, at most n deep -/
def D.pl : Nat → D → Bool
  | _, .non => true
  | _, .bl _ => true
  | _, .int _ => true
  | _, .str s => s.all fun c => decide (c < 1114112)
  | n, .lst xs => match n with
    | 0 => false
    | n + 1 => D.pls n xs
  | n, .tup xs => match n with
    | 0 => false
    | n + 1 => D.pls n xs
  | n, .inp _ => match n with
    | 0 => false
    | _ + 1 => true
  | _, .dct _ _ => false
  | _, .exc _ => false
def D.pls : Nat → List D → Bool
  | _, [] => true
  | n, x :: xs => D.pl n x && D.pls n xs
end
abbrev D.good (d : D) : Bool := D.pl 40 d
def strT : Nm → List Int
  | [] => [0]
  | c :: s => ((c : Int) + 1) :: strT s
mutual
def D.toks : D → List Int
  | .non => [5]
  | .bl b => [6, if b then 1 else 0]
  | .int i => [6, i]
  | .str s => 7 :: strT s
  | .tup xs => 8 :: D.tokss xs
  | .lst xs => 9 :: D.tokss xs
  | _ => [10]
def D.tokss : List D → List Int
  | [] => [0]
  | x :: xs => 1 :: (D.toks x ++ D.tokss xs)
end
def lexI : List Int → List Int → Bool
  | [], [] => false
  | [], _ :: _ => true
  | _ :: _, [] => false
  | x :: xs, y :: ys => if x = y then lexI xs ys else decide (x < y)
def D.lt (x y : D) : Bool := lexI x.toks y.toks
def D.le (x y : D) : Bool := !(D.lt y x)
def sortD (xs : List D) : List D := xs.mergeSort D.le
mutual
/-- of one kind through and through: ints, texts, tuples of such -/
def D.alk : D → D → Bool
  | .int _, .int _ => true
  | .str _, .str _ => true
  | .tup xs, .tup ys => D.alks xs ys
  | _, _ => false
def D.alks : List D → List D → Bool
  | x :: xs, y :: ys => D.alk x y && D.alks xs ys
  | [], _ => true
  | _ :: _, [] => true
end
def D.cmps : List D → List D → Bool
  | x :: xs, y :: ys => if D.eqv x y then D.cmps xs ys else D.alk x y
  | [], _ => true
  | _ :: _, [] => true
mutual
/-- plain data without the script -/
def D.flat : Nat → D → Bool
  | _, .non => true
  | _, .bl _ => true
  | _, .int _ => true
  | _, .str s => s.all fun c => decide (c < 1114112)
  | n, .tup xs => match n with
    | 0 => false
    | n + 1 => D.flats n xs
  | _, _ => false
def D.flats : Nat → List D → Bool
  | _, [] => true
  | n, x :: xs => D.flat n x && D.flats n xs
end
def D.kind : D → Nat
  | .non => 0
  | .bl _ => 1
  | .int _ => 2
  | .str _ => 3
  | .tup _ => 4
  | _ => 5
def D.hd : D → Option Nat
  | .tup (x :: _) => some x.kind
  | _ => none
def sortable (xs : List D) : Bool :=
  xs.all (D.flat 40) && ((xs.all fun x => x.kind == 2) || (xs.all fun x => x.kind == 3) ||
    ((xs.all fun x => x.hd.isSome && xs.all fun y => x.hd == y.hd) && xs.all fun x => xs.all fun y => match x, y with
      | .tup a, .tup b => D.cmps a b
      | _, _ => false))
def kget (k : Ky) : List (Ky × D) → Option D
  | [] => none
  | (q, v) :: r => if q = k then some v else kget k r
def khas (k : Ky) (kvs : List (Ky × D)) : Bool := (kget k kvs).isSome
def kput (k : Ky) (v : D) (kvs : List (Ky × D)) : List (Ky × D) :=
  if khas k kvs then kvs.map fun p => if p.1 = k then (p.1, v) else p else kvs ++ [(k, v)]
def kdel (k : Ky) (kvs : List (Ky × D)) : List (Ky × D) := kvs.filter fun p => decide (p.1 ≠ k)
def leaf? : D → Option (Int ⊕ Nm)
  | .int i => some (.inl i)
  | .str s => some (.inr s)
  | _ => none
def leaves? : List D → Option (List (Int ⊕ Nm))
  | [] => some []
  | x :: xs => match leaf? x, leaves? xs with
    | some a, some r => some (a :: r)
    | _, _ => none
def D.key? : D → Option Ky
  | .int i => some (.int i)
  | .str s => some (.str s)
  | .tup xs => (leaves? xs).map Ky.tup
  | _ => none
def leafD : Int ⊕ Nm → D
  | .inl i => .int i
  | .inr s => .str s
def Ky.toD : Ky → D
  | .int i => .int i
  | .str s => .str s
  | .tup ks => .tup (ks.map leafD)
def Ky.isTup : Ky → Bool
  | .tup _ => true
  | _ => false
def D.kf (t : Bool) (x : D) : Option Ky := match x.key? with
  | some k => if k.isTup == t then some k else none
  | none => none
def atI {α : Type} (xs : List α) (i : Int) : Option α :=
  if 0 ≤ i then xs[i.toNat]? else if -(xs.length : Int) ≤ i then xs[(i + xs.length).toNat]? else none
def clip (n : Nat) (i : Int) : Nat := if i < 0 then (i + n).toNat else min i.toNat n
def cutL {α : Type} (xs : List α) (lo hi : Option Int) : List α :=
  let a := match lo with
    | none => 0
    | some i => clip xs.length i
  let b := match hi with
    | none => xs.length
    | some i => clip xs.length i
  (xs.drop a).take (b - a)
def D.add : D → D → Res D
  | .int i, .int j => .ok (.int (i + j))
  | .str x, .str y => if x.length + y.length ≤ szl then .ok (.str (x ++ y)) else .stk
  | .lst x, .lst y => if x.length + y.length ≤ szl then .ok (.lst (x ++ y)) else .stk
  | .tup x, .tup y => if x.length + y.length ≤ szl then .ok (.tup (x ++ y)) else .stk
  | _, _ => .stk
def D.sub : D → D → Res D
  | .int i, .int j => .ok (.int (i - j))
  | _, _ => .stk
def smallI (i : Int) : Bool := decide (-(2 ^ 64) < i) && decide (i < 2 ^ 64)
def D.mul : D → D → Res D
  | .int i, .int j => if smallI i || smallI j then .ok (.int (i * j)) else .stk
  | .lst x, .int k => if decide (-(2 ^ 62) ≤ k) && decide (k < 2 ^ 62) && decide (x.length * k.toNat ≤ szl) then .ok (.lst (List.replicate k.toNat x).flatten) else .stk
  | _, _ => .stk
def D.fdiv : D → D → Res D
  | .int i, .int j => if decide (0 < j) && decide (j < 1073741824) then .ok (.int (i / j)) else .stk
  | _, _ => .stk
def D.mod : D → D → Res D
  | .int i, .int j => if 0 < j then .ok (.int (i % j)) else .stk
  | _, _ => .stk
def D.neg : D → Res D
  | .int i => .ok (.int (-i))
  | _ => .stk
def D.eq (x y : D) : Res D := if x.good && y.good then .ok (.bl (D.eqv x y)) else .stk
def D.ne (x y : D) : Res D := if x.good && y.good then .ok (.bl (!D.eqv x y)) else .stk
def D.cmp (f : Int → Int → Bool) : D → D → Res D
  | .int i, .int j => .ok (.bl (f i j))
  | _, _ => .stk
def D.ltI : D → D → Res D := D.cmp fun i j => decide (i < j)
def D.leI : D → D → Res D := D.cmp fun i j => decide (i ≤ j)
def D.gtI : D → D → Res D := D.cmp fun i j => decide (j < i)
def D.geI : D → D → Res D := D.cmp fun i j => decide (j ≤ i)
def D.isNon : D → Bool
  | .non => true
  | _ => false
def D.isN (x : D) : Res D := .ok (.bl x.isNon)
def D.notN (x : D) : Res D := .ok (.bl (!x.isNon))
def D.has : D → D → Option Bool
  | x, .lst ys => if x.good && D.pl 40 (.lst ys) then some (ys.any fun y => D.eqv y x) else none
  | x, .tup ys => if x.good && D.pl 40 (.tup ys) then some (ys.any fun y => D.eqv y x) else none
  | .str x, .str y => match x with
    | [c] => some (decide (c ∈ y))
    | _ => none
  | x, .dct t kvs => match x.kf t with
    | some k => some (khas k kvs)
    | none => none
  | _, _ => none
def D.isIn (x c : D) : Res D := (Res.ofOpt (D.has x c)).bind fun b => .ok (.bl b)
def D.notIn (x c : D) : Res D := (Res.ofOpt (D.has x c)).bind fun b => .ok (.bl (!b))
def D.idx : D → D → Res D
  | .inp xs, .int i => (Res.ofOpt (atI xs i)).bind fun j => .ok (.int j)
  | .lst xs, .int i => Res.ofOpt (atI xs i)
  | .tup xs, .int i => Res.ofOpt (atI xs i)
  | .str s, .int i => if s.length ≤ szl then (Res.ofOpt (atI s i)).bind fun c => .ok (.str [c]) else .stk
  | .dct t kvs, x => match x.kf t with
    | some k => Res.ofOpt (kget k kvs)
    | none => .stk
  | _, _ => .stk
def D.cut (a b : Option Int) : D → Res D
  | .lst xs => .ok (.lst (cutL xs a b))
  | .tup xs => .ok (.tup (cutL xs a b))
  | .str s => if s.length ≤ szl then .ok (.str (cutL s a b)) else .stk
  | _ => .stk
def D.revL : D → Res D
  | .lst xs => .ok (.lst xs.reverse)
  | _ => .stk
def D.revT : D → Res D
  | .tup xs => .ok (.tup xs.reverse)
  | _ => .stk
def D.rev : D → Res D
  | .lst xs => .ok (.lst xs.reverse)
  | .tup xs => .ok (.tup xs.reverse)
  | _ => .stk
def D.len : D → Res D
  | .inp xs => .ok (.int xs.length)
  | .lst xs => .ok (.int xs.length)
  | .tup xs => .ok (.int xs.length)
  | .str s => if s.length ≤ szl then .ok (.int s.length) else .stk
  | .dct _ kvs => .ok (.int kvs.length)
  | _ => .stk
def D.toLst : D → Res D
  | .lst xs => .ok (.lst xs)
  | .tup xs => .ok (.lst xs)
  | .dct _ kvs => .ok (.lst (kvs.map fun kv => kv.1.toD))
  | _ => .stk
def D.toTup : D → Res D
  | .lst xs => .ok (.tup xs)
  | .tup xs => .ok (.tup xs)
  | _ => .stk
def bools? : List D → Option (List Bool)
  | [] => some []
  | .bl b :: r => (bools? r).map (b :: ·)
  | _ :: _ => none
def ints? : List D → Option (List Int)
  | [] => some []
  | .int b :: r => (ints? r).map (b :: ·)
  | _ :: _ => none
def D.all : D → Res D
  | .lst xs => (Res.ofOpt (bools? xs)).bind fun bs => .ok (.bl (bs.all id))
  | _ => .stk
def D.any : D → Res D
  | .lst xs => (Res.ofOpt (bools? xs)).bind fun bs => .ok (.bl (bs.any id))
  | _ => .stk
def D.sum : D → Res D
  | .lst xs => (Res.ofOpt (ints? xs)).bind fun bs => .ok (.int bs.sum)
  | _ => .stk
def D.sorted : D → Res D
  | .lst xs => if sortable xs && decide (xs.length ≤ szl) then .ok (.lst (sortD xs)) else .stk
  | _ => .stk
def insI (x : Int) : List Int → List Int
  | [] => [x]
  | y :: r => if x < y then x :: y :: r else if x = y then y :: r else y :: insI x r
def setI (l : List Int) : List Int := l.foldr insI []
def D.sortedSet : D → Res D
  | .lst xs => match ints? xs with
    | some is => if is.length < 64 then .ok (.lst ((setI is).map D.int)) else .stk
    | none => .stk
  | _ => .stk
def pair? : D → Option (Ky × D)
  | .tup [k, v] => k.key?.map fun q => (q, v)
  | _ => none
def pairs? : List D → Option (List (Ky × D))
  | [] => some []
  | x :: r => match pair? x, pairs? r with
    | some p, some ps => some (p :: ps)
    | _, _ => none
def kmerge (kvs more : List (Ky × D)) : List (Ky × D) := more.foldl (fun acc kv => kput kv.1 kv.2 acc) kvs
def D.dictK : D → Res D
  | .lst xs => match pairs? xs with
    | some ps => if ps.all fun p => !p.1.isTup then .ok (.dct false (kmerge [] ps)) else .stk
    | none => .stk
  | _ => .stk
def D.get1 : D → D → Res D
  | .dct t kvs, k => match k.kf t with
    | some q => .ok ((kget q kvs).getD .non)
    | none => .stk
  | _, _ => .stk
inductive Ty where
  | int | bool | str | tup | lst | dict
  deriving DecidableEq
def D.isa (t : Ty) : D → Res D
  | .non => .ok (.bl false)
  | .bl _ => .ok (.bl (t == .bool || t == .int))
  | .int _ => .ok (.bl (t == .int))
  | .str _ => .ok (.bl (t == .str))
  | .tup _ => .ok (.bl (t == .tup))
  | .lst _ => .ok (.bl (t == .lst))
  | .inp _ => .stk
  | .dct _ _ => .stk
  | .exc _ => .stk
def D.asB : D → Res Bool
  | .bl b => .ok b
  | _ => .stk
inductive Fd where
  | sh (d : D) | own (d : D)
inductive Slot where
  | un | sh (d : D) | own (d : D) | bor (d : D)
  /-- an object of class c that may be changed: one's own (false), or handed in (true); an object lent to be read -/
  | ob (m : Bool) (c : Nat) (fs : List Fd) | lo (c : Nat) (fs : List Fd)
abbrev Env := List Slot
def D.box : D → Bool
  | .inp _ => true
  | .lst _ => true
  | .dct _ _ => true
  | _ => false
def Slot.lend : Slot → Slot
  | .own d => .bor d
  | .ob _ c fs => .lo c fs
  | s => s
def wipeE : Env → List Nat → Env
  | e, [] => e
  | e, i :: r => (wipeE e r).set i .un
abbrev E := Env → Res D
abbrev T := Env → Res Bool
def eV (i : Nat) : E := fun e => match e[i]? with
  | some (.sh d) => .ok d
  | some (.bor d) => if d.box then .stk else .ok d
  | _ => .stk
def eB (i : Nat) : E := fun e => match e[i]? with
  | some (.sh d) => .ok d
  | some (.bor d) => .ok d
  | some (.own d) => .ok d
  | _ => .stk
def eC (d : D) : E := fun _ => .ok d
def e1 (f : D → Res D) (a : E) : E := fun e => (a e).bind f
def e2 (f : D → D → Res D) (a b : E) : E := fun e => (a e).bind fun x => (b e).bind fun y => f x y
def e3 (f : D → D → D → Res D) (a b c : E) : E := fun e => (a e).bind fun x => (b e).bind fun y => (c e).bind fun z => f x y z
def eL : List E → Env → Res (List D)
  | [], _ => .ok []
  | a :: r, e => (a e).bind fun x => (eL r e).bind fun xs => .ok (x :: xs)
def eTup (es : List E) : E := fun e => (eL es e).bind fun xs => .ok (.tup xs)
def eLst (es : List E) : E := fun e => (eL es e).bind fun xs => .ok (.lst xs)
def eCall (m : List D → Res D) (es : List E) : E := fun e => (eL es e).bind m
def D.asI : D → Res Int
  | .int i => .ok i
  | _ => .stk
def eP : Option E → Env → Res (Option Int)
  | none, _ => .ok none
  | some a, e => (a e).bind fun x => x.asI.bind fun i => .ok (some i)
def eSl (a : E) (lo hi : Option E) : E := fun e => (a e).bind fun x => (eP lo e).bind fun l => (eP hi e).bind fun h => D.cut l h x
def tE (a : E) : T := fun e => (a e).bind D.asB
def tAnd (a b : T) : T := fun e => (a e).bind fun x => if x then b e else .ok false
def tOr (a b : T) : T := fun e => (a e).bind fun x => if x then .ok true else b e
def tNot (a : T) : T := fun e => (a e).bind fun x => .ok (!x)
def tTrue : T := fun _ => .ok true
def eGet1 (a b : E) : E := fun e => (a e).bind fun x => match x with
  | .dct _ _ => (b e).bind fun y => D.get1 x y
  | _ => .stk
def eIf (c : T) (a b : E) : E := fun e => (c e).bind fun x => if x then a e else b e
def eAnd (a b : E) : E := fun e => (a e).bind fun x => x.asB.bind fun k => if k then b e else .ok (.bl false)
def eOr (a b : E) : E := fun e => (a e).bind fun x => x.asB.bind fun k => if k then .ok (.bl true) else b e
def eNot (a : E) : E := fun e => (a e).bind fun x => x.asB.bind fun k => .ok (.bl (!k))
def eCh (f g : D → D → Res D) (a b c : E) : E := fun e => (a e).bind fun x => (b e).bind fun y => (f x y).bind fun z => z.asB.bind fun k => if k then (c e).bind fun u => g y u else .ok (.bl false)
abbrev I := Env → Res (List D)
abbrev G := D → Env → Res Env
def D.items : D → Res (List D)
  | .inp xs => .ok (xs.map D.int)
  | .lst xs => .ok xs
  | .tup xs => .ok xs
  | .str s => .ok (s.map fun c => .str [c])
  | _ => .stk
def iE (a : E) : I := fun e => (a e).bind D.items
def D.keys : D → Res (List D)
  | .dct _ kvs => .ok (kvs.map fun kv => kv.1.toD)
  | _ => .stk
def iK (a : E) : I := fun e => (a e).bind D.keys
def rangeL (lo : Int) (n : Nat) : List D := (List.range n).map fun (k : Nat) => D.int (lo + (k : Int))
def smallR (i : Int) : Bool := decide (-(2 ^ 62) ≤ i) && decide (i < 2 ^ 62)
def rng1 : D → Res (List D)
  | .int j => if smallR j then .ok (rangeL 0 j.toNat) else .stk
  | _ => .stk
def rng2 : D → D → Res (List D)
  | .int i, .int j => if smallR i && smallR j then .ok (rangeL i (j - i).toNat) else .stk
  | _, _ => .stk
def iR1 (a : E) : I := fun e => (a e).bind rng1
def iR2 (a b : E) : I := fun e => (a e).bind fun x => (b e).bind fun y => rng2 x y
def zipL : List D → List D → List D := List.zipWith fun x y => D.tup [x, y]
def eRng (a b : E) : E := fun e => (a e).bind fun x => (b e).bind fun y => (rng2 x y).bind fun l => if l.length ≤ szl then .ok (.lst l) else .stk
def gN (i : Nat) : G := fun d e => .ok (e.set i (.sh d))
def gsGo : List G → List D → Env → Res Env
  | [], [], e => .ok e
  | g :: gs, d :: ds, e => (g d e).bind fun e1 => gsGo gs ds e1
  | _, _, _ => .stk
def gT (gs : List G) : G := fun d e => match d with
  | .tup ds => gsGo gs ds e
  | _ => .stk
def compGo (f : D → Res (Option D)) : List D → Res (List D)
  | [] => .ok []
  | x :: xs => match f x with
    | .ok o => (compGo f xs).bind fun r => .ok (match o with
      | some y => y :: r
      | none => r)
    | _ => .stk
def blkE (own : List Nat) (e : Env) : Env := (wipeE e own).map Slot.lend
def compTurn (own : List Nat) (g : G) (c : T) (a : E) (e : Env) (x : D) : Res (Option D) :=
  (g x (blkE own e)).bind fun e1 => (c e1).bind fun b => if b then (a e1).bind fun y => .ok (some y) else .ok none
def eComp (it : I) (own : List Nat) (g : G) (c : T) (a : E) : E := fun e =>
  (it e).bind fun xs => if xs.length < szl then (compGo (compTurn own g c a e) xs).bind fun ys => .ok (.lst ys) else .stk
inductive RS where
  | nx (e : Env) | rt (d : D) | bk (e : Env) | ct (e : Env) | er (c : Nat) (e : Env) | stk
  /-- return where an object that was handed in may have been changed; return of a new object -/
  | rm (d : D) (e : Env) | ro (c : Nat) (fs : List Fd)
abbrev S := Env → RS
def Res.run {α : Type} (r : Res α) (e : Env) (k : α → RS) : RS := match r with
  | .ok a => k a
  | .err c => .er c e
  | .stk => .stk
@[simp] theorem Res.run_ok {α : Type} (a : α) (e : Env) (k : α → RS) : (Res.ok a).run e k = k a := (rfl)
@[simp] theorem Res.run_err {α : Type} (c : Nat) (e : Env) (k : α → RS) : (Res.err c : Res α).run e k = .er c e := (rfl)
@[simp] theorem Res.run_stk {α : Type} (e : Env) (k : α → RS) : (Res.stk : Res α).run e k = .stk := (rfl)
def sNil : S := fun e => .nx e
def sSeq (a b : S) : S := fun e => match a e with
  | .nx e1 => b e1
  | r => r
def sSet (i : Nat) (a : E) : S := fun e => (a e).run e fun d => .nx (e.set i (.sh d))
def sOwn (i : Nat) (a : E) : S := fun e => (a e).run e fun d => .nx (e.set i (.own d))
def sAsg (g : G) (a : E) : S := fun e => (a e).run e fun d => match g d e with
  | .ok e1 => .nx e1
  | _ => .stk
def sFrz (i : Nat) : S := fun e => match e[i]? with
  | some (.own d) => .nx (e.set i (.sh d))
  | _ => .nx e
def sApp (i : Nat) (a : E) : S := fun e => match e[i]? with
  | some (.own (.lst xs)) => (a e).run e fun d => if xs.length < szl then .nx (e.set i (.own (.lst (xs ++ [d])))) else .stk
  | _ => .stk
def sPopAt (j i : Nat) (a : E) : S := fun e => match e[i]? with
  | some (.own (.lst xs)) => (a e).run e fun d => match d with
    | .int k => if 0 ≤ k ∧ k < 4611686018427387904 then (match xs[k.toNat]? with
      | some x => .nx ((e.set i (.own (.lst (xs.eraseIdx k.toNat)))).set j (.sh x))
      | none => .stk) else .stk
    | _ => .stk
  | _ => .stk
def sPut (i : Nat) (k v : E) : S := fun e => match e[i]? with
  | some (.own (.dct t kvs)) => (v e).run e fun w => (k e).run e fun q => match q.kf t with
    | some y => if kvs.length < szl then .nx (e.set i (.own (.dct t (kput y w kvs)))) else .stk
    | none => .stk
  | _ => .stk
def sPutL (i : Nat) (k v : E) : S := fun e => match e[i]? with
  | some (.own (.lst xs)) => (v e).run e fun w => (k e).run e fun q => match q with
    | .int j => if 0 ≤ j ∧ j < xs.length then .nx (e.set i (.own (.lst (xs.set j.toNat w)))) else .stk
    | _ => .stk
  | _ => .stk
def sDel (i : Nat) (k : E) : S := fun e => match e[i]? with
  | some (.own (.dct false kvs)) => (k e).run e fun q => match q.kf false with
    | some y => if khas y kvs then .nx (e.set i (.own (.dct false (kdel y kvs)))) else .stk
    | none => .stk
  | _ => .stk
def sIf (c : T) (a b : S) : S := fun e => (c e).run e fun k => if k then a e else b e
def whileGo (c : T) (b : S) : Nat → Env → RS
  | 0, _ => .stk
  | n + 1, e => (c e).run e fun k => if k then (match b e with
      | .nx e1 => whileGo c b n e1
      | .ct e1 => whileGo c b n e1
      | .bk e1 => .nx e1
      | r => r) else .nx e
def fuel : Nat := 1000000
def sWhile (c : T) (b : S) : S := fun e => whileGo c b fuel e
def forGo (g : G) (b : S) : List D → Env → RS
  | [], e => .nx e
  | x :: xs, e => match g x e with
    | .ok e1 => (match b e1 with
      | .nx e2 => forGo g b xs e2
      | .ct e2 => forGo g b xs e2
      | .bk e2 => .nx e2
      | r => r)
    | _ => .stk
def sFor (it : I) (g : G) (b : S) : S := fun e => (it e).run e fun xs => forGo g b xs e
def sBrk : S := fun e => .bk e
def sCnt : S := fun e => .ct e
def sRet (a : E) : S := fun e => (a e).run e fun d => .rt d
def sRetO (i : Nat) : S := fun e => match e[i]? with
  | some (.own d) => .rt d
  | _ => .stk
def sRaise (c : Nat) : S := fun e => .er c e
def sDrop (a : E) : S := fun e => (a e).run e fun _ => .nx e
def initE : List Bool → List D → Env
  | true :: ms, d :: ds => .bor d :: initE ms ds
  | false :: ms, d :: ds => .sh d :: initE ms ds
  | _, _ => []
def runD (ms : List Bool) (n : Nat) (b : S) (ds : List D) : Res D :=
  if ds.length = ms.length then
    match b (initE ms ds ++ List.replicate (n - ms.length) .un) with
    | .nx _ => .ok .non
    | .rt d => .ok d
    | .er c _ => .err c
    | _ => .stk
  else .stk
end Tw
set_option autoImplicit false
set_option Elab.async false
set_option linter.all false
set_option maxRecDepth 100000
namespace Tw
open PySem L2
abbrev Sl := List (Option V)
structure XA where
  ad : Nat → Addr
  tb : List (Addr × Str)
  /-- the classes of objects: where they are, the names of the fields; the object that was handed in to be changed -/
  cl : Nat → Addr × List Str
  me : Addr
instance : CoeFun XA (fun _ => Nat → Addr) := ⟨XA.ad⟩
instance : Coe XA (Nat → Addr) := ⟨XA.ad⟩
abbrev XA.at (xa : XA) (a : Addr) : XA := ⟨xa.ad, xa.tb, xa.cl, a⟩
def leafK : Int ⊕ Nm → Key
  | .inl i => .inl i
  | .inr s => .inr ⟨s.toArray⟩
def keyK : Ky → Option Key
  | .int i => some (.inl i)
  | .str s => some (.inr ⟨s.toArray⟩)
  | .tup _ => none
def keyT : Ky → Option (List Key)
  | .tup ks => some (ks.map leafK)
  | _ => none
def ErrO (C : Addr) (a : Addr) : HO := .ext fun h => ∃ oe : Obj, h.get? a = some oe ∧ oe.cls = .ref C ∧ oe.dict = none ∧ ∃ vs, oe.data = .fields vs
mutual
inductive Rep (K : PySem.W.Frag) (xa : Nat → Addr) (F : Hp) : V → D → Prop
  | non : Rep K xa F .non .non
  | bl (b : Bool) : Rep K xa F (.bl b) (.bl b)
  | int (i : Int) : Rep K xa F (.int i) (.int i)
  | str (s : Nm) : Rep K xa F (.str ⟨s.toArray⟩) (.str s)
  | tup {a : Addr} {xs : List V} {ds : List D} : F a = some (.tup xs) → Reps K xa F xs ds → Rep K xa F (.ref a) (.tup ds)
  | lst {a : Addr} {xs : List V} {ds : List D} : F a = some (.lst xs) → Reps K xa F xs ds → Rep K xa F (.ref a) (.lst ds)
  | inp {a : Addr} {ns : List Int} : SqL K F a (ns.map V.int) → Rep K xa F (.ref a) (.inp ns)
  | dK {a : Addr} {kvs : List (Key × V)} {ds : List (Ky × D)} : Rd F a (.dK kvs) → RepK K xa F kvs ds → Rep K xa F (.ref a) (.dct false ds)
  | dT {a : Addr} {kvs : List (List Key × V)} {ds : List (Ky × D)} : Rd F a (.dT kvs) → RepT K xa F kvs ds → Rep K xa F (.ref a) (.dct true ds)
  | exc {a : Addr} {c : Nat} : F a = some (ErrO (xa c) a) → Rep K xa F (.ref a) (.exc c)
inductive Reps (K : PySem.W.Frag) (xa : Nat → Addr) (F : Hp) : List V → List D → Prop
  | nil : Reps K xa F [] []
  | cons {v : V} {vs : List V} {d : D} {ds : List D} : Rep K xa F v d → Reps K xa F vs ds → Reps K xa F (v :: vs) (d :: ds)
inductive RepK (K : PySem.W.Frag) (xa : Nat → Addr) (F : Hp) : List (Key × V) → List (Ky × D) → Prop
  | nil : RepK K xa F [] []
  | cons {k : Key} {v : V} {kvs : List (Key × V)} {q : Ky} {d : D} {ds : List (Ky × D)} : keyK q = some k → Rep K xa F v d → RepK K xa F kvs ds → RepK K xa F ((k, v) :: kvs) ((q, d) :: ds)
inductive RepT (K : PySem.W.Frag) (xa : Nat → Addr) (F : Hp) : List (List Key × V) → List (Ky × D) → Prop
  | nil : RepT K xa F [] []
  | cons {k : List Key} {v : V} {kvs : List (List Key × V)} {q : Ky} {d : D} {ds : List (Ky × D)} : keyT q = some k → Rep K xa F v d → RepT K xa F kvs ds → RepT K xa F ((k, v) :: kvs) ((q, d) :: ds)
end
def isTbl : HO → Bool
  | .tbl _ => true
  | _ => false
def isFrz : HO → Bool
  | .frz _ _ => true
  | .tbl _ => true
  | _ => false
def Ke (H H' : Hp) : Prop := ∀ b o, isTbl o = false → H b = some o → H' b = some o
structure Kp (T : List (Addr × Str)) (H H' : Hp) : Prop where
  k : Ke H H'
  tb : ∀ b o, H b = some o → isTbl o = true → ∃ o', isTbl o' = true ∧ H' b = some o'
  tab : LamX.Tabs T H → LamX.Tabs T H'
def NT (F : Hp) : Prop := ∀ b o, F b = some o → isTbl o = false
theorem Ke.refl (H : Hp) : Ke H H := fun _ _ _ e => e
theorem Ke.trans {H1 H2 H3 : Hp} (a : Ke H1 H2) (b : Ke H2 H3) : Ke H1 H3 := fun c o t e => b c o t (a c o t e)
theorem Ke.of {H H' : Hp} (h : Same H H') : Ke H H' := fun b o _ e => h b o e
theorem Kp.of {T : List (Addr × Str)} {H H' : Hp} (h : Same H H') : Kp T H H' := ⟨.of h, fun b o e t => ⟨o, t, h _ _ e⟩, fun t => t.ext fun b o e => h b o e⟩
theorem Kp.refl {T : List (Addr × Str)} (H : Hp) : Kp T H H := .of (.refl _)
theorem Kp.trans {T : List (Addr × Str)} {H1 H2 H3 : Hp} (a : Kp T H1 H2) (b : Kp T H2 H3) : Kp T H1 H3 := ⟨a.k.trans b.k, fun c o e t => by
  obtain ⟨o', t', e'⟩ := a.tb c o e t
  exact b.tb c o' e' t', fun t => b.tab (a.tab t)⟩
theorem Kp.free {T : List (Addr × Str)} {H H' : Hp} (a : Kp T H H') {b : Addr} (n : H' b = none) : H b = none := by
  cases e : H b with
  | none => rfl
  | some o =>
    cases t : isTbl o with
    | false => rw [a.k b o t e] at n; cases n
    | true => obtain ⟨o', _, e'⟩ := a.tb b o e t; rw [e'] at n; cases n
theorem NT.ke {F H H' : Hp} (n : NT F) (fs : Same F H) (k : Ke H H') : Same F H' := fun b o e => k b o (n b o e) (fs b o e)
def isExt : HO → Bool
  | .ext _ => true
  | _ => false
theorem tabs_upd {T : List (Addr × Str)} {H : Hp} {a : Addr} {u o : HO} (e : H a = some u) (nt : isTbl u = false) (nx : isExt u = false) (t : LamX.Tabs T H) : LamX.Tabs T (upd H a o) := fun p hp => by
  obtain ⟨ps, h1, h2, h3⟩ := t p hp
  refine ⟨ps, by rw [upd_ne (fun z => by rw [z, e] at h1; cases h1; cases nt)]; exact h1, h2, fun pos cv hc => ?_⟩
  obtain ⟨c, e1, e2⟩ := h3 pos cv hc
  exact ⟨c, e1, by rw [upd_ne (fun z => by rw [z, e] at e2; cases e2; cases nx)]; exact e2⟩
theorem Kp.upd {T : List (Addr × Str)} {B H : Hp} {a : Addr} {u o : HO} (k : Kp T B H) (e : H a = some u) (nt : isTbl u = false) (nx : isExt u = false) (n : B a = none) : Kp T B (L2.upd H a o) :=
  ⟨fun b w t q => by rw [upd_ne (ne_of_none q n)]; exact k.k b w t q, fun b w q t => by rw [upd_ne (ne_of_none q n)]; exact k.tb b w q t, fun t => tabs_upd e nt nx (k.tab t)⟩
def RM (F F' : Hp) : Prop := ∀ a u, isFrz u = false → Rd F a u → Rd F' a u
theorem RM.of {F F' : Hp} (h : Same F F') : RM F F' := fun a u _ r => by
  rcases r with r | ⟨o, r⟩
  · exact .inl (h _ _ r)
  · exact .inr ⟨o, h _ _ r⟩
structure Up (F F' : Hp) : Prop where
  rm : RM F F'
  tup : ∀ a xs, F a = some (.tup xs) → F' a = some (.tup xs)
  ls : ∀ a xs, F a = some (.lst xs) → F' a = some (.lst xs)
  ext : ∀ a φ, F a = some (.ext φ) → F' a = some (.ext φ)
  ins : ∀ a C dx fs, F a = some (.ins C dx fs) → F' a = some (.ins C dx fs)
theorem Up.of {F F' : Hp} (h : Same F F') : Up F F' := ⟨RM.of h, fun _ _ e => h _ _ e, fun _ _ e => h _ _ e, fun _ _ e => h _ _ e, fun _ _ _ _ e => h _ _ e⟩
theorem Ke.up {F F' : Hp} (h : Ke F F') : Up F F' := ⟨fun a u n r => by
  rcases r with r | ⟨o, r⟩
  · exact .inl (h _ _ (by cases u <;> first | rfl | cases n) r)
  · exact .inr ⟨o, h _ _ rfl r⟩, fun _ _ e => h _ _ rfl e, fun _ _ e => h _ _ rfl e, fun _ _ e => h _ _ rfl e, fun _ _ _ _ e => h _ _ rfl e⟩
theorem Ke.seq {K : PySem.W.Frag} {H H' : Hp} {a : Addr} {xs : List V} (e : Ke H H') (h : SqL K H a xs) : SqL K H' a xs := by
  rcases h with (h | ⟨o, h⟩) | h
  · exact .inl (.inl (e _ _ rfl h))
  · exact .inl (.inr ⟨o, e _ _ rfl h⟩)
  · exact .inr h
theorem Up.lst {K : PySem.W.Frag} {F F' : Hp} (h : Up F F') {a : Addr} {xs : List V} (q : SqL K F a xs) : SqL K F' a xs := by
  rcases q with q | q
  · exact .inl (h.rm a _ rfl q)
  · exact .inr q
section
variable {K : PySem.W.Frag} {xa : Nat → Addr} {F F' : Hp}
theorem Rep.up (h : Up F F') {v : V} {d : D} (r : Rep K xa F v d) : Rep K xa F' v d :=
  Rep.rec (motive_1 := fun v d _ => Rep K xa F' v d) (motive_2 := fun v d _ => Reps K xa F' v d) (motive_3 := fun v d _ => RepK K xa F' v d) (motive_4 := fun v d _ => RepT K xa F' v d)
    .non .bl .int .str (fun e _ ih => .tup (h.tup _ _ e) ih) (fun e _ ih => .lst (h.ls _ _ e) ih) (fun e => .inp (h.lst e)) (fun e _ ih => .dK (h.rm _ _ rfl e) ih) (fun e _ ih => .dT (h.rm _ _ rfl e) ih) (fun e => .exc (h.ext _ _ e))
    .nil (fun _ _ i1 i2 => .cons i1 i2) .nil (fun e _ _ i1 i2 => .cons e i1 i2) .nil (fun e _ _ i1 i2 => .cons e i1 i2) r
theorem Reps.up (h : Up F F') : ∀ {v : List V} {d : List D}, Reps K xa F v d → Reps K xa F' v d := by
  intro v
  induction v with
  | nil => intro d r; cases r; exact .nil
  | cons x v ih => intro d r; cases r with | cons r t => exact .cons (r.up h) (ih t)
theorem RepK.up (h : Up F F') : ∀ {v : List (Key × V)} {d : List (Ky × D)}, RepK K xa F v d → RepK K xa F' v d := by
  intro v
  induction v with
  | nil => intro d r; cases r; exact .nil
  | cons x v ih => intro d r; cases r with | cons e r t => exact .cons e (r.up h) (ih t)
theorem RepT.up (h : Up F F') : ∀ {v : List (List Key × V)} {d : List (Ky × D)}, RepT K xa F v d → RepT K xa F' v d := by
  intro v
  induction v with
  | nil => intro d r; cases r; exact .nil
  | cons x v ih => intro d r; cases r with | cons e r t => exact .cons e (r.up h) (ih t)
theorem Rep.on (h : Same F F') {v : V} {d : D} (r : Rep K xa F v d) : Rep K xa F' v d := r.up (.of h)
theorem Reps.on (h : Same F F') {v : List V} {d : List D} (r : Reps K xa F v d) : Reps K xa F' v d := r.up (.of h)
theorem RepK.on (h : Same F F') {v : List (Key × V)} {d : List (Ky × D)} (r : RepK K xa F v d) : RepK K xa F' v d := r.up (.of h)
theorem RepT.on (h : Same F F') {v : List (List Key × V)} {d : List (Ky × D)} (r : RepT K xa F v d) : RepT K xa F' v d := r.up (.of h)
theorem Reps.length : ∀ {vs : List V} {ds : List D}, Reps K xa F vs ds → vs.length = ds.length
  | _, _, .nil => rfl
  | _, _, .cons _ t => by simp [Reps.length t]
theorem Reps.append : ∀ {vs ws : List V} {ds es : List D}, Reps K xa F vs ds → Reps K xa F ws es → Reps K xa F (vs ++ ws) (ds ++ es)
  | _, _, _, _, .nil, s => s
  | _, _, _, _, .cons r t, s => .cons r (Reps.append t s)
theorem Reps.one {v : V} {d : D} (r : Rep K xa F v d) : Reps K xa F [v] [d] := .cons r .nil
theorem Reps.get : ∀ {vs : List V} {ds : List D} {i : Nat} {d : D}, Reps K xa F vs ds → ds[i]? = some d → ∃ v, vs[i]? = some v ∧ Rep K xa F v d
  | _, _, _, _, .nil, e => by simp at e
  | _, _, 0, _, .cons r _, e => by
    simp at e
    subst e
    exact ⟨_, rfl, r⟩
  | _, _, i + 1, d, .cons _ t, e => by
    obtain ⟨u, h1, h2⟩ := Reps.get (i := i) (d := d) t (by simpa using e)
    exact ⟨u, by simpa using h1, h2⟩
theorem Reps.got : ∀ {vs : List V} {ds : List D} {i : Nat} {v : V}, Reps K xa F vs ds → vs[i]? = some v → ∃ d, ds[i]? = some d ∧ Rep K xa F v d
  | _, _, _, _, .nil, e => by simp at e
  | _, _, 0, _, .cons r _, e => by
    simp at e
    subst e
    exact ⟨_, rfl, r⟩
  | _, _, i + 1, d, .cons _ t, e => by
    obtain ⟨u, h1, h2⟩ := Reps.got (i := i) (v := d) t (by simpa using e)
    exact ⟨u, by simpa using h1, h2⟩
theorem Reps.take (n : Nat) : ∀ {vs : List V} {ds : List D}, Reps K xa F vs ds → Reps K xa F (vs.take n) (ds.take n) := by
  induction n with
  | zero => intro vs ds _; simp; exact .nil
  | succ n ih =>
    intro vs ds r
    cases r with
    | nil => simp; exact .nil
    | cons r t => simp; exact .cons r (ih t)
theorem Reps.drop (n : Nat) : ∀ {vs : List V} {ds : List D}, Reps K xa F vs ds → Reps K xa F (vs.drop n) (ds.drop n) := by
  induction n with
  | zero => intro vs ds r; simpa using r
  | succ n ih =>
    intro vs ds r
    cases r with
    | nil => simp; exact .nil
    | cons r t => simp; exact ih t
theorem Reps.reverse : ∀ {vs : List V} {ds : List D}, Reps K xa F vs ds → Reps K xa F vs.reverse ds.reverse
  | _, _, .nil => .nil
  | _, _, .cons r t => by simp; exact (Reps.reverse t).append (.one r)
theorem Reps.eraseIdx : ∀ {vs : List V} {ds : List D} (i : Nat), Reps K xa F vs ds → Reps K xa F (vs.eraseIdx i) (ds.eraseIdx i)
  | _, _, _, .nil => by simp; exact .nil
  | _, _, 0, .cons _ t => by simpa using t
  | _, _, i + 1, .cons r t => by simp; exact .cons r (Reps.eraseIdx i t)
theorem Reps.set {v : V} {d : D} (q : Rep K xa F v d) : ∀ {vs : List V} {ds : List D} (i : Nat), Reps K xa F vs ds → Reps K xa F (vs.set i v) (ds.set i d)
  | _, _, _, .nil => by simp; exact .nil
  | _, _, 0, .cons _ t => by simpa using .cons q t
  | _, _, i + 1, .cons r t => by simp; exact .cons r (Reps.set q i t)
end
def ObjAt (K : PySem.W.Frag) (xa : Nat → Addr) (F G : Hp) (a : Addr) : D → Prop
  | .lst ds => ∃ xs, G a = some (.lst xs) ∧ Reps K xa F xs ds
  | .dct false ds => ∃ kvs, Rd G a (.dK kvs) ∧ RepK K xa F kvs ds
  | .dct true ds => ∃ kvs, Rd G a (.dT kvs) ∧ RepT K xa F kvs ds
  | _ => False
def OwnAt (K : PySem.W.Frag) (xa : Nat → Addr) (F G : Hp) (a : Addr) : D → Prop
  | .lst ds => ∃ xs, G a = some (.lst xs) ∧ Reps K xa F xs ds
  | .dct false ds => ∃ kvs, G a = some (.dK kvs) ∧ RepK K xa F kvs ds
  | .dct true ds => ∃ kvs, G a = some (.dT kvs) ∧ RepT K xa F kvs ds
  | _ => False
def Bor (K : PySem.W.Frag) (xa : Nat → Addr) (F G : Hp) (v : V) (d : D) : Prop := Rep K xa F v d ∨ ∃ a, v = .ref a ∧ ObjAt K xa F G a d
section
variable {K : PySem.W.Frag} {xa : Nat → Addr} {F F' G G' : Hp} {a : Addr} {v : V} {d : D}
theorem OwnAt.obj (h : OwnAt K xa F G a d) : ObjAt K xa F G a d := by
  cases d with
  | lst ds => obtain ⟨xs, e, r⟩ := h; exact ⟨xs, e, r⟩
  | dct t ds =>
    cases t
    · obtain ⟨kvs, e, r⟩ := h; exact ⟨kvs, .inl e, r⟩
    · obtain ⟨kvs, e, r⟩ := h; exact ⟨kvs, .inl e, r⟩
  | _ => exact h
theorem ObjAt.up (f : Up F F') (g : Up G G') (h : ObjAt K xa F G a d) : ObjAt K xa F' G' a d := by
  cases d with
  | lst ds => obtain ⟨xs, e, r⟩ := h; exact ⟨xs, g.ls _ _ e, r.up f⟩
  | dct t ds =>
    cases t
    · obtain ⟨kvs, e, r⟩ := h; exact ⟨kvs, g.rm _ _ rfl e, r.up f⟩
    · obtain ⟨kvs, e, r⟩ := h; exact ⟨kvs, g.rm _ _ rfl e, r.up f⟩
  | _ => exact h
theorem OwnAt.on (f : Same F F') (g : Ke G G') (h : OwnAt K xa F G a d) : OwnAt K xa F' G' a d := by
  cases d with
  | lst ds => obtain ⟨xs, e, r⟩ := h; exact ⟨xs, g _ _ rfl e, r.on f⟩
  | dct t ds =>
    cases t
    · obtain ⟨kvs, e, r⟩ := h; exact ⟨kvs, g _ _ rfl e, r.on f⟩
    · obtain ⟨kvs, e, r⟩ := h; exact ⟨kvs, g _ _ rfl e, r.on f⟩
  | _ => exact h
theorem OwnAt.ex (h : OwnAt K xa F G a d) : ∃ o, G a = some o := by
  cases d with
  | lst ds => obtain ⟨xs, e, r⟩ := h; exact ⟨_, e⟩
  | dct t ds =>
    cases t
    · obtain ⟨kvs, e, r⟩ := h; exact ⟨_, e⟩
    · obtain ⟨kvs, e, r⟩ := h; exact ⟨_, e⟩
  | _ => exact h.elim
theorem OwnAt.notTup {xs : List V} (h : OwnAt K xa F G a d) (e : G a = some (.tup xs)) : False := by
  cases d with
  | lst ds => obtain ⟨ys, e2, _⟩ := h; rw [e] at e2; cases e2
  | dct t ds =>
    cases t
    · obtain ⟨ys, e2, _⟩ := h; rw [e] at e2; cases e2
    · obtain ⟨ys, e2, _⟩ := h; rw [e] at e2; cases e2
  | _ => exact h.elim
theorem OwnAt.notTbl {o : HO} (h : OwnAt K xa F G a d) (e : G a = some o := by assumption) : isTbl o = false := by
  cases d with
  | lst ds => obtain ⟨ys, e2, _⟩ := h; rw [e] at e2; cases e2; rfl
  | dct t ds =>
    cases t
    · obtain ⟨ys, e2, _⟩ := h; rw [e] at e2; cases e2; rfl
    · obtain ⟨ys, e2, _⟩ := h; rw [e] at e2; cases e2; rfl
  | _ => exact h.elim
theorem OwnAt.notExt {o : HO} (h : OwnAt K xa F G a d) (e : G a = some o := by assumption) : isExt o = false := by
  cases d with
  | lst ds => obtain ⟨ys, e2, _⟩ := h; rw [e] at e2; cases e2; rfl
  | dct t ds =>
    cases t
    · obtain ⟨ys, e2, _⟩ := h; rw [e] at e2; cases e2; rfl
    · obtain ⟨ys, e2, _⟩ := h; rw [e] at e2; cases e2; rfl
  | _ => exact h.elim
theorem Bor.up (f : Up F F') (g : Up G G') (h : Bor K xa F G v d) : Bor K xa F' G' v d := by
  rcases h with h | ⟨a, e, h⟩
  · exact .inl (h.up f)
  · exact .inr ⟨a, e, h.up f g⟩
theorem Bor.on (f : Same F F') (g : Up G G') (h : Bor K xa F G v d) : Bor K xa F' G' v d := h.up (.of f) g
theorem Bor.rep (h : Bor K xa F G v d) (n : d.box = false) : Rep K xa F v d := by
  rcases h with h | ⟨a, e, h⟩
  · exact h
  · cases d <;> first | exact h.elim | (simp [D.box] at n)
theorem Bor.lst_ {ds : List D} (h : Bor K xa F G v (.lst ds)) (fg : Same F G) : ∃ a xs, v = .ref a ∧ G a = some (.lst xs) ∧ Reps K xa F xs ds := by
  rcases h with h | ⟨a, e, xs, q, r⟩
  · cases h with
    | lst q r => exact ⟨_, _, rfl, fg _ _ q, r⟩
  · exact ⟨a, xs, e, q, r⟩
theorem Bor.int_ {i : Int} (h : Bor K xa F G v (.int i)) : v = .int i := by
  rcases h with h | ⟨a, e, h⟩
  · cases h; rfl
  · exact h.elim
theorem Bor.bl_ {i : Bool} (h : Bor K xa F G v (.bl i)) : v = .bl i := by
  rcases h with h | ⟨a, e, h⟩
  · cases h; rfl
  · exact h.elim
theorem Bor.non_ (h : Bor K xa F G v .non) : v = .non := by
  rcases h with h | ⟨a, e, h⟩
  · cases h; rfl
  · exact h.elim
theorem Bor.str_ {s : Nm} (h : Bor K xa F G v (.str s)) : v = .str ⟨s.toArray⟩ := by
  rcases h with h | ⟨a, e, h⟩
  · cases h; rfl
  · exact h.elim
theorem Bor.tup_ {ds : List D} (h : Bor K xa F G v (.tup ds)) : ∃ a xs, v = .ref a ∧ F a = some (.tup xs) ∧ Reps K xa F xs ds := by
  rcases h with h | ⟨a, e, h⟩
  · cases h with | tup e r => exact ⟨_, _, rfl, e, r⟩
  · exact h.elim
theorem Bor.inp_ {ns : List Int} (h : Bor K xa F G v (.inp ns)) : ∃ a, v = .ref a ∧ SqL K F a (ns.map V.int) := by
  rcases h with h | ⟨a, e, h⟩
  · cases h with | inp e => exact ⟨_, rfl, e⟩
  · exact h.elim
theorem Bor.dK_ {ds : List (Ky × D)} (h : Bor K xa F G v (.dct false ds)) (fg : Same F G) : ∃ a kvs, v = .ref a ∧ Rd G a (.dK kvs) ∧ RepK K xa F kvs ds := by
  rcases h with h | ⟨a, e, kvs, h1, h2⟩
  · cases h with | dK e r => exact ⟨_, _, rfl, RM.of fg _ _ rfl e, r⟩
  · exact ⟨a, kvs, e, h1, h2⟩
theorem Bor.dT_ {ds : List (Ky × D)} (h : Bor K xa F G v (.dct true ds)) (fg : Same F G) : ∃ a kvs, v = .ref a ∧ Rd G a (.dT kvs) ∧ RepT K xa F kvs ds := by
  rcases h with h | ⟨a, e, kvs, h1, h2⟩
  · cases h with | dT e r => exact ⟨_, _, rfl, RM.of fg _ _ rfl e, r⟩
  · exact ⟨a, kvs, e, h1, h2⟩
end
inductive Fds (P : Fd → V → Prop) : List Fd → List (Str × V) → List Str → Prop
  | nil {xs : List Str} : Fds P [] [] xs
  | cons {f : Fd} {fs : List Fd} {x : Str} {v : V} {vs : List (Str × V)} {xs : List Str} : P f v → Fds P fs vs xs → Fds P (f :: fs) ((x, v) :: vs) (x :: xs)
theorem Fds.imp {P Q : Fd → V → Prop} (h : ∀ f v, P f v → Q f v) {fs : List Fd} {vs : List (Str × V)} {xs : List Str} (r : Fds P fs vs xs) : Fds Q fs vs xs := by
  induction r with
  | nil => exact .nil
  | cons p _ ih => exact .cons (h _ _ p) ih
theorem Fds.impAt {P Q : Fd → V → Prop} {fs : List Fd} {vs : List (Str × V)} {xs : List Str} (r : Fds P fs vs xs) (h : ∀ (j : Nat) (f : Fd) (n : Str) (v : V), fs[j]? = some f → vs[j]? = some (n, v) → P f v → Q f v) : Fds Q fs vs xs := by
  induction r with
  | nil => exact .nil
  | cons p _ ih => exact .cons (h 0 _ _ _ rfl rfl p) (ih fun j f n v e1 e2 q => h (j + 1) f n v (by simpa using e1) (by simpa using e2) q)
theorem Fds.get {P : Fd → V → Prop} {fs : List Fd} {vs : List (Str × V)} {xs : List Str} (r : Fds P fs vs xs) : ∀ {j : Nat} {f : Fd}, fs[j]? = some f → ∃ x v, xs[j]? = some x ∧ vs[j]? = some (x, v) ∧ P f v := by
  induction r with
  | nil => intro j f e; simp at e
  | cons p _ ih =>
    intro j f e
    cases j with
    | zero => simp at e; subst e; exact ⟨_, _, rfl, rfl, p⟩
    | succ j => obtain ⟨x, v, h1, h2, h3⟩ := ih (j := j) (f := f) (by simpa using e); exact ⟨x, v, by simpa using h1, by simpa using h2, h3⟩
theorem Fds.got {P : Fd → V → Prop} {fs : List Fd} {vs : List (Str × V)} {xs : List Str} (r : Fds P fs vs xs) : ∀ {j : Nat} {n : Str} {v : V}, vs[j]? = some (n, v) → ∃ f, fs[j]? = some f ∧ P f v := by
  induction r with
  | nil => intro j n v e; simp at e
  | cons p _ ih =>
    intro j n v e
    cases j with
    | zero => simp at e; obtain ⟨_, rfl⟩ := e; exact ⟨_, rfl, p⟩
    | succ j => obtain ⟨f, h1, h2⟩ := ih (j := j) (n := n) (v := v) (by simpa using e); exact ⟨f, by simpa using h1, h2⟩
theorem Fds.length {P : Fd → V → Prop} {fs : List Fd} {vs : List (Str × V)} {xs : List Str} (r : Fds P fs vs xs) : vs.length = fs.length ∧ fs.length ≤ xs.length ∧ vs.map (·.1) = xs.take fs.length := by
  induction r with
  | nil => simp
  | cons p _ ih => simp [ih.1, ih.2.1, ih.2.2]
def FdOk (K : PySem.W.Frag) (xa : Nat → Addr) (B F H : Hp) : Fd → V → Prop
  | .sh d, v => Rep K xa F v d
  | .own d, v => ∃ p, v = .ref p ∧ F p = none ∧ B p = none ∧ OwnAt K xa F H p d
def FdLo (K : PySem.W.Frag) (xa : Nat → Addr) (B F : Hp) : Fd → V → Prop
  | .sh d, v => Rep K xa F v d
  | .own d, v => ∃ p, v = .ref p ∧ ObjAt K xa F B p d
theorem FdLo.up {K : PySem.W.Frag} {xa : Nat → Addr} {B B' F F' : Hp} (f : Up F F') (b : Up B B') {x : Fd} {v : V} (h : FdLo K xa B F x v) : FdLo K xa B' F' x v := by
  cases x with
  | sh d => exact Rep.up f h
  | own d => obtain ⟨p, e, o⟩ := h; exact ⟨p, e, o.up f b⟩
def SlotOk (K : PySem.W.Frag) (xa : XA) (B F H : Hp) : Slot → Option (Option V) → Prop
  | .un, _ => True
  | .sh d, o => ∃ v, o = some (some v) ∧ Rep K xa F v d
  | .bor d, o => ∃ v, o = some (some v) ∧ Bor K xa F B v d
  | .own d, o => ∃ a, o = some (some (.ref a)) ∧ F a = none ∧ B a = none ∧ OwnAt K xa F H a d
  | .ob m c fs, o => ∃ a, o = some (some (.ref a)) ∧ F a = none ∧ B a = none ∧ (m = true → a = xa.me) ∧ ∃ dx vs, H a = some (.ins (xa.cl c).1 dx vs) ∧ Fds (FdOk K xa B F H) fs vs (xa.cl c).2
  | .lo c fs, o => ∃ a, o = some (some (.ref a)) ∧ ∃ dx vs, B a = some (.ins (xa.cl c).1 dx vs) ∧ Fds (FdLo K xa B F) fs vs (xa.cl c).2
def PlS (H : Hp) (k : Nat) (a : Addr) : Slot → Option (Option V) → Prop
  | .own _, o => k = 0 ∧ o = some (some (.ref a))
  | .ob _ _ fs, o => ∃ b C dx vs, o = some (some (.ref b)) ∧ H b = some (.ins C dx vs) ∧ ((k = 0 ∧ a = b) ∨ ∃ j d n, k = j + 1 ∧ fs[j]? = some (.own d) ∧ vs[j]? = some (n, .ref a))
  | _, _ => False
structure Sim (K : PySem.W.Frag) (xa : XA) (B F : Hp) (env : Env) (σ : Sl) (H : Hp) : Prop where
  len : env.length = σ.length
  hB : Kp xa.tb B H
  hF : Same F H
  nt : NT F
  tab : LamX.Tabs xa.tb H
  sl : ∀ (i : Nat) (s : Slot), env[i]? = some s → SlotOk K xa B F H s σ[i]?
  pl : ∀ (i j k l : Nat) (a : Addr) (s t : Slot), env[i]? = some s → env[j]? = some t → PlS H k a s σ[i]? → PlS H l a t σ[j]? → i = j ∧ k = l
theorem Sim.ap {K : PySem.W.Frag} {xa : XA} {B F H : Hp} {env : Env} {σ : Sl} (S : Sim K xa B F env σ H) (i j : Nat) (a : Addr) (d d' : D) (h1 : env[i]? = some (.own d)) (h2 : env[j]? = some (.own d')) (h3 : σ[i]? = some (some (.ref a))) (h4 : σ[j]? = some (some (.ref a))) : i = j :=
  (S.pl i j 0 0 a _ _ h1 h2 ⟨rfl, h3⟩ ⟨rfl, h4⟩).1
section
variable {K : PySem.W.Frag} {xa : XA} {B F F' H H' : Hp} {env : Env} {σ : Sl} {s : Slot} {o : Option (Option V)} {a : Addr} {k : Nat}
theorem PlS.there (h : SlotOk K xa B F H s o) (p : PlS H k a s o) : F a = none ∧ B a = none ∧ ∃ u, H a = some u ∧ isTbl u = false ∧ isExt u = false ∧ ∀ xs, u ≠ .tup xs := by
  cases s with
  | own d =>
    obtain ⟨_, e⟩ := p
    obtain ⟨b, e', nF, nB, ow⟩ := h
    rw [e] at e'
    cases e'
    obtain ⟨u, hu⟩ := ow.ex
    exact ⟨nF, nB, u, hu, ow.notTbl hu, ow.notExt hu, fun xs z => by subst z; exact ow.notTup hu⟩
  | ob m c fs =>
    obtain ⟨b, e, nF, nB, _, dx, vs, hb, r⟩ := h
    obtain ⟨b', C, dx', vs', e', hb', q⟩ := p
    rw [e] at e'
    cases e'
    rw [hb] at hb'
    cases hb'
    rcases q with ⟨_, rfl⟩ | ⟨j, d, n, _, h1, h2⟩
    · exact ⟨nF, nB, _, hb, rfl, rfl, fun xs z => by cases z⟩
    · obtain ⟨x, v, _, h3, h4⟩ := r.get h1
      rw [h2] at h3
      cases h3
      obtain ⟨p, ep, nF', nB', ow⟩ := h4
      cases ep
      obtain ⟨u, hu⟩ := ow.ex
      exact ⟨nF', nB', u, hu, ow.notTbl hu, ow.notExt hu, fun xs z => by subst z; exact ow.notTup hu⟩
  | _ => exact p.elim
theorem OwnAt.at' {K : PySem.W.Frag} {xa : Nat → Addr} {F F' H H' : Hp} {a : Addr} {d : D} (h : OwnAt K xa F H a d) (f : Up F F') (e : H' a = H a) : OwnAt K xa F' H' a d := by
  cases d with
  | lst ds => obtain ⟨xs, e1, r⟩ := h; exact ⟨xs, e.trans e1, r.up f⟩
  | dct t ds =>
    cases t
    · obtain ⟨xs, e1, r⟩ := h; exact ⟨xs, e.trans e1, r.up f⟩
    · obtain ⟨xs, e1, r⟩ := h; exact ⟨xs, e.trans e1, r.up f⟩
  | _ => exact h.elim
theorem SlotOk.keepU {B' : Hp} (h : SlotOk K xa B F H s o) (f : Up F F') (b : Up B B') (st : ∀ k a, PlS H k a s o → F' a = none ∧ B' a = none ∧ H' a = H a) : SlotOk K xa B' F' H' s o := by
  cases s with
  | un => trivial
  | sh d => obtain ⟨v, e, r⟩ := h; exact ⟨v, e, r.up f⟩
  | bor d => obtain ⟨v, e, r⟩ := h; exact ⟨v, e, r.up f b⟩
  | own d =>
    obtain ⟨a, e, nF, nB, r⟩ := h
    obtain ⟨h1, h3, h2⟩ := st 0 a ⟨rfl, e⟩
    exact ⟨a, e, h1, h3, r.at' f h2⟩
  | ob m c fs =>
    obtain ⟨a, e, nF, nB, me, dx, vs, ha, r⟩ := h
    obtain ⟨h1, h3, h2⟩ := st 0 a ⟨a, _, dx, vs, e, ha, .inl ⟨rfl, rfl⟩⟩
    refine ⟨a, e, h1, h3, me, dx, vs, h2.trans ha, r.impAt fun j f' n v e1 e2 q => ?_⟩
    cases f' with
    | sh d => exact Rep.up f q
    | own d =>
      obtain ⟨p, rfl, nFp, nBp, ow⟩ := q
      obtain ⟨h4, h6, h5⟩ := st (j + 1) p ⟨a, _, dx, vs, e, ha, .inr ⟨j, d, n, rfl, e1, e2⟩⟩
      exact ⟨p, rfl, h4, h6, ow.at' f h5⟩
  | lo c fs =>
    obtain ⟨a, e, dx, vs, ha, r⟩ := h
    exact ⟨a, e, dx, vs, b.ins _ _ _ _ ha, r.imp fun f' v q => q.up f b⟩
theorem SlotOk.keep (h : SlotOk K xa B F H s o) (f : Same F F') (st : ∀ k a, PlS H k a s o → F' a = none ∧ H' a = H a) : SlotOk K xa B F' H' s o :=
  h.keepU (.of f) (.of (.refl _)) fun k a p => ⟨(st k a p).1, (p.there h).2.1, (st k a p).2⟩
theorem PlS.keep (h : SlotOk K xa B F H s o) (st : ∀ k a, PlS H k a s o → H' a = H a) (p : PlS H' k a s o) : PlS H k a s o := by
  cases s with
  | own d => exact p
  | ob m c fs =>
    obtain ⟨b, e, nF, nB, _, dx, vs, hb, r⟩ := h
    obtain ⟨b', C, dx', vs', e', hb', q⟩ := p
    have h2 := st 0 b ⟨b, _, dx, vs, e, hb, .inl ⟨rfl, rfl⟩⟩
    rw [e] at e'
    cases e'
    exact ⟨b, C, dx', vs', e, h2.symm.trans hb', q⟩
  | _ => exact p.elim
theorem Sim.frameU {B' : Hp} (S : Sim K xa B F env σ H) (hB : Kp xa.tb B' H') (hF : Same F' H') (nt : NT F') (tab : LamX.Tabs xa.tb H') (f : Up F F') (b : Up B B')
    (st : ∀ (i k : Nat) (a : Addr) (s : Slot), env[i]? = some s → PlS H k a s σ[i]? → F' a = none ∧ B' a = none ∧ H' a = H a) : Sim K xa B' F' env σ H' :=
  ⟨S.len, hB, hF, nt, tab, fun i s e => (S.sl i s e).keepU f b fun k a p => st i k a s e p, fun i j k l a s t e1 e2 p q =>
    S.pl i j k l a s t e1 e2 (p.keep (S.sl i s e1) fun k a p => (st i k a s e1 p).2.2) (q.keep (S.sl j t e2) fun k a p => (st j k a t e2 p).2.2)⟩
theorem Sim.frame (S : Sim K xa B F env σ H) {B' : Hp} (hB : Kp xa.tb B' H') (bb : ∀ a, B a = none → B' a = none) (ub : Up B B') (hF : Same F' H') (nt : NT F') (tab : LamX.Tabs xa.tb H') (f : Same F F')
    (st : ∀ (i k : Nat) (a : Addr) (s : Slot), env[i]? = some s → PlS H k a s σ[i]? → F' a = none ∧ H' a = H a) : Sim K xa B' F' env σ H' :=
  S.frameU hB hF nt tab (.of f) ub fun i k a s e p => ⟨(st i k a s e p).1, bb a (p.there (S.sl i s e)).2.1, (st i k a s e p).2⟩
theorem Sim.put (S : Sim K xa B F env σ H) (i : Nat) (s' : Slot) (o' : Option V) (hB : Kp xa.tb B H') (hF : Same F' H') (nt : NT F') (tab : LamX.Tabs xa.tb H') (f : Same F F')
    (st : ∀ (j k : Nat) (a : Addr) (s : Slot), j ≠ i → env[j]? = some s → PlS H k a s σ[j]? → F' a = none ∧ H' a = H a) (ok : i < env.length → SlotOk K xa B F' H' s' (some o'))
    (nw : ∀ (j k l : Nat) (a : Addr) (s : Slot), j ≠ i → env[j]? = some s → PlS H k a s σ[j]? → ¬ PlS H' l a s' (some o')) (inj : ∀ (k l : Nat) (a : Addr), PlS H' k a s' (some o') → PlS H' l a s' (some o') → k = l) :
    Sim K xa B F' (env.set i s') (σ.set i o') H' := by
  have at_ : ∀ {t : Slot}, (env.set i s')[i]? = some t → t = s' ∧ i < env.length ∧ (σ.set i o')[i]? = some o' := fun {t} e => by
    have hi : i < env.length := by simpa using (List.getElem?_eq_some_iff.mp e).1
    rw [List.getElem?_set_self hi] at e
    cases e
    exact ⟨rfl, hi, List.getElem?_set_self (by rw [← S.len]; exact hi)⟩
  refine ⟨by simp [S.len], hB, hF, nt, tab, fun j s e => ?_, fun j j' k l a s t e1 e2 p q => ?_⟩
  · by_cases h : i = j
    · subst h
      obtain ⟨rfl, hi, e'⟩ := at_ e
      rw [e']
      exact ok hi
    · rw [List.getElem?_set_ne h] at e ⊢
      exact (S.sl j s e).keep f fun k a p => st j k a s (Ne.symm h) e p
  · by_cases h : i = j
    · subst h
      obtain ⟨rfl, hi, e'⟩ := at_ e1
      rw [e'] at p
      by_cases h' : i = j'
      · subst h'
        obtain ⟨rfl, _, _⟩ := at_ e2
        rw [e'] at q
        exact ⟨rfl, inj k l a p q⟩
      · rw [List.getElem?_set_ne h'] at e2 q
        have q' := q.keep (S.sl j' t e2) fun k a p => (st j' k a t (Ne.symm h') e2 p).2
        exact (nw j' l k a t (Ne.symm h') e2 q' p).elim
    · rw [List.getElem?_set_ne h] at e1 p
      have p' := p.keep (S.sl j s e1) fun k a p => (st j k a s (Ne.symm h) e1 p).2
      by_cases h' : i = j'
      · subst h'
        obtain ⟨rfl, hi, e'⟩ := at_ e2
        rw [e'] at q
        exact (nw j k l a s (Ne.symm h) e1 p' q).elim
      · rw [List.getElem?_set_ne h'] at e2 q
        have q' := q.keep (S.sl j' t e2) fun k a p => (st j' k a t (Ne.symm h') e2 p).2
        exact S.pl j j' k l a s t e1 e2 p' q'
theorem Sim.put0 (S : Sim K xa B F env σ H) (i : Nat) (s' : Slot) (o' : Option V) (ok : SlotOk K xa B F H s' (some o')) (no : ∀ (l : Nat) (a : Addr), ¬ PlS H l a s' (some o')) : Sim K xa B F (env.set i s') (σ.set i o') H :=
  S.put i s' o' S.hB S.hF S.nt S.tab (.refl _) (fun j k a s _ e p => ⟨(p.there (S.sl j s e)).1, rfl⟩) (fun _ => ok) (fun _ _ l a _ _ _ _ => no l a) fun k l a p _ => (no k a p).elim
theorem set_at {i : Nat} {v : Option V} (h : σ[i]? = some v) : σ.set i v = σ := by
  apply List.ext_getElem?
  intro j
  by_cases e : i = j
  · subst e
    rw [List.getElem?_set_self (List.getElem?_eq_some_iff.mp h).1, h]
  · rw [List.getElem?_set_ne e]
end
structure Ext (T : List (Addr × Str)) (F H F' H' : Hp) : Prop where
  f : Same F F'
  h : Kp T H H'
  le : Same F' H'
  new : ∀ a o, F' a = some o → F a = some o ∨ H a = none ∨ ∃ xs, o = .tup xs
  nt : NT F → NT F'
section
variable {T : List (Addr × Str)}
theorem Ext.refl {F H : Hp} (h : Same F H) : Ext T F H F H := ⟨.refl _, .refl _, h, fun _ _ e => .inl e, id⟩
theorem Ext.trans {F H F1 H1 F2 H2 : Hp} (a : Ext T F H F1 H1) (b : Ext T F1 H1 F2 H2) : Ext T F H F2 H2 :=
  ⟨a.f.trans b.f, a.h.trans b.h, b.le, fun c o e => by
    rcases b.new c o e with q | q | q
    · exact a.new c o q
    · exact .inr (.inl (a.h.free q))
    · exact .inr (.inr q), fun n => b.nt (a.nt n)⟩
theorem NT.upd {F : Hp} {p : Addr} {o : HO} (n : NT F) (h : isTbl o = false) : NT (L2.upd F p o) := fun b u e => by
  by_cases hb : b = p
  · subst hb; rw [upd_same] at e; cases e; exact h
  · rw [upd_ne hb] at e; exact n b u e
theorem Ext.grow {F H : Hp} {p : Addr} {o : HO} (h : Same F H) (n : H p = none) (ho : isTbl o = false := by rfl) : Ext T F H (upd F p o) (upd H p o) := by
  have nF : F p = none := h.free n
  refine ⟨fun b u e => ?_, .of fun b u e => ?_, fun b u e => ?_, fun b u e => ?_, fun t => t.upd ho⟩
  · rw [upd_ne (ne_of_none e nF)]; exact e
  · rw [upd_ne (ne_of_none e n)]; exact e
  · by_cases hb : b = p
    · subst hb; rw [upd_same] at e ⊢; exact e
    · rw [upd_ne hb] at e ⊢; exact h _ _ e
  · by_cases hb : b = p
    · subst hb; exact .inr (.inl n)
    · rw [upd_ne hb] at e; exact .inl e
theorem Ext.heap {F H : Hp} {p : Addr} {o : HO} (h : Same F H) (n : H p = none) : Ext T F H F (upd H p o) :=
  ⟨.refl _, .of fun b u e => by rw [upd_ne (ne_of_none e n)]; exact e, fun b u e => by rw [upd_ne (ne_of_none (h _ _ e) n)]; exact h _ _ e, fun _ _ e => .inl e, id⟩
end
section
variable {K : PySem.W.Frag} {xa : XA} {B F F' H H' : Hp} {env : Env} {σ : Sl}
theorem Sim.ext (S : Sim K xa B F env σ H) (x : Ext xa.tb F H F' H') : Sim K xa B F' env σ H' :=
  S.frame (S.hB.trans x.h) (fun _ e => e) (.of (.refl _)) x.le (x.nt S.nt) (x.h.tab S.tab) x.f fun i k a s e p => by
    obtain ⟨nF, nB, u, hu, n1, n2, n3⟩ := p.there (S.sl i s e)
    have h' := x.h.k _ _ n1 hu
    refine ⟨?_, h'.trans hu.symm⟩
    cases z : F' a with
    | none => rfl
    | some w =>
      rcases x.new a w z with y | y | ⟨xs, y⟩
      · rw [nF] at y; cases y
      · rw [hu] at y; cases y
      · have h1 := x.le _ _ z
        rw [h', y] at h1
        exact absurd (Option.some.inj h1) (n3 xs)
end
def Post {α : Type} (xa : XA) (W : WX) (σ : Sl) (F H : Hp) (r : Res α) (k : α → Hp → Hp → Prop) : Prop := match r with
  | .ok a => ∀ F' H', Ext xa.tb F H F' H' → k a F' H'
  | .err c => ∀ F' H', Ext xa.tb F H F' H' → W (.ref (xa c)) none σ H'
  | .stk => False
section
variable {α β : Type} {xa : XA} {W : WX} {σ : Sl} {F H F1 H1 : Hp} {r : Res α} {k : α → Hp → Hp → Prop}
theorem Post.on (p : Post xa W σ F H r k) (x : Ext xa.tb F H F1 H1) : Post xa W σ F1 H1 r k := by
  cases r with
  | ok a => exact fun F' H' y => p F' H' (x.trans y)
  | err c => exact fun F' H' y => p F' H' (x.trans y)
  | stk => exact p
theorem Post.imp {k' : α → Hp → Hp → Prop} (p : Post xa W σ F H r k) (h : ∀ a F' H', r = .ok a → Ext xa.tb F H F' H' → k a F' H' → k' a F' H') : Post xa W σ F H r k' := by
  cases r with
  | ok a => exact fun F' H' y => h a F' H' rfl y (p F' H' y)
  | err c => exact p
  | stk => exact p
theorem Post.bind {f : α → Res β} {k : β → Hp → Hp → Prop} (p : Post xa W σ F H (r.bind f) k) : Post xa W σ F H r (fun a F' H' => Post xa W σ F' H' (f a) k) := by
  cases r with
  | ok a => exact fun F' H' y => Post.on (r := f a) p y
  | err c => exact p
  | stk => exact p
end
variable (K : PySem.W.Frag) (xa : XA) (W : WX)
def pB (f : E) : TE := fun σ H Q => ∃ B F env, Sim K xa B F env σ H ∧ Post xa W σ F H (f env) fun d F' H' => ∀ v, Bor K xa F' H' v d → Q v H'
def pE (f : E) : TE := fun σ H Q => ∃ B F env, Sim K xa B F env σ H ∧ Post xa W σ F H (f env) fun d F' H' => ∀ v, Rep K xa F' v d → Q v H'
def pF (f : E) : TE := fun σ H Q => ∃ B F env, Sim K xa B F env σ H ∧ Post xa W σ F H (f env) fun d F' H' => ∀ a, H a = none → F' a = none → OwnAt K xa F' H' a d → Q (.ref a) H'
def pT (t : T) : TT := fun σ H Q => ∃ B F env, Sim K xa B F env σ H ∧ Post xa W σ F H (t env) fun b _ H' => Q b H'
variable {K xa W}
structure RB (X : Cx) (xa : XA) (W : WX) (e : Expr) (f : E) : Prop where
  pe : PE X e (pB X.K xa W f)
structure RE (X : Cx) (xa : XA) (W : WX) (e : Expr) (f : E) : Prop where
  pe : PE X e (pE X.K xa W f)
structure RF (X : Cx) (xa : XA) (W : WX) (e : Expr) (f : E) : Prop where
  pe : PE X e (pF X.K xa W f)
structure RT (X : Cx) (xa : XA) (W : WX) (e : Expr) (t : T) : Prop where
  pt : PT X e (pT X.K xa W t)
structure RW (X : Cx) (xa : XA) (W : WX) (e : Expr) (t : T) : Prop where
  pw : PW X e (pT X.K xa W t)
theorem peW {X : Cx} {e : Expr} {t t' : TE} (p : PE X e t) (h : ∀ σ H Q, t' σ H Q → t σ H Q) : PE X e t' := ⟨fun pins s σ H Q I q => p.run pins s σ H Q I (h σ H Q q)⟩
theorem ptW {X : Cx} {e : Expr} {t t' : TT} (p : PT X e t) (h : ∀ σ H Q, t' σ H Q → t σ H Q) : PT X e t' := ⟨fun pins s σ H Q I q => p.run pins s σ H Q I (h σ H Q q)⟩
theorem pwW {X : Cx} {e : Expr} {t t' : TT} (p : PW X e t) (h : ∀ σ H Q, t' σ H Q → t σ H Q) : PW X e t' := ⟨fun wh pins s σ H Q I q => p.run wh pins s σ H Q I (h σ H Q q)⟩
section
variable {X : Cx} {e : Expr} {f : E} {t : T}
theorem RE.toB (h : RE X xa W e f) : RB X xa W e f := ⟨peW h.pe fun σ H Q ⟨B, F, env, S, p⟩ => ⟨B, F, env, S, p.imp fun d F' H' _ _ q v r => q v (.inl r)⟩⟩
theorem Ext.share {T : List (Addr × Str)} {F H F' H' : Hp} (x : Ext T F H F' H') {a : Addr} {o : HO} (n : H a = none) (nF : F' a = none) (e : H' a = some o) (ho : isTbl o = false) : Ext T F H (upd F' a o) H' := by
  refine ⟨fun b u q => ?_, x.h, fun b u q => ?_, fun b u q => ?_, fun t => (x.nt t).upd ho⟩
  · rw [upd_ne (ne_of_none (x.f _ _ q) nF)]; exact x.f _ _ q
  · by_cases hb : b = a
    · subst hb; rw [upd_same] at q; rw [← q]; exact e
    · rw [upd_ne hb] at q; exact x.le _ _ q
  · by_cases hb : b = a
    · subst hb; exact .inr (.inl n)
    · rw [upd_ne hb] at q; exact x.new _ _ q
theorem same_upd {F : Hp} {a : Addr} {o : HO} (n : F a = none) : Same F (upd F a o) := fun b u q => by
  rw [upd_ne (ne_of_none q n)]; exact q
theorem OwnAt.rep' {K : PySem.W.Frag} {F G : Hp} {a : Addr} {d : D} (h : OwnAt K xa F G a d) (n : F a = none) : ∃ o, G a = some o ∧ Rep K xa (upd F a o) (.ref a) d := by
  cases d with
  | lst ds =>
    obtain ⟨xs, e, r⟩ := h
    exact ⟨_, e, .lst upd_same (r.on (same_upd n))⟩
  | dct t ds =>
    cases t
    · obtain ⟨kvs, e, r⟩ := h; exact ⟨_, e, .dK (.inl upd_same) (r.on (same_upd n))⟩
    · obtain ⟨kvs, e, r⟩ := h; exact ⟨_, e, .dT (.inl upd_same) (r.on (same_upd n))⟩
  | _ => exact h.elim
theorem RF.toE (h : RF X xa W e f) : RE X xa W e f := ⟨peW h.pe fun σ H Q ⟨B, F, env, S, p⟩ => by
  refine ⟨B, F, env, S, ?_⟩
  cases q : f env with
  | ok d =>
    rw [q] at p
    intro F' H' x a n nF o
    obtain ⟨u, e, r⟩ := o.rep' nF
    exact p _ _ (x.share n nF e (o.notTbl e)) _ r
  | err c => rw [q] at p; exact p
  | stk => rw [q] at p; exact p⟩
theorem RF.toB (h : RF X xa W e f) : RB X xa W e f := h.toE.toB
end
end Tw
set_option autoImplicit false
set_option Elab.async false
set_option linter.all false
set_option maxRecDepth 100000
namespace Tw
open PySem L2
theorem szl_eq : szl = sizeLine := by rw [sizeLine_eq]; rfl
section
variable {K : PySem.W.Frag} {xa : XA}
def Ans (K : PySem.W.Frag) (xa : XA) (F H : Hp) (r : Res D) (p : VK → Prop) : Prop := match r with
  | .ok z => ∀ Q : VK, (∀ F' H', Ext xa.tb F H F' H' → ∀ v, Rep K xa F' v z → Q v H') → p Q
  | .err _ => False
  | .stk => True
def Ok2 (K : PySem.W.Frag) (xa : XA) (r : R2) (f : D → D → Res D) : Prop := ∀ (F H : Hp) (x y : V) (d e : D), Same F H → Bor K xa F H x d → Bor K xa F H y e → Ans K xa F H (f d e) (r x y H)
theorem Ans.post {F H : Hp} {r : Res D} {p : VK → Prop} {W : WX} {σ : Sl} {Q : VK} (a : Ans K xa F H r p) (q : Post xa W σ F H r fun d F' H' => ∀ v, Rep K xa F' v d → Q v H') : p Q := by
  cases r with
  | ok z => exact a Q q
  | err c => exact a.elim
  | stk => exact q.elim
theorem ans_val {F H : Hp} {z : D} {v : V} {p : VK → Prop} (fs : Same F H) (hv : ∀ F' : Hp, Rep K xa F' v z) (h : ∀ Q : VK, Q v H → p Q) : Ans K xa F H (.ok z) p := fun Q q => h Q (q F H (.refl fs) v (hv F))
theorem ans_rep {F H : Hp} {z : D} {v : V} {p : VK → Prop} (fs : Same F H) (hv : Rep K xa F v z) (h : ∀ Q : VK, Q v H → p Q) : Ans K xa F H (.ok z) p := fun Q q => h Q (q F H (.refl fs) v hv)
theorem ans_lst {F H : Hp} {ds : List D} {xs : List V} {p : VK → Prop} (fs : Same F H) (r : Reps K xa F xs ds) (h : ∀ Q : VK, (∀ a, H a = none → Q (.ref a) (upd H a (.lst xs))) → p Q) : Ans K xa F H (.ok (.lst ds)) p := fun Q q =>
  h Q fun a n => q _ _ (.grow fs n) _ (.lst upd_same (r.on (same_upd (fs.free n))))
theorem ans_tup {F H : Hp} {ds : List D} {xs : List V} {p : VK → Prop} (fs : Same F H) (r : Reps K xa F xs ds) (h : ∀ Q : VK, (∀ a, H a = none → Q (.ref a) (upd H a (.tup xs))) → p Q) : Ans K xa F H (.ok (.tup ds)) p := fun Q q =>
  h Q fun a n => q _ _ (.grow fs n) _ (.tup upd_same (r.on (same_upd (fs.free n))))
theorem ok_add {X : Cx} : ∃ r, OpR X (binaryOp .Add) r ∧ Ok2 X.K xa r D.add := by
  refine ⟨_, (op_add.or (op_add_str.or (op_cat.or op_catA))), fun F H x y d e fs bx by_ => ?_⟩
  cases d <;> cases e <;> try exact trivial
  · -- ints
    rw [bx.int_, by_.int_]
    exact ans_val fs (fun _ => .int _) fun Q q => .inl ⟨_, _, rfl, rfl, q⟩
  · rename_i s t
    rw [bx.str_, by_.str_]
    simp only [D.add]
    split
    · rename_i h
      refine ans_val (v := .str (⟨s.toArray⟩ ++ ⟨t.toArray⟩)) fs (fun F' => ?_) fun Q q => .inr (.inl ⟨_, _, rfl, rfl, ?_, q⟩)
      · have e : ((⟨s.toArray⟩ : Str) ++ ⟨t.toArray⟩) = ⟨(s ++ t).toArray⟩ := by
          show (⟨s.toArray ++ t.toArray⟩ : Str) = _
          simp
        rw [e]; exact .str _
      · rw [szl_eq] at h
        simpa [Str.length] using h
    · trivial
  · obtain ⟨a, xs, rfl, ea, ra⟩ := bx.tup_
    obtain ⟨b, ys, rfl, eb, rb⟩ := by_.tup_
    simp only [D.add]
    split
    · rename_i h
      rw [szl_eq] at h
      intro Q q
      refine .inr (.inr (.inr ⟨a, b, xs, ys, rfl, rfl, SqT.of (fs _ _ ea), SqT.of (fs _ _ eb), by rw [ra.length, rb.length]; exact h, fun e => ?_, fun _ e => ?_, fun _ _ p n => ?_⟩))
      · subst e
        cases ra
        exact q F H (.refl fs) _ (.tup eb rb)
      · subst e
        cases rb
        exact q F H (.refl fs) _ (.tup ea (by simpa using ra))
      · exact q _ _ (.grow fs n) _ (.tup upd_same ((ra.append rb).on (same_upd (fs.free n))))
    · trivial
  · obtain ⟨a, xs, rfl, ea, ra⟩ := bx.lst_ fs
    obtain ⟨b, ys, rfl, eb, rb⟩ := by_.lst_ fs
    simp only [D.add]
    split
    · rename_i h
      rw [szl_eq] at h
      exact ans_lst fs (ra.append rb) fun Q q => .inr (.inr (.inl ⟨a, b, xs, ys, rfl, rfl, ea, eb, by rw [ra.length, rb.length]; exact h, q⟩))
    · trivial
theorem ok_sub {X : Cx} : ∃ r, OpR X (binaryOp .Sub) r ∧ Ok2 X.K xa r D.sub := by
  refine ⟨_, op_sub, fun F H x y d e fs bx by_ => ?_⟩
  cases d <;> cases e <;> try exact trivial
  rw [bx.int_, by_.int_]
  exact ans_val fs (fun _ => .int _) fun Q q => ⟨_, _, rfl, rfl, q⟩
theorem reps_rep {F : Hp} {xs : List V} {ds : List D} (r : Reps K xa F xs ds) : ∀ k : Nat, Reps K xa F (List.replicate k xs).flatten (List.replicate k ds).flatten
  | 0 => .nil
  | k + 1 => by
    simp only [List.replicate_succ, List.flatten_cons]
    exact r.append (reps_rep r k)
theorem ok_mul {X : Cx} : ∃ r, OpR X (binaryOp .Mult) r ∧ Ok2 X.K xa r D.mul := by
  refine ⟨_, op_mul.or op_rep, fun F H x y d e fs bx by_ => ?_⟩
  cases d <;> cases e <;> try exact trivial
  · rename_i i j
    rw [bx.int_, by_.int_]
    simp only [D.mul]
    split
    · rename_i h
      refine ans_val fs (fun _ => .int _) fun Q q => .inl ⟨i, j, rfl, rfl, ?_, q⟩
      simpa [smallI, CMul] using h
    · trivial
  · rename_i ds k
    obtain ⟨a, xs, rfl, ea, ra⟩ := bx.lst_ fs
    rw [by_.int_]
    simp only [D.mul]
    split
    · rename_i h
      simp only [Bool.and_eq_true, decide_eq_true_eq] at h
      obtain ⟨⟨h1, h2⟩, h3⟩ := h
      exact ans_lst fs (reps_rep ra _) fun Q q => .inr ⟨a, k, xs, rfl, rfl, ea, by omega, by omega, by rw [ra.length, ← szl_eq]; exact h3, q⟩
    · trivial
theorem ok_fdiv {X : Cx} : ∃ r, OpR X (binaryOp .FloorDiv) r ∧ Ok2 X.K xa r D.fdiv := by
  refine ⟨_, op_fdiv, fun F H x y d e fs bx by_ => ?_⟩
  cases d <;> cases e <;> try exact trivial
  rw [bx.int_, by_.int_]
  simp only [D.fdiv]
  split
  · rename_i h
    simp only [Bool.and_eq_true, decide_eq_true_eq] at h
    exact ans_val fs (fun _ => .int _) fun Q q => ⟨_, _, rfl, rfl, h, q⟩
  · trivial
theorem ok_mod {X : Cx} : ∃ r, OpR X (binaryOp .Mod) r ∧ Ok2 X.K xa r D.mod := by
  refine ⟨_, op_mod, fun F H x y d e fs bx by_ => ?_⟩
  cases d <;> cases e <;> try exact trivial
  rw [bx.int_, by_.int_]
  simp only [D.mod]
  split
  · rename_i h
    exact ans_val fs (fun _ => .int _) fun Q q => ⟨_, _, rfl, rfl, h, q⟩
  · trivial
mutual
def toPy : D → PyData
  | .non => .none
  | .bl b => .bool b
  | .int i => .int i
  | .str s => .str ⟨s.toArray⟩
  | .tup xs => .tuple (toPys xs)
  | .lst xs => .list (toPys xs)
  | .dct _ _ => .none
  | .exc _ => .none
  | .inp ns => .list (ns.map PyData.int)
def toPys : List D → List PyData
  | [] => []
  | x :: xs => toPy x :: toPys xs
end
theorem eqvAll_ints : ∀ (ns ms : List Int), PyData.eqvAll (ns.map PyData.int) (ms.map PyData.int) = (ns == ms)
  | [], [] => by simp [PyData.eqvAll]
  | [], _ :: _ => by simp [PyData.eqvAll]
  | _ :: _, [] => by simp [PyData.eqvAll]
  | n :: ns, m :: ms => by
    simp only [List.map_cons, PyData.eqvAll, PyData.eqv, eqvAll_ints ns ms]
    rfl
theorem eqvAll_inp1 : ∀ (ns : List Int) (ds : List D), (∀ n, D.pls n ds = true → PyData.eqvAll (ns.map PyData.int) (toPys ds) = eqvI ns ds)
  | [], [], _, _ => by simp [PyData.eqvAll, toPys, eqvI]
  | [], d :: ds, _, _ => by cases d <;> simp [PyData.eqvAll, toPys, eqvI]
  | n :: ns, [], _, _ => by simp [PyData.eqvAll, toPys, eqvI]
  | n :: ns, d :: ds, k, h => by
    have h2 : D.pls k ds = true := by
      simp only [D.pls, Bool.and_eq_true] at h
      exact h.2
    have ih := eqvAll_inp1 ns ds k h2
    cases d <;> simp [PyData.eqvAll, PyData.eqv, toPys, toPy, eqvI, ih]
    all_goals simp [D.pls, D.pl] at h
theorem eqvAll_inp2 : ∀ (ns : List Int) (ds : List D), (∀ n, D.pls n ds = true → PyData.eqvAll (toPys ds) (ns.map PyData.int) = eqvI ns ds)
  | [], [], _, _ => by simp [PyData.eqvAll, toPys, eqvI]
  | [], d :: ds, _, _ => by cases d <;> simp [PyData.eqvAll, toPys, eqvI]
  | n :: ns, [], _, _ => by simp [PyData.eqvAll, toPys, eqvI]
  | n :: ns, d :: ds, k, h => by
    have h2 : D.pls k ds = true := by
      simp only [D.pls, Bool.and_eq_true] at h
      exact h.2
    have ih := eqvAll_inp2 ns ds k h2
    cases d <;> simp [PyData.eqvAll, PyData.eqv, toPys, toPy, eqvI, ih]
    · rw [BEq.comm]
    · rw [BEq.comm]
    all_goals simp [D.pls, D.pl] at h
theorem pls_cons {n : Nat} {x : D} {xs : List D} (h : D.pls n (x :: xs) = true) : D.pl n x = true ∧ D.pls n xs = true := by
  simpa [D.pls, Bool.and_eq_true] using h
theorem pl_lst {n : Nat} {xs : List D} (h : D.pl n (.lst xs) = true) : ∃ m, n = m + 1 ∧ D.pls m xs = true := by
  cases n with
  | zero => simp [D.pl] at h
  | succ m => exact ⟨m, rfl, by simpa [D.pl] using h⟩
theorem pl_tup {n : Nat} {xs : List D} (h : D.pl n (.tup xs) = true) : ∃ m, n = m + 1 ∧ D.pls m xs = true := by
  cases n with
  | zero => simp [D.pl] at h
  | succ m => exact ⟨m, rfl, by simpa [D.pl] using h⟩
mutual
theorem eqv_py : ∀ (d e : D) (n m : Nat), D.pl n d = true → D.pl m e = true → PyData.eqv (toPy d) (toPy e) = D.eqv d e
  | .non, e, _, m, _, h => by cases e <;> first | rfl | (simp [D.pl] at h; done) | simp [toPy, PyData.eqv, D.eqv]
  | .bl b, e, _, m, _, h => by cases e <;> first | rfl | (simp [D.pl] at h; done) | simp [toPy, PyData.eqv, D.eqv]
  | .int i, e, _, m, _, h => by cases e <;> first | rfl | (simp [D.pl] at h; done) | simp [toPy, PyData.eqv, D.eqv]
  | .str s, e, _, m, _, h => by
    cases e with
    | str t =>
      by_cases q : s = t
      · subst q; simp [toPy, PyData.eqv, D.eqv]
      · have q2 : (s == t) = false := by simpa using q
        have q3 : ¬ (⟨s.toArray⟩ : Str) = ⟨t.toArray⟩ := fun z => q (by
          have z2 := congrArg Str.cps z
          simpa using z2)
        simp only [toPy, PyData.eqv, D.eqv]
        rw [q2]
        simpa using q3
    | _ => first | rfl | (simp [D.pl] at h; done) | simp [toPy, PyData.eqv, D.eqv]
  | .dct _ _, _, n, _, h, _ => by simp [D.pl] at h
  | .exc _, _, n, _, h, _ => by simp [D.pl] at h
  | .inp ns, e, n, m, h, g => by
    cases e <;> first | (simp [D.pl] at g; done) | (simp [toPy, PyData.eqv, D.eqv]; done) | skip
    · obtain ⟨k, rfl, g⟩ := pl_lst g
      simp only [toPy, PyData.eqv, D.eqv]
      exact eqvAll_inp1 ns _ _ g
    · simp only [toPy, PyData.eqv, D.eqv]
      exact eqvAll_ints _ _
  | .lst xs, e, n, m, h, g => by
    obtain ⟨k, rfl, h⟩ := pl_lst h
    cases e <;> first | (simp [D.pl] at g; done) | (simp [toPy, PyData.eqv, D.eqv]; done) | skip
    · obtain ⟨l, rfl, g⟩ := pl_lst g
      simp only [toPy, PyData.eqv, D.eqv]
      exact eqvs_py xs _ k l h g
    · simp only [toPy, PyData.eqv, D.eqv]
      exact eqvAll_inp2 _ _ _ h
  | .tup xs, e, n, m, h, g => by
    obtain ⟨k, rfl, h⟩ := pl_tup h
    cases e <;> first | (simp [D.pl] at g; done) | (simp [toPy, PyData.eqv, D.eqv]; done) | skip
    obtain ⟨l, rfl, g⟩ := pl_tup g
    simp only [toPy, PyData.eqv, D.eqv]
    exact eqvs_py xs _ k l h g
theorem eqvs_py : ∀ (ds es : List D) (n m : Nat), D.pls n ds = true → D.pls m es = true → PyData.eqvAll (toPys ds) (toPys es) = D.eqvs ds es
  | [], [], _, _, _, _ => by simp [toPys, PyData.eqvAll, D.eqvs]
  | [], _ :: _, _, _, _, _ => by simp [toPys, PyData.eqvAll, D.eqvs]
  | _ :: _, [], _, _, _, _ => by simp [toPys, PyData.eqvAll, D.eqvs]
  | d :: ds, e :: es, n, m, h, g => by
    obtain ⟨h1, h2⟩ := pls_cons h
    obtain ⟨g1, g2⟩ := pls_cons g
    simp only [toPys, PyData.eqvAll, D.eqvs]
    rw [eqv_py d e n m h1 g1, eqvs_py ds es n m h2 g2]
end
theorem ints_lay : ∀ ns : List Int, PyData.canLayAll0 (ns.map PyData.int) = true ∧ PyData.depthAll (ns.map PyData.int) = 0
  | [] => by simp [PyData.canLayAll0, PyData.depthAll]
  | n :: ns => by
    obtain ⟨h1, h2⟩ := ints_lay ns
    simp [PyData.canLayAll0, PyData.canLay0, PyData.depthAll, PyData.depth, h1, h2]
mutual
theorem lay_py : ∀ (d : D) (n : Nat), D.pl n d = true → (toPy d).canLay0 = true ∧ (toPy d).depth ≤ n
  | .non, _, _ => by simp [toPy, PyData.canLay0, PyData.depth]
  | .bl _, _, _ => by simp [toPy, PyData.canLay0, PyData.depth]
  | .int _, _, _ => by simp [toPy, PyData.canLay0, PyData.depth]
  | .str s, _, h => by
    simp only [D.pl] at h
    refine ⟨?_, by simp [toPy, PyData.depth]⟩
    simp only [toPy, PyData.canLay0, PySem.PyData.strOk]
    simpa using h
  | .dct _ _, _, h => by simp [D.pl] at h
  | .exc _, _, h => by simp [D.pl] at h
  | .inp ns, n, h => by
    obtain ⟨h1, h2⟩ := ints_lay ns
    cases n with
    | zero => simp [D.pl] at h
    | succ m => simp [toPy, PyData.canLay0, PyData.depth, h1, h2]
  | .lst xs, n, h => by
    obtain ⟨k, rfl, h⟩ := pl_lst h
    obtain ⟨h1, h2⟩ := lays_py xs k h
    simp only [toPy, PyData.canLay0, PyData.depth]
    exact ⟨h1, by omega⟩
  | .tup xs, n, h => by
    obtain ⟨k, rfl, h⟩ := pl_tup h
    obtain ⟨h1, h2⟩ := lays_py xs k h
    simp only [toPy, PyData.canLay0, PyData.depth]
    exact ⟨h1, by omega⟩
theorem lays_py : ∀ (ds : List D) (n : Nat), D.pls n ds = true → PyData.canLayAll0 (toPys ds) = true ∧ PyData.depthAll (toPys ds) ≤ n
  | [], _, _ => by simp [toPys, PyData.canLayAll0, PyData.depthAll]
  | d :: ds, n, h => by
    obtain ⟨h1, h2⟩ := pls_cons h
    obtain ⟨a1, a2⟩ := lay_py d n h1
    obtain ⟨b1, b2⟩ := lays_py ds n h2
    simp only [toPys, PyData.canLayAll0, PyData.depthAll]
    exact ⟨by rw [a1, b1]; rfl, by omega⟩
end
theorem shaped_py {d : D} {n : Nat} (h : D.pl n d = true) (hn : n ≤ 64) : SeqAt.shaped (toPy d) = true := by
  obtain ⟨h1, h2⟩ := lay_py d n h
  unfold SeqAt.shaped
  rw [h1, decide_eq_true (by omega)]
  rfl
theorem dp_ints {H : Hp} : ∀ ns : List Int, DpAll K H (ns.map V.int) (ns.map PyData.int)
  | [] => .nil
  | n :: ns => .cons (.int n) (dp_ints ns)
mutual
theorem dp_of {F H : Hp} (fs : Same F H) : ∀ (d : D) (v : V) (n : Nat), D.pl n d = true → Rep K xa F v d → Dp K H v (toPy d)
  | .non, _, _, _, h => by cases h; exact .non
  | .bl _, _, _, _, h => by cases h; exact .bl _
  | .int _, _, _, _, h => by cases h; exact .int _
  | .str _, _, _, _, h => by cases h; exact .str _
  | .dct _ _, _, _, h, _ => by simp [D.pl] at h
  | .exc _, _, _, h, _ => by simp [D.pl] at h
  | .inp ns, _, _, _, h => by cases h with | inp e => exact .lst (fs.seq e) (dp_ints ns)
  | .lst xs, _, n, hn, h => by
    obtain ⟨k, rfl, hn⟩ := pl_lst hn
    cases h with | lst e r => exact .lst (SqL.of (fs _ _ e)) (dps_of fs xs _ k hn r)
  | .tup xs, _, n, hn, h => by
    obtain ⟨k, rfl, hn⟩ := pl_tup hn
    cases h with | tup e r => exact .tup (SqT.of (fs _ _ e)) (dps_of fs xs _ k hn r)
theorem dps_of {F H : Hp} (fs : Same F H) : ∀ (ds : List D) (vs : List V) (n : Nat), D.pls n ds = true → Reps K xa F vs ds → DpAll K H vs (toPys ds)
  | [], _, _, _, h => by cases h; exact .nil
  | d :: ds, _, n, hn, h => by
    obtain ⟨h1, h2⟩ := pls_cons hn
    cases h with | cons r t => exact .cons (dp_of fs d _ n h1 r) (dps_of fs ds _ n h2 t)
end
theorem dp_bor {F H : Hp} (fs : Same F H) {d : D} {v : V} {n : Nat} (hn : D.pl n d = true) (h : Bor K xa F H v d) : Dp K H v (toPy d) := by
  rcases h with h | ⟨a, rfl, h⟩
  · exact dp_of fs d v n hn h
  · cases d with
    | lst ds =>
      obtain ⟨xs, e, r⟩ := h
      obtain ⟨k, rfl, hn⟩ := pl_lst hn
      exact .lst (SqL.of e) (dps_of fs ds xs k hn r)
    | dct _ _ => simp [D.pl] at hn
    | _ => exact h.elim
theorem ok_eq {X : Cx} (hu : X.A.units + 64 < cLine) : ∃ r, OpR X (compareOp .Eq) r ∧ Ok2 X.K xa r D.eq := by
  refine ⟨_, op_eqD hu, fun F H x y d e fs bx by_ => ?_⟩
  unfold D.eq
  split
  · rename_i h
    simp only [Bool.and_eq_true] at h
    exact ans_val fs (fun _ => .bl _) fun Q q => ⟨toPy d, toPy e, dp_bor fs h.1 bx, dp_bor fs h.2 by_, shaped_py h.1 (by decide), shaped_py h.2 (by decide), by rw [eqv_py d e _ _ h.1 h.2]; exact q⟩
  · trivial
theorem ok_ne {X : Cx} (hu : X.A.units + 64 < cLine) : ∃ r, OpR X (compareOp .NotEq) r ∧ Ok2 X.K xa r D.ne := by
  refine ⟨_, op_neD hu, fun F H x y d e fs bx by_ => ?_⟩
  unfold D.ne
  split
  · rename_i h
    simp only [Bool.and_eq_true] at h
    exact ans_val fs (fun _ => .bl _) fun Q q => ⟨toPy d, toPy e, dp_bor fs h.1 bx, dp_bor fs h.2 by_, shaped_py h.1 (by decide), shaped_py h.2 (by decide), by rw [eqv_py d e _ _ h.1 h.2]; exact q⟩
  · trivial
theorem ok_ltI {X : Cx} : ∃ r, OpR X (compareOp .Lt) r ∧ Ok2 X.K xa r D.ltI := by
  refine ⟨_, op_lt, fun F H x y d e fs bx by_ => ?_⟩
  cases d <;> cases e <;> try exact trivial
  rw [bx.int_, by_.int_]
  exact ans_val fs (fun _ => .bl _) fun Q q => ⟨_, _, rfl, rfl, q⟩
theorem ok_gtI {X : Cx} : ∃ r, OpR X (compareOp .Gt) r ∧ Ok2 X.K xa r D.gtI := by
  refine ⟨_, op_gt, fun F H x y d e fs bx by_ => ?_⟩
  cases d <;> cases e <;> try exact trivial
  rw [bx.int_, by_.int_]
  exact ans_val fs (fun _ => .bl _) fun Q q => ⟨_, _, rfl, rfl, q⟩
theorem non_iff {F H : Hp} {x : V} {d : D} (bx : Bor K xa F H x d) : decide (x = .non) = d.isNon := by
  cases d with
  | non => rw [bx.non_]; rfl
  | bl b => rw [bx.bl_]; rfl
  | int b => rw [bx.int_]; rfl
  | str b => rw [bx.str_]; rfl
  | tup _ => obtain ⟨a, xs, rfl, _⟩ := bx.tup_; rfl
  | lst _ => rcases bx with h | ⟨a, rfl, h⟩; cases h; rfl; rfl
  | dct _ _ => rcases bx with h | ⟨a, rfl, h⟩; cases h <;> rfl; rfl
  | exc _ => rcases bx with h | ⟨a, rfl, h⟩; cases h; rfl; rfl
  | inp _ => rcases bx with h | ⟨a, rfl, h⟩; cases h; rfl; rfl
end
end Tw
set_option autoImplicit false
set_option Elab.async false
set_option linter.all false
set_option maxRecDepth 100000
namespace Tw
open PySem L2
section
variable {K : PySem.W.Frag} {xa : XA}
theorem keyT_inj {p q : Ky} {k : List Key} (h : keyT p = some k) (g : keyT q = some k) : p = q := by
  cases p <;> cases q <;> simp [keyT] at h g
  rename_i a b
  subst h
  have inj : ∀ (a b : List (Int ⊕ Nm)), b.map leafK = a.map leafK → a = b := by
    intro a
    induction a with
    | nil => intro b e; cases b <;> simp at e ⊢
    | cons x a ih =>
      intro b e
      cases b with
      | nil => simp at e
      | cons y b =>
        simp only [List.map_cons, List.cons.injEq] at e
        rw [ih b e.2]
        have e1 := e.1
        cases x <;> cases y <;> simp [leafK] at e1 ⊢
        · exact e1.symm
        · exact e1.symm
  rw [inj a b g]
theorem keyK_inj {p q : Ky} {k : Key} (h : keyK p = some k) (g : keyK q = some k) : p = q := by
  cases p <;> cases q <;> simp [keyK] at h g
  · subst h; simp at g; rw [g]
  · subst h; simp at g
  · subst h; simp at g
  · subst h; simp at g; rw [g]
theorem repK_get {F : Hp} {q : Ky} {k : Key} (hk : keyK q = some k) : ∀ {kvs : List (Key × V)} {ds : List (Ky × D)}, RepK K xa F kvs ds → match kget q ds with
    | some d => ∃ v, valV kvs k = some v ∧ Rep K xa F v d
    | none => valV kvs k = none
  | _, _, .nil => by simp [kget, valV]
  | _, _, .cons (k := k') (v := v) (kvs := kvs) (q := q') (d := d) (ds := ds) e r t => by
    unfold kget
    by_cases h : q' = q
    · subst h
      rw [if_pos rfl]
      rw [hk] at e
      cases e
      exact ⟨v, valV_pos rfl, r⟩
    · rw [if_neg h]
      have h' : ¬ k' = k := fun z => h (keyK_inj e (z ▸ hk))
      rw [valV_neg h']
      exact repK_get hk t
theorem repT_get {F : Hp} {q : Ky} {k : List Key} (hk : keyT q = some k) : ∀ {kvs : List (List Key × V)} {ds : List (Ky × D)}, RepT K xa F kvs ds → match kget q ds with
    | some d => ∃ v, valV kvs k = some v ∧ Rep K xa F v d
    | none => valV kvs k = none
  | _, _, .nil => by simp [kget, valV]
  | _, _, .cons (k := k') (v := v) (kvs := kvs) (q := q') (d := d) (ds := ds) e r t => by
    unfold kget
    by_cases h : q' = q
    · subst h
      rw [if_pos rfl]
      rw [hk] at e
      cases e
      exact ⟨v, valV_pos rfl, r⟩
    · rw [if_neg h]
      have h' : ¬ k' = k := fun z => h (keyT_inj e (z ▸ hk))
      rw [valV_neg h']
      exact repT_get hk t
theorem leaves_vals {F : Hp} : ∀ {xs : List V} {ds : List D} {ks : List (Int ⊕ Nm)}, Reps K xa F xs ds → leaves? ds = some ks → xs = (ks.map leafK).map kV
  | _, _, ks, .nil, e => by simp [leaves?] at e; subst e; rfl
  | _, _, ks, .cons (v := v) (vs := vs) (d := d) (ds := ds) r t, e => by
    unfold leaves? at e
    cases h1 : leaf? d with
    | none => rw [h1] at e; cases e
    | some a =>
      cases h2 : leaves? ds with
      | none => rw [h1, h2] at e; cases e
      | some rr =>
        rw [h1, h2] at e
        have e' : a :: rr = ks := Option.some.inj e
        subst e'
        have ih := leaves_vals t h2
        rw [ih]
        cases d <;> simp [leaf?] at h1
        · subst h1; cases r; rfl
        · subst h1; cases r; rfl
theorem key_val {F H : Hp} (fs : Same F H) {x : V} {d : D} {q : Ky} (bx : Bor K xa F H x d) (e : d.key? = some q) : (∃ k, keyK q = some k ∧ x = kV k) ∨ ∃ k b, keyT q = some k ∧ x = .ref b ∧ F b = some (.tup (k.map kV)) := by
  cases d <;> simp [D.key?] at e
  · subst e; exact .inl ⟨_, rfl, bx.int_⟩
  · subst e; exact .inl ⟨_, rfl, bx.str_⟩
  · obtain ⟨ks, e1, e2⟩ := e
    subst e2
    obtain ⟨a, xs, rfl, ea, r⟩ := bx.tup_
    rw [leaves_vals r e1] at ea
    exact .inr ⟨_, a, rfl, rfl, ea⟩
theorem kf_key {t : Bool} {d : D} {q : Ky} (e : d.kf t = some q) : d.key? = some q ∧ q.isTup = t := by
  unfold D.kf at e
  cases h : d.key? with
  | none => rw [h] at e; cases e
  | some k =>
    rw [h] at e
    simp only at e
    split at e
    · rename_i z
      cases e
      exact ⟨rfl, by simpa using z⟩
    · cases e
theorem dget_of {F H : Hp} (fs : Same F H) {x y : V} {t : Bool} {ds : List (Ky × D)} {d : D} {q : Ky} (bd : Bor K xa F H x (.dct t ds)) (bk : Bor K xa F H y d) (e : d.kf t = some q) :
    ∃ a o, x = .ref a ∧ DGet H a y o ∧ IsD H a ∧ match kget q ds with
      | some d => ∃ v, o = some v ∧ Rep K xa F v d
      | none => o = none := by
  obtain ⟨ek, et⟩ := kf_key e
  clear e
  cases t with
  | false =>
    obtain ⟨a, kvs, rfl, h, r⟩ := bd.dK_ fs
    rcases key_val fs bk ek with ⟨k, hk, rfl⟩ | ⟨k, b, hk, rfl, eb⟩
    · exact ⟨a, valV kvs k, rfl, .inl ⟨kvs, k, h, rfl, rfl⟩, .inl ⟨_, h⟩, by
        have z := repK_get hk r
        cases h : kget q ds <;> rw [h] at z <;> simpa using z⟩
    · cases q <;> first | (simp [keyT] at hk; done) | (simp [Ky.isTup] at et; done)
  | true =>
    obtain ⟨a, kvs, rfl, h, r⟩ := bd.dT_ fs
    rcases key_val fs bk ek with ⟨k, hk, rfl⟩ | ⟨k, b, hk, rfl, eb⟩
    · cases q <;> first | (simp [keyK] at hk; done) | (simp [Ky.isTup] at et; done)
    · exact ⟨a, valV kvs k, rfl, .inr ⟨kvs, k, b, h, rfl, fs _ _ eb, rfl⟩, .inr ⟨_, h⟩, by
        have z := repT_get hk r
        cases h : kget q ds <;> rw [h] at z <;> simpa using z⟩
theorem opr_din {X : Cx} (hu : X.A.units + 1 < cLine) : OpR X (compareOp .In) (fun y x H Q => ∃ a o, x = .ref a ∧ DGet H a y o ∧ Q (.bl o.isSome) H) := by
  intro pins s σ H y x u v Q I ry rx h
  obtain ⟨a, o, rfl, g, q⟩ := h
  obtain rfl : v = Value.ref a := rx
  exact d_in hu I g ry fun s' I' => ⟨.bl o.isSome, H, I', rfl, q⟩
theorem opr_dnotin {X : Cx} (hu : X.A.units + 1 < cLine) : OpR X (compareOp .NotIn) (fun y x H Q => ∃ a o, x = .ref a ∧ DGet H a y o ∧ Q (.bl (!o.isSome)) H) := by
  intro pins s σ H y x u v Q I ry rx h
  obtain ⟨a, o, rfl, g, q⟩ := h
  obtain rfl : v = Value.ref a := rx
  exact d_notIn hu I g ry fun s' I' => ⟨.bl (!o.isSome), H, I', rfl, q⟩
theorem eqv_any {d : D} {n m : Nat} (hd : D.pl n d = true) : ∀ {ys : List D}, D.pls m ys = true → ((toPys ys).any fun z => PyData.eqv z (toPy d)) = ys.any fun y => D.eqv y d
  | [], _ => rfl
  | y :: ys, h => by
    obtain ⟨h1, h2⟩ := pls_cons h
    simp only [toPys, List.any_cons]
    rw [eqv_any hd h2, eqv_py y d m n h1 hd]
def rInP (K : PySem.W.Frag) (neg : Bool) : R2 := fun x y H Q => ∃ (d : PyData) (ds : List PyData) (n : Nat), Dp K H x d ∧ (Dp K H y (.list ds) ∨ Dp K H y (.tuple ds)) ∧ d.canLay0 = true ∧ PyData.canLayAll0 ds = true ∧ PyData.depthAll ds ≤ 40 ∧
  Q (.bl (if neg then !ds.any fun z => PyData.eqv z d else ds.any fun z => PyData.eqv z d)) H
theorem opr_inP {X : Cx} (hu : X.A.units + 64 < cLine) : OpR X (compareOp .In) (rInP X.K false) := by
  intro pins s σ H x y u v Q I rx ry h
  obtain ⟨d, ds, n, hx, hy, l1, l2, dp, q⟩ := h
  obtain ⟨as, r1⟩ := Dp.reads I d x u hx rx
  have room : X.A.units + 1 + min (PyData.depthAll ds) d.depth < cLine := by
    have := Nat.min_le_left (PyData.depthAll ds) d.depth
    omega
  rcases hy with hy | hy
  · obtain ⟨bs, r2⟩ := Dp.reads I (.list ds) y v hy ry
    exact SeqAt.in_list_reads r2 r1 l2 l1 room ⟨.bl _, H, I, rfl, q⟩
  · obtain ⟨bs, r2⟩ := Dp.reads I (.tuple ds) y v hy ry
    exact SeqAt.in_tuple_reads r2 r1 l2 l1 room ⟨.bl _, H, I, rfl, q⟩
theorem opr_notInP {X : Cx} (hu : X.A.units + 64 < cLine) : OpR X (compareOp .NotIn) (rInP X.K true) := by
  intro pins s σ H x y u v Q I rx ry h
  obtain ⟨d, ds, n, hx, hy, l1, l2, dp, q⟩ := h
  obtain ⟨as, r1⟩ := Dp.reads I d x u hx rx
  have room : X.A.units + 1 + min (PyData.depthAll ds) d.depth < cLine := by
    have := Nat.min_le_left (PyData.depthAll ds) d.depth
    omega
  rcases hy with hy | hy
  · obtain ⟨bs, r2⟩ := Dp.reads I (.list ds) y v hy ry
    exact SeqAt.notIn_list_reads r2 r1 l2 l1 room ⟨.bl _, H, I, rfl, q⟩
  · obtain ⟨bs, r2⟩ := Dp.reads I (.tuple ds) y v hy ry
    exact SeqAt.notIn_tuple_reads r2 r1 l2 l1 room ⟨.bl _, H, I, rfl, q⟩
theorem rInP_of {F H : Hp} (fs : Same F H) {x y : V} {d e : D} {ds : List D} (he : e = .lst ds ∨ e = .tup ds) (hx : x = x) (bx : Bor K xa F H x d) (by_ : Bor K xa F H y e) (g : d.good = true) (p : D.pl 40 e = true) (neg : Bool) {Q : VK}
    (q : Q (.bl (if neg then !ds.any fun z => D.eqv z d else ds.any fun z => D.eqv z d)) H) : rInP K neg x y H Q := by
  have pk : ∃ k, 40 = k + 1 ∧ D.pls k ds = true := by
    rcases he with rfl | rfl
    · exact pl_lst p
    · exact pl_tup p
  obtain ⟨k, hk, pk⟩ := pk
  obtain ⟨a1, a2⟩ := lays_py ds k pk
  refine ⟨toPy d, toPys ds, 0, dp_bor fs g bx, ?_, (lay_py d _ g).1, a1, by omega, ?_⟩
  · rcases he with rfl | rfl
    · exact .inl (by have := dp_bor fs p by_; simpa [toPy] using this)
    · exact .inr (by have := dp_bor fs p by_; simpa [toPy] using this)
  · rw [eqv_any g pk]
    exact q
theorem has_cases {d e : D} {b : Bool} (h : D.has d e = some b) : (∃ ds, (e = .lst ds ∨ e = .tup ds) ∧ d.good = true ∧ D.pl 40 e = true ∧ b = ds.any fun y => D.eqv y d) ∨ (∃ c s, d = .str [c] ∧ e = .str s ∧ b = decide (c ∈ s)) ∨ ∃ t kvs q, e = .dct t kvs ∧ d.kf t = some q ∧ b = khas q kvs := by
  cases e with
  | lst ds =>
    simp only [D.has] at h
    split at h
    · rename_i z
      simp only [Bool.and_eq_true] at z
      exact .inl ⟨ds, .inl rfl, z.1, z.2, (Option.some.inj h).symm⟩
    · cases h
  | tup ds =>
    simp only [D.has] at h
    split at h
    · rename_i z
      simp only [Bool.and_eq_true] at z
      exact .inl ⟨ds, .inr rfl, z.1, z.2, (Option.some.inj h).symm⟩
    · cases h
  | str s =>
    cases d <;> simp only [D.has] at h <;> try cases h
    rename_i x
    split at h
    · exact .inr (.inl ⟨_, _, rfl, rfl, (Option.some.inj h).symm⟩)
    · cases h
  | dct t kvs =>
    simp only [D.has] at h
    cases z : d.kf t with
    | none => rw [z] at h; cases h
    | some q => rw [z] at h; exact .inr (.inr ⟨t, kvs, q, rfl, z, (Option.some.inj h).symm⟩)
  | _ => cases d <;> simp [D.has] at h
theorem ok_in {X : Cx} (hu : X.A.units + 64 < cLine) : ∃ r, OpR X (compareOp .In) r ∧ Ok2 X.K xa r D.isIn := by
  refine ⟨_, (opr_inP hu).or (op_in_sign.or (opr_din (by omega))), fun F H x y d e fs bx by_ => ?_⟩
  unfold D.isIn
  cases h : D.has d e with
  | none => trivial
  | some b =>
    refine ans_val fs (fun _ => .bl _) fun Q q => ?_
    rcases has_cases h with ⟨ds, he, g, p, rfl⟩ | ⟨c, s, rfl, rfl, rfl⟩ | ⟨t, kvs, k, rfl, hk, rfl⟩
    · exact .inl (rInP_of fs he rfl bx by_ g p false (by simpa using q))
    · rw [bx.str_, by_.str_]
      exact .inr (.inl ⟨c, _, rfl, rfl, by simpa using q⟩)
    · obtain ⟨a, o, rfl, g, _, m⟩ := dget_of fs by_ bx hk
      refine .inr (.inr ⟨a, o, rfl, g, ?_⟩)
      unfold khas at q
      cases z : kget k kvs with
      | none => rw [z] at m q; rw [m]; exact q
      | some w => rw [z] at m q; obtain ⟨v, rfl, _⟩ := m; exact q
theorem ok_notIn {X : Cx} (hu : X.A.units + 64 < cLine) : ∃ r, OpR X (compareOp .NotIn) r ∧ Ok2 X.K xa r D.notIn := by
  refine ⟨_, (opr_notInP hu).or (op_notIn_sign.or (opr_dnotin (by omega))), fun F H x y d e fs bx by_ => ?_⟩
  unfold D.notIn
  cases h : D.has d e with
  | none => trivial
  | some b =>
    refine ans_val fs (fun _ => .bl _) fun Q q => ?_
    rcases has_cases h with ⟨ds, he, g, p, rfl⟩ | ⟨c, s, rfl, rfl, rfl⟩ | ⟨t, kvs, k, rfl, hk, rfl⟩
    · exact .inl (rInP_of fs he rfl bx by_ g p true (by simpa using q))
    · rw [bx.str_, by_.str_]
      exact .inr (.inl ⟨c, _, rfl, rfl, by simpa using q⟩)
    · obtain ⟨a, o, rfl, g, _, m⟩ := dget_of fs by_ bx hk
      refine .inr (.inr ⟨a, o, rfl, g, ?_⟩)
      unfold khas at q
      cases z : kget k kvs with
      | none => rw [z] at m q; rw [m]; exact q
      | some w => rw [z] at m q; obtain ⟨v, rfl, _⟩ := m; exact q
theorem atI_reps {F : Hp} {xs : List V} {ds : List D} {i : Int} {d : D} (r : Reps K xa F xs ds) (h : Tw.atI ds i = some d) : ∃ v, L2.atI xs i = some v ∧ Rep K xa F v d := by
  unfold Tw.atI at h
  unfold L2.atI L2.ixN
  rw [r.length]
  by_cases h0 : 0 ≤ i
  · rw [if_pos h0] at h ⊢
    obtain ⟨v, e, q⟩ := r.get h
    have hl := (List.getElem?_eq_some_iff.mp h).1
    rw [if_pos (by omega)]
    exact ⟨v, e, q⟩
  · rw [if_neg h0] at h ⊢
    by_cases h1 : -(ds.length : Int) ≤ i
    · rw [if_pos h1] at h ⊢
      obtain ⟨v, e, q⟩ := r.get h
      exact ⟨v, e, q⟩
    · rw [if_neg h1] at h; cases h
theorem atI_cps {s : Nm} {i : Int} {c : Nat} (h : Tw.atI s i = some c) : L2.atI s i = some c := by
  unfold Tw.atI at h
  unfold L2.atI L2.ixN
  by_cases h0 : 0 ≤ i
  · rw [if_pos h0] at h ⊢
    have hl := (List.getElem?_eq_some_iff.mp h).1
    rw [if_pos (by omega)]
    exact h
  · rw [if_neg h0] at h ⊢
    by_cases h1 : -(s.length : Int) ≤ i
    · rw [if_pos h1] at h ⊢; exact h
    · rw [if_neg h1] at h; cases h
theorem atI_ints {s : List Int} {i : Int} {c : Int} (h : Tw.atI s i = some c) : L2.atI (s.map V.int) i = some (.int c) := by
  unfold Tw.atI at h
  unfold L2.atI L2.ixN
  rw [List.length_map]
  by_cases h0 : 0 ≤ i
  · rw [if_pos h0] at h ⊢
    have hl := (List.getElem?_eq_some_iff.mp h).1
    rw [if_pos (by omega)]
    simp [h]
  · rw [if_neg h0] at h ⊢
    by_cases h1 : -(s.length : Int) ≤ i
    · rw [if_pos h1] at h ⊢; simp [h]
    · rw [if_neg h1] at h; cases h
theorem ix_dict {X : Cx} (hu : X.A.units + 1 < cLine) : IxR X (fun x y H Q => ∃ a v, x = .ref a ∧ DGet H a y (some v) ∧ Q v H) := by
  intro value slice pins s σ H x y v u Q I rx ry h hs
  obtain ⟨a, z, rfl, g, q⟩ := h
  obtain rfl : v = Value.ref a := rx
  have hT := dict_typeIs I g
  unfold PyProof.Rows.subscriptTail
  refine wpAny_bind ?_
  rw [getitemInPython_of_ne hT.not_modules]
  refine wpAny_bind (wpAny_specialOf hT PySem.F.slot_dict_getitem.lookup ?_)
  have last : wpAny (model X.prog X.w) X.A (subscripted slice false (.ref a) u) (fun r s3 => wpAny (model X.prog X.w) X.A (letTemporaryGo value (.ref a) r >>= fun _ => pure r) (EP X pins σ Q) X.xe s3) X.xe s := by
    rw [hs]
    exact wpAny_operating (d_getItem hu I g ry fun w' s' I' rw' => wpAny_bind (wpAny_letTemporaryGo (wpAny_pure ⟨z, H, I', rw', q⟩)))
  first
    | exact wpAny_bind (wpAny_pure (wpAny_bind last))
    | exact wpAny_pure (wpAny_bind last)
    | exact wpAny_bind last
theorem ok_idx {X : Cx} (hu : X.A.units + 64 < cLine) : ∃ r, IxR X r ∧ Ok2 X.K xa r D.idx := by
  refine ⟨_, ix_seq.or (ix_dict (by omega)), fun F H x y d e fs bx by_ => ?_⟩
  cases d with
  | lst ds =>
    cases e <;> try exact trivial
    rename_i i
    obtain ⟨a, xs, rfl, ea, ra⟩ := bx.lst_ fs
    rw [by_.int_]
    simp only [D.idx]
    cases h : Tw.atI ds i with
    | none => trivial
    | some z =>
      obtain ⟨v, e, r⟩ := atI_reps ra h
      exact ans_rep fs r fun Q q => .inl (.inl ⟨a, xs, i, v, rfl, rfl, SqL.of ea, e, q⟩)
  | tup ds =>
    cases e <;> try exact trivial
    rename_i i
    obtain ⟨a, xs, rfl, ea, ra⟩ := bx.tup_
    rw [by_.int_]
    simp only [D.idx]
    cases h : Tw.atI ds i with
    | none => trivial
    | some z =>
      obtain ⟨v, e, r⟩ := atI_reps ra h
      exact ans_rep fs r fun Q q => .inl (.inr (.inl ⟨a, xs, i, v, rfl, rfl, SqT.of (fs _ _ ea), e, q⟩))
  | inp ns =>
    cases e <;> try exact trivial
    rename_i i
    obtain ⟨a, rfl, ea⟩ := bx.inp_
    rw [by_.int_]
    simp only [D.idx]
    cases h : Tw.atI ns i with
    | none => trivial
    | some z => exact ans_rep fs (.int _) fun Q q => .inl (.inl ⟨a, _, i, _, rfl, rfl, fs.seq ea, atI_ints h, q⟩)
  | str s =>
    cases e <;> try exact trivial
    rename_i i
    rw [bx.str_, by_.int_]
    simp only [D.idx]
    split
    · rename_i hl
      cases h : Tw.atI s i with
      | none => trivial
      | some z =>
        rw [szl_eq] at hl
        exact ans_rep fs (.str [z]) fun Q q => .inl (.inr (.inr ⟨_, i, z, rfl, rfl, by simpa [Str.length] using hl, by simpa using atI_cps h, q⟩))
    · trivial
  | dct t kvs =>
    simp only [D.idx]
    cases hk : e.kf t with
    | none => cases e <;> trivial
    | some k =>
      cases z : kget k kvs with
      | none => cases e <;> simp only [hk, z] <;> trivial
      | some w =>
        obtain ⟨a, o, rfl, g, _, m⟩ := dget_of fs bx by_ hk
        rw [z] at m
        obtain ⟨v, rfl, r⟩ := m
        cases e <;> simp only [hk, z] <;> exact ans_rep fs r fun Q q => Or.inr ⟨a, v, rfl, g, q⟩
  | _ => cases e <;> exact trivial
end
end Tw
set_option autoImplicit false
set_option Elab.async false
set_option linter.all false
set_option maxRecDepth 100000
namespace Tw
open PySem L2
section
variable {K : PySem.W.Frag} {xa : XA}
theorem cut_six {α : Type} (xs : List α) (lo hi : Option Int) : cutL xs lo hi = (xs.drop (HT.sIx xs.length 0 lo)).take (HT.sIx xs.length xs.length hi - HT.sIx xs.length 0 lo) := by
  cases lo <;> cases hi <;> rfl
theorem cut_reps {F : Hp} {xs : List V} {ds : List D} (r : Reps K xa F xs ds) (lo hi : Option Int) : Reps K xa F (cutV xs lo hi) (cutL ds lo hi) := by
  rw [cut_six]
  unfold cutV
  rw [r.length]
  exact (r.drop _).take _
theorem cut_whole {α : Type} {xs : List α} {lo hi : Option Int} (h : HT.sIx xs.length 0 lo = 0 ∧ HT.sIx xs.length xs.length hi = xs.length) : cutL xs lo hi = xs := by
  rw [cut_six, h.1, h.2]; simp
def OkSl (K : PySem.W.Frag) (xa : XA) (r : V → Option Int → Option Int → Hp → VK → Prop) : Prop := ∀ (F H : Hp) (x : V) (d : D) (lo hi : Option Int), Same F H → Bor K xa F H x d →
  Ans K xa F H (D.cut lo hi d) (r x lo hi H)
theorem ok_slice {X : Cx} : ∃ r, SlR X r ∧ OkSl X.K xa r := by
  refine ⟨_, sl_list.or (sl_tupA.or sl_str), fun F H x d lo hi fs bx => ?_⟩
  cases d with
  | lst ds =>
    obtain ⟨a, xs, rfl, ea, ra⟩ := bx.lst_ fs
    exact ans_lst fs (cut_reps ra lo hi) fun Q q => .inl ⟨a, xs, rfl, SqL.of ea, q⟩
  | tup ds =>
    obtain ⟨a, xs, rfl, ea, ra⟩ := bx.tup_
    intro Q q
    refine .inr (.inl ⟨a, xs, rfl, SqT.of (fs _ _ ea), fun w => ?_, fun _ p n => ?_⟩)
    · refine q F H (.refl fs) _ (.tup ea ?_)
      rw [ra.length] at w
      rw [cut_whole w]; exact ra
    · exact q _ _ (.grow fs n) _ (.tup upd_same ((cut_reps ra lo hi).on (same_upd (fs.free n))))
  | str s =>
    rw [bx.str_]
    simp only [D.cut]
    split
    · rename_i h
      rw [szl_eq] at h
      refine ans_rep fs (.str _) fun Q q => .inr (.inr ⟨_, rfl, by simpa [Str.length] using h, ?_⟩)
      have e : cutS ⟨s.toArray⟩ lo hi = ⟨(cutL s lo hi).toArray⟩ := by
        rw [cut_six]
        unfold cutS
        simp [Str.length]
      rw [e]; exact q
    · trivial
  | _ => trivial
def OkC (K : PySem.W.Frag) (xa : XA) (r : List V → Hp → VK → Prop) (f : D → Res D) : Prop := ∀ (F H : Hp) (x : V) (d : D), Same F H → Bor K xa F H x d → Ans K xa F H (f d) (r [x] H)
theorem call_len_dK {X : Cx} : CallR X (.builtin "len") (fun xs H Q => ∃ (p : Addr) (kvs : List (Key × V)), xs = [.ref p] ∧ Rd H p (.dK kvs) ∧ Q (.int (kvs.length : Nat)) H) := by
  intro pins s σ H xs us Q I r h
  obtain ⟨p, kvs, rfl, e, q⟩ := h
  rw [Vals.ref1 r]
  exact d_len I e fun t s' I' => ⟨.int _, H, I', ⟨_, rfl⟩, q⟩
theorem repK_len {F : Hp} : ∀ {kvs : List (Key × V)} {ds : List (Ky × D)}, RepK K xa F kvs ds → kvs.length = ds.length
  | _, _, .nil => rfl
  | _, _, .cons _ _ t => by simp [repK_len t]
theorem repT_len {F : Hp} : ∀ {kvs : List (List Key × V)} {ds : List (Ky × D)}, RepT K xa F kvs ds → kvs.length = ds.length
  | _, _, .nil => rfl
  | _, _, .cons _ _ t => by simp [repT_len t]
theorem call_len_dT' {X : Cx} : CallR X (.builtin "len") (fun xs H Q => ∃ (p : Addr) (kvs : List (List Key × V)), xs = [.ref p] ∧ Rd H p (.dT kvs) ∧ Q (.int (kvs.length : Nat)) H) := by
  intro pins s σ H xs us Q I r h
  obtain ⟨p, kvs, rfl, e, q⟩ := h
  rw [Vals.ref1 r]
  obtain ⟨z, hd, xs, rel, dd⟩ := dt_rd I.hok e
  have hl : kvs.length = xs.length := Paired.length rel
  have hz : (xs.length : Int) < 2 ^ 63 := by
    have := line63
    omega
  refine call_len_dictH hd dd hz ?_
  rw [← hl]
  exact ⟨.int _, H, (I.tok _).tok _, ⟨_, rfl⟩, q⟩
theorem ok_len {X : Cx} : ∃ r, CallR X (.builtin "len") r ∧ OkC X.K xa r D.len := by
  refine ⟨_, call_len.or (call_len_dK.or call_len_dT'), fun F H x d fs bx => ?_⟩
  cases d with
  | lst ds =>
    obtain ⟨a, xs, rfl, ea, ra⟩ := bx.lst_ fs
    exact ans_rep fs (.int _) fun Q q => .inl ⟨_, xs.length, rfl, .inl ⟨xs, SqL.of ea, rfl⟩, by rw [ra.length]; exact q⟩
  | tup ds =>
    obtain ⟨a, xs, rfl, ea, ra⟩ := bx.tup_
    exact ans_rep fs (.int _) fun Q q => .inl ⟨_, xs.length, rfl, .inr ⟨xs, SqT.of (fs _ _ ea), rfl⟩, by rw [ra.length]; exact q⟩
  | inp ns =>
    obtain ⟨a, rfl, ea⟩ := bx.inp_
    exact ans_rep fs (.int _) fun Q q => .inl ⟨_, _, rfl, .inl ⟨_, fs.seq ea, rfl⟩, by rw [List.length_map]; exact q⟩
  | str s =>
    rw [bx.str_]
    simp only [D.len]
    split
    · rename_i h
      rw [szl_eq] at h
      exact ans_rep fs (.int _) fun Q q => .inl ⟨_, s.length, rfl, ⟨by simpa [Str.length] using h, by simp [Str.length]⟩, q⟩
    · trivial
  | dct t kvs =>
    cases t with
    | false =>
      obtain ⟨a, kv, rfl, e, r⟩ := bx.dK_ fs
      exact ans_rep fs (.int _) fun Q q => .inr (.inl ⟨a, kv, rfl, e, by rw [repK_len r]; exact q⟩)
    | true =>
      obtain ⟨a, kv, rfl, e, r⟩ := bx.dT_ fs
      exact ans_rep fs (.int _) fun Q q => .inr (.inr ⟨a, kv, rfl, e, by rw [repT_len r]; exact q⟩)
  | _ => trivial
theorem bools_vals {F : Hp} : ∀ {xs : List V} {ds : List D} {bs : List Bool}, Reps K xa F xs ds → bools? ds = some bs → xs = bs.map V.bl
  | _, _, bs, .nil, e => by simp [bools?] at e; subst e; rfl
  | _, _, bs, .cons (v := v) (d := d) r t, e => by
    cases d <;> simp [bools?] at e
    obtain ⟨rr, e1, e2⟩ := e
    subst e2
    rw [bools_vals t e1]
    cases r
    rfl
theorem ints_vals {F : Hp} : ∀ {xs : List V} {ds : List D} {bs : List Int}, Reps K xa F xs ds → ints? ds = some bs → xs = bs.map V.int
  | _, _, bs, .nil, e => by simp [ints?] at e; subst e; rfl
  | _, _, bs, .cons (v := v) (d := d) r t, e => by
    cases d <;> simp [ints?] at e
    obtain ⟨rr, e1, e2⟩ := e
    subst e2
    rw [ints_vals t e1]
    cases r
    rfl
theorem ok_any {X : Cx} (hc : X.calm = true) : ∃ r, CallR X (.builtin "any") r ∧ OkC X.K xa r D.any := by
  refine ⟨_, cr_any hc, fun F H x d fs bx => ?_⟩
  cases d <;> try exact trivial
  rename_i ds
  obtain ⟨a, xs, rfl, ea, ra⟩ := bx.lst_ fs
  simp only [D.any]
  cases h : bools? ds with
  | none => trivial
  | some bs => exact ans_rep fs (.bl _) fun Q q => ⟨a, bs, rfl, by rw [← bools_vals ra h]; exact SqL.of ea, q⟩
theorem ok_sum {X : Cx} (hc : X.calm = true) : ∃ r, CallR X (.builtin "sum") r ∧ OkC X.K xa r D.sum := by
  refine ⟨_, cr_sum hc, fun F H x d fs bx => ?_⟩
  cases d <;> try exact trivial
  rename_i ds
  obtain ⟨a, xs, rfl, ea, ra⟩ := bx.lst_ fs
  simp only [D.sum]
  cases h : ints? ds with
  | none => trivial
  | some bs => exact ans_rep fs (.int _) fun Q q => ⟨a, bs, rfl, by rw [← ints_vals ra h]; exact SqL.of ea, q⟩
theorem repK_keys {F : Hp} : ∀ {kvs : List (Key × V)} {ds : List (Ky × D)}, RepK K xa F kvs ds → Reps K xa F (kvs.map fun kv => kV kv.1) (ds.map fun kv => kv.1.toD)
  | _, _, .nil => .nil
  | _, _, .cons (q := q) e _ t => by
    refine .cons ?_ (repK_keys t)
    cases q <;> simp [keyK] at e
    · subst e; exact .int _
    · subst e; exact .str _
theorem reps_leaves {F : Hp} : ∀ ks : List (Int ⊕ Nm), Reps K xa F ((ks.map leafK).map kV) (ks.map leafD)
  | [] => .nil
  | .inl i :: r => .cons (.int i) (reps_leaves r)
  | .inr s :: r => .cons (.str s) (reps_leaves r)
theorem repT_keys {F : Hp} : ∀ {kvs : List (List Key × V)} {ds : List (Ky × D)} {bs : List Addr}, RepT K xa F kvs ds → IsKeys F kvs bs → Reps K xa F (bs.map V.ref) (ds.map fun kv => kv.1.toD)
  | _, _, _, .nil, h => by cases h; exact .nil
  | _, _, _, .cons (q := q) e _ t, h => by
    cases h with
    | cons h1 h2 =>
      refine .cons ?_ (repT_keys t h2)
      cases q <;> simp [keyT] at e
      subst e
      exact .tup h1 (reps_leaves _)
theorem keys_in {F H : Hp} (fs : Same F H) {kvs : List (List Key × V)} {bs : List Addr} (ks : IsKeys H kvs bs) : ∃ F', Ext xa.tb F H F' H ∧ IsKeys F' kvs bs := by
  induction ks with
  | nil => exact ⟨F, .refl fs, .nil⟩
  | cons h t ih =>
    rename_i kv b kvs bs
    obtain ⟨F1, x, k1⟩ := ih
    refine ⟨upd F1 b (.tup (kv.1.map kV)), ⟨fun c o e => ?_, x.h, fun c o e => ?_, fun c o e => ?_, fun t => (x.nt t).upd rfl⟩, ?_⟩
    · by_cases hc : c = b
      · subst hc
        rw [upd_same, ← h]
        exact (x.le _ _ (x.f _ _ e)).symm ▸ rfl
      · rw [upd_ne hc]; exact x.f _ _ e
    · by_cases hc : c = b
      · subst hc
        rw [upd_same] at e
        rw [← e]; exact h
      · rw [upd_ne hc] at e; exact x.le _ _ e
    · by_cases hc : c = b
      · subst hc
        rw [upd_same] at e
        cases e
        exact .inr (.inr ⟨_, rfl⟩)
      · rw [upd_ne hc] at e; exact x.new _ _ e
    · refine .cons upd_same ?_
      refine Paired.mapP k1 fun p c e => ?_
      by_cases hc : c = b
      · subst hc
        have e1 := x.le _ _ e
        rw [h] at e1
        rw [upd_same, e1]
      · rw [upd_ne hc]; exact e
theorem call_keys {X : Cx} (hc : X.calm = true) : CallR X (.type "list") (fun xs H Q => ∃ (p : Addr) (kvs : List (Key × V)), xs = [.ref p] ∧ Rd H p (.dK kvs) ∧ ∀ q, H q = none → Q (.ref q) (upd H q (.lst (kvs.map fun kv => kV kv.1)))) := by
  intro pins s σ H xs us Q I r h
  obtain ⟨p, kvs, rfl, e, q⟩ := h
  rw [Vals.ref1 r]
  obtain ⟨hz, hm, vs, rel, dd⟩ := dk_rd I.hok e
  obtain ⟨ep, dat⟩ := dd.dictAt
  have len : kvs.length = vs.length := Paired.length rel
  refine PySem.W.kdl_call (PySem.W.kdl_dict (knd := mixKind X.prog X.w) (kvs := vs) (ep := ep) hm) (I.ok.hd hc) dat (by omega) fun h' tk acc n keeps stands got => ?_
  have vals : Vals (kvs.map fun kv => kV kv.1) acc.toList := by
    refine vals_of_at (by simp [got.1, len]) fun j x w h1 h2 => ?_
    obtain ⟨k, y, at1, is1⟩ := got.2 j w (by rw [← Array.getElem?_toList]; exact h2)
    have hk : (kvs[j]?).map (·.1) = some k := by
      have z := congrArg (fun l => l[j]?) (KV.keys rel)
      simp only [List.getElem?_map, at1] at z
      simpa using z
    rw [List.getElem?_map] at h1
    cases hj : kvs[j]? with
    | none => rw [hj] at hk; cases hk
    | some kv =>
      rw [hj] at hk h1
      simp at hk h1
      subst h1
      rw [hk]
      exact keyIs_rel is1
  have lens : (kvs.map fun kv => kV kv.1).length ≤ sizeLine := by rw [List.length_map]; exact hz
  exact ⟨.ref _, _, I.laid (o := .lst (kvs.map fun kv => kV kv.1)) keeps (Nat.le_refl _) ⟨lens, acc.toList, n, vals, by rw [Array.toArray_toList]; exact stands⟩, rfl, q _ (I.hok.fresh (Nat.le_refl _))⟩
def AnsF (K : PySem.W.Frag) (xa : XA) (F H : Hp) (r : Res D) (p : VK → Prop) : Prop := match r with
  | .ok z => ∀ Q : VK, (∀ F' H', Ext xa.tb F H F' H' → ∀ a, H a = none → F' a = none → OwnAt K xa F' H' a z → Q (.ref a) H') → p Q
  | .err _ => False
  | .stk => True
theorem AnsF.post {F H : Hp} {r : Res D} {p : VK → Prop} {W : WX} {σ : Sl} {Q : VK} (a : AnsF K xa F H r p) (q : Post xa W σ F H r fun d F' H' => ∀ a, H a = none → F' a = none → OwnAt K xa F' H' a d → Q (.ref a) H') : p Q := by
  cases r with
  | ok z => exact a Q fun F' H' x a n nF o => q F' H' x a n nF o
  | err c => exact a.elim
  | stk => exact q.elim
theorem AnsF.ans {F H : Hp} {r : Res D} {p : VK → Prop} (a : AnsF K xa F H r p) : Ans K xa F H r p := by
  cases r with
  | ok z =>
    intro Q q
    refine a Q fun F' H' x b n nF o => ?_
    obtain ⟨u, e, rr⟩ := OwnAt.rep' o nF
    exact q _ _ (x.share n nF e (o.notTbl e)) _ rr
  | err c => exact a.elim
  | stk => exact a
theorem ansF_lst {F H : Hp} {ds : List D} {xs : List V} {p : VK → Prop} (fs : Same F H) (r : Reps K xa F xs ds) (h : ∀ Q : VK, (∀ a, H a = none → Q (.ref a) (upd H a (.lst xs))) → p Q) : AnsF K xa F H (.ok (.lst ds)) p := fun Q q =>
  h Q fun a n => q F _ (.heap fs n) a n (fs.free n) ⟨xs, upd_same, r⟩
def OkF (K : PySem.W.Frag) (xa : XA) (r : List V → Hp → VK → Prop) (f : D → Res D) : Prop := ∀ (F H : Hp) (x : V) (d : D), Same F H → Bor K xa F H x d → AnsF K xa F H (f d) (r [x] H)
theorem OkF.c {r : List V → Hp → VK → Prop} {f : D → Res D} (h : OkF K xa r f) : OkC K xa r f := fun F H x d fs bx => (h F H x d fs bx).ans
theorem ok_toLst {X : Cx} (hc : X.calm = true) : ∃ r, CallR X (.type "list") r ∧ OkF X.K xa r D.toLst := by
  refine ⟨_, call_list_of.or ((call_keys hc).or (call_list_dT hc)), fun F H x d fs bx => ?_⟩
  cases d with
  | lst ds =>
    obtain ⟨a, xs, rfl, ea, ra⟩ := bx.lst_ fs
    exact ansF_lst fs ra fun Q q => .inl ⟨a, xs, rfl, .inl (SqL.of ea), q⟩
  | tup ds =>
    obtain ⟨a, xs, rfl, ea, ra⟩ := bx.tup_
    exact ansF_lst fs ra fun Q q => .inl ⟨a, xs, rfl, .inr (SqT.of (fs _ _ ea)), q⟩
  | dct t kvs =>
    cases t with
    | false =>
      obtain ⟨a, kv, rfl, e, r⟩ := bx.dK_ fs
      exact ansF_lst fs (repK_keys r) fun Q q => .inr (.inl ⟨a, kv, rfl, e, q⟩)
    | true =>
      obtain ⟨a, kv, rfl, e, r⟩ := bx.dT_ fs
      intro Q q
      refine .inr (.inr ⟨a, kv, rfl, e, fun p bs n ks => ?_⟩)
      obtain ⟨F', x, ks'⟩ := keys_in fs ks
      have nF : F' p = none := x.le.free n
      have x' : Ext xa.tb F H F' (upd H p (.lst (bs.map V.ref))) := x.trans (.heap x.le n)
      exact q F' _ x' p n nF ⟨_, upd_same, repT_keys (r.on x.f) ks'⟩
  | _ => trivial
theorem ok_toTup {X : Cx} : ∃ r, CallR X (.type "tuple") r ∧ OkC X.K xa r D.toTup := by
  refine ⟨_, call_tuple_of, fun F H x d fs bx => ?_⟩
  cases d with
  | lst ds =>
    obtain ⟨a, xs, rfl, ea, ra⟩ := bx.lst_ fs
    exact ans_tup fs ra fun Q q => ⟨a, xs, rfl, .inl ⟨SqL.of ea, q⟩⟩
  | tup ds =>
    obtain ⟨a, xs, rfl, ea, ra⟩ := bx.tup_
    exact ans_rep fs (.tup ea ra) fun Q q => ⟨a, xs, rfl, .inr ⟨SqT.of (fs _ _ ea), q⟩⟩
  | _ => trivial
theorem ok_rev {ds : List D} {F H : Hp} {x : V} (fs : Same F H) (bx : Bor K xa F H x (.lst ds)) : ∃ a xs, x = .ref a ∧ SqL K H a xs ∧ Reps K xa F xs.reverse ds.reverse := by
  obtain ⟨a, xs, rfl, ea, ra⟩ := bx.lst_ fs
  exact ⟨a, xs, rfl, SqL.of ea, ra.reverse⟩
end
end Tw
set_option autoImplicit false
set_option Elab.async false
set_option linter.all false
set_option maxRecDepth 100000
namespace Tw
open PySem L2
section
variable {X : Cx} {xa : XA} {W : WX} {a b c e : Expr} {fa fb fc f g : E} {pos p p2 : Pos} {x : Str}
theorem rb_var (i : Nat) (hN : X.N[i]? = some x := by rfl) (hv : Vis X.env.scope x := by first | exact Or.inl rfl | exact Or.inr (Or.inl rfl) | exact Or.inr (Or.inr rfl)) (hd : (x == ("__debug__" : Str)) = false := by decide)
    (hcd : (x == ("__classdict__" : Str)) = false := by decide) : RB X xa W (.Name x pos) (eB i) := ⟨peW (pe_var (i := i) hN hv hd hcd) fun σ H Q ⟨B, F, env, S, q⟩ => by
  show ∃ v, σ[i]? = some (some v) ∧ Q v H
  unfold eB at q
  cases z : env[i]? with
  | none => simp only [z] at q; exact q.elim
  | some s =>
    have k := S.sl i s z
    simp only [z] at q
    cases s with
    | un => exact q.elim
    | sh d => obtain ⟨v, hv, r⟩ := k; exact ⟨v, hv, q F H (.refl S.hF) v (.inl r)⟩
    | bor d => obtain ⟨v, hv, r⟩ := k; exact ⟨v, hv, q F H (.refl S.hF) v (r.on (.refl _) S.hB.k.up)⟩
    | own d => obtain ⟨u, hv, _, _, r⟩ := k; exact ⟨_, hv, q F H (.refl S.hF) _ (.inr ⟨u, rfl, r.obj⟩)⟩
    | ob _ _ _ => exact q.elim
    | lo _ _ => exact q.elim⟩
theorem re_var (i : Nat) (hN : X.N[i]? = some x := by rfl) (hv : Vis X.env.scope x := by first | exact Or.inl rfl | exact Or.inr (Or.inl rfl) | exact Or.inr (Or.inr rfl)) (hd : (x == ("__debug__" : Str)) = false := by decide)
    (hcd : (x == ("__classdict__" : Str)) = false := by decide) : RE X xa W (.Name x pos) (eV i) := ⟨peW (pe_var (i := i) hN hv hd hcd) fun σ H Q ⟨B, F, env, S, q⟩ => by
  show ∃ v, σ[i]? = some (some v) ∧ Q v H
  unfold eV at q
  cases z : env[i]? with
  | none => simp only [z] at q; exact q.elim
  | some s =>
    have k := S.sl i s z
    simp only [z] at q
    cases s with
    | un => exact q.elim
    | sh d => obtain ⟨v, hv, r⟩ := k; exact ⟨v, hv, q F H (.refl S.hF) v r⟩
    | bor d =>
      obtain ⟨v, hv, r⟩ := k
      simp only at q
      split at q
      · exact q.elim
      · rename_i nb
        exact ⟨v, hv, q F H (.refl S.hF) v (r.rep (by simpa using nb))⟩
    | own d => exact q.elim
    | ob _ _ _ => exact q.elim
    | lo _ _ => exact q.elim⟩
theorem re_const {t : TE} {d : D} {v : V} (h : PE X e t) (ht : ∀ σ H Q, Q v H → t σ H Q) (r : ∀ F, Rep X.K xa F v d) : RE X xa W e (eC d) := ⟨peW h fun σ H Q ⟨B, F, env, S, q⟩ => ht _ _ _ (q F H (.refl S.hF) v (r F))⟩
theorem re_int {i : Int} {j : Nat} : RE X xa W (.Constant (.int i) j pos) (eC (.int i)) := re_const pe_int (fun _ _ _ h => h) fun _ => .int _
theorem re_bl {i : Bool} {j : Nat} : RE X xa W (.Constant (.bool i) j pos) (eC (.bl i)) := re_const pe_bl (fun _ _ _ h => h) fun _ => .bl _
theorem re_non {j : Nat} : RE X xa W (.Constant .none j pos) (eC .non) := re_const pe_non (fun _ _ _ h => h) fun _ => .non
theorem rep_str {K : PySem.W.Frag} {F : Hp} (z : Str) {s : Nm} (h : z.cps.toList = s) : Rep K xa F (.str z) (.str s) := by
  obtain ⟨c⟩ := z
  have e : (⟨c⟩ : Str) = ⟨s.toArray⟩ := by rw [← h]
  rw [e]
  exact .str s
theorem re_str {z : Str} {j : Nat} (s : Nm) (h : z.cps.toList = s := by decide +kernel) : RE X xa W (.Constant (.str z) j pos) (eC (.str s)) := re_const pe_str (fun _ _ _ h => h) fun _ => rep_str z h
theorem re_op2 {r : R2} {F2 : D → D → Res D} {t : Expr} (h : PE X t (tOp r (pB X.K xa W fa) (pB X.K xa W fb))) (hr : Ok2 X.K xa r F2) : RE X xa W t (e2 F2 fa fb) := ⟨peW h fun σ H Q ⟨B, F, env, S, q⟩ =>
  ⟨B, F, env, S, (Post.bind (r := fa env) q).imp fun d1 F1 H1 _ x1 q1 v1 b1 => ⟨B, F1, env, S.ext x1, (Post.bind (r := fb env) q1).imp fun d2 F2 H2 _ x2 q2 v2 b2 =>
    (hr F2 H2 v1 v2 d1 d2 x2.le (b1.on x2.f x2.h.k.up) b2).post q2⟩⟩⟩
theorem re_bin {op : Operator} {F2 : D → D → Res D} (hr : ∃ r, OpR X (binaryOp op) r ∧ Ok2 X.K xa r F2) (ha : RB X xa W a fa) (hb : RB X xa W b fb) : RE X xa W (.BinOp a op b pos) (e2 F2 fa fb) := by
  obtain ⟨r, h1, h2⟩ := hr
  exact re_op2 (pe_op h1 ha.pe hb.pe) h2
theorem re_cmp {op : CmpOp} {F2 : D → D → Res D} (hr : ∃ r, OpR X (compareOp op) r ∧ Ok2 X.K xa r F2) (ha : RB X xa W a fa) (hb : RB X xa W b fb) (hm : behindInMarks op b = false := by first | exact nomark _ | rfl) : RE X xa W (.Compare a [op] [b] pos) (e2 F2 fa fb) := by
  obtain ⟨r, h1, h2⟩ := hr
  exact re_op2 (pe_cmpR h1 ha.pe hb.pe hm) h2
theorem re_sub {F2 : D → D → Res D} (hr : ∃ r, IxR X r ∧ Ok2 X.K xa r F2) (ha : RB X xa W a fa) (hb : RB X xa W b fb) (hs : PlainIx b := by exact fun _ _ => rfl) : RE X xa W (.Subscript a b pos) (e2 F2 fa fb) := by
  obtain ⟨r, h1, h2⟩ := hr
  exact re_op2 (pe_ix h1 ha.pe hb.pe hs) h2
theorem rt_op2 {r : R2} {F2 : D → D → Res D} {t : Expr} (h : PT X t (tTest (tOp r (pB X.K xa W fa) (pB X.K xa W fb)))) (hr : Ok2 X.K xa r F2) : RT X xa W t (tE (e2 F2 fa fb)) := ⟨ptW h fun σ H Q ⟨B, F, env, S, q⟩ =>
  ⟨B, F, env, S, (Post.bind (r := fa env) (Post.bind (r := e2 F2 fa fb env) q)).imp fun d1 F1 H1 _ x1 q1 v1 b1 => ⟨B, F1, env, S.ext x1, (Post.bind (r := fb env) q1).imp fun d2 F2' H2 _ x2 q2 v2 b2 =>
    (hr F2' H2 v1 v2 d1 d2 x2.le (b1.on x2.f x2.h.k.up) b2).post (q2.imp fun d3 F3 H3 _ x3 q3 v3 r3 => by
      cases d3 <;> try exact q3.elim
      cases r3
      exact ⟨_, rfl, q3 F3 H3 (.refl x3.le)⟩)⟩⟩⟩
theorem rt_cmp {op : CmpOp} {F2 : D → D → Res D} (hr : ∃ r, OpR X (compareOp op) r ∧ Ok2 X.K xa r F2) (ha : RB X xa W a fa) (hb : RB X xa W b fb) (hm : behindInMarks op b = false := by first | exact nomark _ | rfl) : RT X xa W (.Compare a [op] [b] pos) (tE (e2 F2 fa fb)) := by
  obtain ⟨r, h1, h2⟩ := hr
  exact rt_op2 (pt_cmpR h1 ha.pe hb.pe hm) h2
theorem rt_val (ha : RB X xa W a fa) (he : ∀ whole, isTrue a X.env whole = (do let v ← whole; standAt a.pos; holding [v] (truthy v)) := by intro _; rfl) : RT X xa W a (tE fa) := ⟨ptW (pt_val ha.pe he) fun σ H Q ⟨B, F, env, S, q⟩ =>
  ⟨B, F, env, S, (Post.bind (r := fa env) q).imp fun d1 F1 H1 _ x1 q1 v1 b1 => by
    cases d1 <;> try exact q1.elim
    rw [b1.bl_]
    exact ⟨_, rfl, q1 F1 H1 (.refl x1.le)⟩⟩⟩
theorem rt_of_const {op : CmpOp} {F1 : D → Res D} {r : R2} {v : V} {t : TE} (h1 : OpR X (compareOp op) r) (h2 : ∀ (F H : Hp) (x : V) (d : D), Same F H → Bor X.K xa F H x d → Ans X.K xa F H (F1 d) (r x v H)) (ha : RB X xa W a fa) (hb : PE X b t) (ht : ∀ σ H Q, Q v H → t σ H Q)
    (hm : behindInMarks op b = false) : RT X xa W (.Compare a [op] [b] pos) (tE (e1 F1 fa)) := ⟨ptW (pt_cmpR h1 ha.pe hb hm) fun σ H Q ⟨B, F, env, S, q⟩ =>
  ⟨B, F, env, S, (Post.bind (r := fa env) (Post.bind (r := e1 F1 fa env) q)).imp fun d1 F1' H1 _ x1 q1 v1 b1 => ht _ _ _ ((h2 F1' H1 v1 d1 x1.le b1).post (q1.imp fun d3 F3 H3 _ x3 q3 v3 r3 => by
      cases d3 <;> try exact q3.elim
      cases r3
      exact ⟨_, rfl, q3 F3 H3 (.refl x3.le)⟩))⟩⟩
theorem ok_isN : ∀ (F H : Hp) (x : V) (d : D), Same F H → Bor X.K xa F H x d → Ans X.K xa F H (D.isN d) ((fun x y H Q => y = V.non ∧ Q (.bl (decide (x = .non))) H : R2) x .non H) := fun F H x d fs bx => ans_val fs (fun _ => .bl _) fun Q q => ⟨rfl, by rw [non_iff bx]; exact q⟩
theorem ok_notN : ∀ (F H : Hp) (x : V) (d : D), Same F H → Bor X.K xa F H x d → Ans X.K xa F H (D.notN d) ((fun x y H Q => y = V.non ∧ Q (.bl (!decide (x = .non))) H : R2) x .non H) := fun F H x d fs bx => ans_val fs (fun _ => .bl _) fun Q q => ⟨rfl, by rw [non_iff bx]; exact q⟩
theorem rt_isN {j : Nat} (ha : RB X xa W a fa) : RT X xa W (.Compare a [.Is] [.Constant .none j p] pos) (tE (e1 D.isN fa)) := rt_of_const op_isN ok_isN ha pe_non (fun _ _ _ h => h) (nomark _)
theorem rt_notN {j : Nat} (ha : RB X xa W a fa) : RT X xa W (.Compare a [.IsNot] [.Constant .none j p] pos) (tE (e1 D.notN fa)) := rt_of_const op_notN ok_notN ha pe_non (fun _ _ _ h => h) (nomark _)
variable {ta tb tc : T} {rest : List Expr}
theorem rw_and1 (ha : RT X xa W a ta) : RW X xa W (.BoolOp .And [a] pos) ta := ⟨pw_and1 ha.pt⟩
theorem rw_or1 (ha : RT X xa W a ta) : RW X xa W (.BoolOp .Or [a] pos) ta := ⟨pw_or1 ha.pt⟩
theorem rw_and (ha : RT X xa W a ta) (hb : RW X xa W (.BoolOp .And (b :: rest) pos) tb) : RW X xa W (.BoolOp .And (a :: b :: rest) pos) (tAnd ta tb) := ⟨pwW (pw_and ha.pt hb.pw) fun σ H Q ⟨B, F, env, S, q⟩ =>
  ⟨B, F, env, S, (Post.bind (r := ta env) q).imp fun k F1 H1 _ x1 q1 => by
    cases k with
    | true => exact ⟨B, F1, env, S.ext x1, q1⟩
    | false => exact (q1 : Post xa W σ F1 H1 (Res.ok false) fun b _ H' => Q b H') F1 H1 (.refl x1.le)⟩⟩
theorem rw_or (ha : RT X xa W a ta) (hb : RW X xa W (.BoolOp .Or (b :: rest) pos) tb) : RW X xa W (.BoolOp .Or (a :: b :: rest) pos) (tOr ta tb) := ⟨pwW (pw_or ha.pt hb.pw) fun σ H Q ⟨B, F, env, S, q⟩ =>
  ⟨B, F, env, S, (Post.bind (r := ta env) q).imp fun k F1 H1 _ x1 q1 => by
    cases k with
    | false => exact ⟨B, F1, env, S.ext x1, q1⟩
    | true => exact (q1 : Post xa W σ F1 H1 (Res.ok true) fun b _ H' => Q b H') F1 H1 (.refl x1.le)⟩⟩
theorem RW.t (h : RW X xa W a ta) : RT X xa W a ta := ⟨h.pw.pt⟩
theorem re_one {op : BoolOp} (h : RE X xa W a fa) : RE X xa W (.BoolOp op [a] pos) fa := ⟨pe_one h.pe⟩
theorem re_and (ha : RB X xa W a fa) (hb : RE X xa W (.BoolOp .And (b :: rest) pos) fb) : RE X xa W (.BoolOp .And (a :: b :: rest) pos) (eAnd fa fb) := ⟨peW (pe_and ha.pe hb.pe) fun σ H Q ⟨B, F, env, S, q⟩ =>
  ⟨B, F, env, S, (Post.bind (r := fa env) q).imp fun d F1 H1 _ x1 q1 v1 b1 => by
    cases d <;> try exact q1.elim
    rename_i k _
    refine ⟨k, b1.bl_, ?_⟩
    cases k with
    | true => exact ⟨B, F1, env, S.ext x1, q1⟩
    | false => exact (q1 : Post xa W σ F1 H1 (Res.ok (D.bl false)) fun d F' H' => ∀ v, Rep X.K xa F' v d → Q v H') F1 H1 (.refl x1.le) _ (.bl false)⟩⟩
theorem re_not (ha : RB X xa W a fa) : RE X xa W (.UnaryOp .Not a pos) (eNot fa) := ⟨peW (pe_not ha.pe) fun σ H Q ⟨B, F, env, S, q⟩ =>
  ⟨B, F, env, S, (Post.bind (r := fa env) q).imp fun d F1 H1 _ x1 q1 v1 b1 => by
    cases d <;> try exact q1.elim
    rename_i k _
    exact ⟨k, b1.bl_, (q1 : Post xa W σ F1 H1 (Res.ok (D.bl (!k))) fun d F' H' => ∀ v, Rep X.K xa F' v d → Q v H') F1 H1 (.refl x1.le) _ (.bl _)⟩⟩⟩
theorem re_ifExp (hc : RT X xa W c tc) (ha : RE X xa W a fa) (hb : RE X xa W b fb) : RE X xa W (.IfExp c a b pos) (eIf tc fa fb) := ⟨peW (pe_ifExp hc.pt ha.pe hb.pe) fun σ H Q ⟨B, F, env, S, q⟩ =>
  ⟨B, F, env, S, (Post.bind (r := tc env) q).imp fun k F1 H1 _ x1 q1 => by
    cases k with
    | true => exact ⟨B, F1, env, S.ext x1, q1⟩
    | false => exact ⟨B, F1, env, S.ext x1, q1⟩⟩⟩
structure RAs (X : Cx) (xa : XA) (W : WX) (es : List Expr) (fs : List E) : Prop where
  pa : PA X es fun σ H Q => ∃ B F env, Sim X.K xa B F env σ H ∧ Post xa W σ F H (eL fs env) fun ds F' H' => ∀ vs, Reps X.K xa F' vs ds → Q vs H'
theorem paW {es : List Expr} {t t' : TA} (p : PA X es t) (h : ∀ σ H Q, t' σ H Q → t σ H Q) : PA X es t' := ⟨fun pos pins s σ H Q I q => p.run pos pins s σ H Q I (h σ H Q q)⟩
theorem ras_nil : RAs X xa W [] [] := ⟨paW pa_nil fun σ H Q ⟨B, F, env, S, q⟩ => (q : Post xa W σ F H (Res.ok []) _) F H (.refl S.hF) [] .nil⟩
theorem ras_cons {es : List Expr} {fs : List E} (ha : RE X xa W a fa) (hr : RAs X xa W es fs) (hs : starEach (a :: es) X.env = (false, eval a X.env) :: starEach es X.env := by rfl) : RAs X xa W (a :: es) (fa :: fs) := ⟨paW (pa_cons ha.pe hr.pa hs) fun σ H Q ⟨B, F, env, S, q⟩ =>
  ⟨B, F, env, S, (Post.bind (r := fa env) q).imp fun d F1 H1 _ x1 q1 v1 r1 => ⟨B, F1, env, S.ext x1, (Post.bind (r := eL fs env) q1).imp fun ds F2 H2 _ x2 q2 vs rs =>
    (q2 : Post xa W σ F2 H2 (Res.ok (d :: ds)) _) F2 H2 (.refl x2.le) _ (.cons (r1.on x2.f) rs)⟩⟩⟩
theorem eL_length {env : Env} : ∀ {fs : List E} {ds : List D}, eL fs env = .ok ds → ds.length = fs.length
  | [], ds, e => by
    have e' : Res.ok [] = Res.ok ds := e
    cases e'
    rfl
  | g :: gs, ds, e => by
    have e' : ((g env).bind fun x => (eL gs env).bind fun xs => Res.ok (x :: xs)) = .ok ds := e
    cases h : g env with
    | err c => rw [h] at e'; cases e'
    | stk => rw [h] at e'; cases e'
    | ok d =>
      rw [h] at e'
      cases k : eL gs env with
      | err c => rw [k] at e'; cases e'
      | stk => rw [k] at e'; cases e'
      | ok ds' =>
        rw [k] at e'
        cases e'
        rw [List.length_cons, List.length_cons, eL_length k]
theorem re_tup {es : List Expr} {fs : List E} {k : Nat} (h : RAs X xa W es fs) (hl : fs.length ≤ 1000 := by decide) : RE X xa W (.Tuple es k pos) (eTup fs) := ⟨peW (pe_tup h.pa) fun σ H Q ⟨B, F, env, S, q⟩ =>
  ⟨B, F, env, S, (Post.bind (r := eL fs env) q).imp fun ds F1 H1 e x1 q1 vs rs => by
    refine ⟨?_, fun a n => ?_⟩
    · rw [rs.length, sizeLine_eq, eL_length e]
      omega
    · exact (q1 : Post xa W σ F1 H1 (Res.ok (D.tup ds)) fun d F' H' => ∀ v, Rep X.K xa F' v d → Q v H') _ _ (.grow x1.le n) _ (.tup upd_same (rs.on (same_upd (x1.le.free n))))⟩⟩
theorem rf_lst {es : List Expr} {fs : List E} (h : RAs X xa W es fs) (hl : fs.length ≤ 1000 := by decide) : RF X xa W (.List es pos) (eLst fs) := ⟨peW (pe_lst h.pa) fun σ H Q ⟨B, F, env, S, q⟩ =>
  ⟨B, F, env, S, (Post.bind (r := eL fs env) q).imp fun ds F1 H1 e x1 q1 vs rs => by
    refine ⟨?_, fun a n => ?_⟩
    · rw [rs.length, sizeLine_eq, eL_length e]
      omega
    · exact (q1 : Post xa W σ F1 H1 (Res.ok (D.lst ds)) fun d F' H' => ∀ a, H a = none → F' a = none → OwnAt X.K xa F' H' a d → Q (.ref a) H') F1 _ (.heap x1.le n) a (x1.h.free n) (x1.le.free n) ⟨vs, upd_same, rs⟩⟩⟩
variable {K : PySem.W.Frag}
structure RP (X : Cx) (xa : XA) (W : WX) (e : Option Expr) (f : Option E) : Prop where
  po : PO X e fun σ H Q => ∃ B F env, Sim X.K xa B F env σ H ∧ Post xa W σ F H (eP f env) fun o _ H' => Q o H'
theorem poW {e : Option Expr} {t t' : TO} (p : PO X e t) (h : ∀ σ H Q, t' σ H Q → t σ H Q) : PO X e t' := ⟨fun pins s σ H Q I q => p.run pins s σ H Q I (h σ H Q q)⟩
theorem rp_none : RP X xa W none none := ⟨poW po_none fun σ H Q ⟨B, F, env, S, q⟩ => (q : Post xa W σ F H (Res.ok none) fun o _ H' => Q o H') F H (.refl S.hF)⟩
theorem rp_some (ha : RB X xa W a fa) : RP X xa W (some a) (some fa) := ⟨poW (po_some ha.pe) fun σ H Q ⟨B, F, env, S, q⟩ =>
  ⟨B, F, env, S, (Post.bind (r := fa env) q).imp fun d F1 H1 _ x1 q1 v1 b1 => by
    cases d <;> try exact q1.elim
    rename_i i _
    exact ⟨i, b1.int_, (q1 : Post xa W σ F1 H1 (Res.ok (some i)) fun o _ H' => Q o H') F1 H1 (.refl x1.le)⟩⟩⟩
variable {lo hi : Option Expr} {fl fh : Option E}
theorem re_slice (ha : RB X xa W a fa) (hl : RP X xa W lo fl) (hh : RP X xa W hi fh) : RE X xa W (.Subscript a (.Slice lo hi none p2) pos) (eSl fa fl fh) := by
  obtain ⟨r, h1, h2⟩ := ok_slice (X := X) (xa := xa)
  exact ⟨peW (pe_slice h1 ha.pe hl.po hh.po) fun σ H Q ⟨B, F, env, S, q⟩ =>
    ⟨B, F, env, S, (Post.bind (r := fa env) q).imp fun d F1 H1 _ x1 q1 v1 b1 => ⟨B, F1, env, S.ext x1, (Post.bind (r := eP fl env) q1).imp fun l F2 H2 _ x2 q2 =>
      ⟨B, F2, env, (S.ext x1).ext x2, (Post.bind (r := eP fh env) q2).imp fun h F3 H3 _ x3 q3 => (h2 F3 H3 v1 d l h x3.le (b1.on (x2.trans x3).f (x2.trans x3).h.k.up)).post q3⟩⟩⟩⟩
theorem re_rev {k : Nat} {p1 p3 p4 : Pos} (ha : RB X xa W a fa) : RE X xa W (.Subscript a (.Slice none none (some (.UnaryOp .USub (.Constant (.int 1) k p1) p4)) p3) pos) (e1 D.revL fa) := ⟨peW (pe_revL ha.pe) fun σ H Q ⟨B, F, env, S, q⟩ =>
  ⟨B, F, env, S, (Post.bind (r := fa env) q).imp fun d F1 H1 _ x1 q1 v1 b1 => by
    cases d with
    | lst ds =>
      obtain ⟨u, xs, rfl, h, r⟩ := ok_rev x1.le b1
      exact ⟨u, xs, rfl, h, fun p n => (q1 : Post xa W σ F1 H1 (Res.ok (D.lst ds.reverse)) fun d F' H' => ∀ v, Rep X.K xa F' v d → Q v H') _ _ (.grow x1.le n) _ (.lst upd_same (r.on (same_upd (x1.le.free n))))⟩
    | _ => exact q1.elim⟩⟩
theorem re_b1 {id : String} {F1 : D → Res D} (hr : ∃ r, CallR X (.builtin id) r ∧ OkC X.K xa r F1) (hg : Gl X x) (hm : X.mg x = none) (hv : bootBuiltins x = some (.builtin id)) (ha : RB X xa W a fa) (hn : x ≠ "__name__" := by decide) (hdb : (x == ("__debug__" : Str)) = false := by decide)
    (hs : starEach [a] X.env = (false, eval a X.env) :: starEach [] X.env := by rfl) : RE X xa W (.Call (.Name x p) [a] [] pos) (e1 F1 fa) := by
  obtain ⟨r, h1, h2⟩ := hr
  exact ⟨peW (pe_callB h1 hg hm hv (pa_cons ha.pe pa_nil hs) hn hdb hs rfl) fun σ H Q ⟨B, F, env, S, q⟩ =>
    ⟨B, F, env, S, (Post.bind (r := fa env) q).imp fun d F1' H1 _ x1 q1 v1 b1 => (h2 F1' H1 v1 d x1.le b1).post q1⟩⟩
theorem re_t1 {id : String} {F1 : D → Res D} (hr : ∃ r, CallR X (.type id) r ∧ OkC X.K xa r F1) (hg : Gl X x) (hm : X.mg x = none) (hv : bootBuiltins x = some (.type id)) (ha : RB X xa W a fa) (hn : x ≠ "__name__" := by decide) (hdb : (x == ("__debug__" : Str)) = false := by decide)
    (hs : starEach [a] X.env = (false, eval a X.env) :: starEach [] X.env := by rfl) : RE X xa W (.Call (.Name x p) [a] [] pos) (e1 F1 fa) := by
  obtain ⟨r, h1, h2⟩ := hr
  exact ⟨peW (pe_callTy h1 hg hm hv (pa_cons ha.pe pa_nil hs) hn hdb hs rfl) fun σ H Q ⟨B, F, env, S, q⟩ =>
    ⟨B, F, env, S, (Post.bind (r := fa env) q).imp fun d F1' H1 _ x1 q1 v1 b1 => (h2 F1' H1 v1 d x1.le b1).post q1⟩⟩
theorem rf_b1 {id : String} {F1 : D → Res D} (hr : ∃ r, CallR X (.builtin id) r ∧ OkF X.K xa r F1) (hg : Gl X x) (hm : X.mg x = none) (hv : bootBuiltins x = some (.builtin id)) (ha : RB X xa W a fa) (hn : x ≠ "__name__" := by decide) (hdb : (x == ("__debug__" : Str)) = false := by decide)
    (hs : starEach [a] X.env = (false, eval a X.env) :: starEach [] X.env := by rfl) : RF X xa W (.Call (.Name x p) [a] [] pos) (e1 F1 fa) := by
  obtain ⟨r, h1, h2⟩ := hr
  exact ⟨peW (pe_callB h1 hg hm hv (pa_cons ha.pe pa_nil hs) hn hdb hs rfl) fun σ H Q ⟨B, F, env, S, q⟩ =>
    ⟨B, F, env, S, (Post.bind (r := fa env) q).imp fun d F1' H1 _ x1 q1 v1 b1 => (h2 F1' H1 v1 d x1.le b1).post (q1.imp fun z F2 H2 _ x2 q2 u n nF o => q2 u (x1.h.free n) nF o)⟩⟩
theorem rf_t1 {id : String} {F1 : D → Res D} (hr : ∃ r, CallR X (.type id) r ∧ OkF X.K xa r F1) (hg : Gl X x) (hm : X.mg x = none) (hv : bootBuiltins x = some (.type id)) (ha : RB X xa W a fa) (hn : x ≠ "__name__" := by decide) (hdb : (x == ("__debug__" : Str)) = false := by decide)
    (hs : starEach [a] X.env = (false, eval a X.env) :: starEach [] X.env := by rfl) : RF X xa W (.Call (.Name x p) [a] [] pos) (e1 F1 fa) := by
  obtain ⟨r, h1, h2⟩ := hr
  exact ⟨peW (pe_callTy h1 hg hm hv (pa_cons ha.pe pa_nil hs) hn hdb hs rfl) fun σ H Q ⟨B, F, env, S, q⟩ =>
    ⟨B, F, env, S, (Post.bind (r := fa env) q).imp fun d F1' H1 _ x1 q1 v1 b1 => (h2 F1' H1 v1 d x1.le b1).post (q1.imp fun z F2 H2 _ x2 q2 u n nF o => q2 u (x1.h.free n) nF o)⟩⟩
inductive Args (K : PySem.W.Frag) (xa : Nat → Addr) (F G : Hp) : List Bool → List V → List D → Prop
  | nil : Args K xa F G [] [] []
  | lent {ms : List Bool} {v : V} {vs : List V} {d : D} {ds : List D} : Bor K xa F G v d → Args K xa F G ms vs ds → Args K xa F G (true :: ms) (v :: vs) (d :: ds)
  | sh {ms : List Bool} {v : V} {vs : List V} {d : D} {ds : List D} : Rep K xa F v d → Args K xa F G ms vs ds → Args K xa F G (false :: ms) (v :: vs) (d :: ds)
theorem Args.on {F F' G G' : Hp} {ms : List Bool} {vs : List V} {ds : List D} (h : Args K xa F G ms vs ds) (f : Same F F') (g : Up G G') : Args K xa F' G' ms vs ds := by
  induction h with
  | nil => exact .nil
  | lent b _ ih => exact .lent (b.on f g) ih
  | sh b _ ih => exact .sh (b.on f) ih
theorem Args.len {F G : Hp} {ms : List Bool} {vs : List V} {ds : List D} (h : Args K xa F G ms vs ds) : vs.length = ms.length ∧ ds.length = ms.length := by
  induction h with
  | nil => exact ⟨rfl, rfl⟩
  | lent _ _ ih => simp [ih.1, ih.2]
  | sh _ _ ih => simp [ih.1, ih.2]
def Ret (K : PySem.W.Frag) (xa : XA) (F H F' H' : Hp) : Bool → V → D → Prop
  | true, v, d => ∃ a, v = .ref a ∧ H a = none ∧ F' a = none ∧ OwnAt K xa F' H' a d
  | false, v, d => Rep K xa F' v d
def spD (K : PySem.W.Frag) (xa : XA) (ms : List Bool) (fr : Bool) (m : List D → Res D) : Sp := fun vs H Q E => ∃ F ds, Same F H ∧ NT F ∧ LamX.Tabs xa.tb H ∧ Args K xa F H ms vs ds ∧ match m ds with
  | .ok d => ∀ F' H' v, Ext xa.tb F H F' H' → Ret K xa F H F' H' fr v d → Q v H'
  | .err c => ∀ F' H', Ext xa.tb F H F' H' → E (.ref (xa c)) none H'
  | .stk => False
structure Df (P : Program) (w : World) (K : PySem.W.Frag) (mg : Str → Option Value) (base : Heap) (xa : XA) (k : Nat) (x : Str) (ms : List Bool) (fr : Bool) (m : List D → Res D) : Prop where
  ex : ∃ (f : Addr) (fd : FuncData) (ps : List Str), FnOk P w K mg base (L2.CX P w) k f fd ps (spD K xa ms fr m) ∧ mg x = some (.ref f) ∧ PySem.W.keepIn K (.ref f) = true ∧ Binds K fd ps []
structure RAm (X : Cx) (xa : XA) (W : WX) (ms : List Bool) (es : List Expr) (fs : List E) : Prop where
  pa : PA X es fun σ H Q => ∃ B F env, Sim X.K xa B F env σ H ∧ Post xa W σ F H (eL fs env) fun ds F' H' => ∀ vs, Args X.K xa F' H' ms vs ds → Q vs H'
theorem ram_nil : RAm X xa W [] [] [] := ⟨paW pa_nil fun σ H Q ⟨B, F, env, S, q⟩ => (q : Post xa W σ F H (Res.ok []) fun ds F' H' => ∀ vs, Args X.K xa F' H' [] vs ds → Q vs H') F H (.refl S.hF) [] .nil⟩
theorem ram_b {ms : List Bool} {es : List Expr} {fs : List E} (ha : RB X xa W a fa) (hr : RAm X xa W ms es fs) (hs : starEach (a :: es) X.env = (false, eval a X.env) :: starEach es X.env := by rfl) : RAm X xa W (true :: ms) (a :: es) (fa :: fs) := ⟨paW (pa_cons ha.pe hr.pa hs) fun σ H Q ⟨B, F, env, S, q⟩ =>
  ⟨B, F, env, S, (Post.bind (r := fa env) q).imp fun d F1 H1 _ x1 q1 v1 r1 => ⟨B, F1, env, S.ext x1, (Post.bind (r := eL fs env) q1).imp fun ds F2 H2 _ x2 q2 vs rs =>
    (q2 : Post xa W σ F2 H2 (Res.ok (d :: ds)) fun ds F' H' => ∀ vs, Args X.K xa F' H' (true :: ms) vs ds → Q vs H') F2 H2 (.refl x2.le) _ (.lent (r1.on x2.f x2.h.k.up) rs)⟩⟩⟩
theorem ram_s {ms : List Bool} {es : List Expr} {fs : List E} (ha : RE X xa W a fa) (hr : RAm X xa W ms es fs) (hs : starEach (a :: es) X.env = (false, eval a X.env) :: starEach es X.env := by rfl) : RAm X xa W (false :: ms) (a :: es) (fa :: fs) := ⟨paW (pa_cons ha.pe hr.pa hs) fun σ H Q ⟨B, F, env, S, q⟩ =>
  ⟨B, F, env, S, (Post.bind (r := fa env) q).imp fun d F1 H1 _ x1 q1 v1 r1 => ⟨B, F1, env, S.ext x1, (Post.bind (r := eL fs env) q1).imp fun ds F2 H2 _ x2 q2 vs rs =>
    (q2 : Post xa W σ F2 H2 (Res.ok (d :: ds)) fun ds F' H' => ∀ vs, Args X.K xa F' H' (false :: ms) vs ds → Q vs H') F2 H2 (.refl x2.le) _ (.sh (r1.on x2.f) rs)⟩⟩⟩
theorem call_core {k : Nat} {ms : List Bool} {fr : Bool} {m : List D → Res D} {es : List Expr} {fs : List E} (Df_ : Df X.prog X.w X.K X.mg X.base xa k x ms fr m) (hr : Room k X.A) (tk : Takes X W) (hg : Gl X x) (ha : RAm X xa W ms (a :: es) fs)
    (hdb : (x == ("__debug__" : Str)) = false := by decide) (he : starEach (a :: es) X.env = (false, eval a X.env) :: starEach es X.env := by rfl) (hpl : (backTo pos (starEach es X.env)).any (·.1) = false := by rfl) :
    PE X (.Call (.Name x p) (a :: es) [] pos) (fun σ H Q => ∃ B F env, Sim X.K xa B F env σ H ∧ Post xa W σ F H (eCall m fs env) fun d F' H' => ∀ v, Ret X.K xa F H F' H' fr v d → Q v H') := by
  obtain ⟨f, fd, ps, hf, hm, hk, hb⟩ := Df_.ex
  refine peW (pe_callS hf hr hg hm hk hb (fun σ => passAt tk σ) ha.pa hdb he hpl) fun σ H Q ⟨B, F, env, S, q⟩ => ?_
  refine ⟨B, F, env, S, (Post.bind (r := eL fs env) q).imp fun ds F1 H1 _ x1 q1 vs as => ?_⟩
  refine ⟨F1, ds, x1.le, x1.nt S.nt, x1.h.tab S.tab, as, ?_⟩
  cases z : m ds with
  | ok d =>
    rw [z] at q1
    intro F2 H2 v x2 rt
    refine q1 F2 H2 x2 v ?_
    cases fr with
    | true => obtain ⟨u, e1, e2, e3, e4⟩ := rt; exact ⟨u, e1, x1.h.free e2, e3, e4⟩
    | false => exact rt
  | err c => rw [z] at q1; exact q1
  | stk => rw [z] at q1; exact q1
theorem re_call {k : Nat} {ms : List Bool} {m : List D → Res D} {es : List Expr} {fs : List E} (Df_ : Df X.prog X.w X.K X.mg X.base xa k x ms false m) (hr : Room k X.A) (tk : Takes X W) (hg : Gl X x) (ha : RAm X xa W ms (a :: es) fs)
    (hdb : (x == ("__debug__" : Str)) = false := by decide) (he : starEach (a :: es) X.env = (false, eval a X.env) :: starEach es X.env := by rfl) (hpl : (backTo pos (starEach es X.env)).any (·.1) = false := by rfl) :
    RE X xa W (.Call (.Name x p) (a :: es) [] pos) (eCall m fs) := ⟨call_core Df_ hr tk hg ha hdb he hpl⟩
theorem rf_call {k : Nat} {ms : List Bool} {m : List D → Res D} {es : List Expr} {fs : List E} (Df_ : Df X.prog X.w X.K X.mg X.base xa k x ms true m) (hr : Room k X.A) (tk : Takes X W) (hg : Gl X x) (ha : RAm X xa W ms (a :: es) fs)
    (hdb : (x == ("__debug__" : Str)) = false := by decide) (he : starEach (a :: es) X.env = (false, eval a X.env) :: starEach es X.env := by rfl) (hpl : (backTo pos (starEach es X.env)).any (·.1) = false := by rfl) :
    RF X xa W (.Call (.Name x p) (a :: es) [] pos) (eCall m fs) := ⟨peW (call_core Df_ hr tk hg ha hdb he hpl) fun σ H Q ⟨B, F, env, S, q⟩ =>
  ⟨B, F, env, S, q.imp fun d F' H' _ _ q1 v ⟨u, e1, e2, e3, e4⟩ => by subst e1; exact q1 u e2 e3 e4⟩⟩
end
end Tw
set_option autoImplicit false
set_option Elab.async false
set_option linter.all false
set_option maxRecDepth 100000
set_option maxHeartbeats 2000000
namespace TwHot
open PySem PySem.Spec PyProof.Rows HotX
section
variable {prog : Program} {w : World} {A : Around} {E : Value → Shared → Prop} {s : Shared}
theorem HotAt.in1 {x1 : Addr} {h : Heap} (t : HotAt A x1 h) : HotAt A.in1 x1 h := t
theorem HotAt.keep {x1 : Addr} {h h' : Heap} (t : HotAt A x1 h) (k : ∀ o, h.get? x1 = some o → h'.get? x1 = some o) : HotAt A x1 h' := by
  obtain ⟨hh, o, vs, e, d, c⟩ := t
  exact ⟨hh, o, vs, k o e, d, c⟩
theorem raise_stop_hot {α : Type} {x1 it : Addr} {o : Obj} {Q : α → Shared → Prop} {v : Value} {tk : Nat} (hot : HotAt A x1 s.heap) (ne : x1 ≠ it) (ho : s.heap.get? it = some o)
    (hE : ∀ (h' : Heap) (e : Addr), Heap.ExtBut it s.heap h' → (∃ oe, h'.get? e = some oe ∧ oe.cls = .type "StopIteration") → E (.ref e) { s with heap := h' })
    {h1 : Heap} (k1 : Heap.ExtBut it s.heap h1) :
    wpAny (model prog w) A (newExc (.type "StopIteration") [] >>= fun e => (raiseNew e : Sem α)) Q E { s with heap := h1 } := by
  have hot1 : HotAt A x1 h1 := HotAt.keep hot fun o e => k1 _ _ ne e
  obtain ⟨hh, o1, vs1, e1, d1, c1⟩ := hot1
  refine wpAny_bind ?_
  simp only [newExc, newTuple]
  refine wpAny_bind (wpAny_newObj_type ?_ (by size_fits))
  refine wpAny_bind (m := firstArgMember _ _) (wpAny_of_eq (a := Value.none) (by first | rfl | (simp only [firstArgMember]; rfl)) ?_)
  refine wpAny_newObj_type ?_ (by size_fits)
  refine raiseNew_hot ⟨hh, o1, vs1, Heap.get?_push_of_some _ (Heap.get?_push_of_some _ e1), d1, c1⟩ (Nat.ne_of_lt (Heap.lt_size (Heap.get?_push_of_some _ e1))) (Heap.get?_push_size _ rfl) rfl (by first | (simp; done) | (simp; omega) | (simp only [Array.size_append]; simp; omega)) ?_
  refine hE _ _ (fun b ob hb e => ?_) ⟨_, Heap.get?_update_self _ (Heap.get?_push_size _ rfl) rfl, rfl⟩
  have e2 := Heap.get?_push_of_some (h := h1) { cls := .type "tuple", data := .seq #[] } (k1 b ob hb e)
  rw [Heap.get?_update_other _ _ (Nat.ne_of_gt (Heap.lt_size e2))]
  exact Heap.get?_push_of_some _ e2
theorem next_list_end_hot {it l x1 : Addr} {i : Nat} {items : Array Value} {Q : Option Value → Shared → Prop} (hot : HotAt A x1 s.heap) (ne : x1 ≠ it)
    (hit : s.heap.IsListIter it l i) (hl : s.heap.IsList l items) (hx : items[i]? = none)
    (hQ : ∀ h', Heap.ExtBut it s.heap h' → Q none { s with heap := h' }) : wpAny (model prog w) A (pyNext (.ref it)) Q E s := by
  obtain ⟨o, ho, hc, hd⟩ := id hit
  obtain ⟨ol, hol, _, nl, hdl⟩ := hl
  unfold pyNext
  refine wpAny_bind (wpAny_attempt (wpAny_callSpecial?_slot (name := Str.ofString "__next__") hit.typeIs slot_listiter_next
    (wpAny_call_entry slot_listiter_next hit.typeIs entry_listiter_next ?_ (args_listiter_next _))))
  show wpAny _ _ (field (.ref it) 0 >>= _) _ _ s
  refine wpAny_bind (wpAny_field ho hd (x := .ref l) rfl ?_)
  show wpAny _ _ (if (Value.ref l == Value.none) = true then _ else _) _ _ s
  rw [if_neg (show ¬ ((Value.ref l == Value.none) = true) from Bool.false_ne_true)]
  show wpAny _ _ (field (.ref it) 1 >>= _) _ _ s
  refine wpAny_bind (wpAny_field ho hd (x := .int i 0) rfl ?_)
  show wpAny _ _ (seqItems? (.ref l) >>= _) _ _ s
  refine wpAny_bind (wpAny_seqItems hol hdl ?_)
  simp only [Int.toNat_natCast, hx]
  refine wpAny_bind (wpAny_rule (wpAny_bind (wpAny_setField ho hd (by simp) ?_)))
  refine raise_stop_hot (s := s) (HotAt.in1 hot) ne ho (fun h' e k ⟨oe, he, hce⟩ => ?_) (Heap.SameBut.update ..).extBut (v := .none) (tk := 0)
  refine wpAny_bind (wpAny_isInstance (T := "StopIteration") (b := true) ⟨oe, he, hce⟩ isSubtype_stop ?_)
  exact wpAny_pure (hQ _ k)
theorem next_tuple_end_hot {it t x1 : Addr} {i : Nat} {items : Array Value} {Q : Option Value → Shared → Prop} (hot : HotAt A x1 s.heap) (ne : x1 ≠ it)
    (hit : s.heap.IsTupleIter it t i) (ht : s.heap.IsTuple t items) (hx : items[i]? = none)
    (hQ : ∀ h', Heap.ExtBut it s.heap h' → Q none { s with heap := h' }) : wpAny (model prog w) A (pyNext (.ref it)) Q E s := by
  obtain ⟨o, ho, hc, hd⟩ := id hit
  obtain ⟨ol, hol, _, nl, hdl⟩ := ht
  unfold pyNext
  refine wpAny_bind (wpAny_attempt (wpAny_callSpecial?_slot (name := Str.ofString "__next__") hit.typeIs F.slot_tuple_iterator_next
    (wpAny_call_entry F.slot_tuple_iterator_next hit.typeIs F.entry_tuple_iterator_next ?_ (F.args_tuple_iterator_next_1 _))))
  show wpAny _ _ (field (.ref it) 0 >>= _) _ _ s
  refine wpAny_bind (wpAny_field ho hd (x := .ref t) rfl ?_)
  show wpAny _ _ (if (Value.ref t == Value.none) = true then _ else _) _ _ s
  rw [if_neg (show ¬ ((Value.ref t == Value.none) = true) from Bool.false_ne_true)]
  show wpAny _ _ (field (.ref it) 1 >>= _) _ _ s
  refine wpAny_bind (wpAny_field ho hd (x := .int i 0) rfl ?_)
  show wpAny _ _ (seqItems? (.ref t) >>= _) _ _ s
  refine wpAny_bind (wpAny_seqItems hol hdl ?_)
  simp only [Int.toNat_natCast, hx]
  refine wpAny_bind (wpAny_rule (wpAny_bind (wpAny_setField ho hd (by simp) ?_)))
  refine raise_stop_hot (s := s) (HotAt.in1 hot) ne ho (fun h' e k ⟨oe, he, hce⟩ => ?_) (Heap.SameBut.update ..).extBut (v := .none) (tk := 0)
  refine wpAny_bind (wpAny_isInstance (T := "StopIteration") (b := true) ⟨oe, he, hce⟩ isSubtype_stop ?_)
  exact wpAny_pure (hQ _ k)
theorem walks_list_hot {I ax x1 : Addr} (hne : ax ≠ I) (hx : x1 ≠ I) (items : Array Value) :
    Walks prog w A I [I, ax, x1] [I] items.size (fun i v => items[i]? = some v) (fun i h => (h.IsListIter I ax i ∧ h.IsList ax items) ∧ HotAt A x1 h) where
  sub := fun b hb => by simp at hb; simp [hb]
  frame := fun _ _ _ st hk => ⟨⟨st.1.1.at fun o e => hk I (by simp) o e, st.1.2.at fun o e => hk ax (by simp) o e⟩, HotAt.keep st.2 fun o e => hk x1 (by simp) o e⟩
  item := fun i s Q E hi st hQ => by
    refine wpAny_pyNext_list_item st.1.1 st.1.2 (x := items[i]) (by simp [hi]) fun h' hit' hs' => ?_
    exact hQ _ h' s.toks (by simp [hi]) ⟨⟨hit', st.1.2.extBut hs'.extBut hne⟩, HotAt.keep st.2 fun o e => hs'.extBut _ _ hx e⟩ fun b o hb e => hs'.extBut b o (fun h => hb (by simp [h])) e
  done := fun s Q E st hQ => next_list_end_hot st.2 hx st.1.1 st.1.2 (by simp) fun h' he' => hQ h' s.toks fun b o hb e => he' b o (fun h => hb (by simp [h])) e
  self := fun _ _ _ _ st hQ => wpAny_pyIter_listiter st.1.1 hQ
end
end TwHot
set_option autoImplicit false
set_option Elab.async false
set_option linter.all false
set_option maxRecDepth 100000
namespace Tw
open PySem L2
section
variable {K : PySem.W.Frag} {xa : XA} {B F H F' H' : Hp} {env : Env} {σ : Sl}
theorem Sim.set_sh (S : Sim K xa B F env σ H) {v : V} {d : D} (r : Rep K xa F v d) (i : Nat) : Sim K xa B F (env.set i (.sh d)) (σ.set i (some v)) H :=
  S.put0 i _ _ ⟨v, rfl, r⟩ fun _ _ p => p
theorem Sim.set_own (S : Sim K xa B F env σ H) {a : Addr} {d : D} (nF : F a = none) (nB : B a = none) (o : OwnAt K xa F H a d) (i : Nat) (ne : ∀ (j k : Nat) (s : Slot), j ≠ i → env[j]? = some s → ¬ PlS H k a s σ[j]?) : Sim K xa B F (env.set i (.own d)) (σ.set i (some (.ref a))) H :=
  S.put i _ _ S.hB S.hF S.nt S.tab (.refl _) (fun j k a s _ e p => ⟨(p.there (S.sl j s e)).1, rfl⟩) (fun _ => ⟨a, rfl, nF, nB, o⟩) (fun j k l b s h e p q => by
    obtain ⟨_, e'⟩ := q
    cases e'
    exact ne j k s h e p) fun k l b p q => p.1.trans q.1.symm
theorem wipeE_length : ∀ (own : List Nat), (wipeE env own).length = env.length
  | [] => rfl
  | i :: r => by unfold wipeE; rw [List.length_set, wipeE_length r]
theorem wipeE_get {s : Slot} {j : Nat} : ∀ {own : List Nat}, (wipeE env own)[j]? = some s → (s = .un ∧ j ∈ own) ∨ (env[j]? = some s ∧ j ∉ own)
  | [], h => .inr ⟨h, by simp⟩
  | i :: r, h => by
    unfold wipeE at h
    by_cases e : i = j
    · subst e
      have hi : i < (wipeE env r).length := by
        have := (List.getElem?_eq_some_iff.mp h).1
        simpa using this
      rw [List.getElem?_set_self hi] at h
      cases h
      exact .inl ⟨rfl, by simp⟩
    · rw [List.getElem?_set_ne e] at h
      rcases wipeE_get h with ⟨h1, h2⟩ | ⟨h1, h2⟩
      · exact .inl ⟨h1, List.mem_cons_of_mem _ h2⟩
      · exact .inr ⟨h1, by simp [h2, Ne.symm e]⟩
theorem wipe_get {j : Nat} : ∀ {own : List Nat}, j ∉ own → (wipe σ own)[j]? = σ[j]?
  | [], _ => rfl
  | i :: r, h => by
    unfold wipe
    rw [List.getElem?_set_ne (fun e => h (by simp [e]))]
    exact wipe_get fun z => h (List.mem_cons_of_mem _ z)
theorem wipe_own {j : Nat} : ∀ {own : List Nat}, j ∈ own → j < σ.length → (wipe σ own)[j]? = some none
  | i :: r, h, hl => by
    unfold wipe
    by_cases e : i = j
    · subst e
      exact List.getElem?_set_self (by rw [wipe_length]; exact hl)
    · rw [List.getElem?_set_ne e]
      rcases List.mem_cons.mp h with z | z
      · exact absurd z.symm e
      · exact wipe_own z hl
theorem Up.refl (F : Hp) : Up F F := .of (.refl _)
theorem RM.trans {F1 F2 F3 : Hp} (a : RM F1 F2) (b : RM F2 F3) : RM F1 F3 := fun c u h r => b c u h (a c u h r)
theorem Up.trans {F1 F2 F3 : Hp} (a : Up F1 F2) (b : Up F2 F3) : Up F1 F3 := ⟨a.rm.trans b.rm, fun c x e => b.tup c x (a.tup c x e), fun c x e => b.ls c x (a.ls c x e), fun c x e => b.ext c x (a.ext c x e), fun c C d x e => b.ins c C d x (a.ins c C d x e)⟩
theorem Sim.lend {B' : Hp} (S : Sim K xa B F env σ H) (own : List Nat) (f : Up F F') (h : Up H B') (bh : Kp xa.tb B' H') (fh : Same F' H') (nt : NT F') (tb : LamX.Tabs xa.tb H') : Sim K xa B' F' (blkE own env) (wipe σ own) H' := by
  refine ⟨by unfold blkE; rw [List.length_map, wipeE_length, wipe_length, S.len], bh, fh, nt, tb, fun j s e => ?_, fun i j k l a s t e1 _ p _ => ?_⟩
  · unfold blkE at e
    rw [List.getElem?_map] at e
    cases z : (wipeE env own)[j]? with
    | none => rw [z] at e; cases e
    | some t =>
      rw [z] at e
      simp only [Option.map_some, Option.some.injEq] at e
      rcases wipeE_get z with ⟨rfl, _⟩ | ⟨h1, h2⟩
      · subst e; trivial
      · have q := S.sl j t h1
        rw [wipe_get h2]
        cases t with
        | un => subst e; trivial
        | sh d => subst e; obtain ⟨v, e, r⟩ := q; exact ⟨v, e, r.up f⟩
        | bor d => subst e; obtain ⟨v, e, r⟩ := q; exact ⟨v, e, r.up f (S.hB.k.up.trans h)⟩
        | own d =>
          subst e
          obtain ⟨a, e, _, _, o⟩ := q
          exact ⟨_, e, .inr ⟨a, rfl, o.obj.up f h⟩⟩
        | ob m c fs =>
          subst e
          obtain ⟨a, e, _, _, _, dx, vs, ha, r⟩ := q
          refine ⟨a, e, dx, vs, h.ins _ _ _ _ ha, r.imp fun x v y => ?_⟩
          cases x with
          | sh d => exact Rep.up f y
          | own d => obtain ⟨p, e, _, _, o⟩ := y; exact ⟨p, e, o.obj.up f h⟩
        | lo c fs =>
          subst e
          obtain ⟨a, e, dx, vs, ha, r⟩ := q
          exact ⟨a, e, dx, vs, h.ins _ _ _ _ (S.hB.k _ _ rfl ha), r.imp fun x v y => y.up f (S.hB.k.up.trans h)⟩
  · unfold blkE at e1
    rw [List.getElem?_map] at e1
    cases z : (wipeE env own)[i]? with
    | none => rw [z] at e1; cases e1
    | some u => rw [z] at e1; cases u <;> (simp [Slot.lend] at e1; subst e1; exact p.elim)
theorem Sim.blk (S : Sim K xa B F env σ H) (own : List Nat) (x : Ext xa.tb F H F' H') : Sim K xa H F' (blkE own env) (wipe σ own) H' := S.lend own (.of x.f) (.refl H) x.h x.le (x.nt S.nt) (x.h.tab S.tab)
def Agr (is : List Nat) (σ σ' : Sl) : Prop := σ'.length = σ.length ∧ ∀ j, j ∉ is → σ'[j]? = σ[j]?
theorem Agr.refl (is : List Nat) (σ : Sl) : Agr is σ σ := ⟨rfl, fun _ _ => rfl⟩
theorem Agr.trans {is js : List Nat} {σ σ1 σ2 : Sl} (a : Agr is σ σ1) (b : Agr js σ1 σ2) : Agr (is ++ js) σ σ2 := ⟨b.1.trans a.1, fun j h => by
  rw [List.mem_append, not_or] at h
  rw [b.2 j h.2, a.2 j h.1]⟩
theorem Agr.wipe {is own : List Nat} {σ σ' : Sl} (a : Agr is (L2.wipe σ own) σ') (h : ∀ i ∈ is, i ∈ own) : L2.wipe σ' own = L2.wipe σ own := by
  have e1 := a.1
  rw [wipe_length] at e1
  apply List.ext_getElem?
  intro j
  by_cases hj : j ∈ own
  · by_cases hl : j < σ.length
    · rw [wipe_own hj hl, wipe_own hj (by rw [e1]; exact hl)]
    · rw [List.getElem?_eq_none (by rw [wipe_length]; omega), List.getElem?_eq_none (by rw [wipe_length]; omega)]
  · rw [wipe_get hj, a.2 j fun z => hj (h j z)]
def pG (K : PySem.W.Frag) (xa : XA) (is : List Nat) (g : G) : TG := fun v σ H Q => ∃ B F env d, Sim K xa B F env σ H ∧ Rep K xa F v d ∧ ∃ e', g d env = .ok e' ∧ ∀ σ', Sim K xa B F e' σ' H → Agr is σ σ' → Q σ' H
def pGs (K : PySem.W.Frag) (xa : XA) (is : List Nat) (gs : List G) : TGs := fun vs σ H Q => ∃ B F env ds, Sim K xa B F env σ H ∧ Reps K xa F vs ds ∧ ∃ e', gsGo gs ds env = .ok e' ∧ ∀ σ', Sim K xa B F e' σ' H → Agr is σ σ' → Q σ' H
structure RG (X : Cx) (xa : XA) (tg : Expr) (is : List Nat) (g : G) : Prop where
  pg : PG X tg (pG X.K xa is g)
structure RGs (X : Cx) (xa : XA) (ts : List Expr) (is : List Nat) (gs : List G) : Prop where
  pgs : PGs X ts (pGs X.K xa is gs)
theorem pgW {X : Cx} {tg : Expr} {t t' : TG} (p : PG X tg t) (h : ∀ v σ H Q, t' v σ H Q → t v σ H Q) : PG X tg t' := ⟨fun pins s σ H v u Q I r q => p.run pins s σ H v u Q I r (h v σ H Q q)⟩
theorem pgsW {X : Cx} {ts : List Expr} {t t' : TGs} (p : PGs X ts t) (h : ∀ v σ H Q, t' v σ H Q → t v σ H Q) : PGs X ts t' := ⟨fun pins s σ H v u Q I r q => p.run pins s σ H v u Q I r (h v σ H Q q)⟩
variable {X : Cx} {x : Str} {pos p p2 : Pos}
theorem agr_set (i : Nat) (σ : Sl) (o : Option V) : Agr [i] σ (σ.set i o) := ⟨by simp, fun j h => List.getElem?_set_ne (fun e => h (by simp [e]))⟩
theorem rg_name {i : Nat} (hN : X.N.Nodup) (hi : X.N[i]? = some x) (hx : Loc X.env.scope x) (hf : X.fn x = true ∨ X.env.scope.names.lookup x = some .local := by first | exact .inl rfl | exact .inr rfl | assumption) : RG X xa (.Name x pos) [i] (gN i) :=
  ⟨pgW (pg_name (i := i) hN hi hx hf) fun v σ H Q ⟨B, F, env, d, S, r, e', he, q⟩ => by
    cases he
    exact q _ (S.set_sh r i) (agr_set i σ _)⟩
theorem rgs_nil : RGs X xa [] [] [] := ⟨pgsW pgs_nil fun vs σ H Q ⟨B, F, env, ds, S, r, e', he, q⟩ => by
  cases r with
  | nil =>
    cases he
    exact ⟨rfl, q _ S (.refl _ _)⟩
  | cons _ _ => cases he⟩
theorem rgs_cons {e : Expr} {es : List Expr} {is js : List Nat} {g : G} {gs : List G} (h1 : RG X xa e is g) (h2 : RGs X xa es js gs)
    (hs : (assignEach (e :: es) X.env).map (·.2) = assign e X.env :: (assignEach es X.env).map (·.2) := by rfl) : RGs X xa (e :: es) (is ++ js) (g :: gs) := ⟨pgsW (pgs_cons h1.pg h2.pgs hs) fun vs σ H Q ⟨B, F, env, ds, S, r, e', he, q⟩ => by
  cases r with
  | nil => cases he
  | @cons v1 vs1 d1 ds1 r1 r2 =>
    have he' : ((g d1 env).bind fun e1 => gsGo gs ds1 e1) = .ok e' := he
    cases z : g d1 env with
    | err c => rw [z] at he'; cases he'
    | stk => rw [z] at he'; cases he'
    | ok e1 =>
      rw [z] at he'
      exact ⟨v1, vs1, rfl, B, F, env, d1, S, r1, e1, z, fun σ1 S1 a1 => ⟨B, F, e1, ds1, S1, r2, e', he', fun σ2 S2 a2 => q σ2 S2 (a1.trans a2)⟩⟩⟩
theorem gsGo_length : ∀ {gs : List G} {ds : List D} {e e' : Env}, gsGo gs ds e = .ok e' → ds.length = gs.length
  | [], [], _, _, _ => rfl
  | [], _ :: _, _, _, h => by cases h
  | _ :: _, [], _, _, h => by cases h
  | g :: gs, d :: ds, e, e', h => by
    have h' : ((g d e).bind fun e1 => gsGo gs ds e1) = .ok e' := h
    cases z : g d e with
    | err c => rw [z] at h'; cases h'
    | stk => rw [z] at h'; cases h'
    | ok e1 =>
      rw [z] at h'
      rw [List.length_cons, List.length_cons, gsGo_length h']
theorem rg_tup {es : List Expr} {is : List Nat} {gs : List G} {k : Nat} (hc : X.calm = true) (h : RGs X xa es is gs) (hn : (assignEach es X.env).length = gs.length := by rfl) (hst : (assignEach es X.env).findIdx? (·.1) = none := by rfl) : RG X xa (.Tuple es k pos) is (gT gs) :=
  ⟨pgW (pg_tup hc h.pgs hn hst) fun v σ H Q ⟨B, F, env, d, S, r, e', he, q⟩ => by
    cases d with
    | tup ds =>
      have he' : gsGo gs ds env = .ok e' := he
      cases r with
      | tup e r => exact ⟨_, _, rfl, SqT.of (S.hF _ _ e), by rw [r.length, gsGo_length he'], B, F, env, ds, S, r, e', he', q⟩
    | _ => cases he⟩
structure Walk (K : PySem.W.Frag) (xa : XA) (S F : Hp) (ds : List D) (J : It) : Prop where
  go : ∀ i H, Ke S H → i < ds.length → J.go i H
  stop : ∀ i H, Ke S H → ds.length ≤ i → J.stop i H
  yld : ∀ i H x H' F1, Ke S H → Same F F1 → Same F1 H → i < ds.length → J.yld i H x H' → ∃ F2 d, Ext xa.tb F1 H F2 H' ∧ ds[i]? = some d ∧ Rep K xa F2 x d
theorem walk_list {S : Hp} {a : Addr} {xs : List V} {ds : List D} (h : SqL K S a xs) (r : Reps K xa F xs ds) : Walk K xa S F ds (Itl K a) where
  go := fun i H s l => ⟨xs, xs[i]'(by rw [r.length]; exact l), s.seq h, by simp [r.length, l]⟩
  stop := fun i H s l => ⟨xs, s.seq h, by rw [r.length]; exact l⟩
  yld := fun i H x H' F1 s f fh l y => by
    obtain ⟨rfl, y⟩ := y
    obtain ⟨d, e, q⟩ := r.got (y xs (s.seq h))
    exact ⟨F1, d, .refl fh, e, q.on f⟩
theorem walk_tup {S : Hp} {a : Addr} {xs : List V} {ds : List D} (h : S a = some (.tup xs)) (r : Reps K xa F xs ds) : Walk K xa S F ds (Itt K a) where
  go := fun i H s l => ⟨xs, xs[i]'(by rw [r.length]; exact l), SqT.of (s _ _ rfl h), by simp [r.length, l]⟩
  stop := fun i H s l => ⟨xs, SqT.of (s _ _ rfl h), by rw [r.length]; exact l⟩
  yld := fun i H x H' F1 s f fh l y => by
    obtain ⟨rfl, y⟩ := y
    obtain ⟨d, e, q⟩ := r.got (y xs (SqT.of (s _ _ rfl h)))
    exact ⟨F1, d, .refl fh, e, q.on f⟩
theorem walk_range {S : Hp} (lo : Int) (n : Nat) : Walk K xa S F (rangeL lo n) (Itr lo n) where
  go := fun i H s l => by
    show i < n
    simpa [rangeL] using l
  stop := fun i H s l => by
    show n ≤ i
    simpa [rangeL] using l
  yld := fun i H x H' F1 s f fh l y => by
    obtain ⟨rfl, rfl⟩ := y
    have l' : i < n := by simpa [rangeL] using l
    exact ⟨F1, .int (lo + i), .refl fh, by simp [rangeL, l'], .int _⟩
theorem walk_str {S : Hp} (s : Nm) : Walk K xa S F (s.map fun c => D.str [c]) (Its ⟨s.toArray⟩) where
  go := fun i H _ l => by
    show i < (⟨s.toArray⟩ : Str).cps.size
    simpa using l
  stop := fun i H _ l => by
    show (⟨s.toArray⟩ : Str).cps.size ≤ i
    simpa using l
  yld := fun i H x H' F1 _ f fh l y => by
    obtain ⟨rfl, c, hc, rfl⟩ := y
    refine ⟨F1, .str [c], .refl fh, ?_, .str [c]⟩
    have hc' : s[i]? = some c := by simpa using hc
    simp [hc']
def pI (K : PySem.W.Frag) (xa : XA) (W : WX) (lent : Bool) (it : I) : TI := fun σ H R => ∃ B F env, Sim K xa B F env σ H ∧ Post xa W σ F H (it env) fun ds F' H' => ∀ J, Walk K xa (if lent then H' else F') F' ds J → R J H'
structure RI (X : Cx) (xa : XA) (W : WX) (lent : Bool) (tg e : Expr) (it : I) : Prop where
  pi : PI X tg e (pI X.K xa W lent it)
theorem piW {X : Cx} {tg e : Expr} {t t' : TI} (p : PI X tg e t) (h : ∀ σ H R, t' σ H R → t σ H R) : PI X tg e t' := ⟨fun pins s σ H R I q => p.run pins s σ H R I (h σ H R q)⟩
theorem pi_or {X : Cx} {tg e : Expr} {t t' : TI} (p : PI X tg e t) (p' : PI X tg e t') : PI X tg e (fun σ H R => t σ H R ∨ t' σ H R) := ⟨fun pins s σ H R I q => by
  rcases q with q | q
  · exact p.run pins s σ H R I q
  · exact p'.run pins s σ H R I q⟩
variable {W : WX} {tg a b c e : Expr} {fa fb fc : E}
theorem reps_ints {F : Hp} : ∀ ns : List Int, Reps K xa F (ns.map V.int) (ns.map D.int)
  | [] => .nil
  | n :: ns => .cons (.int n) (reps_ints ns)
theorem ri_lent (ha : RB X xa W a fa) : RI X xa W true tg a (iE fa) := ⟨piW (pi_or (pi_list ha.pe) (pi_or (pi_tup ha.pe) (pi_str ha.pe))) fun σ H R ⟨B, F, env, S, q⟩ => by
  have q0 := Post.bind (r := fa env) (f := D.items) q
  cases z : fa env with
  | stk => rw [z] at q0; exact q0.elim
  | err c =>
    refine .inl ⟨B, F, env, S, ?_⟩
    rw [z] at q0 ⊢
    exact q0
  | ok d =>
    rw [z] at q0
    cases d with
    | lst ds => exact .inl ⟨B, F, env, S, by
        rw [z]
        intro F1 H1 x1 v b1
        obtain ⟨u, xs, rfl, e, r⟩ := b1.lst_ x1.le
        exact ⟨u, rfl, ⟨xs, SqL.of e⟩, q0 F1 H1 x1 F1 H1 (.refl x1.le) _ (walk_list (SqL.of e) r)⟩⟩
    | inp ns => exact .inl ⟨B, F, env, S, by
        rw [z]
        intro F1 H1 x1 v b1
        obtain ⟨u, rfl, e⟩ := b1.inp_
        exact ⟨u, rfl, ⟨_, x1.le.seq e⟩, q0 F1 H1 x1 F1 H1 (.refl x1.le) _ (walk_list (x1.le.seq e) (reps_ints ns))⟩⟩
    | tup ds => exact .inr (.inl ⟨B, F, env, S, by
        rw [z]
        intro F1 H1 x1 v b1
        obtain ⟨u, xs, rfl, e, r⟩ := b1.tup_
        exact ⟨u, rfl, ⟨xs, SqT.of (x1.le _ _ e)⟩, q0 F1 H1 x1 F1 H1 (.refl x1.le) _ (walk_tup (x1.le _ _ e) r)⟩⟩)
    | str s => exact .inr (.inr ⟨B, F, env, S, by
        rw [z]
        intro F1 H1 x1 v b1
        exact ⟨_, b1.str_, q0 F1 H1 x1 F1 H1 (.refl x1.le) _ (walk_str s)⟩⟩)
    | _ => exact (q0 F H (.refl S.hF)).elim⟩
theorem ri_sh (ha : RE X xa W a fa) : RI X xa W false tg a (iE fa) := ⟨piW (pi_or (pi_list ha.pe) (pi_or (pi_tup ha.pe) (pi_str ha.pe))) fun σ H R ⟨B, F, env, S, q⟩ => by
  have q0 := Post.bind (r := fa env) (f := D.items) q
  cases z : fa env with
  | stk => rw [z] at q0; exact q0.elim
  | err c =>
    refine .inl ⟨B, F, env, S, ?_⟩
    rw [z] at q0 ⊢
    exact q0
  | ok d =>
    rw [z] at q0
    cases d with
    | lst ds => exact .inl ⟨B, F, env, S, by
        rw [z]
        intro F1 H1 x1 v b1
        cases b1 with
        | lst e r => exact ⟨_, rfl, ⟨_, SqL.of (x1.le _ _ e)⟩, q0 F1 H1 x1 F1 H1 (.refl x1.le) _ (walk_list (SqL.of e) r)⟩⟩
    | inp ns => exact .inl ⟨B, F, env, S, by
        rw [z]
        intro F1 H1 x1 v b1
        cases b1 with
        | inp e => exact ⟨_, rfl, ⟨_, x1.le.seq e⟩, q0 F1 H1 x1 F1 H1 (.refl x1.le) _ (walk_list e (reps_ints ns))⟩⟩
    | tup ds => exact .inr (.inl ⟨B, F, env, S, by
        rw [z]
        intro F1 H1 x1 v b1
        cases b1 with
        | tup e r => exact ⟨_, rfl, ⟨_, SqT.of (x1.le _ _ e)⟩, q0 F1 H1 x1 F1 H1 (.refl x1.le) _ (walk_tup e r)⟩⟩)
    | str s => exact .inr (.inr ⟨B, F, env, S, by
        rw [z]
        intro F1 H1 x1 v b1
        cases b1
        exact ⟨_, rfl, q0 F1 H1 x1 F1 H1 (.refl x1.le) _ (walk_str s)⟩⟩)
    | _ => exact (q0 F H (.refl S.hF)).elim⟩
theorem ri_r1 {lent : Bool} (hg : Gl X "range") (hm : X.mg "range" = none) (ha : RB X xa W a fa) (hs : starEach [a] X.env = [(false, eval a X.env)] := by rfl) : RI X xa W lent tg (.Call (.Name "range" p) [a] [] pos) (iR1 fa) := ⟨piW (pi_range1 hg hm (pa_cons ha.pe pa_nil hs) hs) fun σ H R ⟨B, F, env, S, q⟩ =>
  ⟨B, F, env, S, (Post.bind (r := fa env) q).imp fun d F1 H1 _ x1 q1 v1 b1 => by
    cases d <;> try exact q1.elim
    rename_i j _
    rw [b1.int_]
    simp only [rng1] at q1
    split at q1
    · rename_i h
      simp only [smallR, Bool.and_eq_true, decide_eq_true_eq] at h
      exact ⟨j, rfl, h.1, h.2, q1 F1 H1 (.refl x1.le) _ (walk_range 0 _)⟩
    · exact q1.elim⟩⟩
end
end Tw
set_option autoImplicit false
set_option Elab.async false
set_option linter.all false
set_option maxRecDepth 100000
namespace Tw
open PySem L2
abbrev W0 : WX := fun _ _ _ _ => False
section
variable {X : Cx} {xa : XA} {W : WX} {tg iter elt a e : Expr} {ifs : List Expr} {scope : Scope} {pos p : Pos}
structure RTs (X : Cx) (xa : XA) (W : WX) (ifs : List Expr) (t : T) : Prop where
  pts : PTs X ifs (pT X.K xa W t)
theorem rts_nil : RTs X xa W [] tTrue := ⟨⟨fun pins s σ H Q I ⟨B, F, env, S, q⟩ => pts_nil.run pins s σ H Q I ((q : Post xa W σ F H (Res.ok true) fun b _ H' => Q b H') F H (.refl S.hF))⟩⟩
theorem rts_one {t : T} (h : RT X xa W a t) : RTs X xa W [a] t := ⟨pts_one h.pt⟩
theorem compGo_snoc {f : D → Res (Option D)} : ∀ {xs : List D} {ys : List D} {x : D} {o : Option D}, compGo f xs = .ok ys → f x = .ok o → compGo f (xs ++ [x]) = .ok (match o with
    | some y => ys ++ [y]
    | none => ys)
  | [], ys, x, o, h, g => by
    cases h
    show compGo f [x] = _
    unfold compGo
    rw [g]
    cases o <;> rfl
  | z :: xs, ys, x, o, h, g => by
    unfold compGo at h
    show compGo f (z :: (xs ++ [x])) = _
    unfold compGo
    cases k : f z with
    | err c => rw [k] at h; cases h
    | stk => rw [k] at h; cases h
    | ok w =>
      rw [k] at h
      simp only at h ⊢
      cases l : compGo f xs with
      | err c => rw [l] at h; cases h
      | stk => rw [l] at h; cases h
      | ok r =>
        rw [l] at h
        rw [compGo_snoc l g]
        cases w <;> cases o <;> (simp at h ⊢; first | exact h | (subst h; simp))
theorem compGo_noErr {f : D → Res (Option D)} : ∀ {xs : List D} {k : Nat}, compGo f xs = .err k → False
  | [], _, h => by cases h
  | z :: xs, k, h => by
    unfold compGo at h
    cases e : f z with
    | err c => rw [e] at h; cases h
    | stk => rw [e] at h; cases h
    | ok w =>
      rw [e] at h
      simp only at h
      cases l : compGo f xs with
      | err c => exact compGo_noErr l
      | stk => rw [l] at h; cases h
      | ok r => rw [l] at h; cases h
theorem compGo_at {f : D → Res (Option D)} : ∀ {xs : List D} {ys : List D} {i : Nat} {x : D}, compGo f xs = .ok ys → xs[i]? = some x → ∃ o, f x = .ok o
  | [], _, _, _, _, h => by simp at h
  | z :: xs, ys, i, x, h, g => by
    unfold compGo at h
    cases k : f z with
    | err c => rw [k] at h; cases h
    | stk => rw [k] at h; cases h
    | ok w =>
      rw [k] at h
      simp only at h
      cases l : compGo f xs with
      | err c => rw [l] at h; cases h
      | stk => rw [l] at h; cases h
      | ok r =>
        cases i with
        | zero => simp at g; subst g; exact ⟨w, k⟩
        | succ i => exact compGo_at l (by simpa using g)
theorem Ext.updD {T : List (Addr × Str)} {F H F' H' : Hp} (x : Ext T F H F' H') {D : Addr} {o : HO} {acc : List V} (n : H D = none) (nF : F' D = none) (e : H' D = some (.lst acc)) : Ext T F H F' (upd H' D o) :=
  ⟨x.f, x.h.upd e rfl rfl n, fun b u q => by rw [upd_ne (ne_of_none q nF)]; exact x.le _ _ q, x.new, x.nt⟩
theorem Ext.stillNone {T : List (Addr × Str)} {F H F' H' : Hp} (x : Ext T F H F' H') {D : Addr} {xs : List V} (nF : F D = none) (e : H D = some (.lst xs)) : F' D = none := by
  cases z : F' D with
  | none => rfl
  | some o =>
    rcases x.new D o z with y | y | ⟨ys, y⟩
    · rw [nF] at y; cases y
    · rw [e] at y; cases y
    · subst y
      have h1 := x.le _ _ z
      rw [x.h.k _ _ rfl e] at h1
      cases h1
theorem comp_body {K : PySem.W.Frag} {own : List Nat} {is : List Nat} {g : G} {c : T} {f : E} {σ : Sl} {B F1 H1 : Hp} {env : Env} {xs ys : List D} {J : It} {L : Addr} {P : Hp → Prop} (his : ∀ i ∈ is, i ∈ own)
    (S1 : Sim K xa B F1 env σ H1) (hl : xs.length < szl) (z : compGo (compTurn own g c f env) xs = .ok ys) (wk : Walk K xa H1 F1 xs J) (nD : H1 L = none)
    (q1 : ∀ F' H', Ext xa.tb F1 H1 F' H' → F' L = none → OwnAt K xa F' H' L (.lst ys) → P H') :
    ∃ W : Nat → Nat → Hp → Prop, (∃ m, W 0 m (upd H1 L (.lst []))) ∧ ∀ i m H, W i m H → (J.stop i H ∧ P H) ∨ (J.go i H ∧ ∃ Nx : Hp → Prop, (∀ H', Nx H' → ∃ m', m' < m ∧ W (i + 1) m' H') ∧
      ∀ x H', J.yld i H x H' → pG K xa is g x (wipe σ own) H' fun σ2 H2 => wipe σ2 own = wipe σ own ∧ pT K xa W0 c σ2 H2 fun b H3 =>
        if b = true then pE K xa W0 f σ2 H3 fun y H4 => ∃ acc, H4 L = some (.lst acc) ∧ acc.length < sizeLine ∧ Nx (upd H4 L (.lst (acc ++ [y]))) else Nx H3) := by
  refine ⟨fun i m Hc => m = xs.length - i ∧ i ≤ xs.length ∧ ∃ Fi acc zs, Ext xa.tb F1 H1 Fi Hc ∧ Fi L = none ∧ Hc L = some (.lst acc) ∧ Reps K xa Fi acc zs ∧ compGo (compTurn own g c f env) (xs.take i) = .ok zs ∧ zs.length ≤ i,
    ⟨xs.length, by simp, Nat.zero_le _, F1, [], [], .heap S1.hF nD, S1.hF.free nD, upd_same, .nil, rfl, Nat.le_refl _⟩, ?_⟩
  rintro i m Hc ⟨rfl, hi, Fi, acc, zs, xi, nDi, eD, ra, cg, zl⟩
  by_cases hlt : i < xs.length
  · refine .inr ⟨wk.go i Hc xi.h.k hlt, fun Hn => i + 1 ≤ xs.length ∧ ∃ Fi acc zs, Ext xa.tb F1 H1 Fi Hn ∧ Fi L = none ∧ Hn L = some (.lst acc) ∧ Reps K xa Fi acc zs ∧ compGo (compTurn own g c f env) (xs.take (i + 1)) = .ok zs ∧ zs.length ≤ i + 1, fun Hn ⟨k1, k2⟩ => ⟨_, by omega, rfl, k1, k2⟩, fun x H2 y => ?_⟩
    obtain ⟨F2, d, x2, hd, rd⟩ := wk.yld i Hc x H2 Fi xi.h.k xi.f xi.le hlt y
    have n2 : F2 L = none := x2.stillNone nDi eD
    obtain ⟨o, ho⟩ := compGo_at z hd
    have e2 : xs.take (i + 1) = xs.take i ++ [d] := by rw [List.take_succ, hd]; rfl
    have cg2 := compGo_snoc cg ho
    rw [← e2] at cg2
    have x12 := xi.trans x2
    have Sb : Sim K xa H1 F2 (blkE own env) (wipe σ own) H2 := S1.blk own x12
    have ho' : ((g d (blkE own env)).bind fun e1 => (c e1).bind fun b => if b then (f e1).bind fun y => Res.ok (some y) else Res.ok none) = .ok o := ho
    cases hg : g d (blkE own env) with
    | err c => rw [hg] at ho'; cases ho'
    | stk => rw [hg] at ho'; cases ho'
    | ok e1 =>
      rw [hg] at ho'
      refine ⟨H1, F2, blkE own env, d, Sb, rd, e1, hg, fun σ2 S2 ag => ⟨ag.wipe his, H1, F2, e1, S2, ?_⟩⟩
      simp only [Res.bind_ok] at ho'
      cases hc : c e1 with
      | err c => rw [hc] at ho'; cases ho'
      | stk => rw [hc] at ho'; cases ho'
      | ok b =>
        rw [hc] at ho'
        intro F3 H3 x3
        have eD3 : H3 L = some (.lst acc) := x3.h.k _ _ rfl (x2.h.k _ _ rfl eD)
        have n3 : F3 L = none := x3.stillNone n2 (x2.h.k _ _ rfl eD)
        cases b with
        | false =>
          simp only [Bool.false_eq_true, if_false]
          have e3 : o = none := by simpa using ho'.symm
          subst e3
          exact ⟨hlt, F3, acc, zs, x12.trans x3, n3, eD3, ra.on (x2.trans x3).f, cg2, by omega⟩
        | true =>
          simp only [if_true]
          refine ⟨H1, F3, e1, S2.ext x3, ?_⟩
          simp only [Res.bind_ok, if_true] at ho'
          cases hf : f e1 with
          | err c => rw [hf] at ho'; cases ho'
          | stk => rw [hf] at ho'; cases ho'
          | ok y =>
            rw [hf] at ho'
            have e3 : o = some y := by simpa using ho'.symm
            subst e3
            intro F4 H4 x4 v rv
            have eD4 : H4 L = some (.lst acc) := x4.h.k _ _ rfl eD3
            have n4 : F4 L = none := x4.stillNone n3 eD3
            refine ⟨acc, eD4, ?_, hlt, F4, acc ++ [v], zs ++ [y], ?_, n4, upd_same, (ra.on ((x2.trans x3).trans x4).f).append (.one rv), cg2, by simp; omega⟩
            · rw [ra.length, ← szl_eq]; omega
            · exact ((x12.trans x3).trans x4).updD nD n4 eD4
  · have e : i = xs.length := by omega
    subst e
    rw [List.take_length, z] at cg
    cases cg
    exact .inl ⟨wk.stop _ Hc xi.h.k (Nat.le_refl _), q1 Fi Hc xi nDi ⟨acc, eD, ra⟩⟩
theorem comp_ok {W : WX} {σ : Sl} {own : List Nat} {g : G} {c : T} {f : E} {F H : Hp} {env : Env} {xs : List D} {k : D → Hp → Hp → Prop}
    (q : Post xa W σ F H (if xs.length < szl then (compGo (compTurn own g c f env) xs).bind fun ys => Res.ok (D.lst ys) else .stk) k) : xs.length < szl ∧ ∃ ys, compGo (compTurn own g c f env) xs = .ok ys ∧ ∀ F' H', Ext xa.tb F H F' H' → k (.lst ys) F' H' := by
  by_cases hl : xs.length < szl
  · rw [if_pos hl] at q
    cases z : compGo (compTurn own g c f env) xs with
    | err k => exact (compGo_noErr z).elim
    | stk => rw [z] at q; exact q.elim
    | ok ys => rw [z] at q; exact ⟨hl, ys, rfl, q⟩
  · rw [if_neg hl] at q
    exact q.elim
theorem comp_core {K : PySem.W.Frag} {it : I} {own : List Nat} {is : List Nat} {g : G} {c : T} {f : E} {σ : Sl} {H : Hp} {Q : VK} (his : ∀ i ∈ is, i ∈ own)
    (h : pF K xa W (eComp it own g c f) σ H Q) : tLc (pI K xa W true it) (pG K xa is g) (pT K xa W0 c) (pE K xa W0 f) own σ H Q := by
  obtain ⟨B, F, env, S, q⟩ := h
  refine ⟨B, F, env, S, (Post.bind (r := it env) q).imp fun xs F1 H1 _ x1 q1 J wk L nD => ?_⟩
  obtain ⟨hl, ys, z, q2⟩ := comp_ok q1
  exact comp_body his (S.ext x1) hl z wk nD fun F' H' x n o => q2 F' H' x L (x1.h.free nD) n o
theorem key_rep {K : PySem.W.Frag} {F : Hp} {q : Ky} {k : Key} (e : keyK q = some k) : Rep K xa F (kV k) q.toD := by
  cases q <;> simp [keyK] at e
  · subst e; exact .int _
  · subst e; exact .str _
theorem repK_at {K : PySem.W.Frag} {F : Hp} : ∀ {kvs : List (Key × V)} {ds : List (Ky × D)} {i : Nat} {k : Key} {v : V}, RepK K xa F kvs ds → kvs[i]? = some (k, v) → ∃ q d, ds[i]? = some (q, d) ∧ keyK q = some k
  | _, _, _, _, _, .nil, h => by simp at h
  | _, _, 0, _, _, .cons e _ _, h => by simp at h; obtain ⟨rfl, rfl⟩ := h; exact ⟨_, _, rfl, e⟩
  | _, _, i + 1, _, _, .cons _ _ t, h => by
    obtain ⟨q, d, h1, h2⟩ := repK_at (i := i) t (by simpa using h)
    exact ⟨q, d, by simpa using h1, h2⟩
theorem repT_at {K : PySem.W.Frag} {F : Hp} : ∀ {kvs : List (List Key × V)} {ds : List (Ky × D)} {i : Nat} {k : List Key} {v : V}, RepT K xa F kvs ds → kvs[i]? = some (k, v) → ∃ q d, ds[i]? = some (q, d) ∧ keyT q = some k
  | _, _, _, _, _, .nil, h => by simp at h
  | _, _, 0, _, _, .cons e _ _, h => by simp at h; obtain ⟨rfl, rfl⟩ := h; exact ⟨_, _, rfl, e⟩
  | _, _, i + 1, _, _, .cons _ _ t, h => by
    obtain ⟨q, d, h1, h2⟩ := repT_at (i := i) t (by simpa using h)
    exact ⟨q, d, by simpa using h1, h2⟩
theorem walk_keysK {K : PySem.W.Frag} {S F : Hp} {d : Addr} {o : Obj} {kvs : List (Key × V)} {ds : List (Ky × D)} (h : S d = some (.frz o (.dK kvs))) (r : RepK K xa F kvs ds) : Walk K xa S F (ds.map fun kv => kv.1.toD) (Itk d o kvs) where
  go := fun i H s l => ⟨s _ _ rfl h, by rw [repK_len r]; simpa using l⟩
  stop := fun i H s l => ⟨s _ _ rfl h, by rw [repK_len r]; simpa using l⟩
  yld := fun i H x H' F1 s f fh l y => by
    obtain ⟨rfl, k, v, h1, rfl⟩ := y
    obtain ⟨q, d, e1, e2⟩ := repK_at r h1
    exact ⟨F1, q.toD, .refl fh, by simp [e1], key_rep e2⟩
theorem Ext.tupIn {T : List (Addr × Str)} {F H : Hp} (fs : Same F H) {b : Addr} {xs : List V} (e : H b = some (.tup xs)) : Ext T F H (upd F b (.tup xs)) H := by
  refine ⟨fun c o q => ?_, .refl _, fun c o q => ?_, fun c o q => ?_, fun t => t.upd rfl⟩
  · by_cases h : c = b
    · subst h
      have := fs _ _ q
      rw [e] at this
      rw [upd_same, ← this]
    · rw [upd_ne h]; exact q
  · by_cases h : c = b
    · subst h; rw [upd_same] at q; rw [← q]; exact e
    · rw [upd_ne h] at q; exact fs _ _ q
  · by_cases h : c = b
    · subst h; rw [upd_same] at q; cases q; exact .inr (.inr ⟨_, rfl⟩)
    · rw [upd_ne h] at q; exact .inl q
theorem walk_keysT {K : PySem.W.Frag} {S F : Hp} {d : Addr} {o : Obj} {kvs : List (List Key × V)} {ds : List (Ky × D)} (h : S d = some (.frz o (.dT kvs))) (r : RepT K xa F kvs ds) : Walk K xa S F (ds.map fun kv => kv.1.toD) (Itkt d o kvs) where
  go := fun i H s l => ⟨s _ _ rfl h, by rw [repT_len r]; simpa using l⟩
  stop := fun i H s l => ⟨s _ _ rfl h, by rw [repT_len r]; simpa using l⟩
  yld := fun i H x H' F1 s f fh l y => by
    obtain ⟨rfl, k, v, b, h1, rfl, hb⟩ := y
    obtain ⟨q, d, e1, e2⟩ := repT_at r h1
    cases q <;> simp [keyT] at e2
    subst e2
    exact ⟨_, _, .tupIn fh hb, by simp [e1, Ky.toD], .tup upd_same (reps_leaves _)⟩
theorem blkE_nil (own : List Nat) (env : Env) : blkE own (blkE [] env) = blkE own env := by
  have lw : ∀ (own : List Nat) (e : Env), (wipeE (e.map Slot.lend) own).map Slot.lend = (wipeE e own).map Slot.lend := by
    intro own
    induction own with
    | nil => intro e; unfold wipeE; rw [List.map_map]; congr 1; funext s; cases s <;> rfl
    | cons i r ih =>
      intro e
      unfold wipeE
      rw [List.map_set, List.map_set, ih e]
  exact lw own env
def lockF (F : Hp) (d : Addr) (u : HO) : Hp := fun b => if b = d then (F d).map fun _ => u else F b
theorem pe_or {X : Cx} {e : Expr} {t t' : TE} (p : PE X e t) (p' : PE X e t') : PE X e (fun σ H Q => t σ H Q ∨ t' σ H Q) := ⟨fun pins s σ H Q I q => by
  rcases q with q | q
  · exact p.run pins s σ H Q I q
  · exact p'.run pins s σ H Q I q⟩
def isDct : HO → Bool
  | .dK _ => true
  | .dT _ => true
  | _ => false
theorem lockF_at {F : Hp} {d : Addr} {u o : HO} (q : F d = some o) : lockF F d u d = some u := by simp [lockF, q]
theorem lockF_ne {F : Hp} {b d : Addr} {u : HO} (h : b ≠ d) : lockF F d u b = F b := by simp [lockF, h]
theorem lockF_none {F : Hp} {d : Addr} {u : HO} (q : F d = none) : lockF F d u d = none := by simp [lockF, q]
theorem up_lock {F : Hp} {d : Addr} {od : Obj} {u : HO} (hu : isDct u = true) (e : ∀ o, F d = some o → o = u) : Up F (lockF F d (.frz od u)) := by
  refine ⟨fun a w nf r => ?_, fun a xs q => ?_, fun a xs q => ?_, fun a φ q => ?_, fun a C dx xs q => ?_⟩
  · by_cases h : a = d
    · subst h
      rcases r with r | ⟨o, r⟩
      · have := e _ r
        subst this
        exact .inr ⟨od, lockF_at r⟩
      · have := e _ r
        subst this
        cases hu
    · rcases r with r | ⟨o, r⟩
      · exact .inl (by rw [lockF_ne h]; exact r)
      · exact .inr ⟨o, by rw [lockF_ne h]; exact r⟩
  · by_cases h : a = d
    · subst h
      have := e _ q
      subst this
      cases hu
    · rw [lockF_ne h]; exact q
  · by_cases h : a = d
    · subst h
      have := e _ q
      subst this
      cases hu
    · rw [lockF_ne h]; exact q
  · by_cases h : a = d
    · subst h
      have := e _ q
      subst this
      cases hu
    · rw [lockF_ne h]; exact q
  · by_cases h : a = d
    · subst h
      have := e _ q
      subst this
      cases hu
    · rw [lockF_ne h]; exact q
theorem up_unlock {F : Hp} {d : Addr} {od : Obj} {u : HO} {o : Option HO} (e : ∀ w, F d = some w → w = .frz od u ∧ o = some u) : Up F (fun b => if b = d then o else F b) := by
  refine ⟨fun a w nf r => ?_, fun a xs q => ?_, fun a xs q => ?_, fun a φ q => ?_, fun a C dx xs q => ?_⟩
  · by_cases h : a = d
    · subst h
      rcases r with r | ⟨ob, r⟩
      · obtain ⟨h1, h2⟩ := e _ r
        subst h1
        cases nf
      · obtain ⟨h1, h2⟩ := e _ r
        cases h1
        exact .inl (by simp [h2])
    · rcases r with r | ⟨ob, r⟩
      · exact .inl (by simp [h, r])
      · exact .inr ⟨ob, by simp [h, r]⟩
  · by_cases h : a = d
    · subst h
      obtain ⟨h1, _⟩ := e _ q
      cases h1
    · simp [h, q]
  · by_cases h : a = d
    · subst h
      obtain ⟨h1, _⟩ := e _ q
      cases h1
    · simp [h, q]
  · by_cases h : a = d
    · subst h
      obtain ⟨h1, _⟩ := e _ q
      cases h1
    · simp [h, q]
  · by_cases h : a = d
    · subst h
      obtain ⟨h1, _⟩ := e _ q
      cases h1
    · simp [h, q]
theorem nt_lock {F : Hp} {d : Addr} {od : Obj} {u : HO} (n : NT F) : NT (lockF F d (.frz od u)) := fun b o e => by
  by_cases h : b = d
  · subst h
    cases q : F b with
    | none => rw [lockF_none q] at e; cases e
    | some w => rw [lockF_at q] at e; cases e; rfl
  · rw [lockF_ne h] at e; exact n b o e
theorem nt_unlock {F F' : Hp} {d : Addr} (n : NT F) (n' : NT F') : NT (fun b => if b = d then F d else F' b) := fun b o e => by
  by_cases h : b = d
  · subst h; simp only [if_true] at e; exact n _ _ e
  · simp only [h, if_false] at e; exact n' _ _ e
theorem Kp.unlock {T : List (Addr × Str)} {H H' : Hp} {d : Addr} {od : Obj} {u : HO} (x : Kp T (L2.upd H d (.frz od u)) H') (rd : H d = some u) (hu : isDct u = true) : Kp T H (L2.upd H' d u) := by
  have n1 : isTbl u = false := by cases u <;> first | rfl | cases hu
  have n2 : isExt u = false := by cases u <;> first | rfl | cases hu
  have dH' : H' d = some (.frz od u) := x.k _ _ rfl upd_same
  refine ⟨fun b o t e => ?_, fun b o e t => ?_, fun t => tabs_upd dH' rfl rfl (x.tab (tabs_upd rd n1 n2 t))⟩
  · by_cases hb : b = d
    · subst hb; rw [upd_same]; rw [rd] at e; exact e
    · rw [upd_ne hb]; exact x.k _ _ t (by rw [upd_ne hb]; exact e)
  · have hb : b ≠ d := fun z => by subst z; rw [rd] at e; cases e; rw [n1] at t; cases t
    rw [upd_ne hb]
    exact x.tb b o (by rw [upd_ne hb]; exact e) t
theorem slot_dict {K : PySem.W.Frag} {B F H : Hp} {env : Env} {σ : Sl} {i : Nat} {t : Bool} {kvs : List (Ky × D)} (S : Sim K xa B F env σ H) (h : eB i env = .ok (.dct t kvs)) : ∃ d u, σ[i]? = some (some (.ref d)) ∧ isDct u = true ∧ Rd H d u ∧
    ((t = false ∧ ∃ kv, u = .dK kv ∧ RepK K xa F kv kvs) ∨ (t = true ∧ ∃ kv, u = .dT kv ∧ RepT K xa F kv kvs)) := by
  have main : ∀ v, σ[i]? = some (some v) → Bor K xa F H v (.dct t kvs) → ∃ d u, σ[i]? = some (some (.ref d)) ∧ isDct u = true ∧ Rd H d u ∧ ((t = false ∧ ∃ kv, u = .dK kv ∧ RepK K xa F kv kvs) ∨ (t = true ∧ ∃ kv, u = .dT kv ∧ RepT K xa F kv kvs)) := by
    intro v hv b
    cases t with
    | false => obtain ⟨a, kv, rfl, e, r⟩ := b.dK_ S.hF; exact ⟨a, _, hv, rfl, e, .inl ⟨rfl, kv, rfl, r⟩⟩
    | true => obtain ⟨a, kv, rfl, e, r⟩ := b.dT_ S.hF; exact ⟨a, _, hv, rfl, e, .inr ⟨rfl, kv, rfl, r⟩⟩
  unfold eB at h
  cases z : env[i]? with
  | none => rw [z] at h; cases h
  | some s =>
    have k := S.sl i s z
    rw [z] at h
    cases s with
    | un => cases h
    | sh d => cases h; obtain ⟨v, hv, r⟩ := k; exact main v hv (.inl r)
    | bor d => cases h; obtain ⟨v, hv, r⟩ := k; exact main v hv (r.on (.refl _) S.hB.k.up)
    | own d => cases h; obtain ⟨a, hv, _, _, r⟩ := k; exact main _ hv (.inr ⟨a, rfl, r.obj⟩)
    | ob _ _ _ => cases h
    | lo _ _ => cases h
theorem repK_up {K : PySem.W.Frag} {F F' : Hp} (h : Up F F') {t : Bool} {u : HO} {kvs : List (Ky × D)} (q : (t = false ∧ ∃ kv, u = .dK kv ∧ RepK K xa F kv kvs) ∨ (t = true ∧ ∃ kv, u = .dT kv ∧ RepT K xa F kv kvs)) :
    (t = false ∧ ∃ kv, u = .dK kv ∧ RepK K xa F' kv kvs) ∨ (t = true ∧ ∃ kv, u = .dT kv ∧ RepT K xa F' kv kvs) := by
  rcases q with ⟨h1, kv, h2, r⟩ | ⟨h1, kv, h2, r⟩
  · exact .inl ⟨h1, kv, h2, r.up h⟩
  · exact .inr ⟨h1, kv, h2, r.up h⟩
theorem keys_core {K : PySem.W.Frag} {own : List Nat} {is : List Nat} {g : G} {c : T} {f : E} {i : Nat} {σ : Sl} {B F H : Hp} {env : Env} {d : Addr} {od : Obj} {u : HO} {t : Bool} {kvs : List (Ky × D)} {ys : List D} {P : V → Hp → Prop} (his : ∀ i ∈ is, i ∈ own)
    (S : Sim K xa B F env σ H) (hd : σ[i]? = some (some (.ref d))) (hl : H d = some (.frz od u)) (hk : (t = false ∧ ∃ kv, u = .dK kv ∧ RepK K xa F kv kvs) ∨ (t = true ∧ ∃ kv, u = .dT kv ∧ RepT K xa F kv kvs))
    (lz : (kvs.map fun kv => kv.1.toD).length < szl) (z : compGo (compTurn own g c f env) (kvs.map fun kv => kv.1.toD) = .ok ys)
    (q : ∀ F' H' L, Ext xa.tb F H F' H' → H L = none → F' L = none → OwnAt K xa F' H' L (.lst ys) → P (.ref L) H') : tLc (iKeys (tVar i)) (pG K xa is g) (pT K xa W0 c) (pE K xa W0 f) own σ H P := by
  refine ⟨_, hd, d, od, rfl, ?_⟩
  rcases hk with ⟨_, kv, rfl, r⟩ | ⟨_, kv, rfl, r⟩
  · refine .inl ⟨kv, hl, fun L nD => ?_⟩
    exact comp_body his S lz z (walk_keysK hl r) nD fun F' H' x n o => q F' H' L x nD n o
  · refine .inr ⟨kv, hl, fun L nD => ?_⟩
    exact comp_body his S lz z (walk_keysT hl r) nD fun F' H' x n o => q F' H' L x nD n o
theorem comp_keys {K : PySem.W.Frag} {own : List Nat} {is : List Nat} {g : G} {c : T} {f : E} {i : Nat} {σ : Sl} {H : Hp} {Q : VK} (his : ∀ i ∈ is, i ∈ own)
    (h : pF K xa W (eComp (iK (eB i)) own g c f) σ H Q) : tLc (iKeys (tVar i)) (pG K xa is g) (pT K xa W0 c) (pE K xa W0 f) own σ H Q ∨ tLockE (tLc (iKeys (tVar i)) (pG K xa is g) (pT K xa W0 c) (pE K xa W0 f) own) σ H Q := by
  obtain ⟨B, F, env, S, q⟩ := h
  have q0 := Post.bind (r := iK (eB i) env) q
  cases e1 : eB i env with
  | err k => simp only [eB] at e1; split at e1 <;> cases e1
  | stk => unfold iK at q0; rw [e1] at q0; exact q0.elim
  | ok dd =>
    unfold iK at q0
    rw [e1] at q0
    simp only [Res.bind_ok] at q0
    cases dd with
    | dct t kvs =>
      obtain ⟨lz, ys, z, q2⟩ := comp_ok (q0 F H (.refl S.hF))
      obtain ⟨d, u, hd, hu, rd, hk⟩ := slot_dict S e1
      rcases rd with rd | ⟨od, rd⟩
      · right
        have mu : Mut (some u) := by cases u <;> first | trivial | cases hu
        refine ⟨d, u, rd, mu, fun od => ?_⟩
        have eH : lockF H d (.frz od u) = upd H d (.frz od u) := by
          funext b
          by_cases hb : b = d
          · subst hb; rw [lockF_at rd, upd_same]
          · rw [lockF_ne hb, upd_ne hb]
        have uF : Up F (lockF F d (.frz od u)) := up_lock hu fun o ho => by
          have := S.hF _ _ ho
          rw [rd] at this; exact (Option.some.inj this).symm
        have uH : Up H (upd H d (.frz od u)) := by
          rw [← eH]
          exact up_lock hu fun o ho => by rw [rd] at ho; exact (Option.some.inj ho).symm
        have sFH : Same (lockF F d (.frz od u)) (upd H d (.frz od u)) := fun b o ho => by
          by_cases hb : b = d
          · subst hb
            cases hF : F b with
            | none => rw [lockF_none hF] at ho; cases ho
            | some w => rw [lockF_at hF] at ho; rw [upd_same, ← ho]
          · rw [lockF_ne hb] at ho; rw [upd_ne hb]; exact S.hF _ _ ho
        have S1 := S.lend [] uF uH (.refl _) sFH (nt_lock S.nt) (tabs_upd rd (by cases u <;> first | rfl | cases hu) (by cases u <;> first | rfl | cases hu) S.tab)
        refine keys_core (t := t) his S1 hd upd_same (repK_up uF hk) lz (by rw [← z]; congr 1; funext x; unfold compTurn; rw [blkE_nil]) fun F' H' L x nL nF o => ?_
        have hLd : L ≠ d := fun e => by subst e; rw [upd_same] at nL; cases nL
        have dH' : H' d = some (.frz od u) := x.h.k _ _ rfl upd_same
        refine ⟨dH', ?_⟩
        have fd : ∀ w, F' d = some w → w = .frz od u ∧ F d = some u := fun w hw => by
          have h1 := x.le _ _ hw
          rw [dH'] at h1
          cases h1
          refine ⟨rfl, ?_⟩
          rcases x.new _ _ hw with y | y | ⟨ts, y⟩
          · cases hF : F d with
            | none => rw [lockF_none hF] at y; cases y
            | some w =>
              have := S.hF _ _ hF
              rw [rd] at this
              rw [← this]
          · rw [upd_same] at y; cases y
          · cases y
        have uU : Up F' (fun b => if b = d then F d else F' b) := up_unlock (od := od) (u := u) fd
        have xx : Ext xa.tb F H (fun b => if b = d then F d else F' b) (upd H' d u) := by
          refine ⟨fun b o ho => ?_, x.h.unlock rd hu, fun b o ho => ?_, fun b o ho => ?_, fun t => nt_unlock S.nt (x.nt (nt_lock S.nt))⟩
          · by_cases hb : b = d
            · subst hb; simpa using ho
            · simp only [hb, if_false]
              exact x.f _ _ (by rw [lockF_ne hb]; exact ho)
          · by_cases hb : b = d
            · subst hb
              simp only [if_true] at ho
              have := S.hF _ _ ho
              rw [rd] at this
              rw [upd_same]; exact this
            · simp only [hb, if_false] at ho
              rw [upd_ne hb]; exact x.le _ _ ho
          · by_cases hb : b = d
            · subst hb
              simp only [if_true] at ho
              exact .inl ho
            · simp only [hb, if_false] at ho
              rcases x.new _ _ ho with y | y | y
              · rw [lockF_ne hb] at y; exact .inl y
              · rw [upd_ne hb] at y; exact .inr (.inl y)
              · exact .inr (.inr y)
        have nLH : H L = none := by rw [upd_ne hLd] at nL; exact nL
        refine q2 _ _ xx L nLH (by simp [hLd, nF]) ?_
        obtain ⟨vs, hv, rr⟩ := o
        exact ⟨vs, by rw [upd_ne hLd]; exact hv, rr.up uU⟩
      · left
        exact keys_core (t := t) his S hd rd hk lz z fun F' H' L x nL nF o => q2 F' H' x L nL nF o
    | _ => exact q0.elim
end
end Tw
set_option autoImplicit false
set_option Elab.async false
set_option linter.all false
set_option maxRecDepth 100000
namespace Tw
open PySem L2
section
variable {K : PySem.W.Frag} {xa : XA} {W : WX} {fr : Bool} {B F H F' H' : Hp} {env : Env} {σ : Sl}
structure Grow (B F F' : Hp) : Prop where
  f : Same F F'
  new : ∀ a o, F' a = some o → F a = some o ∨ B a = none ∨ ∃ xs, o = .tup xs
theorem Grow.refl (B F : Hp) : Grow B F F := ⟨.refl _, fun _ _ e => .inl e⟩
theorem Grow.trans {F1 F2 : Hp} (a : Grow B F F1) (b : Grow B F1 F2) : Grow B F F2 := ⟨a.f.trans b.f, fun c o e => by
  rcases b.new c o e with q | q
  · exact a.new c o q
  · exact .inr q⟩
theorem Ext.grow' {T : List (Addr × Str)} (x : Ext T F H F' H') (h : Kp T B H) : Grow B F F' := ⟨x.f, fun a o e => by
  rcases x.new a o e with q | q | q
  · exact .inl q
  · exact .inr (.inl (h.free q))
  · exact .inr (.inr q)⟩
def PostS (K : PySem.W.Frag) (xa : XA) (W : WX) (fr : Bool) (B F : Hp) (r : RS) (D : Ends) : Prop := match r with
  | .nx e => ∀ F' σ' H', Grow B F F' → Sim K xa B F' e σ' H' → D.nx σ' H'
  | .bk e => ∀ F' σ' H', Grow B F F' → Sim K xa B F' e σ' H' → D.bk σ' H'
  | .ct e => ∀ F' σ' H', Grow B F F' → Sim K xa B F' e σ' H' → D.ct σ' H'
  | .rt d => ∀ F' H' v, Grow B F F' → Kp xa.tb B H' → Same F' H' → NT F' → Ret K xa F B F' H' fr v d → D.rt v H'
  | .rm d e => ∀ F' σ' H' v, Grow B F F' → Sim K xa B F' e σ' H' → Rep K xa F' v d → D.rt v H'
  | .ro c fs => ∀ F' H' a, Grow B F F' → Sim K xa B F' [.ob false c fs] [some (.ref a)] H' → D.rt (.ref a) H'
  | .er c e => ∀ F' σ' H', Grow B F F' → Sim K xa B F' e σ' H' → W (.ref (xa c)) none σ' H'
  | .stk => False
theorem PostS.on {r : RS} {D : Ends} (p : PostS K xa W fr B F r D) (g : Grow B F F') : PostS K xa W fr B F' r D := by
  cases r with
  | nx e => exact fun F1 σ1 H1 g1 s => p F1 σ1 H1 (g.trans g1) s
  | bk e => exact fun F1 σ1 H1 g1 s => p F1 σ1 H1 (g.trans g1) s
  | ct e => exact fun F1 σ1 H1 g1 s => p F1 σ1 H1 (g.trans g1) s
  | rt d => exact fun F1 H1 v g1 b f n rt => p F1 H1 v (g.trans g1) b f n rt
  | rm d e => exact fun F1 σ1 H1 v g1 s r => p F1 σ1 H1 v (g.trans g1) s r
  | ro c fs => exact fun F1 H1 a g1 s => p F1 H1 a (g.trans g1) s
  | er c e => exact fun F1 σ1 H1 g1 s => p F1 σ1 H1 (g.trans g1) s
  | stk => exact p
def pS (K : PySem.W.Frag) (xa : XA) (W : WX) (fr : Bool) (s : S) : TS := fun D σ H => ∃ B F env, Sim K xa B F env σ H ∧ PostS K xa W fr B F (s env) D
structure RSt (X : Cx) (xa : XA) (W : WX) (fr : Bool) (st : Stmt) (s : S) : Prop where
  ps : PS X st (pS X.K xa W fr s)
structure RSs (X : Cx) (xa : XA) (W : WX) (fr : Bool) (st : List Stmt) (s : S) : Prop where
  pss : PSs X st (pS X.K xa W fr s)
theorem psW {X : Cx} {st : Stmt} {t t' : TS} (p : PS X st t) (h : ∀ D σ H, t' D σ H → t D σ H) : PS X st t' := ⟨fun pins s σ H D I q => p.run pins s σ H D I (h D σ H q)⟩
theorem pssW {X : Cx} {st : List Stmt} {t t' : TS} (p : PSs X st t) (h : ∀ D σ H, t' D σ H → t D σ H) : PSs X st t' := ⟨fun pins s σ H D I q => p.run pins s σ H D I (h D σ H q)⟩
theorem PostS.run {α : Type} {r : Res α} {k : α → RS} {D : Ends} (S : Sim K xa B F env σ H) (p : PostS K xa W fr B F (r.run env k) D) : Post xa W σ F H r fun a F' _ => PostS K xa W fr B F' (k a) D := by
  cases r with
  | ok a => exact fun F1 H1 x => PostS.on (r := k a) p (x.grow' S.hB)
  | err c => exact fun F1 H1 x => p F1 σ H1 (x.grow' S.hB) (S.ext x)
  | stk => exact p.elim
variable {X : Cx} {st : Stmt} {rest : List Stmt} {s1 s2 : S} {a b c e tg iter elt : Expr} {f fa fb : E} {t : T} {pos p p2 : Pos} {x : Str} {g : G} {it : I}
theorem rss_nil : RSs X xa W fr [] sNil := ⟨pssW pss_nil fun D σ H ⟨B, F, env, S, q⟩ => q F σ H (.refl _ _) S⟩
theorem rss_cons (h1 : RSt X xa W fr st s1) (h2 : RSs X xa W fr rest s2) : RSs X xa W fr (st :: rest) (sSeq s1 s2) := ⟨pssW (pss_cons h1.ps h2.pss) fun D σ H ⟨B, F, env, S, q⟩ => by
  refine ⟨B, F, env, S, ?_⟩
  unfold sSeq at q
  cases z : s1 env with
  | nx e1 => rw [z] at q; exact fun F1 σ1 H1 g1 S1 => ⟨B, F1, e1, S1, q.on g1⟩
  | bk e1 => rw [z] at q; exact q
  | ct e1 => rw [z] at q; exact q
  | rt d => rw [z] at q; exact q
  | rm d e1 => rw [z] at q; exact q
  | ro c fs => rw [z] at q; exact q
  | er k e1 => rw [z] at q; exact q
  | stk => rw [z] at q; exact q⟩
theorem rss_one (h1 : RSt X xa W fr st s1) : RSs X xa W fr [st] s1 := ⟨pss_one h1.ps⟩
theorem Sim.share (S : Sim K xa B F env σ H) {i : Nat} {d : D} (h : env[i]? = some (.own d)) : ∃ F', Grow B F F' ∧ Sim K xa B F' (env.set i (.sh d)) σ H := by
  obtain ⟨a, ea, nF, nB, o⟩ := S.sl i _ h
  obtain ⟨u, eu, r⟩ := o.rep' nF
  have sf : Same F (upd F a u) := same_upd nF
  refine ⟨upd F a u, ⟨sf, fun b w q => ?_⟩, ?_⟩
  · by_cases hb : b = a
    · subst hb; exact .inr (.inl nB)
    · rw [upd_ne hb] at q; exact .inl q
  · have z := S.put (H' := H) i (.sh d) (some (.ref a)) S.hB (fun b w q => by
      by_cases hb : b = a
      · subst hb; rw [upd_same] at q; rw [← q]; exact eu
      · rw [upd_ne hb] at q; exact S.hF _ _ q) (S.nt.upd (o.notTbl eu)) S.tab sf (fun j k b s hj e p => by
        have hab : b ≠ a := fun z => by
          subst z
          exact hj (S.pl j i k 0 b _ _ e h p ⟨rfl, ea⟩).1
        exact ⟨by rw [upd_ne hab]; exact (p.there (S.sl j s e)).1, rfl⟩) (fun _ => ⟨_, rfl, r⟩) (fun _ _ _ _ _ _ _ _ p => p) fun _ _ _ p _ => p.elim
    rw [set_at ea] at z
    exact z
theorem rss_frz (i : Nat) {sts : List Stmt} {s : S} (h : RSs X xa W fr sts s) : RSs X xa W fr sts (sSeq (sFrz i) s) := ⟨pssW h.pss fun D σ H ⟨B, F, env, S, q⟩ => by
  unfold sSeq sFrz at q
  cases z : env[i]? with
  | none => rw [z] at q; exact ⟨B, F, env, S, q⟩
  | some sl =>
    cases sl with
    | own d =>
      rw [z] at q
      obtain ⟨F1, g1, S1⟩ := S.share z
      exact ⟨B, F1, _, S1, q.on g1⟩
    | _ => rw [z] at q; exact ⟨B, F, env, S, q⟩⟩
theorem rs_cont : RSt X xa W fr (.Continue pos) sCnt := ⟨psW ps_continue fun D σ H ⟨B, F, env, S, q⟩ => q F σ H (.refl _ _) S⟩
theorem rs_expr (ha : RB X xa W a fa) (hs : swapsWith a none pos.line X.env = pure false := by rfl) : RSt X xa W fr (.Expr a pos) (sDrop fa) := ⟨psW (ps_expr ha.pe hs) fun D σ H ⟨B, F, env, S, q⟩ =>
  ⟨B, F, env, S, (PostS.run (r := fa env) S q).imp fun d F1 H1 _ x1 q1 v1 b1 => q1 F1 σ H1 (.refl _ _) (S.ext x1)⟩⟩
theorem rs_set {i : Nat} (hN : X.N.Nodup) (hi : X.N[i]? = some x) (hx : Loc X.env.scope x) (ha : RE X xa W a fa) (hs : swapsWith a (some (.Name x p)) pos.line X.env = pure false := by rfl) (hf : X.fn x = true ∨ X.env.scope.names.lookup x = some .local := by first | exact .inl rfl | exact .inr rfl | assumption) :
    RSt X xa W fr (.Assign [.Name x p] a pos) (sSet i fa) := ⟨psW (ps_set (i := i) hN hi hx ha.pe hs hf) fun D σ H ⟨B, F, env, S, q⟩ =>
  ⟨B, F, env, S, (PostS.run (r := fa env) S q).imp fun d F1 H1 _ x1 q1 v1 r1 => q1 F1 _ H1 (.refl _ _) ((S.ext x1).set_sh r1 i)⟩⟩
theorem Sim.new (S : Sim K xa B F env σ H) (x : Ext xa.tb F H F' H') {a : Addr} {d : D} (n : H a = none) (nF : F' a = none) (o : OwnAt K xa F' H' a d) (i : Nat) : Sim K xa B F' (env.set i (.own d)) (σ.set i (some (.ref a))) H' := by
  refine (S.ext x).set_own nF (S.hB.free n) o i fun j k s _ e p => ?_
  have p' := p.keep (S.sl j s e) fun k b p => by
    obtain ⟨_, _, u, hu, n1, _, _⟩ := p.there (S.sl j s e)
    exact (x.h.k _ _ n1 hu).trans hu.symm
  obtain ⟨_, _, u, hu, _⟩ := p'.there (S.sl j s e)
  rw [n] at hu; cases hu
theorem rs_own {i : Nat} (hN : X.N.Nodup) (hi : X.N[i]? = some x) (hx : Loc X.env.scope x) (ha : RF X xa W a fa) (hs : swapsWith a (some (.Name x p)) pos.line X.env = pure false := by rfl) (hf : X.fn x = true ∨ X.env.scope.names.lookup x = some .local := by first | exact .inl rfl | exact .inr rfl | assumption) :
    RSt X xa W fr (.Assign [.Name x p] a pos) (sOwn i fa) := ⟨psW (ps_set (i := i) hN hi hx ha.pe hs hf) fun D σ H ⟨B, F, env, S, q⟩ =>
  ⟨B, F, env, S, (PostS.run (r := fa env) S q).imp fun d F1 H1 _ x1 q1 u n nF o => q1 F1 _ H1 (.refl _ _) (S.new x1 n nF o i)⟩⟩
theorem rs_asg {is : List Nat} (ha : RE X xa W a fa) (hg : RG X xa tg is g) (hs : swapsWithSole [tg] a pos.line X.env = pure false := by rfl) (hw : swappedStores [tg] a X.env = pure none := by rfl)
    (h1 : (assignEach [tg] X.env).map (·.2) = [assign tg X.env] := by rfl) : RSt X xa W fr (.Assign [tg] a pos) (sAsg g fa) := ⟨psW (ps_asg ha.pe hg.pg hs hw h1) fun D σ H ⟨B, F, env, S, q⟩ =>
  ⟨B, F, env, S, (PostS.run (r := fa env) S q).imp fun d F1 H1 _ x1 q1 v1 r1 => by
    cases z : g d env with
    | ok e1 => rw [z] at q1; exact ⟨B, F1, env, d, S.ext x1, r1, e1, z, fun σ' S' _ => q1 F1 σ' H1 (.refl _ _) S'⟩
    | err k => rw [z] at q1; exact q1.elim
    | stk => rw [z] at q1; exact q1.elim⟩⟩
theorem rs_ret (ha : RE X xa W a fa) : RSt X xa W false (.Return (some a) pos) (sRet fa) := ⟨psW (ps_ret ha.pe) fun D σ H ⟨B, F, env, S, q⟩ =>
  ⟨B, F, env, S, (PostS.run (r := fa env) S q).imp fun d F1 H1 _ x1 q1 v1 r1 => q1 F1 H1 v1 (.refl _ _) (S.hB.trans x1.h) x1.le (x1.nt S.nt) r1⟩⟩
theorem rs_retF (ha : RF X xa W a fa) : RSt X xa W true (.Return (some a) pos) (sRet fa) := ⟨psW (ps_ret ha.pe) fun D σ H ⟨B, F, env, S, q⟩ =>
  ⟨B, F, env, S, (PostS.run (r := fa env) S q).imp fun d F1 H1 _ x1 q1 u n nF o => q1 F1 H1 _ (.refl _ _) (S.hB.trans x1.h) x1.le (x1.nt S.nt) ⟨u, rfl, S.hB.free n, nF, o⟩⟩⟩
theorem rs_if {sa sb : List Stmt} (hc : RT X xa W c t) (ha : RSs X xa W fr sa s1) (hb : RSs X xa W fr sb s2) : RSt X xa W fr (.If c sa sb pos) (sIf t s1 s2) := ⟨psW (ps_if hc.pt ha.pss hb.pss) fun D σ H ⟨B, F, env, S, q⟩ =>
  ⟨B, F, env, S, (PostS.run (r := t env) S q).imp fun k F1 H1 _ x1 q1 => by
    cases k with
    | true => exact ⟨B, F1, env, S.ext x1, q1⟩
    | false => exact ⟨B, F1, env, S.ext x1, q1⟩⟩⟩
theorem OwnAt.upd_ne {G : Hp} {a b : Addr} {d : D} {o : HO} (h : OwnAt K xa F G b d) (n : b ≠ a) : OwnAt K xa F (upd G a o) b d := by
  cases d with
  | lst ds => obtain ⟨xs, e, r⟩ := h; exact ⟨xs, by rw [L2.upd_ne n]; exact e, r⟩
  | dct t ds =>
    cases t
    · obtain ⟨xs, e, r⟩ := h; exact ⟨xs, by rw [L2.upd_ne n]; exact e, r⟩
    · obtain ⟨xs, e, r⟩ := h; exact ⟨xs, by rw [L2.upd_ne n]; exact e, r⟩
  | _ => exact h.elim
theorem Sim.mut (S : Sim K xa B F env σ H) {i : Nat} {a : Addr} {d d' : D} {o : HO} (h : env[i]? = some (.own d)) (ha : σ[i]? = some (some (.ref a))) (nF : F a = none) (nB : B a = none) (ow : OwnAt K xa F (upd H a o) a d') : Sim K xa B F (env.set i (.own d')) σ (upd H a o) := by
  obtain ⟨a', ea', _, _, o0⟩ := S.sl i _ h
  rw [ha] at ea'
  cases ea'
  obtain ⟨u0, hu0⟩ := o0.ex
  have ne : ∀ (j k : Nat) (b : Addr) (s : Slot), j ≠ i → env[j]? = some s → PlS H k b s σ[j]? → b ≠ a := fun j k b s hj e p z => by
    subst z
    exact hj (S.pl j i k 0 b _ _ e h p ⟨rfl, ha⟩).1
  have z := S.put (H' := upd H a o) i (.own d') (some (.ref a)) (S.hB.upd hu0 (o0.notTbl hu0) (o0.notExt hu0) nB) (fun b u q => by rw [L2.upd_ne (ne_of_none q nF)]; exact S.hF _ _ q) S.nt (tabs_upd hu0 (o0.notTbl hu0) (o0.notExt hu0) S.tab) (.refl _)
    (fun j k b s hj e p => ⟨(p.there (S.sl j s e)).1, L2.upd_ne (ne j k b s hj e p)⟩) (fun _ => ⟨a, rfl, nF, nB, ow⟩) (fun j k l b s hj e p q => by
      obtain ⟨_, e'⟩ := q
      cases e'
      exact ne j k _ s hj e p rfl) fun k l b p q => p.1.trans q.1.symm
  rw [set_at ha] at z
  exact z
theorem Sim.lstAt (S : Sim K xa B F env σ H) {i : Nat} {ds : List D} (h : env[i]? = some (.own (.lst ds))) : ∃ a xs, σ[i]? = some (some (.ref a)) ∧ F a = none ∧ B a = none ∧ H a = some (.lst xs) ∧ Reps K xa F xs ds := by
  obtain ⟨a, ea, nF, nB, xs, e, r⟩ := S.sl i _ h
  exact ⟨a, xs, ea, nF, nB, e, r⟩
structure VarAt (X : Cx) (i : Nat) (x : Str) : Prop where
  pe : ∀ p, PE X (.Name x p) (tVar i)
theorem var_at (i : Nat) {x : Str} (hN : X.N[i]? = some x := by rfl) (hv : Vis X.env.scope x := by first | exact Or.inl rfl | exact Or.inr (Or.inl rfl) | exact Or.inr (Or.inr rfl)) (hd : (x == ("__debug__" : Str)) = false := by decide)
    (hcd : (x == ("__classdict__" : Str)) = false := by decide) : VarAt X i x := ⟨fun _ => pe_var hN hv hd hcd⟩
theorem rs_app {i : Nat} {apos : Pos} (hv : VarAt X i x) (ha : RE X xa W a fa) (hs : swapsWith (.Call (.Attribute (.Name x p) "append" apos) [a] [] p2) none pos.line X.env = pure false := by rfl)
    (hbase : attributeBase (.Name x p) "append" X.env (eval (.Name x p) X.env) = eval (.Name x p) X.env := by rfl)
    (hfew : ((backTo p2 (starEach [a] X.env)).all (fun x => !x.1) && (backToKw p2 (keywordEach [] X.env)).all (fun x => x.1.isSome) && decide (([a] : List Expr).length + ([] : List Keyword).length + (if ([] : List Keyword).isEmpty then 0 else 1) < 30)) = true := by rfl)
    (hline : (apos.endLine == p2.line) = true := by rfl) (hst : starEach [a] X.env = (false, eval a X.env) :: starEach [] X.env := by rfl) (hplain : (backTo p2 (starEach [] X.env)).any (·.1) = false := by rfl) :
    RSt X xa W fr (.Expr (.Call (.Attribute (.Name x p) "append" apos) [a] [] p2) pos) (sApp i fa) :=
  ⟨psW (ps_expr (pe_bm PySem.F.plainAttrs_list PySem.F.slot_list_append PySem.F.type_list_append mt_append (hv.pe p) (pa_cons ha.pe pa_nil hst) hbase hfew hline hst hplain) hs) fun D σ H ⟨B, F, env, S, q⟩ => by
    unfold sApp at q
    cases z : env[i]? with
    | none => rw [z] at q; exact q.elim
    | some sl =>
      rw [z] at q
      cases sl with
      | own d =>
        cases d with
        | lst ds =>
          obtain ⟨u, xs, eu, nF, nB, hu, r⟩ := S.lstAt z
          refine ⟨_, eu, .inl ⟨rfl, xs, SqL.of hu⟩, B, F, env, S, (PostS.run (r := fa env) S q).imp fun d F1 H1 _ x1 q1 v1 r1 => ?_⟩
          have hu1 := x1.h.k _ _ rfl hu
          have S1 := S.ext x1
          obtain ⟨u', xs', eu', nF1, _, hu', r'⟩ := S1.lstAt z
          rw [eu] at eu'
          cases eu'
          rw [hu1] at hu'
          cases hu'
          split at q1
          · rename_i hl
            exact ⟨u, xs, v1, rfl, rfl, hu1, by rw [r.length, ← szl_eq]; exact hl, q1 F1 σ _ (.refl _ _) (S1.mut z eu nF1 nB ⟨_, upd_same, r'.append (.one r1)⟩)⟩
          · exact q1.elim
        | _ => exact q.elim
      | _ => exact q.elim⟩
theorem seqIx {k : Int} {n : Nat} (h0 : 0 ≤ k) (h1 : k < n) : seqIndex? k n = some k.toNat := (ixN_seq (n := n) (i := k) (j := k.toNat) (by unfold L2.ixN; rw [if_pos h0, if_pos h1])).1
theorem rs_popAt {i j : Nat} {y : Str} {apos : Pos} (hv : VarAt X i x) (ha : RB X xa W a fa) (hN : X.N.Nodup) (hj : X.N[j]? = some y) (hy : Loc X.env.scope y) (hs : swapsWith (.Call (.Attribute (.Name x p) "pop" apos) [a] [] p2) (some (.Name y p)) pos.line X.env = pure false := by rfl)
    (hf : X.fn y = true ∨ X.env.scope.names.lookup y = some .local := by first | exact .inl rfl | exact .inr rfl | assumption) (hbase : attributeBase (.Name x p) "pop" X.env (eval (.Name x p) X.env) = eval (.Name x p) X.env := by rfl)
    (hfew : ((backTo p2 (starEach [a] X.env)).all (fun x => !x.1) && (backToKw p2 (keywordEach [] X.env)).all (fun x => x.1.isSome) && decide (([a] : List Expr).length + ([] : List Keyword).length + (if ([] : List Keyword).isEmpty then 0 else 1) < 30)) = true := by rfl)
    (hline : (apos.endLine == p2.line) = true := by rfl) (hst : starEach [a] X.env = (false, eval a X.env) :: starEach [] X.env := by rfl) (hplain : (backTo p2 (starEach [] X.env)).any (·.1) = false := by rfl) {p3 : Pos} (hs' : swapsWith (.Call (.Attribute (.Name x p) "pop" apos) [a] [] p2) (some (.Name y p3)) pos.line X.env = pure false := by rfl) :
    RSt X xa W fr (.Assign [.Name y p3] (.Call (.Attribute (.Name x p) "pop" apos) [a] [] p2) pos) (sPopAt j i fa) :=
  ⟨psW (ps_set (i := j) hN hj hy (pe_bm PySem.F.plainAttrs_list PySem.F.slot_list_pop PySem.F.type_list_pop mt_popAt (hv.pe p) (pa_cons ha.pe pa_nil hst) hbase hfew hline hst hplain) hs' hf) fun D σ H ⟨B, F, env, S, q⟩ => by
    unfold sPopAt at q
    cases z : env[i]? with
    | none => rw [z] at q; exact q.elim
    | some sl =>
      rw [z] at q
      cases sl with
      | own d =>
        cases d with
        | lst ds =>
          obtain ⟨u, xs, eu, nF, nB, hu, r⟩ := S.lstAt z
          refine ⟨_, eu, .inl ⟨rfl, xs, SqL.of hu⟩, B, F, env, S, (PostS.run (r := fa env) S q).imp fun d F1 H1 _ x1 q1 v1 b1 => ?_⟩
          have hu1 := x1.h.k _ _ rfl hu
          have S1 := S.ext x1
          obtain ⟨u', xs', eu', nF1, _, hu', r'⟩ := S1.lstAt z
          rw [eu] at eu'
          cases eu'
          rw [hu1] at hu'
          cases hu'
          cases d with
          | int k =>
            rw [b1.int_]
            simp only at q1
            split at q1
            · rename_i hk
              cases g : ds[k.toNat]? with
              | none => rw [g] at q1; exact q1.elim
              | some w =>
                rw [g] at q1
                obtain ⟨wv, hw, rw_⟩ := r'.get g
                have hlen := (List.getElem?_eq_some_iff.mp hw).1
                refine ⟨u, xs, k, k.toNat, wv, rfl, rfl, hu1, by omega, by omega, seqIx hk.1 (by omega), hw, ?_⟩
                exact q1 F1 _ _ (.refl _ _) ((S1.mut (d' := .lst (ds.eraseIdx k.toNat)) z eu nF1 nB ⟨xs.eraseIdx k.toNat, upd_same, r'.eraseIdx _⟩).set_sh rw_ j)
            · exact q1.elim
          | _ => exact q1.elim
        | _ => exact q.elim
      | _ => exact q.elim⟩
end
end Tw
set_option autoImplicit false
set_option Elab.async false
set_option linter.all false
set_option maxRecDepth 100000
namespace Tw
open PySem L2
section
variable {K : PySem.W.Frag} {xa : XA} {W : WX} {fr : Bool} {B F H F' H' : Hp} {env : Env} {σ : Sl}
variable {X : Cx} {st : Stmt} {rest : List Stmt} {s1 s2 : S} {a b c e tg iter elt : Expr} {f fa fb : E} {t : T} {pos p p2 spos : Pos} {x y : Str} {g : G} {it : I}
theorem rs_while {body : List Stmt} (hp : PassesOwn (model X.prog X.w) X.A X.env X.xe) (hc : RT X xa W c t) (hb : RSs X xa W fr body s1) : RSt X xa W fr (.While c body [] pos) (sWhile t s1) := ⟨psW (ps_while hp hc.pt hb.pss) fun D σ H ⟨B, F, env, S, q⟩ => by
  refine ⟨fun n σ' H' => ∃ F1 e1, Grow B F F1 ∧ Sim X.K xa B F1 e1 σ' H' ∧ PostS X.K xa W fr B F1 (whileGo t s1 n e1) D, ⟨fuel, F, env, .refl _ _, S, q⟩, ?_⟩
  rintro m σ1 H1 ⟨F1, e1, g1, S1, q1⟩
  cases m with
  | zero => exact q1.elim
  | succ n =>
    unfold whileGo at q1
    refine ⟨B, F1, e1, S1, (PostS.run (r := t e1) S1 q1).imp fun k F2 H2 _ x2 q2 => ?_⟩
    have S2 := S1.ext x2
    have g2 := g1.trans (x2.grow' S1.hB)
    cases k with
    | false =>
      simp only [Bool.false_eq_true, if_false] at q2 ⊢
      exact q2 F2 σ1 H2 (.refl _ _) S2
    | true =>
      simp only [if_true] at q2 ⊢
      refine ⟨fun σ' H' => ∃ F3 e3, Grow B F F3 ∧ Sim X.K xa B F3 e3 σ' H' ∧ PostS X.K xa W fr B F3 (whileGo t s1 n e3) D, fun σ' H' h => ⟨n, Nat.lt_succ_self _, h⟩, B, F2, e1, S2, ?_⟩
      cases z : s1 e1 with
      | nx e3 => rw [z] at q2; exact fun F3 σ3 H3 g3 S3 => ⟨F3, e3, g2.trans g3, S3, q2.on g3⟩
      | ct e3 => rw [z] at q2; exact fun F3 σ3 H3 g3 S3 => ⟨F3, e3, g2.trans g3, S3, q2.on g3⟩
      | bk e3 => rw [z] at q2; exact q2
      | rt d => rw [z] at q2; exact q2
      | rm d e3 => rw [z] at q2; exact q2
      | ro c fs => rw [z] at q2; exact q2
      | er k e3 => rw [z] at q2; exact q2
      | stk => rw [z] at q2; exact q2⟩
theorem rs_for {is : List Nat} {body : List Stmt} (hp : PassesOwn (model X.prog X.w) X.A X.env X.xe) (hcalm : X.calm = true) (hi : RI X xa W false tg iter it) (hg : RG X xa tg is g) (hb : RSs X xa W fr body s1) (hs : ∀ x, foldedSetIterable iter X.env x = pure x := by intro _; rfl) :
    RSt X xa W fr (.For tg iter body [] pos) (sFor it g s1) := ⟨psW (ps_for hp hcalm hi.pi hg.pg hb.pss hs) fun D σ H ⟨B, F, env, S, q⟩ => by
  refine ⟨B, F, env, S, (PostS.run (r := it env) S q).imp fun xs F1 H1 _ x1 q1 J wk => ?_⟩
  have wk : Walk X.K xa F1 F1 xs J := wk
  have S1 := S.ext x1
  refine ⟨fun i m σ' H' => m = xs.length - i ∧ i ≤ xs.length ∧ ∃ F2 e2, Grow B F1 F2 ∧ Sim X.K xa B F2 e2 σ' H' ∧ PostS X.K xa W fr B F2 (forGo g s1 (xs.drop i) e2) D, ⟨_, rfl, Nat.zero_le _, F1, env, .refl _ _, S1, q1⟩, ?_⟩
  rintro i m σ2 H2 ⟨rfl, hi, F2, e2, g2, S2, q2⟩
  have sF : Same F1 H2 := g2.f.trans S2.hF
  by_cases hlt : i < xs.length
  · refine .inr ⟨wk.go i H2 (.of sF) hlt, fun σ' H' => i + 1 ≤ xs.length ∧ ∃ F3 e3, Grow B F1 F3 ∧ Sim X.K xa B F3 e3 σ' H' ∧ PostS X.K xa W fr B F3 (forGo g s1 (xs.drop (i + 1)) e3) D, fun σ' H' ⟨k1, k2⟩ => ⟨_, by omega, rfl, k1, k2⟩, fun x H3 yy => ?_⟩
    obtain ⟨F3, d, x3, hd, rd⟩ := wk.yld i H2 x H3 F2 (.of sF) g2.f S2.hF hlt yy
    have S3 := S2.ext x3
    have g3 := g2.trans (x3.grow' S2.hB)
    have hdr : xs.drop i = d :: xs.drop (i + 1) := by
      rw [List.drop_eq_getElem_cons hlt]
      rw [List.getElem?_eq_getElem hlt] at hd
      cases hd
      rfl
    rw [hdr] at q2
    unfold forGo at q2
    cases hg : g d e2 with
    | err k => rw [hg] at q2; exact q2.elim
    | stk => rw [hg] at q2; exact q2.elim
    | ok e3 =>
      rw [hg] at q2
      refine ⟨B, F3, e2, d, S3, rd, e3, hg, fun σ4 S4 _ => ⟨B, F3, e3, S4, ?_⟩⟩
      have gg := x3.grow' S2.hB
      simp only at q2
      cases z : s1 e3 with
      | nx e4 => rw [z] at q2; exact fun F5 σ5 H5 g5 S5 => ⟨hlt, F5, e4, g3.trans g5, S5, q2.on (gg.trans g5)⟩
      | ct e4 => rw [z] at q2; exact fun F5 σ5 H5 g5 S5 => ⟨hlt, F5, e4, g3.trans g5, S5, q2.on (gg.trans g5)⟩
      | bk e4 =>
        rw [z] at q2
        have q3 : PostS X.K xa W fr B F2 (RS.nx e4) D := q2
        exact fun F5 σ5 H5 g5 S5 => q3 F5 σ5 H5 (gg.trans g5) S5
      | rt d2 => rw [z] at q2; exact PostS.on (r := .rt d2) q2 gg
      | rm d2 e4 => rw [z] at q2; exact PostS.on (r := .rm d2 e4) q2 gg
      | ro c2 fs => rw [z] at q2; exact PostS.on (r := .ro c2 fs) q2 gg
      | er k e4 => rw [z] at q2; exact PostS.on (r := .er k e4) q2 gg
      | stk => rw [z] at q2; exact q2.elim
  · have e : i = xs.length := by omega
    subst e
    rw [List.drop_length] at q2
    refine .inl ⟨wk.stop _ H2 (.of sF) (Nat.le_refl _), ?_⟩
    have q3 : PostS X.K xa W fr B F2 (RS.nx e2) D := q2
    exact q3 F2 σ2 H2 (.refl _ _) S2⟩
structure RC (X : Cx) (xa : XA) (W : WX) (elt tg iter : Expr) (ifs : List Expr) (scope : Scope) (f : E) : Prop where
  ex : ∃ (wi : TI) (g : TG) (tt : TT) (te : TE) (own : List (Str × Nat)), PI X tg iter wi ∧ BlkOk X.N X.env.scope scope own ∧
    (∀ (s : Shared) (H : Hp) (C : Addr) (cl : List (Str × Addr)) (fp : List Addr), PG (X.blk s H scope (compEnvC scope cl C X.env) fp) tg g) ∧
    (∀ (s : Shared) (H : Hp) (C : Addr) (cl : List (Str × Addr)) (fp : List Addr), PTs (X.blk s H scope (compEnvC scope cl C X.env) fp) ifs tt) ∧
    (∀ (s : Shared) (H : Hp) (C : Addr) (cl : List (Str × Addr)) (fp : List Addr), PE (X.blk s H scope (compEnvC scope cl C X.env) fp) elt te) ∧
    (∀ y, foldedSetIterable iter X.env y = pure y) ∧
    ((∀ σ H Q, pF X.K xa W f σ H Q → tLc wi g tt te (own.map (·.2)) σ H Q) ∨ ∀ σ H Q, pF X.K xa W f σ H Q → tLc wi g tt te (own.map (·.2)) σ H Q ∨ tLockE (tLc wi g tt te (own.map (·.2))) σ H Q)
theorem RC.toF {ifs : List Expr} {scope : Scope} (h : RC X xa W elt tg iter ifs scope f) (hc : X.calm = true) (hN : X.N.Nodup) : RF X xa W (.ListComp elt [⟨tg, iter, ifs, 0⟩] scope pos) f := by
  obtain ⟨wi, g, tt, te, own, h1, h2, h3, h4, h5, h6, h7⟩ := h.ex
  have base := pe_lc hc hN h1 h2 h3 h4 h5 h6 (pos := pos)
  rcases h7 with h7 | h7
  · exact ⟨peW base h7⟩
  · exact ⟨peW (pe_or base (pe_lock base)) h7⟩
theorem rc_comp {ifs : List Expr} {scope : Scope} {own : List (Str × Nat)} {is : List Nat} {t : T} (hi : RI X xa W true tg iter it) (ok : BlkOk X.N X.env.scope scope own)
    (hg : ∀ (s : Shared) (H : Hp) (C : Addr) (cl : List (Str × Addr)) (fp : List Addr), RG (X.blk s H scope (compEnvC scope cl C X.env) fp) xa tg is g) (ht : ∀ (s : Shared) (H : Hp) (C : Addr) (cl : List (Str × Addr)) (fp : List Addr), RTs (X.blk s H scope (compEnvC scope cl C X.env) fp) xa W0 ifs t)
    (he : ∀ (s : Shared) (H : Hp) (C : Addr) (cl : List (Str × Addr)) (fp : List Addr), RE (X.blk s H scope (compEnvC scope cl C X.env) fp) xa W0 elt f) (his : ∀ i ∈ is, i ∈ own.map (·.2) := by decide) (hs : ∀ x, foldedSetIterable iter X.env x = pure x := by intro _; rfl) :
    RC X xa W elt tg iter ifs scope (eComp it (own.map (·.2)) g t f) :=
  ⟨_, _, _, _, own, hi.pi, ok, fun s H C cl fp => (hg s H C cl fp).pg, fun s H C cl fp => (ht s H C cl fp).pts, fun s H C cl fp => (he s H C cl fp).pe, hs, .inl fun σ H Q h => comp_core his h⟩
theorem rc_keys {ifs : List Expr} {scope : Scope} {own : List (Str × Nat)} {is : List Nat} {t : T} {i : Nat} (hv : VarAt X i x) (ok : BlkOk X.N X.env.scope scope own)
    (hg : ∀ (s : Shared) (H : Hp) (C : Addr) (cl : List (Str × Addr)) (fp : List Addr), RG (X.blk s H scope (compEnvC scope cl C X.env) fp) xa tg is g) (ht : ∀ (s : Shared) (H : Hp) (C : Addr) (cl : List (Str × Addr)) (fp : List Addr), RTs (X.blk s H scope (compEnvC scope cl C X.env) fp) xa W0 ifs t)
    (he : ∀ (s : Shared) (H : Hp) (C : Addr) (cl : List (Str × Addr)) (fp : List Addr), RE (X.blk s H scope (compEnvC scope cl C X.env) fp) xa W0 elt f) (his : ∀ i ∈ is, i ∈ own.map (·.2) := by decide) (hs : ∀ y, foldedSetIterable (.Name x p) X.env y = pure y := by intro _; rfl) :
    RC X xa W elt tg (.Name x p) ifs scope (eComp (iK (eB i)) (own.map (·.2)) g t f) :=
  ⟨_, pG X.K xa is g, pT X.K xa W0 t, pE X.K xa W0 f, own, pi_keys (hv.pe p), ok, fun s H C cl fp => (hg s H C cl fp).pg, fun s H C cl fp => (ht s H C cl fp).pts, fun s H C cl fp => (he s H C cl fp).pe, hs, .inr fun σ H Q h => comp_keys his h⟩
theorem ps_or {t t' : TS} (h : PS X st t) (h' : PS X st t') : PS X st (fun D σ H => t D σ H ∨ t' D σ H) := ⟨fun pins s σ H D I q => by
  rcases q with q | q
  · exact h.run pins s σ H D I q
  · exact h'.run pins s σ H D I q⟩
theorem rs_ownC {ifs : List Expr} {scope : Scope} {i : Nat} (h : RC X xa W elt tg iter ifs scope f) (hc : X.calm = true) (hN : X.N.Nodup) (hi : X.N[i]? = some y) (hl : X.env.scope.names.lookup y = some .local)
    (hsw : swapsWith (.ListComp elt [⟨tg, iter, ifs, 0⟩] scope pos) (some (.Name y p)) spos.line X.env = pure true) : RSt X xa W fr (.Assign [.Name y p] (.ListComp elt [⟨tg, iter, ifs, 0⟩] scope pos) spos) (sOwn i f) := by
  obtain ⟨wi, g, tt, te, own, h1, h2, h3, h4, h5, h6, h7⟩ := h.ex
  have base := ps_setLc (i := i) hc hN hi hl hsw h1 h2 h3 h4 h5 h6
  have conv : ∀ (D : Ends) (σ : Sl) (H : Hp), pS X.K xa W fr (sOwn i f) D σ H → pF X.K xa W f σ H fun v H1 => gName i v σ H1 D.nx := fun D σ H ⟨B, F, env, S, q⟩ =>
    ⟨B, F, env, S, (PostS.run (r := f env) S q).imp fun d F1 H1 _ x1 q1 u n nF o => q1 F1 _ H1 (.refl _ _) (S.new x1 n nF o i)⟩
  rcases h7 with h7 | h7
  · exact ⟨psW base fun D σ H q => h7 _ _ _ (conv D σ H q)⟩
  · refine ⟨psW (ps_or base (ps_lock base)) fun D σ H q => ?_⟩
    rcases h7 _ _ _ (conv D σ H q) with h | h
    · exact .inl h
    · exact .inr h
theorem args_env {B F : Hp} : ∀ {ms : List Bool} {vs : List V} {ds : List D}, Args K xa F B ms vs ds → ∀ (i : Nat) (s : Slot), (initE ms ds)[i]? = some s → SlotOk K xa B F B s (vs.map some)[i]? ∧ ∀ k a o, ¬ PlS B k a s o := by
  intro ms vs ds h
  induction h with
  | nil => intro i s e; simp [initE] at e
  | lent b _ ih =>
    intro i s e
    cases i with
    | zero =>
      simp [initE] at e
      subst e
      exact ⟨⟨_, rfl, b⟩, fun _ _ _ z => z⟩
    | succ i => exact ih i s (by simpa [initE] using e)
  | sh b _ ih =>
    intro i s e
    cases i with
    | zero =>
      simp [initE] at e
      subst e
      exact ⟨⟨_, rfl, b⟩, fun _ _ _ z => z⟩
    | succ i => exact ih i s (by simpa [initE] using e)
theorem initE_length : ∀ {ms : List Bool} {ds : List D}, ds.length = ms.length → (initE ms ds).length = ms.length
  | [], [], _ => rfl
  | true :: ms, d :: ds, h => by simp [initE, initE_length (ms := ms) (ds := ds) (by simpa using h)]
  | false :: ms, d :: ds, h => by simp [initE, initE_length (ms := ms) (ds := ds) (by simpa using h)]
theorem fn_core {P : Program} {w : World} {K : PySem.W.Frag} {mg : Str → Option Value} {base : Heap} {xa : XA} {x qual : Str} {st : Stmt} {f : Addr} {fd : FuncData} {N ps : List Str} {k : Nat} {ms : List Bool} {fr : Bool} {s : S}
    (Fu : Fun K x qual st f fd) (sc : FnScope N ps (defScope st)) (hl : ms.length = ps.length) (hN : ms.length ≤ N.length)
    (body : ∀ (cdv : Value) (A : Around) (outer : List PySem.Env) (sh : Shared) (H : Hp) (Ex : XK), fd.code = cdv → Room k (A.deeper (PyProof.Rows.envOfC qual (defScope st) sh.heap.objs.size f cdv)) →
      RSs (cxOf (L2.CX P w) P w K mg base N qual (defScope st) f cdv A outer sh H Ex) xa (fun cls d _ H => Ex cls d H) fr (defBody st) s) (hret : fr = false ∨ ∀ e e', s e ≠ .nx e') :
    FnOk P w K mg base (L2.CX P w) (k + 1) f fd ps (spD K xa ms fr (runD ms N.length s)) := by
  obtain ⟨oc, od, kV, doc, pm, an, cdv, ct, osl, rfl, lk, hcd⟩ := Fu.ex
  refine fn_of lk hcd sc (fun vs H Q E h => ?_) (fun A outer sh H vs Q Ex hr h => ?_)
  · obtain ⟨F, ds, _, _, _, as, _⟩ := h
    rw [as.len.1, hl]
  · refine ⟨_, (body cdv A outer sh H Ex rfl hr).pss, ?_⟩
    obtain ⟨F, ds, sF, ntF, tb, as, q⟩ := h
    have l1 := as.len
    unfold runD at q
    rw [if_pos l1.2] at q
    have S : Sim K xa H F (initE ms ds ++ List.replicate (N.length - ms.length) .un) (L2.start N vs) H := by
      refine ⟨?_, .refl _, sF, ntF, tb, fun i sl e => ?_, fun i j k l a s t e1 _ p _ => ?_⟩
      · unfold L2.start
        rw [List.length_append, List.length_append, List.length_replicate, List.length_replicate, List.length_map, initE_length l1.2, l1.1]
      · by_cases hi : i < (initE ms ds).length
        · rw [List.getElem?_append_left hi] at e
          have z := (args_env as i sl e).1
          unfold L2.start
          rw [List.getElem?_append_left (by rw [List.length_map, l1.1, ← initE_length l1.2]; exact hi)]
          exact z
        · rw [List.getElem?_append_right (by omega)] at e
          have : sl = .un := by
            rw [List.getElem?_replicate] at e
            split at e
            · exact (Option.some.inj e).symm
            · cases e
          subst this
          trivial
      · by_cases hi : i < (initE ms ds).length
        · rw [List.getElem?_append_left hi] at e1
          exact ((args_env as i _ e1).2 _ _ _ p).elim
        · rw [List.getElem?_append_right (by omega), List.getElem?_replicate] at e1
          split at e1
          · cases e1; exact p.elim
          · cases e1
    refine ⟨H, F, _, S, ?_⟩
    cases z : s (initE ms ds ++ List.replicate (N.length - ms.length) .un) with
    | nx e1 =>
      rw [z] at q
      intro F1 σ1 H1 g1 S1
      rcases hret with h | h
      · subst h
        exact q F1 H1 .non ⟨g1.f, S1.hB, S1.hF, g1.new, fun _ => S1.nt⟩ .non
      · exact (h _ _ z).elim
    | rt d =>
      rw [z] at q
      intro F1 H1 v g1 b1 f1 n1 rt
      exact q F1 H1 v ⟨g1.f, b1, f1, g1.new, fun _ => n1⟩ rt
    | er c e1 =>
      rw [z] at q
      intro F1 σ1 H1 g1 S1
      exact q F1 H1 ⟨g1.f, S1.hB, S1.hF, g1.new, fun _ => S1.nt⟩
    | bk e1 => rw [z] at q; exact q.elim
    | rm d e1 => rw [z] at q; exact q.elim
    | ro c fs => rw [z] at q; exact q.elim
    | ct e1 => rw [z] at q; exact q.elim
    | stk => rw [z] at q; exact q.elim
theorem df_core {P : Program} {w : World} {K : PySem.W.Frag} {mg : Str → Option Value} {base : Heap} {xa : XA} {x qual : Str} {st : Stmt} {f : Addr} {fd : FuncData} {N ps : List Str} {k : Nat} {ms : List Bool} {fr : Bool} {s : S}
    (Fu : Fun K x qual st f fd) (sc : FnScope N ps (defScope st)) (hb : Binds K fd ps []) (hm : mg x = some (.ref f)) (hk : PySem.W.keepIn K (.ref f) = true) (hl : ms.length = ps.length) (hN : ms.length ≤ N.length)
    (body : ∀ (cdv : Value) (A : Around) (outer : List PySem.Env) (sh : Shared) (H : Hp) (Ex : XK), fd.code = cdv → Room k (A.deeper (PyProof.Rows.envOfC qual (defScope st) sh.heap.objs.size f cdv)) →
      RSs (cxOf (L2.CX P w) P w K mg base N qual (defScope st) f cdv A outer sh H Ex) xa (fun cls d _ H => Ex cls d H) fr (defBody st) s) (hret : fr = false ∨ ∀ e e', s e ≠ .nx e') :
    Df P w K mg base xa (k + 1) x ms fr (runD ms N.length s) := ⟨f, fd, ps, fn_core Fu sc hl hN body hret, hm, hk, hb⟩
def spLaw (K : PySem.W.Frag) (T : List (Addr × Str)) : Sp := fun vs H Q _ => ∃ (a : Addr) (ns : List Int), vs = [.ref a] ∧ SqL K H a (ns.map V.int) ∧ ns.length ≤ 63 ∧ LamX.Tabs T H ∧ ∀ H', Q (.bl true) H'
def noT (H : Hp) : Hp := fun a => match H a with
  | some o => if isTbl o then none else some o
  | none => none
theorem noT_same (H : Hp) : Same (noT H) H := fun a o e => by
  unfold noT at e
  cases q : H a with
  | none => rw [q] at e; cases e
  | some u =>
    rw [q] at e
    simp only at e
    split at e
    · cases e
    · exact e
theorem noT_nt (H : Hp) : NT (noT H) := fun a o e => by
  unfold noT at e
  cases q : H a with
  | none => rw [q] at e; cases e
  | some u =>
    rw [q] at e
    simp only at e
    split at e
    · cases e
    · rename_i h; cases e; simpa using h
theorem noT_ke (H : Hp) : Ke H (noT H) := fun a o t e => by
  unfold noT
  rw [e]
  simp [t]
theorem law_imp {P : Program} {w : World} {K : PySem.W.Frag} {mg : Str → Option Value} {base : Heap} {xa : XA} {k : Nat} {f : Addr} {fd : FuncData} {ps : List Str} {m : List D → Res D} (F : FnOk P w K mg base (L2.CX P w) k f fd ps (spD K xa [true] false m)) (ok : ∀ ns : List Int, ns.length ≤ 63 → m [.inp ns] = .ok (.bl true)) :
    FnOk P w K mg base (L2.CX P w) k f fd ps (spLaw K xa.tb) := F.imp fun vs H Q E ⟨a, ns, e, hs, hl, tb, q⟩ => by
  refine ⟨noT H, [.inp ns], noT_same H, noT_nt H, tb, by rw [e]; exact .lent (.inl (.inp ((noT_ke H).seq hs))) .nil, ?_⟩
  rw [ok ns hl]
  intro F' H' v _ r
  cases (show Rep K xa F' v (.bl true) from r)
  exact q H'
theorem tabs_nil {T : List (Addr × Str)} {H : Hp} (h : ∀ p ∈ T, H p.1 = some (.tbl #[])) : LamX.Tabs T H := fun p hp => .nil (h p hp)
theorem law_walkT {l : PySem.W.OpenLaw} {q : Program} {loose : List Str} {XP : (Str → Option Value) → Heap → Prop} {YP : World → Heap → Prop} {d : DefRec} {K : Params → PySem.W.Frag} {k : Nat} {x : Str} (hn : l.most = some 63) (hdf : d.params.defaults = []) (hr : Room k callerA)
    (hY : ∀ (w : World) (h : Heap), YP w h → (K w.params).In h)
    (F : ∀ (w : World) (mg : Str → Option Value) (fa : Addr) (h : Heap), (K w.params).In h → h.Ns mainGlobals mg → mg d.name = some (.ref fa) →
      ∃ (fd : FuncData) (cs : List (Addr × Addr)) (T : List (Addr × Str)), (∀ p ∈ T, p.1 ∈ cs.map (·.2)) ∧ (∀ p ∈ cs, (K w.params).lookup p.2 = none) ∧
        (∀ p ∈ cs, ∃ y : Str, ((PyProof.Rows.recsOf q).find? (fun e => e.name == y)).isSome = true ∧ PySem.W.tabIn (K w.params) y = some p) ∧
        (∀ (s : Shared) (u : Value), BindsTo s fd ⟨[u], []⟩ [(x, u)]) ∧ ∀ base : Heap, (K w.params).In base → base.Ns mainGlobals mg → (∀ p ∈ cs, LamX.TabB base mg p.1 p.2) → FnOk l.prog w (K w.params) mg base (L2.CX l.prog w) k fa fd [x] (spLaw (K w.params) T)) :
    PySem.W.WalkO q loose XP YP l.row.toRowW d [] (fun f vs => PySem.call f vs) := by
  refine Att.attach_callB hn hdf fun w s₀ s₁ mg mb fa o pm cd doc a vs ns G Y ho hd hcd hmg hobj hints hlen hbits hg => ?_
  have KX := hY w _ Y
  obtain ⟨fd, cs, T, hT, nT, C, hb, hF⟩ := F w mg fa _ KX G.T.g hmg
  have tb : ∀ p ∈ cs, PySem.W.CodeHd s₁.heap p.1 p.2 ∧ s₁.heap.get? p.2 = some (PySem.W.tabObj #[]) := fun p hp => by
    obtain ⟨y, h0, h2⟩ := C p hp
    obtain ⟨e, h1⟩ := Option.isSome_iff_exists.mp h0
    exact PySem.W.tab_of G.T KX h1 h2
  refine LamX.law_callTs (sp := spLaw (K w.params) T) KX G.T.g G.T.b G.T.builtins G.T.nolimit hg (fun p hp => (tb p hp).2) nT (fun p hp => (tb p hp).1) G.T.bmain hobj hints (Nat.le_trans hlen (by decide)) hr hF hb (fun H hH hS => ⟨a, ns, rfl, hS, hlen, tabs_nil fun p hp => ?_, fun _ => rfl⟩) fun H e s' ⟨_, _, _, _, _, _, _, _, _, _, _, _, z⟩ => z
  obtain ⟨r, hr, e⟩ := List.mem_map.mp (hT p hp)
  rw [← e]; exact hH r hr
end
end Tw
set_option autoImplicit false
set_option Elab.async false
set_option linter.all false
set_option maxRecDepth 100000
namespace Tw
open PySem L2
def Ty.nm : Ty → String
  | .int => "int"
  | .bool => "bool"
  | .str => "str"
  | .tup => "tuple"
  | .lst => "list"
  | .dict => "dict"
section
variable {X : Cx} {xa : XA} {W : WX} {a b : Expr} {fa fb : E} {p p2 p3 q pos : Pos} {x : Str}
theorem repK_any {K : PySem.W.Frag} {F : Hp} {q : Ky} {k : Key} (hk : keyK q = some k) : ∀ {kvs : List (Key × V)} {ds : List (Ky × D)}, RepK K xa F kvs ds → (kvs.any fun kv => decide (kv.1 = k)) = khas q ds
  | _, _, .nil => rfl
  | _, _, .cons (k := k') (q := q') (v := v) (d := d) (kvs := kvs) (ds := ds) e r t => by
    have ih := repK_any hk t
    unfold khas at ih ⊢
    unfold kget
    by_cases h : q' = q
    · subst h
      rw [hk] at e
      cases e
      simp
    · have h' : ¬ k' = k := fun z => h (keyK_inj e (z ▸ hk))
      rw [if_neg h, List.any_cons, decide_eq_false h', Bool.false_or, ih]
theorem repK_map {K : PySem.W.Frag} {F : Hp} {q : Ky} {k : Key} {v : V} {d : D} (hk : keyK q = some k) (r : Rep K xa F v d) : ∀ {kvs : List (Key × V)} {ds : List (Ky × D)}, RepK K xa F kvs ds → RepK K xa F (kvs.map fun kv => if kv.1 = k then (kv.1, v) else kv) (ds.map fun p => if p.1 = q then (p.1, d) else p)
  | _, _, .nil => .nil
  | _, _, .cons (k := k') (q := q') e r' t => by
    simp only [List.map_cons]
    by_cases h : q' = q
    · subst h
      rw [hk] at e
      cases e
      rw [if_pos rfl, if_pos rfl]
      exact .cons hk r (repK_map hk r t)
    · have h' : ¬ k' = k := fun z => h (keyK_inj e (z ▸ hk))
      rw [if_neg h, if_neg h']
      exact .cons e r' (repK_map hk r t)
theorem RepK.append {K : PySem.W.Frag} {F : Hp} : ∀ {kvs lvs : List (Key × V)} {ds es : List (Ky × D)}, RepK K xa F kvs ds → RepK K xa F lvs es → RepK K xa F (kvs ++ lvs) (ds ++ es)
  | _, _, _, _, .nil, s => s
  | _, _, _, _, .cons e r t, s => .cons e r (RepK.append t s)
theorem repK_put {K : PySem.W.Frag} {F : Hp} {q : Ky} {k : Key} {v : V} {d : D} {kvs : List (Key × V)} {ds : List (Ky × D)} (hk : keyK q = some k) (r : Rep K xa F v d) (h : RepK K xa F kvs ds) : RepK K xa F (putK kvs k v) (kput q d ds) := by
  unfold putK kput
  rw [repK_any hk h]
  by_cases z : khas q ds = true
  · rw [if_pos z, if_pos z]
    exact repK_map hk r h
  · rw [if_neg z, if_neg z]
    exact h.append (.cons hk r .nil)
theorem pairs_vals {F H : Hp} (fs : Same F H) : ∀ {xs : List V} {ds : List D} {ps : List (Ky × D)}, Reps X.K xa F xs ds → pairs? ds = some ps → (ps.all fun p => !p.1.isTup) = true → ∃ as kvs, xs = as.map V.ref ∧ Paired (fun p kv => SqT X.K H p [kV kv.1, kv.2]) as kvs ∧ RepK X.K xa F kvs ps
  | _, _, ps, .nil, e, _ => by simp [pairs?] at e; subst e; exact ⟨[], [], rfl, .nil, .nil⟩
  | _, _, ps, .cons (v := v) (vs := vs) (d := d) (ds := ds) r t, e, al => by
    unfold pairs? at e
    cases h1 : pair? d with
    | none => rw [h1] at e; cases e
    | some pr =>
      cases h2 : pairs? ds with
      | none => rw [h1, h2] at e; cases e
      | some rest =>
        rw [h1, h2] at e
        obtain rfl : pr :: rest = ps := Option.some.inj e
        simp only [List.all_cons, Bool.and_eq_true] at al
        obtain ⟨as, kvs, l1, l2, l3⟩ := pairs_vals fs t h2 al.2
        unfold pair? at h1
        split at h1
        · rename_i k w
          cases hk : k.key? with
          | none => rw [hk] at h1; cases h1
          | some y =>
            rw [hk] at h1
            obtain rfl : (y, w) = pr := Option.some.inj h1
            cases r with
            | @tup u us _ eu ru =>
              cases ru with
              | cons r1 t1 =>
                cases t1 with
                | cons r2 t2 =>
                  cases t2
                  rcases key_val (K := X.K) (xa := xa) (Same.refl F) (.inl r1) hk with ⟨k', hk', rfl⟩ | ⟨k', b, hk', _, _⟩
                  · exact ⟨u :: as, (k', _) :: kvs, by rw [l1]; rfl, .cons (SqT.of (fs _ _ eu)) l2, .cons hk' r2 l3⟩
                  · cases y <;> first | (simp [keyT] at hk'; done) | (simp [Ky.isTup] at al)
        · cases h1
theorem repK_merge {K : PySem.W.Frag} {F : Hp} : ∀ {more : List (Key × V)} {ms : List (Ky × D)}, RepK K xa F more ms → ∀ {kvs : List (Key × V)} {ds : List (Ky × D)}, RepK K xa F kvs ds → RepK K xa F (mergeK kvs more) (kmerge ds ms)
  | _, _, .nil, _, _, h => h
  | _, _, .cons e r t, _, _, h => by
    unfold mergeK kmerge
    simp only [List.foldl_cons]
    exact repK_merge t (repK_put e r h)
theorem ok_dictK (hc : X.calm = true) : ∃ r, CallR X (.type "dict") r ∧ OkF X.K xa r D.dictK := by
  refine ⟨_, call_dictP hc, fun F H x d fs bx => ?_⟩
  cases d <;> try exact trivial
  rename_i ds
  obtain ⟨u, xs, rfl, ea, ra⟩ := bx.lst_ fs
  simp only [D.dictK]
  cases e : pairs? ds with
  | none => exact trivial
  | some ps =>
    simp only
    split
    · rename_i al
      obtain ⟨as, kvs, l1, l2, l3⟩ := pairs_vals fs ra e al
      intro Q q
      exact ⟨u, as, kvs, rfl, by rw [← l1]; exact SqL.of ea, l2, fun p n => q F _ (.heap fs n) p n (fs.free n) ⟨_, upd_same, repK_merge l3 .nil⟩⟩
    · exact trivial
theorem rg_reps {K : PySem.W.Frag} {F : Hp} (i j : Int) : Reps K xa F (rgV i j) (rangeL i (j - i).toNat) := by
  unfold rgV rangeL
  generalize List.range (j - i).toNat = l
  induction l with
  | nil => exact .nil
  | cons k l ih => exact .cons (.int _) ih
theorem rf_rng (hc : X.calm = true) (hg : Gl X "list") (hm : X.mg "list" = none) (hg2 : Gl X "range") (hm2 : X.mg "range" = none) (ha : RB X xa W a fa) (hb : RB X xa W b fb)
    (na : starEach [.Call (.Name "range" p2) [a, b] [] p3] X.env = (false, eval (.Call (.Name "range" p2) [a, b] [] p3) X.env) :: starEach [] X.env := by rfl) (n1 : starEach [a, b] X.env = (false, eval a X.env) :: starEach [b] X.env := by rfl)
    (n2 : starEach [b] X.env = (false, eval b X.env) :: starEach [] X.env := by rfl) (n3 : (backTo p3 (starEach [b] X.env)).any (·.1) = false := by rfl) : RF X xa W (.Call (.Name "list" p) [.Call (.Name "range" p2) [a, b] [] p3] [] pos) (eRng fa fb) :=
  ⟨peW (pe_listRg hc hg hm (prg_2 hg2 hm2 ha.pe hb.pe n1 n2 n3) na) fun σ H Q ⟨B, F, env, S, q⟩ =>
    ⟨B, F, env, S, (Post.bind (r := fa env) q).imp fun d F1 H1 z1 x1 q1 v1 b1 => ⟨B, F1, env, S.ext x1, (Post.bind (r := fb env) q1).imp fun d2 F2 H2 z2 x2 q2 v2 b2 => by
      clear z1 z2
      cases d <;> try exact q2.elim
      cases d2 <;> try exact q2.elim
      rename_i i j
      refine ⟨i, j, b1.int_, b2.int_, ?_⟩
      simp only [rng2] at q2
      split at q2
      · rename_i h
        simp only [Res.bind_ok] at q2
        split at q2
        · rename_i hl
          simp only [smallR, Bool.and_eq_true, decide_eq_true_eq] at h
          have hl2 : (j - i).toNat ≤ 16777216 := by
            have e : (rangeL i (j - i).toNat).length = (j - i).toNat := by simp [rangeL]
            rw [e] at hl
            exact hl
          exact ⟨⟨h.1.1, h.1.2, h.2.1, h.2.2, hl2⟩, fun u n => (q2 : Post xa W σ F2 H2 (Res.ok (D.lst (rangeL i (j - i).toNat))) _) F2 _ (.heap x2.le n) u ((x1.trans x2).h.free n) (x2.le.free n) ⟨_, upd_same, rg_reps i j⟩⟩
        · exact q2.elim
      · exact q2.elim⟩⟩⟩
end
end Tw
set_option autoImplicit false
set_option Elab.async false
set_option linter.all false
set_option maxRecDepth 100000
namespace Tw
open PySem L2
section
variable {K : PySem.W.Frag} {xa : XA} {W : WX} {fr : Bool} {B F H F' H' : Hp} {env : Env} {σ : Sl}
theorem RepT.append : ∀ {kvs lvs : List (List Key × V)} {ds es : List (Ky × D)}, RepT K xa F kvs ds → RepT K xa F lvs es → RepT K xa F (kvs ++ lvs) (ds ++ es)
  | _, _, _, _, .nil, s => s
  | _, _, _, _, .cons e r t, s => .cons e r (RepT.append t s)
variable {X : Cx} {a b c e o : Expr} {f fa fb fc : E} {pos p p2 : Pos} {x : Str}
theorem re_get1 {apos cpos : Pos} (hu : X.A.units + 64 < cLine) (ha : RB X xa W o fa) (hb : RB X xa W e fb) (m : M1 X o "get" apos e cpos := by exact ⟨rfl, rfl, rfl, rfl⟩) : RE X xa W (.Call (.Attribute o "get" apos) [e] [] cpos) (eGet1 fa fb) :=
  ⟨peW (pe_dget1 (by omega) ha.pe hb.pe m) fun σ H Q ⟨B, F, env, S, q⟩ => ⟨B, F, env, S, (Post.bind (r := fa env) q).imp fun d F1 H1 _ x1 q1 v1 b1 => by
    cases d with
    | dct t kvs =>
      have hd : ∃ a, v1 = .ref a ∧ IsD H1 a := by
        cases t with
        | false => obtain ⟨a, kk, rfl, h, r⟩ := b1.dK_ x1.le; exact ⟨a, rfl, .inl ⟨_, h⟩⟩
        | true => obtain ⟨a, kk, rfl, h, r⟩ := b1.dT_ x1.le; exact ⟨a, rfl, .inr ⟨_, h⟩⟩
      obtain ⟨u, rfl, hd⟩ := hd
      refine ⟨u, rfl, hd, B, F1, env, S.ext x1, (Post.bind (r := fb env) q1).imp fun d2 F2 H2 _ x2 q2 v2 b2 => ?_⟩
      simp only [D.get1] at q2
      cases hq : d2.kf t with
      | none => rw [hq] at q2; exact q2.elim
      | some key =>
        rw [hq] at q2
        obtain ⟨u', ov, eu, g, _, r⟩ := dget_of x2.le (b1.on x2.f x2.h.k.up) b2 hq
        cases eu
        refine ⟨ov, g, (q2 : Post xa W σ F2 H2 (Res.ok ((kget key kvs).getD .non)) fun d F' H' => ∀ v, Rep X.K xa F' v d → Q v H') F2 H2 (.refl x2.le) _ ?_⟩
        cases z : kget key kvs with
        | none => rw [z] at r; rw [r]; exact .non
        | some d => rw [z] at r; obtain ⟨v, e, r⟩ := r; rw [e]; exact r
    | _ => exact q1.elim⟩⟩
end
end Tw
set_option autoImplicit false
namespace Tw
def maxI : Int → List Int → Int
  | a, [] => a
  | a, b :: r => maxI (if a < b then b else a) r
def D.maxL : D → Res D
  | .lst xs => match ints? xs with
    | some (a :: r) => .ok (.int (maxI a r))
    | _ => .stk
  | _ => .stk
def D.cntOk : D → Bool
  | .bl _ => true
  | .str s => s.all fun c => decide (c < 1114112)
  | _ => false
def D.count : D → D → Res D
  | .lst xs, y => if D.cntOk y && xs.all (fun x => D.cntOk x && x.kind == y.kind) then .ok (.int ((xs.filter fun x => D.eqv x y).length : Nat)) else .stk
  | _, _ => .stk
def D.sortedD : D → Res D
  | .dct false kvs => if kvs.length < 64 then D.sorted (.lst (kvs.map fun kv => kv.1.toD)) else .stk
  | _ => .stk
def D.isLst : D → Bool
  | .lst _ => true
  | _ => false
def D.isStr : D → Bool
  | .str _ => true
  | _ => false
def eM1 (ok : D → Bool) (f : D → D → Res D) (a b : E) : E := fun e => (a e).bind fun x => if ok x then (b e).bind fun y => f x y else .stk
def sPar (i j : Nat) (a b : E) : S := fun e => (a e).run e fun x => (b e).run e fun y => .nx ((e.set i (.sh x)).set j (.sh y))
def zipD : D → D → Res (List D)
  | .lst xs, .lst ys => .ok (zipL xs ys)
  | .tup xs, .tup ys => .ok (zipL xs ys)
  | _, _ => .stk
def iZip2 (a b : E) : I := fun e => (a e).bind fun x => (b e).bind fun y => zipD x y
def sTry (ks cs : List Nat) (i : Nat) (a b : S) : S := fun e => match a e with
  | .er c e1 => if c ∈ ks then (if c ∈ cs then (match b (e1.set i (.sh (.exc c))) with
      | .nx e2 => .nx (e2.set i .un)
      | .bk e2 => .bk (e2.set i .un)
      | .ct e2 => .ct (e2.set i .un)
      | .rt d => .rt d
      | _ => .stk) else .er c e1) else .stk
  | r => r
def D.isExc (ks cs : List Nat) : D → Res D
  | .exc c => if c ∈ ks then .ok (.bl (decide (c ∈ cs))) else .stk
  | _ => .stk
def sForK (i : Nat) (g : G) (b : S) : S := fun e => match (match e[i]? with
    | some (.sh d) => D.keys d
    | some (.bor d) => D.keys d
    | _ => .stk) with
  | .ok xs => (match forGo g b xs e with
    | .er _ _ => .stk
    | r => r)
  | _ => .stk
end Tw
set_option autoImplicit false
set_option Elab.async false
set_option linter.all false
set_option maxRecDepth 100000
namespace Tw
open PySem L2
structure ExcF (K : PySem.W.Frag) (mg : Str → Option Value) (xa : Nat → Addr) (x : Str) (c : Nat) : Prop where
  g : mg x = some (.ref (xa c))
  q : PySem.W.excIn K (xa c) [.type "ValueError", .type "Exception", .type "BaseException", .type "object"] "ValueError.__new__" = true
  k : PySem.W.keepIn K (.ref (xa c)) = true
  s : PySem.W.subIn K (.ref (xa c)) (.type "BaseException") = some true
  t : PySem.W.typeIn K (.ref (xa c)) = some (.type "type")
section
variable {K : PySem.W.Frag} {xa : XA} {W : WX} {fr : Bool} {B F H F' H' : Hp} {env : Env} {σ : Sl}
variable {X : Cx} {a b c e o : Expr} {f fa fb fc : E} {pos p p2 pos' : Pos} {x y z : Str}
theorem rs_raise {m : Str} {c j : Nat} (E : ExcF X.K X.mg xa x c) (hc : X.calm = true) (tk : Takes X W) (hg : Gl X x := by rfl) (hdb : (x == ("__debug__" : Str)) = false := by decide) :
    RSt X xa W fr (.Raise (some (.Call (.Name x p) [.Constant (.str m) j p2] [] pos)) none pos') (sRaise c) :=
  ⟨psW (ps_raise hc tk (pmk_own PySem.F.excBase_ValueError E.q E.g E.k (raises_own E.s E.t) hg hdb)) fun D σ H ⟨B, F, env, S, q⟩ => q F σ H (.refl _ _) S⟩
theorem rs_par {i j : Nat} {px py pt pt2 : Pos} {kt k2 : Nat} (hc : X.calm = true) (hN : X.N.Nodup) (hi : X.N[i]? = some x) (hj : X.N[j]? = some y) (ha : RE X xa W a fa) (hb : RE X xa W b fb) (hij : i ≠ j := by decide)
    (hx : X.env.scope.names.lookup x = some .local := by rfl) (hy : X.env.scope.names.lookup y = some .local := by rfl)
    (hw : swappedStores [.Tuple [.Name x px, .Name y py] kt pt] (.Tuple [a, b] k2 pt2) X.env = pure (some [x, y]) := by rfl)
    (hs : swapsWithSole [.Tuple [.Name x px, .Name y py] kt pt] (.Tuple [a, b] k2 pt2) pos.line X.env = pure false := by rfl)
    (s1 : starEach [a, b] X.env = (false, eval a X.env) :: starEach [b] X.env := by rfl) (s2 : starEach [b] X.env = (false, eval b X.env) :: starEach [] X.env := by rfl) :
    RSt X xa W fr (.Assign [.Tuple [.Name x px, .Name y py] kt pt] (.Tuple [a, b] k2 pt2) pos) (sPar i j fa fb) :=
  ⟨psW (ps_par hc hN hi hj hij hx hy (pa_cons ha.pe (pa_cons hb.pe pa_nil s2) s1) hw hs) fun D σ H ⟨B, F, env, S, q⟩ =>
    ⟨B, F, env, S, (PostS.run (r := fa env) S q).imp fun d F1 H1 _ x1 q1 v1 r1 => ⟨B, F1, env, S.ext x1, (PostS.run (r := fb env) (S.ext x1) q1).imp fun d2 F2 H2 _ x2 q2 v2 r2 =>
      ⟨v1, v2, rfl, q2 F2 _ H2 (.refl _ _) ((((S.ext x1).ext x2).set_sh (r1.on x2.f) i).set_sh r2 j)⟩⟩⟩⟩
theorem nonx_ret {f : E} : ∀ e e', sRet f e ≠ .nx e' := fun e e' h => by
  unfold sRet at h
  cases z : f e <;> rw [z] at h <;> cases h
end
end Tw
set_option autoImplicit false
set_option Elab.async false
set_option linter.all false
set_option maxRecDepth 100000
namespace Tw
open PySem L2
structure ExcKs (K : PySem.W.Frag) (xa : Nat → Addr) (ks : List Nat) : Prop where
  c : ∀ k ∈ ks, ExcC K (xa k)
structure ExcT (K : PySem.W.Frag) (mg : Str → Option Value) (xa : Nat → Addr) (ks cs : List Nat) (x : Str) (t : Nat) : Prop where
  g : mg x = some (.ref (xa t))
  sb : PySem.W.subIn K (.ref (xa t)) (.type "BaseException") = some true
  hd : PySem.W.hasDictIn K (xa t) = true
  ty : PySem.W.typeIn K (.ref (xa t)) = some (.type "type")
  me : PySem.W.subIn K (.ref (xa t)) (.ref (xa t)) = some true
  sub : ∀ k ∈ ks, PySem.W.subIn K (.ref (xa k)) (.ref (xa t)) = some (decide (k ∈ cs))
section
variable {X : Cx} {pins : List (Addr × Obj)} {σ : Sl} {H : Hp} {s : Shared} {a : Addr} {o : HO}
variable {x n : Str} {c : Value} {i : Nat} {body suite : List Stmt} {b₀ : Stmt} {np pos pos' : Pos} {tb : WX → TS} {ts : TS} {Wo : WX}
end
section
variable {X : Cx} {xa : XA} {W : WX} {fr : Bool} {a : Expr} {fa : E} {x n : Str} {i t : Nat} {body suite : List Stmt} {b₀ : Stmt} {np p p2 pos pos' : Pos} {ks cs : List Nat} {m1 m2 : S}
theorem ExcT.exm {K : PySem.W.Frag} {mg : Str → Option Value} (T : ExcT K mg xa ks cs x t) {c : Nat} (h : c ∈ ks) : PySem.W.exmOne K (.ref (xa c)) (.ref (xa t)) = some (decide (c ∈ cs)) := PySem.W.exm_ref T.sb T.hd T.ty (T.sub c h)
end
end Tw
set_option autoImplicit false
set_option Elab.async false
set_option linter.all false
set_option maxRecDepth 100000
namespace Tw
open PySem L2
section
variable {K : PySem.W.Frag} {xa : XA} {W : WX} {fr : Bool} {B F H F' H' : Hp} {env : Env} {σ : Sl}
variable {X : Cx} {e tg iter : Expr} {pos p : Pos} {x : Str} {g : G} {s1 : S}
theorem Kp.at_ {T : List (Addr × Str)} {B H : Hp} {d : Addr} {o u : HO} (k : Kp T B H) (h : B d = some o) (rd : H d = some u) (nu : isTbl u = false) : o = u := by
  cases t : isTbl o with
  | false => have := k.k _ _ t h; rw [rd] at this; exact (Option.some.inj this).symm
  | true => obtain ⟨o', t', e⟩ := k.tb _ _ h t; rw [rd] at e; cases e; rw [nu] at t'; cases t'
theorem Sim.turn {B' : Hp} (S : Sim K xa B F env σ H) (uF : Up F F') (uB : Up B B') (hB : Kp xa.tb B' H') (hF : Same F' H') (nt : NT F') (tb : LamX.Tabs xa.tb H') (own : ∀ a, F a = none → B a = none → F' a = none ∧ B' a = none ∧ H' a = H a) : Sim K xa B' F' env σ H' :=
  S.frameU hB hF nt tb uF uB fun i k a s e p => own a (p.there (S.sl i s e)).1 (p.there (S.sl i s e)).2.1
def only (d : Addr) (u : HO) : Hp := fun b => if b = d then some u else none
end
end Tw
set_option autoImplicit false
set_option Elab.async false
set_option linter.all false
set_option maxRecDepth 100000
namespace Tw
open PySem L2
section
variable {K : PySem.W.Frag} {xa : XA} {W : WX} {fr : Bool} {B F H F' H' : Hp} {env : Env} {σ : Sl}
variable {X : Cx} {a b c e o tg iter : Expr} {fa fb fc : E} {pos p apos cpos : Pos} {x : Str} {g : G} {s1 : S}
end
end Tw
set_option autoImplicit false
set_option Elab.async false
set_option linter.all false
set_option maxRecDepth 100000
namespace Tw
open PySem L2
section
variable {X : Cx}
variable {xa : XA}
end
end Tw
set_option autoImplicit false
set_option Elab.async false
set_option linter.all false
set_option maxRecDepth 100000
namespace Tw.MS
open PySem PySem.Spec PyProof.Rows L2
abbrev set0 (w : World) : Obj := { cls := .type "set", dict := none, data := .set #[] 0 (.fresh 0 0 (!w.params.followText "set-order")) }
abbrev itr0 (l : Addr) : Obj := { cls := .type "list_iterator", data := .fields #[.ref l, .int 0 0] }
abbrev begun (w : World) (h : Heap) (l : Addr) : Heap := (h.push (set0 w)).push (itr0 l)
section
variable {P : Program} {w : World} {A : Around} {E : Value → Shared → Prop} {s : Shared}
set_option maxHeartbeats 3200000 in
theorem set_call {l : Addr} {items : Array Value} {Q : Value → Shared → Prop} {Ok : Heap → Prop} (hl : s.heap.IsList l items)
    (loop : ∀ R : Result → Shared → Prop, (∀ (h' : Heap) (k : Nat), Ok h' → (∀ b o, s.heap.get? b = some o → h'.get? b = some o) → R (.ok (.ret .none)) { s with heap := h', toks := k }) →
      codeAny (model P w) A.in1.in1 (.builtin "set.update.loop" ⟨[.ref s.heap.objs.size, .ref (s.heap.objs.size + 1)], []⟩) R { s with heap := begun w s.heap l })
    (fin : ∀ (h' : Heap) (k : Nat), Ok h' → (∀ b o, s.heap.get? b = some o → h'.get? b = some o) → Q (.ref s.heap.objs.size) { s with heap := h', toks := k }) :
    wpAny (model P w) A (call (.type "set") [.ref l]) Q E s := by
  have ⟨m1, m2, m3⟩ := F.called_set.mro; have made_ := F.called_set.made; have sub_ := F.called_set.sub
  refine wpAny_call (codeAny_of_tree (show wpAny _ _ (callAny (.type "set") _) _ _ _ from ?_))
  refine wpAny_pure ⟨Code.quiet_builtin _ (by decide +kernel), codeAny_builtin F.entry_type_call (?_)⟩; rw [Around.under_plain (weight_type_call_type "set" [.ref l] []) rfl]
  have no_ := F.called_set.notType; have can_ := F.called_set.canCreate; have tc_ := F.typeCall_set_1 (.ref l)
  repeat (any_goals (first | assumption | wp_step))
  refine codeAny_mono (code_set_led1 (.ref l) (E := E) (Q₁ := fun x z => x = .ref s.heap.objs.size ∧ z = { s with heap := s.heap.push (set0 w) }) ⟨rfl, rfl⟩) fun r z hz => ?_
  match r, hz with
  | .error e, hz => exact hz
  | .ok (.ret x), hz =>
    obtain ⟨rfl, rfl⟩ := hz
    have atS : (s.heap.push (set0 w)).get? s.heap.objs.size = some (set0 w) := Heap.get?_push_size _ rfl
    have tyS : Shared.TypeIs { s with heap := s.heap.push (set0 w) } (.ref s.heap.objs.size) "set" := ⟨_, atS, rfl⟩
    have il_ := F.called_set.init.lookup; have ib_ := F.called_set.init.bind (.ref s.heap.objs.size)
    repeat (any_goals (first | assumption | wp_step))
    refine codeAny_mono (codeAny_call_builtin (R := wants (fun r z => r = .none ∧ ∃ h' k, z = { s with heap := h', toks := k } ∧ Ok h' ∧ ∀ b o, s.heap.get? b = some o → h'.get? b = some o) E) F.called_set.init.plain F.entry_set_init (check_set_init_1 tyS ?_)) fun r z hz => ?_
    · obtain ⟨⟨c1, c2, c3, c4⟩, at1, e1, n1, e2⟩ := hl
      simp only at e1 e2
      subst e1; subst e2
      have at2 : (s.heap.push (set0 w)).get? l = some { cls := .type "list", dict := c2, data := .seq items n1, slots := c4 } := Heap.get?_push_of_some _ at1
      have s1_ := F.sub_list_set; have s2_ := F.sub_list_frozenset
      have s3_ : (Value.type "list" == Value.type "dict") = false := by decide
      have isL : (s.heap.push (set0 w)).IsList l items := ⟨_, at2, rfl, n1, rfl⟩
      unfold Builtin.«set.__init__» noKeywords Builtin.Frozenset.updateFrom; generalize gi : pyIter = gi_
      wp_walk
      subst gi
      refine wpAny_pyIter_list isL (wpAny_bind (wpAny_runValue ?_))
      have sz : (s.heap.push (set0 w)).objs.size = s.heap.objs.size + 1 := Heap.size_push ..
      show codeAny (model P w) _ (.builtin "set.update.loop" ⟨[.ref s.heap.objs.size, .ref (s.heap.push (set0 w)).objs.size], []⟩) _ _
      rw [sz]
      refine loop _ fun h' k ok keep => ?_
      exact wpAny_pure (show wpAny _ _ (ret Value.none) _ _ _ from wpAny_pure ⟨rfl, h', k, rfl, ok, keep⟩)
    · match r, hz with
      | .error e, hz => exact hz
      | .ok (.ret r), hz =>
        obtain ⟨rfl, h', k, rfl, ok, keep⟩ := hz
        repeat (any_goals (first | assumption | wp_step))
        exact fin _ _ ok keep
theorem notin2 {α : Type} {x a b : α} (h : x ≠ a) (g : x ≠ b) : x ∉ [a, b] := fun z => by
  rcases List.mem_cons.mp z with e | z
  · exact h e
  · exact g (List.mem_singleton.mp z)
theorem set_ints {l : Addr} {items : Array Value} (ns : List Int) {Q : Value → Shared → Prop} (hh : A.handled = none) (hl : s.heap.IsList l items) (hit : IntsAre items.toList ns) (hb : ns.length + 1 < scanBound)
    (fin : ∀ (h' : Heap) (k c : Nat), SetR w h' s.heap.objs.size (fun j => decide (j ∈ ns)) c → c ≤ ns.length → (∀ b o, s.heap.get? b = some o → h'.get? b = some o) → Q (.ref s.heap.objs.size) { s with heap := h', toks := k }) :
    wpAny (model P w) A (call (.type "set") [.ref l]) Q E s := by
  have hn : items.size = ns.length := by
    have q := IntsAre.length hit
    rwa [Array.length_toList] at q
  refine set_call (Ok := fun h' => ∃ c, SetR w h' s.heap.objs.size (fun j => decide (j ∈ ns)) c ∧ c ≤ ns.length) hl (fun R hR => ?_) fun h' k ⟨c, a, b⟩ keep => fin h' k c a b keep
  have hlS : l < s.heap.objs.size := by obtain ⟨o, e, _⟩ := hl; exact Heap.lt_size e
  have hval : ∀ (i : Nat) (v : Value), items[i]? = some v → ∃ k t, ns[i]? = some k ∧ v = .int k t := fun i v hv => by
    have hi : i < ns.length := by rw [← hn]; exact (Array.getElem?_eq_some_iff.mp hv).1
    obtain ⟨t, e⟩ := PyProof.Rows.IntsAre.int_at hit i v ((Array.getElem?_toList ..).trans hv)
    exact ⟨ns[i], t, List.getElem?_eq_getElem hi, by rw [e, List.getD_eq_getElem?_getD, List.getElem?_eq_getElem hi]; rfl⟩
  have sz : (s.heap.push (set0 w)).objs.size = s.heap.objs.size + 1 := Heap.size_push ..
  refine set_update_ints ((Walks.list (A := A.in1.in1.in1) (by simp [hh]) (s.heap.objs.size + 1) l (Nat.ne_of_lt (Nat.lt_succ_of_lt hlS)) items).toS) s.heap.objs.size (notin2 (Nat.ne_of_lt (Nat.lt_succ_self _)) (Nat.ne_of_gt hlS)) ns hn hb hval (items.size - 0) 0 _ (by omega) (Nat.zero_le _)
    ⟨⟨_, by rw [← sz]; exact Heap.get?_push_size _ rfl, rfl, rfl⟩, (hl.push _).push _⟩ ⟨0, Nat.le_refl 0, setR_new_at (Heap.get?_push_of_some _ (Heap.get?_push_size _ rfl))⟩ fun z c mv hc R' => ?_
  obtain ⟨h', g2, d', k, os'⟩ := z
  have eg : g2 = s.gens := mv.gens
  have ed : d' = s.drawn := mv.drawn
  have eo : os' = s.os := mv.os
  subst eg; subst ed; subst eo
  refine hR h' k ⟨c, R', by omega⟩ fun b o e => ?_
  have hb0 : b < s.heap.objs.size := Heap.lt_size e
  exact mv.heap b o (notin2 (Nat.ne_of_lt hb0) (Nat.ne_of_lt (Nat.lt_succ_of_lt hb0))) (Heap.get?_push_of_some _ (Heap.get?_push_of_some _ e))
end
end Tw.MS
set_option autoImplicit false
set_option Elab.async false
set_option linter.all false
set_option maxRecDepth 100000
namespace Tw.MS
open PySem PySem.Spec PyProof.Rows L2
abbrev hK (P : Program) (w : World) (k : List Key) : Int := tupleKeyHash (mixKind P w) k
abbrev isK (P : Program) (w : World) (h : Heap) (k : List Key) (a : Addr) : Prop := IsTupleKey (mixKind P w) h k a
section
variable {P : Program} {w : World} {A : Around} {E : Value → Shared → Prop} {s : Shared}
def Leaf (v : Value) : Prop := (∃ i t, v = .int i t) ∨ ∃ x t, v = .str x t
theorem leaves {k : List Key} {vs : List Value} (h : ItemsAre (mixKind P w) k vs) : ∀ v ∈ vs, Leaf v := by
  induction h with
  | nil => exact fun v z => nomatch z
  | cons q _ ih =>
    intro v z
    rcases List.mem_cons.mp z with e | z
    · subst e
      rcases keyIs_shape q with ⟨i, t, _, e⟩ | ⟨x, t, _, e⟩
      · exact .inl ⟨i, t, e⟩
      · exact .inr ⟨x, t, e⟩
    · exact ih v z
def rowK (P : Program) (w : World) (L : List (Addr × List Key)) : List (Int × Value) := L.map fun p => (hK P w p.2, Value.ref p.1)
abbrev hsK (P : Program) (w : World) (L : List (Addr × List Key)) : List Int := L.map fun p => hK P w p.2
abbrev ksK (L : List (Addr × List Key)) : List (List Key) := L.map (·.2)
structure Tb (P : Program) (w : World) (h : Heap) (a : Addr) (L : List (Addr × List Key)) (es : Array (Int × Value)) (ep : Nat) (t : SetTable) : Prop where
  ob : ∃ o, h.get? a = some o ∧ o.ExactSet ∧ o.data = .set es ep t
  rows : es.toList = rowK P w L
  tab : TabOk t (hsK P w L)
  nd : (ksK L).Nodup
  tup : ∀ p ∈ L, isK P w h p.2 p.1
  led : w.params.followText "set-order" = true ∨ t.led = true
  room : L.length * 5 < t.mask * 3
  few : L.length < 64
theorem rowK_size {es : Array (Int × Value)} {L : List (Addr × List Key)} (h : es.toList = rowK P w L) : es.size = L.length := by
  have q := congrArg List.length h
  unfold rowK at q
  rwa [Array.length_toList, List.length_map] at q
theorem fits_of {t : SetTable} {n : Nat} (h1 : t.place.size = n) (h2 : t.dummies = #[]) (h3 : n ≤ t.mask) : t.fits n = true := by
  unfold SetTable.fits SetTable.fill
  rw [h2, Bool.and_eq_true, beq_iff_eq, decide_eq_true_eq]
  exact ⟨h1, by show t.place.size + 0 ≤ t.mask; omega⟩
variable {a : Addr} {L : List (Addr × List Key)} {es : Array (Int × Value)} {ep : Nat} {t : SetTable}
theorem Tb.place (R : Tb P w s.heap a L es ep t) : t.place.size = L.length := by
  have q := R.tab.sz
  rwa [List.length_map] at q
theorem Tb.fits (R : Tb P w s.heap a L es ep t) : t.fits es.size = true := by
  have := R.room
  exact fits_of (by rw [R.place, rowK_size R.rows]) R.tab.dm (by rw [rowK_size R.rows]; omega)
end
end Tw.MS
set_option autoImplicit false
namespace Tw
theorem lexI_self : ∀ a : List Int, lexI a a = false
  | [] => rfl
  | x :: a => by simp [lexI, lexI_self a]
theorem lexI_asym : ∀ a b : List Int, lexI a b = true → lexI b a = false
  | [], [], h => by simp [lexI] at h
  | [], _ :: _, _ => rfl
  | _ :: _, [], h => by simp [lexI] at h
  | x :: a, y :: b, h => by
    unfold lexI at h ⊢
    by_cases e : x = y
    · rw [if_pos e] at h
      rw [if_pos e.symm]
      exact lexI_asym a b h
    · rw [if_neg e] at h
      rw [if_neg (Ne.symm e)]
      have := of_decide_eq_true h
      exact decide_eq_false (by omega)
theorem lexI_ntr : ∀ a b c : List Int, lexI b a = false → lexI c b = false → lexI c a = false
  | [], [], c, _, h => h
  | [], y :: b, c, h, h2 => by simp [lexI] at h; cases c <;> simp [lexI] at h2 ⊢
  | x :: a, [], c, h, h2 => by simp [lexI] at h
  | x :: a, y :: b, [], h, h2 => by simp [lexI] at h2
  | x :: a, y :: b, z :: c, h, h2 => by
    unfold lexI at h h2 ⊢
    by_cases e : y = x
    · rw [if_pos e] at h
      by_cases e2 : z = y
      · rw [if_pos e2] at h2
        rw [if_pos (e2.trans e)]
        exact lexI_ntr a b c h h2
      · rw [if_neg e2] at h2
        rw [if_neg (by rw [← e]; exact e2), ← e]
        exact h2
    · rw [if_neg e] at h
      have h' := of_decide_eq_false h
      by_cases e2 : z = y
      · rw [if_neg (by rw [e2]; exact e)]
        exact decide_eq_false (by omega)
      · rw [if_neg e2] at h2
        have h2' := of_decide_eq_false h2
        rw [if_neg (by omega)]
        exact decide_eq_false (by omega)
theorem lexI_eq : ∀ a b : List Int, lexI a b = false → lexI b a = false → a = b
  | [], [], _, _ => rfl
  | [], _ :: _, h, _ => by simp [lexI] at h
  | _ :: _, [], _, h => by simp [lexI] at h
  | x :: a, y :: b, h, h2 => by
    unfold lexI at h h2
    by_cases e : x = y
    · rw [if_pos e] at h
      rw [if_pos e.symm] at h2
      rw [e, lexI_eq a b h h2]
    · rw [if_neg e] at h
      rw [if_neg (Ne.symm e)] at h2
      have := of_decide_eq_false h
      have := of_decide_eq_false h2
      omega
theorem lexI_pre : ∀ p a b : List Int, lexI (p ++ a) (p ++ b) = lexI a b
  | [], _, _ => rfl
  | x :: p, a, b => by simp [lexI, lexI_pre p a b]
def Dif (a b : List Int) : Prop := ∃ p x y a' b', a = p ++ x :: a' ∧ b = p ++ y :: b' ∧ x ≠ y
theorem Dif.lex {a b : List Int} (h : Dif a b) (r s : List Int) : lexI (a ++ r) (b ++ s) = lexI a b := by
  obtain ⟨p, x, y, a', b', rfl, rfl, n⟩ := h
  rw [List.append_assoc, List.append_assoc, lexI_pre, lexI_pre]
  simp [lexI, n]
theorem Dif.ne {a b : List Int} (h : Dif a b) (r s : List Int) : a ++ r ≠ b ++ s := by
  obtain ⟨p, x, y, a', b', rfl, rfl, n⟩ := h
  rw [List.append_assoc, List.append_assoc]
  intro e
  have := List.append_cancel_left e
  simp at this
  exact n this.1
theorem Dif.pre {a b : List Int} (h : Dif a b) (q : List Int) : Dif (q ++ a) (q ++ b) := by
  obtain ⟨p, x, y, a', b', rfl, rfl, n⟩ := h
  exact ⟨q ++ p, x, y, a', b', by simp, by simp, n⟩
theorem Dif.app {a b : List Int} (h : Dif a b) (r s : List Int) : Dif (a ++ r) (b ++ s) := by
  obtain ⟨p, x, y, a', b', rfl, rfl, n⟩ := h
  exact ⟨p, x, y, a' ++ r, b' ++ s, by simp, by simp, n⟩
theorem Dif.at0 {x y : Int} {a b : List Int} (h : x ≠ y) : Dif (x :: a) (y :: b) := ⟨[], x, y, a, b, rfl, rfl, h⟩
theorem Dif.cons {a b : List Int} (x : Int) (h : Dif a b) : Dif (x :: a) (x :: b) := h.pre [x]
theorem strT_dif : ∀ s t : Nm, s ≠ t → Dif (strT s) (strT t)
  | [], [], h => absurd rfl h
  | [], c :: t, _ => .at0 (by omega)
  | c :: s, [], _ => .at0 (by omega)
  | c :: s, d :: t, h => by
    unfold strT
    by_cases e : c = d
    · subst e
      exact (strT_dif s t fun z => h (by rw [z])).cons _
    · exact .at0 (by omega)
theorem flats_cons {n : Nat} {x : D} {xs : List D} (h : D.flats n (x :: xs) = true) : D.flat n x = true ∧ D.flats n xs = true := by
  simpa [D.flats, Bool.and_eq_true] using h
theorem flat_tup {n : Nat} {xs : List D} (h : D.flat n (.tup xs) = true) : ∃ m, n = m + 1 ∧ D.flats m xs = true := by
  cases n with
  | zero => simp [D.flat] at h
  | succ m => exact ⟨m, rfl, by simpa [D.flat] using h⟩
theorem tokss_nil : D.tokss [] = [0] := by simp [D.tokss]
theorem tokss_cons (x : D) (xs : List D) : D.tokss (x :: xs) = 1 :: (x.toks ++ D.tokss xs) := by simp [D.tokss]
theorem toks_tup (xs : List D) : (D.tup xs).toks = 8 :: D.tokss xs := by simp [D.toks]
mutual
theorem toks_eqv : ∀ (x y : D) (n m : Nat), D.flat n x = true → D.flat m y = true → (D.eqv x y = true → x.toks = y.toks) ∧ (D.eqv x y = false → Dif x.toks y.toks)
  | .non, y, n, m, _, h => by
    cases y <;> simp [D.flat] at h <;> simp [D.eqv, D.toks] <;> exact .at0 (by decide)
  | .bl b, y, n, m, _, h => by
    cases y <;> simp [D.flat] at h <;> simp [D.eqv, D.toks] <;> first | exact .at0 (by decide) | skip
    · rename_i c
      cases b <;> cases c <;> simp <;> exact (Dif.at0 (by decide)).cons _
    · rename_i j
      exact fun e => (Dif.at0 e).cons _
  | .int i, y, n, m, _, h => by
    cases y <;> simp [D.flat] at h <;> simp [D.eqv, D.toks] <;> first | exact .at0 (by decide) | skip
    · exact fun e => (Dif.at0 e).cons _
    · exact fun e => (Dif.at0 e).cons _
  | .str s, y, n, m, _, h => by
    cases y <;> simp [D.flat] at h <;> simp [D.eqv, D.toks] <;> first | exact .at0 (by decide) | skip
    exact ⟨fun e => by rw [e], fun e => (strT_dif _ _ e).cons _⟩
  | .tup xs, y, n, m, g, h => by
    cases y <;> simp [D.flat] at h <;> simp [D.eqv, D.toks] <;> first | exact .at0 (by decide) | skip
    obtain ⟨k, rfl, g⟩ := flat_tup g
    obtain ⟨l, rfl, h⟩ := flat_tup (by simpa [D.flat] using h)
    have q := tokss_eqv xs _ k l g h
    exact ⟨fun e => q.1 e, fun e => (q.2 e).cons _⟩
  | .lst _, _, n, _, g, _ => by simp [D.flat] at g
  | .dct _ _, _, n, _, g, _ => by simp [D.flat] at g
  | .exc _, _, n, _, g, _ => by simp [D.flat] at g
  | .inp _, _, n, _, g, _ => by simp [D.flat] at g
theorem tokss_eqv : ∀ (xs ys : List D) (n m : Nat), D.flats n xs = true → D.flats m ys = true → (D.eqvs xs ys = true → D.tokss xs = D.tokss ys) ∧ (D.eqvs xs ys = false → Dif (D.tokss xs) (D.tokss ys))
  | [], [], _, _, _, _ => by simp [D.eqvs]
  | [], y :: ys, _, _, _, _ => by
    simp only [D.eqvs, tokss_nil, tokss_cons]
    exact ⟨fun h => by simp at h, fun _ => .at0 (by decide)⟩
  | x :: xs, [], _, _, _, _ => by
    simp only [D.eqvs, tokss_nil, tokss_cons]
    exact ⟨fun h => by simp at h, fun _ => .at0 (by decide)⟩
  | x :: xs, y :: ys, n, m, g, h => by
    obtain ⟨g1, g2⟩ := flats_cons g
    obtain ⟨h1, h2⟩ := flats_cons h
    obtain ⟨a1, a2⟩ := toks_eqv x y n m g1 h1
    obtain ⟨b1, b2⟩ := tokss_eqv xs ys n m g2 h2
    simp only [D.eqvs, tokss_cons]
    cases e : D.eqv x y with
    | false =>
      simp only [Bool.false_and]
      exact ⟨fun h => by simp at h, fun _ => ((a2 e).app _ _).cons _⟩
    | true =>
      simp only [Bool.true_and]
      rw [a1 e]
      exact ⟨fun z => by rw [b1 z], fun z => ((b2 z).pre _).cons _⟩
end
theorem lexI_tokss {x y : D} {xs ys : List D} {n m : Nat} (hx : D.flat n x = true) (hy : D.flat m y = true) : lexI (D.tokss (x :: xs)) (D.tokss (y :: ys)) = if D.eqv x y then lexI (D.tokss xs) (D.tokss ys) else D.lt x y := by
  obtain ⟨a1, a2⟩ := toks_eqv x y n m hx hy
  rw [tokss_cons, tokss_cons]
  cases e : D.eqv x y with
  | true => simp [lexI, a1 e, lexI_pre]
  | false =>
    simp only [lexI, if_true, Bool.false_eq_true, if_false]
    exact (a2 e).lex _ _
theorem lt_tup {xs ys : List D} : D.lt (.tup xs) (.tup ys) = lexI (D.tokss xs) (D.tokss ys) := by
  unfold D.lt
  rw [toks_tup, toks_tup]
  simp [lexI]
theorem lt_int {i j : Int} : D.lt (.int i) (.int j) = decide (i < j) := by
  unfold D.lt
  simp only [D.toks, lexI, if_true]
  by_cases h : i = j
  · simp [h, lexI]
  · simp [h]
def lexNat : Nm → Nm → Bool
  | [], [] => false
  | [], _ :: _ => true
  | _ :: _, [] => false
  | x :: xs, y :: ys => if x = y then lexNat xs ys else decide (x < y)
theorem lexI_strT : ∀ s t : Nm, lexI (strT s) (strT t) = lexNat s t
  | [], [] => by simp [strT, lexI, lexNat]
  | [], c :: t => by
    have h : (0 : Int) ≠ (c : Int) + 1 := by omega
    simp only [strT, lexI, lexNat, if_neg h]
    exact decide_eq_true (by omega)
  | c :: s, [] => by
    have h : (c : Int) + 1 ≠ 0 := by omega
    simp only [strT, lexI, lexNat, if_neg h]
    exact decide_eq_false (by omega)
  | c :: s, d :: t => by
    simp only [strT, lexI, lexNat]
    by_cases h : c = d
    · simp [h, lexI_strT s t]
    · have h2 : (c : Int) + 1 ≠ (d : Int) + 1 := by omega
      rw [if_neg h, if_neg h2]
      by_cases h3 : c < d
      · rw [decide_eq_true h3]; exact decide_eq_true (by omega)
      · rw [decide_eq_false h3]; exact decide_eq_false (by omega)
theorem lt_str {s t : Nm} : D.lt (.str s) (.str t) = lexNat s t := by
  unfold D.lt
  simp [D.toks, lexI, lexI_strT]
theorem le_total (x y : D) : (D.le x y || D.le y x) = true := by
  unfold D.le D.lt
  cases h : lexI y.toks x.toks with
  | false => rfl
  | true => rw [lexI_asym _ _ h]; rfl
theorem le_trans (x y z : D) (h : D.le x y = true) (g : D.le y z = true) : D.le x z = true := by
  unfold D.le D.lt at *
  simp only [Bool.not_eq_true'] at *
  exact lexI_ntr _ _ _ h g
theorem sortD_perm (xs : List D) : (sortD xs).Perm xs := List.mergeSort_perm xs D.le
theorem sortD_pw (xs : List D) : (sortD xs).Pairwise fun a b => D.le a b = true := List.pairwise_mergeSort (fun a b c => le_trans a b c) (fun a b => le_total a b) xs
def same (x y : D) : Bool := D.le x y && D.le y x
theorem sortD_stb (xs : List D) (x : D) : (sortD xs).filter (same x) = xs.filter (same x) := by
  have h1 : (xs.filter (same x)).Pairwise fun a b => D.le a b = true := by
    refine List.Pairwise.imp_of_mem (R := fun _ _ => True) (fun {a b} ha hb _ => ?_) (by simp [List.pairwise_iff_forall_sublist])
    have ha := (List.mem_filter.mp ha).2
    have hb := (List.mem_filter.mp hb).2
    unfold same at ha hb
    simp only [Bool.and_eq_true] at ha hb
    exact le_trans _ _ _ ha.2 hb.1
  have h2 : (xs.filter (same x)).Sublist (sortD xs) := List.sublist_mergeSort (fun a b c => le_trans a b c) (fun a b => le_total a b) h1 List.filter_sublist
  have h3 : (xs.filter (same x)).Sublist ((sortD xs).filter (same x)) := by
    have := h2.filter (same x)
    rwa [List.filter_filter, show (fun a => same x a && same x a) = same x from funext fun a => Bool.and_self _] at this
  exact (h3.eq_of_length (((sortD_perm xs).filter (same x)).length_eq).symm).symm
theorem sorted_uniq : ∀ {xs ys : List D}, xs.Pairwise (fun a b => D.le a b = true) → ys.Pairwise (fun a b => D.le a b = true) → (∀ x, xs.filter (same x) = ys.filter (same x)) → xs = ys := by
  have refl : ∀ a, same a a = true := fun a => by unfold same D.le D.lt; rw [lexI_self]; rfl
  intro xs
  induction xs with
  | nil =>
    intro ys _ _ h
    cases ys with
    | nil => rfl
    | cons b ys => have := h b; simp [refl] at this
  | cons a xs ih =>
    intro ys hx hy h
    cases ys with
    | nil => have := h a; simp [refl] at this
    | cons b ys =>
      have hab : D.le a b = true := by
        have : b ∈ (a :: xs).filter (same b) := by rw [h b]; simp [refl]
        rcases List.mem_cons.mp (List.mem_filter.mp this).1 with e | e
        · subst e; have := refl b; unfold same at this; simp only [Bool.and_eq_true] at this; exact this.1
        · exact (List.pairwise_cons.mp hx).1 b e
      have hba : D.le b a = true := by
        have : a ∈ (b :: ys).filter (same a) := by rw [← h a]; simp [refl]
        rcases List.mem_cons.mp (List.mem_filter.mp this).1 with e | e
        · subst e; have := refl a; unfold same at this; simp only [Bool.and_eq_true] at this; exact this.1
        · exact (List.pairwise_cons.mp hy).1 a e
      have hs : same a b = true := by unfold same; rw [hab, hba]; rfl
      have e := h a
      rw [List.filter_cons_of_pos (refl a), List.filter_cons_of_pos hs] at e
      obtain ⟨e1, e2⟩ := List.cons.inj e
      subst e1
      have := ih (List.pairwise_cons.mp hx).2 (List.pairwise_cons.mp hy).2 fun x => by
        have z := h x
        by_cases q : same x a = true
        · rw [List.filter_cons_of_pos q, List.filter_cons_of_pos q] at z
          exact (List.cons.inj z).2
        · rw [List.filter_cons_of_neg q, List.filter_cons_of_neg q] at z
          exact z
      rw [this]
theorem sub_len {α : Type} [DecidableEq α] : ∀ {l m : List α}, l.Nodup → (∀ x ∈ l, x ∈ m) → l.length ≤ m.length
  | [], _, _, _ => Nat.zero_le _
  | x :: l, m, h, s => by
    obtain ⟨h1, h2⟩ := List.nodup_cons.mp h
    have hx := s x List.mem_cons_self
    have := sub_len (l := l) (m := m.erase x) h2 fun y hy => (List.mem_erase_of_ne (fun e => h1 (by rw [← e]; exact hy))).mpr (s y (List.mem_cons_of_mem _ hy))
    have e := List.length_erase_of_mem hx
    have p := List.length_pos_of_mem hx
    simp; omega
theorem mem_insI {x y : Int} : ∀ {l : List Int}, y ∈ insI x l ↔ y = x ∨ y ∈ l
  | [] => by simp [insI]
  | z :: l => by
    unfold insI
    split
    · simp
    · split
      · rename_i e
        subst e
        simp
      · rw [List.mem_cons, List.mem_cons, mem_insI]
        constructor
        · rintro (h | h | h) <;> simp [h]
        · rintro (h | h | h) <;> simp [h]
theorem mem_setI {y : Int} : ∀ {l : List Int}, y ∈ setI l ↔ y ∈ l
  | [] => by simp [setI]
  | x :: l => by
    show y ∈ insI x (setI l) ↔ _
    rw [mem_insI, mem_setI, List.mem_cons]
theorem insI_pw {x : Int} : ∀ {l : List Int}, l.Pairwise (· < ·) → (insI x l).Pairwise (· < ·)
  | [], _ => by simp [insI]
  | z :: l, h => by
    obtain ⟨h1, h2⟩ := List.pairwise_cons.mp h
    unfold insI
    split
    · rename_i q
      refine List.pairwise_cons.mpr ⟨fun a m => ?_, h⟩
      rcases List.mem_cons.mp m with e | m
      · omega
      · have := h1 a m; omega
    · split
      · exact h
      · refine List.pairwise_cons.mpr ⟨fun a m => ?_, insI_pw h2⟩
        rcases mem_insI.mp m with e | m
        · omega
        · exact h1 a m
theorem setI_pw : ∀ l : List Int, (setI l).Pairwise (· < ·)
  | [] => .nil
  | x :: l => insI_pw (setI_pw l)
theorem pw_uniq : ∀ {l m : List Int}, l.Pairwise (· < ·) → m.Pairwise (· < ·) → (∀ x, x ∈ l ↔ x ∈ m) → l = m
  | [], [], _, _, _ => rfl
  | [], y :: m, _, _, h => absurd ((h y).mpr List.mem_cons_self) (by simp)
  | x :: l, [], _, _, h => absurd ((h x).mp List.mem_cons_self) (by simp)
  | x :: l, y :: m, hl, hm, h => by
    obtain ⟨l1, l2⟩ := List.pairwise_cons.mp hl
    obtain ⟨m1, m2⟩ := List.pairwise_cons.mp hm
    have a : x = y := by
      rcases List.mem_cons.mp ((h x).mp List.mem_cons_self) with e | e
      · exact e
      · rcases List.mem_cons.mp ((h y).mpr List.mem_cons_self) with e2 | e2
        · exact e2.symm
        · have := m1 x e
          have := l1 y e2
          omega
    subst a
    rw [pw_uniq l2 m2 fun z => ?_]
    constructor
    · intro hz
      rcases List.mem_cons.mp ((h z).mp (List.mem_cons_of_mem _ hz)) with e | e
      · have := l1 z hz; omega
      · exact e
    · intro hz
      rcases List.mem_cons.mp ((h z).mpr (List.mem_cons_of_mem _ hz)) with e | e
      · have := m1 z hz; omega
      · exact e
theorem setI_id {l : List Int} (h : l.Pairwise (· < ·)) : setI l = l := pw_uniq (setI_pw l) h fun _ => mem_setI
end Tw
set_option autoImplicit false
set_option Elab.async false
set_option linter.all false
set_option maxRecDepth 100000
namespace Tw
open PySem L2 PySem.W
mutual
def fromPy : PyData → D
  | .none => .non
  | .bool b => .bl b
  | .int i => .int i
  | .str s => .str s.cps.toList
  | .list xs => .lst (fromPys xs)
  | .tuple xs => .tup (fromPys xs)
  | .dict _ => .non
def fromPys : List PyData → List D
  | [] => []
  | x :: xs => fromPy x :: fromPys xs
end
mutual
theorem from_to : ∀ (d : D) (n : Nat), D.flat n d = true → fromPy (toPy d) = d
  | .non, _, _ => by simp [toPy, fromPy]
  | .bl _, _, _ => by simp [toPy, fromPy]
  | .int _, _, _ => by simp [toPy, fromPy]
  | .str _, _, _ => by simp [toPy, fromPy]
  | .tup xs, n, h => by
    obtain ⟨m, rfl, h⟩ := flat_tup h
    simp only [toPy, fromPy]
    rw [froms_to xs m h]
  | .lst _, _, h => by simp [D.flat] at h
  | .dct _ _, _, h => by simp [D.flat] at h
  | .exc _, _, h => by simp [D.flat] at h
  | .inp _, _, h => by simp [D.flat] at h
theorem froms_to : ∀ (xs : List D) (n : Nat), D.flats n xs = true → fromPys (toPys xs) = xs
  | [], _, _ => by simp [toPys, fromPys]
  | x :: xs, n, h => by
    obtain ⟨h1, h2⟩ := flats_cons h
    simp only [toPys, fromPys]
    rw [from_to x n h1, froms_to xs n h2]
end
mutual
theorem flat_pl : ∀ (d : D) (n : Nat), D.flat n d = true → D.pl n d = true
  | .non, _, _ => by simp [D.pl]
  | .bl _, _, _ => by simp [D.pl]
  | .int _, _, _ => by simp [D.pl]
  | .str _, _, h => by simpa [D.pl, D.flat] using h
  | .tup xs, n, h => by
    obtain ⟨m, rfl, h⟩ := flat_tup h
    simpa [D.pl] using flats_pl xs m h
  | .lst _, _, h => by simp [D.flat] at h
  | .dct _ _, _, h => by simp [D.flat] at h
  | .exc _, _, h => by simp [D.flat] at h
  | .inp _, _, h => by simp [D.flat] at h
theorem flats_pl : ∀ (xs : List D) (n : Nat), D.flats n xs = true → D.pls n xs = true
  | [], _, _ => by simp [D.pls]
  | x :: xs, n, h => by
    obtain ⟨h1, h2⟩ := flats_cons h
    simp [D.pls, flat_pl x n h1, flats_pl xs n h2]
end
mutual
theorem alk_py : ∀ (x y : D), D.alk x y = true → alike (toPy x) (toPy y) = true
  | .int _, y, h => by cases y <;> simp [D.alk] at h; simp [toPy, alike]
  | .str _, y, h => by cases y <;> simp [D.alk] at h; simp [toPy, alike]
  | .tup xs, y, h => by
    cases y <;> simp [D.alk] at h
    simp only [toPy, alike]
    exact alks_py xs _ h
  | .non, _, h => by simp [D.alk] at h
  | .bl _, _, h => by simp [D.alk] at h
  | .lst _, _, h => by simp [D.alk] at h
  | .dct _ _, _, h => by simp [D.alk] at h
  | .exc _, _, h => by simp [D.alk] at h
  | .inp _, _, h => by simp [D.alk] at h
theorem alks_py : ∀ (xs ys : List D), D.alks xs ys = true → alikeAll (toPys xs) (toPys ys) = true
  | [], _, _ => by simp [toPys, alikeAll]
  | _ :: _, [], _ => by simp [toPys, alikeAll]
  | x :: xs, y :: ys, h => by
    simp only [D.alks, Bool.and_eq_true] at h
    simp only [toPys, alikeAll]
    rw [alk_py x y h.1, alks_py xs ys h.2]
    rfl
end
theorem lexNat_lt : ∀ s t : List Nat, lexNat s t = decide (s < t)
  | [], [] => by simp [lexNat]
  | [], _ :: _ => by simp [lexNat]
  | _ :: _, [] => by simp [lexNat]
  | x :: s, y :: t => by
    simp only [lexNat, List.cons_lt_cons_iff, lexNat_lt s t]
    by_cases h : x = y
    · subst h; simp
    · simp [h]
mutual
theorem dataLt_py : ∀ (x y : D) (n m : Nat), D.flat n x = true → D.flat m y = true → D.alk x y = true → dataLt (toPy x) (toPy y) = D.lt x y
  | .int _, y, _, _, _, _, h => by
    cases y <;> simp [D.alk] at h
    simp only [toPy]
    rw [dataLt_int, lt_int]
  | .str _, y, _, _, _, _, h => by
    cases y <;> simp [D.alk] at h
    simp only [toPy]
    rw [dataLt_str, lt_str, lexNat_lt]
  | .tup xs, y, n, m, f, g, h => by
    cases y <;> simp [D.alk] at h
    obtain ⟨k, rfl, f⟩ := flat_tup f
    obtain ⟨l, rfl, g⟩ := flat_tup g
    simp only [toPy]
    rw [dataLt_tuple, lt_tup]
    exact dataLts_py xs _ k l f g h
  | .non, _, _, _, _, _, h => by simp [D.alk] at h
  | .bl _, _, _, _, _, _, h => by simp [D.alk] at h
  | .lst _, _, _, _, _, _, h => by simp [D.alk] at h
  | .dct _ _, _, _, _, _, _, h => by simp [D.alk] at h
  | .exc _, _, _, _, _, _, h => by simp [D.alk] at h
  | .inp _, _, _, _, _, _, h => by simp [D.alk] at h
theorem dataLts_py : ∀ (xs ys : List D) (n m : Nat), D.flats n xs = true → D.flats m ys = true → D.alks xs ys = true → PyProof.Rows.lexLt PyProof.Rows.itemOrd (keyToksAll (toPys xs)) (keyToksAll (toPys ys)) = lexI (D.tokss xs) (D.tokss ys)
  | [], [], _, _, _, _, _ => by
    simp only [toPys]
    rw [PyProof.Rows.lex_irrefl, lexI_self]
  | [], y :: ys, _, _, _, _, _ => by
    simp only [toPys]
    rw [toks_all_cons]
    simp only [keyToksAll]
    rw [PyProof.Rows.lex_diff (O := PyProof.Rows.itemOrd) (by simp), tokss_nil, tokss_cons]
    simp [PyProof.Rows.itemLt, lexI]
  | x :: xs, [], _, _, _, _, _ => by
    simp only [toPys]
    rw [toks_all_cons]
    simp only [keyToksAll]
    rw [PyProof.Rows.lex_diff (O := PyProof.Rows.itemOrd) (by simp), tokss_nil, tokss_cons]
    simp [PyProof.Rows.itemLt, lexI]
  | x :: xs, y :: ys, n, m, f, g, h => by
    obtain ⟨f1, f2⟩ := flats_cons f
    obtain ⟨g1, g2⟩ := flats_cons g
    simp only [D.alks, Bool.and_eq_true] at h
    rw [lexI_tokss f1 g1]
    simp only [toPys]
    cases e : D.eqv x y with
    | true =>
      rw [dataLt_all_yes (alk_py x y h.1) (by rw [eqv_py x y n m (flat_pl x n f1) (flat_pl y m g1)]; exact e)]
      simp only [if_true]
      exact dataLts_py xs ys n m f2 g2 h.2
    | false =>
      rw [dataLt_all_no (alk_py x y h.1) (by rw [eqv_py x y n m (flat_pl x n f1) (flat_pl y m g1)]; exact e)]
      simp only [Bool.false_eq_true, if_false]
      exact dataLt_py x y n m f1 g1 h.1
end
section
variable {prog : Program} {w : World} {A : Around} {E : Value → Shared → Prop} {s : Shared}
theorem toPy_tup {x : D} {t : List PyData} (h : toPy x = .tuple t) : x.kind = 4 := by
  cases x <;> simp [toPy] at h
  rfl
theorem katLex_d {b fin : Bool} {Q : Bool → Shared → Prop} (hu : A.units + 50 < cLine) : ∀ (xs ys : List D) (n m i : Nat) (vs ws : List Value) (as bs : List Addr), D.flats n xs = true → D.flats m ys = true → n ≤ 40 → D.cmps xs ys = true →
    ReadsAll s.heap vs (toPys xs) as → ReadsAll s.heap ws (toPys ys) bs → (b = true → i = 0 → ∀ x r, xs = x :: r → x.kind ≠ 4) → fin = decide (xs.length < ys.length) → Q (lexI (D.tokss xs) (D.tokss ys)) s → KatLex prog w A b fin Q (vs.zip ws) i s
  | [], [], _, _, i, _, _, _, _, _, _, _, _, ra, rb, _, hf, hq => by
    simp only [toPys] at ra rb
    cases ra
    cases rb
    have e : fin = false := by rw [hf]; rfl
    subst e
    rw [lexI_self] at hq
    exact kat_nil hq
  | [], y :: ys, _, _, i, _, _, _, _, _, _, _, _, ra, rb, _, hf, hq => by
    simp only [toPys] at ra
    cases ra
    have e : fin = true := by rw [hf]; exact decide_eq_true (Nat.succ_pos _)
    subst e
    rw [List.zip_nil_left]
    exact kat_nil (by simpa [tokss_nil, tokss_cons, lexI] using hq)
  | x :: xs, [], _, _, i, _, _, _, _, _, _, _, _, ra, rb, _, hf, hq => by
    simp only [toPys] at rb
    cases rb
    have e : fin = false := by rw [hf]; exact decide_eq_false (Nat.not_lt_zero _)
    subst e
    rw [List.zip_nil_right]
    exact kat_nil (by simpa [tokss_nil, tokss_cons, lexI] using hq)
  | x :: xs, y :: ys, n, m, i, _, _, _, _, f, g, hn, hc, ra, rb, hb, hf, hq => by
    obtain ⟨f1, f2⟩ := flats_cons f
    obtain ⟨g1, g2⟩ := flats_cons g
    have hf' : fin = decide (xs.length < ys.length) := by
      rw [hf]
      simp only [List.length_cons, Nat.add_lt_add_iff_right]
    simp only [toPys] at ra rb
    have px := flat_pl x n f1
    have py := flat_pl y m g1
    obtain ⟨l1, d1⟩ := lay_py x n px
    obtain ⟨l2, d2⟩ := lay_py y m py
    have room : A.units + min (toPy x).depth (toPy y).depth < cLine := by
      have := Nat.min_le_left (toPy x).depth (toPy y).depth
      omega
    cases ra with
    | cons r rs =>
      cases rb with
      | cons r' rs' =>
        rw [List.zip_cons_cons]
        refine kat_cons (SeqAt.eqAt_reads (toPy x) (toPy y) A s _ _ _ _ r r' l1 l2 room prog w _ _ ?_)
        rw [eqv_py x y n m px py]
        rw [lexI_tokss f1 g1] at hq
        unfold D.cmps at hc
        cases e : D.eqv x y with
        | true =>
          rw [e] at hq hc
          simp only [if_true] at hq hc
          exact kat_yes (katLex_d hu xs ys n m (i + 1) _ _ _ _ f2 g2 hn hc rs rs' (fun _ hi => absurd hi (Nat.succ_ne_zero i)) hf' hq)
        | false =>
          rw [e] at hq hc
          simp only [Bool.false_eq_true, if_false] at hq hc
          refine kat_no (oneLt_alike (fun hbi t ht => ?_) r r' (alk_py x y hc) (fun z => ?_) room (by rw [dataLt_py x y n m f1 g1 hc]; exact hq))
          · simp only [Bool.and_eq_true, beq_iff_eq] at hbi
            exact hb hbi.1 hbi.2 x xs rfl (toPy_tup ht)
          · cases x <;> simp [toPy] at z <;> simp [D.alk] at hc
end
theorem toPys_length : ∀ xs : List D, (toPys xs).length = xs.length
  | [] => rfl
  | x :: xs => by simp [toPys, toPys_length xs]
mutual
theorem flat_up : ∀ (d : D) (n : Nat), D.flat n d = true → D.flat (n + 1) d = true
  | .non, _, _ => by simp [D.flat]
  | .bl _, _, _ => by simp [D.flat]
  | .int _, _, _ => by simp [D.flat]
  | .str _, _, h => by simpa [D.flat] using h
  | .tup xs, n, h => by
    obtain ⟨m, rfl, h⟩ := flat_tup h
    simpa [D.flat] using flats_up xs m h
  | .lst _, _, h => by simp [D.flat] at h
  | .dct _ _, _, h => by simp [D.flat] at h
  | .exc _, _, h => by simp [D.flat] at h
  | .inp _, _, h => by simp [D.flat] at h
theorem flats_up : ∀ (xs : List D) (n : Nat), D.flats n xs = true → D.flats (n + 1) xs = true
  | [], _, _ => by simp [D.flats]
  | x :: xs, n, h => by
    obtain ⟨h1, h2⟩ := flats_cons h
    simp [D.flats, flat_up x n h1, flats_up xs n h2]
end
section
variable {K : PySem.W.Frag} {xa : XA} {F H : Hp}
theorem all_of {xs : List D} {p : D → Bool} (h : xs.all p = true) : ∀ x ∈ xs, p x = true := by simpa [List.all_eq_true] using h
noncomputable def kOf (h : Heap) (u : Value) : D := fromPy (SeqAt.readOf h u)
theorem kOf_eq {h : Heap} {u : Value} {d : D} {n : Nat} {as : List Addr} (f : D.flat n d = true) (r : Reads h u (toPy d) as) : kOf h u = d := by
  unfold kOf
  rw [SeqAt.readOf_eq (lay_py d n (flat_pl d n f)).1 r, from_to d n f]
theorem swo_D : SrtO.Swo D.lt := ⟨fun _ _ h => lexI_asym _ _ h, fun _ _ _ h g => lexI_ntr _ _ _ h g⟩
theorem swo_k (h : Heap) : SrtO.Swo fun u v => D.lt (kOf h u) (kOf h v) := ⟨fun _ _ h => lexI_asym _ _ h, fun _ _ _ h g => lexI_ntr _ _ _ h g⟩
theorem sortD_of {ys ds : List D} (h1 : SrtO.Srtd D.lt ys) (h2 : SrtO.Stb D.lt ys ds) : ys = sortD ds := by
  refine SrtO.stb_uniq swo_D h1 ?_ ⟨h2.perm.trans (sortD_perm ds).symm, fun x => (h2.cls x).trans ?_⟩
  · refine (sortD_pw ds).imp fun {a b} h => ?_
    simpa [D.le] using h
  · have e : SrtO.eqv D.lt x = same x := funext fun y => by
      unfold SrtO.eqv same D.le
      rw [Bool.and_comm]
    rw [e]
    exact (sortD_stb ds x).symm
theorem each_reads {X : Cx} {pins : List (Addr × Obj)} {σ : Sl} {s : Shared} (I : Inv X pins σ H s) (fs : Same F H) : ∀ {xs : List V} {ds : List D} {us : List Value}, Reps X.K xa F xs ds → Vals xs us → (∀ d ∈ ds, D.flat 40 d = true) →
    us.map (kOf s.heap) = ds ∧ ∀ u ∈ us, ∃ x d as, RelV x u ∧ Rep X.K xa F x d ∧ d ∈ ds ∧ Reads s.heap u (toPy d) as ∧ kOf s.heap u = d
  | _, _, _, .nil, .nil, _ => ⟨rfl, by simp⟩
  | _, _, _, .cons (d := d) r t, .cons q p, h => by
    obtain ⟨h1, h2⟩ := each_reads I fs t p fun d hd => h d (List.mem_cons_of_mem _ hd)
    have f := h d List.mem_cons_self
    obtain ⟨as, rd⟩ := Dp.reads I _ _ _ (dp_of fs d _ 40 (flat_pl d 40 f) r) q
    have e := kOf_eq f rd
    refine ⟨by rw [List.map_cons, e, h1], fun u hu => ?_⟩
    rcases List.mem_cons.mp hu with z | z
    · subst z; exact ⟨_, d, as, q, r, List.mem_cons_self, rd, e⟩
    · obtain ⟨x, d', as', a1, a2, a3, a4, a5⟩ := h2 u z
      exact ⟨x, d', as', a1, a2, List.mem_cons_of_mem _ a3, a4, a5⟩
theorem back_reps {h : Heap} : ∀ {us : List Value}, (∀ u ∈ us, ∃ x, RelV x u ∧ Rep K xa F x (kOf h u)) → ∃ ys, Vals ys us ∧ Reps K xa F ys (us.map (kOf h))
  | [], _ => ⟨[], .nil, .nil⟩
  | u :: us, h => by
    obtain ⟨x, h1, h2⟩ := h u List.mem_cons_self
    obtain ⟨ys, h3, h4⟩ := back_reps fun v hv => h v (List.mem_cons_of_mem _ hv)
    exact ⟨x :: ys, .cons h1 h3, .cons h2 h4⟩
theorem reads_each {h h' : Heap} : ∀ {us : List Value} {ds : List D}, us.map (kOf h) = ds → (∀ u ∈ us, ∃ as, Reads h' u (toPy (kOf h u)) as) → EachIs (fun v d => ∃ as, Reads h' v d as) us (ds.map toPy)
  | [], _, e, _ => by subst e; exact .nil
  | u :: us, _, e, h => by
    subst e
    exact .cons (h u List.mem_cons_self) (reads_each rfl fun v hv => h v (List.mem_cons_of_mem _ hv))
def rSrt (K : PySem.W.Frag) (xa : XA) : List V → Hp → VK → Prop := fun vs H Q => ∃ (a : Addr) (xs : List V) (ds : List D) (F : Hp), vs = [V.ref a] ∧ SqL K H a xs ∧ Same F H ∧ Reps K xa F xs ds ∧ sortable ds = true ∧
  ∀ ys p, Reps K xa F ys (sortD ds) → H p = none → Q (.ref p) (upd H p (.lst ys))
theorem sort_kind {X : Cx} {A : Around} {s : Shared} {vs : List Value} {ds : List D} {h : Heap} (hu : A.units + 50 < cLine) (h2 : 2 ≤ vs.length) (e : vs.map (kOf h) = ds) (rd : ∀ u ∈ vs, ∃ as, Reads s.heap u (toPy (kOf h u)) as) (srt : sortable ds = true) : ∃ κ,
    (∀ (Q : PyProof.Rows.SortKind → Shared → Prop) (E : Value → Shared → Prop), Q κ s → wpAny (model X.prog X.w) A (PyProof.Rows.keyKind' vs.toArray) Q E s) ∧ SrtO.Cmp X.prog X.w A s κ (fun p => p.1 ∈ vs) (SrtO.lt2 fun u v => D.lt (kOf h u) (kOf h v)) := by
  unfold sortable at srt
  simp only [Bool.and_eq_true, Bool.or_eq_true] at srt
  obtain ⟨hf, hk⟩ := srt
  have mem : ∀ u ∈ vs, kOf h u ∈ ds := fun u hu => by rw [← e]; exact List.mem_map.mpr ⟨u, hu, rfl⟩
  have ff : ∀ u ∈ vs, D.flat 40 (kOf h u) = true := fun u hu => all_of hf _ (mem u hu)
  have one : ∀ (T : String), (Value.type T != Value.type "tuple") = true → (∀ u ∈ vs, dataType (toPy (kOf h u)) = .type T) → (∀ u ∈ vs, ∀ v ∈ vs, D.alk (kOf h u) (kOf h v) = true) → (∀ u ∈ vs, (kOf h u).kind ≠ 4) → ∃ κ,
      (∀ (Q : PyProof.Rows.SortKind → Shared → Prop) (E : Value → Shared → Prop), Q κ s → wpAny (model X.prog X.w) A (PyProof.Rows.keyKind' vs.toArray) Q E s) ∧ SrtO.Cmp X.prog X.w A s κ (fun p => p.1 ∈ vs) (SrtO.lt2 fun u v => D.lt (kOf h u) (kOf h v)) := by
    intro T hT ht ha h4
    refine ⟨PyProof.Rows.oneType', fun Q E q => kas_kind (T := .type T) h2 (fun v hv => ?_) hT (beq_self_eq_true _) q, fun p q hp hq => ?_⟩
    · obtain ⟨as, r⟩ := rd v hv
      rw [← ht v hv]
      exact looks_reads r
    · obtain ⟨as, r⟩ := rd p.1 hp
      obtain ⟨bs, r'⟩ := rd q.1 hq
      have := lay_py _ 40 (flat_pl _ 40 (ff _ hp))
      have := Nat.min_le_left (toPy (kOf h p.1)).depth (toPy (kOf h q.1)).depth
      rw [PyProof.Rows.keyLt'_oneType]
      refine oneLt_alike (fun _ t ht => h4 _ hp (toPy_tup ht)) r r' (alk_py _ _ (ha _ hp _ hq)) (fun z => ?_) (by omega) ⟨rfl, dataLt_py _ _ 40 40 (ff _ hp) (ff _ hq) (ha _ hp _ hq)⟩
      have := ha _ hp _ hp
      revert this z
      cases kOf h p.1 <;> simp [toPy, D.alk]
  rcases hk with (hk | hk) | ⟨h1, hc⟩
  · refine one "int" (by decide) (fun u hu => ?_) (fun u hu v hv => ?_) (fun u hu => ?_)
    · have := all_of hk _ (mem u hu)
      revert this
      cases kOf h u <;> simp [D.kind, toPy, dataType]
    · have a := all_of hk _ (mem u hu)
      have b := all_of hk _ (mem v hv)
      revert a b
      cases kOf h u <;> cases kOf h v <;> simp [D.kind, D.alk]
    · have := all_of hk _ (mem u hu)
      intro z
      rw [z] at this
      simp at this
  · refine one "str" (by decide) (fun u hu => ?_) (fun u hu v hv => ?_) (fun u hu => ?_)
    · have := all_of hk _ (mem u hu)
      revert this
      cases kOf h u <;> simp [D.kind, toPy, dataType]
    · have a := all_of hk _ (mem u hu)
      have b := all_of hk _ (mem v hv)
      revert a b
      cases kOf h u <;> cases kOf h v <;> simp [D.kind, D.alk]
    · have := all_of hk _ (mem u hu)
      intro z
      rw [z] at this
      simp at this
  · have tup : ∀ u ∈ vs, ∃ x r, kOf h u = .tup (x :: r) := fun u hu => by
      have := all_of h1 _ (mem u hu)
      revert this
      cases kOf h u with
      | tup xs => cases xs <;> simp [D.hd]
      | _ => simp [D.hd]
    have same_hd : ∀ u ∈ vs, ∀ v ∈ vs, (kOf h u).hd = (kOf h v).hd := fun u hu v hv => by
      have := all_of h1 _ (mem u hu)
      simp only [Bool.and_eq_true] at this
      simpa using all_of this.2 _ (mem v hv)
    obtain ⟨u0, hu0⟩ : ∃ u0, u0 ∈ vs := by
      cases vs with
      | nil => simp at h2
      | cons a _ => exact ⟨a, List.mem_cons_self⟩
    obtain ⟨x0, r0, e0⟩ := tup u0 hu0
    have dt : ∀ x y : D, x.kind = y.kind → D.flat 40 x = true → D.flat 40 y = true → dataType (toPy x) = dataType (toPy y) := fun x y => by
      cases x <;> cases y <;> simp [D.kind, toPy, dataType, D.flat]
    have t4 : ∀ x : D, D.flat 40 x = true → x.kind ≠ 4 ∨ (dataType (toPy x) != Value.type "tuple") = false := fun x => by
      cases x <;> simp [D.kind, toPy, dataType, D.flat]
    obtain ⟨fs, k1, k2, k3⟩ := each_katTups (reads_each e rd) fun d hd => by
      obtain ⟨d', hd', rfl⟩ := List.mem_map.mp hd
      obtain ⟨u, hu', rfl⟩ : ∃ u ∈ vs, kOf h u = d' := by rw [← e] at hd'; exact List.mem_map.mp hd'
      obtain ⟨x, r, ex⟩ := tup u hu'
      exact ⟨toPy x, toPys r, by rw [ex]; simp [toPy, toPys]⟩
    have up : ∀ x : D, D.flat 39 x = true → D.flat 40 x = true := fun x f => flat_up x 39 f
    have f0 : D.flat 40 x0 = true := by
      have z := ff u0 hu0
      rw [e0] at z
      obtain ⟨m, hm, z⟩ := flat_tup z
      cases hm
      exact up _ (flats_cons z).1
    have kinds : ∀ u ∈ vs, ∀ x r, kOf h u = .tup (x :: r) → x.kind = x0.kind ∧ D.flat 40 x = true := fun u hu' x r ex => by
      have z := same_hd u hu' u0 hu0
      rw [ex, e0] at z
      have z2 := ff u hu'
      rw [ex] at z2
      obtain ⟨m, hm, z2⟩ := flat_tup z2
      cases hm
      exact ⟨by simpa [D.hd] using z, up _ (flats_cons z2).1⟩
    refine ⟨PyProof.Rows.tuples' (dataType (toPy x0) != Value.type "tuple"), fun Q E q => kat_kind (T := dataType (toPy x0)) k1 (by omega) (fun f hf' => ?_) (beq_self_eq_true _) q, fun p q hp hq => ?_⟩
    · obtain ⟨x, r, as, m1, m2⟩ := k3 f hf'
      obtain ⟨d', hd', ed⟩ := List.mem_map.mp m1
      obtain ⟨u, hu', rfl⟩ : ∃ u ∈ vs, kOf h u = d' := by rw [← e] at hd'; exact List.mem_map.mp hd'
      obtain ⟨x', r', ex⟩ := tup u hu'
      rw [ex] at ed
      simp only [toPy, toPys, PyData.tuple.injEq, List.cons.injEq] at ed
      obtain ⟨q1, q2⟩ := kinds u hu' x' r' ex
      rw [← dt x' x0 q1 q2 f0, ed.1]
      exact looks_reads m2
    · obtain ⟨x, r, ex⟩ := tup p.1 hp
      obtain ⟨y, t, ey⟩ := tup q.1 hq
      obtain ⟨as, ra⟩ := rd p.1 hp
      obtain ⟨bs, rb⟩ := rd q.1 hq
      have fx := ff p.1 hp
      have fy := ff q.1 hq
      have hcc := all_of (all_of hc _ (mem p.1 hp)) _ (mem q.1 hq)
      obtain ⟨qk, qf⟩ := kinds p.1 hp x r ex
      show wpAny _ A _ (fun r s' => s' = s ∧ r = D.lt (kOf h p.1) (kOf h q.1)) _ s
      rw [ex] at ra fx hcc
      rw [ey] at rb fy hcc
      rw [ex, ey]
      obtain ⟨m, hm, fx⟩ := flat_tup fx
      cases hm
      obtain ⟨m, hm, fy⟩ := flat_tup fy
      cases hm
      simp only [toPy] at ra rb
      generalize p.1 = pv at ra
      generalize q.1 = qv at rb
      cases ra with
      | @tuple l o xs n _ _ a1 a2 a3 a4 =>
        cases rb with
        | @tuple l' o' xs' n' _ _ b1 b2 b3 b4 =>
          have n1 : xs.size = (x :: r).length := by
            have := SeqAt.ReadsAll.length _ _ _ a4
            rw [toPys_length] at this
            simpa using this
          have n2 : xs'.size = (y :: t).length := by
            have := SeqAt.ReadsAll.length _ _ _ b4
            rw [toPys_length] at this
            simpa using this
          refine kat_lt a1 a3 b1 b3 (katLex_d hu (x :: r) (y :: t) 39 39 0 _ _ _ _ fx fy (by decide) hcc a4 b4 (fun hb _ x' r' ex' => ?_) (by rw [n1, n2]) ⟨rfl, by rw [lt_tup]⟩)
          cases ex'
          intro z
          rcases t4 x0 f0 with h4 | h4
          · exact h4 (qk.symm.trans z)
          · rw [h4] at hb; cases hb
theorem cr_srt {X : Cx} (hu : X.A.units + 64 < cLine) : CallR X (.builtin "sorted") (rSrt X.K xa) := by
  intro pins s σ H vs us Q I r h
  obtain ⟨a, xs, ds, F, rfl, hs, fs, hr, srt, q⟩ := h
  obtain ⟨its, rv, hl, hz⟩ := I.list hs
  rw [Vals.ref1 r]
  have hf : ∀ d ∈ ds, D.flat 40 d = true := by
    have z := srt
    unfold sortable at z
    simp only [Bool.and_eq_true] at z
    exact all_of z.1
  obtain ⟨e1, e2⟩ := each_reads I fs hr rv hf
  refine SrtO.sorted_ord (swo_k s.heap) hl.isList (by rw [← rv.length]; exact hz) (fun h2 h1 l ha kk => ?_) fun out g1 g2 => ?_
  · intro h' keep
    refine sort_kind (X := X) (by simp only [Around.in1_units]; omega) h2 e1 (fun u m => ?_) srt
    obtain ⟨x, d, as, _, _, _, rd, ek⟩ := e2 u m
    rw [ek]
    exact ⟨as, PyProof.Rows.Reads.keeps (fun b o e => keep b o (kk b o e).1 (kk b o e).2) rd⟩
  · obtain ⟨ep, he'⟩ := PyProof.Rows.sortedAll_at s.heap its out.toArray
    obtain ⟨ys, v1, v2⟩ := back_reps (K := X.K) (xa := xa) (F := F) (h := s.heap) (us := out) fun u m => by
      obtain ⟨x, d, as, a1, a2, a3, a4, a5⟩ := e2 u (g2.perm.mem_iff.mp m)
      exact ⟨x, a1, by rw [a5]; exact a2⟩
    have es : out.map (kOf s.heap) = sortD ds := by
      refine sortD_of (SrtO.srtd_map g1) ?_
      rw [← e1]
      exact SrtO.Stb.map swo_D _ g2
    rw [es] at v2
    have hlen : ys.length ≤ sizeLine := by
      rw [v1.length, g2.len, ← rv.length]
      exact hz
    refine ⟨.ref _, upd H (s.heap.objs.size + 1) (.lst ys), I.laid (t' := s.toks) (fun _ _ => PyProof.Rows.sortedAll_old) (Nat.le_succ _) ⟨hlen, out, ep, v1, he'⟩, rfl, q _ _ v2 (I.hok.fresh (Nat.le_succ _))⟩
theorem ok_sorted {X : Cx} (hu : X.A.units + 64 < cLine) : ∃ r, CallR X (.builtin "sorted") r ∧ OkF X.K xa r D.sorted := by
  refine ⟨_, cr_srt (xa := xa) hu, fun F H x d fs bx => ?_⟩
  cases d <;> try exact trivial
  rename_i ds
  obtain ⟨a, xs, rfl, ea, ra⟩ := bx.lst_ fs
  simp only [D.sorted]
  split
  · rename_i h
    simp only [Bool.and_eq_true, decide_eq_true_eq] at h
    intro Q q
    exact ⟨a, xs, ds, F, rfl, SqL.of ea, fs, ra, h.1, fun ys p rp n => q F _ (.heap fs n) p n (fs.free n) ⟨ys, upd_same, rp⟩⟩
  · trivial
end
end Tw
set_option autoImplicit false
set_option Elab.async false
set_option linter.all false
set_option maxRecDepth 100000
namespace Tw.MS
open PySem PySem.Spec PyProof.Rows L2
structure Part (ks : List (Addr × List Key)) (i : Nat) (L : List (Addr × List Key)) : Prop where
  sub : ∀ p ∈ L, p ∈ ks.take i
  all : ∀ p ∈ ks.take i, p.2 ∈ ksK L
  len : L.length ≤ i
theorem take_one {α : Type} {l : List α} {i : Nat} {x : α} (h : l[i]? = some x) : l.take (i + 1) = l.take i ++ [x] := by
  rw [List.take_succ, h]; rfl
theorem Part.next {ks L L' : List (Addr × List Key)} {i : Nat} {x : Addr × List Key} (g : Part ks i L) (h : ks[i]? = some x) (c1 : x.2 ∈ ksK L → L' = L) (c2 : x.2 ∉ ksK L → L'.Perm (x :: L)) : Part ks (i + 1) L' := by
  have hx : x ∈ ks.take (i + 1) := by rw [take_one h]; simp
  have old : ∀ p ∈ ks.take i, p ∈ ks.take (i + 1) := fun p m => by rw [take_one h]; exact List.mem_append_left _ m
  by_cases c : x.2 ∈ ksK L
  · rw [c1 c]
    refine ⟨fun p m => old p (g.sub p m), fun p m => ?_, Nat.le_succ_of_le g.len⟩
    rw [take_one h] at m
    rcases List.mem_append.mp m with z | z
    · exact g.all p z
    · rw [List.mem_singleton.mp z]; exact c
  · have pm := c2 c
    refine ⟨fun p m => ?_, fun p m => ?_, by rw [pm.length_eq]; exact Nat.succ_le_succ g.len⟩
    · rcases List.mem_cons.mp (pm.mem_iff.mp m) with e | m
      · rw [e]; exact hx
      · exact old p (g.sub p m)
    · rw [take_one h] at m
      refine (pm.map (·.2)).mem_iff.mpr ?_
      rcases List.mem_append.mp m with z | z
      · exact List.mem_cons_of_mem _ (g.all p z)
      · rw [List.mem_singleton.mp z]; exact List.mem_cons_self
section
variable {P : Program} {w : World} {A : Around} {E : Value → Shared → Prop} {s : Shared}
theorem Tb.keep {h h' : Heap} {a : Addr} {L : List (Addr × List Key)} {es : Array (Int × Value)} {ep : Nat} {t : SetTable} (R : Tb P w h a L es ep t) (ha : ∀ o, h.get? a = some o → h'.get? a = some o) (ht : ∀ p ∈ L, isK P w h' p.2 p.1) : Tb P w h' a L es ep t :=
  let ⟨o, at_, r⟩ := R.ob; ⟨⟨o, ha o at_, r⟩, R.rows, R.tab, R.nd, ht, R.led, R.room, R.few⟩
end
section
variable {X : Cx} {xa : XA} {W : WX} {a : Expr} {fa : E} {p p2 q pos : Pos}
theorem ints_reps {F : Hp} : ∀ l : List Int, Reps X.K xa F (l.map V.int) (l.map D.int)
  | [] => .nil
  | i :: l => .cons (.int i) (ints_reps l)
theorem rf_sortedSet (hc : X.calm = true) (hg : Gl X "sorted") (hm : X.mg "sorted" = none) (hg2 : Gl X "set") (hm2 : X.mg "set" = none) (ha : RB X xa W a fa)
    (na : starEach [a] X.env = (false, eval a X.env) :: starEach [] X.env := by rfl) : RF X xa W (.Call (.Name "sorted" p) [.Call (.Name "set" p2) [a] [] q] [] pos) (e1 D.sortedSet fa) := by
  refine ⟨⟨fun pins s σ H Q I ⟨B, F, env, S, h⟩ => ?_⟩⟩
  refine Call_ (ld_blt I hg hm (u := .builtin "sorted") (by decide +kernel) (PyProof.Rows.callWith_builtin1 (PyProof.Rows.args_cons (?_) rfl) rfl rfl))
  have h1 := (Post.bind (r := fa env) h).imp fun d F1 H1 _ x1 q1 v1 (b1 : Bor X.K xa F1 H1 v1 d) => show (∃ F1 d, Kp xa.tb H H1 ∧ Same F1 H1 ∧ Bor X.K xa F1 H1 v1 d ∧ Post xa W σ F1 H1 (D.sortedSet d) fun d' F' H' => ∀ a, H a = none → F' a = none → OwnAt X.K xa F' H' a d' → Q (.ref a) H') from ⟨F1, d, x1.h, x1.le, b1, q1⟩
  refine Call_ (ld_blt I hg2 hm2 PyProof.Rows.boot_set (PyProof.Rows.callWith_type1 (PyProof.Rows.args_cons (thn (ha.pe.run pins s σ H _ I ⟨B, F, env, S, h1⟩) fun v s1 ⟨x, H1, I1, r1, q1⟩ => PyProof.Rows.args_nil ?_) na) na rfl))
  obtain ⟨F1, d, hh, fs, b1, q1⟩ := q1
  cases d <;> try exact q1.elim
  rename_i ds
  obtain ⟨l, xs, rfl, el, rs⟩ := b1.lst_ fs
  simp only [D.sortedSet] at q1
  cases e1 : ints? ds with
  | none => rw [e1] at q1; exact q1.elim
  | some is =>
    rw [e1] at q1
    simp only at q1
    split at q1
    · rename_i few
      have l1 := ints_vals rs e1
      cases r1
      obtain ⟨its, rv, pl, hz⟩ := I1.list (SqL.of el)
      rw [l1] at rv
      refine set_ints is (I1.ok.hd hc) pl.isList (by simpa using intsAre_of rv) (by unfold scanBound; omega) fun h' tk c R le keep => ?_
      refine PyProof.Rows.args_nil ?_
      have I2 : Inv X pins σ H1 { s1 with heap := h', toks := tk } := I1.kept fun b o e => keep b o e
      refine sorted_set R (I2.ok.hd hc) (by omega) fun z p out c ns kp g o hp hg hi hs hm hl => ?_
      have en : ns = setI is := pw_uniq hs (setI_pw is) fun x => by rw [hm x, mem_setI, decide_eq_true_eq]
      have hlen : (ns.map V.int).length ≤ sizeLine := by rw [List.length_map, hl, sizeLine_eq]; omega
      have hn : H1 p = none := I2.hok.fresh hp
      have J : Inv X pins σ (upd H1 p (.lst (ns.map V.int))) { ({ s1 with heap := h', toks := tk } : Shared) with heap := z.heap, gens := z.gens, drawn := z.drawn, toks := z.toks } :=
        I2.call (ch := []) (Un.laid kp hp hn) (I2.hok.laid kp hp ⟨hlen, out.toList, c, vals_of_ints hi, hg⟩) (by rw [g]; exact I2.bare) (fun _ z => nomatch z)
      have e : z = { s1 with heap := z.heap, gens := z.gens, drawn := z.drawn, toks := z.toks } := by
        cases z; cases s1; cases o; rfl
      rw [e]
      refine ⟨.ref p, _, J, rfl, q1 F1 _ (.heap fs hn) p (hh.free hn) (fs.free hn) ⟨_, upd_same, ?_⟩⟩
      rw [en]
      exact ints_reps _
    · exact q1.elim
end
end Tw.MS
set_option autoImplicit false
set_option Elab.async false
set_option linter.all false
set_option maxRecDepth 100000
namespace Tw
open PySem L2
section
variable {prog : Program} {w : World} {A : Around} {E : Value → Shared → Prop} {s : Shared}
theorem applied_rev {sl : Addr} {t : Tok} {n : Nat} {Q : Int × Int × Nat → Shared → Prop} (hs : s.heap.IsSliceOf sl .none .none (.int (-1) t)) (h : Q ((n : Int) - 1, -1, n) s) :
    wpAny (model prog w) A (Builtin.Slice.sliceApplied (.ref sl) (pure (n : Int))) Q E s := by
  obtain ⟨os, hos, hcs, hds⟩ := id hs
  unfold Builtin.Slice.sliceApplied Builtin.Slice.sliceFields
  refine wpAny_bind (wpAny_bind (wpAny_field hos hds (x := .none) rfl (wpAny_bind (wpAny_field hos hds (x := .none) rfl (wpAny_bind (wpAny_field hos hds (x := .int (-1) t) rfl (wpAny_pure (?_))))))))
  refine wpAny_bind (PyProof.Rows.slicePart_int (show wpAny _ _ (if ((-1 : Int) == 0) = true then _ else _) _ _ s from (?_)))
  rw [if_neg (by decide)]
  refine wpAny_bind (PyProof.Rows.slicePart_none (wpAny_bind (PyProof.Rows.slicePart_none (wpAny_bind (wpAny_pure (?_))))))
  have e1 : Builtin.Slice.sliceAdjust none none (-1) (n : Int) = ((n : Int) - 1, -1) := rfl
  have e2 : Builtin.Slice.slicePlaces ((n : Int) - 1) (-1) (-1) = n := by
    unfold Builtin.Slice.slicePlaces
    have h1 : ¬ ((-1 : Int) > 0) := by decide
    have h2 : (- (-1 : Int)) = 1 := by decide
    simp only [h1, if_false, h2, Int.ediv_one]
    split <;> omega
  show wpAny _ _ (match Builtin.Slice.sliceAdjust none none (-1) (n : Int) with | (lo, hi) => pure (lo, (-1 : Int), Builtin.Slice.slicePlaces lo hi (-1))) _ _ s
  rw [e1]
  show wpAny _ _ (pure ((n : Int) - 1, (-1 : Int), Builtin.Slice.slicePlaces ((n : Int) - 1) (-1) (-1))) _ _ s
  rw [e2]
  exact wpAny_pure h
theorem pick_rev (xs : Array Value) : ((List.range xs.size).filterMap fun (m : Nat) => xs[(((xs.size : Int) - 1) + (m : Int) * -1).toNat]?).toArray = xs.toList.reverse.toArray := by
  have e : (List.range xs.size).filterMap (fun (m : Nat) => xs[(((xs.size : Int) - 1) + (m : Int) * -1).toNat]?) = ((List.range xs.size).map fun m => xs.size - 1 - m).filterMap fun i => xs[i]? := by
    rw [List.filterMap_map]
    have all : ∀ l : List Nat, (∀ m ∈ l, m < xs.size) → l.filterMap (fun (m : Nat) => xs[(((xs.size : Int) - 1) + (m : Int) * -1).toNat]?) = l.filterMap ((fun i => xs[i]?) ∘ fun m => xs.size - 1 - m) := by
      intro l
      induction l with
      | nil => intro _; rfl
      | cons m l ih =>
        intro h
        have hm := h m List.mem_cons_self
        have e : (((xs.size : Int) - 1) + (m : Int) * -1).toNat = xs.size - 1 - m := by omega
        rw [List.filterMap_cons, List.filterMap_cons, ih fun k hk => h k (List.mem_cons_of_mem _ hk), e]
        rfl
    exact all _ fun m hm => List.mem_range.mp hm
  rw [e, PySem.W.krv_range, List.filterMap_reverse, PySem.W.krv_all]
theorem item_rev {t sl : Addr} {items : Array Value} {k : Tok} {Q : Value → Shared → Prop} (ht : PyProof.Rows.IsTup s.heap t items) (hs : s.heap.IsSliceOf sl .none .none (.int (-1) k)) (hz : items.size ≤ sizeLine)
    (h : Q (.ref s.heap.objs.size) { s with heap := s.heap.push { cls := .type "tuple", data := .seq items.toList.reverse.toArray } }) : wpAny (model prog w) A (getItem (.ref t) (.ref sl)) Q E s := by
  have fits : sizeOk (.seq items.toList.reverse.toArray) := by
    show items.toList.reverse.toArray.size ≤ sizeLine
    simpa using hz
  obtain ⟨os, h1, h2, h3⟩ := id hs
  have ty : s.TypeIs (.ref sl) "slice" := ⟨os, h1, h2⟩
  unfold getItem
  try with_reducible refine wpAny_holding (?_)
  first | refine wpAny_bind (wpAny_pure (?_)) | skip
  refine wpAny_bind (wpAny_sequenceKey ht.typeIs (by decide) (wpAny_bind (wpAny_callSpecial?_slot (name := Str.ofString "__getitem__") ht.typeIs PyProof.Rows.slot_tuple_getitem (wpAny_call_entry PyProof.Rows.slot_tuple_getitem ht.typeIs PyProof.Rows.entry_tuple_getitem (?_) (PyProof.Rows.args_tuple_getitem _ _)))))
  refine (show wpAny _ _ (Builtin.Tuple.tupleItemsOf (.ref t) >>= _) _ _ s from wpAny_bind (PyProof.Rows.tupleItemsOf_ ht (wpAny_bind (wpAny_typeOf ty (?_)))))
  rw [if_pos (by decide)]
  refine wpAny_bind (applied_rev hs (?_))
  have no : ¬ ((((items.size : Int) - 1) == 0 && (-1 : Int) == 1 && items.size == items.size) = true) := by
    intro z
    rw [Bool.and_eq_true, Bool.and_eq_true] at z
    exact absurd z.1.2 (by decide)
  show wpAny _ _ (if (((items.size : Int) - 1) == 0 && (-1 : Int) == 1 && items.size == items.size) = true then _ else _) _ _ s
  rw [if_neg no, pick_rev]
  first
    | exact wpAny_bind (m := Builtin.Tuple.tupleExact _) (wpAny_newObj_type (wpAny_pure ⟨_, rfl, wpAny_pure h⟩) fits)
    | exact wpAny_bind (m := Builtin.Tuple.tupleExact _) (wpAny_newObj_type (wpAny_bind (wpAny_pure (wpAny_pure ⟨_, rfl, wpAny_pure h⟩))) fits)
    | exact wpAny_bind (wpAny_bind (m := Builtin.Tuple.tupleExact _) (wpAny_newObj_type (wpAny_pure (wpAny_pure ⟨_, rfl, wpAny_pure h⟩)) fits))
    | exact wpAny_bind (wpAny_bind (m := Builtin.Tuple.tupleExact _) (wpAny_newObj_type (wpAny_pure ⟨_, rfl, wpAny_pure h⟩) fits))
end
section
variable {X : Cx} {xa : XA} {W : WX} {a : Expr} {fa : E}
theorem re_revT {k : Nat} {p1 p2 p3 pos : Pos} (ha : RB X xa W a fa) : RE X xa W (.Subscript a (.Slice none none (some (.UnaryOp .USub (.Constant (.int 1) k p1) p2)) p3) pos) (e1 D.revT fa) := by
  refine ⟨⟨fun pins s σ H Q I ⟨B, F, env, S, h⟩ => ?_⟩⟩
  have h1 := (Post.bind (r := fa env) h).imp fun d F1 H1 _ x1 q1 v1 (b1 : Bor X.K xa F1 H1 v1 d) => show (∃ F1 d, Same F1 H1 ∧ Bor X.K xa F1 H1 v1 d ∧ Post xa W σ F1 H1 (D.revT d) fun d' F' H' => ∀ v, Rep X.K xa F' v d' → Q v H') from ⟨F1, d, x1.le, b1, q1⟩
  refine PyProof.Rows.Subscript_ (thn (ha.pe.run pins s σ H _ I ⟨B, F, env, S, h1⟩) fun v s1 ⟨x, H1, I1, r1, q1⟩ => ?_)
  obtain ⟨F1, d, fs, b1, q1⟩ := q1
  cases d <;> try exact q1.elim
  rename_i ds
  obtain ⟨l, xs, rfl, el, rs⟩ := b1.tup_
  cases r1
  have step : PO X (some (.UnaryOp .USub (.Constant (.int 1) k p1) p2)) (tPart (tUn (rU fun i => .int (-i)) (tC (.int 1)))) := po_some (pe_un un_neg pe_int)
  refine wpAny_Slice (thn (po_none.run pins s1 σ H1 (fun o H2 => o = none ∧ H2 = H1) I1 ⟨rfl, rfl⟩) fun vl s2 ⟨o1, H2, I2, pl, e1, e2⟩ => thn (po_none.run pins s2 σ H2 (fun o H3 => o = none ∧ H3 = H2) I2 ⟨rfl, rfl⟩) fun vu s3 ⟨o2, H3, I3, pu, e3, e4⟩ => thn (step.run pins s3 σ H3 (fun o H4 => o = some (-1) ∧ H4 = H3) I3 ⟨1, rfl, -1, rfl, rfl, rfl⟩) fun vs s4 ⟨o3, H4, I4, ps, e5, e6⟩ => ?_)
  subst e1 e2 e3 e4 e5 e6
  cases pl; cases pu
  obtain ⟨tk, rfl⟩ : ∃ tk, vs = .int (-1) tk := by cases ps; exact ⟨_, rfl⟩
  have I5 : Inv X pins σ H4 { s4 with heap := s4.heap.push { cls := .type "slice", data := .fields #[.none, .none, .int (-1) tk] } } := I4.kept (t' := s4.toks) fun b ob q => Heap.get?_push_of_some _ q
  obtain ⟨its, r, ht, hz⟩ := I5.tuple (SqT.of (fs _ _ el))
  have hlen := r.length
  show wpAny (model X.prog X.w) X.A (PyProof.Rows.subscriptTail a (.Slice none none (some (.UnaryOp .USub (.Constant (.int 1) k p1) p2)) p3) (.ref l) (.ref s4.heap.objs.size)) (EP X pins σ Q) X.xe { s4 with heap := s4.heap.push { cls := .type "slice", data := .fields #[.none, .none, .int (-1) tk] } }
  refine PyProof.Rows.tail_any (ops := [.ref l, .ref s4.heap.objs.size]) ht.typeIs PyProof.Rows.slot_tuple_getitem.lookup (?_) (by with_unfolding_all rfl)
  refine item_rev ht (Heap.IsSliceOf.new _ .none .none (.int (-1) tk)) (by rw [List.size_toArray]; omega) (?_)
  have n : H4 (s4.heap.push { cls := .type "slice", data := .fields #[.none, .none, .int (-1) tk] }).objs.size = none := I5.hok.fresh (Nat.le_refl _)
  refine ⟨.ref _, _, I5.laid (t' := s4.toks) (o := .tup xs.reverse) (fun b ob q => Heap.get?_push_of_some _ q) (Nat.le_refl _) (?_), rfl, (q1 : Post xa W σ F1 H4 (Res.ok (D.tup ds.reverse)) fun d' F' H' => ∀ v, Rep X.K xa F' v d' → Q v H') _ _ (.grow fs n) _ (.tup upd_same (rs.reverse.on (same_upd (fs.free n))))⟩
  exact ⟨by rw [List.length_reverse]; exact hz, _, r.reverse, ⟨_, Heap.get?_push_size _ rfl, rfl, 0, by simp⟩⟩
theorem re_split {f g h : E} {t : Expr} (ha : RE X xa W t g) (hb : RE X xa W t h) (s : ∀ env, f env = g env ∨ f env = h env) : RE X xa W t f := ⟨⟨fun pins sh σ H Q I ⟨B, F, env, S, q⟩ => by
  rcases s env with e | e
  · exact ha.pe.run pins sh σ H Q I ⟨B, F, env, S, by rw [← e]; exact q⟩
  · exact hb.pe.run pins sh σ H Q I ⟨B, F, env, S, by rw [← e]; exact q⟩⟩⟩
theorem re_rv {k : Nat} {p1 p2 p3 pos : Pos} (ha : RB X xa W a fa) : RE X xa W (.Subscript a (.Slice none none (some (.UnaryOp .USub (.Constant (.int 1) k p1) p2)) p3) pos) (e1 D.rev fa) :=
  re_split (re_rev ha) (re_revT ha) fun env => by
    unfold e1
    cases fa env with
    | ok d => cases d <;> first | exact .inl rfl | exact .inr rfl
    | err c => exact .inl rfl
    | stk => exact .inl rfl
end
end Tw
set_option autoImplicit false
set_option Elab.async false
set_option linter.all false
set_option maxRecDepth 100000
namespace Tw
open PySem L2 LamX
section
variable {X : Cx} {xa : XA} {pins : List (Addr × Obj)} {σ : L2.St} {H : Hp} {s : Shared} {c P : Addr} {params : Arguments} {body : Expr} {scope : Scope} {pos : Pos} {E : Value → Shared → Prop} {Q : Value → Shared → Prop}
end
end Tw
set_option autoImplicit false
set_option Elab.async false
set_option linter.all false
set_option maxRecDepth 100000
namespace Tw
open PySem PySem.W PyProof.Rows
section
variable {prog : Program} {w : World} {A : Around} {E : Value → Shared → Prop} {s : Shared}
end
end Tw
set_option autoImplicit false
set_option Elab.async false
set_option linter.all false
set_option maxRecDepth 100000
namespace Tw
open PySem L2 PySem.W LamX
theorem Ext.kp {T : List (Addr × Str)} {F H H' : Hp} (fs : Same F H) (nt : NT F) (k : Kp T H H') : Ext T F H F H' := ⟨.refl _, k, nt.ke fs k.k, fun _ _ e => .inl e, id⟩
theorem Reps.mem {K : PySem.W.Frag} {xa : XA} {F : Hp} {β : Type} : ∀ {us : List Value} {ds : List D} {xs : List V}, Reps K xa F xs ds → Vals xs us → EachIs (fun u d => ∃ x, RelV x u ∧ Rep K xa F x d) us ds
  | _, _, _, .nil, .nil => .nil
  | _, _, _, .cons r t, .cons q p => .cons ⟨_, q, r⟩ (Reps.mem (β := β) t p)
section
variable {X : Cx} {xa : XA} {W : WX} {a : Expr} {fa : E} {c P : Addr} {params : Arguments} {scope : Scope} {y : Str} {p p1 p2 p3 lpos kpos pos : Pos} {j : Nat}
end
end Tw
set_option autoImplicit false
set_option Elab.async false
set_option linter.all false
set_option maxRecDepth 100000
namespace Tw
open PySem L2 PySem.W LamX
section
variable {X : Cx} {xa : XA} {W : WX} {a : Expr} {fa : E} {c P : Addr} {params : Arguments} {scope : Scope} {y : Str} {p p1 p2 p3 lpos kpos pos : Pos} {j : Nat}
end
end Tw
set_option autoImplicit false
set_option Elab.async false
set_option linter.all false
set_option maxRecDepth 100000
namespace Tw
open PySem L2
theorem keys_ints {K : PySem.W.Frag} {xa : XA} {F : Hp} : ∀ {kvs : List (Key × V)} {ds : List (Ky × D)}, RepK K xa F kvs ds → ((ds.map fun kv => kv.1.toD).all fun x => x.kind == 2) = true → ∃ ks : List Int, kvs.map (·.1) = ks.map Sum.inl ∧ (ds.map fun kv => kv.1.toD) = ks.map D.int
  | _, _, .nil, _ => ⟨[], rfl, rfl⟩
  | _, _, .cons (q := q) e _ t, h => by
    simp only [List.map_cons, List.all_cons, Bool.and_eq_true] at h
    obtain ⟨ks, h1, h2⟩ := keys_ints t h.2
    cases q with
    | int i => cases e; exact ⟨i :: ks, by simp [h1], by rw [List.map_cons, h2]; rfl⟩
    | str s => cases h.1
    | tup ks => cases h.1
theorem keys_strs {K : PySem.W.Frag} {xa : XA} {F : Hp} : ∀ {kvs : List (Key × V)} {ds : List (Ky × D)}, RepK K xa F kvs ds → ((ds.map fun kv => kv.1.toD).all fun x => x.kind == 3) = true → ∃ ks : List Nm, kvs.map (·.1) = (ks.map fun s => (⟨s.toArray⟩ : Str)).map Sum.inr ∧ (ds.map fun kv => kv.1.toD) = ks.map D.str
  | _, _, .nil, _ => ⟨[], rfl, rfl⟩
  | _, _, .cons (q := q) e _ t, h => by
    simp only [List.map_cons, List.all_cons, Bool.and_eq_true] at h
    obtain ⟨ks, h1, h2⟩ := keys_strs t h.2
    cases q with
    | int i => cases h.1
    | str s => cases e; exact ⟨s :: ks, by simp [h1], by rw [List.map_cons, h2]; rfl⟩
    | tup ks => cases h.1
theorem sortD_ints {l m : List Int} (p : m.Perm l) (o : m.Pairwise (· ≤ ·)) : sortD (l.map D.int) = m.map D.int := by
  have e := List.map_mergeSort (r := fun a b : Int => decide (a ≤ b)) (s := D.le) (f := D.int) (l := l) fun a _ b _ => by
    unfold D.le; rw [lt_int]; simp only [decide_not.symm, Int.not_lt]
  unfold sortD
  rw [← e]
  congr 1
  refine List.Perm.eq_of_pairwise (le := fun a b : Int => a ≤ b) (fun a b _ _ h1 h2 => Int.le_antisymm h1 h2) ?_ o ((List.mergeSort_perm _ _).trans p.symm)
  have := List.pairwise_mergeSort (le := fun a b : Int => decide (a ≤ b)) (fun a b c h g => by simp at *; omega) (fun a b => by simp; omega) l
  exact this.imp fun h => by simpa using h
theorem lt_cps (s t : Nm) : D.lt (.str s) (.str t) = PySem.Spec.ltCps s t := by
  rw [lt_str]
  induction s generalizing t with
  | nil => cases t <;> rfl
  | cons a r ih =>
    cases t with
    | nil => rfl
    | cons b u =>
      unfold lexNat PySem.Spec.ltCps
      rw [ih u]
      by_cases h : a = b
      · subst h; simp
      · simp [h]
theorem rising_pw : ∀ (xs : List Str) (p : Str), PyProof.Rows.risingS p xs = true → (p :: xs).Pairwise fun a b => D.le (.str a.cps.toList) (.str b.cps.toList) = true
  | [], p, _ => by simp
  | x :: r, p, h => by
    unfold PyProof.Rows.risingS at h
    simp only [Bool.and_eq_true] at h
    have ih := rising_pw r x h.2
    have px : D.le (.str p.cps.toList) (.str x.cps.toList) = true := by unfold D.le; rw [lt_cps]; exact h.1
    refine List.pairwise_cons.mpr ⟨fun y hy => ?_, ih⟩
    rcases List.mem_cons.mp hy with rfl | hy
    · exact px
    · exact le_trans _ _ _ px ((List.pairwise_cons.mp ih).1 y hy)
theorem strD_anti {a b : Nm} (h1 : D.le (.str a) (.str b) = true) (h2 : D.le (.str b) (.str a) = true) : a = b := by
  unfold D.le at h1 h2
  simp only [Bool.not_eq_true'] at h1 h2
  unfold D.lt at h1 h2
  have e := lexI_eq _ _ h2 h1
  simp only [D.toks, List.cons.injEq, true_and] at e
  refine Classical.byContradiction fun q => ?_
  have := (strT_dif a b q).ne [] []
  simp only [List.append_nil] at this
  exact this e
theorem sortD_strs {l : List Nm} {ys : List Str} (p : ys.Perm (l.map fun s => (⟨s.toArray⟩ : Str))) (o : PyProof.Rows.sortedS ys = true) : sortD (l.map D.str) = ys.map fun y => D.str y.cps.toList := by
  have e := List.map_mergeSort (r := fun a b : Nm => D.le (.str a) (.str b)) (s := D.le) (f := D.str) (l := l) fun a _ b _ => rfl
  unfold sortD
  rw [← e]
  have e2 : (ys.map fun y => D.str y.cps.toList) = (ys.map fun y => y.cps.toList).map D.str := by rw [List.map_map]; rfl
  rw [e2]
  congr 1
  have pw : (ys.map fun y => y.cps.toList).Pairwise fun a b => D.le (.str a) (.str b) = true := by
    rw [List.pairwise_map]
    cases ys with
    | nil => simp
    | cons y ys => exact rising_pw ys y o
  have pp : (ys.map fun y => y.cps.toList).Perm l := by
    have := p.map fun y : Str => y.cps.toList
    rw [List.map_map] at this
    have e3 : (l.map ((fun y : Str => y.cps.toList) ∘ fun s : Nm => (⟨s.toArray⟩ : Str))) = l := by
      conv => rhs; rw [← List.map_id l]
      refine List.map_congr_left fun s _ => ?_
      simp
    rwa [e3] at this
  refine List.Perm.eq_of_pairwise (le := fun a b : Nm => D.le (.str a) (.str b) = true) (fun a b _ _ h1 h2 => strD_anti h1 h2) ?_ pw ((List.mergeSort_perm _ _).trans pp.symm)
  exact List.pairwise_mergeSort (le := fun a b : Nm => D.le (.str a) (.str b)) (fun a b c h g => le_trans (.str a) (.str b) (.str c) h g) (fun a b => le_total (.str a) (.str b)) _
theorem reps_strs {K : PySem.W.Frag} {xa : XA} {F : Hp} : ∀ ys : List Str, Reps K xa F (ys.map V.str) (ys.map fun y => D.str y.cps.toList)
  | [] => .nil
  | y :: ys => .cons (rep_str y rfl) (reps_strs ys)
theorem ok_sortedD {X : Cx} {xa : XA} (hc : X.calm = true) : ∃ r, CallR X (.builtin "sorted") r ∧ OkF X.K xa r D.sortedD := by
  refine ⟨fun vs H Q => (∃ (a : Addr) (kvs : List (Key × V)) (ks : List Str), vs = [.ref a] ∧ Rd H a (.dK kvs) ∧ kvs.map (·.1) = ks.map Sum.inr ∧ ks.length < 64 ∧ ∀ ys p, ys.Perm ks → PyProof.Rows.sortedS ys = true → H p = none → Q (.ref p) (upd H p (.lst (ys.map V.str)))) ∨
      (∃ (a : Addr) (kvs : List (Key × V)) (ks : List Int), vs = [.ref a] ∧ Rd H a (.dK kvs) ∧ kvs.map (·.1) = ks.map Sum.inl ∧ ks.length < 64 ∧ ∀ (ys : List Int) (p : Addr), ys.Perm ks → ys.Pairwise (· ≤ ·) → H p = none → Q (.ref p) (upd H p (.lst (ys.map V.int)))), fun pins s σ H vs us Q I rv h => ?_, fun F H x d fs bx => ?_⟩
  · rcases h with h | h
    · exact call_sortedD hc pins s σ H vs us Q I rv h
    · exact call_sortedDI hc pins s σ H vs us Q I rv h
  · cases d with
    | dct t ds =>
      cases t with
      | true => exact trivial
      | false =>
        obtain ⟨a, kvs, rfl, ha, r⟩ := bx.dK_ fs
        unfold D.sortedD
        simp only
        split
        · rename_i hl
          unfold D.sorted
          simp only
          split
          · rename_i h
            simp only [Bool.and_eq_true, decide_eq_true_eq] at h
            have srt := h.1
            unfold sortable at srt
            simp only [Bool.and_eq_true, Bool.or_eq_true] at srt
            have ln := repK_len r
            rcases srt.2 with (hk | hk) | ⟨hk, _⟩
            · obtain ⟨ks, k1, k2⟩ := keys_ints r hk
              intro Q q
              refine .inr ⟨a, kvs, ks, rfl, ha, k1, by have := congrArg List.length k1; simp at this; omega, fun ys p pm o n => ?_⟩
              rw [k2, sortD_ints pm o] at q
              exact q F _ (.heap fs n) p n (fs.free n) ⟨_, upd_same, MS.ints_reps _⟩
            · obtain ⟨ks, k1, k2⟩ := keys_strs r hk
              intro Q q
              refine .inl ⟨a, kvs, _, rfl, ha, k1, by have := congrArg List.length k1; simp at this ⊢; omega, fun ys p pm o n => ?_⟩
              rw [k2, sortD_strs pm o] at q
              exact q F _ (.heap fs n) p n (fs.free n) ⟨_, upd_same, reps_strs _⟩
            · -- keys are no tuples
              cases ds with
              | nil =>
                cases r
                intro Q q
                refine .inr ⟨a, [], [], rfl, ha, rfl, by decide, fun ys p pm o n => ?_⟩
                rw [show ys = [] from pm.eq_nil]
                exact q F _ (.heap fs n) p n (fs.free n) ⟨[], upd_same, by rw [show sortD (List.map (fun kv : Ky × D => kv.1.toD) []) = [] from by simp [sortD]]; exact .nil⟩
              | cons kv ds =>
                obtain ⟨q, v⟩ := kv
                cases r with
                | cons e _ _ =>
                  simp only [List.map_cons, List.all_cons, Bool.and_eq_true] at hk
                  have := hk.1.1
                  cases q <;> first | (simp [D.hd, Ky.toD] at this; done) | cases e
          · trivial
        · trivial
    | _ => exact trivial
end Tw
set_option autoImplicit false
set_option Elab.async false
set_option linter.all false
set_option maxRecDepth 100000
namespace Tw
open PySem L2
section
variable {K : PySem.W.Frag} {xa : XA} {F : Hp}
theorem zipL_len (ds es : List D) : (zipL ds es).length = min ds.length es.length := by unfold zipL; simp
theorem zipL_at {ds es : List D} {i : Nat} {x y : D} (h : ds[i]? = some x) (g : es[i]? = some y) : (zipL ds es)[i]? = some (.tup [x, y]) := by
  unfold zipL; rw [List.getElem?_zipWith, h, g]
theorem yld_pair {F1 H : Hp} {T : Addr} {x y : V} {d e : D} (fs : Same F1 H) (n : H T = none) (r1 : Rep K xa F1 x d) (r2 : Rep K xa F1 y e) : Ext xa.tb F1 H (upd F1 T (.tup [x, y])) (upd H T (.tup [x, y])) ∧ Rep K xa (upd F1 T (.tup [x, y])) (.ref T) (.tup [d, e]) :=
  ⟨.grow fs n, .tup upd_same (.cons (r1.on (same_upd (fs.free n))) (.cons (r2.on (same_upd (fs.free n))) .nil))⟩
theorem walk_zipL {S : Hp} {a b : Addr} {xs ys : List V} {ds es : List D} (h1 : SqL K S a xs) (h2 : SqL K S b ys) (r1 : Reps K xa F xs ds) (r2 : Reps K xa F ys es) : Walk K xa S F (zipL ds es) (Itz K a b) where
  go := fun i H s l => by
    rw [zipL_len] at l
    exact ⟨xs, ys, xs[i]'(by rw [r1.length]; omega), ys[i]'(by rw [r2.length]; omega), s.seq h1, s.seq h2, List.getElem?_eq_getElem _, List.getElem?_eq_getElem _⟩
  stop := fun i H s l => by
    rw [zipL_len] at l
    exact ⟨xs, ys, s.seq h1, s.seq h2, by rw [r1.length, r2.length]; omega⟩
  yld := fun i H x H' F1 s f fh l y => by
    obtain ⟨T, u, v, rfl, n, rfl, e1, e2⟩ := y
    obtain ⟨d, hd, rd⟩ := r1.got (e1 xs (s.seq h1))
    obtain ⟨e, he, re⟩ := r2.got (e2 ys (s.seq h2))
    obtain ⟨x1, x2⟩ := yld_pair fh n (rd.on f) (re.on f)
    exact ⟨_, _, x1, zipL_at hd he, x2⟩
theorem walk_zipT {S : Hp} {a b : Addr} {xs ys : List V} {ds es : List D} (h1 : S a = some (.tup xs)) (h2 : S b = some (.tup ys)) (r1 : Reps K xa F xs ds) (r2 : Reps K xa F ys es) : Walk K xa S F (zipL ds es) (RZ.ItzT K a b) where
  go := fun i H s l => by
    rw [zipL_len] at l
    exact ⟨xs, ys, xs[i]'(by rw [r1.length]; omega), ys[i]'(by rw [r2.length]; omega), SqT.of (s _ _ rfl h1), SqT.of (s _ _ rfl h2), List.getElem?_eq_getElem _, List.getElem?_eq_getElem _⟩
  stop := fun i H s l => by
    rw [zipL_len] at l
    exact ⟨xs, ys, SqT.of (s _ _ rfl h1), SqT.of (s _ _ rfl h2), by rw [r1.length, r2.length]; omega⟩
  yld := fun i H x H' F1 s f fh l y => by
    obtain ⟨T, u, v, rfl, n, rfl, e1, e2⟩ := y
    obtain ⟨d, hd, rd⟩ := r1.got (e1 xs (SqT.of (s _ _ rfl h1)))
    obtain ⟨e, he, re⟩ := r2.got (e2 ys (SqT.of (s _ _ rfl h2)))
    obtain ⟨x1, x2⟩ := yld_pair fh n (rd.on f) (re.on f)
    exact ⟨_, _, x1, zipL_at hd he, x2⟩
end
section
variable {X : Cx} {xa : XA} {W : WX} {a b : Expr} {fa fb : E} {elts : List Expr} {kk : Nat} {tpos p pos : Pos}
theorem ri_zip (hg : Gl X "zip") (hm : X.mg "zip" = none) (ha : RE X xa W a fa) (hb : RE X xa W b fb) (hs : starEach [a, b] X.env = (false, eval a X.env) :: starEach [b] X.env := by rfl) (hs2 : starEach [b] X.env = (false, eval b X.env) :: starEach [] X.env := by rfl) (hpl : (backTo pos (starEach [b] X.env)).any (·.1) = false := by rfl) :
    RI X xa W false (.Tuple elts kk tpos) (.Call (.Name "zip" p) [a, b] [] pos) (iZip2 fa fb) := ⟨piW (RZ.pi_zipA hg hm (pa_cons ha.pe (pa_cons hb.pe pa_nil hs2) hs) hs hpl) fun σ H R ⟨B, F, env, S, q⟩ =>
  ⟨B, F, env, S, (Post.bind (r := fa env) q).imp fun d F1 H1 _ x1 q1 v1 r1 => ⟨B, F1, env, S.ext x1, (Post.bind (r := fb env) q1).imp fun e F2 H2 _ x2 q2 v2 r2 => by
    have r1' := r1.on x2.f
    cases d with
    | lst ds =>
      cases e with
      | lst es =>
        cases r1' with
        | lst e1 m1 =>
          cases r2 with
          | lst e2 m2 => exact ⟨_, _, _, _, rfl, .inl ⟨SqL.of (x2.le _ _ e1), SqL.of (x2.le _ _ e2), (q2 : Post xa W σ F2 H2 (Res.ok (zipL ds es)) _) F2 H2 (.refl x2.le) _ (walk_zipL (SqL.of e1) (SqL.of e2) m1 m2)⟩⟩
      | _ => exact q2.elim
    | tup ds =>
      cases e with
      | tup es =>
        cases r1' with
        | tup e1 m1 =>
          cases r2 with
          | tup e2 m2 => exact ⟨_, _, _, _, rfl, .inr ⟨SqT.of (x2.le _ _ e1), SqT.of (x2.le _ _ e2), (q2 : Post xa W σ F2 H2 (Res.ok (zipL ds es)) _) F2 H2 (.refl x2.le) _ (walk_zipT e1 e2 m1 m2)⟩⟩
      | _ => exact q2.elim
    | _ => exact q2.elim⟩⟩⟩
theorem maxI_spec : ∀ (l : List Int) (a : Int), (maxI a l = a ∨ maxI a l ∈ l) ∧ a ≤ maxI a l ∧ ∀ y ∈ l, y ≤ maxI a l
  | [], a => ⟨.inl rfl, Int.le_refl _, by simp⟩
  | b :: l, a => by
    obtain ⟨h1, h2, h3⟩ := maxI_spec l (if a < b then b else a)
    have e : maxI a (b :: l) = maxI (if a < b then b else a) l := rfl
    rw [e]
    by_cases h : a < b
    · simp only [h, if_true] at h1 h2 h3 ⊢
      exact ⟨.inr (by rcases h1 with h1 | h1; · rw [h1]; simp
                      · exact List.mem_cons_of_mem _ h1), by omega, fun y hy => by rcases List.mem_cons.mp hy with rfl | hy; exact h2; exact h3 y hy⟩
    · simp only [h, if_false] at h1 h2 h3 ⊢
      exact ⟨by rcases h1 with h1 | h1; exact .inl h1; exact .inr (List.mem_cons_of_mem _ h1), h2, fun y hy => by rcases List.mem_cons.mp hy with rfl | hy; omega; exact h3 y hy⟩
theorem ok_maxL (hc : X.calm = true) : ∃ r, CallR X (.builtin "max") r ∧ OkC X.K xa r D.maxL := by
  refine ⟨_, cr_max hc, fun F H x d fs bx => ?_⟩
  cases d with
  | lst ds =>
    obtain ⟨l, xs, rfl, el, rs⟩ := bx.lst_ fs
    unfold D.maxL
    simp only
    cases e : ints? ds with
    | none => exact trivial
    | some is =>
      cases is with
      | nil => exact trivial
      | cons a r =>
        simp only
        refine ans_val fs (fun _ => .int _) fun Q q => ?_
        have ev := ints_vals rs e
        refine ⟨l, a :: r, rfl, by rw [← ev]; exact SqL.of el, by simp, fun m hm hle => ?_⟩
        obtain ⟨h1, h2, h3⟩ := maxI_spec r a
        have : m = maxI a r := by
          have g1 : m ≤ maxI a r := by rcases List.mem_cons.mp hm with rfl | hm; exact h2; exact h3 m hm
          have g2 : maxI a r ≤ m := hle _ (by rcases h1 with h1 | h1; · rw [h1]; simp
                                              · exact List.mem_cons_of_mem _ h1)
          omega
        rw [this]; exact q
  | _ => exact trivial
end
end Tw
set_option autoImplicit false
set_option linter.all false
namespace Tw
def D.toInt : D → Res D
  | .bl b => .ok (.int (if b then 1 else 0))
  | _ => .stk
end Tw
set_option autoImplicit false
set_option Elab.async false
set_option linter.all false
set_option maxRecDepth 100000
namespace Tw
open PySem L2 PySem.W
section
variable {X : Cx} {xa : XA} {W : WX} {fr : Bool} {a b k : Expr} {fa fb fk : E} {x l : Str} {p p1 p2 p3 kpos pos : Pos} {j n : Nat}
theorem Walk.to {K : PySem.W.Frag} {S S' F : Hp} {ds : List D} {J : It} (h : Ke S S') (w : Walk K xa S F ds J) : Walk K xa S' F ds J :=
  ⟨fun i H k => w.go i H (h.trans k), fun i H k => w.stop i H (h.trans k), fun i H x H' F1 k => w.yld i H x H' F1 (h.trans k)⟩
theorem RI.lent {tg e : Expr} {it : I} (h : RI X xa W false tg e it) : RI X xa W true tg e it := ⟨piW h.pi fun σ H R ⟨B, F, env, S, q⟩ =>
  ⟨B, F, env, S, Post.imp (r := it env) q fun ds F1 H1 _ x1 q1 J wk => q1 J (Walk.to (.of x1.le) wk)⟩⟩
theorem ok_toInt : ∃ r, CallR X (.type "int") r ∧ OkC X.K xa r D.toInt := by
  refine ⟨_, call_int1, fun F H x d fs bx => ?_⟩
  cases d with
  | bl b => exact ans_val fs (fun _ => .int _) fun Q q => .inr ⟨b, by rw [bx.bl_], q⟩
  | _ => exact trivial
end
end Tw
set_option autoImplicit false
set_option Elab.async false
set_option linter.all false
set_option maxRecDepth 100000
namespace Tw
open PySem L2 PySem.Spec PyProof.Rows
section
variable {K : PySem.W.Frag} {xa : XA} {F : Hp}
end
section
variable {X : Cx} {xa : XA} {W : WX} {a b : Expr} {fa fb : E} {elts : List Expr} {kk : Nat} {tpos p pos : Pos}
end
end Tw
set_option autoImplicit false
set_option Elab.async false
set_option linter.all false
set_option maxRecDepth 100000
namespace Tw
open PySem L2
section
variable {prog : Program} {w : World} {A : Around} {E : Value → Shared → Prop} {s : Shared}
end
section
variable {X : Cx} {xa : XA} {W : WX} {a : Expr} {fa : E}
end
section
variable {X : Cx} {xa : XA} {W : WX} {fr : Bool} {a b : Expr} {fa fb : E} {x y : Str} {pos : Pos}
end
section
variable {X : Cx} {xa : XA} {W : WX} {fr : Bool} {a b c : Expr} {fa fb fc : E} {x y z : Str} {pos : Pos}
end
section
variable {X : Cx} {xa : XA} {W : WX} {fr : Bool} {a b : Expr} {fa fb : E} {x y : Str} {pos : Pos}
end
end Tw
set_option autoImplicit false
set_option Elab.async false
set_option linter.all false
set_option maxRecDepth 100000
namespace Tw
open PySem L2 PySem.Spec PyProof.Rows
structure RoomQ (k : Nat) (A : Around) : Prop where
  dp : A.depth + 3 * k + 5 < recursionLimit
  un : A.units + 16 * k + 200 < cLine
theorem RoomQ.deeper {k : Nat} {A : Around} (r : RoomQ (k + 1) A) (env : PySem.Env) : RoomQ k (A.deeper env) :=
  ⟨by have := r.dp; show A.depth + 1 + 3 * k + 5 < _; omega, by have := r.un; show A.units + 3 + 16 * k + 200 < _; omega⟩
theorem RoomQ.depth {k : Nat} {A : Around} (r : RoomQ k A) : A.depth < recursionLimit := by have := r.dp; omega
theorem RoomQ.units {k : Nat} {A : Around} (r : RoomQ k A) : A.units + 64 < cLine := by have := r.un; omega
structure FnQ (P : Program) (w : World) (K : PySem.W.Frag) (mg : Str → Option Value) (base : Heap) (CX : CXT) (k : Nat) (f : Addr) (fd : FuncData) (ps : List Str) (sp : Sp) : Prop where
  len : ∀ vs H Q E, sp vs H Q E → vs.length = ps.length
  run : ∀ (A : Around) (outer : List PySem.Env) (s : Shared) (H : Hp) (args : PySem.Args) (us : List Value) (vs : List V) (Q : VK) (E : XK), RoomQ k A → Env0 P w K mg base A outer s H → BindsTo s fd args (ps.zip us) → Vals vs us → sp vs H Q E →
    codeAny (model P w) A (.call (.ref f) args) (CR CX outer P w H s Q E) s
structure DfQ (P : Program) (w : World) (K : PySem.W.Frag) (mg : Str → Option Value) (base : Heap) (xa : XA) (k : Nat) (x : Str) (ms : List Bool) (m : List D → Res D) : Prop where
  ex : ∃ (f : Addr) (fd : FuncData) (ps : List Str), FnQ P w K mg base (L2.CX P w) k f fd ps (spD K xa ms false m) ∧ mg x = some (.ref f) ∧ PySem.W.keepIn K (.ref f) = true ∧ Binds K fd ps []
section
variable {X : Cx} {CX : CXT} {k : Nat} {f C : Addr} {fd : FuncData} {ps : List Str} {sp : Sp} {E : XK} {x m : Str} {q pos apos : Pos} {e o : Expr} {es : List Expr} {ta : TE} {t : TA}
end
end Tw
set_option autoImplicit false
set_option Elab.async false
set_option linter.all false
set_option maxRecDepth 100000
namespace Tw
open PySem L2 PySem.Spec PyProof.Rows LamX
inductive ToldD (P : Program) (w : World) (K : PySem.W.Frag) (mg : Str → Option Value) (base : Heap) (xa : XA) (k : Nat) (x : Str) (ks : List Nat) (cm : List D → Res D) : Prop
  | mk {g : Addr} {fd : FuncData} {st : Stmt} {t : Nat} {cs : List Nat} {a e cn te : Str} {p1 p2 p3 p4 p5 p6 p7 p8 p9 p10 : Pos} (Fu : Fun K x x st g fd) (hm : mg x = some (.ref g)) (hk : PySem.W.keepIn K (.ref g) = true) (hb : Binds K fd [a] []) (sc : FnScope [a, e] [a] (defScope st))
    (body : defBody st = [.Try [.Return (some (.Call (.Name a p1) [] [] p2)) p3] [.ExceptHandler (some (.Name te p4)) (some e) [.Return (some (.Call (.Name cn p5) [.Name e p6] [] p7)) p8] p9] [] [] p10])
    (T : ExcT K mg xa ks cs te t) (sub : ∀ c ∈ ks, c ∈ cs) (Dc : DfQ P w K mg base xa k cn [true] cm) (gt : (defScope st).names.lookup te = some .globalImplicit) (gc : (defScope st).names.lookup cn = some .globalImplicit) (la : (defScope st).names.lookup a = some .local) (le : (defScope st).names.lookup e = some .local)
    (da : (a == ("__debug__" : Str)) = false) (ca : (a == ("__classdict__" : Str)) = false) (de : (e == ("__debug__" : Str)) = false) (ce : (e == ("__classdict__" : Str)) = false) (dt : (te == ("__debug__" : Str)) = false) (dc : (cn == ("__debug__" : Str)) = false) : ToldD P w K mg base xa k x ks cm
section
variable {X : Cx} {pins : List (Addr × Obj)} {σ : L2.St} {H : Hp} {s : Shared}
end
section
variable {X : Cx} {xa : XA} {W : WX} {c P : Addr} {params : Arguments} {body : Expr} {scope : Scope} {fa : E} {x : Str} {ks : List Nat} {cm : List D → Res D} {k m : Nat} {p lpos pos : Pos}
end
end Tw
set_option autoImplicit false
set_option linter.all false
namespace Tw
end Tw
set_option autoImplicit false
set_option Elab.async false
set_option linter.all false
set_option maxRecDepth 100000
namespace Tw
open PySem L2 PySem.W
section
variable {X : Cx} {xa : XA}
end
end Tw
set_option autoImplicit false
set_option linter.all false
namespace Tw
end Tw
set_option autoImplicit false
set_option Elab.async false
set_option linter.all false
set_option maxRecDepth 100000
namespace Tw
open PySem L2 PySem.W
section
variable {X : Cx} {xa : XA} {W : WX} {o e : Expr} {apos cpos : Pos} {td ty : TE} {fa fb : E}
end
end Tw
set_option autoImplicit false
set_option linter.all false
namespace Tw
def putFd (fs : List Fd) (k : Nat) (f : Fd) : List Fd := if k < fs.length then fs.set k f else fs ++ [f]
def obAt (c : Nat) : Option Slot → Option (List Fd)
  | some (.ob _ c' fs) => if c' = c then some fs else none
  | some (.lo c' fs) => if c' = c then some fs else none
  | _ => none
def bFld (i c k : Nat) : E := fun e => match obAt c e[i]? with
  | some fs => (match fs[k]? with
    | some (.sh d) => .ok d
    | some (.own d) => .ok d
    | none => .stk)
  | none => .stk
inductive MR where
  | ok (d : D) (fs : List Fd) | er (k : Nat) (fs : List Fd) | stk
def runR (c : Nat) (ms : List Bool) (n : Nat) (b : S) (fs : List Fd) (ds : List D) : Res D :=
  if ds.length = ms.length then
    match b (.lo c fs :: (initE ms ds ++ List.replicate (n - (ms.length + 1)) .un)) with
    | .nx _ => .ok .non
    | .rt d => .ok d
    | .er k _ => .err k
    | _ => .stk
  else .stk
def eMeth (i c : Nat) (m : List Fd → List D → Res D) (es : List E) : E := fun e => match obAt c e[i]? with
  | some fs => (eL es e).bind (m fs)
  | none => .stk
abbrev OE := Env → Res (List Fd)
inductive RX (α : Type) where
  | ok (a : α) (e : Env) | er (k : Nat) (e : Env) | stk
def RX.bind {α β : Type} : RX α → (α → Env → RX β) → RX β
  | .ok a e, f => f a e
  | .er k e, _ => .er k e
  | .stk, _ => .stk
@[simp] theorem RX.bind_ok {α β : Type} (a : α) (e : Env) (f : α → Env → RX β) : (RX.ok a e).bind f = f a e := (rfl)
@[simp] theorem RX.bind_er {α β : Type} (k : Nat) (e : Env) (f : α → Env → RX β) : (RX.er k e : RX α).bind f = .er k e := (rfl)
@[simp] theorem RX.bind_stk {α β : Type} (f : α → Env → RX β) : (RX.stk : RX α).bind f = .stk := (rfl)
def Res.at {α : Type} : Res α → Env → RX α
  | .ok a, e => .ok a e
  | .err k, e => .er k e
  | .stk, _ => .stk
@[simp] theorem Res.at_ok {α : Type} (a : α) (e : Env) : (Res.ok a).at e = .ok a e := (rfl)
@[simp] theorem Res.at_err {α : Type} (k : Nat) (e : Env) : (Res.err k : Res α).at e = .er k e := (rfl)
@[simp] theorem Res.at_stk {α : Type} (e : Env) : (Res.stk : Res α).at e = .stk := (rfl)
def RX.run {α : Type} : RX α → (α → Env → RS) → RS
  | .ok a e, f => f a e
  | .er k e, _ => .er k e
  | .stk, _ => .stk
@[simp] theorem RX.run_ok {α : Type} (a : α) (e : Env) (f : α → Env → RS) : (RX.ok a e).run f = f a e := (rfl)
@[simp] theorem RX.run_er {α : Type} (k : Nat) (e : Env) (f : α → Env → RS) : (RX.er k e : RX α).run f = .er k e := (rfl)
@[simp] theorem RX.run_stk {α : Type} (f : α → Env → RS) : (RX.stk : RX α).run f = .stk := (rfl)
abbrev XE := Env → RX D
abbrev XT := Env → RX Bool
def MR.put (i c : Nat) (m : Bool) (e : Env) : MR → RX D
  | .ok d fs => .ok d (e.set i (.ob m c fs))
  | .er k fs => .er k (e.set i (.ob m c fs))
  | .stk => .stk
def x2 (f : D → D → Res D) (a b : XE) : XE := fun e => (a e).bind fun x e1 => (b e1).bind fun y e2 => (f x y).at e2
inductive PV where
  | sh (a : E) | own (a : E) | ob (c : Nat) (o : OE)
def PV.go : PV → Env → Res Slot
  | .sh a, e => (a e).bind fun d => .ok (.sh d)
  | .own a, e => (a e).bind fun d => .ok (.own d)
  | .ob c o, e => (o e).bind fun fs => .ok (.ob false c fs)
end Tw
set_option autoImplicit false
set_option Elab.async false
set_option linter.all false
set_option maxRecDepth 100000
namespace Tw
open PySem L2
section
variable {P Q : Fd → V → Prop} {fs : List Fd} {vs : List (Str × V)} {xs : List Str}
theorem Fds.key (r : Fds P fs vs xs) : ∀ {j : Nat} {n : Str} {v : V}, vs[j]? = some (n, v) → xs[j]? = some n := by
  induction r with
  | nil => intro j n v e; simp at e
  | cons p _ ih =>
    intro j n v e
    cases j with
    | zero => simp at e; simp [e.1]
    | succ j => simpa using ih (by simpa using e)
theorem Fds.look (r : Fds P fs vs xs) (nd : xs.Nodup) : ∀ {j : Nat} {n : Str} {v : V}, vs[j]? = some (n, v) → vs.lookup n = some v := by
  induction r with
  | nil => intro j n v e; simp at e
  | @cons f fs x v0 vs xs p r ih =>
    intro j n v e
    rw [List.nodup_cons] at nd
    cases j with
    | zero => simp at e; obtain ⟨rfl, rfl⟩ := e; simp [List.lookup]
    | succ j =>
      have e' : vs[j]? = some (n, v) := by simpa using e
      have ne : n ≠ x := fun z => by
        subst z
        exact nd.1 (List.mem_of_getElem? (r.key e'))
      have hb : (n == x) = false := by simpa using ne
      rw [List.lookup, hb]
      exact ih nd.2 e'
theorem Fds.put (r : Fds P fs vs xs) (nd : xs.Nodup) {k : Nat} {x : Str} {f : Fd} {v : V} (hx : xs[k]? = some x) (hk : k ≤ fs.length) (p : P f v) : Fds P (putFd fs k f) (putF x v vs) xs := by
  induction r generalizing k with
  | @nil zs =>
    simp at hk
    subst hk
    cases zs with
    | nil => simp at hx
    | cons y ys => simp at hx; subst hx; exact .cons p .nil
  | @cons f0 fs x0 v0 vs xs p0 r ih =>
    rw [List.nodup_cons] at nd
    cases k with
    | zero =>
      simp at hx
      subst hx
      have e : putFd (f0 :: fs) 0 f = f :: fs := rfl
      rw [e, putF, if_pos rfl]
      exact .cons p r
    | succ k =>
      have hx' : xs[k]? = some x := by simpa using hx
      have ne : x0 ≠ x := fun z => by
        subst z
        exact nd.1 (List.mem_of_getElem? hx')
      have q := ih nd.2 hx' (by simpa using hk)
      have e : putFd (f0 :: fs) (k + 1) f = f0 :: putFd fs k f := by
        unfold putFd
        simp only [List.length_cons, Nat.add_lt_add_iff_right]
        split <;> simp
      rw [e, putF, if_neg ne]
      exact .cons p0 q
end
section
variable {K : PySem.W.Frag} {xa : XA} {B F F' H H' : Hp} {env : Env} {σ : Sl} {i c k : Nat} {m : Bool} {fs : List Fd} {a : Addr}
end
end Tw
set_option autoImplicit false
set_option Elab.async false
set_option linter.all false
set_option maxRecDepth 100000
namespace Tw
open PySem L2
section
variable {K : PySem.W.Frag} {xa : XA} {W : WX} {fr : Bool} {B F H F' H' : Hp} {env : Env} {σ : Sl}
variable {X : Cx} {a b e : Expr} {fa fb : E} {pos p p2 fpos apos : Pos} {x f : Str} {i c k : Nat}
end
end Tw
set_option autoImplicit false
set_option Elab.async false
set_option linter.all false
set_option maxRecDepth 100000
namespace Tw
open PySem L2
section
variable {K : PySem.W.Frag} {xa : XA} {W : WX} {fr : Bool} {B F H F' H' : Hp} {env : Env} {σ : Sl}
variable {X : Cx} {a b e tg : Expr} {fa fb : E} {pos p p2 fpos apos : Pos} {x f : Str} {i c k : Nat} {g : G} {is : List Nat}
theorem Reps.last {xs : List V} {ds : List D} {d : D} (r : Reps K xa F xs ds) (h : ds.getLast? = some d) : ∃ v, xs[xs.length - 1]? = some v ∧ Rep K xa F v d := by
  rw [List.getLast?_eq_getElem?] at h
  rw [r.length]
  exact r.get h
end
end Tw
set_option autoImplicit false
set_option Elab.async false
set_option linter.all false
set_option maxRecDepth 100000
namespace Tw
open PySem L2
section
variable {K : PySem.W.Frag} {xa : XA} {B F F' H H' : Hp} {env : Env} {σ : Sl} {i c : Nat} {m : Bool} {fs : List Fd} {a : Addr}
theorem Sim.one {s : Slot} {o : Option V} (S : Sim K xa B F env σ H) (h : env[i]? = some s) (ho : σ[i]? = some o) : Sim K xa B F [s] [o] H := by
  refine ⟨rfl, S.hB, S.hF, S.nt, S.tab, fun j t e => ?_, fun j j' k l x s1 s2 e1 e2 p q => ?_⟩
  · cases j with
    | zero => simp at e; subst e; have := S.sl i _ h; rw [ho] at this; exact this
    | succ j => simp at e
  · cases j with
    | zero =>
      cases j' with
      | zero =>
        simp at e1 e2
        subst e1
        subst e2
        exact ⟨rfl, (S.pl i i k l x _ _ h h (by rw [ho]; exact p) (by rw [ho]; exact q)).2⟩
      | succ j => simp at e2
    | succ j => simp at e1
theorem Sim.pad (S : Sim K xa B F env σ H) (n : Nat) : Sim K xa B F (env ++ List.replicate n .un) (σ ++ List.replicate n none) H := by
  have at_ : ∀ {j : Nat} {s : Slot}, (env ++ List.replicate n .un)[j]? = some s → (env[j]? = some s ∧ (σ ++ List.replicate n (none : Option V))[j]? = σ[j]?) ∨ s = .un := fun {j s} e => by
    by_cases hj : j < env.length
    · rw [List.getElem?_append_left hj] at e
      exact .inl ⟨e, List.getElem?_append_left (by rw [← S.len]; exact hj)⟩
    · rw [List.getElem?_append_right (by omega), List.getElem?_replicate] at e
      split at e
      · cases e; exact .inr rfl
      · cases e
  refine ⟨by simp [S.len], S.hB, S.hF, S.nt, S.tab, fun j s e => ?_, fun j j' k l x s t e1 e2 p q => ?_⟩
  · rcases at_ e with ⟨h1, h2⟩ | rfl
    · rw [h2]; exact S.sl j s h1
    · trivial
  · rcases at_ e1 with ⟨h1, h2⟩ | rfl
    · rcases at_ e2 with ⟨h3, h4⟩ | rfl
      · rw [h2] at p
        rw [h4] at q
        exact S.pl j j' k l x s t h1 h3 p q
      · exact q.elim
    · exact p.elim
end
section
variable (K : PySem.W.Frag) (xa : XA) (c : Nat)
end
section
variable {P : Program} {w : World} {K : PySem.W.Frag} {mg : Str → Option Value} {base : Heap} {xa : XA} {x qual : Str} {st : Stmt} {f : Addr} {fd : FuncData} {N ps : List Str} {k c c2 np : Nat} {ms : List Bool} {s : S}
end
section
variable {P : Program} {w : World} {K : PySem.W.Frag} {mg : Str → Option Value} {base : Heap} {xa : XA} {x : Str} {k : Nat} {ms : List Bool} {fr : Bool} {m : List D → Res D}
theorem Df.at (h : Df P w K mg base xa k x ms fr m) (a : Addr) : Df P w K mg base (xa.at a) k x ms fr m := ⟨h.ex⟩
theorem DfQ.at (h : DfQ P w K mg base xa k x ms m) (a : Addr) : DfQ P w K mg base (xa.at a) k x ms m := ⟨h.ex⟩
end
end Tw
set_option autoImplicit false
set_option Elab.async false
set_option linter.all false
set_option maxRecDepth 100000
namespace Tw
open PySem L2
def PostX {α : Type} (K : PySem.W.Frag) (xa : XA) (W : WX) (σ : Sl) (B F : Hp) (r : RX α) (k : α → Env → Hp → Hp → Prop) : Prop := match r with
  | .ok a e => ∀ F' H', Grow B F F' → Sim K xa B F' e σ H' → k a e F' H'
  | .er c e => ∀ F' H', Grow B F F' → Sim K xa B F' e σ H' → W (.ref (xa c)) none σ H'
  | .stk => False
section
variable {α β : Type} {K : PySem.W.Frag} {xa : XA} {W : WX} {σ : Sl} {B F H F1 : Hp} {env e : Env} {r : RX α} {k : α → Env → Hp → Hp → Prop}
theorem PostX.on (p : PostX K xa W σ B F r k) (g : Grow B F F1) : PostX K xa W σ B F1 r k := by
  cases r with
  | ok a e => exact fun F' H' y S => p F' H' (g.trans y) S
  | er c e => exact fun F' H' y S => p F' H' (g.trans y) S
  | stk => exact p
theorem PostX.imp {k' : α → Env → Hp → Hp → Prop} (p : PostX K xa W σ B F r k) (h : ∀ a e F' H', r = .ok a e → Grow B F F' → Sim K xa B F' e σ H' → k a e F' H' → k' a e F' H') : PostX K xa W σ B F r k' := by
  cases r with
  | ok a e => exact fun F' H' y S => h a e F' H' rfl y S (p F' H' y S)
  | er c e => exact p
  | stk => exact p
theorem PostX.bind {f : α → Env → RX β} {k : β → Env → Hp → Hp → Prop} (p : PostX K xa W σ B F (r.bind f) k) : PostX K xa W σ B F r (fun a e F' H' => PostX K xa W σ B F' (f a e) k) := by
  cases r with
  | ok a e => exact fun F' H' y S => PostX.on (r := f a e) p y
  | er c e => exact p
  | stk => exact p
theorem PostX.at {r : Res α} (S : Sim K xa B F e σ H) (p : PostX K xa W σ B F (r.at e) k) : Post xa W σ F H r (fun a F' H' => Sim K xa B F' e σ H' ∧ Grow B F F' ∧ k a e F' H') := by
  cases r with
  | ok a => exact fun F' H' x => ⟨S.ext x, x.grow' S.hB, p F' H' (x.grow' S.hB) (S.ext x)⟩
  | err c => exact fun F' H' x => p F' H' (x.grow' S.hB) (S.ext x)
  | stk => exact p
theorem PostX.run {fr : Bool} {f : α → Env → RS} {D : Ends} (p : PostS K xa W fr B F (r.run f) D) : PostX K xa W σ B F r fun a e F' _ => PostS K xa W fr B F' (f a e) D := by
  cases r with
  | ok a e => exact fun F1 H1 g S => PostS.on (r := f a e) p g
  | er c e => exact fun F1 H1 g S => p F1 σ H1 g S
  | stk => exact p.elim
end
variable (K : PySem.W.Frag) (xa : XA) (W : WX)
def pXT (f : XT) : TT := fun σ H Q => ∃ B F env, Sim K xa B F env σ H ∧ PostX K xa W σ B F (f env) fun b _ _ H' => Q b H'
variable {K xa W}
structure RXT (X : Cx) (xa : XA) (W : WX) (e : Expr) (f : XT) : Prop where
  pt : PT X e (pXT X.K xa W f)
structure RXW (X : Cx) (xa : XA) (W : WX) (e : Expr) (f : XT) : Prop where
  pw : PW X e (pXT X.K xa W f)
section
variable {X : Cx} {a b c e : Expr} {fa fb : E} {ga gb : XE} {ta tb : T} {ha hb : XT} {pos p p2 : Pos} {x : Str} {rest : List Expr}
theorem RXW.t (h : RXW X xa W a ha) : RXT X xa W a ha := ⟨h.pw.pt⟩
variable {fr : Bool} {s1 s2 : S} {i : Nat}
end
end Tw
set_option autoImplicit false
set_option Elab.async false
set_option linter.all false
set_option maxRecDepth 100000
namespace Tw
open PySem L2
section
variable {K : PySem.W.Frag} {xa : XA} {B F F' H H' : Hp} {env : Env} {σ : Sl} {i c : Nat} {m : Bool} {fs fs' : List Fd} {a : Addr}
end
section
variable {X : Cx} {cl : Nat → Addr × List Str} {W : WX} {c i k : Nat} {sp : Sp} {es : List Expr} {e : Expr} {x m f : Str} {p apos pos : Pos}
end
section
variable {X : Cx} {xa : XA} {W : WX} {fr : Bool} {c c2 i k np : Nat} {ms : List Bool} {es : List Expr} {fs : List E} {e ex a : Expr} {x y : Str} {p p2 pos : Pos}
end
end Tw
set_option autoImplicit false
set_option Elab.async false
set_option linter.all false
set_option maxRecDepth 100000
namespace Tw
open PySem L2
section
variable {X : Cx} {xa : XA} {W : WX} {a : Expr} {fa : E} {pos p2 : Pos} {lo hi : Option Expr} {fl fh : Option E}
end
end Tw
set_option autoImplicit false
set_option Elab.async false
set_option linter.all false
set_option maxRecDepth 100000
namespace Tw
open PySem L2
def isNew : Slot → Bool
  | .sh _ => true
  | .own _ => true
  | .ob false _ _ => true
  | _ => false
theorem PV.new {v : PV} {e : Env} {s : Slot} (h : v.go e = .ok s) : isNew s = true := by
  cases v with
  | sh a =>
    have h' : ((a e).bind fun d => Res.ok (Slot.sh d)) = .ok s := h
    cases z : a e <;> rw [z] at h' <;> cases h'; rfl
  | own a =>
    have h' : ((a e).bind fun d => Res.ok (Slot.own d)) = .ok s := h
    cases z : a e <;> rw [z] at h' <;> cases h'; rfl
  | ob c o =>
    have h' : ((o e).bind fun fs => Res.ok (Slot.ob false c fs)) = .ok s := h
    cases z : o e <;> rw [z] at h' <;> cases h'; rfl
section
variable {K : PySem.W.Frag} {xa : XA} {B F F' H H' : Hp} {env : Env} {σ ws : Sl} {ss : List Slot}
theorem Sim.perm {env' : Env} {σ' : Sl} (S : Sim K xa B F env σ H) (φ : Nat → Nat) (inj : ∀ i j, φ i = φ j → i = j) (hl : env'.length = σ'.length) (h : ∀ (j : Nat) (s : Slot), env'[j]? = some s → env[φ j]? = some s ∧ σ'[j]? = σ[φ j]?) : Sim K xa B F env' σ' H :=
  ⟨hl, S.hB, S.hF, S.nt, S.tab, fun j s e => by rw [(h j s e).2]; exact S.sl _ s (h j s e).1, fun i j k l a s t e1 e2 p q => by
    rw [(h i s e1).2] at p
    rw [(h j t e2).2] at q
    obtain ⟨h1, h2⟩ := S.pl _ _ k l a s t (h i s e1).1 (h j t e2).1 p q
    exact ⟨inj i j h1, h2⟩⟩
theorem Sim.move {s : Slot} {o : Option V} (hl : env.length = σ.length) (S : Sim K xa B F (env ++ s :: ss) (σ ++ o :: ws) H) (i : Nat) : Sim K xa B F (env.set i s ++ ss) (σ.set i o ++ ws) H := by
  have hl2 : ss.length = ws.length := by have := S.len; simp at this; omega
  by_cases hi : i < env.length
  · refine S.perm (fun j => if j = i then env.length else if j < env.length then j else j + 1) (fun a b h => ?_) (by simp [hl, hl2]) fun j t e => ?_
    · split at h <;> split at h <;> (try split at h) <;> (try split at h) <;> omega
    · by_cases h1 : j = i
      · subst h1
        rw [List.getElem?_append_left (by simpa using hi), List.getElem?_set_self hi] at e
        rw [if_pos rfl, List.getElem?_append_right (Nat.le_refl _), Nat.sub_self, List.getElem?_append_left (by simpa using hl ▸ hi), List.getElem?_set_self (hl ▸ hi), hl, List.getElem?_append_right (Nat.le_refl _), Nat.sub_self]
        exact ⟨e, rfl⟩
      · rw [if_neg h1]
        by_cases h2 : j < env.length
        · rw [if_pos h2]
          rw [List.getElem?_append_left (by simpa using h2), List.getElem?_set_ne (Ne.symm h1)] at e
          rw [List.getElem?_append_left h2, List.getElem?_append_left (by simpa using hl ▸ h2), List.getElem?_set_ne (Ne.symm h1), List.getElem?_append_left (hl ▸ h2)]
          exact ⟨e, rfl⟩
        · rw [if_neg h2]
          rw [List.getElem?_append_right (by simp; omega), List.length_set] at e
          rw [List.getElem?_append_right (by omega), List.getElem?_append_right (by simp; omega), List.length_set, List.getElem?_append_right (by omega)]
          have e1 : j + 1 - env.length = (j - env.length) + 1 := by omega
          have e2 : j + 1 - σ.length = (j - σ.length) + 1 := by omega
          rw [e1, e2]
          simpa using e
  · rw [List.set_eq_of_length_le (by omega), List.set_eq_of_length_le (by omega)]
    refine S.perm (fun j => if j < env.length then j else j + 1) (fun a b h => ?_) (by simp [hl, hl2]) fun j t e => ?_
    · split at h <;> split at h <;> omega
    · by_cases h2 : j < env.length
      · rw [if_pos h2]
        rw [List.getElem?_append_left h2] at e
        rw [List.getElem?_append_left h2, List.getElem?_append_left (hl ▸ h2), List.getElem?_append_left (hl ▸ h2)]
        exact ⟨e, rfl⟩
      · rw [if_neg h2]
        rw [List.getElem?_append_right (by omega)] at e
        rw [List.getElem?_append_right (by omega), List.getElem?_append_right (by omega), List.getElem?_append_right (by omega)]
        have e1 : j + 1 - env.length = (j - env.length) + 1 := by omega
        have e2 : j + 1 - σ.length = (j - σ.length) + 1 := by omega
        rw [e1, e2]
        simpa using e
end
section
variable {X : Cx} {xa : XA} {W : WX} {fr : Bool} {a b : Expr} {fa fb : E} {es : List Expr} {vs : List PV} {pos p : Pos} {x : Str}
variable {m : Nat} {l : Str} {p2 apos : Pos} {ga gb : XE} {rest : List Expr}
end
end Tw
set_option autoImplicit false
set_option Elab.async false
set_option linter.all false
set_option maxRecDepth 100000
namespace Tw
open PySem L2
section
variable {K : PySem.W.Frag} {xa : XA} {W : WX} {fr : Bool}
variable {X : Cx} {elt tg : Expr} {pos p : Pos} {x fn : Str} {f : E} {g : G} {i c k : Nat}
end
end Tw
set_option autoImplicit false
set_option Elab.async false
set_option linter.all false
set_option maxRecDepth 100000
namespace Tw
open PySem L2
section
variable {P : Program} {w : World} {K : PySem.W.Frag} {mg : Str → Option Value} {base : Heap} {xa : XA} {x qual : Str} {st : Stmt} {f : Addr} {fd : FuncData} {N ps : List Str} {k c : Nat} {ms : List Bool} {s : S}
end
section
variable {X : Cx} {xa : XA} {W : WX} {ex : Expr} {es : List Expr} {fs : List E} {i c : Nat} {ms : List Bool}
end
end Tw
set_option autoImplicit false
set_option linter.all false
namespace Tw
end Tw
set_option autoImplicit false
set_option linter.all false
namespace Tw
def D.isTp : D → Bool
  | .tup _ => true
  | _ => false
def eqK (ks ls : List (Ky × D)) : Bool := decide (ks.length = ls.length) && ks.all fun p => match kget p.1 ls with
  | some d => D.isTp p.2 && D.isTp d && (D.good p.2 && D.good d) && D.eqv p.2 d
  | none => false
def D.neX : D → D → Res D
  | .tup [a, .dct false ks], .tup [b, .dct false ls] => if (D.isTp a && D.isTp b && (D.good a && D.good b) && D.eqv a b) && eqK ks ls then .ok (.bl false) else .stk
  | _, _ => .stk
end Tw
set_option autoImplicit false
set_option linter.all false
namespace Tw
end Tw
set_option autoImplicit false
set_option linter.all false
namespace Tw
end Tw
set_option autoImplicit false
set_option linter.all false
namespace Tw
def splC (c : Nat) : Nm → Nm → List Nm
  | acc, [] => [acc]
  | acc, x :: r => if x = c then acc :: splC c [] r else splC c (acc ++ [x]) r
def D.split (c : Nat) : D → Res D
  | .str a => if a.length ≤ 1000000 then .ok (.lst ((splC c [] a).map .str)) else .stk
  | _ => .stk
end Tw
set_option autoImplicit false
set_option Elab.async false
set_option linter.all false
set_option maxRecDepth 100000
namespace Tw
open PySem L2
section
variable {X : Cx} {xa : XA} {W : WX} {a b : Expr} {fa fb : E} {pos p apos cpos : Pos}
end
end Tw
set_option autoImplicit false
set_option Elab.async false
set_option linter.all false
set_option maxRecDepth 100000
namespace Tw
open PySem L2
section
variable {X : Cx} {xa : XA} {W : WX} {pos p1 p2 : Pos} {j n : Nat} {k : Int}
end
end Tw
set_option autoImplicit false
set_option linter.all false
namespace Tw
end Tw
set_option autoImplicit false
set_option linter.all false
namespace Tw
def sStk : S := fun _ => .stk
inductive DR where
  | ok (d : D) (kvs : List (Ky × D)) | er (c : Nat) | stk
def x1 (f : D → Res D) (a : XE) : XE := fun e => (a e).bind fun x e1 => (f x).at e1
def dispT (ps : List (Nm × Nm)) : D := .dct false (ps.map fun p => (.str p.1, .str p.2))
end Tw
set_option autoImplicit false
set_option Elab.async false
set_option linter.all false
set_option maxRecDepth 100000
namespace Tw
open PySem L2
section
variable {X : Cx} {xa : XA} {W : WX} {a : Expr} {fa : E} {n1 : Nat} {p1 pos : Pos}
end
end Tw
set_option autoImplicit false
set_option Elab.async false
set_option linter.all false
set_option maxRecDepth 100000
namespace Tw
open PySem L2
section
variable {X : Cx} {xa : XA} {W : WX} {a b : Expr} {fa fb : E} {pos p apos cpos : Pos}
theorem rs_stk {fr : Bool} {st : Stmt} : RSt X xa W fr st sStk := ⟨⟨fun _ _ _ _ _ _ ⟨_, _, _, _, q⟩ => q.elim⟩⟩
theorem repK_txt {K : PySem.W.Frag} {F : Hp} : ∀ ps : List (Nm × Nm), RepK K xa F (ps.map fun p => (.inr (SX.S p.1), .str (SX.S p.2))) (ps.map fun p => (Ky.str p.1, D.str p.2))
  | [] => .nil
  | p :: r => .cons rfl (.str p.2) (repK_txt r)
theorem rf_dispT (ps : List (Nm × Nm)) {z1 z2 z3 z4 y1 y2 y3 y4 : Str} {n1 n2 n3 n4 m1 m2 m3 m4 : Nat} {p1 p2 p3 p4 q1 q2 q3 q4 : Pos}
    (h : ps.map (fun p => ((.inr (SX.S p.1) : Key), (V.str (SX.S p.2)))) = [(.inr z1, .str y1), (.inr z2, .str y2), (.inr z3, .str y3), (.inr z4, .str y4)])
    (hm : mergeK [] [(.inr z1, .str y1), (.inr z2, .str y2), (.inr z3, .str y3), (.inr z4, .str y4)] = [(.inr z1, .str y1), (.inr z2, .str y2), (.inr z3, .str y3), (.inr z4, .str y4)] := by with_unfolding_all rfl) :
    RF X xa W (.Dict [some (.Constant (.str z1) n1 p1), some (.Constant (.str z2) n2 p2), some (.Constant (.str z3) n3 p3), some (.Constant (.str z4) n4 p4)] [.Constant (.str y1) m1 q1, .Constant (.str y2) m2 q2, .Constant (.str y3) m3 q3, .Constant (.str y4) m4 q4] pos) (eC (dispT ps)) :=
  ⟨peW (pe_disp (pps_cons pe_str pe_str (pps_cons pe_str pe_str (pps_cons pe_str pe_str (pps_cons pe_str pe_str pps_nil)))) (by rfl) (by rfl) (fun z => by cases z) (by show 4 ≤ 15; decide)) fun σ H Q ⟨B, F, env, S, q⟩ => by
  intro p n
  refine ⟨upd_same, [(.inr z1, .str y1), (.inr z2, .str y2), (.inr z3, .str y3), (.inr z4, .str y4)], rfl, by show 4 ≤ 15; decide, ?_⟩
  rw [hm]
  have e : upd (upd H p (.dK [])) p (.dK [(.inr z1, .str y1), (.inr z2, .str y2), (.inr z3, .str y3), (.inr z4, .str y4)]) = upd H p (.dK [(.inr z1, .str y1), (.inr z2, .str y2), (.inr z3, .str y3), (.inr z4, .str y4)]) := by
    funext b
    by_cases z : b = p
    · subst z; rw [upd_same, upd_same]
    · rw [upd_ne z, upd_ne z, upd_ne z]
  rw [e]
  have x0 : Ext xa.tb F H F (upd H p (.dK [(.inr z1, .str y1), (.inr z2, .str y2), (.inr z3, .str y3), (.inr z4, .str y4)])) := .heap S.hF n
  exact (q : ∀ F' H', _ → _) F _ x0 p n (S.hF.free n) ⟨_, upd_same, by rw [← h]; exact repK_txt ps⟩⟩
example : RF X xa W (.Dict [some (.Constant (.str "make") 0 p), some (.Constant (.str "write") 0 p), some (.Constant (.str "move") 0 p), some (.Constant (.str "drop") 0 p)] [.Constant (.str "nnwf") 0 p, .Constant (.str "ns") 0 p, .Constant (.str "nnw") 0 p, .Constant (.str "n") 0 p] pos)
   (eC (dispT [([109, 97, 107, 101], [110, 110, 119, 102]), ([119, 114, 105, 116, 101], [110, 115]), ([109, 111, 118, 101], [110, 110, 119]), ([100, 114, 111, 112], [110])])) := rf_dispT _ (by rfl)
end
end Tw
set_option autoImplicit false
set_option Elab.async false
set_option linter.all false
set_option maxRecDepth 100000
namespace Tw
open PySem L2
section
variable {K : PySem.W.Frag} {xa : XA} {W : WX} {B B1 F F1 F2 H H2 : Hp} {env e2 : Env} {σ σ2 : Sl} {i c o : Nat} {gs : List Fd} {b : Addr}
theorem Sim.place (S : Sim K xa B F env σ H) (o : Nat) (ok : SlotOk K xa B F H (.ob false c gs) (some (some (.ref b)))) (ap : ∀ (j k l : Nat) (x : Addr) (s : Slot), env[j]? = some s → PlS H k x s σ[j]? → ¬ PlS H l x (.ob false c gs) (some (some (.ref b))))
    (inj : ∀ (k l : Nat) (x : Addr), PlS H k x (.ob false c gs) (some (some (.ref b))) → PlS H l x (.ob false c gs) (some (some (.ref b))) → k = l) : Sim K xa B F (env.set o (.ob false c gs)) (σ.set o (some (.ref b))) H :=
  S.put o _ _ S.hB S.hF S.nt S.tab (.refl _) (fun j k a s _ e p => ⟨(p.there (S.sl j s e)).1, rfl⟩) (fun _ => ok) (fun j k l x s _ e p => ap j k l x s e p) inj
theorem Sim.more (S : Sim K xa B F env σ H) (hs : Same B B1) (k : ∀ x u, B1 x = some u → B x = some u ∨ (H x = some u ∧ isTbl u = false)) (own : ∀ (j k : Nat) (x : Addr) (s : Slot), env[j]? = some s → PlS H k x s σ[j]? → B1 x = none) : Sim K xa B1 F env σ H := by
  refine S.frameU ⟨fun x u t e => ?_, fun x u e t => ?_, fun _ => S.tab⟩ S.hF S.nt S.tab (.of (.refl _)) (.of hs) fun j k x s e p => ⟨(p.there (S.sl j s e)).1, own j k x s e p, rfl⟩
  · rcases k x u e with z | ⟨z, _⟩
    · exact S.hB.k x u t z
    · exact z
  · rcases k x u e with z | ⟨_, z⟩
    · exact S.hB.tb x u z t
    · rw [z] at t; cases t
section
variable {K : PySem.W.Frag} {xa : XA} {W : WX} {B F0 H0 : Hp} {env0 : Env} {σ0 : Sl} {i1 i2 o a c1 c2 : Nat} {fs1 fs2 : List Fd} {a1 a2 q1 q2 L : Addr} {n1 n2 : Int} {s : S} {D D2 : Ends}
end
section
variable {X : Cx} {xa : XA} {W : WX} {x1 x2 px xo xn : Str} {test : Expr} {t : T} {body : List Stmt} {b : S} {n m : Int} {r1 r2 r3 r4 r5 r6 r7 r8 r9 p1 p2 p3 p4 p5 p6 p7 p8 p9 p10 p11 p12 p13 p14 p15 p16 p17 p18 : Pos} {k1 k2 k3 k4 k5 k6 k7 : Nat} {i j p o a : Nat}
end
end
end Tw
set_option autoImplicit false
set_option Elab.async false
set_option linter.all false
set_option maxRecDepth 100000
namespace Tw
open PySem L2
section
variable {K : PySem.W.Frag} {xa : XA} {B F F' H H' : Hp} {env : Env} {σ : Sl} {i : Nat} {d d' dv : D} {a : Addr} {v : V}
end
def At1 (a : Addr) (σ : Sl) : Prop := σ[1]? = some (some (.ref a))
def PostP (K : PySem.W.Frag) (xa : XA) (W : WX) (a : Addr) (B F : Hp) (r : RS) (D : Ends) : Prop := match r with
  | .nx e => ∀ F' σ' H', Grow B F F' → Sim K xa B F' e σ' H' → At1 a σ' → D.nx σ' H'
  | .rm d e => ∀ F' σ' H' v, Grow B F F' → Sim K xa B F' e σ' H' → At1 a σ' → Rep K xa F' v d → D.rt v H'
  | .er c e => ∀ F' σ' H', Grow B F F' → Sim K xa B F' e σ' H' → At1 a σ' → W (.ref (xa c)) none σ' H'
  | _ => False
section
variable {K : PySem.W.Frag} {xa : XA} {W : WX} {B F F' H H' : Hp} {env : Env} {σ : Sl} {A : Addr}
theorem PostP.on {r : RS} {D : Ends} (p : PostP K xa W A B F r D) (g : Grow B F F') : PostP K xa W A B F' r D := by
  cases r with
  | nx e => exact fun F1 σ1 H1 g1 s => p F1 σ1 H1 (g.trans g1) s
  | rm d e => exact fun F1 σ1 H1 v g1 s r => p F1 σ1 H1 v (g.trans g1) s r
  | er c e => exact fun F1 σ1 H1 g1 s => p F1 σ1 H1 (g.trans g1) s
  | _ => exact p
theorem PostP.run {α : Type} {r : Res α} {k : α → RS} {D : Ends} (S : Sim K xa B F env σ H) (h : At1 A σ) (p : PostP K xa W A B F (r.run env k) D) : Post xa W σ F H r fun a F' _ => PostP K xa W A B F' (k a) D := by
  cases r with
  | ok a => exact fun F1 H1 x => PostP.on (r := k a) p (x.grow' S.hB)
  | err c => exact fun F1 H1 x => p F1 σ H1 (x.grow' S.hB) (S.ext x) h
  | stk => exact p.elim
end
section
variable {X : Cx} {xa : XA} {W : WX} {A : Addr} {st : Stmt} {rest : List Stmt} {s1 s2 : S} {a b c : Expr} {fa fb : E} {ga : XE} {t : T} {tx : XT} {pos p p2 : Pos} {x : Str}
theorem At1.set {σ : Sl} {i : Nat} {o : Option V} (h : At1 A σ) (n : i ≠ 1) : At1 A (σ.set i o) := by
  unfold At1
  rw [List.getElem?_set_ne n]
  exact h
end
theorem Sim.bare {K : PySem.W.Frag} {xa : XA} {B F H : Hp} {env : Env} {σ : Sl} (S : Sim K xa B F env σ H) : Sim K xa B F [] [] H :=
  ⟨rfl, S.hB, S.hF, S.nt, S.tab, fun i s e => by simp at e, fun i j k l a s t e => by simp at e⟩
section
variable {P : Program} {w : World} {K : PySem.W.Frag} {mg : Str → Option Value} {base : Heap} {xa : XA} {x qual : Str} {st : Stmt} {f : Addr} {fd : FuncData} {N ps : List Str} {k : Nat} {s : S}
end
end Tw
set_option autoImplicit false
set_option Elab.async false
set_option linter.all false
set_option maxRecDepth 100000
namespace Tw
open PySem L2
section
variable {K : PySem.W.Frag} {xa : XA} {B F F' H H' : Hp} {env : Env} {σ : Sl}
theorem Sim.init {s : Slot} {o : Option V} (S : Sim K xa B F (env ++ [s]) (σ ++ [o]) H) : Sim K xa B F env σ H := by
  have hl : env.length = σ.length := by have := S.len; simpa using this
  have at_ : ∀ {i : Nat} {t : Slot}, env[i]? = some t → (env ++ [s])[i]? = some t ∧ (σ ++ [o])[i]? = σ[i]? := fun {i t} e => by
    have hi : i < env.length := (List.getElem?_eq_some_iff.mp e).1
    exact ⟨by rw [List.getElem?_append_left hi]; exact e, List.getElem?_append_left (by omega)⟩
  refine ⟨hl, S.hB, S.hF, S.nt, S.tab, fun i t e => ?_, fun i j k l a t u e1 e2 p q => ?_⟩
  · have := S.sl i t (at_ e).1
    rwa [(at_ e).2] at this
  · exact S.pl i j k l a t u (at_ e1).1 (at_ e2).1 (by rw [(at_ e1).2]; exact p) (by rw [(at_ e2).2]; exact q)
theorem Sim.snoc (S : Sim K xa B F env σ H) {L : Addr} (n : H L = none) : Sim K xa B F (env ++ [.own (.lst [])]) (σ ++ [some (.ref L)]) (upd H L (.lst [])) := by
  have z := (S.pad 1).new (xa := xa) (Ext.heap (o := .lst []) S.hF n) n (S.hF.free n) (d := .lst []) ⟨[], upd_same, .nil⟩ env.length
  have e1 : (env ++ List.replicate 1 Slot.un).set env.length (.own (.lst [])) = env ++ [.own (.lst [])] := by simp [List.set_append]
  have e2 : (σ ++ List.replicate 1 (none : Option V)).set env.length (some (.ref L)) = σ ++ [some (.ref L)] := by rw [S.len]; simp [List.set_append]
  rw [e1, e2] at z
  exact z
end
section
variable {X : Cx} {xa : XA} {W : WX} {f x n : Str} {it : I} {iter : Expr} {scope : Scope} {p pf px pn pos pos2 : Pos} {k : Nat} {m : D → List (Ky × D) → DR}
end
end Tw
set_option autoImplicit false
set_option Elab.async false
set_option linter.all false
set_option maxRecDepth 100000
namespace Tw
open PySem L2
end Tw
set_option autoImplicit false
set_option Elab.async false
set_option linter.all false
set_option maxRecDepth 100000
namespace Tw
open PySem L2
section
variable {X : Cx} {pins : List (Addr × Obj)} {σ : L2.St} {H3 : Hp} {s3 : Shared} {scope : Scope} {ce : PySem.Env} {fp : List Addr} {W : WX} {Qf : Value → Shared → Prop} {D : Value}
end
end Tw
set_option autoImplicit false
set_option Elab.async false
set_option linter.all false
set_option maxRecDepth 100000
namespace Tw
open PySem L2
section
variable {X : Cx}
end
end Tw
set_option autoImplicit false
set_option Elab.async false
set_option linter.all false
set_option maxRecDepth 100000
set_option maxHeartbeats 2000000
namespace TwHot
open PySem PySem.Spec PyProof.Rows HotX L2 Tw
def HotX (X : Cx) (x1 : Addr) : Prop := ∀ (pins : List (Addr × Obj)) (σ : L2.St) (H : Hp) (s : Shared), Inv X pins σ H s → HotAt X.A x1 s.heap ∧ H x1 = none ∧ x1 ∉ frs X.stack
theorem hot_of {X : Cx} (c : L2H.HotC X) : ∃ x1, HotX X x1 := by
  obtain ⟨p, ⟨hh, v1, e1, c1⟩, hp⟩ := c
  refine ⟨p.1, fun pins σ H s I => ?_⟩
  obtain ⟨z1, z2, z3, z4, z5⟩ := I.pin p (List.mem_append_left _ hp)
  exact ⟨⟨hh, p.2, v1, z1, e1, c1⟩, z2, fun hm => (List.mem_cons.mp (I.stkSub _ hm)).elim z3 z4⟩
theorem HotX.lt {X : Cx} {x1 : Addr} (h : HotX X x1) {pins : List (Addr × Obj)} {σ : L2.St} {H : Hp} {s : Shared} (I : Inv X pins σ H s) : x1 < s.heap.objs.size := by
  obtain ⟨⟨_, o, _, e, _⟩, _⟩ := h pins σ H s I
  exact Heap.lt_size e
theorem HotX.tr {X : Cx} {x1 : Addr} (h : HotX X x1) {pn : List (Addr × Obj)} {xe : Value → Shared → Prop} (hp : ∀ q ∈ X.pn, q ∈ pn) : HotX (X.tr pn xe) x1 := fun pins σ H s I =>
  h (pn ++ pins) σ H s (by
    refine ⟨I.ok.ofTry, I.os, I.bare, I.base, I.loc, I.cell, I.free, I.freeC, fun p hp' => I.pin p ?_, I.hok, I.len⟩
    rcases List.mem_append.mp hp' with z | z
    · exact List.mem_append_left _ (hp p z)
    · exact z)
theorem HotX.blk {X : Cx} {x1 : Addr} (h : HotX X x1) {pins : List (Addr × Obj)} {σ : L2.St} {H3 : Hp} {s3 : Shared} (I : Inv X pins σ H3 s3) {scope : Scope} {ce : PySem.Env} {fp : List Addr} (nx : x1 ∉ fp) : HotX (X.blk s3 H3 scope ce fp) x1 := fun pins' σ' H' s' I' => by
  obtain ⟨⟨hh, o, vs, e, d, c⟩, hn, hs⟩ := h _ _ _ _ I
  exact ⟨⟨hh, o, vs, I'.base.keep x1 o e hn hs nx, d, c⟩, I'.base.free x1 o e hn nx, hs⟩
structure TurnG (P : Program) (w : World) (K : PySem.W.Frag) (tg : Expr) (J : It) (fp : List Addr) (it : Addr) (tn : Nat → Heap → Prop) (x1 : Addr) : Prop where
  mem : it ∈ fp
  nx : x1 ∉ fp
  obj : ∀ i h, tn i h → ∀ b ∈ fp, ∃ o, h.get? b = some o ∧ ∀ v, o.data ≠ .cell v
  keep : ∀ i h h', tn i h → (∀ b ∈ fp, ∀ o, h.get? b = some o → h'.get? b = some o) → tn i h'
  item : ∀ (X : Cx), X.prog = P → X.w = w → X.K = K → ∀ (i : Nat) (pins : List (Addr × Obj)) (s : Shared) (σ : L2.St) (H : Hp) (E : Value → Shared → Prop), Inv X pins σ H s → (∀ b ∈ fp, FpOk X pins H b) → tn i s.heap → J.go i H →
    wpAny (model P w) X.A (pyNext (.ref it)) (fun r t => ∃ u, r = some u ∧
      wpAny (model P w) X.A (letOwnedTupleGo tg (.ref it) u) (fun _ s2 => ∃ x H', Inv X pins σ H' s2 ∧ RelV x u ∧ J.yld i H x H' ∧ tn (i + 1) s2.heap ∧ ∀ b ∈ fp, H' b = none) E t) E s
  done : ∀ (X : Cx), X.prog = P → X.w = w → X.K = K → ∀ (i : Nat) (pins : List (Addr × Obj)) (s : Shared) (σ : L2.St) (H : Hp) (E : Value → Shared → Prop), HotAt X.A x1 s.heap → Inv X pins σ H s → (∀ b ∈ fp, FpOk X pins H b) → tn i s.heap → J.stop i H →
    wpAny (model P w) X.A (pyNext (.ref it)) (fun r t => r = none ∧ Inv X pins σ H t) E s
  self : ∀ (A : Around) (i : Nat) (s : Shared) (Q : Value → Shared → Prop) (E : Value → Shared → Prop), tn i s.heap → Q (.ref it) s → wpAny (model P w) A (pyIter (.ref it)) Q E s
theorem turn_listG {P : Program} {w : World} {K : PySem.W.Frag} {tg : Expr} {a it x1 : Addr} (ne : x1 ≠ it) : TurnG P w K tg (Itl K a) [it] it (fun i h => h.IsListIter it a i) x1 where
  mem := List.mem_singleton.mpr rfl
  nx := fun z => ne (List.mem_singleton.mp z)
  obj := fun i h st b hb => by
    obtain ⟨o, e, _, d⟩ := st
    exact ⟨o, by rw [List.mem_singleton.mp hb]; exact e, fun v z => by rw [d] at z; cases z⟩
  keep := fun i h h' st k => st.at fun o e => k it (List.mem_singleton.mpr rfl) o e
  item := by
    rintro X rfl rfl rfl i pins s σ H E I hf st ⟨xs, x, hq, hx⟩
    obtain ⟨its, rv, p, _⟩ := I.list hq
    obtain ⟨u, hu, ru⟩ := rv.get hx
    have f := hf it (List.mem_singleton.mpr rfl)
    refine wpAny_pyNext_list_item st p.isList (x := u) (by simpa using hu) fun g st' sb => ?_
    obtain ⟨o, e, c, d⟩ := id st'
    exact ⟨u, rfl, go_of (s := { s with heap := g }) e c d (by decide) ⟨x, H, I.turned (t' := s.toks) (fun b o hb e => (sb.2 b hb).trans e) f.1 f.2.1 f.2.2.2.1 f.2.2.2.2.1 f.2.2.2.2.2, ru, ⟨rfl, fun ys hy => by rw [I.list_inj hy hq]; exact hx⟩, st', fun b hb => (hf b hb).1⟩⟩
  done := by
    rintro X rfl rfl rfl i pins s σ H E hot I hf st ⟨xs, hq, hx⟩
    obtain ⟨its, rv, p, _⟩ := I.list hq
    have f := hf it (List.mem_singleton.mpr rfl)
    have hl := rv.length
    exact next_list_end_hot hot ne st p.isList (by simp; omega) fun g eb => ⟨rfl, I.turned (t' := s.toks) (fun b o hb e => eb b o hb e) f.1 f.2.1 f.2.2.2.1 f.2.2.2.2.1 f.2.2.2.2.2⟩
  self := fun _ _ _ _ _ st h => wpAny_pyIter_listiter st h
theorem turn_tupG {P : Program} {w : World} {K : PySem.W.Frag} {tg : Expr} {a it x1 : Addr} (ne : x1 ≠ it) : TurnG P w K tg (Itt K a) [it] it (fun i h => h.IsTupleIter it a i) x1 where
  mem := List.mem_singleton.mpr rfl
  nx := fun z => ne (List.mem_singleton.mp z)
  obj := fun i h st b hb => by
    obtain ⟨o, e, _, d⟩ := st
    exact ⟨o, by rw [List.mem_singleton.mp hb]; exact e, fun v z => by rw [d] at z; cases z⟩
  keep := fun i h h' st k => st.at fun o e => k it (List.mem_singleton.mpr rfl) o e
  item := by
    rintro X rfl rfl rfl i pins s σ H E I hf st ⟨xs, x, hq, hx⟩
    obtain ⟨its, rv, p, _⟩ := I.tuple hq
    obtain ⟨u, hu, ru⟩ := rv.get hx
    have f := hf it (List.mem_singleton.mpr rfl)
    refine wpAny_pyNext_tuple_item st (show s.heap.IsTuple a its.toArray from p) (x := u) (by simpa using hu) fun g st' sb => ?_
    obtain ⟨o, e, c, d⟩ := id st'
    exact ⟨u, rfl, go_of (s := { s with heap := g }) e c d (by decide) ⟨x, H, I.turned (t' := s.toks) (fun b o hb e => (sb.2 b hb).trans e) f.1 f.2.1 f.2.2.2.1 f.2.2.2.2.1 f.2.2.2.2.2, ru, ⟨rfl, fun ys hy => by rw [I.tuple_inj hy hq]; exact hx⟩, st', fun b hb => (hf b hb).1⟩⟩
  done := by
    rintro X rfl rfl rfl i pins s σ H E hot I hf st ⟨xs, hq, hx⟩
    obtain ⟨its, rv, p, _⟩ := I.tuple hq
    have f := hf it (List.mem_singleton.mpr rfl)
    have hl := rv.length
    exact next_tuple_end_hot hot ne st (show s.heap.IsTuple a its.toArray from p) (by simp; omega) fun g eb => ⟨rfl, I.turned (t' := s.toks) (fun b o hb e => eb b o hb e) f.1 f.2.1 f.2.2.2.1 f.2.2.2.2.1 f.2.2.2.2.2⟩
  self := fun _ _ _ _ _ st h => wpAny_pyIter_tupleiter st h
def PIEG (X : Cx) (x1 : Addr) (pins : List (Addr × Obj)) (σ : L2.St) (tg : Expr) (R : It → Hp → Prop) (itv : Value) (s2 : Shared) : Prop :=
  ∃ (it : Addr) (fp : List Addr) (tn : Nat → Heap → Prop) (J : It) (H' : Hp), itv = .ref it ∧ Inv X pins σ H' s2 ∧ TurnG X.prog X.w X.K tg J fp it tn x1 ∧ tn 0 s2.heap ∧ (∀ b ∈ fp, FpOk X pins H' b) ∧ R J H'
structure PIG (X : Cx) (x1 : Addr) (tg iter : Expr) (wi : TI) : Prop where
  run : ∀ (pins : List (Addr × Obj)) (s : Shared) (σ : L2.St) (H : Hp) (R : It → Hp → Prop), Inv X pins σ H s → wi σ H R →
    wpAny (model X.prog X.w) X.A (eval iter X.env) (fun v s1 => wpAny (model X.prog X.w) X.A (pyIter v) (PIEG X x1 pins σ tg R) X.xe s1) X.xe s
section
variable {X : Cx} {x1 : Addr} {tg : Expr}
theorem pig_w {e : Expr} {t t' : TI} (p : PIG X x1 tg e t) (h : ∀ σ H R, t' σ H R → t σ H R) : PIG X x1 tg e t' := ⟨fun pins s σ H R I q => p.run pins s σ H R I (h σ H R q)⟩
theorem pig_or {e : Expr} {t t' : TI} (p : PIG X x1 tg e t) (p' : PIG X x1 tg e t') : PIG X x1 tg e (fun σ H R => t σ H R ∨ t' σ H R) := ⟨fun pins s σ H R I q => q.elim (p.run pins s σ H R I) (p'.run pins s σ H R I)⟩
theorem pig_list {l : Expr} {tl : TE} (hot : HotX X x1) (hl : PE X l tl) : PIG X x1 tg l (iList X.K tl) := by
  refine ⟨fun pins s σ H R I h => thn (hl.run pins s σ H _ I h) fun v s1 ⟨x, H1, I1, r1, a, e, ⟨xs, hq⟩, q⟩ => ?_⟩
  subst e
  cases r1
  obtain ⟨its, rv, p, _⟩ := I1.list hq
  refine wpAny_pyIter_list p.isList ⟨s1.heap.objs.size, [s1.heap.objs.size], _, _, H1, rfl, I1.kept (t' := s1.toks) fun b o e => Heap.get?_push_of_some _ e, turn_listG (a := a) (Nat.ne_of_lt (hot.lt I1)), ⟨_, Heap.get?_push_size _ rfl, rfl, rfl⟩, fun b hb => ?_, q⟩
  rw [List.mem_singleton.mp hb]
  exact I1.fpOk (Nat.le_refl _) (I1.hok.fresh (Nat.le_refl _))
theorem pig_tup {l : Expr} {tl : TE} (hot : HotX X x1) (hl : PE X l tl) : PIG X x1 tg l (iTup X.K tl) := by
  refine ⟨fun pins s σ H R I h => thn (hl.run pins s σ H _ I h) fun v s1 ⟨x, H1, I1, r1, a, e, ⟨xs, hq⟩, q⟩ => ?_⟩
  subst e
  cases r1
  obtain ⟨its, rv, p, _⟩ := I1.tuple hq
  refine wpAny_pyIter_tuple (show s1.heap.IsTuple a its.toArray from p) ⟨s1.heap.objs.size, [s1.heap.objs.size], _, _, H1, rfl, I1.kept (t' := s1.toks) fun b o e => Heap.get?_push_of_some _ e, turn_tupG (a := a) (Nat.ne_of_lt (hot.lt I1)), ⟨_, Heap.get?_push_size _ rfl, rfl, rfl⟩, fun b hb => ?_, q⟩
  rw [List.mem_singleton.mp hb]
  exact I1.fpOk (Nat.le_refl _) (I1.hok.fresh (Nat.le_refl _))
theorem lc_coreH {pins : List (Addr × Obj)} {s0 : Shared} {σ : L2.St} {H0 : Hp} {Q : VK} {elt tg iter : Expr} {ifs : List Expr} {scope : Scope} {own : List (Str × Nat)} {pos pos' : Pos} {wi : TI} {g : TG} {tt : TT} {te : TE} {use : Option (Value → Sem Unit)} {Qf : Value → Shared → Prop} (hot : HotX X x1)
    (hN : X.N.Nodup) (I : Inv X pins σ H0 s0) (hi : PIG X x1 tg iter wi) (ok : BlkOk X.N X.env.scope scope own)
    (pgs : ∀ (t : Shared) (G : Hp) (C : Addr) (cl : List (Str × Addr)) (fp : List Addr), HotX (X.blk t G scope (compEnvC scope cl C X.env) fp) x1 → PG (X.blk t G scope (compEnvC scope cl C X.env) fp) tg g) (pts : ∀ (t : Shared) (G : Hp) (C : Addr) (cl : List (Str × Addr)) (fp : List Addr), HotX (X.blk t G scope (compEnvC scope cl C X.env) fp) x1 → PTs (X.blk t G scope (compEnvC scope cl C X.env) fp) ifs tt)
    (pes : ∀ (t : Shared) (G : Hp) (C : Addr) (cl : List (Str × Addr)) (fp : List Addr), HotX (X.blk t G scope (compEnvC scope cl C X.env) fp) x1 → PE (X.blk t G scope (compEnvC scope cl C X.env) fp) elt te)
    (hs : ∀ x, foldedSetIterable iter X.env x = pure x) (want : tLc wi g tt te (own.map (·.2)) σ H0 Q)
    (hRR : ∀ (D C : Addr) (t : Shared) (m : Str → Option Value) (G : Hp), Inv X pins σ G t → Q (.ref D) G → t.heap.Ns C m → FpOk X pins G C → compPost (model X.prog X.w) X.A X.xe use Qf (.ref D) C (.ok .next) t) :
    wpAny (model X.prog X.w) X.A (comprehension (.ListComp elt [⟨tg, iter, ifs, 0⟩] scope pos) scope X.env pos' (newList []) false (eval iter X.env) use) Qf X.xe s0 := by
  have cells : ∀ y ∈ scope.names, y.2 = .free → ∃ c, X.env.cells.lookup y.1 = some c := fun y hy e => (ok.free y hy e).elim (fun z => I.ok.has _ (.inl z)) fun z => I.ok.has _ (.inr z)
  refine wpAny_comprehension_free (use := use) rfl hs (closure_ok cells) ok.kind (fun y hy e => by rw [ok.uniq y hy, e]) (thn (hi.run pins s0 σ H0 _ I want) fun xv s1 hx => thn hx fun itv s2 h2 => ?_)
  obtain ⟨it, fp, tn, J, H2, rfl, I2, T, st2, f2, q⟩ := h2
  refine wpAny_newObj_type (newEnv_comp ?_) (by show 0 ≤ sizeLine; decide)
  have fresh : H2 s2.heap.objs.size = none := I2.hok.fresh (Nat.le_refl _)
  obtain ⟨Wl, ⟨m0, w0⟩, turn⟩ := q _ fresh
  generalize hD : s2.heap.objs.size = D at fresh w0 turn ⊢
  generalize hs3 : ({ s2 with heap := s2.heap.push { cls := .type "list", data := .seq ([] : List Value).toArray } } : Shared) = s3
  have q3 : s3.heap = s2.heap.push { cls := .type "list", data := .seq ([] : List Value).toArray } := by rw [← hs3]
  have I3 : Inv X pins σ (upd H2 D (.lst [])) s3 := by
    rw [← hs3]
    refine I2.laid (t' := s2.toks) (fun b o z => Heap.get?_push_of_some _ z) (Nat.le_of_eq hD) ⟨Nat.zero_le _, [], 0, .nil, ?_⟩
    rw [← hD]
    exact Heap.get?_push_size _ rfl
  have lt2 : ∀ b ∈ fp, b < s2.heap.objs.size := fun b hb => let ⟨o, z, _⟩ := T.obj _ _ st2 b hb; Heap.lt_size z
  have f3 : ∀ b ∈ fp, FpOk X pins (upd H2 D (.lst [])) b ∧ b < s3.heap.objs.size := fun b hb => by
    have l2 := lt2 b hb
    refine ⟨⟨?_, (f2 b hb).2⟩, by rw [q3, Heap.size_push]; exact Nat.lt_succ_of_lt l2⟩
    rw [upd_ne (fun z => by rw [z, ← hD] at l2; exact Nat.lt_irrefl _ l2)]
    exact (f2 b hb).1
  have st3 : tn 0 s3.heap := T.keep _ _ _ st2 fun b _ o z => by rw [q3]; exact Heap.get?_push_of_some _ z
  have I4 := block_start I3 ok hN f3
  have pg := pgs s3 (upd H2 D (.lst [])) s3.heap.objs.size (cellsFrom (s3.heap.objs.size + 1) scope.names (cloFrom X.env.cells scope.names [])) fp (hot.blk I3 T.nx)
  have pt := pts s3 (upd H2 D (.lst [])) s3.heap.objs.size (cellsFrom (s3.heap.objs.size + 1) scope.names (cloFrom X.env.cells scope.names [])) fp (hot.blk I3 T.nx)
  have pe := pes s3 (upd H2 D (.lst [])) s3.heap.objs.size (cellsFrom (s3.heap.objs.size + 1) scope.names (cloFrom X.env.cells scope.names [])) fp (hot.blk I3 T.nx)
  show codeAny _ _ (.compStart (.ListComp elt [⟨tg, iter, ifs, 0⟩] scope pos) 0 (.ref it) (.ref D) (compEnvC scope (cellsFrom (s3.heap.objs.size + 1) scope.names (cloFrom X.env.cells scope.names [])) s3.heap.objs.size X.env)) (compPost (model X.prog X.w) X.A X.xe use Qf (.ref D) s3.heap.objs.size) { s3 with heap := pushCells (s3.heap.push { cls := .type "dict", data := .dict #[] }) scope.names }
  have nfp : ∀ b ∈ fp, (upd H2 D (.lst [])) b = none := fun b hb => (f3 b hb).1.1
  generalize hce : compEnvC scope (cellsFrom (s3.heap.objs.size + 1) scope.names (cloFrom X.env.cells scope.names [])) s3.heap.objs.size X.env = ce at I4 pg pt pe ⊢
  have cL : ce.locals = s3.heap.objs.size := by subst hce; rfl
  generalize hH3 : upd H2 D (.lst []) = H3 at I3 I4 pg pt pe w0 nfp f3
  generalize hs4 : ({ s3 with heap := pushCells (s3.heap.push { cls := .type "dict", data := .dict #[] }) scope.names } : Shared) = s4 at I4 ⊢
  have st4 : tn 0 s4.heap := T.keep _ _ _ st3 fun b _ o z => by rw [← hs4]; exact pushCells_keeps _ _ _ _ (Heap.get?_push_of_some _ z)
  have stat : ∀ {σ' : L2.St} {G : Hp} {t : Shared}, Inv (X.blk s3 H3 scope ce fp) [] σ' G t → (∀ b ∈ fp, G b = none) → ∀ b ∈ fp, FpOk (X.blk s3 H3 scope ce fp) [] G b := fun {σ' G t} Ib hn b hb =>
    ⟨hn b hb, (Ib.ok.exf b hb).1, Ib.ok.exfs b hb, .inl hb, fun x c z => (Ib.ok.exf b hb).2 x c z, fun p hp => absurd (show p ∈ ([] : List (Addr × Obj)) ++ [] from hp) (by simp)⟩
  have loop : codeAny (model X.prog X.w) X.A (.compLoop (.ListComp elt [⟨tg, iter, ifs, 0⟩] scope pos) 0 (.ref it) (.ref D) ce) (compPost (model X.prog X.w) X.A X.xe use Qf (.ref D) s3.heap.objs.size) s4 := by
    refine compLoop_any (fun n t => ∃ i G, Inv (X.blk s3 H3 scope ce fp) [] (wipe σ (own.map (·.2))) G t ∧ tn i t.heap ∧ (∀ b ∈ fp, G b = none) ∧ Wl i n G) ?_ m0 ⟨0, H3, I4, st4, nfp, w0⟩
    rintro n s5 ⟨i, H5, I5, st5, n5, w5⟩
    rcases turn i n H5 w5 with ⟨stop, qq⟩ | ⟨go, Nx, hNx, step⟩
    · refine thnF (T.done (X.blk s3 H3 scope ce fp) rfl rfl rfl i [] s5 _ H5 (fun _ _ => False) ((hot.blk I3 T.nx) _ _ _ _ I5).1 I5 (stat I5 n5) st5 stop) fun r s6 ⟨hr, I6⟩ => ?_
      subst hr
      have I7 : Inv X pins σ H5 s6 := I3.call' (ch := fp) I6.os I6.base I6.hok I6.bare fun b hb => let z := (f3 b hb).1; ⟨z.2.2.2.1, z.2.1, z.2.2.2.2.1, z.2.2.2.2.2⟩
      have nC : H5 s3.heap.objs.size = none := by
        have z : H5 ce.locals = none := I6.free
        rwa [cL] at z
      obtain ⟨m, hn, _⟩ := I6.loc
      have hn : s6.heap.Ns ce.locals m := hn
      rw [cL] at hn
      exact hRR D _ s6 m H5 I7 qq hn (I3.fpOk (H' := H5) (Nat.le_refl _) nC)
    · refine thnF (T.item (X.blk s3 H3 scope ce fp) rfl rfl rfl i [] s5 _ H5 (fun _ _ => False) I5 (stat I5 n5) st5 go) fun r s6 ⟨u, hr, h6⟩ => ?_
      subst hr
      refine thnF h6 fun _ s7 ⟨x, H7, I7, r7, y7, st7, n7⟩ => ?_
      have P7 := I7.pinned (stat I7 n7) (T.obj _ _ st7)
      refine thnF (pg.run _ s7 _ H7 x u _ P7 r7 (step x H7 y7)) fun _ s8 ⟨σ8, H8, I8, hw8, q8⟩ => ?_
      refine thnF (pt.run _ s8 σ8 H8 _ I8 q8) fun b s9 ⟨H9, I9, q9⟩ => ?_
      have fin : ∀ {t : Shared} {G : Hp}, Inv (X.blk s3 H3 scope ce fp) ([] ++ pinsAt fp s7.heap) σ8 G t → Nx G → ∃ m, m < n ∧ ∃ i G, Inv (X.blk s3 H3 scope ce fp) [] (wipe σ (own.map (·.2))) G t ∧ tn i t.heap ∧ (∀ b ∈ fp, G b = none) ∧ Wl i m G := fun {t G} Ib nx => by
        obtain ⟨m', hm, w'⟩ := hNx G nx
        have pin : ∀ b ∈ fp, ∀ o, s7.heap.get? b = some o → t.heap.get? b = some o ∧ G b = none := fun b hb o z =>
          let y := Ib.pin (b, o) (List.mem_append_right _ (List.mem_append_right _ (mem_pinsAt hb z)))
          ⟨y.1, y.2.1⟩
        have l8 : (wipe σ (own.map (·.2))).length = σ8.length := by rw [← hw8, wipe_length]
        refine ⟨m', hm, i + 1, G, (Ib.unpinned (pins := [])).weak l8 (fun j v z => ?_), T.keep _ _ _ st7 fun b hb o z => (pin b hb o z).1, fun b hb => ?_, w'⟩
        · rw [← hw8] at z
          exact (wipe_some z).1
        · obtain ⟨o, z, _⟩ := T.obj _ _ st7 b hb
          exact (pin b hb o z).2
      cases b with
      | false =>
        simp only [Bool.false_eq_true, if_false] at q9 ⊢
        exact fin I9 q9
      | true =>
        simp only [if_true] at q9 ⊢
        refine thnF (pe.run _ s9 σ8 H9 _ I9 q9) fun z s10 ⟨yv, H10, I10, r10, acc, hD10, hz10, nx⟩ => ?_
        exact app_ok (X := X.blk s3 H3 scope ce fp) I10 hD10 hz10 r10 fun s11 I11 => fin I11 nx
  exact codeAny_compStart_list loop (T.self X.A 0 _ _ _ st4 loop)
theorem pe_lcH {elt tg iter : Expr} {ifs : List Expr} {scope : Scope} {own : List (Str × Nat)} {pos : Pos} {wi : TI} {g : TG} {tt : TT} {te : TE} (hot : HotX X x1)
    (hN : X.N.Nodup) (hi : PIG X x1 tg iter wi) (ok : BlkOk X.N X.env.scope scope own)
    (pgs : ∀ (t : Shared) (G : Hp) (C : Addr) (cl : List (Str × Addr)) (fp : List Addr), HotX (X.blk t G scope (compEnvC scope cl C X.env) fp) x1 → PG (X.blk t G scope (compEnvC scope cl C X.env) fp) tg g) (pts : ∀ (t : Shared) (G : Hp) (C : Addr) (cl : List (Str × Addr)) (fp : List Addr), HotX (X.blk t G scope (compEnvC scope cl C X.env) fp) x1 → PTs (X.blk t G scope (compEnvC scope cl C X.env) fp) ifs tt)
    (pes : ∀ (t : Shared) (G : Hp) (C : Addr) (cl : List (Str × Addr)) (fp : List Addr), HotX (X.blk t G scope (compEnvC scope cl C X.env) fp) x1 → PE (X.blk t G scope (compEnvC scope cl C X.env) fp) elt te)
    (hs : ∀ x, foldedSetIterable iter X.env x = pure x := by intro _; rfl) : PE X (.ListComp elt [⟨tg, iter, ifs, 0⟩] scope pos) (tLc wi g tt te (own.map (·.2))) := by
  refine ⟨fun pins s0 σ H0 Q I want => ?_⟩
  rw [eval_ListComp]
  refine lc_coreH hot hN I hi ok pgs pts pes hs want fun D C t m G I' q hn f => ⟨m, hn, fun g sb => ?_⟩
  exact ⟨.ref D, G, I'.turned (t' := t.toks) (fun b o hb z => (sb.2 b hb).trans z) f.1 f.2.1 f.2.2.2.1 f.2.2.2.2.1 f.2.2.2.2.2, rfl, q⟩
theorem ps_setLcH {i : Nat} {y : Str} {py : Pos} {elt tg iter : Expr} {ifs : List Expr} {scope : Scope} {own : List (Str × Nat)} {pos spos : Pos} {wi : TI} {g : TG} {tt : TT} {te : TE} (hot : HotX X x1)
    (hN : X.N.Nodup) (hy : X.N[i]? = some y) (hyl : X.env.scope.names.lookup y = some .local)
    (hsw : swapsWith (.ListComp elt [⟨tg, iter, ifs, 0⟩] scope pos) (some (.Name y py)) spos.line X.env = pure true) (hi : PIG X x1 tg iter wi) (ok : BlkOk X.N X.env.scope scope own)
    (pgs : ∀ (t : Shared) (G : Hp) (C : Addr) (cl : List (Str × Addr)) (fp : List Addr), HotX (X.blk t G scope (compEnvC scope cl C X.env) fp) x1 → PG (X.blk t G scope (compEnvC scope cl C X.env) fp) tg g) (pts : ∀ (t : Shared) (G : Hp) (C : Addr) (cl : List (Str × Addr)) (fp : List Addr), HotX (X.blk t G scope (compEnvC scope cl C X.env) fp) x1 → PTs (X.blk t G scope (compEnvC scope cl C X.env) fp) ifs tt)
    (pes : ∀ (t : Shared) (G : Hp) (C : Addr) (cl : List (Str × Addr)) (fp : List Addr), HotX (X.blk t G scope (compEnvC scope cl C X.env) fp) x1 → PE (X.blk t G scope (compEnvC scope cl C X.env) fp) elt te)
    (hs : ∀ x, foldedSetIterable iter X.env x = pure x := by intro _; rfl) : PS X (.Assign [.Name y py] (.ListComp elt [⟨tg, iter, ifs, 0⟩] scope pos) spos) (tAsg (tLc wi g tt te (own.map (·.2))) (gName i)) := by
  refine ⟨fun pins s0 σ H0 D I want => ?_⟩
  rw [exec_Assign_Name_used _ _ _ _ hsw]
  refine wpAny_bind (wpAny_standAt (wpAny_bind ?_))
  show wpAny _ X.A (do let _ ← comprehension (.ListComp elt [⟨tg, iter, ifs, 0⟩] scope pos) scope X.env (firstIterPos [⟨tg, iter, ifs, 0⟩] pos) (newList []) false (eval iter X.env) (some (assign (.Name y py) X.env))) _ _ s0
  have want : tLc wi g tt te (own.map (·.2)) σ H0 (fun x H1 => gName i x σ H1 D.nx) := want
  refine wpAny_bind (thn (lc_coreH (Qf := fun _ t => SP X pins D .next t) hot hN I hi ok pgs pts pes hs want fun L C t m G I' q hn f => ?_) fun _ _ hq => wpAny_pure (wpAny_pure hq))
  show wpAny _ _ (assign (.Name y py) X.env (.ref L)) _ _ _
  refine wpAny_assign_Name (store_ok2 (v := V.ref L) I' hN hy (.inl hyl) rfl (fun t2 I2 ⟨a, sb, ha⟩ => ⟨m, hn.sameBut sb (ha.elim (fun z => by rw [z]; exact f.2.1) fun z e => f.2.2.2.2.1 y a z e.symm), fun t3 sb3 => ?_⟩) (.inr hyl))
  exact ⟨_, G, I2.turned (t' := t2.toks) (fun b o hb z => (sb3.2 b hb).trans z) f.1 f.2.1 f.2.2.2.1 f.2.2.2.2.1 f.2.2.2.2.2, q⟩
end
end TwHot
set_option autoImplicit false
set_option Elab.async false
set_option linter.all false
set_option maxRecDepth 100000
set_option maxHeartbeats 2000000
namespace TwHot
open PySem PySem.Spec PyProof.Rows _root_.HotX L2 Tw
section
variable {prog : Program} {w : World} {A : Around} {E : Value → Shared → Prop} {s : Shared}
theorem unpackItems_hot {t x1 : Addr} {items : Array Value} {Q : List Value → Shared → Prop} (hot : HotAt A x1 s.heap) (ht : s.heap.IsTuple t items)
    (hQ : ∀ h', Heap.ExtBut s.heap.objs.size s.heap h' → Q items.toList { s with heap := h' }) : wpAny (model prog w) A (unpackItems (.ref t) items.size none) Q E s := by
  have hlt : t ≠ s.heap.objs.size := by obtain ⟨o, ho, _⟩ := ht; exact Nat.ne_of_lt (Heap.lt_size ho)
  have hx1 : x1 ≠ s.heap.objs.size := by obtain ⟨_, o, _, e, _⟩ := hot; exact Nat.ne_of_lt (Heap.lt_size e)
  unfold unpackItems
  refine wpAny_bind ?_
  · unfold notIterableAtAll
    refine wpAny_bind (wpAny_specialOf ht.typeIs F.slot_tuple_iter.lookup ?_)
    refine wpAny_pure ?_
    simp only [Bool.false_eq_true, if_false]
    refine wpAny_bind (wpAny_holding (wpAny_pyIter_tuple ht ?_))
    refine wpAny_bind (wpAny_holding (wpAny_draw_tuple hlt items.size 0 _ _ ⟨_, Heap.get?_push_size _ rfl, rfl, rfl⟩ (ht.push _) (by omega) fun g1 hit1 sb1 => ?_))
    rw [show List.take items.size (List.drop 0 items.toList) = items.toList from by rw [List.drop_zero]; exact List.take_of_length_le (by simp), if_neg (by simp)]
    have k1 : ∀ b o, b ≠ s.heap.objs.size → s.heap.get? b = some o → g1.get? b = some o := fun b o hb e => sb1.extBut b o hb (Heap.get?_push_of_some _ e)
    refine wpAny_bind (wpAny_holding (next_tuple_end_hot (s := { s with heap := g1 }) (HotAt.keep hot fun o e => k1 _ o hx1 e) hx1 hit1 ((ht.push _).extBut sb1.extBut hlt) (by simp) fun g2 k2 => ?_))
    simp only [Option.isSome_none, Bool.false_eq_true, if_false]
    exact wpAny_pure (hQ g2 fun b o hb e => k2 b o hb (k1 b o hb e))
theorem unpack_hot {t x1 : Addr} {items : Array Value} {ts : List (Bool × (Value → Sem Unit))} {Q : Unit → Shared → Prop} (hot : HotAt A x1 s.heap) (ht : s.heap.IsTuple t items)
    (hn : ts.length = items.size) (hst : ts.findIdx? (·.1) = none)
    (h : ∀ h', Heap.ExtBut s.heap.objs.size s.heap h' → wpAny (model prog w) A (assignInOrder (ts.map (·.2)) items.toList) Q E { s with heap := h' }) :
    wpAny (model prog w) A (unpack (.ref t) ts) Q E s := by
  unfold unpack
  rw [hn, hst]
  exact wpAny_bind (wpAny_holding (unpackItems_hot hot ht h))
end
section
variable {X : Cx} {x1 : Addr} {xa : XA} {W : WX} {pos : Pos}
theorem pg_tupH {es : List Expr} {k : Nat} {t : TGs} {n : Nat} (hot : HotX X x1) (h : PGs X es t)
    (hn : (assignEach es X.env).length = n := by rfl) (hst : (assignEach es X.env).findIdx? (·.1) = none := by rfl) : PG X (.Tuple es k pos) (gTup X.K n t) := by
  refine ⟨fun pins s σ H v u Q I r hw => ?_⟩
  obtain ⟨a, xs, e1, hq, hl, hw⟩ := hw
  subst e1
  cases r
  obtain ⟨its, rv, ht, _⟩ := I.tuple hq
  rw [assign_Tuple]
  refine wpAny_bind (wpAny_standAt (unpack_hot (hot _ _ _ _ I).1 (show s.heap.IsTuple a its.toArray from ht) (by simp [hn, ← hl, rv.length]) hst fun g hx => ?_))
  exact h.run pins _ σ H xs _ Q (I.kept (t' := s.toks) fun b o e => hx b o (Nat.ne_of_lt (Heap.lt_size e)) e) (by simpa using rv) hw
theorem rg_tupH {es : List Expr} {is : List Nat} {gs : List G} {k : Nat} (hot : HotX X x1) (h : RGs X xa es is gs) (hn : (assignEach es X.env).length = gs.length := by rfl) (hst : (assignEach es X.env).findIdx? (·.1) = none := by rfl) : RG X xa (.Tuple es k pos) is (gT gs) :=
  ⟨pgW (pg_tupH hot h.pgs hn hst) fun v σ H Q ⟨B, F, env, d, S, r, e', he, q⟩ => by
    cases d with
    | tup ds =>
      have he' : gsGo gs ds env = .ok e' := he
      cases r with
      | tup e r => exact ⟨_, _, rfl, SqT.of (S.hF _ _ e), by rw [r.length, gsGo_length he'], B, F, env, ds, S, r, e', he', q⟩
    | _ => cases he⟩
theorem cr_anyH (hot : HotX X x1) : CallR X (.builtin "any") (rAny X.K) := by
  intro pins s σ H vs us Q I r h
  obtain ⟨a, bs, rfl, hs, q⟩ := h
  obtain ⟨its, rv, hl, _⟩ := I.list hs
  rw [Vals.ref1 r]
  have hb := rv.bls
  have hx := Nat.ne_of_lt (hot.lt I)
  have ht := (hot _ _ _ _ I).1
  refine call_any_walk (iter_any hl.isList fun s₂ e2 st hne => ?_)
  subst e2
  refine ⟨_, _, _, _, _, _, _, rfl, walks_list_hot (A := X.A.in1) hne hx its.toArray, ⟨st, HotAt.keep (A := X.A.in1) ht fun o e => Heap.get?_push_of_some _ e⟩, truth_bools hb, fun h' tk hk => ?_⟩
  refine ⟨.bl _, H, I.kept fun b o eo => hk b o (fun hm => ?_) (Heap.get?_push_of_some _ eo), ?_, q⟩
  · exact absurd ((List.mem_singleton.mp hm) ▸ Heap.lt_size eo) (Nat.lt_irrefl _)
  · show Value.bool _ = Value.bool _
    rw [← L2.any_range, hb, List.size_toArray, List.length_map]
theorem ok_anyH (hot : HotX X x1) : ∃ r, CallR X (.builtin "any") r ∧ OkC X.K xa r D.any := by
  refine ⟨_, cr_anyH hot, fun F H x d fs bx => ?_⟩
  cases d <;> try exact trivial
  rename_i ds
  obtain ⟨a, xs, rfl, ea, ra⟩ := bx.lst_ fs
  simp only [D.any]
  cases h : bools? ds with
  | none => trivial
  | some bs => exact ans_rep fs (.bl _) fun Q q => ⟨a, bs, rfl, by rw [← bools_vals ra h]; exact SqL.of ea, q⟩
theorem cr_maxH (hot : HotX X x1) : CallR X (.builtin "max") (rMax X.K) := by
  intro pins s σ H vs us Q I r h
  obtain ⟨a, ns, rfl, hs, hne, q⟩ := h
  obtain ⟨its, rv, hl, _⟩ := I.list hs
  rw [Vals.ref1 r]
  have hi := rv.ints
  have hx := Nat.ne_of_lt (hot.lt I)
  have ht := (hot _ _ _ _ I).1
  obtain ⟨xs, e⟩ := hi.allInts.items
  have hn : numsOf (intItems xs).toList = ns := by rw [← e]; exact hi.numsOf
  rw [nums_intItems] at hn
  subst hn
  have hl' := hl.isList
  rw [e] at hl'
  have hsz : 0 < xs.size := by simpa using hne
  refine call_max_walk (iter_intList hl' fun s₂ e2 st hfp hlI => ?_)
  subst e2
  refine ⟨_, _, _, _, _, _, _, rfl, walks_list_hot (A := X.A.in1) hlI hx (intItems xs), ⟨st, HotAt.keep (A := X.A.in1) ht fun o e => Heap.get?_push_of_some _ e⟩, ?_, by simpa [intItems] using hsz, CmpOf.ints_gt (numAt xs) (fun _ _ => intItems_at), fun v h' tk hP hk => ?_⟩
  · intro b hb
    rcases List.mem_cons.mp hb with z | hb
    · exact hfp b (by rw [z]; exact List.mem_cons_self)
    · rcases List.mem_cons.mp hb with z | hb
      · exact hfp b (by rw [z]; exact List.mem_cons_of_mem _ List.mem_cons_self)
      · rw [List.mem_singleton.mp hb]
        obtain ⟨_, o, _, e, _⟩ := ht
        exact Heap.lt_size (Heap.get?_push_of_some _ e)
  · obtain ⟨t, rfl⟩ := intItems_at (by simpa [intItems] using hP)
    obtain ⟨h1, h2⟩ := argBest_gt (numAt xs) (xs.size - 1)
    have h1 : argBest (fun i j => decide (numAt xs j < numAt xs i)) (xs.size - 1) ≤ xs.size - 1 := h1
    refine ⟨.int _, H, I.kept (old_kept hk), ⟨_, rfl⟩, q _ ?_ fun b hb => ?_⟩
    · rw [numAt_eq]; exact PySem.getD_mem (by rw [List.length_map, Array.length_toList]; omega)
    · obtain ⟨j, hj, rfl⟩ := mem_getD hb
      rw [List.length_map, Array.length_toList] at hj
      rw [← numAt_eq]; exact h2 j (by omega)
theorem ok_maxLH (hot : HotX X x1) : ∃ r, CallR X (.builtin "max") r ∧ OkC X.K xa r D.maxL := by
  refine ⟨_, cr_maxH hot, fun F H x d fs bx => ?_⟩
  cases d with
  | lst ds =>
    obtain ⟨l, xs, rfl, el, rs⟩ := bx.lst_ fs
    unfold D.maxL
    simp only
    cases e : ints? ds with
    | none => exact trivial
    | some is =>
      cases is with
      | nil => exact trivial
      | cons a r =>
        simp only
        refine ans_val fs (fun _ => .int _) fun Q q => ?_
        have ev := ints_vals rs e
        refine ⟨l, a :: r, rfl, by rw [← ev]; exact SqL.of el, by simp, fun m hm hle => ?_⟩
        obtain ⟨h1, h2, h3⟩ := maxI_spec r a
        have : m = maxI a r := by
          have g1 : m ≤ maxI a r := by rcases List.mem_cons.mp hm with rfl | hm; exact h2; exact h3 m hm
          have g2 : maxI a r ≤ m := hle _ (by rcases h1 with h1 | h1; · rw [h1]; simp
                                              · exact List.mem_cons_of_mem _ h1)
          omega
        rw [this]
        exact q
  | _ => exact trivial
end
end TwHot
set_option autoImplicit false
set_option Elab.async false
set_option linter.all false
set_option maxRecDepth 100000
set_option maxHeartbeats 2000000
namespace Tw
open PySem L2
structure DfN (P : Program) (w : World) (K : PySem.W.Frag) (mg : Str → Option Value) (base : Heap) (xa : XA) (k : Nat) (x : Str) (ms : List Bool) (fr : Bool) (m : List D → Res D) : Prop where
  ex : ∃ (f : Addr) (fd : FuncData) (ps : List Str), FnOk P w K mg base (L2N.CX P w) k f fd ps (spD K xa ms fr m) ∧ mg x = some (.ref f) ∧ PySem.W.keepIn K (.ref f) = true ∧ Binds K fd ps []
section
variable {X : Cx} {xa : XA} {W : WX} {fr : Bool} {a b c e o : Expr} {f fa fb fc : E} {pos p p2 pos' : Pos} {x y z : Str}
theorem call_coreN {k : Nat} {ms : List Bool} {fr : Bool} {m : List D → Res D} {es : List Expr} {fs : List E} (Df_ : DfN X.prog X.w X.K X.mg X.base xa k x ms fr m) (hr : Room k X.A) (tk : L2N.Takes X W) (hg : Gl X x) (ha : RAm X xa W ms (a :: es) fs)
    (hdb : (x == ("__debug__" : Str)) = false := by decide) (he : starEach (a :: es) X.env = (false, eval a X.env) :: starEach es X.env := by rfl) (hpl : (backTo pos (starEach es X.env)).any (·.1) = false := by rfl) :
    PE X (.Call (.Name x p) (a :: es) [] pos) (fun σ H Q => ∃ B F env, Sim X.K xa B F env σ H ∧ Post xa W σ F H (eCall m fs env) fun d F' H' => ∀ v, Ret X.K xa F H F' H' fr v d → Q v H') := by
  obtain ⟨f, fd, ps, hf, hm, hk, hb⟩ := Df_.ex
  refine peW (pe_callS hf hr hg hm hk hb (fun σ => L2N.passAt tk σ) ha.pa hdb he hpl) fun σ H Q ⟨B, F, env, S, q⟩ => ?_
  refine ⟨B, F, env, S, (Post.bind (r := eL fs env) q).imp fun ds F1 H1 _ x1 q1 vs as => ?_⟩
  refine ⟨F1, ds, x1.le, x1.nt S.nt, x1.h.tab S.tab, as, ?_⟩
  cases z : m ds with
  | ok d =>
    rw [z] at q1
    intro F2 H2 v x2 rt
    refine q1 F2 H2 x2 v ?_
    cases fr with
    | true => obtain ⟨u, e1, e2, e3, e4⟩ := rt; exact ⟨u, e1, x1.h.free e2, e3, e4⟩
    | false => exact rt
  | err c => rw [z] at q1; exact q1
  | stk => rw [z] at q1; exact q1
theorem re_callN {k : Nat} {ms : List Bool} {m : List D → Res D} {es : List Expr} {fs : List E} (Df_ : DfN X.prog X.w X.K X.mg X.base xa k x ms false m) (hr : Room k X.A) (tk : L2N.Takes X W) (hg : Gl X x) (ha : RAm X xa W ms (a :: es) fs)
    (hdb : (x == ("__debug__" : Str)) = false := by decide) (he : starEach (a :: es) X.env = (false, eval a X.env) :: starEach es X.env := by rfl) (hpl : (backTo pos (starEach es X.env)).any (·.1) = false := by rfl) :
    RE X xa W (.Call (.Name x p) (a :: es) [] pos) (eCall m fs) := ⟨call_coreN Df_ hr tk hg ha hdb he hpl⟩
theorem rf_callN {k : Nat} {ms : List Bool} {m : List D → Res D} {es : List Expr} {fs : List E} (Df_ : DfN X.prog X.w X.K X.mg X.base xa k x ms true m) (hr : Room k X.A) (tk : L2N.Takes X W) (hg : Gl X x) (ha : RAm X xa W ms (a :: es) fs)
    (hdb : (x == ("__debug__" : Str)) = false := by decide) (he : starEach (a :: es) X.env = (false, eval a X.env) :: starEach es X.env := by rfl) (hpl : (backTo pos (starEach es X.env)).any (·.1) = false := by rfl) :
    RF X xa W (.Call (.Name x p) (a :: es) [] pos) (eCall m fs) := ⟨peW (call_coreN Df_ hr tk hg ha hdb he hpl) fun σ H Q ⟨B, F, env, S, q⟩ =>
  ⟨B, F, env, S, q.imp fun d F' H' _ _ q1 v ⟨u, e1, e2, e3, e4⟩ => by subst e1; exact q1 u e2 e3 e4⟩⟩
theorem rs_raiseN {m : Str} {c j : Nat} (E : ExcF X.K X.mg xa x c) (hc : X.calm = true) (tk : L2N.Takes X W) (hg : Gl X x := by rfl) (hdb : (x == ("__debug__" : Str)) = false := by decide) :
    RSt X xa W fr (.Raise (some (.Call (.Name x p) [.Constant (.str m) j p2] [] pos)) none pos') (sRaise c) :=
  ⟨psW (L2N.ps_raise hc tk (L2N.pmk_own PySem.F.excBase_ValueError E.q E.g E.k (raises_own E.s E.t) hg hdb)) fun D σ H ⟨B, F, env, S, q⟩ => q F σ H (.refl _ _) S⟩
end
theorem fn_coreN {P : Program} {w : World} {K : PySem.W.Frag} {mg : Str → Option Value} {base : Heap} {xa : XA} {x qual : Str} {st : Stmt} {f : Addr} {fd : FuncData} {N ps : List Str} {k : Nat} {ms : List Bool} {fr : Bool} {s : S}
    (Fu : Fun K x qual st f fd) (sc : FnScope N ps (defScope st)) (hl : ms.length = ps.length) (hN : ms.length ≤ N.length)
    (body : ∀ (cdv : Value) (A : Around) (outer : List PySem.Env) (sh : Shared) (H : Hp) (Ex : XK), fd.code = cdv → Room k (A.deeper (PyProof.Rows.envOfC qual (defScope st) sh.heap.objs.size f cdv)) →
      RSs (cxOf (L2N.CX P w) P w K mg base N qual (defScope st) f cdv A outer sh H Ex) xa (fun cls d _ H => Ex cls d H) fr (defBody st) s) (hret : fr = false ∨ ∀ e e', s e ≠ .nx e') :
    FnOk P w K mg base (L2N.CX P w) (k + 1) f fd ps (spD K xa ms fr (runD ms N.length s)) := by
  obtain ⟨oc, od, kV, doc, pm, an, cdv, ct, osl, rfl, lk, hcd⟩ := Fu.ex
  refine fn_of lk hcd sc (fun vs H Q E h => ?_) (fun A outer sh H vs Q Ex hr h => ?_)
  · obtain ⟨F, ds, _, _, _, as, _⟩ := h
    rw [as.len.1, hl]
  · refine ⟨_, (body cdv A outer sh H Ex rfl hr).pss, ?_⟩
    obtain ⟨F, ds, sF, ntF, tb, as, q⟩ := h
    have l1 := as.len
    unfold runD at q
    rw [if_pos l1.2] at q
    have S : Sim K xa H F (initE ms ds ++ List.replicate (N.length - ms.length) .un) (L2.start N vs) H := by
      refine ⟨?_, .refl _, sF, ntF, tb, fun i sl e => ?_, fun i j k l a s t e1 _ p _ => ?_⟩
      · unfold L2.start
        rw [List.length_append, List.length_append, List.length_replicate, List.length_replicate, List.length_map, initE_length l1.2, l1.1]
      · by_cases hi : i < (initE ms ds).length
        · rw [List.getElem?_append_left hi] at e
          have z := (args_env as i sl e).1
          unfold L2.start
          rw [List.getElem?_append_left (by rw [List.length_map, l1.1, ← initE_length l1.2]; exact hi)]
          exact z
        · rw [List.getElem?_append_right (by omega)] at e
          have : sl = .un := by
            rw [List.getElem?_replicate] at e
            split at e
            · exact (Option.some.inj e).symm
            · cases e
          subst this
          trivial
      · by_cases hi : i < (initE ms ds).length
        · rw [List.getElem?_append_left hi] at e1
          exact ((args_env as i _ e1).2 _ _ _ p).elim
        · rw [List.getElem?_append_right (by omega), List.getElem?_replicate] at e1
          split at e1
          · cases e1; exact p.elim
          · cases e1
    refine ⟨H, F, _, S, ?_⟩
    cases z : s (initE ms ds ++ List.replicate (N.length - ms.length) .un) with
    | nx e1 =>
      rw [z] at q
      intro F1 σ1 H1 g1 S1
      rcases hret with h | h
      · subst h
        exact q F1 H1 .non ⟨g1.f, S1.hB, S1.hF, g1.new, fun _ => S1.nt⟩ .non
      · exact (h _ _ z).elim
    | rt d =>
      rw [z] at q
      intro F1 H1 v g1 b1 f1 n1 rt
      exact q F1 H1 v ⟨g1.f, b1, f1, g1.new, fun _ => n1⟩ rt
    | er c e1 =>
      rw [z] at q
      intro F1 σ1 H1 g1 S1
      exact q F1 H1 ⟨g1.f, S1.hB, S1.hF, g1.new, fun _ => S1.nt⟩
    | bk e1 => rw [z] at q; exact q.elim
    | rm d e1 => rw [z] at q; exact q.elim
    | ro c fs => rw [z] at q; exact q.elim
    | ct e1 => rw [z] at q; exact q.elim
    | stk => rw [z] at q; exact q.elim
theorem df_coreN {P : Program} {w : World} {K : PySem.W.Frag} {mg : Str → Option Value} {base : Heap} {xa : XA} {x qual : Str} {st : Stmt} {f : Addr} {fd : FuncData} {N ps : List Str} {k : Nat} {ms : List Bool} {fr : Bool} {s : S}
    (Fu : Fun K x qual st f fd) (sc : FnScope N ps (defScope st)) (hb : Binds K fd ps []) (hm : mg x = some (.ref f)) (hk : PySem.W.keepIn K (.ref f) = true) (hl : ms.length = ps.length) (hN : ms.length ≤ N.length)
    (body : ∀ (cdv : Value) (A : Around) (outer : List PySem.Env) (sh : Shared) (H : Hp) (Ex : XK), fd.code = cdv → Room k (A.deeper (PyProof.Rows.envOfC qual (defScope st) sh.heap.objs.size f cdv)) →
      RSs (cxOf (L2N.CX P w) P w K mg base N qual (defScope st) f cdv A outer sh H Ex) xa (fun cls d _ H => Ex cls d H) fr (defBody st) s) (hret : fr = false ∨ ∀ e e', s e ≠ .nx e') :
    DfN P w K mg base xa (k + 1) x ms fr (runD ms N.length s) := ⟨f, fd, ps, fn_coreN Fu sc hl hN body hret, hm, hk, hb⟩
end Tw
set_option autoImplicit false
set_option Elab.async false
set_option linter.all false
set_option maxRecDepth 100000
namespace Tw
open PySem PySem.W PyProof.Rows
section
variable {prog : Program} {w : World} {A : Around} {E : Value → Shared → Prop} {s : Shared}
end
open L2 LamX
section
variable {X : Cx} {xa : XA} {W : WX} {a : Expr} {fa : XE} {y x : Str} {p p1 p2 p3 kpos pos : Pos} {j : Nat}
end
end Tw
set_option autoImplicit false
set_option Elab.async false
set_option linter.all false
set_option maxRecDepth 100000
namespace Tw
open PySem L2 PyProof.Rows
section
variable {X : Cx} {xa : XA} {W : WX} {e : Expr} {fb : E} {x : Str} {p apos cpos : Pos}
end
end Tw
set_option autoImplicit false
set_option Elab.async false
set_option linter.all false
set_option maxRecDepth 100000
namespace Tw
open PySem L2 PyProof.Rows
structure ZSt (x : Str) (t : Tok) (a : Addr) (z TI TO j1 j2 : Addr) (n i : Nat) (h : Heap) : Prop where
  hz : IsZip h z TI TO .none
  hI : IsTupOf2 h TI (.ref j1) (.ref j2)
  hO : ∃ u v, IsTupOf2 h TO u v
  h1 : h.IsStrIter j1 (strIterType x) x t i
  h2 : h.IsListIter j2 a i
  l1 : i ≤ x.cps.size
  l2 : i ≤ n
abbrev zfp (z TI TO j1 j2 : Addr) : List Addr := [z, TI, TO, j1, j2]
theorem ZSt.keep {x : Str} {t : Tok} {a z TI TO j1 j2 : Addr} {n i : Nat} {h h' : Heap} (S : ZSt x t a z TI TO j1 j2 n i h) (k : ∀ b ∈ zfp z TI TO j1 j2, ∀ o, h.get? b = some o → h'.get? b = some o) : ZSt x t a z TI TO j1 j2 n i h' := by
  obtain ⟨hz, hI, ⟨u, v, hO⟩, ⟨o1, e1, r1⟩, h2, l1, l2⟩ := S
  exact ⟨k z (by simp [zfp]) _ hz, k TI (by simp [zfp]) _ hI, ⟨u, v, k TO (by simp [zfp]) _ hO⟩, ⟨o1, k j1 (by simp [zfp]) _ e1, r1⟩, h2.at fun o q => k j2 (by simp [zfp]) o q, l1, l2⟩
section
variable {K : PySem.W.Frag} {xa : XA} {F : Hp}
end
section
variable {X : Cx} {xa : XA} {W : WX} {a b : Expr} {fa fb : E} {elts : List Expr} {kk : Nat} {tp p pos : Pos}
end
end Tw
set_option autoImplicit false
namespace Tw
end Tw
set_option autoImplicit false
namespace Tw
end Tw
set_option autoImplicit false
namespace Tw
def D.itemsLT : D → Res (List D)
  | .lst xs => .ok xs
  | .tup xs => .ok xs
  | _ => .stk
def iEH (a : E) : I := fun e => (a e).bind D.itemsLT
def sTryX (ks cs : List Nat) (a b : S) : S := fun e => match a e with
  | .er c e1 => if c ∈ ks then (if c ∈ cs then (match b e1 with
      | .nx e2 => .nx e2
      | .bk e2 => .bk e2
      | .ct e2 => .ct e2
      | .rt d => .rt d
      | .er c2 e2 => .er c2 e2
      | _ => .stk) else .er c e1) else .stk
  | r => r
end Tw
set_option autoImplicit false
set_option Elab.async false
set_option linter.all false
set_option maxRecDepth 100000
set_option maxHeartbeats 2000000
namespace Tw
open PySem PySem.Spec PyProof.Rows L2 TwHot
structure DfH (P : Program) (w : World) (K : PySem.W.Frag) (mg : Str → Option Value) (base : Heap) (xa : XA) (k : Nat) (x : Str) (ms : List Bool) (fr : Bool) (m : List D → Res D) : Prop where
  ex : ∃ (f : Addr) (fd : FuncData) (ps : List Str), L2H.FnH P w K mg base (L2.CX P w) k f fd ps (spD K xa ms fr m) ∧ mg x = some (.ref f) ∧ PySem.W.keepIn K (.ref f) = true ∧ Binds K fd ps []
section
variable {X : Cx} {xa : XA} {W : WX} {fr : Bool} {a b c e o : Expr} {f fa fb fc : E} {pos spos p p2 pos' : Pos} {x y z : Str} {x1 : Addr} {tg elt iter : Expr} {it : I} {g : G} {i : Nat}
theorem call_coreH {k : Nat} {ms : List Bool} {fr : Bool} {m : List D → Res D} {es : List Expr} {fs : List E} (Df_ : DfH X.prog X.w X.K X.mg X.base xa k x ms fr m) (hr : L2H.RoomH k X.A) (hc : L2H.HotC X) (tk : Takes X W) (hg : Gl X x) (ha : RAm X xa W ms (a :: es) fs)
    (hdb : (x == ("__debug__" : Str)) = false := by decide) (he : starEach (a :: es) X.env = (false, eval a X.env) :: starEach es X.env := by rfl) (hpl : (backTo pos (starEach es X.env)).any (·.1) = false := by rfl) :
    PE X (.Call (.Name x p) (a :: es) [] pos) (fun σ H Q => ∃ B F env, Sim X.K xa B F env σ H ∧ Post xa W σ F H (eCall m fs env) fun d F' H' => ∀ v, Ret X.K xa F H F' H' fr v d → Q v H') := by
  obtain ⟨f, fd, ps, hf, hm, hk, hb⟩ := Df_.ex
  refine peW (L2H.pe_callH hf hr hc hg hm hk hb (fun σ => passAt tk σ) ha.pa hdb he hpl) fun σ H Q ⟨B, F, env, S, q⟩ => ?_
  refine ⟨B, F, env, S, (Post.bind (r := eL fs env) q).imp fun ds F1 H1 _ x1 q1 vs as => ?_⟩
  refine ⟨F1, ds, x1.le, x1.nt S.nt, x1.h.tab S.tab, as, ?_⟩
  cases z : m ds with
  | ok d =>
    rw [z] at q1
    intro F2 H2 v x2 rt
    refine q1 F2 H2 x2 v ?_
    cases fr with
    | true => obtain ⟨u, e1, e2, e3, e4⟩ := rt; exact ⟨u, e1, x1.h.free e2, e3, e4⟩
    | false => exact rt
  | err c => rw [z] at q1; exact q1
  | stk => rw [z] at q1; exact q1
theorem re_callH {k : Nat} {ms : List Bool} {m : List D → Res D} {es : List Expr} {fs : List E} (Df_ : DfH X.prog X.w X.K X.mg X.base xa k x ms false m) (hr : L2H.RoomH k X.A) (hc : L2H.HotC X) (tk : Takes X W) (hg : Gl X x) (ha : RAm X xa W ms (a :: es) fs)
    (hdb : (x == ("__debug__" : Str)) = false := by decide) (he : starEach (a :: es) X.env = (false, eval a X.env) :: starEach es X.env := by rfl) (hpl : (backTo pos (starEach es X.env)).any (·.1) = false := by rfl) :
    RE X xa W (.Call (.Name x p) (a :: es) [] pos) (eCall m fs) := ⟨call_coreH Df_ hr hc tk hg ha hdb he hpl⟩
structure RIH (X : Cx) (x1 : Addr) (xa : XA) (W : WX) (lent : Bool) (tg e : Expr) (it : I) : Prop where
  pi : PIG X x1 tg e (pI X.K xa W lent it)
theorem ri_lentH (hot : HotX X x1) (ha : RB X xa W a fa) : RIH X x1 xa W true tg a (iEH fa) := ⟨pig_w (pig_or (pig_list hot ha.pe) (pig_tup hot ha.pe)) fun σ H R ⟨B, F, env, S, q⟩ => by
  have q0 := Post.bind (r := fa env) (f := D.itemsLT) q
  cases z : fa env with
  | stk => rw [z] at q0; exact q0.elim
  | err c =>
    refine .inl ⟨B, F, env, S, ?_⟩
    rw [z] at q0 ⊢
    exact q0
  | ok d =>
    rw [z] at q0
    cases d with
    | lst ds => exact .inl ⟨B, F, env, S, by
        rw [z]
        intro F1 H1 x1 v b1
        obtain ⟨u, xs, rfl, e, r⟩ := b1.lst_ x1.le
        exact ⟨u, rfl, ⟨xs, SqL.of e⟩, q0 F1 H1 x1 F1 H1 (.refl x1.le) _ (walk_list (SqL.of e) r)⟩⟩
    | tup ds => exact .inr ⟨B, F, env, S, by
        rw [z]
        intro F1 H1 x1 v b1
        obtain ⟨u, xs, rfl, e, r⟩ := b1.tup_
        exact ⟨u, rfl, ⟨xs, SqT.of (x1.le _ _ e)⟩, q0 F1 H1 x1 F1 H1 (.refl x1.le) _ (walk_tup (x1.le _ _ e) r)⟩⟩
    | _ => exact (q0 F H (.refl S.hF)).elim⟩
structure RCH (X : Cx) (x1 : Addr) (xa : XA) (W : WX) (elt tg iter : Expr) (ifs : List Expr) (scope : Scope) (f : E) : Prop where
  ex : ∃ (wi : TI) (g : TG) (tt : TT) (te : TE) (own : List (Str × Nat)), PIG X x1 tg iter wi ∧ BlkOk X.N X.env.scope scope own ∧
    (∀ (s : Shared) (H : Hp) (C : Addr) (cl : List (Str × Addr)) (fp : List Addr), HotX (X.blk s H scope (compEnvC scope cl C X.env) fp) x1 → PG (X.blk s H scope (compEnvC scope cl C X.env) fp) tg g) ∧
    (∀ (s : Shared) (H : Hp) (C : Addr) (cl : List (Str × Addr)) (fp : List Addr), HotX (X.blk s H scope (compEnvC scope cl C X.env) fp) x1 → PTs (X.blk s H scope (compEnvC scope cl C X.env) fp) ifs tt) ∧
    (∀ (s : Shared) (H : Hp) (C : Addr) (cl : List (Str × Addr)) (fp : List Addr), HotX (X.blk s H scope (compEnvC scope cl C X.env) fp) x1 → PE (X.blk s H scope (compEnvC scope cl C X.env) fp) elt te) ∧
    (∀ y, foldedSetIterable iter X.env y = pure y) ∧
    (∀ σ H Q, pF X.K xa W f σ H Q → tLc wi g tt te (own.map (·.2)) σ H Q)
theorem RCH.toF {ifs : List Expr} {scope : Scope} (h : RCH X x1 xa W elt tg iter ifs scope f) (hot : HotX X x1) (hN : X.N.Nodup) : RF X xa W (.ListComp elt [⟨tg, iter, ifs, 0⟩] scope pos) f := by
  obtain ⟨wi, g, tt, te, own, h1, h2, h3, h4, h5, h6, h7⟩ := h.ex
  exact ⟨peW (pe_lcH hot hN h1 h2 h3 h4 h5 h6 (pos := pos)) h7⟩
theorem rc_compH {ifs : List Expr} {scope : Scope} {own : List (Str × Nat)} {is : List Nat} {t : T} (hi : RIH X x1 xa W true tg iter it) (ok : BlkOk X.N X.env.scope scope own)
    (hg : ∀ (s : Shared) (H : Hp) (C : Addr) (cl : List (Str × Addr)) (fp : List Addr), HotX (X.blk s H scope (compEnvC scope cl C X.env) fp) x1 → RG (X.blk s H scope (compEnvC scope cl C X.env) fp) xa tg is g) (ht : ∀ (s : Shared) (H : Hp) (C : Addr) (cl : List (Str × Addr)) (fp : List Addr), HotX (X.blk s H scope (compEnvC scope cl C X.env) fp) x1 → RTs (X.blk s H scope (compEnvC scope cl C X.env) fp) xa W0 ifs t)
    (he : ∀ (s : Shared) (H : Hp) (C : Addr) (cl : List (Str × Addr)) (fp : List Addr), HotX (X.blk s H scope (compEnvC scope cl C X.env) fp) x1 → RE (X.blk s H scope (compEnvC scope cl C X.env) fp) xa W0 elt f) (his : ∀ i ∈ is, i ∈ own.map (·.2) := by decide) (hs : ∀ x, foldedSetIterable iter X.env x = pure x := by intro _; rfl) :
    RCH X x1 xa W elt tg iter ifs scope (eComp it (own.map (·.2)) g t f) :=
  ⟨_, _, _, _, own, hi.pi, ok, fun s H C cl fp z => (hg s H C cl fp z).pg, fun s H C cl fp z => (ht s H C cl fp z).pts, fun s H C cl fp z => (he s H C cl fp z).pe, hs, fun σ H Q h => comp_core his h⟩
theorem rs_ownCH {ifs : List Expr} {scope : Scope} {i : Nat} (h : RCH X x1 xa W elt tg iter ifs scope f) (hot : HotX X x1) (hN : X.N.Nodup) (hi : X.N[i]? = some y) (hl : X.env.scope.names.lookup y = some .local)
    (hsw : swapsWith (.ListComp elt [⟨tg, iter, ifs, 0⟩] scope pos) (some (.Name y p)) spos.line X.env = pure true) : RSt X xa W fr (.Assign [.Name y p] (.ListComp elt [⟨tg, iter, ifs, 0⟩] scope pos) spos) (sOwn i f) := by
  obtain ⟨wi, g, tt, te, own, h1, h2, h3, h4, h5, h6, h7⟩ := h.ex
  exact ⟨psW (ps_setLcH (i := i) hot hN hi hl hsw h1 h2 h3 h4 h5 h6) fun D σ H ⟨B, F, env, S, q⟩ => h7 _ _ _ ⟨B, F, env, S, (PostS.run (r := f env) S q).imp fun d F1 H1 _ x1 q1 u n nF o => q1 F1 _ H1 (.refl _ _) (S.new x1 n nF o i)⟩⟩
end
theorem fn_coreH {P : Program} {w : World} {K : PySem.W.Frag} {mg : Str → Option Value} {base : Heap} {xa : XA} {x qual : Str} {st : Stmt} {f : Addr} {fd : FuncData} {N ps : List Str} {k : Nat} {ms : List Bool} {fr : Bool} {s : S}
    (Fu : Fun K x qual st f fd) (sc : FnScope N ps (defScope st)) (hl : ms.length = ps.length) (hN : ms.length ≤ N.length)
    (body : ∀ (cdv : Value) (A : Around) (outer : List PySem.Env) (sh : Shared) (H : Hp) (Ex : XK) (p : Addr × Obj), L2H.HotC (L2H.cxH (L2.CX P w) P w K mg base N qual (defScope st) f cdv A outer sh H Ex p) → fd.code = cdv → L2H.RoomH k (A.deeper (PyProof.Rows.envOfC qual (defScope st) sh.heap.objs.size f cdv)) →
      RSs (L2H.cxH (L2.CX P w) P w K mg base N qual (defScope st) f cdv A outer sh H Ex p) xa (fun cls d _ H => Ex cls d H) fr (defBody st) s) (hret : fr = false ∨ ∀ e e', s e ≠ .nx e') :
    L2H.FnH P w K mg base (L2.CX P w) (k + 1) f fd ps (spD K xa ms fr (runD ms N.length s)) := by
  obtain ⟨oc, od, kV, doc, pm, an, cdv, ct, osl, rfl, lk, hcd⟩ := Fu.ex
  refine L2H.fn_ofH lk hcd sc (fun vs H Q E h => ?_) (fun A outer sh H vs Q Ex p hot hr h => ?_)
  · obtain ⟨F, ds, _, _, _, as, _⟩ := h
    rw [as.len.1, hl]
  · refine ⟨_, (body cdv A outer sh H Ex p ⟨p, hot, List.mem_cons_self⟩ rfl hr).pss, ?_⟩
    obtain ⟨F, ds, sF, ntF, tb, as, q⟩ := h
    have l1 := as.len
    unfold runD at q
    rw [if_pos l1.2] at q
    have S : Sim K xa H F (initE ms ds ++ List.replicate (N.length - ms.length) .un) (L2.start N vs) H := by
      refine ⟨?_, .refl _, sF, ntF, tb, fun i sl e => ?_, fun i j k l a s t e1 _ p _ => ?_⟩
      · unfold L2.start
        rw [List.length_append, List.length_append, List.length_replicate, List.length_replicate, List.length_map, initE_length l1.2, l1.1]
      · by_cases hi : i < (initE ms ds).length
        · rw [List.getElem?_append_left hi] at e
          have z := (args_env as i sl e).1
          unfold L2.start
          rw [List.getElem?_append_left (by rw [List.length_map, l1.1, ← initE_length l1.2]; exact hi)]
          exact z
        · rw [List.getElem?_append_right (by omega)] at e
          have : sl = .un := by
            rw [List.getElem?_replicate] at e
            split at e
            · exact (Option.some.inj e).symm
            · cases e
          subst this
          trivial
      · by_cases hi : i < (initE ms ds).length
        · rw [List.getElem?_append_left hi] at e1
          exact ((args_env as i _ e1).2 _ _ _ p).elim
        · rw [List.getElem?_append_right (by omega), List.getElem?_replicate] at e1
          split at e1
          · cases e1; exact p.elim
          · cases e1
    refine ⟨H, F, _, S, ?_⟩
    cases z : s (initE ms ds ++ List.replicate (N.length - ms.length) .un) with
    | nx e1 =>
      rw [z] at q
      intro F1 σ1 H1 g1 S1
      rcases hret with h | h
      · subst h
        exact q F1 H1 .non ⟨g1.f, S1.hB, S1.hF, g1.new, fun _ => S1.nt⟩ .non
      · exact (h _ _ z).elim
    | rt d =>
      rw [z] at q
      intro F1 H1 v g1 b1 f1 n1 rt
      exact q F1 H1 v ⟨g1.f, b1, f1, g1.new, fun _ => n1⟩ rt
    | er c e1 =>
      rw [z] at q
      intro F1 σ1 H1 g1 S1
      exact q F1 H1 ⟨g1.f, S1.hB, S1.hF, g1.new, fun _ => S1.nt⟩
    | bk e1 => rw [z] at q; exact q.elim
    | rm d e1 => rw [z] at q; exact q.elim
    | ro c fs => rw [z] at q; exact q.elim
    | ct e1 => rw [z] at q; exact q.elim
    | stk => rw [z] at q; exact q.elim
theorem df_coreH {P : Program} {w : World} {K : PySem.W.Frag} {mg : Str → Option Value} {base : Heap} {xa : XA} {x qual : Str} {st : Stmt} {f : Addr} {fd : FuncData} {N ps : List Str} {k : Nat} {ms : List Bool} {fr : Bool} {s : S}
    (Fu : Fun K x qual st f fd) (sc : FnScope N ps (defScope st)) (hb : Binds K fd ps []) (hm : mg x = some (.ref f)) (hk : PySem.W.keepIn K (.ref f) = true) (hl : ms.length = ps.length) (hN : ms.length ≤ N.length)
    (body : ∀ (cdv : Value) (A : Around) (outer : List PySem.Env) (sh : Shared) (H : Hp) (Ex : XK) (p : Addr × Obj), L2H.HotC (L2H.cxH (L2.CX P w) P w K mg base N qual (defScope st) f cdv A outer sh H Ex p) → fd.code = cdv → L2H.RoomH k (A.deeper (PyProof.Rows.envOfC qual (defScope st) sh.heap.objs.size f cdv)) →
      RSs (L2H.cxH (L2.CX P w) P w K mg base N qual (defScope st) f cdv A outer sh H Ex p) xa (fun cls d _ H => Ex cls d H) fr (defBody st) s) (hret : fr = false ∨ ∀ e e', s e ≠ .nx e') :
    DfH P w K mg base xa (k + 1) x ms fr (runD ms N.length s) := ⟨f, fd, ps, fn_coreH Fu sc hl hN body hret, hm, hk, hb⟩
end Tw
set_option autoImplicit false
set_option Elab.async false
set_option linter.all false
set_option maxRecDepth 100000
set_option maxHeartbeats 2000000
namespace Tw
open PySem PySem.Spec PyProof.Rows L2 TwHot
section
variable {X : Cx} {xa : XA} {W : WX} {fr : Bool} {x : Str} {t : Nat} {body suite : List Stmt} {b₀ : Stmt} {np pos pos' : Pos} {ks cs : List Nat} {m1 m2 : S}
theorem rs_tryH (T : ExcT X.K X.mg xa ks cs x t) (tk : L2.Takes X W) (hpa : ∀ hd : Option Value, PassesOwnAt (model X.prog X.w) (X.A.mark hd) X.A X.env X.xe)
    (hb : ∀ (W' : WX) (pn : List (Addr × Obj)) (xe : Value → Shared → Prop), L2N.Takes (X.tr pn xe) W' → PassesOwn (model X.prog X.w) X.A X.env xe → RSs (X.tr pn xe) xa W' fr body m1)
    (hsu : ∀ (a : Addr) (oe : Obj) (pn : List (Addr × Obj)), L2.Takes (L2H.suiteX X a ((a, oe) :: pn)) W → L2H.HotC (L2H.suiteX X a ((a, oe) :: pn)) → RSs (L2H.suiteX X a ((a, oe) :: pn)) xa W fr (b₀ :: suite) m2)
    (hs : X.stack = X.env :: X.outer := by rfl) (hf : X.env.frame = some X.env.locals := by rfl) (hg : Gl X x := by rfl) (hdb : (x == ("__debug__" : Str)) = false := by decide) :
    RSt X xa W fr (.Try body [.ExceptHandler (some (.Name x np)) none (b₀ :: suite) pos'] [] [] pos) (sTryX ks cs m1 m2) :=
  ⟨psW (L2H.ps_try_onlyX (tb := fun W' => pS X.K xa W' fr m1) (ts := fun _ _ _ => pS X.K xa W fr m2) hs hf ⟨hg, hdb, .inl T.g⟩ hpa tk (fun W' pn xe t' _ po => (hb W' pn xe t' po).pss) (fun a oe _ _ pn _ _ tk' hot => (hsu a oe pn tk' hot).pss)) fun D σ H ⟨B, F, env, S, q⟩ => by
    refine ⟨B, F, env, S, ?_⟩
    unfold sTryX at q
    cases z : m1 env with
    | nx e1 => rw [z] at q; exact q
    | bk e1 => rw [z] at q; exact q
    | ct e1 => rw [z] at q; exact q
    | rt d => rw [z] at q; exact q
    | rm d e1 => rw [z] at q; exact q
    | ro c fs => rw [z] at q; exact q
    | stk => rw [z] at q; exact q
    | er c e1 =>
      rw [z] at q
      simp only at q
      intro F1 σ1 H1 g1 S1
      by_cases hk : c ∈ ks
      · rw [if_pos hk] at q
        refine ⟨_, T.exm hk, fun hc => ?_, fun hc => ?_⟩
        · rw [if_pos (by simpa using hc)] at q
          refine fun a na => ⟨B, F1, _, S1, ?_⟩
          cases y : m2 e1 with
          | nx e2 => rw [y] at q; exact fun F' σ' H' g' S' => q F' _ H' (g1.trans g') S'
          | bk e2 => rw [y] at q; exact fun F' σ' H' g' S' => q F' _ H' (g1.trans g') S'
          | ct e2 => rw [y] at q; exact fun F' σ' H' g' S' => q F' _ H' (g1.trans g') S'
          | rt d => rw [y] at q; exact fun F' H' v g' b f r => q F' H' v (g1.trans g') b f r
          | er c2 e2 => rw [y] at q; exact fun F' σ' H' g' S' => q F' _ H' (g1.trans g') S'
          | rm _ _ => rw [y] at q; exact q.elim
          | ro _ _ => rw [y] at q; exact q.elim
          | stk => rw [y] at q; exact q.elim
        · rw [if_neg (by simpa using hc)] at q
          exact q F1 σ1 H1 g1 S1
      · rw [if_neg hk] at q
        exact q.elim⟩
end
end Tw
set_option autoImplicit false
set_option Elab.async false
set_option linter.all false
namespace L2H
open PySem L2
theorem RoomH.units {k : Nat} {A : Around} (r : RoomH k A) : A.units + 64 < cLine := by have := r.un; omega
end L2H
namespace Tw
open PySem L2 TwHot
theorem roomS {j k : Nat} {A : Around} {v : Option Value} (r : Room j A) (h : k ≤ j) : L2H.RoomH k (A.mark v) := by
  have q := L2H.RoomH.mono (L2H.roomH_of r) h
  exact ⟨q.dp, q.un⟩
theorem rss_stk {X : Cx} {xa : XA} {W : WX} {fr : Bool} {sts : List Stmt} : RSs X xa W fr sts sStk := ⟨⟨fun _ _ _ _ _ _ ⟨_, _, _, _, q⟩ => q.elim⟩⟩
end Tw
set_option autoImplicit false
set_option Elab.async false
set_option linter.all false
set_option maxRecDepth 100000
namespace Tw
open PySem L2 PySem.Spec PyProof.Rows LamX
section
variable {X : Cx} {xa : XA} {W : WX} {c P : Addr} {params : Arguments} {body : Expr} {scope : Scope} {fx : XE} {x : Str} {ks : List Nat} {cm : List D → Res D} {k m : Nat} {p lpos pos : Pos}
end
section
variable {K : PySem.W.Frag} {xa : XA} {X : Cx}
end
section
variable {X : Cx} {xa : XA} {W : WX} {a b e : Expr} {fa fb : E} {te : TE} {p apos cpos pos : Pos}
end
section
variable {X : Cx} {xa : XA} {W : WX} {fr : Bool} {a : Expr} {ga : XE} {x : Str} {p lp pos : Pos}
end
section
variable {X : Cx} {xa : XA}
end
end Tw
set_option autoImplicit false
set_option Elab.async false
set_option linter.all false
set_option maxRecDepth 100000
namespace Tw
open PySem L2 PySem.Spec PyProof.Rows LamX
section
variable {P : Program} {w : World} {K : PySem.W.Frag} {mg : Str → Option Value} {base : Heap} {xa : XA} {k : Nat} {x : Str} {ks : List Nat} {cm : List D → Res D}
theorem ToldD.at (h : ToldD P w K mg base xa k x ks cm) (a : Addr) : ToldD P w K mg base (xa.at a) k x ks cm := by
  cases h with
  | mk Fu hm hk hb sc bd T sub Dc gt gc la le da ca de ce dt dc => exact .mk Fu hm hk hb sc bd T sub (Dc.at a) gt gc la le da ca de ce dt dc
end
end Tw
set_option autoImplicit false
set_option Elab.async false
set_option linter.all false
set_option maxRecDepth 100000
namespace TwNe
open PySem PySem.SeqAt GQ
open AutoSeq1 (wpAny_loadPart')
open MeetsSeq MeetsSeq2 MeetsSeq3 SeqRoads2
section
variable {prog : Program} {w : World} {A : Around} {R : Result → Shared → Prop}
end
section
variable {prog : Program} {w : World} {A : Around} {E : Value → Shared → Prop} {s : Shared}
end
end TwNe
namespace Tw
open PySem L2 PySem.Spec PyProof.Rows
section
variable {X : Cx} {pins : List (Addr × Obj)} {σ : L2.St} {H : Hp} {s : Shared}
end
end Tw
set_option autoImplicit false
set_option Elab.async false
set_option linter.all false
set_option maxRecDepth 100000
namespace Tw
open PySem L2 PySem.Spec PyProof.Rows
section
variable {K : PySem.W.Frag} {xa : XA} {F H : Hp}
end
end Tw
set_option autoImplicit false
set_option Elab.async false
set_option linter.all false
set_option maxRecDepth 100000
namespace Tw
open PySem L2
section
variable {K : PySem.W.Frag} {xa : XA} {W : WX} {B F H : Hp} {env : Env} {σ : Sl}
variable {X : Cx} {tg : Expr} {pos p p2 p3 : Pos} {x : Str} {g : G} {s1 : S}
end
end Tw
set_option autoImplicit false
set_option Elab.async false
set_option linter.all false
set_option maxRecDepth 100000
namespace Tw
open PySem L2 PySem.Spec PyProof.Rows LamX
section
variable {X : Cx} {pins : List (Addr × Obj)} {σ : L2.St} {H : Hp} {s : Shared}
end
section
variable {X : Cx} {xa : XA} {W : WX} {c P : Addr} {params : Arguments} {body : Expr} {scope : Scope} {fa : E} {x : Str} {m : Nat} {p lpos pos : Pos}
end
end Tw
set_option autoImplicit false
namespace Tw.M
def b_book_of : S := (sRet (e1 D.dictK (eComp (iE (eB 0)) [1] (gN 1) tTrue (eTup [(e2 D.idx (eB 1) (eC (.int 0))), (eSl (eB 1) (some (eC (.int 1))) none)]))))
def m_book_of : List D → Res D := runD [true] 2 b_book_of
def b_look_node : S := (sIf (tE (e2 D.notIn (eB 1) (eComp (iE (eB 0)) [2] (gN 2) tTrue (e2 D.idx (eB 2) (eC (.int 0)))))) (sRaise 1) sNil)
def m_look_node : List D → Res D := runD [true, true] 3 b_look_node
def b_is_under : S := (sSeq (sSet 3 (eV 1)) (sSeq (sWhile (tAnd (tE (e2 D.ne (eB 3) (eC (.int 0)))) (tE (e2 D.ne (eB 3) (eB 2)))) (sSet 3 (e2 D.idx (e2 D.idx (eB 0) (eB 3)) (eC (.int 0))))) (sRet (e2 D.eq (eB 3) (eB 2)))))
def m_is_under : List D → Res D := runD [true, false, true] 4 b_is_under
def b_is_name : S := (sRet (eAnd (e1 (D.isa .str) (eB 0)) (eAnd (eCh D.leI D.leI (eC (.int 1)) (e1 D.len (eB 0)) (eC (.int 5))) (e1 D.all (eComp (iE (eB 0)) [1] (gN 1) tTrue (e2 D.isIn (eB 1) (eC (.str [97, 98, 99, 100, 101, 102, 103, 104, 105, 106, 107, 108, 109, 110, 111, 112, 113, 114, 115, 116, 117, 118, 119, 120, 121, 122]))))))))
def m_is_name : List D → Res D := runD [true] 2 b_is_name
def b_Ledger_tagged : S := (sSeq (sIf (tOr (tNot (tE (eCall m_is_name [(eB 1)]))) (tE (e2 D.notIn (eB 1) (e2 D.idx (bFld 0 2 1) (eC (.int 1)))))) (sRaise 11) sNil) (sRet (e2 D.idx (e2 D.idx (bFld 0 2 1) (eC (.int 1))) (eB 1))))
def m_Ledger_tagged : List Fd → List D → Res D := runR 2 [true] 2 b_Ledger_tagged
def b_Ledger_now : S := (sRet (e2 D.idx (bFld 0 2 1) (eC (.int 0))))
def m_Ledger_now : List Fd → List D → Res D := runR 2 [] 1 b_Ledger_now
def b_Ledger_tags : S := (sRet (e1 D.sortedD (e2 D.idx (bFld 0 2 1) (eC (.int 1)))))
def m_Ledger_tags : List Fd → List D → Res D := runR 2 [] 1 b_Ledger_tags
def b_all_of_L : S := (sRet (eTup [(eMeth 0 2 m_Ledger_now []), (e1 D.dictK (eComp (iE (eMeth 0 2 m_Ledger_tags [])) [1] (gN 1) tTrue (eTup [(eV 1), (eMeth 0 2 m_Ledger_tagged [(eB 1)])])))]))
def m_all_of_L : List Fd → List D → Res D := runR 2 [] 2 b_all_of_L
def b_book_L : S := (sRet (e1 D.dictK (eComp (iE (eB 0)) [1] (gN 1) tTrue (eTup [(e2 D.idx (eB 1) (eC (.int 0))), (eSl (eB 1) (some (eC (.int 1))) none)]))))
def m_book_L : List D → Res D := runD [true] 2 b_book_L
def b_cell_L : S := (sSeq (sIf (tE (e2 D.ltI (eB 1) (e1 D.len (eB 0)))) (sRet (e2 D.idx (eB 0) (eB 1))) sNil) (sSeq (sIf (tE (e2 D.eq (eB 0) (eLst []))) (sRet (eC (.int 0))) sNil) (sRet (e2 D.add (e2 D.mul (e2 D.idx (eB 0) (e2 D.mod (eB 1) (e1 D.len (eB 0)))) (eC (.int 31))) (eB 1)))))
def m_cell_L : List D → Res D := runD [true, true] 2 b_cell_L
def b_pick_L : S := (sSeq (sSet 3 (e2 D.mod (e2 D.mul (e2 D.add (eCall m_cell_L [(eB 0), (eB 1)]) (e2 D.mul (eC (.int 6151)) (e2 D.add (eB 1) (eC (.int 1))))) (eC (.int 40692))) (eC (.int 2147483399)))) (sRet (e2 D.mod (e2 D.mod (e2 D.add (e2 D.mul (eB 3) (eB 3)) (e2 D.fdiv (eB 3) (eC (.int 31)))) (eC (.int 2147483629))) (eB 2))))
def m_pick_L : List D → Res D := runD [true, true, true] 4 b_pick_L
def b_path_L : S := (sSeq (sSet 2 (eLst [])) (sSeq (sWhile (tE (e2 D.ne (eB 1) (eC (.int 0)))) (sSeq (sSet 2 (e2 D.add (eLst [(e2 D.idx (e2 D.idx (eB 0) (eB 1)) (eC (.int 1)))]) (eB 2))) (sSet 1 (e2 D.idx (e2 D.idx (eB 0) (eB 1)) (eC (.int 0)))))) (sRet (e1 D.toTup (eB 2)))))
def m_path_L : List D → Res D := runD [true, true] 3 b_path_L
def b_tree_L : S := (sSeq (sOwn 3 (eRng (eC (.int 1)) (e2 D.add (eB 2) (eC (.int 4))))) (sSeq (sOwn 4 (eLst [(eC (.int 0))])) (sSeq (sOwn 5 (eLst [])) (sSeq (sFor (iR1 (eCall m_pick_L [(eB 0), (eB 1), (e2 D.add (eB 2) (eC (.int 1)))])) (gN 6) (sSeq (sPopAt 7 3 (eCall m_pick_L [(eB 0), (e2 D.add (e2 D.add (eB 1) (eC (.int 1))) (e2 D.mul (eC (.int 6)) (eB 6))), (e1 D.len (eB 3))])) (sSeq (sSet 8 (e2 D.idx (eB 4) (eCall m_pick_L [(eB 0), (e2 D.add (e2 D.add (eB 1) (eC (.int 2))) (e2 D.mul (eC (.int 6)) (eB 6))), (e1 D.len (eB 4))]))) (sSeq (sSet 9 (e2 D.idx (eLst [(eC (.str [97])), (eC (.str [98])), (eC (.str [99])), (eC (.str [97, 98, 99, 100, 101]))]) (eCall m_pick_L [(eB 0), (e2 D.add (e2 D.add (eB 1) (eC (.int 3))) (e2 D.mul (eC (.int 6)) (eB 6))), (eC (.int 4))]))) (sSeq (sSet 10 (eC .non)) (sSeq (sIf (tE (e2 D.gtI (eCall m_pick_L [(eB 0), (e2 D.add (e2 D.add (eB 1) (eC (.int 4))) (e2 D.mul (eC (.int 6)) (eB 6))), (eC (.int 5))]) (eC (.int 1)))) (sSet 10 (e2 D.idx (eLst [(eC (.int 0)), (eC (.int 1)), (eC (.int 2)), (eC (.int 999))]) (eCall m_pick_L [(eB 0), (e2 D.add (e2 D.add (eB 1) (eC (.int 5))) (e2 D.mul (eC (.int 6)) (eB 6))), (eC (.int 4))]))) sNil) (sIf (tE (e2 D.notIn (eTup [(eV 8), (eV 9)]) (eComp (iE (eB 5)) [11] (gN 11) tTrue (eSl (eB 11) (some (eC (.int 1))) (some (eC (.int 3))))))) (sSeq (sApp 5 (eTup [(eV 7), (eV 8), (eV 9), (eV 10)])) (sIf (tE (e1 D.isN (eB 10))) (sApp 4 (eV 7)) sNil)) sNil))))))) (sRet (e1 D.toTup (e1 D.sorted (eB 5))))))))
def m_tree_L : List D → Res D := runD [true, true, true] 12 b_tree_L
def b_look_folder : S := (sIf (tE (e2 D.ne (eB 1) (eC (.int 0)))) (sSeq (sDrop (eCall m_look_node [(eB 0), (eB 1)])) (sIf (tE (e1 D.notN (e2 D.idx (e2 D.idx (eCall m_book_of [(eB 0)]) (eB 1)) (eC (.int 2))))) (sRaise 3) sNil)) sNil)
def m_look_folder : List D → Res D := runD [true, true] 2 b_look_folder
def b_path_in : S := (sSeq (sOwn 2 (eLst [])) (sSeq (sSet 3 (eV 1)) (sSeq (sWhile (tE (e2 D.ne (eB 3) (eC (.int 0)))) (sSeq (sApp 2 (e2 D.idx (e2 D.idx (eB 0) (eB 3)) (eC (.int 1)))) (sSet 3 (e2 D.idx (e2 D.idx (eB 0) (eB 3)) (eC (.int 0)))))) (sRet (e1 D.toTup (e1 D.rev (eB 2)))))))
def m_path_in : List D → Res D := runD [true, false] 4 b_path_in
def b_path_of : S := (sSeq (sDrop (eCall m_look_node [(eB 0), (eB 1)])) (sRet (eCall m_path_in [(eCall m_book_of [(eB 0)]), (eV 1)])))
def m_path_of : List D → Res D := runD [true, false] 2 b_path_of
def b_below : S := (sSeq (sIf (tE (e2 D.ne (eB 1) (eC (.int 0)))) (sDrop (eCall m_look_node [(eB 0), (eB 1)])) sNil) (sSeq (sSet 2 (eCall m_book_of [(eB 0)])) (sRet (eComp (iE (e1 D.sorted (e1 D.toLst (eB 2)))) [3] (gN 3) (tAnd (tE (e2 D.ne (eB 3) (eB 1))) (tE (eCall m_is_under [(eB 2), (eV 3), (eB 1)]))) (eV 3)))))
def m_below : List D → Res D := runD [true, true] 4 b_below
def b_walked : S := (sSeq (sSet 1 (eCall m_book_of [(eB 0)])) (sRet (e1 D.sorted (eComp (iK (eB 1)) [2] (gN 2) tTrue (eTup [(eCall m_path_in [(eB 1), (eV 2)]), (eV 2)])))))
def m_walked : List D → Res D := runD [true] 3 b_walked
def b_is_seen : S := (sRet (eNot (e1 D.any (eComp (iE (eCall m_path_in [(eB 0), (eV 1)])) [3] (gN 3) tTrue (e2 D.isIn (eB 3) (eB 2))))))
def m_is_seen : List D → Res D := runD [true, false, true] 4 b_is_seen
def b_seen : S := (sSeq (sSet 2 (eCall m_book_of [(eB 0)])) (sRet (e1 D.toTup (eComp (iE (eB 0)) [3] (gN 3) (tE (eCall m_is_seen [(eB 2), (e2 D.idx (eB 3) (eC (.int 0))), (eB 1)])) (eV 3)))))
def m_seen : List D → Res D := runD [true, true] 4 b_seen
def b_change_seen : S := (sSeq (sSet 3 (eCall m_book_of [(eCall m_seen [(eB 0), (eB 2)])])) (sSeq (sSet 4 (eCall m_book_of [(eCall m_seen [(eB 1), (eB 2)])])) (sSeq (sOwn 5 (eLst [])) (sSeq (sFor (iE (e1 D.sortedSet (e2 D.add (e1 D.toLst (eB 3)) (e1 D.toLst (eB 4))))) (gN 6) (sIf (tE (e2 D.ne (eGet1 (eB 3) (eB 6)) (eGet1 (eB 4) (eB 6)))) (sApp 5 (eTup [(eV 6), (eGet1 (eB 3) (eB 6)), (eGet1 (eB 4) (eB 6))])) sNil)) (sRet (e1 D.toTup (eB 5)))))))
def m_change_seen : List D → Res D := runD [true, true, true] 7 b_change_seen
def b_cut_out : S := (sSeq (sDrop (eCall m_look_folder [(eB 0), (eB 1)])) (sSeq (sSet 2 (eCall m_below [(eB 0), (eB 1)])) (sSeq (sOwn 3 (eComp (iE (eB 0)) [4, 5, 6, 7] (gT [(gN 4), (gN 5), (gN 6), (gN 7)]) tTrue (eTup [(eV 4), (eIf (tE (e2 D.eq (eB 5) (eB 1))) (eC (.int 0)) (eV 5)), (eV 6), (eV 7)]))) (sSeq (sFrz 3) (sRet (e1 D.toTup (eComp (iE (eB 3)) [8] (gN 8) (tE (e2 D.isIn (e2 D.idx (eB 8) (eC (.int 0))) (eB 2))) (eV 8))))))))
def m_cut_out : List D → Res D := runD [true, true] 9 b_cut_out
def b_grafted : S := (sSeq (sDrop (eCall m_look_folder [(eB 0), (eB 1)])) (sSeq (sOwn 3 (eComp (iE (eB 0)) [4] (gN 4) (tE (e2 D.eq (e2 D.idx (eB 4) (eC (.int 1))) (eB 1))) (e2 D.idx (eB 4) (eC (.int 2))))) (sSeq (sFrz 3) (sSeq (sIf (tE (e1 D.any (eComp (iE (eB 2)) [4] (gN 4) tTrue (eAnd (e2 D.eq (e2 D.idx (eB 4) (eC (.int 1))) (eC (.int 0))) (e2 D.isIn (e2 D.idx (eB 4) (eC (.int 2))) (eB 3)))))) (sRaise 6) sNil) (sSeq (sSet 5 (e1 D.maxL (e2 D.add (eLst [(eC (.int 0))]) (eComp (iE (eB 0)) [4] (gN 4) tTrue (e2 D.idx (eB 4) (eC (.int 0))))))) (sSeq (sOwn 6 (eComp (iE (eB 2)) [7, 8, 9, 10] (gT [(gN 7), (gN 8), (gN 9), (gN 10)]) tTrue (eTup [(e2 D.add (eB 7) (eB 5)), (eIf (tE (e2 D.eq (eB 8) (eC (.int 0)))) (eV 1) (e2 D.add (eB 8) (eB 5))), (eV 9), (eV 10)]))) (sSeq (sFrz 6) (sRet (e2 D.add (eB 0) (e1 D.toTup (eB 6)))))))))))
def m_grafted : List D → Res D := runD [true, false, true] 11 b_grafted
def b_is_quiet : S := (sRet (e2 D.eq (eCall m_seen [(eB 0), (eB 2)]) (eCall m_seen [(eB 1), (eB 2)])))
def m_is_quiet : List D → Res D := runD [true, true, true] 3 b_is_quiet
def b_named : S := (sRet (eComp (iE (eB 0)) [2] (gN 2) (tE (e2 D.eq (e2 D.idx (eB 2) (eC (.int 2))) (eB 1))) (e2 D.idx (eB 2) (eC (.int 0)))))
def m_named : List D → Res D := runD [true, true] 3 b_named
def b_total : S := (sSeq (sDrop (eCall m_look_folder [(eB 0), (eB 1)])) (sSeq (sSet 2 (eCall m_book_of [(eB 0)])) (sSeq (sOwn 3 (eComp (iE (eCall m_below [(eB 0), (eB 1)])) [4] (gN 4) tTrue (e2 D.idx (e2 D.idx (eB 2) (eB 4)) (eC (.int 2))))) (sSeq (sFrz 3) (sSeq (sOwn 5 (eComp (iE (eB 3)) [6] (gN 6) (tE (e1 D.notN (eB 6))) (eV 6))) (sSeq (sFrz 5) (sRet (eTup [(e2 D.sub (e1 D.len (eB 3)) (e1 D.len (eB 5))), (e1 D.len (eB 5)), (e1 D.sum (eB 5))]))))))))
def m_total : List D → Res D := runD [true, true] 7 b_total
def b_without : S := (sSeq (sDrop (eCall m_look_folder [(eB 0), (eB 1)])) (sSeq (sSet 2 (eCall m_below [(eB 0), (eB 1)])) (sRet (e1 D.toTup (eComp (iE (eB 0)) [3] (gN 3) (tE (e2 D.notIn (e2 D.idx (eB 3) (eC (.int 0))) (eB 2))) (eV 3))))))
def m_without : List D → Res D := runD [true, true] 4 b_without
end Tw.M
set_option autoImplicit false
namespace Tw.K14
def b_look_folder_H : S := (sIf (tE (e2 D.ne (eB 1) (eC (.int 0)))) sStk sNil)
def m_look_folder_H : List D → Res D := runD [true, true] 2 b_look_folder_H
def b_grafted_H : S := (sSeq (sDrop (eCall m_look_folder_H [(eB 0), (eB 1)])) (sSeq (sOwn 3 (eComp (iEH (eB 0)) [4] (gN 4) (tE (e2 D.eq (e2 D.idx (eB 4) (eC (.int 1))) (eB 1))) (e2 D.idx (eB 4) (eC (.int 2))))) (sSeq (sFrz 3) (sSeq (sIf (tE (e1 D.any (eComp (iEH (eB 2)) [4] (gN 4) tTrue (eAnd (e2 D.eq (e2 D.idx (eB 4) (eC (.int 1))) (eC (.int 0))) (e2 D.isIn (e2 D.idx (eB 4) (eC (.int 2))) (eB 3)))))) sStk sNil) (sSeq (sSet 5 (e1 D.maxL (e2 D.add (eLst [(eC (.int 0))]) (eComp (iEH (eB 0)) [4] (gN 4) tTrue (e2 D.idx (eB 4) (eC (.int 0))))))) (sSeq (sOwn 6 (eComp (iEH (eB 2)) [7, 8, 9, 10] (gT [(gN 7), (gN 8), (gN 9), (gN 10)]) tTrue (eTup [(e2 D.add (eB 7) (eB 5)), (eIf (tE (e2 D.eq (eB 8) (eC (.int 0)))) (eV 1) (e2 D.add (eB 8) (eB 5))), (eV 9), (eV 10)]))) (sSeq (sFrz 6) (sRet (e2 D.add (eB 0) (e1 D.toTup (eB 6)))))))))))
def m_grafted_H : List D → Res D := runD [true, false, true] 11 b_grafted_H
def b_law : S := (sSeq (sPar 1 2 (eCall M.m_tree_L [(eB 0), (eC (.int 0)), (eC (.int 8))]) (eCall M.m_tree_L [(eB 0), (eC (.int 200)), (eC (.int 5))])) (sSeq (sSet 3 (eCall M.m_book_L [(eB 1)])) (sSeq (sSet 4 (eSl (eSl (eLst [(eC (.str [97])), (eC (.str [98])), (eC (.str [99])), (eC (.str [97, 98, 99, 100, 101]))]) (some (eCall M.m_pick_L [(eB 0), (eC (.int 300)), (eC (.int 4))])) none) none (some (e2 D.add (eC (.int 1)) (eCall M.m_pick_L [(eB 0), (eC (.int 301)), (eC (.int 2))]))))) (sSeq (sSet 5 (eCall M.m_seen [(eB 1), (eB 4)])) (sSeq (sFor (iE (eV 4)) (gN 6) (sIf (tE (e2 D.ne (eCall M.m_named [(eB 5), (eB 6)]) (eLst []))) (sRet (eC (.bl false))) sNil)) (sSeq (sFor (iE (e2 D.add (eLst [(eC (.int 0))]) (eComp (iE (e1 D.sortedD (eB 3))) [8] (gN 8) (tE (e1 D.isN (e2 D.idx (e2 D.idx (eB 3) (eB 8)) (eC (.int 2))))) (eV 8)))) (gN 7) (sSeq (sSet 9 (eCall M.m_path_L [(eB 3), (eB 7)])) (sSeq (sIf (tE (e2 D.ne (eComp (iE (eB 9)) [6] (gN 6) (tE (e2 D.isIn (eB 6) (eB 4))) (eV 6)) (eLst []))) (sSeq (sIf (tE (e2 D.isIn (eB 7) (eComp (iE (eB 5)) [10] (gN 10) tTrue (e2 D.idx (eB 10) (eC (.int 0)))))) (sRet (eC (.bl false))) sNil) sCnt) sNil) (sSeq (sIf (tE (e2 D.ne (eCall M.m_cut_out [(eB 5), (eB 7)]) (eCall M.m_seen [(eCall M.m_cut_out [(eB 1), (eB 7)]), (eB 4)]))) (sRet (eC (.bl false))) sNil) (sSeq (sIf (tE (e2 D.ne (eComp (iZip2 (eCall M.m_total [(eB 5), (eB 7)]) (eCall M.m_total [(eB 1), (eB 7)])) [11, 12] (gT [(gN 11), (gN 12)]) (tE (e2 D.gtI (eB 11) (eB 12))) (eC (.int 1))) (eLst []))) (sRet (eC (.bl false))) sNil) (sIf (tE (e2 D.ne (eCall M.m_seen [(eCall M.m_without [(eB 1), (eB 7)]), (eB 4)]) (eCall M.m_without [(eB 5), (eB 7)]))) (sRet (eC (.bl false))) sNil)))))) (sSeq (sTryX [1, 3, 6] [6] (sSet 13 (eCall M.m_grafted [(eB 1), (eC (.int 0)), (eB 2)])) (sSeq (sSet 13 (eCall m_grafted_H [(eTup []), (eC (.int 0)), (eB 2)])) (sAsg (gT [(gN 1), (gN 5)]) (eTup [(eTup []), (eTup [])])))) (sSeq (sSet 14 (e1 D.maxL (e2 D.add (eLst [(eC (.int 0))]) (eComp (iE (eB 1)) [10] (gN 10) tTrue (e2 D.idx (eB 10) (eC (.int 0))))))) (sSeq (sOwn 15 (eComp (iE (eCall M.m_seen [(eB 2), (eB 4)])) [8, 16, 6, 17] (gT [(gN 8), (gN 16), (gN 6), (gN 17)]) tTrue (eTup [(e2 D.add (eB 8) (eB 14)), (e2 D.add (eB 16) (e2 D.mul (eB 14) (e1 D.toInt (e2 D.gtI (eB 16) (eC (.int 0)))))), (eV 6), (eV 17)]))) (sSeq (sFrz 15) (sSeq (sIf (tE (e2 D.ne (eCall M.m_seen [(eB 13), (eB 4)]) (e2 D.add (eB 5) (e1 D.toTup (eB 15))))) (sRet (eC (.bl false))) sNil) (sSeq (sIf (tOr (tE (e2 D.ne (eCall M.m_is_quiet [(eB 1), (eB 13), (eB 4)]) (e2 D.eq (eB 15) (eLst [])))) (tE (e2 D.ne (e2 D.eq (eCall M.m_change_seen [(eB 1), (eB 13), (eB 4)]) (eTup [])) (e2 D.eq (eB 15) (eLst []))))) (sRet (eC (.bl false))) sNil) (sSeq (sSet 18 (eCall M.m_seen [(eB 13), (eB 4)])) (sRet (e2 D.eq (eComp (iE (eCall M.m_walked [(eB 18)])) [19] (gN 19) tTrue (e2 D.idx (eB 19) (eC (.int 0)))) (e1 D.sorted (eComp (iE (eB 18)) [10] (gN 10) tTrue (eCall M.m_path_of [(eB 13), (e2 D.idx (eB 10) (eC (.int 0)))]))))))))))))))))))
def m_law : List D → Res D := runD [true] 20 b_law
end Tw.K14
set_option autoImplicit false
set_option Elab.async false
set_option linter.all false
set_option maxRecDepth 100000
set_option maxHeartbeats 4000000
namespace Tw.K14
open PySem L2 TwHot
def top (i : Nat) : Stmt := PySem.Challenge.pw_treewatch_k14_whole_seen_and_cut.main.body.getD i (.Pass ⟨0, 0, 0, 0⟩)
abbrev st_book_of : Stmt := top 6
abbrev st_look_node : Stmt := top 7
abbrev st_path_in : Stmt := top 8
abbrev st_path_of : Stmt := top 9
abbrev st_walked : Stmt := top 10
abbrev st_is_under : Stmt := top 11
abbrev st_below : Stmt := top 12
abbrev st_is_seen : Stmt := top 14
abbrev st_seen : Stmt := top 15
abbrev st_change_seen : Stmt := top 16
abbrev st_is_quiet : Stmt := top 17
abbrev st_look_folder : Stmt := top 19
abbrev st_total : Stmt := top 20
abbrev st_cut_out : Stmt := top 22
abbrev st_grafted : Stmt := top 23
abbrev st_without : Stmt := top 24
abbrev st_named : Stmt := top 26
abbrev st_cell_L : Stmt := top 28
abbrev st_pick_L : Stmt := top 29
abbrev st_tree_L : Stmt := top 30
abbrev st_book_L : Stmt := top 31
abbrev st_path_L : Stmt := top 32
abbrev st_law : Stmt := top 34
structure Tx (K : PySem.W.Frag) (mg : Str → Option Value) (xa : XA) : Prop where
  b_any : mg "any" = none
  b_dict : mg "dict" = none
  b_int : mg "int" = none
  b_len : mg "len" = none
  b_list : mg "list" = none
  b_max : mg "max" = none
  b_range : mg "range" = none
  b_set : mg "set" = none
  b_sorted : mg "sorted" = none
  b_sum : mg "sum" = none
  b_tuple : mg "tuple" = none
  b_zip : mg "zip" = none
  x_NoNode : ExcF K mg xa "NoNode" 1
  x_NotFolder : ExcF K mg xa "NotFolder" 3
  x_Taken : ExcF K mg xa "Taken" 6
  e_all : ExcKs K xa [1, 3, 6]
  y_Taken : ExcT K mg xa [1, 3, 6] [6] "Taken" 6
variable {P : Program} {w : World} {K : PySem.W.Frag} {mg : Str → Option Value} {base : Heap} {xa : XA}
abbrev N_book_of : List Str := ["tree", "node"]
theorem df_book_of {f : Addr} {fd : FuncData} (T : Tx K mg xa)  (Fu : Fun K "book_of" "book_of" st_book_of f fd) (hb : Binds K fd ["tree"] []) (hm : mg "book_of" = some (.ref f)) (hk : PySem.W.keepIn K (.ref f) = true) : Df P w K mg base xa 1 "book_of" [true] true M.m_book_of := by
  have sc : FnScope N_book_of ["tree"] (defScope st_book_of) := ⟨rfl, rfl, rfl, by decide +kernel, rfl, by decide +kernel, by decide +kernel⟩
  exact df_core Fu sc hb hm hk rfl (by decide) (fun cdv A outer sh H Ex hcd hr => (rss_one (rs_retF (rf_t1 (ok_dictK (by rfl)) (by rfl) T.b_dict (by decide +kernel) (RF.toB (RC.toF (rc_comp (own := [("node", 1)]) (ri_lent (rb_var 0)) (by exact blkOk_by (N := N_book_of) (sc := defScope st_book_of) (own := [("node", 1)]) (by decide +kernel)) (fun _ _ _ _ _ => (rg_name (i := 1) sc.nd (by rfl) (by first | exact Or.inl rfl | exact Or.inr rfl))) (fun _ _ _ _ _ => rts_nil) (fun _ _ _ _ _ => (re_tup (ras_cons (re_sub (ok_idx (by exact hr.units)) (rb_var 1) (RE.toB re_int)) (ras_cons (re_slice (rb_var 1) (rp_some (RE.toB re_int)) rp_none) ras_nil))))) (by rfl) sc.nd)))))) (.inr nonx_ret)
abbrev N_look_node : List Str := ["tree", "number", "node"]
theorem df_look_node {f : Addr} {fd : FuncData} (T : Tx K mg xa)  (Fu : Fun K "look_node" "look_node" st_look_node f fd) (hb : Binds K fd ["tree", "number"] []) (hm : mg "look_node" = some (.ref f)) (hk : PySem.W.keepIn K (.ref f) = true) : Df P w K mg base xa 1 "look_node" [true, true] false M.m_look_node := by
  have sc : FnScope N_look_node ["tree", "number"] (defScope st_look_node) := ⟨rfl, rfl, rfl, by decide +kernel, rfl, by decide +kernel, by decide +kernel⟩
  exact df_core Fu sc hb hm hk rfl (by decide) (fun cdv A outer sh H Ex hcd hr => (rss_one (rs_if (rt_cmp (ok_notIn (by exact hr.units)) (rb_var 1) (RF.toB (RC.toF (rc_comp (own := [("node", 2)]) (ri_lent (rb_var 0)) (by exact blkOk_by (N := N_look_node) (sc := defScope st_look_node) (own := [("node", 2)]) (by decide +kernel)) (fun _ _ _ _ _ => (rg_name (i := 2) sc.nd (by rfl) (by first | exact Or.inl rfl | exact Or.inr rfl))) (fun _ _ _ _ _ => rts_nil) (fun _ _ _ _ _ => (re_sub (ok_idx (by exact hr.units)) (rb_var 2) (RE.toB re_int)))) (by rfl) sc.nd))) (rss_one (rs_raise T.x_NoNode (by rfl) (by exact takes_of rfl rfl rfl rfl))) rss_nil))) (.inl rfl)
abbrev N_path_in : List Str := ["book", "number", "made", "here"]
theorem df_path_in {f : Addr} {fd : FuncData} (T : Tx K mg xa)  (Fu : Fun K "path_in" "path_in" st_path_in f fd) (hb : Binds K fd ["book", "number"] []) (hm : mg "path_in" = some (.ref f)) (hk : PySem.W.keepIn K (.ref f) = true) : Df P w K mg base xa 1 "path_in" [true, false] false M.m_path_in := by
  have sc : FnScope N_path_in ["book", "number"] (defScope st_path_in) := ⟨rfl, rfl, rfl, by decide +kernel, rfl, by decide +kernel, by decide +kernel⟩
  exact df_core Fu sc hb hm hk rfl (by decide) (fun cdv A outer sh H Ex hcd hr => (rss_cons (rs_own (i := 2) sc.nd (by rfl) (by first | exact Or.inl rfl | exact Or.inr rfl) (rf_lst ras_nil)) (rss_cons (rs_set (i := 3) sc.nd (by rfl) (by first | exact Or.inl rfl | exact Or.inr rfl) (re_var 1)) (rss_cons (rs_while (passes_of (by rfl)) (rt_cmp (ok_ne (by exact hr.units)) (rb_var 3) (RE.toB re_int)) (rss_cons (rs_app (var_at 2) (re_sub (ok_idx (by exact hr.units)) (RE.toB (re_sub (ok_idx (by exact hr.units)) (rb_var 0) (rb_var 3))) (RE.toB re_int))) (rss_one (rs_set (i := 3) sc.nd (by rfl) (by first | exact Or.inl rfl | exact Or.inr rfl) (re_sub (ok_idx (by exact hr.units)) (RE.toB (re_sub (ok_idx (by exact hr.units)) (rb_var 0) (rb_var 3))) (RE.toB re_int)))))) (rss_one (rs_ret (re_t1 ok_toTup (by rfl) T.b_tuple (by decide +kernel) (RE.toB (re_rv (rb_var 2)))))))))) (.inl rfl)
abbrev N_path_of : List Str := ["tree", "number"]
theorem df_path_of {f : Addr} {fd : FuncData} (T : Tx K mg xa) (D_look_node : Df P w K mg base xa 1 "look_node" [true, true] false M.m_look_node) (D_path_in : Df P w K mg base xa 1 "path_in" [true, false] false M.m_path_in) (D_book_of : Df P w K mg base xa 1 "book_of" [true] true M.m_book_of) (Fu : Fun K "path_of" "path_of" st_path_of f fd) (hb : Binds K fd ["tree", "number"] []) (hm : mg "path_of" = some (.ref f)) (hk : PySem.W.keepIn K (.ref f) = true) : Df P w K mg base xa 2 "path_of" [true, false] false M.m_path_of := by
  have sc : FnScope N_path_of ["tree", "number"] (defScope st_path_of) := ⟨rfl, rfl, rfl, by decide +kernel, rfl, by decide +kernel, by decide +kernel⟩
  exact df_core Fu sc hb hm hk rfl (by decide) (fun cdv A outer sh H Ex hcd hr => (rss_cons (rs_expr (RE.toB (re_call (by exact D_look_node) (by exact hr.mono (by decide)) (by exact takes_of rfl rfl rfl rfl) (by rfl) (ram_b (rb_var 0) (ram_b (rb_var 1) ram_nil))))) (rss_one (rs_ret (re_call (by exact D_path_in) (by exact hr.mono (by decide)) (by exact takes_of rfl rfl rfl rfl) (by rfl) (ram_b (RF.toB (rf_call (by exact D_book_of) (by exact hr.mono (by decide)) (by exact takes_of rfl rfl rfl rfl) (by rfl) (ram_b (rb_var 0) ram_nil))) (ram_s (re_var 1) ram_nil))))))) (.inl rfl)
abbrev N_walked : List Str := ["tree", "book", "number"]
theorem df_walked {f : Addr} {fd : FuncData} (T : Tx K mg xa) (D_book_of : Df P w K mg base xa 1 "book_of" [true] true M.m_book_of) (D_path_in : Df P w K mg base xa 1 "path_in" [true, false] false M.m_path_in) (Fu : Fun K "walked" "walked" st_walked f fd) (hb : Binds K fd ["tree"] []) (hm : mg "walked" = some (.ref f)) (hk : PySem.W.keepIn K (.ref f) = true) : Df P w K mg base xa 2 "walked" [true] false M.m_walked := by
  have sc : FnScope N_walked ["tree"] (defScope st_walked) := ⟨rfl, rfl, rfl, by decide +kernel, rfl, by decide +kernel, by decide +kernel⟩
  exact df_core Fu sc hb hm hk rfl (by decide) (fun cdv A outer sh H Ex hcd hr => (rss_cons (rs_set (i := 1) sc.nd (by rfl) (by first | exact Or.inl rfl | exact Or.inr rfl) (RF.toE (rf_call (by exact D_book_of) (by exact hr.mono (by decide)) (by exact takes_of rfl rfl rfl rfl) (by rfl) (ram_b (rb_var 0) ram_nil)))) (rss_one (rs_ret (RF.toE (rf_b1 (ok_sorted (by exact hr.units)) (by rfl) T.b_sorted (by decide +kernel) (RF.toB (RC.toF (rc_keys (own := [("number", 2)]) (var_at 1) (by exact blkOk_by (N := N_walked) (sc := defScope st_walked) (own := [("number", 2)]) (by decide +kernel)) (fun _ _ _ _ _ => (rg_name (i := 2) sc.nd (by rfl) (by first | exact Or.inl rfl | exact Or.inr rfl))) (fun _ _ _ _ _ => rts_nil) (fun _ _ _ _ _ => (re_tup (ras_cons (re_call (by exact D_path_in) (by exact hr.mono (by decide)) (by exact takes0) (by rfl) (ram_b (rb_var 1) (ram_s (re_var 2) ram_nil))) (ras_cons (re_var 2) ras_nil))))) (by rfl) sc.nd)))))))) (.inl rfl)
abbrev N_is_under : List Str := ["book", "number", "goal", "here"]
theorem df_is_under {f : Addr} {fd : FuncData} (T : Tx K mg xa)  (Fu : Fun K "is_under" "is_under" st_is_under f fd) (hb : Binds K fd ["book", "number", "goal"] []) (hm : mg "is_under" = some (.ref f)) (hk : PySem.W.keepIn K (.ref f) = true) : Df P w K mg base xa 1 "is_under" [true, false, true] false M.m_is_under := by
  have sc : FnScope N_is_under ["book", "number", "goal"] (defScope st_is_under) := ⟨rfl, rfl, rfl, by decide +kernel, rfl, by decide +kernel, by decide +kernel⟩
  exact df_core Fu sc hb hm hk rfl (by decide) (fun cdv A outer sh H Ex hcd hr => (rss_cons (rs_set (i := 3) sc.nd (by rfl) (by first | exact Or.inl rfl | exact Or.inr rfl) (re_var 1)) (rss_cons (rs_while (passes_of (by rfl)) (rw_and (rt_cmp (ok_ne (by exact hr.units)) (rb_var 3) (RE.toB re_int)) (rw_and1 (rt_cmp (ok_ne (by exact hr.units)) (rb_var 3) (rb_var 2)))).t (rss_one (rs_set (i := 3) sc.nd (by rfl) (by first | exact Or.inl rfl | exact Or.inr rfl) (re_sub (ok_idx (by exact hr.units)) (RE.toB (re_sub (ok_idx (by exact hr.units)) (rb_var 0) (rb_var 3))) (RE.toB re_int))))) (rss_one (rs_ret (re_cmp (ok_eq (by exact hr.units)) (rb_var 3) (rb_var 2))))))) (.inl rfl)
abbrev N_below : List Str := ["tree", "number", "book", "one"]
theorem df_below {f : Addr} {fd : FuncData} (T : Tx K mg xa) (D_look_node : Df P w K mg base xa 1 "look_node" [true, true] false M.m_look_node) (D_book_of : Df P w K mg base xa 1 "book_of" [true] true M.m_book_of) (D_is_under : Df P w K mg base xa 1 "is_under" [true, false, true] false M.m_is_under) (Fu : Fun K "below" "below" st_below f fd) (hb : Binds K fd ["tree", "number"] []) (hm : mg "below" = some (.ref f)) (hk : PySem.W.keepIn K (.ref f) = true) : Df P w K mg base xa 2 "below" [true, true] false M.m_below := by
  have sc : FnScope N_below ["tree", "number"] (defScope st_below) := ⟨rfl, rfl, rfl, by decide +kernel, rfl, by decide +kernel, by decide +kernel⟩
  exact df_core Fu sc hb hm hk rfl (by decide) (fun cdv A outer sh H Ex hcd hr => (rss_cons (rs_if (rt_cmp (ok_ne (by exact hr.units)) (rb_var 1) (RE.toB re_int)) (rss_one (rs_expr (RE.toB (re_call (by exact D_look_node) (by exact hr.mono (by decide)) (by exact takes_of rfl rfl rfl rfl) (by rfl) (ram_b (rb_var 0) (ram_b (rb_var 1) ram_nil)))))) rss_nil) (rss_cons (rs_set (i := 2) sc.nd (by rfl) (by first | exact Or.inl rfl | exact Or.inr rfl) (RF.toE (rf_call (by exact D_book_of) (by exact hr.mono (by decide)) (by exact takes_of rfl rfl rfl rfl) (by rfl) (ram_b (rb_var 0) ram_nil)))) (rss_one (rs_ret (RF.toE (RC.toF (rc_comp (own := [("one", 3)]) (ri_lent (RF.toB (rf_b1 (ok_sorted (by exact hr.units)) (by rfl) T.b_sorted (by decide +kernel) (RF.toB (rf_t1 (ok_toLst (by rfl)) (by rfl) T.b_list (by decide +kernel) (rb_var 2)))))) (by exact blkOk_by (N := N_below) (sc := defScope st_below) (own := [("one", 3)]) (by decide +kernel)) (fun _ _ _ _ _ => (rg_name (i := 3) sc.nd (by rfl) (by first | exact Or.inl rfl | exact Or.inr rfl))) (fun _ _ _ _ _ => (rts_one (rw_and (rt_cmp (ok_ne (by exact hr.units)) (rb_var 3) (rb_var 1)) (rw_and1 (rt_val (RE.toB (re_call (by exact D_is_under) (by exact hr.mono (by decide)) (by exact takes0) (by rfl) (ram_b (rb_var 2) (ram_s (re_var 3) (ram_b (rb_var 1) ram_nil)))))))).t)) (fun _ _ _ _ _ => (re_var 3))) (by rfl) sc.nd))))))) (.inl rfl)
abbrev N_is_seen : List Str := ["book", "number", "names", "name"]
theorem df_is_seen {f : Addr} {fd : FuncData} (T : Tx K mg xa) (D_path_in : Df P w K mg base xa 1 "path_in" [true, false] false M.m_path_in) (Fu : Fun K "is_seen" "is_seen" st_is_seen f fd) (hb : Binds K fd ["book", "number", "names"] []) (hm : mg "is_seen" = some (.ref f)) (hk : PySem.W.keepIn K (.ref f) = true) : Df P w K mg base xa 2 "is_seen" [true, false, true] false M.m_is_seen := by
  have sc : FnScope N_is_seen ["book", "number", "names"] (defScope st_is_seen) := ⟨rfl, rfl, rfl, by decide +kernel, rfl, by decide +kernel, by decide +kernel⟩
  exact df_core Fu sc hb hm hk rfl (by decide) (fun cdv A outer sh H Ex hcd hr => (rss_one (rs_ret (re_not (RE.toB (re_b1 (ok_any (by rfl)) (by rfl) T.b_any (by decide +kernel) (RF.toB (RC.toF (rc_comp (own := [("name", 3)]) (ri_lent (RE.toB (re_call (by exact D_path_in) (by exact hr.mono (by decide)) (by exact takes_of rfl rfl rfl rfl) (by rfl) (ram_b (rb_var 0) (ram_s (re_var 1) ram_nil))))) (by exact blkOk_by (N := N_is_seen) (sc := defScope st_is_seen) (own := [("name", 3)]) (by decide +kernel)) (fun _ _ _ _ _ => (rg_name (i := 3) sc.nd (by rfl) (by first | exact Or.inl rfl | exact Or.inr rfl))) (fun _ _ _ _ _ => rts_nil) (fun _ _ _ _ _ => (re_cmp (ok_in (by exact hr.units)) (rb_var 3) (rb_var 2)))) (by rfl) sc.nd)))))))) (.inl rfl)
abbrev N_seen : List Str := ["tree", "names", "book", "node"]
theorem df_seen {f : Addr} {fd : FuncData} (T : Tx K mg xa) (D_book_of : Df P w K mg base xa 1 "book_of" [true] true M.m_book_of) (D_is_seen : Df P w K mg base xa 2 "is_seen" [true, false, true] false M.m_is_seen) (Fu : Fun K "seen" "seen" st_seen f fd) (hb : Binds K fd ["tree", "names"] []) (hm : mg "seen" = some (.ref f)) (hk : PySem.W.keepIn K (.ref f) = true) : Df P w K mg base xa 3 "seen" [true, true] false M.m_seen := by
  have sc : FnScope N_seen ["tree", "names"] (defScope st_seen) := ⟨rfl, rfl, rfl, by decide +kernel, rfl, by decide +kernel, by decide +kernel⟩
  exact df_core Fu sc hb hm hk rfl (by decide) (fun cdv A outer sh H Ex hcd hr => (rss_cons (rs_set (i := 2) sc.nd (by rfl) (by first | exact Or.inl rfl | exact Or.inr rfl) (RF.toE (rf_call (by exact D_book_of) (by exact hr.mono (by decide)) (by exact takes_of rfl rfl rfl rfl) (by rfl) (ram_b (rb_var 0) ram_nil)))) (rss_one (rs_ret (re_t1 ok_toTup (by rfl) T.b_tuple (by decide +kernel) (RF.toB (RC.toF (rc_comp (own := [("node", 3)]) (ri_lent (rb_var 0)) (by exact blkOk_by (N := N_seen) (sc := defScope st_seen) (own := [("node", 3)]) (by decide +kernel)) (fun _ _ _ _ _ => (rg_name (i := 3) sc.nd (by rfl) (by first | exact Or.inl rfl | exact Or.inr rfl))) (fun _ _ _ _ _ => (rts_one (rt_val (RE.toB (re_call (by exact D_is_seen) (by exact hr.mono (by decide)) (by exact takes0) (by rfl) (ram_b (rb_var 2) (ram_s (re_sub (ok_idx (by exact hr.units)) (rb_var 3) (RE.toB re_int)) (ram_b (rb_var 1) ram_nil)))))))) (fun _ _ _ _ _ => (re_var 3))) (by rfl) sc.nd))))))) (.inl rfl)
abbrev N_change_seen : List Str := ["one", "other", "names", "first", "second", "made", "number"]
theorem df_change_seen {f : Addr} {fd : FuncData} (T : Tx K mg xa) (D_book_of : Df P w K mg base xa 1 "book_of" [true] true M.m_book_of) (D_seen : Df P w K mg base xa 3 "seen" [true, true] false M.m_seen) (Fu : Fun K "change_seen" "change_seen" st_change_seen f fd) (hb : Binds K fd ["one", "other", "names"] []) (hm : mg "change_seen" = some (.ref f)) (hk : PySem.W.keepIn K (.ref f) = true) : Df P w K mg base xa 4 "change_seen" [true, true, true] false M.m_change_seen := by
  have sc : FnScope N_change_seen ["one", "other", "names"] (defScope st_change_seen) := ⟨rfl, rfl, rfl, by decide +kernel, rfl, by decide +kernel, by decide +kernel⟩
  exact df_core Fu sc hb hm hk rfl (by decide) (fun cdv A outer sh H Ex hcd hr => (rss_cons (rs_set (i := 3) sc.nd (by rfl) (by first | exact Or.inl rfl | exact Or.inr rfl) (RF.toE (rf_call (by exact D_book_of) (by exact hr.mono (by decide)) (by exact takes_of rfl rfl rfl rfl) (by rfl) (ram_b (RE.toB (re_call (by exact D_seen) (by exact hr.mono (by decide)) (by exact takes_of rfl rfl rfl rfl) (by rfl) (ram_b (rb_var 0) (ram_b (rb_var 2) ram_nil)))) ram_nil)))) (rss_cons (rs_set (i := 4) sc.nd (by rfl) (by first | exact Or.inl rfl | exact Or.inr rfl) (RF.toE (rf_call (by exact D_book_of) (by exact hr.mono (by decide)) (by exact takes_of rfl rfl rfl rfl) (by rfl) (ram_b (RE.toB (re_call (by exact D_seen) (by exact hr.mono (by decide)) (by exact takes_of rfl rfl rfl rfl) (by rfl) (ram_b (rb_var 1) (ram_b (rb_var 2) ram_nil)))) ram_nil)))) (rss_cons (rs_own (i := 5) sc.nd (by rfl) (by first | exact Or.inl rfl | exact Or.inr rfl) (rf_lst ras_nil)) (rss_cons (rs_for (passes_of (by rfl)) (by rfl) (ri_sh (RF.toE (MS.rf_sortedSet (by rfl) (by rfl) T.b_sorted (by rfl) T.b_set (RE.toB (re_bin ok_add (RF.toB (rf_t1 (ok_toLst (by rfl)) (by rfl) T.b_list (by decide +kernel) (rb_var 3))) (RF.toB (rf_t1 (ok_toLst (by rfl)) (by rfl) T.b_list (by decide +kernel) (rb_var 4)))))))) (rg_name (i := 6) sc.nd (by rfl) (by first | exact Or.inl rfl | exact Or.inr rfl)) (rss_one (rs_if (rt_cmp (ok_ne (by exact hr.units)) (RE.toB (re_get1 (by exact hr.units) (rb_var 3) (rb_var 6))) (RE.toB (re_get1 (by exact hr.units) (rb_var 4) (rb_var 6)))) (rss_one (rs_app (var_at 5) (re_tup (ras_cons (re_var 6) (ras_cons (re_get1 (by exact hr.units) (rb_var 3) (rb_var 6)) (ras_cons (re_get1 (by exact hr.units) (rb_var 4) (rb_var 6)) ras_nil)))))) rss_nil))) (rss_one (rs_ret (re_t1 ok_toTup (by rfl) T.b_tuple (by decide +kernel) (rb_var 5))))))))) (.inl rfl)
abbrev N_is_quiet : List Str := ["one", "other", "names"]
theorem df_is_quiet {f : Addr} {fd : FuncData} (T : Tx K mg xa) (D_seen : Df P w K mg base xa 3 "seen" [true, true] false M.m_seen) (Fu : Fun K "is_quiet" "is_quiet" st_is_quiet f fd) (hb : Binds K fd ["one", "other", "names"] []) (hm : mg "is_quiet" = some (.ref f)) (hk : PySem.W.keepIn K (.ref f) = true) : Df P w K mg base xa 4 "is_quiet" [true, true, true] false M.m_is_quiet := by
  have sc : FnScope N_is_quiet ["one", "other", "names"] (defScope st_is_quiet) := ⟨rfl, rfl, rfl, by decide +kernel, rfl, by decide +kernel, by decide +kernel⟩
  exact df_core Fu sc hb hm hk rfl (by decide) (fun cdv A outer sh H Ex hcd hr => (rss_one (rs_ret (re_cmp (ok_eq (by exact hr.units)) (RE.toB (re_call (by exact D_seen) (by exact hr.mono (by decide)) (by exact takes_of rfl rfl rfl rfl) (by rfl) (ram_b (rb_var 0) (ram_b (rb_var 2) ram_nil)))) (RE.toB (re_call (by exact D_seen) (by exact hr.mono (by decide)) (by exact takes_of rfl rfl rfl rfl) (by rfl) (ram_b (rb_var 1) (ram_b (rb_var 2) ram_nil)))))))) (.inl rfl)
abbrev N_look_folder : List Str := ["tree", "number"]
theorem df_look_folder {f : Addr} {fd : FuncData} (T : Tx K mg xa) (D_look_node : Df P w K mg base xa 1 "look_node" [true, true] false M.m_look_node) (D_book_of : Df P w K mg base xa 1 "book_of" [true] true M.m_book_of) (Fu : Fun K "look_folder" "look_folder" st_look_folder f fd) (hb : Binds K fd ["tree", "number"] []) (hm : mg "look_folder" = some (.ref f)) (hk : PySem.W.keepIn K (.ref f) = true) : Df P w K mg base xa 2 "look_folder" [true, true] false M.m_look_folder := by
  have sc : FnScope N_look_folder ["tree", "number"] (defScope st_look_folder) := ⟨rfl, rfl, rfl, by decide +kernel, rfl, by decide +kernel, by decide +kernel⟩
  exact df_core Fu sc hb hm hk rfl (by decide) (fun cdv A outer sh H Ex hcd hr => (rss_one (rs_if (rt_cmp (ok_ne (by exact hr.units)) (rb_var 1) (RE.toB re_int)) (rss_cons (rs_expr (RE.toB (re_call (by exact D_look_node) (by exact hr.mono (by decide)) (by exact takes_of rfl rfl rfl rfl) (by rfl) (ram_b (rb_var 0) (ram_b (rb_var 1) ram_nil))))) (rss_one (rs_if (rt_notN (RE.toB (re_sub (ok_idx (by exact hr.units)) (RE.toB (re_sub (ok_idx (by exact hr.units)) (RF.toB (rf_call (by exact D_book_of) (by exact hr.mono (by decide)) (by exact takes_of rfl rfl rfl rfl) (by rfl) (ram_b (rb_var 0) ram_nil))) (rb_var 1))) (RE.toB re_int)))) (rss_one (rs_raise T.x_NotFolder (by rfl) (by exact takes_of rfl rfl rfl rfl))) rss_nil))) rss_nil))) (.inl rfl)
abbrev N_total : List Str := ["tree", "number", "book", "stamps", "one", "files", "stamp"]
theorem df_total {f : Addr} {fd : FuncData} (T : Tx K mg xa) (D_look_folder : Df P w K mg base xa 2 "look_folder" [true, true] false M.m_look_folder) (D_book_of : Df P w K mg base xa 1 "book_of" [true] true M.m_book_of) (D_below : Df P w K mg base xa 2 "below" [true, true] false M.m_below) (Fu : Fun K "total" "total" st_total f fd) (hb : Binds K fd ["tree", "number"] []) (hm : mg "total" = some (.ref f)) (hk : PySem.W.keepIn K (.ref f) = true) : Df P w K mg base xa 3 "total" [true, true] false M.m_total := by
  have sc : FnScope N_total ["tree", "number"] (defScope st_total) := ⟨rfl, rfl, rfl, by decide +kernel, rfl, by decide +kernel, by decide +kernel⟩
  exact df_core Fu sc hb hm hk rfl (by decide) (fun cdv A outer sh H Ex hcd hr => (rss_cons (rs_expr (RE.toB (re_call (by exact D_look_folder) (by exact hr.mono (by decide)) (by exact takes_of rfl rfl rfl rfl) (by rfl) (ram_b (rb_var 0) (ram_b (rb_var 1) ram_nil))))) (rss_cons (rs_set (i := 2) sc.nd (by rfl) (by first | exact Or.inl rfl | exact Or.inr rfl) (RF.toE (rf_call (by exact D_book_of) (by exact hr.mono (by decide)) (by exact takes_of rfl rfl rfl rfl) (by rfl) (ram_b (rb_var 0) ram_nil)))) (rss_cons (rs_ownC (i := 3) (rc_comp (own := [("one", 4)]) (ri_lent (RE.toB (re_call (by exact D_below) (by exact hr.mono (by decide)) (by exact takes_of rfl rfl rfl rfl) (by rfl) (ram_b (rb_var 0) (ram_b (rb_var 1) ram_nil))))) (by exact blkOk_by (N := N_total) (sc := defScope st_total) (own := [("one", 4)]) (by decide +kernel)) (fun _ _ _ _ _ => (rg_name (i := 4) sc.nd (by rfl) (by first | exact Or.inl rfl | exact Or.inr rfl))) (fun _ _ _ _ _ => rts_nil) (fun _ _ _ _ _ => (re_sub (ok_idx (by exact hr.units)) (RE.toB (re_sub (ok_idx (by exact hr.units)) (rb_var 2) (rb_var 4))) (RE.toB re_int)))) (by rfl) sc.nd (by rfl) (by first | rfl | decide +kernel) (sw_true (by rfl) (by first | rfl | decide +kernel) (by rfl) (by decide +kernel))) (rss_frz 3 (rss_cons (rs_ownC (i := 5) (rc_comp (own := [("stamp", 6)]) (ri_lent (rb_var 3)) (by exact blkOk_by (N := N_total) (sc := defScope st_total) (own := [("stamp", 6)]) (by decide +kernel)) (fun _ _ _ _ _ => (rg_name (i := 6) sc.nd (by rfl) (by first | exact Or.inl rfl | exact Or.inr rfl))) (fun _ _ _ _ _ => (rts_one (rt_notN (rb_var 6)))) (fun _ _ _ _ _ => (re_var 6))) (by rfl) sc.nd (by rfl) (by first | rfl | decide +kernel) (sw_true (by rfl) (by first | rfl | decide +kernel) (by rfl) (by decide +kernel))) (rss_frz 5 (rss_one (rs_ret (re_tup (ras_cons (re_bin ok_sub (RE.toB (re_b1 ok_len (by rfl) T.b_len (by decide +kernel) (rb_var 3))) (RE.toB (re_b1 ok_len (by rfl) T.b_len (by decide +kernel) (rb_var 5)))) (ras_cons (re_b1 ok_len (by rfl) T.b_len (by decide +kernel) (rb_var 5)) (ras_cons (re_b1 (ok_sum (by rfl)) (by rfl) T.b_sum (by decide +kernel) (rb_var 5)) ras_nil))))))))))))) (.inl rfl)
abbrev N_cut_out : List Str := ["tree", "number", "some", "made", "one", "parent", "name", "stamp", "node"]
theorem df_cut_out {f : Addr} {fd : FuncData} (T : Tx K mg xa) (D_look_folder : Df P w K mg base xa 2 "look_folder" [true, true] false M.m_look_folder) (D_below : Df P w K mg base xa 2 "below" [true, true] false M.m_below) (Fu : Fun K "cut_out" "cut_out" st_cut_out f fd) (hb : Binds K fd ["tree", "number"] []) (hm : mg "cut_out" = some (.ref f)) (hk : PySem.W.keepIn K (.ref f) = true) : Df P w K mg base xa 3 "cut_out" [true, true] false M.m_cut_out := by
  have sc : FnScope N_cut_out ["tree", "number"] (defScope st_cut_out) := ⟨rfl, rfl, rfl, by decide +kernel, rfl, by decide +kernel, by decide +kernel⟩
  exact df_core Fu sc hb hm hk rfl (by decide) (fun cdv A outer sh H Ex hcd hr => (rss_cons (rs_expr (RE.toB (re_call (by exact D_look_folder) (by exact hr.mono (by decide)) (by exact takes_of rfl rfl rfl rfl) (by rfl) (ram_b (rb_var 0) (ram_b (rb_var 1) ram_nil))))) (rss_cons (rs_set (i := 2) sc.nd (by rfl) (by first | exact Or.inl rfl | exact Or.inr rfl) (re_call (by exact D_below) (by exact hr.mono (by decide)) (by exact takes_of rfl rfl rfl rfl) (by rfl) (ram_b (rb_var 0) (ram_b (rb_var 1) ram_nil)))) (rss_cons (rs_ownC (i := 3) (rc_comp (own := [("one", 4), ("parent", 5), ("name", 6), ("stamp", 7)]) (ri_lent (rb_var 0)) (by exact blkOk_by (N := N_cut_out) (sc := defScope st_cut_out) (own := [("one", 4), ("parent", 5), ("name", 6), ("stamp", 7)]) (by decide +kernel)) (fun _ _ _ _ _ => (rg_tup (by rfl) (rgs_cons (rg_name (i := 4) sc.nd (by rfl) (by first | exact Or.inl rfl | exact Or.inr rfl)) (rgs_cons (rg_name (i := 5) sc.nd (by rfl) (by first | exact Or.inl rfl | exact Or.inr rfl)) (rgs_cons (rg_name (i := 6) sc.nd (by rfl) (by first | exact Or.inl rfl | exact Or.inr rfl)) (rgs_cons (rg_name (i := 7) sc.nd (by rfl) (by first | exact Or.inl rfl | exact Or.inr rfl)) rgs_nil)))))) (fun _ _ _ _ _ => rts_nil) (fun _ _ _ _ _ => (re_tup (ras_cons (re_var 4) (ras_cons (re_ifExp (rt_cmp (ok_eq (by exact hr.units)) (rb_var 5) (rb_var 1)) re_int (re_var 5)) (ras_cons (re_var 6) (ras_cons (re_var 7) ras_nil))))))) (by rfl) sc.nd (by rfl) (by first | rfl | decide +kernel) (sw_true (by rfl) (by first | rfl | decide +kernel) (by rfl) (by decide +kernel))) (rss_frz 3 (rss_one (rs_ret (re_t1 ok_toTup (by rfl) T.b_tuple (by decide +kernel) (RF.toB (RC.toF (rc_comp (own := [("node", 8)]) (ri_lent (rb_var 3)) (by exact blkOk_by (N := N_cut_out) (sc := defScope st_cut_out) (own := [("node", 8)]) (by decide +kernel)) (fun _ _ _ _ _ => (rg_name (i := 8) sc.nd (by rfl) (by first | exact Or.inl rfl | exact Or.inr rfl))) (fun _ _ _ _ _ => (rts_one (rt_cmp (ok_in (by exact hr.units)) (RE.toB (re_sub (ok_idx (by exact hr.units)) (rb_var 8) (RE.toB re_int))) (rb_var 2)))) (fun _ _ _ _ _ => (re_var 8))) (by rfl) sc.nd)))))))))) (.inl rfl)
abbrev N_grafted : List Str := ["tree", "number", "other", "taken", "node", "by", "made", "one", "parent", "name", "stamp"]
theorem df_grafted {f : Addr} {fd : FuncData} (T : Tx K mg xa) (D_look_folder : Df P w K mg base xa 2 "look_folder" [true, true] false M.m_look_folder) (Fu : Fun K "grafted" "grafted" st_grafted f fd) (hb : Binds K fd ["tree", "number", "other"] []) (hm : mg "grafted" = some (.ref f)) (hk : PySem.W.keepIn K (.ref f) = true) : Df P w K mg base xa 3 "grafted" [true, false, true] false M.m_grafted := by
  have sc : FnScope N_grafted ["tree", "number", "other"] (defScope st_grafted) := ⟨rfl, rfl, rfl, by decide +kernel, rfl, by decide +kernel, by decide +kernel⟩
  exact df_core Fu sc hb hm hk rfl (by decide) (fun cdv A outer sh H Ex hcd hr => (rss_cons (rs_expr (RE.toB (re_call (by exact D_look_folder) (by exact hr.mono (by decide)) (by exact takes_of rfl rfl rfl rfl) (by rfl) (ram_b (rb_var 0) (ram_b (rb_var 1) ram_nil))))) (rss_cons (rs_own (i := 3) sc.nd (by rfl) (by first | exact Or.inl rfl | exact Or.inr rfl) (RC.toF (rc_comp (own := [("node", 4)]) (ri_lent (rb_var 0)) (by exact blkOk_by (N := N_grafted) (sc := defScope st_grafted) (own := [("node", 4)]) (by decide +kernel)) (fun _ _ _ _ _ => (rg_name (i := 4) sc.nd (by rfl) (by first | exact Or.inl rfl | exact Or.inr rfl))) (fun _ _ _ _ _ => (rts_one (rt_cmp (ok_eq (by exact hr.units)) (RE.toB (re_sub (ok_idx (by exact hr.units)) (rb_var 4) (RE.toB re_int))) (rb_var 1)))) (fun _ _ _ _ _ => (re_sub (ok_idx (by exact hr.units)) (rb_var 4) (RE.toB re_int)))) (by rfl) sc.nd)) (rss_frz 3 (rss_cons (rs_if (rt_val (RE.toB (re_b1 (ok_any (by rfl)) (by rfl) T.b_any (by decide +kernel) (RF.toB (RC.toF (rc_comp (own := [("node", 4)]) (ri_lent (rb_var 2)) (by exact blkOk_by (N := N_grafted) (sc := defScope st_grafted) (own := [("node", 4)]) (by decide +kernel)) (fun _ _ _ _ _ => (rg_name (i := 4) sc.nd (by rfl) (by first | exact Or.inl rfl | exact Or.inr rfl))) (fun _ _ _ _ _ => rts_nil) (fun _ _ _ _ _ => (re_and (RE.toB (re_cmp (ok_eq (by exact hr.units)) (RE.toB (re_sub (ok_idx (by exact hr.units)) (rb_var 4) (RE.toB re_int))) (RE.toB re_int))) (re_one (re_cmp (ok_in (by exact hr.units)) (RE.toB (re_sub (ok_idx (by exact hr.units)) (rb_var 4) (RE.toB re_int))) (rb_var 3)))))) (by rfl) sc.nd))))) (rss_one (rs_raise T.x_Taken (by rfl) (by exact takes_of rfl rfl rfl rfl))) rss_nil) (rss_cons (rs_set (i := 5) sc.nd (by rfl) (by first | exact Or.inl rfl | exact Or.inr rfl) (re_b1 (ok_maxL (by rfl)) (by rfl) T.b_max (by decide +kernel) (RE.toB (re_bin ok_add (RF.toB (rf_lst (ras_cons re_int ras_nil))) (RF.toB (RC.toF (rc_comp (own := [("node", 4)]) (ri_lent (rb_var 0)) (by exact blkOk_by (N := N_grafted) (sc := defScope st_grafted) (own := [("node", 4)]) (by decide +kernel)) (fun _ _ _ _ _ => (rg_name (i := 4) sc.nd (by rfl) (by first | exact Or.inl rfl | exact Or.inr rfl))) (fun _ _ _ _ _ => rts_nil) (fun _ _ _ _ _ => (re_sub (ok_idx (by exact hr.units)) (rb_var 4) (RE.toB re_int)))) (by rfl) sc.nd)))))) (rss_cons (rs_ownC (i := 6) (rc_comp (own := [("one", 7), ("parent", 8), ("name", 9), ("stamp", 10)]) (ri_lent (rb_var 2)) (by exact blkOk_by (N := N_grafted) (sc := defScope st_grafted) (own := [("one", 7), ("parent", 8), ("name", 9), ("stamp", 10)]) (by decide +kernel)) (fun _ _ _ _ _ => (rg_tup (by rfl) (rgs_cons (rg_name (i := 7) sc.nd (by rfl) (by first | exact Or.inl rfl | exact Or.inr rfl)) (rgs_cons (rg_name (i := 8) sc.nd (by rfl) (by first | exact Or.inl rfl | exact Or.inr rfl)) (rgs_cons (rg_name (i := 9) sc.nd (by rfl) (by first | exact Or.inl rfl | exact Or.inr rfl)) (rgs_cons (rg_name (i := 10) sc.nd (by rfl) (by first | exact Or.inl rfl | exact Or.inr rfl)) rgs_nil)))))) (fun _ _ _ _ _ => rts_nil) (fun _ _ _ _ _ => (re_tup (ras_cons (re_bin ok_add (rb_var 7) (rb_var 5)) (ras_cons (re_ifExp (rt_cmp (ok_eq (by exact hr.units)) (rb_var 8) (RE.toB re_int)) (re_var 1) (re_bin ok_add (rb_var 8) (rb_var 5))) (ras_cons (re_var 9) (ras_cons (re_var 10) ras_nil))))))) (by rfl) sc.nd (by rfl) (by first | rfl | decide +kernel) (sw_true (by rfl) (by first | rfl | decide +kernel) (by rfl) (by decide +kernel))) (rss_frz 6 (rss_one (rs_ret (re_bin ok_add (rb_var 0) (RE.toB (re_t1 ok_toTup (by rfl) T.b_tuple (by decide +kernel) (rb_var 6)))))))))))))) (.inl rfl)
abbrev N_without : List Str := ["tree", "number", "some", "node"]
theorem df_without {f : Addr} {fd : FuncData} (T : Tx K mg xa) (D_look_folder : Df P w K mg base xa 2 "look_folder" [true, true] false M.m_look_folder) (D_below : Df P w K mg base xa 2 "below" [true, true] false M.m_below) (Fu : Fun K "without" "without" st_without f fd) (hb : Binds K fd ["tree", "number"] []) (hm : mg "without" = some (.ref f)) (hk : PySem.W.keepIn K (.ref f) = true) : Df P w K mg base xa 3 "without" [true, true] false M.m_without := by
  have sc : FnScope N_without ["tree", "number"] (defScope st_without) := ⟨rfl, rfl, rfl, by decide +kernel, rfl, by decide +kernel, by decide +kernel⟩
  exact df_core Fu sc hb hm hk rfl (by decide) (fun cdv A outer sh H Ex hcd hr => (rss_cons (rs_expr (RE.toB (re_call (by exact D_look_folder) (by exact hr.mono (by decide)) (by exact takes_of rfl rfl rfl rfl) (by rfl) (ram_b (rb_var 0) (ram_b (rb_var 1) ram_nil))))) (rss_cons (rs_set (i := 2) sc.nd (by rfl) (by first | exact Or.inl rfl | exact Or.inr rfl) (re_call (by exact D_below) (by exact hr.mono (by decide)) (by exact takes_of rfl rfl rfl rfl) (by rfl) (ram_b (rb_var 0) (ram_b (rb_var 1) ram_nil)))) (rss_one (rs_ret (re_t1 ok_toTup (by rfl) T.b_tuple (by decide +kernel) (RF.toB (RC.toF (rc_comp (own := [("node", 3)]) (ri_lent (rb_var 0)) (by exact blkOk_by (N := N_without) (sc := defScope st_without) (own := [("node", 3)]) (by decide +kernel)) (fun _ _ _ _ _ => (rg_name (i := 3) sc.nd (by rfl) (by first | exact Or.inl rfl | exact Or.inr rfl))) (fun _ _ _ _ _ => (rts_one (rt_cmp (ok_notIn (by exact hr.units)) (RE.toB (re_sub (ok_idx (by exact hr.units)) (rb_var 3) (RE.toB re_int))) (rb_var 2)))) (fun _ _ _ _ _ => (re_var 3))) (by rfl) sc.nd)))))))) (.inl rfl)
abbrev N_named : List Str := ["tree", "name", "node"]
theorem df_named {f : Addr} {fd : FuncData} (T : Tx K mg xa)  (Fu : Fun K "named" "named" st_named f fd) (hb : Binds K fd ["tree", "name"] []) (hm : mg "named" = some (.ref f)) (hk : PySem.W.keepIn K (.ref f) = true) : Df P w K mg base xa 1 "named" [true, true] false M.m_named := by
  have sc : FnScope N_named ["tree", "name"] (defScope st_named) := ⟨rfl, rfl, rfl, by decide +kernel, rfl, by decide +kernel, by decide +kernel⟩
  exact df_core Fu sc hb hm hk rfl (by decide) (fun cdv A outer sh H Ex hcd hr => (rss_one (rs_ret (RF.toE (RC.toF (rc_comp (own := [("node", 2)]) (ri_lent (rb_var 0)) (by exact blkOk_by (N := N_named) (sc := defScope st_named) (own := [("node", 2)]) (by decide +kernel)) (fun _ _ _ _ _ => (rg_name (i := 2) sc.nd (by rfl) (by first | exact Or.inl rfl | exact Or.inr rfl))) (fun _ _ _ _ _ => (rts_one (rt_cmp (ok_eq (by exact hr.units)) (RE.toB (re_sub (ok_idx (by exact hr.units)) (rb_var 2) (RE.toB re_int))) (rb_var 1)))) (fun _ _ _ _ _ => (re_sub (ok_idx (by exact hr.units)) (rb_var 2) (RE.toB re_int)))) (by rfl) sc.nd))))) (.inl rfl)
abbrev N_cell_L : List Str := ["_law_script", "_law_k"]
theorem df_cell_L {f : Addr} {fd : FuncData} (T : Tx K mg xa)  (Fu : Fun K "_law_cell" "_law_cell" st_cell_L f fd) (hb : Binds K fd ["_law_script", "_law_k"] []) (hm : mg "_law_cell" = some (.ref f)) (hk : PySem.W.keepIn K (.ref f) = true) : Df P w K mg base xa 1 "_law_cell" [true, true] false M.m_cell_L := by
  have sc : FnScope N_cell_L ["_law_script", "_law_k"] (defScope st_cell_L) := ⟨rfl, rfl, rfl, by decide +kernel, rfl, by decide +kernel, by decide +kernel⟩
  exact df_core Fu sc hb hm hk rfl (by decide) (fun cdv A outer sh H Ex hcd hr => (rss_cons (rs_if (rt_cmp ok_ltI (rb_var 1) (RE.toB (re_b1 ok_len (by rfl) T.b_len (by decide +kernel) (rb_var 0)))) (rss_one (rs_ret (re_sub (ok_idx (by exact hr.units)) (rb_var 0) (rb_var 1)))) rss_nil) (rss_cons (rs_if (rt_cmp (ok_eq (by exact hr.units)) (rb_var 0) (RF.toB (rf_lst ras_nil))) (rss_one (rs_ret re_int)) rss_nil) (rss_one (rs_ret (re_bin ok_add (RE.toB (re_bin ok_mul (RE.toB (re_sub (ok_idx (by exact hr.units)) (rb_var 0) (RE.toB (re_bin ok_mod (rb_var 1) (RE.toB (re_b1 ok_len (by rfl) T.b_len (by decide +kernel) (rb_var 0))))))) (RE.toB re_int))) (rb_var 1))))))) (.inl rfl)
abbrev N_pick_L : List Str := ["_law_script", "_law_k", "_law_many", "_law_drawn"]
theorem df_pick_L {f : Addr} {fd : FuncData} (T : Tx K mg xa) (D_cell_L : Df P w K mg base xa 1 "_law_cell" [true, true] false M.m_cell_L) (Fu : Fun K "_law_pick" "_law_pick" st_pick_L f fd) (hb : Binds K fd ["_law_script", "_law_k", "_law_many"] []) (hm : mg "_law_pick" = some (.ref f)) (hk : PySem.W.keepIn K (.ref f) = true) : Df P w K mg base xa 2 "_law_pick" [true, true, true] false M.m_pick_L := by
  have sc : FnScope N_pick_L ["_law_script", "_law_k", "_law_many"] (defScope st_pick_L) := ⟨rfl, rfl, rfl, by decide +kernel, rfl, by decide +kernel, by decide +kernel⟩
  exact df_core Fu sc hb hm hk rfl (by decide) (fun cdv A outer sh H Ex hcd hr => (rss_cons (rs_set (i := 3) sc.nd (by rfl) (by first | exact Or.inl rfl | exact Or.inr rfl) (re_bin ok_mod (RE.toB (re_bin ok_mul (RE.toB (re_bin ok_add (RE.toB (re_call (by exact D_cell_L) (by exact hr.mono (by decide)) (by exact takes_of rfl rfl rfl rfl) (by rfl) (ram_b (rb_var 0) (ram_b (rb_var 1) ram_nil)))) (RE.toB (re_bin ok_mul (RE.toB re_int) (RE.toB (re_bin ok_add (rb_var 1) (RE.toB re_int))))))) (RE.toB re_int))) (RE.toB re_int))) (rss_one (rs_ret (re_bin ok_mod (RE.toB (re_bin ok_mod (RE.toB (re_bin ok_add (RE.toB (re_bin ok_mul (rb_var 3) (rb_var 3))) (RE.toB (re_bin ok_fdiv (rb_var 3) (RE.toB re_int))))) (RE.toB re_int))) (rb_var 2)))))) (.inl rfl)
abbrev N_tree_L : List Str := ["_law_script", "_law_at", "_law_most", "_law_left", "_law_folders", "_law_nodes", "_law_k", "_law_number", "_law_parent", "_law_name", "_law_stamp", "_law_node"]
theorem df_tree_L {f : Addr} {fd : FuncData} (T : Tx K mg xa) (D_pick_L : Df P w K mg base xa 2 "_law_pick" [true, true, true] false M.m_pick_L) (Fu : Fun K "_law_tree" "_law_tree" st_tree_L f fd) (hb : Binds K fd ["_law_script", "_law_at", "_law_most"] []) (hm : mg "_law_tree" = some (.ref f)) (hk : PySem.W.keepIn K (.ref f) = true) : Df P w K mg base xa 3 "_law_tree" [true, true, true] false M.m_tree_L := by
  have sc : FnScope N_tree_L ["_law_script", "_law_at", "_law_most"] (defScope st_tree_L) := ⟨rfl, rfl, rfl, by decide +kernel, rfl, by decide +kernel, by decide +kernel⟩
  exact df_core Fu sc hb hm hk rfl (by decide) (fun cdv A outer sh H Ex hcd hr => (rss_cons (rs_own (i := 3) sc.nd (by rfl) (by first | exact Or.inl rfl | exact Or.inr rfl) (rf_rng (by rfl) (by rfl) T.b_list (by rfl) T.b_range (RE.toB re_int) (RE.toB (re_bin ok_add (rb_var 2) (RE.toB re_int))))) (rss_cons (rs_own (i := 4) sc.nd (by rfl) (by first | exact Or.inl rfl | exact Or.inr rfl) (rf_lst (ras_cons re_int ras_nil))) (rss_cons (rs_own (i := 5) sc.nd (by rfl) (by first | exact Or.inl rfl | exact Or.inr rfl) (rf_lst ras_nil)) (rss_cons (rs_for (passes_of (by rfl)) (by rfl) (ri_r1 (by rfl) T.b_range (RE.toB (re_call (by exact D_pick_L) (by exact hr.mono (by decide)) (by exact takes_of rfl rfl rfl rfl) (by rfl) (ram_b (rb_var 0) (ram_b (rb_var 1) (ram_b (RE.toB (re_bin ok_add (rb_var 2) (RE.toB re_int))) ram_nil)))))) (rg_name (i := 6) sc.nd (by rfl) (by first | exact Or.inl rfl | exact Or.inr rfl)) (rss_cons (rs_popAt (i := 3) (j := 7) (var_at 3) (RE.toB (re_call (by exact D_pick_L) (by exact hr.mono (by decide)) (by exact takes_of rfl rfl rfl rfl) (by rfl) (ram_b (rb_var 0) (ram_b (RE.toB (re_bin ok_add (RE.toB (re_bin ok_add (rb_var 1) (RE.toB re_int))) (RE.toB (re_bin ok_mul (RE.toB re_int) (rb_var 6))))) (ram_b (RE.toB (re_b1 ok_len (by rfl) T.b_len (by decide +kernel) (rb_var 3))) ram_nil))))) sc.nd (by rfl) (by first | exact Or.inl rfl | exact Or.inr rfl)) (rss_cons (rs_set (i := 8) sc.nd (by rfl) (by first | exact Or.inl rfl | exact Or.inr rfl) (re_sub (ok_idx (by exact hr.units)) (rb_var 4) (RE.toB (re_call (by exact D_pick_L) (by exact hr.mono (by decide)) (by exact takes_of rfl rfl rfl rfl) (by rfl) (ram_b (rb_var 0) (ram_b (RE.toB (re_bin ok_add (RE.toB (re_bin ok_add (rb_var 1) (RE.toB re_int))) (RE.toB (re_bin ok_mul (RE.toB re_int) (rb_var 6))))) (ram_b (RE.toB (re_b1 ok_len (by rfl) T.b_len (by decide +kernel) (rb_var 4))) ram_nil))))))) (rss_cons (rs_set (i := 9) sc.nd (by rfl) (by first | exact Or.inl rfl | exact Or.inr rfl) (re_sub (ok_idx (by exact hr.units)) (RF.toB (rf_lst (ras_cons (re_str [97]) (ras_cons (re_str [98]) (ras_cons (re_str [99]) (ras_cons (re_str [97, 98, 99, 100, 101]) ras_nil)))))) (RE.toB (re_call (by exact D_pick_L) (by exact hr.mono (by decide)) (by exact takes_of rfl rfl rfl rfl) (by rfl) (ram_b (rb_var 0) (ram_b (RE.toB (re_bin ok_add (RE.toB (re_bin ok_add (rb_var 1) (RE.toB re_int))) (RE.toB (re_bin ok_mul (RE.toB re_int) (rb_var 6))))) (ram_b (RE.toB re_int) ram_nil))))))) (rss_cons (rs_set (i := 10) sc.nd (by rfl) (by first | exact Or.inl rfl | exact Or.inr rfl) re_non) (rss_cons (rs_if (rt_cmp ok_gtI (RE.toB (re_call (by exact D_pick_L) (by exact hr.mono (by decide)) (by exact takes_of rfl rfl rfl rfl) (by rfl) (ram_b (rb_var 0) (ram_b (RE.toB (re_bin ok_add (RE.toB (re_bin ok_add (rb_var 1) (RE.toB re_int))) (RE.toB (re_bin ok_mul (RE.toB re_int) (rb_var 6))))) (ram_b (RE.toB re_int) ram_nil))))) (RE.toB re_int)) (rss_one (rs_set (i := 10) sc.nd (by rfl) (by first | exact Or.inl rfl | exact Or.inr rfl) (re_sub (ok_idx (by exact hr.units)) (RF.toB (rf_lst (ras_cons re_int (ras_cons re_int (ras_cons re_int (ras_cons re_int ras_nil)))))) (RE.toB (re_call (by exact D_pick_L) (by exact hr.mono (by decide)) (by exact takes_of rfl rfl rfl rfl) (by rfl) (ram_b (rb_var 0) (ram_b (RE.toB (re_bin ok_add (RE.toB (re_bin ok_add (rb_var 1) (RE.toB re_int))) (RE.toB (re_bin ok_mul (RE.toB re_int) (rb_var 6))))) (ram_b (RE.toB re_int) ram_nil)))))))) rss_nil) (rss_one (rs_if (rt_cmp (ok_notIn (by exact hr.units)) (RE.toB (re_tup (ras_cons (re_var 8) (ras_cons (re_var 9) ras_nil)))) (RF.toB (RC.toF (rc_comp (own := [("_law_node", 11)]) (ri_lent (rb_var 5)) (by exact blkOk_by (N := N_tree_L) (sc := defScope st_tree_L) (own := [("_law_node", 11)]) (by decide +kernel)) (fun _ _ _ _ _ => (rg_name (i := 11) sc.nd (by rfl) (by first | exact Or.inl rfl | exact Or.inr rfl))) (fun _ _ _ _ _ => rts_nil) (fun _ _ _ _ _ => (re_slice (rb_var 11) (rp_some (RE.toB re_int)) (rp_some (RE.toB re_int))))) (by rfl) sc.nd))) (rss_cons (rs_app (var_at 5) (re_tup (ras_cons (re_var 7) (ras_cons (re_var 8) (ras_cons (re_var 9) (ras_cons (re_var 10) ras_nil)))))) (rss_one (rs_if (rt_isN (rb_var 10)) (rss_one (rs_app (var_at 4) (re_var 7))) rss_nil))) rss_nil)))))))) (rss_one (rs_ret (re_t1 ok_toTup (by rfl) T.b_tuple (by decide +kernel) (RF.toB (rf_b1 (ok_sorted (by exact hr.units)) (by rfl) T.b_sorted (by decide +kernel) (rb_var 5))))))))))) (.inl rfl)
abbrev N_book_L : List Str := ["_law_tree_here", "_law_node"]
theorem df_book_L {f : Addr} {fd : FuncData} (T : Tx K mg xa)  (Fu : Fun K "_law_book" "_law_book" st_book_L f fd) (hb : Binds K fd ["_law_tree_here"] []) (hm : mg "_law_book" = some (.ref f)) (hk : PySem.W.keepIn K (.ref f) = true) : Df P w K mg base xa 1 "_law_book" [true] true M.m_book_L := by
  have sc : FnScope N_book_L ["_law_tree_here"] (defScope st_book_L) := ⟨rfl, rfl, rfl, by decide +kernel, rfl, by decide +kernel, by decide +kernel⟩
  exact df_core Fu sc hb hm hk rfl (by decide) (fun cdv A outer sh H Ex hcd hr => (rss_one (rs_retF (rf_t1 (ok_dictK (by rfl)) (by rfl) T.b_dict (by decide +kernel) (RF.toB (RC.toF (rc_comp (own := [("_law_node", 1)]) (ri_lent (rb_var 0)) (by exact blkOk_by (N := N_book_L) (sc := defScope st_book_L) (own := [("_law_node", 1)]) (by decide +kernel)) (fun _ _ _ _ _ => (rg_name (i := 1) sc.nd (by rfl) (by first | exact Or.inl rfl | exact Or.inr rfl))) (fun _ _ _ _ _ => rts_nil) (fun _ _ _ _ _ => (re_tup (ras_cons (re_sub (ok_idx (by exact hr.units)) (rb_var 1) (RE.toB re_int)) (ras_cons (re_slice (rb_var 1) (rp_some (RE.toB re_int)) rp_none) ras_nil))))) (by rfl) sc.nd)))))) (.inr nonx_ret)
abbrev N_path_L : List Str := ["_law_book_here", "_law_number", "_law_names"]
theorem df_path_L {f : Addr} {fd : FuncData} (T : Tx K mg xa)  (Fu : Fun K "_law_path" "_law_path" st_path_L f fd) (hb : Binds K fd ["_law_book_here", "_law_number"] []) (hm : mg "_law_path" = some (.ref f)) (hk : PySem.W.keepIn K (.ref f) = true) : Df P w K mg base xa 1 "_law_path" [true, true] false M.m_path_L := by
  have sc : FnScope N_path_L ["_law_book_here", "_law_number"] (defScope st_path_L) := ⟨rfl, rfl, rfl, by decide +kernel, rfl, by decide +kernel, by decide +kernel⟩
  exact df_core Fu sc hb hm hk rfl (by decide) (fun cdv A outer sh H Ex hcd hr => (rss_cons (rs_set (i := 2) sc.nd (by rfl) (by first | exact Or.inl rfl | exact Or.inr rfl) (RF.toE (rf_lst ras_nil))) (rss_cons (rs_while (passes_of (by rfl)) (rt_cmp (ok_ne (by exact hr.units)) (rb_var 1) (RE.toB re_int)) (rss_cons (rs_set (i := 2) sc.nd (by rfl) (by first | exact Or.inl rfl | exact Or.inr rfl) (re_bin ok_add (RF.toB (rf_lst (ras_cons (re_sub (ok_idx (by exact hr.units)) (RE.toB (re_sub (ok_idx (by exact hr.units)) (rb_var 0) (rb_var 1))) (RE.toB re_int)) ras_nil))) (rb_var 2))) (rss_one (rs_set (i := 1) sc.nd (by rfl) (by first | exact Or.inl rfl | exact Or.inr rfl) (re_sub (ok_idx (by exact hr.units)) (RE.toB (re_sub (ok_idx (by exact hr.units)) (rb_var 0) (rb_var 1))) (RE.toB re_int)))))) (rss_one (rs_ret (re_t1 ok_toTup (by rfl) T.b_tuple (by decide +kernel) (rb_var 2))))))) (.inl rfl)
abbrev N_law : List Str := ["_law_script", "_law_tree_here", "_law_other", "_law_book_here", "_law_names", "_law_made", "_law_name", "_law_folder", "_law_one", "_law_ahead", "_law_node", "_law_few", "_law_more_of", "_law_whole", "_law_by", "_law_due", "_law_parent", "_law_stamp", "_law_told", "_law_row"]
theorem dn_book_of {f : Addr} {fd : FuncData} (T : Tx K mg xa)  (Fu : Fun K "book_of" "book_of" st_book_of f fd) (hb : Binds K fd ["tree"] []) (hm : mg "book_of" = some (.ref f)) (hk : PySem.W.keepIn K (.ref f) = true) : DfN P w K mg base xa 1 "book_of" [true] true M.m_book_of := by
  have sc : FnScope N_book_of ["tree"] (defScope st_book_of) := ⟨rfl, rfl, rfl, by decide +kernel, rfl, by decide +kernel, by decide +kernel⟩
  exact df_coreN Fu sc hb hm hk rfl (by decide) (fun cdv A outer sh H Ex hcd hr => (rss_one (rs_retF (rf_t1 (ok_dictK (by rfl)) (by rfl) T.b_dict (by decide +kernel) (RF.toB (RC.toF (rc_comp (own := [("node", 1)]) (ri_lent (rb_var 0)) (by exact blkOk_by (N := N_book_of) (sc := defScope st_book_of) (own := [("node", 1)]) (by decide +kernel)) (fun _ _ _ _ _ => (rg_name (i := 1) sc.nd (by rfl) (by first | exact Or.inl rfl | exact Or.inr rfl))) (fun _ _ _ _ _ => rts_nil) (fun _ _ _ _ _ => (re_tup (ras_cons (re_sub (ok_idx (by exact hr.units)) (rb_var 1) (RE.toB re_int)) (ras_cons (re_slice (rb_var 1) (rp_some (RE.toB re_int)) rp_none) ras_nil))))) (by rfl) sc.nd)))))) (.inr nonx_ret)
theorem dn_look_node {f : Addr} {fd : FuncData} (T : Tx K mg xa)  (Fu : Fun K "look_node" "look_node" st_look_node f fd) (hb : Binds K fd ["tree", "number"] []) (hm : mg "look_node" = some (.ref f)) (hk : PySem.W.keepIn K (.ref f) = true) : DfN P w K mg base xa 1 "look_node" [true, true] false M.m_look_node := by
  have sc : FnScope N_look_node ["tree", "number"] (defScope st_look_node) := ⟨rfl, rfl, rfl, by decide +kernel, rfl, by decide +kernel, by decide +kernel⟩
  exact df_coreN Fu sc hb hm hk rfl (by decide) (fun cdv A outer sh H Ex hcd hr => (rss_one (rs_if (rt_cmp (ok_notIn (by exact hr.units)) (rb_var 1) (RF.toB (RC.toF (rc_comp (own := [("node", 2)]) (ri_lent (rb_var 0)) (by exact blkOk_by (N := N_look_node) (sc := defScope st_look_node) (own := [("node", 2)]) (by decide +kernel)) (fun _ _ _ _ _ => (rg_name (i := 2) sc.nd (by rfl) (by first | exact Or.inl rfl | exact Or.inr rfl))) (fun _ _ _ _ _ => rts_nil) (fun _ _ _ _ _ => (re_sub (ok_idx (by exact hr.units)) (rb_var 2) (RE.toB re_int)))) (by rfl) sc.nd))) (rss_one (rs_raiseN T.x_NoNode (by rfl) (by exact L2N.takes_of rfl rfl rfl rfl))) rss_nil))) (.inl rfl)
theorem dn_look_folder {f : Addr} {fd : FuncData} (T : Tx K mg xa) (D_look_node : DfN P w K mg base xa 1 "look_node" [true, true] false M.m_look_node) (D_book_of : DfN P w K mg base xa 1 "book_of" [true] true M.m_book_of) (Fu : Fun K "look_folder" "look_folder" st_look_folder f fd) (hb : Binds K fd ["tree", "number"] []) (hm : mg "look_folder" = some (.ref f)) (hk : PySem.W.keepIn K (.ref f) = true) : DfN P w K mg base xa 2 "look_folder" [true, true] false M.m_look_folder := by
  have sc : FnScope N_look_folder ["tree", "number"] (defScope st_look_folder) := ⟨rfl, rfl, rfl, by decide +kernel, rfl, by decide +kernel, by decide +kernel⟩
  exact df_coreN Fu sc hb hm hk rfl (by decide) (fun cdv A outer sh H Ex hcd hr => (rss_one (rs_if (rt_cmp (ok_ne (by exact hr.units)) (rb_var 1) (RE.toB re_int)) (rss_cons (rs_expr (RE.toB (re_callN (by exact D_look_node) (by exact hr.mono (by decide)) (by exact L2N.takes_of rfl rfl rfl rfl) (by rfl) (ram_b (rb_var 0) (ram_b (rb_var 1) ram_nil))))) (rss_one (rs_if (rt_notN (RE.toB (re_sub (ok_idx (by exact hr.units)) (RE.toB (re_sub (ok_idx (by exact hr.units)) (RF.toB (rf_callN (by exact D_book_of) (by exact hr.mono (by decide)) (by exact L2N.takes_of rfl rfl rfl rfl) (by rfl) (ram_b (rb_var 0) ram_nil))) (rb_var 1))) (RE.toB re_int)))) (rss_one (rs_raiseN T.x_NotFolder (by rfl) (by exact L2N.takes_of rfl rfl rfl rfl))) rss_nil))) rss_nil))) (.inl rfl)
theorem dn_grafted {f : Addr} {fd : FuncData} (T : Tx K mg xa) (D_look_folder : DfN P w K mg base xa 2 "look_folder" [true, true] false M.m_look_folder) (Fu : Fun K "grafted" "grafted" st_grafted f fd) (hb : Binds K fd ["tree", "number", "other"] []) (hm : mg "grafted" = some (.ref f)) (hk : PySem.W.keepIn K (.ref f) = true) : DfN P w K mg base xa 3 "grafted" [true, false, true] false M.m_grafted := by
  have sc : FnScope N_grafted ["tree", "number", "other"] (defScope st_grafted) := ⟨rfl, rfl, rfl, by decide +kernel, rfl, by decide +kernel, by decide +kernel⟩
  exact df_coreN Fu sc hb hm hk rfl (by decide) (fun cdv A outer sh H Ex hcd hr => (rss_cons (rs_expr (RE.toB (re_callN (by exact D_look_folder) (by exact hr.mono (by decide)) (by exact L2N.takes_of rfl rfl rfl rfl) (by rfl) (ram_b (rb_var 0) (ram_b (rb_var 1) ram_nil))))) (rss_cons (rs_own (i := 3) sc.nd (by rfl) (by first | exact Or.inl rfl | exact Or.inr rfl) (RC.toF (rc_comp (own := [("node", 4)]) (ri_lent (rb_var 0)) (by exact blkOk_by (N := N_grafted) (sc := defScope st_grafted) (own := [("node", 4)]) (by decide +kernel)) (fun _ _ _ _ _ => (rg_name (i := 4) sc.nd (by rfl) (by first | exact Or.inl rfl | exact Or.inr rfl))) (fun _ _ _ _ _ => (rts_one (rt_cmp (ok_eq (by exact hr.units)) (RE.toB (re_sub (ok_idx (by exact hr.units)) (rb_var 4) (RE.toB re_int))) (rb_var 1)))) (fun _ _ _ _ _ => (re_sub (ok_idx (by exact hr.units)) (rb_var 4) (RE.toB re_int)))) (by rfl) sc.nd)) (rss_frz 3 (rss_cons (rs_if (rt_val (RE.toB (re_b1 (ok_any (by rfl)) (by rfl) T.b_any (by decide +kernel) (RF.toB (RC.toF (rc_comp (own := [("node", 4)]) (ri_lent (rb_var 2)) (by exact blkOk_by (N := N_grafted) (sc := defScope st_grafted) (own := [("node", 4)]) (by decide +kernel)) (fun _ _ _ _ _ => (rg_name (i := 4) sc.nd (by rfl) (by first | exact Or.inl rfl | exact Or.inr rfl))) (fun _ _ _ _ _ => rts_nil) (fun _ _ _ _ _ => (re_and (RE.toB (re_cmp (ok_eq (by exact hr.units)) (RE.toB (re_sub (ok_idx (by exact hr.units)) (rb_var 4) (RE.toB re_int))) (RE.toB re_int))) (re_one (re_cmp (ok_in (by exact hr.units)) (RE.toB (re_sub (ok_idx (by exact hr.units)) (rb_var 4) (RE.toB re_int))) (rb_var 3)))))) (by rfl) sc.nd))))) (rss_one (rs_raiseN T.x_Taken (by rfl) (by exact L2N.takes_of rfl rfl rfl rfl))) rss_nil) (rss_cons (rs_set (i := 5) sc.nd (by rfl) (by first | exact Or.inl rfl | exact Or.inr rfl) (re_b1 (ok_maxL (by rfl)) (by rfl) T.b_max (by decide +kernel) (RE.toB (re_bin ok_add (RF.toB (rf_lst (ras_cons re_int ras_nil))) (RF.toB (RC.toF (rc_comp (own := [("node", 4)]) (ri_lent (rb_var 0)) (by exact blkOk_by (N := N_grafted) (sc := defScope st_grafted) (own := [("node", 4)]) (by decide +kernel)) (fun _ _ _ _ _ => (rg_name (i := 4) sc.nd (by rfl) (by first | exact Or.inl rfl | exact Or.inr rfl))) (fun _ _ _ _ _ => rts_nil) (fun _ _ _ _ _ => (re_sub (ok_idx (by exact hr.units)) (rb_var 4) (RE.toB re_int)))) (by rfl) sc.nd)))))) (rss_cons (rs_ownC (i := 6) (rc_comp (own := [("one", 7), ("parent", 8), ("name", 9), ("stamp", 10)]) (ri_lent (rb_var 2)) (by exact blkOk_by (N := N_grafted) (sc := defScope st_grafted) (own := [("one", 7), ("parent", 8), ("name", 9), ("stamp", 10)]) (by decide +kernel)) (fun _ _ _ _ _ => (rg_tup (by rfl) (rgs_cons (rg_name (i := 7) sc.nd (by rfl) (by first | exact Or.inl rfl | exact Or.inr rfl)) (rgs_cons (rg_name (i := 8) sc.nd (by rfl) (by first | exact Or.inl rfl | exact Or.inr rfl)) (rgs_cons (rg_name (i := 9) sc.nd (by rfl) (by first | exact Or.inl rfl | exact Or.inr rfl)) (rgs_cons (rg_name (i := 10) sc.nd (by rfl) (by first | exact Or.inl rfl | exact Or.inr rfl)) rgs_nil)))))) (fun _ _ _ _ _ => rts_nil) (fun _ _ _ _ _ => (re_tup (ras_cons (re_bin ok_add (rb_var 7) (rb_var 5)) (ras_cons (re_ifExp (rt_cmp (ok_eq (by exact hr.units)) (rb_var 8) (RE.toB re_int)) (re_var 1) (re_bin ok_add (rb_var 8) (rb_var 5))) (ras_cons (re_var 9) (ras_cons (re_var 10) ras_nil))))))) (by rfl) sc.nd (by rfl) (by first | rfl | decide +kernel) (sw_true (by rfl) (by first | rfl | decide +kernel) (by rfl) (by decide +kernel))) (rss_frz 6 (rss_one (rs_ret (re_bin ok_add (rb_var 0) (RE.toB (re_t1 ok_toTup (by rfl) T.b_tuple (by decide +kernel) (rb_var 6)))))))))))))) (.inl rfl)
theorem dh_look_folder {f : Addr} {fd : FuncData} (T : Tx K mg xa) (Fu : Fun K "look_folder" "look_folder" st_look_folder f fd) (hb : Binds K fd ["tree", "number"] []) (hm : mg "look_folder" = some (.ref f)) (hk : PySem.W.keepIn K (.ref f) = true) : DfH P w K mg base xa 2 "look_folder" [true, true] false m_look_folder_H := by
  have sc : FnScope N_look_folder ["tree", "number"] (defScope st_look_folder) := ⟨rfl, rfl, rfl, by decide +kernel, rfl, by decide +kernel, by decide +kernel⟩
  exact df_coreH Fu sc hb hm hk rfl (by decide) (fun cdv A outer sh H Ex p hc hcd hr => by obtain ⟨x1, hot⟩ := hot_of hc; exact (rss_one (rs_if (rt_cmp (ok_ne (by exact hr.units)) (rb_var 1) (RE.toB re_int)) rss_stk rss_nil))) (.inl rfl)
theorem dh_grafted {f : Addr} {fd : FuncData} (T : Tx K mg xa) (D_look_folder : DfH P w K mg base xa 2 "look_folder" [true, true] false m_look_folder_H) (Fu : Fun K "grafted" "grafted" st_grafted f fd) (hb : Binds K fd ["tree", "number", "other"] []) (hm : mg "grafted" = some (.ref f)) (hk : PySem.W.keepIn K (.ref f) = true) : DfH P w K mg base xa 3 "grafted" [true, false, true] false m_grafted_H := by
  have sc : FnScope N_grafted ["tree", "number", "other"] (defScope st_grafted) := ⟨rfl, rfl, rfl, by decide +kernel, rfl, by decide +kernel, by decide +kernel⟩
  exact df_coreH Fu sc hb hm hk rfl (by decide) (fun cdv A outer sh H Ex p hc hcd hr => by obtain ⟨x1, hot⟩ := hot_of hc; exact (rss_cons (rs_expr (RE.toB (re_callH (by exact D_look_folder) (by exact hr.mono (by decide)) hc (by exact takes_of rfl rfl rfl rfl) (by rfl) (ram_b (rb_var 0) (ram_b (rb_var 1) ram_nil))))) (rss_cons (rs_own (i := 3) sc.nd (by rfl) (by first | exact Or.inl rfl | exact Or.inr rfl) (RCH.toF (rc_compH (own := [("node", 4)]) (ri_lentH hot (rb_var 0)) (by exact blkOk_by (N := N_grafted) (sc := defScope st_grafted) (own := [("node", 4)]) (by decide +kernel)) (fun _ _ _ _ _ hz => (rg_name (i := 4) sc.nd (by rfl) (by first | exact Or.inl rfl | exact Or.inr rfl))) (fun _ _ _ _ _ hz => (rts_one (rt_cmp (ok_eq (by exact hr.units)) (RE.toB (re_sub (ok_idx (by exact hr.units)) (rb_var 4) (RE.toB re_int))) (rb_var 1)))) (fun _ _ _ _ _ hz => (re_sub (ok_idx (by exact hr.units)) (rb_var 4) (RE.toB re_int)))) hot sc.nd)) (rss_frz 3 (rss_cons (rs_if (rt_val (RE.toB (re_b1 (ok_anyH hot) (by rfl) T.b_any (by decide +kernel) (RF.toB (RCH.toF (rc_compH (own := [("node", 4)]) (ri_lentH hot (rb_var 2)) (by exact blkOk_by (N := N_grafted) (sc := defScope st_grafted) (own := [("node", 4)]) (by decide +kernel)) (fun _ _ _ _ _ hz => (rg_name (i := 4) sc.nd (by rfl) (by first | exact Or.inl rfl | exact Or.inr rfl))) (fun _ _ _ _ _ hz => rts_nil) (fun _ _ _ _ _ hz => (re_and (RE.toB (re_cmp (ok_eq (by exact hr.units)) (RE.toB (re_sub (ok_idx (by exact hr.units)) (rb_var 4) (RE.toB re_int))) (RE.toB re_int))) (re_one (re_cmp (ok_in (by exact hr.units)) (RE.toB (re_sub (ok_idx (by exact hr.units)) (rb_var 4) (RE.toB re_int))) (rb_var 3)))))) hot sc.nd))))) (rss_one rs_stk) rss_nil) (rss_cons (rs_set (i := 5) sc.nd (by rfl) (by first | exact Or.inl rfl | exact Or.inr rfl) (re_b1 (ok_maxLH hot) (by rfl) T.b_max (by decide +kernel) (RE.toB (re_bin ok_add (RF.toB (rf_lst (ras_cons re_int ras_nil))) (RF.toB (RCH.toF (rc_compH (own := [("node", 4)]) (ri_lentH hot (rb_var 0)) (by exact blkOk_by (N := N_grafted) (sc := defScope st_grafted) (own := [("node", 4)]) (by decide +kernel)) (fun _ _ _ _ _ hz => (rg_name (i := 4) sc.nd (by rfl) (by first | exact Or.inl rfl | exact Or.inr rfl))) (fun _ _ _ _ _ hz => rts_nil) (fun _ _ _ _ _ hz => (re_sub (ok_idx (by exact hr.units)) (rb_var 4) (RE.toB re_int)))) hot sc.nd)))))) (rss_cons (rs_ownCH (i := 6) (rc_compH (own := [("one", 7), ("parent", 8), ("name", 9), ("stamp", 10)]) (ri_lentH hot (rb_var 2)) (by exact blkOk_by (N := N_grafted) (sc := defScope st_grafted) (own := [("one", 7), ("parent", 8), ("name", 9), ("stamp", 10)]) (by decide +kernel)) (fun _ _ _ _ _ hz => (rg_tupH hz (rgs_cons (rg_name (i := 7) sc.nd (by rfl) (by first | exact Or.inl rfl | exact Or.inr rfl)) (rgs_cons (rg_name (i := 8) sc.nd (by rfl) (by first | exact Or.inl rfl | exact Or.inr rfl)) (rgs_cons (rg_name (i := 9) sc.nd (by rfl) (by first | exact Or.inl rfl | exact Or.inr rfl)) (rgs_cons (rg_name (i := 10) sc.nd (by rfl) (by first | exact Or.inl rfl | exact Or.inr rfl)) rgs_nil)))))) (fun _ _ _ _ _ hz => rts_nil) (fun _ _ _ _ _ hz => (re_tup (ras_cons (re_bin ok_add (rb_var 7) (rb_var 5)) (ras_cons (re_ifExp (rt_cmp (ok_eq (by exact hr.units)) (rb_var 8) (RE.toB re_int)) (re_var 1) (re_bin ok_add (rb_var 8) (rb_var 5))) (ras_cons (re_var 9) (ras_cons (re_var 10) ras_nil))))))) hot sc.nd (by rfl) (by first | rfl | decide +kernel) (sw_true (by rfl) (by first | rfl | decide +kernel) (by rfl) (by decide +kernel))) (rss_frz 6 (rss_one (rs_ret (re_bin ok_add (rb_var 0) (RE.toB (re_t1 ok_toTup (by rfl) T.b_tuple (by decide +kernel) (rb_var 6)))))))))))))) (.inl rfl)
theorem fn_law {f : Addr} {fd : FuncData} (T : Tx K mg xa) (DN_grafted : DfN P w K mg base xa 3 "grafted" [true, false, true] false M.m_grafted) (DH_grafted : DfH P w K mg base xa 3 "grafted" [true, false, true] false m_grafted_H) (D_tree_L : Df P w K mg base xa 3 "_law_tree" [true, true, true] false M.m_tree_L) (D_book_L : Df P w K mg base xa 1 "_law_book" [true] true M.m_book_L) (D_pick_L : Df P w K mg base xa 2 "_law_pick" [true, true, true] false M.m_pick_L) (D_seen : Df P w K mg base xa 3 "seen" [true, true] false M.m_seen) (D_named : Df P w K mg base xa 1 "named" [true, true] false M.m_named) (D_path_L : Df P w K mg base xa 1 "_law_path" [true, true] false M.m_path_L) (D_cut_out : Df P w K mg base xa 3 "cut_out" [true, true] false M.m_cut_out) (D_total : Df P w K mg base xa 3 "total" [true, true] false M.m_total) (D_without : Df P w K mg base xa 3 "without" [true, true] false M.m_without) (D_grafted : Df P w K mg base xa 3 "grafted" [true, false, true] false M.m_grafted) (D_is_quiet : Df P w K mg base xa 4 "is_quiet" [true, true, true] false M.m_is_quiet) (D_change_seen : Df P w K mg base xa 4 "change_seen" [true, true, true] false M.m_change_seen) (D_walked : Df P w K mg base xa 2 "walked" [true] false M.m_walked) (D_path_of : Df P w K mg base xa 2 "path_of" [true, false] false M.m_path_of) (Fu : Fun K "law" "law" st_law f fd) : FnOk P w K mg base (L2.CX P w) 5 f fd ["_law_script"] (spD K xa [true] false m_law) := by
  have sc : FnScope N_law ["_law_script"] (defScope st_law) := ⟨rfl, rfl, rfl, by decide +kernel, rfl, by decide +kernel, by decide +kernel⟩
  exact fn_core Fu sc rfl (by decide) (fun cdv A outer sh H Ex hcd hr => (rss_cons (rs_par (i := 1) (j := 2) (by rfl) sc.nd (by rfl) (by rfl) (re_call (by exact D_tree_L) (by exact hr.mono (by decide)) (by exact takes_of rfl rfl rfl rfl) (by rfl) (ram_b (rb_var 0) (ram_b (RE.toB re_int) (ram_b (RE.toB re_int) ram_nil)))) (re_call (by exact D_tree_L) (by exact hr.mono (by decide)) (by exact takes_of rfl rfl rfl rfl) (by rfl) (ram_b (rb_var 0) (ram_b (RE.toB re_int) (ram_b (RE.toB re_int) ram_nil))))) (rss_cons (rs_set (i := 3) sc.nd (by rfl) (by first | exact Or.inl rfl | exact Or.inr rfl) (RF.toE (rf_call (by exact D_book_L) (by exact hr.mono (by decide)) (by exact takes_of rfl rfl rfl rfl) (by rfl) (ram_b (rb_var 1) ram_nil)))) (rss_cons (rs_set (i := 4) sc.nd (by rfl) (by first | exact Or.inl rfl | exact Or.inr rfl) (re_slice (RE.toB (re_slice (RF.toB (rf_lst (ras_cons (re_str [97]) (ras_cons (re_str [98]) (ras_cons (re_str [99]) (ras_cons (re_str [97, 98, 99, 100, 101]) ras_nil)))))) (rp_some (RE.toB (re_call (by exact D_pick_L) (by exact hr.mono (by decide)) (by exact takes_of rfl rfl rfl rfl) (by rfl) (ram_b (rb_var 0) (ram_b (RE.toB re_int) (ram_b (RE.toB re_int) ram_nil)))))) rp_none)) rp_none (rp_some (RE.toB (re_bin ok_add (RE.toB re_int) (RE.toB (re_call (by exact D_pick_L) (by exact hr.mono (by decide)) (by exact takes_of rfl rfl rfl rfl) (by rfl) (ram_b (rb_var 0) (ram_b (RE.toB re_int) (ram_b (RE.toB re_int) ram_nil)))))))))) (rss_cons (rs_set (i := 5) sc.nd (by rfl) (by first | exact Or.inl rfl | exact Or.inr rfl) (re_call (by exact D_seen) (by exact hr.mono (by decide)) (by exact takes_of rfl rfl rfl rfl) (by rfl) (ram_b (rb_var 1) (ram_b (rb_var 4) ram_nil)))) (rss_cons (rs_for (passes_of (by rfl)) (by rfl) (ri_sh (re_var 4)) (rg_name (i := 6) sc.nd (by rfl) (by first | exact Or.inl rfl | exact Or.inr rfl)) (rss_one (rs_if (rt_cmp (ok_ne (by exact hr.units)) (RE.toB (re_call (by exact D_named) (by exact hr.mono (by decide)) (by exact takes_of rfl rfl rfl rfl) (by rfl) (ram_b (rb_var 5) (ram_b (rb_var 6) ram_nil)))) (RF.toB (rf_lst ras_nil))) (rss_one (rs_ret re_bl)) rss_nil))) (rss_cons (rs_for (passes_of (by rfl)) (by rfl) (ri_sh (re_bin ok_add (RF.toB (rf_lst (ras_cons re_int ras_nil))) (RF.toB (RC.toF (rc_comp (own := [("_law_one", 8)]) (ri_lent (RF.toB (rf_b1 (ok_sortedD (by rfl)) (by rfl) T.b_sorted (by decide +kernel) (rb_var 3)))) (by exact blkOk_by (N := N_law) (sc := defScope st_law) (own := [("_law_one", 8)]) (by decide +kernel)) (fun _ _ _ _ _ => (rg_name (i := 8) sc.nd (by rfl) (by first | exact Or.inl rfl | exact Or.inr rfl))) (fun _ _ _ _ _ => (rts_one (rt_isN (RE.toB (re_sub (ok_idx (by exact hr.units)) (RE.toB (re_sub (ok_idx (by exact hr.units)) (rb_var 3) (rb_var 8))) (RE.toB re_int)))))) (fun _ _ _ _ _ => (re_var 8))) (by rfl) sc.nd)))) (rg_name (i := 7) sc.nd (by rfl) (by first | exact Or.inl rfl | exact Or.inr rfl)) (rss_cons (rs_set (i := 9) sc.nd (by rfl) (by first | exact Or.inl rfl | exact Or.inr rfl) (re_call (by exact D_path_L) (by exact hr.mono (by decide)) (by exact takes_of rfl rfl rfl rfl) (by rfl) (ram_b (rb_var 3) (ram_b (rb_var 7) ram_nil)))) (rss_cons (rs_if (rt_cmp (ok_ne (by exact hr.units)) (RF.toB (RC.toF (rc_comp (own := [("_law_name", 6)]) (ri_lent (rb_var 9)) (by exact blkOk_by (N := N_law) (sc := defScope st_law) (own := [("_law_name", 6)]) (by decide +kernel)) (fun _ _ _ _ _ => (rg_name (i := 6) sc.nd (by rfl) (by first | exact Or.inl rfl | exact Or.inr rfl))) (fun _ _ _ _ _ => (rts_one (rt_cmp (ok_in (by exact hr.units)) (rb_var 6) (rb_var 4)))) (fun _ _ _ _ _ => (re_var 6))) (by rfl) sc.nd)) (RF.toB (rf_lst ras_nil))) (rss_cons (rs_if (rt_cmp (ok_in (by exact hr.units)) (rb_var 7) (RF.toB (RC.toF (rc_comp (own := [("_law_node", 10)]) (ri_lent (rb_var 5)) (by exact blkOk_by (N := N_law) (sc := defScope st_law) (own := [("_law_node", 10)]) (by decide +kernel)) (fun _ _ _ _ _ => (rg_name (i := 10) sc.nd (by rfl) (by first | exact Or.inl rfl | exact Or.inr rfl))) (fun _ _ _ _ _ => rts_nil) (fun _ _ _ _ _ => (re_sub (ok_idx (by exact hr.units)) (rb_var 10) (RE.toB re_int)))) (by rfl) sc.nd))) (rss_one (rs_ret re_bl)) rss_nil) (rss_one rs_cont)) rss_nil) (rss_cons (rs_if (rt_cmp (ok_ne (by exact hr.units)) (RE.toB (re_call (by exact D_cut_out) (by exact hr.mono (by decide)) (by exact takes_of rfl rfl rfl rfl) (by rfl) (ram_b (rb_var 5) (ram_b (rb_var 7) ram_nil)))) (RE.toB (re_call (by exact D_seen) (by exact hr.mono (by decide)) (by exact takes_of rfl rfl rfl rfl) (by rfl) (ram_b (RE.toB (re_call (by exact D_cut_out) (by exact hr.mono (by decide)) (by exact takes_of rfl rfl rfl rfl) (by rfl) (ram_b (rb_var 1) (ram_b (rb_var 7) ram_nil)))) (ram_b (rb_var 4) ram_nil))))) (rss_one (rs_ret re_bl)) rss_nil) (rss_cons (rs_if (rt_cmp (ok_ne (by exact hr.units)) (RF.toB (RC.toF (rc_comp (own := [("_law_few", 11), ("_law_more_of", 12)]) (RI.lent (ri_zip (by rfl) T.b_zip (re_call (by exact D_total) (by exact hr.mono (by decide)) (by exact takes_of rfl rfl rfl rfl) (by rfl) (ram_b (rb_var 5) (ram_b (rb_var 7) ram_nil))) (re_call (by exact D_total) (by exact hr.mono (by decide)) (by exact takes_of rfl rfl rfl rfl) (by rfl) (ram_b (rb_var 1) (ram_b (rb_var 7) ram_nil))))) (by exact blkOk_by (N := N_law) (sc := defScope st_law) (own := [("_law_few", 11), ("_law_more_of", 12)]) (by decide +kernel)) (fun _ _ _ _ _ => (rg_tup (by rfl) (rgs_cons (rg_name (i := 11) sc.nd (by rfl) (by first | exact Or.inl rfl | exact Or.inr rfl)) (rgs_cons (rg_name (i := 12) sc.nd (by rfl) (by first | exact Or.inl rfl | exact Or.inr rfl)) rgs_nil)))) (fun _ _ _ _ _ => (rts_one (rt_cmp ok_gtI (rb_var 11) (rb_var 12)))) (fun _ _ _ _ _ => re_int)) (by rfl) sc.nd)) (RF.toB (rf_lst ras_nil))) (rss_one (rs_ret re_bl)) rss_nil) (rss_one (rs_if (rt_cmp (ok_ne (by exact hr.units)) (RE.toB (re_call (by exact D_seen) (by exact hr.mono (by decide)) (by exact takes_of rfl rfl rfl rfl) (by rfl) (ram_b (RE.toB (re_call (by exact D_without) (by exact hr.mono (by decide)) (by exact takes_of rfl rfl rfl rfl) (by rfl) (ram_b (rb_var 1) (ram_b (rb_var 7) ram_nil)))) (ram_b (rb_var 4) ram_nil)))) (RE.toB (re_call (by exact D_without) (by exact hr.mono (by decide)) (by exact takes_of rfl rfl rfl rfl) (by rfl) (ram_b (rb_var 5) (ram_b (rb_var 7) ram_nil))))) (rss_one (rs_ret re_bl)) rss_nil))))))) (rss_cons (rs_tryH T.y_Taken (by exact takes_of rfl rfl rfl rfl) (fun hd => L2H.passesAt_of rfl hd) (fun _ _ _ tk1 po1 => (rss_one (rs_set (i := 13) sc.nd (by rfl) (by first | exact Or.inl rfl | exact Or.inr rfl) (re_callN (by exact DN_grafted) (by exact hr.mono (by decide)) tk1 (by rfl) (ram_b (rb_var 1) (ram_s re_int (ram_b (rb_var 2) ram_nil))))))) (fun _ _ _ tkS hcS => by obtain ⟨x1, hot⟩ := hot_of hcS; exact (rss_cons (rs_set (i := 13) sc.nd (by rfl) (by first | exact Or.inl rfl | exact Or.inr rfl) (re_callH (by exact DH_grafted) (by exact roomS hr (by decide)) hcS tkS (by rfl) (ram_b (RE.toB (re_tup ras_nil)) (ram_s re_int (ram_b (rb_var 2) ram_nil))))) (rss_one (rs_asg (re_tup (ras_cons (re_tup ras_nil) (ras_cons (re_tup ras_nil) ras_nil))) (rg_tupH hot (rgs_cons (rg_name (i := 1) sc.nd (by rfl) (by first | exact Or.inl rfl | exact Or.inr rfl)) (rgs_cons (rg_name (i := 5) sc.nd (by rfl) (by first | exact Or.inl rfl | exact Or.inr rfl)) rgs_nil)))))))) (rss_cons (rs_set (i := 14) sc.nd (by rfl) (by first | exact Or.inl rfl | exact Or.inr rfl) (re_b1 (ok_maxL (by rfl)) (by rfl) T.b_max (by decide +kernel) (RE.toB (re_bin ok_add (RF.toB (rf_lst (ras_cons re_int ras_nil))) (RF.toB (RC.toF (rc_comp (own := [("_law_node", 10)]) (ri_lent (rb_var 1)) (by exact blkOk_by (N := N_law) (sc := defScope st_law) (own := [("_law_node", 10)]) (by decide +kernel)) (fun _ _ _ _ _ => (rg_name (i := 10) sc.nd (by rfl) (by first | exact Or.inl rfl | exact Or.inr rfl))) (fun _ _ _ _ _ => rts_nil) (fun _ _ _ _ _ => (re_sub (ok_idx (by exact hr.units)) (rb_var 10) (RE.toB re_int)))) (by rfl) sc.nd)))))) (rss_cons (rs_ownC (i := 15) (rc_comp (own := [("_law_one", 8), ("_law_parent", 16), ("_law_name", 6), ("_law_stamp", 17)]) (ri_lent (RE.toB (re_call (by exact D_seen) (by exact hr.mono (by decide)) (by exact takes_of rfl rfl rfl rfl) (by rfl) (ram_b (rb_var 2) (ram_b (rb_var 4) ram_nil))))) (by exact blkOk_by (N := N_law) (sc := defScope st_law) (own := [("_law_one", 8), ("_law_parent", 16), ("_law_name", 6), ("_law_stamp", 17)]) (by decide +kernel)) (fun _ _ _ _ _ => (rg_tup (by rfl) (rgs_cons (rg_name (i := 8) sc.nd (by rfl) (by first | exact Or.inl rfl | exact Or.inr rfl)) (rgs_cons (rg_name (i := 16) sc.nd (by rfl) (by first | exact Or.inl rfl | exact Or.inr rfl)) (rgs_cons (rg_name (i := 6) sc.nd (by rfl) (by first | exact Or.inl rfl | exact Or.inr rfl)) (rgs_cons (rg_name (i := 17) sc.nd (by rfl) (by first | exact Or.inl rfl | exact Or.inr rfl)) rgs_nil)))))) (fun _ _ _ _ _ => rts_nil) (fun _ _ _ _ _ => (re_tup (ras_cons (re_bin ok_add (rb_var 8) (rb_var 14)) (ras_cons (re_bin ok_add (rb_var 16) (RE.toB (re_bin ok_mul (rb_var 14) (RE.toB (re_t1 ok_toInt (by rfl) T.b_int (by decide +kernel) (RE.toB (re_cmp ok_gtI (rb_var 16) (RE.toB re_int)))))))) (ras_cons (re_var 6) (ras_cons (re_var 17) ras_nil))))))) (by rfl) sc.nd (by rfl) (by first | rfl | decide +kernel) (sw_true (by rfl) (by first | rfl | decide +kernel) (by rfl) (by decide +kernel))) (rss_frz 15 (rss_cons (rs_if (rt_cmp (ok_ne (by exact hr.units)) (RE.toB (re_call (by exact D_seen) (by exact hr.mono (by decide)) (by exact takes_of rfl rfl rfl rfl) (by rfl) (ram_b (rb_var 13) (ram_b (rb_var 4) ram_nil)))) (RE.toB (re_bin ok_add (rb_var 5) (RE.toB (re_t1 ok_toTup (by rfl) T.b_tuple (by decide +kernel) (rb_var 15)))))) (rss_one (rs_ret re_bl)) rss_nil) (rss_cons (rs_if (rw_or (rt_cmp (ok_ne (by exact hr.units)) (RE.toB (re_call (by exact D_is_quiet) (by exact hr.mono (by decide)) (by exact takes_of rfl rfl rfl rfl) (by rfl) (ram_b (rb_var 1) (ram_b (rb_var 13) (ram_b (rb_var 4) ram_nil))))) (RE.toB (re_cmp (ok_eq (by exact hr.units)) (rb_var 15) (RF.toB (rf_lst ras_nil))))) (rw_or1 (rt_cmp (ok_ne (by exact hr.units)) (RE.toB (re_cmp (ok_eq (by exact hr.units)) (RE.toB (re_call (by exact D_change_seen) (by exact hr.mono (by decide)) (by exact takes_of rfl rfl rfl rfl) (by rfl) (ram_b (rb_var 1) (ram_b (rb_var 13) (ram_b (rb_var 4) ram_nil))))) (RE.toB (re_tup ras_nil)))) (RE.toB (re_cmp (ok_eq (by exact hr.units)) (rb_var 15) (RF.toB (rf_lst ras_nil))))))).t (rss_one (rs_ret re_bl)) rss_nil) (rss_cons (rs_set (i := 18) sc.nd (by rfl) (by first | exact Or.inl rfl | exact Or.inr rfl) (re_call (by exact D_seen) (by exact hr.mono (by decide)) (by exact takes_of rfl rfl rfl rfl) (by rfl) (ram_b (rb_var 13) (ram_b (rb_var 4) ram_nil)))) (rss_one (rs_ret (re_cmp (ok_eq (by exact hr.units)) (RF.toB (RC.toF (rc_comp (own := [("_law_row", 19)]) (ri_lent (RE.toB (re_call (by exact D_walked) (by exact hr.mono (by decide)) (by exact takes_of rfl rfl rfl rfl) (by rfl) (ram_b (rb_var 18) ram_nil)))) (by exact blkOk_by (N := N_law) (sc := defScope st_law) (own := [("_law_row", 19)]) (by decide +kernel)) (fun _ _ _ _ _ => (rg_name (i := 19) sc.nd (by rfl) (by first | exact Or.inl rfl | exact Or.inr rfl))) (fun _ _ _ _ _ => rts_nil) (fun _ _ _ _ _ => (re_sub (ok_idx (by exact hr.units)) (rb_var 19) (RE.toB re_int)))) (by rfl) sc.nd)) (RF.toB (rf_b1 (ok_sorted (by exact hr.units)) (by rfl) T.b_sorted (by decide +kernel) (RF.toB (RC.toF (rc_comp (own := [("_law_node", 10)]) (ri_lent (rb_var 18)) (by exact blkOk_by (N := N_law) (sc := defScope st_law) (own := [("_law_node", 10)]) (by decide +kernel)) (fun _ _ _ _ _ => (rg_name (i := 10) sc.nd (by rfl) (by first | exact Or.inl rfl | exact Or.inr rfl))) (fun _ _ _ _ _ => rts_nil) (fun _ _ _ _ _ => (re_call (by exact D_path_of) (by exact hr.mono (by decide)) (by exact takes0) (by rfl) (ram_b (rb_var 13) (ram_s (re_sub (ok_idx (by exact hr.units)) (rb_var 10) (RE.toB re_int)) ram_nil))))) (by rfl) sc.nd))))))))))))))))))))) (.inl rfl)
end Tw.K14
set_option autoImplicit false
set_option linter.all false
namespace Tw
theorem compGo_enc {α : Type} {f : D → Res (Option D)} {e g : α → D} {p : α → Bool} : ∀ {xs : List α}, (∀ x ∈ xs, f (e x) = .ok (if p x then some (g x) else none)) → compGo f (xs.map e) = .ok ((xs.filter p).map g)
  | [], _ => rfl
  | x :: xs, h => by
    have ih := compGo_enc (xs := xs) fun y m => h y (List.mem_cons_of_mem _ m)
    simp only [List.map_cons, compGo]
    rw [h x List.mem_cons_self]
    simp only [ih, Res.bind_ok]
    cases e2 : p x <;> simp [e2]
theorem compGo_map {α : Type} {f : D → Res (Option D)} {e g : α → D} {xs : List α} (h : ∀ x ∈ xs, f (e x) = .ok (some (g x))) : compGo f (xs.map e) = .ok (xs.map g) := by
  have := compGo_enc (p := fun _ => true) (g := g) (xs := xs) (f := f) (e := e) fun x m => by rw [h x m]; rfl
  rw [this, List.filter_eq_self.mpr fun _ _ => rfl]
theorem bools_map {α : Type} (p : α → Bool) : ∀ xs : List α, bools? (xs.map fun x => D.bl (p x)) = some (xs.map p)
  | [] => rfl
  | x :: xs => by simp [bools?, bools_map p xs]
theorem ints_int : ∀ xs : List Int, ints? (xs.map D.int) = some xs
  | [] => rfl
  | x :: xs => by simp [ints?, ints_int xs]
theorem forGo_idx {R : Nat → Env → Prop} {g : G} {b : S} : ∀ {xs : List D} {env : Env} (k : Nat), (∀ i x env, xs[i]? = some x → R (k + i) env → ∃ env1 env2, g x env = .ok env1 ∧ (b env1 = .nx env2 ∨ b env1 = .ct env2) ∧ R (k + i + 1) env2) → R k env → ∃ env', forGo g b xs env = .nx env' ∧ R (k + xs.length) env'
  | [], env, k, _, r => ⟨env, rfl, r⟩
  | x :: xs, env, k, h, r => by
    obtain ⟨env1, env2, h1, h2, h3⟩ := h 0 x env rfl r
    obtain ⟨env', h4, h5⟩ := forGo_idx (xs := xs) (k + 1) (fun i y env m q => by
      have := h (i + 1) y env (by simpa using m) (by rw [show k + (i + 1) = k + 1 + i by omega]; exact q)
      rwa [show k + (i + 1) + 1 = k + 1 + i + 1 by omega] at this) h3
    refine ⟨env', ?_, by rw [show k + (x :: xs).length = k + 1 + xs.length by simp; omega]; exact h5⟩
    unfold forGo
    rw [h1]
    rcases h2 with h2 | h2 <;> (simp only [h2]; exact h4)
mutual
theorem eqv_refl : ∀ (d : D) (n : Nat), D.pl n d = true → D.eqv d d = true
  | .non, _, _ => by simp [D.eqv]
  | .bl _, _, _ => by simp [D.eqv]
  | .int _, _, _ => by simp [D.eqv]
  | .str _, _, _ => by simp [D.eqv]
  | .inp _, _, _ => by simp [D.eqv]
  | .lst xs, n, h => by
    cases n with
    | zero => simp [D.pl] at h
    | succ n => simp only [D.eqv]; exact eqvs_refl xs n (by simpa [D.pl] using h)
  | .tup xs, n, h => by
    cases n with
    | zero => simp [D.pl] at h
    | succ n => simp only [D.eqv]; exact eqvs_refl xs n (by simpa [D.pl] using h)
  | .dct _ _, _, h => by simp [D.pl] at h
  | .exc _, _, h => by simp [D.pl] at h
theorem eqvs_refl : ∀ (ds : List D) (n : Nat), D.pls n ds = true → D.eqvs ds ds = true
  | [], _, _ => by simp [D.eqvs]
  | d :: ds, n, h => by
    simp only [D.pls, Bool.and_eq_true] at h
    simp [D.eqvs, eqv_refl d n h.1, eqvs_refl ds n h.2]
end
theorem pls_ints : ∀ (xs : List Int) (n : Nat), D.pls n (xs.map D.int) = true
  | [], _ => by simp [D.pls]
  | x :: xs, n => by simp [D.pls, D.pl, pls_ints xs n]
theorem pls_mem {n : Nat} : ∀ {xs : List D}, (∀ x ∈ xs, D.pl n x = true) → D.pls n xs = true
  | [], _ => by simp [D.pls]
  | x :: xs, h => by simp [D.pls, h x List.mem_cons_self, pls_mem fun y m => h y (List.mem_cons_of_mem _ m)]
def Scr (S : D) (ns : List Int) : Prop := S = .inp ns ∨ S = .lst (ns.map D.int)
def cellV (ns : List Int) (k : Nat) : Int := if k < ns.length then ns.getD k 0 else if ns = [] then 0 else ns.getD (k % ns.length) 0 * 31 + k
def pickV (ns : List Int) (k : Nat) (many : Int) : Int :=
  let drawn := (cellV ns k + 6151 * ((k : Int) + 1)) * 40692 % 2147483399
  (drawn * drawn + drawn / 31) % 2147483629 % many
theorem pickV_lt (ns : List Int) (k : Nat) {many : Int} (h : 0 < many) : 0 ≤ pickV ns k many ∧ pickV ns k many < many := ⟨Int.emod_nonneg _ (by omega), Int.emod_lt_of_pos _ h⟩
theorem scr_len {S : D} {ns : List Int} (h : Scr S ns) : D.len S = .ok (.int ns.length) := by
  rcases h with rfl | rfl <;> simp [D.len]
theorem scr_idx {S : D} {ns : List Int} (h : Scr S ns) {k : Nat} (hk : k < ns.length) : D.idx S (.int k) = .ok (.int (ns.getD k 0)) := by
  rcases h with rfl | rfl <;> simp [D.idx, atI, List.getElem?_eq_getElem hk, Res.ofOpt]
theorem scr_eq {S : D} {ns : List Int} (h : Scr S ns) : D.eq S (.lst []) = .ok (.bl (decide (ns = []))) := by
  rcases h with rfl | rfl
  · cases ns <;> simp [D.eq, D.good, D.pl, D.pls, D.eqv, eqvI]
  · cases ns with
    | nil => simp [D.eq, D.good, D.pl, D.pls, D.eqv, D.eqvs]
    | cons a r => simp [D.eq, D.good, D.pl, D.pls, D.eqv, D.eqvs, pls_ints]
theorem cell_ok {S : D} {ns : List Int} (h : Scr S ns) (k : Nat) : M.m_cell_L [S, .int k] = .ok (.int (cellV ns k)) := by
  have hl := scr_len h
  have he := scr_eq h
  unfold M.m_cell_L M.b_cell_L cellV
  by_cases hk : k < ns.length
  · simp [runD, initE, sSeq, sIf, sRet, tE, e2, e1, eB, eL, D.ltI, D.cmp, D.asB, hl, hk, scr_idx h hk]
  · by_cases hn : ns = []
    · subst hn
      have hkn : ¬ ((k : Int) < 0) := by omega
      simp [runD, initE, sSeq, sIf, sRet, sNil, tE, e2, e1, eB, eC, eLst, eL, D.ltI, D.cmp, D.asB, hl, he, hkn]
    · have hp : 0 < ns.length := List.length_pos_iff.mpr hn
      have hm : k % ns.length < ns.length := Nat.mod_lt _ hp
      have hx := scr_idx h hm
      have e1' : ((k : Int) % (ns.length : Int)) = ((k % ns.length : Nat) : Int) := by simp
      simp [runD, initE, sSeq, sIf, sRet, sNil, tE, e2, e1, eB, eC, eLst, eL, D.ltI, D.cmp, D.asB, hl, he, hk, hn, D.mod, D.mul, D.add, smallI]
      rw [if_pos (by omega)]
      simp only [Res.bind_ok]
      rw [e1', hx]
      simp
theorem pick_ok {S : D} {ns : List Int} (h : Scr S ns) (k : Nat) {many : Int} (hm : 0 < many) : M.m_pick_L [S, .int k, .int many] = .ok (.int (pickV ns k many)) := by
  unfold M.m_pick_L M.b_pick_L pickV
  have hc := cell_ok h k
  have b1 := Int.emod_nonneg ((cellV ns k + 6151 * ((k : Int) + 1)) * 40692) (b := 2147483399) (by decide)
  have b2 := Int.emod_lt_of_pos ((cellV ns k + 6151 * ((k : Int) + 1)) * 40692) (b := 2147483399) (by decide)
  simp only [runD, initE, sSeq, sSet, sRet, e2, eCall, eL, eB, eC, hc, List.length_cons, List.length_nil, List.replicate, List.getElem?_cons_zero, List.getElem?_cons_succ, List.cons_append, List.nil_append, Res.bind_ok, D.add, D.mul, D.mod, smallI, if_true]
  generalize hd : (cellV ns k + 6151 * ((k : Int) + 1)) * 40692 % 2147483399 = d at b1 b2
  have s1 : (decide (-(2 : Int) ^ 64 < d) && decide (d < 2 ^ 64)) = true := by
    simp only [Bool.and_eq_true, decide_eq_true_eq]; omega
  have s2 : -18446744073709551616 < d ∧ d < 18446744073709551616 := by omega
  simp [hd, s1, s2, D.fdiv, hm]
end Tw
set_option autoImplicit false
namespace Tw
variable {a b : S} {e e1 e2 : Env} {d : D} {r : RS} {f : E} {t : T} {it : I} {g : G} {xs : List D} {i j : Nat} {ms : List Bool} {n : Nat} {ds : List D} {c : Nat}
theorem runD_rt (hl : ds.length = ms.length) (h : a (initE ms ds ++ List.replicate (n - ms.length) .un) = .rt d) : runD ms n a ds = .ok d := by
  unfold runD; rw [if_pos hl, h]
theorem runD_nx (hl : ds.length = ms.length) (h : a (initE ms ds ++ List.replicate (n - ms.length) .un) = .nx e) : runD ms n a ds = .ok .non := by
  unfold runD; rw [if_pos hl, h]
theorem runD_er (hl : ds.length = ms.length) (h : a (initE ms ds ++ List.replicate (n - ms.length) .un) = .er c e) : runD ms n a ds = .err c := by
  unfold runD; rw [if_pos hl, h]
theorem seq_nx (h : a e = .nx e1) (h2 : b e1 = r) : sSeq a b e = r := by unfold sSeq; rw [h]; exact h2
theorem seq_er (h : a e = .er c e1) : sSeq a b e = .er c e1 := by unfold sSeq; rw [h]
theorem set_ok (h : f e = .ok d) : sSet i f e = .nx (e.set i (.sh d)) := by unfold sSet; rw [h]; rfl
theorem own_ok (h : f e = .ok d) : sOwn i f e = .nx (e.set i (.own d)) := by unfold sOwn; rw [h]; rfl
theorem ret_ok (h : f e = .ok d) : sRet f e = .rt d := by unfold sRet; rw [h]; rfl
theorem if_t (h : t e = .ok true) (h2 : a e = r) : sIf t a b e = r := by unfold sIf; rw [h]; exact h2
theorem if_f (h : t e = .ok false) (h2 : b e = r) : sIf t a b e = r := by unfold sIf; rw [h]; exact h2
theorem for_go (h : it e = .ok xs) (h2 : forGo g a xs e = r) : sFor it g a e = r := by unfold sFor; rw [h]; exact h2
theorem frz_ok (h : e[i]? = some (.own d)) : sFrz i e = .nx (e.set i (.sh d)) := by unfold sFrz; rw [h]
theorem app_ok (h : e[i]? = some (.own (.lst xs))) (h2 : f e = .ok d) (h3 : xs.length < szl) : sApp i f e = .nx (e.set i (.own (.lst (xs ++ [d])))) := by
  unfold sApp; rw [h, h2]; simp only [Res.run_ok]; rw [if_pos h3]
theorem popAt_ok {k : Int} {x : D} (h : e[i]? = some (.own (.lst xs))) (h2 : f e = .ok (.int k)) (h3 : 0 ≤ k ∧ k < 4611686018427387904) (h4 : xs[k.toNat]? = some x) : sPopAt j i f e = .nx ((e.set i (.own (.lst (xs.eraseIdx k.toNat)))).set j (.sh x)) := by
  unfold sPopAt; rw [h, h2]; simp only [Res.run_ok]; rw [if_pos h3, h4]
theorem ecomp_ok {own : List Nat} {ys : List D} (h : it e = .ok xs) (hl : xs.length < szl) (h2 : compGo (compTurn own g t f e) xs = .ok ys) : eComp it own g t f e = .ok (.lst ys) := by
  unfold eComp; rw [h]; simp only [Res.bind_ok]; rw [if_pos hl, h2]; rfl
theorem call_ok {m : List D → Res D} {es : List E} {x : Res D} (h : eL es e = .ok ds) (h2 : m ds = x) : eCall m es e = x := by unfold eCall; rw [h]; exact h2
theorem rng_ok {fa fb : E} {x y : D} {l : List D} (ha : fa e = .ok x) (hb : fb e = .ok y) (h : rng2 x y = .ok l) (hl : l.length ≤ szl) : eRng fa fb e = .ok (.lst l) := by
  unfold eRng; rw [ha]; simp only [Res.bind_ok]; rw [hb]; simp only [Res.bind_ok]; rw [h]; simp only [Res.bind_ok]; rw [if_pos hl]
theorem szl_big : 16777215 < szl := by unfold szl; omega
theorem small_szl {n : Nat} (h : n ≤ 16777215) : n < szl := Nat.lt_of_le_of_lt h szl_big
end Tw
set_option autoImplicit false
set_option linter.all false
namespace Tw
structure Nd where
  n : Int
  p : Int
  nm : Nm
  st : Option Int
  deriving DecidableEq
def stD : Option Int → D
  | none => .non
  | some i => .int i
def Nd.row (x : Nd) : D := .tup [.int x.p, .str x.nm, stD x.st]
def Nd.enc (x : Nd) : D := .tup [.int x.n, .int x.p, .str x.nm, stD x.st]
def encT (T : List Nd) : D := .tup (T.map Nd.enc)
abbrev nums (T : List Nd) : List Int := T.map (·.n)
abbrev spots (T : List Nd) : List (Int × Nm) := T.map fun x => (x.p, x.nm)
def goodName (s : Nm) : Bool := decide (1 ≤ s.length) && decide (s.length ≤ 5) && s.all fun c => decide (97 ≤ c) && decide (c ≤ 122)
def goodSt : Option Int → Bool
  | none => true
  | some i => decide (0 ≤ i) && decide (i ≤ 999)
def Nd.good (x : Nd) : Bool := decide (1 ≤ x.n) && decide (0 ≤ x.p) && goodName x.nm && goodSt x.st
inductive Grown : List Nd → Prop
  | nil : Grown []
  | snoc {L : List Nd} {x : Nd} : Grown L → x.good = true → x.n ∉ nums L → (x.p, x.nm) ∉ spots L → (x.p = 0 ∨ ∃ f ∈ L, f.n = x.p ∧ f.st = none) → Grown (L ++ [x])
theorem Grown.good {L : List Nd} (h : Grown L) : ∀ x ∈ L, x.good = true := by
  induction h with
  | nil => simp
  | snoc _ g _ _ _ ih =>
    intro y m
    rcases List.mem_append.mp m with m | m
    · exact ih y m
    · rw [List.mem_singleton.mp m]; exact g
theorem Grown.nodup {L : List Nd} (h : Grown L) : (nums L).Nodup ∧ (spots L).Nodup := by
  induction h with
  | nil => exact ⟨List.nodup_nil, List.nodup_nil⟩
  | snoc _ _ a b _ ih =>
    refine ⟨?_, ?_⟩
    · unfold nums at *
      rw [List.map_append, List.nodup_append]
      refine ⟨ih.1, by simp, fun x hx y hy => ?_⟩
      simp at hy
      subst hy
      exact fun e => a (e ▸ hx)
    · unfold spots at *
      rw [List.map_append, List.nodup_append]
      refine ⟨ih.2, by simp, fun x hx y hy => ?_⟩
      simp at hy
      subst hy
      exact fun e => b (e ▸ hx)
theorem name_ok {s : Nm} (h : goodName s = true) : (s.all fun c => decide (c < 1114112)) = true := by
  unfold goodName at h
  simp only [Bool.and_eq_true, List.all_eq_true, decide_eq_true_eq] at h ⊢
  intro c m
  have := h.2 c m
  omega
theorem pl_st (o : Option Int) (n : Nat) : D.pl n (stD o) = true := by cases o <;> simp [stD, D.pl]
theorem flat_st (o : Option Int) (n : Nat) : D.flat n (stD o) = true := by cases o <;> simp [stD, D.flat]
theorem pl_enc {x : Nd} (h : x.good = true) (n : Nat) : D.pl (n + 1) x.enc = true := by
  unfold Nd.good at h
  simp only [Bool.and_eq_true] at h
  have hn := name_ok h.1.2
  simp only [Nd.enc, D.pl, D.pls, pl_st, Bool.and_true, Bool.true_and]
  exact hn
theorem flat_enc {x : Nd} (h : x.good = true) (n : Nat) : D.flat (n + 1) x.enc = true := by
  unfold Nd.good at h
  simp only [Bool.and_eq_true] at h
  have hn := name_ok h.1.2
  simp only [Nd.enc, D.flat, D.flats, flat_st, Bool.and_true, Bool.true_and]
  exact hn
theorem pl_tree {T : List Nd} (h : ∀ x ∈ T, x.good = true) (n : Nat) : D.pl (n + 2) (encT T) = true := by
  simp only [encT, D.pl]
  exact pls_mem fun y m => by
    obtain ⟨x, hx, rfl⟩ := List.mem_map.mp m
    exact pl_enc (h x hx) n
theorem eqv_st (a b : Option Int) : D.eqv (stD a) (stD b) = decide (a = b) := by
  cases a <;> cases b <;> simp [stD, D.eqv]
  rename_i a b
  by_cases h : a = b <;> simp [h]
theorem eqv_enc (x y : Nd) : D.eqv x.enc y.enc = decide (x = y) := by
  obtain ⟨a, b, c, d⟩ := x
  obtain ⟨a', b', c', d'⟩ := y
  simp only [Nd.enc, D.eqv, D.eqvs, eqv_st, Nd.mk.injEq, Bool.and_true]
  by_cases h1 : a = a' <;> by_cases h2 : b = b' <;> by_cases h3 : c = c' <;> by_cases h4 : d = d' <;> simp [h1, h2, h3, h4]
theorem eqvs_enc : ∀ T U : List Nd, D.eqvs (T.map Nd.enc) (U.map Nd.enc) = decide (T = U)
  | [], [] => by simp [D.eqvs]
  | [], _ :: _ => by simp [D.eqvs]
  | _ :: _, [] => by simp [D.eqvs]
  | x :: T, y :: U => by
    simp only [List.map_cons, D.eqvs, eqv_enc, eqvs_enc T U]
    by_cases h1 : x = y <;> by_cases h2 : T = U <;> simp [h1, h2]
def byN (x y : Nd) : Bool := decide (x.n ≤ y.n)
def sortN (L : List Nd) : List Nd := L.mergeSort byN
theorem sortN_perm (L : List Nd) : (sortN L).Perm L := List.mergeSort_perm L byN
theorem sortN_pw (L : List Nd) : (sortN L).Pairwise fun a b => a.n ≤ b.n := by
  have := List.pairwise_mergeSort (le := byN) (fun a b c h g => by simp only [byN, decide_eq_true_eq] at *; omega) (fun a b => by simp only [byN, Bool.or_eq_true, decide_eq_true_eq]; omega) L
  exact this.imp fun h => by simpa [byN] using h
theorem lt_enc {x y : Nd} (h : x.n ≠ y.n) : D.lt x.enc y.enc = decide (x.n < y.n) := by
  unfold Nd.enc
  rw [lt_tup, lexI_tokss (n := 1) (m := 1) (by simp [D.flat]) (by simp [D.flat])]
  simp [D.eqv, h, lt_int]
theorem lt_self (d : D) : D.lt d d = false := lexI_self _
theorem sorted_strict {T : List Nd} (h : T.Pairwise fun a b => a.n ≤ b.n) (nd : (nums T).Nodup) : T.Pairwise fun a b => a.n < b.n := by
  unfold nums at nd
  rw [List.Nodup, List.pairwise_map] at nd
  exact (h.and nd).imp fun ⟨a, b⟩ => by omega
theorem nodup_inj {L : List Nd} (nd : (nums L).Nodup) {x y : Nd} (hx : x ∈ L) (hy : y ∈ L) (e : x.n = y.n) : x = y := by
  induction L with
  | nil => simp at hx
  | cons a L ih =>
    obtain ⟨h1, h2⟩ := List.nodup_cons.mp nd
    rcases List.mem_cons.mp hx with p | p <;> rcases List.mem_cons.mp hy with q | q
    · rw [p, q]
    · subst p; exact absurd (List.mem_map.mpr ⟨y, q, e.symm⟩) h1
    · subst q; exact absurd (List.mem_map.mpr ⟨x, p, e⟩) h1
    · exact ih h2 p q
theorem sortD_enc {L : List Nd} (nd : (nums L).Nodup) : sortD (L.map Nd.enc) = (sortN L).map Nd.enc := by
  have pm := sortN_perm L
  have st := sorted_strict (sortN_pw L) ((pm.map (·.n)).nodup_iff.mpr nd)
  refine sorted_uniq (sortD_pw _) ?_ fun x => ?_
  · rw [List.pairwise_map]
    refine st.imp fun {a b} h => ?_
    unfold D.le
    rw [lt_enc (by omega)]
    simp; omega
  · rw [sortD_stb]
    -- each class has one member at most
    have uniq : ∀ (M : List Nd), (nums M).Nodup → (M.map Nd.enc).filter (same x) = (M.find? fun y => same x y.enc).toList.map Nd.enc := by
      intro M
      induction M with
      | nil => intro _; rfl
      | cons a M ih =>
        intro hn
        obtain ⟨h1, h2⟩ := List.nodup_cons.mp hn
        rw [List.map_cons]
        by_cases q : same x a.enc = true
        · rw [List.filter_cons_of_pos q, List.find?_cons_of_pos (p := fun y : Nd => same x y.enc) q]
          have : (M.map Nd.enc).filter (same x) = [] := by
            rw [List.filter_eq_nil_iff]
            intro d hd
            obtain ⟨b, hb, rfl⟩ := List.mem_map.mp hd
            intro z
            have ne : a.n ≠ b.n := fun e => h1 (List.mem_map.mpr ⟨b, hb, e.symm⟩)
            unfold same at q z
            simp only [Bool.and_eq_true] at q z
            have l1 := le_trans _ _ _ q.2 z.1
            have l2 := le_trans _ _ _ z.2 q.1
            unfold D.le at l1 l2
            rw [lt_enc (fun e => ne e.symm)] at l1
            rw [lt_enc ne] at l2
            simp at l1 l2
            omega
          rw [this]
          rfl
        · rw [List.filter_cons_of_neg q, List.find?_cons_of_neg (p := fun y : Nd => same x y.enc) q]
          exact ih h2
    rw [uniq L nd, uniq (sortN L) ((pm.map (·.n)).nodup_iff.mpr nd)]
    congr 2
    -- the one that is found is the same one
    have same1 : ∀ y ∈ L, ∀ z ∈ L, same x y.enc = true → same x z.enc = true → y = z := by
      intro y hy z hz q1 q2
      by_cases e : y.n = z.n
      · by_cases hyz : y = z
        · exact hyz
        · exact (nodup_inj nd hy hz e)
      · exfalso
        unfold same at q1 q2
        simp only [Bool.and_eq_true] at q1 q2
        have l1 := le_trans _ _ _ q1.2 q2.1
        have l2 := le_trans _ _ _ q2.2 q1.1
        unfold D.le at l1 l2
        rw [lt_enc (fun z => e z.symm)] at l1
        rw [lt_enc e] at l2
        simp at l1 l2
        omega
    cases e1 : L.find? fun y => same x y.enc with
    | none =>
      rw [List.find?_eq_none] at e1
      symm
      rw [List.find?_eq_none]
      exact fun y hy => e1 y (pm.mem_iff.mp hy)
    | some a =>
      cases e2 : (sortN L).find? fun y => same x y.enc with
      | none =>
        rw [List.find?_eq_none] at e2
        exact absurd (List.find?_some e1) (e2 a (pm.mem_iff.mpr (List.mem_of_find?_eq_some e1)))
      | some b =>
        rw [same1 a (List.mem_of_find?_eq_some e1) b (pm.mem_iff.mp (List.mem_of_find?_eq_some e2)) (by simpa using List.find?_some e1) (by simpa using List.find?_some e2)]
theorem sortable_enc {L : List Nd} (g : ∀ x ∈ L, x.good = true) (nd : (nums L).Nodup) : sortable (L.map Nd.enc) = true := by
  unfold sortable
  simp only [Bool.and_eq_true, Bool.or_eq_true, List.all_eq_true]
  refine ⟨fun d m => ?_, .inr ⟨fun d m => ?_, fun d m e k => ?_⟩⟩
  · obtain ⟨x, hx, rfl⟩ := List.mem_map.mp m
    exact flat_enc (g x hx) 39
  · obtain ⟨x, hx, rfl⟩ := List.mem_map.mp m
    refine ⟨rfl, fun e k => ?_⟩
    obtain ⟨y, hy, rfl⟩ := List.mem_map.mp k
    rfl
  · obtain ⟨x, hx, rfl⟩ := List.mem_map.mp m
    obtain ⟨y, hy, rfl⟩ := List.mem_map.mp k
    by_cases e : x.n = y.n
    · have := nodup_inj nd hx hy e
      subst this
      simp [Nd.enc, D.cmps, D.eqv, eqv_st]
    · simp [Nd.enc, D.cmps, D.eqv, e, D.alk]
end Tw
set_option autoImplicit false
set_option linter.all false
namespace Tw
structure Gr where
  left : List Int
  fold : List Int
  nodes : List Nd
def dName (v : Int) : Nm := [[97], [98], [99], [97, 98, 99, 100, 101]].getD v.toNat [97]
def dStamp (v : Int) : Int := [0, 1, 2, 999].getD v.toNat 0
def gStep (ns : List Int) (at_ : Nat) (s : Gr) (k : Nat) : Gr :=
  let i := (pickV ns (at_ + 1 + 6 * k) s.left.length).toNat
  let num := s.left.getD i 0
  let par := s.fold.getD (pickV ns (at_ + 2 + 6 * k) s.fold.length).toNat 0
  let name := dName (pickV ns (at_ + 3 + 6 * k) 4)
  let st := if 1 < pickV ns (at_ + 4 + 6 * k) 5 then some (dStamp (pickV ns (at_ + 5 + 6 * k) 4)) else none
  if (par, name) ∈ spots s.nodes then { s with left := s.left.eraseIdx i }
  else ⟨s.left.eraseIdx i, if st = none then s.fold ++ [num] else s.fold, s.nodes ++ [⟨num, par, name, st⟩]⟩
def count (ns : List Int) (at_ most : Nat) : Nat := (pickV ns at_ (most + 1)).toNat
def drawnG (ns : List Int) (at_ most : Nat) : Gr := (List.range (count ns at_ most)).foldl (gStep ns at_) ⟨(List.range (most + 3)).map fun (k : Nat) => (1 : Int) + (k : Int), [0], []⟩
def drawn (ns : List Int) (at_ most : Nat) : List Nd := sortN (drawnG ns at_ most).nodes
theorem dName_good (v : Int) : goodName (dName v) = true := by
  unfold dName
  match v.toNat with
  | 0 => decide
  | 1 => decide
  | 2 => decide
  | 3 => decide
  | n + 4 => simp [goodName]
theorem dStamp_good (v : Int) : 0 ≤ dStamp v ∧ dStamp v ≤ 999 := by
  unfold dStamp
  match v.toNat with
  | 0 => decide
  | 1 => decide
  | 2 => decide
  | 3 => decide
  | n + 4 => simp
structure GInv (most : Nat) (s : Gr) (k : Nat) : Prop where
  grown : Grown s.nodes
  nd : (s.left ++ nums s.nodes).Nodup
  rng : ∀ x ∈ s.left ++ nums s.nodes, 1 ≤ x ∧ x ≤ most + 3
  len : s.left.length + k = most + 3
  folds : ∀ x ∈ s.fold, x = 0 ∨ ∃ f ∈ s.nodes, f.n = x ∧ f.st = none
  some_ : s.fold ≠ []
  few : s.nodes.length ≤ k
  few2 : s.fold.length ≤ k + 1
theorem getD_mem {α : Type} {l : List α} {i : Nat} {d : α} (h : i < l.length) : l.getD i d ∈ l := by
  rw [List.getD_eq_getElem?_getD, List.getElem?_eq_getElem h]
  exact List.getElem_mem h
theorem erase_perm {α : Type} : ∀ (l : List α) (i : Nat) (h : i < l.length), (l[i] :: l.eraseIdx i).Perm l
  | a :: l, 0, _ => by simp
  | a :: l, i + 1, h => by
    have := erase_perm l i (by simpa using h)
    simp only [List.getElem_cons_succ, List.eraseIdx_cons_succ]
    exact (List.Perm.swap a _ _).trans (this.cons a)
theorem toNat_lt {v : Int} {n : Nat} (h : 0 ≤ v ∧ v < (n : Int)) : v.toNat < n := by omega
theorem gStep_inv {ns : List Int} {at_ most k : Nat} {s : Gr} (I : GInv most s k) (hk : k < most + 3) : GInv most (gStep ns at_ s k) (k + 1) := by
  have hl : 0 < s.left.length := by have := I.len; omega
  have hf : 0 < s.fold.length := List.length_pos_iff.mpr I.some_
  have b1 := pickV_lt ns (at_ + 1 + 6 * k) (many := s.left.length) (by omega)
  have b2 := pickV_lt ns (at_ + 2 + 6 * k) (many := s.fold.length) (by omega)
  unfold gStep
  simp only
  have hi := toNat_lt b1
  have hj := toNat_lt b2
  generalize (pickV ns (at_ + 1 + 6 * k) s.left.length).toNat = i at hi
  generalize (pickV ns (at_ + 2 + 6 * k) s.fold.length).toNat = j at hj
  have m1 : s.left.getD i 0 ∈ s.left := getD_mem hi
  have m2 : s.fold.getD j 0 ∈ s.fold := getD_mem hj
  have pm : (s.left.getD i 0 :: s.left.eraseIdx i).Perm s.left := by
    rw [List.getD_eq_getElem?_getD, List.getElem?_eq_getElem hi]
    exact erase_perm _ _ hi
  have sub : (s.left.eraseIdx i).Sublist s.left := List.eraseIdx_sublist _ _
  have lenE : (s.left.eraseIdx i).length + (k + 1) = most + 3 := by
    have := List.length_eraseIdx_of_lt hi
    have := I.len
    omega
  have gst : goodSt (if 1 < pickV ns (at_ + 4 + 6 * k) 5 then some (dStamp (pickV ns (at_ + 5 + 6 * k) 4)) else none) = true := by
    split
    · have := dStamp_good (pickV ns (at_ + 5 + 6 * k) 4)
      simp only [goodSt, Bool.and_eq_true, decide_eq_true_eq]
      exact this
    · rfl
  generalize (if 1 < pickV ns (at_ + 4 + 6 * k) 5 then some (dStamp (pickV ns (at_ + 5 + 6 * k) 4)) else none) = st at gst ⊢
  have gnm := dName_good (pickV ns (at_ + 3 + 6 * k) 4)
  generalize dName (pickV ns (at_ + 3 + 6 * k) 4) = name at gnm ⊢
  split
  · refine ⟨I.grown, ?_, fun x m => I.rng x ?_, lenE, I.folds, I.some_, Nat.le_succ_of_le I.few, Nat.le_succ_of_le I.few2⟩
    · exact I.nd.sublist (sub.append (List.Sublist.refl _))
    · rcases List.mem_append.mp m with m | m
      · exact List.mem_append_left _ (sub.subset m)
      · exact List.mem_append_right _ m
  · rename_i hs
    have nd := I.nd
    rw [List.nodup_append] at nd
    have fresh : s.left.getD i 0 ∉ nums s.nodes := fun m => nd.2.2 _ m1 _ m rfl
    have r1 := I.rng _ (List.mem_append_left _ m1)
    have pz : s.fold.getD j 0 = 0 ∨ ∃ f ∈ s.nodes, f.n = s.fold.getD j 0 ∧ f.st = none := I.folds _ m2
    have p0 : 0 ≤ s.fold.getD j 0 := by
      rcases pz with e | ⟨f, hf, e, _⟩
      · omega
      · have := I.rng f.n (List.mem_append_right _ (List.mem_map.mpr ⟨f, hf, rfl⟩)); omega
    refine ⟨I.grown.snoc ?_ fresh hs pz, ?_, fun x m => ?_, lenE, fun x m => ?_, ?_, ?_, ?_⟩
    · unfold Nd.good
      simp only [Bool.and_eq_true, decide_eq_true_eq]
      exact ⟨⟨⟨r1.1, p0⟩, gnm⟩, gst⟩
    · have e : (s.left.eraseIdx i ++ nums (s.nodes ++ [⟨s.left.getD i 0, s.fold.getD j 0, name, st⟩])).Perm (s.left ++ nums s.nodes) := by
        simp only [nums, List.map_append, List.map_cons, List.map_nil]
        refine List.Perm.trans ?_ (pm.append_right _)
        rw [← List.append_assoc]
        exact List.perm_append_comm.trans (List.Perm.refl _)
      exact e.nodup_iff.mpr I.nd
    · rcases List.mem_append.mp m with m | m
      · exact I.rng x (List.mem_append_left _ (sub.subset m))
      · simp only [nums, List.map_append, List.map_cons, List.map_nil, List.mem_append, List.mem_singleton] at m
        rcases m with m | m
        · exact I.rng x (List.mem_append_right _ m)
        · subst m; exact r1
    · have old : x ∈ s.fold → x = 0 ∨ ∃ f ∈ s.nodes ++ [⟨s.left.getD i 0, s.fold.getD j 0, name, st⟩], f.n = x ∧ f.st = none := fun m => by
        rcases I.folds x m with e | ⟨f, hf, e⟩
        · exact .inl e
        · exact .inr ⟨f, List.mem_append_left _ hf, e⟩
      by_cases hst : st = none
      · rw [if_pos hst] at m
        rcases List.mem_append.mp m with m | m
        · exact old m
        · rw [List.mem_singleton.mp m]
          exact .inr ⟨_, List.mem_append_right _ (List.mem_singleton.mpr rfl), rfl, hst⟩
      · rw [if_neg hst] at m
        exact old m
    · show (if st = none then s.fold ++ [s.left.getD i 0] else s.fold) ≠ []
      split
      · simp
      · exact I.some_
    · have := I.few
      show (s.nodes ++ [_]).length ≤ k + 1
      simp; omega
    · have := I.few2
      show (if st = none then s.fold ++ [s.left.getD i 0] else s.fold).length ≤ k + 1 + 1
      split
      · simp; omega
      · omega
theorem gInv_fold {ns : List Int} {at_ most : Nat} : ∀ (n : Nat) , n ≤ most → GInv most ((List.range n).foldl (gStep ns at_) ⟨(List.range (most + 3)).map fun (k : Nat) => (1 : Int) + (k : Int), [0], []⟩) n
  | 0, _ => by
    refine ⟨.nil, ?_, fun x m => ?_, by simp, fun x m => .inl (by simpa using m), by simp, by simp, by simp⟩
    · simp only [List.range_zero, List.foldl_nil, nums, List.map_nil, List.append_nil]
      show ((List.range (most + 3)).map fun (k : Nat) => (1 : Int) + (k : Int)).Nodup
      refine List.pairwise_map.mpr (List.Pairwise.imp (R := fun a b : Nat => a ≠ b) (fun {a b} h => ?_) List.nodup_range)
      intro e
      exact h (by omega)
    · simp at m
      obtain ⟨k, hk, e⟩ := m
      omega
  | n + 1, h => by
    rw [List.range_succ (n := n), List.foldl_append]
    exact gStep_inv (gInv_fold n (by omega)) (by omega)
theorem count_le (ns : List Int) (at_ most : Nat) : count ns at_ most ≤ most := by
  have := pickV_lt ns at_ (many := most + 1) (by omega)
  unfold count
  omega
theorem drawn_inv (ns : List Int) (at_ most : Nat) : GInv most (drawnG ns at_ most) (count ns at_ most) := gInv_fold _ (count_le ns at_ most)
theorem pick_ok' {S : D} {ns : List Int} (h : Scr S ns) {i : Int} {k : Nat} (e : i = (k : Int)) {many : Int} (hm : 0 < many) : M.m_pick_L [S, .int i, .int many] = .ok (.int (pickV ns k many)) := by
  subst e; exact pick_ok h k hm
theorem idx_ints {l : List Int} {v : Int} (h : 0 ≤ v ∧ v < (l.length : Int)) : D.idx (.lst (l.map D.int)) (.int v) = .ok (.int (l.getD v.toNat 0)) := by
  have hi : v.toNat < l.length := toNat_lt h
  simp [D.idx, atI, h.1, List.getElem?_eq_getElem hi, Res.ofOpt]
theorem idx_name {v : Int} (h : 0 ≤ v ∧ v < 4) : D.idx (.lst [.str [97], .str [98], .str [99], .str [97, 98, 99, 100, 101]]) (.int v) = .ok (.str (dName v)) := by
  have : v = 0 ∨ v = 1 ∨ v = 2 ∨ v = 3 := by omega
  rcases this with rfl | rfl | rfl | rfl <;> rfl
theorem idx_stamp {v : Int} (h : 0 ≤ v ∧ v < 4) : D.idx (.lst [.int 0, .int 1, .int 2, .int 999]) (.int v) = .ok (.int (dStamp v)) := by
  have : v = 0 ∨ v = 1 ∨ v = 2 ∨ v = 3 := by omega
  rcases this with rfl | rfl | rfl | rfl <;> rfl
theorem spot_in {L : List Nd} (g : ∀ x ∈ L, x.good = true) {p : Int} {nm : Nm} (hn : goodName nm = true) : D.notIn (.tup [.int p, .str nm]) (.lst (L.map fun x => .tup [.int x.p, .str x.nm])) = .ok (.bl (!decide ((p, nm) ∈ spots L))) := by
  have h1 : D.good (.tup [.int p, .str nm]) = true := by simpa [D.good, D.pl, D.pls] using name_ok hn
  have h2 : D.pl 40 (.lst (L.map fun x => .tup [.int x.p, .str x.nm])) = true := by
    simp only [D.pl]
    refine pls_mem fun y m => ?_
    obtain ⟨x, hx, rfl⟩ := List.mem_map.mp m
    have := g x hx
    unfold Nd.good at this
    simp only [Bool.and_eq_true] at this
    simpa [D.pl, D.pls] using name_ok this.1.2
  have h3 : (L.map fun x : Nd => D.tup [.int x.p, .str x.nm]).any (fun y => D.eqv y (.tup [.int p, .str nm])) = decide ((p, nm) ∈ spots L) := by
    rw [List.any_map]
    induction L with
    | nil => simp
    | cons x L ih =>
      rw [List.any_cons, ih (fun y m => g y (List.mem_cons_of_mem _ m)) (by
        simp only [D.pl, List.map_cons, D.pls, Bool.and_eq_true] at h2 ⊢
        exact h2.2)]
      have h3 : D.eqv (.tup [.int x.p, .str x.nm]) (.tup [.int p, .str nm]) = decide ((p, nm) = (x.p, x.nm)) := by
        by_cases e1 : x.p = p
        · by_cases e2 : x.nm = nm
          · simp [D.eqv, D.eqvs, e1, e2]
          · have e3 : nm ≠ x.nm := fun z => e2 z.symm
            simp [D.eqv, D.eqvs, e1, e2, e3]
        · have e3 : p ≠ x.p := fun z => e1 z.symm
          simp [D.eqv, D.eqvs, e1, e3]
      simp only [Function.comp, h3]
      show (decide ((p, nm) = (x.p, x.nm)) || decide ((p, nm) ∈ spots L)) = decide ((p, nm) ∈ (x.p, x.nm) :: spots L)
      by_cases e1 : (p, nm) = (x.p, x.nm)
      · rw [e1]; simp
      · rw [decide_eq_false e1, Bool.false_or]
        by_cases e2 : (p, nm) ∈ spots L
        · rw [decide_eq_true e2, decide_eq_true (List.mem_cons_of_mem _ e2)]
        · rw [decide_eq_false e2, decide_eq_false]
          intro z
          rcases List.mem_cons.mp z with z | z
          · exact e1 z
          · exact e2 z
  have h4 : D.has (.tup [.int p, .str nm]) (.lst (L.map fun x => .tup [.int x.p, .str x.nm])) = some (decide ((p, nm) ∈ spots L)) := by
    unfold D.has
    simp only
    have h1' : D.pl 40 (.tup [.int p, .str nm]) = true := h1
    rw [show D.good (.tup [.int p, .str nm]) = true from h1, h2]
    simp [h3]
  unfold D.notIn
  rw [h4]
  rfl
end Tw
set_option autoImplicit false
set_option linter.all false
namespace Tw
def gAt (ns : List Int) (at_ most : Nat) (i : Nat) : Gr := (List.range i).foldl (gStep ns at_) ⟨(List.range (most + 3)).map fun (k : Nat) => (1 : Int) + (k : Int), [0], []⟩
theorem gAt_succ (ns : List Int) (at_ most i : Nat) : gAt ns at_ most (i + 1) = gStep ns at_ (gAt ns at_ most i) i := by
  unfold gAt
  rw [List.range_succ (n := i), List.foldl_append]
  rfl
theorem rng_left {most : Nat} (ns : List Int) (at_ : Nat) (hm : most ≤ 1000) : rng2 (.int 1) (.int ((most : Int) + 4)) = .ok ((gAt ns at_ most 0).left.map D.int) ∧ ((gAt ns at_ most 0).left.map D.int).length ≤ szl := by
  have e : ((most : Int) + 4 - 1).toNat = most + 3 := by omega
  have s1 : (smallR 1 && smallR ((most : Int) + 4)) = true := by simp [smallR]; omega
  refine ⟨?_, ?_⟩
  · simp only [rng2, s1, if_true, rangeL, e, gAt, List.range_zero, List.foldl_nil, List.map_map]
    rfl
  · refine Nat.le_of_lt (small_szl ?_)
    simp [gAt]; omega
theorem rng_count {v : Int} (h : 0 ≤ v ∧ v ≤ 1000) : rng1 (.int v) = .ok ((List.range v.toNat).map fun (k : Nat) => D.int (0 + (k : Int))) := by
  have s1 : smallR v = true := by simp [smallR]; omega
  simp only [rng1, s1, if_true, rangeL]
abbrev eAt (S : D) (at_ most : Nat) (s : Gr) (a b c d e f : Slot) : Env := [.bor S, .bor (.int at_), .bor (.int most), .own (.lst (s.left.map D.int)), .own (.lst (s.fold.map D.int)), .own (.lst (s.nodes.map Nd.enc)), a, b, c, d, e, f]
theorem comp_spots {S : D} {at_ most : Nat} {s : Gr} {a b c d e f : Slot} (hl : s.nodes.length ≤ 1000) : eComp (iE (eB 5)) [11] (gN 11) tTrue (eSl (eB 11) (some (eC (.int 1))) (some (eC (.int 3)))) (eAt S at_ most s a b c d e f) = .ok (.lst (s.nodes.map fun x => .tup [.int x.p, .str x.nm])) := by
  refine ecomp_ok (xs := s.nodes.map Nd.enc) rfl (small_szl (by simp; omega)) ?_
  exact compGo_map fun x m => rfl
theorem eL_nil {e : Env} : eL [] e = .ok [] := rfl
theorem eL_cons {a : E} {r : List E} {e : Env} {x : D} {xs : List D} (h : a e = .ok x) (h2 : eL r e = .ok xs) : eL (a :: r) e = .ok (x :: xs) := by unfold eL; rw [h]; simp only [Res.bind_ok]; rw [h2]; rfl
theorem pick_at {S : D} {ns : List Int} (h : Scr S ns) {at_ most i : Nat} {s : Gr} {b c d e f : Slot} (j : Nat) {many : Int} {fm : E} (hm : fm (eAt S at_ most s (.sh (.int (0 + (i : Int)))) b c d e f) = .ok (.int many)) (hp : 0 < many) :
    eCall M.m_pick_L [eB 0, e2 D.add (e2 D.add (eB 1) (eC (.int (j : Int)))) (e2 D.mul (eC (.int 6)) (eB 6)), fm] (eAt S at_ most s (.sh (.int (0 + (i : Int)))) b c d e f) = .ok (.int (pickV ns (at_ + j + 6 * i) many)) := by
  refine call_ok (ds := [S, .int (at_ + j + 6 * (0 + (i : Int))), .int many]) (eL_cons rfl (eL_cons rfl (eL_cons hm eL_nil))) ?_
  exact pick_ok' h (by simp) hp
theorem map_erase {α β : Type} (f : α → β) : ∀ (l : List α) (i : Nat), (l.map f).eraseIdx i = (l.eraseIdx i).map f
  | [], _ => by simp
  | _ :: _, 0 => by simp
  | a :: l, i + 1 => by simp [map_erase f l i]
theorem tree_ok {S : D} {ns : List Int} (h : Scr S ns) (at_ most : Nat) (hm : most ≤ 1000) : M.m_tree_L [S, .int at_, .int most] = .ok (encT (drawn ns at_ most)) := by
  have p0 := pick_ok h at_ (many := (most : Int) + 1) (by omega)
  have c0 := pickV_lt ns at_ (many := (most : Int) + 1) (by omega)
  obtain ⟨r1, l1⟩ := rng_left ns at_ hm
  have r2 := rng_count (v := pickV ns at_ ((most : Int) + 1)) (by omega)
  refine runD_rt (a := M.b_tree_L) rfl ?_
  refine seq_nx (e1 := [.bor S, .bor (.int at_), .bor (.int most), .own (.lst ((gAt ns at_ most 0).left.map D.int)), .un, .un, .un, .un, .un, .un, .un, .un]) ?_ ?_
  · exact own_ok (d := .lst ((gAt ns at_ most 0).left.map D.int)) (rng_ok rfl rfl r1 l1)
  refine seq_nx (e1 := [.bor S, .bor (.int at_), .bor (.int most), .own (.lst ((gAt ns at_ most 0).left.map D.int)), .own (.lst [.int 0]), .un, .un, .un, .un, .un, .un, .un]) (own_ok rfl) ?_
  refine seq_nx (e1 := eAt S at_ most (gAt ns at_ most 0) .un .un .un .un .un .un) (own_ok rfl) ?_
  have loop := forGo_idx (R := fun i env => ∃ a b c d e f, env = eAt S at_ most (gAt ns at_ most i) a b c d e f) (g := gN 6)
    (b := (sSeq (sPopAt 7 3 (eCall M.m_pick_L [(eB 0), (e2 D.add (e2 D.add (eB 1) (eC (.int 1))) (e2 D.mul (eC (.int 6)) (eB 6))), (e1 D.len (eB 3))])) (sSeq (sSet 8 (e2 D.idx (eB 4) (eCall M.m_pick_L [(eB 0), (e2 D.add (e2 D.add (eB 1) (eC (.int 2))) (e2 D.mul (eC (.int 6)) (eB 6))), (e1 D.len (eB 4))]))) (sSeq (sSet 9 (e2 D.idx (eLst [(eC (.str [97])), (eC (.str [98])), (eC (.str [99])), (eC (.str [97, 98, 99, 100, 101]))]) (eCall M.m_pick_L [(eB 0), (e2 D.add (e2 D.add (eB 1) (eC (.int 3))) (e2 D.mul (eC (.int 6)) (eB 6))), (eC (.int 4))]))) (sSeq (sSet 10 (eC .non)) (sSeq (sIf (tE (e2 D.gtI (eCall M.m_pick_L [(eB 0), (e2 D.add (e2 D.add (eB 1) (eC (.int 4))) (e2 D.mul (eC (.int 6)) (eB 6))), (eC (.int 5))]) (eC (.int 1)))) (sSet 10 (e2 D.idx (eLst [(eC (.int 0)), (eC (.int 1)), (eC (.int 2)), (eC (.int 999))]) (eCall M.m_pick_L [(eB 0), (e2 D.add (e2 D.add (eB 1) (eC (.int 5))) (e2 D.mul (eC (.int 6)) (eB 6))), (eC (.int 4))]))) sNil) (sIf (tE (e2 D.notIn (eTup [(eV 8), (eV 9)]) (eComp (iE (eB 5)) [11] (gN 11) tTrue (eSl (eB 11) (some (eC (.int 1))) (some (eC (.int 3))))))) (sSeq (sApp 5 (eTup [(eV 7), (eV 8), (eV 9), (eV 10)])) (sIf (tE (e1 D.isN (eB 10))) (sApp 4 (eV 7)) sNil)) sNil)))))))
    (xs := (List.range (count ns at_ most)).map fun (k : Nat) => D.int (0 + (k : Int))) (env := eAt S at_ most (gAt ns at_ most 0) .un .un .un .un .un .un) 0 (fun i x env hx ⟨a, b, c, d, e, f, he⟩ => by
      subst he
      rw [Nat.zero_add]
      rw [List.getElem?_map] at hx
      have hi : i < count ns at_ most := by
        cases q : (List.range (count ns at_ most))[i]? with
        | none => rw [q] at hx; cases hx
        | some z => simpa using (List.getElem?_eq_some_iff.mp q).1
      have ex : x = .int (0 + (i : Int)) := by
        rw [List.getElem?_range hi] at hx
        exact (Option.some.inj hx).symm
      subst ex
      have I := gInv_fold (ns := ns) (at_ := at_) (most := most) i (by have := count_le ns at_ most; omega)
      rw [gAt_succ]
      change GInv most (gAt ns at_ most i) i at I
      generalize gAt ns at_ most i = s at I
      have hc := count_le ns at_ most
      have hl : 0 < s.left.length := by have := I.len; omega
      have hll : s.left.length ≤ 2000 := by have := I.len; omega
      have hf : 0 < s.fold.length := List.length_pos_iff.mpr I.some_
      have hfl : s.fold.length ≤ 1001 := by have := I.few2; omega
      have hnl : s.nodes.length ≤ 1000 := by have := I.few; omega
      have b1 := pickV_lt ns (at_ + 1 + 6 * i) (many := s.left.length) (by omega)
      have b2 := pickV_lt ns (at_ + 2 + 6 * i) (many := s.fold.length) (by omega)
      have b3 := pickV_lt ns (at_ + 3 + 6 * i) (many := 4) (by decide)
      have b5 := pickV_lt ns (at_ + 5 + 6 * i) (many := 4) (by decide)
      have g1 := I.grown.good
      refine ⟨eAt S at_ most s (.sh (.int (0 + (i : Int)))) b c d e f, ?_⟩
      refine (fun hb => let ⟨a', b', c', d', e', f', hb⟩ := hb; ⟨_, rfl, .inl hb, a', b', c', d', e', f', rfl⟩ : (∃ a' b' c' d' e' f', _ = RS.nx (eAt S at_ most (gStep ns at_ s i) a' b' c' d' e' f')) → _) ?_
      have n1 : (pickV ns (at_ + 1 + 6 * i) s.left.length).toNat < s.left.length := toNat_lt b1
      -- number
      have st1 : sPopAt 7 3 (eCall M.m_pick_L [(eB 0), (e2 D.add (e2 D.add (eB 1) (eC (.int 1))) (e2 D.mul (eC (.int 6)) (eB 6))), (e1 D.len (eB 3))]) (eAt S at_ most s (.sh (.int (0 + (i : Int)))) b c d e f) =
          .nx (eAt S at_ most { s with left := s.left.eraseIdx (pickV ns (at_ + 1 + 6 * i) s.left.length).toNat } (.sh (.int (0 + (i : Int)))) (.sh (.int (s.left.getD (pickV ns (at_ + 1 + 6 * i) s.left.length).toNat 0))) c d e f) := by
        refine (popAt_ok (xs := s.left.map D.int) (k := pickV ns (at_ + 1 + 6 * i) s.left.length) (x := .int (s.left.getD (pickV ns (at_ + 1 + 6 * i) s.left.length).toNat 0)) rfl ?_ ⟨b1.1, by omega⟩ ?_).trans ?_
        · exact pick_at h 1 (many := s.left.length) (by simp [e1, eB, D.len]) (by omega)
        · rw [List.getElem?_map, List.getElem?_eq_getElem n1, List.getD_eq_getElem?_getD, List.getElem?_eq_getElem n1]
          rfl
        · simp [eAt, map_erase]
      -- parent
      have st2 : ∀ z : Slot, sSet 8 (e2 D.idx (eB 4) (eCall M.m_pick_L [(eB 0), (e2 D.add (e2 D.add (eB 1) (eC (.int 2))) (e2 D.mul (eC (.int 6)) (eB 6))), (e1 D.len (eB 4))])) (eAt S at_ most { s with left := s.left.eraseIdx (pickV ns (at_ + 1 + 6 * i) s.left.length).toNat } (.sh (.int (0 + (i : Int)))) z c d e f) =
          .nx (eAt S at_ most { s with left := s.left.eraseIdx (pickV ns (at_ + 1 + 6 * i) s.left.length).toNat } (.sh (.int (0 + (i : Int)))) z (.sh (.int (s.fold.getD (pickV ns (at_ + 2 + 6 * i) s.fold.length).toNat 0))) d e f) := fun z => by
        refine set_ok ?_
        unfold e2
        rw [show eB 4 (eAt S at_ most { s with left := s.left.eraseIdx (pickV ns (at_ + 1 + 6 * i) s.left.length).toNat } (.sh (.int (0 + (i : Int)))) z c d e f) = .ok (.lst (s.fold.map D.int)) from rfl]
        simp only [Res.bind_ok]
        refine (congrArg (fun r => Res.bind r fun y => D.idx (.lst (s.fold.map D.int)) y) (pick_at h 2 (many := s.fold.length) (by simp [e1, eB, D.len]) (by omega))).trans ?_
        exact idx_ints b2
      generalize hs1 : ({ s with left := s.left.eraseIdx (pickV ns (at_ + 1 + 6 * i) s.left.length).toNat } : Gr) = s1 at st1 st2
      have en : s1.nodes = s.nodes := by rw [← hs1]
      have ef : s1.fold = s.fold := by rw [← hs1]
      have el : s1.left = s.left.eraseIdx (pickV ns (at_ + 1 + 6 * i) s.left.length).toNat := by rw [← hs1]
      generalize hnum : s.left.getD (pickV ns (at_ + 1 + 6 * i) s.left.length).toNat 0 = num at st1
      generalize hpar : s.fold.getD (pickV ns (at_ + 2 + 6 * i) s.fold.length).toNat 0 = par at st2
      -- name
      have st3 : ∀ z y : Slot, sSet 9 (e2 D.idx (eLst [(eC (.str [97])), (eC (.str [98])), (eC (.str [99])), (eC (.str [97, 98, 99, 100, 101]))]) (eCall M.m_pick_L [(eB 0), (e2 D.add (e2 D.add (eB 1) (eC (.int 3))) (e2 D.mul (eC (.int 6)) (eB 6))), (eC (.int 4))])) (eAt S at_ most s1 (.sh (.int (0 + (i : Int)))) z y d e f) =
          .nx (eAt S at_ most s1 (.sh (.int (0 + (i : Int)))) z y (.sh (.str (dName (pickV ns (at_ + 3 + 6 * i) 4)))) e f) := fun z y => by
        refine set_ok ?_
        refine (congrArg (fun r => Res.bind r fun y => D.idx (.lst [.str [97], .str [98], .str [99], .str [97, 98, 99, 100, 101]]) y) (pick_at h 3 (many := 4) rfl (by decide))).trans ?_
        exact idx_name b3
      have gnm := dName_good (pickV ns (at_ + 3 + 6 * i) 4)
      -- stamp
      have st5 : ∀ z y x : Slot, sIf (tE (e2 D.gtI (eCall M.m_pick_L [(eB 0), (e2 D.add (e2 D.add (eB 1) (eC (.int 4))) (e2 D.mul (eC (.int 6)) (eB 6))), (eC (.int 5))]) (eC (.int 1)))) (sSet 10 (e2 D.idx (eLst [(eC (.int 0)), (eC (.int 1)), (eC (.int 2)), (eC (.int 999))]) (eCall M.m_pick_L [(eB 0), (e2 D.add (e2 D.add (eB 1) (eC (.int 5))) (e2 D.mul (eC (.int 6)) (eB 6))), (eC (.int 4))]))) sNil (eAt S at_ most s1 (.sh (.int (0 + (i : Int)))) z y x (.sh .non) f) =
          .nx (eAt S at_ most s1 (.sh (.int (0 + (i : Int)))) z y x (.sh (stD (if 1 < pickV ns (at_ + 4 + 6 * i) 5 then some (dStamp (pickV ns (at_ + 5 + 6 * i) 4)) else none))) f) := fun z y x => by
        have ht : tE (e2 D.gtI (eCall M.m_pick_L [(eB 0), (e2 D.add (e2 D.add (eB 1) (eC (.int 4))) (e2 D.mul (eC (.int 6)) (eB 6))), (eC (.int 5))]) (eC (.int 1))) (eAt S at_ most s1 (.sh (.int (0 + (i : Int)))) z y x (.sh .non) f) = .ok (decide (1 < pickV ns (at_ + 4 + 6 * i) 5)) :=
          (congrArg (fun r => Res.bind (Res.bind r fun y => D.gtI y (.int 1)) D.asB) (pick_at h 4 (many := 5) rfl (by decide))).trans rfl
        by_cases q : 1 < pickV ns (at_ + 4 + 6 * i) 5
        · rw [decide_eq_true q] at ht
          refine if_t ht ?_
          rw [if_pos q]
          refine set_ok ?_
          refine (congrArg (fun r => Res.bind r fun y => D.idx (.lst [.int 0, .int 1, .int 2, .int 999]) y) (pick_at h 5 (many := 4) rfl (by decide))).trans ?_
          exact idx_stamp b5
        · rw [decide_eq_false q] at ht
          refine if_f ht ?_
          rw [if_neg q]
          rfl
      refine (fun hb => let ⟨a', b', c', d', e', f', hb⟩ := hb; ⟨a', b', c', d', e', f', seq_nx st1 (seq_nx (st2 _) (seq_nx (st3 _ _) (seq_nx (e1 := eAt S at_ most s1 (.sh (.int (0 + (i : Int)))) _ _ _ (.sh .non) f) (set_ok rfl) (seq_nx (st5 _ _ _) hb))))⟩ : (∃ a' b' c' d' e' f', _ = RS.nx (eAt S at_ most (gStep ns at_ s i) a' b' c' d' e' f')) → _) ?_
      unfold gStep
      simp only [hnum, hpar, ← el]
      generalize dName (pickV ns (at_ + 3 + 6 * i) 4) = name at gnm ⊢
      generalize (if 1 < pickV ns (at_ + 4 + 6 * i) 5 then some (dStamp (pickV ns (at_ + 5 + 6 * i) 4)) else none) = st
      have hin : tE (e2 D.notIn (eTup [(eV 8), (eV 9)]) (eComp (iE (eB 5)) [11] (gN 11) tTrue (eSl (eB 11) (some (eC (.int 1))) (some (eC (.int 3)))))) (eAt S at_ most s1 (.sh (.int (0 + (i : Int)))) (.sh (.int num)) (.sh (.int par)) (.sh (.str name)) (.sh (stD st)) f) = .ok (!decide ((par, name) ∈ spots s.nodes)) := by
        have hcs := comp_spots (S := S) (at_ := at_) (most := most) (s := s1) (a := .sh (.int (0 + (i : Int)))) (b := .sh (.int num)) (c := .sh (.int par)) (d := .sh (.str name)) (e := .sh (stD st)) (f := f) (by rw [en]; exact hnl)
        refine (congrArg (fun r => Res.bind (Res.bind r fun y => D.notIn (.tup [.int par, .str name]) y) D.asB) hcs).trans ?_
        simp only [Res.bind_ok]
        rw [en, spot_in g1 gnm]
        rfl
      by_cases q : (par, name) ∈ spots s.nodes
      · rw [decide_eq_true q] at hin
        rw [if_pos q]
        refine ⟨.sh (.int (0 + (i : Int))), .sh (.int num), .sh (.int par), .sh (.str name), .sh (stD st), f, if_f hin ?_⟩
        show RS.nx _ = RS.nx _
        simp only [eAt, en, ef]
      · rw [decide_eq_false q] at hin
        rw [if_neg q]
        refine ⟨.sh (.int (0 + (i : Int))), .sh (.int num), .sh (.int par), .sh (.str name), .sh (stD st), f, if_t hin (seq_nx (app_ok (xs := s1.nodes.map Nd.enc) rfl (d := Nd.enc ⟨num, par, name, st⟩) rfl (small_szl (by simp [en]; omega))) ?_)⟩
        cases st with
        | none =>
          refine if_t rfl ?_
          refine (app_ok (xs := s1.fold.map D.int) rfl (d := .int num) rfl (small_szl (by simp [ef]; omega))).trans ?_
          simp [eAt, en, ef]
        | some v =>
          refine if_f rfl ?_
          simp [eAt, en, ef, sNil]
      ) ⟨_, _, _, _, _, _, rfl⟩
  obtain ⟨env', h1, a, b, c, d, e, f, he⟩ := loop
  rw [Nat.zero_add, List.length_map, List.length_range] at he
  subst he
  have it : iR1 (eCall M.m_pick_L [(eB 0), (eB 1), (e2 D.add (eB 2) (eC (.int 1)))]) (eAt S at_ most (gAt ns at_ most 0) .un .un .un .un .un .un) = .ok ((List.range (count ns at_ most)).map fun (k : Nat) => D.int (0 + (k : Int))) :=
    (congrArg (fun r => Res.bind r rng1) (call_ok (ds := [S, .int at_, .int ((most : Int) + 1)]) (eL_cons rfl (eL_cons rfl (eL_cons rfl eL_nil))) p0)).trans r2
  refine seq_nx (for_go it h1) (ret_ok ?_)
  have I := drawn_inv ns at_ most
  have eg : gAt ns at_ most (count ns at_ most) = drawnG ns at_ most := rfl
  rw [eg]
  have hs := sortable_enc I.grown.good I.grown.nodup.1
  have hl : ((drawnG ns at_ most).nodes.map Nd.enc).length ≤ szl := Nat.le_of_lt (small_szl (by have := I.few; have := count_le ns at_ most; simp; omega))
  have e5 : D.sorted (.lst ((drawnG ns at_ most).nodes.map Nd.enc)) = .ok (.lst ((drawn ns at_ most).map Nd.enc)) := by
    unfold D.sorted
    simp only
    rw [hs, decide_eq_true hl, sortD_enc I.grown.nodup.1]
    rfl
  exact congrArg (fun r => Res.bind r D.toTup) e5
end Tw
set_option autoImplicit false
set_option linter.all false
namespace Tw
def isNm : D → Bool
  | .str s => goodName s
  | _ => false
def smp : D → Bool
  | .dct _ _ => false
  | .exc _ => false
  | .inp _ => false
  | .str s => decide (s.length ≤ 100)
  | _ => true
theorem and_f {a b : E} {e : Env} (h : a e = .ok (.bl false)) : eAnd a b e = .ok (.bl false) := by unfold eAnd; rw [h]; rfl
theorem and_t {a b : E} {e : Env} {r : Res D} (h : a e = .ok (.bl true)) (h2 : b e = r) : eAnd a b e = r := by unfold eAnd; rw [h]; exact h2
theorem and_b {a b : E} {e : Env} {x y : Bool} (h : a e = .ok (.bl x)) (h2 : x = true → b e = .ok (.bl y)) : eAnd a b e = .ok (.bl (x && y)) := by
  cases x with
  | true => exact and_t h (h2 rfl)
  | false => exact and_f h
theorem tnot_b {a : T} {e : Env} {x : Bool} (h : a e = .ok x) : tNot a e = .ok (!x) := by unfold tNot; rw [h]; rfl
theorem te_b {a : E} {e : Env} {x : Bool} (h : a e = .ok (.bl x)) : tE a e = .ok x := by unfold tE; rw [h]; rfl
theorem small_in (c : Nat) : D.isIn (.str [c]) (.str [97, 98, 99, 100, 101, 102, 103, 104, 105, 106, 107, 108, 109, 110, 111, 112, 113, 114, 115, 116, 117, 118, 119, 120, 121, 122]) = .ok (.bl (decide (97 ≤ c) && decide (c ≤ 122))) := by
  have e : decide (c ∈ [97, 98, 99, 100, 101, 102, 103, 104, 105, 106, 107, 108, 109, 110, 111, 112, 113, 114, 115, 116, 117, 118, 119, 120, 121, 122]) = (decide (97 ≤ c) && decide (c ≤ 122)) := by
    rw [← Bool.decide_and]
    refine decide_eq_decide.mpr ?_
    simp only [List.mem_cons, List.not_mem_nil, or_false]
    omega
  show Res.ok (D.bl (decide _)) = _
  rw [e]
theorem name_ok' {d : D} (h : smp d = true) : M.m_is_name [d] = .ok (.bl (isNm d)) := by
  refine runD_rt (a := M.b_is_name) rfl (ret_ok ?_)
  cases d with
  | str s =>
    simp only [smp, decide_eq_true_eq] at h
    have hl : D.len (.str s) = .ok (.int s.length) := by
      unfold D.len
      simp only
      rw [if_pos (Nat.le_of_lt (small_szl (by omega)))]
    have hch : eCh D.leI D.leI (eC (.int 1)) (e1 D.len (eB 0)) (eC (.int 5)) [.bor (.str s), .un] = .ok (.bl (decide (1 ≤ s.length) && decide (s.length ≤ 5))) := by
      show ((Res.ok (D.int 1)).bind fun x => (D.len (.str s)).bind fun y => (D.leI x y).bind fun z => z.asB.bind fun k => if k then (Res.ok (D.int 5)).bind fun u => D.leI y u else .ok (.bl false)) = _
      rw [hl]
      simp only [Res.bind_ok, D.leI, D.cmp, D.asB]
      by_cases q : 1 ≤ s.length
      · have q' : (1 : Int) ≤ (s.length : Int) := by omega
        rw [decide_eq_true q, decide_eq_true q']
        simp only [if_true, Bool.true_and]
        by_cases r : s.length ≤ 5
        · rw [decide_eq_true r, decide_eq_true (by omega)]
        · rw [decide_eq_false r, decide_eq_false (by omega)]
      · rw [decide_eq_false q, decide_eq_false (by omega)]
        simp
    have hco : e1 D.all (eComp (iE (eB 0)) [1] (gN 1) tTrue (e2 D.isIn (eB 1) (eC (.str [97, 98, 99, 100, 101, 102, 103, 104, 105, 106, 107, 108, 109, 110, 111, 112, 113, 114, 115, 116, 117, 118, 119, 120, 121, 122])))) [.bor (.str s), .un] = .ok (.bl (s.all fun c => decide (97 ≤ c) && decide (c ≤ 122))) := by
      have c1 : eComp (iE (eB 0)) [1] (gN 1) tTrue (e2 D.isIn (eB 1) (eC (.str [97, 98, 99, 100, 101, 102, 103, 104, 105, 106, 107, 108, 109, 110, 111, 112, 113, 114, 115, 116, 117, 118, 119, 120, 121, 122]))) [.bor (.str s), .un] = .ok (.lst (s.map fun c => .bl (decide (97 ≤ c) && decide (c ≤ 122)))) := by
        refine ecomp_ok (xs := s.map fun c => .str [c]) rfl (small_szl (by simp; omega)) ?_
        refine compGo_map fun c _ => ?_
        exact (congrArg (fun r => Res.bind r fun y => Res.ok (some y)) (small_in c)).trans rfl
      refine (congrArg (fun r => Res.bind r D.all) c1).trans ?_
      simp [D.all, bools_map, List.all_map]
    refine (and_t rfl (and_b hch fun _ => hco)).trans ?_
    simp [isNm, goodName]
  | _ => first | rfl | (simp [smp] at h)
theorem tor_f {a b : T} {e : Env} {r : Res Bool} (h : a e = .ok false) (h2 : b e = r) : tOr a b e = r := by unfold tOr; rw [h]; exact h2
end Tw
set_option autoImplicit false
set_option linter.all false
namespace Tw
def look (T : List Nd) (n : Int) : Option Nd := T.find? fun x => decide (x.n = n)
def bookOf (T : List Nd) : List (Ky × D) := T.map fun x => (.int x.n, x.row)
theorem kget_book (n : Int) : ∀ T : List Nd, kget (.int n) (bookOf T) = (look T n).map Nd.row
  | [] => rfl
  | x :: T => by
    show (if Ky.int x.n = Ky.int n then some x.row else kget (.int n) (bookOf T)) = _
    unfold look
    rw [List.find?_cons]
    by_cases h : x.n = n
    · simp [h]
    · have := kget_book n T
      unfold look at this
      simp [h, this]
theorem kmerge_new : ∀ (ps : List (Ky × D)) (acc : List (Ky × D)), (∀ p ∈ ps, khas p.1 acc = false) → (ps.map (·.1)).Nodup → kmerge acc ps = acc ++ ps
  | [], acc, _, _ => by simp [kmerge]
  | (k, v) :: ps, acc, h, nd => by
    obtain ⟨n1, n2⟩ := List.nodup_cons.mp nd
    have e : kput k v acc = acc ++ [(k, v)] := by
      unfold kput
      rw [h (k, v) List.mem_cons_self]
      rfl
    unfold kmerge
    rw [List.foldl_cons]
    show kmerge (kput k v acc) ps = _
    rw [e, kmerge_new ps _ (fun p m => ?_) n2, List.append_assoc]
    · rfl
    · have h2 := h p (List.mem_cons_of_mem _ m)
      have ne : k ≠ p.1 := fun z => n1 (by rw [z]; exact List.mem_map.mpr ⟨p, m, rfl⟩)
      unfold khas at *
      have key : ∀ l : List (Ky × D), (kget p.1 l).isSome = false → (kget p.1 (l ++ [(k, v)])).isSome = false := by
        intro l
        induction l with
        | nil => intro _; simp [kget, ne]
        | cons q l ih =>
          intro hq
          obtain ⟨q1, q2⟩ := q
          simp only [List.cons_append, kget] at hq ⊢
          by_cases z : q1 = p.1
          · rw [if_pos z] at hq; simp at hq
          · rw [if_neg z] at hq ⊢
            exact ih hq
      exact key acc h2
theorem book_ok {T : List Nd} (nd : (nums T).Nodup) (hl : T.length ≤ 1000) : M.m_book_of [encT T] = .ok (.dct false (bookOf T)) := by
  refine runD_rt (a := M.b_book_of) rfl (ret_ok ?_)
  have c1 : eComp (iE (eB 0)) [1] (gN 1) tTrue (eTup [(e2 D.idx (eB 1) (eC (.int 0))), (eSl (eB 1) (some (eC (.int 1))) none)]) [.bor (encT T), .un] = .ok (.lst (T.map fun x => .tup [.int x.n, x.row])) := by
    refine ecomp_ok (xs := T.map Nd.enc) rfl (small_szl (by simp; omega)) ?_
    exact compGo_map fun x _ => rfl
  refine (congrArg (fun r => Res.bind r D.dictK) c1).trans ?_
  have p1 : pairs? (T.map fun x : Nd => D.tup [.int x.n, x.row]) = some (bookOf T) := by
    unfold bookOf
    generalize T = U
    induction U with
    | nil => rfl
    | cons x U ih => simp [pairs?, pair?, D.key?, ih]
  have p2 : (bookOf T).all (fun p => !p.1.isTup) = true := by simp [bookOf, Ky.isTup]
  have p3 : kmerge [] (bookOf T) = bookOf T := by
    rw [kmerge_new _ _ (fun p _ => rfl)]
    · rfl
    · unfold bookOf
      rw [List.map_map]
      exact List.pairwise_map.mpr ((List.pairwise_map.mp nd).imp fun h e => h (by simpa using e))
  simp only [Res.bind_ok, D.dictK, p1, p2, if_true, p3]
def upsR (T : List Nd) : Nat → Int → Option Bool
  | 0, _ => none
  | k + 1, n => match look T n with
    | none => none
    | some x => if x.p = 0 then some true else match look T x.p with
      | none => some false
      | some y => if y.st.isSome then some false else upsR T k x.p
theorem idx_book {T : List Nd} {n : Int} {x : Nd} (h : look T n = some x) : D.idx (.dct false (bookOf T)) (.int n) = .ok x.row := by
  show Res.ofOpt (kget (.int n) (bookOf T)) = _
  rw [kget_book, h]
  rfl
def ups (T : List Nd) (n : Int) : Bool := (upsR T T.length n).getD false
end Tw
set_option autoImplicit false
set_option linter.all false
namespace Tw
def isTree (T : List Nd) : Bool := decide (nums T = setI (nums T)) && (decide ((spots T).Nodup) && T.all fun x => ups T x.n)
theorem look_mem {T : List Nd} {x : Nd} (h : x ∈ T) : (look T x.n).isSome = true := by
  unfold look
  rw [List.find?_isSome]
  exact ⟨x, h, by simp⟩
theorem look_of {T : List Nd} (nd : (nums T).Nodup) {x : Nd} (h : x ∈ T) : look T x.n = some x := by
  have := look_mem h
  obtain ⟨y, hy⟩ := Option.isSome_iff_exists.mp this
  have e : y.n = x.n := by
    have := List.find?_some hy
    simpa using this
  rw [hy, nodup_inj nd (List.mem_of_find?_eq_some hy) h e]
theorem ups_mono {T : List Nd} : ∀ (k : Nat) (n : Int), upsR T k n = some true → upsR T (k + 1) n = some true
  | 0, n, h => by simp [upsR] at h
  | k + 1, n, h => by
    unfold upsR at h ⊢
    cases e : look T n with
    | none => rw [e] at h; simp at h
    | some x =>
      rw [e] at h
      simp only at h ⊢
      split at h
      · rename_i q; rw [if_pos q]
      · rename_i q
        rw [if_neg q]
        cases e2 : look T x.p with
        | none => rw [e2] at h; simp at h
        | some y =>
          rw [e2] at h
          simp only at h ⊢
          split at h
          · simp at h
          · rename_i r
            rw [if_neg r]
            exact ups_mono k x.p h
theorem grown_ups {L : List Nd} (h : Grown L) : ∀ T : List Nd, (∀ y ∈ L, look T y.n = some y) → ∀ x ∈ L, upsR T L.length x.n = some true := by
  induction h with
  | nil => intro T _ x m; simp at m
  | @snoc L x _ _ _ _ hp ih =>
    intro T hT y m
    rw [List.length_append, List.length_singleton]
    have hL : ∀ z ∈ L, look T z.n = some z := fun z hz => hT z (List.mem_append_left _ hz)
    rcases List.mem_append.mp m with m | m
    · exact ups_mono _ _ (ih T hL y m)
    · rw [List.mem_singleton.mp m]
      unfold upsR
      rw [hT x (List.mem_append_right _ (List.mem_singleton.mpr rfl))]
      simp only
      by_cases q : x.p = 0
      · rw [if_pos q]
      · rw [if_neg q]
        rcases hp with e | ⟨f, hf, e1, e2⟩
        · exact absurd e q
        · rw [← e1, hL f hf]
          simp only [e2, Option.isSome_none, Bool.false_eq_true, if_false]
          exact ih T hL f hf
theorem grown_tree {L T : List Nd} (h : Grown L) (pm : T.Perm L) (pw : T.Pairwise fun a b => a.n ≤ b.n) : isTree T = true := by
  have nd := h.nodup
  have ndT : (nums T).Nodup := (pm.map (·.n)).nodup_iff.mpr nd.1
  have sp : (spots T).Nodup := (pm.map fun x : Nd => (x.p, x.nm)).nodup_iff.mpr nd.2
  have st := sorted_strict pw ndT
  unfold isTree
  rw [decide_eq_true (setI_id (by unfold nums; exact List.pairwise_map.mpr st)).symm, decide_eq_true sp]
  simp only [Bool.true_and, List.all_eq_true]
  intro x hx
  unfold ups
  rw [pm.length_eq, grown_ups h T (fun y hy => look_of ndT (pm.mem_iff.mpr hy)) x (pm.mem_iff.mp hx)]
  rfl
structure IsT (T : List Nd) : Prop where
  grown : ∃ L, Grown L ∧ T.Perm L
  pw : T.Pairwise fun a b => a.n < b.n
theorem IsT.good {T : List Nd} (h : IsT T) : ∀ x ∈ T, x.good = true := by
  obtain ⟨L, g, pm⟩ := h.grown
  exact fun x hx => g.good x (pm.mem_iff.mp hx)
theorem IsT.tree {T : List Nd} (h : IsT T) : isTree T = true := by
  obtain ⟨L, g, pm⟩ := h.grown
  exact grown_tree g pm (h.pw.imp fun h => by omega)
theorem IsT.nd {T : List Nd} (h : IsT T) : (nums T).Nodup := List.pairwise_map.mpr (h.pw.imp fun h => by omega)
theorem drawn_isT (ns : List Int) (at_ most : Nat) : IsT (drawn ns at_ most) := by
  have I := drawn_inv ns at_ most
  have pm := sortN_perm (drawnG ns at_ most).nodes
  exact ⟨⟨_, I.grown, pm⟩, sorted_strict (sortN_pw _) ((pm.map (·.n)).nodup_iff.mpr I.grown.nodup.1)⟩
theorem drawn_len (ns : List Int) (at_ most : Nat) : (drawn ns at_ most).length ≤ most := by
  have I := drawn_inv ns at_ most
  have := I.few
  have := count_le ns at_ most
  rw [drawn, (sortN_perm _).length_eq]
  omega
end Tw
set_option autoImplicit false
set_option linter.all false
namespace Tw
section
variable {a b c f g : E} {s t : T} {u v : S} {e : Env} {i j : Nat} {d x y : D} {gs : List G} {it : I} {tg : G}
@[simp] theorem ev_eB : eB i e = match e[i]? with
  | some (.sh d) => .ok d
  | some (.bor d) => .ok d
  | some (.own d) => .ok d
  | _ => .stk := (rfl)
@[simp] theorem ev_eV : eV i e = match e[i]? with
  | some (.sh d) => .ok d
  | some (.bor d) => if d.box then .stk else .ok d
  | _ => .stk := (rfl)
@[simp] theorem ev_eC : eC d e = .ok d := (rfl)
@[simp] theorem ev_e1 {h : D → Res D} : e1 h a e = (a e).bind h := (rfl)
@[simp] theorem ev_e2 {h : D → D → Res D} : e2 h a b e = (a e).bind fun x => (b e).bind fun y => h x y := (rfl)
@[simp] theorem ev_eL0 : eL [] e = .ok [] := (rfl)
@[simp] theorem ev_eL1 {r : List E} : eL (a :: r) e = (a e).bind fun x => (eL r e).bind fun xs => .ok (x :: xs) := (rfl)
@[simp] theorem ev_eTup {es : List E} : eTup es e = (eL es e).bind fun xs => .ok (.tup xs) := (rfl)
@[simp] theorem ev_eLst {es : List E} : eLst es e = (eL es e).bind fun xs => .ok (.lst xs) := (rfl)
@[simp] theorem ev_eCall {m : List D → Res D} {es : List E} : eCall m es e = (eL es e).bind m := (rfl)
@[simp] theorem ev_eP0 : eP none e = .ok none := (rfl)
@[simp] theorem ev_eP1 : eP (some a) e = (a e).bind fun x => x.asI.bind fun i => .ok (some i) := (rfl)
@[simp] theorem ev_asI {i : Int} : D.asI (.int i) = .ok i := (rfl)
@[simp] theorem ev_eSl {lo hi : Option E} : eSl a lo hi e = (a e).bind fun x => (eP lo e).bind fun l => (eP hi e).bind fun h => D.cut l h x := (rfl)
@[simp] theorem ev_tE : tE a e = (a e).bind D.asB := (rfl)
@[simp] theorem ev_asB {k : Bool} : D.asB (.bl k) = .ok k := (rfl)
@[simp] theorem ev_tAnd : tAnd s t e = (s e).bind fun x => if x then t e else .ok false := (rfl)
@[simp] theorem ev_tOr : tOr s t e = (s e).bind fun x => if x then .ok true else t e := (rfl)
@[simp] theorem ev_tNot : tNot s e = (s e).bind fun x => .ok (!x) := (rfl)
@[simp] theorem ev_tTrue : tTrue e = .ok true := (rfl)
@[simp] theorem ev_eIf : eIf s a b e = (s e).bind fun x => if x then a e else b e := (rfl)
@[simp] theorem ev_eAnd : eAnd a b e = (a e).bind fun x => x.asB.bind fun k => if k then b e else .ok (.bl false) := (rfl)
@[simp] theorem ev_eOr : eOr a b e = (a e).bind fun x => x.asB.bind fun k => if k then .ok (.bl true) else b e := (rfl)
@[simp] theorem ev_eNot : eNot a e = (a e).bind fun x => x.asB.bind fun k => .ok (.bl (!k)) := (rfl)
@[simp] theorem ev_eCh {p q : D → D → Res D} : eCh p q a b c e = (a e).bind fun x => (b e).bind fun y => (p x y).bind fun z => z.asB.bind fun k => if k then (c e).bind fun u => q y u else .ok (.bl false) := (rfl)
def getB (x : D) (r : Res D) : Res D := match x with
  | .dct _ _ => r.bind fun y => D.get1 x y
  | _ => .stk
@[simp] theorem ev_get1 : eGet1 a b e = (a e).bind fun x => getB x (b e) := (rfl)
@[simp] theorem ev_getB {t : Bool} {kvs : List (Ky × D)} {r : Res D} : getB (.dct t kvs) r = r.bind fun y => D.get1 (.dct t kvs) y := (rfl)
@[simp] theorem ev_eM1 {ok : D → Bool} {h : D → D → Res D} : eM1 ok h a b e = (a e).bind fun x => if ok x then (b e).bind fun y => h x y else .stk := (rfl)
@[simp] theorem ev_isLst {xs : List D} : D.isLst (.lst xs) = true := (rfl)
@[simp] theorem ev_isStr {xs : Nm} : D.isStr (.str xs) = true := (rfl)
@[simp] theorem ev_iE : iE a e = (a e).bind D.items := (rfl)
@[simp] theorem ev_iK : iK a e = (a e).bind D.keys := (rfl)
@[simp] theorem ev_iR1 : iR1 a e = (a e).bind rng1 := (rfl)
@[simp] theorem ev_iR2 : iR2 a b e = (a e).bind fun x => (b e).bind fun y => rng2 x y := (rfl)
@[simp] theorem ev_gN : gN i d e = .ok (e.set i (.sh d)) := (rfl)
@[simp] theorem ev_gs0 : gsGo [] [] e = .ok e := (rfl)
@[simp] theorem ev_gs1 {ds : List D} : gsGo (tg :: gs) (d :: ds) e = (tg d e).bind fun e1 => gsGo gs ds e1 := (rfl)
@[simp] theorem ev_gT {ds : List D} : gT gs (.tup ds) e = gsGo gs ds e := (rfl)
@[simp] theorem ev_items_l {xs : List D} : D.items (.lst xs) = .ok xs := (rfl)
@[simp] theorem ev_items_t {xs : List D} : D.items (.tup xs) = .ok xs := (rfl)
@[simp] theorem ev_items_s {s : Nm} : D.items (.str s) = .ok (s.map fun c => .str [c]) := (rfl)
@[simp] theorem ev_keys {k : Bool} {kvs : List (Ky × D)} : D.keys (.dct k kvs) = .ok (kvs.map fun kv => kv.1.toD) := (rfl)
@[simp] theorem ev_nil : sNil e = .nx e := (rfl)
@[simp] theorem ev_seq : sSeq u v e = match u e with
  | .nx e1 => v e1
  | r => r := (rfl)
@[simp] theorem ev_set : sSet i a e = (a e).run e fun d => .nx (e.set i (.sh d)) := (rfl)
@[simp] theorem ev_own : sOwn i a e = (a e).run e fun d => .nx (e.set i (.own d)) := (rfl)
@[simp] theorem ev_asg : sAsg tg a e = (a e).run e fun d => match tg d e with
  | .ok e1 => .nx e1
  | _ => .stk := (rfl)
@[simp] theorem ev_frz : sFrz i e = match e[i]? with
  | some (.own d) => .nx (e.set i (.sh d))
  | _ => .nx e := (rfl)
@[simp] theorem ev_if : sIf s u v e = (s e).run e fun k => if k then u e else v e := (rfl)
@[simp] theorem ev_for : sFor it tg u e = (it e).run e fun xs => forGo tg u xs e := (rfl)
@[simp] theorem ev_for0 : forGo tg u [] e = .nx e := (rfl)
@[simp] theorem ev_brk : sBrk e = .bk e := (rfl)
@[simp] theorem ev_cnt : sCnt e = .ct e := (rfl)
@[simp] theorem ev_ret : sRet a e = (a e).run e fun d => .rt d := (rfl)
@[simp] theorem ev_retO : sRetO i e = match e[i]? with
  | some (.own d) => .rt d
  | _ => .stk := (rfl)
@[simp] theorem ev_raise {k : Nat} : sRaise k e = .er k e := (rfl)
@[simp] theorem ev_drop : sDrop a e = (a e).run e fun _ => .nx e := (rfl)
@[simp] theorem ev_forK {k : Nat} : sForK k tg u e = match (match e[k]? with
    | some (.sh d) => D.keys d
    | some (.bor d) => D.keys d
    | _ => .stk) with
  | .ok xs => (match forGo tg u xs e with
    | .er _ _ => .stk
    | r => r)
  | _ => .stk := (rfl)
@[simp] theorem ev_try {ks cs : List Nat} {k : Nat} : sTry ks cs k u v e = match u e with
  | .er c e1 => if c ∈ ks then (if c ∈ cs then (match v (e1.set k (.sh (.exc c))) with
      | .nx e2 => .nx (e2.set k .un)
      | .bk e2 => .bk (e2.set k .un)
      | .ct e2 => .ct (e2.set k .un)
      | .rt d => .rt d
      | _ => .stk) else .er c e1) else .stk
  | r => r := (rfl)
@[simp] theorem ev_isExc {ks cs : List Nat} {c : Nat} : D.isExc ks cs (.exc c) = if c ∈ ks then .ok (.bl (decide (c ∈ cs))) else .stk := (rfl)
@[simp] theorem ev_boxX {c : Nat} : D.box (.exc c) = false := (rfl)
@[simp] theorem ev_nonX {c : Nat} : D.isNon (.exc c) = false := (rfl)
@[simp] theorem ev_par : sPar i j a b e = (a e).run e fun x => (b e).run e fun y => .nx ((e.set i (.sh x)).set j (.sh y)) := (rfl)
@[simp] theorem ev_app : sApp i a e = match e[i]? with
  | some (.own (.lst xs)) => (a e).run e fun d => if xs.length < szl then .nx (e.set i (.own (.lst (xs ++ [d])))) else .stk
  | _ => .stk := (rfl)
@[simp] theorem ev_put : sPut i a b e = match e[i]? with
  | some (.own (.dct t kvs)) => (b e).run e fun w => (a e).run e fun q => match q.kf t with
    | some y => if kvs.length < szl then .nx (e.set i (.own (.dct t (kput y w kvs)))) else .stk
    | none => .stk
  | _ => .stk := (rfl)
@[simp] theorem ev_comp {own : List Nat} : eComp it own tg t f e = (it e).bind fun xs => if xs.length < szl then (compGo (compTurn own tg t f e) xs).bind fun ys => .ok (.lst ys) else .stk := (rfl)
@[simp] theorem ev_turn {own : List Nat} : compTurn own tg t f e x = (tg x (blkE own e)).bind fun e1 => (t e1).bind fun b => if b then (f e1).bind fun y => .ok (some y) else .ok none := (rfl)
@[simp] theorem ev_blk {own : List Nat} : blkE own e = (wipeE e own).map Slot.lend := (rfl)
@[simp] theorem ev_wipe0 : wipeE e [] = e := (rfl)
@[simp] theorem ev_wipe1 {r : List Nat} : wipeE e (i :: r) = (wipeE e r).set i .un := (rfl)
@[simp] theorem ev_lend1 : Slot.lend (.own d) = .bor d := (rfl)
@[simp] theorem ev_lend2 : Slot.lend (.sh d) = .sh d := (rfl)
@[simp] theorem ev_lend3 : Slot.lend (.bor d) = .bor d := (rfl)
@[simp] theorem ev_lend4 : Slot.lend .un = .un := (rfl)
@[simp] theorem ev_init1 {ms : List Bool} {ds : List D} : initE (true :: ms) (d :: ds) = .bor d :: initE ms ds := (rfl)
@[simp] theorem ev_init2 {ms : List Bool} {ds : List D} : initE (false :: ms) (d :: ds) = .sh d :: initE ms ds := (rfl)
@[simp] theorem ev_init0 : initE [] [] = [] := (rfl)
@[simp] theorem ev_rep0 : List.replicate 0 (Slot.un) = [] := (rfl)
@[simp] theorem ev_rep1 {n : Nat} : List.replicate (n + 1) (Slot.un) = .un :: List.replicate n .un := (rfl)
@[simp] theorem ev_box1 {xs : List D} : D.box (.lst xs) = true := (rfl)
@[simp] theorem ev_box2 {k : Bool} {xs : List (Ky × D)} : D.box (.dct k xs) = true := (rfl)
@[simp] theorem ev_box3 {xs : List D} : D.box (.tup xs) = false := (rfl)
@[simp] theorem ev_box4 {xs : Nm} : D.box (.str xs) = false := (rfl)
@[simp] theorem ev_box5 {n : Int} : D.box (.int n) = false := (rfl)
@[simp] theorem ev_box6 : D.box .non = false := (rfl)
@[simp] theorem ev_box7 {n : Bool} : D.box (.bl n) = false := (rfl)
@[simp] theorem ev_addI {m n : Int} : D.add (.int m) (.int n) = .ok (.int (m + n)) := (rfl)
@[simp] theorem ev_subI {m n : Int} : D.sub (.int m) (.int n) = .ok (.int (m - n)) := (rfl)
@[simp] theorem ev_eqI {m n : Int} : D.eq (.int m) (.int n) = .ok (.bl (decide (m = n))) := by
  show Res.ok (D.bl (m == n)) = _
  by_cases h : m = n <;> simp [h]
@[simp] theorem ev_neI {m n : Int} : D.ne (.int m) (.int n) = .ok (.bl (!decide (m = n))) := by
  show Res.ok (D.bl (!(m == n))) = _
  by_cases h : m = n <;> simp [h]
@[simp] theorem ev_ltI {m n : Int} : D.ltI (.int m) (.int n) = .ok (.bl (decide (m < n))) := (rfl)
@[simp] theorem ev_leI {m n : Int} : D.leI (.int m) (.int n) = .ok (.bl (decide (m ≤ n))) := (rfl)
@[simp] theorem ev_gtI {m n : Int} : D.gtI (.int m) (.int n) = .ok (.bl (decide (n < m))) := (rfl)
@[simp] theorem ev_geI {m n : Int} : D.geI (.int m) (.int n) = .ok (.bl (decide (n ≤ m))) := (rfl)
@[simp] theorem ev_isN : D.isN x = .ok (.bl x.isNon) := (rfl)
@[simp] theorem ev_notN : D.notN x = .ok (.bl (!x.isNon)) := (rfl)
@[simp] theorem ev_non1 : D.isNon .non = true := (rfl)
@[simp] theorem ev_non2 {n : Int} : D.isNon (.int n) = false := (rfl)
@[simp] theorem ev_non3 {n : Nm} : D.isNon (.str n) = false := (rfl)
@[simp] theorem ev_non4 {n : List D} : D.isNon (.tup n) = false := (rfl)
@[simp] theorem ev_non5 {n : List D} : D.isNon (.lst n) = false := (rfl)
@[simp] theorem ev_non6 {n : Bool} : D.isNon (.bl n) = false := (rfl)
@[simp] theorem ev_len1 {xs : List D} : D.len (.lst xs) = .ok (.int xs.length) := (rfl)
@[simp] theorem ev_len2 {xs : List D} : D.len (.tup xs) = .ok (.int xs.length) := (rfl)
@[simp] theorem ev_len3 {k : Bool} {xs : List (Ky × D)} : D.len (.dct k xs) = .ok (.int xs.length) := (rfl)
@[simp] theorem ev_tolst1 {xs : List D} : D.toLst (.lst xs) = .ok (.lst xs) := (rfl)
@[simp] theorem ev_tolst2 {xs : List D} : D.toLst (.tup xs) = .ok (.lst xs) := (rfl)
@[simp] theorem ev_tolst3 {k : Bool} {xs : List (Ky × D)} : D.toLst (.dct k xs) = .ok (.lst (xs.map fun kv => kv.1.toD)) := (rfl)
@[simp] theorem ev_totup1 {xs : List D} : D.toTup (.lst xs) = .ok (.tup xs) := (rfl)
@[simp] theorem ev_totup2 {xs : List D} : D.toTup (.tup xs) = .ok (.tup xs) := (rfl)
@[simp] theorem ev_cut1 {xs : List D} {lo hi : Option Int} : D.cut lo hi (.lst xs) = .ok (.lst (cutL xs lo hi)) := (rfl)
@[simp] theorem ev_cut2 {xs : List D} {lo hi : Option Int} : D.cut lo hi (.tup xs) = .ok (.tup (cutL xs lo hi)) := (rfl)
@[simp] theorem ev_rev1 {xs : List D} : D.rev (.lst xs) = .ok (.lst xs.reverse) := (rfl)
@[simp] theorem ev_rev2 {xs : List D} : D.rev (.tup xs) = .ok (.tup xs.reverse) := (rfl)
@[simp] theorem ev_idxT {xs : List D} {n : Int} : D.idx (.tup xs) (.int n) = Res.ofOpt (atI xs n) := (rfl)
@[simp] theorem ev_idxL {xs : List D} {n : Int} : D.idx (.lst xs) (.int n) = Res.ofOpt (atI xs n) := (rfl)
@[simp] theorem ev_at0 {α : Type} {x : α} {xs : List α} : atI (x :: xs) 0 = some x := (rfl)
@[simp] theorem ev_at1 {α : Type} {x y : α} {xs : List α} : atI (x :: y :: xs) 1 = some y := (rfl)
@[simp] theorem ev_at2 {α : Type} {x y z : α} {xs : List α} : atI (x :: y :: z :: xs) 2 = some z := (rfl)
@[simp] theorem ev_at3 {α : Type} {x y z w : α} {xs : List α} : atI (x :: y :: z :: w :: xs) 3 = some w := (rfl)
@[simp] theorem ev_at4 {α : Type} {x y z w r : α} {xs : List α} : atI (x :: y :: z :: w :: r :: xs) 4 = some r := (rfl)
@[simp] theorem ev_kfI {n : Int} : D.kf false (.int n) = some (.int n) := (rfl)
@[simp] theorem ev_kfS {n : Nm} : D.kf false (.str n) = some (.str n) := (rfl)
@[simp] theorem ev_all {xs : List D} {bs : List Bool} (h : bools? xs = some bs) : D.all (.lst xs) = .ok (.bl (bs.all id)) := by simp [D.all, h]
@[simp] theorem ev_any {xs : List D} {bs : List Bool} (h : bools? xs = some bs) : D.any (.lst xs) = .ok (.bl (bs.any id)) := by simp [D.any, h]
end
@[simp] theorem szl_0 : 0 ≤ szl := by unfold szl; omega
@[simp] theorem szl_lt0 : 0 < szl := by unfold szl; omega
@[simp] theorem szl_1 : 1 ≤ szl := by unfold szl; omega
@[simp] theorem szl_lt1 : 1 < szl := by unfold szl; omega
@[simp] theorem szl_2 : 2 ≤ szl := by unfold szl; omega
@[simp] theorem szl_lt2 : 2 < szl := by unfold szl; omega
@[simp] theorem szl_3 : 3 ≤ szl := by unfold szl; omega
@[simp] theorem szl_lt3 : 3 < szl := by unfold szl; omega
@[simp] theorem szl_4 : 4 ≤ szl := by unfold szl; omega
@[simp] theorem szl_lt4 : 4 < szl := by unfold szl; omega
@[simp] theorem szl_5 : 5 ≤ szl := by unfold szl; omega
@[simp] theorem szl_lt5 : 5 < szl := by unfold szl; omega
@[simp] theorem szl_6 : 6 ≤ szl := by unfold szl; omega
@[simp] theorem szl_lt6 : 6 < szl := by unfold szl; omega
@[simp] theorem szl_7 : 7 ≤ szl := by unfold szl; omega
@[simp] theorem szl_lt7 : 7 < szl := by unfold szl; omega
@[simp] theorem szl_8 : 8 ≤ szl := by unfold szl; omega
@[simp] theorem szl_lt8 : 8 < szl := by unfold szl; omega
@[simp] theorem szl_9 : 9 ≤ szl := by unfold szl; omega
@[simp] theorem szl_lt9 : 9 < szl := by unfold szl; omega
@[simp] theorem szl_10 : 10 ≤ szl := by unfold szl; omega
@[simp] theorem szl_lt10 : 10 < szl := by unfold szl; omega
@[simp] theorem szl_11 : 11 ≤ szl := by unfold szl; omega
@[simp] theorem szl_lt11 : 11 < szl := by unfold szl; omega
@[simp] theorem szl_12 : 12 ≤ szl := by unfold szl; omega
@[simp] theorem szl_lt12 : 12 < szl := by unfold szl; omega
theorem cutL_take {α : Type} (xs : List α) (k : Nat) : cutL xs none (some (k : Int)) = xs.take k := by
  unfold cutL clip
  have : ¬ ((k : Int) < 0) := by omega
  simp only [this, if_false, Int.toNat_natCast, List.drop_zero, Nat.sub_zero]
  rcases Nat.le_total k xs.length with h | h
  · rw [Nat.min_eq_left h]
  · rw [Nat.min_eq_right h, List.take_of_length_le (Nat.le_refl _), List.take_of_length_le h]
theorem cutL_drop {α : Type} (xs : List α) (k : Nat) : cutL xs (some (k : Int)) none = xs.drop k := by
  unfold cutL clip
  have : ¬ ((k : Int) < 0) := by omega
  simp only [this, if_false, Int.toNat_natCast]
  rcases Nat.le_total k xs.length with h | h
  · rw [Nat.min_eq_left h, List.take_of_length_le (by simp)]
  · rw [Nat.min_eq_right h]; simp [h]
theorem forGo_pre {α : Type} {R : List α → Env → Prop} {g : G} {b : S} {e : α → D} {ys : List α} {env : Env}
    (h : ∀ pre x post, ys = pre ++ x :: post → ∀ env, R pre env → ∃ env1 env2, g (e x) env = .ok env1 ∧ (b env1 = .nx env2 ∨ b env1 = .ct env2) ∧ R (pre ++ [x]) env2) (r : R [] env) : ∃ env', forGo g b (ys.map e) env = .nx env' ∧ R ys env' := by
  have go : ∀ (post pre : List α) (env : Env), ys = pre ++ post → R pre env → ∃ env', forGo g b (post.map e) env = .nx env' ∧ R ys env' := by
    intro post
    induction post with
    | nil => intro pre env hy r; rw [List.append_nil] at hy; subst hy; exact ⟨env, rfl, r⟩
    | cons x post ih =>
      intro pre env hy r
      obtain ⟨env1, env2, h1, h2, h3⟩ := h pre x post hy env r
      obtain ⟨env', h4, h5⟩ := ih (pre ++ [x]) env2 (by rw [hy]; simp) h3
      refine ⟨env', ?_, h5⟩
      rw [List.map_cons]
      unfold forGo
      rw [h1]
      rcases h2 with h2 | h2 <;> (simp only [h2]; exact h4)
  exact go ys [] env rfl r
theorem run_er {ms : List Bool} {n : Nat} {b : S} {ds : List D} {c : Nat} {e : Env} (hl : ds.length = ms.length) (h : b (initE ms ds ++ List.replicate (n - ms.length) .un) = .er c e) : runD ms n b ds = .err c := runD_er hl h
theorem run_rt {ms : List Bool} {n : Nat} {b : S} {ds : List D} {d : D} (hl : ds.length = ms.length) (h : b (initE ms ds ++ List.replicate (n - ms.length) .un) = .rt d) : runD ms n b ds = .ok d := runD_rt hl h
end Tw
set_option autoImplicit false
set_option linter.all false
namespace Tw
inductive Upw (T : List Nd) : Int → List Nd → Prop
  | top : Upw T 0 []
  | step {n : Int} {x : Nd} {l : List Nd} : n ≠ 0 → look T n = some x → Upw T x.p l → Upw T n (x :: l)
def wayR (T : List Nd) : Nat → Int → List Nd
  | 0, _ => []
  | k + 1, n => if n = 0 then [] else match look T n with
    | none => []
    | some x => x :: wayR T k x.p
def way (T : List Nd) (n : Int) : List Nd := wayR T (T.length + 1) n
theorem Upw.det {T : List Nd} {n : Int} {l m : List Nd} (h : Upw T n l) (g : Upw T n m) : l = m := by
  induction h generalizing m with
  | top => cases g with
    | top => rfl
    | step h _ _ => exact absurd rfl h
  | step h e _ ih => cases g with
    | top => exact absurd rfl h
    | step _ e2 g => rw [e] at e2; cases e2; rw [ih g]
theorem Upw.wayR {T : List Nd} {n : Int} {l : List Nd} (h : Upw T n l) : ∀ {k : Nat}, l.length < k → wayR T k n = l := by
  induction h with
  | top => intro k hk; cases k <;> simp [Tw.wayR]
  | step h e _ ih =>
    intro k hk
    cases k with
    | zero => simp at hk
    | succ k => simp only [Tw.wayR, h, if_false, e]; rw [ih (by simp at hk; omega)]
structure Ups (T : List Nd) : Prop where
  nd : (nums T).Nodup
  pos : ∀ x ∈ T, x.n ≠ 0
  len : T.length ≤ 1000
  up : ∀ x ∈ T, ∃ l, Upw T x.n l
theorem look_some {T : List Nd} {n : Int} {x : Nd} (h : look T n = some x) : x ∈ T ∧ x.n = n := by
  unfold look at h
  exact ⟨List.mem_of_find?_eq_some h, by simpa using List.find?_some h⟩
theorem Upw.mem {T : List Nd} {n : Int} {l : List Nd} (h : Upw T n l) : ∀ x ∈ l, x ∈ T := by
  induction h with
  | top => simp
  | step h e _ ih =>
    intro y hy
    rcases List.mem_cons.mp hy with rfl | hy
    · exact (look_some e).1
    · exact ih y hy
theorem Upw.suf {T : List Nd} {n : Int} {l : List Nd} (h : Upw T n l) : ∀ x ∈ l, ∃ m, Upw T x.n m ∧ m <:+ l := by
  induction h with
  | top => simp
  | @step n x l h e u ih =>
    intro y hy
    rcases List.mem_cons.mp hy with rfl | hy
    · refine ⟨_, ?_, List.suffix_refl _⟩
      rw [(look_some e).2]
      exact .step h e u
    · obtain ⟨m, h1, h2⟩ := ih y hy
      exact ⟨m, h1, h2.trans (List.suffix_cons _ _)⟩
theorem Upw.nodup {T : List Nd} {n : Int} {l : List Nd} (h : Upw T n l) : (l.map (·.n)).Nodup := by
  induction h with
  | top => simp
  | @step n x l h e u ih =>
    rw [List.map_cons, List.nodup_cons]
    refine ⟨fun m => ?_, ih⟩
    obtain ⟨y, hy, ey⟩ := List.mem_map.mp m
    obtain ⟨m1, h1, h2⟩ := u.suf y hy
    have e2 : Upw T x.n (x :: l) := by rw [(look_some e).2]; exact .step h e u
    rw [ey] at h1
    have := h1.det e2
    have l1 := h2.length_le
    rw [this] at l1
    simp at l1
    omega
theorem Upw.le {T : List Nd} {n : Int} {l : List Nd} (h : Upw T n l) : l.length ≤ T.length := by
  have h1 := sub_len (m := T.map (·.n)) h.nodup fun y hy => by
    obtain ⟨x, hx, rfl⟩ := List.mem_map.mp hy
    exact List.mem_map.mpr ⟨x, h.mem x hx, rfl⟩
  simpa using h1
theorem Upw.way {T : List Nd} {n : Int} {l : List Nd} (h : Upw T n l) : way T n = l := h.wayR (Nat.lt_succ_of_le h.le)
theorem Ups.way {T : List Nd} (h : Ups T) {n : Int} (hn : n = 0 ∨ n ∈ nums T) : Upw T n (way T n) := by
  rcases hn with rfl | hn
  · have : Upw T 0 [] := .top
    rw [this.way]; exact this
  · obtain ⟨x, hx, rfl⟩ := List.mem_map.mp hn
    obtain ⟨l, hl⟩ := h.up x hx
    rw [hl.way]; exact hl
theorem upsR_up {T : List Nd} (pos : ∀ x ∈ T, x.n ≠ 0) : ∀ (k : Nat) (n : Int), (look T n).isSome = true → upsR T k n = some true → ∃ l, Upw T n l ∧ ∀ x ∈ l.tail, x.st = none
  | 0, _, _, h => by simp [upsR] at h
  | k + 1, n, hs, h => by
    obtain ⟨x, hx⟩ := Option.isSome_iff_exists.mp hs
    have hm := look_some hx
    have hn : n ≠ 0 := by rw [← hm.2]; exact pos x hm.1
    unfold upsR at h
    rw [hx] at h
    simp only at h
    by_cases hp : x.p = 0
    · refine ⟨[x], .step hn hx (by rw [hp]; exact .top), by simp⟩
    · rw [if_neg hp] at h
      cases hy : look T x.p with
      | none => rw [hy] at h; simp at h
      | some y =>
        rw [hy] at h
        simp only at h
        cases hz : y.st.isSome with
        | true => rw [hz] at h; simp at h
        | false =>
          rw [hz] at h
          simp only [Bool.false_eq_true, if_false] at h
          obtain ⟨l, hl, hf⟩ := upsR_up pos k x.p (by rw [hy]; rfl) h
          refine ⟨x :: l, .step hn hx hl, ?_⟩
          intro z hz'
          simp only [List.tail_cons] at hz'
          generalize hq : x.p = q at hl hy
          cases hl with
          | top => simp at hz'
          | step _ e2 u =>
            rw [hy] at e2
            cases e2
            rcases List.mem_cons.mp hz' with rfl | h3
            · simpa using hz
            · exact hf z (by simpa using h3)
theorem isTree_up2 {T : List Nd} (g : ∀ x ∈ T, x.good = true) (h : isTree T = true) : ∀ x ∈ T, ∃ l, Upw T x.n l ∧ ∀ y ∈ l.tail, y.st = none := fun x hx => by
  unfold isTree at h
  simp only [Bool.and_eq_true, List.all_eq_true] at h
  have h1 := h.2.2 x hx
  unfold ups at h1
  have h2 : upsR T T.length x.n = some true := by
    cases e : upsR T T.length x.n with
    | none => rw [e] at h1; simp at h1
    | some b => rw [e] at h1; simp at h1; rw [h1]
  refine upsR_up (fun y hy z => ?_) _ _ (look_mem hx) h2
  have := g y hy
  unfold Nd.good at this
  simp only [Bool.and_eq_true, decide_eq_true_eq] at this
  omega
def path (T : List Nd) (n : Int) : List Nm := ((way T n).map (·.nm)).reverse
def under (T : List Nd) (n g : Int) : Bool := decide (g = 0) || (way T n).any fun x => decide (x.n = g)
def strD (p : List Nm) : D := .tup (p.map D.str)
end Tw
set_option autoImplicit false
set_option linter.all false
namespace Tw
@[simp] theorem row0 (x : Nd) : D.idx x.row (.int 0) = .ok (.int x.p) := rfl
@[simp] theorem row1 (x : Nd) : D.idx x.row (.int 1) = .ok (.str x.nm) := rfl
@[simp] theorem row2 (x : Nd) : D.idx x.row (.int 2) = .ok (stD x.st) := rfl
@[simp] theorem enc0 (x : Nd) : D.idx x.enc (.int 0) = .ok (.int x.n) := rfl
@[simp] theorem enc1 (x : Nd) : D.idx x.enc (.int 1) = .ok (.int x.p) := rfl
@[simp] theorem enc2 (x : Nd) : D.idx x.enc (.int 2) = .ok (.str x.nm) := rfl
@[simp] theorem enc3 (x : Nd) : D.idx x.enc (.int 3) = .ok (stD x.st) := rfl
@[simp] theorem st_non (o : Option Int) : D.isNon (stD o) = o.isNone := by cases o <;> rfl
@[simp] theorem keyI_toD (n : Int) : (Ky.int n).toD = .int n := rfl
theorem book_get {T : List Nd} {n : Int} : D.get1 (.dct false (bookOf T)) (.int n) = .ok (((look T n).map Nd.row).getD .non) := by
  show Res.ok ((kget (.int n) (bookOf T)).getD .non) = _
  rw [kget_book]
theorem look_iff {T : List Nd} {n : Int} : (look T n).isSome = true ↔ n ∈ nums T := by
  constructor
  · intro h
    obtain ⟨x, hx⟩ := Option.isSome_iff_exists.mp h
    have := look_some hx
    exact List.mem_map.mpr ⟨x, this.1, this.2⟩
  · intro h
    obtain ⟨x, hx, rfl⟩ := List.mem_map.mp h
    exact look_mem hx
theorem look_isSome {T : List Nd} {n : Int} : (look T n).isSome = decide (n ∈ nums T) := by
  cases h : (look T n).isSome with
  | true => rw [look_iff] at h; simp [h]
  | false =>
    by_cases h2 : n ∈ nums T
    · rw [← look_iff, h] at h2; simp at h2
    · simp [h2]
theorem path_loop {T : List Nd} {b : Slot} {n : Int} {l : List Nd} (u : Upw T n l) : ∀ {k : Nat} {acc : List D}, l.length < k → l.length + acc.length < szl →
   whileGo (tE (e2 D.ne (eB 3) (eC (.int 0)))) (sSeq (sApp 2 (e2 D.idx (e2 D.idx (eB 0) (eB 3)) (eC (.int 1)))) (sSet 3 (e2 D.idx (e2 D.idx (eB 0) (eB 3)) (eC (.int 0))))) k
   [.bor (.dct false (bookOf T)), b, .own (.lst acc), .sh (.int n)] = .nx [.bor (.dct false (bookOf T)), b, .own (.lst (acc ++ l.map fun x => .str x.nm)), .sh (.int 0)] := by
  induction u with
  | top =>
    intro k acc hk _
    obtain ⟨k, rfl⟩ : ∃ j, k = j + 1 := ⟨k - 1, by omega⟩
    simp [whileGo]
  | @step n x l hn hx u ih =>
    intro k acc hk hs
    obtain ⟨k, rfl⟩ : ∃ j, k = j + 1 := ⟨k - 1, by simp at hk; omega⟩
    have ha : acc.length < szl := by simp at hs; omega
    simp [whileGo, hn, idx_book hx, ha]
    rw [ih (by simpa using hk) (by simp at hs ⊢; omega)]
    simp
theorem fuel_big {n : Nat} (h : n ≤ 1001) : n < fuel := by unfold fuel; omega
theorem path_in_ok {T : List Nd} (h : Ups T) {n : Int} (hn : n = 0 ∨ n ∈ nums T) : M.m_path_in [.dct false (bookOf T), .int n] = .ok (strD (path T n)) := by
  have u := h.way hn
  have lp := path_loop (b := .sh (.int n)) (acc := []) (k := fuel) u (fuel_big (by have := u.le; have := h.len; omega)) (by have := u.le; have := h.len; have := szl_big; simp; omega)
  refine run_rt rfl ?_
  show M.b_path_in [.bor (.dct false (bookOf T)), .sh (.int n), .un, .un] = _
  simp [M.b_path_in, sWhile, lp, strD, path]
theorem path_L_loop {T : List Nd} {n : Int} {l : List Nd} (u : Upw T n l) : ∀ {k : Nat} {acc : List D}, l.length < k → l.length + acc.length < szl →
   whileGo (tE (e2 D.ne (eB 1) (eC (.int 0)))) (sSeq (sSet 2 (e2 D.add (eLst [(e2 D.idx (e2 D.idx (eB 0) (eB 1)) (eC (.int 1)))]) (eB 2))) (sSet 1 (e2 D.idx (e2 D.idx (eB 0) (eB 1)) (eC (.int 0))))) k
   [.bor (.dct false (bookOf T)), .bor (.int n), .sh (.lst acc)] = .nx [.bor (.dct false (bookOf T)), (if l = [] then .bor (.int 0) else .sh (.int 0)), .sh (.lst ((l.map fun x => .str x.nm).reverse ++ acc))] ∧
   whileGo (tE (e2 D.ne (eB 1) (eC (.int 0)))) (sSeq (sSet 2 (e2 D.add (eLst [(e2 D.idx (e2 D.idx (eB 0) (eB 1)) (eC (.int 1)))]) (eB 2))) (sSet 1 (e2 D.idx (e2 D.idx (eB 0) (eB 1)) (eC (.int 0))))) k
   [.bor (.dct false (bookOf T)), .sh (.int n), .sh (.lst acc)] = .nx [.bor (.dct false (bookOf T)), .sh (.int 0), .sh (.lst ((l.map fun x => .str x.nm).reverse ++ acc))] := by
  induction u with
  | top =>
    intro k acc hk _
    obtain ⟨k, rfl⟩ : ∃ j, k = j + 1 := ⟨k - 1, by omega⟩
    simp [whileGo]
  | @step n x l hn hx u ih =>
    intro k acc hk hs
    obtain ⟨k, rfl⟩ : ∃ j, k = j + 1 := ⟨k - 1, by simp at hk; omega⟩
    have ha : 1 + acc.length ≤ szl := by simp at hs; omega
    simp [whileGo, hn, idx_book hx, D.add, ha]
    rw [(ih (by simpa using hk) (by simp at hs ⊢; omega)).2]
theorem path_L_ok {T : List Nd} (h : Ups T) {n : Int} (hn : n = 0 ∨ n ∈ nums T) : M.m_path_L [.dct false (bookOf T), .int n] = .ok (strD (path T n)) := by
  have u := h.way hn
  have lp := (path_L_loop (acc := []) (k := fuel) u (fuel_big (by have := u.le; have := h.len; omega)) (by have := u.le; have := h.len; have := szl_big; simp; omega)).1
  refine run_rt rfl ?_
  show M.b_path_L [.bor (.dct false (bookOf T)), .bor (.int n), .un] = _
  simp [M.b_path_L, sWhile, lp, strD, path]
def undR (T : List Nd) (g : Int) : List Nd → Bool
  | [] => decide (g = 0)
  | x :: l => decide (x.n = g) || undR T g l
theorem undR_eq {T : List Nd} {g : Int} : ∀ l : List Nd, undR T g l = (decide (g = 0) || l.any fun x => decide (x.n = g))
  | [] => by simp [undR]
  | x :: l => by
    rw [undR, undR_eq l, List.any_cons, ← Bool.or_assoc, ← Bool.or_assoc, Bool.or_comm (decide (x.n = g))]
theorem under_loop {T : List Nd} {b c : Slot} {g : Int} (hc : c = .bor (.int g)) {n : Int} {l : List Nd} (u : Upw T n l) : ∀ {k : Nat}, l.length < k → ∃ m,
   whileGo (tAnd (tE (e2 D.ne (eB 3) (eC (.int 0)))) (tE (e2 D.ne (eB 3) (eB 2)))) (sSet 3 (e2 D.idx (e2 D.idx (eB 0) (eB 3)) (eC (.int 0)))) k
   [.bor (.dct false (bookOf T)), b, c, .sh (.int n)] = .nx [.bor (.dct false (bookOf T)), b, c, .sh (.int m)] ∧ decide (m = g) = undR T g l := by
  subst hc
  induction u with
  | top =>
    intro k hk
    obtain ⟨k, rfl⟩ : ∃ j, k = j + 1 := ⟨k - 1, by omega⟩
    exact ⟨0, by simp [whileGo], by simp [undR, eq_comm]⟩
  | @step n x l hn hx u ih =>
    intro k hk
    obtain ⟨k, rfl⟩ : ∃ j, k = j + 1 := ⟨k - 1, by simp at hk; omega⟩
    have e := (look_some hx).2
    by_cases hg : n = g
    · exact ⟨n, by simp [whileGo, hn, hg], by simp [undR, e, hg]⟩
    · obtain ⟨m, h1, h2⟩ := ih (k := k) (by simpa using hk)
      exact ⟨m, by simp [whileGo, hn, hg, idx_book hx, h1], by rw [h2]; simp [undR, e, hg]⟩
theorem under_undR {T : List Nd} {n g : Int} : undR T g (way T n) = under T n g := by rw [undR_eq]; rfl
theorem is_under_ok {T : List Nd} (h : Ups T) {n g : Int} (hn : n = 0 ∨ n ∈ nums T) : M.m_is_under [.dct false (bookOf T), .int n, .int g] = .ok (.bl (under T n g)) := by
  have u := h.way hn
  obtain ⟨m, lp, e⟩ := under_loop (b := .sh (.int n)) (g := g) rfl (k := fuel) u (fuel_big (by have := u.le; have := h.len; omega))
  refine run_rt rfl ?_
  show M.b_is_under [.bor (.dct false (bookOf T)), .sh (.int n), .bor (.int g), .un] = _
  rw [under_undR] at e
  simp [M.b_is_under, sWhile, lp, e]
theorem book_ok2 {T : List Nd} (nd : (nums T).Nodup) (hl : T.length ≤ 1000) : M.m_book_L [encT T] = .ok (.dct false (bookOf T)) := book_ok nd hl
theorem has_l {x : D} {ys : List D} (h : x.good = true) (g : D.pl 40 (.lst ys) = true) : D.has x (.lst ys) = some (ys.any fun y => D.eqv y x) := by
  cases x <;> simp [D.has, h, g]
theorem notIn_l {x : D} {ys : List D} (h : x.good = true) (g : D.pl 40 (.lst ys) = true) : D.notIn x (.lst ys) = .ok (.bl (!(ys.any fun y => D.eqv y x))) := by
  unfold D.notIn; rw [has_l h g]; rfl
theorem isIn_l {x : D} {ys : List D} (h : x.good = true) (g : D.pl 40 (.lst ys) = true) : D.isIn x (.lst ys) = .ok (.bl (ys.any fun y => D.eqv y x)) := by
  unfold D.isIn; rw [has_l h g]; rfl
theorem any_num (T : List Nd) (n : Int) : ((T.map fun x => D.int x.n).any fun y => D.eqv y (.int n)) = decide (n ∈ nums T) := by
  induction T with
  | nil => rfl
  | cons x T ih =>
    simp only [List.map_cons, List.any_cons, ih]
    by_cases h : x.n = n
    · simp [D.eqv, h]
    · have h' : ¬ n = x.n := fun z => h z.symm
      simp [D.eqv, h, h', nums]
theorem notIn_nums {T : List Nd} {n : Int} : D.notIn (.int n) (.lst (T.map fun x => D.int x.n)) = .ok (.bl (!decide (n ∈ nums T))) := by
  have hp : D.pl 40 (.lst (T.map fun x => D.int x.n)) = true := by simp [D.pl]; exact pls_mem fun x m => by obtain ⟨y, _, rfl⟩ := List.mem_map.mp m; simp [D.pl]
  rw [notIn_l (by simp [D.good, D.pl]) hp, any_num]
theorem comp_nums {T : List Nd} (hl : T.length ≤ 1000) (i : Nat) {e : Env} (g : ∀ y, eB i ((blkE [i] e).set i (.sh y)) = .ok y) : compGo (compTurn [i] (gN i) tTrue (e2 D.idx (eB i) (eC (.int 0))) e) (T.map Nd.enc) = .ok (T.map fun x => D.int x.n) := by
  refine compGo_map fun x _ => ?_
  unfold compTurn gN tTrue e2
  simp only [Res.bind_ok]
  rw [g]
  rfl
theorem look_node_ok {T : List Nd} (hl : T.length ≤ 1000) (n : Int) : M.m_look_node [encT T, .int n] = if n ∈ nums T then .ok .non else .err 1 := by
  have h1 : T.length < szl := small_szl (by omega)
  have c : compGo (compTurn [2] (gN 2) tTrue (e2 D.idx (eB 2) (eC (.int 0))) [.bor (encT T), .bor (.int n), .un]) (T.map Nd.enc) = .ok (T.map fun x => D.int x.n) := comp_nums hl 2 fun y => rfl
  unfold M.m_look_node M.b_look_node runD
  unfold encT at c ⊢
  by_cases h : n ∈ nums T
  · simp [- ev_turn, c, h1, notIn_nums, h]
  · simp [- ev_turn, c, h1, notIn_nums, h]
end Tw
set_option autoImplicit false
set_option linter.all false
namespace Tw
theorem look_at {T : List Nd} (nd : (nums T).Nodup) {n : Int} {x : Nd} : look T n = some x ↔ x ∈ T ∧ x.n = n :=
  ⟨look_some, fun ⟨h, e⟩ => by rw [← e]; exact look_of nd h⟩
theorem Nd.good_n {x : Nd} (h : x.good = true) : 1 ≤ x.n := by
  unfold Nd.good at h; simp only [Bool.and_eq_true, decide_eq_true_eq] at h; exact h.1.1.1
theorem Nd.good_p {x : Nd} (h : x.good = true) : 0 ≤ x.p := by
  unfold Nd.good at h; simp only [Bool.and_eq_true, decide_eq_true_eq] at h; exact h.1.1.2
theorem Nd.good_nm {x : Nd} (h : x.good = true) : goodName x.nm = true := by
  unfold Nd.good at h; simp only [Bool.and_eq_true, decide_eq_true_eq] at h; exact h.1.2
theorem Nd.good_st {x : Nd} (h : x.good = true) : goodSt x.st = true := by
  unfold Nd.good at h; simp only [Bool.and_eq_true, decide_eq_true_eq] at h; exact h.2
theorem Nd.good_mk {n p : Int} {nm : Nm} {st : Option Int} (h1 : 1 ≤ n) (h2 : 0 ≤ p) (h3 : goodName nm = true) (h4 : goodSt st = true) : (Nd.mk n p nm st).good = true := by
  unfold Nd.good; simp only [Bool.and_eq_true, decide_eq_true_eq]; exact ⟨⟨⟨h1, h2⟩, h3⟩, h4⟩
theorem up_look {T U : List Nd} (h : ∀ n x, look T n = some x → look U n = some x) {n : Int} {l : List Nd} (u : Upw T n l) : Upw U n l := by
  induction u with
  | top => exact .top
  | step a b _ ih => exact .step a (h _ _ b) ih
def Fup (T : List Nd) (n : Int) : Prop := ∃ l, Upw T n l ∧ ∀ y ∈ l.tail, y.st = none
structure Wh (T : List Nd) : Prop where
  good : ∀ x ∈ T, x.good = true
  nd : (nums T).Nodup
  sp : (spots T).Nodup
  up : ∀ x ∈ T, Fup T x.n
theorem Wh.pos {T : List Nd} (h : Wh T) : ∀ x ∈ T, x.n ≠ 0 := fun x hx => by have := Nd.good_n (h.good x hx); omega
theorem look_perm {T U : List Nd} (nd : (nums T).Nodup) (p : T.Perm U) (n : Int) : look U n = look T n := by
  have ndU : (nums U).Nodup := (p.map (·.n)).nodup_iff.mp nd
  cases e : look T n with
  | none =>
    cases e2 : look U n with
    | none => rfl
    | some x =>
      have := look_some e2
      rw [(look_at nd).mpr ⟨p.mem_iff.mpr this.1, this.2⟩] at e
      cases e
  | some x =>
    have := look_some e
    exact (look_at ndU).mpr ⟨p.mem_iff.mp this.1, this.2⟩
theorem Fup.look {T U : List Nd} (h : ∀ n x, look T n = some x → look U n = some x) {n : Int} (f : Fup T n) : Fup U n := by
  obtain ⟨l, u, q⟩ := f
  exact ⟨l, up_look h u, q⟩
theorem Wh.perm {T U : List Nd} (h : Wh T) (p : T.Perm U) : Wh U where
  good := fun x hx => h.good x (p.mem_iff.mpr hx)
  nd := (p.map (·.n)).nodup_iff.mp h.nd
  sp := (p.map _).nodup_iff.mp h.sp
  up := fun x hx => (h.up x (p.mem_iff.mpr hx)).look fun n y e => by rw [look_perm h.nd p]; exact e
structure Tr (T : List Nd) : Prop extends Wh T where
  pw : T.Pairwise fun a b => a.n < b.n
  len : T.length ≤ 1000
theorem Tr.ups {T : List Nd} (h : Tr T) : Ups T := ⟨h.nd, h.pos, h.len, fun x hx => let ⟨l, u, _⟩ := h.up x hx; ⟨l, u⟩⟩
theorem Wh.sort {T : List Nd} (h : Wh T) (hl : T.length ≤ 1000) : Tr (sortN T) :=
  { h.perm (sortN_perm T).symm with
    pw := sorted_strict (sortN_pw T) ((sortN_perm T).map (·.n) |>.nodup_iff.mpr h.nd)
    len := by rw [(sortN_perm T).length_eq]; exact hl }
theorem sortN_id {T : List Nd} (pw : T.Pairwise fun a b => a.n < b.n) : sortN T = T :=
  List.mergeSort_of_pairwise (pw.imp fun h => by unfold byN; simp; omega)
theorem isTree_wh {T : List Nd} (g : ∀ x ∈ T, x.good = true) (h : isTree T = true) : Wh T ∧ T.Pairwise fun a b => a.n < b.n := by
  have hu := isTree_up2 g h
  unfold isTree at h
  simp only [Bool.and_eq_true, decide_eq_true_eq] at h
  have pw : (nums T).Pairwise (· < ·) := by rw [h.1]; exact setI_pw _
  have pw' : T.Pairwise fun a b => a.n < b.n := List.pairwise_map.mp pw
  exact ⟨⟨g, pw.imp fun h => by omega, h.2.1, hu⟩, pw'⟩
theorem up_upsR {T : List Nd} {n : Int} {l : List Nd} (u : Upw T n l) : n ≠ 0 → (∀ y ∈ l.tail, y.st = none) → ∀ k, l.length ≤ k → upsR T k n = some true := by
  induction u with
  | top => intro h; exact absurd rfl h
  | @step n x l hn hx u ih =>
    intro _ hf k hk
    cases k with
    | zero => simp at hk
    | succ k =>
      simp only [upsR, hx]
      by_cases hp : x.p = 0
      · simp [hp]
      · rw [if_neg hp]
        generalize hq : x.p = q at u ih hp
        cases u with
        | top => exact absurd rfl hp
        | step _ e2 u2 =>
          rename_i y l2 _
          have hy : y.st = none := hf y (by simp)
          simp only [e2, hy]
          exact ih hp (fun z hz => hf z (by simp only [List.tail_cons] at hz ⊢; exact List.mem_cons_of_mem _ hz)) k (by simpa using hk)
theorem Tr.tree {T : List Nd} (h : Tr T) : isTree T = true := by
  unfold isTree
  simp only [Bool.and_eq_true, decide_eq_true_eq, List.all_eq_true]
  refine ⟨(setI_id (List.pairwise_map.mpr h.pw)).symm, h.sp, fun x hx => ?_⟩
  obtain ⟨l, u, q⟩ := h.up x hx
  unfold Tw.ups
  rw [up_upsR u (h.pos x hx) q _ u.le]
  rfl
theorem IsT.wh {T : List Nd} (h : IsT T) : Wh T := (isTree_wh h.good h.tree).1
theorem IsT.tr {T : List Nd} (h : IsT T) (hl : T.length ≤ 1000) : Tr T := { h.wh with pw := h.pw, len := hl }
theorem drawn_tr (ns : List Int) (at_ most : Nat) (h : most ≤ 1000) : Tr (drawn ns at_ most) := (drawn_isT ns at_ most).tr (by have := drawn_len ns at_ most; omega)
def Fol (T : List Nd) (p : Int) : Prop := p = 0 ∨ ∃ x ∈ T, x.n = p ∧ x.st = none
theorem Fol.fup {T : List Nd} (h : Wh T) {p : Int} (f : Fol T p) : ∃ l, Upw T p l ∧ ∀ y ∈ l, y.st = none := by
  rcases f with rfl | ⟨x, hx, rfl, hs⟩
  · exact ⟨[], .top, by simp⟩
  · obtain ⟨l, u, q⟩ := h.up x hx
    refine ⟨l, u, fun y hy => ?_⟩
    generalize hn : x.n = m at u
    cases u with
    | top => simp at hy
    | step hz e u2 =>
      rw [(look_at h.nd).mpr ⟨hx, hn⟩] at e
      cases e
      rcases List.mem_cons.mp hy with rfl | hy
      · exact hs
      · exact q y (by simpa using hy)
theorem Wh.snoc {T : List Nd} (h : Wh T) {x : Nd} (g : x.good = true) (hn : x.n ∉ nums T) (hs : (x.p, x.nm) ∉ spots T) (hf : Fol T x.p) : Wh (T ++ [x]) := by
  have nd : (nums (T ++ [x])).Nodup := by
    unfold nums
    rw [List.map_append, List.nodup_append]
    refine ⟨h.nd, by simp, fun a ha b hb => ?_⟩
    simp at hb; subst hb
    exact fun e => hn (e ▸ ha)
  have lk : ∀ n y, look T n = some y → look (T ++ [x]) n = some y := fun n y e => (look_at nd).mpr ⟨List.mem_append_left _ (look_some e).1, (look_some e).2⟩
  refine ⟨fun y hy => ?_, nd, ?_, fun y hy => ?_⟩
  · rcases List.mem_append.mp hy with hy | hy
    · exact h.good y hy
    · rw [List.mem_singleton.mp hy]; exact g
  · unfold spots
    rw [List.map_append, List.nodup_append]
    refine ⟨h.sp, by simp, fun a ha b hb => ?_⟩
    simp at hb; subst hb
    exact fun e => hs (e ▸ ha)
  · rcases List.mem_append.mp hy with hy | hy
    · exact (h.up y hy).look lk
    · rw [List.mem_singleton.mp hy]
      obtain ⟨l, u, q⟩ := hf.fup h
      exact ⟨x :: l, .step (by have := Nd.good_n g; omega) ((look_at nd).mpr ⟨by simp, rfl⟩) (up_look lk u), by simpa using q⟩
def repN (T : List Nd) (x : Nd) : List Nd := T.map fun y => if y.n = x.n then x else y
theorem nums_rep (T : List Nd) (x : Nd) : nums (repN T x) = nums T := by
  unfold nums repN
  rw [List.map_map]
  refine List.map_congr_left fun y _ => ?_
  by_cases h : y.n = x.n <;> simp [h]
theorem mem_rep {T : List Nd} {x z : Nd} : z ∈ repN T x ↔ (z = x ∧ x.n ∈ nums T) ∨ (z ∈ T ∧ z.n ≠ x.n) := by
  unfold repN
  rw [List.mem_map]
  constructor
  · rintro ⟨y, hy, rfl⟩
    by_cases h : y.n = x.n
    · rw [if_pos h]; exact .inl ⟨rfl, List.mem_map.mpr ⟨y, hy, h⟩⟩
    · rw [if_neg h]; exact .inr ⟨hy, h⟩
  · rintro (⟨rfl, h⟩ | ⟨h, g⟩)
    · obtain ⟨y, hy, e⟩ := List.mem_map.mp h
      exact ⟨y, hy, by rw [if_pos e]⟩
    · exact ⟨z, h, by rw [if_neg g]⟩
theorem look_rep {T : List Nd} (nd : (nums T).Nodup) {x : Nd} (hx : x.n ∈ nums T) (n : Int) : look (repN T x) n = if n = x.n then some x else look T n := by
  have nd2 : (nums (repN T x)).Nodup := by rw [nums_rep]; exact nd
  by_cases h : n = x.n
  · rw [if_pos h]
    exact (look_at nd2).mpr ⟨mem_rep.mpr (.inl ⟨rfl, hx⟩), h.symm⟩
  · rw [if_neg h]
    cases e : look T n with
    | none =>
      cases e2 : look (repN T x) n with
      | none => rfl
      | some y =>
        have := look_some e2
        rcases mem_rep.mp this.1 with ⟨rfl, _⟩ | ⟨h1, _⟩
        · exact absurd this.2.symm h
        · rw [(look_at nd).mpr ⟨h1, this.2⟩] at e; cases e
    | some y =>
      have := look_some e
      exact (look_at nd2).mpr ⟨mem_rep.mpr (.inr ⟨this.1, fun z => h (this.2.symm.trans z)⟩), this.2⟩
theorem spots_rep {T : List Nd} (h : Wh T) {x : Nd} (hs : ∀ y ∈ T, y.n ≠ x.n → (y.p, y.nm) ≠ (x.p, x.nm)) : (spots (repN T x)).Nodup := by
  unfold spots repN
  rw [List.map_map]
  refine List.pairwise_map.mpr ?_
  have h1 := List.pairwise_map.mp h.sp
  have h2 := List.pairwise_map.mp h.nd
  refine (List.Pairwise.and_mem.mp (h1.and h2)).imp fun {a b} ⟨ha, hb, ⟨q, r⟩⟩ => ?_
  simp only [Function.comp]
  by_cases ea : a.n = x.n
  · have eb : ¬ b.n = x.n := fun z => r (ea.trans z.symm)
    rw [if_pos ea, if_neg eb]
    exact fun z => hs b hb eb z.symm
  · rw [if_neg ea]
    by_cases eb : b.n = x.n
    · rw [if_pos eb]; exact hs a ha ea
    · rw [if_neg eb]; exact q
theorem Wh.write {T : List Nd} (h : Wh T) {x : Nd} (hx : x ∈ T) {st : Option Int} (hst : x.st = none → st = none) (g : goodSt st = true) : Wh (repN T { x with st := st }) := by
  have hn : x.n ∈ nums T := List.mem_map.mpr ⟨x, hx, rfl⟩
  have lk := look_rep h.nd (x := { x with st := st }) hn
  have key : ∀ {n l}, Upw T n l → ∃ m, Upw (repN T { x with st := st }) n m ∧ m = l.map (fun y => if y.n = x.n then { x with st := st } else y) := by
    intro n l u
    induction u with
    | top => exact ⟨_, .top, rfl⟩
    | @step n y l a b u ih =>
      obtain ⟨m, h1, h2⟩ := ih
      have hy := look_some b
      by_cases e : n = x.n
      · have : y = x := nodup_inj h.nd hy.1 hx (hy.2.trans e)
        subst this
        exact ⟨{ y with st := st } :: m, .step a (by rw [lk, if_pos e]) h1, by simp [h2]⟩
      · exact ⟨y :: m, .step a (by rw [lk, if_neg e]; exact b) h1, by simp [h2, hy.2, e]⟩
  refine ⟨fun y hy => ?_, by rw [nums_rep]; exact h.nd, spots_rep h fun y hy e z => ?_, fun y hy => ?_⟩
  · rcases mem_rep.mp hy with ⟨rfl, _⟩ | ⟨hy, _⟩
    · have := h.good x hx
      exact Nd.good_mk (Nd.good_n this) (Nd.good_p this) (Nd.good_nm this) g
    · exact h.good y hy
  · have h1 := List.pairwise_map.mp h.sp
    have : y = x := by
      have ne : y ≠ x := fun z => e (by rw [z])
      exact absurd z (by
        have := List.pairwise_iff_getElem.mp h1
        obtain ⟨i, hi, rfl⟩ := List.mem_iff_getElem.mp hy
        obtain ⟨j, hj, rfl⟩ := List.mem_iff_getElem.mp hx
        rcases Nat.lt_trichotomy i j with q | q | q
        · exact this i j hi hj q
        · subst q; exact absurd rfl ne
        · exact fun w => this j i hj hi q w.symm)
    exact e (by rw [this])
  · have : ∃ z ∈ T, z.n = y.n := by
      rcases mem_rep.mp hy with ⟨rfl, _⟩ | ⟨hy, _⟩
      · exact ⟨x, hx, rfl⟩
      · exact ⟨y, hy, rfl⟩
    obtain ⟨z, hz, ez⟩ := this
    obtain ⟨l, u, q⟩ := h.up z hz
    rw [ez] at u
    obtain ⟨m, h1, h2⟩ := key u
    refine ⟨m, h1, ?_⟩
    rw [h2]
    intro w hw
    rw [← List.map_tail] at hw
    obtain ⟨v, hv, rfl⟩ := List.mem_map.mp hw
    by_cases e : v.n = x.n
    · rw [if_pos e]
      have hvT := u.mem v (List.mem_of_mem_tail hv)
      have : v = x := nodup_inj h.nd hvT hx e
      exact hst (by rw [← this]; exact q v hv)
    · rw [if_neg e]; exact q v hv
end Tw
set_option autoImplicit false
set_option linter.all false
namespace Tw
theorem way_num {T : List Nd} (h : Wh T) {n : Int} (hn : n = 0 ∨ n ∈ nums T) : Upw T n (way T n) := by
  rcases hn with rfl | hn
  · have : Upw T 0 [] := .top
    rw [this.way]; exact this
  · obtain ⟨x, hx, rfl⟩ := List.mem_map.mp hn
    obtain ⟨l, hl, _⟩ := h.up x hx
    rw [hl.way]; exact hl
theorem under_iff {T : List Nd} {n g : Int} : under T n g = true ↔ g = 0 ∨ g ∈ (way T n).map (·.n) := by
  unfold under
  simp [List.any_eq_true]
theorem Wh.move {T : List Nd} (h : Wh T) {x : Nd} (hx : x ∈ T) {p : Int} {nm : Nm} (hp : 0 ≤ p) (hnm : goodName nm = true) (hf : Fol T p) (hu : p ≠ 0 → under T p x.n = false) (hs : ∀ y ∈ T, y.n ≠ x.n → (y.p, y.nm) ≠ (p, nm)) : Wh (repN T { x with p := p, nm := nm }) := by
  have hn : x.n ∈ nums T := List.mem_map.mpr ⟨x, hx, rfl⟩
  have hx0 := h.pos x hx
  have lk := look_rep h.nd (x := { x with p := p, nm := nm }) hn
  -- the way of p stays
  have stay : ∀ {n l}, Upw T n l → x.n ∉ l.map (·.n) → Upw (repN T { x with p := p, nm := nm }) n l := by
    intro n l u
    induction u with
    | top => intro _; exact .top
    | @step n y l a b u ih =>
      intro q
      simp only [List.map_cons, List.mem_cons, not_or] at q
      exact .step a (by rw [lk, if_neg (fun e => q.1 (e.symm.trans (look_some b).2.symm))]; exact b) (ih q.2)
  obtain ⟨lp, up_, qp⟩ := hf.fup h
  have np : x.n ∉ lp.map (·.n) := by
    by_cases z : p = 0
    · subst z
      cases up_ with
      | top => simp
      | step a _ _ => exact absurd rfl a
    · intro m
      have := hu z
      rw [Bool.eq_false_iff] at this
      exact this (under_iff.mpr (.inr (by rw [up_.way]; exact m)))
  have newx : Upw (repN T { x with p := p, nm := nm }) x.n ({ x with p := p, nm := nm } :: lp) := .step hx0 (by rw [lk, if_pos rfl]) (stay up_ np)
  have key : ∀ {n l}, Upw T n l → (∀ y ∈ l, y ≠ x → ∀ z ∈ l.tail, True) → (∀ y ∈ l.tail, y.st = none) → ∃ m, Upw (repN T { x with p := p, nm := nm }) n m ∧ (∀ y ∈ m.tail, y.st = none) ∧ ((∀ y ∈ l, y.st = none) → ∀ y ∈ m, y.st = none) := by
    intro n l u
    induction u with
    | top => intro _ _; exact ⟨[], .top, by simp, by simp⟩
    | @step n y l a b u ih =>
      intro _ q
      simp only [List.tail_cons] at q
      obtain ⟨m, h1, h2, h3⟩ := ih (fun _ _ _ _ _ => trivial) fun z hz => q z (List.mem_of_mem_tail hz)
      have hy := look_some b
      by_cases e : n = x.n
      · have : y = x := nodup_inj h.nd hy.1 hx (hy.2.trans e)
        subst this
        refine ⟨_, by rw [e]; exact newx, by simpa using qp, fun k z hz => ?_⟩
        rcases List.mem_cons.mp hz with rfl | hz
        · exact k y List.mem_cons_self
        · exact qp z hz
      · refine ⟨y :: m, .step a (by rw [lk, if_neg e]; exact b) h1, ?_, fun k z hz => ?_⟩
        · simpa using h3 q
        · rcases List.mem_cons.mp hz with rfl | hz
          · exact k z List.mem_cons_self
          · exact h3 (fun w hw => k w (List.mem_cons_of_mem _ hw)) z hz
  refine ⟨fun y hy => ?_, by rw [nums_rep]; exact h.nd, spots_rep h fun y hy e => hs y hy e, fun y hy => ?_⟩
  · rcases mem_rep.mp hy with ⟨rfl, _⟩ | ⟨hy, _⟩
    · have := h.good x hx
      exact Nd.good_mk (Nd.good_n this) hp hnm (Nd.good_st this)
    · exact h.good y hy
  · have : ∃ z ∈ T, z.n = y.n := by
      rcases mem_rep.mp hy with ⟨rfl, _⟩ | ⟨hy, _⟩
      · exact ⟨x, hx, rfl⟩
      · exact ⟨y, hy, rfl⟩
    obtain ⟨z, hz, ez⟩ := this
    obtain ⟨l, u, q⟩ := h.up z hz
    rw [ez] at u
    obtain ⟨m, h1, h2, _⟩ := key u (fun _ _ _ _ _ => trivial) q
    exact ⟨m, h1, h2⟩
theorem Wh.part {T : List Nd} (h : Wh T) (f : Nd → Bool) (hf : ∀ x ∈ T, f x = true → x.p = 0 ∨ ∃ y ∈ T, y.n = x.p ∧ f y = true) : Wh (T.filter f) := by
  have sub : ∀ {α : Type} (g : Nd → α), (T.map g).Nodup → ((T.filter f).map g).Nodup := fun g k => k.sublist (List.filter_sublist.map g)
  have nd := sub _ h.nd
  have key : ∀ {n l}, Upw T n l → (n = 0 ∨ ∃ y ∈ T, y.n = n ∧ f y = true) → Upw (T.filter f) n l := by
    intro n l u
    induction u with
    | top => intro _; exact .top
    | @step n y l a b u ih =>
      intro q
      rcases q with q | ⟨z, hz, e, fz⟩
      · exact absurd q a
      · have hy := look_some b
        have : z = y := nodup_inj h.nd hz hy.1 (e.trans hy.2.symm)
        subst this
        exact .step a ((look_at nd).mpr ⟨List.mem_filter.mpr ⟨hz, fz⟩, e⟩) (ih (hf z hz fz))
  refine ⟨fun x hx => h.good x (List.mem_filter.mp hx).1, nd, sub _ h.sp, fun x hx => ?_⟩
  obtain ⟨hx, fx⟩ := List.mem_filter.mp hx
  obtain ⟨l, u, q⟩ := h.up x hx
  exact ⟨l, key u (.inr ⟨x, hx, rfl, fx⟩), q⟩
theorem way_par {T : List Nd} (h : Wh T) {x : Nd} (hx : x ∈ T) : way T x.n = x :: way T x.p := by
  obtain ⟨l, u, _⟩ := h.up x hx
  rw [u.way]
  have hn := h.pos x hx
  generalize e : x.n = n at u hn
  cases u with
  | top => exact absurd rfl hn
  | step a b u =>
    rw [(look_at h.nd).mpr ⟨hx, e⟩] at b
    cases b
    rw [u.way]
theorem par_in {T : List Nd} (h : Wh T) {x : Nd} (hx : x ∈ T) : x.p = 0 ∨ ∃ y ∈ T, y.n = x.p ∧ y.st = none := by
  obtain ⟨l, u, q⟩ := h.up x hx
  generalize e : x.n = n at u
  cases u with
  | top => exact absurd e (h.pos x hx)
  | step a b u =>
    rw [(look_at h.nd).mpr ⟨hx, e⟩] at b
    cases b
    generalize e2 : x.p = m at u
    cases u with
    | top => exact .inl rfl
    | step c d u2 => exact .inr ⟨_, (look_some d).1, (look_some d).2, q _ (by simp)⟩
theorem under_par {T : List Nd} (h : Wh T) {x : Nd} (hx : x ∈ T) (g : Int) : under T x.n g = (decide (x.n = g) || under T x.p g) := by
  unfold under
  rw [way_par h hx, List.any_cons]
  by_cases h1 : g = 0 <;> by_cases h2 : x.n = g <;> simp [h1, h2]
theorem Wh.drop {T : List Nd} (h : Wh T) (n : Int) : Wh (T.filter fun x => !under T x.n n) := by
  refine h.part _ fun x hx fx => ?_
  rw [under_par h hx] at fx
  simp only [Bool.not_or, Bool.and_eq_true] at fx
  rcases par_in h hx with q | ⟨y, hy, e, _⟩
  · exact .inl q
  · exact .inr ⟨y, hy, e, by rw [e]; exact fx.2⟩
inductive Deed where
  | make (n p : Int) (nm : Nm) (st : Option Int)
  | write (n : Int) (st : Int)
  | move (n p : Int) (nm : Nm)
  | drop (n : Int)
def Deed.num : Deed → Int
  | .make n _ _ _ => n
  | .write n _ => n
  | .move n _ _ => n
  | .drop n => n
def sMake : Nm := [109, 97, 107, 101]
def sWrite : Nm := [119, 114, 105, 116, 101]
def sMove : Nm := [109, 111, 118, 101]
def sDrp : Nm := [100, 114, 111, 112]
def Deed.enc : Deed → D
  | .make n p nm st => .tup [.str sMake, .int n, .int p, .str nm, stD st]
  | .write n st => .tup [.str sWrite, .int n, .int st]
  | .move n p nm => .tup [.str sMove, .int n, .int p, .str nm]
  | .drop n => .tup [.str sDrp, .int n]
def Deed.good : Deed → Bool
  | .make n p nm st => decide (1 ≤ n) && decide (0 ≤ p) && goodName nm && goodSt st
  | .write _ st => goodSt (some st)
  | .move _ p nm => decide (0 ≤ p) && goodName nm
  | .drop n => decide (n ≠ 0)
def parE (T : List Nd) (p : Int) : Option Nat :=
  if p = 0 then none else match look T p with
    | none => some 1
    | some x => if x.st = none then none else some 3
def takenE (T : List Nd) (n p : Int) (nm : Nm) : Bool := T.any fun y => !decide (y.n = n) && decide ((y.p, y.nm) = (p, nm))
def doneV (T : List Nd) : Deed → Except Nat (List Nd)
  | .make n p nm st => if n ∈ nums T then .error 2 else match parE T p with
    | some c => .error c
    | none => if takenE T n p nm then .error 6 else .ok (sortN (T ++ [⟨n, p, nm, st⟩]))
  | .write n st => match look T n with
    | none => .error 1
    | some x => if x.st = none then .error 4 else .ok (repN T { x with st := some st })
  | .move n p nm => match look T n with
    | none => .error 1
    | some x => match parE T p with
      | some c => .error c
      | none => if p ≠ 0 ∧ under T p n = true then .error 5 else if takenE T n p nm then .error 6 else .ok (repN T { x with p := p, nm := nm })
  | .drop n => if n ∈ nums T then .ok (T.filter fun x => !under T x.n n) else .error 1
theorem parE_fol {T : List Nd} {p : Int} (h : parE T p = none) : Fol T p := by
  unfold parE at h
  by_cases z : p = 0
  · exact .inl z
  · rw [if_neg z] at h
    cases e : look T p with
    | none => rw [e] at h; simp at h
    | some x =>
      rw [e] at h
      simp only at h
      have := look_some e
      by_cases q : x.st = none
      · exact .inr ⟨x, this.1, this.2, q⟩
      · rw [if_neg q] at h; cases h
theorem takenE_not {T : List Nd} {n p : Int} {nm : Nm} (h : takenE T n p nm = false) : ∀ y ∈ T, y.n ≠ n → (y.p, y.nm) ≠ (p, nm) := fun y hy hn e => by
  unfold takenE at h
  rw [List.any_eq_false] at h
  exact h y hy (by simp only [Bool.and_eq_true, decide_eq_true_eq, Bool.not_eq_true', decide_eq_false_iff_not]; exact ⟨hn, e⟩)
theorem rep_pw {T : List Nd} (pw : T.Pairwise fun a b => a.n < b.n) (x : Nd) : (repN T x).Pairwise fun a b => a.n < b.n := by
  have : (nums (repN T x)).Pairwise (· < ·) := by rw [nums_rep]; exact List.pairwise_map.mpr pw
  exact List.pairwise_map.mp this
theorem done_wh {T : List Nd} (h : Tr T) {d : Deed} (g : d.good = true) {U : List Nd} (e : doneV T d = .ok U) : Wh U ∧ U.Pairwise (fun a b => a.n < b.n) ∧ U.length ≤ T.length + 1 := by
  cases d with
  | make n p nm st =>
    simp only [doneV] at e
    simp only [Deed.good, Bool.and_eq_true, decide_eq_true_eq] at g
    by_cases hn : n ∈ nums T
    · rw [if_pos hn] at e; cases e
    · rw [if_neg hn] at e
      cases hp : parE T p with
      | some c => rw [hp] at e; cases e
      | none =>
        rw [hp] at e
        simp only at e
        cases ht : takenE T n p nm with
        | true => rw [ht] at e; simp at e
        | false =>
          rw [ht] at e
          simp only [Bool.false_eq_true, if_false] at e
          cases e
          have w : Wh (T ++ [⟨n, p, nm, st⟩]) := h.toWh.snoc (x := ⟨n, p, nm, st⟩) (Nd.good_mk g.1.1.1 g.1.1.2 g.1.2 g.2) hn (fun m => by
            obtain ⟨y, hy, ey⟩ := List.mem_map.mp m
            exact takenE_not ht y hy (fun z => hn (List.mem_map.mpr ⟨y, hy, z⟩)) ey) (parE_fol hp)
          refine ⟨w.perm (sortN_perm _).symm, sorted_strict (sortN_pw _) ((sortN_perm _).map (·.n) |>.nodup_iff.mpr w.nd), ?_⟩
          rw [(sortN_perm _).length_eq]; simp
  | write n st =>
    simp only [doneV] at e
    cases hl : look T n with
    | none => rw [hl] at e; cases e
    | some x =>
      rw [hl] at e
      simp only at e
      by_cases hs : x.st = none
      · rw [if_pos hs] at e; cases e
      · rw [if_neg hs] at e
        cases e
        exact ⟨h.toWh.write (look_some hl).1 (fun z => absurd z hs) g, rep_pw h.pw _, by simp [repN]⟩
  | move n p nm =>
    simp only [doneV] at e
    simp only [Deed.good, Bool.and_eq_true, decide_eq_true_eq] at g
    cases hl : look T n with
    | none => rw [hl] at e; cases e
    | some x =>
      rw [hl] at e
      simp only at e
      cases hp : parE T p with
      | some c => rw [hp] at e; cases e
      | none =>
        rw [hp] at e
        simp only at e
        by_cases hu : p ≠ 0 ∧ under T p n = true
        · rw [if_pos hu] at e; cases e
        · rw [if_neg hu] at e
          cases ht : takenE T n p nm with
          | true => rw [ht] at e; simp at e
          | false =>
            rw [ht] at e
            simp only [Bool.false_eq_true, if_false] at e
            cases e
            have hx := look_some hl
            refine ⟨h.toWh.move hx.1 g.1 g.2 (parE_fol hp) (fun z => ?_) fun y hy q => takenE_not ht y hy (fun w => q (w.trans hx.2.symm)), rep_pw h.pw _, by simp [repN]⟩
            rw [hx.2]
            cases k : under T p n with
            | false => rfl
            | true => exact absurd ⟨z, k⟩ hu
  | drop n =>
    simp only [doneV] at e
    by_cases hn : n ∈ nums T
    · rw [if_pos hn] at e
      cases e
      exact ⟨h.toWh.drop n, h.pw.sublist List.filter_sublist, by have := List.length_filter_le (fun x : Nd => !under T x.n n) T; omega⟩
    · rw [if_neg hn] at e; cases e
end Tw
set_option autoImplicit false
set_option linter.all false
namespace Tw
theorem le_int (i j : Int) : D.le (.int i) (.int j) = decide (i ≤ j) := by
  unfold D.le
  rw [lt_int]
  by_cases h : j < i
  · simp [h]
  · simp [h]; omega
theorem sortD_nums (L : List Nd) : sortD (L.map fun x => D.int x.n) = (sortN L).map fun x => D.int x.n := by
  unfold sortD sortN
  exact (List.map_mergeSort fun a _ b _ => by rw [le_int]; rfl).symm
theorem sortable_ints (xs : List Int) : sortable (xs.map D.int) = true := by
  unfold sortable
  simp [List.all_eq_true, D.flat, D.kind]
theorem sorted_eq {xs : List D} (h : sortable xs = true) (hl : xs.length ≤ 1000) : D.sorted (.lst xs) = .ok (.lst (sortD xs)) := by
  have h2 : xs.length ≤ szl := by have := szl_big; omega
  simp [D.sorted, h, h2]
theorem sorted_nums {L : List Nd} (hl : L.length ≤ 1000) : D.sorted (.lst (L.map fun x => D.int x.n)) = .ok (.lst ((sortN L).map fun x => D.int x.n)) := by
  have h1 : sortable (L.map fun x => D.int x.n) = true := by
    have := sortable_ints (nums L)
    unfold nums at this
    rw [List.map_map] at this
    exact this
  rw [sorted_eq h1 (by simpa using hl), sortD_nums]
theorem keys_book (L : List Nd) : ((bookOf L).map fun kv => kv.1.toD) = L.map fun x => D.int x.n := by
  unfold bookOf
  rw [List.map_map]
  rfl
def wKnown : Nm := [107, 110, 111, 119, 110]
def wNoNode : Nm := [110, 111, 32, 110, 111, 100, 101]
def wNotFile : Nm := [110, 111, 116, 32, 102, 105, 108, 101]
def wNotFolder : Nm := [110, 111, 116, 32, 102, 111, 108, 100, 101, 114]
def wInside : Nm := [105, 110, 115, 105, 100, 101]
def wTaken : Nm := [116, 97, 107, 101, 110]
def wordE : Nat → Nm
  | 1 => wNoNode
  | 2 => wKnown
  | 3 => wNotFolder
  | 4 => wNotFile
  | 5 => wInside
  | 6 => wTaken
  | _ => []
@[simp] theorem eq_str {a b : Nm} (ha : (a.all fun c => decide (c < 1114112)) = true) (hb : (b.all fun c => decide (c < 1114112)) = true) : D.eq (.str a) (.str b) = .ok (.bl (a == b)) := by
  unfold D.eq
  rw [if_pos (by simp only [D.good, D.pl, ha, hb]; rfl)]
  rfl
@[simp] theorem ne_str {a b : Nm} (ha : (a.all fun c => decide (c < 1114112)) = true) (hb : (b.all fun c => decide (c < 1114112)) = true) : D.ne (.str a) (.str b) = .ok (.bl (!(a == b))) := by
  unfold D.ne
  rw [if_pos (by simp only [D.good, D.pl, ha, hb]; rfl)]
  rfl
end Tw
set_option autoImplicit false
set_option linter.all false
namespace Tw
theorem add_lst {x y : List D} (h : x.length + y.length ≤ 10000) : D.add (.lst x) (.lst y) = .ok (.lst (x ++ y)) := by
  have : x.length + y.length ≤ szl := by have := szl_big; omega
  simp [D.add, this]
theorem eq_nil {xs : List Int} : D.eq (.lst (xs.map D.int)) (.lst []) = .ok (.bl (decide (xs = []))) := by
  unfold D.eq
  rw [if_pos (by simp [D.good, D.pl, D.pls, pls_ints])]
  cases xs <;> simp [D.eqv, D.eqvs]
end Tw
set_option autoImplicit false
set_option linter.all false
namespace Tw
abbrev Row := Int × Nm × Option Int
def rowD (r : Row) : D := .tup [.int r.1, .str r.2.1, stD r.2.2]
def orowD : Option Row → D
  | none => .non
  | some r => rowD r
def Nd.r (x : Nd) : Row := (x.p, x.nm, x.st)
def rowAt (T : List Nd) (n : Int) : Option Row := (look T n).map Nd.r
def goodR (r : Row) : Bool := decide (0 ≤ r.1) && goodName r.2.1 && goodSt r.2.2
def goodO : Option Row → Bool
  | none => true
  | some r => goodR r
theorem r_good {x : Nd} (h : x.good = true) : goodR x.r = true := by
  simp only [goodR, Nd.r, Bool.and_eq_true]
  exact ⟨⟨decide_eq_true (Nd.good_p h), Nd.good_nm h⟩, Nd.good_st h⟩
theorem rowAt_good {T : List Nd} (g : ∀ x ∈ T, x.good = true) (n : Int) : goodO (rowAt T n) = true := by
  unfold rowAt
  cases e : look T n with
  | none => rfl
  | some x => exact r_good (g x (look_some e).1)
structure Ch where
  n : Int
  o : Option Row
  w : Option Row
  deriving DecidableEq
def Ch.enc (c : Ch) : D := .tup [.int c.n, orowD c.o, orowD c.w]
abbrev Chg := List Ch
def encC (c : Chg) : D := .tup (c.map Ch.enc)
def Ch.good (c : Ch) : Bool := goodO c.o && goodO c.w
@[simp] theorem orow_non (o : Option Row) : D.isNon (orowD o) = o.isNone := by cases o <;> rfl
@[simp] theorem rowD_non (r : Row) : D.isNon (rowD r) = false := (rfl)
@[simp] theorem rowD_box (r : Row) : D.box (rowD r) = false := (rfl)
@[simp] theorem orowD_box (r : Option Row) : D.box (orowD r) = false := by cases r <;> rfl
@[simp] theorem encC_box (c : Chg) : D.box (encC c) = false := (rfl)
@[simp] theorem encT_box (T : List Nd) : D.box (encT T) = false := (rfl)
@[simp] theorem chenc_box (c : Ch) : D.box c.enc = false := (rfl)
@[simp] theorem ndenc_box (c : Nd) : D.box c.enc = false := (rfl)
@[simp] theorem itC (c : Chg) : D.items (encC c) = .ok (c.map Ch.enc) := (rfl)
@[simp] theorem itT (c : List Nd) : D.items (encT c) = .ok (c.map Nd.enc) := (rfl)
@[simp] theorem stD_box (o : Option Int) : D.box (stD o) = false := by cases o <;> rfl
@[simp] theorem lenT (c : List Nd) : D.len (encT c) = .ok (.int c.length) := by simp [encT]
@[simp] theorem lenC (c : Chg) : D.len (encC c) = .ok (.int c.length) := by simp [encC]
theorem pl_row {r : Row} (h : goodR r = true) (n : Nat) : D.pl (n + 1) (rowD r) = true := by
  simp only [goodR, Bool.and_eq_true, decide_eq_true_eq] at h
  simp [rowD, D.pl, D.pls, name_ok h.1.2, pl_st]
theorem pl_orow {o : Option Row} (h : goodO o = true) (n : Nat) : D.pl (n + 1) (orowD o) = true := by
  cases o with
  | none => simp [orowD, D.pl]
  | some r => exact pl_row h n
theorem eqv_row (a b : Row) : D.eqv (rowD a) (rowD b) = decide (a = b) := by
  obtain ⟨p, m, s⟩ := a
  obtain ⟨q, k, t⟩ := b
  simp only [rowD, D.eqv, D.eqvs, Bool.and_true, eqv_st]
  by_cases h1 : p = q <;> by_cases h2 : m = k <;> by_cases h3 : s = t <;> simp [h1, h2, h3]
theorem eqv_orow (a b : Option Row) : D.eqv (orowD a) (orowD b) = decide (a = b) := by
  cases a with
  | none => cases b with
    | none => simp [orowD, D.eqv]
    | some r => simp [orowD, rowD, D.eqv]
  | some r => cases b with
    | none => simp [orowD, rowD, D.eqv]
    | some s => simp only [orowD, eqv_row, Option.some.injEq]
theorem ne_orow {a b : Option Row} (ha : goodO a = true) (hb : goodO b = true) : D.ne (orowD a) (orowD b) = .ok (.bl (!decide (a = b))) := by
  unfold D.ne
  rw [if_pos (by simp only [D.good]; rw [pl_orow ha 39, pl_orow hb 39]; rfl), eqv_orow]
theorem eqv_ch (a b : Ch) : D.eqv a.enc b.enc = decide (a = b) := by
  obtain ⟨n, o, w⟩ := a
  obtain ⟨m, p, v⟩ := b
  simp only [Ch.enc, D.eqv, D.eqvs, eqv_orow, Bool.and_true]
  by_cases h1 : n = m <;> by_cases h2 : o = p <;> by_cases h3 : w = v <;> simp [h1, h2, h3]
theorem eqvs_ch : ∀ a b : Chg, D.eqvs (a.map Ch.enc) (b.map Ch.enc) = decide (a = b)
  | [], [] => by simp [D.eqvs]
  | [], _ :: _ => by simp [D.eqvs]
  | _ :: _, [] => by simp [D.eqvs]
  | x :: a, y :: b => by
    simp only [List.map_cons, D.eqvs, eqv_ch, eqvs_ch a b]
    by_cases h1 : x = y <;> by_cases h2 : a = b <;> simp [h1, h2]
def goodC (c : Chg) : Prop := ∀ x ∈ c, x.good = true
theorem pl_ch {c : Ch} (h : c.good = true) (n : Nat) : D.pl (n + 2) c.enc = true := by
  simp only [Ch.good, Bool.and_eq_true] at h
  simp [Ch.enc, D.pl, D.pls, pl_orow h.1 n, pl_orow h.2 n]
theorem pl_chg {c : Chg} (h : goodC c) (n : Nat) : D.pl (n + 3) (encC c) = true := by
  simp only [encC, D.pl]
  refine pls_mem fun d hd => ?_
  obtain ⟨x, hx, rfl⟩ := List.mem_map.mp hd
  exact pl_ch (h x hx) n
theorem eq_chg {a b : Chg} (ha : goodC a) (hb : goodC b) : D.eq (encC a) (encC b) = .ok (.bl (decide (a = b))) := by
  unfold D.eq
  rw [if_pos (by simp only [D.good]; rw [pl_chg ha 37, pl_chg hb 37]; rfl)]
  simp only [encC, D.eqv, eqvs_ch]
def allN (T U : List Nd) : List Int := setI (nums T ++ nums U)
def chOf (T U : List Nd) (l : List Int) : Chg := (l.filter fun n => !decide (rowAt T n = rowAt U n)).map fun n => ⟨n, rowAt T n, rowAt U n⟩
def chgV (T U : List Nd) : Chg := chOf T U (allN T U)
theorem chOf_snoc (T U : List Nd) (l : List Int) (n : Int) : chOf T U (l ++ [n]) = if rowAt T n = rowAt U n then chOf T U l else chOf T U l ++ [⟨n, rowAt T n, rowAt U n⟩] := by
  unfold chOf
  rw [List.filter_append, List.map_append]
  by_cases h : rowAt T n = rowAt U n <;> simp [h]
theorem chOf_len (T U : List Nd) (l : List Int) : (chOf T U l).length ≤ l.length := by
  have := List.length_filter_le (fun n => !decide (rowAt T n = rowAt U n)) l
  simpa [chOf] using this
theorem chg_good {T U : List Nd} (g : ∀ x ∈ T, x.good = true) (k : ∀ x ∈ U, x.good = true) : goodC (chgV T U) := fun c hc => by
  obtain ⟨n, _, rfl⟩ := List.mem_map.mp hc
  simp only [Ch.good, Bool.and_eq_true]
  exact ⟨rowAt_good g n, rowAt_good k n⟩
theorem get_row {T : List Nd} {n : Int} : D.get1 (.dct false (bookOf T)) (.int n) = .ok (orowD (rowAt T n)) := by
  rw [book_get]
  unfold rowAt
  cases look T n <;> rfl
theorem insI_len (x : Int) : ∀ l : List Int, (insI x l).length ≤ l.length + 1
  | [] => by simp [insI]
  | y :: l => by
    unfold insI
    split
    · simp
    · split
      · simp
      · have := insI_len x l; simp; omega
theorem setI_len : ∀ l : List Int, (setI l).length ≤ l.length
  | [] => by simp [setI]
  | x :: l => by
    have h1 := setI_len l
    have h2 := insI_len x (setI l)
    show (insI x (setI l)).length ≤ _
    simp; omega
theorem all_numbers {T U : List Nd} (hl : T.length + U.length < 64) : (D.add (.lst ((bookOf T).map fun kv => kv.1.toD)) (.lst ((bookOf U).map fun kv => kv.1.toD))).bind D.sortedSet = .ok (.lst ((allN T U).map D.int)) := by
  rw [keys_book, keys_book, add_lst (by simp; omega)]
  have e : (T.map fun x => D.int x.n) ++ (U.map fun x => D.int x.n) = (nums T ++ nums U).map D.int := by simp [nums, Function.comp_def]
  rw [e]
  simp only [Res.bind_ok, D.sortedSet, ints_int]
  rw [if_pos (by simp; omega)]
  rfl
theorem allN_len {T U : List Nd} : (allN T U).length ≤ T.length + U.length := by
  have := setI_len (nums T ++ nums U)
  simpa [allN] using this
end Tw
set_option autoImplicit false
set_option linter.all false
namespace Tw
section
variable {α : Type} (f : α → D)
def iput (L : List (Int × α)) (n : Int) (v : α) : List (Int × α) := if n ∈ L.map (·.1) then L.map fun p => if p.1 = n then (p.1, v) else p else L ++ [(n, v)]
variable {f}
end
end Tw
set_option autoImplicit false
set_option linter.all false
namespace Tw
def sMade : Nm := [109, 97, 100, 101]
def sGone : Nm := [103, 111, 110, 101]
def sWritten : Nm := [119, 114, 105, 116, 116, 101, 110]
def sMoved : Nm := [109, 111, 118, 101, 100]
def sBoth : Nm := [98, 111, 116, 104]
def kinds : List Nm := [sMade, sGone, sWritten, sMoved, sBoth]
abbrev OW := Option Row × Option Row
def owD (v : OW) : D := .tup [orowD v.1, orowD v.2]
@[simp] theorem owD0 (v : OW) : D.idx (owD v) (.int 0) = .ok (orowD v.1) := (rfl)
@[simp] theorem owD1 (v : OW) : D.idx (owD v) (.int 1) = .ok (orowD v.2) := (rfl)
abbrev cnums (c : Chg) : List Int := c.map (·.n)
end Tw
set_option autoImplicit false
set_option linter.all false
namespace Tw
@[simp] theorem ev_putL {i : Nat} {k v : E} {e : Env} : sPutL i k v e = match e[i]? with
  | some (.own (.lst xs)) => (v e).run e fun w => (k e).run e fun q => match q with
    | .int j => if 0 ≤ j ∧ j < xs.length then .nx (e.set i (.own (.lst (xs.set j.toNat w)))) else .stk
    | _ => .stk
  | _ => .stk := (rfl)
theorem rowAt_none {T : List Nd} {n : Int} (h : n ∉ nums T) : rowAt T n = none := by
  unfold rowAt
  cases e : look T n with
  | none => rfl
  | some x => exact absurd (look_iff.mp (by rw [e]; rfl)) h
theorem mem_allN {T U : List Nd} {n : Int} : n ∈ allN T U ↔ n ∈ nums T ∨ n ∈ nums U := by unfold allN; rw [mem_setI, List.mem_append]
theorem chg_nums (T U : List Nd) : cnums (chgV T U) = (allN T U).filter fun n => !decide (rowAt T n = rowAt U n) := by
  unfold chgV chOf cnums
  rw [List.map_map]
  exact List.map_id _
theorem chg_pw (T U : List Nd) : (cnums (chgV T U)).Pairwise (· < ·) := by
  rw [chg_nums]
  exact (setI_pw _).sublist List.filter_sublist
theorem chg_nodup (T U : List Nd) : (cnums (chgV T U)).Nodup := (chg_pw T U).imp fun h => by omega
theorem mem_chg {T U : List Nd} {n : Int} : n ∈ cnums (chgV T U) ↔ rowAt T n ≠ rowAt U n := by
  rw [chg_nums, List.mem_filter, mem_allN]
  constructor
  · rintro ⟨_, h⟩; simpa using h
  · intro h
    refine ⟨?_, by simpa using h⟩
    by_cases h1 : n ∈ nums T
    · exact .inl h1
    · by_cases h2 : n ∈ nums U
      · exact .inr h2
      · exact absurd ((rowAt_none h1).trans (rowAt_none h2).symm) h
theorem chg_mem {T U : List Nd} {c : Ch} (h : c ∈ chgV T U) : c.o = rowAt T c.n ∧ c.w = rowAt U c.n ∧ rowAt T c.n ≠ rowAt U c.n := by
  obtain ⟨n, hn, rfl⟩ := List.mem_map.mp h
  exact ⟨rfl, rfl, by simpa using (List.mem_filter.mp hn).2⟩
theorem chg_self (T : List Nd) : chgV T T = [] := by
  unfold chgV chOf
  simp
end Tw
set_option autoImplicit false
set_option linter.all false
namespace Tw
def ndOf (n : Int) (r : Row) : Nd := ⟨n, r.1, r.2.1, r.2.2⟩
@[simp] theorem ndOf_n (n : Int) (r : Row) : (ndOf n r).n = n := rfl
@[simp] theorem ndOf_r (n : Int) (r : Row) : (ndOf n r).r = r := rfl
theorem nd_eta (x : Nd) : ndOf x.n x.r = x := rfl
@[simp] theorem orow_0 : orowD none = .non := rfl
@[simp] theorem orow_1 (r : Row) : orowD (some r) = rowD r := rfl
theorem mem_row {T : List Nd} (nd : (nums T).Nodup) {x : Nd} : x ∈ T ↔ rowAt T x.n = some x.r := by
  unfold rowAt
  constructor
  · intro h; rw [(look_at nd).mpr ⟨h, rfl⟩]; rfl
  · intro h
    cases e : look T x.n with
    | none => rw [e] at h; cases h
    | some y =>
      rw [e] at h
      have hy := look_some e
      have : y.r = x.r := by simpa using h
      have : y = x := by rw [← nd_eta y, ← nd_eta x, hy.2, this]
      rw [← this]; exact hy.1
theorem ext_row {T U : List Nd} (pT : T.Pairwise fun a b => a.n < b.n) (pU : U.Pairwise fun a b => a.n < b.n) (h : ∀ n, rowAt T n = rowAt U n) : T = U := by
  have nT : (nums T).Nodup := List.pairwise_map.mpr (pT.imp fun h => by omega)
  have nU : (nums U).Nodup := List.pairwise_map.mpr (pU.imp fun h => by omega)
  have hm : ∀ x, x ∈ T ↔ x ∈ U := fun x => by rw [mem_row nT, mem_row nU, h]
  have dT : T.Nodup := pT.imp fun h e => by rw [e] at h; omega
  have dU : U.Nodup := pU.imp fun h e => by rw [e] at h; omega
  have pm : T.Perm U := (List.perm_ext_iff_of_nodup dT dU).mpr hm
  exact List.Perm.eq_of_pairwise (le := fun a b : Nd => a.n < b.n) (fun a b _ _ h1 h2 => by omega) pT pU pm
structure OkChg (c : Chg) : Prop where
  good : goodC c
  nd : (cnums c).Nodup
  pos : ∀ x ∈ c, 1 ≤ x.n
  ne : ∀ x ∈ c, x.o ≠ x.w
theorem chg_ok {T U : List Nd} (hT : Wh T) (hU : Wh U) : OkChg (chgV T U) where
  good := chg_good hT.good hU.good
  nd := chg_nodup T U
  pos := fun c hc => by
    obtain ⟨n, hn, rfl⟩ := List.mem_map.mp hc
    have := mem_allN.mp (List.mem_filter.mp hn).1
    rcases this with h | h <;> obtain ⟨x, hx, rfl⟩ := List.mem_map.mp h
    · exact Nd.good_n (hT.good x hx)
    · exact Nd.good_n (hU.good x hx)
  ne := fun c hc => by
    obtain ⟨h1, h2, h3⟩ := chg_mem hc
    rw [h1, h2]; exact h3
@[simp] theorem ev_del {i : Nat} {k : E} {e : Env} : sDel i k e = match e[i]? with
  | some (.own (.dct false kvs)) => (k e).run e fun q => match q.kf false with
    | some y => if khas y kvs then .nx (e.set i (.own (.dct false (kdel y kvs)))) else .stk
    | none => .stk
  | _ => .stk := (rfl)
end Tw
set_option autoImplicit false
set_option linter.all false
namespace Tw
def hid (names : List Nm) (p : List Nm) : Bool := p.any fun s => decide (s ∈ names)
def seenV (T : List Nd) (names : List Nm) : List Nd := T.filter fun x => !hid names (path T x.n)
def okNm (s : Nm) : Bool := s.all fun c => decide (c < 1114112)
theorem good_okNm {s : Nm} (h : goodName s = true) : okNm s = true := name_ok h
theorem eqv_str (a b : Nm) : D.eqv (.str a) (.str b) = decide (a = b) := by
  show (a == b) = _
  by_cases h : a = b <;> simp [h]
theorem pls_str : ∀ (l : List Nm) (n : Nat), (∀ s ∈ l, okNm s = true) → D.pls n (l.map D.str) = true
  | [], _, _ => by simp [D.pls]
  | s :: l, n, h => by
    have h1 : D.pl n (.str s) = true := by
      have := h s List.mem_cons_self
      cases n <;> simpa [D.pl, okNm] using this
    simp [D.pls, h1, pls_str l n fun x m => h x (List.mem_cons_of_mem _ m)]
theorem isIn_str {s : Nm} {l : List Nm} (hs : okNm s = true) (hl : ∀ s ∈ l, okNm s = true) : D.isIn (.str s) (.lst (l.map D.str)) = .ok (.bl (decide (s ∈ l))) := by
  rw [isIn_l (by simpa [D.good, D.pl, okNm] using hs) (by simp only [D.pl]; exact pls_str l 39 hl)]
  congr 2
  rw [List.any_map]
  simp only [Function.comp_def, eqv_str]
  by_cases h : s ∈ l
  · rw [decide_eq_true h, List.any_eq_true]; exact ⟨s, h, by simp⟩
  · rw [decide_eq_false h, List.any_eq_false]
    intro x hx e
    exact h (by simp at e; rw [← e]; exact hx)
theorem path_names {T : List Nd} (h : Wh T) {n : Int} (hn : n = 0 ∨ n ∈ nums T) : ∀ s ∈ path T n, goodName s = true := fun s hs => by
  unfold path at hs
  rw [List.mem_reverse] at hs
  obtain ⟨x, hx, rfl⟩ := List.mem_map.mp hs
  exact Nd.good_nm (h.good x ((way_num h hn).mem x hx))
theorem way_len {T : List Nd} (h : Ups T) {n : Int} (hn : n = 0 ∨ n ∈ nums T) : (way T n).length ≤ T.length := (h.way hn).le
theorem path_len {T : List Nd} (h : Ups T) {n : Int} (hn : n = 0 ∨ n ∈ nums T) : (path T n).length ≤ T.length := by
  unfold path
  rw [List.length_reverse, List.length_map]
  exact way_len h hn
theorem is_seen_ok {T : List Nd} (h : Tr T) {names : List Nm} (hN : ∀ s ∈ names, okNm s = true) {n : Int} (hn : n = 0 ∨ n ∈ nums T) : M.m_is_seen [.dct false (bookOf T), .int n, .lst (names.map D.str)] = .ok (.bl (!hid names (path T n))) := by
  have pi := path_in_ok h.ups hn
  have hl : (path T n).length < szl := small_szl (by have := path_len h.ups hn; have := h.len; omega)
  have c : compGo (compTurn [3] (gN 3) tTrue (e2 D.isIn (eB 3) (eB 2)) [.bor (.dct false (bookOf T)), .sh (.int n), .bor (.lst (names.map D.str)), .un]) ((path T n).map D.str) = .ok ((path T n).map fun s => .bl (decide (s ∈ names))) := by
    refine compGo_map fun s hs => ?_
    have := isIn_str (good_okNm (path_names h.toWh hn s hs)) hN
    simp [this]
  have bm : bools? ((path T n).map fun s => D.bl (decide (s ∈ names))) = some ((path T n).map fun s => decide (s ∈ names)) := bools_map _ _
  have an := ev_any bm
  refine run_rt rfl ?_
  show M.b_is_seen [.bor (.dct false (bookOf T)), .sh (.int n), .bor (.lst (names.map D.str)), .un] = _
  have it : D.items (strD (path T n)) = .ok ((path T n).map D.str) := rfl
  simp [- ev_turn, - ev_any, M.b_is_seen, pi, it, hl, c, an]
  simp [hid, List.any_map, Function.comp_def]
theorem seen_ok {T : List Nd} (h : Tr T) {names : List Nm} (hN : ∀ s ∈ names, okNm s = true) : M.m_seen [encT T, .lst (names.map D.str)] = .ok (encT (seenV T names)) := by
  have hb := book_ok h.nd h.len
  have hl : T.length < szl := small_szl (by have := h.len; omega)
  have c : compGo (compTurn [3] (gN 3) (tE (eCall M.m_is_seen [(eB 2), (e2 D.idx (eB 3) (eC (.int 0))), (eB 1)])) (eV 3) [.bor (encT T), .bor (.lst (names.map D.str)), .sh (.dct false (bookOf T)), .un]) (T.map Nd.enc) = .ok ((seenV T names).map Nd.enc) := by
    refine compGo_enc fun x hx => ?_
    have := is_seen_ok h hN (n := x.n) (.inr (List.mem_map.mpr ⟨x, hx, rfl⟩))
    cases q : hid names (path T x.n) <;> rw [q] at this <;> simp [this]
  refine run_rt rfl ?_
  show M.b_seen [.bor (encT T), .bor (.lst (names.map D.str)), .un, .un] = _
  simp [- ev_turn, M.b_seen, hb, hl, c]
  rfl
theorem seen_par {T : List Nd} (h : Wh T) {names : List Nm} {x : Nd} (hx : x ∈ T) : hid names (path T x.n) = (decide (x.nm ∈ names) || hid names (path T x.p)) := by
  unfold hid path
  rw [way_par h hx]
  simp [Bool.or_comm]
theorem seen_wh {T : List Nd} (h : Wh T) (names : List Nm) : Wh (seenV T names) := h.part _ fun x hx fx => by
  rw [seen_par h hx] at fx
  simp only [Bool.not_or, Bool.and_eq_true] at fx
  rcases par_in h hx with q | ⟨y, hy, e, _⟩
  · exact .inl q
  · exact .inr ⟨y, hy, e, by rw [e]; exact fx.2⟩
theorem seen_tr {T : List Nd} (h : Tr T) (names : List Nm) : Tr (seenV T names) :=
  { seen_wh h.toWh names with
    pw := h.pw.sublist List.filter_sublist
    len := by have := List.length_filter_le (fun x => !hid names (path T x.n)) T; have := h.len; unfold seenV; omega }
theorem seen_len (T : List Nd) (names : List Nm) : (seenV T names).length ≤ T.length := List.length_filter_le _ T
theorem up_part {T U : List Nd} (h : Wh T) (sub : ∀ x ∈ U, x ∈ T) {n : Int} {l : List Nd} (u : Upw U n l) : Upw T n l := by
  induction u with
  | top => exact .top
  | step a b _ ih => exact .step a ((look_at h.nd).mpr ⟨sub _ (look_some b).1, (look_some b).2⟩) ih
theorem way_part {T U : List Nd} (h : Wh T) (hU : Wh U) (sub : ∀ x ∈ U, x ∈ T) {n : Int} (hn : n = 0 ∨ n ∈ nums U) : way U n = way T n := (up_part h sub (way_num hU hn)).way.symm
theorem path_part {T U : List Nd} (h : Wh T) (hU : Wh U) (sub : ∀ x ∈ U, x ∈ T) {n : Int} (hn : n = 0 ∨ n ∈ nums U) : path U n = path T n := by unfold path; rw [way_part h hU sub hn]
theorem mem_nums {T : List Nd} {x : Nd} (h : x ∈ T) : x.n ∈ nums T := List.mem_map.mpr ⟨x, h, rfl⟩
theorem mem_seen {T : List Nd} {names : List Nm} {x : Nd} : x ∈ seenV T names ↔ x ∈ T ∧ hid names (path T x.n) = false := by
  unfold seenV
  rw [List.mem_filter]
  simp
end Tw
set_option autoImplicit false
set_option linter.all false
namespace Tw
theorem sorted_ext {T U : List Nd} (pT : T.Pairwise fun a b => a.n < b.n) (pU : U.Pairwise fun a b => a.n < b.n) (hm : ∀ x, x ∈ T ↔ x ∈ U) : T = U := by
  have dT : T.Nodup := pT.imp fun h e => by rw [e] at h; omega
  have dU : U.Nodup := pU.imp fun h e => by rw [e] at h; omega
  exact List.Perm.eq_of_pairwise (le := fun a b : Nd => a.n < b.n) (fun a b _ _ h1 h2 => by omega) pT pU ((List.perm_ext_iff_of_nodup dT dU).mpr hm)
theorem chg_nil {T U : List Nd} (hT : Tr T) (hU : Tr U) : chgV T U = [] ↔ T = U := by
  constructor
  · intro h
    refine ext_row hT.pw hU.pw fun n => ?_
    cases q : decide (rowAt T n = rowAt U n) with
    | true => simpa using q
    | false =>
      have : n ∈ cnums (chgV T U) := mem_chg.mpr (by simpa using q)
      rw [h] at this
      cases this
  · intro h; rw [h]; exact chg_self U
theorem change_seen_ok {T U : List Nd} (hT : Tr T) (hU : Tr U) {names : List Nm} (hN : ∀ s ∈ names, okNm s = true) (hl : T.length + U.length < 64) : M.m_change_seen [encT T, encT U, .lst (names.map D.str)] = .ok (encC (chgV (seenV T names) (seenV U names))) := by
  have sT := seen_ok hT hN
  have sU := seen_ok hU hN
  have hT' := seen_tr hT names
  have hU' := seen_tr hU names
  have l1 := seen_len T names
  have l2 := seen_len U names
  generalize seenV T names = A at sT hT' l1
  generalize seenV U names = B at sU hU' l2
  have hb := book_ok hT'.nd hT'.len
  have hb2 := book_ok hU'.nd hU'.len
  have hal := allN_len (T := A) (U := B)
  have ag := fun n => rowAt_good hT'.good n
  have bg := fun n => rowAt_good hU'.good n
  have en : ∀ n, D.tup [.int n, orowD (rowAt A n), orowD (rowAt B n)] = Ch.enc ⟨n, rowAt A n, rowAt B n⟩ := fun _ => rfl
  obtain ⟨env', lp, z, rfl⟩ := forGo_pre (g := gN 6) (b := sIf (tE (e2 D.ne (eGet1 (eB 3) (eB 6)) (eGet1 (eB 4) (eB 6)))) (sApp 5 (eTup [(eV 6), (eGet1 (eB 3) (eB 6)), (eGet1 (eB 4) (eB 6))])) sNil)
    (e := D.int) (ys := allN A B)
    (R := fun pre e => ∃ z, e = [.bor (encT T), .bor (encT U), .bor (.lst (names.map D.str)), .sh (.dct false (bookOf A)), .sh (.dct false (bookOf B)), .own (.lst ((chOf A B pre).map Ch.enc)), z])
    (env := [.bor (encT T), .bor (encT U), .bor (.lst (names.map D.str)), .sh (.dct false (bookOf A)), .sh (.dct false (bookOf B)), .own (.lst []), .un]) (fun pre n post hy env hR => by
      obtain ⟨z, rfl⟩ := hR
      have hlen : (chOf A B pre).length < szl := by
        have h1 := chOf_len A B pre
        have h2 : pre.length ≤ (allN A B).length := by rw [hy]; simp
        have := szl_big
        omega
      have hne := ne_orow (ag n) (bg n)
      by_cases q : rowAt A n = rowAt B n
      · rw [decide_eq_true q] at hne
        rw [chOf_snoc, if_pos q]
        refine ⟨_, [.bor (encT T), .bor (encT U), .bor (.lst (names.map D.str)), .sh (.dct false (bookOf A)), .sh (.dct false (bookOf B)), .own (.lst ((chOf A B pre).map Ch.enc)), .sh (.int n)], rfl, .inl ?_, _, rfl⟩
        simp [get_row, hne]
      · rw [decide_eq_false q] at hne
        rw [chOf_snoc, if_neg q]
        refine ⟨_, [.bor (encT T), .bor (encT U), .bor (.lst (names.map D.str)), .sh (.dct false (bookOf A)), .sh (.dct false (bookOf B)), .own (.lst ((chOf A B pre ++ [(⟨n, rowAt A n, rowAt B n⟩ : Ch)]).map Ch.enc)), .sh (.int n)], rfl, .inl ?_, _, rfl⟩
        simp [get_row, hne, hlen, en]) ⟨_, rfl⟩
  have ha := all_numbers (T := A) (U := B) (by omega)
  refine run_rt rfl ?_
  show M.b_change_seen [.bor (encT T), .bor (encT U), .bor (.lst (names.map D.str)), .un, .un, .un, .un] = _
  simp [- List.map_map, M.b_change_seen, sT, sU, hb, hb2, ha, lp, encC, chgV]
theorem eq_trees {T U : List Nd} (hT : ∀ x ∈ T, x.good = true) (hU : ∀ x ∈ U, x.good = true) : D.eq (encT T) (encT U) = .ok (.bl (decide (T = U))) := by
  unfold D.eq
  rw [if_pos (by simp only [D.good]; rw [pl_tree hT 38, pl_tree hU 38]; rfl)]
  simp only [encT, D.eqv, eqvs_enc]
theorem is_quiet_ok {T U : List Nd} (hT : Tr T) (hU : Tr U) {names : List Nm} (hN : ∀ s ∈ names, okNm s = true) : M.m_is_quiet [encT T, encT U, .lst (names.map D.str)] = .ok (.bl (decide (seenV T names = seenV U names))) := by
  have sT := seen_ok hT hN
  have sU := seen_ok hU hN
  have q := eq_trees (seen_wh hT.toWh names).good (seen_wh hU.toWh names).good
  refine run_rt rfl ?_
  show M.b_is_quiet [.bor (encT T), .bor (encT U), .bor (.lst (names.map D.str))] = _
  simp [- List.map_map, M.b_is_quiet, sT, sU, q]
end Tw
set_option autoImplicit false
set_option linter.all false
namespace Tw
theorem ne_nil {xs : List D} (h : D.pl 40 (.lst xs) = true) : D.ne (.lst xs) (.lst []) = .ok (.bl (!xs.isEmpty)) := by
  unfold D.ne
  rw [if_pos (by simp only [D.good]; rw [h]; rfl)]
  cases xs <;> simp [D.eqv, D.eqvs]
theorem eq_nil' {xs : List D} (h : D.pl 40 (.lst xs) = true) : D.eq (.lst xs) (.lst []) = .ok (.bl xs.isEmpty) := by
  unfold D.eq
  rw [if_pos (by simp only [D.good]; rw [h]; rfl)]
  cases xs <;> simp [D.eqv, D.eqvs]
theorem pl_lst1 {xs : List D} {n : Nat} (h : ∀ x ∈ xs, D.pl n x = true) : D.pl (n + 1) (.lst xs) = true := by
  simp only [D.pl]
  exact pls_mem h
theorem any_int (n : Int) : ∀ l : List Int, ((l.map D.int).any fun y => D.eqv y (.int n)) = decide (n ∈ l)
  | [] => rfl
  | m :: l => by
    rw [List.map_cons, List.any_cons, any_int n l]
    have : D.eqv (.int m) (.int n) = decide (n = m) := by
      by_cases h : n = m
      · subst h; simp [D.eqv]
      · simp [D.eqv, h, Ne.symm h]
    rw [this, Bool.eq_iff_iff]
    simp
theorem pl_intsL (l : List Int) (k : Nat) : D.pl (k + 1) (.lst (l.map D.int)) = true := pl_lst1 fun x m => by
  obtain ⟨y, _, rfl⟩ := List.mem_map.mp m
  simp [D.pl]
theorem notIn_ints (n : Int) (l : List Int) : D.notIn (.int n) (.lst (l.map D.int)) = .ok (.bl (!decide (n ∈ l))) := by
  rw [notIn_l (by simp [D.good, D.pl]) (pl_intsL l 39), any_int]
theorem isIn_ints (n : Int) (l : List Int) : D.isIn (.int n) (.lst (l.map D.int)) = .ok (.bl (decide (n ∈ l))) := by
  rw [isIn_l (by simp [D.good, D.pl]) (pl_intsL l 39), any_int]
end Tw
set_option autoImplicit false
set_option linter.all false
namespace Tw
theorem nodup_map_inj {α β : Type} {f : α → β} : ∀ {l : List α}, (l.map f).Nodup → ∀ {a b}, a ∈ l → b ∈ l → f a = f b → a = b
  | [], _, _, _, h, _, _ => by cases h
  | c :: l, nd, a, b, ha, hb, e => by
    rw [List.map_cons, List.nodup_cons] at nd
    rcases List.mem_cons.mp ha with h1 | h1
    · rcases List.mem_cons.mp hb with h2 | h2
      · rw [h1, h2]
      · exact absurd (List.mem_map.mpr ⟨b, h2, by rw [← e, h1]⟩) nd.1
    · rcases List.mem_cons.mp hb with h2 | h2
      · exact absurd (List.mem_map.mpr ⟨a, h1, by rw [e, h2]⟩) nd.1
      · exact nodup_map_inj nd.2 h1 h2 e
theorem path_cons {T : List Nd} (h : Wh T) {x : Nd} (hx : x ∈ T) : path T x.n = path T x.p ++ [x.nm] := by
  unfold path
  rw [way_par h hx]
  simp
theorem way_zero (T : List Nd) : way T 0 = [] := (Upw.top (T := T)).way
theorem path_zero (T : List Nd) : path T 0 = [] := by unfold path; rw [way_zero]; rfl
theorem path_ne {T : List Nd} (h : Wh T) {x : Nd} (hx : x ∈ T) : path T x.n ≠ [] := by rw [path_cons h hx]; simp
theorem path_inj {T : List Nd} (h : Wh T) : ∀ (k : Nat) {x y : Nd}, x ∈ T → y ∈ T → (path T x.n).length ≤ k → path T x.n = path T y.n → x = y
  | 0, x, y, hx, _, hl, _ => absurd (List.length_eq_zero_iff.mp (Nat.le_zero.mp hl)) (path_ne h hx)
  | k + 1, x, y, hx, hy, hl, e => by
    rw [path_cons h hx] at hl e
    rw [path_cons h hy] at e
    have e2 := List.append_inj' e rfl
    have en : x.nm = y.nm := by simpa using e2.2
    have ep : x.p = y.p := by
      rcases par_in h hx with h1 | ⟨u, hu, h1, _⟩
      · rcases par_in h hy with h2 | ⟨v, hv, h2, _⟩
        · rw [h1, h2]
        · have := e2.1
          rw [h1, path_zero, ← h2] at this
          exact absurd this.symm (path_ne h hv)
      · rcases par_in h hy with h2 | ⟨v, hv, h2, _⟩
        · have := e2.1
          rw [h2, path_zero, ← h1] at this
          exact absurd this (path_ne h hu)
        · have := path_inj h k hu hv (by rw [h1]; simp at hl; omega) (by rw [h1, h2]; exact e2.1)
          rw [← h1, ← h2, this]
    have sp := h.sp
    unfold spots at sp
    exact (nodup_map_inj sp hx hy (by rw [en, ep]))
theorem path_inj' {T : List Nd} (h : Wh T) {x y : Nd} (hx : x ∈ T) (hy : y ∈ T) (e : path T x.n = path T y.n) : x = y := path_inj h _ hx hy (Nat.le_refl _) e
abbrev PN := List Nm × Int
def encP (a : PN) : D := .tup [strD a.1, .int a.2]
def okP (p : List Nm) : Bool := p.all okNm
theorem pls_strs : ∀ (p : List Nm) (n : Nat), okP p = true → D.pls n (p.map D.str) = true
  | [], _, _ => by simp [D.pls]
  | s :: p, n, h => by
    simp only [okP, List.all_cons, Bool.and_eq_true] at h
    simp only [List.map_cons, D.pls, Bool.and_eq_true]
    exact ⟨by simpa [D.pl, okNm] using h.1, pls_strs p n h.2⟩
theorem flats_strs : ∀ (p : List Nm) (n : Nat), okP p = true → D.flats n (p.map D.str) = true
  | [], _, _ => by simp [D.flats]
  | s :: p, n, h => by
    simp only [okP, List.all_cons, Bool.and_eq_true] at h
    simp only [List.map_cons, D.flats, Bool.and_eq_true]
    exact ⟨by simpa [D.flat, okNm] using h.1, flats_strs p n h.2⟩
theorem pl_strD {p : List Nm} (h : okP p = true) (n : Nat) : D.pl (n + 1) (strD p) = true := by
  simp only [strD, D.pl]
  exact pls_strs p n h
theorem flat_encP {a : PN} (h : okP a.1 = true) (n : Nat) : D.flat (n + 2) (encP a) = true := by
  simp only [encP, D.flat, D.flats, Bool.and_eq_true, and_true, strD]
  exact flats_strs a.1 n h
theorem alks_strs : ∀ p q : List Nm, D.alks (p.map D.str) (q.map D.str) = true
  | [], _ => by simp [D.alks]
  | _ :: _, [] => by simp [D.alks]
  | s :: p, t :: q => by simp [D.alks, D.alk, alks_strs p q]
theorem eqvs_strs : ∀ p q : List Nm, D.eqvs (p.map D.str) (q.map D.str) = decide (p = q)
  | [], [] => by simp [D.eqvs]
  | [], _ :: _ => by simp [D.eqvs]
  | _ :: _, [] => by simp [D.eqvs]
  | s :: p, t :: q => by
    simp only [List.map_cons, D.eqvs, eqvs_strs p q, eqv_str, List.cons.injEq, Bool.decide_and]
theorem eqv_strD (p q : List Nm) : D.eqv (strD p) (strD q) = decide (p = q) := by simp only [strD, D.eqv, eqvs_strs]
theorem sortable_P {L : List PN} (h : ∀ a ∈ L, okP a.1 = true) : sortable (L.map encP) = true := by
  unfold sortable
  rw [Bool.and_eq_true]
  refine ⟨?_, ?_⟩
  · rw [List.all_eq_true]
    intro x hx
    obtain ⟨a, ha, rfl⟩ := List.mem_map.mp hx
    exact flat_encP (h a ha) 38
  · rw [Bool.or_eq_true]
    right
    rw [Bool.and_eq_true, List.all_eq_true, List.all_eq_true]
    refine ⟨fun x hx => ?_, fun x hx => ?_⟩
    · obtain ⟨a, ha, rfl⟩ := List.mem_map.mp hx
      rw [Bool.and_eq_true, List.all_eq_true]
      refine ⟨rfl, fun y hy => ?_⟩
      obtain ⟨b, hb, rfl⟩ := List.mem_map.mp hy
      rfl
    · obtain ⟨a, ha, rfl⟩ := List.mem_map.mp hx
      rw [List.all_eq_true]
      intro y hy
      obtain ⟨b, hb, rfl⟩ := List.mem_map.mp hy
      show D.cmps [strD a.1, .int a.2] [strD b.1, .int b.2] = true
      unfold D.cmps
      split
      · unfold D.cmps
        split
        · simp [D.cmps]
        · simp [D.alk]
      · simp only [strD, D.alk]
        exact alks_strs _ _
def sortP (L : List PN) : List PN := L.mergeSort fun a b => D.le (encP a) (encP b)
theorem sortP_perm (L : List PN) : (sortP L).Perm L := List.mergeSort_perm L _
theorem sortD_P (L : List PN) : sortD (L.map encP) = (sortP L).map encP := by
  unfold sortD sortP
  exact (List.map_mergeSort (r := fun a b => D.le (encP a) (encP b)) (s := D.le) (f := encP) (l := L) fun _ _ _ _ => rfl).symm
theorem sorted_P {L : List PN} (h : ∀ a ∈ L, okP a.1 = true) (hl : L.length ≤ 1000) : D.sorted (.lst (L.map encP)) = .ok (.lst ((sortP L).map encP)) := by
  rw [sorted_eq (sortable_P h) (by simpa using hl), sortD_P]
def pathL (T : List Nd) : List PN := T.map fun x => (path T x.n, x.n)
def walkV (T : List Nd) : List PN := sortP (pathL T)
theorem ok_path {T : List Nd} (h : Wh T) {n : Int} (hn : n = 0 ∨ n ∈ nums T) : okP (path T n) = true := by
  unfold okP
  rw [List.all_eq_true]
  exact fun s hs => good_okNm (path_names h hn s hs)
theorem pathL_ok {T : List Nd} (h : Wh T) : ∀ a ∈ pathL T, okP a.1 = true := fun a ha => by
  obtain ⟨x, hx, rfl⟩ := List.mem_map.mp ha
  exact ok_path h (.inr (mem_nums hx))
theorem walkV_ok {T : List Nd} (h : Wh T) : ∀ a ∈ walkV T, okP a.1 = true := fun a ha => pathL_ok h a ((sortP_perm _).mem_iff.mp ha)
theorem walked_ok {T : List Nd} (h : Tr T) : M.m_walked [encT T] = .ok (.lst ((walkV T).map encP)) := by
  have hb : M.m_book_of [encT T] = _ := book_ok h.nd h.len
  have hl : T.length < szl := small_szl (by have := h.len; omega)
  have c : compGo (compTurn [2] (gN 2) tTrue (eTup [(eCall M.m_path_in [(eB 1), (eV 2)]), (eV 2)]) [.bor (encT T), .sh (.dct false (bookOf T)), .un]) (T.map fun x => D.int x.n) = .ok ((pathL T).map encP) := by
    unfold pathL
    rw [List.map_map]
    refine compGo_map fun x hx => ?_
    have e := path_in_ok h.ups (n := x.n) (.inr (mem_nums hx))
    simp [e, encP]
  have so := sorted_P (pathL_ok h.toWh) (by simp [pathL]; exact h.len)
  refine run_rt rfl ?_
  show M.b_walked [.bor (encT T), .un, .un] = _
  simp [- ev_turn, - List.map_map, M.b_walked, hb, keys_book, hl, c, so, walkV]
theorem path_of_ok {T : List Nd} (h : Tr T) (n : Int) : M.m_path_of [encT T, .int n] = if n ∈ nums T then .ok (strD (path T n)) else .err 1 := by
  have hb : M.m_book_of [encT T] = _ := book_ok h.nd h.len
  have lk := look_node_ok (T := T) h.len n
  have key : M.m_path_of [encT T, .int n] = match M.b_path_of [.bor (encT T), .sh (.int n)] with
    | .nx _ => .ok .non
    | .rt d => .ok d
    | .er c _ => .err c
    | _ => .stk := rfl
  rw [key]
  by_cases q : n ∈ nums T
  · have e := path_in_ok h.ups (n := n) (.inr q)
    rw [if_pos q] at lk ⊢
    simp [M.b_path_of, lk, hb, e]
  · rw [if_neg q] at lk ⊢
    simp [M.b_path_of, lk]
def belowV (T : List Nd) (n : Int) : List Nd := T.filter fun x => !decide (x.n = n) && under T x.n n
theorem sorted_book {T : List Nd} (h : Tr T) : D.sorted (.lst (T.map fun x => D.int x.n)) = .ok (.lst (T.map fun x => D.int x.n)) := by
  rw [sorted_nums h.len, sortN_id h.pw]
theorem below_ok {T : List Nd} (h : Tr T) (n : Int) : M.m_below [encT T, .int n] = if n = 0 ∨ n ∈ nums T then .ok (.lst ((belowV T n).map fun x => D.int x.n)) else .err 1 := by
  have hb : M.m_book_of [encT T] = _ := book_ok h.nd h.len
  have hl : T.length < szl := small_szl (by have := h.len; omega)
  have lk := look_node_ok (T := T) h.len n
  have so := sorted_book h
  have c : compGo (compTurn [3] (gN 3) (tAnd (tE (e2 D.ne (eB 3) (eB 1))) (tE (eCall M.m_is_under [(eB 2), (eV 3), (eB 1)]))) (eV 3) [.bor (encT T), .bor (.int n), .sh (.dct false (bookOf T)), .un]) (T.map fun x => D.int x.n) = .ok ((belowV T n).map fun x => D.int x.n) := by
    refine compGo_enc (e := fun x : Nd => D.int x.n) (g := fun x : Nd => D.int x.n) (p := fun x => !decide (x.n = n) && under T x.n n) fun x hx => ?_
    have u := is_under_ok h.ups (n := x.n) (g := n) (.inr (mem_nums hx))
    by_cases q : x.n = n
    · simp [q]
    · cases z : under T x.n n <;> rw [z] at u <;> simp [q, u]
  have key : M.m_below [encT T, .int n] = match M.b_below [.bor (encT T), .bor (.int n), .un, .un] with
    | .nx _ => .ok .non
    | .rt d => .ok d
    | .er c _ => .err c
    | _ => .stk := rfl
  rw [key]
  by_cases z : n = 0
  · subst z
    rw [if_pos (.inl rfl)]
    simp [- ev_turn, M.b_below, hb, keys_book, so, hl, c]
  · by_cases q : n ∈ nums T
    · rw [if_pos q] at lk
      rw [if_pos (.inr q)]
      simp [- ev_turn, M.b_below, z, lk, hb, keys_book, so, hl, c]
    · rw [if_neg q] at lk
      rw [if_neg (by simp [z, q])]
      simp [M.b_below, z, lk]
end Tw
set_option autoImplicit false
set_option linter.all false
set_option maxRecDepth 4000
namespace Tw
end Tw
set_option autoImplicit false
set_option linter.all false
namespace Tw
theorem bools_fn {α : Type} (f : α → Bool) : ∀ l : List α, bools? (l.map fun x => D.bl (f x)) = some (l.map f)
  | [] => rfl
  | b :: l => by
    show (bools? (l.map fun x => D.bl (f x))).map (f b :: ·) = _
    rw [bools_fn f l]; rfl
end Tw
set_option autoImplicit false
set_option linter.all false
namespace Tw
def bh (T : List Nd) (d : Deed) : List Nd := match doneV T d with
  | .ok U => U
  | .error _ => T
theorem bh_tr {T : List Nd} (h : Tr T) (hl : T.length ≤ 900) {d : Deed} (g : d.good = true) : Tr (bh T d) ∧ (bh T d).length ≤ T.length + 1 := by
  unfold bh
  cases e : doneV T d with
  | error c => exact ⟨h, by simp⟩
  | ok U =>
    obtain ⟨w, pw, l⟩ := done_wh h g e
    exact ⟨{ w with pw := pw, len := by show U.length ≤ 1000; omega }, l⟩
end Tw
set_option autoImplicit false
set_option linter.all false
namespace Tw
end Tw
set_option autoImplicit false
set_option linter.all false
namespace Tw
section
variable {a b c f : E} {t u : T} {p q : S} {e e1 e2' : Env} {d x y z : D} {r : Res D} {i j k : Nat} {g : G} {it : I} {xs ys : List D} {own : List Nat} {P : RS → Prop}
def Nx (R : Env → Prop) (r : RS) : Prop := ∃ e, (r = .nx e ∨ r = .ct e) ∧ R e
def Rt (d : D) (r : RS) : Prop := r = .rt d
def Er (c : Nat) (r : RS) : Prop := ∃ e, r = .er c e
theorem p_seq (h : p e = .nx e1) (h2 : P (q e1)) : P (sSeq p q e) := by rw [seq_nx h rfl]; exact h2
theorem p_if_t (h : t e = .ok true) (h2 : P (p e)) : P (sIf t p q e) := by rw [if_t h rfl]; exact h2
theorem p_if_f (h : t e = .ok false) (h2 : P (q e)) : P (sIf t p q e) := by rw [if_f h rfl]; exact h2
theorem p_nil {R : Env → Prop} (h : R e) : Nx R (sNil e) := ⟨e, .inl rfl, h⟩
theorem p_ret (h : f e = .ok d) : Rt d (sRet f e) := ret_ok h
theorem p_raise : Er k (sRaise k e) := ⟨e, rfl⟩
theorem p_er (h : Er k (p e)) : Er k (sSeq p q e) := by obtain ⟨e1, h⟩ := h; exact ⟨e1, seq_er h⟩
theorem p_chk (h : t e = .ok false) (h2 : P (q e)) : P (sSeq (sIf t p sNil) q e) := p_seq (if_f h rfl) h2
theorem p_chkL {R : Env → Prop} (h : t e = .ok false) (h2 : R e) : Nx R (sIf t p sNil e) := p_if_f h (p_nil h2)
theorem p_set (h : f e = .ok d) (h2 : P (q (e.set i (.sh d)))) : P (sSeq (sSet i f) q e) := p_seq (set_ok h) h2
theorem p_own (h : f e = .ok d) (h2 : P (q (e.set i (.own d)))) : P (sSeq (sOwn i f) q e) := p_seq (own_ok h) h2
theorem p_frz (h : e[i]? = some (.own d)) (h2 : P (q (e.set i (.sh d)))) : P (sSeq (sFrz i) q e) := p_seq (frz_ok h) h2
theorem p_drop (h : f e = .ok d) (h2 : P (q e)) : P (sSeq (sDrop f) q e) := p_seq (by unfold sDrop; rw [h]; rfl) h2
theorem p_par (h : a e = .ok x) (h3 : b e = .ok y) (h2 : P (q ((e.set i (.sh x)).set j (.sh y)))) : P (sSeq (sPar i j a b) q e) := p_seq (by unfold sPar; rw [h]; simp only [Res.run_ok]; rw [h3]; rfl) h2
theorem nx_for {R : Env → Prop} : ∀ {xs : List D} {e : Env}, R e → (∀ x ∈ xs, ∀ e, R e → ∃ e1, g x e = .ok e1 ∧ Nx R (p e1)) → ∃ e', forGo g p xs e = .nx e' ∧ R e'
  | [], e, r, _ => ⟨e, rfl, r⟩
  | x :: xs, e, r, h => by
    obtain ⟨e1, h1, e2, h2, h3⟩ := h x List.mem_cons_self e r
    obtain ⟨e', h4, h5⟩ := nx_for h3 fun y m => h y (List.mem_cons_of_mem _ m)
    refine ⟨e', ?_, h5⟩
    unfold forGo
    rw [h1]
    rcases h2 with h2 | h2 <;> (simp only [h2]; exact h4)
theorem p_for {α : Type} {L : List α} {m : α → D} (R : Env → Prop) (h : it e = .ok (L.map m)) (r : R e) (hs : ∀ x ∈ L, ∀ e, R e → ∃ e1, g (m x) e = .ok e1 ∧ Nx R (p e1)) (h2 : ∀ e, R e → P (q e)) : P (sSeq (sFor it g p) q e) := by
  obtain ⟨e', h3, h4⟩ := nx_for (xs := L.map m) (g := g) (p := p) r fun x hx e re => by
    obtain ⟨y, hy, rfl⟩ := List.mem_map.mp hx
    exact hs y hy e re
  exact p_seq (for_go h h3) (h2 _ h4)
theorem ok_e1 {h : D → Res D} (h1 : a e = .ok x) (h2 : h x = r) : Tw.e1 h a e = r := by unfold Tw.e1; rw [h1]; exact h2
theorem ok_e2 {h : D → D → Res D} (h1 : a e = .ok x) (h2 : b e = .ok y) (h3 : h x y = r) : Tw.e2 h a b e = r := by unfold Tw.e2; rw [h1]; simp only [Res.bind_ok]; rw [h2]; exact h3
theorem ok_call1 {m : List D → Res D} (h1 : a e = .ok x) (h2 : m [x] = r) : eCall m [a] e = r := call_ok (by simp only [ev_eL1, ev_eL0, h1, Res.bind_ok]) h2
theorem ok_call2 {m : List D → Res D} (h1 : a e = .ok x) (h2 : b e = .ok y) (h3 : m [x, y] = r) : eCall m [a, b] e = r := call_ok (by simp only [ev_eL1, ev_eL0, h1, h2, Res.bind_ok]) h3
theorem ok_call3 {m : List D → Res D} (h1 : a e = .ok x) (h2 : b e = .ok y) (h4 : c e = .ok z) (h3 : m [x, y, z] = r) : eCall m [a, b, c] e = r := call_ok (by simp only [ev_eL1, ev_eL0, h1, h2, h4, Res.bind_ok]) h3
theorem ok_tup2 (h1 : a e = .ok x) (h2 : b e = .ok y) : eTup [a, b] e = .ok (.tup [x, y]) := by simp only [ev_eTup, ev_eL1, ev_eL0, h1, h2, Res.bind_ok]
theorem ok_te {v : Bool} (h : a e = .ok (.bl v)) : tE a e = .ok v := te_b h
theorem ok_it (h : a e = .ok x) {l : List D} (h2 : D.items x = .ok l) : iE a e = .ok l := by unfold iE; rw [h]; exact h2
theorem ok_itL (h : a e = .ok (.lst xs)) : iE a e = .ok xs := ok_it h rfl
theorem ok_itT (h : a e = .ok (.tup xs)) : iE a e = .ok xs := ok_it h rfl
theorem ok_comp {α : Type} {L : List α} {m h : α → D} (pr : α → Bool) (hit : it e = .ok (L.map m)) (hl : L.length ≤ 16777215) (ht : ∀ x ∈ L, compTurn own g t f e (m x) = .ok (if pr x then some (h x) else none)) : eComp it own g t f e = .ok (.lst ((L.filter pr).map h)) :=
  ecomp_ok hit (by rw [List.length_map]; exact small_szl hl) (compGo_enc ht)
theorem ok_compM {α : Type} {L : List α} {m h : α → D} (hit : it e = .ok (L.map m)) (hl : L.length ≤ 16777215) (ht : ∀ x ∈ L, compTurn own g t f e (m x) = .ok (some (h x))) : eComp it own g t f e = .ok (.lst (L.map h)) :=
  ecomp_ok hit (by rw [List.length_map]; exact small_szl hl) (compGo_map ht)
theorem ct_some (hg : g x (blkE own e) = .ok e1) (ht : t e1 = .ok true) (hf : f e1 = .ok y) : compTurn own g t f e x = .ok (some y) := by
  unfold compTurn; rw [hg]; simp only [Res.bind_ok]; rw [ht]; simp only [Res.bind_ok, if_true]; rw [hf]; rfl
theorem ct_if {v : Bool} (hg : g x (blkE own e) = .ok e1) (ht : t e1 = .ok v) (hf : v = true → f e1 = .ok y) : compTurn own g t f e x = .ok (if v then some y else none) := by
  unfold compTurn; rw [hg]; simp only [Res.bind_ok]; rw [ht]; simp only [Res.bind_ok]
  cases v with
  | true => simp only [if_true]; rw [hf rfl]; rfl
  | false => rfl
end
end Tw
set_option autoImplicit false
set_option linter.all false
namespace Tw
theorem look_folder_ok {T : List Nd} (h : Tr T) (n : Int) : M.m_look_folder [encT T, .int n] = match parE T n with | none => .ok .non | some c => .err c := by
  have e := look_node_ok h.len n
  have b := book_ok h.nd h.len
  by_cases z : n = 0
  · subst z
    simp only [parE, if_true]
    refine runD_nx rfl (e := [.bor (encT T), .bor (.int 0)]) ?_
    show M.b_look_folder [.bor (encT T), .bor (.int 0)] = _
    simp [M.b_look_folder]
  · by_cases q : n ∈ nums T
    · obtain ⟨x, hx, rfl⟩ := List.mem_map.mp q
      have l := look_of h.nd hx
      rw [if_pos q] at e
      have ix := idx_book l
      have px : parE T x.n = if x.st = none then none else some 3 := by simp [parE, z, l]
      rw [px]
      by_cases s : x.st = none
      · rw [if_pos s]
        refine runD_nx rfl (e := [.bor (encT T), .bor (.int x.n)]) ?_
        show M.b_look_folder [.bor (encT T), .bor (.int x.n)] = _
        simp [M.b_look_folder, z, e, b, ix, s]
      · rw [if_neg s]
        refine runD_er rfl (e := [.bor (encT T), .bor (.int x.n)]) ?_
        show M.b_look_folder [.bor (encT T), .bor (.int x.n)] = _
        simp [M.b_look_folder, z, e, b, ix, Option.isNone_iff_eq_none, s]
    · rw [if_neg q] at e
      have px : parE T n = some 1 := by
        have : look T n = none := by
          rw [← Option.isNone_iff_eq_none]
          have := look_isSome (T := T) (n := n)
          rw [decide_eq_false q] at this
          cases hl : look T n <;> simp [hl] at this ⊢
        simp [parE, z, this]
      rw [px]
      refine runD_er rfl (e := [.bor (encT T), .bor (.int n)]) ?_
      show M.b_look_folder [.bor (encT T), .bor (.int n)] = _
      simp [M.b_look_folder, z, e]
theorem parE_in {T : List Nd} {n : Int} (h : parE T n = none) : n = 0 ∨ n ∈ nums T := by
  rcases parE_fol h with h | ⟨x, hx, rfl, _⟩
  · exact .inl h
  · exact .inr (mem_nums hx)
theorem belowV_sub {T : List Nd} {n : Int} {x : Nd} (h : x ∈ belowV T n) : x ∈ T := (List.mem_filter.mp h).1
theorem belowV_len (T : List Nd) (n : Int) : (belowV T n).length ≤ T.length := List.length_filter_le _ _
def stamps (B : List Nd) : List Int := B.filterMap (·.st)
def totD (B : List Nd) : D := .tup [.int ((B.length : Int) - (stamps B).length), .int (stamps B).length, .int (stamps B).sum]
theorem stamps_D : ∀ B : List Nd, ((B.map fun x => x.st).filter fun o => o.isSome).map stD = (stamps B).map D.int
  | [] => rfl
  | x :: B => by
    have ih := stamps_D B
    unfold stamps at ih ⊢
    cases e : x.st with
    | none => simp [e, ih]
    | some v => simp [e, ih, stD]
theorem sum_ints (l : List Int) : D.sum (.lst (l.map D.int)) = .ok (.int l.sum) := by simp [D.sum, ints_int]
theorem idx_row2 {T : List Nd} (h : Tr T) {x : Nd} (hx : x ∈ T) : D.idx (.dct false (bookOf T)) (.int x.n) = .ok x.row := idx_book (look_of h.nd hx)
theorem total_ok {T : List Nd} (h : Tr T) (n : Int) : M.m_total [encT T, .int n] = match parE T n with | none => .ok (totD (belowV T n)) | some c => .err c := by
  have lf := look_folder_ok h n
  have bk := book_ok h.nd h.len
  have hl := h.len
  have bl := belowV_len T n
  cases q : parE T n with
  | some c =>
    rw [q] at lf
    refine runD_er (e := [.bor (encT T), .bor (.int n), .un, .un, .un, .un, .un]) rfl ?_
    show M.b_total [.bor (encT T), .bor (.int n), .un, .un, .un, .un, .un] = _
    unfold M.b_total
    exact seq_er (by simp [lf])
  | none =>
    rw [q] at lf
    have bo := below_ok h n
    rw [if_pos (parE_in q)] at bo
    refine runD_rt rfl ?_
    show Rt _ (M.b_total [.bor (encT T), .bor (.int n), .un, .un, .un, .un, .un])
    unfold M.b_total
    refine p_drop (by (simp [lf] <;> repeat' (first | apply And.intro | rfl))) ?_
    refine p_set (by simp [bk]; rfl) ?_
    refine p_own (ok_compM (L := belowV T n) (m := fun x => D.int x.n) (h := fun x => stD x.st) (by simp [bo]) (by omega) fun x hx => by simp [idx_row2 h (belowV_sub hx)]) ?_
    refine p_frz rfl ?_
    refine p_own (ok_comp (L := (belowV T n).map fun x => x.st) (m := stD) (h := stD) (fun o => o.isSome) (by simp) (by simp; omega) fun x hx => by cases x <;> simp [stD]) ?_
    refine p_frz rfl ?_
    rw [stamps_D]
    refine p_ret (d := totD (belowV T n)) ?_
    simp [sum_ints, totD]
theorem flat_strD' {p : List Nm} (h : okP p = true) : D.flat 40 (strD p) = true := by
  unfold strD; simp only [D.flat]; exact flats_strs p 39 h
theorem way_suf {T : List Nd} (h : Wh T) {n g : Int} (hn : n = 0 ∨ n ∈ nums T) (u : under T n g = true) : way T g <:+ way T n := by
  have w := way_num h hn
  rcases under_iff.mp u with rfl | q
  · rw [way_zero]; exact List.nil_suffix
  · obtain ⟨x, hx, rfl⟩ := List.mem_map.mp q
    obtain ⟨m, um, sm⟩ := w.suf x hx
    rw [um.way]; exact sm
theorem path_pre {T : List Nd} (h : Wh T) {n g : Int} (hn : n = 0 ∨ n ∈ nums T) (u : under T n g = true) : ∃ r, path T n = path T g ++ r := by
  obtain ⟨l, e⟩ := way_suf h hn u
  refine ⟨(l.map (·.nm)).reverse, ?_⟩
  unfold path
  rw [← e]; simp
def pathF (T : List Nd) (n m : Int) : List Nm := (path T m).drop (path T n).length
theorem path_F {T : List Nd} (h : Wh T) {n g : Int} (hn : n = 0 ∨ n ∈ nums T) (u : under T n g = true) : path T n = path T g ++ pathF T g n := by
  obtain ⟨r, e⟩ := path_pre h hn u
  unfold pathF
  rw [e]; simp
abbrev PS := List Nm × Option Int
def srtB (f : Nd → List Nm) (B : List Nd) : List Nd := B.mergeSort fun a b => D.le (strD (f a)) (strD (f b))
def shapeV (T : List Nd) (n : Int) : List PS := (srtB (fun x => pathF T n x.n) (belowV T n)).map fun x => (pathF T n x.n, x.st)
theorem le_encP {a b : PN} (ha : okP a.1 = true) (hb : okP b.1 = true) (h : a.1 = b.1 → a = b) : D.le (encP a) (encP b) = D.le (strD a.1) (strD b.1) := by
  unfold D.le encP
  rw [lt_tup, lexI_tokss (n := 40) (m := 40) (flat_strD' hb) (flat_strD' ha), eqv_strD]
  by_cases q : b.1 = a.1
  · have := h q.symm
    subst this
    simp only [decide_true, if_true, lt_self, lexI_self]
  · simp only [decide_eq_false q, Bool.false_eq_true, if_false]
end Tw
set_option autoImplicit false
set_option linter.all false
namespace Tw
theorem eq_names {a b : Nm} (ha : okNm a = true) (hb : okNm b = true) : D.eq (.str a) (.str b) = .ok (.bl (decide (a = b))) := by
  rw [eq_str ha hb]; by_cases q : a = b <;> simp [q]
theorem nm_ok {T : List Nd} (h : Wh T) {x : Nd} (hx : x ∈ T) : okNm x.nm = true := good_okNm (Nd.good_nm (h.good x hx))
theorem filt_len {α : Type} (p : α → Bool) (l : List α) : (l.filter p).length ≤ l.length := List.length_filter_le p l
def namedV (T : List Nd) (s : Nm) : List Int := (T.filter fun x => decide (x.nm = s)).map (·.n)
theorem named_ok {T : List Nd} (h : Tr T) {s : Nm} (hs : okNm s = true) : M.m_named [encT T, .str s] = .ok (.lst ((namedV T s).map D.int)) := by
  have hl := h.len
  refine runD_rt rfl ?_
  show Rt _ (M.b_named [.bor (encT T), .bor (.str s), .un])
  unfold M.b_named namedV
  rw [List.map_map]
  refine p_ret (ok_comp (L := T) (m := Nd.enc) (fun x => decide (x.nm = s)) (by simp) (by omega) fun x hx => ?_)
  have e := eq_names (nm_ok h.toWh hx) hs
  by_cases q : x.nm = s
  · rw [q] at e; simp [e, q]
  · simp only [decide_eq_false q] at e; simp [e, q]
theorem walk_len (T : List Nd) : (walkV T).length = T.length := by
  unfold walkV; rw [(sortP_perm _).length_eq]; simp [pathL]
end Tw
set_option autoImplicit false
set_option linter.all false
namespace Tw
end Tw
set_option autoImplicit false
set_option linter.all false
set_option maxRecDepth 4000
namespace Tw
structure Ren (f : Int → Int) (T : List Nd) : Prop where
  z : f 0 = 0
  pos : ∀ x ∈ T, 1 ≤ f x.n
  inj : ∀ x ∈ T, ∀ y ∈ T, f x.n = f y.n → x.n = y.n
def Nd.re (f : Int → Int) (x : Nd) : Nd := ⟨f x.n, f x.p, x.nm, x.st⟩
def renL (f : Int → Int) (T : List Nd) : List Nd := T.map (Nd.re f)
def reT (f : Int → Int) (T : List Nd) : List Nd := sortN (renL f T)
theorem mem_num {T : List Nd} {n : Int} (h : n ∈ nums T) : ∃ x ∈ T, x.n = n := by
  obtain ⟨x, hx, e⟩ := List.mem_map.mp h; exact ⟨x, hx, e⟩
theorem Ren.inj0 {f : Int → Int} {T : List Nd} (r : Ren f T) {a b : Int} (ha : a = 0 ∨ a ∈ nums T) (hb : b = 0 ∨ b ∈ nums T) (e : f a = f b) : a = b := by
  rcases ha with rfl | ha
  · rcases hb with rfl | hb
    · rfl
    · obtain ⟨y, hy, rfl⟩ := mem_num hb
      have := r.pos y hy
      rw [r.z] at e; omega
  · obtain ⟨x, hx, rfl⟩ := mem_num ha
    rcases hb with rfl | hb
    · have := r.pos x hx
      rw [r.z] at e; omega
    · obtain ⟨y, hy, rfl⟩ := mem_num hb
      exact r.inj x hx y hy e
theorem par0 {T : List Nd} (h : Wh T) {x : Nd} (hx : x ∈ T) : x.p = 0 ∨ x.p ∈ nums T := by
  rcases par_in h hx with z | ⟨y, hy, e, _⟩
  · exact .inl z
  · exact .inr (e ▸ mem_nums hy)
section
variable {f : Int → Int} {T : List Nd}
theorem ren_nd (h : (nums T).Nodup) (r : Ren f T) : (nums (renL f T)).Nodup := by
  unfold nums renL
  rw [List.map_map]
  have nd := List.pairwise_map.mp h
  refine List.pairwise_map.mpr (List.Pairwise.imp_of_mem (fun {a b} ha hb hne e => hne (r.inj a ha b hb e)) nd)
theorem ren_look (h : (nums T).Nodup) (r : Ren f T) {x : Nd} (hx : x ∈ T) : look (renL f T) (f x.n) = some (x.re f) :=
  (look_at (ren_nd h r)).mpr ⟨List.mem_map.mpr ⟨x, hx, rfl⟩, rfl⟩
theorem ren_up (h : (nums T).Nodup) (r : Ren f T) {n : Int} {l : List Nd} (u : Upw T n l) : Upw (renL f T) (f n) (l.map (Nd.re f)) := by
  induction u with
  | top => rw [r.z]; exact .top
  | @step n x l ne e _ ih =>
    obtain ⟨hx, rfl⟩ := look_some e
    refine .step ?_ (ren_look h r hx) ih
    have := r.pos x hx; omega
theorem ren_good (h : Wh T) (r : Ren f T) {x : Nd} (hx : x ∈ T) : (x.re f).good = true := by
  have g := h.good x hx
  refine Nd.good_mk (r.pos x hx) ?_ (Nd.good_nm g) (Nd.good_st g)
  rcases par_in h hx with z | ⟨y, hy, e, _⟩
  · rw [z, r.z]; exact Int.le_refl 0
  · rw [← e]; have := r.pos y hy; omega
theorem Wh.ren (h : Wh T) (r : Ren f T) : Wh (renL f T) where
  good := fun y hy => by obtain ⟨x, hx, rfl⟩ := List.mem_map.mp hy; exact ren_good h r hx
  nd := ren_nd h.nd r
  sp := by
    unfold spots renL
    rw [List.map_map]
    have sp := List.pairwise_map.mp h.sp
    refine List.pairwise_map.mpr (List.Pairwise.imp_of_mem (fun {a b} ha hb hne e => hne ?_) sp)
    have e1 : f a.p = f b.p := congrArg Prod.fst e
    have e2 : a.nm = b.nm := congrArg Prod.snd e
    rw [r.inj0 (par0 h ha) (par0 h hb) e1, e2]
  up := fun y hy => by
    obtain ⟨x, hx, rfl⟩ := List.mem_map.mp hy
    obtain ⟨l, u, q⟩ := h.up x hx
    refine ⟨l.map (Nd.re f), ren_up h.nd r u, fun z hz => ?_⟩
    rw [← List.map_tail] at hz
    obtain ⟨w, hw, rfl⟩ := List.mem_map.mp hz
    exact q w hw
theorem Tr.re (h : Tr T) (r : Ren f T) : Tr (reT f T) := (h.toWh.ren r).sort (by simp [renL]; exact h.len)
end
end Tw
set_option autoImplicit false
set_option linter.all false
set_option maxRecDepth 4000
namespace Tw
abbrev PP := Int × Int
def stepK (s : List PP × List PP) (a : PP) : List PP × List PP := match s.2.find? fun q => decide (q.2 = a.2) with
  | some q => (s.1 ++ [(a.1, q.1)], s.2.filter fun r => !decide (r = q))
  | none => s
end Tw
set_option autoImplicit false
set_option linter.all false
set_option maxRecDepth 4000
namespace Tw
def mostV (O : List Nd) : Int := match nums O with
  | [] => 0
  | a :: r => maxI a r
def stepR (s : List PP × Int) (n : Int) : List PP × Int := if n ∈ s.1.map (·.1) then s else (iput s.1 n (s.2 + 1), s.2 + 1)
theorem map_inj {α β : Type} {f : α → β} : ∀ {l : List α}, (l.map f).Nodup → ∀ {x y : α}, x ∈ l → y ∈ l → f x = f y → x = y
  | [], _, _, _, hx, _, _ => by cases hx
  | a :: l, nd, x, y, hx, hy, e => by
    rw [List.map_cons, List.nodup_cons] at nd
    by_cases h1 : x = a
    · by_cases h2 : y = a
      · rw [h1, h2]
      · have hy' : y ∈ l := (List.mem_cons.mp hy).resolve_left h2
        exact (nd.1 (List.mem_map.mpr ⟨y, hy', by rw [← e, h1]⟩)).elim
    · have hx' : x ∈ l := (List.mem_cons.mp hx).resolve_left h1
      by_cases h2 : y = a
      · exact (nd.1 (List.mem_map.mpr ⟨x, hx', by rw [e, h2]⟩)).elim
      · exact map_inj nd.2 hx' ((List.mem_cons.mp hy).resolve_left h2) e
structure KInv (O N : List Nd) (s : List PP × List PP) (todo : List PP) : Prop where
  a : (s.1.map (·.1) ++ todo.map (·.1)).Nodup
  b : (s.1.map (·.2) ++ s.2.map (·.1)).Nodup
  o : ∀ q ∈ s.1, q.1 ∈ nums O ∧ q.2 ∈ nums N
  t : ∀ q ∈ todo, q.1 ∈ nums O
  l : ∀ q ∈ s.2, q.1 ∈ nums N
theorem KInv.step {O N : List Nd} {s : List PP × List PP} {a : PP} {todo : List PP} (h : KInv O N s (a :: todo)) : KInv O N (stepK s a) todo := by
  unfold stepK
  cases e : s.2.find? fun q => decide (q.2 = a.2) with
  | none =>
    exact ⟨h.a.sublist (by simp), h.b, h.o, fun q hq => h.t q (List.mem_cons_of_mem _ hq), h.l⟩
  | some q =>
    have hq := List.mem_of_find?_eq_some e
    refine ⟨by simpa using h.a, ?_, fun r hr => ?_, fun r hr => h.t r (List.mem_cons_of_mem _ hr), fun r hr => h.l r (List.mem_filter.mp hr).1⟩
    · have nb := h.b
      rw [List.nodup_append] at nb ⊢
      obtain ⟨n1, n2, n3⟩ := nb
      simp only [List.map_append, List.map_cons, List.map_nil]
      refine ⟨?_, n2.sublist (List.filter_sublist.map _), ?_⟩
      · rw [List.nodup_append]
        exact ⟨n1, by simp, fun x hx y hy => by
          rw [List.mem_singleton.mp hy]
          exact n3 x hx q.1 (List.mem_map.mpr ⟨q, hq, rfl⟩)⟩
      · intro x hx y hy
        obtain ⟨w, hw, rfl⟩ := List.mem_map.mp hy
        obtain ⟨hw, ne⟩ := List.mem_filter.mp hw
        rcases List.mem_append.mp hx with hx | hx
        · exact n3 x hx w.1 (List.mem_map.mpr ⟨w, hw, rfl⟩)
        · rw [List.mem_singleton.mp hx]
          intro ee
          have : w = q := map_inj n2 hw hq ee.symm
          simp [this] at ne
    · rcases List.mem_append.mp hr with hr | hr
      · exact h.o r hr
      · rw [List.mem_singleton.mp hr]
        exact ⟨h.t a List.mem_cons_self, h.l q hq⟩
theorem KInv.fold {O N : List Nd} : ∀ {todo : List PP} {s : List PP × List PP}, KInv O N s todo → KInv O N (todo.foldl stepK s) []
  | [], _, h => h
  | a :: todo, s, h => KInv.fold (s := stepK s a) h.step
theorem maxI_ge : ∀ (l : List Int) (a : Int), a ≤ maxI a l ∧ ∀ y ∈ l, y ≤ maxI a l
  | [], a => ⟨Int.le_refl _, by simp⟩
  | b :: l, a => by
    obtain ⟨h2, h3⟩ := maxI_ge l (if a < b then b else a)
    have e : maxI a (b :: l) = maxI (if a < b then b else a) l := rfl
    rw [e]
    by_cases h : a < b
    · simp only [h, if_true] at h2 h3 ⊢
      exact ⟨by omega, fun y hy => by rcases List.mem_cons.mp hy with rfl | hy; exact h2; exact h3 y hy⟩
    · simp only [h, if_false] at h2 h3 ⊢
      exact ⟨h2, fun y hy => by rcases List.mem_cons.mp hy with rfl | hy; omega; exact h3 y hy⟩
theorem mostV_ge {O : List Nd} {n : Int} (h : n ∈ nums O) : n ≤ mostV O := by
  unfold mostV
  cases e : nums O with
  | nil => rw [e] at h; cases h
  | cons a r =>
    rw [e] at h
    obtain ⟨h1, h2⟩ := maxI_ge r a
    rcases List.mem_cons.mp h with rfl | h
    · exact h1
    · exact h2 n h
theorem mostV_pos {O : List Nd} (h : Wh O) : 0 ≤ mostV O := by
  cases e : O with
  | nil => simp [mostV]
  | cons x r =>
    have hx : x ∈ O := by rw [e]; exact List.mem_cons_self
    have := mostV_ge (mem_nums hx)
    have := Nd.good_n (h.good x hx)
    rw [← e]; omega
structure BInv (N : List Nd) (s : List PP × Int) : Prop where
  k : (s.1.map (·.1)).Nodup
  v : (s.1.map (·.2)).Nodup
  z : (0, 0) ∈ s.1
  p : ∀ q ∈ s.1, (q.1 = 0 ∧ q.2 = 0) ∨ (q.1 ∈ nums N ∧ 1 ≤ q.2 ∧ q.2 ≤ s.2)
  m : 0 ≤ s.2
theorem iputP_new {L : List PP} {n v : Int} (h : n ∉ L.map (·.1)) : iput L n v = L ++ [(n, v)] := by unfold iput; rw [if_neg h]
theorem nodup_add {α : Type} {l : List α} {a : α} (h : l.Nodup) (n : a ∉ l) : (l ++ [a]).Nodup := by
  rw [List.nodup_append]
  exact ⟨h, by simp, fun x hx y hy e => n (by rw [List.mem_singleton.mp hy] at e; exact e ▸ hx)⟩
theorem BInv.step {N : List Nd} {s : List PP × Int} {n : Int} (h : BInv N s) (hn : n ∈ nums N) : BInv N (stepR s n) := by
  unfold stepR
  by_cases q : n ∈ s.1.map (·.1)
  · rw [if_pos q]; exact h
  · rw [if_neg q, iputP_new q]
    refine ⟨?_, ?_, List.mem_append_left _ h.z, fun r hr => ?_, by have := h.m; simp only; omega⟩
    · simp only [List.map_append, List.map_cons, List.map_nil]
      exact nodup_add h.k q
    · simp only [List.map_append, List.map_cons, List.map_nil]
      refine nodup_add h.v fun hm => ?_
      obtain ⟨r, hr, e⟩ := List.mem_map.mp hm
      have := h.m
      rcases h.p r hr with ⟨_, e2⟩ | ⟨_, _, e2⟩ <;> omega
    · rcases List.mem_append.mp hr with hr | hr
      · rcases h.p r hr with e | ⟨e1, e2, e3⟩
        · exact .inl e
        · exact .inr ⟨e1, e2, by simp only; omega⟩
      · rw [List.mem_singleton.mp hr]
        have := h.m
        exact .inr ⟨hn, by simp only; omega, Int.le_refl _⟩
theorem BInv.fold {N : List Nd} : ∀ {ns : List Int} {s : List PP × Int}, BInv N s → (∀ n ∈ ns, n ∈ nums N) → BInv N (ns.foldl stepR s)
  | [], _, h, _ => h
  | n :: ns, s, h, hn => BInv.fold (s := stepR s n) (h.step (hn n List.mem_cons_self)) fun m hm => hn m (List.mem_cons_of_mem _ hm)
end Tw
set_option autoImplicit false
set_option linter.all false
set_option maxRecDepth 4000
namespace Tw
end Tw
set_option autoImplicit false
set_option linter.all false
set_option maxRecDepth 4000
namespace Tw
def Nd.cut (n : Int) (x : Nd) : Nd := ⟨x.n, if x.p = n then 0 else x.p, x.nm, x.st⟩
def cutV (T : List Nd) (n : Int) : List Nd := (T.map (Nd.cut n)).filter fun x => decide (x.n ∈ nums (belowV T n))
def withoutV (T : List Nd) (n : Int) : List Nd := T.filter fun x => !decide (x.n ∈ nums (belowV T n))
theorem cut_ok {T : List Nd} (h : Tr T) (n : Int) : M.m_cut_out [encT T, .int n] = match parE T n with
    | none => .ok (encT (cutV T n))
    | some c => .err c := by
  have lf := look_folder_ok h n
  have hl := h.len
  cases q : parE T n with
  | some c =>
    rw [q] at lf
    refine runD_er (e := [.bor (encT T), .bor (.int n), .un, .un, .un, .un, .un, .un, .un]) rfl ?_
    show M.b_cut_out _ = _
    unfold M.b_cut_out
    exact seq_er (by simp [lf])
  | none =>
    rw [q] at lf
    have bo := below_ok h n
    rw [if_pos (parE_in q)] at bo
    refine runD_rt rfl ?_
    show Rt _ (M.b_cut_out [.bor (encT T), .bor (.int n), .un, .un, .un, .un, .un, .un, .un])
    unfold M.b_cut_out
    refine p_drop (by (simp [lf] <;> repeat' (first | apply And.intro | rfl))) ?_
    refine p_set (d := .lst ((belowV T n).map fun x => D.int x.n)) (by simp [bo]) ?_
    refine p_own (d := .lst ((T.map (Nd.cut n)).map Nd.enc)) ((ok_compM (L := T) (m := Nd.enc) (h := fun x => (x.cut n).enc) (ok_itT rfl) (by omega) fun x hx => ?_).trans (by rw [List.map_map]; rfl)) ?_
    · by_cases k : x.p = n <;> simp [Nd.enc, Nd.cut, k]
    refine p_frz rfl ?_
    have ml : (T.map (Nd.cut n)).length ≤ 1000 := by rw [List.length_map]; exact hl
    refine p_ret (ok_e1 (x := .lst ((cutV T n).map Nd.enc)) (ok_comp (L := T.map (Nd.cut n)) (m := Nd.enc) (h := Nd.enc) (fun x => decide (x.n ∈ nums (belowV T n))) (ok_itL rfl) (by omega) fun x hx => ?_) rfl)
    have ii := isIn_ints x.n (nums (belowV T n))
    rw [List.map_map] at ii
    have ii : D.isIn (.int x.n) (.lst ((belowV T n).map fun x => D.int x.n)) = .ok (.bl (decide (x.n ∈ nums (belowV T n)))) := ii
    by_cases k : x.n ∈ nums (belowV T n)
    · rw [decide_eq_true k] at ii; simp [- List.mem_map, ii, k]
    · rw [decide_eq_false k] at ii; simp [- List.mem_map, ii, k]
theorem without_ok {T : List Nd} (h : Tr T) (n : Int) : M.m_without [encT T, .int n] = match parE T n with
    | none => .ok (encT (withoutV T n))
    | some c => .err c := by
  have lf := look_folder_ok h n
  have hl := h.len
  cases q : parE T n with
  | some c =>
    rw [q] at lf
    refine runD_er (e := [.bor (encT T), .bor (.int n), .un, .un]) rfl ?_
    show M.b_without _ = _
    unfold M.b_without
    exact seq_er (by simp [lf])
  | none =>
    rw [q] at lf
    have bo := below_ok h n
    rw [if_pos (parE_in q)] at bo
    refine runD_rt rfl ?_
    show Rt _ (M.b_without [.bor (encT T), .bor (.int n), .un, .un])
    unfold M.b_without
    refine p_drop (by (simp [lf] <;> repeat' (first | apply And.intro | rfl))) ?_
    refine p_set (d := .lst ((belowV T n).map fun x => D.int x.n)) (by simp [bo]) ?_
    refine p_ret (ok_e1 (x := .lst ((withoutV T n).map Nd.enc)) (ok_comp (L := T) (m := Nd.enc) (h := Nd.enc) (fun x => !decide (x.n ∈ nums (belowV T n))) (ok_itT rfl) (by omega) fun x hx => ?_) rfl)
    have ii := notIn_ints x.n (nums (belowV T n))
    rw [List.map_map] at ii
    have ii : D.notIn (.int x.n) (.lst ((belowV T n).map fun x => D.int x.n)) = .ok (.bl (!decide (x.n ∈ nums (belowV T n)))) := ii
    by_cases k : x.n ∈ nums (belowV T n)
    · rw [decide_eq_true k] at ii; simp [- List.mem_map, ii, k]
    · rw [decide_eq_false k] at ii; simp [- List.mem_map, ii, k]
def clashG (T : List Nd) (n : Int) (U : List Nd) : Bool := U.any fun x => decide (x.p = 0) && decide (x.nm ∈ (T.filter fun y => decide (y.p = n)).map (·.nm))
def Nd.gr (n b : Int) (x : Nd) : Nd := ⟨x.n + b, if x.p = 0 then n else x.p + b, x.nm, x.st⟩
def graftV (T : List Nd) (n : Int) (U : List Nd) : List Nd := T ++ U.map (Nd.gr n (mostV T))
theorem most0_ok {O : List Nd} (h : Wh O) : D.maxL (.lst (D.int 0 :: O.map fun x => D.int x.n)) = .ok (.int (mostV O)) := by
  have : ints? (D.int 0 :: O.map fun x => D.int x.n) = some (0 :: nums O) := by
    have := ints_int (0 :: nums O)
    unfold nums at this ⊢
    rw [List.map_cons, List.map_map] at this
    exact this
  unfold D.maxL
  simp only [this]
  congr 2
  unfold mostV
  cases e : nums O with
  | nil => rfl
  | cons a r =>
    have ha : a ∈ nums O := by rw [e]; exact List.mem_cons_self
    obtain ⟨x, hx, e2⟩ := mem_num ha
    have := Nd.good_n (h.good x hx)
    have e3 : maxI 0 (a :: r) = maxI (if (0 : Int) < a then a else 0) r := rfl
    rw [e3, if_pos (by omega)]
theorem isIn_strs {s : Nm} {l : List Nm} (hs : okNm s = true) (hl : ∀ t ∈ l, okNm t = true) : D.isIn (.str s) (.lst (l.map D.str)) = .ok (.bl (decide (s ∈ l))) := by
  have g1 : D.good (.str s) = true := by unfold okNm at hs; simpa [D.good, D.pl] using hs
  have g2 : D.pl 40 (.lst (l.map D.str)) = true := pl_lst1 fun x hx => by
    obtain ⟨t, ht, rfl⟩ := List.mem_map.mp hx
    have := hl t ht
    unfold okNm at this
    simpa [D.pl] using this
  rw [isIn_l g1 g2]
  congr 2
  rw [List.any_map]
  rw [Bool.eq_iff_iff]
  simp only [List.any_eq_true, Function.comp_apply, eqv_str, decide_eq_true_eq]
  exact ⟨fun ⟨x, hx, e⟩ => e ▸ hx, fun h => ⟨s, h, rfl⟩⟩
theorem add_tups {x y : List D} (h : x.length + y.length ≤ 10000) : D.add (.tup x) (.tup y) = .ok (.tup (x ++ y)) := by
  have : x.length + y.length ≤ szl := by have := szl_big; omega
  show (if x.length + y.length ≤ szl then Res.ok (D.tup (x ++ y)) else .stk) = _
  rw [if_pos this]
theorem graft_ok {T : List Nd} (h : Tr T) (n : Int) {U : List Nd} (hU : ∀ x ∈ U, okNm x.nm = true) (lU : U.length ≤ 1000) : M.m_grafted [encT T, .int n, encT U] = match parE T n with
    | none => if clashG T n U then .err 6 else .ok (encT (graftV T n U))
    | some c => .err c := by
  have lf := look_folder_ok h n
  have hl := h.len
  cases q : parE T n with
  | some c =>
    rw [q] at lf
    refine runD_er (e := [.bor (encT T), .sh (.int n), .bor (encT U), .un, .un, .un, .un, .un, .un, .un, .un]) rfl ?_
    show M.b_grafted _ = _
    unfold M.b_grafted
    exact seq_er (by simp [lf])
  | none =>
    rw [q] at lf
    have fl := filt_len (fun x : Nd => decide (x.p = n)) T
    have hn : ∀ t ∈ (T.filter fun y => decide (y.p = n)).map (·.nm), okNm t = true := fun t ht => by
      obtain ⟨x, hx, rfl⟩ := List.mem_map.mp ht
      exact nm_ok h.toWh (List.mem_filter.mp hx).1
    have c1 : eComp (iE (eB 0)) [4] (gN 4) (tE (e2 D.eq (e2 D.idx (eB 4) (eC (.int 1))) (eB 1))) (e2 D.idx (eB 4) (eC (.int 2))) [.bor (encT T), .sh (.int n), .bor (encT U), .un, .un, .un, .un, .un, .un, .un, .un] = .ok (.lst (((T.filter fun y => decide (y.p = n)).map (·.nm)).map D.str)) := by
      refine (ok_comp (L := T) (m := Nd.enc) (h := fun x => D.str x.nm) (fun x => decide (x.p = n)) (ok_itT rfl) (by omega) fun x hx => ?_).trans (by rw [List.map_map]; rfl)
      by_cases k : x.p = n <;> simp [Nd.enc, k]
    have c2 : e1 D.any (eComp (iE (eB 2)) [4] (gN 4) tTrue (eAnd (e2 D.eq (e2 D.idx (eB 4) (eC (.int 1))) (eC (.int 0))) (e2 D.isIn (e2 D.idx (eB 4) (eC (.int 2))) (eB 3)))) [.bor (encT T), .sh (.int n), .bor (encT U), .sh (.lst (((T.filter fun y => decide (y.p = n)).map (·.nm)).map D.str)), .un, .un, .un, .un, .un, .un, .un] = .ok (.bl (clashG T n U)) := by
      refine ok_e1 (x := .lst (U.map fun x => D.bl (decide (x.p = 0) && decide (x.nm ∈ (T.filter fun y => decide (y.p = n)).map (·.nm))))) (ok_compM (L := U) (m := Nd.enc) (ok_itT rfl) (by omega) fun x hx => ?_) ?_
      · have ii := isIn_strs (hU x hx) hn
        generalize (T.filter fun y => decide (y.p = n)).map (·.nm) = names at ii ⊢
        by_cases k : x.p = 0 <;> simp [- List.map_map, Nd.enc, k, ii]
      · rw [ev_any (bools_fn _ U)]
        unfold clashG
        rw [List.any_map]; rfl
    by_cases g : clashG T n U = true
    · rw [g] at c2 ⊢
      have er : Er 6 (M.b_grafted [.bor (encT T), .sh (.int n), .bor (encT U), .un, .un, .un, .un, .un, .un, .un, .un]) := by
        unfold M.b_grafted
        refine p_drop (by (simp [lf] <;> repeat' (first | apply And.intro | rfl))) ?_
        refine p_own c1 ?_
        refine p_frz rfl ?_
        exact p_er (p_if_t (ok_te c2) p_raise)
      obtain ⟨e', he⟩ := er
      exact runD_er (e := e') rfl he
    · have g' : clashG T n U = false := by simpa using g
      rw [g'] at c2 ⊢
      refine runD_rt rfl ?_
      show Rt _ (M.b_grafted [.bor (encT T), .sh (.int n), .bor (encT U), .un, .un, .un, .un, .un, .un, .un, .un])
      unfold M.b_grafted
      refine p_drop (by (simp [lf] <;> repeat' (first | apply And.intro | rfl))) ?_
      refine p_own c1 ?_
      refine p_frz rfl ?_
      refine p_chk (ok_te c2) ?_
      have mo := most0_ok h.toWh
      refine p_set (d := .int (mostV T)) (ok_e1 (ok_e2 (x := .lst [.int 0]) (y := .lst (T.map fun x => D.int x.n)) (by simp) (ok_compM (L := T) (m := Nd.enc) (h := fun x => D.int x.n) (ok_itT rfl) (by omega) fun x _ => by simp) (add_lst (by simp; omega))) (show D.maxL (.lst ([D.int 0] ++ T.map fun x => D.int x.n)) = _ from mo)) ?_
      refine p_own (d := .lst ((U.map (Nd.gr n (mostV T))).map Nd.enc)) ((ok_compM (L := U) (m := Nd.enc) (h := fun x => (x.gr n (mostV T)).enc) (ok_itT rfl) (by omega) fun x hx => ?_).trans (by rw [List.map_map]; rfl)) ?_
      · by_cases k : x.p = 0 <;> simp [Nd.enc, Nd.gr, k]
      refine p_frz rfl ?_
      refine p_ret (ok_e2 (x := encT T) (y := .tup ((U.map (Nd.gr n (mostV T))).map Nd.enc)) rfl (ok_e1 rfl rfl) ?_)
      unfold graftV encT
      rw [List.map_append]
      exact add_tups (by simp; omega)
end Tw
set_option autoImplicit false
set_option linter.all false
set_option maxRecDepth 4000
namespace Tw
theorem par_is {T : List Nd} (h : Wh T) {x : Nd} (hx : x ∈ T) : x.p = 0 ∨ ∃ y ∈ T, y.n = x.p ∧ y.st = none := par_in h hx
theorem under_0 (T : List Nd) {g : Int} : under T 0 g = true ↔ g = 0 := by
  rw [under_iff, way_zero]; simp
theorem mem_below {T : List Nd} {n : Int} {x : Nd} : x ∈ belowV T n ↔ x ∈ T ∧ x.n ≠ n ∧ under T x.n n = true := by
  unfold belowV
  rw [List.mem_filter]
  simp
theorem below_num {T : List Nd} (h : Wh T) {n : Int} {x : Nd} (hx : x ∈ T) : x.n ∈ nums (belowV T n) ↔ x ∈ belowV T n := by
  constructor
  · intro k
    obtain ⟨y, hy, e⟩ := mem_num k
    rw [← nodup_inj h.nd (belowV_sub hy) hx e]; exact hy
  · exact mem_nums
theorem below_par {T : List Nd} (h : Wh T) {n : Int} {x : Nd} (hx : x ∈ belowV T n) : x.p = n ∨ (x.p ≠ n ∧ ∃ y ∈ belowV T n, y.n = x.p) := by
  obtain ⟨hx, ne, u⟩ := mem_below.mp hx
  by_cases k : x.p = n
  · exact .inl k
  refine .inr ⟨k, ?_⟩
  rw [under_par h hx, decide_eq_false ne, Bool.false_or] at u
  rcases par_is h hx with z | ⟨y, hy, e, _⟩
  · rw [z] at u; exact absurd (z.trans ((under_0 T).mp u).symm) k
  · exact ⟨y, mem_below.mpr ⟨hy, by rw [e]; exact k, by rw [e]; exact u⟩, e⟩
theorem cutV_eq {T : List Nd} (h : Wh T) (n : Int) : cutV T n = (belowV T n).map (Nd.cut n) := by
  unfold cutV
  rw [List.filter_map]
  congr 1
  have e : belowV T n = T.filter fun x => decide (x ∈ belowV T n) := by
    refine List.filter_congr fun x hx => ?_
    rw [Bool.eq_iff_iff, decide_eq_true_iff, mem_below]
    simp [hx]
  conv => rhs; rw [e]
  refine List.filter_congr fun x hx => ?_
  show decide (x.n ∈ nums (belowV T n)) = _
  rw [decide_eq_decide]
  exact below_num h hx
theorem cut_nums {T : List Nd} (h : Wh T) (n : Int) : nums (cutV T n) = nums (belowV T n) := by
  rw [cutV_eq h]; unfold nums; rw [List.map_map]; rfl
theorem below_nd {T : List Nd} (h : Wh T) (n : Int) : (nums (belowV T n)).Nodup := h.nd.sublist (List.filter_sublist.map _)
theorem mem_cut {T : List Nd} (h : Wh T) {n : Int} {y : Nd} : y ∈ cutV T n ↔ ∃ x ∈ belowV T n, y = x.cut n := by
  rw [cutV_eq h, List.mem_map]
  exact ⟨fun ⟨x, hx, e⟩ => ⟨x, hx, e.symm⟩, fun ⟨x, hx, e⟩ => ⟨x, hx, e.symm⟩⟩
theorem cut_look {T : List Nd} (h : Wh T) {n : Int} {x : Nd} (hx : x ∈ belowV T n) : look (cutV T n) x.n = some (x.cut n) :=
  (look_at (by rw [cut_nums h]; exact below_nd h n)).mpr ⟨(mem_cut h).mpr ⟨x, hx, rfl⟩, rfl⟩
theorem cut_up {T : List Nd} (h : Wh T) {n : Int} (hn : n = 0 ∨ n ∈ nums T) {m : Int} {l : List Nd} (u : Upw T m l) : ∀ x ∈ belowV T n, x.n = m → ∃ l1, l = l1 ++ way T n ∧ Upw (cutV T n) m (l1.map (Nd.cut n)) := by
  induction u with
  | top => intro x hx e; exact absurd e (h.pos x (belowV_sub hx))
  | @step m y l a b u ih =>
    intro x hx e
    obtain ⟨hy, ey⟩ := look_some b
    have : x = y := nodup_inj h.nd (belowV_sub hx) hy (e.trans ey.symm)
    subst this
    rcases below_par h hx with k | ⟨k, z, hz, ez⟩
    · refine ⟨[x], ?_, ?_⟩
      · rw [k] at u; rw [u.det (way_num h hn)]; rfl
      · subst e
        refine .step a (cut_look h hx) ?_
        have : (x.cut n).p = 0 := if_pos k
        rw [this]; exact .top
    · obtain ⟨l1, e1, u1⟩ := ih z hz ez
      refine ⟨x :: l1, by rw [e1]; rfl, ?_⟩
      subst e
      refine .step a (cut_look h hx) ?_
      have : (x.cut n).p = x.p := if_neg k
      rw [this]; exact u1
theorem cut_wh {T : List Nd} (h : Wh T) {n : Int} (hn : n = 0 ∨ n ∈ nums T) : Wh (cutV T n) where
  good := fun y hy => by
    obtain ⟨x, hx, rfl⟩ := (mem_cut h).mp hy
    have g := h.good x (belowV_sub hx)
    refine Nd.good_mk (Nd.good_n g) ?_ (Nd.good_nm g) (Nd.good_st g)
    have := Nd.good_p g
    show 0 ≤ if x.p = n then 0 else x.p
    split <;> omega
  nd := by rw [cut_nums h]; exact below_nd h n
  sp := by
    rw [cutV_eq h]
    unfold spots
    rw [List.map_map]
    have sp : (spots (belowV T n)).Nodup := h.sp.sublist (List.filter_sublist.map _)
    unfold spots at sp
    refine List.pairwise_map.mpr (List.Pairwise.imp_of_mem (fun {a b} ha hb ne e => ne ?_) (List.pairwise_map.mp sp))
    have e1 : (if a.p = n then 0 else a.p) = if b.p = n then 0 else b.p := congrArg Prod.fst e
    have e2 : a.nm = b.nm := congrArg Prod.snd e
    have ep : a.p = b.p := by
      rcases below_par h ha with k | ⟨k, z, hz, ez⟩ <;> rcases below_par h hb with q | ⟨q, w, hw, ew⟩
      · rw [k, q]
      · rw [if_pos k, if_neg q] at e1
        exact absurd (ew.trans e1.symm) (h.pos w (belowV_sub hw))
      · rw [if_neg k, if_pos q] at e1
        exact absurd (ez.trans e1) (h.pos z (belowV_sub hz))
      · rw [if_neg k, if_neg q] at e1; exact e1
    rw [ep, e2]
  up := fun y hy => by
    obtain ⟨x, hx, rfl⟩ := (mem_cut h).mp hy
    obtain ⟨l, u, f⟩ := h.up x (belowV_sub hx)
    obtain ⟨l1, e, u1⟩ := cut_up h hn u x hx rfl
    refine ⟨_, u1, fun z hz => ?_⟩
    rw [← List.map_tail] at hz
    obtain ⟨w, hw, rfl⟩ := List.mem_map.mp hz
    refine f w ?_
    rw [e]
    cases l1 with
    | nil => cases hw
    | cons a r => exact List.mem_append_left _ hw
theorem cut_path {T : List Nd} (h : Wh T) {n : Int} (hn : n = 0 ∨ n ∈ nums T) {x : Nd} (hx : x ∈ belowV T n) : path (cutV T n) x.n = pathF T n x.n := by
  obtain ⟨l, u, _⟩ := h.up x (belowV_sub hx)
  obtain ⟨l1, e, u1⟩ := cut_up h hn u x hx rfl
  unfold pathF path
  rw [u1.way, u.way, e]
  simp only [List.map_append, List.reverse_append, List.map_map, List.length_reverse]
  rw [List.drop_left' (by simp)]
  rfl
theorem cut_tr {T : List Nd} (h : Tr T) {n : Int} (hn : n = 0 ∨ n ∈ nums T) : Tr (cutV T n) :=
  { cut_wh h.toWh hn with
    pw := by
      have : (nums (cutV T n)).Pairwise (· < ·) := by
        rw [cut_nums h.toWh]
        exact List.pairwise_map.mpr (h.pw.sublist List.filter_sublist)
      exact List.pairwise_map.mp this
    len := by
      rw [cutV_eq h.toWh, List.length_map]
      have := belowV_len T n; have := h.len; omega }
theorem without_eq {T : List Nd} (h : Wh T) (n : Int) : withoutV T n = T.filter fun x => !decide (x ∈ belowV T n) := by
  unfold withoutV
  refine List.filter_congr fun x hx => ?_
  rw [decide_eq_decide.mpr (below_num h hx)]
theorem mem_without {T : List Nd} (h : Wh T) {n : Int} {x : Nd} : x ∈ withoutV T n ↔ x ∈ T ∧ x ∉ belowV T n := by
  rw [without_eq h, List.mem_filter]; simp
theorem without_wh {T : List Nd} (h : Wh T) (n : Int) : Wh (withoutV T n) := by
  rw [without_eq h]
  refine h.part _ fun x hx fx => ?_
  simp only [Bool.not_eq_true', decide_eq_false_iff_not] at fx ⊢
  rcases par_is h hx with z | ⟨y, hy, e, _⟩
  · exact .inl z
  refine .inr ⟨y, hy, e, fun hb => fx ?_⟩
  obtain ⟨_, ne, u⟩ := mem_below.mp hb
  refine mem_below.mpr ⟨hx, fun k => ?_, by rw [under_par h hx, ← e, u, Bool.or_true]⟩
  -- x is n itself: then y, below n, is over n
  subst k
  rw [under_iff] at u
  rcases u with z | u
  · exact h.pos x hx z
  · obtain ⟨l, ux, _⟩ := h.up x hx
    have e2 := ux.way
    have nd := ux.nodup
    rw [← e2, way_par h hx, ← e] at nd
    simp only [List.map_cons, List.nodup_cons] at nd
    exact nd.1 u
theorem without_sub {T : List Nd} {n : Int} {x : Nd} (hx : x ∈ withoutV T n) : x ∈ T := (List.mem_filter.mp hx).1
theorem without_tr {T : List Nd} (h : Tr T) (n : Int) : Tr (withoutV T n) :=
  { without_wh h.toWh n with
    pw := h.pw.sublist List.filter_sublist
    len := by have := List.length_filter_le (fun x : Nd => !decide (x.n ∈ nums (belowV T n))) T; have := h.len; unfold withoutV; omega }
theorem without_path {T : List Nd} (h : Wh T) {n m : Int} (hm : m = 0 ∨ m ∈ nums (withoutV T n)) : path (withoutV T n) m = path T m :=
  path_part h (without_wh h n) (fun _ hx => without_sub hx) hm
end Tw
set_option autoImplicit false
set_option linter.all false
set_option maxRecDepth 4000
namespace Tw
theorem look_left {T V : List Nd} {n : Int} {x : Nd} (e : look T n = some x) : look (T ++ V) n = some x := by
  unfold look at e ⊢
  rw [List.find?_append, e]; rfl
theorem up_left {T : List Nd} (V : List Nd) {n : Int} {l : List Nd} (u : Upw T n l) : Upw (T ++ V) n l := up_look (fun _ _ e => look_left e) u
theorem par_fol {T : List Nd} (h : Wh T) {n : Int} (e : parE T n = none) : ∀ y ∈ way T n, y.st = none := by
  unfold parE at e
  by_cases z : n = 0
  · rw [z, way_zero]; simp
  rw [if_neg z] at e
  cases q : look T n with
  | none => rw [q] at e; cases e
  | some x =>
    rw [q] at e
    obtain ⟨hx, ex⟩ := look_some q
    subst ex
    obtain ⟨l, u, f⟩ := h.up x hx
    have w := u.way
    intro y hy
    rw [way_par h hx] at w hy
    rcases List.mem_cons.mp hy with rfl | hy
    · by_cases k : y.st = none
      · exact k
      · simp only [if_neg k] at e; cases e
    · refine f y ?_
      rw [← w]; exact hy
section
variable {T U : List Nd} {n : Int}
theorem gr_p {b : Int} (x : Nd) : (x.gr n b).p = if x.p = 0 then n else x.p + b := rfl
theorem graft_nums (T : List Nd) (n : Int) (U : List Nd) : nums (graftV T n U) = nums T ++ (nums U).map (· + mostV T) := by
  unfold graftV nums
  rw [List.map_append, List.map_map, List.map_map]; rfl
theorem par_most (hn : n = 0 ∨ n ∈ nums T) (h : Wh T) : n ≤ mostV T := by
  rcases hn with rfl | hn
  · exact mostV_pos h
  · exact mostV_ge hn
theorem graft_nd (h : Wh T) (hU : Wh U) : (nums (graftV T n U)).Nodup := by
  rw [graft_nums]
  refine List.nodup_append.mpr ⟨h.nd, ?_, fun a ha b hb e => ?_⟩
  · exact List.pairwise_map.mpr (hU.nd.imp fun ne e => ne (by omega))
  · obtain ⟨c, hc, rfl⟩ := List.mem_map.mp hb
    obtain ⟨x, hx, rfl⟩ := mem_num hc
    have := Nd.good_n (hU.good x hx)
    have := mostV_ge ha
    omega
theorem mem_graft {y : Nd} : y ∈ graftV T n U ↔ y ∈ T ∨ ∃ x ∈ U, y = x.gr n (mostV T) := by
  unfold graftV
  rw [List.mem_append, List.mem_map]
  exact or_congr Iff.rfl ⟨fun ⟨x, hx, e⟩ => ⟨x, hx, e.symm⟩, fun ⟨x, hx, e⟩ => ⟨x, hx, e.symm⟩⟩
theorem graft_up (h : Wh T) (hU : Wh U) (hn : n = 0 ∨ n ∈ nums T) {m : Int} {l : List Nd} (u : Upw U m l) : m ≠ 0 → Upw (graftV T n U) (m + mostV T) (l.map (Nd.gr n (mostV T)) ++ way T n) := by
  induction u with
  | top => intro z; exact absurd rfl z
  | @step m x l a b u ih =>
    intro _
    obtain ⟨hx, rfl⟩ := look_some b
    have g := Nd.good_n (hU.good x hx)
    have mp := mostV_pos h
    refine .step (by omega) ((look_at (graft_nd h hU)).mpr ⟨mem_graft.mpr (.inr ⟨x, hx, rfl⟩), rfl⟩) ?_
    rw [gr_p]
    by_cases z : x.p = 0
    · rw [if_pos z]
      rw [z] at u
      rw [u.det .top]
      exact up_left _ (way_num h hn)
    · rw [if_neg z]
      exact ih z
theorem graft_wh (h : Wh T) (hU : Wh U) (pn : parE T n = none) (cl : clashG T n U = false) : Wh (graftV T n U) where
  good := fun y hy => by
    rcases mem_graft.mp hy with hy | ⟨x, hx, rfl⟩
    · exact h.good y hy
    · have g := hU.good x hx
      have mp := mostV_pos h
      have g1 := Nd.good_n g
      have g2 := Nd.good_p g
      refine Nd.good_mk (by omega) ?_ (Nd.good_nm g) (Nd.good_st g)
      have : 0 ≤ n := by
        rcases parE_in pn with rfl | q
        · omega
        · obtain ⟨z, hz, rfl⟩ := mem_num q
          have := Nd.good_n (h.good z hz); omega
      split <;> omega
  nd := graft_nd h hU
  sp := by
    unfold spots graftV
    rw [List.map_append, List.map_map]
    have nm := par_most (parE_in pn) h
    refine List.nodup_append.mpr ⟨h.sp, ?_, fun a ha b hb e => ?_⟩
    · refine List.pairwise_map.mpr (List.Pairwise.imp_of_mem (fun {a b} ha hb ne e => ne ?_) (List.pairwise_map.mp hU.sp))
      have e1 : (if a.p = 0 then n else a.p + mostV T) = if b.p = 0 then n else b.p + mostV T := congrArg Prod.fst e
      have e2 : a.nm = b.nm := congrArg Prod.snd e
      have ga := Nd.good_p (hU.good a ha)
      have gb := Nd.good_p (hU.good b hb)
      have ep : a.p = b.p := by
        split at e1 <;> split at e1 <;> omega
      rw [ep, e2]
    · obtain ⟨x, hx, rfl⟩ := List.mem_map.mp ha
      obtain ⟨y, hy, rfl⟩ := List.mem_map.mp hb
      have e1 : x.p = if y.p = 0 then n else y.p + mostV T := congrArg Prod.fst e
      have e2 : x.nm = y.nm := congrArg Prod.snd e
      have gy := Nd.good_p (hU.good y hy)
      by_cases z : y.p = 0
      · rw [if_pos z] at e1
        unfold clashG at cl
        rw [List.any_eq_false] at cl
        refine cl y hy ?_
        rw [Bool.and_eq_true, decide_eq_true_iff, decide_eq_true_iff]
        exact ⟨z, List.mem_map.mpr ⟨x, List.mem_filter.mpr ⟨hx, decide_eq_true e1⟩, e2⟩⟩
      · rw [if_neg z] at e1
        have := par_most (par0 h hx) h
        omega
  up := fun y hy => by
    rcases mem_graft.mp hy with hy | ⟨x, hx, rfl⟩
    · obtain ⟨l, u, f⟩ := h.up y hy
      exact ⟨l, up_left _ u, f⟩
    · obtain ⟨l, u, f⟩ := hU.up x hx
      refine ⟨_, graft_up h hU (parE_in pn) u (hU.pos x hx), fun y hy => ?_⟩
      have pf := par_fol h pn
      cases l with
      | nil => exact pf y (List.mem_of_mem_tail hy)
      | cons a r =>
        rcases List.mem_append.mp (show y ∈ r.map (Nd.gr n (mostV T)) ++ way T n from hy) with hy | hy
        · obtain ⟨w, hw, rfl⟩ := List.mem_map.mp hy
          exact f w hw
        · exact pf y hy
theorem graft_pathT (h : Wh T) (V : List Nd) {m : Int} (hm : m = 0 ∨ m ∈ nums T) : path (T ++ V) m = path T m := by
  unfold path; rw [(up_left V (way_num h hm)).way]
theorem graft_pathU (h : Wh T) (hU : Wh U) (pn : parE T n = none) {x : Nd} (hx : x ∈ U) : path (graftV T n U) (x.n + mostV T) = path T n ++ path U x.n := by
  obtain ⟨l, u, _⟩ := hU.up x hx
  unfold path
  rw [(graft_up h hU (parE_in pn) u (hU.pos x hx)).way, u.way]
  simp only [List.map_append, List.reverse_append, List.map_map]
  rfl
theorem graft_len (T : List Nd) (n : Int) (U : List Nd) : (graftV T n U).length = T.length + U.length := by simp [graftV]
theorem graft_tr (h : Tr T) (hU : Tr U) (pn : parE T n = none) (cl : clashG T n U = false) (hl : T.length + U.length ≤ 1000) : Tr (graftV T n U) :=
  { graft_wh h.toWh hU.toWh pn cl with
    pw := by
      unfold graftV
      refine List.pairwise_append.mpr ⟨h.pw, ?_, fun a ha b hb => ?_⟩
      · refine List.pairwise_map.mpr (hU.pw.imp fun {a b} q => ?_)
        show a.n + _ < b.n + _
        omega
      · obtain ⟨y, hy, rfl⟩ := List.mem_map.mp hb
        have := Nd.good_n (hU.good y hy)
        have := mostV_ge (mem_nums ha)
        show a.n < y.n + _
        omega
    len := by rw [graft_len]; exact hl }
end
end Tw
set_option autoImplicit false
set_option linter.all false
namespace Tw
theorem hid_app (N : List Nm) (p q : List Nm) : hid N (p ++ q) = (hid N p || hid N q) := by unfold hid; rw [List.any_append]
section
variable {T : List Nd} {N : List Nm}
theorem seen_under (h : Tr T) {m g : Int} (hm : m = 0 ∨ m ∈ nums (seenV T N)) : under (seenV T N) m g = under T m g := by
  unfold under
  rw [way_part h.toWh (seen_wh h.toWh N) (fun x hx => (mem_seen.mp hx).1) hm]
theorem seen_below (h : Tr T) {g : Int} : belowV (seenV T N) g = (belowV T g).filter fun x => !hid N (path T x.n) := by
  unfold belowV seenV
  rw [List.filter_filter, List.filter_filter]
  refine List.filter_congr fun x hx => ?_
  cases c : hid N (path T x.n) with
  | true => simp
  | false =>
    have hs : x ∈ seenV T N := mem_seen.mpr ⟨hx, c⟩
    have := seen_under h (g := g) (.inr (mem_nums hs))
    unfold seenV at this
    rw [this]
    simp
theorem mem_seen_below (h : Tr T) {g : Int} (hg : hid N (path T g) = false) {x : Nd} : x ∈ belowV (seenV T N) g ↔ x ∈ belowV T g ∧ hid N (pathF T g x.n) = false := by
  rw [seen_below h, List.mem_filter]
  constructor
  · rintro ⟨a, b⟩
    refine ⟨a, ?_⟩
    obtain ⟨hx, _, u⟩ := mem_below.mp a
    rw [path_F h.toWh (.inr (mem_nums hx)) u, hid_app, hg] at b
    simpa using b
  · rintro ⟨a, b⟩
    refine ⟨a, ?_⟩
    obtain ⟨hx, _, u⟩ := mem_below.mp a
    rw [path_F h.toWh (.inr (mem_nums hx)) u, hid_app, hg, b]
    rfl
theorem seen_cut (h : Tr T) {g : Int} (hn : g = 0 ∨ g ∈ nums (seenV T N)) (hg : hid N (path T g) = false) : cutV (seenV T N) g = seenV (cutV T g) N := by
  have hn2 : g = 0 ∨ g ∈ nums T := hn.elim .inl fun z => by
    obtain ⟨x, hx, e⟩ := List.mem_map.mp z
    exact .inr (List.mem_map.mpr ⟨x, (mem_seen.mp hx).1, e⟩)
  have c1 := cut_tr (seen_tr h N) hn
  have c2 := seen_tr (cut_tr h hn2) N
  refine sorted_ext c1.pw c2.pw fun y => ?_
  rw [mem_cut (seen_wh h.toWh N), mem_seen, mem_cut h.toWh]
  constructor
  · rintro ⟨x, hx, rfl⟩
    obtain ⟨a, b⟩ := (mem_seen_below h hg).mp hx
    refine ⟨⟨x, a, rfl⟩, ?_⟩
    rw [show (x.cut g).n = x.n from rfl, cut_path h.toWh hn2 a]
    exact b
  · rintro ⟨⟨x, hx, rfl⟩, b⟩
    rw [show (x.cut g).n = x.n from rfl, cut_path h.toWh hn2 hx] at b
    exact ⟨x, (mem_seen_below h hg).mpr ⟨hx, b⟩, rfl⟩
theorem seen_without (h : Tr T) {g : Int} : seenV (withoutV T g) N = withoutV (seenV T N) g := by
  refine sorted_ext (seen_tr (without_tr h g) N).pw (without_tr (seen_tr h N) g).pw fun y => ?_
  rw [mem_seen, mem_without h.toWh, mem_without (seen_wh h.toWh N), mem_seen]
  constructor
  · rintro ⟨⟨a, b⟩, c⟩
    rw [without_path h.toWh (.inr (mem_nums ((mem_without h.toWh).mpr ⟨a, b⟩)))] at c
    exact ⟨⟨a, c⟩, fun z => b ((by rw [seen_below h] at z; exact (List.mem_filter.mp z).1))⟩
  · rintro ⟨⟨a, c⟩, b⟩
    have nb : y ∉ belowV T g := fun z => b (by rw [seen_below h]; exact List.mem_filter.mpr ⟨z, by rw [c]; rfl⟩)
    refine ⟨⟨a, nb⟩, ?_⟩
    rw [without_path h.toWh (.inr (mem_nums ((mem_without h.toWh).mpr ⟨a, nb⟩)))]
    exact c
theorem seen_named (h : Tr T) {s : Nm} (hs : s ∈ N) : namedV (seenV T N) s = [] := by
  unfold namedV
  rw [List.map_eq_nil_iff, List.filter_eq_nil_iff]
  intro x hx
  obtain ⟨a, b⟩ := mem_seen.mp hx
  rw [path_cons h.toWh a, hid_app] at b
  intro z
  have z := of_decide_eq_true z
  have : hid N [x.nm] = true := by unfold hid; simp [z, hs]
  rw [this, Bool.or_true] at b
  cases b
theorem seen_graft (h : Tr T) {U : List Nd} (hU : Tr U) : seenV (graftV T 0 U) N = seenV T N ++ (seenV U N).map (Nd.gr 0 (mostV T)) := by
  have pG : ∀ x ∈ T, path (graftV T 0 U) x.n = path T x.n := fun x hx => graft_pathT h.toWh _ (.inr (mem_nums hx))
  have pU : ∀ x ∈ U, path (graftV T 0 U) (x.n + mostV T) = path U x.n := fun x hx => by
    rw [graft_pathU h.toWh hU.toWh (n := 0) rfl hx, path_zero]
    rfl
  have e : ∀ G, G = graftV T 0 U → (T ++ U.map (Nd.gr 0 (mostV T))).filter (fun x => !hid N (path G x.n)) = seenV T N ++ (seenV U N).map (Nd.gr 0 (mostV T)) := by
    rintro G rfl
    rw [List.filter_append, List.filter_map]
    congr 1
    · exact List.filter_congr fun x hx => by rw [pG x hx]
    · congr 1
      exact List.filter_congr fun x hx => by
        show (!hid N (path (graftV T 0 U) (x.n + mostV T))) = _
        rw [pU x hx]
  exact e _ rfl
theorem stamps_sub {A B : List Nd} (s : A.Sublist B) : (stamps A).Sublist (stamps B) := s.filterMap _
theorem sum_sub : ∀ {a b : List Int}, a.Sublist b → (∀ x ∈ b, 0 ≤ x) → a.sum ≤ b.sum
  | _, _, .slnil, _ => Int.le_refl _
  | _, _, .cons y s, h => by
    have := sum_sub s fun x hx => h x (List.mem_cons_of_mem _ hx)
    have := h y List.mem_cons_self
    simp; omega
  | _, _, .cons₂ y s, h => by
    have := sum_sub s fun x hx => h x (List.mem_cons_of_mem _ hx)
    simp; omega
theorem plain_len : ∀ B : List Nd, B.length = (B.filter fun x => decide (x.st = none)).length + (stamps B).length
  | [] => rfl
  | x :: B => by
    have := plain_len B
    unfold stamps at this ⊢
    cases e : x.st with
    | none => simp [e]; omega
    | some v => simp [e]; omega
theorem stamps_pos (h : Tr T) {B : List Nd} (s : ∀ x ∈ B, x ∈ T) : ∀ v ∈ stamps B, 0 ≤ v := fun v hv => by
  obtain ⟨x, hx, e⟩ := List.mem_filterMap.mp hv
  have := Nd.good_st (h.good x (s x hx))
  rw [e] at this
  simp [goodSt] at this
  omega
theorem tot_le (h : Tr T) {A B : List Nd} (s : A.Sublist B) (hB : ∀ x ∈ B, x ∈ T) : (A.length : Int) - (stamps A).length ≤ (B.length : Int) - (stamps B).length ∧ ((stamps A).length : Int) ≤ (stamps B).length ∧ (stamps A).sum ≤ (stamps B).sum := by
  have a := plain_len A
  have b := plain_len B
  have c := (s.filter fun x => decide (x.st = none)).length_le
  have d := (stamps_sub s).length_le
  refine ⟨by omega, by omega, sum_sub (stamps_sub s) (stamps_pos h hB)⟩
end
end Tw
set_option autoImplicit false
set_option linter.all false
set_option maxRecDepth 4000
set_option exponentiation.threshold 3000
namespace Tw
abbrev PW := List Nm × Nm
end Tw
set_option autoImplicit false
set_option linter.all false
set_option maxRecDepth 4000
namespace Tw
section
variable {f : Int → Int} {T : List Nd}
end
def folL (T : List Nd) : List Int := (T.filter fun x => decide (x.st = none)).map (·.n)
def alk (T : List Nd) (a b : Int) : Bool := decide (a < b) && (decide (shapeV T a ≠ []) && decide (shapeV T b = shapeV T a))
theorem folL_len (T : List Nd) : (folL T).length ≤ T.length := by unfold folL; rw [List.length_map]; exact List.length_filter_le _ _
theorem fol_par {T : List Nd} (h : (nums T).Nodup) {n : Int} (hn : n ∈ folL T) : parE T n = none := by
  obtain ⟨x, hx, rfl⟩ := List.mem_map.mp hn
  obtain ⟨hx, sx⟩ := List.mem_filter.mp hx
  simp only [decide_eq_true_eq] at sx
  simp [parE, look_of h hx, sx]
end Tw
set_option autoImplicit false
set_option linter.all false
set_option maxRecDepth 4000
namespace Tw
section
variable {f : Int → Int} {O N : List Nd}
end
end Tw
set_option autoImplicit false
set_option linter.all false
set_option maxRecDepth 4000
namespace Tw
abbrev ON := List PP × List Int
def stepO (ns : List Int) (at_ : Nat) (s : ON) (a : Nat × Nd) : ON := (iput s.1 a.2.n (s.2.getD (pickV ns (at_ + a.1) s.2.length).toNat 0), s.2.eraseIdx (pickV ns (at_ + a.1) s.2.length).toNat)
structure OInv (L : List (Nat × Nd)) (s : ON) : Prop where
  k : s.1.map (·.1) = 0 :: L.map (·.2.n)
  v : (s.1.map (·.2) ++ s.2).Nodup
  l : ∀ v ∈ s.2, (1 : Int) ≤ v
  z : (0, 0) ∈ s.1
  p : ∀ q ∈ s.1, q.1 = 0 ∨ 1 ≤ q.2
  len : s.2.length + L.length = 39
theorem OInv.step {ns : List Int} {at_ : Nat} {L : List (Nat × Nd)} {s : ON} (h : OInv L s) {a : Nat × Nd} (nz : a.2.n ≠ 0) (nw : a.2.n ∉ L.map (·.2.n)) (hl : L.length < 39) : OInv (L ++ [a]) (stepO ns at_ s a) := by
  have ll := h.len
  have pv := pickV_lt ns (at_ + a.1) (many := (s.2.length : Int)) (by omega)
  have hi : (pickV ns (at_ + a.1) s.2.length).toNat < s.2.length := by omega
  have nk : a.2.n ∉ s.1.map (·.1) := by rw [h.k]; simp [nz, nw]
  unfold stepO
  generalize (pickV ns (at_ + a.1) s.2.length).toNat = i at hi
  have gd : s.2.getD i 0 = s.2[i] := by simp [List.getD_eq_getElem?_getD, List.getElem?_eq_getElem hi]
  have spl : s.2.take i ++ s.2[i] :: s.2.drop (i + 1) = s.2 := by rw [List.getElem_cons_drop, List.take_append_drop]
  have er : s.2.eraseIdx i = s.2.take i ++ s.2.drop (i + 1) := by rw [List.eraseIdx_eq_take_drop_succ]
  have mem : s.2[i] ∈ s.2 := List.getElem_mem hi
  rw [gd, iputP_new nk]
  refine ⟨by simp [h.k], ?_, fun v hv => h.l v (List.mem_of_mem_eraseIdx hv), List.mem_append_left _ h.z, fun q hq => ?_, ?_⟩
  · simp only [List.map_append, List.map_cons, List.map_nil, List.append_assoc, List.cons_append, List.nil_append]
    have pm : (s.1.map (·.2) ++ s.2[i] :: s.2.eraseIdx i).Perm (s.1.map (·.2) ++ s.2) := by
      refine List.Perm.append_left _ ?_
      rw [er]
      refine List.perm_middle.symm.trans (List.Perm.of_eq spl)
    exact pm.nodup_iff.mpr h.v
  · rcases List.mem_append.mp hq with hq | hq
    · exact h.p q hq
    · rw [List.mem_singleton.mp hq]; exact .inr (h.l _ mem)
  · rw [List.length_eraseIdx_of_lt hi]
    simp only [List.length_append, List.length_cons, List.length_nil]
    omega
end Tw
set_option autoImplicit false
set_option linter.all false
set_option maxRecDepth 4000
namespace Tw
end Tw
set_option autoImplicit false
set_option linter.all false
set_option maxRecDepth 4000
namespace Tw
section
variable {f : Int → Int} {T : List Nd}
theorem fol_nums {n : Int} (h : n ∈ folL T) : n ∈ nums T := by
  obtain ⟨x, hx, rfl⟩ := List.mem_map.mp h
  exact mem_nums (List.mem_filter.mp hx).1
end
end Tw
set_option autoImplicit false
set_option linter.all false
namespace Tw
section
variable {a b f : E} {e e1 e2 : Env} {d w : D} {i c k np n : Nat} {m : Bool} {fs fs' gs : List Fd} {xs : List D} {g : G} {s p q : S} {ds : List D} {ms : List Bool} {P : RS → Prop} {x y : XE} {t : XT}
theorem meth_ok {mm : List Fd → List D → Res D} {es : List E} {r : Res D} (h : obAt c e[i]? = some fs) (hes : eL es e = .ok ds) (hr : mm fs ds = r) : eMeth i c mm es e = r := by
  unfold eMeth; rw [h]; simp only [hes, Res.bind_ok, hr]
theorem meth0_ok {mm : List Fd → List D → Res D} {r : Res D} (h : obAt c e[i]? = some fs) (hr : mm fs [] = r) : eMeth i c mm [] e = r := meth_ok h rfl hr
theorem meth1_ok {mm : List Fd → List D → Res D} {r : Res D} (h : obAt c e[i]? = some fs) (ha : a e = .ok d) (hr : mm fs [d] = r) : eMeth i c mm [a] e = r :=
  meth_ok h (by simp [eL, ha]) hr
theorem runR_rt (hl : ds.length = ms.length) (h : s (.lo c fs :: (initE ms ds ++ List.replicate (n - (ms.length + 1)) .un)) = .rt d) : runR c ms n s fs ds = .ok d := by
  unfold runR; rw [if_pos hl, h]
end
end Tw
set_option autoImplicit false
set_option linter.all false
namespace Tw
def Disj (A B : Chg) : Prop := ∀ n, n ∈ cnums A → n ∉ cnums B
theorem Disj.symm {A B : Chg} (h : Disj A B) : Disj B A := fun n hb ha => h n ha hb
end Tw
set_option autoImplicit false
set_option linter.all false
namespace Tw
def lastT (Ts : List (List Nd)) : List Nd := Ts.getLastD []
structure Hist (n : Nat) (Ts : List (List Nd)) : Prop where
  ne : Ts ≠ []
  tr : ∀ T ∈ Ts, Tr T
  len : ∀ T ∈ Ts, T.length ≤ n
theorem lastT_mem {Ts : List (List Nd)} (h : Ts ≠ []) : lastT Ts ∈ Ts := by
  unfold lastT
  rw [List.getLastD_eq_getLast?, List.getLast?_eq_some_getLast h]
  exact List.getLast_mem h
theorem Hist.snoc {n : Nat} {Ts : List (List Nd)} (h : Hist n Ts) {U : List Nd} (hU : Tr U) (hl : U.length ≤ n) : Hist n (Ts ++ [U]) :=
  ⟨by simp, fun T hT => by rcases List.mem_append.mp hT with z | z; exact h.tr T z; simp at z; exact z ▸ hU, fun T hT => by rcases List.mem_append.mp hT with z | z; exact h.len T z; simp at z; exact z ▸ hl⟩
theorem Hist.last {n : Nat} {Ts : List (List Nd)} (h : Hist n Ts) : Tr (lastT Ts) ∧ (lastT Ts).length ≤ n := ⟨h.tr _ (lastT_mem h.ne), h.len _ (lastT_mem h.ne)⟩
theorem doneV_len {T U : List Nd} (hT : Tr T) {d : Deed} (hl : T.length ≤ 900) (g : d.good = true) (e : doneV T d = .ok U) : Tr U ∧ U.length ≤ T.length + 1 := by
  have := bh_tr hT hl g
  unfold bh at this
  rw [e] at this
  exact this
end Tw
set_option autoImplicit false
set_option linter.all false
namespace Tw
def tops (T : List Nd) : List Nm := (T.filter fun x => decide (x.p = 0)).map (·.nm)
def someV (T : List Nd) (left spared : List Int) : List Int := left.filter fun n => decide (n ∈ nums T) && !decide (n ∈ spared)
structure Stp where
  T : List Nd
  left : List Int
  spared : List Int
  deeds : List Deed
theorem look_ex {T : List Nd} {n : Int} (h : n ∈ nums T) : ∃ x, look T n = some x := Option.isSome_iff_exists.mp (look_iff.mpr h)
theorem pigeon {α : Type} [DecidableEq α] : ∀ {l m : List α}, l.Nodup → (∀ x ∈ l, x ∈ m) → l.length ≤ m.length
  | [], _, _, _ => Nat.zero_le _
  | x :: l, m, nd, h => by
    rw [List.nodup_cons] at nd
    have hx := h x (by simp)
    have := pigeon (l := l) (m := m.erase x) nd.2 fun y hy => (List.mem_erase_of_ne (by rintro rfl; exact nd.1 hy)).mpr (h y (by simp [hy]))
    rw [List.length_erase_of_mem hx] at this
    have := List.length_pos_of_mem hx
    simp only [List.length_cons]
    omega
end Tw
set_option autoImplicit false
set_option linter.all false
namespace Tw
structure StI (G T0 : List Nd) (s : Stp) : Prop where
  tr : Tr s.T
  sub : ∀ n ∈ s.left, n ∈ nums G
  nd : s.left.Nodup
  at_ : ∀ n ∈ nums G, n ∉ s.left → ∃ x g, look s.T n = some x ∧ look G n = some g ∧ x.p = g.p ∧ x.nm = g.nm
  kind : ∀ n x g, look s.T n = some x → look G n = some g → (x.st = none ↔ g.st = none)
  sp : ∀ n ∈ s.spared, n ∈ s.left → ∃ x, look s.T n = some x ∧ x.p = 0 ∧ x.nm ∉ tops G
  from_ : ∀ n ∈ nums s.T, n ∈ nums T0 ∨ n ∈ nums G
  stay : ∀ n ∈ nums T0, n ∈ nums G → n ∈ nums s.T
section
variable {G T0 : List Nd} {s : Stp}
end
end Tw
set_option autoImplicit false
set_option linter.all false
namespace Tw
section
variable {G T0 : List Nd} {s s' : Stp}
theorem StI.pos (I : StI G T0 s) (hG : Tr G) : ∀ n ∈ s.left, 1 ≤ n := fun n hn => by
  obtain ⟨g, hg⟩ := look_ex (I.sub n hn)
  have := Nd.good_n (hG.good g (look_some hg).1)
  rw [(look_some hg).2] at this
  exact this
theorem StI.len (I : StI G T0 s) : s.T.length ≤ T0.length + G.length := by
  have := pigeon (l := nums s.T) (m := nums T0 ++ nums G) I.tr.nd fun n hn => by
    rcases I.from_ n hn with z | z
    · exact List.mem_append_left _ z
    · exact List.mem_append_right _ z
  simpa using this
def offG (G T : List Nd) : Nat := ((nums T).filter fun n => !decide (n ∈ nums G)).length
def mu (G : List Nd) (s : Stp) : Nat := offG G s.T + 2 * s.left.length + (someV s.T s.left s.spared).length
end
end Tw
set_option autoImplicit false
set_option linter.all false
namespace Tw
section
variable {G T0 : List Nd} {s s' : Stp}
end
section
variable {G T0 : List Nd} {s s' : Stp}
end
end Tw
set_option autoImplicit false
set_option linter.all false
namespace Tw
theorem Hist.mono {n m : Nat} {Ts : List (List Nd)} (h : Hist n Ts) (hn : n ≤ m) : Hist m Ts := ⟨h.ne, h.tr, fun T hT => Nat.le_trans (h.len T hT) hn⟩
theorem ne_same {d : D} (h : D.pl 40 d = true) : D.ne d d = .ok (.bl false) := by
  simp [D.ne, D.good, h, eqv_refl d 40 h]
theorem pl_encT {T : List Nd} (h : ∀ x ∈ T, x.good = true) : D.pl 40 (encT T) = true := pl_tree h 38
theorem Hist.take {n k : Nat} {Ts : List (List Nd)} (h : Hist n Ts) (hk : 0 < k) : Hist n (Ts.take k) :=
  ⟨by
    have := h.ne
    intro z
    rw [List.take_eq_nil_iff] at z
    rcases z with z | z
    · omega
    · exact this z, fun T hT => h.tr T (List.mem_of_mem_take hT), fun T hT => h.len T (List.mem_of_mem_take hT)⟩
theorem Hist.drop {n k : Nat} {Ts : List (List Nd)} (h : Hist n Ts) (hk : k < Ts.length) : Hist n (Ts.drop k) :=
  ⟨by
    intro z
    have := congrArg List.length z
    simp at this
    omega, fun T hT => h.tr T (List.mem_of_mem_drop hT), fun T hT => h.len T (List.mem_of_mem_drop hT)⟩
theorem Hist.at_ {n k : Nat} {Ts : List (List Nd)} (h : Hist n Ts) (hk : k < Ts.length) : Tr (Ts.getD k []) ∧ (Ts.getD k []).length ≤ n := by
  have mem : Ts.getD k [] ∈ Ts := by
    rw [List.getD_eq_getElem?_getD, List.getElem?_eq_getElem hk]
    exact List.getElem_mem _
  exact ⟨h.tr _ mem, h.len _ mem⟩
end Tw
set_option autoImplicit false
set_option linter.all false
namespace Tw
section
variable {G : List Nd} {s : Stp}
end
end Tw
set_option autoImplicit false
set_option linter.all false
namespace Tw
end Tw
set_option autoImplicit false
set_option linter.all false
namespace Tw
section
variable {G : List Nd} {s : Stp}
end
end Tw
set_option autoImplicit false
set_option linter.all false
namespace Tw
section
variable {G T : List Nd} {s : Stp}
end
end Tw
set_option autoImplicit false
set_option linter.all false
namespace Tw
section
variable {G T : List Nd} {s : Stp}
end
end Tw
set_option autoImplicit false
set_option linter.all false
namespace Tw
end Tw
set_option autoImplicit false
set_option linter.all false
namespace Tw
section
variable {G T0 : List Nd} {s s' : Stp}
end
end Tw
set_option autoImplicit false
set_option linter.all false
namespace Tw
section
variable {G T : List Nd}
end
end Tw
set_option autoImplicit false
set_option linter.all false
namespace Tw
end Tw
set_option autoImplicit false
set_option linter.all false
set_option maxRecDepth 4000
namespace Tw
theorem eq_same {d : D} (h : D.pl 40 d = true) : D.eq d d = .ok (.bl true) := by
  simp [D.eq, D.good, h, eqv_refl d 40 h]
end Tw
set_option autoImplicit false
set_option linter.all false
namespace Tw
end Tw
set_option autoImplicit false
set_option linter.all false
namespace Tw
end Tw
set_option autoImplicit false
set_option linter.all false
set_option maxRecDepth 4000
namespace Tw
end Tw
set_option autoImplicit false
set_option linter.all false
namespace Tw
def sTag : Nm := [116, 97, 103]
inductive LStep where
  | deed (d : Deed)
  | tag (n : Nm)
def LStep.enc : LStep → D
  | .deed d => d.enc
  | .tag n => .tup [.str sTag, .str n]
abbrev Kn := List (Nm × List Nd)
def encKn (K : Kn) : List (Ky × D) := K.map fun p => (.str p.1, encT p.2)
abbrev LSt := List Nd × Kn
def encSt (s : LSt) : D := .tup [encT s.1, .dct false (encKn s.2)]
structure Lg where
  first : List Nd
  st : LSt
  past : List (LStep × LSt)
  later : List (LStep × LSt)
def encPa (p : LStep × LSt) : D := .tup [p.1.enc, encSt p.2]
def fsL (L : Lg) : List Fd := [.sh (encT L.first), .sh (encSt L.st), .own (.lst (L.past.map encPa)), .own (.lst (L.later.map encPa))]
section
variable {L : Lg}
theorem now_L : M.m_Ledger_now (fsL L) [] = .ok (encT L.st.1) := rfl
end
end Tw
set_option autoImplicit false
set_option linter.all false
namespace Tw
def knget (K : Kn) (n : Nm) : Option (List Nd) := (K.find? fun p => decide (p.1 = n)).map (·.2)
def knput (K : Kn) (n : Nm) (T : List Nd) : Kn := if n ∈ K.map (·.1) then K.map fun p => if p.1 = n then (p.1, T) else p else K ++ [(n, T)]
theorem kget_Kn (n : Nm) : ∀ K : Kn, kget (.str n) (encKn K) = (knget K n).map encT
  | [] => rfl
  | (m, T) :: K => by
    show kget (.str n) ((.str m, encT T) :: encKn K) = _
    unfold kget knget
    by_cases h : m = n
    · subst h; simp
    · rw [if_neg (by simpa using h)]
      have ih := kget_Kn n K
      unfold knget at ih
      rw [ih, List.find?_cons, decide_eq_false h]
theorem knget_isSome {K : Kn} {n : Nm} : (knget K n).isSome = decide (n ∈ K.map (·.1)) := by
  unfold knget
  rw [Option.isSome_map, Bool.eq_iff_iff, List.find?_isSome, decide_eq_true_eq, List.mem_map]
  constructor
  · rintro ⟨p, hp, e⟩; exact ⟨p, hp, by simpa using e⟩
  · rintro ⟨p, hp, e⟩; exact ⟨p, hp, by simpa using e⟩
theorem khas_Kn (n : Nm) (K : Kn) : khas (.str n) (encKn K) = decide (n ∈ K.map (·.1)) := by
  unfold khas
  rw [kget_Kn, Option.isSome_map, knget_isSome]
theorem knput_keys (K : Kn) (n : Nm) (T : List Nd) : (knput K n T).map (·.1) = if n ∈ K.map (·.1) then K.map (·.1) else K.map (·.1) ++ [n] := by
  unfold knput
  by_cases h : n ∈ K.map (·.1)
  · rw [if_pos h, if_pos h, List.map_map]
    refine List.map_congr_left fun p _ => ?_
    by_cases e : p.1 = n <;> simp [e]
  · rw [if_neg h, if_neg h, List.map_append]; rfl
theorem knput_nd {K : Kn} {n : Nm} {T : List Nd} (h : (K.map (·.1)).Nodup) : ((knput K n T).map (·.1)).Nodup := by
  rw [knput_keys]
  by_cases k : n ∈ K.map (·.1)
  · rw [if_pos k]; exact h
  · rw [if_neg k]
    exact List.nodup_append.mpr ⟨h, by simp, fun a ha b hb e => by simp at hb; subst hb; subst e; exact k ha⟩
theorem notIn_Kn {K : Kn} {n : Nm} : D.notIn (.str n) (.dct false (encKn K)) = .ok (.bl (!decide (n ∈ K.map (·.1)))) := by
  show (Res.ofOpt (some (khas (.str n) (encKn K)))).bind _ = _
  rw [khas_Kn]; rfl
theorem idx_Kn {K : Kn} {n : Nm} {T : List Nd} (h : knget K n = some T) : D.idx (.dct false (encKn K)) (.str n) = .ok (encT T) := by
  show Res.ofOpt (kget (.str n) (encKn K)) = _
  rw [kget_Kn, h]; rfl
end Tw
set_option autoImplicit false
set_option linter.all false
namespace Tw
section
variable {L : Lg}
theorem tagged_L {n : Nm} {T : List Nd} (g : goodName n = true) (h : knget L.st.2 n = some T) : M.m_Ledger_tagged (fsL L) [.str n] = .ok (encT T) := by
  have isn := name_ok' (d := .str n) (by
    unfold goodName at g
    simp only [Bool.and_eq_true, decide_eq_true_eq] at g
    simp [smp]; omega)
  have e0 : isNm (.str n) = true := g
  rw [e0] at isn
  have bf : e2 D.idx (bFld 0 2 1) (eC (.int 1)) [.lo 2 (fsL L), .bor (.str n)] = .ok (.dct false (encKn L.st.2)) := rfl
  have hm : n ∈ L.st.2.map (·.1) := by
    have := knget_isSome (K := L.st.2) (n := n)
    rw [h] at this
    exact of_decide_eq_true this.symm
  refine runR_rt rfl ?_
  show M.b_Ledger_tagged [.lo 2 (fsL L), .bor (.str n)] = _
  refine seq_nx (if_f (r := RS.nx _) (tor_f (tnot_b (x := true) (ok_te (ok_call1 rfl isn))) (ok_te (ok_e2 (x := .str n) rfl bf ?_))) rfl) (ret_ok (ok_e2 bf rfl (idx_Kn h)))
  rw [notIn_Kn, decide_eq_true hm]; rfl
end
end Tw
set_option autoImplicit false
set_option linter.all false
namespace Tw
def wNoTag : Nm := [110, 111, 32, 116, 97, 103]
def sBad : Nm := [66, 97, 100]
def behindV (σ : LSt) : LStep → LSt × D
  | .tag n => if n = sBad then (σ, .str wNoTag) else ((σ.1, knput σ.2 n σ.1), .bl (decide (n ∈ σ.2.map (·.1))))
  | .deed d => match doneV σ.1 d with
    | .ok U => ((U, σ.2), .non)
    | .error c => (σ, .str (wordE c))
end Tw
set_option autoImplicit false
set_option linter.all false
namespace Tw
theorem perm_map_ex {α β : Type} {f : α → β} : ∀ {l : List β} {m : List α}, l.Perm (m.map f) → ∃ m' : List α, l = m'.map f ∧ m'.Perm m
  | [], m, h => by
    have := h.symm.eq_nil
    cases m with
    | nil => exact ⟨[], rfl, .refl _⟩
    | cons _ _ => simp at this
  | a :: l, m, h => by
    have ha : a ∈ m.map f := h.mem_iff.mp (by simp)
    obtain ⟨x, hx, rfl⟩ := List.mem_map.mp ha
    obtain ⟨s, t, rfl⟩ := List.append_of_mem hx
    have h2 : l.Perm ((s ++ t).map f) := by
      refine List.Perm.cons_inv (a := f x) (h.trans ?_)
      rw [List.map_append, List.map_append, List.map_cons]
      exact List.perm_middle
    obtain ⟨m', e, p⟩ := perm_map_ex h2
    exact ⟨x :: m', by rw [e]; rfl, (List.Perm.cons x p).trans List.perm_middle.symm⟩
section
variable {L : Lg}
theorem tags_L (hl : L.st.2.length < 60) (ok : ∀ n ∈ L.st.2.map (·.1), okNm n = true) : ∃ ns : List Nm, ns.Perm (L.st.2.map (·.1)) ∧ M.m_Ledger_tags (fsL L) [] = .ok (.lst (ns.map D.str)) := by
  have ky : ((encKn L.st.2).map fun kv => kv.1.toD) = (L.st.2.map (·.1)).map D.str := by
    unfold encKn
    rw [List.map_map, List.map_map]
    rfl
  have so : sortable ((L.st.2.map (·.1)).map D.str) = true := by
    unfold sortable
    rw [Bool.and_eq_true]
    refine ⟨List.all_eq_true.mpr fun x hx => ?_, ?_⟩
    · obtain ⟨n, hn, rfl⟩ := List.mem_map.mp hx
      have := ok n hn
      unfold okNm at this
      simpa [D.flat] using this
    · have : ((L.st.2.map (·.1)).map D.str).all (fun x => x.kind == 3) = true := List.all_eq_true.mpr fun x hx => by
        obtain ⟨n, hn, rfl⟩ := List.mem_map.mp hx
        rfl
      rw [this]
      simp
  have sd : D.sortedD (.dct false (encKn L.st.2)) = .ok (.lst (sortD ((L.st.2.map (·.1)).map D.str))) := by
    show (if (encKn L.st.2).length < 64 then D.sorted (.lst ((encKn L.st.2).map fun kv => kv.1.toD)) else .stk) = _
    rw [if_pos (by unfold encKn; rw [List.length_map]; omega), ky, sorted_eq so (by rw [List.length_map, List.length_map]; omega)]
  obtain ⟨ns, e, p⟩ := perm_map_ex (f := D.str) (m := L.st.2.map (·.1)) (l := sortD ((L.st.2.map (·.1)).map D.str)) (by unfold sortD; exact List.mergeSort_perm _ _)
  refine ⟨ns, p, ?_⟩
  rw [e] at sd
  exact runR_rt rfl (ret_ok (ok_e1 (x := .dct false (encKn L.st.2)) rfl sd))
theorem all_of_same (hl : L.st.2.length < 60) (nd : (L.st.2.map (·.1)).Nodup) (okn : ∀ n ∈ L.st.2.map (·.1), goodName n = true) (tr : ∀ p ∈ L.st.2, Tr p.2) (hT : Tr L.st.1) : ∃ d, M.m_all_of_L (fsL L) [] = .ok d ∧ D.neX d (encSt L.st) = .ok (.bl false) := by
  obtain ⟨ns, p, tg⟩ := tags_L (L := L) hl fun n hn => good_okNm (okn n hn)
  let val : Nm → List Nd := fun n => (knget L.st.2 n).getD []
  have gv : ∀ n ∈ ns, knget L.st.2 n = some (val n) ∧ Tr (val n) := fun n hn => by
    have hm := p.mem_iff.mp hn
    have is := knget_isSome (K := L.st.2) (n := n)
    rw [decide_eq_true hm] at is
    obtain ⟨T, hT⟩ := Option.isSome_iff_exists.mp is
    have e : val n = T := by show (knget L.st.2 n).getD [] = T; rw [hT]; rfl
    rw [e]
    refine ⟨hT, ?_⟩
    unfold knget at hT
    cases q : L.st.2.find? fun p => decide (p.1 = n) with
    | none => rw [q] at hT; cases hT
    | some r =>
      rw [q] at hT
      cases hT
      exact tr r (List.mem_of_find?_eq_some q)
  have ll : ns.length = L.st.2.length := by rw [p.length_eq, List.length_map]
  let K' : Kn := ns.map fun n => (n, val n)
  have nd' : (K'.map (·.1)).Nodup := by
    have : K'.map (·.1) = ns := by show (ns.map fun n => (n, val n)).map (·.1) = ns; rw [List.map_map]; exact List.map_id _
    rw [this]; exact p.nodup_iff.mpr nd
  have dk : D.dictK (.lst (ns.map fun n => D.tup [.str n, encT (val n)])) = .ok (.dct false (encKn K')) := by
    have pr : ∀ l : List Nm, pairs? (l.map fun n => D.tup [.str n, encT (val n)]) = some (encKn (l.map fun n => (n, val n))) := fun l => by
      induction l with
      | nil => rfl
      | cons n l ih =>
        show pairs? (D.tup [.str n, encT (val n)] :: l.map fun n => D.tup [.str n, encT (val n)]) = _
        simp only [pairs?, pair?, D.key?, ih]
        rfl
    have e : kmerge [] (encKn K') = encKn K' := by
      rw [kmerge_new _ _ (fun p _ => rfl)]
      · rfl
      · unfold encKn
        rw [List.map_map]
        exact List.pairwise_map.mpr ((List.pairwise_map.mp nd').imp fun h e => h (by simpa using e))
    simp only [D.dictK, pr]
    rw [if_pos (by simp [encKn, Ky.isTup])]
    show Res.ok (D.dct false (kmerge [] (encKn K'))) = _
    rw [e]
  refine ⟨.tup [encT L.st.1, .dct false (encKn K')], runR_rt rfl (ret_ok (ok_tup2 (meth0_ok rfl now_L) (ok_e1 (x := .lst (ns.map fun n => D.tup [.str n, encT (val n)])) (ok_compM (L := ns) (m := D.str) (ok_itL (meth0_ok rfl tg)) (by omega) fun n hn => ct_some rfl rfl (ok_tup2 rfl (meth1_ok rfl rfl (tagged_L (okn n (p.mem_iff.mp hn)) (gv n hn).1)))) dk))), ?_⟩
  have g0 : D.good (encT L.st.1) = true := pl_encT hT.good
  have ek : eqK (encKn K') (encKn L.st.2) = true := by
    unfold eqK
    rw [Bool.and_eq_true, decide_eq_true_eq]
    refine ⟨by unfold encKn; rw [List.length_map, List.length_map, List.length_map, ll], List.all_eq_true.mpr fun x hx => ?_⟩
    obtain ⟨r, hr, rfl⟩ := List.mem_map.mp hx
    obtain ⟨n, hn, rfl⟩ := List.mem_map.mp hr
    obtain ⟨g1, g2⟩ := gv n hn
    have gt : D.good (encT (val n)) = true := pl_encT g2.good
    show (match kget (.str n) (encKn L.st.2) with | some d => D.isTp (encT (val n)) && D.isTp d && (D.good (encT (val n)) && D.good d) && D.eqv (encT (val n)) d | none => false) = true
    rw [kget_Kn, g1]
    show (D.isTp (encT (val n)) && D.isTp (encT (val n)) && (D.good (encT (val n)) && D.good (encT (val n))) && D.eqv (encT (val n)) (encT (val n))) = true
    rw [gt, eqv_refl _ 40 gt]
    rfl
  show (if (D.isTp (encT L.st.1) && D.isTp (encT L.st.1) && (D.good (encT L.st.1) && D.good (encT L.st.1)) && D.eqv (encT L.st.1) (encT L.st.1)) && eqK (encKn K') (encKn L.st.2) then Res.ok (D.bl false) else .stk) = _
  rw [g0, eqv_refl _ 40 g0, ek]
  rfl
end
end Tw
set_option autoImplicit false
set_option linter.all false
set_option maxRecDepth 4000
namespace Tw
def StepOk : LStep → Prop
  | .deed d => d.good = true
  | .tag n => n.length ≤ 100 ∧ okNm n = true ∧ (goodName n = true ↔ n ≠ sBad)
def isStr : D → Bool
  | .str _ => true
  | _ => false
def nextL (L : Lg) (s : LStep) : Lg := if isStr (behindV L.st s).2 then L else ⟨L.first, (behindV L.st s).1, L.past ++ [(s, L.st)], []⟩
structure WfS (n : Nat) (σ : LSt) : Prop where
  tr : Tr σ.1
  len : σ.1.length ≤ n
  nd : (σ.2.map (·.1)).Nodup
  nm : ∀ m ∈ σ.2.map (·.1), goodName m = true
  trs : ∀ p ∈ σ.2, Tr p.2
  few : σ.2.length ≤ n
theorem WfS.mono {n m : Nat} {σ : LSt} (h : WfS n σ) (l : n ≤ m) : WfS m σ := ⟨h.tr, Nat.le_trans h.len l, h.nd, h.nm, h.trs, Nat.le_trans h.few l⟩
theorem behind_wf {n : Nat} {σ : LSt} {s : LStep} (hs : StepOk s) (h : WfS n σ) (hn : n ≤ 800) : WfS (n + 1) (behindV σ s).1 := by
  cases s with
  | tag m =>
    obtain ⟨_, _, h3⟩ := hs
    by_cases q : m = sBad
    · have e : behindV σ (.tag m) = (σ, .str wNoTag) := by show (if m = sBad then _ else _) = _; rw [if_pos q]
      rw [e]; exact h.mono (Nat.le_succ _)
    · have e : behindV σ (.tag m) = ((σ.1, knput σ.2 m σ.1), .bl (decide (m ∈ σ.2.map (·.1)))) := by show (if m = sBad then _ else _) = _; rw [if_neg q]
      rw [e]
      have gm := h3.mpr q
      refine ⟨h.tr, Nat.le_succ_of_le h.len, knput_nd h.nd, fun x hx => ?_, fun p hp => ?_, ?_⟩
      · rw [show ((σ.1, knput σ.2 m σ.1) : LSt).2 = knput σ.2 m σ.1 from rfl, knput_keys] at hx
        by_cases k : m ∈ σ.2.map (·.1)
        · rw [if_pos k] at hx; exact h.nm x hx
        · rw [if_neg k] at hx
          rcases List.mem_append.mp hx with z | z
          · exact h.nm x z
          · simp at z; subst z; exact gm
      · have hp : p ∈ knput σ.2 m σ.1 := hp
        unfold knput at hp
        by_cases k : m ∈ σ.2.map (·.1)
        · rw [if_pos k] at hp
          obtain ⟨r, hr, rfl⟩ := List.mem_map.mp hp
          by_cases z : r.1 = m
          · rw [if_pos z]; exact h.tr
          · rw [if_neg z]; exact h.trs r hr
        · rw [if_neg k] at hp
          rcases List.mem_append.mp hp with z | z
          · exact h.trs p z
          · simp at z; subst z; exact h.tr
      · show (knput σ.2 m σ.1).length ≤ n + 1
        have := h.few
        unfold knput
        split
        · rw [List.length_map]; omega
        · rw [List.length_append]; simp; omega
  | deed d =>
    cases q : doneV σ.1 d with
    | ok U =>
      have e : behindV σ (.deed d) = ((U, σ.2), .non) := by unfold behindV; simp only [q]
      rw [e]
      obtain ⟨tU, lU⟩ := doneV_len h.tr (by have := h.len; omega) hs q
      exact ⟨tU, by have := h.len; show U.length ≤ n + 1; omega, h.nd, h.nm, h.trs, Nat.le_succ_of_le h.few⟩
    | error c =>
      have e : behindV σ (.deed d) = (σ, .str (wordE c)) := by unfold behindV; simp only [q]
      rw [e]; exact h.mono (Nat.le_succ _)
end Tw
set_option autoImplicit false
set_option linter.all false
set_option maxRecDepth 4000
namespace Tw
structure At (n : Nat) (rows : List LSt) (words : List LStep) (at_ : Nat) (L : Lg) : Prop where
  len : rows.length = words.length + 1
  ale : at_ ≤ words.length
  st : rows[at_]? = some L.st
  past : L.past = (words.take at_).zip (rows.take at_)
  later : L.later = ((words.drop at_).zip (rows.drop (at_ + 1))).reverse
  wf : ∀ σ ∈ rows, WfS n σ
section
variable {n at_ : Nat} {rows : List LSt} {words : List LStep} {L : Lg}
theorem At.mono {m : Nat} (h : At n rows words at_ L) (l : n ≤ m) : At m rows words at_ L := ⟨h.len, h.ale, h.st, h.past, h.later, fun σ hσ => (h.wf σ hσ).mono l⟩
theorem At.wfst (h : At n rows words at_ L) : WfS n L.st := h.wf _ (List.mem_of_getElem? h.st)
theorem At.step {s : LStep} (h : At n rows words at_ L) (hs : StepOk s) (hn : n ≤ 800) (q : isStr (behindV L.st s).2 = false) : At (n + 1) (rows.take (at_ + 1) ++ [(behindV L.st s).1]) (words.take at_ ++ [s]) (at_ + 1) (nextL L s) := by
  have nl : nextL L s = ⟨L.first, (behindV L.st s).1, L.past ++ [(s, L.st)], []⟩ := by unfold nextL; rw [q]; rfl
  have la := h.ale
  have ll := h.len
  have lr : (rows.take (at_ + 1)).length = at_ + 1 := by rw [List.length_take]; omega
  have lw : (words.take at_).length = at_ := by rw [List.length_take]; omega
  have tk : rows.take (at_ + 1) = rows.take at_ ++ [L.st] := by rw [List.take_succ, h.st]; rfl
  rw [nl]
  refine ⟨by rw [List.length_append, List.length_append, lr, lw]; rfl, by rw [List.length_append, lw]; simp, ?_, ?_, ?_, fun σ hσ => ?_⟩
  · rw [List.getElem?_append_right (by omega), lr]; simp
  · show L.past ++ [(s, L.st)] = _
    rw [List.take_of_length_le (by rw [List.length_append, lw]; simp : (words.take at_ ++ [s]).length ≤ at_ + 1), List.take_append_of_le_length (by omega), List.take_of_length_le (by omega : (rows.take (at_ + 1)).length ≤ at_ + 1), tk, h.past]
    rw [List.zip_append (by rw [lw, List.length_take]; omega)]
    rfl
  · rw [List.drop_eq_nil_of_le (by rw [List.length_append, lw]; simp : (words.take at_ ++ [s]).length ≤ at_ + 1)]
    rfl
  · rcases List.mem_append.mp hσ with z | z
    · exact (h.wf σ (List.mem_of_mem_take z)).mono (Nat.le_succ _)
    · simp at z; subst z; exact behind_wf hs h.wfst hn
end
theorem At.next {n : Nat} {rows : List LSt} {words : List LStep} {L : Lg} {s : LStep} (h : At n rows words words.length L) (hs : StepOk s) (hn : n ≤ 800) : ∃ rows' words', At (n + 1) rows' words' words'.length (nextL L s) ∧ rows' = rows ++ (if isStr (behindV L.st s).2 then [] else [(behindV L.st s).1]) ∧ words' = words ++ (if isStr (behindV L.st s).2 then [] else [s]) := by
  cases q : isStr (behindV L.st s).2 with
  | true =>
    have nl : nextL L s = L := by unfold nextL; rw [q]; rfl
    exact ⟨rows, words, by rw [nl]; exact h.mono (Nat.le_succ _), by simp, by simp⟩
  | false =>
    have st := h.step hs hn q
    have ll := h.len
    rw [List.take_of_length_le (by omega), List.take_of_length_le (Nat.le_refl _)] at st
    exact ⟨_, _, by simpa using st, rfl, rfl⟩
theorem At.all {n at_ : Nat} {rows : List LSt} {words : List LStep} {L : Lg} (h : At n rows words at_ L) (hn : n < 60) : ∃ d, M.m_all_of_L (fsL L) [] = .ok d ∧ D.neX d (encSt L.st) = .ok (.bl false) := by
  have w := h.wfst
  exact all_of_same (L := L) (by have := w.few; omega) w.nd w.nm w.trs w.tr
end Tw
set_option autoImplicit false
set_option linter.all false
set_option maxRecDepth 10000
namespace Tw.K14
theorem ok_itTH {f : E} {e : Env} {ds : List D} (h : f e = .ok (.tup ds)) : iEH f e = .ok ds := by
  unfold iEH
  rw [h]
  rfl
theorem graftH_ok {U : List Nd} (hU : ∀ x ∈ U, okNm x.nm = true) (lU : U.length ≤ 1000) : m_grafted_H [encT [], .int 0, encT U] = .ok (encT (graftV [] 0 U)) := by
  refine runD_rt rfl ?_
  show Rt _ (b_grafted_H [.bor (encT []), .sh (.int 0), .bor (encT U), .un, .un, .un, .un, .un, .un, .un, .un])
  unfold b_grafted_H
  have lf : m_look_folder_H [encT [], .int 0] = .ok .non := rfl
  refine p_drop (ok_call2 rfl rfl lf) ?_
  refine p_own (d := .lst []) (ok_comp (L := ([] : List Nd)) (m := Nd.enc) (h := fun x => D.str x.nm) (fun x => decide (x.p = 0)) (ok_itTH rfl) (by simp) fun x hx => by cases hx) ?_
  refine p_frz rfl ?_
  have c2 : e1 D.any (eComp (iEH (eB 2)) [4] (gN 4) tTrue (eAnd (e2 D.eq (e2 D.idx (eB 4) (eC (.int 1))) (eC (.int 0))) (e2 D.isIn (e2 D.idx (eB 4) (eC (.int 2))) (eB 3)))) [.bor (encT []), .sh (.int 0), .bor (encT U), .sh (.lst []), .un, .un, .un, .un, .un, .un, .un] = .ok (.bl false) := by
    refine ok_e1 (x := .lst (U.map fun x => D.bl false)) (ok_compM (L := U) (m := Nd.enc) (ok_itTH rfl) (by omega) fun x hx => ?_) ?_
    · have ii := isIn_strs (l := []) (hU x hx) (fun _ z => nomatch z)
      simp only [List.map_nil, List.not_mem_nil, decide_false] at ii
      by_cases k : x.p = 0 <;> simp [Nd.enc, k, ii]
    · rw [ev_any (bools_fn (fun _ => false) U)]
      congr 2
      rw [List.any_map, List.any_eq_false]
      intro x _
      simp
  refine p_chk (ok_te c2) ?_
  have mo := most0_ok (O := []) ⟨fun _ z => (nomatch z), List.nodup_nil, List.nodup_nil, fun _ z => (nomatch z)⟩
  refine p_set (d := .int (mostV [])) (ok_e1 (ok_e2 (x := .lst [.int 0]) (y := .lst []) (by simp) (ok_compM (L := ([] : List Nd)) (m := Nd.enc) (h := fun x => D.int x.n) (ok_itTH rfl) (by simp) fun x hx => by cases hx) (add_lst (by simp))) (show D.maxL (.lst [D.int 0]) = _ from mo)) ?_
  refine p_own (d := .lst ((U.map (Nd.gr 0 (mostV []))).map Nd.enc)) ((ok_compM (L := U) (m := Nd.enc) (h := fun x => (x.gr 0 (mostV [])).enc) (ok_itTH rfl) (by omega) fun x hx => ?_).trans (by rw [List.map_map]; rfl)) ?_
  · by_cases k : x.p = 0 <;> simp [Nd.enc, Nd.gr, k]
  refine p_frz rfl ?_
  refine p_ret (ok_e2 (x := encT []) (y := .tup ((U.map (Nd.gr 0 (mostV []))).map Nd.enc)) rfl (ok_e1 rfl rfl) ?_)
  unfold graftV encT
  rw [List.map_append]
  exact add_tups (by simp; omega)
theorem ok_sl {a : E} {lo hi : Option E} {e : Env} {x r : D} {l h : Option Int} (h1 : a e = .ok x) (h2 : eP lo e = .ok l) (h3 : eP hi e = .ok h) (h4 : D.cut l h x = .ok r) : eSl a lo hi e = .ok r := by
  unfold eSl
  rw [h1]
  simp only [Res.bind_ok]
  rw [h2]
  simp only [Res.bind_ok]
  rw [h3]
  exact h4
theorem ok_ep {a : E} {e : Env} {i : Int} (h : a e = .ok (.int i)) : eP (some a) e = .ok (some i) := by
  show ((a e).bind fun x => x.asI.bind fun i => .ok (some i)) = _
  rw [h]
  rfl
def L4 : List Nm := [[97], [98], [99], [97, 98, 99, 100, 101]]
theorem L4_ok : ∀ s ∈ L4, okNm s = true := by decide
theorem sorted_keys {T : List Nd} (h : Tr T) (hl : T.length < 64) : D.sortedD (.dct false (bookOf T)) = .ok (.lst (T.map fun x => D.int x.n)) := by
  have l : (bookOf T).length < 64 := by simp [bookOf]; omega
  show (if (bookOf T).length < 64 then D.sorted (.lst ((bookOf T).map fun kv => kv.1.toD)) else .stk) = _
  rw [if_pos l, keys_book]
  exact sorted_book h
theorem cmps_strs : ∀ p q : List Nm, D.cmps (p.map D.str) (q.map D.str) = true
  | [], _ => by simp [D.cmps]
  | _ :: _, [] => by simp [D.cmps]
  | s :: p, t :: q => by
    simp only [List.map_cons, D.cmps, cmps_strs p q]
    split
    · rfl
    · simp [D.alk]
theorem sortable_paths {T : List Nd} (h : Tr T) : sortable (T.map fun x => strD (path T x.n)) = true := by
  have ne : ∀ x ∈ T, ∃ s r, path T x.n = s :: r := fun x hx => by
    rw [path_cons h.toWh hx]
    cases path T x.p with
    | nil => exact ⟨_, _, rfl⟩
    | cons s r => exact ⟨_, _, rfl⟩
  unfold sortable
  rw [Bool.and_eq_true]
  refine ⟨?_, ?_⟩
  · rw [List.all_eq_true]
    intro d hd
    obtain ⟨x, hx, rfl⟩ := List.mem_map.mp hd
    exact flat_strD' (ok_path h.toWh (.inr (mem_nums hx)))
  · rw [Bool.or_eq_true]
    right
    rw [Bool.and_eq_true, List.all_eq_true, List.all_eq_true]
    refine ⟨fun d hd => ?_, fun d hd => ?_⟩
    · obtain ⟨x, hx, rfl⟩ := List.mem_map.mp hd
      obtain ⟨s, r, e⟩ := ne x hx
      rw [Bool.and_eq_true, List.all_eq_true]
      refine ⟨by rw [e]; rfl, fun d2 hd2 => ?_⟩
      obtain ⟨y, hy, rfl⟩ := List.mem_map.mp hd2
      obtain ⟨s2, r2, e2⟩ := ne y hy
      rw [e, e2]; rfl
    · obtain ⟨x, hx, rfl⟩ := List.mem_map.mp hd
      rw [List.all_eq_true]
      intro d2 hd2
      obtain ⟨y, hy, rfl⟩ := List.mem_map.mp hd2
      exact cmps_strs _ _
theorem sorted_paths {T : List Nd} (h : Tr T) : D.sorted (.lst (T.map fun x => strD (path T x.n))) = .ok (.lst ((walkV T).map fun a => strD a.1)) := by
  rw [sorted_eq (sortable_paths h) (by rw [List.length_map]; exact h.len)]
  have := List.map_mergeSort (r := fun a b : PN => D.le (encP a) (encP b)) (s := D.le) (f := fun a : PN => strD a.1) (l := pathL T) fun a ha b hb => le_encP (pathL_ok h.toWh a ha) (pathL_ok h.toWh b hb) fun e => by
    obtain ⟨x, hx, rfl⟩ := List.mem_map.mp ha
    obtain ⟨y, hy, rfl⟩ := List.mem_map.mp hb
    rw [path_inj' h.toWh hx hy e]
  unfold walkV sortP
  rw [this]
  unfold sortD pathL
  rw [List.map_map]
  rfl
abbrev env (S : D) (T U T0 : List Nd) (N : List Nm) (M : List Nd) (x6 x7 x8 x9 x10 x11 x12 x13 x14 x15 x16 x17 x18 x19 : Slot) : Env := [.bor S, .sh (encT T), .sh (encT U), .sh (.dct false (bookOf T0)), .sh (.lst (N.map D.str)), .sh (encT M), x6, x7, x8, x9, x10, x11, x12, x13, x14, x15, x16, x17, x18, x19]
def b_tail : S := (sSeq (sSet 14 (e1 D.maxL (e2 D.add (eLst [(eC (.int 0))]) (eComp (iE (eB 1)) [10] (gN 10) tTrue (e2 D.idx (eB 10) (eC (.int 0))))))) (sSeq (sOwn 15 (eComp (iE (eCall M.m_seen [(eB 2), (eB 4)])) [8, 16, 6, 17] (gT [(gN 8), (gN 16), (gN 6), (gN 17)]) tTrue (eTup [(e2 D.add (eB 8) (eB 14)), (e2 D.add (eB 16) (e2 D.mul (eB 14) (e1 D.toInt (e2 D.gtI (eB 16) (eC (.int 0)))))), (eV 6), (eV 17)]))) (sSeq (sFrz 15) (sSeq (sIf (tE (e2 D.ne (eCall M.m_seen [(eB 13), (eB 4)]) (e2 D.add (eB 5) (e1 D.toTup (eB 15))))) (sRet (eC (.bl false))) sNil) (sSeq (sIf (tOr (tE (e2 D.ne (eCall M.m_is_quiet [(eB 1), (eB 13), (eB 4)]) (e2 D.eq (eB 15) (eLst [])))) (tE (e2 D.ne (e2 D.eq (eCall M.m_change_seen [(eB 1), (eB 13), (eB 4)]) (eTup [])) (e2 D.eq (eB 15) (eLst []))))) (sRet (eC (.bl false))) sNil) (sSeq (sSet 18 (eCall M.m_seen [(eB 13), (eB 4)])) (sRet (e2 D.eq (eComp (iE (eCall M.m_walked [(eB 18)])) [19] (gN 19) tTrue (e2 D.idx (eB 19) (eC (.int 0)))) (e1 D.sorted (eComp (iE (eB 18)) [10] (gN 10) tTrue (eCall M.m_path_of [(eB 13), (e2 D.idx (eB 10) (eC (.int 0)))])))))))))))
def b_body : S := (sSeq (sSet 9 (eCall M.m_path_L [(eB 3), (eB 7)])) (sSeq (sIf (tE (e2 D.ne (eComp (iE (eB 9)) [6] (gN 6) (tE (e2 D.isIn (eB 6) (eB 4))) (eV 6)) (eLst []))) (sSeq (sIf (tE (e2 D.isIn (eB 7) (eComp (iE (eB 5)) [10] (gN 10) tTrue (e2 D.idx (eB 10) (eC (.int 0)))))) (sRet (eC (.bl false))) sNil) sCnt) sNil) (sSeq (sIf (tE (e2 D.ne (eCall M.m_cut_out [(eB 5), (eB 7)]) (eCall M.m_seen [(eCall M.m_cut_out [(eB 1), (eB 7)]), (eB 4)]))) (sRet (eC (.bl false))) sNil) (sSeq (sIf (tE (e2 D.ne (eComp (iZip2 (eCall M.m_total [(eB 5), (eB 7)]) (eCall M.m_total [(eB 1), (eB 7)])) [11, 12] (gT [(gN 11), (gN 12)]) (tE (e2 D.gtI (eB 11) (eB 12))) (eC (.int 1))) (eLst []))) (sRet (eC (.bl false))) sNil) (sIf (tE (e2 D.ne (eCall M.m_seen [(eCall M.m_without [(eB 1), (eB 7)]), (eB 4)]) (eCall M.m_without [(eB 5), (eB 7)]))) (sRet (eC (.bl false))) sNil)))))
theorem pl_encs {T : List Nd} (h : ∀ x ∈ T, x.good = true) : D.pl 40 (.lst (T.map Nd.enc)) = true := by
  have := pl_encT h
  exact this
theorem tail_ok {S : D} {T U T0 : List Nd} {N : List Nm} (hN : ∀ s ∈ N, okNm s = true) (hT : Tr T) (hU : Tr U) (lT : T.length ≤ 8) (lU : U.length ≤ 5) (hG : Tr (graftV T 0 U)) (x6 x7 x8 x9 x10 x11 x12 x14 x15 x16 x17 x18 x19 : Slot) :
    Rt (.bl true) (b_tail (env S T U T0 N (seenV T N) x6 x7 x8 x9 x10 x11 x12 (.sh (encT (graftV T 0 U))) x14 x15 x16 x17 x18 x19)) := by
  unfold b_tail
  have mo := most0_ok hT.toWh
  have sU := seen_ok hU hN
  have lSU := seen_len U N
  have sG := seen_ok hG hN
  have gs := seen_graft (N := N) hT hU
  have hM := seen_tr hG N
  have lG := graft_len T 0 U
  have lM := seen_len (graftV T 0 U) N
  have iq := is_quiet_ok hT hG hN
  have cs := change_seen_ok hT hG hN (by omega)
  have cn := chg_nil (seen_tr hT N) hM
  have cg := (chg_ok (seen_wh hT.toWh N) hM.toWh).good
  generalize hGG : graftV T 0 U = G at *
  refine p_set (d := .int (mostV T)) (ok_e1 (ok_e2 (x := .lst [.int 0]) (y := .lst (T.map fun x => D.int x.n)) (by simp) (ok_compM (L := T) (m := Nd.enc) (h := fun x => D.int x.n) (ok_itT rfl) (by omega) fun x _ => by simp) (add_lst (by simp; omega))) (show D.maxL (.lst ([D.int 0] ++ T.map fun x => D.int x.n)) = _ from mo)) ?_
  generalize hD : (seenV U N).map (Nd.gr 0 (mostV T)) = due at gs
  have lD : due.length ≤ 5 := by rw [← hD, List.length_map]; omega
  refine p_own (d := .lst (due.map Nd.enc)) ?_ ?_
  · rw [← hD]
    refine (ok_compM (L := seenV U N) (m := Nd.enc) (h := fun x => (x.gr 0 (mostV T)).enc) (ok_itT (ok_call2 rfl rfl sU)) (by omega) fun x hx => ?_).trans (by rw [List.map_map]; rfl)
    have hx := (mem_seen.mp hx).1
    have p0 : 0 ≤ x.p := Nd.good_p (hU.good x hx)
    by_cases k : x.p = 0
    · have m0 : (D.int (mostV T)).mul (D.int 0) = .ok (.int 0) := by
        show (if smallI (mostV T) || smallI 0 then Res.ok (D.int (mostV T * 0)) else .stk) = _
        rw [if_pos (by rw [show smallI 0 = true from rfl, Bool.or_true]), Int.mul_zero]
      simp [Nd.enc, Nd.gr, k, D.toInt, m0]
    · have m1 : (D.int (mostV T)).mul (D.int 1) = .ok (.int (mostV T)) := by
        show (if smallI (mostV T) || smallI 1 then Res.ok (D.int (mostV T * 1)) else .stk) = _
        rw [if_pos (by rw [show smallI 1 = true from rfl, Bool.or_true]), Int.mul_one]
      have k2 : 0 < x.p := by omega
      simp [Nd.enc, Nd.gr, k, k2, D.toInt, m1]
  refine p_frz rfl ?_
  have gd : ∀ x ∈ due, x.good = true := fun x hx => hM.good x (by rw [gs]; exact List.mem_append_right _ hx)
  have ad : D.add (encT (seenV T N)) (.tup (due.map Nd.enc)) = .ok (encT (seenV G N)) := by
    have := seen_len T N
    refine (add_tups (x := (seenV T N).map Nd.enc) (y := due.map Nd.enc) (by simp; omega)).trans ?_
    rw [gs]
    unfold encT
    rw [List.map_append]
  refine p_chk (ok_te (ok_e2 (x := encT (seenV G N)) (y := encT (seenV G N)) (ok_call2 rfl rfl sG) (ok_e2 rfl (ok_e1 (x := .lst (due.map Nd.enc)) rfl rfl) ad) (ne_same (pl_encT hM.good)))) ?_
  have ed : D.eq (.lst (due.map Nd.enc)) (.lst []) = .ok (.bl (decide (due = []))) := by
    rw [eq_nil' (pl_encs gd)]
    cases due <;> rfl
  have q1 : decide (seenV T N = seenV G N) = decide (due = []) := by
    rw [decide_eq_decide, gs]
    constructor
    · intro z
      have := congrArg List.length z
      rw [List.length_append] at this
      exact List.length_eq_zero_iff.mp (by omega)
    · intro z; rw [z, List.append_nil]
  have q2 : decide (chgV (seenV T N) (seenV G N) = []) = decide (due = []) := by
    rw [← q1, decide_eq_decide, cn]
  have ec : D.eq (encC (chgV (seenV T N) (seenV G N))) (.tup []) = .ok (.bl (decide (chgV (seenV T N) (seenV G N) = []))) := eq_chg (b := []) cg (fun x h => nomatch h)
  rw [q1] at iq
  rw [q2] at ec
  have ns : ∀ b : Bool, D.ne (.bl b) (.bl b) = .ok (.bl false) := fun b => by cases b <;> rfl
  refine p_chk (tor_f (ok_te (ok_e2 (ok_call3 rfl rfl rfl iq) (ok_e2 rfl rfl ed) (ns _))) (ok_te (ok_e2 (ok_e2 (ok_call3 rfl rfl rfl cs) rfl ec) (ok_e2 rfl rfl ed) (ns _)))) ?_
  refine p_set (ok_call2 rfl rfl sG) ?_
  have wk := walked_ok hM
  have lw : (walkV (seenV G N)).length = (seenV G N).length := walk_len _
  have pp : ∀ x ∈ seenV G N, path G x.n = path (seenV G N) x.n := fun x hx => (path_part hG.toWh hM.toWh (fun y hy => (mem_seen.mp hy).1) (.inr (mem_nums hx))).symm
  refine p_ret (ok_e2 (x := .lst ((walkV (seenV G N)).map fun a => strD a.1)) (y := .lst ((walkV (seenV G N)).map fun a => strD a.1)) (ok_compM (L := walkV (seenV G N)) (m := encP) (ok_itL (ok_call1 rfl wk)) (by omega) fun a _ => by simp [encP]) (ok_e1 (x := .lst ((seenV G N).map fun x => strD (path (seenV G N) x.n))) (ok_compM (L := seenV G N) (m := Nd.enc) (ok_itT rfl) (by omega) fun x hx => ?_) (sorted_paths hM)) (eq_same ?_))
  · have po := path_of_ok hG x.n
    rw [if_pos (mem_nums (mem_seen.mp hx).1), pp x hx] at po
    refine ct_some rfl rfl (ok_call2 rfl rfl po)
  · exact pl_lst1 fun d hd => by
      obtain ⟨a, ha, rfl⟩ := List.mem_map.mp hd
      exact pl_strD (walkV_ok hM.toWh a ha) 38
theorem seq_ct {p q : S} {e e1 : Env} (h : p e = .ct e1) : sSeq p q e = .ct e1 := by unfold sSeq; rw [h]
theorem hid_ne {N : List Nm} {p : List Nm} (hp : okP p = true) : D.ne (.lst ((p.filter fun s => decide (s ∈ N)).map D.str)) (.lst []) = .ok (.bl (hid N p)) := by
  have g : D.pl 40 (.lst ((p.filter fun s => decide (s ∈ N)).map D.str)) = true := by
    simp only [D.pl]
    refine pls_str _ 39 fun s hs => ?_
    unfold okP at hp
    exact List.all_eq_true.mp hp s (List.mem_filter.mp hs).1
  rw [ne_nil g]
  congr 2
  cases q : p.filter fun s => decide (s ∈ N) with
  | nil =>
    have : hid N p = false := by
      unfold hid
      rw [List.any_eq_false]
      intro s hs
      simpa using List.filter_eq_nil_iff.mp q s hs
    rw [this]; rfl
  | cons s r =>
    have hs : s ∈ p.filter fun s => decide (s ∈ N) := by rw [q]; simp
    have : hid N p = true := by
      unfold hid
      rw [List.any_eq_true]
      exact ⟨s, (List.mem_filter.mp hs).1, (List.mem_filter.mp hs).2⟩
    rw [this]; rfl
def R7 (S : D) (T U : List Nd) (N : List Nm) (e : Env) : Prop := ∃ x6 x7 x9, e = env S T U T N (seenV T N) x6 x7 .un x9 .un .un .un .un .un .un .un .un .un .un
theorem body_ok {S : D} {T U : List Nd} {N : List Nm} (hN : ∀ s ∈ N, okNm s = true) (hT : Tr T) (lT : T.length ≤ 8) {g : Int} (hg : g = 0 ∨ g ∈ folL T) (x6 x9 : Slot) :
    Nx (R7 S T U N) (b_body (env S T U T N (seenV T N) x6 (.sh (.int g)) .un x9 .un .un .un .un .un .un .un .un .un .un)) := by
  unfold b_body
  have gn : g = 0 ∨ g ∈ nums T := hg.elim .inl fun z => .inr (fol_nums z)
  have pl := path_L_ok hT.ups gn
  have lp := path_len hT.ups gn
  refine p_set (ok_call2 rfl rfl pl) ?_
  have hM := seen_tr hT N
  have lM := seen_len T N
  have okp := ok_path hT.toWh gn
  have cc : eComp (iE (eB 9)) [6] (gN 6) (tE (e2 D.isIn (eB 6) (eB 4))) (eV 6) (env S T U T N (seenV T N) x6 (.sh (.int g)) .un (.sh (strD (path T g))) .un .un .un .un .un .un .un .un .un .un) = .ok (.lst (((path T g).filter fun s => decide (s ∈ N)).map D.str)) := by
    refine ok_comp (L := path T g) (m := D.str) (h := D.str) (fun s => decide (s ∈ N)) (ok_it rfl rfl) (by omega) fun s hs => ?_
    have okS : okNm s = true := by unfold okP at okp; exact List.all_eq_true.mp okp s hs
    exact ct_if rfl (ok_te (ok_e2 (h := D.isIn) (x := .str s) (y := .lst (N.map D.str)) rfl rfl (isIn_strs okS hN))) fun _ => rfl
  have hn := hid_ne (N := N) okp
  cases hh : hid N (path T g) with
  | true =>
    rw [hh] at hn
    have nin : g ∉ nums (seenV T N) := fun z => by
      obtain ⟨x, hx, rfl⟩ := List.mem_map.mp z
      rw [(mem_seen.mp hx).2] at hh
      cases hh
    have c2 : eComp (iE (eB 5)) [10] (gN 10) tTrue (e2 D.idx (eB 10) (eC (.int 0))) (env S T U T N (seenV T N) x6 (.sh (.int g)) .un (.sh (strD (path T g))) .un .un .un .un .un .un .un .un .un .un) = .ok (.lst ((nums (seenV T N)).map D.int)) := by
      refine (ok_compM (L := seenV T N) (m := Nd.enc) (h := fun x => D.int x.n) (ok_itT rfl) (by omega) fun x _ => by simp).trans (by unfold nums; rw [List.map_map]; rfl)
    have ii := isIn_ints g (nums (seenV T N))
    rw [decide_eq_false nin] at ii
    refine ⟨env S T U T N (seenV T N) x6 (.sh (.int g)) .un (.sh (strD (path T g))) .un .un .un .un .un .un .un .un .un .un, .inr ?_, ⟨x6, .sh (.int g), .sh (strD (path T g)), rfl⟩⟩
    have first : (sIf (tE (e2 D.ne (eComp (iE (eB 9)) [6] (gN 6) (tE (e2 D.isIn (eB 6) (eB 4))) (eV 6)) (eLst []))) (sSeq (sIf (tE (e2 D.isIn (eB 7) (eComp (iE (eB 5)) [10] (gN 10) tTrue (e2 D.idx (eB 10) (eC (.int 0)))))) (sRet (eC (.bl false))) sNil) sCnt) sNil) (env S T U T N (seenV T N) x6 (.sh (.int g)) .un (.sh (strD (path T g))) .un .un .un .un .un .un .un .un .un .un) = .ct (env S T U T N (seenV T N) x6 (.sh (.int g)) .un (.sh (strD (path T g))) .un .un .un .un .un .un .un .un .un .un) := by
      refine if_t (ok_te (ok_e2 cc rfl hn)) (seq_nx (if_f (ok_te (ok_e2 (h := D.isIn) (x := .int g) rfl c2 ii)) rfl) rfl)
    exact seq_ct first
  | false =>
    rw [hh] at hn
    refine p_chk (ok_te (ok_e2 cc rfl hn)) ?_
    have gM : g = 0 ∨ g ∈ folL (seenV T N) := hg.elim .inl fun z => .inr (by
      obtain ⟨x, hx, rfl⟩ := List.mem_map.mp z
      obtain ⟨a, b⟩ := List.mem_filter.mp hx
      exact List.mem_map.mpr ⟨x, List.mem_filter.mpr ⟨mem_seen.mpr ⟨a, hh⟩, b⟩, rfl⟩)
    have pT : parE T g = none := hg.elim (fun z => by rw [z]; rfl) fun z => fol_par hT.nd z
    have pM : parE (seenV T N) g = none := gM.elim (fun z => by rw [z]; rfl) fun z => fol_par hM.nd z
    have gMn : g = 0 ∨ g ∈ nums (seenV T N) := gM.elim .inl fun z => .inr (fol_nums z)
    have k1 := cut_ok hM g
    have k2 := cut_ok hT g
    rw [pM] at k1
    rw [pT] at k2
    simp only at k1 k2
    have k3 := seen_ok (cut_tr hT gn) hN
    rw [← seen_cut hT gMn hh] at k3
    have cM := cut_tr hM gMn
    refine p_chk (ok_te (ok_e2 (ok_call2 rfl rfl k1) (ok_call2 (ok_call2 rfl rfl k2) rfl k3) (ne_same (pl_encT cM.good)))) ?_
    have t1 := total_ok hM g
    have t2 := total_ok hT g
    rw [pM] at t1
    rw [pT] at t2
    simp only at t1 t2
    have sb : (belowV (seenV T N) g).Sublist (belowV T g) := by rw [seen_below hT]; exact List.filter_sublist
    obtain ⟨z1, z2, z3⟩ := tot_le hT sb fun x hx => belowV_sub hx
    have zz : eComp (iZip2 (eCall M.m_total [(eB 5), (eB 7)]) (eCall M.m_total [(eB 1), (eB 7)])) [11, 12] (gT [(gN 11), (gN 12)]) (tE (e2 D.gtI (eB 11) (eB 12))) (eC (.int 1)) (env S T U T N (seenV T N) x6 (.sh (.int g)) .un (.sh (strD (path T g))) .un .un .un .un .un .un .un .un .un .un) = .ok (.lst []) := by
      have it : iZip2 (eCall M.m_total [(eB 5), (eB 7)]) (eCall M.m_total [(eB 1), (eB 7)]) (env S T U T N (seenV T N) x6 (.sh (.int g)) .un (.sh (strD (path T g))) .un .un .un .un .un .un .un .un .un .un) = .ok ([((((belowV (seenV T N) g).length : Int) - (stamps (belowV (seenV T N) g)).length), (((belowV T g).length : Int) - (stamps (belowV T g)).length)), (((stamps (belowV (seenV T N) g)).length : Int), ((stamps (belowV T g)).length : Int)), ((stamps (belowV (seenV T N) g)).sum, (stamps (belowV T g)).sum)].map fun a : Int × Int => D.tup [.int a.1, .int a.2]) := by
        unfold iZip2
        rw [ok_call2 (x := encT (seenV T N)) (y := .int g) rfl rfl t1]
        simp only [Res.bind_ok]
        rw [ok_call2 (x := encT T) (y := .int g) rfl rfl t2]
        rfl
      refine (ok_comp (h := fun _ => D.int 1) (fun a : Int × Int => decide (a.2 < a.1)) it (by simp) fun a ha => ct_if rfl (ok_te (ok_e2 (h := D.gtI) (x := .int a.1) (y := .int a.2) rfl rfl rfl)) fun _ => rfl).trans ?_
      rw [List.filter_eq_nil_iff.mpr fun a ha => ?_]
      · rfl
      · rcases List.mem_cons.mp ha with rfl | ha
        · simp; omega
        · rcases List.mem_cons.mp ha with rfl | ha
          · simp; omega
          · rw [List.mem_singleton.mp ha]; simp; omega
    refine p_chk (ok_te (ok_e2 zz rfl (ne_same rfl))) ?_
    have w1 := without_ok hT g
    have w2 := without_ok hM g
    rw [pT] at w1
    rw [pM] at w2
    simp only at w1 w2
    have w3 := seen_ok (without_tr hT g) hN
    rw [seen_without hT] at w3
    exact p_chkL (ok_te (ok_e2 (ok_call2 (ok_call2 rfl rfl w1) rfl w3) (ok_call2 rfl rfl w2) (ne_same (pl_encT (without_tr hM g).good)))) ⟨x6, .sh (.int g), .sh (strD (path T g)), rfl⟩
def NN (p q : Nat) : List Nm := (L4.drop p).take (1 + q)
theorem NN_ok (p q : Nat) : ∀ s ∈ NN p q, okNm s = true := fun s hs => L4_ok s (List.mem_of_mem_drop (List.mem_of_mem_take hs))
theorem law_ok (ns : List Int) (hn : ns.length ≤ 63) : m_law [.inp ns] = .ok (.bl true) := by
  generalize hS : D.inp ns = S
  have hs : Scr S ns := .inl hS.symm
  have t1 : M.m_tree_L [S, .int 0, .int 8] = _ := tree_ok hs 0 8 (by omega)
  have t2 : M.m_tree_L [S, .int 200, .int 5] = _ := tree_ok hs 200 5 (by omega)
  have hT := drawn_tr ns 0 8 (by omega)
  have lT := drawn_len ns 0 8
  have hU := drawn_tr ns 200 5 (by omega)
  have lU := drawn_len ns 200 5
  generalize drawn ns 0 8 = T at *
  generalize drawn ns 200 5 = U at *
  have p1 := pick_ok hs 300 (many := 4) (by decide)
  have p2 := pick_ok hs 301 (many := 2) (by decide)
  have b1 := pickV_lt ns 300 (many := 4) (by decide)
  have b2 := pickV_lt ns 301 (many := 2) (by decide)
  obtain ⟨p, ep1⟩ : ∃ k : Nat, pickV ns 300 4 = (k : Int) := ⟨(pickV ns 300 4).toNat, by omega⟩
  obtain ⟨q, ep2⟩ : ∃ k : Nat, pickV ns 301 2 = (k : Int) := ⟨(pickV ns 301 2).toNat, by omega⟩
  rw [ep1] at p1
  rw [ep2] at p2
  have hN := NN_ok p q
  refine runD_rt rfl ?_
  show Rt (.bl true) (b_law [.bor S, .un, .un, .un, .un, .un, .un, .un, .un, .un, .un, .un, .un, .un, .un, .un, .un, .un, .un, .un])
  unfold b_law
  refine p_par (ok_call3 rfl rfl rfl t1) (ok_call3 rfl rfl rfl t2) ?_
  refine p_set (d := .dct false (bookOf T)) (ok_call1 rfl (book_ok2 hT.nd hT.len)) ?_
  refine p_set (d := .lst ((NN p q).map D.str)) ?_ ?_
  · refine ok_sl (x := .lst ((L4.drop p).map D.str)) (ok_sl (x := .lst (L4.map D.str)) rfl (ok_ep (ok_call3 rfl rfl rfl p1)) rfl ?_) rfl (ok_ep (i := ((1 + q : Nat) : Int)) (ok_e2 rfl (ok_call3 rfl rfl rfl p2) ?_)) ?_
    · show Res.ok (D.lst (cutL _ (some ((p : Nat) : Int)) none)) = _
      rw [cutL_drop, List.map_drop]
    · show Res.ok (D.int (1 + (q : Int))) = _
      congr 2
    · show Res.ok (D.lst (cutL _ none (some ((1 + q : Nat) : Int)))) = _
      rw [cutL_take]
      unfold NN
      rw [List.map_take]
  generalize NN p q = N at hN
  have sT := seen_ok hT hN
  refine p_set (d := encT (seenV T N)) (ok_call2 rfl rfl sT) ?_
  have hM := seen_tr hT N
  show Rt (.bl true) (sSeq _ (sSeq (sFor _ (gN 7) b_body) (sSeq _ b_tail)) (env S T U T N (seenV T N) .un .un .un .un .un .un .un .un .un .un .un .un .un .un))
  refine p_for (L := N) (m := D.str) (fun e => ∃ x6, e = env S T U T N (seenV T N) x6 .un .un .un .un .un .un .un .un .un .un .un .un .un) (ok_itL rfl) ⟨_, rfl⟩ ?_ ?_
  · rintro s hsN e ⟨x6, rfl⟩
    have nm := named_ok hM (hN s hsN)
    rw [seen_named hT hsN] at nm
    exact ⟨_, rfl, p_chkL (ok_te (ok_e2 (x := .lst []) (ok_call2 rfl rfl nm) rfl (ne_same rfl))) ⟨_, rfl⟩⟩
  rintro e ⟨x6, rfl⟩
  have sk := sorted_keys hT (by omega)
  have fl : eComp (iE (e1 D.sortedD (eB 3))) [8] (gN 8) (tE (e1 D.isN (e2 D.idx (e2 D.idx (eB 3) (eB 8)) (eC (.int 2))))) (eV 8) (env S T U T N (seenV T N) x6 .un .un .un .un .un .un .un .un .un .un .un .un .un) = .ok (.lst ((folL T).map D.int)) := by
    refine (ok_comp (L := T) (m := fun x => D.int x.n) (h := fun x => D.int x.n) (fun x => decide (x.st = none)) (ok_itL (ok_e1 rfl sk)) (by omega) fun x hx => ct_if rfl (ok_te (ok_e1 (x := stD x.st) (ok_e2 (h := D.idx) (x := x.row) (y := .int 2) (ok_e2 rfl rfl (idx_book (look_of hT.nd hx))) rfl rfl) ?_)) fun _ => rfl).trans (by unfold folL; rw [List.map_map]; rfl)
    cases q : x.st <;> rfl
  have lf := folL_len T
  refine p_for (L := 0 :: folL T) (m := D.int) (R7 S T U N) (ok_itL (ok_e2 (x := .lst [.int 0]) rfl fl (add_lst (by simp; omega)))) ⟨x6, .un, .un, rfl⟩ ?_ ?_
  · rintro g hg e ⟨y6, y7, y9, rfl⟩
    exact ⟨_, rfl, body_ok hN hT lT (List.mem_cons.mp hg) y6 y9⟩
  rintro e ⟨y6, y7, y9, rfl⟩
  have okU : ∀ x ∈ U, okNm x.nm = true := fun x hx => nm_ok hU.toWh hx
  have gr := graft_ok hT 0 (U := U) okU (by omega)
  rw [show parE T 0 = none from rfl] at gr
  simp only at gr
  have hE : Tr ([] : List Nd) := by
    have z := drawn_tr ns 0 0 (by omega)
    have l := drawn_len ns 0 0
    rwa [List.length_eq_zero_iff.mp (show (drawn ns 0 0).length = 0 by omega)] at z
  by_cases c : clashG T 0 U = true
  · rw [if_pos c] at gr
    have gh := graftH_ok okU (by omega)
    have c0 : clashG [] 0 U = false := by
      unfold clashG
      rw [List.any_eq_false]
      intro x _
      simp
    refine p_seq (e1 := env S [] U T N (seenV [] N) y6 y7 .un y9 .un .un .un (.sh (encT (graftV [] 0 U))) .un .un .un .un .un .un) ?_ (tail_ok hN hE hU (by simp) lU (graft_tr hE hU rfl c0 (by simp; omega)) _ _ _ _ _ _ _ _ _ _ _ _ _)
    have er : sSet 13 (eCall M.m_grafted [(eB 1), (eC (.int 0)), (eB 2)]) (env S T U T N (seenV T N) y6 y7 .un y9 .un .un .un .un .un .un .un .un .un .un) = .er 6 (env S T U T N (seenV T N) y6 y7 .un y9 .un .un .un .un .un .un .un .un .un .un) := by
      unfold sSet
      rw [ok_call3 rfl rfl rfl gr]
      rfl
    have nx : (sSeq (sSet 13 (eCall m_grafted_H [(eTup []), (eC (.int 0)), (eB 2)])) (sAsg (gT [(gN 1), (gN 5)]) (eTup [(eTup []), (eTup [])]))) (env S T U T N (seenV T N) y6 y7 .un y9 .un .un .un .un .un .un .un .un .un .un) = .nx (env S [] U T N (seenV [] N) y6 y7 .un y9 .un .un .un (.sh (encT (graftV [] 0 U))) .un .un .un .un .un .un) := by
      refine seq_nx (set_ok (ok_call3 (x := encT []) rfl rfl rfl gh)) ?_
      rfl
    unfold sTryX
    rw [er]
    simp only
    rw [if_pos (by decide), if_pos (by decide), nx]
  · rw [if_neg c] at gr
    have c2 : clashG T 0 U = false := by simpa using c
    refine p_seq (e1 := env S T U T N (seenV T N) y6 y7 .un y9 .un .un .un (.sh (encT (graftV T 0 U))) .un .un .un .un .un .un) ?_ (tail_ok hN hT hU lT lU (graft_tr hT hU rfl c2 (by omega)) _ _ _ _ _ _ _ _ _ _ _ _ _)
    unfold sTryX
    rw [set_ok (ok_call3 rfl rfl rfl gr)]
    rfl
end Tw.K14
set_option autoImplicit false
set_option Elab.async false
set_option maxRecDepth 100000
set_option maxHeartbeats 4000000
namespace Tw.K14
open PySem L2
theorem all_mk {l : PySem.W.OpenLaw} {w : World} {K : PySem.W.Frag} {h : Heap} {mg : Str → Option Value} {pq : Program} {fa f0 f1 f2 f3 f4 f5 f6 f7 f8 f9 f10 f11 f12 f13 f14 f15 f16 f17 f18 f19 f20 f21 f22 ax_NoNode ax_NotFolder ax_Taken : Addr} (X : K.In h) (G : h.Ns mainGlobals mg) (hfa : mg "law" = some (.ref fa)) (lawOk : ∀ ns : List Int, ns.length ≤ 63 → m_law [.inp ns] = .ok (.bl true))
    {od0 an0 od1 an1 od2 an2 od3 an3 od4 an4 od5 an5 od6 an6 od7 an7 od8 an8 od9 an9 od10 an10 od11 an11 od12 an12 od13 an13 od14 an14 od15 an15 od16 an16 od17 an17 od18 an18 od19 an19 od20 an20 od21 an21 od22 an22 : Option Addr} {sl0 sl1 sl2 sl3 sl4 sl5 sl6 sl7 sl8 sl9 sl10 sl11 sl12 sl13 sl14 sl15 sl16 sl17 sl18 sl19 sl20 sl21 sl22 : Array (Option Value)} {oc0 kV0 dc0 pm0 cd0 ct0 oc1 kV1 dc1 pm1 cd1 ct1 oc2 kV2 dc2 pm2 cd2 ct2 oc3 kV3 dc3 pm3 cd3 ct3 oc4 kV4 dc4 pm4 cd4 ct4 oc5 kV5 dc5 pm5 cd5 ct5 oc6 kV6 dc6 pm6 cd6 ct6 oc7 kV7 dc7 pm7 cd7 ct7 oc8 kV8 dc8 pm8 cd8 ct8 oc9 kV9 dc9 pm9 cd9 ct9 oc10 kV10 dc10 pm10 cd10 ct10 oc11 kV11 dc11 pm11 cd11 ct11 oc12 kV12 dc12 pm12 cd12 ct12 oc13 kV13 dc13 pm13 cd13 ct13 oc14 kV14 dc14 pm14 cd14 ct14 oc15 kV15 dc15 pm15 cd15 ct15 oc16 kV16 dc16 pm16 cd16 ct16 oc17 kV17 dc17 pm17 cd17 ct17 oc18 kV18 dc18 pm18 cd18 ct18 oc19 kV19 dc19 pm19 cd19 ct19 oc20 kV20 dc20 pm20 cd20 ct20 oc21 kV21 dc21 pm21 cd21 ct21 oc22 kV22 dc22 pm22 cd22 ct22 : Value}
    (a0 : PySem.W.nsIn K mainGlobals "book_of" = some (some (.ref f0))) (l0 : K.lookup f0 = some ⟨oc0, od0, .func (PySem.W.fnOf "book_of" "book_of" (defArgs st_book_of) (defBody st_book_of) (defScope st_book_of) .none kV0 dc0 pm0 an0 cd0 ct0), sl0⟩) (c0 : PySem.W.codeIn K cd0 "book_of" = true) (k0 : PySem.W.keepIn K (.ref f0) = true)
    (a1 : PySem.W.nsIn K mainGlobals "look_node" = some (some (.ref f1))) (l1 : K.lookup f1 = some ⟨oc1, od1, .func (PySem.W.fnOf "look_node" "look_node" (defArgs st_look_node) (defBody st_look_node) (defScope st_look_node) .none kV1 dc1 pm1 an1 cd1 ct1), sl1⟩) (c1 : PySem.W.codeIn K cd1 "look_node" = true) (k1 : PySem.W.keepIn K (.ref f1) = true)
    (a2 : PySem.W.nsIn K mainGlobals "path_in" = some (some (.ref f2))) (l2 : K.lookup f2 = some ⟨oc2, od2, .func (PySem.W.fnOf "path_in" "path_in" (defArgs st_path_in) (defBody st_path_in) (defScope st_path_in) .none kV2 dc2 pm2 an2 cd2 ct2), sl2⟩) (c2 : PySem.W.codeIn K cd2 "path_in" = true) (k2 : PySem.W.keepIn K (.ref f2) = true)
    (a3 : PySem.W.nsIn K mainGlobals "path_of" = some (some (.ref f3))) (l3 : K.lookup f3 = some ⟨oc3, od3, .func (PySem.W.fnOf "path_of" "path_of" (defArgs st_path_of) (defBody st_path_of) (defScope st_path_of) .none kV3 dc3 pm3 an3 cd3 ct3), sl3⟩) (c3 : PySem.W.codeIn K cd3 "path_of" = true) (k3 : PySem.W.keepIn K (.ref f3) = true)
    (a4 : PySem.W.nsIn K mainGlobals "walked" = some (some (.ref f4))) (l4 : K.lookup f4 = some ⟨oc4, od4, .func (PySem.W.fnOf "walked" "walked" (defArgs st_walked) (defBody st_walked) (defScope st_walked) .none kV4 dc4 pm4 an4 cd4 ct4), sl4⟩) (c4 : PySem.W.codeIn K cd4 "walked" = true) (k4 : PySem.W.keepIn K (.ref f4) = true)
    (a5 : PySem.W.nsIn K mainGlobals "is_under" = some (some (.ref f5))) (l5 : K.lookup f5 = some ⟨oc5, od5, .func (PySem.W.fnOf "is_under" "is_under" (defArgs st_is_under) (defBody st_is_under) (defScope st_is_under) .none kV5 dc5 pm5 an5 cd5 ct5), sl5⟩) (c5 : PySem.W.codeIn K cd5 "is_under" = true) (k5 : PySem.W.keepIn K (.ref f5) = true)
    (a6 : PySem.W.nsIn K mainGlobals "below" = some (some (.ref f6))) (l6 : K.lookup f6 = some ⟨oc6, od6, .func (PySem.W.fnOf "below" "below" (defArgs st_below) (defBody st_below) (defScope st_below) .none kV6 dc6 pm6 an6 cd6 ct6), sl6⟩) (c6 : PySem.W.codeIn K cd6 "below" = true) (k6 : PySem.W.keepIn K (.ref f6) = true)
    (a7 : PySem.W.nsIn K mainGlobals "is_seen" = some (some (.ref f7))) (l7 : K.lookup f7 = some ⟨oc7, od7, .func (PySem.W.fnOf "is_seen" "is_seen" (defArgs st_is_seen) (defBody st_is_seen) (defScope st_is_seen) .none kV7 dc7 pm7 an7 cd7 ct7), sl7⟩) (c7 : PySem.W.codeIn K cd7 "is_seen" = true) (k7 : PySem.W.keepIn K (.ref f7) = true)
    (a8 : PySem.W.nsIn K mainGlobals "seen" = some (some (.ref f8))) (l8 : K.lookup f8 = some ⟨oc8, od8, .func (PySem.W.fnOf "seen" "seen" (defArgs st_seen) (defBody st_seen) (defScope st_seen) .none kV8 dc8 pm8 an8 cd8 ct8), sl8⟩) (c8 : PySem.W.codeIn K cd8 "seen" = true) (k8 : PySem.W.keepIn K (.ref f8) = true)
    (a9 : PySem.W.nsIn K mainGlobals "change_seen" = some (some (.ref f9))) (l9 : K.lookup f9 = some ⟨oc9, od9, .func (PySem.W.fnOf "change_seen" "change_seen" (defArgs st_change_seen) (defBody st_change_seen) (defScope st_change_seen) .none kV9 dc9 pm9 an9 cd9 ct9), sl9⟩) (c9 : PySem.W.codeIn K cd9 "change_seen" = true) (k9 : PySem.W.keepIn K (.ref f9) = true)
    (a10 : PySem.W.nsIn K mainGlobals "is_quiet" = some (some (.ref f10))) (l10 : K.lookup f10 = some ⟨oc10, od10, .func (PySem.W.fnOf "is_quiet" "is_quiet" (defArgs st_is_quiet) (defBody st_is_quiet) (defScope st_is_quiet) .none kV10 dc10 pm10 an10 cd10 ct10), sl10⟩) (c10 : PySem.W.codeIn K cd10 "is_quiet" = true) (k10 : PySem.W.keepIn K (.ref f10) = true)
    (a11 : PySem.W.nsIn K mainGlobals "look_folder" = some (some (.ref f11))) (l11 : K.lookup f11 = some ⟨oc11, od11, .func (PySem.W.fnOf "look_folder" "look_folder" (defArgs st_look_folder) (defBody st_look_folder) (defScope st_look_folder) .none kV11 dc11 pm11 an11 cd11 ct11), sl11⟩) (c11 : PySem.W.codeIn K cd11 "look_folder" = true) (k11 : PySem.W.keepIn K (.ref f11) = true)
    (a12 : PySem.W.nsIn K mainGlobals "total" = some (some (.ref f12))) (l12 : K.lookup f12 = some ⟨oc12, od12, .func (PySem.W.fnOf "total" "total" (defArgs st_total) (defBody st_total) (defScope st_total) .none kV12 dc12 pm12 an12 cd12 ct12), sl12⟩) (c12 : PySem.W.codeIn K cd12 "total" = true) (k12 : PySem.W.keepIn K (.ref f12) = true)
    (a13 : PySem.W.nsIn K mainGlobals "cut_out" = some (some (.ref f13))) (l13 : K.lookup f13 = some ⟨oc13, od13, .func (PySem.W.fnOf "cut_out" "cut_out" (defArgs st_cut_out) (defBody st_cut_out) (defScope st_cut_out) .none kV13 dc13 pm13 an13 cd13 ct13), sl13⟩) (c13 : PySem.W.codeIn K cd13 "cut_out" = true) (k13 : PySem.W.keepIn K (.ref f13) = true)
    (a14 : PySem.W.nsIn K mainGlobals "grafted" = some (some (.ref f14))) (l14 : K.lookup f14 = some ⟨oc14, od14, .func (PySem.W.fnOf "grafted" "grafted" (defArgs st_grafted) (defBody st_grafted) (defScope st_grafted) .none kV14 dc14 pm14 an14 cd14 ct14), sl14⟩) (c14 : PySem.W.codeIn K cd14 "grafted" = true) (k14 : PySem.W.keepIn K (.ref f14) = true)
    (a15 : PySem.W.nsIn K mainGlobals "without" = some (some (.ref f15))) (l15 : K.lookup f15 = some ⟨oc15, od15, .func (PySem.W.fnOf "without" "without" (defArgs st_without) (defBody st_without) (defScope st_without) .none kV15 dc15 pm15 an15 cd15 ct15), sl15⟩) (c15 : PySem.W.codeIn K cd15 "without" = true) (k15 : PySem.W.keepIn K (.ref f15) = true)
    (a16 : PySem.W.nsIn K mainGlobals "named" = some (some (.ref f16))) (l16 : K.lookup f16 = some ⟨oc16, od16, .func (PySem.W.fnOf "named" "named" (defArgs st_named) (defBody st_named) (defScope st_named) .none kV16 dc16 pm16 an16 cd16 ct16), sl16⟩) (c16 : PySem.W.codeIn K cd16 "named" = true) (k16 : PySem.W.keepIn K (.ref f16) = true)
    (a17 : PySem.W.nsIn K mainGlobals "_law_cell" = some (some (.ref f17))) (l17 : K.lookup f17 = some ⟨oc17, od17, .func (PySem.W.fnOf "_law_cell" "_law_cell" (defArgs st_cell_L) (defBody st_cell_L) (defScope st_cell_L) .none kV17 dc17 pm17 an17 cd17 ct17), sl17⟩) (c17 : PySem.W.codeIn K cd17 "_law_cell" = true) (k17 : PySem.W.keepIn K (.ref f17) = true)
    (a18 : PySem.W.nsIn K mainGlobals "_law_pick" = some (some (.ref f18))) (l18 : K.lookup f18 = some ⟨oc18, od18, .func (PySem.W.fnOf "_law_pick" "_law_pick" (defArgs st_pick_L) (defBody st_pick_L) (defScope st_pick_L) .none kV18 dc18 pm18 an18 cd18 ct18), sl18⟩) (c18 : PySem.W.codeIn K cd18 "_law_pick" = true) (k18 : PySem.W.keepIn K (.ref f18) = true)
    (a19 : PySem.W.nsIn K mainGlobals "_law_tree" = some (some (.ref f19))) (l19 : K.lookup f19 = some ⟨oc19, od19, .func (PySem.W.fnOf "_law_tree" "_law_tree" (defArgs st_tree_L) (defBody st_tree_L) (defScope st_tree_L) .none kV19 dc19 pm19 an19 cd19 ct19), sl19⟩) (c19 : PySem.W.codeIn K cd19 "_law_tree" = true) (k19 : PySem.W.keepIn K (.ref f19) = true)
    (a20 : PySem.W.nsIn K mainGlobals "_law_book" = some (some (.ref f20))) (l20 : K.lookup f20 = some ⟨oc20, od20, .func (PySem.W.fnOf "_law_book" "_law_book" (defArgs st_book_L) (defBody st_book_L) (defScope st_book_L) .none kV20 dc20 pm20 an20 cd20 ct20), sl20⟩) (c20 : PySem.W.codeIn K cd20 "_law_book" = true) (k20 : PySem.W.keepIn K (.ref f20) = true)
    (a21 : PySem.W.nsIn K mainGlobals "_law_path" = some (some (.ref f21))) (l21 : K.lookup f21 = some ⟨oc21, od21, .func (PySem.W.fnOf "_law_path" "_law_path" (defArgs st_path_L) (defBody st_path_L) (defScope st_path_L) .none kV21 dc21 pm21 an21 cd21 ct21), sl21⟩) (c21 : PySem.W.codeIn K cd21 "_law_path" = true) (k21 : PySem.W.keepIn K (.ref f21) = true)
    (a22 : PySem.W.nsIn K mainGlobals "law" = some (some (.ref f22))) (l22 : K.lookup f22 = some ⟨oc22, od22, .func (PySem.W.fnOf "law" "law" (defArgs st_law) (defBody st_law) (defScope st_law) .none kV22 dc22 pm22 an22 cd22 ct22), sl22⟩) (c22 : PySem.W.codeIn K cd22 "law" = true) (k22 : PySem.W.keepIn K (.ref f22) = true)
    (z_any : PySem.W.nsIn K mainGlobals "any" = some none) (z_dict : PySem.W.nsIn K mainGlobals "dict" = some none) (z_int : PySem.W.nsIn K mainGlobals "int" = some none) (z_len : PySem.W.nsIn K mainGlobals "len" = some none) (z_list : PySem.W.nsIn K mainGlobals "list" = some none) (z_max : PySem.W.nsIn K mainGlobals "max" = some none) (z_range : PySem.W.nsIn K mainGlobals "range" = some none) (z_set : PySem.W.nsIn K mainGlobals "set" = some none) (z_sorted : PySem.W.nsIn K mainGlobals "sorted" = some none) (z_sum : PySem.W.nsIn K mainGlobals "sum" = some none) (z_tuple : PySem.W.nsIn K mainGlobals "tuple" = some none) (z_zip : PySem.W.nsIn K mainGlobals "zip" = some none)
    (en_all : PySem.W.specialIn K (.builtin "object.__class__") "__get__" = some (some (.builtin "getset_descriptor.__get__")))
    (et_all : PySem.W.takesIn K (.builtin "object.__class__") = some true)
    (xg_NoNode : PySem.W.nsIn K mainGlobals "NoNode" = some (some (.ref ax_NoNode)))
    (xq_NoNode : PySem.W.excIn K ax_NoNode [.type "ValueError", .type "Exception", .type "BaseException", .type "object"] "ValueError.__new__" = true)
    (xk_NoNode : PySem.W.keepIn K (.ref ax_NoNode) = true)
    (xs_NoNode : PySem.W.subIn K (.ref ax_NoNode) (.type "BaseException") = some true)
    (xt_NoNode : PySem.W.typeIn K (.ref ax_NoNode) = some (.type "type"))
    (ed_NoNode : PySem.W.hasDictIn K ax_NoNode = true)
    (eg_NoNode : PySem.W.findIn K (.ref ax_NoNode) "__getattribute__" = some (some (.builtin "BaseException.__getattribute__")))
    (ek_NoNode : PySem.W.findIn K (.ref ax_NoNode) "__getattr__" = some none)
    (ea_NoNode : PySem.W.findIn K (.ref ax_NoNode) "__class__" = some (some (.builtin "object.__class__")))
    (em_NoNode : PySem.W.mroIn K ax_NoNode (.type "object") = some true)
    (xg_NotFolder : PySem.W.nsIn K mainGlobals "NotFolder" = some (some (.ref ax_NotFolder)))
    (xq_NotFolder : PySem.W.excIn K ax_NotFolder [.type "ValueError", .type "Exception", .type "BaseException", .type "object"] "ValueError.__new__" = true)
    (xk_NotFolder : PySem.W.keepIn K (.ref ax_NotFolder) = true)
    (xs_NotFolder : PySem.W.subIn K (.ref ax_NotFolder) (.type "BaseException") = some true)
    (xt_NotFolder : PySem.W.typeIn K (.ref ax_NotFolder) = some (.type "type"))
    (ed_NotFolder : PySem.W.hasDictIn K ax_NotFolder = true)
    (eg_NotFolder : PySem.W.findIn K (.ref ax_NotFolder) "__getattribute__" = some (some (.builtin "BaseException.__getattribute__")))
    (ek_NotFolder : PySem.W.findIn K (.ref ax_NotFolder) "__getattr__" = some none)
    (ea_NotFolder : PySem.W.findIn K (.ref ax_NotFolder) "__class__" = some (some (.builtin "object.__class__")))
    (em_NotFolder : PySem.W.mroIn K ax_NotFolder (.type "object") = some true)
    (xg_Taken : PySem.W.nsIn K mainGlobals "Taken" = some (some (.ref ax_Taken)))
    (xq_Taken : PySem.W.excIn K ax_Taken [.type "ValueError", .type "Exception", .type "BaseException", .type "object"] "ValueError.__new__" = true)
    (xk_Taken : PySem.W.keepIn K (.ref ax_Taken) = true)
    (xs_Taken : PySem.W.subIn K (.ref ax_Taken) (.type "BaseException") = some true)
    (xt_Taken : PySem.W.typeIn K (.ref ax_Taken) = some (.type "type"))
    (ed_Taken : PySem.W.hasDictIn K ax_Taken = true)
    (eg_Taken : PySem.W.findIn K (.ref ax_Taken) "__getattribute__" = some (some (.builtin "BaseException.__getattribute__")))
    (ek_Taken : PySem.W.findIn K (.ref ax_Taken) "__getattr__" = some none)
    (ea_Taken : PySem.W.findIn K (.ref ax_Taken) "__class__" = some (some (.builtin "object.__class__")))
    (em_Taken : PySem.W.mroIn K ax_Taken (.type "object") = some true)
    (u_NoNode_Taken : PySem.W.subIn K (.ref ax_NoNode) (.ref ax_Taken) = some false)
    (u_NotFolder_Taken : PySem.W.subIn K (.ref ax_NotFolder) (.ref ax_Taken) = some false)
    (u_Taken_Taken : PySem.W.subIn K (.ref ax_Taken) (.ref ax_Taken) = some true)
    : ∃ (fd : FuncData) (cs : List (Addr × Addr)) (T : List (Addr × Str)), (∀ p ∈ T, p.1 ∈ cs.map (·.2)) ∧ (∀ p ∈ cs, K.lookup p.2 = none) ∧ (∀ p ∈ cs, ∃ y : Str, ((PyProof.Rows.recsOf pq).find? (fun e => e.name == y)).isSome = true ∧ PySem.W.tabIn K y = some p) ∧ (∀ (s : Shared) (v : Value), BindsTo s fd ⟨[v], []⟩ [("_law_script", v)]) ∧ ∀ base : Heap, K.In base → base.Ns mainGlobals mg → (∀ p ∈ cs, LamX.TabB base mg p.1 p.2) → FnOk l.prog w K mg base (L2.CX l.prog w) 5 fa fd ["_law_script"] (spLaw K T) := by
  have e := hfa.symm.trans (PySem.W.mg_of X G a22)
  cases e
  have T : Tx K mg (⟨(fun c => match c with | 1 => ax_NoNode | 3 => ax_NotFolder | 6 => ax_Taken | _ => 0), [], (fun _ => (0, [])), 0⟩ : XA) := ⟨PySem.W.mg_none_of X G z_any, PySem.W.mg_none_of X G z_dict, PySem.W.mg_none_of X G z_int, PySem.W.mg_none_of X G z_len, PySem.W.mg_none_of X G z_list, PySem.W.mg_none_of X G z_max, PySem.W.mg_none_of X G z_range, PySem.W.mg_none_of X G z_set, PySem.W.mg_none_of X G z_sorted, PySem.W.mg_none_of X G z_sum, PySem.W.mg_none_of X G z_tuple, PySem.W.mg_none_of X G z_zip, ⟨PySem.W.mg_of X G xg_NoNode, xq_NoNode, xk_NoNode, xs_NoNode, xt_NoNode⟩, ⟨PySem.W.mg_of X G xg_NotFolder, xq_NotFolder, xk_NotFolder, xs_NotFolder, xt_NotFolder⟩, ⟨PySem.W.mg_of X G xg_Taken, xq_Taken, xk_Taken, xs_Taken, xt_Taken⟩, ⟨List.forall_mem_cons.mpr ⟨⟨eg_NoNode, ek_NoNode, xs_NoNode, ed_NoNode, ea_NoNode, en_all, et_all, em_NoNode⟩, List.forall_mem_cons.mpr ⟨⟨eg_NotFolder, ek_NotFolder, xs_NotFolder, ed_NotFolder, ea_NotFolder, en_all, et_all, em_NotFolder⟩, List.forall_mem_cons.mpr ⟨⟨eg_Taken, ek_Taken, xs_Taken, ed_Taken, ea_Taken, en_all, et_all, em_Taken⟩, List.forall_mem_nil _⟩⟩⟩⟩, ⟨PySem.W.mg_of X G xg_Taken, xs_Taken, ed_Taken, xt_Taken, u_Taken_Taken, List.forall_mem_cons.mpr ⟨u_NoNode_Taken, List.forall_mem_cons.mpr ⟨u_NotFolder_Taken, List.forall_mem_cons.mpr ⟨u_Taken_Taken, List.forall_mem_nil _⟩⟩⟩⟩⟩
  have F0 := fun_mk (st := st_book_of) l0 c0 k0
  have F1 := fun_mk (st := st_look_node) l1 c1 k1
  have F2 := fun_mk (st := st_path_in) l2 c2 k2
  have F3 := fun_mk (st := st_path_of) l3 c3 k3
  have F4 := fun_mk (st := st_walked) l4 c4 k4
  have F5 := fun_mk (st := st_is_under) l5 c5 k5
  have F6 := fun_mk (st := st_below) l6 c6 k6
  have F7 := fun_mk (st := st_is_seen) l7 c7 k7
  have F8 := fun_mk (st := st_seen) l8 c8 k8
  have F9 := fun_mk (st := st_change_seen) l9 c9 k9
  have F10 := fun_mk (st := st_is_quiet) l10 c10 k10
  have F11 := fun_mk (st := st_look_folder) l11 c11 k11
  have F12 := fun_mk (st := st_total) l12 c12 k12
  have F13 := fun_mk (st := st_cut_out) l13 c13 k13
  have F14 := fun_mk (st := st_grafted) l14 c14 k14
  have F15 := fun_mk (st := st_without) l15 c15 k15
  have F16 := fun_mk (st := st_named) l16 c16 k16
  have F17 := fun_mk (st := st_cell_L) l17 c17 k17
  have F18 := fun_mk (st := st_pick_L) l18 c18 k18
  have F19 := fun_mk (st := st_tree_L) l19 c19 k19
  have F20 := fun_mk (st := st_book_L) l20 c20 k20
  have F21 := fun_mk (st := st_path_L) l21 c21 k21
  have F22 := fun_mk (st := st_law) l22 c22 k22
  have B0 := F0.binds (ps := ["tree"]) fun _ _ _ _ _ _ us hl => match us, hl with | [_], _ => rfl
  have B1 := F1.binds (ps := ["tree", "number"]) fun _ _ _ _ _ _ us hl => match us, hl with | [_, _], _ => rfl
  have B2 := F2.binds (ps := ["book", "number"]) fun _ _ _ _ _ _ us hl => match us, hl with | [_, _], _ => rfl
  have B3 := F3.binds (ps := ["tree", "number"]) fun _ _ _ _ _ _ us hl => match us, hl with | [_, _], _ => rfl
  have B4 := F4.binds (ps := ["tree"]) fun _ _ _ _ _ _ us hl => match us, hl with | [_], _ => rfl
  have B5 := F5.binds (ps := ["book", "number", "goal"]) fun _ _ _ _ _ _ us hl => match us, hl with | [_, _, _], _ => rfl
  have B6 := F6.binds (ps := ["tree", "number"]) fun _ _ _ _ _ _ us hl => match us, hl with | [_, _], _ => rfl
  have B7 := F7.binds (ps := ["book", "number", "names"]) fun _ _ _ _ _ _ us hl => match us, hl with | [_, _, _], _ => rfl
  have B8 := F8.binds (ps := ["tree", "names"]) fun _ _ _ _ _ _ us hl => match us, hl with | [_, _], _ => rfl
  have B9 := F9.binds (ps := ["one", "other", "names"]) fun _ _ _ _ _ _ us hl => match us, hl with | [_, _, _], _ => rfl
  have B10 := F10.binds (ps := ["one", "other", "names"]) fun _ _ _ _ _ _ us hl => match us, hl with | [_, _, _], _ => rfl
  have B11 := F11.binds (ps := ["tree", "number"]) fun _ _ _ _ _ _ us hl => match us, hl with | [_, _], _ => rfl
  have B12 := F12.binds (ps := ["tree", "number"]) fun _ _ _ _ _ _ us hl => match us, hl with | [_, _], _ => rfl
  have B13 := F13.binds (ps := ["tree", "number"]) fun _ _ _ _ _ _ us hl => match us, hl with | [_, _], _ => rfl
  have B14 := F14.binds (ps := ["tree", "number", "other"]) fun _ _ _ _ _ _ us hl => match us, hl with | [_, _, _], _ => rfl
  have B15 := F15.binds (ps := ["tree", "number"]) fun _ _ _ _ _ _ us hl => match us, hl with | [_, _], _ => rfl
  have B16 := F16.binds (ps := ["tree", "name"]) fun _ _ _ _ _ _ us hl => match us, hl with | [_, _], _ => rfl
  have B17 := F17.binds (ps := ["_law_script", "_law_k"]) fun _ _ _ _ _ _ us hl => match us, hl with | [_, _], _ => rfl
  have B18 := F18.binds (ps := ["_law_script", "_law_k", "_law_many"]) fun _ _ _ _ _ _ us hl => match us, hl with | [_, _, _], _ => rfl
  have B19 := F19.binds (ps := ["_law_script", "_law_at", "_law_most"]) fun _ _ _ _ _ _ us hl => match us, hl with | [_, _, _], _ => rfl
  have B20 := F20.binds (ps := ["_law_tree_here"]) fun _ _ _ _ _ _ us hl => match us, hl with | [_], _ => rfl
  have B21 := F21.binds (ps := ["_law_book_here", "_law_number"]) fun _ _ _ _ _ _ us hl => match us, hl with | [_, _], _ => rfl
  refine ⟨PySem.W.fnOf "law" "law" (defArgs st_law) (defBody st_law) (defScope st_law) .none kV22 dc22 pm22 an22 cd22 ct22, [], [], List.forall_mem_nil _, List.forall_mem_nil _, List.forall_mem_nil _, fun s v => .of_eq rfl, fun base _ _ tbs => ?_⟩
  have D_book_of := df_book_of (P := l.prog) (w := w) (base := base) (xa := (⟨(fun c => match c with | 1 => ax_NoNode | 3 => ax_NotFolder | 6 => ax_Taken | _ => 0), [], (fun _ => (0, [])), 0⟩ : XA)) T  F0 B0 (PySem.W.mg_of X G a0) k0
  have D_look_node := df_look_node (P := l.prog) (w := w) (base := base) (xa := (⟨(fun c => match c with | 1 => ax_NoNode | 3 => ax_NotFolder | 6 => ax_Taken | _ => 0), [], (fun _ => (0, [])), 0⟩ : XA)) T  F1 B1 (PySem.W.mg_of X G a1) k1
  have D_path_in := df_path_in (P := l.prog) (w := w) (base := base) (xa := (⟨(fun c => match c with | 1 => ax_NoNode | 3 => ax_NotFolder | 6 => ax_Taken | _ => 0), [], (fun _ => (0, [])), 0⟩ : XA)) T  F2 B2 (PySem.W.mg_of X G a2) k2
  have D_path_of := df_path_of (P := l.prog) (w := w) (base := base) (xa := (⟨(fun c => match c with | 1 => ax_NoNode | 3 => ax_NotFolder | 6 => ax_Taken | _ => 0), [], (fun _ => (0, [])), 0⟩ : XA)) T D_look_node D_path_in D_book_of F3 B3 (PySem.W.mg_of X G a3) k3
  have D_walked := df_walked (P := l.prog) (w := w) (base := base) (xa := (⟨(fun c => match c with | 1 => ax_NoNode | 3 => ax_NotFolder | 6 => ax_Taken | _ => 0), [], (fun _ => (0, [])), 0⟩ : XA)) T D_book_of D_path_in F4 B4 (PySem.W.mg_of X G a4) k4
  have D_is_under := df_is_under (P := l.prog) (w := w) (base := base) (xa := (⟨(fun c => match c with | 1 => ax_NoNode | 3 => ax_NotFolder | 6 => ax_Taken | _ => 0), [], (fun _ => (0, [])), 0⟩ : XA)) T  F5 B5 (PySem.W.mg_of X G a5) k5
  have D_below := df_below (P := l.prog) (w := w) (base := base) (xa := (⟨(fun c => match c with | 1 => ax_NoNode | 3 => ax_NotFolder | 6 => ax_Taken | _ => 0), [], (fun _ => (0, [])), 0⟩ : XA)) T D_look_node D_book_of D_is_under F6 B6 (PySem.W.mg_of X G a6) k6
  have D_is_seen := df_is_seen (P := l.prog) (w := w) (base := base) (xa := (⟨(fun c => match c with | 1 => ax_NoNode | 3 => ax_NotFolder | 6 => ax_Taken | _ => 0), [], (fun _ => (0, [])), 0⟩ : XA)) T D_path_in F7 B7 (PySem.W.mg_of X G a7) k7
  have D_seen := df_seen (P := l.prog) (w := w) (base := base) (xa := (⟨(fun c => match c with | 1 => ax_NoNode | 3 => ax_NotFolder | 6 => ax_Taken | _ => 0), [], (fun _ => (0, [])), 0⟩ : XA)) T D_book_of D_is_seen F8 B8 (PySem.W.mg_of X G a8) k8
  have D_change_seen := df_change_seen (P := l.prog) (w := w) (base := base) (xa := (⟨(fun c => match c with | 1 => ax_NoNode | 3 => ax_NotFolder | 6 => ax_Taken | _ => 0), [], (fun _ => (0, [])), 0⟩ : XA)) T D_book_of D_seen F9 B9 (PySem.W.mg_of X G a9) k9
  have D_is_quiet := df_is_quiet (P := l.prog) (w := w) (base := base) (xa := (⟨(fun c => match c with | 1 => ax_NoNode | 3 => ax_NotFolder | 6 => ax_Taken | _ => 0), [], (fun _ => (0, [])), 0⟩ : XA)) T D_seen F10 B10 (PySem.W.mg_of X G a10) k10
  have D_look_folder := df_look_folder (P := l.prog) (w := w) (base := base) (xa := (⟨(fun c => match c with | 1 => ax_NoNode | 3 => ax_NotFolder | 6 => ax_Taken | _ => 0), [], (fun _ => (0, [])), 0⟩ : XA)) T D_look_node D_book_of F11 B11 (PySem.W.mg_of X G a11) k11
  have D_total := df_total (P := l.prog) (w := w) (base := base) (xa := (⟨(fun c => match c with | 1 => ax_NoNode | 3 => ax_NotFolder | 6 => ax_Taken | _ => 0), [], (fun _ => (0, [])), 0⟩ : XA)) T D_look_folder D_book_of D_below F12 B12 (PySem.W.mg_of X G a12) k12
  have D_cut_out := df_cut_out (P := l.prog) (w := w) (base := base) (xa := (⟨(fun c => match c with | 1 => ax_NoNode | 3 => ax_NotFolder | 6 => ax_Taken | _ => 0), [], (fun _ => (0, [])), 0⟩ : XA)) T D_look_folder D_below F13 B13 (PySem.W.mg_of X G a13) k13
  have D_grafted := df_grafted (P := l.prog) (w := w) (base := base) (xa := (⟨(fun c => match c with | 1 => ax_NoNode | 3 => ax_NotFolder | 6 => ax_Taken | _ => 0), [], (fun _ => (0, [])), 0⟩ : XA)) T D_look_folder F14 B14 (PySem.W.mg_of X G a14) k14
  have DN_book_of := dn_book_of (P := l.prog) (w := w) (base := base) (xa := (⟨(fun c => match c with | 1 => ax_NoNode | 3 => ax_NotFolder | 6 => ax_Taken | _ => 0), [], (fun _ => (0, [])), 0⟩ : XA)) T  F0 B0 (PySem.W.mg_of X G a0) k0
  have DN_look_node := dn_look_node (P := l.prog) (w := w) (base := base) (xa := (⟨(fun c => match c with | 1 => ax_NoNode | 3 => ax_NotFolder | 6 => ax_Taken | _ => 0), [], (fun _ => (0, [])), 0⟩ : XA)) T  F1 B1 (PySem.W.mg_of X G a1) k1
  have DN_look_folder := dn_look_folder (P := l.prog) (w := w) (base := base) (xa := (⟨(fun c => match c with | 1 => ax_NoNode | 3 => ax_NotFolder | 6 => ax_Taken | _ => 0), [], (fun _ => (0, [])), 0⟩ : XA)) T DN_look_node DN_book_of F11 B11 (PySem.W.mg_of X G a11) k11
  have DN_grafted := dn_grafted (P := l.prog) (w := w) (base := base) (xa := (⟨(fun c => match c with | 1 => ax_NoNode | 3 => ax_NotFolder | 6 => ax_Taken | _ => 0), [], (fun _ => (0, [])), 0⟩ : XA)) T DN_look_folder F14 B14 (PySem.W.mg_of X G a14) k14
  have DH_look_folder := dh_look_folder (P := l.prog) (w := w) (base := base) (xa := (⟨(fun c => match c with | 1 => ax_NoNode | 3 => ax_NotFolder | 6 => ax_Taken | _ => 0), [], (fun _ => (0, [])), 0⟩ : XA)) T  F11 B11 (PySem.W.mg_of X G a11) k11
  have DH_grafted := dh_grafted (P := l.prog) (w := w) (base := base) (xa := (⟨(fun c => match c with | 1 => ax_NoNode | 3 => ax_NotFolder | 6 => ax_Taken | _ => 0), [], (fun _ => (0, [])), 0⟩ : XA)) T DH_look_folder F14 B14 (PySem.W.mg_of X G a14) k14
  have D_without := df_without (P := l.prog) (w := w) (base := base) (xa := (⟨(fun c => match c with | 1 => ax_NoNode | 3 => ax_NotFolder | 6 => ax_Taken | _ => 0), [], (fun _ => (0, [])), 0⟩ : XA)) T D_look_folder D_below F15 B15 (PySem.W.mg_of X G a15) k15
  have D_named := df_named (P := l.prog) (w := w) (base := base) (xa := (⟨(fun c => match c with | 1 => ax_NoNode | 3 => ax_NotFolder | 6 => ax_Taken | _ => 0), [], (fun _ => (0, [])), 0⟩ : XA)) T  F16 B16 (PySem.W.mg_of X G a16) k16
  have D_cell_L := df_cell_L (P := l.prog) (w := w) (base := base) (xa := (⟨(fun c => match c with | 1 => ax_NoNode | 3 => ax_NotFolder | 6 => ax_Taken | _ => 0), [], (fun _ => (0, [])), 0⟩ : XA)) T  F17 B17 (PySem.W.mg_of X G a17) k17
  have D_pick_L := df_pick_L (P := l.prog) (w := w) (base := base) (xa := (⟨(fun c => match c with | 1 => ax_NoNode | 3 => ax_NotFolder | 6 => ax_Taken | _ => 0), [], (fun _ => (0, [])), 0⟩ : XA)) T D_cell_L F18 B18 (PySem.W.mg_of X G a18) k18
  have D_tree_L := df_tree_L (P := l.prog) (w := w) (base := base) (xa := (⟨(fun c => match c with | 1 => ax_NoNode | 3 => ax_NotFolder | 6 => ax_Taken | _ => 0), [], (fun _ => (0, [])), 0⟩ : XA)) T D_pick_L F19 B19 (PySem.W.mg_of X G a19) k19
  have D_book_L := df_book_L (P := l.prog) (w := w) (base := base) (xa := (⟨(fun c => match c with | 1 => ax_NoNode | 3 => ax_NotFolder | 6 => ax_Taken | _ => 0), [], (fun _ => (0, [])), 0⟩ : XA)) T  F20 B20 (PySem.W.mg_of X G a20) k20
  have D_path_L := df_path_L (P := l.prog) (w := w) (base := base) (xa := (⟨(fun c => match c with | 1 => ax_NoNode | 3 => ax_NotFolder | 6 => ax_Taken | _ => 0), [], (fun _ => (0, [])), 0⟩ : XA)) T  F21 B21 (PySem.W.mg_of X G a21) k21
  exact law_imp (xa := (⟨(fun c => match c with | 1 => ax_NoNode | 3 => ax_NotFolder | 6 => ax_Taken | _ => 0), [], (fun _ => (0, [])), 0⟩ : XA)) (fn_law (P := l.prog) (w := w) (base := base) (xa := (⟨(fun c => match c with | 1 => ax_NoNode | 3 => ax_NotFolder | 6 => ax_Taken | _ => 0), [], (fun _ => (0, [])), 0⟩ : XA)) T DN_grafted DH_grafted D_tree_L D_book_L D_pick_L D_seen D_named D_path_L D_cut_out D_total D_without D_grafted D_is_quiet D_change_seen D_walked D_path_of F22) lawOk
end Tw.K14
open PySem PySem.W PyProof.Rows in
set_option maxRecDepth 100000 in
set_option maxHeartbeats 0 in
theorem PySem.Challenge.cw_treewatch_k14_whole_seen_and_cut_holds : PySem.Challenge.rw_treewatch_k14_whole_seen_and_cut.Holds := by
  w_on; o_law; k_head; (case hw => w_witness2)
  k_fill
  refine Tw.law_walkT (l := PySem.Challenge.rw_treewatch_k14_whole_seen_and_cut) (k := 5) (x := "_law_script") rfl rfl ⟨rfl, by decide, by decide⟩ (fun w h Y => PySem.W.kIn_of Y) ?F
  case F =>
    intro w mg fa h KX G hmg
    refine' Tw.K14.all_mk KX G hmg Tw.K14.law_ok ?a0 ?l0 ?c0 ?k0 ?a1 ?l1 ?c1 ?k1 ?a2 ?l2 ?c2 ?k2 ?a3 ?l3 ?c3 ?k3 ?a4 ?l4 ?c4 ?k4 ?a5 ?l5 ?c5 ?k5 ?a6 ?l6 ?c6 ?k6 ?a7 ?l7 ?c7 ?k7 ?a8 ?l8 ?c8 ?k8 ?a9 ?l9 ?c9 ?k9 ?a10 ?l10 ?c10 ?k10 ?a11 ?l11 ?c11 ?k11 ?a12 ?l12 ?c12 ?k12 ?a13 ?l13 ?c13 ?k13 ?a14 ?l14 ?c14 ?k14 ?a15 ?l15 ?c15 ?k15 ?a16 ?l16 ?c16 ?k16 ?a17 ?l17 ?c17 ?k17 ?a18 ?l18 ?c18 ?k18 ?a19 ?l19 ?c19 ?k19 ?a20 ?l20 ?c20 ?k20 ?a21 ?l21 ?c21 ?k21 ?a22 ?l22 ?c22 ?k22 ?z_any ?z_dict ?z_int ?z_len ?z_list ?z_max ?z_range ?z_set ?z_sorted ?z_sum ?z_tuple ?z_zip ?en_all ?et_all ?xg_NoNode ?xq_NoNode ?xk_NoNode ?xs_NoNode ?xt_NoNode ?ed_NoNode ?eg_NoNode ?ek_NoNode ?ea_NoNode ?em_NoNode ?xg_NotFolder ?xq_NotFolder ?xk_NotFolder ?xs_NotFolder ?xt_NotFolder ?ed_NotFolder ?eg_NotFolder ?ek_NotFolder ?ea_NotFolder ?em_NotFolder ?xg_Taken ?xq_Taken ?xk_Taken ?xs_Taken ?xt_Taken ?ed_Taken ?eg_Taken ?ek_Taken ?ea_Taken ?em_Taken ?u_NoNode_Taken ?u_NotFolder_Taken ?u_Taken_Taken
    (case a0 => k_is)
    (case l0 => k_is)
    (case c0 => k_is)
    (case k0 => k_is)
    (case a1 => k_is)
    (case l1 => k_is)
    (case c1 => k_is)
    (case k1 => k_is)
    (case a2 => k_is)
    (case l2 => k_is)
    (case c2 => k_is)
    (case k2 => k_is)
    (case a3 => k_is)
    (case l3 => k_is)
    (case c3 => k_is)
    (case k3 => k_is)
    (case a4 => k_is)
    (case l4 => k_is)
    (case c4 => k_is)
    (case k4 => k_is)
    (case a5 => k_is)
    (case l5 => k_is)
    (case c5 => k_is)
    (case k5 => k_is)
    (case a6 => k_is)
    (case l6 => k_is)
    (case c6 => k_is)
    (case k6 => k_is)
    (case a7 => k_is)
    (case l7 => k_is)
    (case c7 => k_is)
    (case k7 => k_is)
    (case a8 => k_is)
    (case l8 => k_is)
    (case c8 => k_is)
    (case k8 => k_is)
    (case a9 => k_is)
    (case l9 => k_is)
    (case c9 => k_is)
    (case k9 => k_is)
    (case a10 => k_is)
    (case l10 => k_is)
    (case c10 => k_is)
    (case k10 => k_is)
    (case a11 => k_is)
    (case l11 => k_is)
    (case c11 => k_is)
    (case k11 => k_is)
    (case a12 => k_is)
    (case l12 => k_is)
    (case c12 => k_is)
    (case k12 => k_is)
    (case a13 => k_is)
    (case l13 => k_is)
    (case c13 => k_is)
    (case k13 => k_is)
    (case a14 => k_is)
    (case l14 => k_is)
    (case c14 => k_is)
    (case k14 => k_is)
    (case a15 => k_is)
    (case l15 => k_is)
    (case c15 => k_is)
    (case k15 => k_is)
    (case a16 => k_is)
    (case l16 => k_is)
    (case c16 => k_is)
    (case k16 => k_is)
    (case a17 => k_is)
    (case l17 => k_is)
    (case c17 => k_is)
    (case k17 => k_is)
    (case a18 => k_is)
    (case l18 => k_is)
    (case c18 => k_is)
    (case k18 => k_is)
    (case a19 => k_is)
    (case l19 => k_is)
    (case c19 => k_is)
    (case k19 => k_is)
    (case a20 => k_is)
    (case l20 => k_is)
    (case c20 => k_is)
    (case k20 => k_is)
    (case a21 => k_is)
    (case l21 => k_is)
    (case c21 => k_is)
    (case k21 => k_is)
    (case a22 => k_is)
    (case l22 => k_is)
    (case c22 => k_is)
    (case k22 => k_is)
    (case z_any => k_is)
    (case z_dict => k_is)
    (case z_int => k_is)
    (case z_len => k_is)
    (case z_list => k_is)
    (case z_max => k_is)
    (case z_range => k_is)
    (case z_set => k_is)
    (case z_sorted => k_is)
    (case z_sum => k_is)
    (case z_tuple => k_is)
    (case z_zip => k_is)
    (case en_all => k_is)
    (case et_all => k_is)
    (case xg_NoNode => k_is)
    (case xq_NoNode => k_exc)
    (case xk_NoNode => k_is)
    (case xs_NoNode => k_is)
    (case xt_NoNode => k_is)
    (case ed_NoNode => k_is)
    (case eg_NoNode => k_is)
    (case ek_NoNode => k_is)
    (case ea_NoNode => k_is)
    (case em_NoNode => k_is)
    (case xg_NotFolder => k_is)
    (case xq_NotFolder => k_exc)
    (case xk_NotFolder => k_is)
    (case xs_NotFolder => k_is)
    (case xt_NotFolder => k_is)
    (case ed_NotFolder => k_is)
    (case eg_NotFolder => k_is)
    (case ek_NotFolder => k_is)
    (case ea_NotFolder => k_is)
    (case em_NotFolder => k_is)
    (case xg_Taken => k_is)
    (case xq_Taken => k_exc)
    (case xk_Taken => k_is)
    (case xs_Taken => k_is)
    (case xt_Taken => k_is)
    (case ed_Taken => k_is)
    (case eg_Taken => k_is)
    (case ek_Taken => k_is)
    (case ea_Taken => k_is)
    (case em_Taken => k_is)
    (case u_NoNode_Taken => k_is)
    (case u_NotFolder_Taken => k_is)
    (case u_Taken_Taken => k_is)
