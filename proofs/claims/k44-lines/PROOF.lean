import PyProof.Rows.All
import Wide.All
import OpenK.AllK
import Wide.FinOn
import HandS.Base
import HandS.List
import HandS.Iter
import HandS.ForMost
import HandS.ForExc
import HandS.Wide
import HandS.TupAny
import HandS.TupMul
import HandS.IsInst
import HandS.Rev
import HandS.SortInts
import HandS.Flow
import HandS.CallSlots
import HandS.WideBits
import HandS.Style
import HandS.Deep
import KE.KSortedM
import HandS.Zip
import HandS.ExcOwn
import HandS.Exc
import HandS.Comp
import HandS.TryMany
import HandS.Dict
import HandS.WordsExc
import HandS.Codes
import HandS.Ends
import PyProof.FString4
import KE.KExcSuper
import PyProof.AssignAttr
import HandS.HeadWalk
import PySem.Challenge.RW_wholeproof_k44_whole_lines_corners_and_g
set_option Elab.async false
set_option linter.all false
set_option autoImplicit false
set_option maxRecDepth 100000
namespace PI
open PySem L2

/-- values without a heap: tuples and finished lists are plain; ref k: a shared list -/
inductive D where
  | non | bl (b : Bool) | int (i : Int) | str (x : Str)
  | tup (ds : List D) | lst (ds : List D) | ref (k : Nat)

inductive Sl where
  | val (d : D) | own (ds : List D) | dct (kvs : List (Key × D)) | exc (c : Nat) (d : D)
inductive RV where
  | val (d : D) | own (ds : List D) | loc (i : Nat) (ds : List D) | dct (kvs : List (Key × D)) | ldc (i : Nat) (kvs : List (Key × D))
structure S where
  t : List (Option Sl)
  h : List (List D)
inductive Res (α : Type) where
  | ok (a : α) (s : S) | exc (c : Nat) (d : D) (s : S) | bad
inductive R where
  | next (s : S) | brk (s : S) | cnt (s : S) | ret (r : RV) (s : S) | exc (c : Nat) (d : D) (s : S) | bad
inductive FR where
  | ok (r : RV) (h : List (List D)) | exc (c : Nat) (d : D) (h : List (List D)) | bad
abbrev Fns := Str → List D → List (List D) → FR

def Res.bind {α β : Type} (r : Res α) (f : α → S → Res β) : Res β :=
  match r with
  | .ok a s => f a s
  | .exc c d s => .exc c d s
  | .bad => .bad
def Res.run {α : Type} (r : Res α) (f : α → S → R) : R :=
  match r with
  | .ok a s => f a s
  | .exc c d s => .exc c d s
  | .bad => .bad
def Res.map {α β : Type} (r : Res α) (f : α → β) : Res β := r.bind fun a s => .ok (f a) s

inductive BOp | add | sub | mul | fdiv | mod | pow
  deriving DecidableEq
inductive COp | eq | ne | lt | le | gt | ge | isin | notin | is | isnot
  deriving DecidableEq
inductive Ty | tup | lst | int | bl | str
  deriving DecidableEq
inductive Bl | len | abs | int | max2 | min2 | sum | all | any | tuple | list | sorted | bits
  deriving DecidableEq

inductive MT where
  | name (i : Nat) | tup (is : List Nat)

mutual
inductive ME where
  | var (i : Nat)
  | cst (d : D)
  | glb (x : Str) (n : Int)
  | tup (es : MEs)
  | lst (es : MEs)
  | bin (o : BOp) (a b : ME)
  | neg (a : ME)
  | not (a : ME)
  | bop (conj : Bool) (es : MEs)
  | cmp (a : ME) (cs : MCs)
  | call (f : Str) (es : MEs)
  | blt (b : Bl) (es : MEs)
  | isi (a : ME) (t : Ty)
  | idx (a b : ME)
  | slc (a : ME) (lo hi : MO)
  | rev (a : ME)
  | lc (elt : ME) (tg : MT) (it : MI) (cond : MO)
  | fld (i : Nat)
  | isx (i : Nat) (c : Nat)
inductive MEs where
  | nil | cons (e : ME) (es : MEs)
inductive MO where
  | none | some (e : ME)
inductive MCs where
  | nil | cons (o : COp) (e : ME) (r : MCs)
inductive MI where
  | seq (e : ME) | rng1 (e : ME) | rng2 (a b : ME) | rng3 (a b c : ME) | enum (e : ME) | zip (a b : ME) | revd (e : ME)
end

mutual
inductive MS where
  | set (t : MT) (e : ME)
  | shr (i : Nat) (e : ME)
  | par (i j : Nat) (a b : ME)
  | aug (i : Nat) (o : BOp) (e : ME)
  | seti (x ix e : ME)
  | app (x e : ME)
  | expr (e : ME)
  | ite (c : ME) (a b : MSs)
  | while (c : ME) (b : MSs)
  | for (t : MT) (it : MI) (b : MSs)
  | ret (e : ME)
  | retN
  | raise (x : Str) (c : Nat) (e : ME)
  | try (b : MSs) (hs : MHs)
  | pass | brk | cnt
inductive MSs where
  | nil | cons (s : MS) (r : MSs)
inductive MHs where
  | nil | cons (x : Str) (cs no : List Nat) (i : Nat) (b : MSs) (r : MHs)
end

/-! ### plain operations -/
mutual
def deq : D → D → Bool
  | .non, .non => true
  | .bl a, .bl b => a == b
  | .bl a, .int j => (if a then 1 else 0) == j
  | .int i, .bl b => i == (if b then 1 else 0)
  | .int i, .int j => i == j
  | .str x, .str y => x == y
  | .lst xs, .lst ys => deqs xs ys
  | .tup xs, .tup ys => deqs xs ys
  | _, _ => false
def deqs : List D → List D → Bool
  | [], [] => true
  | x :: xs, y :: ys => deq x y && deqs xs ys
  | _, _ => false
end
mutual
/-- data that may be compared: no shared list, no error; not too deep -/
def dat : Nat → D → Bool
  | _, .non => true
  | _, .bl _ => true
  | _, .int _ => true
  | _, .str x => PyData.canLay0 (.str x)
  | n + 1, .tup ds => dats n ds
  | n + 1, .lst ds => dats n ds
  | _, _ => false
def dats : Nat → List D → Bool
  | _, [] => true
  | n, d :: ds => dat n d && dats n ds
end
def line : Nat := 16777216
def mulOk (i j : Int) : Bool := decide (i.natAbs < 2 ^ 64) || decide (j.natAbs < 2 ^ 64) || decide (i.natAbs.log2 + j.natAbs.log2 < 1000000)
def divOk (j : Int) : Bool := decide (j ≠ 0) && decide (j.natAbs.log2 < 9000)
def powOk (a n : Int) : Bool := decide (0 ≤ n) && ((decide (n ≤ 1000000) && decide (a.natAbs < 2 ^ 64)) || (decide (n ≤ 1000) && decide (a.natAbs.log2 < 100000)))

def intsOf : List D → Option (List Int)
  | [] => some []
  | .int i :: r => (intsOf r).map (i :: ·)
  | _ :: _ => none
def blsOf : List D → Option (List Bool)
  | [] => some []
  | .bl i :: r => (blsOf r).map (i :: ·)
  | _ :: _ => none

def binD : BOp → D → D → Option RV
  | .add, .int i, .int j => some (.val (.int (i + j)))
  | .add, .tup xs, .tup ys => if xs.length + ys.length ≤ line then some (.val (.tup (xs ++ ys))) else none
  | .add, .lst xs, .lst ys => if xs.length + ys.length ≤ line then some (.own (xs ++ ys)) else none
  | .add, .str x, .str y => if x.length + y.length ≤ line then some (.val (.str (x ++ y))) else none
  | .sub, .int i, .int j => some (.val (.int (i - j)))
  | .mul, .int i, .int j => if mulOk i j then some (.val (.int (i * j))) else none
  | .mul, .lst xs, .int k => if (-(2 ^ 62) < k ∧ k < 2 ^ 62) ∧ xs.length * k.toNat ≤ line then some (.own (List.replicate k.toNat xs).flatten) else none
  | .mul, .tup xs, .int k => if xs.length ≤ 1000 ∧ k ≤ 1000 ∧ xs ≠ [] ∧ 2 ≤ k then some (.val (.tup (List.replicate k.toNat xs).flatten)) else none
  | .fdiv, .int i, .int j => if divOk j then some (.val (.int (i.fdiv j))) else none
  | .mod, .int i, .int j => if j = 0 then none else some (.val (.int (i.fmod j)))
  | .pow, .int i, .int j => if powOk i j then some (.val (.int (i ^ j.toNat))) else none
  | _, _, _ => none

def isMem (d : D) (ds : List D) : Bool := ds.any fun e => deq e d
def keyOf : D → Option Key
  | .int i => some (.inl i)
  | .str x => some (.inr x)
  | _ => none
def kget : List (Key × D) → Key → Option D
  | [], _ => none
  | (k, v) :: r, q => if k = q then some v else kget r q
def kput (kvs : List (Key × D)) (q : Key) (v : D) : List (Key × D) :=
  if (kvs.any fun kv => decide (kv.1 = q)) = true then kvs.map (fun kv => if kv.1 = q then (kv.1, v) else kv) else kvs ++ [(q, v)]

def D.isNon : D → Bool
  | .non => true
  | _ => false
def cmpD : COp → D → D → Option Bool
  | .lt, .int i, .int j => some (decide (i < j))
  | .le, .int i, .int j => some (decide (i ≤ j))
  | .gt, .int i, .int j => some (decide (j < i))
  | .ge, .int i, .int j => some (decide (j ≤ i))
  | .eq, d, e => if dat 60 d && dat 60 e then some (deq d e) else none
  | .ne, d, e => if dat 60 d && dat 60 e then some (!deq d e) else none
  | .isin, d, .tup ds => if dat 60 d && dats 60 ds then some (isMem d ds) else none
  | .isin, d, .lst ds => if dat 60 d && dats 60 ds then some (isMem d ds) else none
  | .notin, d, .tup ds => if dat 60 d && dats 60 ds then some (!isMem d ds) else none
  | .notin, d, .lst ds => if dat 60 d && dats 60 ds then some (!isMem d ds) else none
  | .is, d, .non => some d.isNon
  | .isnot, d, .non => some (!d.isNon)
  | _, _, _ => none

def truth : D → Option Bool
  | .bl b => some b
  | .int i => some (i != 0)
  | .lst ds => some (!ds.isEmpty)
  | .tup ds => some (!ds.isEmpty)
  | .non => some false
  | _ => none

def isTy : Ty → D → Option Bool
  | .tup, d => match d with | .tup _ => some true | .ref _ => none | _ => some false
  | .lst, d => match d with | .lst _ => some true | .ref _ => none | _ => some false
  | .int, d => match d with | .int _ => some true | .bl _ => some true | .ref _ => none | _ => some false
  | .bl, d => match d with | .bl _ => some true | .ref _ => none | _ => some false
  | .str, d => match d with | .str _ => some true | .ref _ => none | _ => some false

/-- the place of an index of any sign -/
def ixP (n : Nat) (i : Int) : Option Nat := if 0 ≤ i then (if i < n then some i.toNat else none) else if -(n : Int) ≤ i then some (i + n).toNat else none
def atD (ds : List D) (i : Int) : Option D := (ixP ds.length i).bind fun j => ds[j]?
/-- the ends of a slice -/
def sEnd (n d : Nat) : Option Int → Nat
  | none => d
  | some i => if i < 0 then (i + n).toNat else min i.toNat n
def cutD (ds : List D) (lo hi : Option Int) : List D := (ds.drop (sEnd ds.length 0 lo)).take (sEnd ds.length ds.length hi - sEnd ds.length 0 lo)

def insD (i : Int) : List Int → List Int
  | [] => [i]
  | j :: r => if i ≤ j then i :: j :: r else j :: insD i r
def sortD : List Int → List Int
  | [] => []
  | i :: r => insD i (sortD r)

def idxD (s : S) : D → D → Option D
  | .tup ds, .int i => atD ds i
  | .lst ds, .int i => atD ds i
  | .ref k, .int i => (s.h[k]?).bind fun ds => atD ds i
  | .str x, .int i => if x.length ≤ line then (ixP x.cps.toList.length i).bind fun j => (x.cps.toList[j]?).map fun c => .str ⟨#[c]⟩ else none
  | _, _ => none

def bltD (b : Bl) (ds : List D) : Option RV :=
  match b, ds with
  | .len, [.tup xs] => some (.val (.int xs.length))
  | .len, [.lst xs] => some (.val (.int xs.length))
  | .len, [.str x] => if x.length ≤ line then some (.val (.int x.length)) else none
  | .abs, [.int i] => some (.val (.int (if i < 0 then -i else i)))
  | .int, [.int i] => some (.val (.int i))
  | .int, [.bl k] => some (.val (.int (if k then 1 else 0)))
  | .max2, [.int i, .int j] => some (.val (.int (if j > i then j else i)))
  | .min2, [.int i, .int j] => some (.val (.int (if j < i then j else i)))
  | .sum, [.lst xs] => (intsOf xs).map fun ns => .val (.int ns.sum)
  | .all, [.lst xs] => (blsOf xs).map fun bs => .val (.bl (bs.all id))
  | .any, [.lst xs] => (blsOf xs).map fun bs => .val (.bl (bs.any id))
  | .tuple, [.lst xs] => some (.val (.tup xs))
  | .tuple, [.tup xs] => some (.val (.tup xs))
  | .list, [.lst xs] => some (.own xs)
  | .list, [.tup xs] => some (.own xs)
  | .sorted, [.lst xs] => (intsOf xs).map fun ns => .own ((sortD ns).map D.int)
  | .bits, [.int i] => some (.val (.int (if i = 0 then 0 else i.natAbs.log2 + 1)))
  | _, _ => none

/-- the content of a result, for a look at it -/
def RV.pk : RV → Option D
  | .val d => some d
  | .own ds => some (.lst ds)
  | .loc _ ds => some (.lst ds)
  | _ => none
/-- a result as a value that stays -/
def RV.vl (s : S) : RV → Option (D × S)
  | .val d => some (d, s)
  | .own ds => some (.lst ds, s)
  | .loc i ds => some (.lst ds, { s with t := s.t.set i (some (.val (.lst ds))) })
  | _ => none
def toP (r : Res RV) : Res D := r.bind fun v s => match v.pk with | some d => .ok d s | none => .bad
def toV (r : Res RV) : Res D := r.bind fun v s => match v.vl s with | some (d, s') => .ok d s' | none => .bad
def toB (r : Res D) : Res Bool := r.bind fun v s => match v with | .bl b => .ok b s | _ => .bad
def toT (r : Res D) : Res Bool := r.bind fun v s => match truth v with | some b => .ok b s | none => .bad
def toI (r : Res D) : Res Int := r.bind fun v s => match v with | .int i => .ok i s | _ => .bad
def toL (r : Res D) : Res (List D) := r.bind fun v s => match v with | .lst ds => .ok ds s | .tup ds => .ok ds s | _ => .bad
def toLL (r : Res D) : Res (List D) := r.bind fun v s => match v with | .lst ds => .ok ds s | _ => .bad
def ofO {α : Type} (o : Option α) (s : S) : Res α := match o with | some a => .ok a s | none => .bad

def slGet (s : S) (i : Nat) : Res RV :=
  match s.t[i]? with
  | some (some (.val d)) => .ok (.val d) s
  | some (some (.own ds)) => .ok (.loc i ds) s
  | some (some (.dct kvs)) => .ok (.ldc i kvs) s
  | _ => .bad
def setAll (t : List (Option Sl)) : List Nat → List D → Option (List (Option Sl))
  | [], [] => some t
  | i :: is, d :: ds => setAll (t.set i (some (.val d))) is ds
  | _, _ => none
def bindT (tg : MT) (d : D) (s : S) : Option S :=
  match tg with
  | .name i => some { s with t := s.t.set i (some (.val d)) }
  | .tup is => match d with
    | .tup ds => (setAll s.t is ds).map fun t => { s with t := t }
    | _ => none
def MT.ids : MT → List Nat
  | .name i => [i]
  | .tup is => is
def wipeT (t : List (Option Sl)) : List Nat → List (Option Sl)
  | [] => t
  | i :: is => (wipeT t is).set i none
/-- the slots at places of a list as in another one -/
def backT (t t0 : List (Option Sl)) : List Nat → List (Option Sl)
  | [] => t
  | i :: is => (backT t t0 is).set i (match t0[i]? with | some (some (.val d)) => some (.val d) | _ => none)
def Sl.calm : Option Sl → Option Sl
  | some (.exc _ _) => none
  | x => x
def noExc (s : S) : S := { s with t := s.t.map Sl.calm }

def lcGo (f : D → S → Res (Option D)) : List D → List D → S → Res (List D)
  | acc, [], s => .ok acc s
  | acc, d :: ds, s => match f d s with
    | .ok none s1 => lcGo f acc ds s1
    | .ok (some e) s1 => if acc.length < line then lcGo f (acc ++ [e]) ds s1 else .bad
    | _ => .bad

def rangeD (lo : Int) (n : Nat) : List D := (List.range n).map fun (k : Nat) => D.int (lo + (k : Int))
def rangeC (lo c : Int) (n : Nat) : List D := (List.range n).map fun (k : Nat) => D.int (lo + (k : Int) * c)
def smallI (i : Int) : Bool := decide (-(2 ^ 62) ≤ i) && decide (i < 2 ^ 62)
/-- how many turns range(lo, hi, c) has -/
def turnsC (lo hi c : Int) : Nat := (Builtin.Range.rangeSize lo hi c).toNat
def enumD (n : Nat) : List D → List D
  | [] => []
  | d :: ds => .tup [.int n, d] :: enumD (n + 1) ds
def zipD : List D → List D → List D
  | a :: as, b :: bs => .tup [a, b] :: zipD as bs
  | _, _ => []
def zipR : D → D → S → Res (List D)
  | .lst ds, .lst es, s => .ok (zipD ds es) s
  | .tup ds, .tup es, s => .ok (zipD ds es) s
  | _, _, _ => .bad

section
variable (Φ : Fns)
mutual
noncomputable def ev : ME → S → Res RV
  | .var i, s => slGet s i
  | .cst d, s => .ok (.val d) s
  | .glb _ n, s => .ok (.val (.int n)) s
  | .tup es, s => (evs false es s).bind fun ds s => .ok (.val (.tup ds)) s
  | .lst es, s => (evs false es s).bind fun ds s => .ok (.own ds) s
  | .bin o a b, s => (toP (ev a s)).bind fun x s => (toP (ev b s)).bind fun y s => ofO (binD o x y) s
  | .neg a, s => (toI (toP (ev a s))).bind fun i s => .ok (.val (.int (-i))) s
  | .not a, s => (toB (toP (ev a s))).bind fun b s => .ok (.val (.bl (!b))) s
  | .bop c es, s => (evB c es s).bind fun b s => .ok (.val (.bl b)) s
  | .cmp a cs, s => (toP (ev a s)).bind fun x s => (evC x cs s).bind fun b s => .ok (.val (.bl b)) s
  | .call f es, s => (evs false es s).bind fun ds s => match Φ f ds s.h with
    | .ok (.val d) h => .ok (.val d) { s with h := h }
    | .ok (.own l) h => .ok (.own l) { s with h := h }
    | .ok (.dct l) h => .ok (.dct l) { s with h := h }
    | .exc c d h => .exc c d { s with h := h }
    | _ => .bad
  | .blt b es, s => (evs true es s).bind fun ds s => ofO (bltD b ds) s
  | .isi a t, s => (toP (ev a s)).bind fun x s => match isTy t x with | some b => .ok (.val (.bl b)) s | none => .bad
  | .idx a b, s => (toP (ev a s)).bind fun x s => (toP (ev b s)).bind fun y s => match idxD s x y with | some d => .ok (.val d) s | none => .bad
  | .slc a lo hi, s => (toP (ev a s)).bind fun x s => (evO lo s).bind fun l s => (evO hi s).bind fun u s => match x with
    | .tup ds => .ok (.val (.tup (cutD ds l u))) s
    | .lst ds => .ok (.own (cutD ds l u)) s
    | _ => .bad
  | .rev a, s => (toP (ev a s)).bind fun x s => match x with
    | .tup ds => .ok (.val (.tup ds.reverse)) s
    | .lst ds => .ok (.own ds.reverse) s
    | _ => .bad
  | .lc elt tg it cond, s => (evI it s).bind fun items s =>
      match lcGo (fun d s1 => match bindT tg d { s1 with t := wipeT s1.t tg.ids } with
        | none => .bad
        | some s2 => (evCond cond s2).bind fun b s3 => if b then (toV (ev elt s3)).bind fun e s4 => .ok (some e) s4 else .ok none s3) [] items s with
      | .ok ds s1 => .ok (.own ds) { s1 with t := backT s1.t s.t tg.ids }
      | _ => .bad
  | .fld i, s => match s.t[i]? with
    | some (some (.exc _ d)) => .ok (.val d) s
    | _ => .bad
  | .isx i c, s => match s.t[i]? with
    | some (some (.exc c' _)) => .ok (.val (.bl (c == c'))) s
    | _ => .bad
noncomputable def evs (pk : Bool) : MEs → S → Res (List D)
  | .nil, s => .ok [] s
  | .cons e es, s => (if pk then toP (ev e s) else toV (ev e s)).bind fun d s => (evs pk es s).bind fun ds s => .ok (d :: ds) s
noncomputable def evB (c : Bool) : MEs → S → Res Bool
  | .nil, s => .bad
  | .cons e es, s => (toB (toP (ev e s))).bind fun b s => match es with
    | .nil => .ok b s
    | .cons _ _ => if b = c then evB c es s else .ok b s
noncomputable def evC : D → MCs → S → Res Bool
  | _, .nil, s => .bad
  | x, .cons o e r, s => (toP (ev e s)).bind fun y s => match cmpD o x y with
    | none => .bad
    | some b => match r with
      | .nil => .ok b s
      | .cons _ _ _ => if b then evC y r s else .ok false s
noncomputable def evO : MO → S → Res (Option Int)
  | .none, s => .ok none s
  | .some e, s => (toI (toP (ev e s))).bind fun i s => .ok (some i) s
noncomputable def evCond : MO → S → Res Bool
  | .none, s => .ok true s
  | .some e, s => toT (toP (ev e s))
noncomputable def evI : MI → S → Res (List D)
  | .seq e, s => toL (toV (ev e s))
  | .rng1 e, s => (toI (toP (ev e s))).bind fun i s => if smallI i then .ok (rangeD 0 i.toNat) s else .bad
  | .rng2 a b, s => (toI (toP (ev a s))).bind fun i s => (toI (toP (ev b s))).bind fun j s => if smallI i && smallI j then .ok (rangeD i (j - i).toNat) s else .bad
  | .rng3 a b c, s => (toI (toP (ev a s))).bind fun i s => (toI (toP (ev b s))).bind fun j s => (toI (toP (ev c s))).bind fun k s =>
      if decide (k ≠ 0) && decide (k.natAbs < 1073741824) && Builtin.Range.small i j k then .ok (rangeC i k (turnsC i j k)) s else .bad
  | .enum e, s => (toLL (toV (ev e s))).bind fun ds s => .ok (enumD 0 ds) s
  | .zip a b, s => (toV (ev a s)).bind fun x s => (toV (ev b s)).bind fun y s => zipR x y s
  | .revd e, s => (toL (toV (ev e s))).bind fun ds s => .ok ds.reverse s
end

/-! ### statements -/
def iterF {α β : Type} (f : α → α ⊕ β) : Nat → α → Option β
  | 0, _ => none
  | n + 1, a => match f a with
    | .inr b => some b
    | .inl a' => iterF f n a'
open Classical in
noncomputable def fixF {α β : Type} (f : α → α ⊕ β) (a : α) : Option β := if h : ∃ n b, iterF f n a = some b then some h.choose_spec.choose else none

def forGo (f : D → S → Option S) (body : S → R) : List D → S → R
  | [], s => .next s
  | d :: ds, s => match f d s with
    | none => .bad
    | some s1 => match body s1 with
      | .next s2 => forGo f body ds s2
      | .cnt s2 => forGo f body ds s2
      | .brk s2 => .next s2
      | r => r

noncomputable def putR (i : Nat) (r : RV) (s : S) : R :=
  match r with
  | .val d => .next { s with t := s.t.set i (some (.val d)) }
  | .own ds => .next { s with t := s.t.set i (some (.own ds)) }
  | .dct ds => .next { s with t := s.t.set i (some (.dct ds)) }
  | .loc j ds => .next { s with t := (s.t.set j (some (.val (.lst ds)))).set i (some (.val (.lst ds))) }
  | .ldc _ _ => .bad

/-- the name of a held error goes -/
def outExc (i : Nat) (s : S) : S := { s with t := (noExc s).t.set i none }
/-- what an error may carry -/
def smallD : D → Bool
  | .str x => decide (x.length ≤ 1000)
  | _ => false
/-- x[k] = d -/
def putAt (r : RV) (k d : D) (s : S) : R :=
  match r with
  | .val (.ref c) => match k, s.h[c]? with
    | .int k, some ds => match ixP ds.length k with
      | some j => .next { s with h := s.h.set c (ds.set j d) }
      | none => .bad
    | _, _ => .bad
  | .loc i _ => match k, s.t[i]? with
    | .int k, some (some (.own ds)) => match ixP ds.length k with
      | some j => .next { s with t := s.t.set i (some (.own (ds.set j d))) }
      | none => .bad
    | _, _ => .bad
  | .ldc i _ => match keyOf k, s.t[i]? with
    | some q, some (some (.dct kvs)) => if kvs.length < line then .next { s with t := s.t.set i (some (.dct (kput kvs q d))) } else .bad
    | _, _ => .bad
  | _ => .bad
def isLst : RV → Bool
  | .val (.ref _) => true
  | .loc _ _ => true
  | _ => false
/-- x.append(d) -/
def pushAt (r : RV) (d : D) (s : S) : R :=
  match r with
  | .val (.ref c) => match s.h[c]? with
    | some ds => if ds.length < line then .next { s with h := s.h.set c (ds ++ [d]) } else .bad
    | _ => .bad
  | .loc i _ => match s.t[i]? with
    | some (some (.own ds)) => if ds.length < line then .next { s with t := s.t.set i (some (.own (ds ++ [d]))) } else .bad
    | _ => .bad
  | _ => .bad
/-- x op= y on ints -/
def augD : BOp → D → D → Option Int
  | .add, .int i, .int j => some (i + j)
  | .sub, .int i, .int j => some (i - j)
  | _, _, _ => none

mutual
noncomputable def ex : MS → S → R
  | .set (.name i) e, s => (ev Φ e s).run fun r s => putR i r s
  | .set (.tup is) e, s => (toV (ev Φ e s)).run fun d s => match bindT (.tup is) d s with | some s => .next s | none => .bad
  | .shr i e, s => (ev Φ e s).run fun r s => match r with
    | .own ds => .next { t := s.t.set i (some (.val (.ref s.h.length))), h := s.h ++ [ds] }
    | _ => .bad
  | .par i j a b, s => (toV (ev Φ a s)).run fun x s => (toV (ev Φ b s)).run fun y s => .next { s with t := (s.t.set i (some (.val x))).set j (some (.val y)) }
  | .aug i o e, s => (toP (slGet s i)).run fun x s => (toP (ev Φ e s)).run fun y s => match augD o x y with
    | some z => .next { s with t := s.t.set i (some (.val (.int z))) }
    | none => .bad
  | .seti x ix e, s => (toV (ev Φ e s)).run fun d s => (ev Φ x s).run fun r s => (toP (ev Φ ix s)).run fun k s => putAt r k d s
  | .app x e, s => (ev Φ x s).run fun r s => if isLst r then (toV (ev Φ e s)).run fun d s => pushAt r d s else .bad
  | .expr e, s => (ev Φ e s).run fun _ s => .next s
  | .ite c a b, s => (toT (toP (ev Φ c s))).run fun k s => if k then exs a s else exs b s
  | .while c b, s => (fixF (fun s : S => match toT (toP (ev Φ c s)) with
      | .ok false s1 => .inr (.next s1)
      | .ok true s1 => match exs b s1 with
        | .next s2 => .inl s2
        | .cnt s2 => .inl s2
        | .brk s2 => .inr (.next s2)
        | r => .inr r
      | .exc c d s1 => .inr (.exc c d s1)
      | .bad => .inr .bad) s).getD .bad
  | .for t it b, s => (evI Φ it s).run fun ds s => forGo (bindT t) (fun s => exs b s) ds s
  | .ret e, s => (ev Φ e s).run fun r s => .ret r s
  | .retN, s => .ret (.val .non) s
  | .raise _ c e, s => (toV (ev Φ e s)).run fun d s => if smallD d then .exc c d s else .bad
  | .try b hs, s => match exs b s with
    | .exc c d s => exH c d hs s
    | r => r
  | .pass, s => .next s
  | .brk, s => .brk s
  | .cnt, s => .cnt s
noncomputable def exs : MSs → S → R
  | .nil, s => .next s
  | .cons st r, s => match ex st s with
    | .next s1 => exs r s1
    | q => q
noncomputable def exH (c : Nat) (d : D) : MHs → S → R
  | .nil, s => .exc c d s
  | .cons _ cs no i b r, s => if cs.contains c then
      match exs b { s with t := (noExc s).t.set i (some (.exc c d)) } with
      | .next s => .next (outExc i s)
      | .brk s => .brk (outExc i s)
      | .cnt s => .cnt (outExc i s)
      | .ret (.val d) s => .ret (.val d) (outExc i s)
      | .ret (.own ds) s => .ret (.own ds) (outExc i s)
      | _ => .bad
    else if no.contains c then exH c d r s else .bad
end
end

/-! ### defs -/
structure Def where
  name : Str
  ps : Nat
  n : Nat
  body : MSs
def startT (n : Nat) (ds : List D) : List (Option Sl) := ds.map (fun d => some (.val d)) ++ List.replicate (n - ds.length) none
def endV : RV → List (List D) → FR
  | .val d, h => .ok (.val d) h
  | .own ds, h => .ok (.own ds) h
  | .loc _ ds, h => .ok (.own ds) h
  | .dct kvs, h => .ok (.dct kvs) h
  | .ldc _ kvs, h => .ok (.dct kvs) h
def endB : RV → FR
  | .val (.bl b) => .ok (.val (.bl b)) []
  | _ => .bad
def endF (k : Nat) : R → FR
  | .next s => if s.h.length = k then .ok (.val .non) s.h else .bad
  | .ret r s => if s.h.length = k then endV r s.h else if k = 0 then endB r else .bad
  | .exc c d s => if s.h.length = k then .exc c d s.h else .bad
  | _ => .bad
def lookD (fs : List Def) (f : Str) : Option Def := fs.find? fun d => d.name = f
/-- the defs of a text, calls nested at most so deep -/
noncomputable def Phi (fs : List Def) : Nat → Fns
  | 0, _, _, _ => .bad
  | k + 1, f, ds, h => match lookD fs f with
    | none => .bad
    | some d => if ds.length = d.ps then endF h.length (exs (Phi fs k) d.body ⟨startT d.n ds, h⟩) else .bad
end PI

namespace PI
open PySem PySem.Spec PyProof.Rows L2

/-- what stands still of a text: the written part, the errors' classes and fields; the error that a suite holds -/
structure G where
  K : PySem.W.Frag
  C : Nat → Addr
  F : Nat → Str
  ea : Option (Addr × Value × Option Addr)
/-- what stood at the entry -/
structure B where
  Hb : Hp
  al : List Addr

/-- a list that is never written any more -/
def FzL (_ : PySem.W.Frag) (H : Hp) (a : Addr) (xs : List V) : Prop := ∃ o, H a = some (.frz o (.lst xs))
theorem FzL.rd {K : PySem.W.Frag} {H : Hp} {a : Addr} {xs : List V} (h : FzL K H a xs) : Rd H a (.lst xs) := .inr h

section
variable (K : PySem.W.Frag) (al : List Addr) (H : Hp)
mutual
def Rep : D → V → Prop
  | .non, v => v = .non
  | .bl b, v => v = .bl b
  | .int i, v => v = .int i
  | .str x, v => v = .str x
  | .tup ds, v => ∃ a vs, v = .ref a ∧ SqT K H a vs ∧ Reps ds vs
  | .lst ds, v => ∃ a vs, v = .ref a ∧ FzL K H a vs ∧ Reps ds vs
  | .ref k, v => ∃ a, al[k]? = some a ∧ v = .ref a
def Reps : List D → List V → Prop
  | [], vs => vs = []
  | d :: ds, vs => ∃ v r, vs = v :: r ∧ Rep d v ∧ Reps ds r
end
def KRep (kvs : List (Key × D)) (ws : List (Key × V)) : Prop := Paired (fun (p : Key × D) (q : Key × V) => p.1 = q.1 ∧ Rep K al H p.2 q.2) kvs ws
def PRep (d : D) (v : V) : Prop := Rep K al H d v ∨ ∃ ds a vs, d = .lst ds ∧ v = .ref a ∧ H a = some (.lst vs) ∧ Reps K al H ds vs ∧ a ∉ al
end

/-- tuples, finished lists and the errors' dicts stay -/
structure Stay (H H' : Hp) : Prop where
  tup : ∀ a xs, H a = some (.tup xs) → H' a = some (.tup xs)
  frz : ∀ a o u, H a = some (.frz o u) → H' a = some (.frz o u)
  xd : ∀ a fs, H a = some (.xd fs) → H' a = some (.xd fs)
theorem Stay.refl (H : Hp) : Stay H H := ⟨fun _ _ h => h, fun _ _ _ h => h, fun _ _ h => h⟩
theorem Stay.trans {H H1 H2 : Hp} (a : Stay H H1) (b : Stay H1 H2) : Stay H H2 :=
  ⟨fun c xs h => b.tup c xs (a.tup c xs h), fun c o u h => b.frz c o u (a.frz c o u h), fun c fs h => b.xd c fs (a.xd c fs h)⟩
theorem Stay.sqT {K : PySem.W.Frag} {H H' : Hp} (x : Stay H H') {a : Addr} {xs : List V} (h : SqT K H a xs) : SqT K H' a xs := by
  rcases h with (h | ⟨o, h⟩) | h
  · exact .inl (.inl (x.tup _ _ h))
  · exact .inl (.inr ⟨o, x.frz _ _ _ h⟩)
  · exact .inr h
theorem Stay.fz {K : PySem.W.Frag} {H H' : Hp} (x : Stay H H') {a : Addr} {xs : List V} (h : FzL K H a xs) : FzL K H' a xs := by
  obtain ⟨o, h⟩ := h
  exact ⟨o, x.frz _ _ _ h⟩

section
variable {K : PySem.W.Frag} {al al' : List Addr} {H H' : Hp}
mutual
theorem Rep.stay (x : Stay H H') (ha : ∀ (k : Nat) (a : Addr), al[k]? = some a → al'[k]? = some a) : ∀ (d : D) (v : V), Rep K al H d v → Rep K al' H' d v
  | .non, v, h => by unfold Rep at h ⊢; exact h
  | .bl b, v, h => by unfold Rep at h ⊢; exact h
  | .int i, v, h => by unfold Rep at h ⊢; exact h
  | .str z, v, h => by unfold Rep at h ⊢; exact h
  | .tup ds, v, h => by
    unfold Rep at h ⊢
    obtain ⟨a, vs, e, q, r⟩ := h
    exact ⟨a, vs, e, x.sqT q, Reps.stay x ha ds vs r⟩
  | .lst ds, v, h => by
    unfold Rep at h ⊢
    obtain ⟨a, vs, e, q, r⟩ := h
    exact ⟨a, vs, e, x.fz q, Reps.stay x ha ds vs r⟩
  | .ref k, v, h => by
    unfold Rep at h ⊢
    obtain ⟨a, e, q⟩ := h
    exact ⟨a, ha k a e, q⟩
theorem Reps.stay (x : Stay H H') (ha : ∀ (k : Nat) (a : Addr), al[k]? = some a → al'[k]? = some a) : ∀ (ds : List D) (vs : List V), Reps K al H ds vs → Reps K al' H' ds vs
  | [], vs, h => by unfold Reps at h ⊢; exact h
  | d :: ds, vs, h => by
    unfold Reps at h ⊢
    obtain ⟨v, r, e, q, t⟩ := h
    exact ⟨v, r, e, Rep.stay x ha d v q, Reps.stay x ha ds r t⟩
end
theorem KRep.stay (x : Stay H H') (ha : ∀ (k : Nat) (a : Addr), al[k]? = some a → al'[k]? = some a) {kvs : List (Key × D)} {ws : List (Key × V)} (h : KRep K al H kvs ws) : KRep K al' H' kvs ws :=
  Paired.mapP h fun p q z => ⟨z.1, z.2.stay x ha⟩
theorem Reps.length : ∀ {ds : List D} {vs : List V}, Reps K al H ds vs → ds.length = vs.length
  | [], vs, h => by unfold Reps at h; rw [h] <;> rfl
  | d :: ds, vs, h => by
    unfold Reps at h
    obtain ⟨v, r, e, _, t⟩ := h
    rw [e, List.length_cons, List.length_cons, Reps.length t]
theorem Reps.append : ∀ {ds es : List D} {vs ws : List V}, Reps K al H ds vs → Reps K al H es ws → Reps K al H (ds ++ es) (vs ++ ws)
  | [], es, vs, ws, h, q => by
    unfold Reps at h; subst h; exact q
  | d :: ds, es, vs, ws, h, q => by
    unfold Reps at h
    obtain ⟨v, r, e, z, t⟩ := h
    subst e
    show Reps K al H (d :: (ds ++ es)) (v :: (r ++ ws))
    unfold Reps
    exact ⟨v, _, rfl, z, Reps.append t q⟩
theorem Reps.nil : Reps K al H [] [] := by unfold Reps; rfl
theorem Reps.cons {d : D} {ds : List D} {v : V} {vs : List V} (h : Rep K al H d v) (t : Reps K al H ds vs) : Reps K al H (d :: ds) (v :: vs) := by
  unfold Reps; exact ⟨v, vs, rfl, h, t⟩
theorem Reps.inv {d : D} {ds : List D} {vs : List V} (h : Reps K al H (d :: ds) vs) : ∃ v r, vs = v :: r ∧ Rep K al H d v ∧ Reps K al H ds r := by
  unfold Reps at h; exact h
theorem Reps.inv0 {vs : List V} (h : Reps K al H [] vs) : vs = [] := by
  unfold Reps at h; exact h
theorem Reps.get : ∀ {ds : List D} {vs : List V} {i : Nat} {d : D}, Reps K al H ds vs → ds[i]? = some d → ∃ v, vs[i]? = some v ∧ Rep K al H d v
  | [], vs, i, d, h, e => by simp at e
  | d' :: ds, vs, 0, d, h, e => by
    obtain ⟨v, r, q, z, t⟩ := h.inv
    subst q
    simp at e; subst e
    exact ⟨v, rfl, z⟩
  | d' :: ds, vs, i + 1, d, h, e => by
    obtain ⟨v, r, q, z, t⟩ := h.inv
    subst q
    obtain ⟨w, e1, e2⟩ := Reps.get (i := i) t (by simpa using e)
    exact ⟨w, by simpa using e1, e2⟩
theorem Reps.get' : ∀ {ds : List D} {vs : List V} {i : Nat} {v : V}, Reps K al H ds vs → vs[i]? = some v → ∃ d, ds[i]? = some d ∧ Rep K al H d v
  | [], vs, i, d, h, e => by rw [h.inv0] at e; simp at e
  | d' :: ds, vs, 0, w, h, e => by
    obtain ⟨v, r, q, z, t⟩ := h.inv
    subst q
    simp at e; subst e
    exact ⟨d', rfl, z⟩
  | d' :: ds, vs, i + 1, w, h, e => by
    obtain ⟨v, r, q, z, t⟩ := h.inv
    subst q
    obtain ⟨w', e1, e2⟩ := Reps.get' (i := i) t (by simpa using e)
    exact ⟨w', by simpa using e1, e2⟩
theorem Reps.set : ∀ {ds : List D} {vs : List V} {d : D} {v : V} (i : Nat), Reps K al H ds vs → Rep K al H d v → Reps K al H (ds.set i d) (vs.set i v)
  | [], vs, d, v, i, h, q => by rw [h.inv0]; exact Reps.nil
  | d' :: ds, vs, d, v, 0, h, q => by
    obtain ⟨w, r, e, z, t⟩ := h.inv
    subst e
    exact Reps.cons q t
  | d' :: ds, vs, d, v, i + 1, h, q => by
    obtain ⟨w, r, e, z, t⟩ := h.inv
    subst e
    exact Reps.cons z (Reps.set i t q)
theorem Reps.take : ∀ {ds : List D} {vs : List V} (n : Nat), Reps K al H ds vs → Reps K al H (ds.take n) (vs.take n)
  | _, _, 0, h => by simp; exact Reps.nil
  | [], vs, n + 1, h => by rw [h.inv0]; exact Reps.nil
  | d :: ds, vs, n + 1, h => by
    obtain ⟨w, r, e, z, t⟩ := h.inv
    subst e
    exact Reps.cons z (Reps.take n t)
theorem Reps.drop : ∀ {ds : List D} {vs : List V} (n : Nat), Reps K al H ds vs → Reps K al H (ds.drop n) (vs.drop n)
  | ds, vs, 0, h => by simpa using h
  | [], vs, n + 1, h => by rw [h.inv0]; exact Reps.nil
  | d :: ds, vs, n + 1, h => by
    obtain ⟨w, r, e, z, t⟩ := h.inv
    subst e
    exact Reps.drop n t
theorem Reps.reverse {ds : List D} {vs : List V} (h : Reps K al H ds vs) : Reps K al H ds.reverse vs.reverse := by
  induction ds generalizing vs with
  | nil => rw [h.inv0]; exact Reps.nil
  | cons d ds ih =>
    obtain ⟨w, r, e, z, t⟩ := h.inv
    subst e
    rw [List.reverse_cons, List.reverse_cons]
    exact (ih t).append (Reps.cons z Reps.nil)
theorem Reps.flat {ds : List D} {vs : List V} (h : Reps K al H ds vs) : ∀ k : Nat, Reps K al H (List.replicate k ds).flatten (List.replicate k vs).flatten
  | 0 => by simp; exact Reps.nil
  | k + 1 => by
    rw [List.replicate_succ, List.flatten_cons, List.replicate_succ, List.flatten_cons]
    exact h.append (h.flat k)
theorem Reps.ints : ∀ {ds : List D} {vs : List V} {ns : List Int}, Reps K al H ds vs → intsOf ds = some ns → vs = ns.map V.int
  | [], vs, ns, h, e => by
    simp [intsOf] at e; subst e; rw [h.inv0] <;> rfl
  | d :: ds, vs, ns, h, e => by
    obtain ⟨w, r, q, z, t⟩ := h.inv
    subst q
    cases d with
    | int i =>
      simp only [intsOf, Option.map_eq_some_iff] at e
      obtain ⟨ms, e1, e2⟩ := e
      subst e2
      unfold Rep at z
      rw [z, List.map_cons, Reps.ints t e1]
    | _ => simp [intsOf] at e
theorem Reps.bls : ∀ {ds : List D} {vs : List V} {ns : List Bool}, Reps K al H ds vs → blsOf ds = some ns → vs = ns.map V.bl
  | [], vs, ns, h, e => by
    simp [blsOf] at e; subst e; rw [h.inv0] <;> rfl
  | d :: ds, vs, ns, h, e => by
    obtain ⟨w, r, q, z, t⟩ := h.inv
    subst q
    cases d with
    | bl i =>
      simp only [blsOf, Option.map_eq_some_iff] at e
      obtain ⟨ms, e1, e2⟩ := e
      subst e2
      unfold Rep at z
      rw [z, List.map_cons, Reps.bls t e1]
    | _ => simp [blsOf] at e
theorem reps_ints : ∀ ns : List Int, Reps K al H (ns.map D.int) (ns.map V.int)
  | [] => Reps.nil
  | i :: r => Reps.cons (by unfold Rep; rfl) (reps_ints r)
end

/-! ### the state -/
def Sl.isOwn : Sl → Bool
  | .val _ => false
  | .exc _ _ => false
  | _ => true
section
variable (g : G) (b : B) (al : List Addr)
def SlRep (H : Hp) : Sl → V → Prop
  | .val d, v => Rep g.K al H d v
  | .own ds, v => ∃ a vs, v = .ref a ∧ H a = some (.lst vs) ∧ Reps g.K al H ds vs ∧ a ∉ al ∧ b.Hb a = none
  | .dct kvs, v => ∃ a ws, v = .ref a ∧ H a = some (.dK ws) ∧ KRep g.K al H kvs ws ∧ a ∉ al ∧ b.Hb a = none
  | .exc c d, v => ∃ a dd w, g.ea = some (a, .ref (g.C c), some dd) ∧ v = .ref a ∧ H dd = some (.xd [(g.F c, w)]) ∧ Rep g.K al H d w
def Away (t : List (Option Sl)) (σ : L2.St) (a : Addr) : Prop := ∀ (i : Nat) (x : Sl), t[i]? = some (some x) → x.isOwn = true → σ[i]? ≠ some (some (V.ref a))
structure Rel (s : S) (σ : L2.St) (H : Hp) : Prop where
  len : s.t.length = σ.length
  sl : ∀ (i : Nat) (x : Sl), s.t[i]? = some (some x) → ∃ v, σ[i]? = some (some v) ∧ SlRep g b al H x v
  inj : ∀ (i j : Nat) (x y : Sl) (a : Addr), i ≠ j → s.t[i]? = some (some x) → s.t[j]? = some (some y) → x.isOwn = true → y.isOwn = true → σ[i]? = some (some (V.ref a)) → σ[j]? ≠ some (some (V.ref a))
  cell : ∀ (k : Nat) (ds : List D), s.h[k]? = some ds → ∃ a vs, al[k]? = some a ∧ H a = some (.lst vs) ∧ Reps g.K al H ds vs
  alen : al.length = s.h.length
  nd : al.Nodup
  base : ∀ a o, b.Hb a = some o → a ∉ b.al → H a = some o
  anew : ∀ a ∈ al, a ∈ b.al ∨ b.Hb a = none
  apre : ∀ (k : Nat) (a : Addr), b.al[k]? = some a → al[k]? = some a
def RVRep (s : S) (σ : L2.St) (H : Hp) : RV → V → Prop
  | .val d, v => Rep g.K al H d v
  | .own ds, v => ∃ a vs, v = .ref a ∧ H a = some (.lst vs) ∧ Reps g.K al H ds vs ∧ a ∉ al ∧ b.Hb a = none ∧ Away s.t σ a
  | .loc i ds, v => s.t[i]? = some (some (.own ds)) ∧ σ[i]? = some (some v)
  | .dct kvs, v => ∃ a ws, v = .ref a ∧ H a = some (.dK ws) ∧ KRep g.K al H kvs ws ∧ a ∉ al ∧ b.Hb a = none ∧ Away s.t σ a
  | .ldc i kvs, v => s.t[i]? = some (some (.dct kvs)) ∧ σ[i]? = some (some v)
end
/-- behind an expression: what stood stands, own lists may be finished -/
structure Ext (al : List Addr) (H H' : Hp) : Prop where
  st : Stay H H'
  own : ∀ a vs, a ∉ al → H a = some (.lst vs) → H' a = some (.lst vs) ∨ ∃ o, H' a = some (.frz o (.lst vs))
theorem Ext.refl {al : List Addr} {H : Hp} : Ext al H H := ⟨Stay.refl H, fun _ _ _ h => .inl h⟩
theorem Ext.trans {al : List Addr} {H H1 H2 : Hp} (x : Ext al H H1) (y : Ext al H1 H2) : Ext al H H2 :=
  ⟨x.st.trans y.st, fun a vs n h => by
    rcases x.own a vs n h with q | ⟨o, q⟩
    · exact y.own a vs n q
    · exact .inr ⟨o, y.st.frz _ _ _ q⟩⟩

section
variable {g : G} {b : B} {al : List Addr} {H H' : Hp} {s : S} {σ : L2.St}
theorem PRep.ext {d : D} {v : V} (x : Ext al H H') (h : PRep g.K al H d v) : PRep g.K al H' d v := by
  rcases h with h | ⟨ds, a, vs, rfl, rfl, e, r, n⟩
  · exact .inl (h.stay x.st fun _ _ z => z)
  · have r' := r.stay x.st (al' := al) fun _ _ z => z
    rcases x.own a vs n e with q | ⟨o, q⟩
    · exact .inr ⟨ds, a, vs, rfl, rfl, q, r', n⟩
    · refine .inl ?_
      unfold Rep
      exact ⟨a, vs, rfl, ⟨o, q⟩, r'⟩
theorem PRep.int {i : Int} {v : V} (h : PRep g.K al H (.int i) v) : v = .int i := by
  rcases h with h | ⟨_, _, _, z, _⟩
  · unfold Rep at h; exact h
  · cases z
theorem PRep.bl {i : Bool} {v : V} (h : PRep g.K al H (.bl i) v) : v = .bl i := by
  rcases h with h | ⟨_, _, _, z, _⟩
  · unfold Rep at h; exact h
  · cases z
theorem PRep.str {i : Str} {v : V} (h : PRep g.K al H (.str i) v) : v = .str i := by
  rcases h with h | ⟨_, _, _, z, _⟩
  · unfold Rep at h; exact h
  · cases z
theorem PRep.non {v : V} (h : PRep g.K al H .non v) : v = .non := by
  rcases h with h | ⟨_, _, _, z, _⟩
  · unfold Rep at h; exact h
  · cases z
theorem PRep.tup {ds : List D} {v : V} (h : PRep g.K al H (.tup ds) v) : ∃ a vs, v = .ref a ∧ SqT g.K H a vs ∧ Reps g.K al H ds vs := by
  rcases h with h | ⟨_, _, _, z, _⟩
  · unfold Rep at h; exact h
  · cases z
theorem PRep.lst {ds : List D} {v : V} (h : PRep g.K al H (.lst ds) v) : ∃ a vs, v = .ref a ∧ Rd H a (.lst vs) ∧ Reps g.K al H ds vs := by
  rcases h with h | ⟨_, a, vs, z, rfl, e, r, _⟩
  · unfold Rep at h
    obtain ⟨a, vs, e, f, r⟩ := h
    exact ⟨a, vs, e, f.rd, r⟩
  · cases z
    exact ⟨a, vs, rfl, .of e, r⟩
theorem PRep.ref {k : Nat} {v : V} (h : PRep g.K al H (.ref k) v) : ∃ a, al[k]? = some a ∧ v = .ref a := by
  rcases h with h | ⟨_, _, _, z, _⟩
  · unfold Rep at h; exact h
  · cases z

theorem Rel.alTracked (r : Rel g b al s σ H) {a : Addr} (h : a ∈ al) : ∃ vs, H a = some (.lst vs) := by
  obtain ⟨k, hk, e⟩ := List.mem_iff_getElem.mp h
  have hk' : k < s.h.length := by rw [← r.alen]; exact hk
  obtain ⟨a', vs, e1, e2, _⟩ := r.cell k (s.h[k]) (by simp [hk'])
  have : al[k]? = some a := by rw [List.getElem?_eq_getElem hk, e]
  rw [this] at e1; cases e1
  exact ⟨vs, e2⟩
theorem Rel.newBase (r : Rel g b al s σ H) {p : Addr} (h : H p = none) : b.Hb p = none := by
  cases q : b.Hb p with
  | none => rfl
  | some o =>
    by_cases hp : p ∈ b.al
    · obtain ⟨k, hk, e⟩ := List.mem_iff_getElem.mp hp
      have := r.apre k p (by rw [List.getElem?_eq_getElem hk, e])
      obtain ⟨vs, z⟩ := r.alTracked (List.mem_of_getElem? this)
      rw [h] at z; cases z
    · have := r.base p o q hp
      rw [h] at this; cases this
theorem Rel.notAl (r : Rel g b al s σ H) {p : Addr} (h : H p = none) : p ∉ al := fun hp => by
  obtain ⟨vs, z⟩ := r.alTracked hp
  rw [h] at z; cases z
theorem stay_upd {p : Addr} {o : HO} (h : H p = none) : Stay H (upd H p o) :=
  ⟨fun a xs e => by rw [upd_ne (ne_of_none e h)]; exact e, fun a xs u e => by rw [upd_ne (ne_of_none e h)]; exact e, fun a fs e => by rw [upd_ne (ne_of_none e h)]; exact e⟩
theorem ext_upd {p : Addr} {o : HO} (h : H p = none) : Ext al H (upd H p o) :=
  ⟨stay_upd h, fun a vs _ e => .inl (by rw [upd_ne (ne_of_none e h)]; exact e)⟩
/-- a heap with more in it -/
theorem Rel.more (r : Rel g b al s σ H) (k : ∀ a o, H a = some o → H' a = some o) : Rel g b al s σ H' := by
  have st : Stay H H' := ⟨fun a xs e => k _ _ e, fun a o u e => k _ _ e, fun a fs e => k _ _ e⟩
  refine ⟨r.len, fun i x e => ?_, r.inj, fun c ds e => ?_, r.alen, r.nd, fun a o e n => k _ _ (r.base a o e n), r.anew, r.apre⟩
  · obtain ⟨v, e1, q⟩ := r.sl i x e
    refine ⟨v, e1, ?_⟩
    cases x with
    | val d => exact q.stay st fun _ _ z => z
    | own ds =>
      obtain ⟨a, vs, ev, h1, h2, h3⟩ := q
      exact ⟨a, vs, ev, k _ _ h1, h2.stay st fun _ _ z => z, h3⟩
    | dct kvs =>
      obtain ⟨a, vs, ev, h1, h2, h3⟩ := q
      exact ⟨a, vs, ev, k _ _ h1, h2.stay st fun _ _ z => z, h3⟩
    | exc c d =>
      obtain ⟨a, dd, w, e1, e2, e3, e4⟩ := q
      exact ⟨a, dd, w, e1, e2, k _ _ e3, e4.stay st fun _ _ z => z⟩
  · obtain ⟨a, vs, e1, e2, e3⟩ := r.cell c ds e
    exact ⟨a, vs, e1, k _ _ e2, e3.stay st fun _ _ z => z⟩
theorem Rel.alloc (r : Rel g b al s σ H) {p : Addr} {o : HO} (h : H p = none) : Rel g b al s σ (upd H p o) :=
  r.more fun a o' e => by rw [upd_ne (ne_of_none e h)]; exact e
theorem Rel.away (r : Rel g b al s σ H) {p : Addr} (h : H p = none) : Away s.t σ p := fun i x e o z => by
  obtain ⟨v, e1, q⟩ := r.sl i x e
  rw [z] at e1; cases e1
  cases x with
  | val d => cases o
  | own ds =>
    obtain ⟨a, vs, ev, h1, _⟩ := q
    cases ev; rw [h] at h1; cases h1
  | dct kvs =>
    obtain ⟨a, vs, ev, h1, _⟩ := q
    cases ev; rw [h] at h1; cases h1
  | exc c d => cases o
/-- a new list -/
theorem Rel.newList (r : Rel g b al s σ H) {p : Addr} {ds : List D} {vs : List V} (h : H p = none) (q : Reps g.K al H ds vs) : RVRep g b al s σ (upd H p (.lst vs)) (.own ds) (.ref p) :=
  ⟨p, vs, rfl, upd_same, q.stay (stay_upd h) fun _ _ z => z, r.notAl h, r.newBase h, r.away h⟩
theorem Rel.newTup (r : Rel g b al s σ H) {p : Addr} {ds : List D} {vs : List V} (h : H p = none) (q : Reps g.K al H ds vs) : Rep g.K al (upd H p (.tup vs)) (.tup ds) (.ref p) := by
  unfold Rep
  exact ⟨p, vs, rfl, .of upd_same, q.stay (stay_upd h) fun _ _ z => z⟩
/-- a list is finished -/
theorem stay_frz {a : Addr} {vs : List V} {o : Obj} (h : H a = some (.lst vs)) : Stay H (upd H a (.frz o (.lst vs))) :=
  ⟨fun c xs e => by rw [upd_ne (ne_of e h (by intro z; cases z))]; exact e, fun c x u e => by rw [upd_ne (ne_of e h (by intro z; cases z))]; exact e, fun c fs e => by rw [upd_ne (ne_of e h (by intro z; cases z))]; exact e⟩
theorem ext_frz {a : Addr} {vs : List V} {o : Obj} (h : H a = some (.lst vs)) : Ext al H (upd H a (.frz o (.lst vs))) :=
  ⟨stay_frz h, fun c ws n e => by
    by_cases hc : c = a
    · subst hc; rw [h] at e; cases e; exact .inr ⟨o, upd_same⟩
    · exact .inl (by rw [upd_ne hc]; exact e)⟩
/-- a new list, not in a slot, is finished -/
theorem Rel.frzNew (r : Rel g b al s σ H) {a : Addr} {vs : List V} {o : Obj} (h : H a = some (.lst vs)) (n : a ∉ al) (hb : b.Hb a = none) (aw : Away s.t σ a) : Rel g b al s σ (upd H a (.frz o (.lst vs))) := by
  have st := stay_frz (o := o) h
  refine ⟨r.len, fun i x e => ?_, r.inj, fun c ds e => ?_, r.alen, r.nd, fun c u e m => ?_, r.anew, r.apre⟩
  · obtain ⟨v, e1, q⟩ := r.sl i x e
    refine ⟨v, e1, ?_⟩
    cases x with
    | val d => exact q.stay st fun _ _ z => z
    | own ds =>
      obtain ⟨c, ws, ev, h1, h2, h3⟩ := q
      have : c ≠ a := fun z => by subst ev; subst z; exact aw i _ e rfl e1
      exact ⟨c, ws, ev, by rw [upd_ne this]; exact h1, h2.stay st fun _ _ z => z, h3⟩
    | dct kvs =>
      obtain ⟨c, ws, ev, h1, h2, h3⟩ := q
      have : c ≠ a := fun z => by subst z; rw [h] at h1; cases h1
      exact ⟨c, ws, ev, by rw [upd_ne this]; exact h1, h2.stay st fun _ _ z => z, h3⟩
    | exc c d =>
      obtain ⟨a', dd, w, e1, e2, e3, e4⟩ := q
      exact ⟨a', dd, w, e1, e2, st.xd _ _ e3, e4.stay st fun _ _ z => z⟩
  · obtain ⟨c', ws, e1, e2, e3⟩ := r.cell c ds e
    have : c' ≠ a := fun z => n (z ▸ List.mem_of_getElem? e1)
    exact ⟨c', ws, e1, by rw [upd_ne this]; exact e2, e3.stay st fun _ _ z => z⟩
  · have : c ≠ a := fun z => by subst z; rw [hb] at e; cases e
    rw [upd_ne this]; exact r.base c u e m
/-- the list of a slot is finished -/
theorem Rel.frzLoc (r : Rel g b al s σ H) {i : Nat} {ds : List D} {a : Addr} {vs : List V} {o : Obj} (hi : s.t[i]? = some (some (.own ds))) (hσ : σ[i]? = some (some (.ref a))) (h : H a = some (.lst vs)) (q : Reps g.K al H ds vs) (n : a ∉ al) (hb : b.Hb a = none) :
    Rel g b al { s with t := s.t.set i (some (.val (.lst ds))) } σ (upd H a (.frz o (.lst vs))) ∧ Rep g.K al (upd H a (.frz o (.lst vs))) (.lst ds) (.ref a) := by
  have st := stay_frz (o := o) h
  have q' : Rep g.K al (upd H a (.frz o (.lst vs))) (.lst ds) (.ref a) := by
    unfold Rep
    exact ⟨a, vs, rfl, ⟨o, upd_same⟩, q.stay st fun _ _ z => z⟩
  have hlt : i < s.t.length := (List.getElem?_eq_some_iff.mp hi).1
  refine ⟨⟨by rw [List.length_set]; exact r.len, fun j x e => ?_, fun j k x y c hjk ej ek ox oy => ?_, fun c es e => ?_, r.alen, r.nd, fun c u e m => ?_, r.anew, r.apre⟩, q'⟩
  · dsimp only at e
    by_cases hj : i = j
    · subst hj
      rw [List.getElem?_set_self hlt] at e
      cases e
      exact ⟨_, hσ, q'⟩
    · rw [List.getElem?_set_ne hj] at e
      obtain ⟨v, e1, z⟩ := r.sl j x e
      refine ⟨v, e1, ?_⟩
      cases x with
      | val d => exact z.stay st fun _ _ z => z
      | own es =>
        obtain ⟨c, ws, ev, h1, h2, h3⟩ := z
        have : c ≠ a := fun w => by subst ev; subst w; exact r.inj i j _ _ c hj hi e rfl rfl hσ e1
        exact ⟨c, ws, ev, by rw [upd_ne this]; exact h1, h2.stay st fun _ _ z => z, h3⟩
      | dct kvs =>
        obtain ⟨c, ws, ev, h1, h2, h3⟩ := z
        have : c ≠ a := fun z => by subst z; rw [h] at h1; cases h1
        exact ⟨c, ws, ev, by rw [upd_ne this]; exact h1, h2.stay st fun _ _ z => z, h3⟩
      | exc c d =>
        obtain ⟨a', dd, w, e1, e2, e3, e4⟩ := z
        exact ⟨a', dd, w, e1, e2, st.xd _ _ e3, e4.stay st fun _ _ z => z⟩
  · dsimp only at ej ek
    have nj : i ≠ j := fun z => by
      subst z; rw [List.getElem?_set_self hlt] at ej; cases ej; cases ox
    have nk : i ≠ k := fun z => by
      subst z; rw [List.getElem?_set_self hlt] at ek; cases ek; cases oy
    rw [List.getElem?_set_ne nj] at ej
    rw [List.getElem?_set_ne nk] at ek
    exact r.inj j k x y c hjk ej ek ox oy
  · obtain ⟨c', ws, e1, e2, e3⟩ := r.cell c es e
    have : c' ≠ a := fun z => n (z ▸ List.mem_of_getElem? e1)
    exact ⟨c', ws, e1, by rw [upd_ne this]; exact e2, e3.stay st fun _ _ z => z⟩
  · have : c ≠ a := fun z => by subst z; rw [hb] at e; cases e
    rw [upd_ne this]; exact r.base c u e m
theorem Rel.own (r : Rel g b al s σ H) {i : Nat} {ds : List D} {v : V} (hi : s.t[i]? = some (some (.own ds))) (hσ : σ[i]? = some (some v)) :
    ∃ a vs, v = .ref a ∧ H a = some (.lst vs) ∧ Reps g.K al H ds vs ∧ a ∉ al ∧ b.Hb a = none := by
  obtain ⟨w, e1, q⟩ := r.sl i _ hi
  rw [hσ] at e1; cases e1
  exact q
theorem RVRep.pk (r : Rel g b al s σ H) {x : RV} {v : V} {d : D} (h : RVRep g b al s σ H x v) (e : x.pk = some d) : PRep g.K al H d v := by
  cases x with
  | val d' => cases e; exact .inl h
  | own ds =>
    cases e
    obtain ⟨a, vs, e, h1, h2, h3, _⟩ := h
    exact .inr ⟨ds, a, vs, rfl, e, h1, h2, h3⟩
  | loc i ds =>
    cases e
    obtain ⟨a, vs, e, h1, h2, h3, _⟩ := r.own h.1 h.2
    exact .inr ⟨ds, a, vs, rfl, e, h1, h2, h3⟩
  | dct _ => cases e
  | ldc _ _ => cases e
end
end PI

namespace PI
open PySem PySem.Spec PyProof.Rows L2

section
variable {X : Cx} {pins : List (Addr × Obj)} {σ : L2.St} {H : Hp} {s : Shared} {l : Addr} {xs : List V}
theorem rdL (I : Inv X pins σ H s) (h : Rd H l (.lst xs)) : xs.length ≤ sizeLine ∧ ∃ (its : List Value) (n : Nat), Vals xs its ∧ xs.length = its.length ∧ s.heap.get? l = some { cls := .type "list", data := .seq its.toArray n } := by
  obtain ⟨z, its, n, r, e⟩ := h.ok I.hok
  exact ⟨z, its, n, r, r.length, e⟩
end
section
variable {X : Cx}
def rCatS : R2 := fun x y H Q => ∃ l b xs zs, x = .ref l ∧ y = .ref b ∧ Rd H l (.lst xs) ∧ Rd H b (.lst zs) ∧ xs.length + zs.length ≤ sizeLine ∧ ∀ p, H p = none → Q (.ref p) (upd H p (.lst (xs ++ zs)))
theorem op_catS : OpR X (binaryOp .Add) rCatS := by
  intro pins s σ H x y v u Q I rx ry h
  obtain ⟨l, b, xs, zs, rfl, rfl, hH, hB, hz, q⟩ := h
  cases rx
  cases ry
  obtain ⟨z, its, n, r, hl, e⟩ := rdL I hH
  obtain ⟨z2, its2, n2, r2, hl2, e2⟩ := rdL I hB
  refine PySem.P.add_list e e2 ?_ (by rw [List.size_toArray, List.size_toArray]; omega)
  have ea : its.toArray ++ its2.toArray = (its ++ its2).toArray := by simp
  rw [ea]
  exact ⟨.ref _, _, I.lnew (t' := s.toks) (r.append r2) (by rw [List.length_append]; omega), rfl, q _ I.fresh⟩
def CMulK (i j : Int) : Prop := IntMulOk i j
theorem op_mulK : OpR X (binaryOp .Mult) (rI IntMulOk fun i j => .int (i * j)) := opI fun _ _ _ _ _ _ _ hc q => mul_int q hc
def CDivK (_ j : Int) : Prop := j ≠ 0 ∧ j.natAbs.log2 < 9000
theorem op_fdivK : OpR X (binaryOp .FloorDiv) (rI CDivK fun i j => .int (i.fdiv j)) := opI fun _ _ _ _ _ _ _ hc q => floordiv_int hc.1 q (.inl (PyProof.noPylong_of_log2 hc.2))
def CPowK (a n : Int) : Prop := 0 ≤ n ∧ (Builtin.Int.intBits a : Int) * n ≤ 2 ^ 27
theorem op_powK : OpR X (binaryOp .Pow) (rI CPowK fun i j => .int (i ^ j.toNat)) := opI fun _ _ _ _ _ _ _ hc q => pow_int hc.1 hc.2 q
theorem mulOk_ok {i j : Int} (h : mulOk i j = true) : IntMulOk i j := by
  unfold mulOk at h
  simp only [Bool.or_eq_true, decide_eq_true_eq] at h
  rcases h with (h | h) | h
  · exact .of_left (intBits_le_64 (by omega) (by omega))
  · exact .of_right (intBits_le_64 (by omega) (by omega))
  · exact CMulW.ok h
theorem intBits_le (a : Int) : Builtin.Int.intBits a ≤ a.natAbs.log2 + 1 := by
  unfold Builtin.Int.intBits
  split <;> omega
theorem log64 {a : Int} (h : a.natAbs < 2 ^ 64) : a.natAbs.log2 < 64 := by
  by_cases h0 : a.natAbs = 0
  · rw [h0]; decide
  · exact (Nat.log2_lt h0).mpr h
theorem powOk_ok {a n : Int} (h : powOk a n = true) : CPowK a n := by
  unfold powOk at h
  simp only [Bool.and_eq_true, Bool.or_eq_true, decide_eq_true_eq] at h
  obtain ⟨h0, h⟩ := h
  refine ⟨h0, ?_⟩
  have hb := intBits_le a
  obtain ⟨m, rfl⟩ : ∃ m : Nat, n = m := ⟨n.toNat, by omega⟩
  rcases h with ⟨h1, h2⟩ | ⟨h1, h2⟩
  · have := log64 h2
    have hm : Builtin.Int.intBits a * m ≤ 64 * 1000000 := Nat.mul_le_mul (by omega) (by omega)
    have : ((Builtin.Int.intBits a * m : Nat) : Int) ≤ ((64 * 1000000 : Nat) : Int) := Int.ofNat_le.mpr hm
    rw [Int.natCast_mul] at this
    exact Int.le_trans this (by decide)
  · have hm : Builtin.Int.intBits a * m ≤ 100000 * 1000 := Nat.mul_le_mul (by omega) (by omega)
    have : ((Builtin.Int.intBits a * m : Nat) : Int) ≤ ((100000 * 1000 : Nat) : Int) := Int.ofNat_le.mpr hm
    rw [Int.natCast_mul] at this
    exact Int.le_trans this (by decide)
def rRepS : R2 := fun x y H Q => ∃ l k xs, x = .ref l ∧ y = .int k ∧ Rd H l (.lst xs) ∧ -(2 ^ 63) ≤ k ∧ k < 2 ^ 63 ∧ xs.length * k.toNat ≤ sizeLine ∧
  ∀ p, H p = none → Q (.ref p) (upd H p (.lst (List.replicate k.toNat xs).flatten))
theorem op_repS : OpR X (binaryOp .Mult) rRepS := by
  intro pins s σ H x y v u Q I rx ry h
  obtain ⟨l, k, xs, rfl, rfl, hH, h1, h2, hz, q⟩ := h
  cases rx
  obtain ⟨t, rfl⟩ := ry
  obtain ⟨z, its, n, r, hl, e⟩ := rdL I hH
  have hlen : its.toArray.size * k.toNat ≤ sizeLine := by rw [List.size_toArray, ← hl]; exact hz
  have hcap : ¬ its.toArray.size * k.toNat > (2 ^ 63 - 1) / 8 := by
    have : (sizeLine : Nat) ≤ (2 ^ 63 - 1) / 8 := by decide
    omega
  have hfit : ¬ (!Builtin.List.listFitsIndex k) = true := by
    rw [fitsIndex_both h1 h2]
    exact Bool.false_ne_true
  have hlong : ¬ Builtin.List.listTooLong (its.toArray.size * k.toNat) = true := by
    rw [notLongL hlen]
    exact Bool.false_ne_true
  have hnew : List.foldl (fun x1 x2 => x1 ++ x2) #[] (List.replicate (if its.toArray.isEmpty = true then 0 else k.toNat) its.toArray) = (List.replicate k.toNat its).flatten.toArray := by
    have f0 : ∀ m : Nat, List.foldl (fun x1 x2 => x1 ++ x2) #[] (List.replicate m its.toArray) = (List.replicate m its).flatten.toArray := fun m => by
      have := foldl_rep its m []
      rw [List.nil_append] at this
      exact this
    rw [f0]
    cases its with
    | nil => simp
    | cons a r' => rw [if_neg (by simp)]
  refine wpAny_binaryOp_repeat_ref (T := "list") (U := "int") (by decide) ⟨_, e, rfl⟩ (fun s' => typeIs_int s' k t) noFill_list_mul F.fills_int_mul F.slot_int_rmul repeat_list F.slot_int_index.lookup
    (call_meets F.slot_int_rmul (typeIs_int s k t) F.entry_int_rmul (F.args_int_rmul_2 _ _) (int___rmul___int_list k t l its.toArray n)
      ⟨e, rfl, ⟨_, e, rfl⟩, call_meets F.slot_list_mul ⟨_, e, rfl⟩ F.entry_list_mul (F.args_list_mul_2 _ _) (AutoListH.list___mul___list_int_3 l its.toArray n k t hfit hcap hlong) ⟨e, ?_⟩⟩)
  rw [hnew]
  exact ⟨.ref _, _, I.lnew (t' := s.toks) (r.rep k.toNat) (by rw [PyProof.Rows.lm_len_rep_flat, Nat.mul_comm]; exact hz), rfl, q _ I.fresh⟩
end

/-! ### binary operators by values -/
def opOf : BOp → Operator
  | .add => .Add | .sub => .Sub | .mul => .Mult | .fdiv => .FloorDiv | .mod => .Mod | .pow => .Pow
theorem line_eq : line = sizeLine := by rw [sizeLine_eq]; rfl
/-- what follows a value -/
def Aft (g : G) (b : B) (al : List Addr) (s : S) (σ : L2.St) (H : Hp) (r : RV) (Q : VK) : Prop := ∀ v H', Ext al H H' → Rel g b al s σ H' → RVRep g b al s σ H' r v → Q v H'
section
variable {X : Cx} {g : G} {b : B} {al : List Addr} {s : S} {σ : L2.St} {H : Hp} {Q : VK}
theorem Aft.val {d : D} {v : V} (a : Aft g b al s σ H (.val d) Q) (r : Rel g b al s σ H) (h : Rep g.K al H d v) : Q v H := a v H Ext.refl r h
theorem Aft.int {i : Int} (a : Aft g b al s σ H (.val (.int i)) Q) (r : Rel g b al s σ H) : Q (.int i) H := a.val r (by unfold Rep; rfl)
theorem Aft.bl {i : Bool} (a : Aft g b al s σ H (.val (.bl i)) Q) (r : Rel g b al s σ H) : Q (.bl i) H := a.val r (by unfold Rep; rfl)
theorem Aft.str {i : Str} (a : Aft g b al s σ H (.val (.str i)) Q) (r : Rel g b al s σ H) : Q (.str i) H := a.val r (by unfold Rep; rfl)
theorem Aft.new {ds : List D} {vs : List V} (a : Aft g b al s σ H (.own ds) Q) (r : Rel g b al s σ H) (h : Reps g.K al H ds vs) : ∀ p, H p = none → Q (.ref p) (upd H p (.lst vs)) :=
  fun p hp => a _ _ (ext_upd hp) (r.alloc hp) (r.newList hp h)
theorem Aft.tup {ds : List D} {vs : List V} (a : Aft g b al s σ H (.val (.tup ds)) Q) (r : Rel g b al s σ H) (h : Reps g.K al H ds vs) : ∀ p, H p = none → Q (.ref p) (upd H p (.tup vs)) :=
  fun p hp => a _ _ (ext_upd hp) (r.alloc hp) (r.newTup hp h)
theorem Aft.tupAt {ds : List D} {vs : List V} {p : Addr} (a : Aft g b al s σ H (.val (.tup ds)) Q) (r : Rel g b al s σ H) (hp : SqT g.K H p vs) (h : Reps g.K al H ds vs) : Q (.ref p) H :=
  a.val r (by unfold Rep; exact ⟨p, vs, rfl, hp, h⟩)

theorem binR (hK : X.K = g.K) (o : BOp) : ∃ r : R2, OpR X (binaryOp (opOf o)) r ∧ ∀ (b : B) (al : List Addr) (s : S) (σ : L2.St) (H : Hp) (Q : VK) (x y : D) (v u : V) (rv : RV),
    Rel g b al s σ H → PRep g.K al H x v → PRep g.K al H y u → binD o x y = some rv → Aft g b al s σ H rv Q → r v u H Q := by
  cases o with
  | add =>
    refine ⟨_, (op_add (X := X)).or ((op_catA (X := X)).or ((op_catS (X := X)).or (op_add_str (X := X)))), fun b al s σ H Q x y v u rv R hx hy e a => ?_⟩
    cases x <;> cases y <;> simp only [binD] at e <;> try (cases e; done)
    · cases e; rw [hx.int, hy.int]; exact .inl ⟨_, _, rfl, rfl, a.int R⟩
    · split at e
      · rename_i hl
        cases e; rw [hx.str, hy.str]; exact .inr (.inr (.inr ⟨_, _, rfl, rfl, by rw [← line_eq]; exact hl, a.str R⟩))
      · cases e
    · split at e
      · rename_i hl
        cases e
        obtain ⟨p, vs, rfl, h1, r1⟩ := hx.tup
        obtain ⟨q, ws, rfl, h2, r2⟩ := hy.tup
        rw [← hK] at h1 h2
        have e1 := r1.length
        have e2 := r2.length
        refine .inr (.inl ⟨p, q, vs, ws, rfl, rfl, h1, h2, by rw [← line_eq]; omega, fun z => ?_, fun _ z => ?_, fun _ _ => a.tup R (r1.append r2)⟩)
        · subst z
          have : ‹List D› = [] ∨ True := .inr trivial
          rw [hK] at h2
          refine a.tupAt R h2 ?_
          have := r1.append r2
          simpa using this
        · subst z
          rw [hK] at h1
          refine a.tupAt R h1 ?_
          have := r1.append r2
          simpa using this
      · cases e
    · split at e
      · rename_i hl
        cases e
        obtain ⟨p, vs, rfl, h1, r1⟩ := hx.lst
        obtain ⟨q, ws, rfl, h2, r2⟩ := hy.lst
        have e1 := r1.length
        have e2 := r2.length
        exact .inr (.inr (.inl ⟨p, q, vs, ws, rfl, rfl, h1, h2, by rw [← line_eq]; omega, a.new R (r1.append r2)⟩))
      · cases e
  | sub =>
    refine ⟨_, op_sub (X := X), fun b al s σ H Q x y v u rv R hx hy e a => ?_⟩
    cases x <;> cases y <;> simp only [binD] at e <;> try (cases e; done)
    cases e; rw [hx.int, hy.int]; exact ⟨_, _, rfl, rfl, a.int R⟩
  | mul =>
    refine ⟨_, (op_mulK (X := X)).or ((op_repS (X := X)).or (op_repT (X := X))), fun b al s σ H Q x y v u rv R hx hy e a => ?_⟩
    cases x <;> cases y <;> simp only [binD] at e <;> try (cases e; done)
    · split at e
      · rename_i hl
        cases e; rw [hx.int, hy.int]; exact .inl ⟨_, _, rfl, rfl, mulOk_ok hl, a.int R⟩
      · cases e
    · split at e
      · rename_i hl
        cases e
        obtain ⟨p, vs, rfl, h1, r1⟩ := hx.tup
        have e1 := r1.length
        rw [← hK] at h1
        obtain ⟨l1, l2, l3, l4⟩ := hl
        rw [hy.int]
        exact .inr (.inr ⟨p, _, vs, rfl, rfl, h1, fun z => by subst z; simp at e1; exact l3 e1, l4, l2, by omega, a.tup R (r1.flat _)⟩)
      · cases e
    · split at e
      · rename_i hl
        cases e
        obtain ⟨p, vs, rfl, h1, r1⟩ := hx.lst
        have e1 := r1.length
        obtain ⟨⟨l1, l2⟩, l3⟩ := hl
        rw [hy.int]
        exact .inr (.inl ⟨p, _, vs, rfl, rfl, h1, by omega, by omega, by rw [← line_eq, ← e1]; exact l3, a.new R (r1.flat _)⟩)
      · cases e
  | fdiv =>
    refine ⟨_, op_fdivK (X := X), fun b al s σ H Q x y v u rv R hx hy e a => ?_⟩
    cases x <;> cases y <;> simp only [binD] at e <;> try (cases e; done)
    split at e
    · rename_i hl
      simp only [divOk, Bool.and_eq_true, decide_eq_true_eq] at hl
      cases e; rw [hx.int, hy.int]; exact ⟨_, _, rfl, rfl, hl, a.int R⟩
    · cases e
  | mod =>
    refine ⟨_, op_modN (X := X), fun b al s σ H Q x y v u rv R hx hy e a => ?_⟩
    cases x <;> cases y <;> simp only [binD] at e <;> try (cases e; done)
    split at e
    · cases e
    · rename_i hl
      cases e; rw [hx.int, hy.int]; exact ⟨_, _, rfl, rfl, hl, a.int R⟩
  | pow =>
    refine ⟨_, op_powK (X := X), fun b al s σ H Q x y v u rv R hx hy e a => ?_⟩
    cases x <;> cases y <;> simp only [binD] at e <;> try (cases e; done)
    split at e
    · rename_i hl
      cases e; rw [hx.int, hy.int]; exact ⟨_, _, rfl, rfl, powOk_ok hl, a.int R⟩
    · cases e
end
end PI

namespace PI
open PySem PySem.Spec PyProof.Rows L2
mutual
def toPy : D → PyData
  | .non => .none
  | .bl b => .bool b
  | .int i => .int i
  | .str x => .str x
  | .tup ds => .tuple (toPys ds)
  | .lst ds => .list (toPys ds)
  | .ref _ => .none
def toPys : List D → List PyData
  | [] => []
  | d :: ds => toPy d :: toPys ds
end
mutual
theorem toPy_lay : ∀ (n : Nat) (d : D), dat n d = true → (toPy d).canLay0 = true ∧ (toPy d).depth ≤ n
  | n, .non, _ => by simp [toPy, PyData.canLay0, PyData.depth]
  | n, .bl b, _ => by simp [toPy, PyData.canLay0, PyData.depth]
  | n, .int i, _ => by simp [toPy, PyData.canLay0, PyData.depth]
  | n, .str x, h => by
    simp only [dat] at h
    exact ⟨h, by simp [toPy, PyData.depth]⟩
  | n + 1, .tup ds, h => by
    simp only [dat] at h
    obtain ⟨a, b⟩ := toPys_lay n ds h
    simp only [toPy, PyData.canLay0, PyData.depth]
    exact ⟨a, by omega⟩
  | n + 1, .lst ds, h => by
    simp only [dat] at h
    obtain ⟨a, b⟩ := toPys_lay n ds h
    simp only [toPy, PyData.canLay0, PyData.depth]
    exact ⟨a, by omega⟩
  | 0, .tup ds, h => by simp [dat] at h
  | 0, .lst ds, h => by simp [dat] at h
  | 0, .ref k, h => by simp [dat] at h
  | n + 1, .ref k, h => by simp [dat] at h
theorem toPys_lay : ∀ (n : Nat) (ds : List D), dats n ds = true → PyData.canLayAll0 (toPys ds) = true ∧ PyData.depthAll (toPys ds) ≤ n
  | n, [], _ => by simp [toPys, PyData.canLayAll0, PyData.depthAll]
  | n, d :: ds, h => by
    simp only [dats, Bool.and_eq_true] at h
    obtain ⟨a, b⟩ := toPy_lay n d h.1
    obtain ⟨a', b'⟩ := toPys_lay n ds h.2
    simp only [toPys, PyData.canLayAll0, PyData.depthAll, Bool.and_eq_true]
    exact ⟨⟨a, a'⟩, by omega⟩
end
theorem toPy_shaped {d : D} (h : dat 60 d = true) : SeqAt.shaped (toPy d) = true := by
  obtain ⟨a, b⟩ := toPy_lay 60 d h
  unfold SeqAt.shaped
  rw [a, Bool.true_and]
  exact decide_eq_true (by omega)
mutual
theorem deq_eqv : ∀ (n m : Nat) (d e : D), dat n d = true → dat m e = true → PyData.eqv (toPy d) (toPy e) = deq d e
  | n + 1, m + 1, .tup ds, .tup es, h, k => by
    simp only [dat] at h k
    simp only [toPy, PyData.eqv, deq]
    exact deqs_eqv n m ds es h k
  | n + 1, m + 1, .lst ds, .lst es, h, k => by
    simp only [dat] at h k
    simp only [toPy, PyData.eqv, deq]
    exact deqs_eqv n m ds es h k
  | 0, _, .tup ds, _, h, k => by simp [dat] at h
  | 0, _, .lst ds, _, h, k => by simp [dat] at h
  | n + 1, 0, .tup ds, e, h, k => by cases e <;> first | (simp [dat] at k; done) | simp [toPy, PyData.eqv, deq]
  | n + 1, 0, .lst ds, e, h, k => by cases e <;> first | (simp [dat] at k; done) | simp [toPy, PyData.eqv, deq]
  | _, _, .ref _, _, h, k => by simp [dat] at h
  | _, m, .non, e, h, k => by cases e <;> first | (cases m <;> simp [dat] at k; done) | simp [toPy, PyData.eqv, deq]
  | _, m, .bl _, e, h, k => by cases e <;> first | (cases m <;> simp [dat] at k; done) | simp [toPy, PyData.eqv, deq]
  | _, m, .int _, e, h, k => by cases e <;> first | (cases m <;> simp [dat] at k; done) | simp [toPy, PyData.eqv, deq]
  | _, m, .str _, e, h, k => by cases e <;> first | (cases m <;> simp [dat] at k; done) | simp [toPy, PyData.eqv, deq]
  | n + 1, m + 1, .tup ds, .non, h, k => by simp [toPy, PyData.eqv, deq]
  | n + 1, m + 1, .tup ds, .bl _, h, k => by simp [toPy, PyData.eqv, deq]
  | n + 1, m + 1, .tup ds, .int _, h, k => by simp [toPy, PyData.eqv, deq]
  | n + 1, m + 1, .tup ds, .str _, h, k => by simp [toPy, PyData.eqv, deq]
  | n + 1, m + 1, .tup ds, .lst _, h, k => by simp [toPy, PyData.eqv, deq]
  | n + 1, m + 1, .tup ds, .ref _, h, k => by simp [dat] at k
  | n + 1, m + 1, .lst ds, .non, h, k => by simp [toPy, PyData.eqv, deq]
  | n + 1, m + 1, .lst ds, .bl _, h, k => by simp [toPy, PyData.eqv, deq]
  | n + 1, m + 1, .lst ds, .int _, h, k => by simp [toPy, PyData.eqv, deq]
  | n + 1, m + 1, .lst ds, .str _, h, k => by simp [toPy, PyData.eqv, deq]
  | n + 1, m + 1, .lst ds, .tup _, h, k => by simp [toPy, PyData.eqv, deq]
  | n + 1, m + 1, .lst ds, .ref _, h, k => by simp [dat] at k
theorem deqs_eqv : ∀ (n m : Nat) (ds es : List D), dats n ds = true → dats m es = true → PyData.eqvAll (toPys ds) (toPys es) = deqs ds es
  | n, m, [], [], h, k => by simp [toPys, PyData.eqvAll, deqs]
  | n, m, d :: ds, e :: es, h, k => by
    simp only [dats, Bool.and_eq_true] at h k
    simp only [toPys, PyData.eqvAll, deqs]
    rw [deq_eqv n m d e h.1 k.1, deqs_eqv n m ds es h.2 k.2]
  | n, m, [], e :: es, h, k => by simp [toPys, PyData.eqvAll, deqs]
  | n, m, d :: ds, [], h, k => by simp [toPys, PyData.eqvAll, deqs]
end
section
variable {g : G} {al : List Addr} {H : Hp}
mutual
theorem Rep.dp : ∀ (n : Nat) (d : D) (v : V), dat n d = true → Rep g.K al H d v → Dp g.K H v (toPy d)
  | _, .non, v, _, r => by unfold Rep at r; subst r; exact .non
  | _, .bl b, v, _, r => by unfold Rep at r; subst r; exact .bl b
  | _, .int i, v, _, r => by unfold Rep at r; subst r; exact .int i
  | _, .str x, v, _, r => by unfold Rep at r; subst r; exact .str x
  | n + 1, .tup ds, v, h, r => by
    unfold Rep at r
    obtain ⟨a, vs, rfl, q, t⟩ := r
    simp only [dat] at h
    exact .tup q (Reps.dp n ds vs h t)
  | n + 1, .lst ds, v, h, r => by
    unfold Rep at r
    obtain ⟨a, vs, rfl, q, t⟩ := r
    simp only [dat] at h
    exact .lst (.inl q.rd) (Reps.dp n ds vs h t)
  | 0, .tup ds, v, h, r => by simp [dat] at h
  | 0, .lst ds, v, h, r => by simp [dat] at h
  | 0, .ref k, v, h, r => by simp [dat] at h
  | n + 1, .ref k, v, h, r => by simp [dat] at h
theorem Reps.dp : ∀ (n : Nat) (ds : List D) (vs : List V), dats n ds = true → Reps g.K al H ds vs → DpAll g.K H vs (toPys ds)
  | n, [], vs, _, r => by rw [r.inv0]; exact .nil
  | n, d :: ds, vs, h, r => by
    obtain ⟨v, w, rfl, q, t⟩ := r.inv
    simp only [dats, Bool.and_eq_true] at h
    exact .cons (Rep.dp n d v h.1 q) (Reps.dp n ds w h.2 t)
end
theorem PRep.dp {n : Nat} {d : D} {v : V} (h : dat n d = true) (r : PRep g.K al H d v) : Dp g.K H v (toPy d) := by
  rcases r with r | ⟨ds, a, vs, rfl, rfl, e, r, _⟩
  · exact r.dp n d v h
  · cases n with
    | zero => simp [dat] at h
    | succ n =>
      simp only [dat] at h
      exact .lst (.inl (.inl e)) (r.dp n ds vs h)
end
theorem any_eqv : ∀ (n m : Nat) (d : D) (ds : List D), dat n d = true → dats m ds = true → (toPys ds).any (fun z => PyData.eqv z (toPy d)) = isMem d ds
  | n, m, d, [], h, k => by simp [toPys, isMem]
  | n, m, d, e :: es, h, k => by
    simp only [dats, Bool.and_eq_true] at k
    have ih := any_eqv n m d es h k.2
    simp only [isMem] at ih
    simp only [toPys, isMem, List.any_cons]
    rw [deq_eqv m n e d k.1 h, ih]
section
variable {X : Cx}
def rInA (K : PySem.W.Frag) (neg : Bool) : R2 := fun x y H Q => ∃ d ds, Dp K H x d ∧ (Dp K H y (.list ds) ∨ Dp K H y (.tuple ds)) ∧ SeqAt.shaped d = true ∧ PyData.canLayAll0 ds = true ∧ Q (.bl (if neg then !ds.any fun z => PyData.eqv z d else ds.any fun z => PyData.eqv z d)) H
theorem op_inA (hu : X.A.units + 65 < cLine) : OpR X (compareOp .In) (rInA X.K false) := by
  intro pins s σ H x y v u Q I rx ry h
  obtain ⟨d, ds, hd, he, sd, se, q⟩ := h
  obtain ⟨as, r1⟩ := Dp.reads I d x v hd rx
  rcases he with he | he
  · obtain ⟨bs, r2⟩ := Dp.reads I (.list ds) y u he ry
    exact SeqAt.in_list_reads r2 r1 se (SeqAt.canLay_of_shaped sd) (room_in_shaped sd hu) ⟨.bl _, H, I, rfl, q⟩
  · obtain ⟨bs, r2⟩ := Dp.reads I (.tuple ds) y u he ry
    exact SeqAt.in_tuple_reads r2 r1 se (SeqAt.canLay_of_shaped sd) (room_in_shaped sd hu) ⟨.bl _, H, I, rfl, q⟩
theorem op_notInA (hu : X.A.units + 65 < cLine) : OpR X (compareOp .NotIn) (rInA X.K true) := by
  intro pins s σ H x y v u Q I rx ry h
  obtain ⟨d, ds, hd, he, sd, se, q⟩ := h
  obtain ⟨as, r1⟩ := Dp.reads I d x v hd rx
  rcases he with he | he
  · obtain ⟨bs, r2⟩ := Dp.reads I (.list ds) y u he ry
    exact SeqAt.notIn_list_reads r2 r1 se (SeqAt.canLay_of_shaped sd) (room_in_shaped sd hu) ⟨.bl _, H, I, rfl, q⟩
  · obtain ⟨bs, r2⟩ := Dp.reads I (.tuple ds) y u he ry
    exact SeqAt.notIn_tuple_reads r2 r1 se (SeqAt.canLay_of_shaped sd) (room_in_shaped sd hu) ⟨.bl _, H, I, rfl, q⟩
end
def copOf : COp → CmpOp
  | .eq => .Eq | .ne => .NotEq | .lt => .Lt | .le => .LtE | .gt => .Gt | .ge => .GtE | .isin => .In | .notin => .NotIn | .is => .Is | .isnot => .IsNot
theorem PRep.isNon {g : G} {al : List Addr} {H : Hp} {d : D} {v : V} (h : PRep g.K al H d v) : decide (v = V.non) = d.isNon := by
  rcases h with h | ⟨ds, a, vs, rfl, rfl, _⟩
  · cases d <;> unfold Rep at h
    · subst h; rfl
    · subst h; rfl
    · subst h; rfl
    · subst h; rfl
    · obtain ⟨_, _, rfl, _⟩ := h; rfl
    · obtain ⟨_, _, rfl, _⟩ := h; rfl
    · obtain ⟨_, _, rfl⟩ := h; rfl
  · rfl
theorem cmpR {X : Cx} {g : G} (hK : X.K = g.K) (hu : X.A.units + 65 < cLine) (o : COp) : ∃ r : R2, OpR X (compareOp (copOf o)) r ∧ ∀ (al : List Addr) (H : Hp) (Q : VK) (x y : D) (v u : V) (c : Bool),
    PRep g.K al H x v → PRep g.K al H y u → cmpD o x y = some c → Q (.bl c) H → r v u H Q := by
  cases o with
  | eq =>
    refine ⟨_, op_eqD (X := X) (by omega), fun al H Q x y v u c hx hy e q => ?_⟩
    simp only [cmpD] at e
    split at e
    · rename_i h
      simp only [Bool.and_eq_true] at h
      cases e
      rw [hK]
      exact ⟨_, _, hx.dp h.1, hy.dp h.2, toPy_shaped h.1, toPy_shaped h.2, by rw [deq_eqv 60 60 x y h.1 h.2]; exact q⟩
    · cases e
  | ne =>
    refine ⟨_, op_neD (X := X) (by omega), fun al H Q x y v u c hx hy e q => ?_⟩
    simp only [cmpD] at e
    split at e
    · rename_i h
      simp only [Bool.and_eq_true] at h
      cases e
      rw [hK]
      exact ⟨_, _, hx.dp h.1, hy.dp h.2, toPy_shaped h.1, toPy_shaped h.2, by rw [deq_eqv 60 60 x y h.1 h.2]; exact q⟩
    · cases e
  | lt =>
    refine ⟨_, op_lt (X := X), fun al H Q x y v u c hx hy e q => ?_⟩
    cases x <;> cases y <;> simp only [cmpD] at e <;> try (cases e; done)
    cases e; rw [hx.int, hy.int]; exact ⟨_, _, rfl, rfl, q⟩
  | le =>
    refine ⟨_, op_le (X := X), fun al H Q x y v u c hx hy e q => ?_⟩
    cases x <;> cases y <;> simp only [cmpD] at e <;> try (cases e; done)
    cases e; rw [hx.int, hy.int]; exact ⟨_, _, rfl, rfl, q⟩
  | gt =>
    refine ⟨_, op_gt (X := X), fun al H Q x y v u c hx hy e q => ?_⟩
    cases x <;> cases y <;> simp only [cmpD] at e <;> try (cases e; done)
    cases e; rw [hx.int, hy.int]; exact ⟨_, _, rfl, rfl, q⟩
  | ge =>
    refine ⟨_, op_ge (X := X), fun al H Q x y v u c hx hy e q => ?_⟩
    cases x <;> cases y <;> simp only [cmpD] at e <;> try (cases e; done)
    cases e; rw [hx.int, hy.int]; exact ⟨_, _, rfl, rfl, q⟩
  | isin =>
    refine ⟨_, op_inA (X := X) hu, fun al H Q x y v u c hx hy e q => ?_⟩
    cases y <;> simp only [cmpD] at e <;> try (cases e; done)
    · split at e
      · rename_i ds h
        simp only [Bool.and_eq_true] at h
        cases e
        rw [hK]
        refine ⟨_, toPys ds, hx.dp h.1, .inr (hy.dp (n := 61) (by simp only [dat]; exact h.2)), toPy_shaped h.1, (toPys_lay 60 ds h.2).1, ?_⟩
        simp only [any_eqv 60 60 x ds h.1 h.2]
        exact q
      · cases e
    · split at e
      · rename_i ds h
        simp only [Bool.and_eq_true] at h
        cases e
        rw [hK]
        refine ⟨_, toPys ds, hx.dp h.1, .inl (hy.dp (n := 61) (by simp only [dat]; exact h.2)), toPy_shaped h.1, (toPys_lay 60 ds h.2).1, ?_⟩
        simp only [any_eqv 60 60 x ds h.1 h.2]
        exact q
      · cases e
  | notin =>
    refine ⟨_, op_notInA (X := X) hu, fun al H Q x y v u c hx hy e q => ?_⟩
    cases y <;> simp only [cmpD] at e <;> try (cases e; done)
    · split at e
      · rename_i ds h
        simp only [Bool.and_eq_true] at h
        cases e
        rw [hK]
        refine ⟨_, toPys ds, hx.dp h.1, .inr (hy.dp (n := 61) (by simp only [dat]; exact h.2)), toPy_shaped h.1, (toPys_lay 60 ds h.2).1, ?_⟩
        simp only [any_eqv 60 60 x ds h.1 h.2]
        exact q
      · cases e
    · split at e
      · rename_i ds h
        simp only [Bool.and_eq_true] at h
        cases e
        rw [hK]
        refine ⟨_, toPys ds, hx.dp h.1, .inl (hy.dp (n := 61) (by simp only [dat]; exact h.2)), toPy_shaped h.1, (toPys_lay 60 ds h.2).1, ?_⟩
        simp only [any_eqv 60 60 x ds h.1 h.2]
        exact q
      · cases e
  | is =>
    refine ⟨_, op_isN (X := X), fun al H Q x y v u c hx hy e q => ?_⟩
    cases y <;> simp only [cmpD] at e <;> try (cases e; done)
    cases e
    exact ⟨hy.non, by rw [hx.isNon]; exact q⟩
  | isnot =>
    refine ⟨_, op_notN (X := X), fun al H Q x y v u c hx hy e q => ?_⟩
    cases y <;> simp only [cmpD] at e <;> try (cases e; done)
    cases e
    refine ⟨hy.non, ?_⟩
    rw [hx.isNon]
    exact q
end PI

namespace PI
open PySem PySem.Spec PyProof.Rows L2
section
variable {g : G} {al : List Addr} {H : Hp}
theorem ixP_eq (n : Nat) (i : Int) : ixP n i = ixN n i := rfl
theorem Reps.at {ds : List D} {vs : List V} {i : Int} {d : D} (h : Reps g.K al H ds vs) (e : atD ds i = some d) : ∃ v, atI vs i = some v ∧ Rep g.K al H d v := by
  unfold atD at e
  unfold atI
  rw [← h.length]
  rw [ixP_eq] at e
  cases q : ixN ds.length i with
  | none => rw [q] at e; cases e
  | some j =>
    rw [q] at e
    exact h.get e
end
theorem ixR {X : Cx} {g : G} (hK : X.K = g.K) : ∃ r : R2, IxR X r ∧ ∀ (b : B) (al : List Addr) (s : S) (σ : L2.St) (H : Hp) (Q : VK) (x y : D) (v u : V) (d : D),
    Rel g b al s σ H → PRep g.K al H x v → PRep g.K al H y u → idxD s x y = some d → (∀ w, Rep g.K al H d w → Q w H) → r v u H Q := by
  refine ⟨_, ix_seq (X := X), fun b al s σ H Q x y v u d R hx hy e q => ?_⟩
  cases x with
  | tup ds =>
    cases y <;> simp only [idxD] at e <;> try (cases e; done)
    obtain ⟨p, vs, rfl, h1, r1⟩ := hx.tup
    obtain ⟨w, e1, e2⟩ := r1.at e
    rw [← hK] at h1
    exact .inr (.inl ⟨p, vs, _, w, rfl, hy.int, h1, e1, q w e2⟩)
  | lst ds =>
    cases y <;> simp only [idxD] at e <;> try (cases e; done)
    obtain ⟨p, vs, rfl, h1, r1⟩ := hx.lst
    obtain ⟨w, e1, e2⟩ := r1.at e
    exact .inl ⟨p, vs, _, w, rfl, hy.int, .inl h1, e1, q w e2⟩
  | ref k =>
    cases y <;> simp only [idxD] at e <;> try (cases e; done)
    obtain ⟨a, ha, rfl⟩ := hx.ref
    cases hk : s.h[k]? with
    | none => rw [hk] at e; cases e
    | some ds =>
      rw [hk] at e
      obtain ⟨a', vs, e1, e2, e3⟩ := R.cell k ds hk
      rw [ha] at e1; cases e1
      obtain ⟨w, e4, e5⟩ := e3.at e
      exact .inl ⟨a, vs, _, w, rfl, hy.int, .of e2, e4, q w e5⟩
  | str z =>
    cases y <;> simp only [idxD] at e <;> try (cases e; done)
    split at e
    · rename_i i hl
      cases hj : ixP z.cps.toList.length i with
      | none => rw [hj] at e; cases e
      | some j =>
        rw [hj] at e
        simp only [Option.bind_some, Option.map_eq_some_iff] at e
        obtain ⟨c, hc, rfl⟩ := e
        refine .inr (.inr ⟨z, i, c, hx.str, hy.int, by rw [← line_eq]; exact hl, ?_, q _ (by unfold Rep; rfl)⟩)
        unfold atI
        rw [← ixP_eq, hj]
        exact hc
    · cases e
  | _ => simp only [idxD] at e; try (cases e)

/-! ### sorting -/
theorem insD_perm (i : Int) : ∀ l : List Int, (insD i l).Perm (i :: l)
  | [] => by simp [insD]
  | j :: r => by
    unfold insD
    split
    · exact List.Perm.refl _
    · exact ((insD_perm i r).cons j).trans (List.Perm.swap i j r)
theorem sortD_perm : ∀ l : List Int, (sortD l).Perm l
  | [] => by simp [sortD]
  | i :: r => by
    unfold sortD
    exact (insD_perm i _).trans ((sortD_perm r).cons i)
theorem insD_sorted (i : Int) : ∀ l : List Int, l.Pairwise (· ≤ ·) → (insD i l).Pairwise (· ≤ ·)
  | [], _ => by simp [insD]
  | j :: r, h => by
    unfold insD
    rw [List.pairwise_cons] at h
    split
    · rename_i hij
      rw [List.pairwise_cons]
      refine ⟨fun a ha => ?_, by rw [List.pairwise_cons]; exact h⟩
      rcases List.mem_cons.mp ha with rfl | ha
      · exact hij
      · exact Int.le_trans hij (h.1 a ha)
    · rename_i hij
      rw [List.pairwise_cons]
      refine ⟨fun a ha => ?_, insD_sorted i r h.2⟩
      rcases List.mem_cons.mp ((insD_perm i r).mem_iff.mp ha) with rfl | ha
      · omega
      · exact h.1 a ha
theorem sortD_sorted : ∀ l : List Int, (sortD l).Pairwise (· ≤ ·)
  | [] => by simp [sortD]
  | i :: r => by
    unfold sortD
    exact insD_sorted i _ (sortD_sorted r)

/-! ### built-in functions -/
abbrev PReps (g : G) (al : List Addr) (H : Hp) : List D → List V → Prop := Paired (PRep g.K al H)
def blVal : Bl → Value
  | .len => .builtin "len" | .abs => .builtin "abs" | .int => .type "int" | .max2 => .builtin "max" | .min2 => .builtin "min" | .sum => .builtin "sum" | .all => .builtin "all" | .any => .builtin "any"
  | .tuple => .type "tuple" | .list => .type "list" | .sorted => .builtin "sorted" | .bits => .none
theorem CallR.or {X : Cx} {f : Value} {r r' : List V → Hp → VK → Prop} (h : CallR X f r) (h' : CallR X f r') : CallR X f (fun xs H Q => r xs H Q ∨ r' xs H Q) := by
  intro pins s σ H xs us Q I rx q
  rcases q with q | q
  · exact h pins s σ H xs us Q I rx q
  · exact h' pins s σ H xs us Q I rx q
theorem PReps.one {g : G} {al : List Addr} {H : Hp} {d : D} {vs : List V} (h : PReps g al H [d] vs) : ∃ v, vs = [v] ∧ PRep g.K al H d v := by
  cases h with
  | cons p r => cases r; exact ⟨_, rfl, p⟩
theorem PReps.two {g : G} {al : List Addr} {H : Hp} {d e : D} {vs : List V} (h : PReps g al H [d, e] vs) : ∃ v w, vs = [v, w] ∧ PRep g.K al H d v ∧ PRep g.K al H e w := by
  cases h with
  | cons p r => cases r with | cons p' r' => cases r'; exact ⟨_, _, rfl, p, p'⟩
theorem bltR {X : Cx} {g : G} (hK : X.K = g.K) (hc : X.calm = true) (f : Bl) (hf : f ≠ .bits) : ∃ r, CallR X (blVal f) r ∧ ∀ (b : B) (al : List Addr) (s : S) (σ : L2.St) (H : Hp) (Q : VK) (xs : List D) (vs : List V) (rv : RV),
    Rel g b al s σ H → PReps g al H xs vs → bltD f xs = some rv → Aft g b al s σ H rv Q → r vs H Q := by
  cases f with
  | len =>
    refine ⟨_, CallR.or (call_len_seq (X := X)) (call_len_str (X := X)), fun b al s σ H Q xs vs rv R hx e a => ?_⟩
    unfold bltD at e
    split at e <;> try (cases e; done)
    all_goals (rename_i h1; try (injection h1; done))
    · obtain ⟨v, rfl, p⟩ := hx.one
      cases e
      obtain ⟨a', vs, rfl, h1, r1⟩ := p.tup
      rw [← hK] at h1
      exact .inl ⟨a', vs, rfl, .inr h1, by rw [← r1.length]; exact a.int R⟩
    · obtain ⟨v, rfl, p⟩ := hx.one
      cases e
      obtain ⟨a', vs, rfl, h1, r1⟩ := p.lst
      exact .inl ⟨a', vs, rfl, .inl (.inl h1), by rw [← r1.length]; exact a.int R⟩
    · obtain ⟨v, rfl, p⟩ := hx.one
      split at e
      · rename_i hl
        cases e
        exact .inr ⟨_, by rw [p.str], by rw [← line_eq]; exact hl, a.int R⟩
      · cases e
  | abs =>
    refine ⟨_, call_abs (X := X), fun b al s σ H Q xs vs rv R hx e a => ?_⟩
    unfold bltD at e
    split at e <;> try (cases e; done)
    all_goals (rename_i h1; try (injection h1; done))
    obtain ⟨v, rfl, p⟩ := hx.one
    cases e
    exact ⟨_, by rw [p.int], a.int R⟩
  | int =>
    refine ⟨_, call_int1 (X := X), fun b al s σ H Q xs vs rv R hx e a => ?_⟩
    unfold bltD at e
    split at e <;> try (cases e; done)
    all_goals (rename_i h1; try (injection h1; done))
    · obtain ⟨v, rfl, p⟩ := hx.one
      cases e
      exact .inl ⟨_, by rw [p.int], a.int R⟩
    · obtain ⟨v, rfl, p⟩ := hx.one
      cases e
      exact .inr ⟨_, by rw [p.bl], a.int R⟩
  | max2 =>
    refine ⟨_, call_max2 (X := X) hc, fun b al s σ H Q xs vs rv R hx e a => ?_⟩
    unfold bltD at e
    split at e <;> try (cases e; done)
    all_goals (rename_i h1; try (injection h1; done))
    obtain ⟨v, w, rfl, p, p'⟩ := hx.two
    cases e
    exact ⟨_, _, by rw [p.int, p'.int], a.int R⟩
  | min2 =>
    refine ⟨_, call_min2 (X := X) hc, fun b al s σ H Q xs vs rv R hx e a => ?_⟩
    unfold bltD at e
    split at e <;> try (cases e; done)
    all_goals (rename_i h1; try (injection h1; done))
    obtain ⟨v, w, rfl, p, p'⟩ := hx.two
    cases e
    exact ⟨_, _, by rw [p.int, p'.int], a.int R⟩
  | sum =>
    refine ⟨_, cr_sum (X := X) hc, fun b al s σ H Q xs vs rv R hx e a => ?_⟩
    unfold bltD at e
    split at e <;> try (cases e; done)
    all_goals (rename_i h1; try (injection h1; done))
    obtain ⟨v, rfl, p⟩ := hx.one
    rw [Option.map_eq_some_iff] at e
    obtain ⟨ns, e1, e2⟩ := e
    cases e2
    obtain ⟨a', vs, rfl, h1, r1⟩ := p.lst
    rw [r1.ints e1] at h1
    exact ⟨a', ns, rfl, .inl h1, a.int R⟩
  | all =>
    refine ⟨_, cr_all (X := X) hc, fun b al s σ H Q xs vs rv R hx e a => ?_⟩
    unfold bltD at e
    split at e <;> try (cases e; done)
    all_goals (rename_i h1; try (injection h1; done))
    obtain ⟨v, rfl, p⟩ := hx.one
    rw [Option.map_eq_some_iff] at e
    obtain ⟨ns, e1, e2⟩ := e
    cases e2
    obtain ⟨a', vs, rfl, h1, r1⟩ := p.lst
    rw [r1.bls e1] at h1
    exact ⟨a', ns, rfl, .inl h1, a.bl R⟩
  | any =>
    refine ⟨_, cr_any (X := X) hc, fun b al s σ H Q xs vs rv R hx e a => ?_⟩
    unfold bltD at e
    split at e <;> try (cases e; done)
    all_goals (rename_i h1; try (injection h1; done))
    obtain ⟨v, rfl, p⟩ := hx.one
    rw [Option.map_eq_some_iff] at e
    obtain ⟨ns, e1, e2⟩ := e
    cases e2
    obtain ⟨a', vs, rfl, h1, r1⟩ := p.lst
    rw [r1.bls e1] at h1
    exact ⟨a', ns, rfl, .inl h1, a.bl R⟩
  | tuple =>
    refine ⟨_, call_tuple_of (X := X), fun b al s σ H Q xs vs rv R hx e a => ?_⟩
    unfold bltD at e
    split at e <;> try (cases e; done)
    all_goals (rename_i h1; try (injection h1; done))
    · obtain ⟨v, rfl, p⟩ := hx.one
      cases e
      obtain ⟨a', vs, rfl, h1, r1⟩ := p.lst
      exact ⟨a', vs, rfl, .inl ⟨.inl h1, a.tup R r1⟩⟩
    · obtain ⟨v, rfl, p⟩ := hx.one
      cases e
      obtain ⟨a', vs, rfl, h1, r1⟩ := p.tup
      exact ⟨a', vs, rfl, .inr ⟨by rw [hK]; exact h1, a.tupAt R h1 r1⟩⟩
  | list =>
    refine ⟨_, call_list_of (X := X), fun b al s σ H Q xs vs rv R hx e a => ?_⟩
    unfold bltD at e
    split at e <;> try (cases e; done)
    all_goals (rename_i h1; try (injection h1; done))
    · obtain ⟨v, rfl, p⟩ := hx.one
      cases e
      obtain ⟨a', vs, rfl, h1, r1⟩ := p.lst
      exact ⟨a', vs, rfl, .inl (.inl h1), a.new R r1⟩
    · obtain ⟨v, rfl, p⟩ := hx.one
      cases e
      obtain ⟨a', vs, rfl, h1, r1⟩ := p.tup
      exact ⟨a', vs, rfl, .inr (by rw [hK]; exact h1), a.new R r1⟩
  | sorted =>
    refine ⟨_, cr_sortedI (X := X), fun b al s σ H Q xs vs rv R hx e a => ?_⟩
    unfold bltD at e
    split at e <;> try (cases e; done)
    all_goals (rename_i h1; try (injection h1; done))
    obtain ⟨v, rfl, p⟩ := hx.one
    rw [Option.map_eq_some_iff] at e
    obtain ⟨ns, e1, e2⟩ := e
    cases e2
    obtain ⟨a', vs, rfl, h1, r1⟩ := p.lst
    rw [r1.ints e1] at h1
    refine ⟨a', ns, rfl, .inl h1, fun ns' q pm st hq => ?_⟩
    have : ns' = sortD ns := PySem.W.ksm_same (pm.trans (sortD_perm ns).symm) st (sortD_sorted ns)
    subst this
    exact a.new R (reps_ints _) q hq
  | bits => exact absurd rfl hf

/-! ### isinstance -/
def tyName : Ty → String
  | .tup => "tuple" | .lst => "list" | .int => "int" | .bl => "bool" | .str => "str"
theorem PRep.ty {X : Cx} {g : G} {al : List Addr} {H : Hp} (hK : X.K = g.K) {d : D} {v : V} {t : Ty} {k : Bool} (h : PRep g.K al H d v) (e : isTy t d = some k) : ∃ u, TyX X.K H v u ∧ PySem.W.kitOne X.K u (.type (tyName t)) = some k := by
  cases d with
  | non => rw [h.non]; refine ⟨_, .base .non, ?_⟩; cases t <;> cases e <;> exact kit_ty (by decide +kernel)
  | bl b => rw [h.bl]; refine ⟨_, .base (.bl _), ?_⟩; cases t <;> cases e <;> exact kit_ty (by decide +kernel)
  | int i => rw [h.int]; refine ⟨_, .base (.int _), ?_⟩; cases t <;> cases e <;> exact kit_ty (by decide +kernel)
  | str x => rw [h.str]; refine ⟨_, .base (.str _), ?_⟩; cases t <;> cases e <;> exact kit_ty (by decide +kernel)
  | tup ds =>
    obtain ⟨a, vs, rfl, h1, _⟩ := h.tup
    have : TyX X.K H (.ref a) (.type "tuple") := by
      rw [hK]
      rcases h1 with (h1 | ⟨o, h1⟩) | ⟨o, its, n, h1, h2, _⟩
      · exact .base (.tup h1)
      · exact .fTuple h1
      · exact .kTuple h1 h2
    refine ⟨_, this, ?_⟩
    cases t <;> cases e <;> exact kit_ty (by decide +kernel)
  | lst ds =>
    obtain ⟨a, vs, rfl, h1, _⟩ := h.lst
    have : TyX X.K H (.ref a) (.type "list") := by
      rcases h1 with h1 | ⟨o, h1⟩
      · exact .base (.lst h1)
      · exact .base (.frz h1)
    refine ⟨_, this, ?_⟩
    cases t <;> cases e <;> exact kit_ty (by decide +kernel)
  | ref k => cases t <;> cases e

/-! ### walks -/
def Walks (g : G) (al : List Addr) (J : It) (ds : List D) (H0 : Hp) : Prop := ∀ H1, Stay H0 H1 →
  (∀ (i : Nat) (d : D), ds[i]? = some d → J.go i H1 ∧ ∀ x H2, J.yld i H1 x H2 → (∀ a o, H1 a = some o → H2 a = some o) ∧ Rep g.K al H2 d x) ∧ (∀ i : Nat, ds.length ≤ i → J.stop i H1)
section
variable {g : G} {al : List Addr} {H : Hp} {K : PySem.W.Frag}
theorem walk_lst {a : Addr} {ds : List D} {vs : List V} (h : FzL g.K H a vs) (r : Reps g.K al H ds vs) : Walks g al (Itl K a) ds H := fun H1 st => by
  have h1 := st.fz h
  have r1 := r.stay st (al' := al) fun _ _ z => z
  refine ⟨fun i d e => ?_, fun i e => ⟨vs, .inl h1.rd, by rw [← r.length]; exact e⟩⟩
  obtain ⟨v, e1, e2⟩ := r1.get e
  refine ⟨⟨vs, v, .inl h1.rd, e1⟩, fun x H2 ⟨e3, e4⟩ => ?_⟩
  subst e3
  have := e4 vs (.inl h1.rd)
  rw [e1] at this; cases this
  exact ⟨fun _ _ z => z, e2⟩
theorem walk_tup {a : Addr} {ds : List D} {vs : List V} (h : SqT K H a vs) (r : Reps g.K al H ds vs) : Walks g al (Itt K a) ds H := fun H1 st => by
  have h1 := st.sqT h
  have r1 := r.stay st (al' := al) fun _ _ z => z
  refine ⟨fun i d e => ?_, fun i e => ⟨vs, h1, by rw [← r.length]; exact e⟩⟩
  obtain ⟨v, e1, e2⟩ := r1.get e
  refine ⟨⟨vs, v, h1, e1⟩, fun x H2 ⟨e3, e4⟩ => ?_⟩
  subst e3
  have := e4 vs h1
  rw [e1] at this; cases this
  exact ⟨fun _ _ z => z, e2⟩
theorem rangeD_get {lo : Int} {n i : Nat} {d : D} (e : (rangeD lo n)[i]? = some d) : i < n ∧ d = .int (lo + i) := by
  unfold rangeD at e
  rw [List.getElem?_map, Option.map_eq_some_iff] at e
  obtain ⟨k, e1, e2⟩ := e
  rw [List.getElem?_eq_some_iff] at e1
  obtain ⟨h, e1⟩ := e1
  simp at h e1
  subst e1
  exact ⟨h, e2.symm⟩
theorem walk_rng {lo : Int} {n : Nat} : Walks g al (Itr lo n) (rangeD lo n) H := fun H1 st => by
  refine ⟨fun i d e => ?_, fun i e => ?_⟩
  · obtain ⟨h, rfl⟩ := rangeD_get e
    refine ⟨h, fun x H2 ⟨e1, e2⟩ => ?_⟩
    subst e1 e2
    exact ⟨fun _ _ z => z, by unfold Rep; rfl⟩
  · simp [rangeD] at e
    exact e
theorem rangeC_get {lo c : Int} {n i : Nat} {d : D} (e : (rangeC lo c n)[i]? = some d) : i < n ∧ d = .int (lo + i * c) := by
  unfold rangeC at e
  rw [List.getElem?_map, Option.map_eq_some_iff] at e
  obtain ⟨k, e1, e2⟩ := e
  rw [List.getElem?_eq_some_iff] at e1
  obtain ⟨h, e1⟩ := e1
  simp at h e1
  subst e1
  exact ⟨h, e2.symm⟩
theorem walk_rngC {lo c : Int} {n : Nat} : Walks g al (Itc lo c n) (rangeC lo c n) H := fun H1 st => by
  refine ⟨fun i d e => ?_, fun i e => ?_⟩
  · obtain ⟨h, rfl⟩ := rangeC_get e
    refine ⟨h, fun x H2 ⟨e1, e2⟩ => ?_⟩
    subst e1 e2
    exact ⟨fun _ _ z => z, by unfold Rep; rfl⟩
  · simp [rangeC] at e
    exact e
theorem rev_get {α : Type} {l : List α} {i : Nat} {d : α} (e : l.reverse[i]? = some d) : i < l.length ∧ l[l.length - 1 - i]? = some d := by
  have h : i < l.reverse.length := (List.getElem?_eq_some_iff.mp e).1
  rw [List.length_reverse] at h
  rw [List.getElem?_reverse h] at e
  exact ⟨h, e⟩
theorem walk_revL {a : Addr} {ds : List D} {vs : List V} (h : FzL g.K H a vs) (r : Reps g.K al H ds vs) : Walks g al (Itv K a vs.length) ds.reverse H := fun H1 st => by
  have h1 := st.fz h
  have r1 := r.stay st (al' := al) fun _ _ z => z
  refine ⟨fun i d e => ?_, fun i e => ?_⟩
  · obtain ⟨hl, e⟩ := rev_get e
    obtain ⟨v, e1, e2⟩ := r1.get e
    rw [r.length] at e1 hl
    refine ⟨⟨hl, vs, v, .inl h1.rd, e1⟩, fun x H2 ⟨e3, e4⟩ => ?_⟩
    subst e3
    have := e4 vs (.inl h1.rd)
    rw [e1] at this; cases this
    exact ⟨fun _ _ z => z, e2⟩
  · rw [List.length_reverse, r.length] at e
    exact e
theorem walk_revT {a : Addr} {ds : List D} {vs : List V} (h : SqT K H a vs) (r : Reps g.K al H ds vs) : Walks g al (RT.ItvT K a vs.length) ds.reverse H := fun H1 st => by
  have h1 := st.sqT h
  have r1 := r.stay st (al' := al) fun _ _ z => z
  refine ⟨fun i d e => ?_, fun i e => ?_⟩
  · obtain ⟨hl, e⟩ := rev_get e
    obtain ⟨v, e1, e2⟩ := r1.get e
    rw [r.length] at e1 hl
    refine ⟨⟨hl, vs, v, h1, e1⟩, fun x H2 ⟨e3, e4⟩ => ?_⟩
    subst e3
    have := e4 vs h1
    rw [e1] at this; cases this
    exact ⟨fun _ _ z => z, e2⟩
  · rw [List.length_reverse, r.length] at e
    exact e
theorem enumD_get : ∀ {ds : List D} {n i : Nat} {d : D}, (enumD n ds)[i]? = some d → ∃ e, ds[i]? = some e ∧ d = .tup [.int (n + i : Nat), e]
  | [], n, i, d, h => by simp [enumD] at h
  | e :: ds, n, 0, d, h => by
    simp [enumD] at h
    exact ⟨e, rfl, by rw [← h]; rfl⟩
  | e :: ds, n, i + 1, d, h => by
    simp only [enumD, List.getElem?_cons_succ] at h
    obtain ⟨e', h1, h2⟩ := enumD_get h
    exact ⟨e', by simpa using h1, by rw [h2]; congr 3; omega⟩
theorem enumD_len : ∀ (ds : List D) (n : Nat), (enumD n ds).length = ds.length
  | [], n => rfl
  | _ :: ds, n => by simp [enumD, enumD_len ds]
theorem tup2_rep {T : Addr} {H1 : Hp} {d e : D} {x y : V} (hT : H1 T = none) (h1 : Rep g.K al H1 d x) (h2 : Rep g.K al H1 e y) : Rep g.K al (upd H1 T (.tup [x, y])) (.tup [d, e]) (.ref T) := by
  have st := stay_upd (o := .tup [x, y]) hT
  unfold Rep
  exact ⟨T, [x, y], rfl, .of upd_same, Reps.cons (h1.stay st fun _ _ z => z) (Reps.cons (h2.stay st fun _ _ z => z) Reps.nil)⟩
theorem walk_enum {a : Addr} {ds : List D} {vs : List V} (h : FzL g.K H a vs) (r : Reps g.K al H ds vs) : Walks g al (Ite K a) (enumD 0 ds) H := fun H1 st => by
  have h1 := st.fz h
  have r1 := r.stay st (al' := al) fun _ _ z => z
  refine ⟨fun i d e => ?_, fun i e => ?_⟩
  · obtain ⟨e', e1, rfl⟩ := enumD_get e
    obtain ⟨v, e2, e3⟩ := r1.get e1
    refine ⟨⟨vs, v, .inl h1.rd, e2⟩, fun x H2 ⟨T, y, ex, hT, eH, e4⟩ => ?_⟩
    have := e4 vs (.inl h1.rd)
    rw [e2] at this; cases this
    subst ex eH
    refine ⟨fun c o q => by rw [upd_ne (ne_of_none q hT)]; exact q, ?_⟩
    rw [show (0 + i : Nat) = i from Nat.zero_add i]
    exact tup2_rep hT (by unfold Rep; rfl) e3
  · rw [enumD_len, r.length] at e
    exact ⟨vs, .inl h1.rd, e⟩
theorem zipD_get : ∀ {ds es : List D} {i : Nat} {d : D}, (zipD ds es)[i]? = some d → ∃ x y, ds[i]? = some x ∧ es[i]? = some y ∧ d = .tup [x, y]
  | [], es, i, d, h => by simp [zipD] at h
  | x :: ds, [], i, d, h => by simp [zipD] at h
  | x :: ds, y :: es, 0, d, h => by
    simp [zipD] at h
    exact ⟨x, y, rfl, rfl, h.symm⟩
  | x :: ds, y :: es, i + 1, d, h => by
    simp only [zipD, List.getElem?_cons_succ] at h
    obtain ⟨a, b, h1, h2, h3⟩ := zipD_get h
    exact ⟨a, b, by simpa using h1, by simpa using h2, h3⟩
theorem zipD_len : ∀ (ds es : List D), (zipD ds es).length = min ds.length es.length
  | [], es => by simp [zipD]
  | x :: ds, [] => by simp [zipD]
  | x :: ds, y :: es => by simp [zipD, zipD_len ds es]
theorem walk_zipL {a b : Addr} {ds es : List D} {vs ws : List V} (h : FzL g.K H a vs) (r : Reps g.K al H ds vs) (h' : FzL g.K H b ws) (r' : Reps g.K al H es ws) : Walks g al (Itz K a b) (zipD ds es) H := fun H1 st => by
  have h1 := st.fz h
  have r1 := r.stay st (al' := al) fun _ _ z => z
  have h2 := st.fz h'
  have r2 := r'.stay st (al' := al) fun _ _ z => z
  refine ⟨fun i d e => ?_, fun i e => ?_⟩
  · obtain ⟨x, y, e1, e2, rfl⟩ := zipD_get e
    obtain ⟨v, e3, e4⟩ := r1.get e1
    obtain ⟨w, e5, e6⟩ := r2.get e2
    refine ⟨⟨vs, ws, v, w, .inl h1.rd, .inl h2.rd, e3, e5⟩, fun z H2 ⟨T, v', w', ex, hT, eH, q1, q2⟩ => ?_⟩
    have z1 := q1 vs (.inl h1.rd)
    have z2 := q2 ws (.inl h2.rd)
    rw [e3] at z1; cases z1
    rw [e5] at z2; cases z2
    subst ex eH
    exact ⟨fun c o q => by rw [upd_ne (ne_of_none q hT)]; exact q, tup2_rep hT e4 e6⟩
  · rw [zipD_len, r.length, r'.length] at e
    exact ⟨vs, ws, .inl h1.rd, .inl h2.rd, by omega⟩
theorem walk_zipT {a b : Addr} {ds es : List D} {vs ws : List V} (h : SqT K H a vs) (r : Reps g.K al H ds vs) (h' : SqT K H b ws) (r' : Reps g.K al H es ws) : Walks g al (RZ.ItzT K a b) (zipD ds es) H := fun H1 st => by
  have h1 := st.sqT h
  have r1 := r.stay st (al' := al) fun _ _ z => z
  have h2 := st.sqT h'
  have r2 := r'.stay st (al' := al) fun _ _ z => z
  refine ⟨fun i d e => ?_, fun i e => ?_⟩
  · obtain ⟨x, y, e1, e2, rfl⟩ := zipD_get e
    obtain ⟨v, e3, e4⟩ := r1.get e1
    obtain ⟨w, e5, e6⟩ := r2.get e2
    refine ⟨⟨vs, ws, v, w, h1, h2, e3, e5⟩, fun z H2 ⟨T, v', w', ex, hT, eH, q1, q2⟩ => ?_⟩
    have z1 := q1 vs h1
    have z2 := q2 ws h2
    rw [e3] at z1; cases z1
    rw [e5] at z2; cases z2
    subst ex eH
    exact ⟨fun c o q => by rw [upd_ne (ne_of_none q hT)]; exact q, tup2_rep hT e4 e6⟩
  · rw [zipD_len, r.length, r'.length] at e
    exact ⟨vs, ws, h1, h2, by omega⟩
end
end PI

namespace PI
open PySem PySem.Spec PyProof.Rows L2

/-! ### what follows a result -/
def ExcRep (g : G) (al : List Addr) (H : Hp) (c : Nat) (d : D) (cls : Value) (dd : Addr) : Prop := cls = .ref (g.C c) ∧ ∃ w, H dd = some (.xd [(g.F c, w)]) ∧ Rep g.K al H d w
section
variable {α β : Type} (g : G) (b : B) (al : List Addr) (W : WX) (σ : L2.St)
def PostX (H : Hp) (ok : α → S → Prop) : Res α → Prop
  | .ok r s' => ok r s'
  | .exc c d s' => ∀ cls dd H', Ext al H H' → Rel g b al s' σ H' → ExcRep g al H' c d cls dd → W cls (some dd) σ H'
  | .bad => False
/-- each value and heap that may come out -/
def okR {τ : Type} (H : Hp) (rep : α → S → τ → Hp → Prop) (Q : τ → Hp → Prop) (r : α) (s' : S) : Prop := ∀ v H', Ext al H H' → Rel g b al s' σ H' → rep r s' v H' → Q v H'
end
section
variable {α β : Type} {g : G} {b : B} {al : List Addr} {W : WX} {σ : L2.St} {H H' : Hp}
theorem postX_bind {ok : β → S → Prop} {r : Res α} {k : α → S → Res β} : PostX g b al W σ H ok (r.bind k) ↔ PostX g b al W σ H (fun a s => PostX g b al W σ H ok (k a s)) r := by
  cases r <;> exact Iff.rfl
theorem PostX.shift {ok ok' : α → S → Prop} {r : Res α} (x : Ext al H H') (P : PostX g b al W σ H ok r) (h : ∀ a s, ok a s → ok' a s) : PostX g b al W σ H' ok' r := by
  cases r with
  | ok a s => exact h a s P
  | exc c d s => exact fun cls dd H'' e rel er => P cls dd H'' (x.trans e) rel er
  | bad => exact P
theorem PostX.mono {ok ok' : α → S → Prop} {r : Res α} (P : PostX g b al W σ H ok r) (h : ∀ a s, ok a s → ok' a s) : PostX g b al W σ H ok' r := P.shift Ext.refl h
theorem okR.shift {τ : Type} {rep : α → S → τ → Hp → Prop} {Q : τ → Hp → Prop} {r : α} {s : S} (x : Ext al H H') (P : okR g b al σ H rep Q r s) : okR g b al σ H' rep Q r s := fun v H'' e => P v H'' (x.trans e)
end
section
variable {X : Cx} {e : Expr}
theorem _root_.L2.PE.mono {t t' : TE} (h : PE X e t) (k : ∀ σ H Q, t' σ H Q → t σ H Q) : PE X e t' := ⟨fun pins s σ H Q I q => h.run pins s σ H Q I (k σ H Q q)⟩
theorem _root_.L2.PT.mono {t t' : TT} (h : PT X e t) (k : ∀ σ H Q, t' σ H Q → t σ H Q) : PT X e t' := ⟨fun pins s σ H Q I q => h.run pins s σ H Q I (k σ H Q q)⟩
theorem _root_.L2.PW.mono {t t' : TT} (h : PW X e t) (k : ∀ σ H Q, t' σ H Q → t σ H Q) : PW X e t' := ⟨fun wh pins s σ H Q I q => h.run wh pins s σ H Q I (k σ H Q q)⟩
theorem _root_.L2.PA.mono {es : List Expr} {t t' : TA} (h : PA X es t) (k : ∀ σ H Q, t' σ H Q → t σ H Q) : PA X es t' := ⟨fun pos pins s σ H Q I q => h.run pos pins s σ H Q I (k σ H Q q)⟩
theorem _root_.L2.PI.mono {tg : Expr} {t t' : TI} (h : L2.PI X tg e t) (k : ∀ σ H Q, t' σ H Q → t σ H Q) : L2.PI X tg e t' := ⟨fun pins s σ H Q I q => h.run pins s σ H Q I (k σ H Q q)⟩
theorem _root_.L2.PE.frz {t : TE} (h : PE X e t) : PE X e (fun σ H Q => t σ H (fun v H1 => Q v H1 ∨ ∃ a vs, v = .ref a ∧ H1 a = some (.lst vs) ∧ ∀ o, Q v (upd H1 a (.frz o (.lst vs))))) := by
  refine ⟨fun pins s σ H Q I hw => ?_⟩
  refine thn (h.run pins s σ H _ I hw) fun u s1 ⟨v, H1, I1, r1, q1⟩ => ?_
  rcases q1 with q | ⟨a, vs, rfl, e1, q⟩
  · exact ⟨v, H1, I1, r1, q⟩
  · obtain ⟨o, I2⟩ := I1.lock e1 trivial
    exact ⟨_, _, I2, r1, q o⟩
end

section
variable (g : G) (W : WX)
def rdE (f : S → Res RV) : TE := fun σ H Q => ∃ b al s, Rel g b al s σ H ∧ PostX g b al W σ H (okR g b al σ H (fun r s' v H' => RVRep g b al s' σ H' r v) Q) (f s)
def rdP (f : S → Res D) : TE := fun σ H Q => ∃ b al s, Rel g b al s σ H ∧ PostX g b al W σ H (okR g b al σ H (fun d _ v H' => PRep g.K al H' d v) Q) (f s)
def rdV (f : S → Res D) : TE := fun σ H Q => ∃ b al s, Rel g b al s σ H ∧ PostX g b al W σ H (okR g b al σ H (fun d _ v H' => Rep g.K al H' d v) Q) (f s)
def rdT (f : S → Res Bool) : TT := fun σ H Q => ∃ b al s, Rel g b al s σ H ∧ PostX g b al W σ H (fun c s' => ∀ H', Ext al H H' → Rel g b al s' σ H' → Q c H') (f s)
def rdA (pk : Bool) (f : S → Res (List D)) : TA := fun σ H Q => ∃ b al s, Rel g b al s σ H ∧ PostX g b al W σ H (okR g b al σ H (fun ds _ vs H' => if pk then PReps g al H' ds vs else Reps g.K al H' ds vs) Q) (f s)
end
section
variable {X : Cx} {e : Expr} {g : G} {W : WX}
theorem pe_P {f : S → Res RV} (h : PE X e (rdE g W f)) : PE X e (rdP g W fun s => toP (f s)) := h.mono fun σ H Q ⟨b, al, s, R, P⟩ => by
  refine ⟨b, al, s, R, ?_⟩
  unfold toP at P
  rw [postX_bind] at P
  refine P.mono fun r s' p v H' x R' rv => ?_
  cases q : r.pk with
  | none => rw [q] at p; exact p.elim
  | some d =>
    rw [q] at p
    exact p v H' x R' (rv.pk R' q)
theorem pe_V {f : S → Res RV} (h : PE X e (rdE g W f)) : PE X e (rdV g W fun s => toV (f s)) := h.frz.mono fun σ H Q ⟨b, al, s, R, P⟩ => by
  refine ⟨b, al, s, R, ?_⟩
  unfold toV at P
  rw [postX_bind] at P
  refine P.mono fun r s' p v H' x R' rv => ?_
  cases r with
  | val d => exact .inl (p v H' x R' rv)
  | own ds =>
    obtain ⟨a, vs, rfl, h1, h2, h3, h4, h5⟩ := rv
    refine .inr ⟨a, vs, rfl, h1, fun o => p _ _ (x.trans (ext_frz h1)) (R'.frzNew h1 h3 h4 h5) ?_⟩
    unfold Rep
    exact ⟨a, vs, rfl, ⟨o, upd_same⟩, h2.stay (stay_frz h1) fun _ _ z => z⟩
  | loc i ds =>
    obtain ⟨h1, h2⟩ := rv
    obtain ⟨a, vs, rfl, h3, h4, h5, h6⟩ := R'.own h1 h2
    refine .inr ⟨a, vs, rfl, h3, fun o => ?_⟩
    obtain ⟨k1, k2⟩ := R'.frzLoc (o := o) h1 h2 h3 h4 h5 h6
    exact p _ _ (x.trans (ext_frz h3)) k1 k2
  | dct _ => exact p.elim
  | ldc _ _ => exact p.elim
/-- a plain result -/
theorem rdE_val {f : S → Res D} (h : PE X e (rdV g W f)) : PE X e (rdE g W fun s => (f s).bind fun d s => .ok (.val d) s) := h.mono fun σ H Q ⟨b, al, s, R, P⟩ => by
  refine ⟨b, al, s, R, ?_⟩
  rw [postX_bind] at P
  exact P

/-! ### arguments -/
theorem pa_nil' {pk : Bool} : PA X [] (rdA g W pk fun s => .ok [] s) := pa_nil.mono fun σ H Q ⟨b, al, s, R, P⟩ => P [] H Ext.refl R (by cases pk with | true => exact .nil | false => exact (Reps.nil : Reps g.K al H [] []))
def notStar : Expr → Bool
  | .Starred _ _ => false
  | _ => true
theorem star_cons {e : Expr} (h : notStar e = true) (es : List Expr) (env : Env) : starEach (e :: es) env = (false, eval e env) :: starEach es env := by
  cases e <;> first | rfl | (cases h)
theorem pa_cons' {es : List Expr} {pk : Bool} {f : S → Res D} {k : S → Res (List D)} (hs : notStar e = true) (h : PE X e (if pk then rdP g W f else rdV g W f)) (hr : PA X es (rdA g W pk k)) :
    PA X (e :: es) (rdA g W pk fun s => (f s).bind fun d s => (k s).bind fun ds s => .ok (d :: ds) s) := by
  cases pk with
  | true =>
    refine (pa_cons h hr (star_cons hs es X.env)).mono fun σ H Q ⟨b, al, s, R, P⟩ => ⟨b, al, s, R, ?_⟩
    rw [postX_bind] at P
    refine P.mono fun d s1 p v H1 x1 R1 r1 => ⟨b, al, s1, R1, ?_⟩
    rw [postX_bind] at p
    refine p.shift x1 fun ds s2 p2 vs H2 x2 R2 r2 => p2 _ _ (x1.trans x2) R2 ?_
    simp only [if_true] at r1 r2 ⊢
    exact .cons (r1.ext x2) r2
  | false =>
    refine (pa_cons h hr (star_cons hs es X.env)).mono fun σ H Q ⟨b, al, s, R, P⟩ => ⟨b, al, s, R, ?_⟩
    rw [postX_bind] at P
    refine P.mono fun d s1 p v H1 x1 R1 r1 => ⟨b, al, s1, R1, ?_⟩
    rw [postX_bind] at p
    refine p.shift x1 fun ds s2 p2 vs H2 x2 R2 r2 => p2 _ _ (x1.trans x2) R2 ?_
    simp only [Bool.false_eq_true, if_false] at r1 r2 ⊢
    exact Reps.cons (r1.stay x2.st fun _ _ z => z) r2

/-! ### displays -/
theorem pe_tup' {es : List Expr} {k : S → Res (List D)} {n : Nat} {pos : Pos} (h : PA X es (rdA g W false k)) (hn : es.length ≤ 1000) (hl : ∀ s ds s', k s = .ok ds s' → ds.length = es.length) :
    PE X (.Tuple es n pos) (rdE g W fun s => (k s).bind fun ds s => .ok (.val (.tup ds)) s) := by
  refine (pe_tup h).mono fun σ H Q ⟨b, al, s, R, P⟩ => ⟨b, al, s, R, ?_⟩
  rw [postX_bind] at P
  cases q : k s with
  | ok ds s1 =>
    rw [q] at P
    intro vs H1 x1 R1 r1
    simp only [Bool.false_eq_true, if_false] at r1
    have hd := hl s ds s1 q
    have hlen := r1.length
    have a : Aft g b al s1 σ H1 (.val (.tup ds)) Q := fun v H' x R' rv => P v H' (x1.trans x) R' rv
    exact ⟨by rw [← hlen, hd, ← line_eq]; unfold line; omega, a.tup R1 r1⟩
  | exc c d s1 => rw [q] at P; exact P
  | bad => rw [q] at P; exact P
theorem pe_lst' {es : List Expr} {k : S → Res (List D)} {pos : Pos} (h : PA X es (rdA g W false k)) (hn : es.length ≤ 1000) (hl : ∀ s ds s', k s = .ok ds s' → ds.length = es.length) :
    PE X (.List es pos) (rdE g W fun s => (k s).bind fun ds s => .ok (.own ds) s) := by
  refine (pe_lst h).mono fun σ H Q ⟨b, al, s, R, P⟩ => ⟨b, al, s, R, ?_⟩
  rw [postX_bind] at P
  cases q : k s with
  | ok ds s1 =>
    rw [q] at P
    intro vs H1 x1 R1 r1
    simp only [Bool.false_eq_true, if_false] at r1
    have hd := hl s ds s1 q
    have hlen := r1.length
    have a : Aft g b al s1 σ H1 (.own ds) Q := fun v H' x R' rv => P v H' (x1.trans x) R' rv
    exact ⟨by rw [← hlen, hd, ← line_eq]; unfold line; omega, a.new R1 r1⟩
  | exc c d s1 => rw [q] at P; exact P
  | bad => rw [q] at P; exact P

/-! ### two operands -/
theorem postX_ofO {b : B} {al : List Addr} {σ : L2.St} {H : Hp} {o : Option RV} {s : S} {ok : RV → S → Prop} (h : PostX g b al W σ H ok (ofO o s)) : ∃ r, o = some r ∧ ok r s := by
  cases o with
  | none => exact h.elim
  | some r => exact ⟨r, rfl, h⟩
theorem pe_bin {a c : Expr} {fa fc : S → Res D} {o : BOp} {pos : Pos} (hK : X.K = g.K) (ha : PE X a (rdP g W fa)) (hc : PE X c (rdP g W fc)) :
    PE X (.BinOp a (opOf o) c pos) (rdE g W fun s => (fa s).bind fun x s => (fc s).bind fun y s => ofO (binD o x y) s) := by
  obtain ⟨r, hr, hv⟩ := binR (X := X) hK o
  refine (pe_op hr ha hc).mono fun σ H Q ⟨b, al, s, R, P⟩ => ⟨b, al, s, R, ?_⟩
  rw [postX_bind] at P
  refine P.mono fun x s1 p v H1 x1 R1 r1 => ⟨b, al, s1, R1, ?_⟩
  rw [postX_bind] at p
  refine p.shift x1 fun y s2 p2 u H2 x2 R2 r2 => ?_
  obtain ⟨rv, e, p3⟩ := postX_ofO p2
  exact hv b al s2 σ H2 Q x y v u rv R2 (r1.ext x2) r2 e fun w H3 x3 R3 r3 => p3 w H3 ((x1.trans x2).trans x3) R3 r3
theorem pe_idx {a c : Expr} {fa fc : S → Res D} {pos : Pos} (hK : X.K = g.K) (ha : PE X a (rdP g W fa)) (hc : PE X c (rdP g W fc)) (hp : PlainIx c) :
    PE X (.Subscript a c pos) (rdE g W fun s => (fa s).bind fun x s => (fc s).bind fun y s => match idxD s x y with | some d => .ok (.val d) s | none => .bad) := by
  obtain ⟨r, hr, hv⟩ := ixR (X := X) hK
  refine (pe_ix hr ha hc hp).mono fun σ H Q ⟨b, al, s, R, P⟩ => ⟨b, al, s, R, ?_⟩
  rw [postX_bind] at P
  refine P.mono fun x s1 p v H1 x1 R1 r1 => ⟨b, al, s1, R1, ?_⟩
  rw [postX_bind] at p
  refine p.shift x1 fun y s2 p2 u H2 x2 R2 r2 => ?_
  cases e : idxD s2 x y with
  | none => rw [e] at p2; exact p2.elim
  | some d =>
    rw [e] at p2
    exact hv b al s2 σ H2 Q x y v u d R2 (r1.ext x2) r2 e fun w rw' => p2 w H2 (x1.trans x2) R2 rw'
theorem plainIx_of {c : Expr} (h : (match c with | .Slice _ _ _ _ => false | _ => true) = true) : PlainIx c := by
  cases c <;> first | (intro _ _; rfl) | (cases h)
theorem pe_neg {a : Expr} {fa : S → Res D} {pos : Pos} (ha : PE X a (rdP g W fa)) :
    PE X (.UnaryOp .USub a pos) (rdE g W fun s => (toI (fa s)).bind fun i s => .ok (.val (.int (-i))) s) := by
  refine (pe_un un_neg ha).mono fun σ H Q ⟨b, al, s, R, P⟩ => ⟨b, al, s, R, ?_⟩
  rw [postX_bind] at P
  unfold toI at P
  rw [postX_bind] at P
  refine P.mono fun x s1 p v H1 x1 R1 r1 => ?_
  cases x with
  | int i =>
    refine ⟨i, r1.int, ?_⟩
    exact p _ H1 x1 R1 (by unfold RVRep Rep; rfl)
  | _ => exact p.elim
theorem pe_not' {a : Expr} {fa : S → Res D} {pos : Pos} (ha : PE X a (rdP g W fa)) :
    PE X (.UnaryOp .Not a pos) (rdE g W fun s => (toB (fa s)).bind fun i s => .ok (.val (.bl (!i))) s) := by
  refine (pe_not ha).mono fun σ H Q ⟨b, al, s, R, P⟩ => ⟨b, al, s, R, ?_⟩
  rw [postX_bind] at P
  unfold toB at P
  rw [postX_bind] at P
  refine P.mono fun x s1 p v H1 x1 R1 r1 => ?_
  cases x with
  | bl i =>
    refine ⟨i, r1.bl, ?_⟩
    exact p _ H1 x1 R1 (by unfold RVRep Rep; rfl)
  | _ => exact p.elim

/-! ### truth -/
theorem PRep.tru {al : List Addr} {H : Hp} (hK : X.K = g.K) {d : D} {v : V} {k : Bool} (h : PRep g.K al H d v) (e : truth d = some k) : TruV X.K v H k := by
  cases d with
  | non => cases e; rw [h.non]; rfl
  | bl c => cases e; rw [h.bl]; rfl
  | int i => cases e; rw [h.int]; rfl
  | str x => cases e
  | tup ds =>
    cases e
    obtain ⟨a, vs, rfl, h1, r1⟩ := h.tup
    rw [← hK] at h1
    refine .inr (.inl ⟨vs, h1, ?_⟩)
    cases ds <;> cases vs <;> first | rfl | (have := r1.length; simp at this)
  | lst ds =>
    cases e
    obtain ⟨a, vs, rfl, h1, r1⟩ := h.lst
    refine .inl ⟨vs, .inl h1, ?_⟩
    cases ds <;> cases vs <;> first | rfl | (have := r1.length; simp at this)
  | ref k => cases e
def plainT : Expr → Bool
  | .UnaryOp .Not _ _ => false
  | .BoolOp _ _ _ => false
  | .IfExp _ _ _ _ => false
  | .Compare _ _ _ _ => false
  | _ => true
theorem isTrue_plainT {e : Expr} (h : plainT e = true) (env : Env) (whole : Sem Value) : isTrue e env whole = (do let v ← whole; standAt e.pos; holding [v] (truthy v)) := by
  cases e with
  | UnaryOp op x p => cases op <;> first | rfl | (cases h)
  | _ => first | rfl | (cases h)
theorem pt_P {f : S → Res D} (hK : X.K = g.K) (h : PE X e (rdP g W f)) (hp : plainT e = true) : PT X e (rdT g W fun s => toT (f s)) := by
  refine (pt_truth h fun whole => isTrue_plainT hp X.env whole).mono fun σ H Q ⟨b, al, s, R, P⟩ => ⟨b, al, s, R, ?_⟩
  unfold toT at P
  rw [postX_bind] at P
  refine P.mono fun x s1 p v H1 x1 R1 r1 => ?_
  cases q : truth x with
  | none => rw [q] at p; exact p.elim
  | some k =>
    rw [q] at p
    exact ⟨k, r1.tru hK q, p H1 x1 R1⟩
theorem rdT_toB {f : S → Res D} (h : PT X e (rdT g W fun s => toT (f s))) : PT X e (rdT g W fun s => toB (f s)) := h.mono fun σ H Q ⟨b, al, s, R, P⟩ => by
  refine ⟨b, al, s, R, ?_⟩
  unfold toT
  unfold toB at P
  rw [postX_bind] at P ⊢
  refine P.mono fun x s1 p => ?_
  cases x with
  | bl k => exact p
  | _ => exact p.elim
theorem pt_not' {a : Expr} {fa : S → Res D} {pos : Pos} (ha : PT X a (rdT g W fun s => toB (fa s))) :
    PT X (.UnaryOp .Not a pos) (rdT g W fun s => toT (toP ((toB (fa s)).bind fun i s => .ok (.val (.bl (!i))) s))) := by
  refine (pt_not ha).mono fun σ H Q ⟨b, al, s, R, P⟩ => ⟨b, al, s, R, ?_⟩
  unfold toT toP at P
  rw [postX_bind, postX_bind, postX_bind] at P
  exact P
/-! ### and, or -/
theorem pt_bop {es : List Expr} {op : PySem.BoolOp} {f : S → Res Bool} {pos : Pos} (h : PW X (.BoolOp op es pos) (rdT g W f)) :
    PT X (.BoolOp op es pos) (rdT g W fun s => toT (toP ((f s).bind fun c s => .ok (.val (.bl c)) s))) := h.pt.mono fun σ H Q ⟨b, al, s, R, P⟩ => by
  refine ⟨b, al, s, R, ?_⟩
  unfold toT toP at P
  rw [postX_bind, postX_bind, postX_bind] at P
  exact P
theorem pw_one {op : PySem.BoolOp} (hop : op = .And ∨ op = .Or) {f : S → Res Bool} {pos : Pos} (h : PT X e (rdT g W f)) : PW X (.BoolOp op [e] pos) (rdT g W f) := by
  rcases hop with rfl | rfl
  · exact pw_and1 h
  · exact pw_or1 h
theorem pw_two {c : Bool} {e2 : Expr} {es : List Expr} {f k : S → Res Bool} {pos : Pos} (h : PT X e (rdT g W f)) (hr : PW X (.BoolOp (if c then .And else .Or) (e2 :: es) pos) (rdT g W k)) :
    PW X (.BoolOp (if c then .And else .Or) (e :: e2 :: es) pos) (rdT g W fun s => (f s).bind fun b s => if b = c then k s else .ok b s) := by
  cases c with
  | true =>
    refine (pw_and h hr).mono fun σ H Q ⟨b, al, s, R, P⟩ => ⟨b, al, s, R, ?_⟩
    rw [postX_bind] at P
    refine P.mono fun c s1 p H1 x1 R1 => ?_
    cases c with
    | true =>
      rw [if_pos rfl] at p ⊢
      exact ⟨b, al, s1, R1, p.shift x1 fun d s2 p2 H2 x2 => p2 H2 (x1.trans x2)⟩
    | false => exact p H1 x1 R1
  | false =>
    refine (pw_or h hr).mono fun σ H Q ⟨b, al, s, R, P⟩ => ⟨b, al, s, R, ?_⟩
    rw [postX_bind] at P
    refine P.mono fun c s1 p H1 x1 R1 => ?_
    cases c with
    | true => exact p H1 x1 R1
    | false =>
      rw [if_pos rfl] at p
      rw [if_neg Bool.false_ne_true]
      exact ⟨b, al, s1, R1, p.shift x1 fun d s2 p2 H2 x2 => p2 H2 (x1.trans x2)⟩
/-- .. as a value -/
def rdB (g : G) (W : WX) (f : S → Res Bool) : TE := fun σ H Q => ∃ b al s, Rel g b al s σ H ∧ PostX g b al W σ H (fun c s' => ∀ H', Ext al H H' → Rel g b al s' σ H' → Q (.bl c) H') (f s)
theorem pe_toB {f : S → Res D} (h : PE X e (rdP g W f)) : PE X e (rdB g W fun s => toB (f s)) := h.mono fun σ H Q ⟨b, al, s, R, P⟩ => by
  refine ⟨b, al, s, R, ?_⟩
  unfold toB at P
  rw [postX_bind] at P
  refine P.mono fun x s1 p v H1 x1 R1 r1 => ?_
  cases x with
  | bl k => rw [r1.bl]; exact p H1 x1 R1
  | _ => exact p.elim
theorem pe_B {f : S → Res Bool} (h : PE X e (rdB g W f)) : PE X e (rdE g W fun s => (f s).bind fun c s => .ok (.val (.bl c)) s) := h.mono fun σ H Q ⟨b, al, s, R, P⟩ => by
  refine ⟨b, al, s, R, ?_⟩
  rw [postX_bind] at P
  exact P.mono fun c s1 p H1 x1 R1 => p _ H1 x1 R1 (by unfold RVRep Rep; rfl)
theorem peB_one {op : PySem.BoolOp} {f : S → Res Bool} {pos : Pos} (h : PE X e (rdB g W f)) : PE X (.BoolOp op [e] pos) (rdB g W f) := pe_one h
theorem peB_two {c : Bool} {e2 : Expr} {es : List Expr} {f k : S → Res Bool} {pos : Pos} (h : PE X e (rdB g W f)) (hr : PE X (.BoolOp (if c then .And else .Or) (e2 :: es) pos) (rdB g W k)) :
    PE X (.BoolOp (if c then .And else .Or) (e :: e2 :: es) pos) (rdB g W fun s => (f s).bind fun b s => if b = c then k s else .ok b s) := by
  cases c with
  | true =>
    refine (pe_and h hr).mono fun σ H Q ⟨b, al, s, R, P⟩ => ⟨b, al, s, R, ?_⟩
    rw [postX_bind] at P
    refine P.mono fun c s1 p H1 x1 R1 => ⟨c, rfl, ?_⟩
    cases c with
    | true =>
      rw [if_pos rfl] at p ⊢
      exact ⟨b, al, s1, R1, p.shift x1 fun d s2 p2 H2 x2 => p2 H2 (x1.trans x2)⟩
    | false => exact p H1 x1 R1
  | false =>
    refine (pe_or h hr).mono fun σ H Q ⟨b, al, s, R, P⟩ => ⟨b, al, s, R, ?_⟩
    rw [postX_bind] at P
    refine P.mono fun c s1 p H1 x1 R1 => ⟨c, rfl, ?_⟩
    cases c with
    | true => exact p H1 x1 R1
    | false =>
      rw [if_pos rfl] at p
      rw [if_neg Bool.false_ne_true]
      exact ⟨b, al, s1, R1, p.shift x1 fun d s2 p2 H2 x2 => p2 H2 (x1.trans x2)⟩
end
end PI

namespace PI
open PySem PySem.Spec PyProof.Rows L2
section
variable {X : Cx} {e : Expr} {g : G} {W : WX}
theorem pe_var' {i : Nat} {x : Str} {pos : Pos} (hN : X.N[i]? = some x) (hv : Vis X.env.scope x) (hd : (x == ("__debug__" : Str)) = false) (hcd : (x == ("__classdict__" : Str)) = false) :
    PE X (.Name x pos) (rdE g W fun s => slGet s i) := (pe_var hN hv hd hcd).mono fun σ H Q ⟨b, al, s, R, P⟩ => by
  have P : PostX g b al W σ H (okR g b al σ H (fun r s' v H' => RVRep g b al s' σ H' r v) Q) (slGet s i) := P
  unfold slGet at P
  cases q : s.t[i]? with
  | none => rw [q] at P; exact P.elim
  | some o =>
    cases o with
    | none => rw [q] at P; exact P.elim
    | some x =>
      rw [q] at P
      obtain ⟨v, e1, r⟩ := R.sl i x q
      refine ⟨v, e1, ?_⟩
      cases x with
      | val d => exact P v H Ext.refl R r
      | own ds => exact P v H Ext.refl R ⟨q, e1⟩
      | dct ds => exact P v H Ext.refl R ⟨q, e1⟩
      | exc c d => exact P.elim
theorem pe_cst {v : V} {d : D} (h : PE X e (tC v)) (hr : ∀ al H, Rep g.K al H d v) : PE X e (rdE g W fun s => .ok (.val d) s) := h.mono fun σ H Q ⟨b, al, s, R, P⟩ => P v H Ext.refl R (hr al H)
/-! ### calls -/
theorem stars_false : ∀ (es : List Expr) (env : Env) (pos : Pos), es.all notStar = true → (backTo pos (starEach es env)).any (·.1) = false
  | [], env, pos, _ => rfl
  | e :: es, env, pos, h => by
    simp only [List.all_cons, Bool.and_eq_true] at h
    rw [star_cons h.1]
    show (false || (backTo pos (starEach es env)).any (·.1)) = false
    rw [stars_false es env pos h.2]
    rfl
structure CellsOk (K : PySem.W.Frag) (al : List Addr) (h : List (List D)) (H : Hp) : Prop where
  alen : al.length = h.length
  nd : al.Nodup
  cell : ∀ (k : Nat) (ds : List D), h[k]? = some ds → ∃ a vs, al[k]? = some a ∧ H a = some (.lst vs) ∧ Reps K al H ds vs
def Keep (al : List Addr) (H H' : Hp) : Prop := ∀ a o, a ∉ al → H a = some o → H' a = some o
def FRep (K : PySem.W.Frag) (al : List Addr) (H H' : Hp) : RV → V → Prop
  | .val d, v => Rep K al H' d v
  | .own ds, v => ∃ a vs, v = .ref a ∧ H' a = some (.lst vs) ∧ Reps K al H' ds vs ∧ H a = none
  | .dct kvs, v => ∃ a ws, v = .ref a ∧ H' a = some (.dK ws) ∧ KRep K al H' kvs ws ∧ H a = none
  | _, _ => False
/-- what a def promises -/
def spF (g : G) (Φ : Fns) (f : Str) (n : Nat) : Sp := fun vs H Q E => ∃ (al : List Addr) (ds : List D) (h : List (List D)), vs.length = n ∧ Reps g.K al H ds vs ∧ CellsOk g.K al h H ∧
  (match Φ f ds h with
   | .ok r h' => ∀ v H', Keep al H H' → CellsOk g.K al h' H' → FRep g.K al H H' r v → Q v H'
   | .exc c d h' => ∀ cls dd H', Keep al H H' → CellsOk g.K al h' H' → ExcRep g al H' c d cls dd → E cls (some dd) H'
   | .bad => False)
theorem _root_.PI.Rel.cells {b : B} {al : List Addr} {s : S} {σ : L2.St} {H : Hp} (r : Rel g b al s σ H) : CellsOk g.K al s.h H := ⟨r.alen, r.nd, r.cell⟩
/-- the cells have changed, all else stands -/
theorem _root_.PI.Rel.keep {b : B} {al : List Addr} {s : S} {σ : L2.St} {H H' : Hp} (r : Rel g b al s σ H) {h' : List (List D)} (k : Keep al H H') (c : CellsOk g.K al h' H') : Ext al H H' ∧ Rel g b al { s with h := h' } σ H' := by
  have na : ∀ a o, H a = some o → (∀ vs, o ≠ .lst vs) → a ∉ al := fun a o e n ha => by
    obtain ⟨vs, z⟩ := r.alTracked ha
    rw [e] at z; cases z
    exact n vs rfl
  have st : Stay H H' := ⟨fun a xs e => k a _ (na a _ e fun _ z => nomatch z) e, fun a o u e => k a _ (na a _ e fun _ z => nomatch z) e, fun a fs e => k a _ (na a _ e fun _ z => nomatch z) e⟩
  refine ⟨⟨st, fun a vs n e => .inl (k a _ n e)⟩, r.len, fun i x e => ?_, r.inj, c.cell, c.alen, c.nd, fun a o e n => ?_, r.anew, r.apre⟩
  · obtain ⟨v, e1, q⟩ := r.sl i x e
    refine ⟨v, e1, ?_⟩
    cases x with
    | val d => exact q.stay st fun _ _ z => z
    | own ds =>
      obtain ⟨a, vs, ev, h1, h2, h3, h4⟩ := q
      exact ⟨a, vs, ev, k _ _ h3 h1, h2.stay st fun _ _ z => z, h3, h4⟩
    | dct kvs =>
      obtain ⟨a, vs, ev, h1, h2, h3, h4⟩ := q
      exact ⟨a, vs, ev, k _ _ h3 h1, h2.stay st fun _ _ z => z, h3, h4⟩
    | exc c d =>
      obtain ⟨a, dd, w, e1, e2, e3, e4⟩ := q
      exact ⟨a, dd, w, e1, e2, st.xd _ _ e3, e4.stay st fun _ _ z => z⟩
  · by_cases ha : a ∈ al
    · rcases r.anew a ha with z | z
      · exact absurd z n
      · rw [z] at e; cases e
    · exact k _ _ ha (r.base a o e n)
theorem pe_call' {lv : Nat} {f : Str} {a : Addr} {fd : FuncData} {ps : List Str} {Φ : Fns} {e1 : Expr} {es : List Expr} {k : S → Res (List D)} {p pos : Pos}
    (F : FnOk X.prog X.w X.K X.mg X.base (L2.CX X.prog X.w) lv a fd ps (spF g Φ f ps.length)) (hr : Room lv X.A) (hg : Gl X f) (hm : X.mg f = some (.ref a)) (hk : PySem.W.keepIn X.K (.ref a) = true) (hb : Binds X.K fd ps []) (tk : Takes X W)
    (ha : PA X (e1 :: es) (rdA g W false k)) (hs : (e1 :: es).all notStar = true) (hn : (e1 :: es).length = ps.length) (hl : ∀ s ds s', k s = .ok ds s' → ds.length = (e1 :: es).length) (hdb : (f == ("__debug__" : Str)) = false) :
    PE X (.Call (.Name f p) (e1 :: es) [] pos) (rdE g W fun s => (k s).bind fun ds s => match Φ f ds s.h with
      | .ok (.val d) h => .ok (.val d) { s with h := h }
      | .ok (.own l) h => .ok (.own l) { s with h := h }
      | .ok (.dct l) h => .ok (.dct l) { s with h := h }
      | .exc c d h => .exc c d { s with h := h }
      | _ => .bad) := by
  have hs' := hs
  simp only [List.all_cons, Bool.and_eq_true] at hs'
  refine (pe_callS F hr hg hm hk hb (fun σ => passAt tk σ) ha hdb (star_cons hs'.1 es X.env) (stars_false es X.env pos hs'.2)).mono fun σ H Q ⟨b, al, s, R, P⟩ => ⟨b, al, s, R, ?_⟩
  rw [postX_bind] at P
  cases q : k s with
  | ok ds s1 =>
    rw [q] at P
    intro vs H1 x1 R1 r1
    simp only [Bool.false_eq_true, if_false] at r1
    have hd := hl s ds s1 q
    refine ⟨al, ds, s1.h, by rw [← r1.length, hd, hn], r1, R1.cells, ?_⟩
    have P : PostX g b al W σ H (okR g b al σ H (fun r s' v H' => RVRep g b al s' σ H' r v) Q) (match Φ f ds s1.h with
      | .ok (.val d) h => .ok (.val d) { s1 with h := h }
      | .ok (.own l) h => .ok (.own l) { s1 with h := h }
      | .ok (.dct l) h => .ok (.dct l) { s1 with h := h }
      | .exc c d h => .exc c d { s1 with h := h }
      | _ => .bad) := P
    cases w : Φ f ds s1.h with
    | ok r h' =>
      rw [w] at P
      intro v H' kp c fr
      obtain ⟨x2, R2⟩ := R1.keep kp c
      cases r with
      | val d => exact P v H' (x1.trans x2) R2 fr
      | own l =>
        obtain ⟨a, vs, rfl, h1, h2, h3⟩ := fr
        exact P _ H' (x1.trans x2) R2 ⟨a, vs, rfl, h1, h2, R1.notAl h3, R1.newBase h3, R1.away h3⟩
      | dct l =>
        obtain ⟨a, vs, rfl, h1, h2, h3⟩ := fr
        exact P _ H' (x1.trans x2) R2 ⟨a, vs, rfl, h1, h2, R1.notAl h3, R1.newBase h3, R1.away h3⟩
      | loc _ _ => exact P.elim
      | ldc _ _ => exact P.elim
    | exc c d h' =>
      rw [w] at P
      intro cls dd H' kp cc er
      obtain ⟨x2, R2⟩ := R1.keep kp cc
      exact P cls dd H' (x1.trans x2) R2 er
    | bad => rw [w] at P; exact P.elim
  | exc c d s1 => rw [q] at P; exact P
  | bad => rw [q] at P; exact P
def blName : Bl → Str
  | .len => "len" | .abs => "abs" | .int => "int" | .max2 => "max" | .min2 => "min" | .sum => "sum" | .all => "all" | .any => "any" | .tuple => "tuple" | .list => "list" | .sorted => "sorted" | .bits => "bit_length"
theorem bl_boot (f : Bl) (hf : f ≠ .bits) : bootBuiltins (blName f) = some (blVal f) := by
  cases f <;> first | exact absurd rfl hf | decide +kernel
theorem pe_blt {f : Bl} (hf : f ≠ .bits) {e1 : Expr} {es : List Expr} {k : S → Res (List D)} {p pos : Pos} (hK : X.K = g.K) (hc : X.calm = true) (hg : Gl X (blName f)) (hm : X.mg (blName f) = none)
    (ha : PA X (e1 :: es) (rdA g W true k)) (hs : (e1 :: es).all notStar = true) :
    PE X (.Call (.Name (blName f) p) (e1 :: es) [] pos) (rdE g W fun s => (k s).bind fun ds s => ofO (bltD f ds) s) := by
  have hs' := hs
  simp only [List.all_cons, Bool.and_eq_true] at hs'
  obtain ⟨r, hr, hv⟩ := bltR (X := X) hK hc f hf
  have hb := bl_boot f hf
  have main : PE X (.Call (.Name (blName f) p) (e1 :: es) [] pos) (tCB r (rdA g W true k)) := by
    have hn : blName f ≠ "__name__" := by cases f <;> decide
    have hd : (blName f == ("__debug__" : Str)) = false := by cases f <;> decide
    cases f <;> first | exact absurd rfl hf | exact pe_callB hr hg hm hb ha hn hd (star_cons hs'.1 es X.env) (stars_false es X.env pos hs'.2) | exact pe_callTy hr hg hm hb ha hn hd (star_cons hs'.1 es X.env) (stars_false es X.env pos hs'.2)
  refine main.mono fun σ H Q ⟨b, al, s, R, P⟩ => ⟨b, al, s, R, ?_⟩
  rw [postX_bind] at P
  refine P.mono fun ds s1 p vs H1 x1 R1 r1 => ?_
  simp only [if_true] at r1
  obtain ⟨rv, e, p3⟩ := postX_ofO p
  exact hv b al s1 σ H1 Q ds vs rv R1 r1 e fun w H3 x3 R3 r3 => p3 w H3 (x1.trans x3) R3 r3
theorem pe_bits' {a : Expr} {fa : S → Res D} {apos pos : Pos} (ha : PE X a (rdP g W fa)) (hbase : attributeBase a "bit_length" X.env (eval a X.env) = eval a X.env) (hline : (apos.endLine == pos.line) = true) :
    PE X (.Call (.Attribute a "bit_length" apos) [] [] pos) (rdE g W fun s => ((fa s).bind fun d s => .ok [d] s).bind fun ds s => ofO (bltD .bits ds) s) := by
  refine (pe_bits ha hbase hline).mono fun σ H Q ⟨b, al, s, R, P⟩ => ⟨b, al, s, R, ?_⟩
  rw [postX_bind, postX_bind] at P
  refine P.mono fun x s1 p v H1 x1 R1 r1 => ?_
  cases x with
  | int i =>
    refine ⟨i, r1.int, ?_⟩
    have := p (.int (if i = 0 then 0 else i.natAbs.log2 + 1)) H1 x1 R1 (by unfold RVRep Rep; rfl)
    have e : ((Builtin.Int.intBits i : Nat) : Int) = (if i = 0 then 0 else ((i.natAbs.log2 : Nat) : Int) + 1) := by
      unfold Builtin.Int.intBits
      split
      · rename_i h
        rw [if_pos (by simpa using h)] <;> rfl
      · rename_i h
        rw [if_neg (by simpa using h)]
        push_cast
        rfl
    rw [e]
    exact this
  | _ => exact p.elim
theorem boot_ty (t : Ty) : bootBuiltins (tyName t) = some (.type (tyName t)) := by cases t <;> decide +kernel
theorem pe_isi {a : Expr} {fa : S → Res D} {t : Ty} {p p2 pos : Pos} (hK : X.K = g.K) (ha : PE X a (rdP g W fa)) (hs : notStar a = true) (hg : Gl X "isinstance") (hm : X.mg "isinstance" = none) (hg2 : Gl X (tyName t)) (hm2 : X.mg (tyName t) = none) :
    PE X (.Call (.Name "isinstance" p) [a, .Name (tyName t) p2] [] pos) (rdE g W fun s => (fa s).bind fun x s => match isTy t x with | some c => .ok (.val (.bl c)) s | none => .bad) := by
  have hn : (Str.ofString (tyName t)) ≠ "__name__" := by cases t <;> decide
  have hd : ((Str.ofString (tyName t)) == ("__debug__" : Str)) = false := by cases t <;> decide
  have h2 : PE X (.Name (tyName t) p2) (tC (.ty (tyName t))) := pe_bltn hg2 hm2 (boot_ty t) rfl hn hd
  refine (pe_callB (call_isi (X := X)) hg hm (by decide +kernel) (pa_cons ha (pa_cons h2 pa_nil) (star_cons hs _ _)) (by decide) (by decide) (star_cons hs _ _) rfl).mono fun σ H Q ⟨b, al, s, R, P⟩ => ⟨b, al, s, R, ?_⟩
  rw [postX_bind] at P
  refine P.mono fun x s1 p v H1 x1 R1 r1 => ?_
  cases q : isTy t x with
  | none => rw [q] at p; exact p.elim
  | some c =>
    rw [q] at p
    obtain ⟨u, h1, h2⟩ := r1.ty hK q
    exact ⟨v, .ty (tyName t), u, .type (tyName t), c, rfl, .ty _, h1, h2, p _ H1 x1 R1 (by unfold RVRep Rep; rfl)⟩

/-! ### slices -/
def rdO (g : G) (W : WX) (f : S → Res (Option Int)) : TO := fun σ H Q => ∃ b al s, Rel g b al s σ H ∧ PostX g b al W σ H (fun o s' => ∀ H', Ext al H H' → Rel g b al s' σ H' → Q o H') (f s)
theorem po_none' : PO X none (rdO g W fun s => .ok none s) := ⟨fun pins s σ H Q I ⟨b, al, t, R, P⟩ => po_none.run pins s σ H Q I (P H Ext.refl R)⟩
theorem po_some' {f : S → Res D} (h : PE X e (rdP g W f)) : PO X (some e) (rdO g W fun s => (toI (f s)).bind fun i s => .ok (some i) s) := ⟨fun pins s σ H Q I ⟨b, al, t, R, P⟩ => by
  refine (po_some h).run pins s σ H Q I ?_
  refine ⟨b, al, t, R, ?_⟩
  rw [postX_bind] at P
  unfold toI at P
  rw [postX_bind] at P
  refine P.mono fun x s1 p v H1 x1 R1 r1 => ?_
  cases x with
  | int i => exact ⟨i, r1.int, p H1 x1 R1⟩
  | _ => exact p.elim⟩
theorem sEnd_eq (n d : Nat) (o : Option Int) : sEnd n d o = HT.sIx n d o := by cases o <;> rfl
theorem pe_slc {a : Expr} {lo hi : Option Expr} {fa : S → Res D} {fl fh : S → Res (Option Int)} {p2 pos : Pos} (hK : X.K = g.K) (ha : PE X a (rdP g W fa)) (hl : PO X lo (rdO g W fl)) (hh : PO X hi (rdO g W fh)) :
    PE X (.Subscript a (.Slice lo hi none p2) pos) (rdE g W fun s => (fa s).bind fun x s => (fl s).bind fun l s => (fh s).bind fun u s => match x with
      | .tup ds => .ok (.val (.tup (cutD ds l u))) s
      | .lst ds => .ok (.own (cutD ds l u)) s
      | _ => .bad) := by
  refine (pe_slice (SlR.or (sl_tupA (X := X)) (sl_list (X := X))) ha hl hh).mono fun σ H Q ⟨b, al, s, R, P⟩ => ⟨b, al, s, R, ?_⟩
  rw [postX_bind] at P
  refine P.mono fun x s1 p v H1 x1 R1 r1 => ⟨b, al, s1, R1, ?_⟩
  rw [postX_bind] at p
  refine p.shift x1 fun l s2 p2 H2 x2 R2 => ⟨b, al, s2, R2, ?_⟩
  rw [postX_bind] at p2
  refine p2.shift (x1.trans x2) fun u s3 p3 H3 x3 R3 => ?_
  have r3 := (r1.ext x2).ext x3
  have x' := (x1.trans x2).trans x3
  cases x with
  | tup ds =>
    obtain ⟨q, vs, rfl, h1, r⟩ := r3.tup
    have a : Aft g b al s3 σ H3 (.val (.tup (cutD ds l u))) Q := fun w H4 x4 R4 r4 => p3 w H4 (x'.trans x4) R4 r4
    have rc : Reps g.K al H3 (cutD ds l u) (cutV vs l u) := by
      unfold cutD cutV
      rw [sEnd_eq, sEnd_eq, r.length]
      exact (r.drop _).take _
    refine .inl ⟨q, vs, rfl, by rw [hK]; exact h1, fun ⟨z1, z2⟩ => a.tupAt R3 h1 ?_, fun _ => a.tup R3 rc⟩
    have : cutV vs l u = vs := by
      unfold cutV
      rw [z1, z2]
      simp
    rw [this] at rc
    exact rc
  | lst ds =>
    obtain ⟨q, vs, rfl, h1, r⟩ := r3.lst
    have a : Aft g b al s3 σ H3 (.own (cutD ds l u)) Q := fun w H4 x4 R4 r4 => p3 w H4 (x'.trans x4) R4 r4
    have rc : Reps g.K al H3 (cutD ds l u) (cutV vs l u) := by
      unfold cutD cutV
      rw [sEnd_eq, sEnd_eq, r.length]
      exact (r.drop _).take _
    exact .inr ⟨q, vs, rfl, .inl h1, a.new R3 rc⟩
  | _ => exact p3.elim

/-! ### comparisons in a chain -/
def cmpPost (g : G) (W : WX) (σ : L2.St) (H : Hp) (v : V) (Q : Bool → Hp → Prop) (f : D → S → Res Bool) : Prop :=
  ∃ b al s x, Rel g b al s σ H ∧ PRep g.K al H x v ∧ PostX g b al W σ H (fun c s' => ∀ H', Ext al H H' → Rel g b al s' σ H' → Q c H') (f x s)
/-- what a chain's rest does from a value on -/
structure CH (X : Cx) (g : G) (W : WX) (ops : List CmpOp) (es : List Expr) (f : D → S → Res Bool) : Prop where
  val : ∀ (pos : Pos) (pins : List (Addr × Obj)) (s : Shared) (σ : L2.St) (H : Hp) (v : V) (u : Value) (Q : VK), Inv X pins σ H s → RelV v u → cmpPost g W σ H v (fun c H' => Q (.bl c) H') f →
    wpAny (model X.prog X.w) X.A (compareChain pos u ops (evalEach es X.env)) (EP X pins σ Q) X.xe s
  test : ∀ (pos : Pos) (pins : List (Addr × Obj)) (s : Shared) (σ : L2.St) (H : Hp) (v : V) (u : Value) (Q : Bool → Hp → Prop), Inv X pins σ H s → RelV v u → cmpPost g W σ H v Q f →
    wpAny (model X.prog X.w) X.A (testChain pos u ops (evalEach es X.env)) (TP X pins σ Q) X.xe s
theorem cmp_ok {b : B} {al : List Addr} {σ : L2.St} {H : Hp} {o : COp} {x y : D} {s : S} {k : Bool → Res Bool} {ok : Bool → S → Prop} (h : PostX g b al W σ H ok (match cmpD o x y with | none => .bad | some c => k c)) :
    ∃ c, cmpD o x y = some c ∧ PostX g b al W σ H ok (k c) := by
  cases q : cmpD o x y with
  | none => rw [q] at h; exact h.elim
  | some c => rw [q] at h; exact ⟨c, rfl, h⟩
theorem ch_one (hK : X.K = g.K) (hu : X.A.units + 65 < cLine) {o : COp} {fe : S → Res D} (he : PE X e (rdP g W fe)) :
    CH X g W [copOf o] [e] (fun x s => (fe s).bind fun y s => match cmpD o x y with | none => .bad | some c => .ok c s) := by
  obtain ⟨r, hr, hv⟩ := cmpR (X := X) hK hu o
  refine ⟨fun pos pins s σ H v u Q I rv ⟨b, al, t, x, R, px, P⟩ => ?_, fun pos pins s σ H v u Q I rv ⟨b, al, t, x, R, px, P⟩ => ?_⟩
  · rw [postX_bind] at P
    refine chain_last (thn (he.run pins s σ H (fun w H' => r v w H' Q) I ⟨b, al, t, R, P.mono fun y s1 p w H1 x1 R1 r1 => ?_⟩) fun u2 s2 ⟨w, H2, I2, r2, q2⟩ => hr pins s2 σ H2 v w u u2 Q I2 rv r2 q2)
    obtain ⟨c, e1, p2⟩ := cmp_ok (s := s1) p
    exact hv al H1 Q x y v w c (px.ext x1) r1 e1 (p2 H1 x1 R1)
  · rw [postX_bind] at P
    refine test_last (thn (he.run pins s σ H (fun w H' => r v w H' fun z H2 => ∃ c, z = .bl c ∧ Q c H2) I ⟨b, al, t, R, P.mono fun y s1 p w H1 x1 R1 r1 => ?_⟩) fun u2 s2 ⟨w, H2, I2, r2, q2⟩ => thn (hr pins s2 σ H2 v w u u2 _ I2 rv r2 q2) fun u3 s3 ⟨z, H3, I3, r3, c, e3, q3⟩ => ?_)
    · obtain ⟨c, e1, p2⟩ := cmp_ok (s := s1) p
      exact hv al H1 _ x y v w c (px.ext x1) r1 e1 ⟨c, rfl, p2 H1 x1 R1⟩
    · subst e3
      cases r3
      exact wpAny_truthy_bool ⟨H3, I3, q3⟩
theorem ch_more (hK : X.K = g.K) (hu : X.A.units + 65 < cLine) {o : COp} {op2 : CmpOp} {ops : List CmpOp} {e2 : Expr} {es : List Expr} {fe : S → Res D} {k : D → S → Res Bool} (he : PE X e (rdP g W fe)) (hk : CH X g W (op2 :: ops) (e2 :: es) k) :
    CH X g W (copOf o :: op2 :: ops) (e :: e2 :: es) (fun x s => (fe s).bind fun y s => match cmpD o x y with | none => .bad | some c => if c then k y s else .ok false s) := by
  obtain ⟨r, hr, hv⟩ := cmpR (X := X) hK hu o
  refine ⟨fun pos pins s σ H v u Q I rv ⟨b, al, t, x, R, px, P⟩ => ?_, fun pos pins s σ H v u Q I rv ⟨b, al, t, x, R, px, P⟩ => ?_⟩
  · rw [postX_bind] at P
    refine chain_link (thn (he.run pins s σ H (fun w H' => r v w H' fun z H2 => ∃ c, z = .bl c ∧ if c = true then cmpPost g W σ H2 w (fun c H' => Q (.bl c) H') k else Q (.bl false) H2) I ⟨b, al, t, R, P.mono fun y s1 p w H1 x1 R1 r1 => ?_⟩)
      fun u2 s2 ⟨w, H2, I2, r2, q2⟩ => thn (hr pins s2 σ H2 v w u u2 _ I2 rv r2 q2) fun u3 s3 ⟨z, H3, I3, r3, c, e3, q3⟩ => ?_)
    · obtain ⟨c, e1, p2⟩ := cmp_ok (s := s1) p
      refine hv al H1 _ x y v w c (px.ext x1) r1 e1 ⟨c, rfl, ?_⟩
      cases c with
      | true => exact ⟨b, al, s1, y, R1, r1, p2.shift x1 fun c s3 p3 H3 x3 => p3 H3 (x1.trans x3)⟩
      | false => exact p2 H1 x1 R1
    · subst e3
      cases r3
      refine wpAny_truthy_bool ?_
      cases c with
      | true => exact hk.val pos pins s3 σ H3 w u2 Q I3 r2 q3
      | false => exact ⟨.bl false, H3, I3, rfl, q3⟩
  · rw [postX_bind] at P
    refine test_link (thn (he.run pins s σ H (fun w H' => r v w H' fun z H2 => ∃ c, z = .bl c ∧ if c = true then cmpPost g W σ H2 w Q k else Q false H2) I ⟨b, al, t, R, P.mono fun y s1 p w H1 x1 R1 r1 => ?_⟩)
      fun u2 s2 ⟨w, H2, I2, r2, q2⟩ => thn (hr pins s2 σ H2 v w u u2 _ I2 rv r2 q2) fun u3 s3 ⟨z, H3, I3, r3, c, e3, q3⟩ => ?_)
    · obtain ⟨c, e1, p2⟩ := cmp_ok (s := s1) p
      refine hv al H1 _ x y v w c (px.ext x1) r1 e1 ⟨c, rfl, ?_⟩
      cases c with
      | true => exact ⟨b, al, s1, y, R1, r1, p2.shift x1 fun c s3 p3 H3 x3 => p3 H3 (x1.trans x3)⟩
      | false => exact p2 H1 x1 R1
    · subst e3
      cases r3
      refine wpAny_truthy_bool ?_
      cases c with
      | true => exact hk.test pos pins s3 σ H3 w u2 Q I3 r2 q3
      | false => exact ⟨H3, I3, q3⟩
theorem pe_cmp' {a : Expr} {fa : S → Res D} {op : CmpOp} {ops : List CmpOp} {es : List Expr} {k : D → S → Res Bool} {pos : Pos} (hk : CH X g W (op :: ops) (e :: es) k) (ha : PE X a (rdP g W fa)) (hm : lastMarks (op :: ops) (e :: es) = false) (hl : ops.length = es.length) :
    PE X (.Compare a (op :: ops) (e :: es) pos) (rdE g W fun s => (fa s).bind fun x s => (k x s).bind fun c s => .ok (.val (.bl c)) s) ∧
    PT X (.Compare a (op :: ops) (e :: es) pos) (rdT g W fun s => toT (toP ((fa s).bind fun x s => (k x s).bind fun c s => .ok (.val (.bl c)) s))) := by
  have step : ∀ {pins : List (Addr × Obj)} {s : Shared} {σ : L2.St} {H : Hp} {Q : Bool → Hp → Prop} {b : B} {al : List Addr} {t : S}, Inv X pins σ H s → Rel g b al t σ H →
      PostX g b al W σ H (fun x s1 => PostX g b al W σ H (fun c s' => ∀ H', Ext al H H' → Rel g b al s' σ H' → Q c H') (k x s1)) (fa t) →
      wpAny (model X.prog X.w) X.A (eval a X.env) (fun u s1 => ∃ v H1, Inv X pins σ H1 s1 ∧ RelV v u ∧ cmpPost g W σ H1 v Q k) X.xe s := fun {pins s σ H Q b al t} I R P =>
    thn (ha.run pins s σ H (fun v H1 => cmpPost g W σ H1 v Q k) I ⟨b, al, t, R, P.mono fun x s1 p v H1 x1 R1 r1 => ⟨b, al, s1, x, R1, r1, p.shift x1 fun c s2 p2 H2 x2 => p2 H2 (x1.trans x2)⟩⟩) fun u s1 ⟨v, H1, I1, r1, q1⟩ => ⟨v, H1, I1, r1, q1⟩
  constructor
  · refine ⟨fun pins s σ H Q I ⟨b, al, t, R, P⟩ => ?_⟩
    rw [postX_bind] at P
    have P' := step (Q := fun c H' => Q (.bl c) H') I R (P.mono fun x s1 p => by
      rw [postX_bind] at p
      exact p.mono fun c s2 p2 H2 x2 R2 => p2 _ H2 x2 R2 (by unfold RVRep Rep; rfl))
    cases ops with
    | nil =>
      cases es with
      | cons _ _ => cases hl
      | nil =>
        show wpAny _ _ (do compareChain pos (← eval a X.env) [op] (markedEach [op] [e] (evalEach [e] X.env))) _ _ _
        rw [markedEach_of_false _ _ _ hm]
        exact wpAny_bind (thn P' fun u s1 ⟨v, H1, I1, r1, q1⟩ => hk.val pos pins s1 σ H1 v u Q I1 r1 q1)
    | cons op2 ops =>
      cases es with
      | nil => cases hl
      | cons e2 es => exact Compare_chain (thn P' fun u s1 ⟨v, H1, I1, r1, q1⟩ => hk.val pos pins s1 σ H1 v u Q I1 r1 q1) hm
  · refine ⟨fun pins s σ H Q I ⟨b, al, t, R, P⟩ => ?_⟩
    unfold toT toP at P
    rw [postX_bind, postX_bind, postX_bind] at P
    have P' := step (Q := Q) I R (P.mono fun x s1 p => by
      rw [postX_bind] at p
      exact p.mono fun c s2 p2 H2 x2 R2 => p2 H2 x2 R2)
    cases ops with
    | nil =>
      cases es with
      | cons _ _ => cases hl
      | nil =>
        show wpAny _ _ (do testChain pos (← eval a X.env) [op] (markedEach [op] [e] (evalEach [e] X.env))) _ _ _
        rw [markedEach_of_false _ _ _ hm]
        exact wpAny_bind (thn P' fun u s1 ⟨v, H1, I1, r1, q1⟩ => hk.test pos pins s1 σ H1 v u Q I1 r1 q1)
    | cons op2 ops =>
      cases es with
      | nil => cases hl
      | cons e2 es => exact isTrue_chain (thn P' fun u s1 ⟨v, H1, I1, r1, q1⟩ => hk.test pos pins s1 σ H1 v u Q I1 r1 q1) hm
end
end PI

namespace PI
open PySem PySem.Spec PyProof.Rows L2
section
variable {X : Cx} {e : Expr} {g : G} {W : WX}
def rdI (g : G) (W : WX) (f : S → Res (List D)) : TI := fun σ H R => ∃ b al s, Rel g b al s σ H ∧ PostX g b al W σ H (fun ds s' => ∀ J H', Ext al H H' → Rel g b al s' σ H' → Walks g al J ds H' → R J H') (f s)
theorem pi_seq {tg : Expr} {f : S → Res D} (hK : X.K = g.K) (hl : PE X e (rdV g W f)) : L2.PI X tg e (rdI g W fun s => toL (f s)) := by
  refine ⟨fun pins s σ H R I ⟨b, al, t, Rl, P⟩ => ?_⟩
  unfold toL at P
  rw [postX_bind] at P
  refine thn (hl.run pins s σ H (fun x H1 => ∃ a, x = .ref a ∧ ((∃ xs, SqL X.K H1 a xs ∧ R (Itl X.K a) H1) ∨ (∃ xs, SqT X.K H1 a xs ∧ R (Itt X.K a) H1))) I ⟨b, al, t, Rl, P.mono fun d s1 p v H1 x1 R1 r1 => ?_⟩) fun v s1 ⟨x, H1, I1, r1, q1⟩ => ?_
  · cases d with
    | lst ds =>
      unfold Rep at r1
      obtain ⟨a, vs, rfl, h1, h2⟩ := r1
      exact ⟨a, rfl, .inl ⟨vs, .inl h1.rd, p _ _ x1 R1 (walk_lst h1 h2)⟩⟩
    | tup ds =>
      unfold Rep at r1
      obtain ⟨a, vs, rfl, h1, h2⟩ := r1
      rw [← hK] at h1
      exact ⟨a, rfl, .inr ⟨vs, h1, p _ _ x1 R1 (walk_tup h1 h2)⟩⟩
    | _ => exact p.elim
  · obtain ⟨a, e, q⟩ := q1
    subst e
    cases r1
    rcases q with ⟨xs, hq, q⟩ | ⟨xs, hq, q⟩
    · obtain ⟨its, rv, p, hz⟩ := I1.list hq
      refine wpAny_pyIter_list p.isList ?_
      refine ⟨s1.heap.objs.size, [s1.heap.objs.size], _, _, H1, rfl, I1.kept (t' := s1.toks) fun b o e => Heap.get?_push_of_some _ e, turn_list a _, ⟨_, Heap.get?_push_size _ rfl, rfl, rfl⟩, fun b hb => ?_, q⟩
      have e : b = s1.heap.objs.size := by simpa using hb
      subst e
      exact I1.fpOk (Nat.le_refl _) (I1.hok.fresh (Nat.le_refl _))
    · obtain ⟨its, rv, p, hz⟩ := I1.tuple hq
      refine wpAny_pyIter_tuple (show s1.heap.IsTuple a its.toArray from p) ?_
      refine ⟨s1.heap.objs.size, [s1.heap.objs.size], _, _, H1, rfl, I1.kept (t' := s1.toks) fun b o e => Heap.get?_push_of_some _ e, turn_tuple a _, ⟨_, Heap.get?_push_size _ rfl, rfl, rfl⟩, fun b hb => ?_, q⟩
      have e : b = s1.heap.objs.size := by simpa using hb
      subst e
      exact I1.fpOk (Nat.le_refl _) (I1.hok.fresh (Nat.le_refl _))
theorem smallI_ok {i : Int} (h : smallI i = true) : -(2 ^ 62) ≤ i ∧ i < 2 ^ 62 := by
  unfold smallI at h
  simpa using h
/-- ints as arguments -/
def rdN (g : G) (W : WX) (f : S → Res (List Int)) : TA := fun σ H Q => ∃ b al s, Rel g b al s σ H ∧ PostX g b al W σ H (fun ns s' => ∀ H', Ext al H H' → Rel g b al s' σ H' → Q (ns.map V.int) H') (f s)
theorem pn_nil : PA X [] (rdN g W fun s => .ok [] s) := pa_nil.mono fun σ H Q ⟨b, al, s, R, P⟩ => P H Ext.refl R
theorem pn_cons {es : List Expr} {f : S → Res D} {k : S → Res (List Int)} (hs : notStar e = true) (h : PE X e (rdP g W f)) (hr : PA X es (rdN g W k)) :
    PA X (e :: es) (rdN g W fun s => (toI (f s)).bind fun i s => (k s).bind fun ns s => .ok (i :: ns) s) := by
  refine (pa_cons h hr (star_cons hs es X.env)).mono fun σ H Q ⟨b, al, s, R, P⟩ => ⟨b, al, s, R, ?_⟩
  rw [postX_bind] at P
  unfold toI at P
  rw [postX_bind] at P
  refine P.mono fun d s1 p v H1 x1 R1 r1 => ⟨b, al, s1, R1, ?_⟩
  cases d with
  | int i =>
    rw [r1.int]
    replace p : PostX g b al W σ H (fun ns s' => ∀ H', Ext al H H' → Rel g b al s' σ H' → Q (ns.map V.int) H') ((k s1).bind fun ns s => .ok (i :: ns) s) := p
    rw [postX_bind] at p
    exact p.shift x1 fun ns s2 p2 H2 x2 R2 => p2 H2 (x1.trans x2) R2
  | _ => exact p.elim
theorem bind_assoc {α β γ : Type} (r : Res α) (f : α → S → Res β) (k : β → S → Res γ) : (r.bind f).bind k = r.bind fun a s => (f a s).bind k := by cases r <;> rfl
theorem pi_rng1 {tg : Expr} {f : S → Res D} {p pos : Pos} (hs : notStar e = true) (hg : Gl X "range") (hm : X.mg "range" = none) (h : PE X e (rdP g W f)) :
    L2.PI X tg (.Call (.Name "range" p) [e] [] pos) (rdI g W fun s => (toI (f s)).bind fun i s => if smallI i then .ok (rangeD 0 i.toNat) s else .bad) := by
  refine (pi_range1 hg hm (pn_cons hs h pn_nil) (star_cons hs _ _)).mono fun σ H R ⟨b, al, s, Rl, P⟩ => ⟨b, al, s, Rl, ?_⟩
  rw [postX_bind] at P ⊢
  refine P.mono fun i s1 p H1 x1 R1 => ?_
  split at p
  · rename_i hi
    obtain ⟨h1, h2⟩ := smallI_ok hi
    exact ⟨i, rfl, h1, h2, p _ H1 x1 R1 walk_rng⟩
  · exact p.elim
theorem pi_rng2 {tg e2 : Expr} {f f2 : S → Res D} {p pos : Pos} (hs : notStar e = true) (hs2 : notStar e2 = true) (hg : Gl X "range") (hm : X.mg "range" = none) (h : PE X e (rdP g W f)) (h2 : PE X e2 (rdP g W f2)) :
    L2.PI X tg (.Call (.Name "range" p) [e, e2] [] pos) (rdI g W fun s => (toI (f s)).bind fun i s => (toI (f2 s)).bind fun j s => if smallI i && smallI j then .ok (rangeD i (j - i).toNat) s else .bad) := by
  refine (pi_range2 hg hm (pn_cons hs h (pn_cons hs2 h2 pn_nil)) (by rw [star_cons hs, star_cons hs2] <;> rfl) (by rw [star_cons hs2] <;> rfl)).mono fun σ H R ⟨b, al, s, Rl, P⟩ => ⟨b, al, s, Rl, ?_⟩
  rw [postX_bind] at P ⊢
  refine P.mono fun i s1 p => ?_
  rw [postX_bind] at p ⊢
  rw [postX_bind]
  refine p.mono fun j s2 p2 H1 x1 R1 => ?_
  split at p2
  · rename_i hi
    simp only [Bool.and_eq_true] at hi
    obtain ⟨h1, h2⟩ := smallI_ok hi.1
    obtain ⟨h3, h4⟩ := smallI_ok hi.2
    exact ⟨i, j, rfl, ⟨h1, h2, h3, h4⟩, p2 _ H1 x1 R1 walk_rng⟩
  · exact p2.elim
theorem pi_rng3 {tg e2 e3 : Expr} {f f2 f3 : S → Res D} {p pos : Pos} (hs : notStar e = true) (hs2 : notStar e2 = true) (hs3 : notStar e3 = true) (hg : Gl X "range") (hm : X.mg "range" = none) (h : PE X e (rdP g W f)) (h2 : PE X e2 (rdP g W f2)) (h3 : PE X e3 (rdP g W f3)) :
    L2.PI X tg (.Call (.Name "range" p) [e, e2, e3] [] pos) (rdI g W fun s => (toI (f s)).bind fun i s => (toI (f2 s)).bind fun j s => (toI (f3 s)).bind fun k s =>
      if decide (k ≠ 0) && decide (k.natAbs < 1073741824) && Builtin.Range.small i j k then .ok (rangeC i k (turnsC i j k)) s else .bad) := by
  refine (pi_range3 hg hm (pn_cons hs h (pn_cons hs2 h2 (pn_cons hs3 h3 pn_nil))) (by rw [star_cons hs, star_cons hs2, star_cons hs3] <;> rfl) (stars_false _ _ _ (by simp [hs2, hs3]))).mono fun σ H R ⟨b, al, s, Rl, P⟩ => ⟨b, al, s, Rl, ?_⟩
  rw [postX_bind] at P ⊢
  refine P.mono fun i s1 p => ?_
  rw [postX_bind] at p ⊢
  rw [postX_bind]
  refine p.mono fun j s2 p2 => ?_
  rw [postX_bind] at p2 ⊢
  rw [postX_bind]
  refine p2.mono fun k s3 p3 H1 x1 R1 => ?_
  split at p3
  · rename_i hi
    simp only [Bool.and_eq_true, decide_eq_true_eq] at hi
    obtain ⟨⟨h1, h2⟩, h3⟩ := hi
    have nn : 0 ≤ Builtin.Range.rangeSize i j k := by
      unfold Builtin.Range.rangeSize
      split
      · split
        · have := Int.ediv_nonneg (show 0 ≤ j - i - 1 by omega) (show 0 ≤ k by omega)
          omega
        · omega
      · split
        · have := Int.ediv_nonneg (show 0 ≤ i - j - 1 by omega) (show 0 ≤ -k by omega)
          omega
        · omega
    exact ⟨i, j, k, turnsC i j k, rfl, ⟨h1, h2, h3, by unfold turnsC; omega⟩, p3 _ H1 x1 R1 walk_rngC⟩
  · exact p3.elim
theorem pi_enum' {f : S → Res D} {p pos tpos : Pos} {elts : List Expr} {kk : Nat} (hK : X.K = g.K) (hs : notStar e = true) (hg : Gl X "enumerate") (hm : X.mg "enumerate" = none) (h : PE X e (rdV g W f)) :
    L2.PI X (.Tuple elts kk tpos) (.Call (.Name "enumerate" p) [e] [] pos) (rdI g W fun s => (toLL (f s)).bind fun ds s => .ok (enumD 0 ds) s) := by
  refine (pi_enum hg hm (pa_cons h pa_nil (star_cons hs _ _)) (star_cons hs _ _)).mono fun σ H R ⟨b, al, s, Rl, P⟩ => ⟨b, al, s, Rl, ?_⟩
  rw [postX_bind] at P
  unfold toLL at P
  rw [postX_bind] at P
  refine P.mono fun d s1 p v H1 x1 R1 r1 => ?_
  cases d with
  | lst ds =>
    unfold Rep at r1
    obtain ⟨a, vs, rfl, h1, h2⟩ := r1
    exact ⟨a, vs, rfl, .inl h1.rd, p _ _ x1 R1 (walk_enum h1 h2)⟩
  | _ => exact p.elim
theorem pi_zip' {e2 : Expr} {f f2 : S → Res D} {p pos tpos : Pos} {elts : List Expr} {kk : Nat} (hK : X.K = g.K) (hs : notStar e = true) (hs2 : notStar e2 = true) (hg : Gl X "zip") (hm : X.mg "zip" = none) (h : PE X e (rdV g W f)) (h2 : PE X e2 (rdV g W f2)) :
    L2.PI X (.Tuple elts kk tpos) (.Call (.Name "zip" p) [e, e2] [] pos) (rdI g W fun s => (f s).bind fun x s => (f2 s).bind fun y s => zipR x y s) := by
  refine (RZ.pi_zipA hg hm (pa_cons h (pa_cons h2 pa_nil (star_cons hs2 _ _)) (star_cons hs _ _)) (by rw [star_cons hs]) (stars_false _ _ _ (by simp [hs2]))).mono fun σ H R ⟨b, al, s, Rl, P⟩ => ⟨b, al, s, Rl, ?_⟩
  rw [postX_bind] at P
  refine P.mono fun d s1 p v H1 x1 R1 r1 => ⟨b, al, s1, R1, ?_⟩
  rw [postX_bind] at p
  refine p.shift x1 fun d2 s2 p2 v2 H2 x2 R2 r2 => ?_
  have r1' := r1.stay (al' := al) x2.st fun _ _ z => z
  cases d with
  | lst ds =>
    cases d2 with
    | lst es =>
      unfold Rep at r1' r2
      obtain ⟨a, vs, rfl, h1, h2⟩ := r1'
      obtain ⟨a2, ws, rfl, h3, h4⟩ := r2
      exact ⟨a, a2, vs, ws, rfl, .inl ⟨.inl h1.rd, .inl h3.rd, p2 _ _ (x1.trans x2) R2 (walk_zipL h1 h2 h3 h4)⟩⟩
    | _ => exact p2.elim
  | tup ds =>
    cases d2 with
    | tup es =>
      unfold Rep at r1' r2
      obtain ⟨a, vs, rfl, h1, h2⟩ := r1'
      obtain ⟨a2, ws, rfl, h3, h4⟩ := r2
      rw [← hK] at h1 h3
      exact ⟨a, a2, vs, ws, rfl, .inr ⟨h1, h3, p2 _ _ (x1.trans x2) R2 (walk_zipT h1 h2 h3 h4)⟩⟩
    | _ => exact p2.elim
  | _ => exact p2.elim
theorem pi_revd {tg : Expr} {f : S → Res D} {p pos : Pos} (hK : X.K = g.K) (hs : notStar e = true) (hg : Gl X "reversed") (hm : X.mg "reversed" = none) (h : PE X e (rdV g W f)) :
    L2.PI X tg (.Call (.Name "reversed" p) [e] [] pos) (rdI g W fun s => (toL (f s)).bind fun ds s => .ok ds.reverse s) := by
  refine (RT.pi_revA hg hm h (star_cons hs _ _)).mono fun σ H R ⟨b, al, s, Rl, P⟩ => ⟨b, al, s, Rl, ?_⟩
  rw [postX_bind] at P
  unfold toL at P
  rw [postX_bind] at P
  refine P.mono fun d s1 p v H1 x1 R1 r1 => ?_
  cases d with
  | lst ds =>
    unfold Rep at r1
    obtain ⟨a, vs, rfl, h1, h2⟩ := r1
    exact ⟨a, vs, rfl, .inl ⟨.inl h1.rd, p _ _ x1 R1 (walk_revL h1 h2)⟩⟩
  | tup ds =>
    unfold Rep at r1
    obtain ⟨a, vs, rfl, h1, h2⟩ := r1
    rw [← hK] at h1
    exact ⟨a, vs, rfl, .inr ⟨h1, p _ _ x1 R1 (walk_revT h1 h2)⟩⟩
  | _ => exact p.elim
end
end PI

namespace PI
open PySem PySem.Spec PyProof.Rows L2

/-! ### slots -/
section
variable {g : G} {b : B} {al : List Addr} {s : S} {σ : L2.St} {H : Hp}
theorem Rel.setVal (r : Rel g b al s σ H) (i : Nat) {d : D} {v : V} (q : Rep g.K al H d v) : Rel g b al { s with t := s.t.set i (some (.val d)) } (σ.set i (some v)) H := by
  refine ⟨by rw [List.length_set, List.length_set]; exact r.len, fun j x e => ?_, fun j k x y a hjk ej ek ox oy e1 => ?_, r.cell, r.alen, r.nd, r.base, r.anew, r.apre⟩
  · dsimp only at e
    by_cases hj : i = j
    · subst hj
      by_cases hl : i < s.t.length
      · rw [List.getElem?_set_self hl] at e
        cases e
        exact ⟨v, by rw [List.getElem?_set_self (by rw [← r.len]; exact hl)], q⟩
      · rw [List.getElem?_eq_none (by rw [List.length_set]; omega)] at e
        cases e
    · rw [List.getElem?_set_ne hj] at e
      rw [List.getElem?_set_ne hj]
      exact r.sl j x e
  · dsimp only at ej ek
    have nj : i ≠ j := fun z => by
      subst z
      by_cases hl : i < s.t.length
      · rw [List.getElem?_set_self hl] at ej; cases ej; cases ox
      · rw [List.getElem?_eq_none (by rw [List.length_set]; omega)] at ej; cases ej
    have nk : i ≠ k := fun z => by
      subst z
      by_cases hl : i < s.t.length
      · rw [List.getElem?_set_self hl] at ek; cases ek; cases oy
      · rw [List.getElem?_eq_none (by rw [List.length_set]; omega)] at ek; cases ek
    rw [List.getElem?_set_ne nj] at ej e1
    rw [List.getElem?_set_ne nk] at ek ⊢
    exact r.inj j k x y a hjk ej ek ox oy e1
/-- less is known of the slots -/
theorem Rel.less (r : Rel g b al s σ H) {t : List (Option Sl)} {σ' : L2.St} (hl : t.length = σ'.length) (h : ∀ (j : Nat) (x : Sl), t[j]? = some (some x) → s.t[j]? = some (some x) ∧ σ'[j]? = σ[j]?) : Rel g b al { s with t := t } σ' H := by
  refine ⟨hl, fun j x e => ?_, fun j k x y a hjk ej ek ox oy e1 => ?_, r.cell, r.alen, r.nd, r.base, r.anew, r.apre⟩
  · obtain ⟨h1, h2⟩ := h j x e
    rw [h2]
    exact r.sl j x h1
  · obtain ⟨h1, h2⟩ := h j x ej
    obtain ⟨h3, h4⟩ := h k y ek
    rw [h2] at e1
    rw [h4]
    exact r.inj j k x y a hjk h1 h3 ox oy e1
def SameOff (ids : List Nat) (σ σ2 : L2.St) : Prop := σ2.length = σ.length ∧ ∀ j, j ∉ ids → σ2[j]? = σ[j]?
theorem wipeT_get {t : List (Option Sl)} : ∀ {ids : List Nat} {j : Nat} {x : Sl}, (wipeT t ids)[j]? = some (some x) → t[j]? = some (some x) ∧ j ∉ ids
  | [], j, x, h => ⟨h, by simp⟩
  | i :: ids, j, x, h => by
    unfold wipeT at h
    by_cases hj : i = j
    · subst hj
      by_cases hl : i < (wipeT t ids).length
      · rw [List.getElem?_set_self hl] at h; cases h
      · rw [List.getElem?_eq_none (by rw [List.length_set]; omega)] at h; cases h
    · rw [List.getElem?_set_ne hj] at h
      obtain ⟨h1, h2⟩ := wipeT_get h
      exact ⟨h1, by simp only [List.mem_cons, not_or]; exact ⟨fun z => hj z.symm, h2⟩⟩
theorem wipeT_length (t : List (Option Sl)) : ∀ ids : List Nat, (wipeT t ids).length = t.length
  | [] => rfl
  | i :: ids => by unfold wipeT; rw [List.length_set, wipeT_length t ids]
theorem wipe_off {σ : L2.St} : ∀ {ids : List Nat} {j : Nat}, j ∉ ids → (wipe σ ids)[j]? = σ[j]?
  | [], j, _ => rfl
  | i :: ids, j, h => by
    unfold wipe
    simp only [List.mem_cons, not_or] at h
    rw [List.getElem?_set_ne (fun z => h.1 z.symm)]
    exact wipe_off h.2
theorem wipe_on {σ : L2.St} : ∀ {ids : List Nat} {j : Nat}, j ∈ ids → j < σ.length → (wipe σ ids)[j]? = some none
  | [], j, h, _ => by simp at h
  | i :: ids, j, h, hl => by
    unfold wipe
    by_cases hj : i = j
    · subst hj
      rw [List.getElem?_set_self (by rw [wipe_length]; exact hl)]
    · rw [List.getElem?_set_ne hj]
      rcases List.mem_cons.mp h with z | z
      · exact absurd z.symm hj
      · exact wipe_on z hl
theorem wipe_same {ids : List Nat} {σ σ2 : L2.St} (h : SameOff ids σ σ2) : wipe σ2 ids = wipe σ ids := by
  apply List.ext_getElem?
  intro j
  by_cases hj : j ∈ ids
  · by_cases hl : j < σ.length
    · rw [wipe_on hj hl, wipe_on hj (by rw [h.1]; exact hl)]
    · rw [List.getElem?_eq_none (by rw [wipe_length, h.1]; omega), List.getElem?_eq_none (by rw [wipe_length]; omega)]
  · rw [wipe_off hj, wipe_off hj, h.2 j hj]
theorem wipe_wipe (σ : L2.St) (ids : List Nat) : wipe (wipe σ ids) ids = wipe σ ids := wipe_same ⟨wipe_length _ _, fun j hj => wipe_off hj⟩
theorem Rel.wipe (r : Rel g b al s σ H) (ids : List Nat) : Rel g b al { s with t := wipeT s.t ids } (L2.wipe σ ids) H :=
  r.less (by rw [wipeT_length, wipe_length]; exact r.len) fun j x e => by
    obtain ⟨h1, h2⟩ := wipeT_get e
    exact ⟨h1, wipe_off h2⟩
end

/-! ### targets -/
structure NmOk (X : Cx) (i : Nat) (x : Str) : Prop where
  ix : X.N[i]? = some x
  loc : Loc X.env.scope x
  fn : X.fn x = true ∨ X.env.scope.names.lookup x = some .local
def gtsOf : List Nat → TGs
  | [] => gNil
  | i :: is => gCons (gName i) (gtsOf is)
def gtOf (K : PySem.W.Frag) : MT → TG
  | .name i => gName i
  | .tup is => gTup K is.length (gtsOf is)
/-- names of a tuple target, in order -/
inductive NmsOk (X : Cx) : List Nat → List Expr → Prop
  | nil : NmsOk X [] []
  | cons {i : Nat} {x : Str} {p : Pos} {is : List Nat} {es : List Expr} : NmOk X i x → NmsOk X is es → NmsOk X (i :: is) (.Name x p :: es)
theorem nms_pgs {X : Cx} (nd : X.N.Nodup) : ∀ {is : List Nat} {es : List Expr}, NmsOk X is es → PGs X es (gtsOf is) ∧ (assignEach es X.env).length = is.length ∧ (assignEach es X.env).findIdx? (·.1) = none
  | [], [], .nil => ⟨pgs_nil, rfl, rfl⟩
  | i :: is, .Name x p :: es, .cons h hs => by
    obtain ⟨hu, hl, hf⟩ := nms_pgs nd hs
    refine ⟨pgs_cons (pg_name nd h.ix h.loc h.fn) hu rfl, by show (assignEach es X.env).length + 1 = _; rw [hl]; rfl, ?_⟩
    show List.findIdx? (·.1) ((false, assign (.Name x p) X.env) :: assignEach es X.env) = none
    rw [List.findIdx?_cons, hf]
    rfl
inductive TgE (X : Cx) : MT → Expr → Prop
  | name {i : Nat} {x : Str} {pos : Pos} : NmOk X i x → TgE X (.name i) (.Name x pos)
  | tup {is : List Nat} {es : List Expr} {k : Nat} {pos : Pos} : X.calm = true → NmsOk X is es → TgE X (.tup is) (.Tuple es k pos)
theorem tg_pg {X : Cx} (nd : X.N.Nodup) {tg : MT} {e : Expr} (h : TgE X tg e) : PG X e (gtOf X.K tg) := by
  cases h with
  | name h => exact pg_name nd h.ix h.loc h.fn
  | tup hc h =>
    obtain ⟨hu, hl, hf⟩ := nms_pgs nd h
    exact pg_tup hc hu hl hf
theorem setAll_len : ∀ (is : List Nat) (ds : List D) (t0 t : List (Option Sl)), setAll t0 is ds = some t → is.length = ds.length
  | [], ds, t0, t, e => by cases ds <;> simp [setAll] at e ⊢
  | i :: is, [], t0, t, e => by simp [setAll] at e
  | i :: is, d :: ds, t0, t, e => by simp only [setAll] at e; simp [setAll_len is ds _ _ e]
theorem gts_run {g : G} : ∀ (is : List Nat) (b : B) (al : List Addr) (s : S) (σ : L2.St) (H : Hp) (ds : List D) (xs : List V) (t : List (Option Sl)) (Q : L2.St → Hp → Prop), Rel g b al s σ H → Reps g.K al H ds xs → setAll s.t is ds = some t →
      (∀ σ2, Rel g b al { s with t := t } σ2 H → SameOff is σ σ2 → Q σ2 H) → gtsOf is xs σ H Q
  | [], b, al, s, σ, H, ds, xs, t, Q, R, r, e, q => by
    cases ds with
    | nil =>
      unfold setAll at e
      cases e
      exact ⟨r.inv0, q σ R ⟨rfl, fun _ _ => rfl⟩⟩
    | cons d ds => simp [setAll] at e
  | i :: is, b, al, s, σ, H, ds, xs, t, Q, R, r, e, q => by
    cases ds with
    | nil => simp [setAll] at e
    | cons d ds =>
      unfold setAll at e
      obtain ⟨v, w, rfl, h1, h2⟩ := r.inv
      refine ⟨v, w, rfl, ?_⟩
      refine gts_run is b al { s with t := s.t.set i (some (.val d)) } _ H ds w t Q (R.setVal i h1) h2 e fun σ2 R2 so => q σ2 R2 ⟨by rw [so.1, List.length_set], fun j hj => ?_⟩
      simp only [List.mem_cons, not_or] at hj
      rw [so.2 j hj.2, List.getElem?_set_ne (fun z => hj.1 z.symm)]
theorem tg_run {K : PySem.W.Frag} {g : G} (hK : K = g.K) (tg : MT) (b : B) (al : List Addr) (s : S) (σ : L2.St) (H : Hp) (d : D) (x : V) (s2 : S) (Q : L2.St → Hp → Prop) (R : Rel g b al s σ H) (r : Rep g.K al H d x) (e : bindT tg d s = some s2)
    (q : ∀ σ2, Rel g b al s2 σ2 H → SameOff tg.ids σ σ2 → Q σ2 H) : gtOf K tg x σ H Q := by
  cases tg with
  | name i =>
    unfold bindT at e
    cases e
    exact q _ (R.setVal i r) ⟨List.length_set, fun j hj => List.getElem?_set_ne (fun z => hj (by simp [MT.ids, z]))⟩
  | tup is =>
    unfold bindT at e
    cases d with
    | tup ds =>
      simp only [Option.map_eq_some_iff] at e
      obtain ⟨t, e1, e2⟩ := e
      subst e2
      unfold Rep at r
      obtain ⟨a, vs, rfl, h1, h2⟩ := r
      rw [← hK] at h1
      refine ⟨a, vs, rfl, h1, by rw [setAll_len is ds _ _ e1, h2.length], gts_run is b al s σ H ds vs t Q R h2 e1 q⟩
    | _ => cases e

/-! ### list comprehensions -/
def B.with (b : B) (D : Addr) (xs : List V) : B := { b with Hb := fun a => if a = D then some (.lst xs) else b.Hb a }
section
variable {g : G} {b : B} {al : List Addr} {s : S} {σ : L2.St} {H : Hp} {A : Addr} {xs : List V}
/-- the list at A is guarded -/
theorem Rel.guard (r : Rel g b al s σ H) (h : H A = some (.lst xs)) (hb : A ∉ b.al) (n : A ∉ al) (aw : Away s.t σ A) : Rel g (b.with A xs) al s σ H := by
  have nb : ∀ a, a ≠ A → (b.with A xs).Hb a = b.Hb a := fun a ha => if_neg ha
  refine ⟨r.len, fun i x e => ?_, r.inj, r.cell, r.alen, r.nd, fun a o e m => ?_, fun a ha => ?_, r.apre⟩
  · obtain ⟨v, e1, q⟩ := r.sl i x e
    refine ⟨v, e1, ?_⟩
    cases x with
    | val d => exact q
    | own ds =>
      obtain ⟨a, vs, ev, h1, h2, h3, h4⟩ := q
      exact ⟨a, vs, ev, h1, h2, h3, by rw [nb a (fun z => by subst ev; subst z; exact aw i _ e rfl e1)]; exact h4⟩
    | dct ds =>
      obtain ⟨a, vs, ev, h1, h2, h3, h4⟩ := q
      exact ⟨a, vs, ev, h1, h2, h3, by rw [nb a (fun z => by subst ev; subst z; exact aw i _ e rfl e1)]; exact h4⟩
    | exc c d => exact q
  · by_cases ha : a = A
    · subst ha
      have : (b.with a xs).Hb a = some (.lst xs) := if_pos rfl
      rw [this] at e; cases e
      exact h
    · rw [nb a ha] at e
      exact r.base a o e m
  · have : a ≠ A := fun z => n (z ▸ ha)
    rcases r.anew a ha with z | z
    · exact .inl z
    · exact .inr (by rw [nb a this]; exact z)
/-- .. and no more -/
theorem Rel.unguard (r : Rel g (b.with A xs) al s σ H) (hb : A ∉ b.al) (hB : b.Hb A = none) (n : A ∉ al) : Rel g b al s σ H ∧ H A = some (.lst xs) ∧ Away s.t σ A := by
  have nb : ∀ a, a ≠ A → (b.with A xs).Hb a = b.Hb a := fun a ha => if_neg ha
  have eA : (b.with A xs).Hb A = some (.lst xs) := if_pos rfl
  have ne : ∀ a, (b.with A xs).Hb a = none → a ≠ A := fun a e z => by subst z; rw [eA] at e; cases e
  refine ⟨⟨r.len, fun i x e => ?_, r.inj, r.cell, r.alen, r.nd, fun a o e m => ?_, fun a ha => ?_, r.apre⟩, r.base A _ eA hb, fun i x e o z => ?_⟩
  · obtain ⟨v, e1, q⟩ := r.sl i x e
    refine ⟨v, e1, ?_⟩
    cases x with
    | val d => exact q
    | own ds =>
      obtain ⟨a, vs, ev, h1, h2, h3, h4⟩ := q
      exact ⟨a, vs, ev, h1, h2, h3, by rw [← nb a (ne a h4)]; exact h4⟩
    | dct ds =>
      obtain ⟨a, vs, ev, h1, h2, h3, h4⟩ := q
      exact ⟨a, vs, ev, h1, h2, h3, by rw [← nb a (ne a h4)]; exact h4⟩
    | exc c d => exact q
  · have : a ≠ A := fun z => by subst z; rw [hB] at e; cases e
    exact r.base a o (by rw [nb a this]; exact e) m
  · have : a ≠ A := fun z => n (z ▸ ha)
    rcases r.anew a ha with z | z
    · exact .inl z
    · exact .inr (by rw [← nb a this]; exact z)
  · obtain ⟨v, e1, q⟩ := r.sl i x e
    rw [z] at e1; cases e1
    cases x with
    | val d => cases o
    | exc c d => cases o
    | own ds =>
      obtain ⟨a, vs, ev, h1, h2, h3, h4⟩ := q
      cases ev
      exact ne A h4 rfl
    | dct ds =>
      obtain ⟨a, vs, ev, h1, h2, h3, h4⟩ := q
      cases ev
      exact ne A h4 rfl
/-- the guarded list grows -/
theorem Rel.grow (r : Rel g b al s σ H) {ys : List V} (h : H A = some (.lst xs)) (hB : b.Hb A = none) (n : A ∉ al) (aw : Away s.t σ A) : Rel g b al s σ (upd H A (.lst ys)) ∧ Stay H (upd H A (.lst ys)) ∧ Away s.t σ A := by
  have st : Stay H (upd H A (.lst ys)) :=
    ⟨fun c xs e => by rw [upd_ne (ne_of e h (by intro z; cases z))]; exact e, fun c x u e => by rw [upd_ne (ne_of e h (by intro z; cases z))]; exact e, fun c fs e => by rw [upd_ne (ne_of e h (by intro z; cases z))]; exact e⟩
  refine ⟨⟨r.len, fun i x e => ?_, r.inj, fun k ds e => ?_, r.alen, r.nd, fun a o e m => ?_, r.anew, r.apre⟩, st, aw⟩
  · obtain ⟨v, e1, q⟩ := r.sl i x e
    refine ⟨v, e1, ?_⟩
    cases x with
    | val d => exact q.stay st fun _ _ z => z
    | own ds =>
      obtain ⟨a, vs, ev, h1, h2, h3, h4⟩ := q
      exact ⟨a, vs, ev, by rw [upd_ne (fun z => by subst ev; subst z; exact aw i _ e rfl e1)]; exact h1, h2.stay st fun _ _ z => z, h3, h4⟩
    | dct ds =>
      obtain ⟨a, vs, ev, h1, h2, h3, h4⟩ := q
      exact ⟨a, vs, ev, by rw [upd_ne (fun z => by subst ev; subst z; exact aw i _ e rfl e1)]; exact h1, h2.stay st fun _ _ z => z, h3, h4⟩
    | exc c d =>
      obtain ⟨a', dd, w, e1, e2, e3, e4⟩ := q
      exact ⟨a', dd, w, e1, e2, st.xd _ _ e3, e4.stay st fun _ _ z => z⟩
  · obtain ⟨a, vs, e1, e2, e3⟩ := r.cell k ds e
    have : a ≠ A := fun z => by subst z; exact n (List.mem_of_getElem? e1)
    exact ⟨a, vs, e1, by rw [upd_ne this]; exact e2, e3.stay st fun _ _ z => z⟩
  · have : a ≠ A := fun z => by subst z; rw [hB] at e; cases e
    rw [upd_ne this]; exact r.base a o e m
end
theorem backT_get {t t0 : List (Option Sl)} : ∀ {ids : List Nat} {j : Nat} {x : Sl}, (backT t t0 ids)[j]? = some (some x) → (j ∉ ids ∧ t[j]? = some (some x)) ∨ (j ∈ ids ∧ t0[j]? = some (some x) ∧ ∃ d, x = .val d)
  | [], j, x, h => .inl ⟨by simp, h⟩
  | i :: ids, j, x, h => by
    unfold backT at h
    by_cases hj : i = j
    · subst hj
      by_cases hl : i < (backT t t0 ids).length
      · rw [List.getElem?_set_self hl] at h
        simp only [Option.some.injEq] at h
        split at h
        · rename_i d e
          cases h
          exact .inr ⟨by simp, e, d, rfl⟩
        · cases h
      · rw [List.getElem?_eq_none (by rw [List.length_set]; omega)] at h; cases h
    · rw [List.getElem?_set_ne hj] at h
      rcases backT_get h with ⟨h1, h2⟩ | ⟨h1, h2⟩
      · exact .inl ⟨by simp only [List.mem_cons, not_or]; exact ⟨fun z => hj z.symm, h1⟩, h2⟩
      · exact .inr ⟨List.mem_cons_of_mem _ h1, h2⟩
theorem backT_length (t t0 : List (Option Sl)) : ∀ ids : List Nat, (backT t t0 ids).length = t.length
  | [] => rfl
  | i :: ids => by unfold backT; rw [List.length_set, backT_length t t0 ids]
abbrev W0 : WX := fun _ _ _ _ => False
/-- a turn of a comprehension -/
def lcTurn (tg : MT) (fc : S → Res Bool) (fe : S → Res D) : D → S → Res (Option D) := fun d s1 => match bindT tg d { s1 with t := wipeT s1.t tg.ids } with
  | none => .bad
  | some s2 => (fc s2).bind fun b s3 => if b then (fe s3).bind fun e s4 => .ok (some e) s4 else .ok none s3
theorem pe_lc' {X : Cx} {g : G} {W : WX} {elt tge iter : Expr} {ifs : List Expr} {scope : Scope} {own : List (Str × Nat)} {pos : Pos} {tg : MT} {fi : S → Res (List D)} {fc : S → Res Bool} {fe : S → Res D}
    (hc : X.calm = true) (hN : X.N.Nodup) (hi : L2.PI X tge iter (rdI g W fi)) (ok : BlkOk X.N X.env.scope scope own) (ho : own.map (·.2) = tg.ids)
    (gt : TG) (hg : ∀ (s : Shared) (H : Hp) (C : Addr) (cl : List (Str × Addr)) (fp : List Addr), PG (X.blk s H scope (compEnvC scope cl C X.env) fp) tge gt)
    (hgt : ∀ (b : B) (al : List Addr) (s : S) (σ : L2.St) (H : Hp) (d : D) (x : V) (s2 : S) (Q : L2.St → Hp → Prop), Rel g b al s σ H → Rep g.K al H d x → bindT tg d s = some s2 →
      (∀ σ2, Rel g b al s2 σ2 H → SameOff tg.ids σ σ2 → Q σ2 H) → gt x σ H Q)
    (ht : ∀ (s : Shared) (H : Hp) (C : Addr) (cl : List (Str × Addr)) (fp : List Addr), PTs (X.blk s H scope (compEnvC scope cl C X.env) fp) ifs (rdT g W0 fc))
    (he : ∀ (s : Shared) (H : Hp) (C : Addr) (cl : List (Str × Addr)) (fp : List Addr), PE (X.blk s H scope (compEnvC scope cl C X.env) fp) elt (rdV g W0 fe))
    (hs : ∀ x, foldedSetIterable iter X.env x = pure x) :
    ∀ {te : TE}, te = tLc (rdI g W fi) gt (rdT g W0 fc) (rdV g W0 fe) (own.map (·.2)) → ∀ σ H Q, rdE g W (fun s => (fi s).bind fun items s => match lcGo (lcTurn tg fc fe) [] items s with
      | .ok ds s1 => .ok (.own ds) { s1 with t := backT s1.t s.t tg.ids }
      | _ => .bad) σ H Q → te σ H Q := by
  rintro te rfl σ H Q ⟨b, al, s, R, P⟩
  rw [ho]
  refine ⟨b, al, s, R, ?_⟩
  rw [postX_bind] at P
  refine P.mono fun items s1 p J H1 x1 R1 wk A hA => ?_
  -- the comprehension's own list at A
  cases q : lcGo (lcTurn tg fc fe) [] items s1 with
  | exc _ _ _ => rw [q] at p; exact p.elim
  | bad => rw [q] at p; exact p.elim
  | ok dsF sF =>
  rw [q] at p
  have nAl := R1.notAl hA
  have nB := R1.newBase hA
  have nBal : A ∉ b.al := fun h => by
    obtain ⟨k, hk, e⟩ := List.mem_iff_getElem.mp h
    exact nAl (List.mem_of_getElem? (R1.apre k A (by rw [List.getElem?_eq_getElem hk, e])))
  have st0 := stay_upd (H := H1) (o := .lst []) hA
  refine ⟨fun i m H' => m = items.length - i ∧ i ≤ items.length ∧ ∃ (sB : S) (acc : List D) (vs : List V), Rel g b al { sB with t := wipeT sB.t tg.ids } (L2.wipe σ tg.ids) H' ∧ H' A = some (.lst vs) ∧ Reps g.K al H' acc vs ∧ Away (wipeT sB.t tg.ids) (L2.wipe σ tg.ids) A ∧
      Stay H1 H' ∧ (∀ a ws, a ∉ al → H1 a = some (.lst ws) → H' a = some (.lst ws) ∨ ∃ o, H' a = some (.frz o (.lst ws))) ∧ lcGo (lcTurn tg fc fe) acc (items.drop i) sB = .ok dsF sF,
    ⟨items.length, by omega, Nat.zero_le _, s1, [], [], (R1.alloc hA).wipe tg.ids, upd_same, Reps.nil, fun i x e o z => ?_, st0, fun a ws _ e => .inl (by rw [upd_ne (ne_of_none e hA)]; exact e), by simpa using q⟩, ?_⟩
  · obtain ⟨e1, e2⟩ := wipeT_get e
    rw [wipe_off e2] at z
    exact R1.away hA i x e1 o z
  rintro i m H' ⟨rfl, hi', sB, acc, vs, RB, hA', rA, awB, stB, exB, go⟩
  obtain ⟨wk1, wk2⟩ := wk H' stB
  by_cases hlt : i < items.length
  · refine .inr ?_
    have hget : items[i]? = some items[i] := List.getElem?_eq_getElem hlt
    obtain ⟨g1, g2⟩ := wk1 i _ hget
    refine ⟨g1, fun H3 => ∃ (sC : S) (acc' : List D) (ws : List V), Rel g b al { sC with t := wipeT sC.t tg.ids } (L2.wipe σ tg.ids) H3 ∧ H3 A = some (.lst ws) ∧ Reps g.K al H3 acc' ws ∧ Away (wipeT sC.t tg.ids) (L2.wipe σ tg.ids) A ∧
      Stay H1 H3 ∧ (∀ a zs, a ∉ al → H1 a = some (.lst zs) → H3 a = some (.lst zs) ∨ ∃ o, H3 a = some (.frz o (.lst zs))) ∧ lcGo (lcTurn tg fc fe) acc' (items.drop (i + 1)) sC = .ok dsF sF, fun H3 n3 => ⟨items.length - (i + 1), by omega, rfl, hlt, n3⟩, fun x H2 y2 => ?_⟩
    obtain ⟨k2, r2⟩ := g2 x H2 y2
    have RB2 := RB.more k2
    have stB2 : Stay H' H2 := ⟨fun a xs e => k2 _ _ e, fun a o u e => k2 _ _ e, fun a fs e => k2 _ _ e⟩
    rw [show items.drop i = items[i] :: items.drop (i + 1) from List.drop_eq_getElem_cons hlt] at go
    unfold lcGo lcTurn at go
    cases qb : bindT tg items[i] { sB with t := wipeT sB.t tg.ids } with
    | none => rw [qb] at go; cases go
    | some s2 =>
    rw [qb] at go
    dsimp only at go
    have RG := RB2.guard (A := A) (xs := vs) (k2 _ _ hA') nBal nAl awB
    refine hgt (b.with A vs) al _ _ H2 _ x s2 _ RG r2 qb fun σ2 R2 so => ⟨by rw [wipe_same so, wipe_wipe], ?_⟩
    refine ⟨b.with A vs, al, s2, R2, ?_⟩
    cases qc : fc s2 with
    | exc _ _ _ => rw [qc] at go; cases go
    | bad => rw [qc] at go; cases go
    | ok c s3 =>
    rw [qc] at go
    intro H3 x3 R3
    have fin : ∀ {sC : S} {H4 : Hp}, Ext al H2 H4 → Rel g (b.with A vs) al sC σ2 H4 → (Rel g b al { sC with t := wipeT sC.t tg.ids } (L2.wipe σ tg.ids) H4 ∧ H4 A = some (.lst vs) ∧ Reps g.K al H4 acc vs ∧ Away (wipeT sC.t tg.ids) (L2.wipe σ tg.ids) A ∧ Stay H1 H4 ∧
        (∀ a zs, a ∉ al → H1 a = some (.lst zs) → H4 a = some (.lst zs) ∨ ∃ o, H4 a = some (.frz o (.lst zs)))) := fun {sC H4} x4 R4 => by
      obtain ⟨u1, u2, u3⟩ := R4.unguard nBal nB nAl
      have wq : L2.wipe σ2 tg.ids = L2.wipe σ tg.ids := by rw [wipe_same so, wipe_wipe]
      have u4 := u1.wipe tg.ids
      rw [wq] at u4
      refine ⟨u4, u2, (rA.stay (al' := al) (stB2.trans x4.st) fun _ _ z => z), fun j y e o z => ?_, (stB.trans stB2).trans x4.st, fun a zs na e => ?_⟩
      · obtain ⟨e1, e2⟩ := wipeT_get e
        rw [← wq, wipe_off e2] at z
        exact u3 j y e1 o z
      · rcases exB a zs na e with z | ⟨o, z⟩
        · exact x4.own a zs na (k2 _ _ z)
        · exact .inr ⟨o, x4.st.frz _ _ _ (k2 _ _ z)⟩
    cases c with
    | false =>
      rw [if_neg Bool.false_ne_true]
      obtain ⟨f1, f2, f3, f4, f5, f6⟩ := fin x3 R3
      exact ⟨s3, acc, vs, f1, f2, f3, f4, f5, f6, go⟩
    | true =>
      rw [if_pos rfl]
      simp only [Res.bind, if_true] at go
      refine ⟨b.with A vs, al, s3, R3, ?_⟩
      cases qe : fe s3 with
      | exc _ _ _ => rw [qe] at go; cases go
      | bad => rw [qe] at go; cases go
      | ok d s4 =>
      rw [qe] at go
      intro y H4 x4 R4 r4
      obtain ⟨f1, f2, f3, f4, f5, f6⟩ := fin (x3.trans x4) R4
      dsimp only at go
      split at go
      · rename_i hlen
        refine ⟨vs, f2, by rw [← f3.length, ← line_eq]; exact hlen, ?_⟩
        obtain ⟨k1, k2', k3⟩ := f1.grow (ys := vs ++ [y]) f2 nB nAl f4
        refine ⟨s4, acc ++ [d], vs ++ [y], k1, upd_same, ?_, k3, f5.trans k2', fun a zs na e => ?_, go⟩
        · exact (f3.append (Reps.cons r4 Reps.nil)).stay k2' fun _ _ z => z
        · have : a ≠ A := fun z => by subst z; rw [hA] at e; cases e
          rw [upd_ne this]
          exact f6 a zs na e
      · cases go
  · refine .inl ⟨wk2 i (by omega), ?_⟩
    have hi2 : i = items.length := by omega
    rw [hi2, List.drop_length] at go
    unfold lcGo at go
    cases go
    refine p (.ref A) H' (x1.trans ⟨stB, exB⟩) ?_ ⟨A, vs, rfl, hA', rA, nAl, nB, fun j y e o z => ?_⟩
    · refine ⟨by rw [backT_length]; have := RB.len; rw [wipeT_length, wipe_length] at this; exact this, fun j y e => ?_, fun j k y z a hjk ej ek oy oz e1 => ?_, RB.cell, RB.alen, RB.nd, RB.base, RB.anew, RB.apre⟩
      · rcases backT_get e with ⟨e1, e2⟩ | ⟨e1, e2, d, rfl⟩
        · have e3 : (wipeT sF.t tg.ids)[j]? = some (some y) := by
            rw [← e2]
            have : ∀ (ids : List Nat), j ∉ ids → (wipeT sF.t ids)[j]? = sF.t[j]? := by
              intro ids
              induction ids with
              | nil => intro _; rfl
              | cons i ids ih =>
                intro h
                simp only [List.mem_cons, not_or] at h
                unfold wipeT
                rw [List.getElem?_set_ne (fun z => h.1 z.symm)]
                exact ih h.2
            exact this _ e1
          obtain ⟨v, h1, h2⟩ := RB.sl j y e3
          rw [wipe_off e1] at h1
          exact ⟨v, h1, h2⟩
        · obtain ⟨v, h1, h2⟩ := R1.sl j _ e2
          exact ⟨v, h1, h2.stay stB fun _ _ z => z⟩
      · rcases backT_get ej with ⟨e2, e3⟩ | ⟨_, _, d, rfl⟩
        · rcases backT_get ek with ⟨e4, e5⟩ | ⟨_, _, d, rfl⟩
          · have w : ∀ (ids : List Nat) (j : Nat), j ∉ ids → (wipeT sF.t ids)[j]? = sF.t[j]? := by
              intro ids j
              induction ids with
              | nil => intro _; rfl
              | cons i ids ih =>
                intro h
                simp only [List.mem_cons, not_or] at h
                unfold wipeT
                rw [List.getElem?_set_ne (fun z => h.1 z.symm)]
                exact ih h.2
            have := RB.inj j k y z a hjk (by rw [w _ _ e2]; exact e3) (by rw [w _ _ e4]; exact e5) oy oz (by rw [wipe_off e2]; exact e1)
            rw [wipe_off e4] at this
            exact this
          · cases oz
        · cases oy
    · rcases backT_get e with ⟨e2, e3⟩ | ⟨_, _, d, rfl⟩
      · have w : ∀ (ids : List Nat), j ∉ ids → (wipeT sF.t ids)[j]? = sF.t[j]? := by
          intro ids
          induction ids with
          | nil => intro _; rfl
          | cons i ids ih =>
            intro h
            simp only [List.mem_cons, not_or] at h
            unfold wipeT
            rw [List.getElem?_set_ne (fun z => h.1 z.symm)]
            exact ih h.2
        exact awB j y (by rw [w _ e2]; exact e3) o (by rw [wipe_off e2]; exact z)
      · cases o
end PI

namespace PI
open PySem PySem.Spec PyProof.Rows L2

/-- where code stands: its names, its scope; whether nothing is being handled; the slot of an error that is held and its class; whether a def's own body -/
structure Ctx where
  N : List Str
  sc : Scope
  calm : Bool
  ex : Option (Nat × Str)
  top : Bool
/-- the text's defs (name, number of parameters), its ints, its errors' classes -/
structure Tab where
  fns : List (Str × Nat)
  glb : List (Str × Int)
  exc : List (Str × Nat)
  hnd : List (Str × List Nat × List Nat)
  fld : Nat → Str
def Ctx.blk (c : Ctx) (scope : Scope) : Ctx := { N := c.N, sc := relS scope c.sc, calm := true, ex := none, top := false }
def bltNames : List Str := ["len", "abs", "int", "max", "min", "sum", "all", "any", "tuple", "list", "sorted", "isinstance", "bool", "str", "range", "enumerate", "zip", "reversed"]

/-- an error's field may be read -/
structure FldOk (K : PySem.W.Frag) (C : Addr) (f : Str) : Prop where
  ga : PySem.W.findIn K (.ref C) "__getattribute__" = some (some (.builtin "BaseException.__getattribute__"))
  gg : PySem.W.findIn K (.ref C) "__getattr__" = some none
  noN : PySem.W.findIn K (.ref C) f = some none
  exC : PySem.W.subIn K (.ref C) (.type "BaseException") = some true
  hdC : PySem.W.hasDictIn K C = true
def SmallV : V → Prop
  | .str x => x.length ≤ 1000
  | _ => False
/-- x(e) makes an error of the class at C, its field f the argument -/
def MkOk (P : Program) (K : PySem.W.Frag) (mg : Str → Option Value) (C : Addr) (f : Str) (x : Str) : Prop :=
  ∀ (X : Cx) (lv : Nat) (a : Expr) (ta : TA) (p pos : Pos), X.prog = P → X.K = K → X.mg = mg → Room lv X.A → Gl X x → notStar a = true → PA X [a] ta →
    PMk X (.Call (.Name x p) [a] [] pos) (fun σ H Q => ta σ H fun vs H1 => ∃ v, vs = [v] ∧ SmallV v ∧ ∀ d, H1 d = none → Q (.ref C) (some d) (upd H1 d (.xd [(f, v)])))
structure XOk (X : Cx) (g : G) (T : Tab) (Φ : Fns) (lv : Nat) (c : Ctx) (W : WX) : Prop where
  K : X.K = g.K
  N : X.N = c.N
  sc : X.env.scope = c.sc
  nd : X.N.Nodup
  tk : Takes X W
  own : PassesOwn (model X.prog X.w) X.A X.env X.xe
  units : X.A.units + 65 < cLine
  calm : c.calm = true → X.calm = true ∧ Room lv X.A
  top : c.top = true → ∀ x, X.fn x = true
  stk : c.top = true → X.stack = X.env :: X.outer ∧ X.env.frame = some X.env.locals
  blt : ∀ x ∈ bltNames, X.mg x = none
  glb : ∀ x n, T.glb.lookup x = some n → ∃ t, X.mg x = some (.int n t)
  fn : ∀ f n, T.fns.lookup f = some n → ∃ a fd ps, ps.length = n ∧ X.mg f = some (.ref a) ∧ PySem.W.keepIn X.K (.ref a) = true ∧ FnOk X.prog X.w X.K X.mg X.base (L2.CX X.prog X.w) lv a fd ps (spF g Φ f n) ∧ Binds X.K fd ps []
  ex : ∀ i f, c.ex = some (i, f) → ∃ (X' : Cx) (a : Addr) (oe : Obj) (pn : List (Addr × Obj)) (k : Nat) (d : Addr), X = X'.suite a ((a, oe) :: pn) ∧ Zc (.ref (g.C k)) (some d) oe ∧ (∃ vs, oe.data = .fields vs) ∧ g.ea = some (a, .ref (g.C k), some d) ∧ g.F k = f ∧ FldOk X.K (g.C k) f
  made : ∀ x k, T.exc.lookup x = some k → MkOk X.prog X.K X.mg (g.C k) (g.F k) x
  hnd : ∀ x cs no, T.hnd.lookup x = some (cs, no) → ∃ v, X.mg x = some v ∧ (∀ k ∈ cs, PySem.W.exmOne X.K (.ref (g.C k)) v = some true ∧ g.F k = T.fld k ∧ FldOk X.K (g.C k) (g.F k)) ∧ ∀ k ∈ no, PySem.W.exmOne X.K (.ref (g.C k)) v = some false
  inj : ∀ k k', g.C k = g.C k' → k = k'
theorem XOk.blk {X : Cx} {g : G} {T : Tab} {Φ : Fns} {lv : Nat} {c : Ctx} {W : WX} (h : XOk X g T Φ lv c W) (hc : c.calm = true) (s : Shared) (H : Hp) (scope : Scope) (C : Addr) (cl : List (Str × Addr)) (fp : List Addr) :
    XOk (X.blk s H scope (compEnvC scope cl C X.env) fp) g T Φ lv (c.blk scope) W0 where
  K := h.K
  N := h.N
  sc := by show relS scope X.env.scope = _; rw [h.sc]; rfl
  nd := h.nd
  tk := takes0
  own := PassesOwn.never
  units := h.units
  calm := fun _ => h.calm hc
  top := fun z => by cases z
  stk := fun z => by cases z
  blt := h.blt
  glb := h.glb
  fn := h.fn
  ex := fun i k z => by cases z
  made := h.made
  hnd := h.hnd
  inj := h.inj

/-! ### the looks -/
def visB (sc : Scope) (x : Str) : Bool := match sc.names.lookup x with
  | some .local => true
  | some .cell => true
  | some .free => true
  | _ => false
def nmB (c : Ctx) (i : Nat) (x : Str) : Bool := decide (c.N[i]? = some x) && visB c.sc x && !(x == "__debug__") && !(x == "__classdict__")
def glB (c : Ctx) (x : Str) : Bool := decide (c.sc.names.lookup x = some .globalImplicit) && !(x == "__debug__")
def locB (sc : Scope) (x : Str) : Bool := match sc.names.lookup x with
  | some .local => true
  | some .cell => true
  | _ => false
/-- a target's name -/
def stB (c : Ctx) (i : Nat) (x : Str) : Bool := c.top && decide (c.N[i]? = some x) && locB c.sc x
def stsB (c : Ctx) : List Nat → List Expr → Bool
  | [], [] => true
  | i :: is, .Name x _ :: es => stB c i x && stsB c is es
  | _, _ => false
def tgB (c : Ctx) : MT → Expr → Bool
  | .name i, .Name x _ => stB c i x
  | .tup is, .Tuple es _ _ => c.calm && stsB c is es
  | _, _ => false
/-- .. in a comprehension's block -/
def stK (N : List Str) (sc scope : Scope) (i : Nat) (x : Str) : Bool := decide (N[i]? = some x) && locB scope x && locB (relS scope sc) x && (decide (scope.names.lookup x = some .cell) || decide ((relS scope sc).names.lookup x = some .local))
def stsK (N : List Str) (sc scope : Scope) : List Nat → List Expr → Bool
  | [], [] => true
  | i :: is, .Name x _ :: es => stK N sc scope i x && stsK N sc scope is es
  | _, _ => false
def tgK (N : List Str) (sc scope : Scope) : MT → Expr → Bool
  | .name i, .Name x _ => stK N sc scope i x
  | .tup is, .Tuple es _ _ => stsK N sc scope is es
  | _, _ => false
def ownOf : MT → Expr → List (Str × Nat)
  | .name i, .Name x _ => [(x, i)]
  | .tup is, .Tuple es _ _ => (es.zip is).filterMap fun p => match p.1 with | .Name x _ => some (x, p.2) | _ => none
  | _, _ => []
def cstB : D → Expr → Bool
  | .int i, .Constant (.int j) _ _ => i == j
  | .str x, .Constant (.str y) _ _ => decide (x = y)
  | .bl a, .Constant (.bool b) _ _ => a == b
  | .non, .Constant .none _ _ => true
  | _, _ => false
def notSlice : Expr → Bool
  | .Slice _ _ _ _ => false
  | _ => true
def notSet : Expr → Bool
  | .Set _ _ _ => false
  | _ => true
def notCall0 : Expr → Bool
  | .Call (.Name _ _) [] [] _ => false
  | _ => true
mutual
def chE (T : Tab) (c : Ctx) : ME → Expr → Bool
  | .var i, e => match e with | .Name x _ => nmB c i x | _ => false
  | .cst d, e => cstB d e
  | .glb x n, e => match e with | .Name y _ => decide (x = y) && glB c x && decide (T.glb.lookup x = some n) | _ => false
  | .tup es, e => match e with | .Tuple fs _ _ => chEs T c es fs && decide (fs.length ≤ 1000) | _ => false
  | .lst es, e => match e with | .List fs _ => chEs T c es fs && decide (fs.length ≤ 1000) | _ => false
  | .bin o a b, e => match e with | .BinOp x op y _ => decide (op = opOf o) && chE T c a x && chE T c b y | _ => false
  | .neg a, e => match e with | .UnaryOp .USub x _ => chE T c a x | _ => false
  | .not a, e => match e with | .UnaryOp .Not x _ => chE T c a x | _ => false
  | .bop k es, e => match e with | .BoolOp op fs _ => decide (op = if k then .And else .Or) && chB T c es fs | _ => false
  | .cmp a cs, e => match e with | .Compare x (op :: ops) (y :: ys) _ => chE T c a x && chC T c cs (op :: ops) (y :: ys) && !lastMarks (op :: ops) (y :: ys) && decide (ops.length = ys.length) | _ => false
  | .call f es, e => match e with | .Call (.Name x _) (y :: ys) [] _ => c.calm && decide (x = f) && glB c f && chEs T c es (y :: ys) && decide (T.fns.lookup f = some (y :: ys).length) | _ => false
  | .blt f es, e => match e with
    | .Call (.Name x _) (y :: ys) [] _ => c.calm && decide (x = blName f) && decide (f ≠ .bits) && glB c x && chEs T c es (y :: ys)
    | .Call (.Attribute o m apos) [] [] pos => (match es with | .cons e1 .nil => decide (f = .bits) && decide (m = "bit_length") && chE T c e1 o && notCall0 o && (apos.endLine == pos.line) | _ => false)
    | _ => false
  | .isi a t, e => match e with | .Call (.Name n _) [x, .Name m _] [] _ => decide (n = "isinstance") && decide (m = Str.ofString (tyName t)) && glB c n && glB c m && notStar x && chE T c a x | _ => false
  | .idx a b, e => match e with | .Subscript x y _ => chE T c a x && chE T c b y && notSlice y | _ => false
  | .slc a lo hi, e => match e with | .Subscript x (.Slice l h none _) _ => chE T c a x && chO T c lo l && chO T c hi h | _ => false
  | .rev _, _ => false
  | .lc elt tg it cond, e => match e with
    | .ListComp y [⟨t, i, ifs, k⟩] scope _ => c.calm && decide (k = 0) && tgK c.N c.sc scope tg t && blkC c.N c.sc scope (ownOf tg t) && decide ((ownOf tg t).map (·.2) = tg.ids) && chI T c it t i && notSet i && chCond T (c.blk scope) cond ifs && chE T (c.blk scope) elt y
    | _ => false
  | .fld i, e => match e with | .Attribute (.Name x _) f _ => nmB c i x && (match c.ex with | some (j, f') => decide (i = j) && decide (f = f') | none => false) | _ => false
  | .isx _ _, _ => false
def chEs (T : Tab) (c : Ctx) : MEs → List Expr → Bool
  | .nil, es => match es with | [] => true | _ => false
  | .cons m ms, es => match es with | e :: es => notStar e && chE T c m e && chEs T c ms es | _ => false
def chB (T : Tab) (c : Ctx) : MEs → List Expr → Bool
  | .nil, es => false
  | .cons m ms, es => match ms, es with
    | .nil, [e] => chE T c m e
    | .cons m2 ms2, e :: e2 :: es => chE T c m e && chB T c ms (e2 :: es)
    | _, _ => false
def chC (T : Tab) (c : Ctx) : MCs → List CmpOp → List Expr → Bool
  | .nil, _, _ => false
  | .cons o m r, ops, es => match r, ops, es with
    | .nil, [op], [e] => decide (op = copOf o) && chE T c m e
    | .cons _ _ _, op :: op2 :: ops, e :: e2 :: es => decide (op = copOf o) && chE T c m e && chC T c r (op2 :: ops) (e2 :: es)
    | _, _, _ => false
def chO (T : Tab) (c : Ctx) : MO → Option Expr → Bool
  | .none, o => match o with | none => true | _ => false
  | .some m, o => match o with | some e => chE T c m e | _ => false
def chCond (T : Tab) (c : Ctx) : MO → List Expr → Bool
  | .none, o => match o with | [] => true | _ => false
  | .some m, o => match o with | [e] => chE T c m e | _ => false
def chI (T : Tab) (c : Ctx) : MI → Expr → Expr → Bool
  | .seq m, _, e => chE T c m e
  | .rng1 m, _, e => match e with | .Call (.Name n _) [x] [] _ => decide (n = "range") && glB c n && notStar x && chE T c m x | _ => false
  | .rng2 m1 m2, _, e => match e with | .Call (.Name n _) [x, y] [] _ => decide (n = "range") && glB c n && notStar x && notStar y && chE T c m1 x && chE T c m2 y | _ => false
  | .rng3 m1 m2 m3, _, e => match e with | .Call (.Name n _) [x, y, z] [] _ => decide (n = "range") && glB c n && notStar x && notStar y && notStar z && chE T c m1 x && chE T c m2 y && chE T c m3 z | _ => false
  | .enum m, t, e => match t, e with | .Tuple _ _ _, .Call (.Name n _) [x] [] _ => decide (n = "enumerate") && glB c n && notStar x && chE T c m x | _, _ => false
  | .zip m1 m2, t, e => match t, e with | .Tuple _ _ _, .Call (.Name n _) [x, y] [] _ => decide (n = "zip") && glB c n && notStar x && notStar y && chE T c m1 x && chE T c m2 y | _, _ => false
  | .revd m, _, e => match e with | .Call (.Name n _) [x] [] _ => decide (n = "reversed") && glB c n && notStar x && chE T c m x | _ => false
end

section
variable {X : Cx} {g : G} {T : Tab} {Φ : Fns} {lv : Nat} {c : Ctx} {W : WX}
theorem XOk.nm (h : XOk X g T Φ lv c W) {i : Nat} {x : Str} (k : nmB c i x = true) : X.N[i]? = some x ∧ Vis X.env.scope x ∧ (x == ("__debug__" : Str)) = false ∧ (x == ("__classdict__" : Str)) = false := by
  unfold nmB at k
  simp only [Bool.and_eq_true, decide_eq_true_eq, Bool.not_eq_true'] at k
  obtain ⟨⟨⟨k1, k2⟩, k3⟩, k4⟩ := k
  refine ⟨by rw [h.N]; exact k1, ?_, k3, k4⟩
  unfold visB at k2
  rw [h.sc]
  split at k2
  · exact .inl (by assumption)
  · exact .inr (.inl (by assumption))
  · exact .inr (.inr (by assumption))
  · cases k2
theorem XOk.gl (h : XOk X g T Φ lv c W) {x : Str} (k : glB c x = true) : Gl X x ∧ (x == ("__debug__" : Str)) = false := by
  unfold glB at k
  simp only [Bool.and_eq_true, decide_eq_true_eq, Bool.not_eq_true'] at k
  refine ⟨?_, k.2⟩
  show X.env.scope.names.lookup x = _
  rw [h.sc]
  exact k.1
theorem locB_ok {sc : Scope} {x : Str} (h : locB sc x = true) : Loc sc x := by
  unfold locB at h
  split at h
  · exact .inl (by assumption)
  · exact .inr (by assumption)
  · cases h
theorem XOk.st (h : XOk X g T Φ lv c W) {i : Nat} {x : Str} (k : stB c i x = true) : NmOk X i x := by
  unfold stB at k
  simp only [Bool.and_eq_true, decide_eq_true_eq] at k
  obtain ⟨⟨k1, k2⟩, k3⟩ := k
  exact ⟨by rw [h.N]; exact k2, by rw [h.sc]; exact locB_ok k3, .inl (h.top k1 x)⟩
theorem XOk.sts (h : XOk X g T Φ lv c W) : ∀ {is : List Nat} {es : List Expr}, stsB c is es = true → NmsOk X is es
  | [], [], _ => .nil
  | [], _ :: _, k => by simp [stsB] at k
  | i :: is, [], k => by simp [stsB] at k
  | i :: is, e :: es, k => by
    cases e <;> simp only [stsB] at k <;> try (cases k; done)
    rw [Bool.and_eq_true] at k
    exact .cons (h.st k.1) (h.sts k.2)
theorem XOk.tg (h : XOk X g T Φ lv c W) {tg : MT} {e : Expr} (k : tgB c tg e = true) : TgE X tg e := by
  cases tg with
  | name i =>
    cases e <;> simp only [tgB] at k <;> try (cases k; done)
    exact .name (h.st k)
  | tup is =>
    cases e <;> simp only [tgB] at k <;> try (cases k; done)
    rw [Bool.and_eq_true] at k
    exact .tup (h.calm k.1).1 (h.sts k.2)
theorem XOk.stK (h : XOk X g T Φ lv c W) {i : Nat} {x : Str} {scope : Scope} (k : stK c.N c.sc scope i x = true) (s : Shared) (H : Hp) (C : Addr) (cl : List (Str × Addr)) (fp : List Addr) : NmOk (X.blk s H scope (compEnvC scope cl C X.env) fp) i x := by
  unfold PI.stK at k
  simp only [Bool.and_eq_true, Bool.or_eq_true, decide_eq_true_eq] at k
  obtain ⟨⟨⟨k1, k2⟩, k3⟩, k4⟩ := k
  refine ⟨by show X.N[i]? = _; rw [h.N]; exact k1, ?_, ?_⟩
  · show Loc (relS scope X.env.scope) x
    rw [h.sc]
    exact locB_ok k3
  · rcases k4 with k4 | k4
    · left
      show (scope.names.lookup x == some .cell) = true
      rw [k4]; rfl
    · right
      show (relS scope X.env.scope).names.lookup x = _
      rw [h.sc]
      exact k4
theorem XOk.stsK (h : XOk X g T Φ lv c W) {scope : Scope} (s : Shared) (H : Hp) (C : Addr) (cl : List (Str × Addr)) (fp : List Addr) : ∀ {is : List Nat} {es : List Expr}, stsK c.N c.sc scope is es = true → NmsOk (X.blk s H scope (compEnvC scope cl C X.env) fp) is es
  | [], [], _ => .nil
  | [], _ :: _, k => by simp [PI.stsK] at k
  | i :: is, [], k => by simp [PI.stsK] at k
  | i :: is, e :: es, k => by
    cases e <;> simp only [PI.stsK] at k <;> try (cases k; done)
    rw [Bool.and_eq_true] at k
    exact .cons (h.stK k.1 s H C cl fp) (h.stsK s H C cl fp k.2)
theorem XOk.tgK (h : XOk X g T Φ lv c W) (hc : c.calm = true) {tg : MT} {e : Expr} {scope : Scope} (k : tgK c.N c.sc scope tg e = true) (s : Shared) (H : Hp) (C : Addr) (cl : List (Str × Addr)) (fp : List Addr) : TgE (X.blk s H scope (compEnvC scope cl C X.env) fp) tg e := by
  cases tg with
  | name i =>
    cases e <;> simp only [PI.tgK] at k <;> try (cases k; done)
    exact .name (h.stK k s H C cl fp)
  | tup is =>
    cases e <;> simp only [PI.tgK] at k <;> try (cases k; done)
    exact .tup (h.calm hc).1 (h.stsK s H C cl fp k)
theorem attrBase {e : Expr} (h : notCall0 e = true) (f : Str) (env : Env) (whole : Sem Value) : attributeBase e f env whole = whole := by
  unfold attributeBase
  cases e with
  | Call fn args kw p =>
    cases fn with
    | Name n q => cases args <;> cases kw <;> first | rfl | (cases h)
    | _ => first | rfl | (cases args <;> cases kw <;> rfl)
  | _ => rfl
theorem foldedSet {e : Expr} (h : notSet e = true) (env : Env) (x : Value) : foldedSetIterable e env x = pure x := by
  unfold foldedSetIterable
  cases e <;> first | rfl | (cases h)
theorem evs_len (Φ : Fns) (pk : Bool) : ∀ (T : Tab) (c : Ctx) (ms : MEs) (es : List Expr), chEs T c ms es = true → ∀ s ds s', evs Φ pk ms s = .ok ds s' → ds.length = es.length
  | T, c, .nil, es, h, s, ds, s', e => by
    cases es with
    | nil => simp only [evs] at e; cases e; rfl
    | cons _ _ => simp [chEs] at h
  | T, c, .cons m ms, es, h, s, ds, s', e => by
    cases es with
    | nil => simp [chEs] at h
    | cons x xs =>
      simp only [chEs, Bool.and_eq_true] at h
      simp only [evs] at e
      cases q : (if pk = true then toP (ev Φ m s) else toV (ev Φ m s)) with
      | exc _ _ _ => rw [q] at e; cases e
      | bad => rw [q] at e; cases e
      | ok d s1 =>
        rw [q] at e
        simp only [Res.bind] at e
        cases q2 : evs Φ pk ms s1 with
        | exc _ _ _ => rw [q2] at e; cases e
        | bad => rw [q2] at e; cases e
        | ok ds2 s2 =>
          rw [q2] at e
          cases e
          simp [evs_len Φ pk T c ms xs h.2 s1 _ _ q2]
theorem stars_of (T : Tab) (c : Ctx) : ∀ (ms : MEs) (es : List Expr), chEs T c ms es = true → es.all notStar = true
  | .nil, es, h => by cases es <;> simp [chEs] at h ⊢
  | .cons m ms, es, h => by
    cases es with
    | nil => simp [chEs] at h
    | cons e es =>
      simp only [chEs, Bool.and_eq_true] at h
      simp only [List.all_cons, Bool.and_eq_true]
      exact ⟨h.1.1, stars_of T c ms es h.2⟩
end
end PI

namespace PI
open PySem PySem.Spec PyProof.Rows L2
theorem relO_one {f : Str} {v : V} {v' : Value} (r : RelV v v') (y : Str) : RelO (List.lookup y [(f, v)]) (if y = f then some v' else none) := by
  by_cases hw : y = f
  · subst hw
    rw [if_pos rfl]
    have q : List.lookup y [(y, v)] = some v := by simp [List.lookup]
    rw [q]
    exact r
  · rw [if_neg hw]
    have qw : (y == f) = false := by simpa using hw
    have q2 : List.lookup y [(f, v)] = none := by simp [List.lookup, qw]
    rw [q2]
    trivial
theorem pe_fld' {X : Cx} {g : G} {W : WX} {a : Addr} {oe : Obj} {pn : List (Addr × Obj)} {i : Nat} {x f : Str} {k : Nat} {d : Addr} {p q : Pos} (h1 : X.N[i]? = some x) (h2 : Vis X.env.scope x) (h3 : (x == ("__debug__" : Str)) = false) (h4 : (x == ("__classdict__" : Str)) = false)
    (hz : Zc (.ref (g.C k)) (some d) oe) (hf : ∃ vs, oe.data = .fields vs) (ea : g.ea = some (a, .ref (g.C k), some d)) (eF : g.F k = f) (inj : ∀ k k', g.C k = g.C k' → k = k') (T : FldOk X.K (g.C k) f) :
    PE (X.suite a ((a, oe) :: pn)) (.Attribute (.Name x q) f p) (rdE g W fun s => match s.t[i]? with
      | some (some (.exc _ d)) => .ok (.val d) s
      | _ => .bad) := by
  refine ⟨fun pins s σ H Q I h => ?_⟩
  obtain ⟨b, al, st, R, P⟩ := h
  have P : PostX g b al W σ H (okR g b al σ H (fun r s' v H' => RVRep g b al s' σ H' r v) Q) (match st.t[i]? with
      | some (some (.exc _ d)) => .ok (.val d) st
      | _ => .bad : Res RV) := P
  cases e : st.t[i]? with
  | none => rw [e] at P; exact P.elim
  | some o =>
  cases o with
  | none => rw [e] at P; exact P.elim
  | some sl =>
  cases sl with
  | val _ => rw [e] at P; exact P.elim
  | own _ => rw [e] at P; exact P.elim
  | dct _ => rw [e] at P; exact P.elim
  | exc c dd =>
  rw [e] at P
  obtain ⟨v, e1, a', d', w, e2, e3, e4, e5⟩ := R.sl i _ e
  rw [ea] at e2
  simp only [Option.some.injEq, Prod.mk.injEq, Value.ref.injEq] at e2
  obtain ⟨rfl, ec, rfl⟩ := e2
  have hk := inj _ _ ec
  subst hk
  subst e3
  rw [eF] at e4
  refine attr_of (attrBase rfl f X.env _) (thn ((pe_var (X := X.suite a ((a, oe) :: pn)) h1 h2 h3 h4).run pins s σ H (fun u H1 => u = .ref a ∧ H1 = H) I ⟨_, e1, rfl, rfl⟩) fun u s1 hh => ?_)
  obtain ⟨xv, H1, I1, rx, ex, eH⟩ := hh
  subst ex; subst eH
  obtain rfl : u = Value.ref a := rx
  obtain ⟨ha, _⟩ := I1.pin (a, oe) (List.mem_append_left _ List.mem_cons_self)
  obtain ⟨vs, hd⟩ := hf
  have hx : ObjOk X.prog X.w H1 s1.heap d (.xd [(f, w)]) := I1.hok d _ e4
  obtain ⟨mA, hns, hr⟩ := hx
  obtain ⟨od, ho, hl⟩ := lookIn_ns hns
  have l : List.lookup f [(f, w)] = some w := by simp [List.lookup]
  obtain ⟨u, hu, ru⟩ := RelO.some_of (v := w) (o := mA f) (by rw [← l]; exact hr f)
  have J : PySem.W.InstAt s1.heap a oe (g.C k) (some od) := ⟨ha, hz.1, by unfold PySem.W.notCls; rw [hd] <;> rfl, by rw [hz.2]; exact ho⟩
  exact HandSPX.exc_get I1.kIn J T.ga T.gg T.exC (PySem.W.findObj_own T.hdC T.noN rfl (by rw [hl, hu])) (handed_of ru) ⟨w, H1, I1.tok _, ru, P w H1 Ext.refl R e5⟩
end PI

namespace PI
open PySem PySem.Spec PyProof.Rows L2
section
variable {g : G} {T : Tab} {Φ : Fns} {lv : Nat}
theorem both {X : Cx} {e : Expr} {W : WX} (hK : X.K = g.K) {f : S → Res RV} (h : PE X e (rdE g W f)) (hp : plainT e = true) : PE X e (rdE g W f) ∧ PT X e (rdT g W fun s => toT (toP (f s))) := ⟨h, pt_P hK (pe_P h) hp⟩
theorem Stay.id {K : PySem.W.Frag} {al : List Addr} {H H' : Hp} {d : D} {v : V} (x : Stay H H') (h : Rep K al H d v) : Rep K al H' d v := h.stay x fun _ _ z => z
mutual
theorem sE : ∀ (m : ME) (X : Cx) (c : Ctx) (W : WX) (e : Expr), XOk X g T Φ lv c W → chE T c m e = true → PE X e (rdE g W (ev Φ m)) ∧ PT X e (rdT g W fun s => toT (toP (ev Φ m s)))
  | .var i, X, c, W, e, O, h => by
    cases e <;> simp only [chE] at h <;> try (cases h; done)
    obtain ⟨h1, h2, h3, h4⟩ := O.nm h
    have : ev Φ (.var i) = fun s => slGet s i := by funext s; first | (simp only [ev]; done) | (simp only [ev]; rfl)
    rw [this]
    exact both O.K (pe_var' h1 h2 h3 h4) rfl
  | .cst d, X, c, W, e, O, h => by
    simp only [chE] at h
    have : ev Φ (.cst d) = fun s => .ok (.val d) s := by funext s; first | (simp only [ev]; done) | (simp only [ev]; rfl)
    rw [this]
    cases d <;> cases e <;> simp only [cstB] at h <;> try (cases h; done)
    all_goals (rename_i k _ _; cases k <;> (try simp only at h) <;> try (cases h; done))
    · exact both O.K (pe_cst pe_non fun al H => by unfold Rep; rfl) rfl
    · simp only [beq_iff_eq] at h
      subst h
      exact both O.K (pe_cst pe_bl fun al H => by unfold Rep; rfl) rfl
    · simp only [beq_iff_eq] at h
      subst h
      exact both O.K (pe_cst pe_int fun al H => by unfold Rep; rfl) rfl
    · simp only [decide_eq_true_eq] at h
      subst h
      exact both O.K (pe_cst pe_str fun al H => by unfold Rep; rfl) rfl
  | .glb x n, X, c, W, e, O, h => by
    cases e <;> simp only [chE] at h <;> try (cases h; done)
    simp only [Bool.and_eq_true, decide_eq_true_eq] at h
    obtain ⟨⟨rfl, h2⟩, h3⟩ := h
    obtain ⟨h4, h5⟩ := O.gl h2
    obtain ⟨t, h6⟩ := O.glb _ _ h3
    have : ev Φ (.glb x n) = fun s => .ok (.val (.int n)) s := by funext s; first | (simp only [ev]; done) | (simp only [ev]; rfl)
    rw [this]
    exact both O.K (pe_cst (pe_glob h4 h6 (v := .int n) ⟨t, rfl⟩ h5) fun al H => by unfold Rep; rfl) rfl
  | .tup es, X, c, W, e, O, h => by
    cases e <;> simp only [chE] at h <;> try (cases h; done)
    simp only [Bool.and_eq_true, decide_eq_true_eq] at h
    have : ev Φ (.tup es) = fun s => (evs Φ false es s).bind fun ds s => .ok (.val (.tup ds)) s := by funext s; first | (simp only [ev]; done) | (simp only [ev]; rfl)
    rw [this]
    exact both O.K (pe_tup' (sEs es false X c W _ O h.1) h.2 (evs_len Φ false T c es _ h.1)) rfl
  | .lst es, X, c, W, e, O, h => by
    cases e <;> simp only [chE] at h <;> try (cases h; done)
    simp only [Bool.and_eq_true, decide_eq_true_eq] at h
    have : ev Φ (.lst es) = fun s => (evs Φ false es s).bind fun ds s => .ok (.own ds) s := by funext s; first | (simp only [ev]; done) | (simp only [ev]; rfl)
    rw [this]
    exact both O.K (pe_lst' (sEs es false X c W _ O h.1) h.2 (evs_len Φ false T c es _ h.1)) rfl
  | .bin o a b, X, c, W, e, O, h => by
    cases e <;> simp only [chE] at h <;> try (cases h; done)
    simp only [Bool.and_eq_true, decide_eq_true_eq] at h
    obtain ⟨⟨rfl, h2⟩, h3⟩ := h
    have : ev Φ (.bin o a b) = fun s => (toP (ev Φ a s)).bind fun x s => (toP (ev Φ b s)).bind fun y s => ofO (binD o x y) s := by funext s; first | (simp only [ev]; done) | (simp only [ev]; rfl)
    rw [this]
    exact both O.K (pe_bin O.K (pe_P (sE a X c W _ O h2).1) (pe_P (sE b X c W _ O h3).1)) rfl
  | .neg a, X, c, W, e, O, h => by
    cases e <;> simp only [chE] at h <;> try (cases h; done)
    rename_i op x p
    cases op <;> (try simp only at h) <;> try (cases h; done)
    have : ev Φ (.neg a) = fun s => (toI (toP (ev Φ a s))).bind fun i s => .ok (.val (.int (-i))) s := by funext s; first | (simp only [ev]; done) | (simp only [ev]; rfl)
    rw [this]
    exact both O.K (pe_neg (pe_P (sE a X c W _ O h).1)) rfl
  | .not a, X, c, W, e, O, h => by
    cases e <;> simp only [chE] at h <;> try (cases h; done)
    rename_i op x p
    cases op <;> (try simp only at h) <;> try (cases h; done)
    have : ev Φ (.not a) = fun s => (toB (toP (ev Φ a s))).bind fun i s => .ok (.val (.bl (!i))) s := by funext s; first | (simp only [ev]; done) | (simp only [ev]; rfl)
    rw [this]
    obtain ⟨h1, h2⟩ := sE a X c W _ O h
    exact ⟨pe_not' (pe_P h1), pt_not' (rdT_toB h2)⟩
  | .bop k es, X, c, W, e, O, h => by
    cases e <;> simp only [chE] at h <;> try (cases h; done)
    simp only [Bool.and_eq_true, decide_eq_true_eq] at h
    obtain ⟨rfl, h2⟩ := h
    have : ev Φ (.bop k es) = fun s => (evB Φ k es s).bind fun c s => .ok (.val (.bl c)) s := by funext s; first | (simp only [ev]; done) | (simp only [ev]; rfl)
    rw [this]
    obtain ⟨h3, h4⟩ := sB es k X c W _ O h2
    exact ⟨pe_B (h3 _), pt_bop (h4 _)⟩
  | .cmp a cs, X, c, W, e, O, h => by
    cases e <;> simp only [chE] at h <;> try (cases h; done)
    rename_i x ops ys p
    cases ops <;> (try simp only at h) <;> try (cases h; done)
    cases ys <;> (try simp only at h) <;> try (cases h; done)
    simp only [Bool.and_eq_true, decide_eq_true_eq, Bool.not_eq_true'] at h
    obtain ⟨⟨⟨h1, h2⟩, h3⟩, h4⟩ := h
    have : ev Φ (.cmp a cs) = fun s => (toP (ev Φ a s)).bind fun x s => (evC Φ x cs s).bind fun b s => .ok (.val (.bl b)) s := by funext s; first | (simp only [ev]; done) | (simp only [ev]; rfl)
    rw [this]
    exact pe_cmp' (k := fun x s => evC Φ x cs s) (sC cs X c W _ _ O h2) (pe_P (sE a X c W _ O h1).1) h3 h4
  | .call f es, X, c, W, e, O, h => by
    cases e <;> simp only [chE] at h <;> try (cases h; done)
    rename_i fn args kw p
    cases fn <;> (try simp only at h) <;> try (cases h; done)
    cases args <;> (try simp only at h) <;> try (cases h; done)
    cases kw <;> (try simp only at h) <;> try (cases h; done)
    simp only [Bool.and_eq_true, decide_eq_true_eq] at h
    obtain ⟨⟨⟨⟨h1, rfl⟩, h3⟩, h4⟩, h5⟩ := h
    obtain ⟨h6, h7⟩ := O.gl h3
    obtain ⟨a, fd, ps, k1, k2, k3, k4, k5⟩ := O.fn _ _ h5
    rw [← k1] at k4
    have : ∀ x, ev Φ (.call x es) = fun s => (evs Φ false es s).bind fun ds s => match Φ x ds s.h with
      | .ok (.val d) h => .ok (.val d) { s with h := h }
      | .ok (.own l) h => .ok (.own l) { s with h := h }
      | .ok (.dct l) h => .ok (.dct l) { s with h := h }
      | .exc c d h => .exc c d { s with h := h }
      | _ => .bad := by intro x; funext s; first | (simp only [ev]; done) | (simp only [ev]; rfl)
    rw [this]
    exact both O.K (pe_call' k4 (O.calm h1).2 h6 k2 k3 k5 O.tk (sEs es false X c W _ O h4) (stars_of T c es _ h4) k1.symm (evs_len Φ false T c es _ h4) h7) rfl
  | .blt f es, X, c, W, e, O, h => by
    unfold chE at h
    split at h
    · simp only [Bool.and_eq_true, decide_eq_true_eq] at h
      obtain ⟨⟨⟨⟨h1, rfl⟩, h3⟩, h4⟩, h5⟩ := h
      obtain ⟨h6, h7⟩ := O.gl h4
      have : ev Φ (.blt f es) = fun s => (evs Φ true es s).bind fun ds s => ofO (bltD f ds) s := by funext s; first | (simp only [ev]; done) | (simp only [ev]; rfl)
      rw [this]
      exact both O.K (pe_blt h3 O.K (O.calm h1).1 h6 (O.blt _ (by cases f <;> first | exact absurd rfl h3 | decide)) (sEs es true X c W _ O h5) (stars_of T c es _ h5)) rfl
    · cases es with
      | nil => cases h
      | cons e1 es =>
        cases es with
        | cons _ _ => cases h
        | nil =>
          simp only [Bool.and_eq_true, decide_eq_true_eq] at h
          obtain ⟨⟨⟨⟨rfl, rfl⟩, h3⟩, h4⟩, h5⟩ := h
          have : ev Φ (.blt .bits (.cons e1 .nil)) = fun s => ((toP (ev Φ e1 s)).bind fun d s => .ok [d] s).bind fun ds s => ofO (bltD .bits ds) s := by
            funext s
            simp only [ev, evs, if_true]
            cases toP (ev Φ e1 s) <;> rfl
          rw [this]
          exact both O.K (pe_bits' (pe_P (sE e1 X c W _ O h3).1) (attrBase h4 _ _ _) h5) rfl
    · cases h
  | .isi a t, X, c, W, e, O, h => by
    cases e <;> simp only [chE] at h <;> try (cases h; done)
    split at h <;> try (cases h; done)
    rename_i h1
    simp only [Bool.and_eq_true, decide_eq_true_eq] at h
    obtain ⟨⟨⟨⟨⟨rfl, rfl⟩, h3⟩, h4⟩, h5⟩, h6⟩ := h
    obtain ⟨k1, _⟩ := O.gl h3
    obtain ⟨k2, _⟩ := O.gl h4
    cases h1
    have : ev Φ (.isi a t) = fun s => (toP (ev Φ a s)).bind fun x s => match isTy t x with | some b => .ok (.val (.bl b)) s | none => .bad := by funext s; first | (simp only [ev]; done) | (simp only [ev]; rfl)
    rw [this]
    exact both O.K (pe_isi O.K (pe_P (sE a X c W _ O h6).1) h5 k1 (O.blt _ (by decide)) k2 (O.blt _ (by cases t <;> decide))) rfl
  | .idx a b, X, c, W, e, O, h => by
    cases e <;> simp only [chE] at h <;> try (cases h; done)
    simp only [Bool.and_eq_true] at h
    obtain ⟨⟨h1, h2⟩, h3⟩ := h
    have : ev Φ (.idx a b) = fun s => (toP (ev Φ a s)).bind fun x s => (toP (ev Φ b s)).bind fun y s => match idxD s x y with | some d => .ok (.val d) s | none => .bad := by funext s; first | (simp only [ev]; done) | (simp only [ev]; rfl)
    rw [this]
    exact both O.K (pe_idx O.K (pe_P (sE a X c W _ O h1).1) (pe_P (sE b X c W _ O h2).1) (plainIx_of (by revert h3; unfold notSlice; exact _root_.id))) rfl
  | .slc a lo hi, X, c, W, e, O, h => by
    cases e <;> simp only [chE] at h <;> try (cases h; done)
    rename_i x sl p
    cases sl <;> (try simp only at h) <;> try (cases h; done)
    rename_i l u st p2
    cases st <;> (try simp only at h) <;> try (cases h; done)
    simp only [Bool.and_eq_true] at h
    obtain ⟨⟨h1, h2⟩, h3⟩ := h
    have : ev Φ (.slc a lo hi) = fun s => (toP (ev Φ a s)).bind fun x s => (evO Φ lo s).bind fun l s => (evO Φ hi s).bind fun u s => match x with
      | .tup ds => .ok (.val (.tup (cutD ds l u))) s
      | .lst ds => .ok (.own (cutD ds l u)) s
      | _ => .bad := by funext s; first | (simp only [ev]; done) | (simp only [ev]; rfl)
    rw [this]
    exact both O.K (pe_slc O.K (pe_P (sE a X c W _ O h1).1) (sO lo X c W _ O h2) (sO hi X c W _ O h3)) rfl
  | .rev a, X, c, W, e, O, h => by simp [chE] at h
  | .lc elt tg it cond, X, c, W, e, O, h => by
    unfold chE at h
    split at h
    · rename_i y t i ifs k scope pos
      simp only [Bool.and_eq_true, decide_eq_true_eq] at h
      obtain ⟨⟨⟨⟨⟨⟨⟨⟨k1, rfl⟩, k2⟩, k3⟩, k4⟩, k5⟩, k6⟩, k7⟩, k8⟩ := h
      have hc := (O.calm k1).1
      have ok : BlkOk X.N X.env.scope scope (ownOf tg t) := by rw [O.N, O.sc]; exact blkOk_by k3
      have hi := sI it X c W t i O k1 k5
      have e1 : ev Φ (.lc elt tg it cond) = fun s => (evI Φ it s).bind fun items s => match lcGo (lcTurn tg (evCond Φ cond) (fun s => toV (ev Φ elt s))) [] items s with
        | .ok ds s1 => .ok (.own ds) { s1 with t := backT s1.t s.t tg.ids }
        | _ => .bad := by
          funext s
          rw [ev]
          rfl
      rw [e1]
      refine both O.K ((pe_lc (g := gtOf X.K tg) hc O.nd hi ok (fun s H C cl fp => tg_pg (X := X.blk s H scope (compEnvC scope cl C X.env) fp) O.nd (O.tgK k1 k2 s H C cl fp)) (fun s H C cl fp => sCond cond _ _ W0 _ (O.blk k1 s H scope C cl fp) k7)
        (fun s H C cl fp => pe_V (sE elt _ _ W0 _ (O.blk k1 s H scope C cl fp) k8).1) (fun x => foldedSet k6 _ x)).mono ?_) rfl
      exact pe_lc' (pos := pos) hc O.nd hi ok k4 (gtOf X.K tg) (fun s H C cl fp => tg_pg (X := X.blk s H scope (compEnvC scope cl C X.env) fp) O.nd (O.tgK k1 k2 s H C cl fp)) (fun b al s σ H d x s2 Q R r e q => tg_run O.K tg b al s σ H d x s2 Q R r e q)
        (fun s H C cl fp => sCond cond _ _ W0 _ (O.blk k1 s H scope C cl fp) k7) (fun s H C cl fp => pe_V (sE elt _ _ W0 _ (O.blk k1 s H scope C cl fp) k8).1) (fun x => foldedSet k6 _ x) rfl
    · cases h
  | .fld i, X, c, W, e, O, h => by
    cases e <;> simp only [chE] at h <;> try (cases h; done)
    rename_i b f p
    cases b <;> (try simp only at h) <;> try (cases h; done)
    rename_i x q
    rw [Bool.and_eq_true] at h
    obtain ⟨h1, h2⟩ := h
    cases q : c.ex with
    | none => rw [q] at h2; cases h2
    | some jf =>
      obtain ⟨j, f'⟩ := jf
      rw [q] at h2
      simp only [Bool.and_eq_true, decide_eq_true_eq] at h2
      obtain ⟨rfl, rfl⟩ := h2
      obtain ⟨k1, k2, k3, k4⟩ := O.nm h1
      obtain ⟨X', a, oe, pn, k, d, rfl, hz, hf, ea, eF, fo⟩ := O.ex _ _ q
      have : ev Φ (.fld i) = fun s => match s.t[i]? with
        | some (some (.exc _ d)) => .ok (.val d) s
        | _ => .bad := by funext s; first | (simp only [ev]; done) | (simp only [ev]; rfl)
      rw [this]
      exact both O.K (pe_fld' k1 k2 k3 k4 hz hf ea eF O.inj fo) rfl
  | .isx i k, X, c, W, e, O, h => by simp [chE] at h
theorem sEs : ∀ (ms : MEs) (pk : Bool) (X : Cx) (c : Ctx) (W : WX) (es : List Expr), XOk X g T Φ lv c W → chEs T c ms es = true → PA X es (rdA g W pk (evs Φ pk ms))
  | .nil, pk, X, c, W, es, O, h => by
    cases es with
    | cons _ _ => simp [chEs] at h
    | nil =>
      have : evs Φ pk .nil = fun s => .ok [] s := by funext s; first | (simp only [evs]; done) | (simp only [evs]; rfl)
      rw [this]
      exact pa_nil'
  | .cons m ms, pk, X, c, W, es, O, h => by
    cases es with
    | nil => simp [chEs] at h
    | cons e es =>
      simp only [chEs, Bool.and_eq_true] at h
      have : evs Φ pk (.cons m ms) = fun s => ((fun s => if pk then toP (ev Φ m s) else toV (ev Φ m s)) s).bind fun d s => (evs Φ pk ms s).bind fun ds s => .ok (d :: ds) s := by funext s; first | (simp only [evs]; done) | (simp only [evs]; rfl)
      rw [this]
      refine pa_cons' h.1.1 ?_ (sEs ms pk X c W es O h.2)
      cases pk with
      | true => exact pe_P (sE m X c W e O h.1.2).1
      | false => exact pe_V (sE m X c W e O h.1.2).1
theorem sB : ∀ (ms : MEs) (k : Bool) (X : Cx) (c : Ctx) (W : WX) (es : List Expr), XOk X g T Φ lv c W → chB T c ms es = true →
    (∀ pos, PE X (.BoolOp (if k then .And else .Or) es pos) (rdB g W (evB Φ k ms))) ∧ ∀ pos, PW X (.BoolOp (if k then .And else .Or) es pos) (rdT g W (evB Φ k ms))
  | .nil, k, X, c, W, es, O, h => by simp [chB] at h
  | .cons m .nil, k, X, c, W, es, O, h => by
    cases es with
    | nil => simp [chB] at h
    | cons e es =>
      cases es with
      | cons _ _ => simp [chB] at h
      | nil =>
        simp only [chB] at h
        obtain ⟨h1, h2⟩ := sE m X c W e O h
        have : evB Φ k (.cons m .nil) = fun s => toB (toP (ev Φ m s)) := by
          funext s
          simp only [evB]
          cases toB (toP (ev Φ m s)) <;> rfl
        rw [this]
        exact ⟨fun pos => peB_one (pe_toB (pe_P h1)), fun pos => pw_one (by cases k <;> simp) (rdT_toB h2)⟩
  | .cons m (.cons m2 ms), k, X, c, W, es, O, h => by
    cases es with
    | nil => simp [chB] at h
    | cons e es =>
      cases es with
      | nil => simp [chB] at h
      | cons e2 es =>
        simp only [chB, Bool.and_eq_true] at h
        obtain ⟨h1, h2⟩ := sE m X c W e O h.1
        obtain ⟨h3, h4⟩ := sB (.cons m2 ms) k X c W (e2 :: es) O h.2
        have : evB Φ k (.cons m (.cons m2 ms)) = fun s => (toB (toP (ev Φ m s))).bind fun b s => if b = k then evB Φ k (.cons m2 ms) s else .ok b s := by
          funext s
          rw [evB]
        rw [this]
        exact ⟨fun pos => peB_two (pe_toB (pe_P h1)) (h3 pos), fun pos => pw_two (rdT_toB h2) (h4 pos)⟩
theorem sC : ∀ (ms : MCs) (X : Cx) (c : Ctx) (W : WX) (ops : List CmpOp) (es : List Expr), XOk X g T Φ lv c W → chC T c ms ops es = true → CH X g W ops es (fun x s => evC Φ x ms s)
  | .nil, X, c, W, ops, es, O, h => by simp [chC] at h
  | .cons o m .nil, X, c, W, ops, es, O, h => by
    match ops, es, h with
    | [op], [e], h =>
      simp only [chC, Bool.and_eq_true, decide_eq_true_eq] at h
      obtain ⟨rfl, h2⟩ := h
      have : (fun x s => evC Φ x (.cons o m .nil) s) = fun x s => (toP (ev Φ m s)).bind fun y s => match cmpD o x y with | none => .bad | some c => .ok c s := by
        funext x s
        rw [evC] <;> rfl
      rw [this]
      exact ch_one O.K O.units (pe_P (sE m X c W _ O h2).1)
    | [], _, h => simp [chC] at h
    | [op], [], h => simp [chC] at h
    | [op], _ :: _ :: _, h => simp [chC] at h
    | _ :: _ :: _, _, h => simp [chC] at h
  | .cons o m (.cons o2 m2 r), X, c, W, ops, es, O, h => by
    match ops, es, h with
    | op :: op2 :: ops, e :: e2 :: es, h =>
      rw [chC] at h
      simp only [Bool.and_eq_true, decide_eq_true_eq] at h
      obtain ⟨⟨rfl, h2⟩, h3⟩ := h
      have : (fun x s => evC Φ x (.cons o m (.cons o2 m2 r)) s) = fun x s => (toP (ev Φ m s)).bind fun y s => match cmpD o x y with | none => .bad | some c => if c then (fun x s => evC Φ x (.cons o2 m2 r) s) y s else .ok false s := by
        funext x s
        rw [evC] <;> rfl
      rw [this]
      exact ch_more O.K O.units (pe_P (sE m X c W _ O h2).1) (sC (.cons o2 m2 r) X c W _ _ O h3)
    | [], _, h => simp [chC] at h
    | [_], _, h => simp [chC] at h
    | _ :: _ :: _, [], h => simp [chC] at h
    | _ :: _ :: _, [_], h => simp [chC] at h
theorem sO : ∀ (m : MO) (X : Cx) (c : Ctx) (W : WX) (o : Option Expr), XOk X g T Φ lv c W → chO T c m o = true → PO X o (rdO g W (evO Φ m))
  | .none, X, c, W, o, O, h => by
    cases o with
    | some _ => simp [chO] at h
    | none =>
      have : evO Φ .none = fun s => .ok none s := by funext s; first | (simp only [evO]; done) | (simp only [evO]; rfl)
      rw [this]
      exact po_none'
  | .some m, X, c, W, o, O, h => by
    cases o with
    | none => simp [chO] at h
    | some e =>
      simp only [chO] at h
      have : evO Φ (.some m) = fun s => (toI (toP (ev Φ m s))).bind fun i s => .ok (some i) s := by funext s; first | (simp only [evO]; done) | (simp only [evO]; rfl)
      rw [this]
      exact po_some' (pe_P (sE m X c W e O h).1)
theorem sCond : ∀ (m : MO) (X : Cx) (c : Ctx) (W : WX) (es : List Expr), XOk X g T Φ lv c W → chCond T c m es = true → PTs X es (rdT g W (evCond Φ m))
  | .none, X, c, W, es, O, h => by
    cases es with
    | cons _ _ => simp [chCond] at h
    | nil =>
      have : evCond Φ .none = fun s => .ok true s := by funext s; first | (simp only [evCond]; done) | (simp only [evCond]; rfl)
      rw [this]
      exact ⟨fun pins s σ H Q I ⟨b, al, t, R, P⟩ => pts_nil.run pins s σ H Q I (P H Ext.refl R)⟩
  | .some m, X, c, W, es, O, h => by
    cases es with
    | nil => simp [chCond] at h
    | cons e es =>
      cases es with
      | cons _ _ => simp [chCond] at h
      | nil =>
        simp only [chCond] at h
        have : evCond Φ (.some m) = fun s => toT (toP (ev Φ m s)) := by funext s; first | (simp only [evCond]; done) | (simp only [evCond]; rfl)
        rw [this]
        exact pts_one (sE m X c W e O h).2
theorem sI : ∀ (m : MI) (X : Cx) (c : Ctx) (W : WX) (t e : Expr), XOk X g T Φ lv c W → c.calm = true → chI T c m t e = true → L2.PI X t e (rdI g W (evI Φ m))
  | .seq m, X, c, W, t, e, O, hc, h => by
    simp only [chI] at h
    have : evI Φ (.seq m) = fun s => toL (toV (ev Φ m s)) := by funext s; first | (simp only [evI]; done) | (simp only [evI]; rfl)
    rw [this]
    exact pi_seq O.K (pe_V (sE m X c W e O h).1)
  | .rng1 m, X, c, W, t, e, O, hc, h => by
    simp only [chI] at h
    split at h <;> try (cases h; done)
    simp only [Bool.and_eq_true, decide_eq_true_eq] at h
    obtain ⟨⟨⟨rfl, h2⟩, h3⟩, h4⟩ := h
    have : evI Φ (.rng1 m) = fun s => (toI (toP (ev Φ m s))).bind fun i s => if smallI i then .ok (rangeD 0 i.toNat) s else .bad := by funext s; first | (simp only [evI]; done) | (simp only [evI]; rfl)
    rw [this]
    exact pi_rng1 h3 (O.gl h2).1 (O.blt _ (by decide)) (pe_P (sE m X c W _ O h4).1)
  | .rng2 m1 m2, X, c, W, t, e, O, hc, h => by
    simp only [chI] at h
    split at h <;> try (cases h; done)
    simp only [Bool.and_eq_true, decide_eq_true_eq] at h
    obtain ⟨⟨⟨⟨⟨rfl, h2⟩, h3⟩, h4⟩, h5⟩, h6⟩ := h
    have : evI Φ (.rng2 m1 m2) = fun s => (toI (toP (ev Φ m1 s))).bind fun i s => (toI (toP (ev Φ m2 s))).bind fun j s => if smallI i && smallI j then .ok (rangeD i (j - i).toNat) s else .bad := by funext s; first | (simp only [evI]; done) | (simp only [evI]; rfl)
    rw [this]
    exact pi_rng2 h3 h4 (O.gl h2).1 (O.blt _ (by decide)) (pe_P (sE m1 X c W _ O h5).1) (pe_P (sE m2 X c W _ O h6).1)
  | .rng3 m1 m2 m3, X, c, W, t, e, O, hc, h => by
    simp only [chI] at h
    split at h <;> try (cases h; done)
    simp only [Bool.and_eq_true, decide_eq_true_eq] at h
    obtain ⟨⟨⟨⟨⟨⟨⟨rfl, h2⟩, h3⟩, h4⟩, h5⟩, h6⟩, h7⟩, h8⟩ := h
    have : evI Φ (.rng3 m1 m2 m3) = fun s => (toI (toP (ev Φ m1 s))).bind fun i s => (toI (toP (ev Φ m2 s))).bind fun j s => (toI (toP (ev Φ m3 s))).bind fun k s =>
      if decide (k ≠ 0) && decide (k.natAbs < 1073741824) && Builtin.Range.small i j k then .ok (rangeC i k (turnsC i j k)) s else .bad := by funext s; first | (simp only [evI]; done) | (simp only [evI]; rfl)
    rw [this]
    exact pi_rng3 h3 h4 h5 (O.gl h2).1 (O.blt _ (by decide)) (pe_P (sE m1 X c W _ O h6).1) (pe_P (sE m2 X c W _ O h7).1) (pe_P (sE m3 X c W _ O h8).1)
  | .enum m, X, c, W, t, e, O, hc, h => by
    simp only [chI] at h
    split at h <;> try (cases h; done)
    simp only [Bool.and_eq_true, decide_eq_true_eq] at h
    obtain ⟨⟨⟨rfl, h2⟩, h3⟩, h4⟩ := h
    have : evI Φ (.enum m) = fun s => (toLL (toV (ev Φ m s))).bind fun ds s => .ok (enumD 0 ds) s := by funext s; first | (simp only [evI]; done) | (simp only [evI]; rfl)
    rw [this]
    exact pi_enum' O.K h3 (O.gl h2).1 (O.blt _ (by decide)) (pe_V (sE m X c W _ O h4).1)
  | .zip m1 m2, X, c, W, t, e, O, hc, h => by
    simp only [chI] at h
    split at h <;> try (cases h; done)
    simp only [Bool.and_eq_true, decide_eq_true_eq] at h
    obtain ⟨⟨⟨⟨⟨rfl, h2⟩, h3⟩, h4⟩, h5⟩, h6⟩ := h
    have : evI Φ (.zip m1 m2) = fun s => (toV (ev Φ m1 s)).bind fun x s => (toV (ev Φ m2 s)).bind fun y s => zipR x y s := by funext s; first | (simp only [evI]; done) | (simp only [evI]; rfl)
    rw [this]
    exact pi_zip' O.K h3 h4 (O.gl h2).1 (O.blt _ (by decide)) (pe_V (sE m1 X c W _ O h5).1) (pe_V (sE m2 X c W _ O h6).1)
  | .revd m, X, c, W, t, e, O, hc, h => by
    simp only [chI] at h
    split at h <;> try (cases h; done)
    simp only [Bool.and_eq_true, decide_eq_true_eq] at h
    obtain ⟨⟨⟨rfl, h2⟩, h3⟩, h4⟩ := h
    have : evI Φ (.revd m) = fun s => (toL (toV (ev Φ m s))).bind fun ds s => .ok ds.reverse s := by funext s; first | (simp only [evI]; done) | (simp only [evI]; rfl)
    rw [this]
    exact pi_revd O.K h3 (O.gl h2).1 (O.blt _ (by decide)) (pe_V (sE m X c W _ O h4).1)
end
end
end PI

namespace PI
open PySem PySem.Spec PyProof.Rows L2

/-! ### several except clauses, each with a name (after TryMany and ps_try_as) -/
def wManyA (K : PySem.W.Frag) (Wout : WX) (D : Ends) : List (Value × Nat × (Addr → Value → Option Addr → TS)) → WX
  | [] => Wout
  | (c, i, ts) :: r => fun cls d σ H => ∃ b, PySem.W.exmOne K cls c = some b ∧
      (b = true → ∀ a, H a = none → ts a cls d { nx := fun σ' H' => D.nx (σ'.set i none) H', rt := D.rt, bk := fun σ' H' => D.bk (σ'.set i none) H', ct := fun σ' H' => D.ct (σ'.set i none) H' } (σ.set i (some (.ref a))) H) ∧ (b = false → wManyA K Wout D r cls d σ H)
inductive HdsA (X : Cx) : List ExceptHandler → List (Value × Nat × (Addr → Value → Option Addr → TS)) → Prop
  | nil : HdsA X [] []
  | cons {x n : Str} {c : Value} {i : Nat} {ts : Addr → Value → Option Addr → TS} {b₀ : Stmt} {suite : List Stmt} {np pos' : Pos} {hds : List ExceptHandler} {l : List (Value × Nat × (Addr → Value → Option Addr → TS))} (hi : X.N[i]? = some n) (hln : X.env.kindOf n = some .local) (hc : Names X x c)
      (hsu : ∀ (a : Addr) (oe : Obj) (cls : Value) (d : Option Addr) (pn : List (Addr × Obj)), Zc cls d oe → (∃ vs, oe.data = .fields vs) → PSs (X.suite a ((a, oe) :: pn)) (b₀ :: suite) (ts a cls d)) (r : HdsA X hds l) :
      HdsA X (.ExceptHandler (some (.Name x np)) (some n) (b₀ :: suite) pos' :: hds) ((c, i, ts) :: l)
section
variable {X : Cx} {body : List Stmt} {h₀ : ExceptHandler} {hds : List ExceptHandler} {l : List (Value × Nat × (Addr → Value → Option Addr → TS))} {pos : Pos} {tb : WX → TS} {Wout : WX}
theorem ps_try_manyA (hs : X.stack = X.env :: X.outer) (hf : X.env.frame = some X.env.locals) (hN : X.N.Nodup) (tk : Takes X Wout)
    (hb : ∀ (W : WX) (pn : List (Addr × Obj)) (xe : Value → Shared → Prop), Takes (X.tr pn xe) W → PassesOwn (model X.prog X.w) X.A X.env xe → PSs (X.tr pn xe) body (tb W))
    (hh : HdsA X (h₀ :: hds) l) : PS X (.Try body (h₀ :: hds) [] [] pos) (fun D σ H => tb (wManyA X.K Wout D l) D σ H) := by
  refine ⟨fun pins s σ H D I h => ?_⟩
  have ok := I.ok
  have hfr : X.A.frames = some (X.env :: X.outer) := by rw [ok.frames, hs]
  refine wpAny_Try_except ?_
  refine wpAny_mono ((hb (wManyA X.K Wout D l) (X.pn ++ pins) (fun e s₁ => wpAny (model X.prog X.w) X.A (noteFrame e X.env) (fun _ s₂ => wpAny (model X.prog X.w) X.A (setFlight e none) (fun _ s₃ =>
    wpAny (model X.prog X.w) X.A (handleBy e X.env (h₀ :: hds)) (SP X pins D) X.xe s₃) X.xe s₂) X.xe s₁) (fun u s' xx => ?_) PassesOwn.looking).run [] s σ H D (I.toTry _) h) (fun f s1 hsp => ?_) (fun e s1 he => he)
  · -- the catch
    obtain ⟨a, B, sI, pins', σ', H', cls, d, rfl, J', nb, up, sky, na, os, ag, w⟩ := xx
    have J : Inv X pins σ' H' sI := J'.ofTry ok
    have sky' : Sky B (X.env :: X.outer) a (Zc cls d) X.env.locals s'.heap := by rw [← hs]; exact sky
    show wpAny (model X.prog X.w) X.A (noteFrame (.ref a) X.env) _ _ _
    refine Sky.land Zc.steady hfr hf sky' fun h3 fl3 up3 => ?_
    have J3 : Inv X pins σ' H' { s' with heap := h3 } := J.landed nb fl3.1 (up.trans up3) os ag
    obtain ⟨oe3, vs3, he3, hz3, hd3⟩ := fl3.there
    have notFr : ∀ {h : Heap} {o : Obj} {vs : Array Value}, h.FunFrames B (X.env :: X.outer) → h.get? a = some o → o.data = .fields vs → a ∉ frs (X.env :: X.outer) := fun {h o vs} ff e dd hm => by
      obtain ⟨_, o', e', hnf⟩ := ff.mem hm
      rw [e] at e'; cases e'
      exact hnf _ dd
    have nfr := notFr fl3.2.2.1 he3 hd3
    have nL : a ≠ X.env.locals := fun z => nfr (List.mem_filterMap.mpr ⟨X.env, List.mem_cons_self, by rw [hf, z]⟩)
    have nF : a ∉ X.fs := fun hm => by
      obtain ⟨e, he, q⟩ := List.mem_filterMap.mp hm
      exact nfr (List.mem_filterMap.mpr ⟨e, List.mem_cons_of_mem _ he, q⟩)
    have S3 := J3.suite he3 hd3 na nL nF
    have go : ∀ {hds' : List ExceptHandler} {l' : List (Value × Nat × (Addr → Value → Option Addr → TS))}, HdsA X hds' l' → wManyA X.K Wout D l' cls d σ' H' →
        wpAny (model X.prog X.w) X.A (handleBy (.ref a) X.env hds') (SP X pins D) X.xe { s' with heap := h3 } := by
      intro hds' l' hk
      induction hk with
      | nil =>
        intro w
        refine wpAny_handleBy_nil ?_
        obtain ⟨k1, k2, k3, oe, vs, T, oT, ts', he, hz, hd, h1, hr⟩ := id fl3
        unfold PySem.passOn
        refine wpAny_bind (wpAny_field he hd h1 ?_)
        rw [if_neg (show ¬ ((Value.ref T == Value.none) = true) from by simp)]
        have fin : wpAny (model X.prog X.w) X.A (setFlight (.ref a) X.env.frame) (fun _ s4 => wpAny (model X.prog X.w) X.A (throw (.ref a) : Sem Flow) (SP X pins D) X.xe s4) X.xe { s' with heap := h3 } := by
          rw [hf]
          refine HandSPX.setFlight_upZ fl3 fun h4 hh4 up4 => wpAny_throw (tk _ _ ?_)
          exact ⟨a, B, sI, pins, σ', H', cls, d, rfl, J, nb, (up.trans up3).trans up4, .inr (.inr (by rw [hs]; exact hh4)), na, os, ag, w⟩
        first
          | exact wpAny_bind (wpAny_pure (wpAny_bind fin))
          | exact wpAny_bind fin
      | @cons x n c i ts b₀ suite np pos' hds2 l2 hi hln hc hsu r ih =>
        intro w
        obtain ⟨b, hb1, hyes, hno⟩ := w
        have hloc : Loc X.env.scope n := .inl hln
        refine wpAny_handleBy_cons (codeAny_handlers_test ?_) (by intro q; cases q)
        have LT : PySem.W.Looks (model X.prog X.w) h3 (typeOf (.ref a)) cls := fun A Q E s k q => wpAny_typeOf_ref (k _ _ he3) (by rw [hz3.1]; exact q)
        have LM := PySem.W.exm_one (M := model X.prog X.w) (J3.kIn) LT hb1
        have test : ∀ {Q : Value → Shared → Prop} {E : Value → Shared → Prop}, Q c { s' with heap := h3 } → wpAny (model X.prog X.w) (X.A.mark (some (.ref a))) (eval (.Name x np) X.env) Q E { s' with heap := h3 } := fun {Q E} q => by
          obtain ⟨hg, hdbg, hm | ⟨hm, hv, hnn⟩⟩ := hc
          · exact ld_glob (X := X.suite a ((a, oe3) :: (X.pn ++ pins))) S3 hg hm q hdbg
          · exact ld_blt (X := X.suite a ((a, oe3) :: (X.pn ++ pins))) S3 hg hm hv q hnn hdbg
        refine test (LM.here ?_)
        cases b with
        | true =>
          refine codeAny_handlers_suite_as ?_
          refine HandSPX.lands_againZ fl3 fun h4 fl4 up4 => ?_
          have J4 : Inv X pins σ' H' { s' with heap := h4 } := J.landed nb fl4.1 ((up.trans up3).trans up4) os ag
          obtain ⟨oe4, vs4, he4, hz4, hd4⟩ := fl4.there
          have S4 := J4.suite he4 hd4 na nL nF
          refine store_ok (X := X.suite a ((a, oe4) :: (X.pn ++ pins))) (v := .ref a) S4 hN hi hloc rfl (fun s5 S5 => ?_) (.inr hln)
          refine wpAny_mono ((hsu a oe4 cls d (X.pn ++ pins) hz4 ⟨_, hd4⟩).run [] s5 _ H' _ S5 (hyes rfl a na)) (fun f s6 hsp => ?_) (fun _ _ z => False.elim z)
          have end_ : ∀ {σ6 : L2.St} {H6 : Hp} {Q : Shared → Prop}, Inv (X.suite a ((a, oe4) :: (X.pn ++ pins))) [] σ6 H6 s6 → (∀ s7, Inv X pins (σ6.set i none) H6 s7 → Q s7) →
              wpAny (model X.prog X.w) X.A (do bindName X.env n .none; unbindBehindTheSuite X.env n pos') (fun _ s7 => Q s7) X.xe s6 := fun {σ6 H6 Q} S6 hq => gone_ok (S6.unsuite ok) hN hi hln hq
          cases f with
          | next =>
            obtain ⟨σ6, H6, S6, q6⟩ := hsp
            exact end_ S6 fun s7 J7 => ⟨_, _, J7, q6⟩
          | brk =>
            obtain ⟨σ6, H6, S6, q6⟩ := hsp
            exact end_ S6 fun s7 J7 => ⟨_, _, J7, q6⟩
          | cont =>
            obtain ⟨σ6, H6, S6, q6⟩ := hsp
            exact end_ S6 fun s7 J7 => ⟨_, _, J7, q6⟩
          | ret u =>
            obtain ⟨v6, σ6, H6, S6, r6, q6⟩ := hsp
            exact end_ S6 fun s7 J7 => ⟨_, _, _, J7, r6, q6⟩
        | false =>
          show wpAny _ X.A (handleBy (.ref a) X.env hds2) _ _ _
          exact ih (hno rfl)
    exact go hh w
  · cases f with
    | next =>
      obtain ⟨σ', H', J', q⟩ := hsp
      exact wpAny_execs_nil ⟨σ', H', J'.ofTry ok, q⟩
    | brk =>
      obtain ⟨σ', H', J', q⟩ := hsp
      exact ⟨σ', H', J'.ofTry ok, q⟩
    | cont =>
      obtain ⟨σ', H', J', q⟩ := hsp
      exact ⟨σ', H', J'.ofTry ok, q⟩
    | ret u =>
      obtain ⟨v, σ', H', J', r, q⟩ := hsp
      exact ⟨v, σ', H', J'.ofTry ok, r, q⟩
end

/-! ### statements: what follows -/
def AlX (al al' : List Addr) : Prop := ∀ (k : Nat) (a : Addr), al[k]? = some a → al'[k]? = some a
theorem AlX.refl (al : List Addr) : AlX al al := fun _ _ h => h
theorem AlX.trans {a b c : List Addr} (h : AlX a b) (k : AlX b c) : AlX a c := fun i x e => k i x (h i x e)
section
variable (g : G) (b : B) (W : WX) (D : Ends)
def PostS (al : List Addr) (H : Hp) : R → Prop
  | .next s' => ∀ al' σ' H', AlX al al' → Stay H H' → Rel g b al' s' σ' H' → D.nx σ' H'
  | .brk s' => ∀ al' σ' H', AlX al al' → Stay H H' → Rel g b al' s' σ' H' → D.bk σ' H'
  | .cnt s' => ∀ al' σ' H', AlX al al' → Stay H H' → Rel g b al' s' σ' H' → D.ct σ' H'
  | .ret r s' => ∀ al' σ' v H', AlX al al' → Stay H H' → Rel g b al' s' σ' H' → RVRep g b al' s' σ' H' r v → D.rt v H'
  | .exc c d s' => ∀ al' σ' cls dd H', AlX al al' → Stay H H' → Rel g b al' s' σ' H' → ExcRep g al' H' c d cls dd → W cls (some dd) σ' H'
  | .bad => False
end
def rdS (g : G) (W : WX) (f : S → R) : TS := fun D σ H => ∃ b al s, Rel g b al s σ H ∧ PostS g b W D al H (f s)
section
variable {X : Cx} {g : G} {b : B} {W : WX} {D D' : Ends} {al al' : List Addr} {σ : L2.St} {H H' : Hp}
theorem PostS.shift {r : R} (P : PostS g b W D al H r) (a : AlX al al') (x : Stay H H') : PostS g b W D al' H' r := by
  cases r with
  | next s => exact fun al2 σ2 H2 a2 x2 => P al2 σ2 H2 (a.trans a2) (x.trans x2)
  | brk s => exact fun al2 σ2 H2 a2 x2 => P al2 σ2 H2 (a.trans a2) (x.trans x2)
  | cnt s => exact fun al2 σ2 H2 a2 x2 => P al2 σ2 H2 (a.trans a2) (x.trans x2)
  | ret r s => exact fun al2 σ2 v H2 a2 x2 => P al2 σ2 v H2 (a.trans a2) (x.trans x2)
  | exc c d s => exact fun al2 σ2 cls dd H2 a2 x2 => P al2 σ2 cls dd H2 (a.trans a2) (x.trans x2)
  | bad => exact P
/-- an expression, then the rest -/
theorem run_post {α : Type} {r : Res α} {k : α → S → R} (P : PostS g b W D al H (r.run k)) : PostX g b al W σ H (fun a s => PostS g b W D al H (k a s)) r := by
  cases r with
  | ok a s => exact P
  | exc c d s => exact fun cls dd H' x R er => P al σ cls dd H' (AlX.refl al) x.st R er
  | bad => exact P
theorem _root_.L2.PS.mono {st : Stmt} {t t' : TS} (h : PS X st t) (k : ∀ D σ H, t' D σ H → t D σ H) : PS X st t' := ⟨fun pins s σ H D I q => h.run pins s σ H D I (k D σ H q)⟩
theorem _root_.L2.PSs.mono {st : List Stmt} {t t' : TS} (h : PSs X st t) (k : ∀ D σ H, t' D σ H → t D σ H) : PSs X st t' := ⟨fun pins s σ H D I q => h.run pins s σ H D I (k D σ H q)⟩
theorem pss_nil' : PSs X [] (rdS g W fun s => .next s) := pss_nil.mono fun D σ H ⟨b, al, s, R, P⟩ => P al σ H (AlX.refl al) (Stay.refl H) R
theorem pss_cons' {st : Stmt} {sts : List Stmt} {f k : S → R} (h1 : PS X st (rdS g W f)) (h2 : PSs X sts (rdS g W k)) :
    PSs X (st :: sts) (rdS g W fun s => match f s with | .next s1 => k s1 | q => q) := (pss_cons h1 h2).mono fun D σ H ⟨b, al, s, R, P⟩ => by
  refine ⟨b, al, s, R, ?_⟩
  dsimp only at P
  cases q : f s with
  | next s1 =>
    rw [q] at P
    exact fun al' σ' H' a x R' => ⟨b, al', s1, R', PostS.shift P a x⟩
  | brk s1 => rw [q] at P; exact P
  | cnt s1 => rw [q] at P; exact P
  | ret r s1 => rw [q] at P; exact P
  | exc c d s1 => rw [q] at P; exact P
  | bad => rw [q] at P; exact P
theorem ps_pass' {pos : Pos} : PS X (.Pass pos) (rdS g W fun s => .next s) := ps_pass.mono fun D σ H ⟨b, al, s, R, P⟩ => P al σ H (AlX.refl al) (Stay.refl H) R
theorem ps_brk' {pos : Pos} : PS X (.Break pos) (rdS g W fun s => .brk s) := ps_break.mono fun D σ H ⟨b, al, s, R, P⟩ => P al σ H (AlX.refl al) (Stay.refl H) R
theorem ps_cnt' {pos : Pos} : PS X (.Continue pos) (rdS g W fun s => .cnt s) := ps_continue.mono fun D σ H ⟨b, al, s, R, P⟩ => P al σ H (AlX.refl al) (Stay.refl H) R
theorem ps_retN' {pos : Pos} : PS X (.Return none pos) (rdS g W fun s => .ret (.val .non) s) := ps_retN.mono fun D σ H ⟨b, al, s, R, P⟩ => P al σ .non H (AlX.refl al) (Stay.refl H) R (by unfold RVRep Rep; rfl)
theorem ps_ret' {e : Expr} {f : S → Res RV} {pos : Pos} (h : PE X e (rdE g W f)) : PS X (.Return (some e) pos) (rdS g W fun s => (f s).run fun r s => .ret r s) := (ps_ret h).mono fun D σ H ⟨b, al, s, R, P⟩ =>
  ⟨b, al, s, R, (run_post P).mono fun r s1 p v H1 x1 R1 r1 => p al σ v H1 (AlX.refl al) x1.st R1 r1⟩
theorem ps_expr' {e : Expr} {f : S → Res RV} {pos : Pos} (h : PE X e (rdE g W f)) (hs : swapsWith e none pos.line X.env = pure false) : PS X (.Expr e pos) (rdS g W fun s => (f s).run fun _ s => .next s) := (ps_expr h hs).mono fun D σ H ⟨b, al, s, R, P⟩ =>
  ⟨b, al, s, R, (run_post P).mono fun r s1 p v H1 x1 R1 r1 => p al σ H1 (AlX.refl al) x1.st R1⟩
theorem ps_ite' {c : Expr} {a e : List Stmt} {fc : S → Res Bool} {fa fe : S → R} {pos : Pos} (hc : PT X c (rdT g W fc)) (ha : PSs X a (rdS g W fa)) (he : PSs X e (rdS g W fe)) :
    PS X (.If c a e pos) (rdS g W fun s => (fc s).run fun k s => if k then fa s else fe s) := (ps_if hc ha he).mono fun D σ H ⟨b, al, s, R, P⟩ =>
  ⟨b, al, s, R, (run_post P).mono fun k s1 p H1 x1 R1 => by
    cases k with
    | true => exact ⟨b, al, s1, R1, PostS.shift p (AlX.refl al) x1.st⟩
    | false => exact ⟨b, al, s1, R1, PostS.shift p (AlX.refl al) x1.st⟩⟩
/-! ### while -/
theorem fix_at {α β : Type} {f : α → α ⊕ β} {a : α} {r : β} (h : fixF f a = some r) : ∃ n, iterF f n a = some r := by
  unfold fixF at h
  split at h
  · rename_i hx
    have := hx.choose_spec.choose_spec
    cases h
    exact ⟨_, this⟩
  · cases h
theorem iterF_det {α β : Type} {f : α → α ⊕ β} : ∀ {n m : Nat} {a : α} {r q : β}, iterF f n a = some r → iterF f m a = some q → r = q
  | 0, _, _, _, _, h, _ => by cases h
  | _ + 1, 0, _, _, _, _, h => by cases h
  | n + 1, m + 1, a, r, q, h, k => by
    unfold iterF at h k
    cases e : f a with
    | inr b => rw [e] at h k; cases h; cases k; rfl
    | inl a' => rw [e] at h k; exact iterF_det h k
theorem fix_of {α β : Type} {f : α → α ⊕ β} {a : α} {r : β} {n : Nat} (h : iterF f n a = some r) : fixF f a = some r := by
  have hx : ∃ n b, iterF f n a = some b := ⟨n, r, h⟩
  unfold fixF
  rw [dif_pos hx]
  have := hx.choose_spec.choose_spec
  rw [iterF_det this h]
/-- a turn of a while -/
def whTurn (fc : S → Res Bool) (fb : S → R) (s : S) : S ⊕ R := match fc s with
  | .ok false s1 => .inr (.next s1)
  | .ok true s1 => match fb s1 with
    | .next s2 => .inl s2
    | .cnt s2 => .inl s2
    | .brk s2 => .inr (.next s2)
    | r => .inr r
  | .exc c d s1 => .inr (.exc c d s1)
  | .bad => .inr .bad
theorem ps_while' {c : Expr} {body : List Stmt} {fc : S → Res Bool} {fb : S → R} {pos : Pos} (hp : PassesOwn (model X.prog X.w) X.A X.env X.xe) (hc : PT X c (rdT g W fc)) (hb : PSs X body (rdS g W fb)) :
    PS X (.While c body [] pos) (rdS g W fun s => (fixF (whTurn fc fb) s).getD .bad) := (ps_while hp hc hb).mono fun D σ H ⟨b, al, s, R, P⟩ => by
  dsimp only at P
  cases q : fixF (whTurn fc fb) s with
  | none => rw [q] at P; exact P.elim
  | some r =>
  rw [q] at P
  obtain ⟨n, hn⟩ := fix_at q
  refine ⟨fun m σ' H' => ∃ al' s', AlX al al' ∧ Stay H H' ∧ Rel g b al' s' σ' H' ∧ iterF (whTurn fc fb) m s' = some r, ⟨n, al, s, AlX.refl al, Stay.refl H, R, hn⟩, ?_⟩
  rintro m σ1 H1 ⟨al1, s1, a1, x1, R1, it⟩
  cases m with
  | zero => cases it
  | succ m =>
  unfold iterF at it
  refine ⟨b, al1, s1, R1, ?_⟩
  cases qc : fc s1 with
  | bad =>
    unfold whTurn at it
    rw [qc] at it
    cases it
    exact P
  | exc cc d s2 =>
    unfold whTurn at it
    rw [qc] at it
    cases it
    exact fun cls dd H' x R' er => P al1 σ1 cls dd H' a1 (x1.trans x.st) R' er
  | ok k s2 =>
    intro H2 x2 R2
    cases k with
    | false =>
      unfold whTurn at it
      rw [qc] at it
      cases it
      rw [if_neg Bool.false_ne_true]
      exact P al1 σ1 H2 a1 (x1.trans x2.st) R2
    | true =>
      rw [if_pos rfl]
      refine ⟨fun σ' H' => ∃ al' s', AlX al al' ∧ Stay H H' ∧ Rel g b al' s' σ' H' ∧ iterF (whTurn fc fb) m s' = some r, fun σ' H' h => ⟨m, Nat.lt_succ_self m, h⟩, b, al1, s2, R2, ?_⟩
      unfold whTurn at it
      rw [qc] at it
      dsimp only at it
      cases qb : fb s2 with
      | next s3 =>
        rw [qb] at it
        exact fun al' σ' H' a x R' => ⟨al', s3, a1.trans a, (x1.trans x2.st).trans x, R', it⟩
      | cnt s3 =>
        rw [qb] at it
        exact fun al' σ' H' a x R' => ⟨al', s3, a1.trans a, (x1.trans x2.st).trans x, R', it⟩
      | brk s3 =>
        rw [qb] at it
        cases it
        exact fun al' σ' H' a x R' => P al' σ' H' (a1.trans a) ((x1.trans x2.st).trans x) R'
      | ret rv s3 =>
        rw [qb] at it
        cases it
        exact fun al' σ' v H' a x R' rr => P al' σ' v H' (a1.trans a) ((x1.trans x2.st).trans x) R' rr
      | exc cc d s3 =>
        rw [qb] at it
        cases it
        exact fun al' σ' cls dd H' a x R' er => P al' σ' cls dd H' (a1.trans a) ((x1.trans x2.st).trans x) R' er
      | bad =>
        rw [qb] at it
        cases it
        exact P
/-! ### for -/
theorem ps_for' {tge iter : Expr} {body : List Stmt} {tg : MT} {fi : S → Res (List PI.D)} {fb : S → R} {pos : Pos} (hK : X.K = g.K) (hp : PassesOwn (model X.prog X.w) X.A X.env X.xe) (hc : X.calm = true) (hi : L2.PI X tge iter (rdI g W fi)) (hg : PG X tge (gtOf X.K tg)) (hb : PSs X body (rdS g W fb))
    (hs : ∀ x, foldedSetIterable iter X.env x = pure x) : PS X (.For tge iter body [] pos) (rdS g W fun s => (fi s).run fun ds s => forGo (bindT tg) fb ds s) := (ps_for hp hc hi hg hb hs).mono fun D σ H ⟨b, al, s, R, P⟩ => by
  refine ⟨b, al, s, R, (run_post P).mono fun ds s1 p J H1 x1 R1 wk => ?_⟩
  refine ⟨fun i m σ' H' => m = ds.length - i ∧ i ≤ ds.length ∧ ∃ al' s', AlX al al' ∧ Stay H1 H' ∧ Rel g b al' s' σ' H' ∧ PostS g b W D al' H' (forGo (bindT tg) fb (ds.drop i) s'),
    ⟨ds.length, by omega, Nat.zero_le _, al, s1, AlX.refl al, Stay.refl H1, R1, p.shift (AlX.refl al) x1.st⟩, ?_⟩
  rintro i m σ2 H2 ⟨rfl, hi2, al2, s2, a2, st2, R2, P2⟩
  obtain ⟨wk1, wk2⟩ := wk H2 st2
  by_cases hlt : i < ds.length
  · refine .inr ?_
    have hget : ds[i]? = some ds[i] := List.getElem?_eq_getElem hlt
    obtain ⟨g1, g2⟩ := wk1 i _ hget
    refine ⟨g1, fun σ' H' => ∃ al' s', AlX al al' ∧ Stay H1 H' ∧ Rel g b al' s' σ' H' ∧ PostS g b W D al' H' (forGo (bindT tg) fb (ds.drop (i + 1)) s'), fun σ' H' h => ⟨ds.length - (i + 1), by omega, rfl, hlt, h⟩, fun x H3 y3 => ?_⟩
    obtain ⟨k3, r3⟩ := g2 x H3 y3
    have R3 := R2.more k3
    have st3 : Stay H2 H3 := ⟨fun a xs e => k3 _ _ e, fun a o u e => k3 _ _ e, fun a fs e => k3 _ _ e⟩
    rw [show ds.drop i = ds[i] :: ds.drop (i + 1) from List.drop_eq_getElem_cons hlt] at P2
    unfold forGo at P2
    cases qb : bindT tg ds[i] s2 with
    | none => rw [qb] at P2; exact P2.elim
    | some s3 =>
    rw [qb] at P2
    refine tg_run hK tg b al2 s2 σ2 H3 _ x s3 _ R3 (r3.stay (al' := al2) (Stay.refl _) a2) qb fun σ4 R4 _ => ⟨b, al2, s3, R4, ?_⟩
    dsimp only at P2
    cases qf : fb s3 with
    | next s4 =>
      rw [qf] at P2
      exact fun al' σ' H' a x R' => ⟨al', s4, a2.trans a, (st2.trans st3).trans x, R', PostS.shift P2 a (st3.trans x)⟩
    | cnt s4 =>
      rw [qf] at P2
      exact fun al' σ' H' a x R' => ⟨al', s4, a2.trans a, (st2.trans st3).trans x, R', PostS.shift P2 a (st3.trans x)⟩
    | brk s4 =>
      rw [qf] at P2
      exact fun al' σ' H' a x R' => P2 al' σ' H' a (st3.trans x) R'
    | ret rv s4 =>
      rw [qf] at P2
      exact fun al' σ' v H' a x R' => P2 al' σ' v H' a (st3.trans x) R'
    | exc cc d s4 =>
      rw [qf] at P2
      exact fun al' σ' cls dd H' a x R' => P2 al' σ' cls dd H' a (st3.trans x) R'
    | bad => rw [qf] at P2; exact P2.elim
  · refine .inl ⟨wk2 i (by omega), ?_⟩
    have : i = ds.length := by omega
    rw [this, List.drop_length] at P2
    exact P2 al2 σ2 H2 (AlX.refl _) (Stay.refl _) R2
end
end PI

namespace PI
open PySem PySem.Spec PyProof.Rows L2

/-! ### the state after a store -/
section
variable {g : G} {b : B} {al : List Addr} {s : S} {σ : L2.St} {H : Hp}
theorem get_set {α : Type} {l : List α} {i j : Nat} {x y : α} (h : (l.set i x)[j]? = some y) : (i = j ∧ x = y ∧ i < l.length) ∨ (i ≠ j ∧ l[j]? = some y) := by
  by_cases hj : i = j
  · subst hj
    by_cases hl : i < l.length
    · rw [List.getElem?_set_self hl] at h
      exact .inl ⟨rfl, Option.some.inj h, hl⟩
    · rw [List.getElem?_eq_none (by rw [List.length_set]; omega)] at h; cases h
  · rw [List.getElem?_set_ne hj] at h
    exact .inr ⟨hj, h⟩
/-- a new own thing goes to a slot -/
theorem Rel.setNew (r : Rel g b al s σ H) (i : Nat) {x : Sl} {a : Addr} (q : SlRep g b al H x (.ref a)) (aw : Away s.t σ a) : Rel g b al { s with t := s.t.set i (some x) } (σ.set i (some (.ref a))) H := by
  refine ⟨by rw [List.length_set, List.length_set]; exact r.len, fun j y e => ?_, fun j k y z c hjk ej ek oy oz e1 => ?_, r.cell, r.alen, r.nd, r.base, r.anew, r.apre⟩
  · rcases get_set e with ⟨rfl, e2, hl⟩ | ⟨hj, e2⟩
    · cases e2
      exact ⟨_, by rw [List.getElem?_set_self (by rw [← r.len]; exact hl)], q⟩
    · rw [List.getElem?_set_ne hj]
      exact r.sl j y e2
  · rcases get_set ej with ⟨rfl, e2, hl⟩ | ⟨hj, e2⟩
    · have : i ≠ k := hjk
      rw [List.getElem?_set_self (by rw [← r.len]; exact hl)] at e1
      cases e1
      rw [List.getElem?_set_ne this]
      rw [List.getElem?_set_ne this] at ek
      exact aw k z ek oz
    · rw [List.getElem?_set_ne hj] at e1
      rcases get_set ek with ⟨rfl, e3, hl⟩ | ⟨hk, e3⟩
      · rw [List.getElem?_set_self (by rw [← r.len]; exact hl)]
        intro z
        cases z
        exact aw j y e2 oy e1
      · rw [List.getElem?_set_ne hk]
        exact r.inj j k y z c hjk e2 e3 oy oz e1
theorem nodup_at {α : Type} {l : List α} (h : l.Nodup) {i j : Nat} {x : α} (h1 : l[i]? = some x) (h2 : l[j]? = some x) : i = j := by
  obtain ⟨i1, i2⟩ := List.getElem?_eq_some_iff.mp h1
  obtain ⟨j1, j2⟩ := List.getElem?_eq_some_iff.mp h2
  have p := List.pairwise_iff_getElem.mp h
  rcases Nat.lt_trichotomy i j with z | z | z
  · exact absurd (i2.trans j2.symm) (p i j i1 j1 z)
  · exact z
  · exact absurd (j2.trans i2.symm) (p j i j1 i1 z)
theorem stay_lst {a : Addr} {vs ws : List V} (h : H a = some (.lst vs)) : Stay H (upd H a (.lst ws)) :=
  ⟨fun c xs e => by rw [upd_ne (ne_of e h (by intro z; cases z))]; exact e, fun c x u e => by rw [upd_ne (ne_of e h (by intro z; cases z))]; exact e, fun c fs e => by rw [upd_ne (ne_of e h (by intro z; cases z))]; exact e⟩
theorem stay_dK {a : Addr} {vs ws : List (Key × V)} (h : H a = some (.dK vs)) : Stay H (upd H a (.dK ws)) :=
  ⟨fun c xs e => by rw [upd_ne (ne_of e h (by intro z; cases z))]; exact e, fun c x u e => by rw [upd_ne (ne_of e h (by intro z; cases z))]; exact e, fun c fs e => by rw [upd_ne (ne_of e h (by intro z; cases z))]; exact e⟩
/-- the own list of a slot is written -/
theorem Rel.writeOwn (r : Rel g b al s σ H) {i : Nat} {ds es : List D} {a : Addr} {vs ws : List V} (hi : s.t[i]? = some (some (.own ds))) (hσ : σ[i]? = some (some (.ref a))) (h : H a = some (.lst vs)) (q : Reps g.K al H es ws) (n : a ∉ al) (hb : b.Hb a = none) :
    Rel g b al { s with t := s.t.set i (some (.own es)) } σ (upd H a (.lst ws)) := by
  have st := stay_lst (ws := ws) h
  have hlt : i < s.t.length := (List.getElem?_eq_some_iff.mp hi).1
  refine ⟨by rw [List.length_set]; exact r.len, fun j x e => ?_, fun j k x y c hjk ej ek ox oy e1 => ?_, fun c fs e => ?_, r.alen, r.nd, fun c u e m => ?_, r.anew, r.apre⟩
  · rcases get_set e with ⟨rfl, e2, hl⟩ | ⟨hj, e2⟩
    · cases e2
      exact ⟨_, hσ, a, ws, rfl, upd_same, q.stay st fun _ _ z => z, n, hb⟩
    · obtain ⟨v, e1, z⟩ := r.sl j x e2
      refine ⟨v, e1, ?_⟩
      cases x with
      | val d => exact z.stay st fun _ _ z => z
      | own fs =>
        obtain ⟨c, us, ev, h1, h2, h3⟩ := z
        have : c ≠ a := fun w => by subst ev; subst w; exact r.inj i j _ _ c hj hi e2 rfl rfl hσ e1
        exact ⟨c, us, ev, by rw [upd_ne this]; exact h1, h2.stay st fun _ _ z => z, h3⟩
      | dct kvs =>
        obtain ⟨c, us, ev, h1, h2, h3⟩ := z
        have : c ≠ a := fun z => by subst z; rw [h] at h1; cases h1
        exact ⟨c, us, ev, by rw [upd_ne this]; exact h1, h2.stay st fun _ _ z => z, h3⟩
      | exc c d =>
        obtain ⟨a', dd, w, e1, e2, e3, e4⟩ := z
        exact ⟨a', dd, w, e1, e2, st.xd _ _ e3, e4.stay st fun _ _ z => z⟩
  · have ej' : ∃ x', s.t[j]? = some (some x') ∧ x'.isOwn = true := by
      rcases get_set ej with ⟨rfl, e2, hl⟩ | ⟨hj, e2⟩
      · exact ⟨_, hi, rfl⟩
      · exact ⟨x, e2, ox⟩
    have ek' : ∃ x', s.t[k]? = some (some x') ∧ x'.isOwn = true := by
      rcases get_set ek with ⟨rfl, e2, hl⟩ | ⟨hj, e2⟩
      · exact ⟨_, hi, rfl⟩
      · exact ⟨y, e2, oy⟩
    obtain ⟨x', e2, o2⟩ := ej'
    obtain ⟨y', e3, o3⟩ := ek'
    exact r.inj j k x' y' c hjk e2 e3 o2 o3 e1
  · obtain ⟨c', us, e1, e2, e3⟩ := r.cell c fs e
    have : c' ≠ a := fun z => n (z ▸ List.mem_of_getElem? e1)
    exact ⟨c', us, e1, by rw [upd_ne this]; exact e2, e3.stay st fun _ _ z => z⟩
  · have : c ≠ a := fun z => by subst z; rw [hb] at e; cases e
    rw [upd_ne this]; exact r.base c u e m
/-- a shared list is written -/
theorem Rel.writeCell (r : Rel g b al s σ H) {k : Nat} {es : List D} {a : Addr} {vs ws : List V} (hk : al[k]? = some a) (h : H a = some (.lst vs)) (q : Reps g.K al H es ws) :
    Rel g b al { s with h := s.h.set k es } σ (upd H a (.lst ws)) := by
  have st := stay_lst (ws := ws) h
  have ha := List.mem_of_getElem? hk
  refine ⟨r.len, fun j x e => ?_, r.inj, fun c fs e => ?_, by rw [r.alen, List.length_set], r.nd, fun c u e m => ?_, r.anew, r.apre⟩
  · obtain ⟨v, e1, z⟩ := r.sl j x e
    refine ⟨v, e1, ?_⟩
    cases x with
    | val d => exact z.stay st fun _ _ z => z
    | own fs =>
      obtain ⟨c, us, ev, h1, h2, h3, h4⟩ := z
      have : c ≠ a := fun w => by subst w; exact h3 ha
      exact ⟨c, us, ev, by rw [upd_ne this]; exact h1, h2.stay st fun _ _ z => z, h3, h4⟩
    | dct kvs =>
      obtain ⟨c, us, ev, h1, h2, h3⟩ := z
      have : c ≠ a := fun z => by subst z; rw [h] at h1; cases h1
      exact ⟨c, us, ev, by rw [upd_ne this]; exact h1, h2.stay st fun _ _ z => z, h3⟩
    | exc c d =>
      obtain ⟨a', dd, w, e1, e2, e3, e4⟩ := z
      exact ⟨a', dd, w, e1, e2, st.xd _ _ e3, e4.stay st fun _ _ z => z⟩
  · rcases get_set e with ⟨rfl, rfl, hl⟩ | ⟨hj, e2⟩
    · exact ⟨a, ws, hk, upd_same, q.stay st fun _ _ z => z⟩
    · obtain ⟨c', us, e1, e3, e4⟩ := r.cell c fs e2
      have : c' ≠ a := fun z => by
        subst z
        exact hj (nodup_at r.nd hk e1)
      exact ⟨c', us, e1, by rw [upd_ne this]; exact e3, e4.stay st fun _ _ z => z⟩
  · have : c ≠ a := fun z => by
      subst z
      rcases r.anew c ha with z | z
      · exact m z
      · rw [z] at e; cases e
    rw [upd_ne this]; exact r.base c u e m
/-- the own dict of a slot is written -/
theorem Rel.writeDct (r : Rel g b al s σ H) {i : Nat} {ds es : List (Key × D)} {a : Addr} {vs ws : List (Key × V)} (hi : s.t[i]? = some (some (.dct ds))) (hσ : σ[i]? = some (some (.ref a))) (h : H a = some (.dK vs)) (q : KRep g.K al H es ws) (n : a ∉ al) (hb : b.Hb a = none) :
    Rel g b al { s with t := s.t.set i (some (.dct es)) } σ (upd H a (.dK ws)) := by
  have st := stay_dK (ws := ws) h
  have hlt : i < s.t.length := (List.getElem?_eq_some_iff.mp hi).1
  refine ⟨by rw [List.length_set]; exact r.len, fun j x e => ?_, fun j k x y c hjk ej ek ox oy e1 => ?_, fun c fs e => ?_, r.alen, r.nd, fun c u e m => ?_, r.anew, r.apre⟩
  · rcases get_set e with ⟨rfl, e2, hl⟩ | ⟨hj, e2⟩
    · cases e2
      exact ⟨_, hσ, a, ws, rfl, upd_same, q.stay st fun _ _ z => z, n, hb⟩
    · obtain ⟨v, e1, z⟩ := r.sl j x e2
      refine ⟨v, e1, ?_⟩
      cases x with
      | val d => exact z.stay st fun _ _ z => z
      | own fs =>
        obtain ⟨c, us, ev, h1, h2, h3⟩ := z
        have : c ≠ a := fun w => by subst w; rw [h] at h1; cases h1
        exact ⟨c, us, ev, by rw [upd_ne this]; exact h1, h2.stay st fun _ _ z => z, h3⟩
      | dct kvs =>
        obtain ⟨c, us, ev, h1, h2, h3⟩ := z
        have : c ≠ a := fun w => by subst ev; subst w; exact r.inj i j _ _ c hj hi e2 rfl rfl hσ e1
        exact ⟨c, us, ev, by rw [upd_ne this]; exact h1, h2.stay st fun _ _ z => z, h3⟩
      | exc c d =>
        obtain ⟨a', dd, w, e1, e2, e3, e4⟩ := z
        exact ⟨a', dd, w, e1, e2, st.xd _ _ e3, e4.stay st fun _ _ z => z⟩
  · have ej' : ∃ x', s.t[j]? = some (some x') ∧ x'.isOwn = true := by
      rcases get_set ej with ⟨rfl, e2, hl⟩ | ⟨hj, e2⟩
      · exact ⟨_, hi, rfl⟩
      · exact ⟨x, e2, ox⟩
    have ek' : ∃ x', s.t[k]? = some (some x') ∧ x'.isOwn = true := by
      rcases get_set ek with ⟨rfl, e2, hl⟩ | ⟨hj, e2⟩
      · exact ⟨_, hi, rfl⟩
      · exact ⟨y, e2, oy⟩
    obtain ⟨x', e2, o2⟩ := ej'
    obtain ⟨y', e3, o3⟩ := ek'
    exact r.inj j k x' y' c hjk e2 e3 o2 o3 e1
  · obtain ⟨c', us, e1, e2, e3⟩ := r.cell c fs e
    have : c' ≠ a := fun z => by subst z; rw [h] at e2; cases e2
    exact ⟨c', us, e1, by rw [upd_ne this]; exact e2, e3.stay st fun _ _ z => z⟩
  · have : c ≠ a := fun z => by subst z; rw [hb] at e; cases e
    rw [upd_ne this]; exact r.base c u e m
/-- a new list becomes a shared one -/
theorem Rel.share (r : Rel g b al s σ H) {ds : List D} {a : Addr} {vs : List V} (h : H a = some (.lst vs)) (q : Reps g.K al H ds vs) (n : a ∉ al) (hb : b.Hb a = none) (aw : Away s.t σ a) :
    Rel g b (al ++ [a]) { s with h := s.h ++ [ds] } σ H ∧ AlX al (al ++ [a]) ∧ (al ++ [a])[s.h.length]? = some a := by
  have ax : AlX al (al ++ [a]) := fun k c e => by rw [List.getElem?_append_left (List.getElem?_eq_some_iff.mp e).1]; exact e
  have st := Stay.refl H
  refine ⟨⟨r.len, fun j x e => ?_, r.inj, fun c fs e => ?_, by simp [r.alen], ?_, fun c u e m => r.base c u e m, fun c hc => ?_, fun k c e => ax k c (r.apre k c e)⟩, ax, by rw [← r.alen]; simp⟩
  · obtain ⟨v, e1, z⟩ := r.sl j x e
    refine ⟨v, e1, ?_⟩
    have no : ∀ c, v = .ref c → x.isOwn = true → c ∉ al → c ∉ al ++ [a] := fun c ev o h3 hm => by
      rcases List.mem_append.mp hm with hm | hm
      · exact h3 hm
      · subst ev
        cases List.mem_singleton.mp hm
        exact aw j x e o e1
    cases x with
    | val d => exact z.stay st ax
    | own fs =>
      obtain ⟨c, us, ev, h1, h2, h3, h4⟩ := z
      exact ⟨c, us, ev, h1, h2.stay st ax, no c ev rfl h3, h4⟩
    | dct kvs =>
      obtain ⟨c, us, ev, h1, h2, h3, h4⟩ := z
      exact ⟨c, us, ev, h1, h2.stay st ax, no c ev rfl h3, h4⟩
    | exc c d =>
      obtain ⟨a', dd, w, e1, e2, e3, e4⟩ := z
      exact ⟨a', dd, w, e1, e2, e3, e4.stay st ax⟩
  · by_cases hc : c < s.h.length
    · have e : (s.h ++ [ds])[c]? = some fs := e
      rw [List.getElem?_append_left hc] at e
      obtain ⟨c', us, e1, e2, e3⟩ := r.cell c fs e
      exact ⟨c', us, ax _ _ e1, e2, e3.stay st ax⟩
    · have e : (s.h ++ [ds])[c]? = some fs := e
      have hl := (List.getElem?_eq_some_iff.mp e).1
      simp at hl
      have hc2 : c = s.h.length := by omega
      subst hc2
      simp at e
      subst e
      exact ⟨a, vs, by rw [← r.alen]; simp, h, q.stay st ax⟩
  · rw [List.nodup_append]
    refine ⟨r.nd, by simp, fun x hx y hy => ?_⟩
    cases List.mem_singleton.mp hy
    exact fun z => n (z ▸ hx)
  · rcases List.mem_append.mp hc with hc | hc
    · exact r.anew c hc
    · cases List.mem_singleton.mp hc
      exact .inr hb
theorem KRep.put {kvs : List (Key × D)} {ws : List (Key × V)} {q : Key} {d : D} {v : V} (h : KRep g.K al H kvs ws) (r : Rep g.K al H d v) : KRep g.K al H (kput kvs q d) (putK ws q v) := by
  have ha : (kvs.any fun kv => decide (kv.1 = q)) = (ws.any fun kv => decide (kv.1 = q)) := by
    induction h with
    | nil => rfl
    | cons p t ih => simp only [List.any_cons, p.1, ih]
  unfold kput putK
  rw [ha]
  split
  · rename_i hh
    clear hh ha
    induction h with
    | nil => exact .nil
    | cons p t ih =>
      rw [List.map_cons, List.map_cons]
      refine .cons ?_ ih
      obtain ⟨p1, p2⟩ := p
      rw [← p1]
      split
      · exact ⟨rfl, r⟩
      · exact ⟨p1, p2⟩
  · clear ha
    rename_i hh
    clear hh
    induction h with
    | nil => exact .cons ⟨rfl, r⟩ .nil
    | cons p t ih => exact .cons p ih
theorem Rel.rvOwn (r : Rel g b al s σ H) {i : Nat} {ds : List D} {v : V} (h : RVRep g b al s σ H (.loc i ds) v) : SlRep g b al H (.own ds) v := by
  obtain ⟨w, e1, q⟩ := r.sl i _ h.1
  rw [h.2] at e1; cases e1
  exact q
end
end PI

namespace PI
open PySem PySem.Spec PyProof.Rows L2
section
variable {X : Cx} {g : G} {b : B} {W : WX} {al al' : List Addr} {σ : L2.St} {H H' : Hp}
/-- what a result leaves in a slot -/
theorem put_end {D : Ends} {i : Nat} {r : RV} {s1 : S} {v : V} {H1 : Hp} (R1 : Rel g b al s1 σ H1) (p : PostS g b W D al H (putR i r s1)) (x1 : Ext al H H1) (rv : RVRep g b al s1 σ H1 r v) :
    (D.nx (σ.set i (some v)) H1) ∨ ∃ a vs, v = .ref a ∧ H1 a = some (.lst vs) ∧ ∀ o, D.nx (σ.set i (some v)) (upd H1 a (.frz o (.lst vs))) := by
  cases r with
  | val d => exact .inl (p al _ H1 (AlX.refl al) x1.st (R1.setVal i rv))
  | own ds =>
    obtain ⟨a, vs, rfl, h1, h2, h3, h4, h5⟩ := rv
    exact .inl (p al _ H1 (AlX.refl al) x1.st (R1.setNew i (x := .own ds) ⟨a, vs, rfl, h1, h2, h3, h4⟩ h5))
  | dct ds =>
    obtain ⟨a, vs, rfl, h1, h2, h3, h4, h5⟩ := rv
    exact .inl (p al _ H1 (AlX.refl al) x1.st (R1.setNew i (x := .dct ds) ⟨a, vs, rfl, h1, h2, h3, h4⟩ h5))
  | loc j ds =>
    obtain ⟨a, vs, rfl, h3, h4, h5, h6⟩ := R1.own rv.1 rv.2
    refine .inr ⟨a, vs, rfl, h3, fun o => ?_⟩
    obtain ⟨k1, k2⟩ := R1.frzLoc (o := o) rv.1 rv.2 h3 h4 h5 h6
    exact p al _ _ (AlX.refl al) (x1.st.trans (stay_frz h3)) (k1.setVal i k2)
  | ldc j ds => exact p.elim
/-- name = e -/
theorem ps_setN {i : Nat} {x : Str} {e : Expr} {f : S → Res RV} {pos pos' : Pos} (nd : X.N.Nodup) (h : NmOk X i x) (he : PE X e (rdE g W f)) (hs : swapsWith e (some (.Name x pos')) pos.line X.env = pure false) :
    PS X (.Assign [.Name x pos'] e pos) (rdS g W fun s => (f s).run fun r s => putR i r s) := (ps_set nd h.ix h.loc he.frz hs h.fn).mono fun D σ H ⟨b, al, s, R, P⟩ =>
  ⟨b, al, s, R, (run_post P).mono fun r s1 p v H1 x1 R1 rv => put_end R1 p x1 rv⟩
theorem own_end {D : Ends} {i : Nat} {r : Res RV} (P : PostX g b al W σ H (fun a s => PostS g b W D al H (putR i a s)) r) (ow : ∀ rv s, r = .ok rv s → ∃ ds, rv = .own ds) :
    PostX g b al W σ H (okR g b al σ H (fun r s' v H' => RVRep g b al s' σ H' r v) (gName i · σ · D.nx)) r := by
  cases r with
  | ok r s1 =>
    intro v H1 x1 R1 rv
    obtain ⟨ds, rfl⟩ := ow _ _ rfl
    obtain ⟨a, vs, rfl, h1, h2, h3, h4, h5⟩ := rv
    exact P al _ H1 (AlX.refl al) x1.st (R1.setNew i (x := .own ds) ⟨a, vs, rfl, h1, h2, h3, h4⟩ h5)
  | exc c d s1 => exact P
  | bad => exact P
/-- name = a list comprehension (stored within the block) -/
theorem ps_setC {i : Nat} {y : Str} {py : Pos} {elt tge iter : Expr} {ifs : List Expr} {scope : Scope} {own : List (Str × Nat)} {pos spos : Pos} {tg : MT} {fi : S → Res (List PI.D)} {fc : S → Res Bool} {fe : S → Res PI.D}
    (hc : X.calm = true) (hN : X.N.Nodup) (hy : X.N[i]? = some y) (hyl : X.env.scope.names.lookup y = some .local) (hsw : swapsWith (.ListComp elt [⟨tge, iter, ifs, 0⟩] scope pos) (some (.Name y py)) spos.line X.env = pure true)
    (hi : L2.PI X tge iter (rdI g W fi)) (ok : BlkOk X.N X.env.scope scope own) (ho : own.map (·.2) = tg.ids)
    (gt : TG) (hg : ∀ (s : Shared) (H : Hp) (C : Addr) (cl : List (Str × Addr)) (fp : List Addr), PG (X.blk s H scope (compEnvC scope cl C X.env) fp) tge gt)
    (hgt : ∀ (b : B) (al : List Addr) (s : S) (σ : L2.St) (H : Hp) (d : PI.D) (x : V) (s2 : S) (Q : L2.St → Hp → Prop), Rel g b al s σ H → Rep g.K al H d x → bindT tg d s = some s2 →
      (∀ σ2, Rel g b al s2 σ2 H → SameOff tg.ids σ σ2 → Q σ2 H) → gt x σ H Q)
    (ht : ∀ (s : Shared) (H : Hp) (C : Addr) (cl : List (Str × Addr)) (fp : List Addr), PTs (X.blk s H scope (compEnvC scope cl C X.env) fp) ifs (rdT g W0 fc))
    (he : ∀ (s : Shared) (H : Hp) (C : Addr) (cl : List (Str × Addr)) (fp : List Addr), PE (X.blk s H scope (compEnvC scope cl C X.env) fp) elt (rdV g W0 fe))
    (hs : ∀ x, foldedSetIterable iter X.env x = pure x) :
    PS X (.Assign [.Name y py] (.ListComp elt [⟨tge, iter, ifs, 0⟩] scope pos) spos) (rdS g W fun s => (((fi s).bind fun items s => match lcGo (lcTurn tg fc fe) [] items s with
      | .ok ds s1 => .ok (.own ds) { s1 with t := backT s1.t s.t tg.ids }
      | _ => .bad) : Res RV).run fun r s => putR i r s) := (ps_setLc hc hN hy hyl hsw hi ok hg ht he hs).mono fun D σ H ⟨b, al, s, R, P⟩ => by
  have P' := run_post (σ := σ) P
  refine pe_lc' (pos := pos) hc hN hi ok ho gt hg hgt ht he hs rfl σ H _ ⟨b, al, s, R, own_end P' fun r s1 q => ?_⟩
  dsimp only at q
  cases q1 : fi s with
  | ok items s2 =>
    rw [q1] at q
    simp only [Res.bind] at q
    split at q
    · cases q; exact ⟨_, rfl⟩
    · cases q
  | exc _ _ _ => rw [q1] at q; cases q
  | bad => rw [q1] at q; cases q
/-- name = a new list that is shared from then on -/
theorem ps_shr {i : Nat} {x : Str} {e : Expr} {f : S → Res RV} {pos pos' : Pos} (nd : X.N.Nodup) (h : NmOk X i x) (he : PE X e (rdE g W f)) (hs : swapsWith e (some (.Name x pos')) pos.line X.env = pure false) :
    PS X (.Assign [.Name x pos'] e pos) (rdS g W fun s => (f s).run fun r s => match r with
    | .own ds => .next { t := s.t.set i (some (.val (.ref s.h.length))), h := s.h ++ [ds] }
    | _ => .bad) := (ps_set nd h.ix h.loc he hs h.fn).mono fun D σ H ⟨b, al, s, R, P⟩ =>
  ⟨b, al, s, R, (run_post P).mono fun r s1 p v H1 x1 R1 rv => by
    cases r with
    | own ds =>
      obtain ⟨a, vs, rfl, h1, h2, h3, h4, h5⟩ := rv
      obtain ⟨R2, ax, ha⟩ := R1.share h1 h2 h3 h4 h5
      exact p (al ++ [a]) _ H1 ax x1.st (R2.setVal i (d := .ref s1.h.length) (by unfold Rep; exact ⟨a, ha, rfl⟩))
    | _ => exact p.elim⟩
/-- a tuple of names = e -/
theorem ps_setT {is : List Nat} {tge e : Expr} {f : S → Res RV} {pos : Pos} (hK : X.K = g.K) (nd : X.N.Nodup) (ht : TgE X (.tup is) tge) (he : PE X e (rdE g W f)) (hs : swapsWithSole [tge] e pos.line X.env = pure false) (hw : swappedStores [tge] e X.env = pure none) :
    PS X (.Assign [tge] e pos) (rdS g W fun s => (toV (f s)).run fun d s => match bindT (.tup is) d s with | some s => .next s | none => .bad) := by
  have h1 : (assignEach [tge] X.env).map (·.2) = [assign tge X.env] := by cases ht; rfl
  refine (ps_asg (pe_V he) (tg_pg nd ht) hs hw h1).mono fun D σ H ⟨b, al, s, R, P⟩ => ⟨b, al, s, R, (run_post P).mono fun d s1 p v H1 x1 R1 r1 => ?_⟩
  cases q : bindT (.tup is) d s1 with
  | none => rw [q] at p; exact p.elim
  | some s2 =>
    rw [q] at p
    exact tg_run hK (.tup is) b al s1 σ H1 d v s2 _ R1 r1 q fun σ2 R2 _ => p al σ2 H1 (AlX.refl al) x1.st R2
/-- a, b = e, f -/
theorem ps_parN {i j : Nat} {x y : Str} {ea eb : Expr} {fa fb : S → Res RV} {px py pt pos : Pos} {kt k2 : Nat} {pt2 : Pos} (hc : X.calm = true) (nd : X.N.Nodup) (hi : X.N[i]? = some x) (hj : X.N[j]? = some y) (hij : i ≠ j)
    (hx : X.env.scope.names.lookup x = some .local) (hy : X.env.scope.names.lookup y = some .local) (ha : PE X ea (rdE g W fa)) (hb : PE X eb (rdE g W fb)) (hsa : notStar ea = true) (hsb : notStar eb = true)
    (hw : swappedStores [.Tuple [.Name x px, .Name y py] kt pt] (.Tuple [ea, eb] k2 pt2) X.env = pure (some [x, y])) (hs : swapsWithSole [.Tuple [.Name x px, .Name y py] kt pt] (.Tuple [ea, eb] k2 pt2) pos.line X.env = pure false) :
    PS X (.Assign [.Tuple [.Name x px, .Name y py] kt pt] (.Tuple [ea, eb] k2 pt2) pos) (rdS g W fun s => (toV (fa s)).run fun x s => (toV (fb s)).run fun y s => .next { s with t := (s.t.set i (some (.val x))).set j (some (.val y)) }) := by
  have h1 : PA X [ea, eb] (rdA g W false fun s => (toV (fa s)).bind fun d s => ((toV (fb s)).bind fun d s => (Res.ok [] s : Res (List PI.D)).bind fun ds s => .ok (d :: ds) s).bind fun ds s => .ok (d :: ds) s) :=
    pa_cons' hsa (by exact pe_V ha) (pa_cons' hsb (by exact pe_V hb) pa_nil')
  refine (ps_par hc nd hi hj hij hx hy h1 hw hs).mono fun D σ H ⟨b, al, s, R, P⟩ => ⟨b, al, s, R, ?_⟩
  rw [postX_bind]
  refine (run_post P).mono fun d s1 p => ?_
  rw [postX_bind, postX_bind]
  refine (run_post p).mono fun d2 s2 p2 vs H1 x1 R1 rs => ?_
  simp only [Bool.false_eq_true, if_false] at rs
  obtain ⟨v, r, rfl, r1, rs⟩ := rs.inv
  obtain ⟨w, r, rfl, r2, rs⟩ := rs.inv
  rw [rs.inv0]
  exact ⟨v, w, rfl, p2 al _ H1 (AlX.refl al) x1.st ((R1.setVal i r1).setVal j r2)⟩
/-- name += e -/
theorem ps_augN {i : Nat} {x : Str} {e : Expr} {o : BOp} {f : S → Res RV} {op : Operator} {pos pos' : Pos} (nd : X.N.Nodup) (h : NmOk X i x) (he : PE X e (rdE g W f)) (ho : (o = .add ∧ op = .Add) ∨ (o = .sub ∧ op = .Sub)) :
    PS X (.AugAssign (.Name x pos') op e pos) (rdS g W fun s => (toP (slGet s i)).run fun x s => (toP (f s)).run fun y s => match augD o x y with
      | some z => .next { s with t := s.t.set i (some (.val (.int z))) }
      | none => .bad) := by
  have key : ∃ ti : TIp, PIp X op ti ∧ ∀ (x y : PI.D) (z : Int) (v u : V) (H : Hp) (Q : VK) (al : List Addr), augD o x y = some z → PRep g.K al H x v → PRep g.K al H y u → Q (.int z) H → ti v u H Q := by
    rcases ho with ⟨rfl, rfl⟩ | ⟨rfl, rfl⟩
    · refine ⟨_, ip_add, fun x y z v u H Q al e r1 r2 q => ?_⟩
      cases x <;> cases y <;> simp only [augD] at e <;> cases e
      exact ⟨_, _, r1.int, r2.int, q⟩
    · refine ⟨_, ip_sub, fun x y z v u H Q al e r1 r2 q => ?_⟩
      cases x <;> cases y <;> simp only [augD] at e <;> cases e
      exact ⟨_, _, r1.int, r2.int, q⟩
  obtain ⟨ti, hti, k⟩ := key
  refine (ps_aug nd h.ix h.loc (pe_P he) hti h.fn).mono fun D σ H ⟨b, al, s, R, P⟩ => ?_
  have P := run_post (σ := σ) P
  unfold toP at P
  rw [postX_bind] at P
  have P0 := P
  unfold slGet at P
  cases q : s.t[i]? with
  | none => rw [q] at P; exact P.elim
  | some sl =>
    cases sl with
    | none => rw [q] at P; exact P.elim
    | some sl =>
      obtain ⟨v, ev, rep⟩ := R.sl i sl q
      rw [q] at P
      refine ⟨v, ev, b, al, s, R, ?_⟩
      cases sl with
      | val d =>
        refine (run_post (show PostS g b W D al H _ from P)).mono fun y s1 p u H1 x1 R1 r1 => ?_
        cases qa : augD o d y with
        | none => rw [qa] at p; exact p.elim
        | some z =>
          rw [qa] at p
          exact k d y z v u H1 _ al qa (.inl (rep.stay x1.st fun _ _ z => z)) r1 (p al _ H1 (AlX.refl al) x1.st (R1.setVal i (by unfold Rep; rfl)))
      | own ds =>
        refine (run_post (show PostS g b W D al H _ from P)).mono fun y s1 p u H1 x1 R1 r1 => ?_
        have : augD o (.lst ds) y = none := by cases o <;> cases y <;> rfl
        rw [this] at p
        exact p.elim
      | dct ds => exact P.elim
      | exc c d => exact P.elim
end
end PI

namespace PI
open PySem PySem.Spec PyProof.Rows L2
section
variable {X : Cx} {g : G} {b : B} {W : WX} {D : Ends} {al al' : List Addr} {σ : L2.St} {H H' : Hp} {s : S}
/-- what a store is aimed at -/
def Tgt (al : List Addr) (σ : L2.St) : RV → V → Prop
  | .val (.ref c), v => ∃ a, al[c]? = some a ∧ v = .ref a
  | .loc i _, v => σ[i]? = some (some v)
  | .ldc i _, v => σ[i]? = some (some v)
  | _, _ => True
theorem RVRep.tgt {r : RV} {v : V} (h : RVRep g b al s σ H r v) : Tgt al σ r v := by
  cases r with
  | val d =>
    cases d with
    | ref k => have h : Rep g.K al H (.ref k) v := h; unfold Rep at h; exact h
    | _ => exact trivial
  | own _ => exact trivial
  | dct _ => exact trivial
  | loc i ds => exact h.2
  | ldc i ds => exact h.2
def rSetD : V → V → V → Hp → (Hp → Prop) → Prop := fun o i v H Q => ∃ a H', o = .ref a ∧ DPut H a i v H' ∧ Q H'
theorem set_dict (hu : X.A.units + 1 < cLine) : PSet X rSetD := by
  intro pins s σ H o i v ov iv u Q I ro ri rv h
  obtain ⟨a, H', rfl, g, q⟩ := h
  cases ro
  exact d_setItem hu I g ri rv fun s' I' => ⟨H', I', q⟩
theorem set_or {t t' : TSet} (h : PSet X t) (h' : PSet X t') : PSet X (fun o i v H Q => t o i v H Q ∨ t' o i v H Q) := by
  intro pins s σ H o i v ov iv u Q I ro ri rv h0
  rcases h0 with h0 | h0
  · exact h pins s σ H o i v ov iv u Q I ro ri rv h0
  · exact h' pins s σ H o i v ov iv u Q I ro ri rv h0
theorem kV_of {k : PI.D} {q : Key} {v : V} (h : keyOf k = some q) (r : PRep g.K al H k v) : v = kV q := by
  cases k <;> simp only [keyOf] at h <;> cases h
  · exact r.int
  · exact r.str
theorem put_run {H0 : Hp} {r : RV} {k d : PI.D} {o i v : V} (R : Rel g b al s σ H) (tg : Tgt al σ r o) (rk : PRep g.K al H k i) (rd : Rep g.K al H d v) (P : PostS g b W D al H0 (putAt r k d s)) (st : Stay H0 H) :
    rSetL o i v H (D.nx σ) ∨ rSetD o i v H (D.nx σ) := by
  unfold putAt at P
  split at P
  · rename_i c
    obtain ⟨a, ha, rfl⟩ := tg
    split at P
    · rename_i k' ds e
      split at P
      · rename_i j hj
        obtain ⟨a', vs, e1, e2, e3⟩ := R.cell _ _ e
        rw [ha] at e1; cases e1
        refine .inl ⟨a, vs, _, j, rfl, rk.int, e2, by rw [← e3.length]; exact hj, ?_⟩
        have st2 := stay_lst (ws := vs.set j v) e2
        exact P al σ _ (AlX.refl al) (st.trans st2) (R.writeCell ha e2 (e3.set j rd))
      · exact P.elim
    · exact P.elim
  · rename_i ix ds0
    split at P
    · rename_i k' ds e
      split at P
      · rename_i j hj
        obtain ⟨w, ew, a, vs, rfl, e2, e3, e4, e5⟩ := R.sl ix _ e
        have tg : σ[ix]? = some (some o) := tg
        rw [ew] at tg; cases tg
        refine .inl ⟨a, vs, _, j, rfl, rk.int, e2, by rw [← e3.length]; exact hj, ?_⟩
        have st2 := stay_lst (ws := vs.set j v) e2
        exact P al σ _ (AlX.refl al) (st.trans st2) (R.writeOwn e ew e2 (e3.set j rd) e4 e5)
      · exact P.elim
    · exact P.elim
  · rename_i ix ds0
    split at P
    · rename_i q kvs eq e
      split at P
      · rename_i hl
        obtain ⟨w, ew, a, vs, rfl, e2, e3, e4, e5⟩ := R.sl ix _ e
        have tg : σ[ix]? = some (some o) := tg
        rw [ew] at tg; cases tg
        refine .inr ⟨a, _, rfl, .inl ⟨vs, q, e2, kV_of eq rk, by rw [← Paired.length e3, ← line_eq]; exact hl, rfl⟩, ?_⟩
        have st2 := stay_dK (ws := putK vs q v) e2
        exact P al σ _ (AlX.refl al) (st.trans st2) (R.writeDct e ew e2 (KRep.put e3 rd) e4 e5)
      · exact P.elim
    · exact P.elim
  · exact P.elim
theorem swapsSub {o i : Expr} {pos : Pos} {e : Expr} {l : Nat} {env : Env} : swapsWithSole [.Subscript o i pos] e l env = pure false := by
  show swapsWith e (some (.Subscript o i pos)) l env = pure false
  unfold swapsWith
  cases e <;> rfl
theorem swappedSub {o i : Expr} {pos : Pos} {e : Expr} {env : Env} : swappedStores [.Subscript o i pos] e env = pure none := by
  unfold swappedStores
  cases e <;> rfl
/-- x[i] = e -/
theorem ps_seti {eo ei e : Expr} {fo f fi : S → Res RV} {pos pos2 : Pos} (hu : X.A.units + 1 < cLine) (ho : PE X eo (rdE g W fo)) (hi : PE X ei (rdE g W fi)) (he : PE X e (rdE g W f)) (hn : notSlice ei = true) :
    PS X (.Assign [.Subscript eo ei pos2] e pos) (rdS g W fun s => (toV (f s)).run fun d s => (fo s).run fun r s => (toP (fi s)).run fun k s => putAt r k d s) := by
  have ha : ∀ v, assign (.Subscript eo ei pos2) X.env v = (do
      let ov ← holding [v] (eval eo X.env)
      let iv ← holding [v, ov] (eval ei X.env)
      standAt pos2
      holding [v, ov, iv] (setItem ov iv v)
      release [v, ov, iv] []) := by intro v; cases ei <;> first | rfl | (cases hn)
  refine (ps_asg (pe_V he) (pg_sub ho (pe_P hi) (set_or set_list (set_dict hu)) ha) swapsSub swappedSub rfl).mono fun D σ H ⟨b, al, s, R, P⟩ => ⟨b, al, s, R, ?_⟩
  refine (run_post P).mono fun d s1 p v H1 x1 R1 r1 => ⟨b, al, s1, R1, ?_⟩
  refine (run_post p).shift x1 fun r s2 p2 o H2 x2 R2 rv => ⟨b, al, s2, R2, ?_⟩
  refine (run_post p2).shift (x1.trans x2) fun k s3 p3 i H3 x3 R3 rk => ?_
  exact put_run R3 rv.tgt rk ((r1.stay x2.st fun _ _ z => z).stay x3.st fun _ _ z => z) p3 ((x1.trans x2).trans x3).st
/-- x.append(e) -/
theorem push_run {H0 : Hp} {r : RV} {d : PI.D} {o v : V} (R : Rel g b al s σ H) (tg : Tgt al σ r o) (rd : Rep g.K al H d v) (P : PostS g b W D al H0 (pushAt r d s)) (st : Stay H0 H) :
    rAppend o [v] H fun _ H1 => D.nx σ H1 := by
  unfold pushAt at P
  split at P
  · rename_i c
    obtain ⟨a, ha, rfl⟩ := tg
    split at P
    · rename_i ds e
      split at P
      · rename_i hl
        obtain ⟨a', vs, e1, e2, e3⟩ := R.cell _ _ e
        rw [ha] at e1; cases e1
        refine ⟨a, vs, v, rfl, rfl, e2, by rw [← e3.length, ← line_eq]; exact hl, ?_⟩
        have st2 := stay_lst (ws := vs ++ [v]) e2
        exact P al σ _ (AlX.refl al) (st.trans st2) (R.writeCell ha e2 (e3.append (Reps.cons rd Reps.nil)))
      · exact P.elim
    · exact P.elim
  · rename_i ix ds0
    split at P
    · rename_i ds e
      split at P
      · rename_i hl
        obtain ⟨w, ew, a, vs, rfl, e2, e3, e4, e5⟩ := R.sl ix _ e
        have tg : σ[ix]? = some (some o) := tg
        rw [ew] at tg; cases tg
        refine ⟨a, vs, v, rfl, rfl, e2, by rw [← e3.length, ← line_eq]; exact hl, ?_⟩
        have st2 := stay_lst (ws := vs ++ [v]) e2
        exact P al σ _ (AlX.refl al) (st.trans st2) (R.writeOwn e ew e2 (e3.append (Reps.cons rd Reps.nil)) e4 e5)
      · exact P.elim
    · exact P.elim
  · exact P.elim
theorem lst_ty {K : PySem.W.Frag} {r : RV} {o : V} (R : Rel g b al s σ H) (rv : RVRep g b al s σ H r o) (hl : isLst r = true) : tyV K "list" o H := by
  unfold isLst at hl
  split at hl
  · have rv : Rep g.K al H (.ref _) o := rv
    unfold Rep at rv
    obtain ⟨a, ha, rfl⟩ := rv
    obtain ⟨vs, e⟩ := R.alTracked (List.mem_of_getElem? ha)
    exact .inl ⟨rfl, vs, .inl (.of e)⟩
  · obtain ⟨a, vs, rfl, e2, _⟩ := R.own rv.1 rv.2
    exact .inl ⟨rfl, vs, .inl (.of e2)⟩
  · cases hl
theorem ps_app {eo e : Expr} {fo f : S → Res RV} {apos cpos pos : Pos} (ho : PE X eo (rdE g W fo)) (he : PE X e (rdE g W f)) (hs : notStar e = true) (hc : notCall0 eo = true) (hl : (apos.endLine == cpos.line) = true) :
    PS X (.Expr (.Call (.Attribute eo "append" apos) [e] [] cpos) pos) (rdS g W fun s => (fo s).run fun r s => if isLst r then (toV (f s)).run fun d s => pushAt r d s else .bad) := by
  have ha : PA X [e] (rdA g W false fun s => (toV (f s)).bind fun d s => (Res.ok [] s : Res (List PI.D)).bind fun ds s => .ok (d :: ds) s) := pa_cons' hs (by exact pe_V he) pa_nil'
  have hst := star_cons hs [] X.env
  refine (ps_expr (pe_bm PySem.F.plainAttrs_list PySem.F.slot_list_append PySem.F.type_list_append mt_append ho ha (attrBase hc _ _ _) (by rw [hst]; rfl) hl hst rfl) (by unfold swapsWith; rfl)).mono fun D σ H ⟨b, al, s, R, P⟩ => ⟨b, al, s, R, ?_⟩
  refine (run_post P).mono fun r s1 p o H1 x1 R1 rv => ?_
  cases hr : isLst r with
  | false => rw [hr] at p; exact p.elim
  | true =>
    rw [hr] at p
    refine ⟨lst_ty R1 rv hr, b, al, s1, R1, ?_⟩
    rw [postX_bind]
    refine (run_post (show PostS g b W D al H ((toV (f s1)).run fun d s => pushAt r d s) from p)).shift x1 fun d s2 p2 vs H2 x2 R2 rs => ?_
    simp only [Bool.false_eq_true, if_false] at rs
    obtain ⟨v, t, rfl, r1, rs⟩ := rs.inv
    rw [rs.inv0]
    exact push_run R2 rv.tgt r1 p2 (x1.trans x2).st
/-- raise c(e) -/
theorem smallV {d : PI.D} {v : V} (h : smallD d = true) (r : Rep g.K al H d v) : SmallV v := by
  cases d with
  | str x => unfold Rep at r; subst r; exact (of_decide_eq_true (show decide (x.length ≤ 1000) = true from h) : x.length ≤ 1000)
  | _ => cases h
theorem ps_raise' {x : Str} {c : Nat} {e : Expr} {f : S → Res RV} {lv : Nat} {p p2 pos : Pos} (hc : X.calm = true) (tk : Takes X W) (hr : Room lv X.A) (mk : MkOk X.prog X.K X.mg (g.C c) (g.F c) x) (hg : Gl X x) (hs : notStar e = true) (he : PE X e (rdE g W f)) :
    PS X (.Raise (some (.Call (.Name x p) [e] [] p2)) none pos) (rdS g W fun s => (toV (f s)).run fun d s => if smallD d then .exc c d s else .bad) := by
  have ha : PA X [e] (rdA g W false fun s => (toV (f s)).bind fun d s => (Res.ok [] s : Res (List PI.D)).bind fun ds s => .ok (d :: ds) s) := pa_cons' hs (by exact pe_V he) pa_nil'
  refine (ps_raise hc tk (mk X lv e _ p p2 rfl rfl rfl hr hg hs ha)).mono fun D σ H ⟨b, al, s, R, P⟩ => ⟨b, al, s, R, ?_⟩
  rw [postX_bind]
  refine (run_post P).mono fun d s1 p vs H1 x1 R1 rs => ?_
  simp only [Bool.false_eq_true, if_false] at rs
  obtain ⟨v, t, rfl, r1, rs⟩ := rs.inv
  rw [rs.inv0]
  cases hd : smallD d with
  | false => rw [hd] at p; exact p.elim
  | true =>
    rw [hd] at p
    refine ⟨v, rfl, smallV hd r1, fun dd hdd => ?_⟩
    have st := stay_upd (o := .xd [(g.F c, v)]) hdd
    exact p al σ _ dd _ (AlX.refl al) (x1.st.trans st) (R1.alloc hdd) ⟨rfl, v, upd_same, r1.stay st fun _ _ z => z⟩
end

/-! ### try -/
section
variable {X : Cx} {g : G} {b : B} {W : WX} {D : Ends} {al al' : List Addr} {σ : L2.St} {H H' : Hp} {s : S}
def G.held (g : G) (a : Addr) (cls : Value) (d : Option Addr) : G := { g with ea := some (a, cls, d) }
theorem calm_get {t : List (Option Sl)} {j : Nat} {x : Sl} (h : (t.map Sl.calm)[j]? = some (some x)) : t[j]? = some (some x) ∧ ∀ c d, x ≠ .exc c d := by
  rw [List.getElem?_map] at h
  cases e : t[j]? with
  | none => rw [e] at h; cases h
  | some o =>
    rw [e] at h
    cases o with
    | none => cases h
    | some y =>
      cases y with
      | exc c d => cases h
      | val d => cases h; exact ⟨rfl, fun _ _ z => nomatch z⟩
      | own d => cases h; exact ⟨rfl, fun _ _ z => nomatch z⟩
      | dct d => cases h; exact ⟨rfl, fun _ _ z => nomatch z⟩
theorem Rel.calm (r : Rel g b al s σ H) : Rel g b al (noExc s) σ H := r.less (by rw [List.length_map]; exact r.len) fun j x e => ⟨(calm_get e).1, rfl⟩
/-- the held error is another; no slot names one -/
theorem Rel.swapG {g' : G} (hK : g'.K = g.K) (r : Rel g b al s σ H) (h : ∀ (j : Nat) (x : Sl), s.t[j]? = some (some x) → ∀ c d, x ≠ Sl.exc c d) : Rel g' b al s σ H := by
  obtain ⟨K, C, F, ea⟩ := g
  obtain ⟨K', C', F', ea'⟩ := g'
  cases hK
  refine ⟨r.len, fun i x e => ?_, r.inj, r.cell, r.alen, r.nd, r.base, r.anew, r.apre⟩
  obtain ⟨v, e1, q⟩ := r.sl i x e
  refine ⟨v, e1, ?_⟩
  cases x with
  | exc c d => exact absurd rfl (h i _ e c d)
  | val _ => exact q
  | own _ => exact q
  | dct _ => exact q
theorem Rel.setNone (r : Rel g b al s σ H) (i : Nat) : Rel g b al { s with t := s.t.set i none } (σ.set i none) H := r.less (by rw [List.length_set, List.length_set]; exact r.len) fun j x e => by
  rcases get_set e with ⟨rfl, e2, hl⟩ | ⟨hj, e2⟩
  · cases e2
  · exact ⟨e2, by rw [List.getElem?_set_ne hj]⟩
theorem Rel.setExc {c : Nat} {d : PI.D} {a dd : Addr} {cls : Value} (r : Rel g b al s σ H) (i : Nat) (er : ExcRep g al H c d cls dd) :
    Rel (g.held a cls (some dd)) b al { s with t := (noExc s).t.set i (some (.exc c d)) } (σ.set i (some (.ref a))) H := by
  have R2 : Rel (g.held a cls (some dd)) b al (noExc s) σ H := Rel.swapG (g := g) rfl r.calm fun j x e => (calm_get e).2
  refine ⟨by rw [List.length_set, List.length_set]; exact R2.len, fun j x e => ?_, fun j k x y c' hjk ej ek ox oy e1 => ?_, r.cell, r.alen, r.nd, r.base, r.anew, r.apre⟩
  · rcases get_set e with ⟨rfl, e2, hl⟩ | ⟨hj, e2⟩
    · cases e2
      obtain ⟨rfl, w, e3, e4⟩ := er
      exact ⟨_, by rw [List.getElem?_set_self (by rw [← R2.len]; exact hl)], a, dd, w, rfl, rfl, e3, e4⟩
    · rw [List.getElem?_set_ne hj]
      exact R2.sl j x e2
  · rcases get_set ej with ⟨rfl, e2, hl⟩ | ⟨hj, e2⟩
    · cases e2; cases ox
    rcases get_set ek with ⟨rfl, e3, hl⟩ | ⟨hk, e3⟩
    · cases e3; cases oy
    rw [List.getElem?_set_ne hj] at e1
    rw [List.getElem?_set_ne hk]
    exact R2.inj j k x y c' hjk e2 e3 ox oy e1
theorem Rel.leave {a : Addr} {cls : Value} {d : Option Addr} (r : Rel (g.held a cls d) b al s σ H) (i : Nat) : Rel g b al (outExc i s) (σ.set i none) H :=
  (Rel.swapG (g := g.held a cls d) (g' := g) rfl r.calm fun j x e => (calm_get e).2).setNone i
/-- a handler's slot, suite -/
structure HP where
  cs : List Nat
  no : List Nat
  i : Nat
  f : S → R
def runH (c : Nat) (d : PI.D) : List HP → S → R
  | [], s => .exc c d s
  | h :: r, s => if h.cs.contains c then
      match h.f { s with t := (noExc s).t.set h.i (some (.exc c d)) } with
      | .next s => .next (outExc h.i s)
      | .brk s => .brk (outExc h.i s)
      | .cnt s => .cnt (outExc h.i s)
      | .ret (.val d) s => .ret (.val d) (outExc h.i s)
      | .ret (.own ds) s => .ret (.own ds) (outExc h.i s)
      | _ => .bad
    else if h.no.contains c then runH c d r s else .bad
def tsOf (g : G) (h : HP) : Addr → Value → Option Addr → TS := fun a cls d => fun D σ H => ∃ k dd, cls = .ref (g.C k) ∧ d = some dd ∧ h.cs.contains k = true ∧ rdS (g.held a cls d) W0 h.f D σ H
theorem away_out {i : Nat} {a : Addr} (h : Away s.t σ a) : Away (outExc i s).t (σ.set i none) a := fun j x e o z => by
  rcases get_set e with ⟨rfl, e2, hl⟩ | ⟨hj, e2⟩
  · cases e2
  · rw [List.getElem?_set_ne hj] at z
    exact h j x (calm_get e2).1 o z
theorem runH_ok {c : Nat} {d : PI.D} {cls : Value} {dd : Addr} : ∀ (l : List (Value × HP)),
    (∀ p ∈ l, (∀ k ∈ p.2.cs, PySem.W.exmOne g.K (.ref (g.C k)) p.1 = some true) ∧ ∀ k ∈ p.2.no, PySem.W.exmOne g.K (.ref (g.C k)) p.1 = some false) →
    PostS g b W D al H (runH c d (l.map (·.2)) s) → Stay H H' → AlX al al' → Rel g b al' s σ H' → ExcRep g al' H' c d cls dd →
    wManyA g.K W D (l.map fun p => (p.1, p.2.i, tsOf g p.2)) cls (some dd) σ H'
  | [], hx, P, st, ax, R, er => P al' σ cls dd H' ax st R er
  | (v, h) :: l, hx, P, st, ax, R, er => by
    have hxh := hx _ List.mem_cons_self
    rw [List.map_cons] at P
    unfold runH at P
    obtain ⟨ec, er2⟩ := id er
    show ∃ b, _
    cases hc : h.cs.contains c with
    | true =>
      refine ⟨true, by rw [ec]; exact hxh.1 c (by simpa using hc), fun _ a ha => ?_, fun z => by cases z⟩
      rw [hc] at P
      refine ⟨c, dd, ec, rfl, hc, b, al', _, R.setExc h.i er, ?_⟩
      have P : PostS g b W D al H (match h.f { s with t := (noExc s).t.set h.i (some (.exc c d)) } with
        | .next s => .next (outExc h.i s)
        | .brk s => .brk (outExc h.i s)
        | .cnt s => .cnt (outExc h.i s)
        | .ret (.val d) s => .ret (.val d) (outExc h.i s)
        | .ret (.own ds) s => .ret (.own ds) (outExc h.i s)
        | _ => .bad) := P
      cases q : h.f { s with t := (noExc s).t.set h.i (some (.exc c d)) } with
      | next s2 => rw [q] at P; exact fun al2 σ2 H2 a2 x2 R2 => P al2 _ H2 (ax.trans a2) (st.trans x2) (R2.leave h.i)
      | brk s2 => rw [q] at P; exact fun al2 σ2 H2 a2 x2 R2 => P al2 _ H2 (ax.trans a2) (st.trans x2) (R2.leave h.i)
      | cnt s2 => rw [q] at P; exact fun al2 σ2 H2 a2 x2 R2 => P al2 _ H2 (ax.trans a2) (st.trans x2) (R2.leave h.i)
      | ret r s2 =>
        rw [q] at P
        cases r with
        | val e => exact fun al2 σ2 u H2 a2 x2 R2 rv => P al2 _ u H2 (ax.trans a2) (st.trans x2) (R2.leave h.i) rv
        | own ds => exact fun al2 σ2 u H2 a2 x2 R2 rv => P al2 _ u H2 (ax.trans a2) (st.trans x2) (R2.leave h.i) (by
            obtain ⟨a3, vs, h1, h2, h3, h4, h5, h6⟩ := rv
            exact ⟨a3, vs, h1, h2, h3, h4, h5, away_out h6⟩)
        | _ => exact P.elim
      | exc c2 d2 s2 => rw [q] at P; exact P.elim
      | bad => rw [q] at P; exact P.elim
    | false =>
      rw [hc] at P
      cases hn : h.no.contains c with
      | true =>
        rw [hn] at P
        refine ⟨false, by rw [ec]; exact hxh.2 c (by simpa using hn), fun z => (by cases z), fun _ => runH_ok l (fun p hp => hx p (List.mem_cons_of_mem _ hp)) P st ax R er⟩
      | false =>
        rw [hn] at P
        exact P.elim
theorem ps_try' {body : List Stmt} {h₀ : ExceptHandler} {hds : List ExceptHandler} {l : List (Value × HP)} {fb : S → R} {pos : Pos} (hK : X.K = g.K) (hs : X.stack = X.env :: X.outer) (hf : X.env.frame = some X.env.locals) (hN : X.N.Nodup) (tk : Takes X W)
    (hx : ∀ p ∈ l, (∀ k ∈ p.2.cs, PySem.W.exmOne g.K (.ref (g.C k)) p.1 = some true) ∧ ∀ k ∈ p.2.no, PySem.W.exmOne g.K (.ref (g.C k)) p.1 = some false)
    (hb : ∀ (W : WX) (pn : List (Addr × Obj)) (xe : Value → Shared → Prop), Takes (X.tr pn xe) W → PassesOwn (model X.prog X.w) X.A X.env xe → PSs (X.tr pn xe) body (rdS g W fb))
    (hh : HdsA X (h₀ :: hds) (l.map fun p => (p.1, p.2.i, tsOf g p.2))) :
    PS X (.Try body (h₀ :: hds) [] [] pos) (rdS g W fun s => match fb s with | .exc c d s => runH c d (l.map (·.2)) s | r => r) :=
  (ps_try_manyA (tb := fun W => rdS g W fb) hs hf hN tk hb hh).mono fun D σ H ⟨b, al, s, R, P⟩ => ⟨b, al, s, R, by
    dsimp only at P
    cases q : fb s with
    | next s1 => rw [q] at P; exact P
    | brk s1 => rw [q] at P; exact P
    | cnt s1 => rw [q] at P; exact P
    | ret r s1 => rw [q] at P; exact P
    | bad => rw [q] at P; exact P
    | exc c d s1 =>
      rw [q] at P
      intro al' σ' cls dd H' ax st R' er
      rw [hK]
      exact runH_ok l hx P st ax R' er⟩
end
end PI

namespace PI
open PySem PySem.Spec PyProof.Rows L2

/-! ### the looks at statements -/
def notComp : Expr → Bool
  | .ListComp _ _ _ _ => false
  | .SetComp _ _ _ _ => false
  | .DictComp _ _ _ _ _ => false
  | _ => true
/-- the value that is stored in a tuple of names is stored from the left -/
def plainRight (sc : Scope) (t : Expr) : Expr → Bool
  | .Tuple vs _ _ => (vs.all (foldedForSure 8) && vs.all notStar) || (match t with | .Tuple ts _ _ => ts.any (fun e => match e with | .Name x _ => !decide (sc.names.lookup x = some NameKind.local) | _ => true) | _ => false)
  | _ => true
def pairOk (x y : Str) (px py : Pos) (a b : Expr) : Bool := (px.line == px.line) && (py.line == px.line) && !decide (x = y) && !([a, b].all (foldedForSure 8)) && !([a, b].all (constantsAlone 8))
mutual
def chS (T : Tab) (c : Ctx) : MS → Stmt → Bool
  | .set (.name i) e, st => match st with
    | .Assign [.Name x px] v pos => stB c i x && chE T c e v && (notComp v ||
        (match v with | .ListComp _ _ scope vp => decide (c.sc.kind = .function) && decide (c.sc.names.lookup x = some .local) && (px.line == vp.line) && !(scope.names.any fun (n, k) => n == x && (k == .local || k == .cell)) | _ => false))
    | _ => false
  | .set (.tup is) e, st => match st with
    | .Assign [t] v pos => tgB c (.tup is) t && chE T c e v && plainRight c.sc t v
    | _ => false
  | .shr i e, st => match st with
    | .Assign [.Name x px] v pos => stB c i x && chE T c e v && notComp v
    | _ => false
  | .par i j a b, st => match st with
    | .Assign [.Tuple [.Name x px, .Name y py] _ _] (.Tuple [ea, eb] _ _) pos => c.top && c.calm && decide (c.sc.kind = .function) && decide (c.N[i]? = some x) && decide (c.N[j]? = some y) && decide (i ≠ j) && decide (c.sc.names.lookup x = some .local) && decide (c.sc.names.lookup y = some .local) &&
        chE T c a ea && chE T c b eb && notStar ea && notStar eb && pairOk x y px py ea eb
    | _ => false
  | .aug i o e, st => match st with
    | .AugAssign (.Name x _) op v _ => stB c i x && chE T c e v && ((decide (o = .add) && decide (op = .Add)) || (decide (o = .sub) && decide (op = .Sub)))
    | _ => false
  | .seti x ix e, st => match st with
    | .Assign [.Subscript eo ei _] v _ => chE T c x eo && chE T c ix ei && chE T c e v && notSlice ei
    | _ => false
  | .app x e, st => match st with
    | .Expr (.Call (.Attribute eo m apos) [v] [] cpos) _ => decide (m = "append") && chE T c x eo && chE T c e v && notStar v && notCall0 eo && (apos.endLine == cpos.line)
    | _ => false
  | .expr e, st => match st with
    | .Expr v _ => chE T c e v && notComp v
    | _ => false
  | .ite k a b, st => match st with
    | .If x ss ts _ => chE T c k x && chSs T c a ss && chSs T c b ts
    | _ => false
  | .while k b, st => match st with
    | .While x ss [] _ => chE T c k x && chSs T c b ss
    | _ => false
  | .for t it b, st => match st with
    | .For tg i ss [] _ => c.calm && tgB c t tg && chI T c it tg i && notSet i && chSs T c b ss
    | _ => false
  | .ret e, st => match st with
    | .Return (some v) _ => chE T c e v
    | _ => false
  | .retN, st => match st with
    | .Return none _ => true
    | _ => false
  | .raise x k e, st => match st with
    | .Raise (some (.Call (.Name y _) [v] [] _)) none _ => decide (y = x) && c.calm && glB c x && decide (T.exc.lookup x = some k) && notStar v && chE T c e v
    | _ => false
  | .try b hs, st => match st with
    | .Try body (h :: hds) [] [] _ => c.top && c.calm && c.ex.isNone && chSs T c b body && chH T c hs (h :: hds)
    | _ => false
  | .pass, st => match st with
    | .Pass _ => true
    | _ => false
  | .brk, st => match st with
    | .Break _ => true
    | _ => false
  | .cnt, st => match st with
    | .Continue _ => true
    | _ => false
def chSs (T : Tab) (c : Ctx) : MSs → List Stmt → Bool
  | .nil, ss => match ss with | [] => true | _ => false
  | .cons m ms, ss => match ss with | s :: ss => chS T c m s && chSs T c ms ss | _ => false
def chH (T : Tab) (c : Ctx) : MHs → List ExceptHandler → Bool
  | .nil, hs => match hs with | [] => true | _ => false
  | .cons x cs no i b r, hs => match hs with
    | .ExceptHandler (some (.Name y _)) (some n) (s :: ss) _ :: hs => decide (y = x) && decide (c.N[i]? = some n) && decide (c.sc.names.lookup n = some .local) && glB c x && decide (T.hnd.lookup x = some (cs, no)) &&
        (match cs with | k :: _ => cs.all (fun k' => decide (T.fld k' = T.fld k)) && chSs T { c with calm := false, ex := some (i, T.fld k) } b (s :: ss) | [] => false) && chH T c r hs
    | _ => false
end

section
variable {X : Cx} {g : G} {T : Tab} {Φ : Fns} {lv : Nat} {c : Ctx} {W : WX}
theorem XOk.tr (h : XOk X g T Φ lv c W) (hc : c.ex = none) {W' : WX} {pn : List (Addr × Obj)} {xe : Value → Shared → Prop} (tk : Takes (X.tr pn xe) W') (own : PassesOwn (model X.prog X.w) X.A X.env xe) : XOk (X.tr pn xe) g T Φ lv c W' where
  K := h.K
  N := h.N
  sc := h.sc
  nd := h.nd
  tk := tk
  own := own
  units := h.units
  calm := h.calm
  top := h.top
  stk := h.stk
  blt := h.blt
  glb := h.glb
  fn := h.fn
  ex := fun i f z => by rw [hc] at z; cases z
  made := h.made
  hnd := h.hnd
  inj := h.inj
theorem XOk.suite (h : XOk X g T Φ lv c W) {i : Nat} {f : Str} {a : Addr} {oe : Obj} {pn : List (Addr × Obj)} {k : Nat} {d : Addr} (hz : Zc (.ref (g.C k)) (some d) oe) (hf : ∃ vs, oe.data = .fields vs) (eF : g.F k = f) (fo : FldOk X.K (g.C k) f) :
    XOk (X.suite a ((a, oe) :: pn)) (g.held a (.ref (g.C k)) (some d)) T Φ lv { c with calm := false, ex := some (i, f) } W0 where
  K := h.K
  N := h.N
  sc := h.sc
  nd := h.nd
  tk := takes0
  own := PassesOwn.never
  units := h.units
  calm := fun z => by cases z
  top := h.top
  stk := h.stk
  blt := h.blt
  glb := h.glb
  fn := h.fn
  ex := fun i' f' z => by
    cases z
    exact ⟨X, a, oe, pn, k, d, rfl, hz, hf, rfl, eF, fo⟩
  made := h.made
  hnd := h.hnd
  inj := h.inj
theorem sw_none {v : Expr} (h : notComp v = true) (t : Option Expr) (l : Nat) (env : Env) : swapsWith v t l env = pure false := by
  unfold swapsWith
  cases v <;> first | rfl | (cases h)
theorem sw_tup {v : Expr} {es : List Expr} {k : Nat} {p : Pos} {l : Nat} {env : Env} : swapsWithSole [.Tuple es k p] v l env = pure false := by
  show swapsWith v (some (.Tuple es k p)) l env = pure false
  unfold swapsWith
  cases v <;> rfl
theorem fm_lt {α β : Type} {f : α → Option β} : ∀ {l : List α}, l.any (fun x => (f x).isNone) = true → (l.filterMap f).length < l.length
  | x :: l, h => by
    rw [List.any_cons, Bool.or_eq_true] at h
    have le : (l.filterMap f).length ≤ l.length := List.length_filterMap_le f l
    cases e : f x with
    | none => rw [List.filterMap_cons_none e, List.length_cons]; omega
    | some y =>
      rw [e] at h
      rcases h with h | h
      · cases h
      · have := fm_lt h
        rw [List.filterMap_cons_some e, List.length_cons, List.length_cons]; omega
theorem plainRight_ok {es : List Expr} {k : Nat} {p : Pos} {v : Expr} {env : Env} (h : plainRight env.scope (.Tuple es k p) v = true) : swappedStores [.Tuple es k p] v env = pure none := by
  unfold swappedStores
  cases v <;> try rfl
  rename_i vs k2 p2
  simp only [plainRight, Bool.or_eq_true, Bool.and_eq_true] at h
  simp only [pure_bind]
  split
  · rfl
  split
  · rfl
  rcases h with ⟨h1, h2⟩ | h
  · split
    · rfl
    · first | rfl | (rw [if_pos h1] <;> rfl)
  · rw [if_pos]
    · rw [Bool.or_eq_true]
      left
      rw [bne_iff_ne]
      refine Nat.ne_of_lt (fm_lt ?_)
      rw [List.any_eq_true] at h ⊢
      obtain ⟨e, he, hh⟩ := h
      refine ⟨e, he, ?_⟩
      cases e <;> try rfl
      rename_i x px
      simp only [Bool.not_eq_true', decide_eq_false_iff_not] at hh
      have : (env.kindOf x == some NameKind.local) = false := by
        rw [beq_eq_false_iff_ne]
        exact hh
      simp [this]
theorem pairOk_ok {x y : Str} {px py pt pt2 : Pos} {a b : Expr} {k k2 : Nat} {env : Env} (hk : env.scope.kind = .function) (hx : env.scope.names.lookup x = some .local) (hy : env.scope.names.lookup y = some .local) (ha : notStar a = true) (hb : notStar b = true) (h : pairOk x y px py a b = true) :
    swappedStores [.Tuple [.Name x px, .Name y py] k pt] (.Tuple [a, b] k2 pt2) env = pure (some [x, y]) := by
  simp only [pairOk, Bool.and_eq_true, Bool.not_eq_true', decide_eq_false_iff_not] at h
  obtain ⟨⟨⟨⟨h1, h2⟩, h3⟩, h4⟩, h5⟩ := h
  have hbk : env.blockKind = .function := by unfold Env.blockKind; rw [hk]; rfl
  have kx : env.kindOf x = some .local := hx
  have ky : env.kindOf y = some .local := hy
  have e1 : ((([a, b] : List Expr).any fun | .Starred .. => true | _ => false) = false) := by
    cases a <;> first | (cases ha; done) | (cases b <;> first | rfl | (cases hb; done))
  have p1 : (px.line == px.line) = true := by simp
  have n1 : ([x, y] : List Str).eraseDups = [x, y] := by
    have : (y == x) = false := by simpa using fun z : y = x => h3 z.symm
    simp [List.eraseDups_cons, List.filter, this]
  unfold swappedStores
  simp only [pure_bind, hbk, e1, List.filterMap_cons, List.filterMap_nil, kx, ky, List.head?_cons, Option.map_some, Option.getD_some, Expr.pos, h2, p1, h4, h5, List.length_cons, List.length_nil]
  simp [n1]
  intro z
  exfalso
  rcases z with z | z
  · cases a <;> first | (cases ha; done) | (cases z; done)
  · cases b <;> first | (cases hb; done) | (cases z; done)
end

section
variable {g₀ : G} {T : Tab} {Φ : Fns} {lv : Nat}
mutual
theorem sS : ∀ (m : MS) (X : Cx) (g : G) (c : Ctx) (W : WX) (st : Stmt), XOk X g T Φ lv c W → chS T c m st = true → PS X st (rdS g W (ex Φ m))
  | .set (.name i) e, X, g, c, W, st, O, h => by
    unfold chS at h
    split at h
    · rename_i x px v pos
      simp only [Bool.and_eq_true, Bool.or_eq_true] at h
      obtain ⟨⟨h1, h2⟩, h3⟩ := h
      have hE := (sE e X c W v O h2).1
      have en : ex Φ (.set (.name i) e) = fun s => (ev Φ e s).run fun r s => putR i r s := by funext s; rw [ex] <;> rfl
      rw [en]
      rcases h3 with h3 | h3
      · exact ps_setN O.nd (O.st h1) hE (sw_none h3 _ _ _)
      · split at h3
        · rename_i y gs scope vp
          simp only [Bool.and_eq_true, decide_eq_true_eq, Bool.not_eq_true'] at h3
          obtain ⟨⟨⟨k1, k2⟩, k3⟩, k4⟩ := h3
          have hw : ∀ l, swapsWith (.ListComp y gs scope vp) (some (.Name x px)) l X.env = pure true := fun l => sw_true (by rw [O.sc]; exact k1) (by rw [O.sc]; exact k2) k3 k4
          cases e with
          | lc elt tg it cond =>
            simp only [chE] at h2
            split at h2
            · rename_i y t i2 ifs k scope pos e2
              cases e2
              simp only [Bool.and_eq_true, decide_eq_true_eq] at h2
              obtain ⟨⟨⟨⟨⟨⟨⟨⟨k1, rfl⟩, k2⟩, k3⟩, k4⟩, k5⟩, k6⟩, k7⟩, k8⟩ := h2
              have hc := (O.calm k1).1
              have ok : BlkOk X.N X.env.scope scope (ownOf tg t) := by rw [O.N, O.sc]; exact blkOk_by k3
              have hi := sI it X c W t i2 O k1 k5
              have e1 : ev Φ (.lc elt tg it cond) = fun s => (evI Φ it s).bind fun items s => match lcGo (lcTurn tg (evCond Φ cond) (fun s => toV (ev Φ elt s))) [] items s with
                | .ok ds s1 => .ok (.own ds) { s1 with t := backT s1.t s.t tg.ids }
                | _ => .bad := by
                  funext s
                  rw [ev]
                  rfl
              rw [e1]
              exact ps_setC hc O.nd (O.st h1).ix (by rw [O.sc]; assumption) (hw _) hi ok k4 (gtOf X.K tg) (fun s H C cl fp => tg_pg (X := X.blk s H scope (compEnvC scope cl C X.env) fp) O.nd (O.tgK k1 k2 s H C cl fp)) (fun b al s σ H d x s2 Q R r e q => tg_run O.K tg b al s σ H d x s2 Q R r e q)
                (fun s H C cl fp => sCond cond _ _ W0 _ (O.blk k1 s H scope C cl fp) k7) (fun s H C cl fp => pe_V (sE elt _ _ W0 _ (O.blk k1 s H scope C cl fp) k8).1) (fun x => foldedSet k6 _ x)
            · cases h2
          | cst d => cases d <;> simp [chE, cstB] at h2
          | _ => simp [chE] at h2
        · cases h3
    · cases h
  | .set (.tup is) e, X, g, c, W, st, O, h => by
    unfold chS at h
    split at h
    · rename_i t v pos
      simp only [Bool.and_eq_true] at h
      obtain ⟨⟨h1, h2⟩, h3⟩ := h
      have en : ex Φ (.set (.tup is) e) = fun s => (toV (ev Φ e s)).run fun d s => match bindT (.tup is) d s with | some s => .next s | none => .bad := by funext s; rw [ex] <;> rfl
      rw [en]
      have ht := O.tg h1
      cases ht with
      | tup hc hn => exact ps_setT O.K O.nd (.tup hc hn) (sE e X c W v O h2).1 sw_tup (plainRight_ok (by rw [O.sc]; exact h3))
    · cases h
  | .shr i e, X, g, c, W, st, O, h => by
    unfold chS at h
    split at h
    · simp only [Bool.and_eq_true] at h
      obtain ⟨⟨h1, h2⟩, h3⟩ := h
      have en : ex Φ (.shr i e) = fun s => (ev Φ e s).run fun r s => match r with
        | .own ds => .next { t := s.t.set i (some (.val (.ref s.h.length))), h := s.h ++ [ds] }
        | _ => .bad := by funext s; rw [ex] <;> rfl
      rw [en]
      exact ps_shr O.nd (O.st h1) (sE e X c W _ O h2).1 (sw_none h3 _ _ _)
    · cases h
  | .par i j a b, X, g, c, W, st, O, h => by
    unfold chS at h
    split at h
    · simp only [Bool.and_eq_true, decide_eq_true_eq] at h
      obtain ⟨⟨⟨⟨⟨⟨⟨⟨⟨⟨⟨⟨h1, h2⟩, h3⟩, h4⟩, h5⟩, h6⟩, h7⟩, h8⟩, h9⟩, h10⟩, h11⟩, h12⟩, h13⟩ := h
      have en : ex Φ (.par i j a b) = fun s => (toV (ev Φ a s)).run fun x s => (toV (ev Φ b s)).run fun y s => .next { s with t := (s.t.set i (some (.val x))).set j (some (.val y)) } := by funext s; rw [ex] <;> rfl
      rw [en]
      rw [← O.sc] at h3 h7 h8
      rw [← O.N] at h4 h5
      exact ps_parN (O.calm h2).1 O.nd h4 h5 h6 h7 h8 (sE a X c W _ O h9).1 (sE b X c W _ O h10).1 h11 h12 (pairOk_ok h3 h7 h8 h11 h12 h13) sw_tup
    · cases h
  | .aug i o e, X, g, c, W, st, O, h => by
    unfold chS at h
    split at h
    · simp only [Bool.and_eq_true, Bool.or_eq_true, decide_eq_true_eq] at h
      obtain ⟨⟨h1, h2⟩, h3⟩ := h
      have en : ex Φ (.aug i o e) = fun s => (toP (slGet s i)).run fun x s => (toP (ev Φ e s)).run fun y s => match augD o x y with
        | some z => .next { s with t := s.t.set i (some (.val (.int z))) }
        | none => .bad := by funext s; rw [ex] <;> rfl
      rw [en]
      exact ps_augN O.nd (O.st h1) (sE e X c W _ O h2).1 h3
    · cases h
  | .seti x ix e, X, g, c, W, st, O, h => by
    unfold chS at h
    split at h
    · simp only [Bool.and_eq_true] at h
      obtain ⟨⟨⟨h1, h2⟩, h3⟩, h4⟩ := h
      have en : ex Φ (.seti x ix e) = fun s => (toV (ev Φ e s)).run fun d s => (ev Φ x s).run fun r s => (toP (ev Φ ix s)).run fun k s => putAt r k d s := by funext s; rw [ex] <;> rfl
      rw [en]
      exact ps_seti (by have := O.units; omega) (sE x X c W _ O h1).1 (sE ix X c W _ O h2).1 (sE e X c W _ O h3).1 h4
    · cases h
  | .app x e, X, g, c, W, st, O, h => by
    unfold chS at h
    split at h
    · simp only [Bool.and_eq_true, decide_eq_true_eq] at h
      obtain ⟨⟨⟨⟨⟨rfl, h1⟩, h2⟩, h3⟩, h4⟩, h5⟩ := h
      have en : ex Φ (.app x e) = fun s => (ev Φ x s).run fun r s => if isLst r then (toV (ev Φ e s)).run fun d s => pushAt r d s else .bad := by funext s; rw [ex] <;> rfl
      rw [en]
      exact ps_app (sE x X c W _ O h1).1 (sE e X c W _ O h2).1 h3 h4 h5
    · cases h
  | .expr e, X, g, c, W, st, O, h => by
    unfold chS at h
    split at h
    · simp only [Bool.and_eq_true] at h
      have en : ex Φ (.expr e) = fun s => (ev Φ e s).run fun _ s => .next s := by funext s; rw [ex] <;> rfl
      rw [en]
      exact ps_expr' (sE e X c W _ O h.1).1 (sw_none h.2 _ _ _)
    · cases h
  | .ite k a b, X, g, c, W, st, O, h => by
    unfold chS at h
    split at h
    · simp only [Bool.and_eq_true] at h
      obtain ⟨⟨h1, h2⟩, h3⟩ := h
      have en : ex Φ (.ite k a b) = fun s => (toT (toP (ev Φ k s))).run fun q s => if q then exs Φ a s else exs Φ b s := by funext s; rw [ex] <;> rfl
      rw [en]
      exact ps_ite' (sE k X c W _ O h1).2 (sSs a X g c W _ O h2) (sSs b X g c W _ O h3)
    · cases h
  | .while k b, X, g, c, W, st, O, h => by
    unfold chS at h
    split at h
    · simp only [Bool.and_eq_true] at h
      obtain ⟨h1, h2⟩ := h
      have en : ex Φ (.while k b) = fun s => (fixF (whTurn (fun s => toT (toP (ev Φ k s))) (fun s => exs Φ b s)) s).getD .bad := by funext s; rw [ex] <;> rfl
      rw [en]
      exact ps_while' O.own (sE k X c W _ O h1).2 (sSs b X g c W _ O h2)
    · cases h
  | .for t it b, X, g, c, W, st, O, h => by
    unfold chS at h
    split at h
    · simp only [Bool.and_eq_true] at h
      obtain ⟨⟨⟨⟨h1, h2⟩, h3⟩, h4⟩, h5⟩ := h
      have en : ex Φ (.for t it b) = fun s => (evI Φ it s).run fun ds s => forGo (bindT t) (fun s => exs Φ b s) ds s := by funext s; rw [ex] <;> rfl
      rw [en]
      exact ps_for' O.K O.own (O.calm h1).1 (sI it X c W _ _ O h1 h3) (tg_pg O.nd (O.tg h2)) (sSs b X g c W _ O h5) (fun x => foldedSet h4 _ x)
    · cases h
  | .ret e, X, g, c, W, st, O, h => by
    unfold chS at h
    split at h
    · have en : ex Φ (.ret e) = fun s => (ev Φ e s).run fun r s => .ret r s := by funext s; rw [ex] <;> rfl
      rw [en]
      exact ps_ret' (sE e X c W _ O h).1
    · cases h
  | .retN, X, g, c, W, st, O, h => by
    unfold chS at h
    split at h
    · have en : ex Φ .retN = fun s => .ret (.val .non) s := by funext s; rw [ex] <;> rfl
      rw [en]
      exact ps_retN'
    · cases h
  | .raise x k e, X, g, c, W, st, O, h => by
    unfold chS at h
    split at h
    · simp only [Bool.and_eq_true, decide_eq_true_eq] at h
      obtain ⟨⟨⟨⟨⟨rfl, h1⟩, h2⟩, h3⟩, h4⟩, h5⟩ := h
      have en : ∀ x, ex Φ (.raise x k e) = fun s => (toV (ev Φ e s)).run fun d s => if smallD d then .exc k d s else .bad := by intro x; funext s; rw [ex] <;> rfl
      rw [en]
      exact ps_raise' (O.calm h1).1 O.tk (O.calm h1).2 (O.made _ _ h3) (O.gl h2).1 h4 (sE e X c W _ O h5).1
    · cases h
  | .try b hs, X, g, c, W, st, O, h => by
    unfold chS at h
    split at h
    · rename_i body h₀ hds pos
      simp only [Bool.and_eq_true] at h
      obtain ⟨⟨⟨⟨h1, h2⟩, h3⟩, h4⟩, h5⟩ := h
      have hex : c.ex = none := by simpa using h3
      obtain ⟨l, hl1, hl2, hl3⟩ := sH hs X g c W _ O h5
      have en : ex Φ (.try b hs) = fun s => match exs Φ b s with | .exc q d s => runH q d (l.map (·.2)) s | r => r := by
        funext s
        rw [ex]
        cases exs Φ b s <;> first | rfl | exact hl1 _ _ _
      rw [en]
      exact ps_try' O.K (O.stk h1).1 (O.stk h1).2 O.nd O.tk hl2 (fun W' pn xe tk own => sSs b _ g c W' _ (O.tr hex tk own) h4) hl3
    · cases h
  | .pass, X, g, c, W, st, O, h => by
    unfold chS at h
    split at h
    · have en : ex Φ .pass = fun s => .next s := by funext s; rw [ex] <;> rfl
      rw [en]
      exact ps_pass'
    · cases h
  | .brk, X, g, c, W, st, O, h => by
    unfold chS at h
    split at h
    · have en : ex Φ .brk = fun s => .brk s := by funext s; rw [ex] <;> rfl
      rw [en]
      exact ps_brk'
    · cases h
  | .cnt, X, g, c, W, st, O, h => by
    unfold chS at h
    split at h
    · have en : ex Φ .cnt = fun s => .cnt s := by funext s; rw [ex] <;> rfl
      rw [en]
      exact ps_cnt'
    · cases h
theorem sSs : ∀ (ms : MSs) (X : Cx) (g : G) (c : Ctx) (W : WX) (ss : List Stmt), XOk X g T Φ lv c W → chSs T c ms ss = true → PSs X ss (rdS g W (exs Φ ms))
  | .nil, X, g, c, W, ss, O, h => by
    cases ss with
    | cons _ _ => simp [chSs] at h
    | nil =>
      have en : exs Φ .nil = fun s => .next s := by funext s; rw [exs]
      rw [en]
      exact pss_nil'
  | .cons m ms, X, g, c, W, ss, O, h => by
    cases ss with
    | nil => simp [chSs] at h
    | cons st ss =>
      simp only [chSs, Bool.and_eq_true] at h
      have en : exs Φ (.cons m ms) = fun s => match ex Φ m s with | .next s1 => exs Φ ms s1 | q => q := by
        funext s
        rw [exs] <;> (cases ex Φ m s <;> rfl)
      rw [en]
      exact pss_cons' (sS m X g c W st O h.1) (sSs ms X g c W ss O h.2)
theorem sH : ∀ (ms : MHs) (X : Cx) (g : G) (c : Ctx) (W : WX) (hs : List ExceptHandler), XOk X g T Φ lv c W → chH T c ms hs = true →
    ∃ l : List (Value × HP), (∀ q d s, exH Φ q d ms s = runH q d (l.map (·.2)) s) ∧ (∀ p ∈ l, (∀ k ∈ p.2.cs, PySem.W.exmOne g.K (.ref (g.C k)) p.1 = some true) ∧ ∀ k ∈ p.2.no, PySem.W.exmOne g.K (.ref (g.C k)) p.1 = some false) ∧
      HdsA X hs (l.map fun p => (p.1, p.2.i, tsOf g p.2))
  | .nil, X, g, c, W, hs, O, h => by
    cases hs with
    | cons _ _ => simp [chH] at h
    | nil => exact ⟨[], fun q d s => by rw [exH]; rfl, fun p hp => by simp at hp, .nil⟩
  | .cons x cs no i b r, X, g, c, W, hs, O, h => by
    unfold chH at h
    split at h
    · rename_i y np n s0 ss pos' hs'
      simp only [Bool.and_eq_true, decide_eq_true_eq] at h
      obtain ⟨⟨⟨⟨⟨⟨rfl, h1⟩, h2⟩, h3⟩, h4⟩, h5⟩, h6⟩ := h
      obtain ⟨l, hl1, hl2, hl3⟩ := sH r X g c W _ O h6
      obtain ⟨v, hv, hcs, hno⟩ := O.hnd _ _ _ h4
      rw [O.K] at hcs hno
      refine ⟨(v, ⟨cs, no, i, exs Φ b⟩) :: l, fun q d s => ?_, fun p hp => ?_, ?_⟩
      · rw [exH, hl1]
        rfl
      · rcases List.mem_cons.mp hp with rfl | hp
        · exact ⟨fun k hk => (hcs k hk).1, hno⟩
        · exact hl2 p hp
      · refine .cons (by rw [O.N]; exact h1) (by show X.env.scope.names.lookup n = _; rw [O.sc]; exact h2) ⟨(O.gl h3).1, (O.gl h3).2, .inl hv⟩ (fun a oe cls d pn hz hf => ?_) hl3
        refine ⟨fun pins s σ H D I ⟨k, dd, e1, e2, hk, hr⟩ => ?_⟩
        subst e1; subst e2
        have hk : k ∈ cs := by simpa using hk
        cases cs with
        | nil => cases hk
        | cons k0 cs0 =>
          simp only [Bool.and_eq_true, List.all_eq_true, decide_eq_true_eq] at h5
          obtain ⟨f1, f2⟩ := h5
          have fo := (hcs k hk).2.2
          have eF : g.F k = T.fld k0 := by rw [(hcs k hk).2.1]; exact f1 k hk
          rw [← O.K, eF] at fo
          exact (sSs b _ _ _ W0 _ (O.suite hz hf eF fo) f2).run pins s σ H D I hr
    · cases h
end
end
end PI

namespace PI
open PySem PySem.Spec PyProof.Rows L2
/-- a def of the text: its name, its slots, how many are parameters, where it stands, its form -/
structure TxtDef where
  name : Str
  N : List Str
  np : Nat
  st : Stmt
  body : MSs
def TxtDef.def (t : TxtDef) : Def := ⟨t.name, t.np, t.N.length, t.body⟩
def TxtDef.ctx (t : TxtDef) : Ctx := { N := t.N, sc := defScope t.st, calm := true, ex := none, top := true }
def TxtDef.ok (T : Tab) (t : TxtDef) : Bool := chSs T t.ctx t.body (defBody t.st) && C8.scC t.N (t.N.take t.np) (defScope t.st) && decide (t.np ≤ t.N.length)
section
variable {P : Program} {w : World} {K : PySem.W.Frag} {mg : Str → Option Value} {base : Heap} {g : G} {T : Tab} {ts : List TxtDef}
structure EnvOk (P : Program) (K : PySem.W.Frag) (mg : Str → Option Value) (g : G) (T : Tab) (ts : List TxtDef) : Prop where
  hK : K = g.K
  blt : ∀ x ∈ bltNames, mg x = none
  glb : ∀ x n, T.glb.lookup x = some n → ∃ t, mg x = some (.int n t)
  made : ∀ x k, T.exc.lookup x = some k → MkOk P K mg (g.C k) (g.F k) x
  hnd : ∀ x cs no, T.hnd.lookup x = some (cs, no) → ∃ v, mg x = some v ∧ (∀ k ∈ cs, PySem.W.exmOne K (.ref (g.C k)) v = some true ∧ g.F k = T.fld k ∧ FldOk K (g.C k) (g.F k)) ∧ ∀ k ∈ no, PySem.W.exmOne K (.ref (g.C k)) v = some false
  inj : ∀ k k', g.C k = g.C k' → k = k'
  fns : T.fns = ts.map fun t => (t.name, t.np)
  ok : ∀ t ∈ ts, t.ok T = true
  funs : ∀ t ∈ ts, ∃ qual f fd, mg t.name = some (.ref f) ∧ L2.Fun K t.name qual t.st f fd ∧ L2.Binds K fd (t.N.take t.np) []
theorem inj_of {l : List Addr} (nd : l.Nodup) (sm : ∀ c ∈ l, c < 1000000000) (k k' : Nat) (h : l[k]?.getD (1000000000 + k) = l[k']?.getD (1000000000 + k')) : k = k' := by
  cases e : l[k]? with
  | none =>
    cases e' : l[k']? with
    | none => rw [e, e'] at h; simp only [Option.getD_none] at h; exact Nat.add_left_cancel h
    | some c => rw [e, e'] at h; simp only [Option.getD_none, Option.getD_some] at h; have := sm c (List.mem_of_getElem? e'); rw [← h] at this; exact absurd this (by have : 1000000000 ≤ 1000000000 + k := Nat.le_add_right _ _; exact Nat.not_lt.mpr this)
  | some c =>
    cases e' : l[k']? with
    | none => rw [e, e'] at h; simp only [Option.getD_none, Option.getD_some] at h; have := sm c (List.mem_of_getElem? e); rw [h] at this; exact absurd this (by have : 1000000000 ≤ 1000000000 + k' := Nat.le_add_right _ _; exact Nat.not_lt.mpr this)
    | some c' => rw [e, e'] at h; simp only [Option.getD_some] at h; subst h; exact nodup_at nd e e'
theorem look_fn {f : Str} {n : Nat} : ∀ {ts : List TxtDef}, (ts.map fun t => (t.name, t.np)).lookup f = some n → ∃ t ∈ ts, t.name = f ∧ t.np = n ∧ lookD (ts.map TxtDef.def) f = some t.def
  | [], h => by simp at h
  | t :: ts, h => by
    rw [List.map_cons, List.lookup_cons] at h
    by_cases e : f = t.name
    · subst e
      simp only [beq_self_eq_true] at h
      cases h
      exact ⟨t, List.mem_cons_self, rfl, rfl, by unfold lookD; rw [List.map_cons, List.find?_cons_of_pos (by simp [TxtDef.def])]⟩
    · have : (f == t.name) = false := by simpa using e
      rw [this] at h
      obtain ⟨t', h1, h2, h3, h4⟩ := look_fn h
      refine ⟨t', List.mem_cons_of_mem _ h1, h2, h3, ?_⟩
      unfold lookD at h4 ⊢
      rw [List.map_cons, List.find?_cons_of_neg (by simp only [TxtDef.def]; intro z; exact e (of_decide_eq_true z).symm)]
      exact h4
theorem rel_start {H : Hp} {al : List Addr} {ds : List D} {vs : List V} {h : List (List D)} {N : List Str} (r : Reps g.K al H ds vs) (c : CellsOk g.K al h H) : Rel g ⟨H, al⟩ al ⟨startT N.length ds, h⟩ (L2.start N vs) H := by
  have hl := r.length
  have val : ∀ (i : Nat) (x : Sl), (startT N.length ds)[i]? = some (some x) → ∃ d, x = .val d ∧ ds[i]? = some d := fun i x e => by
    unfold startT at e
    by_cases hi : i < ds.length
    · rw [List.getElem?_append_left (by simpa using hi), List.getElem?_map] at e
      cases q : ds[i]? with
      | none => rw [q] at e; cases e
      | some d => rw [q] at e; cases e; exact ⟨d, rfl, rfl⟩
    · rw [List.getElem?_append_right (by simp; omega)] at e
      rw [List.getElem?_replicate] at e
      split at e <;> cases e
  refine ⟨by unfold startT L2.start; simp [hl], fun i x e => ?_, fun i j x y a hij ei ej ox oy => ?_, c.cell, c.alen, c.nd, fun a o e _ => e, fun a ha => .inl ha, fun k a e => e⟩
  · obtain ⟨d, rfl, ed⟩ := val i x e
    obtain ⟨v, ev, rv⟩ := r.get ed
    refine ⟨v, ?_, rv⟩
    unfold L2.start
    rw [List.getElem?_append_left (by rw [List.length_map]; exact (List.getElem?_eq_some_iff.mp ev).1), List.getElem?_map, ev]
    rfl
  · obtain ⟨d, rfl, _⟩ := val i x ei
    cases ox
theorem al_eq {al al' : List Addr} (a : AlX al al') (h : al'.length = al.length) : al' = al := by
  apply List.ext_getElem?
  intro i
  by_cases hi : i < al.length
  · rw [List.getElem?_eq_getElem hi]
    exact a i _ (List.getElem?_eq_getElem hi)
  · rw [List.getElem?_eq_none (by omega), List.getElem?_eq_none (by omega)]
theorem endF_next (k : Nat) (s : S) : endF k (.next s) = if s.h.length = k then .ok (.val .non) s.h else .bad := rfl
theorem endF_exc (k : Nat) (c : Nat) (d : D) (s : S) : endF k (.exc c d s) = if s.h.length = k then .exc c d s.h else .bad := rfl
theorem endF_ret (k : Nat) (r : RV) (s : S) : endF k (.ret r s) = if s.h.length = k then endV r s.h else if k = 0 then endB r else .bad := rfl
theorem end_ok {H : Hp} {al : List Addr} {h : List (List D)} {r : R} {Q : VK} {E : XK} (hal : al.length = h.length)
    (q : match endF h.length r with
      | .ok r h' => ∀ v H', Keep al H H' → CellsOk g.K al h' H' → FRep g.K al H H' r v → Q v H'
      | .exc c d h' => ∀ cls dd H', Keep al H H' → CellsOk g.K al h' H' → ExcRep g al H' c d cls dd → E cls (some dd) H'
      | .bad => False) : PostS g ⟨H, al⟩ (fun cls d _ H => E cls d H) { nx := fun _ H' => Q .non H', rt := Q } al H r := by
  have kp : ∀ {al' : List Addr} {s : S} {σ : L2.St} {H' : Hp}, Rel g ⟨H, al⟩ al' s σ H' → Keep al H H' := fun R a o n e => R.base a o e n
  cases r with
  | next s =>
    intro al' σ' H' ax st R
    rw [endF_next] at q
    by_cases hk : s.h.length = h.length
    · rw [if_pos hk] at q
      have := al_eq ax (by rw [R.alen, hk, hal])
      subst this
      exact q _ _ (kp R) R.cells (by unfold FRep Rep; rfl)
    · rw [if_neg hk] at q
      exact q.elim
  | brk s => exact q.elim
  | cnt s => exact q.elim
  | bad => exact q.elim
  | exc c d s =>
    intro al' σ' cls dd H' ax st R er
    rw [endF_exc] at q
    by_cases hk : s.h.length = h.length
    · rw [if_pos hk] at q
      have := al_eq ax (by rw [R.alen, hk, hal])
      subst this
      exact q _ _ _ (kp R) R.cells er
    · rw [if_neg hk] at q
      exact q.elim
  | ret rv s =>
    intro al' σ' v H' ax st R rr
    rw [endF_ret] at q
    by_cases hk : s.h.length = h.length
    · rw [if_pos hk] at q
      have := al_eq ax (by rw [R.alen, hk, hal])
      subst this
      cases rv with
      | val d => exact q v H' (kp R) R.cells rr
      | own ds =>
        obtain ⟨a, vs, e1, e2, e3, e4, e5, e6⟩ := rr
        exact q v H' (kp R) R.cells ⟨a, vs, e1, e2, e3, e5⟩
      | loc i ds =>
        obtain ⟨a, vs, e1, e2, e3, e4, e5⟩ := R.own rr.1 rr.2
        exact q v H' (kp R) R.cells ⟨a, vs, e1, e2, e3, e5⟩
      | dct ds =>
        obtain ⟨a, vs, e1, e2, e3, e4, e5, e6⟩ := rr
        exact q v H' (kp R) R.cells ⟨a, vs, e1, e2, e3, e5⟩
      | ldc i ds =>
        obtain ⟨w, ew, a, vs, e1, e2, e3, e4, e5⟩ := R.sl i _ rr.1
        rw [rr.2] at ew; cases ew
        exact q v H' (kp R) R.cells ⟨a, vs, e1, e2, e3, e5⟩
    · rw [if_neg hk] at q
      by_cases h0 : h.length = 0
      · rw [if_pos h0] at q
        have hal0 : al = [] := List.length_eq_zero_iff.mp (by rw [hal, h0])
        subst hal0
        cases rv with
        | val d =>
          cases d with
          | bl b =>
            have rr : Rep g.K al' H' (.bl b) v := rr
            unfold Rep at rr
            exact q v H' (kp R) ⟨rfl, List.nodup_nil, fun k ds e => by simp at e⟩ (by unfold FRep Rep; exact rr)
          | _ => exact q.elim
        | _ => exact q.elim
      · rw [if_neg h0] at q
        exact q.elim
theorem defs_ok (Eo : EnvOk P K mg g T ts) : ∀ (lv : Nat) (f : Str) (n : Nat), T.fns.lookup f = some n → ∃ a fd ps, ps.length = n ∧ mg f = some (.ref a) ∧ PySem.W.keepIn K (.ref a) = true ∧
    FnOk P w K mg base (L2.CX P w) lv a fd ps (spF g (Phi (ts.map TxtDef.def) lv) f n) ∧ L2.Binds K fd ps []
  | 0, f, n, h => by
    rw [Eo.fns] at h
    obtain ⟨t, ht, rfl, rfl, hd⟩ := look_fn h
    obtain ⟨qual, a, fd, h1, h2, h3⟩ := Eo.funs t ht
    have hok := Eo.ok t ht
    simp only [TxtDef.ok, Bool.and_eq_true, decide_eq_true_eq] at hok
    have hp : (t.N.take t.np).length = t.np := by rw [List.length_take]; omega
    refine ⟨a, fd, t.N.take t.np, hp, h1, h2.kp, ⟨fun vs H Q E ⟨al, ds, h, e, _⟩ => by rw [hp]; exact e, fun A outer s H args us vs Q E hr he hb hv ⟨al, ds, h, _, _, _, q⟩ => ?_⟩, h3⟩
    unfold Phi at q
    exact q.elim
  | lv + 1, f, n, h => by
    have ih := defs_ok Eo lv
    rw [Eo.fns] at h
    obtain ⟨t, ht, rfl, rfl, hd⟩ := look_fn h
    obtain ⟨qual, a, fd, h1, h2, h3⟩ := Eo.funs t ht
    have hok := Eo.ok t ht
    simp only [TxtDef.ok, Bool.and_eq_true, decide_eq_true_eq] at hok
    obtain ⟨⟨k1, k2⟩, k3⟩ := hok
    have hp : (t.N.take t.np).length = t.np := by rw [List.length_take]; omega
    have FS : FnScope t.N (t.N.take t.np) (defScope t.st) := C8.fnScope_by k2
    refine ⟨a, fd, t.N.take t.np, hp, h1, h2.kp, ?_, h3⟩
    refine L2.Fun.okX h2 FS (fun vs H Q E ⟨al, ds, h, e, _⟩ => by rw [hp]; exact e) fun cdv A outer s H vs Q E hr ⟨al, ds, h, hl, rs, co, q⟩ => ?_
    refine ⟨rdS g (fun cls d _ H => E cls d H) (exs (Phi (ts.map TxtDef.def) lv) t.body), sSs (T := T) (lv := lv) t.body _ g t.ctx _ _ ?_ k1, ⟨H, al⟩, al, ⟨startT t.N.length ds, h⟩, rel_start rs co, ?_⟩
    · exact {
        K := Eo.hK
        N := rfl
        sc := rfl
        nd := FS.nd
        tk := takes_of rfl rfl rfl rfl
        own := passes_of rfl
        units := by have := hr.un; show (A.deeper _).units + 65 < _; omega
        calm := fun _ => ⟨rfl, hr⟩
        top := fun _ _ => rfl
        stk := fun _ => ⟨rfl, rfl⟩
        blt := Eo.blt
        glb := Eo.glb
        fn := fun f n hf => ih f n hf
        ex := fun i f z => by cases z
        made := Eo.made
        hnd := Eo.hnd
        inj := Eo.inj }
    · have hds : ds.length = t.def.ps := by rw [rs.length, hl]; rfl
      refine end_ok co.alen ?_
      unfold Phi at q
      rw [hd] at q
      dsimp only at q
      rw [if_pos hds] at q
      exact q
end
end PI

namespace PI
open PySem PySem.Spec PyProof.Rows L2
section
variable {P : Program} {w : World} {K : PySem.W.Frag} {mg : Str → Option Value} {base : Heap} {g : G} {T : Tab} {ts : List TxtDef}
/-- _law_pool: a new list, the script's copy in it -/
def spPool (K : PySem.W.Frag) : Sp := fun vs H Q _ => ∃ (a : Addr) (ns : List Int) (i : Int), vs = [.ref a, .int i] ∧ SqL K H a (ns.map V.int) ∧
  ∀ H' p q o, H' p = some (.lst [.ref q, .int 0, .int 0, .int 1, .int 0, .int i]) → H' q = some (.frz o (.lst (ns.map V.int))) → Q (.ref p) H'
/-- how its body is written -/
def poolBody (b : List Stmt) : Bool := match b with
  | [.Return (some (.List [.Call (.Name x _) [.Name y _] [] _, .Constant (.int 0) _ _, .Constant (.int 0) _ _, .Constant (.int 1) _ _, .Constant (.int 0) _ _, .Name z _] _)) _] => decide (x = "list") && decide (y = "script") && decide (z = "budget")
  | _ => false
def poolOk (st : Stmt) : Bool := poolBody (defBody st) && C8.scC ["script", "budget"] ["script", "budget"] (defScope st) && decide ((defScope st).names.lookup ("list" : Str) = some NameKind.globalImplicit)
theorem pool_fn {qual : Str} {st : Stmt} {f : Addr} {fd : FuncData} (F : L2.Fun K "_law_pool" qual st f fd) (h : poolOk st = true) (hb : ∀ x ∈ bltNames, mg x = none) : FnOk P w K mg base (L2.CX P w) 1 f fd ["script", "budget"] (spPool K) := by
  simp only [poolOk, Bool.and_eq_true, decide_eq_true_eq] at h
  obtain ⟨⟨h1, h2⟩, h3⟩ := h
  have FS := C8.fnScope_by h2
  refine L2.Fun.okX F FS (fun vs H Q E ⟨a, ns, i, e, _⟩ => by rw [e]; rfl) fun cdv A outer s H vs Q E hr ⟨a, ns, i, ev, hs, q⟩ => ?_
  subst ev
  unfold poolBody at h1
  split at h1
  · rename_i x p0 y p1 p2 c1 c2 c3 c4 c5 c6 c7 c8 z p3 p4 p5 e
    simp only [Bool.and_eq_true, decide_eq_true_eq] at h1
    obtain ⟨⟨rfl, rfl⟩, rfl⟩ := h1
    rw [e]
    have hc : CallR (cxOf (L2.CX P w) P w K mg base ["script", "budget"] qual (defScope st) f cdv A outer s H E) (.type "list") _ := call_list_of
    refine ⟨_, pss_one (ps_ret (pe_lst (pa_cons (pe_callTy (p := p0) (pos := p2) hc h3 (hb _ (by decide)) (by decide +kernel) (pa_cons (pe_var (i := 0) (pos := p1) rfl (by rcases FS.par "script" (by decide) with k | k; exact .inl k; exact .inr (.inl k))) pa_nil)).frz
      (pa_cons pe_int (pa_cons pe_int (pa_cons pe_int (pa_cons pe_int (pa_cons (pe_var (i := 1) rfl (by rcases FS.par "budget" (by decide) with k | k; exact .inl k; exact .inr (.inl k))) pa_nil)))))))), ?_⟩
    refine ⟨.ref a, rfl, a, ns.map V.int, rfl, .inl hs, fun l hl => .inr ⟨l, _, rfl, upd_same, fun o => ?_⟩⟩
    refine ⟨.int i, rfl, (by show 6 ≤ sizeLine; decide), fun p hp => q _ p l o upd_same ?_⟩
    rw [upd_ne (fun z => by subst z; rw [upd_same] at hp; cases hp)]
    exact upd_same
  · cases h1
/-- the law's def: the pool, then the rest -/
def spLaw (K : PySem.W.Frag) (n : Nat) : Sp := fun vs H Q _ => ∃ (a : Addr) (ns : List Int), vs = [.ref a] ∧ ns.length ≤ n ∧ SqL K H a (ns.map V.int) ∧ ∀ H', Q (.bl true) H'
def lawBody (st : Stmt) : Option (List Stmt) := match defBody st with
  | .Assign [.Name x _] (.Call (.Name f _) [.Name y _, .Constant (.int 0) _ _] [] _) _ :: rest => if x = "pool" ∧ f = "_law_pool" ∧ y = "script" then some rest else none
  | _ => none
def poolD (ns : List Int) : List D := [.lst (ns.map D.int), .int 0, .int 0, .int 1, .int 0, .int 0]
def lawS (t : TxtDef) (ip : Nat) (ns : List Int) : S := ⟨(List.replicate t.N.length none).set ip (some (.val (.ref 0))), [poolD ns]⟩
def lawOk (T : Tab) (t : TxtDef) (ip : Nat) : Bool := (match lawBody t.st with | some rest => chSs T t.ctx t.body rest | none => false) && C8.scC t.N ["script"] (defScope t.st) && stB t.ctx ip "pool" && decide ((defScope t.st).names.lookup ("_law_pool" : Str) = some NameKind.globalImplicit)
theorem law_fn (Eo : EnvOk P K mg g T ts) {lv n ip : Nat} {t : TxtDef} {qual : Str} {f fp : Addr} {fd fdp : FuncData} {stp : Stmt} {qp : Str} (F : L2.Fun K "law" qual t.st f fd) (FP : L2.Fun K "_law_pool" qp stp fp fdp) (hmp : mg "_law_pool" = some (.ref fp)) (bp : L2.Binds K fdp ["script", "budget"] [])
    (hp : poolOk stp = true) (hok : lawOk T t ip = true)
    (hpure : ∀ ns : List Int, ns.length ≤ n → ∃ s', exs (Phi (ts.map TxtDef.def) (lv + 1)) t.body (lawS t ip ns) = .ret (.val (.bl true)) s') :
    FnOk P w K mg base (L2.CX P w) (lv + 2) f fd ["script"] (spLaw K n) := by
  simp only [lawOk, Bool.and_eq_true, decide_eq_true_eq] at hok
  obtain ⟨⟨⟨h0, h3⟩, h4⟩, h5⟩ := hok
  obtain ⟨rest, h1, h2⟩ : ∃ rest, lawBody t.st = some rest ∧ chSs T t.ctx t.body rest = true := by
    cases e : lawBody t.st with
    | none => rw [e] at h0; cases h0
    | some rest => rw [e] at h0; exact ⟨rest, rfl, h0⟩
  have FS := C8.fnScope_by h3
  refine L2.Fun.okX F FS (fun vs H Q E ⟨a, ns, e, _⟩ => by rw [e]; rfl) fun cdv A outer s H vs Q E hr ⟨a, ns, ev, hl, hs, q⟩ => ?_
  subst ev
  unfold lawBody at h1
  split at h1
  · rename_i x p0 f' p1 y p2 c1 c2 p3 p4 rest' e
    split at h1
    · rename_i hxy
      obtain ⟨rfl, rfl, rfl⟩ := hxy
      cases h1
      have XO : XOk (cxOf (L2.CX P w) P w K mg base t.N qual (defScope t.st) f cdv A outer s H E) g T (Phi (ts.map TxtDef.def) (lv + 1)) (lv + 1) t.ctx (fun cls d _ H => E cls d H) := {
        K := Eo.hK
        N := rfl
        sc := rfl
        nd := FS.nd
        tk := takes_of rfl rfl rfl rfl
        own := passes_of rfl
        units := by have := hr.un; show (A.deeper _).units + 65 < _; omega
        calm := fun _ => ⟨rfl, hr⟩
        top := fun _ _ => rfl
        stk := fun _ => ⟨rfl, rfl⟩
        blt := Eo.blt
        glb := Eo.glb
        fn := fun f n hf => defs_ok Eo (lv + 1) f n hf
        ex := fun i f z => by cases z
        made := Eo.made
        hnd := Eo.hnd
        inj := Eo.inj }
      have GP : FnOk P w K mg base (L2.CX P w) (lv + 1) fp fdp ["script", "budget"] (spPool K) := (pool_fn FP hp Eo.blt).mono (Nat.le_add_left 1 lv)
      have hst := XO.st h4
      have hn0 : t.N[0]? = some ("script" : Str) := by
        have := FS.pre
        cases hN : t.N with
        | nil => rw [hN] at this; simp at this
        | cons u v => rw [hN] at this; simp at this; rw [this]; rfl
      obtain ⟨tn, hN⟩ : ∃ tn, t.N = ("script" : Str) :: tn := by
        cases hN : t.N with
        | nil => rw [hN] at hn0; simp at hn0
        | cons u v => rw [hN] at hn0; simp at hn0; exact ⟨v, by rw [hn0]⟩
      rw [e]
      refine ⟨_, pss_cons (ps_set FS.nd hst.ix hst.loc (pe_callS GP hr h5 hmp FP.kp bp (fun σ => passAt XO.tk σ) (pa_cons (pe_var (i := 0) hn0 (by rcases FS.par "script" (by decide) with k | k; exact .inl k; exact .inr (.inl k))) (pa_cons pe_int pa_nil))) (by rfl) hst.fn)
        (sSs t.body _ g t.ctx _ _ XO h2), ?_⟩
      refine ⟨.ref a, ?_, a, ns, 0, rfl, hs, fun H' p ql o h6 h7 => ?_⟩
      · unfold L2.start; rfl
      obtain ⟨s', hs'⟩ := hpure ns hl
      refine ⟨⟨fun _ => none, []⟩, [p], lawS t ip ns, ?_, ?_⟩
      · have hlen : (L2.start t.N [V.ref a]).length = t.N.length := by unfold L2.start; rw [hN]; simp
        have hgs : ∀ (i : Nat) (x : Sl), (lawS t ip ns).t[i]? = some (some x) → i = ip ∧ x = .val (.ref 0) ∧ ip < t.N.length := fun i x ex => by
          rcases get_set (show ((List.replicate t.N.length none).set ip (some (Sl.val (.ref 0))))[i]? = some (some x) from ex) with ⟨rfl, e2, hl⟩ | ⟨hj, e2⟩
          · cases e2; exact ⟨rfl, rfl, by simpa using hl⟩
          · rw [List.getElem?_replicate] at e2
            split at e2 <;> cases e2
        refine ⟨by show ((List.replicate t.N.length none).set ip (some (Sl.val (.ref 0)))).length = _; simp [hlen], fun i x ex => ?_, fun i j x y c hij ei ej ox oy => ?_, fun k ds ek => ?_, rfl, by simp, fun a o z => (by cases z), fun a _ => .inr rfl, fun k a z => (by simp at z)⟩
        · obtain ⟨rfl, rfl, hi⟩ := hgs i x ex
          refine ⟨.ref p, by rw [List.getElem?_set_self (by rw [hlen]; exact hi)], ?_⟩
          show Rep g.K [p] H' (.ref 0) (.ref p)
          unfold Rep
          exact ⟨p, rfl, rfl⟩
        · obtain ⟨_, rfl, _⟩ := hgs i x ei
          cases ox
        · cases k with
          | succ k => simp [lawS] at ek
          | zero =>
            simp [lawS] at ek
            subst ek
            refine ⟨p, _, rfl, h6, ?_⟩
            refine Reps.cons ?_ (Reps.cons ?_ (Reps.cons ?_ (Reps.cons ?_ (Reps.cons ?_ (Reps.cons ?_ Reps.nil)))))
            · unfold Rep
              exact ⟨ql, _, rfl, ⟨o, h7⟩, reps_ints ns⟩
            all_goals (unfold Rep; rfl)
      · rw [hs']
        intro al' σ' v H2 _ _ _ rv
        have rv : Rep g.K al' H2 (.bl true) v := rv
        unfold Rep at rv
        subst rv
        exact q H2
    · cases h1
  · cases h1
theorem cx_end {P : Program} {w : World} {H : Hp} {s : Shared} {e : Value} {s' : Shared} (h : L2.CX P w [] H s (fun _ _ _ => False) e s') : False := by
  obtain ⟨_, _, _, _, _, _, _, _, _, _, _, _, z⟩ := h
  exact z
end
end PI

set_option maxHeartbeats 2000000
namespace PI
open PySem PySem.Spec PySem.W PySem.Calls PyProof.Rows PySem.HandSPX
open L2 (Mod)

/-- the parts of the text of an error -/
def fparts (f : Str) : List Expr → Nat → Bool
  | [], n => decide (n ≤ 10000)
  | .Constant (.str z) _ _ :: r, n => fparts f r (n + z.length)
  | .FormattedValue (.Name x _) i none _ :: r, n => decide (x = f) && decide (i = -1) && fparts f r (n + 1000)
  | _ :: _, _ => false
theorem fparts_run {prog : Program} {w : World} {A : Around} {E : Value → Shared → Prop} {env : Env} {m : Str → Option Value} {f z : Str} {tz : Tok} (hk : env.scope.kind = .function) (hl : env.kindOf f = some .local) (hm : m f = some (.str z tz)) (hz : z.length ≤ 1000) (hd : (f == ("__debug__" : Str)) = false) :
    ∀ (es : List Expr) (n : Nat) (acc : Str) (s : Shared) (R : Str → Shared → Prop), fparts f es n = true → acc.length ≤ n → s.heap.Ns env.locals m → (∀ out tk, out.length ≤ 10000 → R out { s with toks := tk }) → Joins (model prog w) A E (evalEach es env) acc R s
  | [], n, acc, s, R, h, ha, hn, k => by
    have e0 : evalEach [] env = [] := by first | rfl | simp [evalEach]
    rw [e0]
    simp only [fparts, decide_eq_true_eq] at h
    exact k acc s.toks (Nat.le_trans ha h)
  | e :: es, n, acc, s, R, h, ha, hn, k => by
    have mono : ∀ (es : List Expr) (n : Nat), fparts f es n = true → n ≤ 10000 := by
      intro es
      induction es with
      | nil => intro n h; simpa [fparts] using h
      | cons e es ih =>
        intro n h
        unfold fparts at h
        split at h
        · simpa using h
        · rename_i q; cases q; have := ih _ h; omega
        · rename_i q; cases q; simp only [Bool.and_eq_true] at h; have := ih _ h.2; omega
        · cases h
    have e0 : evalEach (e :: es) env = eval e env :: evalEach es env := by first | rfl | simp [evalEach]
    rw [e0]
    have big : (10000 : Nat) ≤ sizeLine := by decide
    unfold fparts at h
    split at h
    · rename_i q; cases q
    · rename_i y ck cp r q
      cases q
      refine Calls.Constant_str ⟨y, _, rfl, ?_, fparts_run hk hl hm hz hd es _ (acc ++ y) { s with toks := s.toks + 1 } R h (by rw [strLen_append]; omega) hn fun out tk ho => k out tk ho⟩
      have := mono _ _ h
      rw [strLen_append]; omega
    · rename_i x p i p' r q
      cases q
      simp only [Bool.and_eq_true, decide_eq_true_eq] at h
      obtain ⟨⟨rfl, rfl⟩, h⟩ := h
      have hh := mono _ _ h
      refine wpAny_FormattedValue_plain (wpAny_Name (wpAny_loadName_local hk hl hn hm ?_) hd)
      have step : ∀ (s' : Shared), s'.heap = s.heap → (∀ out tk, out.length ≤ 10000 → R out { s' with toks := tk }) → ∀ t', ∃ y t, Value.str z t' = .str y t ∧ (acc ++ y).length ≤ sizeLine ∧ Joins (model prog w) A E (evalEach es env) (acc ++ y) R s' := fun s' eh k' t' =>
        ⟨z, t', rfl, by rw [strLen_append]; omega, fparts_run hk hl hm hz hd es _ (acc ++ z) s' R h (by rw [strLen_append]; omega) (by rw [eh]; exact hn) k'⟩
      exact wpAny_formatField_str (step s rfl k _) (step { s with toks := s.toks + 1 } rfl (fun out tk ho => k out tk ho) _) (by omega)
    · cases h

/-! ### an error's text -/
def exArgs (ar : Arguments) (f : Str) : Bool := match ar with
  | ⟨[], [a, b], none, [], [], none, []⟩ => decide (a.arg = "self") && decide (b.arg = f)
  | _ => false
def exBody (b : List Stmt) (f : Str) : Bool := match b with
  | [.Expr (.Call (.Attribute (.Call (.Name u _) [] [] _) i p2) [.JoinedStr (e1 :: e2 :: es) _] [] p4) _, .Assign [.Attribute (.Name x _) y _] (.Name z _) _] =>
    decide (u = "super") && decide (i = "__init__") && decide (x = "self") && decide (y = f) && decide (z = f) && (p2.endLine == p4.line) && fparts f (e1 :: e2 :: es) 0
  | _ => false
def exScope (sc : Scope) (f : Str) : Bool := decide (sc.kind = .function) && !sc.isCoroutine && !sc.isGenerator && decide (sc.names.lookup ("super" : Str) = some NameKind.globalImplicit) && decide (sc.names.lookup ("__class__" : Str) = some NameKind.free) &&
  decide (sc.names.lookup ("self" : Str) = some NameKind.local) && decide (sc.names.lookup f = some NameKind.local) && sc.names.all (fun y => !decide (y.2 = .cell)) && !(f == "self") && !(f == "__debug__")
/-- what the written part says of the error's class at C, of its __init__ at fI -/
structure ExTxt (P : Program) (K : Frag) (mg : Str → Option Value) (C fI : Addr) (f : Str) : Prop where
  cls : ∃ nm q N bs bm sn sub ab col dd k0 k1 k2 k3 k5, K.lookup C = some (excClassObj nm q C N bs bm true sn sub ab col dd k0 k1 k2 k3 k5 "ValueError.__new__") ∧ refsVE bm = true
  sa : findIn K (.ref C) "__setattr__" = some (some (.builtin "object.__setattr__"))
  noN : findIn K (.ref C) f = some none
  iC : findIn K (.ref C) "__init__" = some (some (.ref fI))
  tI : typeIn K (.ref fI) = some (.type "function")
  kC : keepIn K (.ref C) = true
  exC : subIn K (.ref C) (.type "BaseException") = some true
  veC : subIn K (.ref C) (.type "ValueError") = some true
  tyC : typeIn K (.ref C) = some (.type "type")
  self : mroIn K C (.ref C) = some true
  up : ks_superIn K C C "__init__" = some (some (.builtin "ValueError.__init__"))
  opq : nsIn K cStatics "thirdparty.any" = some none
  nosup : mg "super" = none
  top : (P.main.scope.names.lookup ("super" : Str)).isSome = false
  fn : ∃ (oc : Value) (od : Option Addr) (doc pm : Value) (an : Option Addr) (cda : Addr) (ct : Value) (osl : Array (Option Value)) (qual : Str) (ar : Arguments) (body : List Stmt) (sc : Scope) (cc : Addr),
    K.lookup fI = some ⟨oc, od, .func (ksFn "__init__" qual ar body sc .none .none doc pm an (.ref cda) ct cc), osl⟩ ∧ codeIn K (.ref cda) qual = true ∧ (∀ u v, bindArgs (ksFn "__init__" qual ar body sc .none .none doc pm an (.ref cda) ct cc) ⟨[u, v], []⟩ = pure [(("self" : Str), u), (f, v)]) ∧ exArgs ar f = true ∧ exBody body f = true ∧ exScope sc f = true ∧
    (∃ cl cld csl, K.lookup cc = some ⟨cl, cld, .cell (some (.ref C)), csl⟩) ∧ ∃ ccl cdd vs ccs file tf, K.lookup cda = some ⟨ccl, cdd, .fields vs, ccs⟩ ∧ vs[2]? = some (.str file tf) ∧ ((P.main.file : Str) == file) = true
/-- what __init__ leaves of a fresh error at x -/
structure ExEnd (h h' : Heap) (x C dx t1 : Addr) (f : Str) (v : Value) : Prop where
  keep : ∀ b o, b ≠ x → h.get? b = some o → h'.get? b = some o
  obj : h'.get? x = some { cls := .ref C, dict := some dx, data := .fields #[.ref t1, .none, .none, .none, .bool false, .none] }
  dbig : h.objs.size ≤ dx
  dne : dx ≠ x
  ns : h'.Ns1 dx (fun y => if y = f then some v else none)
structure ExMade (h h' : Heap) (e C d : Addr) (f : Str) (v : Value) : Prop where
  keep : ∀ b o, h.get? b = some o → h'.get? b = some o
  new : h.objs.size ≤ e
  obj : ∃ oe vs, h'.get? e = some oe ∧ oe.cls = .ref C ∧ oe.dict = some d ∧ oe.data = .fields vs ∧ vs[1]? = some .none
  dbig : h.objs.size ≤ d
  dne : d ≠ e
  ns : h'.Ns1 d (fun y => if y = f then some v else none)
theorem ex_size (v : Value) : [v].length ≤ sizeLine := by
  rw [sizeLine_eq]
  exact (by decide : 1 ≤ 16777216)
section
variable {P : Program} {w : World} {A : Around} {E : Value → Shared → Prop} {R : Result → Shared → Prop} {s : Shared} {K : Frag} {mg : Str → Option Value} {C fI : Addr} {f : Str} {base : Heap}
/-- the bound __init__ of the base is called -/
theorem call_mw {h : Heap} {g : Array GenState} {d : Drawn} {t : Nat} {os : OsState} {nm qn : Str} {N : Addr} {bs bm : List Value} {sn : List Str} {sub : List Value} {ab : Bool} {col : Option Bool} {dd : Option Addr} {k0 k1 k2 k3 k5 : Option Value} {u e t0 : Addr} {rest : List Value} {Q : Value → Shared → Prop}
    (hC : h.get? C = some (excClassObj nm qn C N bs bm true sn sub ab col dd k0 k1 k2 k3 k5 "ValueError.__new__")) (he : h.get? e = some (excO C t0)) (hu : h.get? u = some (kxs_mw "ValueError.__init__" e)) (hrest : rest.length ≤ sizeLine)
    (hq : ∀ h' t1, (∀ b o, b ≠ e → h.get? b = some o → h'.get? b = some o) → h'.get? e = some (excO C t1) → Q .none ⟨h', g, d, t, os⟩) :
    wpAny (model P w) A (call (.ref u) rest) Q E ⟨h, g, d, t, os⟩ := by
  refine wpAny_call (codeAny_of_tree ?_)
  show wpAny _ A.in1 (callAny (.ref u) ⟨rest, []⟩) _ _ _
  simp only [callAny]
  refine wpAny_bind (wpAny_load hu ?_)
  simp only [kxs_mw, show (Value.type "method-wrapper" == Value.type "method" || Value.type "method-wrapper" == Value.type "builtin_function_or_method" || Value.type "method-wrapper" == Value.type "method-wrapper") = true by decide, if_true]
  refine KFB.if_so (by decide) ?_
  refine wpAny_bind (check_bound_init F.excBase_ValueError.toExcCallFacts hC he rfl ?_)
  refine wpAny_bind (wpAny_pure (wpAny_pure ?_))
  refine ⟨plainId_quiet F.excBase_ValueError.init.plain _, codeAny_builtin F.excBase_ValueError.initEntry ?_⟩
  exact exc_init_tree (cls := .ref C) (t0 := t0) (dv := none) (c2 := .none) (c3 := .none) (b4 := .bool false) he hrest fun h' k1 k2 _ => hq h' _ k1 k2
theorem meth_eq {o : Expr} {name : Str} {apos pos : Pos} {args : List Expr} {env : Env} (hf : methodCallForm (args.length + ([] : List Keyword).length) (backTo pos (starEach args env)) (backToKw pos (keywordEach [] env)) = true) (hl : (apos.endLine == pos.line) = true) :
    eval (.Call (.Attribute o name apos) args [] pos) env = (do
      let ov ← attributeBase o name env (eval o env)
      standAt apos.atName
      let (f, first) ← holding [ov] (getMethod ov name (L2.plainOf o env))
      callWith pos f first (backTo pos (starEach args env)) []) := by
  rw [arm_eval_Call]
  have := fun ov => L2.mcall_line (o := o) (m := name) (ov := ov) (env := env) hf hl
  simp only [this]
  rfl
theorem ex_init (T : ExTxt P K mg C fI f) {x t0 : Addr} {z : Str} {tz : Tok} (M : Mod K mg base) (bk : ∀ b o, base.get? b = some o → s.heap.get? b = some o) (hx : s.heap.get? x = some (excO C t0)) (hnx : base.get? x = none) (hroom : A.depth < recursionLimit) (hz : z.length ≤ 1000)
    (hq : ∀ h' tk dx t1, ExEnd s.heap h' x C dx t1 f (.str z tz) → R (.ok (.ret .none)) { s with heap := h', toks := tk }) :
    codeAny (model P w) A (.call (.ref fI) ⟨[.ref x, .str z tz], []⟩) R s := by
  obtain ⟨oc, od, doc, pm, an, cda, ct, osl, qual, ar, body, sc, cc, ho, hcd, hBA, hA, hB, hS, ⟨cl, cld, csl, hcell⟩, ccl, cdd, vs, ccs, file, tf, hcode, hvs, hfile⟩ := T.fn
  obtain ⟨nm, q, N, bs, bm, sn, sub, ab, col, dd, k0, k1, k2, k3, k5, hC, hbm⟩ := T.cls
  have hcl : clsIn K C = some { name := nm, bases := bs, mro := .ref C :: bm, ns := N, qualname := q, hasDict := true, slotNames := sn, subclasses := sub, abstract := ab, collection := col, hasDel := false } := by unfold clsIn; rw [hC] <;> rfl
  have X : K.In s.heap := M.kin.keeps bk
  simp only [exScope, Bool.and_eq_true, Bool.not_eq_true', decide_eq_true_eq, List.all_eq_true, decide_eq_false_iff_not] at hS
  obtain ⟨⟨⟨⟨⟨⟨⟨⟨⟨hS1, hS2⟩, hS3⟩, hS4⟩, hS5⟩, hS6⟩, hS7⟩, hS8⟩, hS9⟩, hS10⟩ := hS
  unfold exArgs at hA
  split at hA
  · rename_i a b
    simp only [Bool.and_eq_true, decide_eq_true_eq] at hA
    obtain ⟨hA1, hA2⟩ := hA
    unfold exBody at hB
    split at hB
    · rename_i u p0 p1 i p2 e1 e2 es p3 p4 p5 y1 q1 y2 q2 y3 q3 q4
      simp only [Bool.and_eq_true, decide_eq_true_eq] at hB
      obtain ⟨⟨⟨⟨⟨⟨rfl, rfl⟩, rfl⟩, rfl⟩, rfl⟩, hB7⟩, hB6⟩ := hB
      obtain ⟨aa, ann, apos⟩ := a
      obtain ⟨ba, bnn, bpos⟩ := b
      dsimp only at hA1 hA2
      subst hA1
      subst hA2
      obtain ⟨hp, g, d, t, os⟩ := s
      have hxC : x ≠ C := fun z => by subst z; rw [M.kin _ _ hC] at hnx; cases hnx
      have hxL : hp.objs.size ≠ x := Nat.ne_of_gt (Heap.lt_size hx)
      have hfs : (ba == ("self" : Str)) = false := hS9
      refine ks_codeAny_call_defAt (binds := [("self", .ref x), (ba, .str z tz)]) hroom (X _ _ ho) rfl (M.nolimit.keeps bk) (codeRec_of X hcd) rfl (BindsTo.of_eq (hBA _ _)) (fun y hy => by simpa using hS8 y hy) (fun y hy => ?_) (fun h₁ hns k => ?_) hS2 hS3 hS1
      · rcases List.mem_cons.mp hy with rfl | hy
        · exact hS6
        · cases List.mem_singleton.mp hy
          exact hS7
      have X1 := X.keeps k
      obtain ⟨mb, hb1, hb2⟩ := M.blt
      have kb : ∀ b o, base.get? b = some o → h₁.get? b = some o := fun b o e => k b o (bk b o e)
      have vself : (List.reverse [(("self" : Str), Value.ref x), (ba, Value.str z tz)]).lookup ("self" : Str) = some (.ref x) := by
        have : (("self" : Str) == ba) = false := by
          have := hfs
          simp only [beq_eq_false_iff_ne, ne_eq] at this ⊢
          exact fun z => this z.symm
        simp [List.lookup, this]
      have vf : (List.reverse [(("self" : Str), Value.ref x), (ba, Value.str z tz)]).lookup ba = some (.str z tz) := by simp [List.lookup]
      show _root_.PySem.wpAt (model P w) (A.deeper (ksEnv qual sc hp.objs.size fI (.ref cda) cc)) (.func _ (ksEnv qual sc hp.objs.size fI (.ref cda) cc)) (execs _ (ksEnv qual sc hp.objs.size fI (.ref cda) cc)) _ _ _
      have hint : interactive (ksEnv qual sc hp.objs.size fI (.ref cda) cc) = false := by
        unfold interactive
        show (sc.kind == ScopeKind.module && _) = false
        rw [hS1]
        rfl
      refine ks_wpAt_execs_cons (ks_wpAt_Expr_any (ks_wpAt_MethodCall ?_ (meth_eq rfl hB7)) (hi := hint))
      refine ks_wpAt_super_base (env := ksEnv qual sc hp.objs.size fI (.ref cda) cc) hS4 hS5 (by decide) rfl (X1 _ _ ho) rfl rfl rfl (X1 _ _ hcode) rfl hvs hfile T.top ?_
      refine ks_loadName_global hS1 hS4 (loadGlobal_builtin (env := ksEnv qual sc hp.objs.size fI (.ref cda) cc) (M.glob.keeps kb) T.nosup (hb1.keeps kb) ((hb2 _ (by decide)).trans (by decide +kernel : bootBuiltins "super" = some (.type "super"))) ⟨rfl, ?_⟩)
      refine wpAny_loadName_free hS1 hS5 rfl ⟨_, X1 _ _ hcell, rfl⟩ ?_
      refine wpAny_loadName_local hS1 hS6 hns vself ?_
      refine ks_wpAny_isType_cls (X1 _ _ hC) rfl ⟨rfl, ?_⟩
      refine ks_wpAny_call_super (X1 _ _ hC) rfl (k _ _ hx) rfl (fun c e => by cases e) (looks_mroIn X1 T.self) (fun h2 eso k2 => ?_)
      have X2 := X1.keeps k2
      have hx2 := k2 _ _ (k _ _ hx)
      have I2 : InstAt h2 x (excO C t0) C none := ⟨hx2, rfl, rfl, trivial⟩
      have hup := T.up
      unfold ks_superIn at hup
      rw [hcl, Option.bind_some] at hup
      refine kxs_getMethod kxs_ValueError (l₀ := .ref C :: bm) eso (looks_opaque X2 T.opq) (fun A Q E s k q => wpAny_bind ((looks_clsIn X2 hcl) A _ E s k (wpAny_pure q))) rfl X2 hup (I2.type.andThen (looks_subIn X2 T.veC)) hxC (by decide) ?_
      have k3 : ∀ b o, h2.get? b = some o → (h2.push (kxs_mw "ValueError.__init__" x)).get? b = some o := fun b o e => Heap.get?_push_of_some _ e
      have hu : (h2.push (kxs_mw "ValueError.__init__" x)).get? h2.objs.size = some (kxs_mw "ValueError.__init__" x) := Heap.get?_push_at rfl rfl
      refine kxs_callWith (i := "ValueError.__init__") (x := x) rfl (evalArgs_plain (spliced_cons ?_))
      have hns3 := (hns.keeps k2).keeps k3
      show wpAny _ _ (eval (.JoinedStr (e1 :: e2 :: es) p3) (ksEnv qual sc hp.objs.size fI (.ref cda) cc)) _ _ _
      refine wpAny_JoinedStr ?_
      refine fparts_run (env := ksEnv qual sc hp.objs.size fI (.ref cda) cc) hS1 hS7 vf hz (by simpa using hS10) _ 0 _ _ _ hB6 (Nat.le_refl _) hns3 fun out tk ho => ⟨Nat.le_trans ho (by decide), ?_⟩
      refine spliced_nil ⟨hu, ?_⟩
      refine call_mw (k3 _ _ (X2 _ _ hC)) (k3 _ _ hx2) hu (ex_size _) fun h4 t1 k4 hx4 => ?_
      have hns4 : h4.Ns hp.objs.size (fun y => (List.reverse [(("self" : Str), Value.ref x), (ba, Value.str z tz)]).lookup y) := by
        obtain ⟨o, es, ep, e, r⟩ := hns3
        exact ⟨o, es, ep, k4 _ _ hxL e, r⟩
      have kk : ∀ b o, b ≠ x → hp.get? b = some o → h4.get? b = some o := fun b o hb e => k4 b o hb (k3 b o (k2 b o (k b o e)))
      have X4 : K.In h4 := fun b o e => kk b o (fun z => by subst z; rw [M.kin _ _ e] at hnx; cases hnx) (X b o e)
      refine wpAt_of_wpAny (wpAny_execs_cons (plainObj_wpAny_Assign_Attribute ?_))
      refine wpAny_Name (wpAny_loadName_local hS1 hS7 hns4 vf ?_) (by simpa using hS10)
      refine wpAny_Name (wpAny_loadName_local hS1 hS6 hns4 vself ?_) (by decide)
      refine set_plain X4 (ox := excO C t1) (od := none) ⟨hx4, rfl, rfl, trivial⟩ T.sa ?_
      refine exc_osa X4 hx4 hcl (show refsVE (.ref C :: bm) = true from hbm) rfl T.noN (fun h5 tk5 dx k5 dn dne hx5 hn5 => ?_)
      show wpAny _ _ (execs _ _) _ _ _
      have hL : hp.objs.size < h4.objs.size := hns4.lt
      exact wpAny_execs_nil (hq h5 tk5 dx t1 ⟨fun b o hb e => k5 b o hb (kk b o hb e), hx5, Nat.le_of_lt (Nat.lt_of_lt_of_le hL dn), dne, hn5⟩)
    · cases hB
  · cases hA
theorem ex_made (T : ExTxt P K mg C fI f) {z : Str} {tz : Tok} (M : Mod K mg base) (bk : ∀ b o, base.get? b = some o → s.heap.get? b = some o) (bsz : base.objs.size ≤ s.heap.objs.size) (hroom : A.depth + 1 < recursionLimit) (hz : z.length ≤ 1000)
    (hq : ∀ h' tk e d, ExMade s.heap h' e C d f (.str z tz) → R (.ok (.ret (.ref e))) { s with heap := h', toks := tk }) :
    codeAny (model P w) A (.call (.ref C) ⟨[.str z tz], []⟩) R s := by
  obtain ⟨nm, q, N, bs, bm, sn, sub, ab, col, dd, k0, k1, k2, k3, k5, hC, hbm⟩ := T.cls
  obtain ⟨hp, g, dr, tk, os⟩ := s
  have X : K.In hp := M.kin.keeps bk
  have k : ∀ b o, hp.get? b = some o → ((hp.push (kdv_tup [.str z tz])).push (excO C hp.objs.size)).get? b = some o := fun b o e => Heap.get?_push_of_some _ (Heap.get?_push_of_some _ e)
  have hget : ((hp.push (kdv_tup [.str z tz])).push (excO C hp.objs.size)).get? (hp.objs.size + 1) = some (excO C hp.objs.size) := by heap_get
  have hnx : base.get? (hp.objs.size + 1) = none := by
    cases e : base.get? (hp.objs.size + 1) with
    | none => rfl
    | some o =>
      have z1 : base.objs.size ≤ hp.objs.size := bsz
      have z2 : hp.objs.size + 1 < base.objs.size := Heap.lt_size e
      exact absurd (Nat.lt_of_lt_of_le z2 z1) (by omega)
  refine call_own F.excBase_ValueError (fun X => refsVE_contains X bm hbm) (X _ _ hC) (looks_findIn X T.iC) (fun self => bind_fn X self T.tI) (ex_size _) ?_
  refine ex_init (s := ⟨(hp.push (kdv_tup [.str z tz])).push (excO C hp.objs.size), g, dr, tk, os⟩) T M (fun b o e => k b o (bk b o e)) hget hnx ?_ hz fun h' tk' dx t1 ⟨k', hx, dn, dne, hns⟩ => ?_
  · show A.depth + 1 < recursionLimit
    exact hroom
  · have old : ∀ b o, hp.get? b = some o → h'.get? b = some o := fun b o e => k' b o (Nat.ne_of_lt (Nat.lt_succ_of_lt (Heap.lt_size e))) (k b o e)
    have zz : hp.objs.size + 1 + 1 ≤ dx := by
      first
        | (simpa only [Heap.size_push] using dn)
        | exact dn
        | (have q := dn; rw [Heap.size_push, Heap.size_push] at q; exact q)
    exact ⟨rfl, hq h' tk' (hp.objs.size + 1) dx ⟨old, Nat.le_succ _, ⟨_, _, hx, rfl, rfl, rfl, rfl⟩, Nat.le_trans (Nat.le_trans (Nat.le_succ _) (Nat.le_succ _)) zz, dne, hns⟩⟩
end
end PI
namespace PI
open PySem PySem.Spec PyProof.Rows L2
theorem mk_ok {P : Program} {K : PySem.W.Frag} {mg : Str → Option Value} {C fI : Addr} {f x : Str} (T : ExTxt P K mg C fI f) (hm : mg x = some (.ref C)) (hxd : (x == ("__debug__" : Str)) = false) : MkOk P K mg C f x := by
  intro X lv a ta p pos hP hK hmg hr hg hs ha pins s σ H Q I h
  subst hP; subst hK; subst hmg
  have he := star_cons hs [] X.env
  refine wpAny_Call_Name_kw (ld_glob I hg hm ?_ hxd)
  refine PySem.W.callWith_K (h₀ := X.base) I.ok.mod.kin T.kC (thn (ha.run pos pins s σ H _ I h) fun us s1 hh => ?_) he rfl
  obtain ⟨vs, H1, I1, r1, v, ev, hsm, q1⟩ := hh
  subst ev
  refine ⟨I1.kIn, ?_⟩
  cases r1 with
  | cons rv rn =>
    rename_i v' us'
    cases rn
    cases v with
    | str z =>
      obtain ⟨tz, rfl⟩ := rv
      show wpAny _ _ (call (.ref C) [.str z tz]) _ _ _
      have bk := I1.bk
      have bsz : X.base.objs.size ≤ s1.heap.objs.size := by
        obtain ⟨m, hn, _⟩ := I1.loc
        exact Nat.le_trans I1.ok.bsz (Nat.le_trans I1.ok.above (Nat.le_of_lt hn.lt))
      obtain ⟨hp, g, dr, tk, os⟩ := s1
      refine wpAny_call (ex_made T I1.ok.mod bk bsz (by have := hr.dp; omega) hsm fun h' tk' e d M => ?_)
      show MkP X pins σ Q (.ref e) ⟨h', g, dr, tk', os⟩
      obtain ⟨oe, fv, hoe, hc, hd, hdat, h1⟩ := M.obj
      have hns := M.ns
      obtain ⟨G', g1, g2⟩ := restrict h' fun b => decide (b ≠ e)
      have gk : ∀ b, b ≠ e → G'.get? b = h'.get? b := fun b hb => g1 b (decide_eq_true hb)
      have ge : G'.get? e = none := g2 e (by simp)
      have old : ∀ b o, hp.get? b = some o → G'.get? b = some o := fun b o q => (gk b (Nat.ne_of_lt (Nat.lt_of_lt_of_le (Heap.lt_size q) M.new))).trans (M.keep b o q)
      have ob : ObjOk X.prog X.w (upd H1 d (.xd [(f, V.str z)])) G' d (.xd [(f, V.str z)]) :=
        ⟨_, hns.at (fun o q => (gk d M.dne).trans q), fun y => relO_one (v := V.str z) ⟨tz, rfl⟩ y⟩
      have J : Inv X pins σ (upd H1 d (.xd [(f, V.str z)])) ⟨G', g, dr, tk', os⟩ := I1.laid (t' := tk') old M.dbig ob
      refine ⟨e, oe, fv, ⟨G', g, dr, tk', os⟩, _, .ref C, some d, rfl, J, fun b o q => ?_, ge, hoe, ⟨hc, hd⟩, hdat, h1, ?_, rfl, I1.bare, raises_own T.exC T.tyC, q1 d (I1.hok.fresh M.dbig)⟩
      · by_cases hb : b = e
        · have q' : G'.get? b = some o := q
          rw [hb, ge] at q'; cases q'
        · exact (gk b hb).symm.trans q
      · rw [upd_ne (Ne.symm M.dne)]
        exact I1.hok.fresh M.new
    | _ => exact hsm.elim
theorem exm_mk {K : PySem.W.Frag} {C H : Addr} {b : Bool} (h1 : PySem.W.subIn K (.ref H) (.type "BaseException") = some true) (h2 : PySem.W.isClsIn K H = true) (h3 : PySem.W.typeIn K (.ref H) = some (.type "type")) (h4 : PySem.W.subIn K (.ref C) (.ref H) = some b) :
    PySem.W.exmOne K (.ref C) (.ref H) = some b := by
  have e1 : (PySem.W.subIn K (.ref H) (.type "BaseException") == some true) = true := by rw [h1] <;> rfl
  have e2 : ((PySem.W.clsIn K H).isSome && PySem.W.typeIn K (.ref H) == some (.type "type")) = true := by
    have h2' : (PySem.W.clsIn K H).isSome = true := h2
    rw [h2', h3] <;> rfl
  show (if (PySem.W.subIn K (.ref H) (.type "BaseException") == some true) = true then (if ((PySem.W.clsIn K H).isSome && PySem.W.typeIn K (.ref H) == some (.type "type")) = true then PySem.W.subIn K (.ref C) (.ref H) else none) else none) = some b
  rw [if_pos e1, if_pos e2]
  exact h4
end PI

namespace PI
open PySem L2
/-! ### running the interpreter by rewriting -/
section
variable {α β : Type} {Φ : Fns} {s : S}
@[simp] theorem bind_ok (a : α) (s : S) (k : α → S → Res β) : (Res.ok a s).bind k = k a s := by rfl
@[simp] theorem bind_exc (c : Nat) (d : D) (s : S) (k : α → S → Res β) : (Res.exc c d s : Res α).bind k = .exc c d s := by rfl
@[simp] theorem bind_bad (k : α → S → Res β) : (Res.bad : Res α).bind k = .bad := by rfl
@[simp] theorem run_ok (a : α) (s : S) (k : α → S → R) : (Res.ok a s).run k = k a s := by rfl
@[simp] theorem run_exc (c : Nat) (d : D) (s : S) (k : α → S → R) : (Res.exc c d s : Res α).run k = .exc c d s := by rfl
@[simp] theorem run_bad (k : α → S → R) : (Res.bad : Res α).run k = .bad := by rfl
@[simp] theorem toP_val (d : D) (s : S) : toP (.ok (.val d) s) = .ok d s := by rfl
@[simp] theorem toP_own (d : List D) (s : S) : toP (.ok (.own d) s) = .ok (.lst d) s := by rfl
@[simp] theorem toP_loc (i : Nat) (d : List D) (s : S) : toP (.ok (.loc i d) s) = .ok (.lst d) s := by rfl
@[simp] theorem toP_exc (c : Nat) (d : D) (s : S) : toP (.exc c d s) = .exc c d s := by rfl
@[simp] theorem toV_val (d : D) (s : S) : toV (.ok (.val d) s) = .ok d s := by rfl
@[simp] theorem toV_own (d : List D) (s : S) : toV (.ok (.own d) s) = .ok (.lst d) s := by rfl
@[simp] theorem toV_loc (i : Nat) (d : List D) (s : S) : toV (.ok (.loc i d) s) = .ok (.lst d) { s with t := s.t.set i (some (.val (.lst d))) } := by rfl
@[simp] theorem toV_exc (c : Nat) (d : D) (s : S) : toV (.exc c d s) = .exc c d s := by rfl
@[simp] theorem toB_ok (b : Bool) (s : S) : toB (.ok (.bl b) s) = .ok b s := by rfl
@[simp] theorem toI_ok (b : Int) (s : S) : toI (.ok (.int b) s) = .ok b s := by rfl
@[simp] theorem toT_bl (b : Bool) (s : S) : toT (.ok (.bl b) s) = .ok b s := by rfl
@[simp] theorem toT_int (b : Int) (s : S) : toT (.ok (.int b) s) = .ok (b != 0) s := by rfl
@[simp] theorem toT_lst (b : List D) (s : S) : toT (.ok (.lst b) s) = .ok (!b.isEmpty) s := by rfl
@[simp] theorem toL_lst (b : List D) (s : S) : toL (.ok (.lst b) s) = .ok b s := by rfl
@[simp] theorem toL_tup (b : List D) (s : S) : toL (.ok (.tup b) s) = .ok b s := by rfl
@[simp] theorem toLL_lst (b : List D) (s : S) : toLL (.ok (.lst b) s) = .ok b s := by rfl
@[simp] theorem toB_exc (c : Nat) (d : D) (s : S) : toB (.exc c d s) = .exc c d s := by rfl
@[simp] theorem toI_exc (c : Nat) (d : D) (s : S) : toI (.exc c d s) = .exc c d s := by rfl
@[simp] theorem toT_exc (c : Nat) (d : D) (s : S) : toT (.exc c d s) = .exc c d s := by rfl
@[simp] theorem toL_exc (c : Nat) (d : D) (s : S) : toL (.exc c d s) = .exc c d s := by rfl
@[simp] theorem ofO_some (a : α) (s : S) : ofO (some a) s = .ok a s := by rfl
@[simp] theorem slGet_mk (t : List (Option Sl)) (h : List (List D)) (i : Nat) : slGet ⟨t, h⟩ i = match t[i]? with
  | some (some (.val d)) => .ok (.val d) ⟨t, h⟩
  | some (some (.own ds)) => .ok (.loc i ds) ⟨t, h⟩
  | some (some (.dct kvs)) => .ok (.ldc i kvs) ⟨t, h⟩
  | _ => .bad := by rfl
@[simp] theorem ev_var (i : Nat) : ev Φ (.var i) s = slGet s i := by rw [ev]
@[simp] theorem ev_cst (d : D) : ev Φ (.cst d) s = .ok (.val d) s := by rw [ev]
@[simp] theorem ev_glb (x : Str) (n : Int) : ev Φ (.glb x n) s = .ok (.val (.int n)) s := by rw [ev]
@[simp] theorem ev_tup (es : MEs) : ev Φ (.tup es) s = (evs Φ false es s).bind fun ds s => .ok (.val (.tup ds)) s := by rw [ev]
@[simp] theorem ev_lst (es : MEs) : ev Φ (.lst es) s = (evs Φ false es s).bind fun ds s => .ok (.own ds) s := by rw [ev]
noncomputable def kBin (Φ : Fns) (o : BOp) (b : ME) (x : D) (s : S) : Res RV := (toP (ev Φ b s)).bind fun y s => ofO (binD o x y) s
@[simp] theorem kBin_at (o : BOp) (b : ME) (x : D) (s : S) : kBin Φ o b x s = (toP (ev Φ b s)).bind fun y s => ofO (binD o x y) s := by rfl
@[simp] theorem ev_bin (o : BOp) (a b : ME) : ev Φ (.bin o a b) s = (toP (ev Φ a s)).bind (kBin Φ o b) := by rw [ev] <;> rfl
@[simp] theorem ev_neg (a : ME) : ev Φ (.neg a) s = (toI (toP (ev Φ a s))).bind fun i s => .ok (.val (.int (-i))) s := by rw [ev]
@[simp] theorem ev_not (a : ME) : ev Φ (.not a) s = (toB (toP (ev Φ a s))).bind fun b s => .ok (.val (.bl (!b))) s := by rw [ev]
@[simp] theorem ev_bop (c : Bool) (es : MEs) : ev Φ (.bop c es) s = (evB Φ c es s).bind fun b s => .ok (.val (.bl b)) s := by rw [ev]
noncomputable def kCmp (Φ : Fns) (cs : MCs) (x : D) (s : S) : Res RV := (evC Φ x cs s).bind fun b s => .ok (.val (.bl b)) s
@[simp] theorem kCmp_at (cs : MCs) (x : D) (s : S) : kCmp Φ cs x s = (evC Φ x cs s).bind fun b s => .ok (.val (.bl b)) s := by rfl
@[simp] theorem ev_cmp (a : ME) (cs : MCs) : ev Φ (.cmp a cs) s = (toP (ev Φ a s)).bind (kCmp Φ cs) := by rw [ev] <;> rfl
/-- the result of a call -/
def backF : FR → S → Res RV
  | .ok (.val d) h, s => .ok (.val d) { s with h := h }
  | .ok (.own l) h, s => .ok (.own l) { s with h := h }
  | .ok (.dct l) h, s => .ok (.dct l) { s with h := h }
  | .exc c d h, s => .exc c d { s with h := h }
  | _, _ => .bad
@[simp] theorem backF_val (d : D) (h : List (List D)) (s : S) : backF (.ok (.val d) h) s = .ok (.val d) { s with h := h } := by rfl
@[simp] theorem backF_own (d : List D) (h : List (List D)) (s : S) : backF (.ok (.own d) h) s = .ok (.own d) { s with h := h } := by rfl
@[simp] theorem backF_exc (c : Nat) (d : D) (h : List (List D)) (s : S) : backF (.exc c d h) s = .exc c d { s with h := h } := by rfl
@[simp] theorem ev_call (f : Str) (es : MEs) : ev Φ (.call f es) s = (evs Φ false es s).bind fun ds s => backF (Φ f ds s.h) s := by
  rw [ev]
  congr 1
  funext ds s
  cases Φ f ds s.h with
  | ok r h => cases r <;> rfl
  | exc c d h => rfl
  | bad => rfl
@[simp] theorem ev_blt (b : Bl) (es : MEs) : ev Φ (.blt b es) s = (evs Φ true es s).bind fun ds s => ofO (bltD b ds) s := by rw [ev]
@[simp] theorem ev_isi (a : ME) (t : Ty) : ev Φ (.isi a t) s = (toP (ev Φ a s)).bind fun x s => ofO ((isTy t x).map fun b => .val (.bl b)) s := by
  rw [ev]
  congr 1
  funext x s
  cases isTy t x <;> rfl
noncomputable def kIdx (Φ : Fns) (b : ME) (x : D) (s : S) : Res RV := (toP (ev Φ b s)).bind fun y s => ofO ((idxD s x y).map .val) s
@[simp] theorem kIdx_at (b : ME) (x : D) (s : S) : kIdx Φ b x s = (toP (ev Φ b s)).bind fun y s => ofO ((idxD s x y).map .val) s := by rfl
@[simp] theorem ev_idx (a b : ME) : ev Φ (.idx a b) s = (toP (ev Φ a s)).bind (kIdx Φ b) := by
  rw [ev]
  congr 1
  funext x s
  rw [kIdx_at]
  congr 1
  funext y s
  cases idxD s x y <;> rfl
def cutR (x : D) (l u : Option Int) (s : S) : Res RV := match x with
  | .tup ds => .ok (.val (.tup (cutD ds l u))) s
  | .lst ds => .ok (.own (cutD ds l u)) s
  | _ => .bad
@[simp] theorem cutR_tup (ds : List D) (l u : Option Int) (s : S) : cutR (.tup ds) l u s = .ok (.val (.tup (cutD ds l u))) s := by rfl
@[simp] theorem cutR_lst (ds : List D) (l u : Option Int) (s : S) : cutR (.lst ds) l u s = .ok (.own (cutD ds l u)) s := by rfl
noncomputable def kSlc (Φ : Fns) (lo hi : MO) (x : D) (s : S) : Res RV := (evO Φ lo s).bind fun l s => (evO Φ hi s).bind fun u s => cutR x l u s
@[simp] theorem kSlc_at (lo hi : MO) (x : D) (s : S) : kSlc Φ lo hi x s = (evO Φ lo s).bind fun l s => (evO Φ hi s).bind fun u s => cutR x l u s := by rfl
@[simp] theorem ev_slc (a : ME) (lo hi : MO) : ev Φ (.slc a lo hi) s = (toP (ev Φ a s)).bind (kSlc Φ lo hi) := by
  rw [ev]
  rfl
/-- a comprehension's turn -/
noncomputable def turnL (Φ : Fns) (tg : MT) (cond : MO) (elt : ME) : D → S → Res (Option D) := fun d s1 => match bindT tg d { s1 with t := wipeT s1.t tg.ids } with
  | none => .bad
  | some s2 => (evCond Φ cond s2).bind fun b s3 => if b then (toV (ev Φ elt s3)).bind fun e s4 => .ok (some e) s4 else .ok none s3
noncomputable def lcR (Φ : Fns) (elt : ME) (tg : MT) (cond : MO) (items : List D) (s : S) : Res RV := match lcGo (turnL Φ tg cond elt) [] items s with
  | .ok ds s1 => .ok (.own ds) { s1 with t := backT s1.t s.t tg.ids }
  | _ => .bad
@[simp] theorem ev_lc (elt : ME) (tg : MT) (it : MI) (cond : MO) : ev Φ (.lc elt tg it cond) s = (evI Φ it s).bind fun items s => lcR Φ elt tg cond items s := by
  rw [ev]
  rfl
@[simp] theorem ev_fld (i : Nat) (t : List (Option Sl)) (h : List (List D)) : ev Φ (.fld i) ⟨t, h⟩ = match t[i]? with
  | some (some (.exc _ d)) => .ok (.val d) ⟨t, h⟩
  | _ => .bad := by rw [ev] <;> rfl
@[simp] theorem evs_nil (pk : Bool) : evs Φ pk .nil s = .ok [] s := by rw [evs]
noncomputable def kEvs (Φ : Fns) (pk : Bool) (es : MEs) (d : D) (s : S) : Res (List D) := (evs Φ pk es s).bind fun ds s => .ok (d :: ds) s
@[simp] theorem kEvs_at (pk : Bool) (es : MEs) (d : D) (s : S) : kEvs Φ pk es d s = (evs Φ pk es s).bind fun ds s => .ok (d :: ds) s := by rfl
@[simp] theorem evs_consT (e : ME) (es : MEs) : evs Φ true (.cons e es) s = (toP (ev Φ e s)).bind (kEvs Φ true es) := by rw [evs]; rfl
@[simp] theorem evs_consF (e : ME) (es : MEs) : evs Φ false (.cons e es) s = (toV (ev Φ e s)).bind (kEvs Φ false es) := by rw [evs]; rfl
@[simp] theorem evB_one (c : Bool) (e : ME) : evB Φ c (.cons e .nil) s = toB (toP (ev Φ e s)) := by
  rw [evB]
  cases toB (toP (ev Φ e s)) <;> rfl
noncomputable def kEvB (Φ : Fns) (c : Bool) (es : MEs) (b : Bool) (s : S) : Res Bool := if b = c then evB Φ c es s else .ok b s
@[simp] theorem kEvB_tt (es : MEs) (s : S) : kEvB Φ true es true s = evB Φ true es s := by rfl
@[simp] theorem kEvB_tf (es : MEs) (s : S) : kEvB Φ true es false s = .ok false s := by rfl
@[simp] theorem kEvB_ff (es : MEs) (s : S) : kEvB Φ false es false s = evB Φ false es s := by rfl
@[simp] theorem kEvB_ft (es : MEs) (s : S) : kEvB Φ false es true s = .ok true s := by rfl
@[simp] theorem evB_two (c : Bool) (e e2 : ME) (es : MEs) : evB Φ c (.cons e (.cons e2 es)) s = (toB (toP (ev Φ e s))).bind (kEvB Φ c (.cons e2 es)) := by rw [evB] <;> rfl
@[simp] theorem evC_one (x : D) (o : COp) (e : ME) : evC Φ x (.cons o e .nil) s = (toP (ev Φ e s)).bind fun y s => ofO (cmpD o x y) s := by
  rw [evC]
  congr 1
  funext y s
  cases cmpD o x y <;> rfl
noncomputable def kEvC (Φ : Fns) (y : D) (r : MCs) (b : Bool) (s : S) : Res Bool := if b then evC Φ y r s else .ok false s
@[simp] theorem kEvC_t (y : D) (r : MCs) (s : S) : kEvC Φ y r true s = evC Φ y r s := by rfl
@[simp] theorem kEvC_f (y : D) (r : MCs) (s : S) : kEvC Φ y r false s = .ok false s := by rfl
@[simp] theorem evC_two (x : D) (o o2 : COp) (e e2 : ME) (r : MCs) : evC Φ x (.cons o e (.cons o2 e2 r)) s = (toP (ev Φ e s)).bind fun y s => (ofO (cmpD o x y) s).bind (kEvC Φ y (.cons o2 e2 r)) := by
  rw [evC]
  congr 1
  funext y s
  cases cmpD o x y <;> rfl
@[simp] theorem evO_none : evO Φ .none s = .ok none s := by rw [evO]
@[simp] theorem evO_some (e : ME) : evO Φ (.some e) s = (toI (toP (ev Φ e s))).bind fun i s => .ok (some i) s := by rw [evO]
@[simp] theorem evCond_none : evCond Φ .none s = .ok true s := by rw [evCond]
@[simp] theorem evCond_some (e : ME) : evCond Φ (.some e) s = toT (toP (ev Φ e s)) := by rw [evCond]
@[simp] theorem evI_seq (e : ME) : evI Φ (.seq e) s = toL (toV (ev Φ e s)) := by rw [evI]
@[simp] theorem evI_rng1 (e : ME) : evI Φ (.rng1 e) s = (toI (toP (ev Φ e s))).bind fun i s => if smallI i then .ok (rangeD 0 i.toNat) s else .bad := by rw [evI]
@[simp] theorem evI_rng2 (a b : ME) : evI Φ (.rng2 a b) s = (toI (toP (ev Φ a s))).bind fun i s => (toI (toP (ev Φ b s))).bind fun j s => if smallI i && smallI j then .ok (rangeD i (j - i).toNat) s else .bad := by rw [evI]
@[simp] theorem evI_rng3 (a b c : ME) : evI Φ (.rng3 a b c) s = (toI (toP (ev Φ a s))).bind fun i s => (toI (toP (ev Φ b s))).bind fun j s => (toI (toP (ev Φ c s))).bind fun k s =>
      if decide (k ≠ 0) && decide (k.natAbs < 1073741824) && Builtin.Range.small i j k then .ok (rangeC i k (turnsC i j k)) s else .bad := by rw [evI]
@[simp] theorem evI_enum (e : ME) : evI Φ (.enum e) s = (toLL (toV (ev Φ e s))).bind fun ds s => .ok (enumD 0 ds) s := by rw [evI]
@[simp] theorem evI_zip (a b : ME) : evI Φ (.zip a b) s = (toV (ev Φ a s)).bind fun x s => (toV (ev Φ b s)).bind fun y s => zipR x y s := by rw [evI]
@[simp] theorem evI_revd (e : ME) : evI Φ (.revd e) s = (toL (toV (ev Φ e s))).bind fun ds s => .ok ds.reverse s := by rw [evI]
@[simp] theorem zipR_tup (a b : List D) (s : S) : zipR (.tup a) (.tup b) s = .ok (zipD a b) s := by rfl
@[simp] theorem zipR_lst (a b : List D) (s : S) : zipR (.lst a) (.lst b) s = .ok (zipD a b) s := by rfl
/-! statements -/
@[simp] theorem putR_val (i : Nat) (d : D) (s : S) : putR i (.val d) s = .next { s with t := s.t.set i (some (.val d)) } := by rfl
@[simp] theorem putR_own (i : Nat) (d : List D) (s : S) : putR i (.own d) s = .next { s with t := s.t.set i (some (.own d)) } := by rfl
@[simp] theorem putR_loc (i j : Nat) (d : List D) (s : S) : putR i (.loc j d) s = .next { s with t := (s.t.set j (some (.val (.lst d)))).set i (some (.val (.lst d))) } := by rfl
@[simp] theorem ex_set (i : Nat) (e : ME) : ex Φ (.set (.name i) e) s = (ev Φ e s).run fun r s => putR i r s := by rw [ex]
/-- names of a tuple -/
def bindR (is : List Nat) (d : D) (s : S) : R := match bindT (.tup is) d s with | some s => .next s | none => .bad
@[simp] theorem bindR_tup (is : List Nat) (ds : List D) (t t' : List (Option Sl)) (h : List (List D)) (e : setAll t is ds = some t') : bindR is (.tup ds) ⟨t, h⟩ = .next ⟨t', h⟩ := by
  unfold bindR bindT
  dsimp only
  rw [e]
  rfl
@[simp] theorem ex_setT (is : List Nat) (e : ME) : ex Φ (.set (.tup is) e) s = (toV (ev Φ e s)).run fun d s => bindR is d s := by rw [ex]; rfl
noncomputable def kPar (Φ : Fns) (i j : Nat) (b : ME) (x : D) (s : S) : R := (toV (ev Φ b s)).run fun y s => .next { s with t := (s.t.set i (some (.val x))).set j (some (.val y)) }
@[simp] theorem kPar_at (i j : Nat) (b : ME) (x : D) (s : S) : kPar Φ i j b x s = (toV (ev Φ b s)).run fun y s => .next { s with t := (s.t.set i (some (.val x))).set j (some (.val y)) } := by rfl
@[simp] theorem ex_par (i j : Nat) (a b : ME) : ex Φ (.par i j a b) s = (toV (ev Φ a s)).run (kPar Φ i j b) := by rw [ex] <;> rfl
def augR (i : Nat) (o : Option Int) (s : S) : R := match o with | some z => .next { s with t := s.t.set i (some (.val (.int z))) } | none => .bad
@[simp] theorem augR_some (i : Nat) (z : Int) (s : S) : augR i (some z) s = .next { s with t := s.t.set i (some (.val (.int z))) } := by rfl
noncomputable def kAug (Φ : Fns) (i : Nat) (o : BOp) (e : ME) (x : D) (s : S) : R := (toP (ev Φ e s)).run fun y s => augR i (augD o x y) s
@[simp] theorem kAug_at (i : Nat) (o : BOp) (e : ME) (x : D) (s : S) : kAug Φ i o e x s = (toP (ev Φ e s)).run fun y s => augR i (augD o x y) s := by rfl
@[simp] theorem aug_add (i j : Int) : augD .add (.int i) (.int j) = some (i + j) := by rfl
@[simp] theorem aug_sub (i j : Int) : augD .sub (.int i) (.int j) = some (i - j) := by rfl
@[simp] theorem ex_aug (i : Nat) (o : BOp) (e : ME) : ex Φ (.aug i o e) s = (toP (slGet s i)).run (kAug Φ i o e) := by rw [ex]; rfl
noncomputable def kSeti2 (Φ : Fns) (ix : ME) (d : D) (r : RV) (s : S) : R := (toP (ev Φ ix s)).run fun k s => putAt r k d s
@[simp] theorem kSeti2_at (ix : ME) (d : D) (r : RV) (s : S) : kSeti2 Φ ix d r s = (toP (ev Φ ix s)).run fun k s => putAt r k d s := by rfl
noncomputable def kSeti (Φ : Fns) (x ix : ME) (d : D) (s : S) : R := (ev Φ x s).run (kSeti2 Φ ix d)
@[simp] theorem kSeti_at (x ix : ME) (d : D) (s : S) : kSeti Φ x ix d s = (ev Φ x s).run (kSeti2 Φ ix d) := by rfl
@[simp] theorem ex_seti (x ix e : ME) : ex Φ (.seti x ix e) s = (toV (ev Φ e s)).run (kSeti Φ x ix) := by rw [ex] <;> rfl
noncomputable def kApp (Φ : Fns) (e : ME) (r : RV) (s : S) : R := if isLst r then (toV (ev Φ e s)).run fun d s => pushAt r d s else .bad
@[simp] theorem kApp_at (e : ME) (r : RV) (s : S) : kApp Φ e r s = if isLst r then (toV (ev Φ e s)).run fun d s => pushAt r d s else .bad := by rfl
@[simp] theorem ex_app (x e : ME) : ex Φ (.app x e) s = (ev Φ x s).run (kApp Φ e) := by rw [ex] <;> rfl
@[simp] theorem ex_expr (e : ME) : ex Φ (.expr e) s = (ev Φ e s).run fun _ s => .next s := by rw [ex]
noncomputable def kIte (Φ : Fns) (a b : MSs) (k : Bool) (s : S) : R := if k then exs Φ a s else exs Φ b s
@[simp] theorem kIte_t (a b : MSs) (s : S) : kIte Φ a b true s = exs Φ a s := by rfl
@[simp] theorem kIte_f (a b : MSs) (s : S) : kIte Φ a b false s = exs Φ b s := by rfl
@[simp] theorem ex_ite (c : ME) (a b : MSs) : ex Φ (.ite c a b) s = (toT (toP (ev Φ c s))).run (kIte Φ a b) := by rw [ex] <;> rfl
/-- a for's turns -/
noncomputable def forR (Φ : Fns) (t : MT) (b : MSs) (ds : List D) (s : S) : R := forGo (bindT t) (fun s => exs Φ b s) ds s
@[simp] theorem ex_for (t : MT) (it : MI) (b : MSs) : ex Φ (.for t it b) s = (evI Φ it s).run (forR Φ t b) := by rw [ex] <;> rfl
@[simp] theorem ex_ret (e : ME) : ex Φ (.ret e) s = (ev Φ e s).run fun r s => .ret r s := by rw [ex]
@[simp] theorem ex_retN : ex Φ .retN s = .ret (.val .non) s := by rw [ex]
@[simp] theorem ex_raise (x : Str) (c : Nat) (e : ME) : ex Φ (.raise x c e) s = (toV (ev Φ e s)).run fun d s => if smallD d then .exc c d s else .bad := by rw [ex]
@[simp] theorem ex_pass : ex Φ .pass s = .next s := by rw [ex]
@[simp] theorem ex_brk : ex Φ .brk s = .brk s := by rw [ex]
@[simp] theorem ex_cnt : ex Φ .cnt s = .cnt s := by rw [ex]
/-- one statement, then the rest -/
noncomputable def andThen (Φ : Fns) (ms : MSs) (r : R) : R := match r with | .next s => exs Φ ms s | q => q
@[simp] theorem andThen_next (ms : MSs) (s : S) : andThen Φ ms (.next s) = exs Φ ms s := by rfl
@[simp] theorem andThen_ret (ms : MSs) (r : RV) (s : S) : andThen Φ ms (.ret r s) = .ret r s := by rfl
@[simp] theorem andThen_exc (ms : MSs) (c : Nat) (d : D) (s : S) : andThen Φ ms (.exc c d s) = .exc c d s := by rfl
@[simp] theorem andThen_brk (ms : MSs) (s : S) : andThen Φ ms (.brk s) = .brk s := by rfl
@[simp] theorem andThen_cnt (ms : MSs) (s : S) : andThen Φ ms (.cnt s) = .cnt s := by rfl
@[simp] theorem exs_nil : exs Φ .nil s = .next s := by rw [exs]
@[simp] theorem exs_cons (m : MS) (ms : MSs) : exs Φ (.cons m ms) s = andThen Φ ms (ex Φ m s) := by
  rw [exs]
  cases ex Φ m s <;> rfl
/-- try -/
def tryR (r : R) (k : Nat → D → S → R) : R := match r with | .exc c d s => k c d s | q => q
@[simp] theorem tryR_next (s : S) (k : Nat → D → S → R) : tryR (.next s) k = .next s := by rfl
@[simp] theorem tryR_ret (r : RV) (s : S) (k : Nat → D → S → R) : tryR (.ret r s) k = .ret r s := by rfl
@[simp] theorem tryR_exc (c : Nat) (d : D) (s : S) (k : Nat → D → S → R) : tryR (.exc c d s) k = k c d s := by rfl
noncomputable def kTry (Φ : Fns) (hs : MHs) (c : Nat) (d : D) (s : S) : R := exH Φ c d hs s
@[simp] theorem kTry_at (hs : MHs) (c : Nat) (d : D) (s : S) : kTry Φ hs c d s = exH Φ c d hs s := by rfl
@[simp] theorem ex_try (b : MSs) (hs : MHs) : ex Φ (.try b hs) s = tryR (exs Φ b s) (kTry Φ hs) := by
  rw [ex]
  cases exs Φ b s <;> rfl
def outR (i : Nat) : R → R
  | .next s => .next (outExc i s)
  | .brk s => .brk (outExc i s)
  | .cnt s => .cnt (outExc i s)
  | .ret (.val d) s => .ret (.val d) (outExc i s)
  | .ret (.own ds) s => .ret (.own ds) (outExc i s)
  | _ => .bad
@[simp] theorem outR_val (i : Nat) (d : D) (s : S) : outR i (.ret (.val d) s) = .ret (.val d) (outExc i s) := by rfl
@[simp] theorem outR_next (i : Nat) (s : S) : outR i (.next s) = .next (outExc i s) := by rfl
@[simp] theorem exH_cons (c : Nat) (d : D) (x : Str) (cs no : List Nat) (i : Nat) (b : MSs) (r : MHs) : exH Φ c d (.cons x cs no i b r) s = if cs.contains c then outR i (exs Φ b { s with t := (noExc s).t.set i (some (.exc c d)) }) else if no.contains c then exH Φ c d r s else .bad := by
  rw [exH]
  split
  · cases h : exs Φ b { s with t := (noExc s).t.set i (some (.exc c d)) } with
    | ret rv s => cases rv <;> rfl
    | _ => rfl
  · rfl
/-! values -/
@[simp] theorem bin_addI (i j : Int) : binD .add (.int i) (.int j) = some (.val (.int (i + j))) := by rfl
@[simp] theorem bin_subI (i j : Int) : binD .sub (.int i) (.int j) = some (.val (.int (i - j))) := by rfl
theorem bin_mulI {i j : Int} (h : mulOk i j = true) : binD .mul (.int i) (.int j) = some (.val (.int (i * j))) := by unfold binD; dsimp only; rw [if_pos h]
theorem bin_fdivI {i j : Int} (h : divOk j = true) : binD .fdiv (.int i) (.int j) = some (.val (.int (i.fdiv j))) := by unfold binD; dsimp only; rw [if_pos h]
theorem bin_modI {i j : Int} (h : j ≠ 0) : binD .mod (.int i) (.int j) = some (.val (.int (i.fmod j))) := by unfold binD; dsimp only; rw [if_neg h]
theorem bin_powI {i j : Int} (h : powOk i j = true) : binD .pow (.int i) (.int j) = some (.val (.int (i ^ j.toNat))) := by unfold binD; dsimp only; rw [if_pos h]
theorem bin_addT {a b : List D} (h : a.length + b.length ≤ line) : binD .add (.tup a) (.tup b) = some (.val (.tup (a ++ b))) := by unfold binD; dsimp only; rw [if_pos h]
theorem bin_addL {a b : List D} (h : a.length + b.length ≤ line) : binD .add (.lst a) (.lst b) = some (.own (a ++ b)) := by unfold binD; dsimp only; rw [if_pos h]
@[simp] theorem cmp_lt (i j : Int) : cmpD .lt (.int i) (.int j) = some (decide (i < j)) := by rfl
@[simp] theorem cmp_le (i j : Int) : cmpD .le (.int i) (.int j) = some (decide (i ≤ j)) := by rfl
@[simp] theorem cmp_gt (i j : Int) : cmpD .gt (.int i) (.int j) = some (decide (j < i)) := by rfl
@[simp] theorem cmp_ge (i j : Int) : cmpD .ge (.int i) (.int j) = some (decide (j ≤ i)) := by rfl
@[simp] theorem cmp_eqI (i j : Int) : cmpD .eq (.int i) (.int j) = some (decide (i = j)) := by simp [cmpD, dat, deq]; rfl
@[simp] theorem cmp_neI (i j : Int) : cmpD .ne (.int i) (.int j) = some (!decide (i = j)) := by simp [cmpD, dat, deq]; rfl
theorem cmp_eqD {d e : D} (h1 : dat 60 d = true) (h2 : dat 60 e = true) : cmpD .eq d e = some (deq d e) := by
  cases d <;> cases e <;> simp [cmpD, h1, h2]
theorem cmp_neD {d e : D} (h1 : dat 60 d = true) (h2 : dat 60 e = true) : cmpD .ne d e = some (!deq d e) := by
  cases d <;> cases e <;> simp [cmpD, h1, h2]
@[simp] theorem dat_int (n : Nat) (i : Int) : dat n (.int i) = true := by cases n <;> rfl
@[simp] theorem dat_bl (n : Nat) (i : Bool) : dat n (.bl i) = true := by cases n <;> rfl
@[simp] theorem dat_non (n : Nat) : dat n .non = true := by cases n <;> rfl
@[simp] theorem dat_str (n : Nat) (x : Str) : dat n (.str x) = PyData.canLay0 (.str x) := by cases n <;> rfl
@[simp] theorem dat_tup (n : Nat) (ds : List D) : dat (n + 1) (.tup ds) = dats n ds := by rfl
@[simp] theorem dat_lst (n : Nat) (ds : List D) : dat (n + 1) (.lst ds) = dats n ds := by rfl
@[simp] theorem dats_nil (n : Nat) : dats n [] = true := by cases n <;> rfl
@[simp] theorem dats_cons (n : Nat) (d : D) (ds : List D) : dats n (d :: ds) = (dat n d && dats n ds) := by cases n <;> rfl
@[simp] theorem deq_int (i j : Int) : deq (.int i) (.int j) = (i == j) := by rw [deq]
@[simp] theorem deq_str (i j : Str) : deq (.str i) (.str j) = (i == j) := by rw [deq]
@[simp] theorem deq_bl (i j : Bool) : deq (.bl i) (.bl j) = (i == j) := by rw [deq]
@[simp] theorem deq_non : deq .non .non = true := by rw [deq]
@[simp] theorem deq_tup (i j : List D) : deq (.tup i) (.tup j) = deqs i j := by rw [deq]
@[simp] theorem deq_lst (i j : List D) : deq (.lst i) (.lst j) = deqs i j := by rw [deq]
@[simp] theorem deqs_nil : deqs [] [] = true := by rw [deqs]
@[simp] theorem deqs_cons (x y : D) (xs ys : List D) : deqs (x :: xs) (y :: ys) = (deq x y && deqs xs ys) := by rw [deqs]
@[simp] theorem deqs_nc (y : D) (ys : List D) : deqs [] (y :: ys) = false := by rw [deqs] <;> simp
@[simp] theorem deqs_cn (x : D) (xs : List D) : deqs (x :: xs) [] = false := by rw [deqs] <;> simp
@[simp] theorem cmp_eqB (i j : Bool) : cmpD .eq (.bl i) (.bl j) = some (i == j) := by simp [cmpD]
@[simp] theorem cmp_neB (i j : Bool) : cmpD .ne (.bl i) (.bl j) = some (!(i == j)) := by simp [cmpD]
@[simp] theorem cmp_eqN : cmpD .eq .non .non = some true := by simp [cmpD]
@[simp] theorem cmp_eqS (x y : Str) : cmpD .eq (.str x) (.str y) = if PyData.canLay0 (.str x) && PyData.canLay0 (.str y) then some (x == y) else none := by simp [cmpD]
@[simp] theorem cmp_neS (x y : Str) : cmpD .ne (.str x) (.str y) = if PyData.canLay0 (.str x) && PyData.canLay0 (.str y) then some (!(x == y)) else none := by simp [cmpD]
@[simp] theorem cmp_isN (d : D) : cmpD .is d .non = some d.isNon := by cases d <;> rfl
@[simp] theorem cmp_isnotN (d : D) : cmpD .isnot d .non = some (!d.isNon) := by cases d <;> rfl
@[simp] theorem isNon_int (i : Int) : (D.int i).isNon = false := by rfl
@[simp] theorem isNon_tup (i : List D) : (D.tup i).isNon = false := by rfl
@[simp] theorem isNon_non : D.non.isNon = true := by rfl
theorem ixP_nat (m n : Nat) : ixP m (n : Int) = if n < m then some n else none := by
  unfold ixP
  rw [if_pos (by omega)]
  by_cases h : n < m
  · rw [if_pos (by omega), if_pos h]; simp
  · rw [if_neg (by omega), if_neg h]
@[simp] theorem ixP_lit (m n : Nat) : ixP m (no_index (@OfNat.ofNat Int n instOfNat)) = if (OfNat.ofNat n : Nat) < m then some (OfNat.ofNat n) else none := ixP_nat m n
theorem atD_nat (ds : List D) (n : Nat) : atD ds (n : Int) = ds[n]? := by
  unfold atD
  rw [ixP_nat]
  by_cases h : n < ds.length
  · rw [if_pos h]; rfl
  · rw [if_neg h, List.getElem?_eq_none (by omega)]; rfl
@[simp] theorem atD_lit (ds : List D) (n : Nat) : atD ds (no_index (@OfNat.ofNat Int n instOfNat)) = ds[(OfNat.ofNat n : Nat)]? := atD_nat ds n
@[simp] theorem atD_last (ds : List D) : atD ds (-1) = ds.getLast? := by
  unfold atD ixP
  rw [if_neg (by omega)]
  by_cases h : ds = []
  · subst h; rfl
  · have : 0 < ds.length := List.length_pos_iff.mpr h
    rw [if_pos (by omega), List.getLast?_eq_getElem?]
    have e : (-1 + (ds.length : Int)).toNat = ds.length - 1 := by omega
    rw [e]; rfl
/-- a heap, or nothing -/
def heapR (t : List (Option Sl)) : Option (List (List D)) → R
  | some h => .next ⟨t, h⟩
  | none => .bad
@[simp] theorem heapR_some (t : List (Option Sl)) (h : List (List D)) : heapR t (some h) = .next ⟨t, h⟩ := by rfl
@[simp] theorem putAt_ref (t : List (Option Sl)) (h : List (List D)) (c : Nat) (k : Int) (d : D) : putAt (.val (.ref c)) (.int k) d ⟨t, h⟩ = heapR t ((h[c]?).bind fun ds => (ixP ds.length k).map fun j => h.set c (ds.set j d)) := by
  unfold putAt
  dsimp only
  cases e : h[c]? with
  | none => rfl
  | some ds =>
    dsimp only
    cases e2 : ixP ds.length k with
    | none => simp [e2, heapR]
    | some j => simp [e2, heapR]
/-- slots, or nothing -/
def slotR (h : List (List D)) : Option (List (Option Sl)) → R
  | some t => .next ⟨t, h⟩
  | none => .bad
@[simp] theorem slotR_some (t : List (Option Sl)) (h : List (List D)) : slotR h (some t) = .next ⟨t, h⟩ := by rfl
def ownAt (t : List (Option Sl)) (i : Nat) : Option (List D) := match t[i]? with
  | some (some (.own ds)) => some ds
  | _ => none
@[simp] theorem putAt_loc (t : List (Option Sl)) (h : List (List D)) (i : Nat) (l : List D) (k : Int) (d : D) : putAt (.loc i l) (.int k) d ⟨t, h⟩ = slotR h ((ownAt t i).bind fun ds => (ixP ds.length k).map fun j => t.set i (some (.own (ds.set j d)))) := by
  unfold putAt ownAt
  dsimp only
  cases e : t[i]? with
  | none => rfl
  | some o =>
    cases o with
    | none => rfl
    | some sl =>
      cases sl with
      | own ds =>
        dsimp only [Option.bind_some]
        cases e2 : ixP ds.length k with
        | none => simp [e2, slotR]
        | some j => simp [e2, slotR]
      | _ => rfl
@[simp] theorem pushAt_loc (t : List (Option Sl)) (h : List (List D)) (i : Nat) (l : List D) (d : D) : pushAt (.loc i l) d ⟨t, h⟩ = slotR h ((ownAt t i).bind fun ds => if ds.length < line then some (t.set i (some (.own (ds ++ [d])))) else none) := by
  unfold pushAt ownAt
  dsimp only
  cases e : t[i]? with
  | none => rfl
  | some o =>
    cases o with
    | none => rfl
    | some sl =>
      cases sl with
      | own ds =>
        dsimp only [Option.bind_some]
        split <;> rfl
      | _ => rfl
@[simp] theorem isLst_loc (i : Nat) (l : List D) : isLst (.loc i l) = true := by rfl
@[simp] theorem isLst_ref (c : Nat) : isLst (.val (.ref c)) = true := by rfl
@[simp] theorem blt_lenT (xs : List D) : bltD .len [.tup xs] = some (.val (.int xs.length)) := by rfl
@[simp] theorem blt_lenL (xs : List D) : bltD .len [.lst xs] = some (.val (.int xs.length)) := by rfl
@[simp] theorem blt_abs (i : Int) : bltD .abs [.int i] = some (.val (.int (if i < 0 then -i else i))) := by rfl
@[simp] theorem blt_intI (i : Int) : bltD .int [.int i] = some (.val (.int i)) := by rfl
@[simp] theorem blt_intB (b : Bool) : bltD .int [.bl b] = some (.val (.int (if b then 1 else 0))) := by rfl
@[simp] theorem blt_max2 (i j : Int) : bltD .max2 [.int i, .int j] = some (.val (.int (if j > i then j else i))) := by rfl
@[simp] theorem blt_min2 (i j : Int) : bltD .min2 [.int i, .int j] = some (.val (.int (if j < i then j else i))) := by rfl
@[simp] theorem blt_tupL (xs : List D) : bltD .tuple [.lst xs] = some (.val (.tup xs)) := by rfl
@[simp] theorem blt_tupT (xs : List D) : bltD .tuple [.tup xs] = some (.val (.tup xs)) := by rfl
@[simp] theorem blt_lstL (xs : List D) : bltD .list [.lst xs] = some (.own xs) := by rfl
@[simp] theorem blt_lstT (xs : List D) : bltD .list [.tup xs] = some (.own xs) := by rfl
@[simp] theorem blt_bits (i : Int) : bltD .bits [.int i] = some (.val (.int (if i = 0 then 0 else i.natAbs.log2 + 1))) := by rfl
theorem blt_sorted {xs : List D} {ns : List Int} (h : intsOf xs = some ns) : bltD .sorted [.lst xs] = some (.own ((sortD ns).map D.int)) := by unfold bltD; dsimp only; rw [h]; rfl
theorem blt_sum {xs : List D} {ns : List Int} (h : intsOf xs = some ns) : bltD .sum [.lst xs] = some (.val (.int ns.sum)) := by unfold bltD; dsimp only; rw [h]; rfl
theorem blt_all {xs : List D} {ns : List Bool} (h : blsOf xs = some ns) : bltD .all [.lst xs] = some (.val (.bl (ns.all id))) := by unfold bltD; dsimp only; rw [h]; rfl
theorem blt_any {xs : List D} {ns : List Bool} (h : blsOf xs = some ns) : bltD .any [.lst xs] = some (.val (.bl (ns.any id))) := by unfold bltD; dsimp only; rw [h]; rfl
@[simp] theorem idx_tup (s : S) (ds : List D) (i : Int) : idxD s (.tup ds) (.int i) = atD ds i := by rfl
@[simp] theorem idx_lst (s : S) (ds : List D) (i : Int) : idxD s (.lst ds) (.int i) = atD ds i := by rfl
@[simp] theorem idx_ref (t : List (Option Sl)) (h : List (List D)) (k : Nat) (i : Int) : idxD ⟨t, h⟩ (.ref k) (.int i) = (h[k]?).bind fun ds => atD ds i := by rfl
end
/-! ### calls -/
theorem Phi_run {fs : List Def} {k : Nat} {f : Str} {ds : List D} {h : List (List D)} {d : Def} (hl : lookD fs f = some d) (hn : ds.length = d.ps) : Phi fs (k + 1) f ds h = endF h.length (exs (Phi fs k) d.body ⟨startT d.n ds, h⟩) := by
  rw [Phi, hl]
  dsimp only
  rw [if_pos hn]
@[simp] theorem endF_r {k : Nat} {r : RV} {t : List (Option Sl)} {h : List (List D)} (e : h.length = k) : endF k (.ret r ⟨t, h⟩) = endV r h := by
  show (if h.length = k then endV r h else _) = _
  rw [if_pos e]
@[simp] theorem endV_val (d : D) (h : List (List D)) : endV (.val d) h = .ok (.val d) h := by rfl
@[simp] theorem endV_own (d : List D) (h : List (List D)) : endV (.own d) h = .ok (.own d) h := by rfl
@[simp] theorem endV_loc (i : Nat) (d : List D) (h : List (List D)) : endV (.loc i d) h = .ok (.own d) h := by rfl
theorem endF_val (d : D) (t : List (Option Sl)) (h : List (List D)) : endF h.length (.ret (.val d) ⟨t, h⟩) = .ok (.val d) h := endF_r rfl
theorem endF_own (d : List D) (t : List (Option Sl)) (h : List (List D)) : endF h.length (.ret (.own d) ⟨t, h⟩) = .ok (.own d) h := endF_r rfl
theorem endF_loc (i : Nat) (d : List D) (t : List (Option Sl)) (h : List (List D)) : endF h.length (.ret (.loc i d) ⟨t, h⟩) = .ok (.own d) h := endF_r rfl
@[simp] theorem endF_nxt (t : List (Option Sl)) (h : List (List D)) : endF h.length (.next ⟨t, h⟩) = .ok (.val .non) h := by
  show (if h.length = h.length then _ else _) = _
  rw [if_pos rfl]
@[simp] theorem endF_ex (c : Nat) (d : D) (t : List (Option Sl)) (h : List (List D)) : endF h.length (.exc c d ⟨t, h⟩) = .exc c d h := by
  show (if h.length = h.length then _ else _) = _
  rw [if_pos rfl]
/-! ### loops -/
theorem iter_det {α β : Type} {f : α → α ⊕ β} : ∀ {n m : Nat} {a : α} {r q : β}, iterF f n a = some r → iterF f m a = some q → r = q
  | 0, _, _, _, _, h, _ => by cases h
  | _ + 1, 0, _, _, _, _, h => by cases h
  | n + 1, m + 1, a, r, q, h, k => by
    unfold iterF at h k
    cases e : f a with
    | inr b => rw [e] at h k; cases h; cases k; rfl
    | inl a' => rw [e] at h k; exact iter_det h k
theorem fixF_of {α β : Type} {f : α → α ⊕ β} {a : α} {r : β} {n : Nat} (h : iterF f n a = some r) : fixF f a = some r := by
  have hx : ∃ n b, iterF f n a = some b := ⟨n, r, h⟩
  unfold fixF
  rw [dif_pos hx]
  have := hx.choose_spec.choose_spec
  rw [iter_det this h]
noncomputable def wTurn (Φ : Fns) (c : ME) (b : MSs) (s : S) : S ⊕ R := match toT (toP (ev Φ c s)) with
  | .ok false s1 => .inr (.next s1)
  | .ok true s1 => match exs Φ b s1 with
    | .next s2 => .inl s2
    | .cnt s2 => .inl s2
    | .brk s2 => .inr (.next s2)
    | r => .inr r
  | .exc c d s1 => .inr (.exc c d s1)
  | .bad => .inr .bad
/-- while: an invariant, a measure; Q of what comes out -/
theorem ex_while {Φ : Fns} {c : ME} {b : MSs} (I : S → Prop) (m : S → Nat) (Q : R → Prop)
    (h : ∀ s, I s → match toT (toP (ev Φ c s)) with
      | .ok false s1 => Q (.next s1)
      | .ok true s1 => (match exs Φ b s1 with
        | .next s2 => I s2 ∧ m s2 < m s
        | .cnt s2 => I s2 ∧ m s2 < m s
        | .brk s2 => Q (.next s2)
        | r => Q r)
      | .exc c d s1 => Q (.exc c d s1)
      | .bad => Q .bad) (s : S) (hs : I s) : Q (ex Φ (.while c b) s) := by
  have key : ∀ (n : Nat) (s : S), m s < n → I s → ∃ r, iterF (wTurn Φ c b) n s = some r ∧ Q r := by
    intro n
    induction n with
    | zero => intro s hm; omega
    | succ n ih =>
      intro s hm hI
      have hh := h s hI
      unfold iterF
      cases e : toT (toP (ev Φ c s)) with
      | ok k s1 =>
        rw [e] at hh
        cases k with
        | false => simp only [wTurn, e]; exact ⟨_, rfl, hh⟩
        | true =>
          dsimp only at hh
          simp only [wTurn, e]
          cases e3 : exs Φ b s1 with
          | next s2 => rw [e3] at hh; exact ih s2 (by omega) hh.1
          | cnt s2 => rw [e3] at hh; exact ih s2 (by omega) hh.1
          | brk s2 => rw [e3] at hh; exact ⟨_, rfl, hh⟩
          | ret r s2 => rw [e3] at hh; exact ⟨_, rfl, hh⟩
          | exc c d s2 => rw [e3] at hh; exact ⟨_, rfl, hh⟩
          | bad => rw [e3] at hh; exact ⟨_, rfl, hh⟩
      | exc cc d s1 => rw [e] at hh; simp only [wTurn, e]; exact ⟨_, rfl, hh⟩
      | bad => rw [e] at hh; simp only [wTurn, e]; exact ⟨_, rfl, hh⟩
  obtain ⟨r, h1, h2⟩ := key (m s + 1) s (Nat.lt_succ_self _) hs
  have : ex Φ (.while c b) s = (fixF (wTurn Φ c b) s).getD .bad := by rw [ex] <;> rfl
  rw [this, fixF_of h1]
  exact h2
/-- while, by cases of a turn -/
theorem ex_loop {Φ : Fns} {c : ME} {b : MSs} (I : S → Prop) (m : S → Nat) (Q : R → Prop)
    (h : ∀ s, I s → (∃ s1, toT (toP (ev Φ c s)) = .ok false s1 ∧ Q (.next s1)) ∨
      ∃ s1, toT (toP (ev Φ c s)) = .ok true s1 ∧ ((∃ s2, exs Φ b s1 = .next s2 ∧ I s2 ∧ m s2 < m s) ∨ (∃ s2, exs Φ b s1 = .brk s2 ∧ Q (.next s2)) ∨ ∃ rv s2, exs Φ b s1 = .ret rv s2 ∧ Q (.ret rv s2))) (s : S) (hs : I s) : Q (ex Φ (.while c b) s) := by
  refine ex_while I m Q (fun s hI => ?_) s hs
  rcases h s hI with ⟨s1, e, q⟩ | ⟨s1, e, ⟨s2, e2, q⟩ | ⟨s2, e2, q⟩ | ⟨rv, s2, e2, q⟩⟩
  · rw [e]; exact q
  · rw [e]; dsimp only; rw [e2]; exact q
  · rw [e]; dsimp only; rw [e2]; exact q
  · rw [e]; dsimp only; rw [e2]; exact q
/-- for: an invariant by the place -/
theorem for_inv {f : D → S → Option S} {body : S → R} (ds : List D) (I : Nat → S → Prop) (Q : R → Prop)
    (h : ∀ (i : Nat) (d : D) (s : S), ds[i]? = some d → I i s → match f d s with
      | none => Q .bad
      | some s1 => match body s1 with
        | .next s2 => I (i + 1) s2
        | .cnt s2 => I (i + 1) s2
        | .brk s2 => Q (.next s2)
        | r => Q r) (hd : ∀ s, I ds.length s → Q (.next s)) (s : S) (hs : I 0 s) : Q (forGo f body ds s) := by
  have key : ∀ (n i : Nat) (s : S), ds.length - i = n → i ≤ ds.length → I i s → Q (forGo f body (ds.drop i) s) := by
    intro n
    induction n with
    | zero =>
      intro i s hn hi hI
      have : i = ds.length := by omega
      subst this
      rw [List.drop_length]
      exact hd s hI
    | succ n ih =>
      intro i s hn hi hI
      have hlt : i < ds.length := by omega
      have hh := h i ds[i] s (List.getElem?_eq_getElem hlt) hI
      rw [List.drop_eq_getElem_cons hlt]
      unfold forGo
      cases e : f ds[i] s with
      | none => rw [e] at hh; exact hh
      | some s1 =>
        rw [e] at hh
        dsimp only at hh ⊢
        cases e2 : body s1 with
        | next s2 => rw [e2] at hh; exact ih (i + 1) s2 (by omega) hlt hh
        | cnt s2 => rw [e2] at hh; exact ih (i + 1) s2 (by omega) hlt hh
        | brk s2 => rw [e2] at hh; exact hh
        | ret r s2 => rw [e2] at hh; exact hh
        | exc c d s2 => rw [e2] at hh; exact hh
        | bad => rw [e2] at hh; exact hh
  have := key ds.length 0 s (by omega) (Nat.zero_le _) hs
  rwa [List.drop_zero] at this
/-- for over a list of items -/
theorem forR_inv {Φ : Fns} {t : MT} {b : MSs} (ds : List D) (I : Nat → S → Prop) (Q : R → Prop)
    (h : ∀ (i : Nat) (d : D) (s : S), ds[i]? = some d → I i s → match bindT t d s with
      | none => Q .bad
      | some s1 => match exs Φ b s1 with
        | .next s2 => I (i + 1) s2
        | .cnt s2 => I (i + 1) s2
        | .brk s2 => Q (.next s2)
        | r => Q r) (hd : ∀ s, I ds.length s → Q (.next s)) (s : S) (hs : I 0 s) : Q (forR Φ t b ds s) := for_inv ds I Q h hd s hs
/-! ### comprehensions -/
theorem lcGo_fm {Φ : Fns} {tg : MT} {cond : MO} {elt : ME} (I : S → Prop) (f : D → Option D) : ∀ (items acc : List D) (s : S), (∀ d ∈ items, ∀ s, I s → ∃ s', turnL Φ tg cond elt d s = .ok (f d) s' ∧ I s') → acc.length + items.length ≤ line → I s →
    ∃ s', lcGo (turnL Φ tg cond elt) acc items s = .ok (acc ++ items.filterMap f) s' ∧ I s'
  | [], acc, s, h, hl, hI => ⟨s, by simp [lcGo], hI⟩
  | d :: items, acc, s, h, hl, hI => by
    obtain ⟨s1, e1, hI1⟩ := h d List.mem_cons_self s hI
    rw [List.length_cons] at hl
    unfold lcGo
    rw [e1]
    cases e : f d with
    | none =>
      dsimp only
      obtain ⟨s2, e2, hI2⟩ := lcGo_fm I f items acc s1 (fun d hd => h d (List.mem_cons_of_mem _ hd)) (by omega) hI1
      exact ⟨s2, by rw [e2, List.filterMap_cons_none e], hI2⟩
    | some v =>
      dsimp only
      rw [if_pos (by omega)]
      obtain ⟨s2, e2, hI2⟩ := lcGo_fm I f items (acc ++ [v]) s1 (fun d hd => h d (List.mem_cons_of_mem _ hd)) (by rw [List.length_append]; simp; omega) hI1
      exact ⟨s2, by rw [e2, List.filterMap_cons_some e]; simp, hI2⟩
/-- a comprehension with one variable, at slot i; its turns leave the heap and the other slots -/
theorem lcR_fm {Φ : Fns} {i : Nat} {cond : MO} {elt : ME} (f : D → Option D) (items : List D) (t : List (Option Sl)) (h : List (List D)) (hl : items.length ≤ line)
    (ht : ∀ d ∈ items, ∀ x, turnL Φ (.name i) cond elt d ⟨t.set i x, h⟩ = .ok (f d) ⟨t.set i (some (.val d)), h⟩) :
    lcR Φ elt (.name i) cond items ⟨t, h⟩ = .ok (.own (items.filterMap f)) ⟨t.set i (match t[i]? with | some (some (.val d)) => some (.val d) | _ => none), h⟩ := by
  have h0 : ∃ x, (⟨t, h⟩ : S) = ⟨t.set i x, h⟩ := by
    by_cases hi : i < t.length
    · exact ⟨t[i], by rw [List.set_getElem_self]⟩
    · exact ⟨none, by rw [List.set_eq_of_length_le (by omega)]⟩
  obtain ⟨s', e, x, rfl⟩ := lcGo_fm (Φ := Φ) (tg := .name i) (cond := cond) (elt := elt) (fun s => ∃ x, s = ⟨t.set i x, h⟩) f items [] ⟨t, h⟩ (fun d hd s hI => by
    obtain ⟨x, rfl⟩ := hI
    exact ⟨_, ht d hd x, _, rfl⟩) (by simpa using hl) h0
  unfold lcR
  rw [e]
  simp [MT.ids, backT, List.set_set] <;> rfl
/-- the int of a slot, for a measure -/
def intAt (i : Nat) (s : S) : Int := match s.t[i]? with
  | some (some (.val (.int b))) => b
  | _ => 0
@[simp] theorem intAt_mk (i : Nat) (t : List (Option Sl)) (h : List (List D)) : intAt i ⟨t, h⟩ = match t[i]? with
  | some (some (.val (.int b))) => b
  | _ => 0 := by rfl
end PI

namespace PI
open PySem L2
/-! ### the defs that the laws share, as they stand in each law's text -/
def c_law_draw : Def := ⟨"_law_draw", 2, 4,
  (.cons (.ite (.bop true (.cons (.cmp (.idx (.var 0) (.cst (.int 2))) (.cons .le (.cst (.int 0)) .nil)) (.cons (.cmp (.idx (.var 0) (.cst (.int 4))) (.cons .le (.cst (.int 0)) .nil)) (.cons (.cmp (.idx (.var 0) (.cst (.int 1))) (.cons .lt (.blt .len (.cons (.idx (.var 0) (.cst (.int 0))) .nil)) .nil)) .nil)))) (.cons (.set (.name 2) (.idx (.idx (.var 0) (.cst (.int 0))) (.idx (.var 0) (.cst (.int 1)))))
  (.cons (.seti (.var 0) (.cst (.int 1)) (.bin .add (.idx (.var 0) (.cst (.int 1))) (.cst (.int 1))))
  (.cons (.seti (.var 0) (.cst (.int 3)) (.bin .mod (.blt .int (.cons (.bin .add (.bin .mul (.idx (.var 0) (.cst (.int 3))) (.cst (.int 31))) (.var 2)) .nil)) (.cst (.int 2147483647))))
  (.cons (.seti (.var 0) (.cst (.int 4)) (.cst (.int 7)))
  (.cons (.ite (.cmp (.var 2) (.cons .ge (.bin .pow (.cst (.int 10)) (.cst (.int 18))) .nil)) (.cons (.seti (.var 0) (.cst (.int 2)) (.var 2))
  .nil) .nil)
  .nil))))) .nil)
  (.cons (.ite (.cmp (.idx (.var 0) (.cst (.int 2))) (.cons .gt (.cst (.int 0)) .nil)) (.cons (.set (.name 3) (.bin .mod (.blt .int (.cons (.idx (.var 0) (.cst (.int 2))) .nil)) (.var 1)))
  (.cons (.seti (.var 0) (.cst (.int 2)) (.bin .fdiv (.idx (.var 0) (.cst (.int 2))) (.var 1)))
  (.cons (.seti (.var 0) (.cst (.int 4)) (.cst (.int 0)))
  (.cons (.ret (.var 3))
  .nil)))) .nil)
  (.cons (.seti (.var 0) (.cst (.int 4)) (.bin .sub (.idx (.var 0) (.cst (.int 4))) (.cst (.int 1))))
  (.cons (.seti (.var 0) (.cst (.int 3)) (.bin .mod (.blt .int (.cons (.bin .add (.bin .mul (.idx (.var 0) (.cst (.int 3))) (.cst (.int 48271))) (.cst (.int 12345))) .nil)) (.cst (.int 2147483647))))
  (.cons (.ret (.bin .mod (.bin .mod (.blt .int (.cons (.bin .add (.bin .mul (.idx (.var 0) (.cst (.int 3))) (.cst (.int 69621))) (.cst (.int 7919))) .nil)) (.cst (.int 2147483647))) (.var 1)))
  .nil)))))⟩
def c_law_gcd : Def := ⟨"_law_gcd", 2, 5,
  (.cons (.set (.name 2) (.blt .abs (.cons (.var 0) .nil)))
  (.cons (.set (.name 3) (.blt .abs (.cons (.var 1) .nil)))
  (.cons (.for (.name 4) (.rng1 (.bin .add (.cst (.int 4000)) (.bin .mul (.cst (.int 2)) (.blt .bits (.cons (.var 3) .nil))))) (.cons (.ite (.cmp (.var 3) (.cons .eq (.cst (.int 0)) .nil)) (.cons .brk
  .nil) .nil)
  (.cons (.par 2 3 (.var 3) (.bin .mod (.blt .int (.cons (.var 2) .nil)) (.var 3)))
  .nil)))
  (.cons (.ret (.var 2))
  .nil))))⟩
def c_law_same : Def := ⟨"_law_same", 2, 3,
  (.cons (.ite (.bop false (.cons (.isi (.var 1) .tup) (.cons (.isi (.var 1) .lst) .nil))) (.cons (.ite (.bop false (.cons (.cmp (.isi (.var 1) .tup) (.cons .ne (.isi (.var 0) .tup) .nil)) (.cons (.cmp (.isi (.var 1) .lst) (.cons .ne (.isi (.var 0) .lst) .nil)) .nil))) (.cons (.ret (.cst (.bl false)))
  .nil) .nil)
  (.cons (.ite (.cmp (.blt .len (.cons (.var 0) .nil)) (.cons .ne (.blt .len (.cons (.var 1) .nil)) .nil)) (.cons (.ret (.cst (.bl false)))
  .nil) .nil)
  (.cons (.for (.name 2) (.rng1 (.blt .len (.cons (.var 1) .nil))) (.cons (.ite (.not (.call "_law_same" (.cons (.idx (.var 0) (.var 2)) (.cons (.idx (.var 1) (.var 2)) .nil)))) (.cons (.ret (.cst (.bl false)))
  .nil) .nil)
  .nil))
  (.cons (.ret (.cst (.bl true)))
  .nil)))) .nil)
  (.cons (.ite (.bop false (.cons (.cmp (.var 1) (.cons .is (.cst .non) .nil)) (.cons (.isi (.var 1) .bl) .nil))) (.cons (.ret (.bop true (.cons (.cmp (.cmp (.var 0) (.cons .is (.cst .non) .nil)) (.cons .eq (.cmp (.var 1) (.cons .is (.cst .non) .nil)) .nil)) (.cons (.bop false (.cons (.cmp (.var 1) (.cons .is (.cst .non) .nil)) (.cons (.isi (.var 0) .bl) .nil))) (.cons (.cmp (.var 0) (.cons .eq (.var 1) .nil)) .nil)))))
  .nil) .nil)
  (.cons (.ite (.isi (.var 1) .int) (.cons (.ret (.bop true (.cons (.isi (.var 0) .int) (.cons (.not (.isi (.var 0) .bl)) (.cons (.cmp (.var 0) (.cons .eq (.var 1) .nil)) .nil)))))
  .nil) .nil)
  (.cons (.ret (.bop true (.cons (.isi (.var 0) .str) (.cons (.cmp (.var 0) (.cons .eq (.var 1) .nil)) .nil))))
  .nil))))⟩
def c_law_some : Def := ⟨"_law_some", 1, 2,
  (.cons (.set (.name 1) (.call "_law_draw" (.cons (.var 0) (.cons (.cst (.int 8)) .nil))))
  (.cons (.ite (.cmp (.var 1) (.cons .lt (.cst (.int 4)) .nil)) (.cons (.ret (.call "_law_draw" (.cons (.var 0) (.cons (.cst (.int 40)) .nil))))
  .nil) .nil)
  (.cons (.ite (.cmp (.var 1) (.cons .lt (.cst (.int 6)) .nil)) (.cons (.ret (.call "_law_draw" (.cons (.var 0) (.cons (.cst (.int 3000)) .nil))))
  .nil) .nil)
  (.cons (.ite (.cmp (.var 1) (.cons .eq (.cst (.int 6)) .nil)) (.cons (.ret (.call "_law_draw" (.cons (.var 0) (.cons (.bin .pow (.cst (.int 10)) (.cst (.int 6))) .nil))))
  .nil) .nil)
  (.cons (.ret (.call "_law_draw" (.cons (.var 0) (.cons (.bin .pow (.cst (.int 10)) (.cst (.int 10))) .nil))))
  .nil)))))⟩
def c_law_sign : Def := ⟨"_law_sign", 2, 2,
  (.cons (.ret (.bin .mul (.var 1) (.bin .sub (.cst (.int 1)) (.bin .mul (.cst (.int 2)) (.call "_law_draw" (.cons (.var 0) (.cons (.cst (.int 2)) .nil)))))))
  .nil)⟩
def c_law_huge : Def := ⟨"_law_huge", 1, 1,
  (.cons (.ret (.call "_law_sign" (.cons (.var 0) (.cons (.bin .add (.bin .mul (.call "_law_draw" (.cons (.var 0) (.cons (.bin .pow (.cst (.int 10)) (.cst (.int 20))) .nil))) (.call "_law_draw" (.cons (.var 0) (.cons (.bin .pow (.cst (.int 10)) (.cst (.int 20))) .nil)))) (.call "_law_draw" (.cons (.var 0) (.cons (.bin .pow (.cst (.int 10)) (.cst (.int 20))) .nil)))) .nil))))
  .nil)⟩
def c_law_touched : Def := ⟨"_law_touched", 2, 3,
  (.cons (.ite (.bop true (.cons (.isi (.var 1) .tup) (.cons (.cmp (.blt .len (.cons (.var 1) .nil)) (.cons .gt (.cst (.int 0)) .nil)) .nil))) (.cons (.set (.name 2) (.call "_law_draw" (.cons (.var 0) (.cons (.blt .len (.cons (.var 1) .nil)) .nil))))
  (.cons (.ret (.bin .add (.bin .add (.slc (.var 1) .none (.some (.var 2))) (.tup (.cons (.call "_law_touched" (.cons (.var 0) (.cons (.idx (.var 1) (.var 2)) .nil))) .nil))) (.slc (.var 1) (.some (.bin .add (.var 2) (.cst (.int 1)))) .none)))
  .nil)) .nil)
  (.cons (.ite (.isi (.var 1) .int) (.cons (.ret (.bin .add (.var 1) (.idx (.tup (.cons (.cst (.int 1)) (.cons (.bin .sub (.cst (.int 0)) (.cst (.int 1))) (.cons (.cst (.int 2)) (.cons (.bin .sub (.cst (.int 0)) (.var 1)) (.cons (.var 1) (.cons (.bin .sub (.cst (.int 0)) (.bin .mul (.cst (.int 2)) (.var 1))) (.cons (.bin .pow (.cst (.int 10)) (.cst (.int 12))) .nil)))))))) (.call "_law_draw" (.cons (.var 0) (.cons (.cst (.int 7)) .nil))))))
  .nil) .nil)
  (.cons (.ret (.var 1))
  .nil)))⟩
def c_law_plain : Def := ⟨"_law_plain", 1, 2,
  (.cons (.ite (.isi (.var 0) .tup) (.cons (.ret (.cmp (.cst (.bl false)) (.cons .notin (.lc (.call "_law_plain" (.cons (.var 1) .nil)) (.name 1) (.seq (.var 0)) .none) .nil)))
  .nil) .nil)
  (.cons (.ret (.bop false (.cons (.isi (.var 0) .str) (.cons (.bop true (.cons (.isi (.var 0) .int) (.cons (.not (.isi (.var 0) .bl)) .nil))) .nil))))
  .nil))⟩
def c_law_divides : Def := ⟨"_law_divides", 2, 2,
  (.cons (.ite (.cmp (.var 0) (.cons .eq (.cst (.int 0)) .nil)) (.cons (.ret (.cmp (.var 1) (.cons .eq (.cst (.int 0)) .nil)))
  .nil) .nil)
  (.cons (.ret (.cmp (.bin .mod (.blt .int (.cons (.var 1) .nil)) (.var 0)) (.cons .eq (.cst (.int 0)) .nil)))
  .nil))⟩
def PoolOk (p : List D) : Prop := ∃ (ns : List Int) (i x s c : Int), p = [.lst (ns.map .int), .int i, .int x, .int s, .int c, .int 0] ∧ 0 ≤ i
theorem atD_pos (ds : List D) (i : Nat) (d : D) (h : ds[i]? = some d) : atD ds (i : Int) = some d := by
  have hl : i < ds.length := (List.getElem?_eq_some_iff.mp h).1
  unfold atD ixP
  rw [if_pos (by omega), if_pos (by omega)]
  simpa using h
theorem draw1 {fs : List Def} {k : Nat} (hl : lookD fs "_law_draw" = some c_law_draw) {p : List D} {size : Int} (hp : PoolOk p) (h0 : 0 < size) (h1 : size.natAbs.log2 < 9000) :
    ∃ v p', Phi fs (k + 1) "_law_draw" [.ref 0, .int size] [p] = .ok (.val (.int v)) [p'] ∧ PoolOk p' ∧ 0 ≤ v ∧ v < size := by
  obtain ⟨ns, i, x, s, c, rfl, hi⟩ := hp
  rw [Phi_run hl rfl]
  have hs0 : size ≠ 0 := by omega
  have hdv : divOk size = true := by simp [divOk, hs0, h1]
  have hm1 : ∀ i : Int, mulOk i 31 = true := fun i => by simp [mulOk]
  have hm2 : ∀ i : Int, mulOk i 48271 = true := fun i => by simp [mulOk]
  have hm3 : ∀ i : Int, mulOk i 69621 = true := fun i => by simp [mulOk]
  have hp1 : powOk 10 18 = true := by decide
  by_cases c1 : x ≤ 0 ∧ c ≤ 0 ∧ i < ns.length
  · obtain ⟨c1, c2, c3⟩ := c1
    have hcell : ∃ cell, ns[i.toNat]? = some cell := ⟨ns[i.toNat]'(by omega), List.getElem?_eq_getElem (by omega)⟩
    obtain ⟨cell, hcell⟩ := hcell
    have hi' : ∀ j : Nat, (ns.map D.int)[i.toNat]? = some (.int cell) := fun _ => by rw [List.getElem?_map, hcell]; rfl
    have hat : atD (ns.map D.int) i = some (.int cell) := by
      have := atD_pos (ns.map D.int) i.toNat (.int cell) (hi' 0)
      rwa [Int.toNat_of_nonneg hi] at this
    have c4 : ¬ (0 < x) := by omega
    by_cases c5 : (1000000000000000000 : Int) ≤ cell
    · have c6 : 0 < cell := by omega
      simp [c_law_draw, startT, hat, c1, c2, c3, c4, c5, c6, hm1, hm2, hm3, hp1, hs0, hdv, bin_mulI, bin_modI, bin_fdivI, bin_powI]
      exact ⟨_, _, ⟨rfl, rfl⟩, ⟨ns, _, _, _, _, rfl, by omega⟩, Int.fmod_nonneg_of_pos _ h0, Int.fmod_lt_of_pos _ h0⟩
    · simp [c_law_draw, startT, hat, c1, c2, c3, c4, c5, hm1, hm2, hm3, hp1, hs0, hdv, bin_mulI, bin_modI, bin_fdivI, bin_powI]
      exact ⟨_, _, ⟨rfl, rfl⟩, ⟨ns, _, _, _, _, rfl, by omega⟩, Int.fmod_nonneg_of_pos _ h0, Int.fmod_lt_of_pos _ h0⟩
  · have hb : (if x ≤ 0 then if c ≤ 0 then decide (i < ns.length) else false else false) = false := by
      by_cases d1 : x ≤ 0
      · by_cases d2 : c ≤ 0
        · have : ¬ i < ns.length := fun z => c1 ⟨d1, d2, z⟩
          simp [d1, d2, this]
        · simp [d1, d2]
      · simp [d1]
    by_cases c5 : 0 < x
    · have c6 : ¬ x ≤ 0 := by omega
      simp [c_law_draw, startT, c5, c6, hm1, hm2, hm3, hp1, hs0, hdv, bin_mulI, bin_modI, bin_fdivI, bin_powI]
      exact ⟨_, _, ⟨rfl, rfl⟩, ⟨ns, _, _, _, _, rfl, by omega⟩, Int.fmod_nonneg_of_pos _ h0, Int.fmod_lt_of_pos _ h0⟩
    · have c6 : x ≤ 0 := by omega
      by_cases c7 : c ≤ 0
      · have c8 : ¬ i < ns.length := fun z => c1 ⟨c6, c7, z⟩
        simp [c_law_draw, startT, c5, c6, c7, c8, hm1, hm2, hm3, hp1, hs0, hdv, bin_mulI, bin_modI, bin_fdivI, bin_powI]
        exact ⟨_, _, ⟨rfl, rfl⟩, ⟨ns, _, _, _, _, rfl, by omega⟩, Int.fmod_nonneg_of_pos _ h0, Int.fmod_lt_of_pos _ h0⟩
      · simp [c_law_draw, startT, c5, c6, c7, hm1, hm2, hm3, hp1, hs0, hdv, bin_mulI, bin_modI, bin_fdivI, bin_powI]
        exact ⟨_, _, ⟨rfl, rfl⟩, ⟨ns, _, _, _, _, rfl, by omega⟩, Int.fmod_nonneg_of_pos _ h0, Int.fmod_lt_of_pos _ h0⟩
/-! ### _law_same of a value and itself -/
def SD : Nat → D → Prop
  | _, .non => True
  | _, .bl _ => True
  | _, .int _ => True
  | _, .str x => PyData.canLay0 (.str x) = true
  | n + 1, .tup ds => ds.length ≤ line ∧ ∀ d ∈ ds, SD n d
  | n + 1, .lst ds => ds.length ≤ line ∧ ∀ d ∈ ds, SD n d
  | _, _ => False
theorem small_len {n : Nat} (h : n ≤ line) : smallI (n : Int) = true := by
  unfold line at h
  simp only [smallI, Bool.and_eq_true, decide_eq_true_eq]
  omega
theorem range_get (lo : Int) (n i : Nat) (d : D) (h : (rangeD lo n)[i]? = some d) : d = .int (lo + i) ∧ i < n := by
  unfold rangeD at h
  rw [List.getElem?_map] at h
  by_cases hi : i < n
  · rw [List.getElem?_range hi] at h
    simp at h
    exact ⟨h.symm, hi⟩
  · rw [List.getElem?_eq_none (by simpa using hi)] at h; cases h
theorem range_len (lo : Int) (n : Nat) : (rangeD lo n).length = n := by simp [rangeD]
theorem same_refl {fs : List Def} (hl : lookD fs "_law_same" = some c_law_same) (h : List (List D)) : ∀ (n : Nat) (d : D), SD n d → ∀ k, n ≤ k → Phi fs (k + 1) "_law_same" [d, d] h = .ok (.val (.bl true)) h := by
  intro n
  induction n with
  | zero =>
    intro d hd k _
    rw [Phi_run hl rfl]
    cases d with
    | non => simp [c_law_same, startT, isTy]
    | bl b => simp [c_law_same, startT, isTy, D.isNon]
    | int i => simp [c_law_same, startT, isTy, D.isNon]
    | str x =>
      have hd : PyData.canLay0 (.str x) = true := hd
      simp [c_law_same, startT, isTy, D.isNon, hd]
    | _ => exact hd.elim
  | succ n ih =>
    intro d hd k hk
    obtain ⟨k, rfl⟩ : ∃ k', k = k' + 1 := ⟨k - 1, by omega⟩
    have seq : ∀ (ds : List D) (q : D), (q = .tup ds ∨ q = .lst ds) → ds.length ≤ line → (∀ d ∈ ds, SD n d) → Phi fs (k + 1 + 1) "_law_same" [q, q] h = .ok (.val (.bl true)) h := by
      intro ds q hq hlen hall
      rw [Phi_run hl rfl]
      have loop := forR_inv (Φ := Phi fs (k + 1)) (t := .name 2) (b := .cons (.ite (.not (.call "_law_same" (.cons (.idx (.var 0) (.var 2)) (.cons (.idx (.var 1) (.var 2)) .nil)))) (.cons (.ret (.cst (.bl false))) .nil) .nil) .nil)
        (rangeD 0 ds.length) (fun _ s => ∃ x, s = ⟨[some (.val q), some (.val q), x], h⟩) (fun r => ∃ x, r = .next ⟨[some (.val q), some (.val q), x], h⟩) (fun i d s e hI => by
          obtain ⟨x, rfl⟩ := hI
          obtain ⟨rfl, hi⟩ := range_get _ _ _ _ e
          have hget : ds[i]? = some ds[i] := List.getElem?_eq_getElem hi
          have hs := ih ds[i] (hall _ (List.getElem_mem hi)) k (by omega)
          have hat : atD ds ((i : Nat) : Int) = some ds[i] := by rw [atD_nat]; exact hget
          rcases hq with rfl | rfl <;> simp [bindT, hat, hs]) (fun s hI => by obtain ⟨x, rfl⟩ := hI; exact ⟨x, rfl⟩) ⟨[some (.val q), some (.val q), none], h⟩ ⟨none, rfl⟩
      obtain ⟨x, e⟩ := loop
      have hsm := small_len hlen
      rcases hq with rfl | rfl <;> simp [c_law_same, startT, isTy, hsm, e]
    cases d with
    | tup ds => exact seq ds _ (.inl rfl) hd.1 hd.2
    | lst ds => exact seq ds _ (.inr rfl) hd.1 hd.2
    | non => rw [Phi_run hl rfl]; simp [c_law_same, startT, isTy]
    | bl b => rw [Phi_run hl rfl]; simp [c_law_same, startT, isTy, D.isNon]
    | int i => rw [Phi_run hl rfl]; simp [c_law_same, startT, isTy, D.isNon]
    | str x =>
      have hd : PyData.canLay0 (.str x) = true := hd
      rw [Phi_run hl rfl]
      simp [c_law_same, startT, isTy, D.isNon, hd]
    | ref k => exact hd.elim
/-! ### _law_gcd -/
theorem abs_if (i : Int) : (if i < 0 then -i else i) = (i.natAbs : Int) := by split <;> omega
theorem fmod_nat (a b : Nat) : ((a : Int)).fmod (b : Int) = ((a % b : Nat) : Int) := by
  rw [Int.fmod_eq_emod_of_nonneg _ (by omega)]; omega
theorem half_mod {a b : Nat} (h0 : 0 < b) (h : b < a) : 2 * (a % b) ≤ a := by
  have h1 := Nat.mod_lt a h0
  have h2 := Nat.div_add_mod a b
  have h3 : 1 ≤ a / b := (Nat.one_le_div_iff h0).mpr (Nat.le_of_lt h)
  have h4 : b * 1 ≤ b * (a / b) := Nat.mul_le_mul_left b h3
  omega
theorem lgcd1 {fs : List Def} {k : Nat} (hl : lookD fs "_law_gcd" = some c_law_gcd) (x y : Int) (hy : y.natAbs.log2 < 1000000) (h : List (List D)) :
    Phi fs (k + 1) "_law_gcd" [.int x, .int y] h = .ok (.val (.int (Nat.gcd x.natAbs y.natAbs))) h := by
  rw [Phi_run hl rfl]
  obtain ⟨a0, ha0⟩ : ∃ a0, x.natAbs = a0 := ⟨_, rfl⟩
  obtain ⟨b0, hb0⟩ : ∃ b0, y.natAbs = b0 := ⟨_, rfl⟩
  rw [hb0] at hy
  obtain ⟨bits, hbits⟩ : ∃ bits : Nat, (if b0 = 0 then (0 : Int) else b0.log2 + 1) = bits ∧ b0 < 2 ^ bits ∧ bits ≤ 1000000 := by
    by_cases z : b0 = 0
    · subst z; exact ⟨0, by simp, by simp, by omega⟩
    · refine ⟨b0.log2 + 1, ?_, Nat.lt_log2_self, by omega⟩
      rw [if_neg z]
      simp
  obtain ⟨hb1, hb2, hb3⟩ := hbits
  have hsm : smallI (4000 + 2 * (bits : Int)) = true := by
    simp only [smallI, Bool.and_eq_true, decide_eq_true_eq]; omega
  have hto : (4000 + 2 * (bits : Int)).toNat = 2 * (2000 + bits) := by omega
  have hm : mulOk 2 (bits : Int) = true := by simp [mulOk]
  have loop := forR_inv (Φ := Phi fs k) (t := .name 4) (b := .cons (.ite (.cmp (.var 3) (.cons .eq (.cst (.int 0)) .nil)) (.cons .brk .nil) .nil) (.cons (.par 2 3 (.var 3) (.bin .mod (.blt .int (.cons (.var 2) .nil)) (.var 3))) .nil))
    (rangeD 0 (2 * (2000 + bits))) (fun i s => ∃ (a b : Nat) (z : Option Sl), s = ⟨[some (.val (.int x)), some (.val (.int y)), some (.val (.int a)), some (.val (.int b)), z], h⟩ ∧ Nat.gcd a b = Nat.gcd a0 b0 ∧ (i % 2 = 0 → b * 2 ^ (i / 2) ≤ b0) ∧ (i % 2 = 1 → b < a ∧ a * 2 ^ (i / 2) ≤ b0))
    (fun r => ∃ z b, r = .next ⟨[some (.val (.int x)), some (.val (.int y)), some (.val (.int (Nat.gcd a0 b0))), b, z], h⟩) (fun i d s e hI => by
      obtain ⟨a, b, z, rfl, hg, hev, hod⟩ := hI
      simp only [bindT]
      by_cases hb : b = 0
      · subst hb
        rw [Nat.gcd_zero_right] at hg
        subst hg
        simp
      · have hb' : ¬ ((b : Int) = 0) := by omega
        simp [hb', hb, bin_modI, fmod_nat]
        refine ⟨b, a % b, ⟨rfl, rfl⟩, ?_, fun hi => ?_, fun hi => ?_⟩
        · rw [← hg, Nat.gcd_comm b, ← Nat.gcd_rec, Nat.gcd_comm]
        · have h1 := hod (by omega)
          have h2 := half_mod (Nat.pos_of_ne_zero hb) h1.1
          have h3 : (i + 1) / 2 = i / 2 + 1 := by omega
          rw [h3, Nat.pow_succ]
          have h4 : (a % b) * 2 * 2 ^ (i / 2) ≤ a * 2 ^ (i / 2) := Nat.mul_le_mul_right _ (by omega)
          have h5 : (a % b) * (2 ^ (i / 2) * 2) = (a % b) * 2 * 2 ^ (i / 2) := by rw [Nat.mul_comm (2 ^ (i / 2)) 2, Nat.mul_assoc]
          rw [h5]; exact Nat.le_trans h4 h1.2
        · have h1 := hev (by omega)
          have h3 : (i + 1) / 2 = i / 2 := by omega
          rw [h3]
          exact ⟨Nat.mod_lt _ (Nat.pos_of_ne_zero hb), h1⟩) (fun s hI => by
      obtain ⟨a, b, z, rfl, hg, hev, hod⟩ := hI
      rw [range_len] at hev
      have h1 := hev (by omega)
      have h2 : 2 * (2000 + bits) / 2 = 2000 + bits := by omega
      rw [h2] at h1
      have hb : b = 0 := by
        rcases Nat.eq_zero_or_pos b with z | z
        · exact z
        · have h3 : 1 * 2 ^ (2000 + bits) ≤ b * 2 ^ (2000 + bits) := Nat.mul_le_mul_right _ z
          have h4 : 2 ^ bits ≤ 2 ^ (2000 + bits) := Nat.pow_le_pow_right (by omega) (by omega)
          omega
      subst hb
      rw [Nat.gcd_zero_right] at hg
      subst hg
      exact ⟨_, _, rfl⟩)
    ⟨[some (.val (.int x)), some (.val (.int y)), some (.val (.int a0)), some (.val (.int b0)), none], h⟩ ⟨a0, b0, none, rfl, rfl, fun _ => by simp, fun z => by omega⟩
  obtain ⟨z, b, e⟩ := loop
  simp only [ha0, hb0]
  simp [c_law_gcd, startT, abs_if, ha0, hb0, hb1, hm, bin_mulI, hsm, hto, e]
/-! ### the small draws -/
theorem sign1 {fs : List Def} {k : Nat} (hd : lookD fs "_law_draw" = some c_law_draw) (hl : lookD fs "_law_sign" = some c_law_sign) {p : List D} (hp : PoolOk p) (n : Int) :
    ∃ v p', Phi fs (k + 2) "_law_sign" [.ref 0, .int n] [p] = .ok (.val (.int v)) [p'] ∧ PoolOk p' ∧ (v = n ∨ v = -n) := by
  obtain ⟨u, p', e, hp', u0, u1⟩ := draw1 (k := k) hd hp (size := 2) (by decide) (by decide)
  refine ⟨n * (1 - 2 * u), p', ?_, hp', ?_⟩
  · rw [Phi_run hl rfl]
    have hm : mulOk 2 u = true := by simp [mulOk]
    have hm2 : mulOk n (1 - 2 * u) = true := by
      simp only [mulOk, Bool.or_eq_true, decide_eq_true_eq]
      exact .inl (.inr (by omega))
    simp [c_law_sign, startT, e, bin_mulI, hm, hm2]
  · have : u = 0 ∨ u = 1 := by omega
    rcases this with rfl | rfl
    · left; omega
    · right; omega
theorem some1 {fs : List Def} {k : Nat} (hd : lookD fs "_law_draw" = some c_law_draw) (hl : lookD fs "_law_some" = some c_law_some) {p : List D} (hp : PoolOk p) :
    ∃ v p', Phi fs (k + 2) "_law_some" [.ref 0] [p] = .ok (.val (.int v)) [p'] ∧ PoolOk p' ∧ 0 ≤ v ∧ v < 10000000000 := by
  obtain ⟨u, p1, e, hp1, u0, u1⟩ := draw1 (k := k) hd hp (size := 8) (by decide) (by decide)
  have hw1 : powOk 10 6 = true := by decide
  have hw2 : powOk 10 10 = true := by decide
  rw [Phi_run hl rfl]
  by_cases c1 : u < 4
  · obtain ⟨v, p2, e2, hp2, v0, v1⟩ := draw1 (k := k) hd hp1 (size := 40) (by decide) (by decide)
    exact ⟨v, p2, by simp [c_law_some, startT, e, c1, e2], hp2, v0, by omega⟩
  by_cases c2 : u < 6
  · obtain ⟨v, p2, e2, hp2, v0, v1⟩ := draw1 (k := k) hd hp1 (size := 3000) (by decide) (by decide)
    exact ⟨v, p2, by simp [c_law_some, startT, e, c1, c2, e2], hp2, v0, by omega⟩
  by_cases c3 : u = 6
  · obtain ⟨v, p2, e2, hp2, v0, v1⟩ := draw1 (k := k) hd hp1 (size := 1000000) (by decide) (by decide)
    exact ⟨v, p2, by simp [c_law_some, startT, e, c3, e2, hw1, bin_powI], hp2, v0, by omega⟩
  · obtain ⟨v, p2, e2, hp2, v0, v1⟩ := draw1 (k := k) hd hp1 (size := 10000000000) (by decide) (by decide)
    exact ⟨v, p2, by simp [c_law_some, startT, e, c1, c2, c3, e2, hw2, bin_powI], hp2, v0, by omega⟩
theorem huge1 {fs : List Def} {k : Nat} (hd : lookD fs "_law_draw" = some c_law_draw) (hs : lookD fs "_law_sign" = some c_law_sign) (hl : lookD fs "_law_huge" = some c_law_huge) {p : List D} (hp : PoolOk p) :
    ∃ v p', Phi fs (k + 3) "_law_huge" [.ref 0] [p] = .ok (.val (.int v)) [p'] ∧ PoolOk p' ∧ -(10 ^ 41) < v ∧ v < 10 ^ 41 := by
  obtain ⟨u, p1, e1, hp1, u0, u1⟩ := draw1 (k := k + 1) hd hp (size := 100000000000000000000) (by decide) (by decide)
  obtain ⟨v, p2, e2, hp2, v0, v1⟩ := draw1 (k := k + 1) hd hp1 (size := 100000000000000000000) (by decide) (by decide)
  obtain ⟨w, p3, e3, hp3, w0, w1⟩ := draw1 (k := k + 1) hd hp2 (size := 100000000000000000000) (by decide) (by decide)
  obtain ⟨z, p4, e4, hp4, hz⟩ := sign1 (k := k) hd hs hp3 (u * v + w)
  have hw : powOk 10 20 = true := by decide
  have hm : mulOk u v = true := by
    simp only [mulOk, Bool.or_eq_true, decide_eq_true_eq]
    right
    have h1 : u.natAbs.log2 < 70 := by
      by_cases z : u.natAbs = 0
      · rw [z]; decide
      · exact (Nat.log2_lt z).mpr (by omega)
    have h2 : v.natAbs.log2 < 70 := by
      by_cases z : v.natAbs = 0
      · rw [z]; decide
      · exact (Nat.log2_lt z).mpr (by omega)
    omega
  refine ⟨z, p4, ?_, hp4, ?_⟩
  · rw [Phi_run hl rfl]
    simp [c_law_huge, startT, e1, e2, e3, e4, hw, hm, bin_powI, bin_mulI]
  · have h1 : 0 ≤ u * v := Int.mul_nonneg u0 v0
    have h2 : u * v ≤ 100000000000000000000 * 100000000000000000000 := Int.mul_le_mul (by omega) (by omega) v0 (by omega)
    rcases hz with rfl | rfl
    · constructor <;> omega
    · constructor <;> omega
/-! ### _law_plain -/
def PL : Nat → D → Prop
  | _, .str _ => True
  | _, .int _ => True
  | n + 1, .tup ds => ds.length ≤ line ∧ ∀ d ∈ ds, PL n d
  | _, _ => False
theorem mem_trues : ∀ n : Nat, isMem (.bl false) (List.replicate n (.bl true)) = false
  | 0 => rfl
  | n + 1 => by
    rw [List.replicate_succ]
    have := mem_trues n
    unfold isMem at this ⊢
    rw [List.any_cons, this]
    simp
theorem dats_trues (m : Nat) : ∀ n : Nat, dats m (List.replicate n (.bl true)) = true
  | 0 => by simp
  | n + 1 => by rw [List.replicate_succ]; simp [dats_trues m n]
theorem plain1 {fs : List Def} (hl : lookD fs "_law_plain" = some c_law_plain) (h : List (List D)) : ∀ (n : Nat) (d : D), PL n d → ∀ k, n ≤ k → Phi fs (k + 1) "_law_plain" [d] h = .ok (.val (.bl true)) h := by
  intro n
  induction n with
  | zero =>
    intro d hd k _
    rw [Phi_run hl rfl]
    cases d with
    | int i => simp [c_law_plain, startT, isTy]
    | str x => simp [c_law_plain, startT, isTy]
    | _ => exact hd.elim
  | succ n ih =>
    intro d hd k hk
    obtain ⟨k, rfl⟩ : ∃ k', k = k' + 1 := ⟨k - 1, by omega⟩
    rw [Phi_run hl rfl]
    cases d with
    | int i => simp [c_law_plain, startT, isTy]
    | str x => simp [c_law_plain, startT, isTy]
    | tup ds =>
      obtain ⟨hlen, hall⟩ := hd
      have lc := lcR_fm (Φ := Phi fs (k + 1)) (i := 1) (cond := .none) (elt := .call "_law_plain" (.cons (.var 1) .nil)) (fun _ => some (.bl true)) ds [some (.val (.tup ds)), none] h hlen (fun d hd x => by
        have e := ih d (hall d hd) k (by omega)
        simp [turnL, wipeT, MT.ids, bindT, e])
      have e1 : ds.filterMap (fun _ => some (D.bl true)) = List.replicate ds.length (.bl true) := by
        simp [List.filterMap_eq_map, List.map_const']
      rw [e1] at lc
      simp [c_law_plain, startT, isTy, lc, cmpD, dats_trues, mem_trues]
    | _ => exact hd.elim
/-! ### _law_touched: the same shape, other ints -/
mutual
def shp : D → D → Prop
  | .int _, .int _ => True
  | .str x, .str y => x = y
  | .tup ds, .tup es => shps ds es
  | _, _ => False
def shps : List D → List D → Prop
  | [], [] => True
  | d :: ds, e :: es => shp d e ∧ shps ds es
  | _, _ => False
end
/-- ints below a bound -/
def bnd (B : Nat) : Nat → D → Prop
  | _, .int i => i.natAbs < B
  | n + 1, .tup ds => ∀ d ∈ ds, bnd B n d
  | _, _ => True
theorem shps_refl {n : Nat} (ih : ∀ d, PL n d → shp d d) : ∀ ds : List D, (∀ d ∈ ds, PL n d) → shps ds ds
  | [], _ => by unfold shps; trivial
  | d :: ds, h => by unfold shps; exact ⟨ih d (h d List.mem_cons_self), shps_refl ih ds fun x hx => h x (List.mem_cons_of_mem _ hx)⟩
theorem shp_refl : ∀ (n : Nat) (d : D), PL n d → shp d d := by
  intro n
  induction n with
  | zero =>
    intro d hd
    cases d with
    | int i => unfold shp; trivial
    | str x => unfold shp; rfl
    | _ => exact hd.elim
  | succ n ih =>
    intro d hd
    cases d with
    | int i => unfold shp; trivial
    | str x => unfold shp; rfl
    | tup ds => unfold shp; exact shps_refl ih ds hd.2
    | _ => exact hd.elim
theorem shps_set {n : Nat} : ∀ (ds : List D) (i : Nat) (d e : D), (∀ d ∈ ds, PL n d) → ds[i]? = some d → shp d e → shps ds (ds.set i e)
  | [], i, d, e, h, hi, hs => by simp at hi
  | x :: ds, 0, d, e, h, hi, hs => by
    simp at hi; subst hi
    rw [List.set_cons_zero]
    unfold shps
    exact ⟨hs, shps_refl (shp_refl n) ds fun x hx => h x (List.mem_cons_of_mem _ hx)⟩
  | x :: ds, i + 1, d, e, h, hi, hs => by
    rw [List.set_cons_succ]
    unfold shps
    exact ⟨shp_refl n x (h x List.mem_cons_self), shps_set ds i d e (fun x hx => h x (List.mem_cons_of_mem _ hx)) (by simpa using hi) hs⟩
theorem bnd_mono {B C : Nat} (h : B ≤ C) : ∀ (n : Nat) (d : D), bnd B n d → bnd C n d := by
  intro n
  induction n with
  | zero => intro d hd; cases d <;> first | exact Nat.lt_of_lt_of_le hd h | trivial
  | succ n ih =>
    intro d hd
    cases d with
    | int i => exact Nat.lt_of_lt_of_le hd h
    | tup ds => exact fun x hx => ih x (hd x hx)
    | _ => trivial
theorem set_cut (ds : List D) (i : Nat) (e : D) (h : i < ds.length) : ds.take i ++ [e] ++ ds.drop (i + 1) = ds.set i e := by
  rw [List.set_eq_take_append_cons_drop, if_pos h]
  simp
theorem touched1 {fs : List Def} (hd : lookD fs "_law_draw" = some c_law_draw) (hl : lookD fs "_law_touched" = some c_law_touched) {B : Nat} : ∀ (n : Nat) (d : D), PL n d → bnd B n d → ∀ (k : Nat) (p : List D), n ≤ k → PoolOk p →
    ∃ d' p', Phi fs (k + 2) "_law_touched" [.ref 0, d] [p] = .ok (.val d') [p'] ∧ PoolOk p' ∧ shp d d' ∧ PL n d' ∧ bnd (3 * B + 1000000000000) n d' := by
  intro n
  have base : ∀ (n k : Nat) (p : List D) (i : Int), i.natAbs < B → PoolOk p → ∃ d' p', Phi fs (k + 2) "_law_touched" [.ref 0, .int i] [p] = .ok (.val d') [p'] ∧ PoolOk p' ∧ shp (.int i) d' ∧ PL n d' ∧ bnd (3 * B + 1000000000000) n d' := by
    intro n k p i hi hp
    obtain ⟨u, p1, e, hp1, u0, u1⟩ := draw1 (k := k) hd hp (size := 7) (by decide) (by decide)
    have hw : powOk 10 12 = true := by decide
    have hm : mulOk 2 i = true := by simp [mulOk]
    have key : ∀ z : Int, atD [D.int 1, .int (0 - 1), .int 2, .int (0 - i), .int i, .int (0 - 2 * i), .int (10 ^ 12)] u = some (.int z) → (i + z).natAbs < 3 * B + 1000000000000 → ∃ d' p', Phi fs (k + 2) "_law_touched" [.ref 0, .int i] [p] = .ok (.val d') [p'] ∧ PoolOk p' ∧ shp (.int i) d' ∧ PL n d' ∧ bnd (3 * B + 1000000000000) n d' := by
      intro z hz hb
      refine ⟨.int (i + z), p1, ?_, hp1, by unfold shp; trivial, by cases n <;> trivial, by cases n <;> exact hb⟩
      rw [Phi_run hl rfl]
      have hz' : atD [D.int 1, .int (-1), .int 2, .int (-i), .int i, .int (-(2 * i)), .int 1000000000000] u = some (.int z) := by
        have : ((10 : Int) ^ 12) = 1000000000000 := by decide
        rw [this] at hz
        simpa using hz
      simp [c_law_touched, startT, isTy, e, hw, hm, bin_powI, bin_mulI, hz']
    have : u = 0 ∨ u = 1 ∨ u = 2 ∨ u = 3 ∨ u = 4 ∨ u = 5 ∨ u = 6 := by omega
    rcases this with rfl | rfl | rfl | rfl | rfl | rfl | rfl
    · exact key 1 (by simp) (by omega)
    · exact key (0 - 1) (by simp) (by omega)
    · exact key 2 (by simp) (by omega)
    · exact key (0 - i) (by simp) (by omega)
    · exact key i (by simp) (by omega)
    · exact key (0 - 2 * i) (by simp) (by omega)
    · exact key (10 ^ 12) (by simp) (by omega)
  have strC : ∀ (n k : Nat) (p : List D) (x : Str), PoolOk p → ∃ d' p', Phi fs (k + 2) "_law_touched" [.ref 0, .str x] [p] = .ok (.val d') [p'] ∧ PoolOk p' ∧ shp (.str x) d' ∧ PL n d' ∧ bnd (3 * B + 1000000000000) n d' := by
    intro n k p x hp
    refine ⟨.str x, p, ?_, hp, by unfold shp; rfl, by cases n <;> trivial, by cases n <;> trivial⟩
    rw [Phi_run hl rfl]
    simp [c_law_touched, startT, isTy]
  induction n with
  | zero =>
    intro d hpl hb k p hk hp
    cases d with
    | int i => exact base 0 k p i hb hp
    | str x => exact strC 0 k p x hp
    | _ => exact hpl.elim
  | succ n ih =>
    intro d hpl hb k p hk hp
    cases d with
    | int i => exact base (n + 1) k p i hb hp
    | str x => exact strC (n + 1) k p x hp
    | tup ds =>
      obtain ⟨hlen, hall⟩ := hpl
      by_cases h0 : ds.length = 0
      · have : ds = [] := List.length_eq_zero_iff.mp h0
        subst this
        refine ⟨.tup [], p, ?_, hp, by unfold shp shps; trivial, ⟨by simp, by simp⟩, fun x hx => by simp at hx⟩
        rw [Phi_run hl rfl]
        simp [c_law_touched, startT, isTy]
      · have hl62 : ((ds.length : Int)).natAbs.log2 < 9000 := by
          have : ds.length < 2 ^ 9000 := Nat.lt_of_le_of_lt hlen (by unfold line; exact Nat.lt_of_lt_of_le (by decide : 16777216 < 2 ^ 25) (Nat.pow_le_pow_right (by decide) (by decide)))
          have z : ((ds.length : Int)).natAbs = ds.length := by simp
          rw [z]
          exact (Nat.log2_lt h0).mpr this
        obtain ⟨u, p1, e, hp1, u0, u1⟩ := draw1 (k := k) hd hp (size := ds.length) (by omega) hl62
        obtain ⟨i, rfl⟩ : ∃ i : Nat, u = i := ⟨u.toNat, by omega⟩
        have hi : i < ds.length := by omega
        obtain ⟨k', rfl⟩ : ∃ k', k = k' + 1 := ⟨k - 1, by omega⟩
        obtain ⟨d', p2, e2, hp2, hs, hpl', hb'⟩ := ih ds[i] (hall _ (List.getElem_mem hi)) (hb _ (List.getElem_mem hi)) k' p1 (by omega) hp1
        have hat : atD ds ((i : Nat) : Int) = some ds[i] := by rw [atD_nat]; exact List.getElem?_eq_getElem hi
        have c1 : cutD ds none (some ((i : Nat) : Int)) = ds.take i := by
          unfold cutD sEnd
          have : ¬ (((i : Nat) : Int) < 0) := by omega
          have h3 : min i ds.length = i := by omega
          simp only [if_neg this, Int.toNat_natCast, h3, List.drop_zero, Nat.sub_zero]
        have c2 : cutD ds (some (((i : Nat) : Int) + 1)) none = ds.drop (i + 1) := by
          unfold cutD sEnd
          have : ¬ (((i : Nat) : Int) + 1 < 0) := by omega
          have h2 : (((i : Nat) : Int) + 1).toNat = i + 1 := by omega
          have h3 : min (i + 1) ds.length = i + 1 := by omega
          simp only [if_neg this, h2, h3]
          rw [List.take_of_length_le (by rw [List.length_drop]; omega)]
        refine ⟨.tup (ds.set i d'), p2, ?_, hp2, ?_, ⟨by rw [List.length_set]; exact hlen, fun x hx => ?_⟩, fun x hx => ?_⟩
        · rw [Phi_run hl rfl]
          have hpos : 0 < ds.length := Nat.pos_of_ne_zero h0
          have l1 : (ds.take i).length + 1 ≤ line := by rw [List.length_take]; omega
          have l2 : (ds.take i ++ [d']).length + (ds.drop (i + 1)).length ≤ line := by simp; omega
          have a1 : binD .add (.tup (ds.take i)) (.tup [d']) = some (.val (.tup (ds.take i ++ [d']))) := bin_addT (by simpa using l1)
          have a2 : binD .add (.tup (ds.take i ++ [d'])) (.tup (ds.drop (i + 1))) = some (.val (.tup (ds.set i d'))) := by
            rw [bin_addT l2, set_cut ds i d' hi]
          simp [c_law_touched, startT, isTy, hpos, e, hat, e2, c1, c2, a1]
          rw [a2]
          rfl
        · unfold shp; exact shps_set ds i _ d' hall (List.getElem?_eq_getElem hi) hs
        · rcases List.mem_or_eq_of_mem_set hx with z | z
          · exact hall x z
          · subst z; exact hpl'
        · rcases List.mem_or_eq_of_mem_set hx with z | z
          · exact bnd_mono (by omega) n x (hb x z)
          · subst z; exact hb'
    | _ => exact hpl.elim
end PI

namespace PI
open PySem L2
theorem ofS_inj {a b : String} (h : Str.ofString a = Str.ofString b) : a = b := by
  rw [Str.ofString_eq_toList, Str.ofString_eq_toList] at h
  have h1 : a.toList.map Char.toNat = b.toList.map Char.toNat := by
    have := congrArg (fun s : Str => s.cps.toList) h
    simpa using this
  have h2 : a.toList = b.toList := List.map_inj_right (f := Char.toNat) (fun x y e => Char.toNat_inj.mp e) |>.mp h1
  exact String.toList_inj.mp h2
@[simp] theorem ofS_beq (a b : String) : (Str.ofString a == Str.ofString b) = (a == b) := by
  by_cases h : a = b
  · subst h; simp
  · have : Str.ofString a ≠ Str.ofString b := fun z => h (ofS_inj z)
    rw [beq_eq_false_iff_ne.mpr this, beq_eq_false_iff_ne.mpr h]
@[simp] theorem ofS_eq (a b : String) : (Str.ofString a = Str.ofString b) = (a = b) := by
  apply propext
  constructor
  · exact ofS_inj
  · intro h; rw [h]
example : (("line" : Str) == ("off" : Str)) = false := by simp
example : (("line" : Str) == ("line" : Str)) = true := by simp
end PI
namespace PI
open PySem L2
@[simp] theorem canLay_ofS (a : String) : PyData.canLay0 (.str (Str.ofString a)) = true := by
  rw [PyData.canLay0, Str.ofString_eq_toList]
  simp only [PyData.strOk]
  rw [Array.all_eq_true']
  intro x hx
  simp at hx
  obtain ⟨c, _, rfl⟩ := hx
  have := c.valid
  simp only [decide_eq_true_eq]
  rcases this with z | z
  · have : c.toNat < 0xd800 := z
    omega
  · have : c.toNat < 0x110000 := z.2
    omega
end PI
namespace PI
open PySem L2
@[simp] theorem cmp_inT (d : D) (ds : List D) : cmpD .isin d (.tup ds) = if dat 60 d && dats 60 ds then some (isMem d ds) else none := by cases d <;> rfl
@[simp] theorem cmp_inL (d : D) (ds : List D) : cmpD .isin d (.lst ds) = if dat 60 d && dats 60 ds then some (isMem d ds) else none := by cases d <;> rfl
@[simp] theorem cmp_ninT (d : D) (ds : List D) : cmpD .notin d (.tup ds) = if dat 60 d && dats 60 ds then some (!isMem d ds) else none := by cases d <;> rfl
@[simp] theorem cmp_ninL (d : D) (ds : List D) : cmpD .notin d (.lst ds) = if dat 60 d && dats 60 ds then some (!isMem d ds) else none := by cases d <;> rfl
@[simp] theorem isMem_nil (d : D) : isMem d [] = false := by rfl
@[simp] theorem isMem_cons (d e : D) (ds : List D) : isMem d (e :: ds) = (deq e d || isMem d ds) := by rfl
@[simp high] theorem deq_int' (i j : Int) : deq (.int i) (.int j) = decide (i = j) := by rw [deq_int]; rfl
end PI
namespace PI
open PySem L2
/-- for, by cases of a turn -/
theorem forR_loop {Φ : Fns} {t : MT} {b : MSs} (ds : List D) (I : Nat → S → Prop) (Q : R → Prop)
    (h : ∀ (i : Nat) (d : D) (s : S), ds[i]? = some d → I i s → ∃ s1, bindT t d s = some s1 ∧ ((∃ s2, exs Φ b s1 = .next s2 ∧ I (i + 1) s2) ∨ (∃ s2, exs Φ b s1 = .cnt s2 ∧ I (i + 1) s2) ∨ (∃ s2, exs Φ b s1 = .brk s2 ∧ Q (.next s2)) ∨ ∃ rv s2, exs Φ b s1 = .ret rv s2 ∧ Q (.ret rv s2)))
    (hd : ∀ s, I ds.length s → Q (.next s)) (s : S) (hs : I 0 s) : Q (forR Φ t b ds s) := by
  refine forR_inv ds I Q (fun i d s e hI => ?_) hd s hs
  obtain ⟨s1, e1, hh⟩ := h i d s e hI
  rw [e1]
  dsimp only
  rcases hh with ⟨s2, e2, q⟩ | ⟨s2, e2, q⟩ | ⟨s2, e2, q⟩ | ⟨rv, s2, e2, q⟩
  · rw [e2]; exact q
  · rw [e2]; exact q
  · rw [e2]; exact q
  · rw [e2]; exact q
/-- for whose turns all go on -/
theorem forR_all {Φ : Fns} {t : MT} {b : MSs} (ds : List D) (I : Nat → S → Prop)
    (h : ∀ (i : Nat) (d : D) (s : S), ds[i]? = some d → I i s → ∃ s1, bindT t d s = some s1 ∧ ∃ s2, exs Φ b s1 = .next s2 ∧ I (i + 1) s2)
    (s : S) (hs : I 0 s) : ∃ s', forR Φ t b ds s = .next s' ∧ I ds.length s' := by
  refine forR_loop ds I (fun r => ∃ s', r = .next s' ∧ I ds.length s') (fun i d s e hI => ?_) (fun s hI => ⟨s, rfl, hI⟩) s hs
  obtain ⟨s1, e1, s2, e2, q⟩ := h i d s e hI
  exact ⟨s1, e1, .inl ⟨s2, e2, q⟩⟩
mutual
theorem shps_len : ∀ (a b : List D), shps a b → a.length = b.length
  | [], [], _ => rfl
  | x :: a, y :: b, h => by unfold shps at h; rw [List.length_cons, List.length_cons, shps_len a b h.2]
  | [], _ :: _, h => by unfold shps at h; exact h.elim
  | _ :: _, [], h => by unfold shps at h; exact h.elim
end
end PI
namespace PI
open PySem L2
theorem ofS_len (a : String) : (Str.ofString a).length = a.length := by
  rw [Str.ofString_eq_toList]; simp [Str.length, String.length_toList]
theorem ofS_app (a b : String) : Str.ofString a ++ Str.ofString b = Str.ofString (a ++ b) := by
  rw [Str.ofString_eq_toList, Str.ofString_eq_toList, Str.ofString_eq_toList]
  show Str.append _ _ = _
  simp [Str.append]
theorem bin_addS (a b : String) (h : a.length + b.length ≤ line) : binD .add (.str (Str.ofString a)) (.str (Str.ofString b)) = some (.val (.str (Str.ofString (a ++ b)))) := by
  unfold binD; dsimp only; rw [ofS_len, ofS_len, if_pos h, ofS_app]
/-- the field of the error that is held -/
theorem smallD_str (a : String) (h : a.length ≤ 1000) : smallD (.str (Str.ofString a)) = true := by
  show decide ((Str.ofString a).length ≤ 1000) = true
  rw [ofS_len]; exact decide_eq_true h
end PI
namespace PI
open PySem L2
@[simp] theorem cmp_neT (a b : List D) : cmpD .ne (.tup a) (.tup b) = if dats 59 a && dats 59 b then some (!deqs a b) else none := by rfl
@[simp] theorem cmp_eqT (a b : List D) : cmpD .eq (.tup a) (.tup b) = if dats 59 a && dats 59 b then some (deqs a b) else none := by rfl
@[simp] theorem cmp_neL (a b : List D) : cmpD .ne (.lst a) (.lst b) = if dats 59 a && dats 59 b then some (!deqs a b) else none := by rfl
@[simp] theorem cmp_eqL (a b : List D) : cmpD .eq (.lst a) (.lst b) = if dats 59 a && dats 59 b then some (deqs a b) else none := by rfl
end PI

namespace K44
open PySem PySem.Spec PyProof.Rows L2 PI
def top (i : Nat) : Stmt := PySem.Challenge.pw_wholeproof_k44_whole_lines_corners_and_g.main.body.getD i (.Pass ⟨0, 0, 0, 0⟩)
def f__signed : TxtDef := ⟨"_signed", [("number" : Str), ("part" : Str)], 2, top 5, 
  (.cons (.ite (.cmp (.var 0) (.cons .lt (.cst (.int 0)) .nil)) (.cons (.ret (.bin .sub (.cst (.int 0)) (.var 1)))
  .nil) .nil)
  (.cons (.ret (.var 1))
  .nil))⟩
def f_shared : TxtDef := ⟨"shared", [("a" : Str), ("b" : Str), ("old" : Str), ("new" : Str), ("times" : Str), ("rest" : Str), ("one" : Str), ("other" : Str)], 2, top 6, 
  (.cons (.set (.name 2) (.tup (.cons (.blt .abs (.cons (.var 0) .nil)) (.cons (.cst (.int 1)) (.cons (.cst (.int 0)) .nil)))))
  (.cons (.set (.name 3) (.tup (.cons (.blt .abs (.cons (.var 1) .nil)) (.cons (.cst (.int 0)) (.cons (.cst (.int 1)) .nil)))))
  (.cons (.while (.cmp (.idx (.var 3) (.cst (.int 0))) (.cons .ne (.cst (.int 0)) .nil)) (.cons (.set (.name 4) (.bin .fdiv (.idx (.var 2) (.cst (.int 0))) (.idx (.var 3) (.cst (.int 0)))))
  (.cons (.set (.name 5) (.blt .tuple (.cons (.lc (.bin .sub (.var 6) (.bin .mul (.var 4) (.var 7))) (.tup [6, 7]) (.zip (.var 2) (.var 3)) .none) .nil)))
  (.cons (.par 2 3 (.var 3) (.var 5))
  .nil))))
  (.cons (.ret (.tup (.cons (.cst (.str "shared")) (.cons (.var 0) (.cons (.var 1) (.cons (.idx (.var 2) (.cst (.int 0))) (.cons (.call "_signed" (.cons (.var 0) (.cons (.idx (.var 2) (.cst (.int 1))) .nil))) (.cons (.call "_signed" (.cons (.var 1) (.cons (.idx (.var 2) (.cst (.int 2))) .nil))) .nil))))))))
  .nil))))⟩
def f_greatest_shared : TxtDef := ⟨"greatest_shared", [("a" : Str), ("b" : Str)], 2, top 7, 
  (.cons (.set (.name 0) (.blt .abs (.cons (.var 0) .nil)))
  (.cons (.set (.name 1) (.blt .abs (.cons (.var 1) .nil)))
  (.cons (.while (.cmp (.var 1) (.cons .ne (.cst (.int 0)) .nil)) (.cons (.par 0 1 (.var 1) (.bin .mod (.var 0) (.var 1)))
  .nil))
  (.cons (.ret (.var 0))
  .nil))))⟩
def f_raised : TxtDef := ⟨"raised", [("base" : Str), ("exponent" : Str), ("result" : Str)], 2, top 8, 
  (.cons (.set (.name 2) (.cst (.int 1)))
  (.cons (.while (.cmp (.var 1) (.cons .gt (.cst (.int 0)) .nil)) (.cons (.ite (.cmp (.bin .mod (.var 1) (.cst (.int 2))) (.cons .eq (.cst (.int 1)) .nil)) (.cons (.set (.name 2) (.bin .mul (.var 2) (.var 0)))
  .nil) .nil)
  (.cons (.set (.name 1) (.bin .fdiv (.var 1) (.cst (.int 2))))
  (.cons (.ite (.cmp (.var 1) (.cons .gt (.cst (.int 0)) .nil)) (.cons (.set (.name 0) (.bin .mul (.var 0) (.var 0)))
  .nil) .nil)
  .nil))))
  (.cons (.ret (.var 2))
  .nil)))⟩
def f_root : TxtDef := ⟨"root", [("n" : Str), ("k" : Str), ("low" : Str), ("high" : Str), ("middle" : Str)], 2, top 9, 
  (.cons (.ite (.bop false (.cons (.cmp (.var 0) (.cons .lt (.cst (.int 0)) .nil)) (.cons (.cmp (.var 1) (.cons .lt (.cst (.int 1)) .nil)) .nil))) (.cons (.raise "BadNumber" 0 (.cst (.str "number")))
  .nil) .nil)
  (.cons (.set (.name 2) (.cst (.int 0)))
  (.cons (.set (.name 3) (.cst (.int 1)))
  (.cons (.while (.cmp (.call "raised" (.cons (.var 3) (.cons (.var 1) .nil))) (.cons .le (.var 0) .nil)) (.cons (.set (.name 3) (.bin .mul (.cst (.int 2)) (.var 3)))
  .nil))
  (.cons (.while (.cmp (.bin .sub (.var 3) (.var 2)) (.cons .gt (.cst (.int 1)) .nil)) (.cons (.set (.name 4) (.bin .fdiv (.bin .add (.var 2) (.var 3)) (.cst (.int 2))))
  (.cons (.ite (.cmp (.call "raised" (.cons (.var 4) (.cons (.var 1) .nil))) (.cons .le (.var 0) .nil)) (.cons (.set (.name 2) (.var 4))
  .nil) (.cons (.set (.name 3) (.var 4))
  .nil))
  .nil)))
  (.cons (.ret (.var 2))
  .nil))))))⟩
def f_divides : TxtDef := ⟨"divides", [("d" : Str), ("n" : Str)], 2, top 10, 
  (.cons (.ite (.cmp (.var 0) (.cons .eq (.cst (.int 0)) .nil)) (.cons (.ret (.cmp (.var 1) (.cons .eq (.cst (.int 0)) .nil)))
  .nil) .nil)
  (.cons (.ret (.cmp (.bin .mod (.var 1) (.var 0)) (.cons .eq (.cst (.int 0)) .nil)))
  .nil))⟩
def f_line : TxtDef := ⟨"line", [("a" : Str), ("b" : Str), ("c" : Str), ("_" : Str), ("g" : Str), ("x" : Str), ("y" : Str)], 3, top 12, 
  (.cons (.ite (.bop true (.cons (.cmp (.var 0) (.cons .eq (.cst (.int 0)) .nil)) (.cons (.cmp (.var 1) (.cons .eq (.cst (.int 0)) .nil)) .nil))) (.cons (.raise "BadNumber" 0 (.cst (.str "number")))
  .nil) .nil)
  (.cons (.set (.tup [3, 3, 3, 4, 5, 6]) (.call "shared" (.cons (.var 0) (.cons (.var 1) .nil))))
  (.cons (.ite (.cmp (.bin .mod (.var 2) (.var 4)) (.cons .ne (.cst (.int 0)) .nil)) (.cons (.ret (.tup (.cons (.cst (.str "off")) (.cons (.var 0) (.cons (.var 1) (.cons (.var 2) (.cons (.var 4) .nil)))))))
  .nil) .nil)
  (.cons (.ret (.tup (.cons (.cst (.str "line")) (.cons (.var 0) (.cons (.var 1) (.cons (.var 2) (.cons (.bin .mul (.bin .fdiv (.var 2) (.var 4)) (.var 5)) (.cons (.bin .mul (.bin .fdiv (.var 2) (.var 4)) (.var 6)) (.cons (.bin .fdiv (.var 1) (.var 4)) (.cons (.bin .sub (.cst (.int 0)) (.bin .fdiv (.var 0) (.var 4))) .nil))))))))))
  .nil))))⟩
def f_count_line : TxtDef := ⟨"count_line", [("a" : Str), ("b" : Str), ("c" : Str), ("claim" : Str), ("low" : Str), ("high" : Str), ("x" : Str), ("y" : Str), ("u" : Str), ("v" : Str)], 3, top 13, 
  (.cons (.ite (.bop false (.cons (.cmp (.var 0) (.cons .lt (.cst (.int 1)) .nil)) (.cons (.cmp (.var 1) (.cons .lt (.cst (.int 1)) .nil)) (.cons (.cmp (.var 2) (.cons .lt (.cst (.int 0)) .nil)) .nil)))) (.cons (.raise "BadNumber" 0 (.cst (.str "number")))
  .nil) .nil)
  (.cons (.set (.name 3) (.call "line" (.cons (.var 0) (.cons (.var 1) (.cons (.var 2) .nil)))))
  (.cons (.ite (.cmp (.idx (.var 3) (.cst (.int 0))) (.cons .eq (.cst (.str "off")) .nil)) (.cons (.ret (.cst (.int 0)))
  .nil) .nil)
  (.cons (.set (.tup [6, 7, 8, 9]) (.slc (.var 3) (.some (.cst (.int 4))) .none))
  (.cons (.set (.name 4) (.bin .sub (.cst (.int 0)) (.bin .fdiv (.var 6) (.var 8))))
  (.cons (.set (.name 5) (.bin .fdiv (.var 7) (.bin .sub (.cst (.int 0)) (.var 9))))
  (.cons (.ret (.blt .max2 (.cons (.cst (.int 0)) (.cons (.bin .add (.bin .sub (.var 5) (.var 4)) (.cst (.int 1))) .nil))))
  .nil)))))))⟩
def f_line_right : TxtDef := ⟨"line_right", [("claim" : Str), ("a" : Str), ("b" : Str), ("c" : Str), ("x" : Str), ("y" : Str), ("u" : Str), ("v" : Str)], 1, top 14, 
  (.cons (.set (.tup [1, 2, 3]) (.slc (.var 0) (.some (.cst (.int 1))) (.some (.cst (.int 4)))))
  (.cons (.ite (.bop true (.cons (.cmp (.var 1) (.cons .eq (.cst (.int 0)) .nil)) (.cons (.cmp (.var 2) (.cons .eq (.cst (.int 0)) .nil)) .nil))) (.cons (.ret (.cst (.bl false)))
  .nil) .nil)
  (.cons (.ite (.cmp (.idx (.var 0) (.cst (.int 0))) (.cons .eq (.cst (.str "off")) .nil)) (.cons (.ret (.bop true (.cons (.call "divides" (.cons (.idx (.var 0) (.cst (.int 4))) (.cons (.var 1) .nil))) (.cons (.call "divides" (.cons (.idx (.var 0) (.cst (.int 4))) (.cons (.var 2) .nil))) (.cons (.not (.call "divides" (.cons (.idx (.var 0) (.cst (.int 4))) (.cons (.var 3) .nil)))) .nil)))))
  .nil) .nil)
  (.cons (.set (.tup [4, 5, 6, 7]) (.slc (.var 0) (.some (.cst (.int 4))) .none))
  (.cons (.ret (.bop true (.cons (.cmp (.bin .add (.bin .mul (.var 1) (.var 4)) (.bin .mul (.var 2) (.var 5))) (.cons .eq (.var 3) .nil)) (.cons (.cmp (.bin .add (.bin .mul (.var 1) (.var 6)) (.bin .mul (.var 2) (.var 7))) (.cons .eq (.cst (.int 0)) .nil)) (.cons (.cmp (.call "greatest_shared" (.cons (.var 6) (.cons (.var 7) .nil))) (.cons .eq (.cst (.int 1)) .nil)) .nil)))))
  .nil)))))⟩
def f__checked : TxtDef := ⟨"_checked", [("n" : Str), ("most" : Str)], 2, top 17, 
  (.cons (.ite (.cmp (.var 0) (.cons .lt (.cst (.int 0)) .nil)) (.cons (.raise "BadNumber" 0 (.cst (.str "number")))
  .nil) .nil)
  (.cons (.ite (.cmp (.var 0) (.cons .gt (.var 1) .nil)) (.cons (.raise "TooLarge" 1 (.cst (.str "number")))
  .nil) .nil)
  .nil))⟩
def f__seven : TxtDef := ⟨"_seven", [("n" : Str), ("a" : Str)], 1, top 18, 
  (.cons (.set (.name 1) (.cst (.int 0)))
  (.cons (.while (.bop true (.cons (.cmp (.var 0) (.cons .gt (.cst (.int 0)) .nil)) (.cons (.cmp (.bin .mod (.var 0) (.cst (.int 4))) (.cons .eq (.cst (.int 0)) .nil)) .nil))) (.cons (.set (.name 0) (.bin .fdiv (.var 0) (.cst (.int 4))))
  (.cons (.aug 1 .add (.cst (.int 1)))
  .nil)))
  (.cons (.ite (.cmp (.bin .mod (.var 0) (.cst (.int 8))) (.cons .eq (.cst (.int 7)) .nil)) (.cons (.ret (.tup (.cons (.var 1) (.cons (.bin .fdiv (.var 0) (.cst (.int 8))) .nil))))
  .nil) .nil)
  (.cons (.ret (.cst .non))
  .nil))))⟩
def f_three_squares : TxtDef := ⟨"three_squares", [("n" : Str), ("seven" : Str), ("z" : Str), ("rest" : Str), ("y" : Str), ("x" : Str)], 1, top 19, 
  (.cons (.expr (.call "_checked" (.cons (.var 0) (.cons (.glb "MOST_SUM" 1000000) .nil))))
  (.cons (.set (.name 1) (.call "_seven" (.cons (.var 0) .nil)))
  (.cons (.ite (.cmp (.var 1) (.cons .isnot (.cst .non) .nil)) (.cons (.ret (.bin .add (.tup (.cons (.cst (.str "notthree")) (.cons (.var 0) .nil))) (.var 1)))
  .nil) .nil)
  (.cons (.set (.name 2) (.call "root" (.cons (.var 0) (.cons (.cst (.int 2)) .nil))))
  (.cons (.while (.cst (.bl true)) (.cons (.set (.name 3) (.bin .sub (.var 0) (.bin .mul (.var 2) (.var 2))))
  (.cons (.set (.name 4) (.call "root" (.cons (.var 3) (.cons (.cst (.int 2)) .nil))))
  (.cons (.while (.cmp (.bin .mul (.bin .mul (.cst (.int 2)) (.var 4)) (.var 4)) (.cons .ge (.var 3) .nil)) (.cons (.set (.name 5) (.call "root" (.cons (.bin .sub (.var 3) (.bin .mul (.var 4) (.var 4))) (.cons (.cst (.int 2)) .nil))))
  (.cons (.ite (.cmp (.bin .add (.bin .mul (.var 5) (.var 5)) (.bin .mul (.var 4) (.var 4))) (.cons .eq (.var 3) .nil)) (.cons (.ret (.bin .add (.tup (.cons (.cst (.str "three")) (.cons (.var 0) .nil))) (.blt .tuple (.cons (.blt .sorted (.cons (.lst (.cons (.var 5) (.cons (.var 4) (.cons (.var 2) .nil)))) .nil)) .nil))))
  .nil) .nil)
  (.cons (.set (.name 4) (.bin .sub (.var 4) (.cst (.int 1))))
  .nil))))
  (.cons (.set (.name 2) (.bin .sub (.var 2) (.cst (.int 1))))
  .nil)))))
  .nil)))))⟩
def f__number : TxtDef := ⟨"_number", [("k" : Str), ("i" : Str)], 2, top 23, 
  (.cons (.ret (.bin .fdiv (.bin .sub (.bin .mul (.bin .mul (.bin .sub (.var 0) (.cst (.int 2))) (.var 1)) (.var 1)) (.bin .mul (.bin .sub (.var 0) (.cst (.int 4))) (.var 1))) (.cst (.int 2))))
  .nil)⟩
def f_corner_number : TxtDef := ⟨"corner_number", [("k" : Str), ("i" : Str)], 2, top 24, 
  (.cons (.ite (.bop false (.cons (.cmp (.var 0) (.cons .lt (.cst (.int 3)) .nil)) (.cons (.cmp (.var 1) (.cons .lt (.cst (.int 0)) .nil)) .nil))) (.cons (.raise "BadNumber" 0 (.cst (.str "number")))
  .nil) .nil)
  (.cons (.ret (.call "_number" (.cons (.var 0) (.cons (.var 1) .nil))))
  .nil))⟩
def f_corner : TxtDef := ⟨"corner", [("k" : Str), ("n" : Str), ("low" : Str), ("high" : Str), ("middle" : Str)], 2, top 25, 
  (.cons (.ite (.bop false (.cons (.cmp (.var 0) (.cons .lt (.cst (.int 3)) .nil)) (.cons (.cmp (.var 1) (.cons .lt (.cst (.int 0)) .nil)) .nil))) (.cons (.raise "BadNumber" 0 (.cst (.str "number")))
  .nil) .nil)
  (.cons (.set (.name 2) (.cst (.int 0)))
  (.cons (.set (.name 3) (.cst (.int 1)))
  (.cons (.while (.cmp (.call "_number" (.cons (.var 0) (.cons (.var 3) .nil))) (.cons .le (.var 1) .nil)) (.cons (.set (.name 3) (.bin .mul (.cst (.int 2)) (.var 3)))
  .nil))
  (.cons (.while (.cmp (.bin .sub (.var 3) (.var 2)) (.cons .gt (.cst (.int 1)) .nil)) (.cons (.set (.name 4) (.bin .fdiv (.bin .add (.var 2) (.var 3)) (.cst (.int 2))))
  (.cons (.ite (.cmp (.call "_number" (.cons (.var 0) (.cons (.var 4) .nil))) (.cons .le (.var 1) .nil)) (.cons (.set (.name 2) (.var 4))
  .nil) (.cons (.set (.name 3) (.var 4))
  .nil))
  .nil)))
  (.cons (.ite (.cmp (.call "_number" (.cons (.var 0) (.cons (.var 2) .nil))) (.cons .eq (.var 1) .nil)) (.cons (.ret (.tup (.cons (.cst (.str "corner")) (.cons (.var 0) (.cons (.var 1) (.cons (.var 2) .nil))))))
  .nil) .nil)
  (.cons (.ret (.tup (.cons (.cst (.str "nocorner")) (.cons (.var 0) (.cons (.var 1) (.cons (.var 2) .nil))))))
  .nil)))))))⟩
def f_triangles : TxtDef := ⟨"triangles", [("n" : Str), ("squares" : Str), ("side" : Str)], 1, top 26, 
  (.cons (.ite (.cmp (.var 0) (.cons .lt (.cst (.int 0)) .nil)) (.cons (.raise "BadNumber" 0 (.cst (.str "number")))
  .nil) .nil)
  (.cons (.ite (.cmp (.var 0) (.cons .gt (.glb "MOST_TRIANGLES" 100000) .nil)) (.cons (.raise "TooLarge" 1 (.cst (.str "number")))
  .nil) .nil)
  (.cons (.set (.name 1) (.slc (.call "three_squares" (.cons (.bin .add (.bin .mul (.cst (.int 8)) (.var 0)) (.cst (.int 3))) .nil)) (.some (.cst (.int 2))) .none))
  (.cons (.ret (.bin .add (.tup (.cons (.cst (.str "triangles")) (.cons (.var 0) .nil))) (.blt .tuple (.cons (.lc (.bin .fdiv (.bin .sub (.var 2) (.cst (.int 1))) (.cst (.int 2))) (.name 2) (.seq (.var 1)) .none) .nil))))
  .nil))))⟩
def f__rests : TxtDef := ⟨"_rests", [("p" : Str), ("whole" : Str), ("found" : Str)], 1, top 27, 
  (.cons (.set (.name 1) (.bin .sub (.call "raised" (.cons (.cst (.int 2)) (.cons (.var 0) .nil))) (.cst (.int 1))))
  (.cons (.set (.name 2) (.lst (.cons (.bin .mod (.cst (.int 4)) (.var 1)) .nil)))
  (.cons (.while (.cmp (.blt .len (.cons (.var 2) .nil)) (.cons .lt (.bin .sub (.var 0) (.cst (.int 1))) .nil)) (.cons (.app (.var 2) (.bin .mod (.bin .sub (.bin .pow (.idx (.var 2) (.neg (.cst (.int 1)))) (.cst (.int 2))) (.cst (.int 2))) (.var 1)))
  .nil))
  (.cons (.ret (.blt .tuple (.cons (.var 2) .nil)))
  .nil))))⟩
def f_mersenne : TxtDef := ⟨"mersenne", [("p" : Str), ("rests" : Str)], 1, top 28, 
  (.cons (.ite (.bop false (.cons (.cmp (.var 0) (.cons .lt (.cst (.int 3)) .nil)) (.cons (.cmp (.bin .mod (.var 0) (.cst (.int 2))) (.cons .eq (.cst (.int 0)) .nil)) .nil))) (.cons (.raise "BadNumber" 0 (.cst (.str "number")))
  .nil) .nil)
  (.cons (.ite (.cmp (.var 0) (.cons .gt (.glb "MOST_MERSENNE" 500) .nil)) (.cons (.raise "TooLarge" 1 (.cst (.str "number")))
  .nil) .nil)
  (.cons (.set (.name 1) (.call "_rests" (.cons (.var 0) .nil)))
  (.cons (.ite (.cmp (.idx (.var 1) (.neg (.cst (.int 1)))) (.cons .eq (.cst (.int 0)) .nil)) (.cons (.ret (.tup (.cons (.cst (.str "mersenne")) (.cons (.var 0) (.cons (.var 1) .nil)))))
  .nil) .nil)
  (.cons (.ret (.tup (.cons (.cst (.str "nomersenne")) (.cons (.var 0) (.cons (.var 1) .nil)))))
  .nil)))))⟩
def f_corner_right : TxtDef := ⟨"corner_right", [("claim" : Str), ("form" : Str), ("k" : Str), ("n" : Str), ("i" : Str), ("_" : Str), ("x" : Str), ("y" : Str), ("z" : Str), ("p" : Str), ("rests" : Str)], 1, top 29, 
  (.cons (.ite (.cmp (.idx (.var 0) (.cst (.int 0))) (.cons .eq (.cst (.str "triangles")) .nil)) (.cons (.set (.tup [5, 3, 6, 7, 8]) (.var 0))
  (.cons (.ret (.bop true (.cons (.cmp (.cst (.int 0)) (.cons .le (.var 6) (.cons .le (.var 7) (.cons .le (.var 8) .nil)))) (.cons (.cmp (.bin .add (.bin .add (.call "_number" (.cons (.cst (.int 3)) (.cons (.var 6) .nil))) (.call "_number" (.cons (.cst (.int 3)) (.cons (.var 7) .nil)))) (.call "_number" (.cons (.cst (.int 3)) (.cons (.var 8) .nil)))) (.cons .eq (.var 3) .nil)) .nil))))
  .nil)) .nil)
  (.cons (.ite (.cmp (.idx (.var 0) (.cst (.int 0))) (.cons .isin (.tup (.cons (.cst (.str "mersenne")) (.cons (.cst (.str "nomersenne")) .nil))) .nil)) (.cons (.set (.tup [5, 9, 10]) (.var 0))
  (.cons (.ite (.bop false (.cons (.cmp (.var 9) (.cons .lt (.cst (.int 3)) .nil)) (.cons (.cmp (.bin .mod (.var 9) (.cst (.int 2))) (.cons .eq (.cst (.int 0)) .nil)) (.cons (.cmp (.blt .len (.cons (.var 10) .nil)) (.cons .ne (.bin .sub (.var 9) (.cst (.int 1))) .nil)) (.cons (.cmp (.blt .tuple (.cons (.var 10) .nil)) (.cons .ne (.call "_rests" (.cons (.var 9) .nil)) .nil)) .nil))))) (.cons (.ret (.cst (.bl false)))
  .nil) .nil)
  (.cons (.ret (.cmp (.cmp (.idx (.var 0) (.cst (.int 0))) (.cons .eq (.cst (.str "mersenne")) .nil)) (.cons .eq (.cmp (.idx (.var 10) (.neg (.cst (.int 1)))) (.cons .eq (.cst (.int 0)) .nil)) .nil)))
  .nil))) .nil)
  (.cons (.set (.tup [1, 2, 3, 4]) (.var 0))
  (.cons (.ite (.bop false (.cons (.cmp (.var 2) (.cons .lt (.cst (.int 3)) .nil)) (.cons (.cmp (.var 4) (.cons .lt (.cst (.int 0)) .nil)) .nil))) (.cons (.ret (.cst (.bl false)))
  .nil) .nil)
  (.cons (.ite (.cmp (.var 1) (.cons .eq (.cst (.str "corner")) .nil)) (.cons (.ret (.cmp (.call "_number" (.cons (.var 2) (.cons (.var 4) .nil))) (.cons .eq (.var 3) .nil)))
  .nil) .nil)
  (.cons (.ret (.cmp (.call "_number" (.cons (.var 2) (.cons (.var 4) .nil))) (.cons .lt (.var 3) (.cons .lt (.call "_number" (.cons (.var 2) (.cons (.bin .add (.var 4) (.cst (.int 1))) .nil))) .nil))))
  .nil))))))⟩
def f__law_draw : TxtDef := ⟨"_law_draw", [("pool" : Str), ("size" : Str), ("cell" : Str), ("value" : Str)], 2, top 32, 
  (.cons (.ite (.bop true (.cons (.cmp (.idx (.var 0) (.cst (.int 2))) (.cons .le (.cst (.int 0)) .nil)) (.cons (.cmp (.idx (.var 0) (.cst (.int 4))) (.cons .le (.cst (.int 0)) .nil)) (.cons (.cmp (.idx (.var 0) (.cst (.int 1))) (.cons .lt (.blt .len (.cons (.idx (.var 0) (.cst (.int 0))) .nil)) .nil)) .nil)))) (.cons (.set (.name 2) (.idx (.idx (.var 0) (.cst (.int 0))) (.idx (.var 0) (.cst (.int 1)))))
  (.cons (.seti (.var 0) (.cst (.int 1)) (.bin .add (.idx (.var 0) (.cst (.int 1))) (.cst (.int 1))))
  (.cons (.seti (.var 0) (.cst (.int 3)) (.bin .mod (.blt .int (.cons (.bin .add (.bin .mul (.idx (.var 0) (.cst (.int 3))) (.cst (.int 31))) (.var 2)) .nil)) (.cst (.int 2147483647))))
  (.cons (.seti (.var 0) (.cst (.int 4)) (.cst (.int 7)))
  (.cons (.ite (.cmp (.var 2) (.cons .ge (.bin .pow (.cst (.int 10)) (.cst (.int 18))) .nil)) (.cons (.seti (.var 0) (.cst (.int 2)) (.var 2))
  .nil) .nil)
  .nil))))) .nil)
  (.cons (.ite (.cmp (.idx (.var 0) (.cst (.int 2))) (.cons .gt (.cst (.int 0)) .nil)) (.cons (.set (.name 3) (.bin .mod (.blt .int (.cons (.idx (.var 0) (.cst (.int 2))) .nil)) (.var 1)))
  (.cons (.seti (.var 0) (.cst (.int 2)) (.bin .fdiv (.idx (.var 0) (.cst (.int 2))) (.var 1)))
  (.cons (.seti (.var 0) (.cst (.int 4)) (.cst (.int 0)))
  (.cons (.ret (.var 3))
  .nil)))) .nil)
  (.cons (.seti (.var 0) (.cst (.int 4)) (.bin .sub (.idx (.var 0) (.cst (.int 4))) (.cst (.int 1))))
  (.cons (.seti (.var 0) (.cst (.int 3)) (.bin .mod (.blt .int (.cons (.bin .add (.bin .mul (.idx (.var 0) (.cst (.int 3))) (.cst (.int 48271))) (.cst (.int 12345))) .nil)) (.cst (.int 2147483647))))
  (.cons (.ret (.bin .mod (.bin .mod (.blt .int (.cons (.bin .add (.bin .mul (.idx (.var 0) (.cst (.int 3))) (.cst (.int 69621))) (.cst (.int 7919))) .nil)) (.cst (.int 2147483647))) (.var 1)))
  .nil)))))⟩
def f__law_gcd : TxtDef := ⟨"_law_gcd", [("one" : Str), ("two" : Str), ("a" : Str), ("b" : Str), ("k" : Str)], 2, top 33, 
  (.cons (.set (.name 2) (.blt .abs (.cons (.var 0) .nil)))
  (.cons (.set (.name 3) (.blt .abs (.cons (.var 1) .nil)))
  (.cons (.for (.name 4) (.rng1 (.bin .add (.cst (.int 4000)) (.bin .mul (.cst (.int 2)) (.blt .bits (.cons (.var 3) .nil))))) (.cons (.ite (.cmp (.var 3) (.cons .eq (.cst (.int 0)) .nil)) (.cons .brk
  .nil) .nil)
  (.cons (.par 2 3 (.var 3) (.bin .mod (.blt .int (.cons (.var 2) .nil)) (.var 3)))
  .nil)))
  (.cons (.ret (.var 2))
  .nil))))⟩
def f__law_same : TxtDef := ⟨"_law_same", [("actual" : Str), ("due" : Str), ("k" : Str)], 2, top 34, 
  (.cons (.ite (.bop false (.cons (.isi (.var 1) .tup) (.cons (.isi (.var 1) .lst) .nil))) (.cons (.ite (.bop false (.cons (.cmp (.isi (.var 1) .tup) (.cons .ne (.isi (.var 0) .tup) .nil)) (.cons (.cmp (.isi (.var 1) .lst) (.cons .ne (.isi (.var 0) .lst) .nil)) .nil))) (.cons (.ret (.cst (.bl false)))
  .nil) .nil)
  (.cons (.ite (.cmp (.blt .len (.cons (.var 0) .nil)) (.cons .ne (.blt .len (.cons (.var 1) .nil)) .nil)) (.cons (.ret (.cst (.bl false)))
  .nil) .nil)
  (.cons (.for (.name 2) (.rng1 (.blt .len (.cons (.var 1) .nil))) (.cons (.ite (.not (.call "_law_same" (.cons (.idx (.var 0) (.var 2)) (.cons (.idx (.var 1) (.var 2)) .nil)))) (.cons (.ret (.cst (.bl false)))
  .nil) .nil)
  .nil))
  (.cons (.ret (.cst (.bl true)))
  .nil)))) .nil)
  (.cons (.ite (.bop false (.cons (.cmp (.var 1) (.cons .is (.cst .non) .nil)) (.cons (.isi (.var 1) .bl) .nil))) (.cons (.ret (.bop true (.cons (.cmp (.cmp (.var 0) (.cons .is (.cst .non) .nil)) (.cons .eq (.cmp (.var 1) (.cons .is (.cst .non) .nil)) .nil)) (.cons (.bop false (.cons (.cmp (.var 1) (.cons .is (.cst .non) .nil)) (.cons (.isi (.var 0) .bl) .nil))) (.cons (.cmp (.var 0) (.cons .eq (.var 1) .nil)) .nil)))))
  .nil) .nil)
  (.cons (.ite (.isi (.var 1) .int) (.cons (.ret (.bop true (.cons (.isi (.var 0) .int) (.cons (.not (.isi (.var 0) .bl)) (.cons (.cmp (.var 0) (.cons .eq (.var 1) .nil)) .nil)))))
  .nil) .nil)
  (.cons (.ret (.bop true (.cons (.isi (.var 0) .str) (.cons (.cmp (.var 0) (.cons .eq (.var 1) .nil)) .nil))))
  .nil))))⟩
def f__law_divides : TxtDef := ⟨"_law_divides", [("d" : Str), ("n" : Str)], 2, top 35, 
  (.cons (.ite (.cmp (.var 0) (.cons .eq (.cst (.int 0)) .nil)) (.cons (.ret (.cmp (.var 1) (.cons .eq (.cst (.int 0)) .nil)))
  .nil) .nil)
  (.cons (.ret (.cmp (.bin .mod (.blt .int (.cons (.var 1) .nil)) (.var 0)) (.cons .eq (.cst (.int 0)) .nil)))
  .nil))⟩
def f__law_some : TxtDef := ⟨"_law_some", [("pool" : Str), ("way" : Str)], 1, top 36, 
  (.cons (.set (.name 1) (.call "_law_draw" (.cons (.var 0) (.cons (.cst (.int 8)) .nil))))
  (.cons (.ite (.cmp (.var 1) (.cons .lt (.cst (.int 4)) .nil)) (.cons (.ret (.call "_law_draw" (.cons (.var 0) (.cons (.cst (.int 40)) .nil))))
  .nil) .nil)
  (.cons (.ite (.cmp (.var 1) (.cons .lt (.cst (.int 6)) .nil)) (.cons (.ret (.call "_law_draw" (.cons (.var 0) (.cons (.cst (.int 3000)) .nil))))
  .nil) .nil)
  (.cons (.ite (.cmp (.var 1) (.cons .eq (.cst (.int 6)) .nil)) (.cons (.ret (.call "_law_draw" (.cons (.var 0) (.cons (.bin .pow (.cst (.int 10)) (.cst (.int 6))) .nil))))
  .nil) .nil)
  (.cons (.ret (.call "_law_draw" (.cons (.var 0) (.cons (.bin .pow (.cst (.int 10)) (.cst (.int 10))) .nil))))
  .nil)))))⟩
def f__law_sign : TxtDef := ⟨"_law_sign", [("pool" : Str), ("n" : Str)], 2, top 37, 
  (.cons (.ret (.bin .mul (.var 1) (.bin .sub (.cst (.int 1)) (.bin .mul (.cst (.int 2)) (.call "_law_draw" (.cons (.var 0) (.cons (.cst (.int 2)) .nil)))))))
  .nil)⟩
def f__law_huge : TxtDef := ⟨"_law_huge", [("pool" : Str)], 1, top 38, 
  (.cons (.ret (.call "_law_sign" (.cons (.var 0) (.cons (.bin .add (.bin .mul (.call "_law_draw" (.cons (.var 0) (.cons (.bin .pow (.cst (.int 10)) (.cst (.int 20))) .nil))) (.call "_law_draw" (.cons (.var 0) (.cons (.bin .pow (.cst (.int 10)) (.cst (.int 20))) .nil)))) (.call "_law_draw" (.cons (.var 0) (.cons (.bin .pow (.cst (.int 10)) (.cst (.int 20))) .nil)))) .nil))))
  .nil)⟩
def f__law_touched : TxtDef := ⟨"_law_touched", [("pool" : Str), ("part" : Str), ("at" : Str)], 2, top 39, 
  (.cons (.ite (.bop true (.cons (.isi (.var 1) .tup) (.cons (.cmp (.blt .len (.cons (.var 1) .nil)) (.cons .gt (.cst (.int 0)) .nil)) .nil))) (.cons (.set (.name 2) (.call "_law_draw" (.cons (.var 0) (.cons (.blt .len (.cons (.var 1) .nil)) .nil))))
  (.cons (.ret (.bin .add (.bin .add (.slc (.var 1) .none (.some (.var 2))) (.tup (.cons (.call "_law_touched" (.cons (.var 0) (.cons (.idx (.var 1) (.var 2)) .nil))) .nil))) (.slc (.var 1) (.some (.bin .add (.var 2) (.cst (.int 1)))) .none)))
  .nil)) .nil)
  (.cons (.ite (.isi (.var 1) .int) (.cons (.ret (.bin .add (.var 1) (.idx (.tup (.cons (.cst (.int 1)) (.cons (.bin .sub (.cst (.int 0)) (.cst (.int 1))) (.cons (.cst (.int 2)) (.cons (.bin .sub (.cst (.int 0)) (.var 1)) (.cons (.var 1) (.cons (.bin .sub (.cst (.int 0)) (.bin .mul (.cst (.int 2)) (.var 1))) (.cons (.bin .pow (.cst (.int 10)) (.cst (.int 12))) .nil)))))))) (.call "_law_draw" (.cons (.var 0) (.cons (.cst (.int 7)) .nil))))))
  .nil) .nil)
  (.cons (.ret (.var 1))
  .nil)))⟩
def f__law_plain : TxtDef := ⟨"_law_plain", [("part" : Str), ("own" : Str)], 1, top 40, 
  (.cons (.ite (.isi (.var 0) .tup) (.cons (.ret (.cmp (.cst (.bl false)) (.cons .notin (.lc (.call "_law_plain" (.cons (.var 1) .nil)) (.name 1) (.seq (.var 0)) .none) .nil)))
  .nil) .nil)
  (.cons (.ret (.bop false (.cons (.isi (.var 0) .str) (.cons (.bop true (.cons (.isi (.var 0) .int) (.cons (.not (.isi (.var 0) .bl)) .nil))) .nil))))
  .nil))⟩
def f__law_line_right : TxtDef := ⟨"_law_line_right", [("claim" : Str), ("a" : Str), ("b" : Str), ("c" : Str), ("x" : Str), ("y" : Str), ("u" : Str), ("v" : Str)], 1, top 41, 
  (.cons (.set (.tup [1, 2, 3]) (.slc (.var 0) (.some (.cst (.int 1))) (.some (.cst (.int 4)))))
  (.cons (.ite (.bop true (.cons (.cmp (.var 1) (.cons .eq (.cst (.int 0)) .nil)) (.cons (.cmp (.var 2) (.cons .eq (.cst (.int 0)) .nil)) .nil))) (.cons (.ret (.cst (.bl false)))
  .nil) .nil)
  (.cons (.ite (.cmp (.idx (.var 0) (.cst (.int 0))) (.cons .eq (.cst (.str "off")) .nil)) (.cons (.ret (.bop true (.cons (.call "_law_divides" (.cons (.idx (.var 0) (.cst (.int 4))) (.cons (.var 1) .nil))) (.cons (.call "_law_divides" (.cons (.idx (.var 0) (.cst (.int 4))) (.cons (.var 2) .nil))) (.cons (.not (.call "_law_divides" (.cons (.idx (.var 0) (.cst (.int 4))) (.cons (.var 3) .nil)))) .nil)))))
  .nil) .nil)
  (.cons (.set (.tup [4, 5, 6, 7]) (.slc (.var 0) (.some (.cst (.int 4))) .none))
  (.cons (.ret (.bop true (.cons (.cmp (.bin .add (.bin .mul (.var 1) (.var 4)) (.bin .mul (.var 2) (.var 5))) (.cons .eq (.var 3) .nil)) (.cons (.cmp (.bin .add (.bin .mul (.var 1) (.var 6)) (.bin .mul (.var 2) (.var 7))) (.cons .eq (.cst (.int 0)) .nil)) (.cons (.cmp (.call "_law_gcd" (.cons (.var 6) (.cons (.var 7) .nil))) (.cons .eq (.cst (.int 1)) .nil)) .nil)))))
  .nil)))))⟩
def f__law_corner : TxtDef := ⟨"_law_corner", [("k" : Str), ("i" : Str)], 2, top 42, 
  (.cons (.ret (.bin .fdiv (.bin .sub (.bin .mul (.bin .mul (.bin .sub (.var 0) (.cst (.int 2))) (.var 1)) (.var 1)) (.bin .mul (.bin .sub (.var 0) (.cst (.int 4))) (.var 1))) (.cst (.int 2))))
  .nil)⟩
def f__law_rests : TxtDef := ⟨"_law_rests", [("p" : Str), ("whole" : Str), ("turn" : Str), ("found" : Str)], 1, top 43, 
  (.cons (.set (.name 1) (.cst (.int 1)))
  (.cons (.for (.name 2) (.rng1 (.var 0)) (.cons (.set (.name 1) (.bin .mul (.cst (.int 2)) (.var 1)))
  .nil))
  (.cons (.set (.name 1) (.bin .sub (.var 1) (.cst (.int 1))))
  (.cons (.set (.name 3) (.lst (.cons (.bin .mod (.blt .int (.cons (.cst (.int 4)) .nil)) (.var 1)) .nil)))
  (.cons (.for (.name 2) (.rng1 (.bin .sub (.var 0) (.cst (.int 2)))) (.cons (.app (.var 3) (.bin .mod (.blt .int (.cons (.bin .sub (.bin .mul (.idx (.var 3) (.neg (.cst (.int 1)))) (.idx (.var 3) (.neg (.cst (.int 1))))) (.cst (.int 2))) .nil)) (.var 1)))
  .nil))
  (.cons (.ret (.blt .tuple (.cons (.var 3) .nil)))
  .nil))))))⟩
def f__law_right : TxtDef := ⟨"_law_right", [("claim" : Str), ("k" : Str), ("n" : Str), ("i" : Str), ("x" : Str), ("y" : Str), ("z" : Str), ("p" : Str), ("rests" : Str)], 1, top 44, 
  (.cons (.ite (.cmp (.idx (.var 0) (.cst (.int 0))) (.cons .eq (.cst (.str "triangles")) .nil)) (.cons (.set (.tup [2, 4, 5, 6]) (.slc (.var 0) (.some (.cst (.int 1))) .none))
  (.cons (.ret (.bop true (.cons (.cmp (.cst (.int 0)) (.cons .le (.var 4) (.cons .le (.var 5) (.cons .le (.var 6) .nil)))) (.cons (.cmp (.bin .add (.bin .add (.bin .fdiv (.bin .mul (.var 4) (.bin .add (.var 4) (.cst (.int 1)))) (.cst (.int 2))) (.bin .fdiv (.bin .mul (.var 5) (.bin .add (.var 5) (.cst (.int 1)))) (.cst (.int 2)))) (.bin .fdiv (.bin .mul (.var 6) (.bin .add (.var 6) (.cst (.int 1)))) (.cst (.int 2)))) (.cons .eq (.var 2) .nil)) .nil))))
  .nil)) .nil)
  (.cons (.ite (.cmp (.idx (.var 0) (.cst (.int 0))) (.cons .isin (.tup (.cons (.cst (.str "mersenne")) (.cons (.cst (.str "nomersenne")) .nil))) .nil)) (.cons (.set (.tup [7, 8]) (.slc (.var 0) (.some (.cst (.int 1))) .none))
  (.cons (.ite (.bop false (.cons (.cmp (.var 7) (.cons .lt (.cst (.int 3)) .nil)) (.cons (.cmp (.bin .mod (.blt .int (.cons (.var 7) .nil)) (.cst (.int 2))) (.cons .eq (.cst (.int 0)) .nil)) (.cons (.cmp (.var 7) (.cons .gt (.cst (.int 1000)) .nil)) (.cons (.cmp (.var 8) (.cons .ne (.call "_law_rests" (.cons (.var 7) .nil)) .nil)) .nil))))) (.cons (.ret (.cst (.bl false)))
  .nil) .nil)
  (.cons (.ret (.cmp (.cmp (.idx (.var 0) (.cst (.int 0))) (.cons .eq (.cst (.str "mersenne")) .nil)) (.cons .eq (.cmp (.idx (.var 8) (.neg (.cst (.int 1)))) (.cons .eq (.cst (.int 0)) .nil)) .nil)))
  .nil))) .nil)
  (.cons (.set (.tup [1, 2, 3]) (.slc (.var 0) (.some (.cst (.int 1))) .none))
  (.cons (.ite (.bop false (.cons (.cmp (.var 1) (.cons .lt (.cst (.int 3)) .nil)) (.cons (.cmp (.var 3) (.cons .lt (.cst (.int 0)) .nil)) .nil))) (.cons (.ret (.cst (.bl false)))
  .nil) .nil)
  (.cons (.ite (.cmp (.idx (.var 0) (.cst (.int 0))) (.cons .eq (.cst (.str "corner")) .nil)) (.cons (.ret (.cmp (.call "_law_corner" (.cons (.var 1) (.cons (.var 3) .nil))) (.cons .eq (.var 2) .nil)))
  .nil) .nil)
  (.cons (.ret (.cmp (.call "_law_corner" (.cons (.var 1) (.cons (.var 3) .nil))) (.cons .lt (.var 2) (.cons .lt (.call "_law_corner" (.cons (.var 1) (.cons (.bin .add (.var 3) (.cst (.int 1))) .nil))) .nil))))
  .nil))))))⟩
def f__law_told : TxtDef := ⟨"_law_told", [("way" : Str), ("one" : Str), ("two" : Str), ("three" : Str), ("e" : Str)], 4, top 45, 
  (.cons (.try (.cons (.ite (.cmp (.var 0) (.cons .eq (.cst (.int 0)) .nil)) (.cons (.ret (.call "line" (.cons (.var 1) (.cons (.var 2) (.cons (.var 3) .nil)))))
  .nil) .nil)
  (.cons (.ite (.cmp (.var 0) (.cons .eq (.cst (.int 1)) .nil)) (.cons (.ret (.call "count_line" (.cons (.var 1) (.cons (.var 2) (.cons (.var 3) .nil)))))
  .nil) .nil)
  (.cons (.ite (.cmp (.var 0) (.cons .eq (.cst (.int 2)) .nil)) (.cons (.ret (.call "corner_number" (.cons (.var 1) (.cons (.var 2) .nil))))
  .nil) .nil)
  (.cons (.ite (.cmp (.var 0) (.cons .eq (.cst (.int 3)) .nil)) (.cons (.ret (.call "corner" (.cons (.var 1) (.cons (.var 2) .nil))))
  .nil) .nil)
  (.cons (.ite (.cmp (.var 0) (.cons .eq (.cst (.int 4)) .nil)) (.cons (.ret (.call "triangles" (.cons (.var 1) .nil)))
  .nil) .nil)
  (.cons (.ret (.call "mersenne" (.cons (.var 1) .nil)))
  .nil)))))) (.cons "BadNumber" [0] [1] 4 (.cons (.ret (.bin .add (.cst (.str "bad ")) (.fld 4)))
  .nil) (.cons "TooLarge" [1] [0] 4 (.cons (.ret (.bin .add (.cst (.str "large ")) (.fld 4)))
  .nil) .nil)))
  .nil)⟩
def b_law_judged_1 : MSs := (.cons (.set (.name 4) (.bin .add (.slc (.var 4) .none (.some (.cst (.int 1)))) (.call "_law_touched" (.cons (.var 0) (.cons (.slc (.var 4) (.some (.cst (.int 1))) .none) .nil)))))
  .nil)
def b_law_judged_0 : MSs := (.cons (.set (.name 4) (.var 1))
  (.cons (.for (.name 5) (.rng1 (.idx (.tup (.cons (.cst (.int 0)) (.cons (.cst (.int 1)) (.cons (.cst (.int 1)) (.cons (.cst (.int 2)) .nil))))) (.var 3))) b_law_judged_1)
  (.cons (.ite (.bop true (.cons (.cmp (.var 2) (.cons .eq (.cst (.int 0)) .nil)) (.cons (.not (.call "_law_same" (.cons (.call "line_right" (.cons (.var 4) .nil)) (.cons (.call "_law_line_right" (.cons (.var 4) .nil)) .nil)))) .nil))) (.cons (.ret (.cst (.bl false)))
  .nil) .nil)
  (.cons (.ite (.bop true (.cons (.cmp (.var 2) (.cons .eq (.cst (.int 1)) .nil)) (.cons (.not (.call "_law_same" (.cons (.call "corner_right" (.cons (.var 4) .nil)) (.cons (.call "_law_right" (.cons (.var 4) .nil)) .nil)))) .nil))) (.cons (.ret (.cst (.bl false)))
  .nil) .nil)
  .nil))))
def f__law_judged : TxtDef := ⟨"_law_judged", [("pool" : Str), ("claim" : Str), ("way" : Str), ("turn" : Str), ("own" : Str), ("again" : Str)], 3, top 46, 
  (.cons (.for (.name 3) (.rng1 (.cst (.int 4))) b_law_judged_0)
  (.cons (.ret (.cst (.bl true)))
  .nil))⟩
def blaw_0_15 : MSs := (.cons (.ite (.bop false (.cons (.not (.isi (.var 4) .tup)) (.cons (.not (.call "_law_plain" (.cons (.var 4) .nil))) (.cons (.cmp (.slc (.var 4) .none (.some (.cst (.int 2)))) (.cons .ne (.tup (.cons (.cst (.str "triangles")) (.cons (.var 12) .nil))) .nil)) (.cons (.not (.call "_law_right" (.cons (.var 4) .nil))) (.cons (.not (.call "_law_judged" (.cons (.var 1) (.cons (.var 4) (.cons (.cst (.int 1)) .nil))))) .nil)))))) (.cons (.ret (.cst (.bl false)))
  .nil) .nil)
  .nil)
def blaw_0_14 : MSs := (.cons (.set (.name 4) (.call "triangles" (.cons (.var 12) .nil)))
  blaw_0_15)
def blaw_0_13 : MSs := (.cons (.set (.name 12) (.call "_law_draw" (.cons (.var 1) (.cons (.idx (.tup (.cons (.cst (.int 60)) (.cons (.bin .add (.bin .pow (.cst (.int 10)) (.cst (.int 5))) (.cst (.int 1))) .nil))) (.call "_law_draw" (.cons (.var 1) (.cons (.cst (.int 2)) .nil)))) .nil))))
  blaw_0_14)
def blaw_0_12 : MSs := (.cons (.ite (.not (.call "_law_same" (.cons (.call "corner_number" (.cons (.var 18) (.cons (.var 19) .nil))) (.cons (.call "_law_corner" (.cons (.var 18) (.cons (.var 19) .nil))) .nil)))) (.cons (.ret (.cst (.bl false)))
  .nil) .nil)
  blaw_0_13)
def blaw_0_11 : MSs := (.cons (.ite (.bop false (.cons (.not (.isi (.var 4) .tup)) (.cons (.not (.call "_law_plain" (.cons (.var 4) .nil))) (.cons (.cmp (.slc (.var 4) (.some (.cst (.int 1))) (.some (.cst (.int 3)))) (.cons .ne (.tup (.cons (.var 18) (.cons (.var 12) .nil))) .nil)) (.cons (.not (.call "_law_right" (.cons (.var 4) .nil))) (.cons (.not (.call "_law_judged" (.cons (.var 1) (.cons (.var 4) (.cons (.cst (.int 1)) .nil))))) .nil)))))) (.cons (.ret (.cst (.bl false)))
  .nil) .nil)
  blaw_0_12)
def blaw_0_10 : MSs := (.cons (.set (.name 4) (.call "corner" (.cons (.var 18) (.cons (.var 12) .nil))))
  blaw_0_11)
def blaw_0_9 : MSs := (.cons (.set (.name 12) (.idx (.tup (.cons (.call "_law_corner" (.cons (.var 18) (.cons (.var 19) .nil))) (.cons (.blt .max2 (.cons (.cst (.int 0)) (.cons (.bin .sub (.call "_law_corner" (.cons (.var 18) (.cons (.var 19) .nil))) (.cst (.int 1))) .nil))) (.cons (.blt .abs (.cons (.call "_law_huge" (.cons (.var 1) .nil)) .nil)) .nil)))) (.call "_law_draw" (.cons (.var 1) (.cons (.cst (.int 3)) .nil)))))
  blaw_0_10)
def blaw_0_8 : MSs := (.cons (.par 18 19 (.bin .add (.cst (.int 3)) (.call "_law_draw" (.cons (.var 1) (.cons (.idx (.tup (.cons (.cst (.int 9)) (.cons (.bin .pow (.cst (.int 10)) (.cst (.int 9))) .nil))) (.call "_law_draw" (.cons (.var 1) (.cons (.cst (.int 2)) .nil)))) .nil)))) (.call "_law_some" (.cons (.var 1) .nil)))
  blaw_0_9)
def blaw_0_7 : MSs := (.cons (.ite (.not (.call "_law_same" (.cons (.call "count_line" (.cons (.var 16) (.cons (.var 17) (.cons (.var 10) .nil)))) (.cons (.var 11) .nil)))) (.cons (.ret (.cst (.bl false)))
  .nil) .nil)
  blaw_0_8)
def blaw_0_6 : MSs := (.cons (.set (.name 11) (.blt .len (.cons (.lc (.var 18) (.name 18) (.rng1 (.bin .add (.bin .fdiv (.var 10) (.var 16)) (.cst (.int 1)))) (.some (.cmp (.bin .mod (.blt .int (.cons (.bin .sub (.var 10) (.bin .mul (.var 18) (.var 16))) .nil)) (.var 17)) (.cons .eq (.cst (.int 0)) .nil)))) .nil)))
  blaw_0_7)
def blaw_0_5 : MSs := (.cons (.set (.name 10) (.call "_law_draw" (.cons (.var 1) (.cons (.cst (.int 200)) .nil))))
  blaw_0_6)
def blaw_0_4 : MSs := (.cons (.set (.tup [16, 17]) (.tup (.cons (.bin .add (.cst (.int 1)) (.call "_law_draw" (.cons (.var 1) (.cons (.cst (.int 20)) .nil)))) (.cons (.bin .add (.cst (.int 1)) (.call "_law_draw" (.cons (.var 1) (.cons (.cst (.int 20)) .nil)))) .nil))))
  blaw_0_5)
def blaw_0_3 : MSs := (.cons (.ite (.bop true (.cons (.cmp (.var 13) (.cons .eq (.cst (.int 0)) .nil)) (.cons (.cmp (.var 14) (.cons .eq (.cst (.int 0)) .nil)) .nil))) (.cons (.ite (.not (.call "_law_same" (.cons (.call "_law_told" (.cons (.cst (.int 0)) (.cons (.cst (.int 0)) (.cons (.cst (.int 0)) (.cons (.var 9) .nil))))) (.cons (.cst (.str "bad number")) .nil)))) (.cons (.ret (.cst (.bl false)))
  .nil) .nil)
  .nil) (.cons (.set (.name 4) (.call "line" (.cons (.var 13) (.cons (.var 14) (.cons (.var 9) .nil)))))
  (.cons (.set (.name 15) (.idx (.tup (.cons (.cst (.str "line")) (.cons (.cst (.str "off")) .nil))) (.blt .int (.cons (.cmp (.bin .mod (.blt .int (.cons (.var 9) .nil)) (.call "_law_gcd" (.cons (.var 13) (.cons (.var 14) .nil)))) (.cons .ne (.cst (.int 0)) .nil)) .nil))))
  (.cons (.ite (.bop false (.cons (.not (.isi (.var 4) .tup)) (.cons (.not (.call "_law_plain" (.cons (.var 4) .nil))) (.cons (.cmp (.slc (.var 4) .none (.some (.cst (.int 4)))) (.cons .ne (.tup (.cons (.var 15) (.cons (.var 13) (.cons (.var 14) (.cons (.var 9) .nil))))) .nil)) (.cons (.not (.call "_law_line_right" (.cons (.var 4) .nil))) (.cons (.not (.call "_law_judged" (.cons (.var 1) (.cons (.var 4) (.cons (.cst (.int 0)) .nil))))) .nil)))))) (.cons (.ret (.cst (.bl false)))
  .nil) .nil)
  .nil))))
  blaw_0_4)
def blaw_0_2 : MSs := (.cons (.set (.name 9) (.idx (.tup (.cons (.call "_law_huge" (.cons (.var 1) .nil)) (.cons (.call "_law_sign" (.cons (.var 1) (.cons (.call "_law_some" (.cons (.var 1) .nil)) .nil))) .nil))) (.call "_law_draw" (.cons (.var 1) (.cons (.cst (.int 2)) .nil)))))
  blaw_0_3)
def blaw_0_1 : MSs := (.cons (.par 13 14 (.bin .mul (.call "_law_sign" (.cons (.var 1) (.cons (.call "_law_some" (.cons (.var 1) .nil)) .nil))) (.var 8)) (.bin .mul (.call "_law_sign" (.cons (.var 1) (.cons (.call "_law_some" (.cons (.var 1) .nil)) .nil))) (.var 8)))
  blaw_0_2)
def blaw_0_0 : MSs := (.cons (.set (.name 8) (.idx (.tup (.cons (.cst (.int 1)) (.cons (.cst (.int 6)) (.cons (.cst (.int 35)) .nil)))) (.call "_law_draw" (.cons (.var 1) (.cons (.cst (.int 3)) .nil)))))
  blaw_0_1)
def blaw_1_0 : MSs := (.cons (.ite (.not (.call "_law_same" (.cons (.call "corner_right" (.cons (.var 6) .nil)) (.cons (.call "_law_right" (.cons (.var 6) .nil)) .nil)))) (.cons (.ret (.cst (.bl false)))
  .nil) .nil)
  .nil)
def t_law_9 : MSs := (.cons (.ret (.call "_law_same" (.cons (.var 7) (.cons (.bin .add (.bin .mul (.lst (.cons (.cst (.str "bad number")) .nil)) (.cst (.int 11))) (.bin .mul (.lst (.cons (.cst (.str "large number")) .nil)) (.cst (.int 2)))) .nil))))
  .nil)
def t_law_8 : MSs := (.cons (.set (.name 7) (.bin .add (.var 7) (.lst (.cons (.call "_law_told" (.cons (.cst (.int 4)) (.cons (.bin .sub (.cst (.int 0)) (.cst (.int 1))) (.cons (.cst (.int 0)) (.cons (.cst (.int 0)) .nil))))) (.cons (.call "_law_told" (.cons (.cst (.int 5)) (.cons (.cst (.int 1)) (.cons (.cst (.int 0)) (.cons (.cst (.int 0)) .nil))))) (.cons (.call "_law_told" (.cons (.cst (.int 5)) (.cons (.bin .add (.bin .add (.cst (.int 4)) (.var 3)) (.cst (.int 1))) (.cons (.cst (.int 0)) (.cons (.cst (.int 0)) .nil))))) (.cons (.call "_law_told" (.cons (.cst (.int 5)) (.cons (.bin .sub (.cst (.int 0)) (.cst (.int 3))) (.cons (.cst (.int 0)) (.cons (.cst (.int 0)) .nil))))) (.cons (.call "_law_told" (.cons (.cst (.int 4)) (.cons (.bin .add (.bin .add (.bin .pow (.cst (.int 10)) (.cst (.int 5))) (.cst (.int 1))) (.var 12)) (.cons (.cst (.int 0)) (.cons (.cst (.int 0)) .nil))))) (.cons (.call "_law_told" (.cons (.cst (.int 5)) (.cons (.cst (.int 501)) (.cons (.cst (.int 0)) (.cons (.cst (.int 0)) .nil))))) .nil)))))))))
  t_law_9)
def t_law_7 : MSs := (.cons (.set (.name 7) (.lst (.cons (.call "_law_told" (.cons (.cst (.int 1)) (.cons (.cst (.int 0)) (.cons (.cst (.int 1)) (.cons (.cst (.int 1)) .nil))))) (.cons (.call "_law_told" (.cons (.cst (.int 1)) (.cons (.cst (.int 1)) (.cons (.bin .sub (.cst (.int 0)) (.cst (.int 1))) (.cons (.cst (.int 1)) .nil))))) (.cons (.call "_law_told" (.cons (.cst (.int 1)) (.cons (.cst (.int 1)) (.cons (.cst (.int 1)) (.cons (.bin .sub (.cst (.int 0)) (.cst (.int 1))) .nil))))) (.cons (.call "_law_told" (.cons (.cst (.int 2)) (.cons (.cst (.int 2)) (.cons (.cst (.int 1)) (.cons (.cst (.int 0)) .nil))))) (.cons (.call "_law_told" (.cons (.cst (.int 2)) (.cons (.cst (.int 3)) (.cons (.bin .sub (.cst (.int 0)) (.cst (.int 1))) (.cons (.cst (.int 0)) .nil))))) (.cons (.call "_law_told" (.cons (.cst (.int 3)) (.cons (.cst (.int 2)) (.cons (.cst (.int 1)) (.cons (.cst (.int 0)) .nil))))) (.cons (.call "_law_told" (.cons (.cst (.int 3)) (.cons (.cst (.int 3)) (.cons (.bin .sub (.cst (.int 0)) (.cst (.int 1))) (.cons (.cst (.int 0)) .nil))))) .nil)))))))))
  t_law_8)
def t_law_6 : MSs := (.cons (.for (.name 6) (.seq (.tup (.cons (.var 4) (.cons (.tup (.cons (.cst (.str "mersenne")) (.cons (.var 3) (.cons (.var 5) .nil)))) (.cons (.tup (.cons (.cst (.str "nomersenne")) (.cons (.var 3) (.cons (.var 5) .nil)))) (.cons (.tup (.cons (.idx (.var 4) (.cst (.int 0))) (.cons (.var 3) (.cons (.slc (.var 5) .none (.some (.neg (.cst (.int 1))))) .nil)))) (.cons (.tup (.cons (.idx (.var 4) (.cst (.int 0))) (.cons (.bin .add (.var 3) (.cst (.int 2))) (.cons (.var 5) .nil)))) (.cons (.bin .add (.slc (.var 4) .none (.some (.cst (.int 2)))) (.call "_law_touched" (.cons (.var 1) (.cons (.slc (.var 4) (.some (.cst (.int 2))) .none) .nil)))) .nil)))))))) blaw_1_0)
  t_law_7)
def t_law_5 : MSs := (.cons (.ite (.cmp (.cmp (.idx (.var 4) (.cst (.int 0))) (.cons .eq (.cst (.str "mersenne")) .nil)) (.cons .ne (.cmp (.var 3) (.cons .isin (.tup (.cons (.cst (.int 3)) (.cons (.cst (.int 5)) (.cons (.cst (.int 7)) (.cons (.cst (.int 13)) (.cons (.cst (.int 17)) (.cons (.cst (.int 19)) (.cons (.cst (.int 31)) (.cons (.cst (.int 61)) (.cons (.cst (.int 89)) (.cons (.cst (.int 107)) (.cons (.cst (.int 127)) .nil)))))))))))) .nil)) .nil)) (.cons (.ret (.cst (.bl false)))
  .nil) .nil)
  t_law_6)
def t_law_4 : MSs := (.cons (.ite (.not (.call "_law_same" (.cons (.var 4) (.cons (.tup (.cons (.idx (.tup (.cons (.cst (.str "nomersenne")) (.cons (.cst (.str "mersenne")) .nil))) (.blt .int (.cons (.cmp (.idx (.var 5) (.neg (.cst (.int 1)))) (.cons .eq (.cst (.int 0)) .nil)) .nil))) (.cons (.var 3) (.cons (.var 5) .nil)))) .nil)))) (.cons (.ret (.cst (.bl false)))
  .nil) .nil)
  t_law_5)
def t_law_3 : MSs := (.cons (.set (.name 5) (.call "_law_rests" (.cons (.var 3) .nil)))
  t_law_4)
def t_law_2 : MSs := (.cons (.set (.name 4) (.call "mersenne" (.cons (.var 3) .nil)))
  t_law_3)
def t_law_1 : MSs := (.cons (.set (.name 3) (.bin .add (.cst (.int 3)) (.bin .mul (.cst (.int 2)) (.call "_law_draw" (.cons (.var 1) (.cons (.idx (.tup (.cons (.cst (.int 12)) (.cons (.cst (.int 64)) .nil))) (.blt .int (.cons (.cmp (.call "_law_draw" (.cons (.var 1) (.cons (.cst (.int 3)) .nil))) (.cons .eq (.cst (.int 0)) .nil)) .nil))) .nil))))))
  t_law_2)
def t_law_0 : MSs := (.cons (.for (.name 2) (.rng1 (.cst (.int 4))) blaw_0_0)
  t_law_1)
def f_law : TxtDef := ⟨"law", [("script" : Str), ("pool" : Str), ("turn" : Str), ("p" : Str), ("found" : Str), ("rests" : Str), ("claim" : Str), ("words" : Str), ("times" : Str), ("c" : Str), ("most" : Str), ("tried" : Str), ("n" : Str), ("a" : Str), ("b" : Str), ("due" : Str), ("x" : Str), ("y" : Str), ("k" : Str), ("i" : Str)], 1, top 47, 
  t_law_0⟩
def ts : List TxtDef := [f__signed, f_shared, f_greatest_shared, f_raised, f_root, f_divides, f_line, f_count_line, f_line_right, f__checked, f__seven, f_three_squares, f__number, f_corner_number, f_corner, f_triangles, f__rests, f_mersenne, f_corner_right, f__law_draw, f__law_gcd, f__law_same, f__law_divides, f__law_some, f__law_sign, f__law_huge, f__law_touched, f__law_plain, f__law_line_right, f__law_corner, f__law_rests, f__law_right, f__law_told, f__law_judged]
def T : Tab := { fns := [(("_signed" : Str), 2), (("shared" : Str), 2), (("greatest_shared" : Str), 2), (("raised" : Str), 2), (("root" : Str), 2), (("divides" : Str), 2), (("line" : Str), 3), (("count_line" : Str), 3), (("line_right" : Str), 1), (("_checked" : Str), 2), (("_seven" : Str), 1), (("three_squares" : Str), 1), (("_number" : Str), 2), (("corner_number" : Str), 2), (("corner" : Str), 2), (("triangles" : Str), 1), (("_rests" : Str), 1), (("mersenne" : Str), 1), (("corner_right" : Str), 1), (("_law_draw" : Str), 2), (("_law_gcd" : Str), 2), (("_law_same" : Str), 2), (("_law_divides" : Str), 2), (("_law_some" : Str), 1), (("_law_sign" : Str), 2), (("_law_huge" : Str), 1), (("_law_touched" : Str), 2), (("_law_plain" : Str), 1), (("_law_line_right" : Str), 1), (("_law_corner" : Str), 2), (("_law_rests" : Str), 1), (("_law_right" : Str), 1), (("_law_told" : Str), 4), (("_law_judged" : Str), 3)], glb := [(("MOST_SUM" : Str), 1000000), (("MOST_TRIANGLES" : Str), 100000), (("MOST_MERSENNE" : Str), 500)], exc := [(("BadNumber" : Str), 0), (("TooLarge" : Str), 1)], hnd := [(("BadNumber" : Str), [0], [1]), (("TooLarge" : Str), [1], [0])], fld := fun _ => "what" }
end K44

namespace K44
open PySem PI
abbrev fs : List Def := ts.map TxtDef.def
theorem lk__signed : lookD fs "_signed" = some f__signed.def := by rfl
theorem lk_shared : lookD fs "shared" = some f_shared.def := by rfl
theorem lk_greatest_shared : lookD fs "greatest_shared" = some f_greatest_shared.def := by rfl
theorem lk_raised : lookD fs "raised" = some f_raised.def := by rfl
theorem lk_root : lookD fs "root" = some f_root.def := by rfl
theorem lk_divides : lookD fs "divides" = some f_divides.def := by rfl
theorem lk_line : lookD fs "line" = some f_line.def := by rfl
theorem lk_count_line : lookD fs "count_line" = some f_count_line.def := by rfl
theorem lk_line_right : lookD fs "line_right" = some f_line_right.def := by rfl
theorem lk__checked : lookD fs "_checked" = some f__checked.def := by rfl
theorem lk__seven : lookD fs "_seven" = some f__seven.def := by rfl
theorem lk_three_squares : lookD fs "three_squares" = some f_three_squares.def := by rfl
theorem lk__number : lookD fs "_number" = some f__number.def := by rfl
theorem lk_corner_number : lookD fs "corner_number" = some f_corner_number.def := by rfl
theorem lk_corner : lookD fs "corner" = some f_corner.def := by rfl
theorem lk_triangles : lookD fs "triangles" = some f_triangles.def := by rfl
theorem lk__rests : lookD fs "_rests" = some f__rests.def := by rfl
theorem lk_mersenne : lookD fs "mersenne" = some f_mersenne.def := by rfl
theorem lk_corner_right : lookD fs "corner_right" = some f_corner_right.def := by rfl
theorem lk__law_draw : lookD fs "_law_draw" = some c_law_draw := by rfl
theorem lk__law_gcd : lookD fs "_law_gcd" = some c_law_gcd := by rfl
theorem lk__law_same : lookD fs "_law_same" = some c_law_same := by rfl
theorem lk__law_divides : lookD fs "_law_divides" = some c_law_divides := by rfl
theorem lk__law_some : lookD fs "_law_some" = some c_law_some := by rfl
theorem lk__law_sign : lookD fs "_law_sign" = some c_law_sign := by rfl
theorem lk__law_huge : lookD fs "_law_huge" = some c_law_huge := by rfl
theorem lk__law_touched : lookD fs "_law_touched" = some c_law_touched := by rfl
theorem lk__law_plain : lookD fs "_law_plain" = some c_law_plain := by rfl
theorem lk__law_line_right : lookD fs "_law_line_right" = some f__law_line_right.def := by rfl
theorem lk__law_corner : lookD fs "_law_corner" = some f__law_corner.def := by rfl
theorem lk__law_rests : lookD fs "_law_rests" = some f__law_rests.def := by rfl
theorem lk__law_right : lookD fs "_law_right" = some f__law_right.def := by rfl
theorem lk__law_told : lookD fs "_law_told" = some f__law_told.def := by rfl
theorem lk__law_judged : lookD fs "_law_judged" = some f__law_judged.def := by rfl
end K44

namespace K44
/-! ### each n up to 100000 is a sum of three triangular numbers -/
def tri (i : Nat) : Nat := i * (i + 1) / 2
def shifts (m : Nat) : Nat → Nat
  | 0 => 0
  | i + 1 => shifts m i ||| (m <<< tri i)
theorem shifts_bit (m n : Nat) : ∀ k, (shifts m k).testBit n = true → ∃ i, tri i ≤ n ∧ m.testBit (n - tri i) = true
  | 0, h => by simp [shifts] at h
  | k + 1, h => by
    simp only [shifts, Nat.testBit_or, Bool.or_eq_true, Nat.testBit_shiftLeft, Bool.and_eq_true, decide_eq_true_eq] at h
    rcases h with h | ⟨h1, h2⟩
    · exact shifts_bit m n k h
    · exact ⟨k, h1, h2⟩
set_option exponentiation.threshold 200000 in
theorem tri_check : (shifts (shifts (shifts 1 447) 447) 447) &&& (2 ^ 100001 - 1) = 2 ^ 100001 - 1 := by decide +kernel
theorem three_tri (n : Nat) (hn : n ≤ 100000) : ∃ i j k, tri i + tri j + tri k = n := by
  have h : (2 ^ 100001 - 1).testBit n = true := by rw [Nat.testBit_two_pow_sub_one]; simp; omega
  rw [← tri_check, Nat.testBit_and, Bool.and_eq_true] at h
  obtain ⟨i, hi, h1⟩ := shifts_bit _ _ _ h.1
  obtain ⟨j, hj, h2⟩ := shifts_bit _ _ _ h1
  obtain ⟨k, hk, h3⟩ := shifts_bit _ _ _ h2
  refine ⟨i, j, k, ?_⟩
  have : n - tri i - tri j - tri k = 0 := by
    by_cases z : n - tri i - tri j - tri k = 0
    · exact z
    · exfalso
      exact z (Nat.testBit_one_eq_true_iff_self_eq_zero.mp h3)
  omega
end K44

namespace K44
open PySem PI
theorem p_signed (k : Nat) (a b : Int) (h : List (List D)) : Phi fs (k + 1) "_signed" [.int a, .int b] h = .ok (.val (.int (if a < 0 then 0 - b else b))) h := by
  rw [Phi_run lk__signed rfl]
  by_cases c : a < 0 <;> simp [f__signed, TxtDef.def, startT, c]
/-- d divides n, as the program and the law say it -/
def dvB (d n : Int) : Bool := if d = 0 then decide (n = 0) else decide (n.fmod d = 0)
theorem p_divides (k : Nat) (d n : Int) (h : List (List D)) : Phi fs (k + 1) "divides" [.int d, .int n] h = .ok (.val (.bl (dvB d n))) h := by
  rw [Phi_run lk_divides rfl]
  by_cases c : d = 0 <;> simp [f_divides, TxtDef.def, startT, c, dvB, bin_modI]
theorem p_ldivides (k : Nat) (d n : Int) (h : List (List D)) : Phi fs (k + 1) "_law_divides" [.int d, .int n] h = .ok (.val (.bl (dvB d n))) h := by
  rw [Phi_run lk__law_divides rfl]
  by_cases c : d = 0 <;> simp [c_law_divides, startT, c, dvB, bin_modI]
theorem p_gcd (k : Nat) (x y : Int) (h : List (List D)) : Phi fs (k + 1) "greatest_shared" [.int x, .int y] h = .ok (.val (.int (Nat.gcd x.natAbs y.natAbs))) h := by
  rw [Phi_run lk_greatest_shared rfl]
  obtain ⟨a0, ha0⟩ : ∃ a0, x.natAbs = a0 := ⟨_, rfl⟩
  obtain ⟨b0, hb0⟩ : ∃ b0, y.natAbs = b0 := ⟨_, rfl⟩
  have loop := ex_while (Φ := Phi fs k) (c := .cmp (.var 1) (.cons .ne (.cst (.int 0)) .nil)) (b := .cons (.par 0 1 (.var 1) (.bin .mod (.var 0) (.var 1))) .nil)
    (fun s => ∃ a b : Nat, s = ⟨[some (.val (.int a)), some (.val (.int b))], h⟩ ∧ Nat.gcd a b = Nat.gcd a0 b0)
    (fun s => (intAt 1 s).toNat)
    (fun r => ∃ b, r = .next ⟨[some (.val (.int (Nat.gcd a0 b0))), b], h⟩) (fun s hI => by
      obtain ⟨a, b, rfl, hg⟩ := hI
      by_cases hb : b = 0
      · subst hb
        rw [Nat.gcd_zero_right] at hg
        subst hg
        simp
      · have hb' : ¬ ((b : Int) = 0) := by omega
        simp [hb', hb, bin_modI, fmod_nat]
        refine ⟨⟨b, a % b, ⟨rfl, rfl⟩, ?_⟩, Nat.mod_lt _ (Nat.pos_of_ne_zero hb)⟩
        rw [← hg, Nat.gcd_comm b, ← Nat.gcd_rec, Nat.gcd_comm])
    ⟨[some (.val (.int a0)), some (.val (.int b0))], h⟩ ⟨a0, b0, rfl, rfl⟩
  obtain ⟨b, e⟩ := loop
  simp only [ha0, hb0]
  simp [f_greatest_shared, TxtDef.def, startT, abs_if, ha0, hb0, e]
theorem mulOk_lt {i j : Int} (hi : i.natAbs < 2 ^ 400000) (hj : j.natAbs < 2 ^ 400000) : mulOk i j = true := by
  simp only [mulOk, Bool.or_eq_true, decide_eq_true_eq]
  right
  have lg : ∀ n : Nat, n < 2 ^ 400000 → n.log2 < 400001 := fun n hn => by
    by_cases z : n = 0
    · rw [z, Nat.log2_zero]; omega
    · have := (Nat.log2_lt z).mpr hn
      omega
  have h1 := lg _ hi
  have h2 := lg _ hj
  omega
theorem p_raised (k : Nat) (b e : Nat) (hbe : b ^ e < 2 ^ 400000) (h : List (List D)) : Phi fs (k + 1) "raised" [.int b, .int e] h = .ok (.val (.int ((b ^ e : Nat) : Int))) h := by
  rw [Phi_run lk_raised rfl]
  have loop := ex_loop (Φ := Phi fs k) (c := .cmp (.var 1) (.cons .gt (.cst (.int 0)) .nil)) (b := .cons (.ite (.cmp (.bin .mod (.var 1) (.cst (.int 2))) (.cons .eq (.cst (.int 1)) .nil)) (.cons (.set (.name 2) (.bin .mul (.var 2) (.var 0))) .nil) .nil)
      (.cons (.set (.name 1) (.bin .fdiv (.var 1) (.cst (.int 2)))) (.cons (.ite (.cmp (.var 1) (.cons .gt (.cst (.int 0)) .nil)) (.cons (.set (.name 0) (.bin .mul (.var 0) (.var 0))) .nil) .nil) .nil)))
    (fun s => ∃ bs ex r : Nat, s = ⟨[some (.val (.int bs)), some (.val (.int ex)), some (.val (.int r))], h⟩ ∧ r * bs ^ ex = b ^ e ∧ ((b = 0 ∧ bs = 0 ∧ r ≤ 1) ∨ (1 ≤ bs ∧ 1 ≤ r)))
    (fun s => (intAt 1 s).toNat)
    (fun r => ∃ x y, r = .next ⟨[x, y, some (.val (.int ((b ^ e : Nat) : Int)))], h⟩) (fun s hI => by
      obtain ⟨bs, ex, r, rfl, hg, hb⟩ := hI
      by_cases hx : ex = 0
      · subst hx
        rw [Nat.pow_zero, Nat.mul_one] at hg
        subst hg
        exact .inl ⟨⟨[some (.val (.int bs)), some (.val (.int (0 : Nat))), some (.val (.int ((b ^ e : Nat) : Int)))], h⟩, by simp, _, _, rfl⟩
      · have hx' : 0 < ex := by omega
        have big : bs < 2 ^ 400000 ∧ r < 2 ^ 400000 := by
          rcases hb with ⟨h1, h2, h3⟩ | ⟨h1, h2⟩
          · subst h2
            have : (1 : Nat) < 2 ^ 400000 := Nat.one_lt_two_pow (by omega)
            exact ⟨by omega, by omega⟩
          · have h3 : bs ≤ bs ^ ex := Nat.le_self_pow (by omega) bs
            have h4 : bs ^ ex ≤ r * bs ^ ex := Nat.le_mul_of_pos_left _ h2
            have h5 : r ≤ r * bs ^ ex := Nat.le_mul_of_pos_right _ (Nat.pow_pos h1)
            exact ⟨by omega, by omega⟩
        have m1 : mulOk (r : Int) (bs : Int) = true := mulOk_lt (by simpa using big.2) (by simpa using big.1)
        have m2 : mulOk (bs : Int) (bs : Int) = true := mulOk_lt (by simpa using big.1) (by simpa using big.1)
        have d2 : divOk 2 = true := by decide
        have f2 : ((ex : Int)).fmod 2 = ((ex % 2 : Nat) : Int) := fmod_nat ex 2
        have g2 : ((ex : Int)).fdiv 2 = ((ex / 2 : Nat) : Int) := by rw [Int.fdiv_eq_ediv_of_nonneg _ (by omega)]; omega
        have pw : bs ^ ex = (bs * bs) ^ (ex / 2) * bs ^ (ex % 2) := by
          rw [← Nat.pow_two, ← Nat.pow_mul, ← Nat.pow_add, Nat.div_add_mod]
        have hb2 : ∀ r' bs' : Nat, (r' = r ∨ r' = r * bs) → (bs' = bs ∨ bs' = bs * bs) → ((b = 0 ∧ bs' = 0 ∧ r' ≤ 1) ∨ (1 ≤ bs' ∧ 1 ≤ r')) := fun r' bs' h1 h2 => by
          rcases hb with ⟨q1, q2, q3⟩ | ⟨q1, q2⟩
          · left
            subst q2
            refine ⟨q1, ?_, ?_⟩
            · rcases h2 with h2 | h2 <;> simp [h2]
            · rcases h1 with h1 | h1
              · rw [h1]; exact q3
              · rw [h1]; simp
          · right
            have q3 : 1 ≤ bs * bs := Nat.mul_le_mul q1 q1
            have q4 : 1 ≤ r * bs := Nat.mul_le_mul q2 q1
            rcases h1 with h1 | h1 <;> rcases h2 with h2 | h2 <;> rw [h1, h2] <;> exact ⟨by assumption, by assumption⟩
        have lt2 : ex / 2 < ex := by omega
        have dm := Nat.div_add_mod ex 2
        have ml := Nat.mod_lt ex (by omega : 2 > 0)
        generalize ex / 2 = e2 at pw lt2 g2 dm
        generalize ex % 2 = em at pw f2 dm ml
        refine .inr ⟨⟨[some (.val (.int bs)), some (.val (.int ex)), some (.val (.int r))], h⟩, by simp [hx'], .inl ?_⟩
        have go : ∀ r' bs' : Nat, (r' = r ∨ r' = r * bs) → (bs' = bs ∨ bs' = bs * bs) → r' * bs' ^ e2 = b ^ e → ∀ q : R, q = .next ⟨[some (.val (.int bs')), some (.val (.int (e2 : Int))), some (.val (.int r'))], h⟩ →
            ∃ s2, q = .next s2 ∧ (∃ bs ex r : Nat, s2 = ⟨[some (.val (.int bs)), some (.val (.int ex)), some (.val (.int r))], h⟩ ∧ r * bs ^ ex = b ^ e ∧ ((b = 0 ∧ bs = 0 ∧ r ≤ 1) ∨ (1 ≤ bs ∧ 1 ≤ r))) ∧ (intAt 1 s2).toNat < (intAt 1 (⟨[some (.val (.int bs)), some (.val (.int ex)), some (.val (.int r))], h⟩ : S)).toNat :=
          fun r' bs' h1 h2 h3 q hq => ⟨_, hq, ⟨bs', e2, r', rfl, h3, hb2 r' bs' h1 h2⟩, by simp only [intAt_mk, List.getElem?_cons_succ, List.getElem?_cons_zero]; simpa using lt2⟩
        by_cases c1 : em = 1
        · have c1' : (em : Int) = 1 := by omega
          rw [c1, Nat.pow_one] at pw
          by_cases c2 : e2 = 0
          · refine go (r * bs) bs (.inr rfl) (.inl rfl) (by rw [c2, Nat.pow_zero, Nat.mul_one, ← hg, pw, c2, Nat.pow_zero, Nat.one_mul]) _ ?_
            have c2' : ¬ (0 < e2) := by omega
            simp [f2, g2, c1', c2', m1, bin_mulI, bin_modI, bin_fdivI, d2]
          · refine go (r * bs) (bs * bs) (.inr rfl) (.inr rfl) (by rw [← hg, pw, Nat.mul_comm ((bs * bs) ^ e2), Nat.mul_assoc]) _ ?_
            have c2' : 0 < e2 := by omega
            simp [f2, g2, c1', c2', m1, m2, bin_mulI, bin_modI, bin_fdivI, d2]
        · have c1' : ¬ (em : Int) = 1 := by omega
          have c0 : em = 0 := by omega
          rw [c0, Nat.pow_zero, Nat.mul_one] at pw
          refine go r (bs * bs) (.inl rfl) (.inr rfl) (by rw [← hg, pw]) _ ?_
          have c2' : 0 < e2 := by omega
          simp [f2, g2, c1', c2', m1, m2, bin_mulI, bin_modI, bin_fdivI, d2])
    ⟨[some (.val (.int b)), some (.val (.int e)), some (.val (.int 1))], h⟩ ⟨b, e, 1, rfl, by rw [Nat.one_mul], by omega⟩
  obtain ⟨x, y, e1⟩ := loop
  simp [f_raised, TxtDef.def, startT, e1]
theorem p_root (k : Nat) (n e : Nat) (hn : n < 2 ^ 1000) (he : 1 ≤ e) (he2 : e ≤ 300) (h : List (List D)) :
    ∃ z : Nat, Phi fs (k + 2) "root" [.int n, .int e] h = .ok (.val (.int z)) h ∧ z ^ e ≤ n ∧ n < (z + 1) ^ e := by
  rw [Phi_run lk_root rfl]
  have big : ∀ hi : Nat, hi ≤ 2 * n + 2 → hi ^ e < 2 ^ 400000 := fun hi hh => by
    have h1 : hi ≤ 2 ^ 1002 := by
      have : (2 : Nat) ^ 1002 = 2 ^ 1000 * 4 := by rw [← Nat.pow_add (m := 1000) (n := 2)]
      omega
    have h2 : hi ^ e ≤ (2 ^ 1002) ^ e := Nat.pow_le_pow_left h1 e
    have h3 : ((2 : Nat) ^ 1002) ^ e = 2 ^ (1002 * e) := by rw [← Nat.pow_mul]
    have h4 : (2 : Nat) ^ (1002 * e) < 2 ^ 400000 := Nat.pow_lt_pow_right (by omega) (by omega)
    omega
  have self : ∀ hi : Nat, hi ≤ hi ^ e := fun hi => Nat.le_self_pow (by omega) hi
  have l1 := ex_loop (Φ := Phi fs (k + 1)) (c := .cmp (.call "raised" (.cons (.var 3) (.cons (.var 1) .nil))) (.cons .le (.var 0) .nil)) (b := .cons (.set (.name 3) (.bin .mul (.cst (.int 2)) (.var 3))) .nil)
    (fun s => ∃ hi : Nat, s = ⟨[some (.val (.int n)), some (.val (.int e)), some (.val (.int 0)), some (.val (.int hi)), none], h⟩ ∧ 1 ≤ hi ∧ hi ≤ 2 * n + 2)
    (fun s => n + 1 - (intAt 3 s).toNat)
    (fun r => ∃ hi : Nat, r = .next ⟨[some (.val (.int n)), some (.val (.int e)), some (.val (.int 0)), some (.val (.int hi)), none], h⟩ ∧ n < hi ^ e ∧ hi ≤ 2 * n + 2) (fun s hI => by
      obtain ⟨hi, rfl, h1, h2⟩ := hI
      have hr := p_raised k hi e (big hi h2) h
      by_cases c : hi ^ e ≤ n
      · have c' : ((hi ^ e : Nat) : Int) ≤ n := by omega
        have hle : hi ≤ n := Nat.le_trans (self hi) c
        have m : mulOk 2 (hi : Int) = true := by simp [mulOk]
        have ms : n + 1 - (((2 * hi : Nat) : Int)).toNat < n + 1 - ((hi : Int)).toNat := by omega
        generalize hi ^ e = q at hr c'
        exact .inr ⟨_, by simp [hr, c']; rfl, .inl ⟨⟨[some (.val (.int n)), some (.val (.int e)), some (.val (.int 0)), some (.val (.int ((2 * hi : Nat) : Int))), none], h⟩, by simp [m, bin_mulI], ⟨2 * hi, rfl, by omega, by omega⟩, by simp only [intAt_mk, List.getElem?_cons_succ, List.getElem?_cons_zero]; exact ms⟩⟩
      · have c' : ¬ ((hi ^ e : Nat) : Int) ≤ n := by omega
        have c2 : n < hi ^ e := by omega
        refine .inl ⟨⟨[some (.val (.int n)), some (.val (.int e)), some (.val (.int 0)), some (.val (.int hi)), none], h⟩, ?_, hi, rfl, c2, h2⟩
        generalize hi ^ e = q at *
        simp [hr, c'])
    ⟨[some (.val (.int n)), some (.val (.int e)), some (.val (.int 0)), some (.val (.int 1)), none], h⟩ ⟨1, rfl, by omega, by omega⟩
  obtain ⟨hi, e1, h1, h2⟩ := l1
  have l2 := ex_loop (Φ := Phi fs (k + 1)) (c := .cmp (.bin .sub (.var 3) (.var 2)) (.cons .gt (.cst (.int 1)) .nil)) (b := .cons (.set (.name 4) (.bin .fdiv (.bin .add (.var 2) (.var 3)) (.cst (.int 2))))
      (.cons (.ite (.cmp (.call "raised" (.cons (.var 4) (.cons (.var 1) .nil))) (.cons .le (.var 0) .nil)) (.cons (.set (.name 2) (.var 4)) .nil) (.cons (.set (.name 3) (.var 4)) .nil)) .nil))
    (fun s => ∃ (lo hi : Nat) (x : Option Sl), s = ⟨[some (.val (.int n)), some (.val (.int e)), some (.val (.int lo)), some (.val (.int hi)), x], h⟩ ∧ lo < hi ∧ lo ^ e ≤ n ∧ n < hi ^ e ∧ hi ≤ 2 * n + 2)
    (fun s => (intAt 3 s - intAt 2 s).toNat)
    (fun r => ∃ (lo : Nat) (x y : Option Sl), r = .next ⟨[some (.val (.int n)), some (.val (.int e)), some (.val (.int lo)), x, y], h⟩ ∧ lo ^ e ≤ n ∧ n < (lo + 1) ^ e) (fun s hI => by
      obtain ⟨lo, hi, x, rfl, h1, h2, h3, h4⟩ := hI
      by_cases c : 1 < hi - lo
      · have c' : (1 : Int) < (hi : Int) - lo := by omega
        obtain ⟨mid, hm⟩ : ∃ mid : Nat, (lo + hi) / 2 = mid := ⟨_, rfl⟩
        have d2 : divOk 2 = true := by decide
        have g2 : ((lo : Int) + hi).fdiv 2 = (mid : Int) := by rw [Int.fdiv_eq_ediv_of_nonneg _ (by omega)]; omega
        have hr := p_raised k mid e (big mid (by omega)) h
        refine .inr ⟨⟨[some (.val (.int n)), some (.val (.int e)), some (.val (.int lo)), some (.val (.int hi)), x], h⟩, by simp [c'], .inl ?_⟩
        by_cases c2 : mid ^ e ≤ n
        · have c2' : ((mid ^ e : Nat) : Int) ≤ n := by omega
          refine ⟨⟨[some (.val (.int n)), some (.val (.int e)), some (.val (.int mid)), some (.val (.int hi)), some (.val (.int mid))], h⟩, ?_, ⟨mid, hi, _, rfl, by omega, c2, h3, h4⟩, by simp; omega⟩
          generalize mid ^ e = q at *
          simp [g2, d2, bin_fdivI, hr, c2']
        · have c2' : ¬ ((mid ^ e : Nat) : Int) ≤ n := by omega
          have c3 : n < mid ^ e := by omega
          refine ⟨⟨[some (.val (.int n)), some (.val (.int e)), some (.val (.int lo)), some (.val (.int mid)), some (.val (.int mid))], h⟩, ?_, ⟨lo, mid, _, rfl, by omega, h2, c3, by omega⟩, by simp; omega⟩
          generalize mid ^ e = q at *
          simp [g2, d2, bin_fdivI, hr, c2']
      · have c' : ¬ (1 : Int) < (hi : Int) - lo := by omega
        have : hi = lo + 1 := by omega
        subst this
        exact .inl ⟨⟨[some (.val (.int n)), some (.val (.int e)), some (.val (.int lo)), some (.val (.int ((lo + 1 : Nat) : Int))), x], h⟩, by simp; omega, lo, _, _, rfl, h2, h3⟩)
    ⟨[some (.val (.int n)), some (.val (.int e)), some (.val (.int 0)), some (.val (.int hi)), none], h⟩ ⟨0, hi, none, rfl, by
      rcases Nat.eq_zero_or_pos hi with z | z
      · subst z; rw [Nat.zero_pow (by omega)] at h1; omega
      · exact z, by rw [Nat.zero_pow (by omega)]; omega, h1, h2⟩
  obtain ⟨lo, x, y, e2, h3, h4⟩ := l2
  refine ⟨lo, ?_, h3, h4⟩
  have c1 : ¬ ((n : Int) < 0) := by omega
  have c2 : ¬ ((e : Int) < 1) := by omega
  simp [f_root, TxtDef.def, startT, c1, c2, e1, e2]
def t3 (a b c : Int) : D := .tup [.int a, .int b, .int c]
theorem p_shared (k : Nat) (a b : Int) (ha : a.natAbs < 2 ^ 8000) (hb : b.natAbs < 2 ^ 8000) (h : List (List D)) :
    ∃ x y : Int, Phi fs (k + 2) "shared" [.int a, .int b] h = .ok (.val (.tup [.str "shared", .int a, .int b, .int (Nat.gcd a.natAbs b.natAbs : Nat), .int x, .int y])) h ∧ a * x + b * y = (Nat.gcd a.natAbs b.natAbs : Nat) ∧ x.natAbs ≤ b.natAbs + 1 ∧ y.natAbs ≤ a.natAbs + 1 := by
  rw [Phi_run lk_shared rfl]
  obtain ⟨A, hA⟩ : ∃ A, a.natAbs = A := ⟨_, rfl⟩
  obtain ⟨B, hB⟩ : ∃ B, b.natAbs = B := ⟨_, rfl⟩
  rw [hA] at ha
  rw [hB] at hb
  have l1 := ex_loop (Φ := Phi fs (k + 1)) (c := .cmp (.idx (.var 3) (.cst (.int 0))) (.cons .ne (.cst (.int 0)) .nil)) (b := .cons (.set (.name 4) (.bin .fdiv (.idx (.var 2) (.cst (.int 0))) (.idx (.var 3) (.cst (.int 0)))))
      (.cons (.set (.name 5) (.blt .tuple (.cons (.lc (.bin .sub (.var 6) (.bin .mul (.var 4) (.var 7))) (.tup [6, 7]) (.zip (.var 2) (.var 3)) .none) .nil))) (.cons (.par 2 3 (.var 3) (.var 5)) .nil)))
    (fun s => ∃ (r0 r1 S0 S1 T0 T1 : Nat) (sg : Int) (x y : Option Sl), s = ⟨[some (.val (.int a)), some (.val (.int b)), some (.val (t3 r0 (sg * S0) (-(sg * T0)))), some (.val (t3 r1 (-(sg * S1)) (sg * T1))), x, y, none, none], h⟩ ∧ (sg = 1 ∨ sg = -1) ∧
      S1 * r0 + S0 * r1 = B ∧ T1 * r0 + T0 * r1 = A ∧ Nat.gcd r0 r1 = Nat.gcd A B ∧ sg * S0 * A - sg * T0 * B = r0 ∧ sg * T1 * B - sg * S1 * A = r1 ∧ r0 < 2 ^ 8000 ∧ r1 < 2 ^ 8000 ∧ S0 ≤ B + 1 ∧ S1 ≤ B + 1 ∧ T0 ≤ A + 1 ∧ T1 ≤ A + 1)
    (fun s => match s.t[3]? with | some (some (Sl.val (D.tup [D.int r, _, _]))) => r.toNat | _ => 0)
    (fun r => ∃ (s t : Int) (n x y : Option Sl), r = .next ⟨[some (.val (.int a)), some (.val (.int b)), some (.val (t3 (Nat.gcd A B : Nat) s t)), n, x, y, none, none], h⟩ ∧ s * A + t * B = (Nat.gcd A B : Nat) ∧ s.natAbs ≤ B + 1 ∧ t.natAbs ≤ A + 1) (fun st hI => by
      obtain ⟨r0, r1, S0, S1, T0, T1, sg, x, y, rfl, hsg, h1, h2, h3, h4, h5, h6, h7, b1, b2, b3, b4⟩ := hI
      by_cases c : r1 = 0
      · subst c
        rw [Nat.gcd_zero_right] at h3
        subst h3
        exact .inl ⟨⟨[some (.val (.int a)), some (.val (.int b)), some (.val (t3 (Nat.gcd A B : Nat) (sg * S0) (-(sg * T0)))), some (.val (t3 (0 : Nat) (-(sg * S1)) (sg * T1))), x, y, none, none], h⟩, by simp [t3], _, _, _, _, _, rfl, by grind, by rcases hsg with rfl | rfl <;> omega, by rcases hsg with rfl | rfl <;> omega⟩
      · have c' : ¬ ((r1 : Int) = 0) := by omega
        refine .inr ⟨⟨[some (.val (.int a)), some (.val (.int b)), some (.val (t3 r0 (sg * S0) (-(sg * T0)))), some (.val (t3 r1 (-(sg * S1)) (sg * T1))), x, y, none, none], h⟩, by simp [t3, c], .inl ?_⟩
        obtain ⟨q, hq⟩ : ∃ q, r0 / r1 = q := ⟨_, rfl⟩
        obtain ⟨r2, hr2⟩ : ∃ r2, r0 % r1 = r2 := ⟨_, rfl⟩
        have dm : r1 * q + r2 = r0 := by rw [← hq, ← hr2]; exact Nat.div_add_mod r0 r1
        have lt : r2 < r1 := by rw [← hr2]; exact Nat.mod_lt _ (Nat.pos_of_ne_zero c)
        have fd : ((r0 : Int)).fdiv r1 = q := by rw [Int.fdiv_eq_ediv_of_nonneg _ (by omega)]; omega
        have lg : ∀ n : Nat, n < 2 ^ 8000 → n.log2 < 8001 := fun n hn => by
          by_cases z : n = 0
          · rw [z, Nat.log2_zero]; omega
          · have := (Nat.log2_lt z).mpr hn
            omega
        have dv : divOk (r1 : Int) = true := by
          simp only [divOk, Bool.and_eq_true, decide_eq_true_eq]
          have := lg r1 h7
          exact ⟨c', by simp only [Int.natAbs_natCast]; omega⟩
        have lift : ∀ n : Nat, n < 2 ^ 8000 → n < 2 ^ 400000 := fun n hn => Nat.lt_trans hn (Nat.pow_lt_pow_right (by omega) (by omega))
        have qr : q ≤ r0 := by rw [← hq]; exact Nat.div_le_self _ _
        have qb : q < 2 ^ 8000 := Nat.lt_of_le_of_lt qr h6
        have mk : ∀ z : Int, (q ≠ 0 → z.natAbs < 2 ^ 8000) → mulOk (q : Int) z = true := fun z hz => by
          by_cases q0 : q = 0
          · subst q0; simp [mulOk]
          · exact mulOk_lt (by simp only [Int.natAbs_natCast]; exact lift q qb) (lift _ (hz q0))
        have m0 : mulOk (q : Int) (r1 : Int) = true := mk _ fun _ => by simpa using h7
        have pos : q ≠ 0 → 1 ≤ r0 := fun z => by omega
        have s1 : q ≠ 0 → S1 ≤ B := fun z => by
          have : S1 * 1 ≤ S1 * r0 := Nat.mul_le_mul_left _ (pos z)
          omega
        have t1 : q ≠ 0 → T1 ≤ A := fun z => by
          have : T1 * 1 ≤ T1 * r0 := Nat.mul_le_mul_left _ (pos z)
          omega
        have m1 : mulOk (q : Int) (-(sg * S1)) = true := mk _ fun z => by
          have := s1 z
          rcases hsg with rfl | rfl
          · have e : (-(1 * (S1 : Int))).natAbs = S1 := by omega
            rw [e]; omega
          · have e : (-(-1 * (S1 : Int))).natAbs = S1 := by omega
            rw [e]; omega
        have m2 : mulOk (q : Int) (sg * T1) = true := mk _ fun z => by
          have := t1 z
          rcases hsg with rfl | rfl
          · have e : (1 * (T1 : Int)).natAbs = T1 := by omega
            rw [e]; omega
          · have e : (-1 * (T1 : Int)).natAbs = T1 := by omega
            rw [e]; omega
        have dmi : (r1 : Int) * q + r2 = r0 := by exact_mod_cast dm
        refine ⟨⟨[some (.val (.int a)), some (.val (.int b)), some (.val (t3 r1 (-(sg * S1)) (sg * T1))), some (.val (t3 (r0 - q * r1) (sg * S0 - q * (-(sg * S1))) (-(sg * T0) - q * (sg * T1)))), some (.val (.int q)), some (.val (t3 (r0 - q * r1) (sg * S0 - q * (-(sg * S1))) (-(sg * T0) - q * (sg * T1)))), none, none], h⟩, ?_, ⟨r1, r2, S1, S0 + q * S1, T1, T0 + q * T1, -sg, some (.val (.int q)), some (.val (t3 (r0 - q * r1) (sg * S0 - q * (-(sg * S1))) (-(sg * T0) - q * (sg * T1)))), ?_, ?_, ?_, ?_, ?_, ?_, ?_, ?_⟩, ?_⟩
        · simp [t3, fd, dv, bin_fdivI, zipD, lcR, lcGo, turnL, bindT, setAll, wipeT, backT, MT.ids, m0, m1, m2, bin_mulI, line]
        · have e1 : (r0 : Int) - q * r1 = r2 := by grind
          have e2 : sg * (S0 : Int) - q * (-(sg * S1)) = -(-sg * ((S0 + q * S1 : Nat) : Int)) := by push_cast; grind
          have e3 : -(sg * (T0 : Int)) - q * (sg * T1) = -sg * ((T0 + q * T1 : Nat) : Int) := by push_cast; grind
          have e4 : -(sg * (S1 : Int)) = -sg * S1 := by grind
          have e5 : sg * (T1 : Int) = -(-sg * T1) := by grind
          rw [e1, e2, e3, ← e4, ← e5]
        · rcases hsg with rfl | rfl
          · right; rfl
          · left; rfl
        · have : (S0 + q * S1) * r1 + S1 * r2 = S1 * r0 + S0 * r1 := by rw [← dm]; grind
          rw [this]; exact h1
        · have : (T0 + q * T1) * r1 + T1 * r2 = T1 * r0 + T0 * r1 := by rw [← dm]; grind
          rw [this]; exact h2
        · rw [← h3, ← hr2, Nat.gcd_comm r1, ← Nat.gcd_rec, Nat.gcd_comm]
        · push_cast; grind
        · push_cast; grind
        · have u1 : (S0 + q * S1) * r1 + S1 * r2 = S1 * r0 + S0 * r1 := by rw [← dm]; grind
          have u2 : (T0 + q * T1) * r1 + T1 * r2 = T1 * r0 + T0 * r1 := by rw [← dm]; grind
          have u3 : (S0 + q * S1) * 1 ≤ (S0 + q * S1) * r1 := Nat.mul_le_mul_left _ (by omega)
          have u4 : (T0 + q * T1) * 1 ≤ (T0 + q * T1) * r1 := Nat.mul_le_mul_left _ (by omega)
          exact ⟨h7, Nat.lt_trans lt h7, b2, by omega, b4, by omega⟩
        · have e1 : (r0 : Int) - q * r1 = r2 := by grind
          rw [e1]
          simpa [t3] using lt)
    ⟨[some (.val (.int a)), some (.val (.int b)), some (.val (t3 A 1 0)), some (.val (t3 B 0 1)), none, none, none, none], h⟩ ⟨A, B, 1, 0, 0, 1, 1, none, none, by simp, .inl rfl, by simp, by simp, rfl, by simp, by simp, ha, hb, by omega, by omega, by omega, by omega⟩
  obtain ⟨s, t, n, x, y, e1, h1, hs, ht⟩ := l1
  refine ⟨if a < 0 then 0 - s else s, if b < 0 then 0 - t else t, ?_, ?_, by rw [hB]; split <;> omega, by rw [hA]; split <;> omega⟩
  · simp only [hA, hB]
    have q1 := p_signed (k := k) a s h
    have q2 := p_signed (k := k) b t h
    simp only [t3] at e1
    simp [f_shared, TxtDef.def, startT, abs_if, hA, hB, e1, q1, q2]
  · rw [hA, hB, ← h1]
    have ea : (A : Int) = if a < 0 then -a else a := by rw [← hA]; split <;> omega
    have eb : (B : Int) = if b < 0 then -b else b := by rw [← hB]; split <;> omega
    rw [ea, eb]
    by_cases c1 : a < 0 <;> by_cases c2 : b < 0 <;> simp only [c1, c2, if_true, if_false] <;> grind
theorem p_line0 (k : Nat) (c : Int) (h : List (List D)) : Phi fs (k + 1) "line" [.int 0, .int 0, .int c] h = .exc 0 (.str "number") h := by
  rw [Phi_run lk_line rfl]
  have e : smallD (.str "number") = true := by decide
  simp [f_line, TxtDef.def, startT, e]
theorem p_line (k : Nat) (a b c : Int) (hab : a ≠ 0 ∨ b ≠ 0) (ha : a.natAbs < 2 ^ 8000) (hb : b.natAbs < 2 ^ 8000) (hc : c.natAbs < 2 ^ 8000) (h : List (List D)) :
    ∃ (g : Nat) (x y : Int), g = Nat.gcd a.natAbs b.natAbs ∧ a * x + b * y = g ∧ x.natAbs ≤ b.natAbs + 1 ∧ y.natAbs ≤ a.natAbs + 1 ∧
      Phi fs (k + 3) "line" [.int a, .int b, .int c] h = .ok (.val (if c.fmod g = 0 then .tup [.str "line", .int a, .int b, .int c, .int (c.fdiv g * x), .int (c.fdiv g * y), .int (b.fdiv g), .int (0 - a.fdiv g)] else .tup [.str "off", .int a, .int b, .int c, .int g])) h := by
  obtain ⟨x, y, e, he, hx, hy⟩ := p_shared k a b ha hb h
  obtain ⟨g, hg⟩ : ∃ g, Nat.gcd a.natAbs b.natAbs = g := ⟨_, rfl⟩
  rw [hg] at e he
  have gp : 0 < g := by
    rw [← hg]
    rcases hab with z | z
    · exact Nat.gcd_pos_of_pos_left _ (by omega)
    · exact Nat.gcd_pos_of_pos_right _ (by omega)
  have gl : g ≤ max a.natAbs b.natAbs := by
    rw [← hg]
    rcases hab with z | z
    · exact Nat.le_trans (Nat.gcd_le_left _ (by omega)) (Nat.le_max_left _ _)
    · exact Nat.le_trans (Nat.gcd_le_right _ (by omega)) (Nat.le_max_right _ _)
  refine ⟨g, x, y, hg.symm, he, hx, hy, ?_⟩
  rw [Phi_run lk_line rfl]
  have g0 : ¬ ((g : Int) = 0) := by omega
  have gb : g < 2 ^ 8000 := by omega
  have dv : divOk (g : Int) = true := by
    simp only [divOk, Bool.and_eq_true, decide_eq_true_eq]
    have : g.log2 < 8001 := by
      have := (Nat.log2_lt (by omega : g ≠ 0)).mpr gb
      omega
    exact ⟨g0, by simp only [Int.natAbs_natCast]; omega⟩
  have cq : (c.fdiv g).natAbs < 2 ^ 400000 := by
    have h1 : (c.fdiv g).natAbs ≤ c.natAbs + 1 := by
      rw [Int.fdiv_eq_ediv_of_nonneg _ (by omega)]
      have := Int.natAbs_ediv_le_natAbs c g
      omega
    have h2 : (2 : Nat) ^ 8000 + 1 ≤ 2 ^ 8001 := by
      rw [Nat.pow_succ]; have := Nat.pow_pos (n := 8000) (by omega : 0 < 2); omega
    have h3 : (2 : Nat) ^ 8001 < 2 ^ 400000 := Nat.pow_lt_pow_right (by omega) (by omega)
    omega
  have up : ∀ z : Int, z.natAbs ≤ 2 ^ 8000 + 1 → z.natAbs < 2 ^ 400000 := fun z hz => by
    have h2 : (2 : Nat) ^ 8000 + 2 ≤ 2 ^ 8002 := by
      rw [Nat.pow_add 2 8000 2]; have := Nat.pow_pos (n := 8000) (by omega : 0 < 2); omega
    have h3 : (2 : Nat) ^ 8002 < 2 ^ 400000 := Nat.pow_lt_pow_right (by omega) (by omega)
    omega
  have m1 : mulOk (c.fdiv g) x = true := mulOk_lt cq (up x (by omega))
  have m2 : mulOk (c.fdiv g) y = true := mulOk_lt cq (up y (by omega))
  have hz : ¬ (a = 0 ∧ b = 0) := by omega
  have g1 : ¬ g = 0 := by omega
  have b00 : a = 0 → ¬ b = 0 := fun z q => hz ⟨z, q⟩
  have bm : binD .mod (.int c) (.int (g : Int)) = some (.val (.int (c.fmod g))) := bin_modI g0
  have bf : ∀ z : Int, binD .fdiv (.int z) (.int (g : Int)) = some (.val (.int (z.fdiv g))) := fun z => bin_fdivI dv
  have n1 := bin_mulI m1
  have n2 := bin_mulI m2
  clear hx hy he hg gl m1 m2 cq up hc ha hb hab hz
  by_cases a0 : a = 0
  · have b0 := b00 a0
    subst a0
    by_cases c0 : c.fmod g = 0
    · simp [f_line, TxtDef.def, startT, b0, e, setAll, c0, bm, bf, n1, n2]
    · simp [f_line, TxtDef.def, startT, b0, e, setAll, c0, bm, bf, n1, n2]
  · by_cases c0 : c.fmod g = 0
    · simp [f_line, TxtDef.def, startT, a0, e, setAll, c0, bm, bf, n1, n2]
    · simp [f_line, TxtDef.def, startT, a0, e, setAll, c0, bm, bf, n1, n2]
/-- the i-th number with k corners -/
def cnum (k i : Int) : Int := ((k - 2) * i * i - (k - 4) * i).fdiv 2
theorem big_add {B : Nat} {i j : Int} (hi : i.natAbs < 2 ^ B) (hj : j.natAbs < 2 ^ B) : (i - j).natAbs < 2 ^ (B + 1) ∧ (i + j).natAbs < 2 ^ (B + 1) := by
  rw [Nat.pow_succ]; omega
theorem big_mul {A B : Nat} {i j : Int} (hi : i.natAbs < 2 ^ A) (hj : j.natAbs < 2 ^ B) : (i * j).natAbs < 2 ^ (A + B) := by
  rw [Int.natAbs_mul, Nat.pow_add]
  exact Nat.mul_lt_mul'' hi hj
theorem big_le {A B : Nat} {i : Int} (h : A ≤ B) (hi : i.natAbs < 2 ^ A) : i.natAbs < 2 ^ B := Nat.lt_of_lt_of_le hi (Nat.pow_le_pow_right (by omega) h)
theorem num_mul {k i : Int} (hk : k.natAbs < 2 ^ 9000) (hi : i.natAbs < 2 ^ 9000) : mulOk (k - 2) i = true ∧ mulOk ((k - 2) * i) i = true ∧ mulOk (k - 4) i = true := by
  have h2 : (k - 2).natAbs < 2 ^ 9001 := (big_add hk (big_le (A := 3) (by omega) (by decide))).1
  have h4 : (k - 4).natAbs < 2 ^ 9001 := (big_add hk (big_le (A := 3) (by omega) (by decide))).1
  exact ⟨mulOk_lt (big_le (by omega) h2) (big_le (by omega) hi), mulOk_lt (big_le (by omega) (big_mul h2 hi)) (big_le (by omega) hi), mulOk_lt (big_le (by omega) h4) (big_le (by omega) hi)⟩
theorem p_number (m : Nat) (k i : Int) (hk : k.natAbs < 2 ^ 9000) (hi : i.natAbs < 2 ^ 9000) (h : List (List D)) : Phi fs (m + 1) "_number" [.int k, .int i] h = .ok (.val (.int (cnum k i))) h := by
  rw [Phi_run lk__number rfl]
  obtain ⟨m1, m2, m3⟩ := num_mul hk hi
  have d2 : divOk 2 = true := by decide
  simp [f__number, TxtDef.def, startT, m1, m2, m3, bin_mulI, bin_fdivI, d2, cnum]
theorem p_lcorner (m : Nat) (k i : Int) (hk : k.natAbs < 2 ^ 9000) (hi : i.natAbs < 2 ^ 9000) (h : List (List D)) : Phi fs (m + 1) "_law_corner" [.int k, .int i] h = .ok (.val (.int (cnum k i))) h := by
  rw [Phi_run lk__law_corner rfl]
  obtain ⟨m1, m2, m3⟩ := num_mul hk hi
  have d2 : divOk 2 = true := by decide
  simp [f__law_corner, TxtDef.def, startT, m1, m2, m3, bin_mulI, bin_fdivI, d2, cnum]
theorem p_corner_number (m : Nat) (k i : Int) (hk : k.natAbs < 2 ^ 9000) (hi : i.natAbs < 2 ^ 9000) (h : List (List D)) : Phi fs (m + 2) "corner_number" [.int k, .int i] h = if k < 3 ∨ i < 0 then .exc 0 (.str "number") h else .ok (.val (.int (cnum k i))) h := by
  rw [Phi_run lk_corner_number rfl]
  have e : smallD (.str "number") = true := by decide
  have n := p_number m k i hk hi h
  by_cases c1 : k < 3
  · simp [f_corner_number, TxtDef.def, startT, c1, e]
  · by_cases c2 : i < 0
    · simp [f_corner_number, TxtDef.def, startT, c1, c2, e]
    · simp [f_corner_number, TxtDef.def, startT, c1, c2, n]
/-- what both judges of a line say -/
def offB (a b c g : Int) : Bool := if a = 0 ∧ b = 0 then false else dvB g a && dvB g b && !dvB g c
def lineB (a b c x y u v : Int) : Bool := if a = 0 ∧ b = 0 then false else decide (a * x + b * y = c) && decide (a * u + b * v = 0) && (Nat.gcd u.natAbs v.natAbs == 1)
theorem p_line_off (m : Nat) (a b c g : Int) (h : List (List D)) : Phi fs (m + 2) "line_right" [.tup [.str "off", .int a, .int b, .int c, .int g]] h = .ok (.val (.bl (offB a b c g))) h := by
  rw [Phi_run lk_line_right rfl]
  have s1 : PyData.canLay0 (.str "off") = true := by decide +kernel
  have d1 := p_divides m g a h
  have d2 := p_divides m g b h
  have d3 := p_divides m g c h
  by_cases a0 : a = 0
  · by_cases b0 : b = 0
    · subst a0; subst b0
      simp [f_line_right, TxtDef.def, startT, cutD, sEnd, setAll, offB]
    · cases e1 : dvB g a <;> cases e2 : dvB g b <;> cases e3 : dvB g c <;> rw [e1] at d1 <;> rw [e2] at d2 <;> rw [e3] at d3 <;> subst a0 <;> simp [f_line_right, TxtDef.def, startT, cutD, sEnd, setAll, offB, b0, s1, d1, d2, d3, e1, e2, e3]
  · cases e1 : dvB g a <;> cases e2 : dvB g b <;> cases e3 : dvB g c <;> rw [e1] at d1 <;> rw [e2] at d2 <;> rw [e3] at d3 <;> simp [f_line_right, TxtDef.def, startT, cutD, sEnd, setAll, offB, a0, s1, d1, d2, d3, e1, e2, e3]
theorem p_lline_off (m : Nat) (a b c g : Int) (h : List (List D)) : Phi fs (m + 2) "_law_line_right" [.tup [.str "off", .int a, .int b, .int c, .int g]] h = .ok (.val (.bl (offB a b c g))) h := by
  rw [Phi_run lk__law_line_right rfl]
  have s1 : PyData.canLay0 (.str "off") = true := by decide +kernel
  have d1 := p_ldivides m g a h
  have d2 := p_ldivides m g b h
  have d3 := p_ldivides m g c h
  by_cases a0 : a = 0
  · by_cases b0 : b = 0
    · subst a0; subst b0
      simp [f__law_line_right, TxtDef.def, startT, cutD, sEnd, setAll, offB]
    · cases e1 : dvB g a <;> cases e2 : dvB g b <;> cases e3 : dvB g c <;> rw [e1] at d1 <;> rw [e2] at d2 <;> rw [e3] at d3 <;> subst a0 <;> simp [f__law_line_right, TxtDef.def, startT, cutD, sEnd, setAll, offB, b0, s1, d1, d2, d3, e1, e2, e3]
  · cases e1 : dvB g a <;> cases e2 : dvB g b <;> cases e3 : dvB g c <;> rw [e1] at d1 <;> rw [e2] at d2 <;> rw [e3] at d3 <;> simp [f__law_line_right, TxtDef.def, startT, cutD, sEnd, setAll, offB, a0, s1, d1, d2, d3, e1, e2, e3]
theorem cmp_eqZ (i : Int) : cmpD .eq (.int i) (.int 0) = some (decide (i = 0)) := cmp_eqI i 0
theorem p_line_line (m : Nat) (a b c x y u v : Int) (ha : a.natAbs < 2 ^ 9000) (hb : b.natAbs < 2 ^ 9000) (hx : x.natAbs < 2 ^ 20000) (hy : y.natAbs < 2 ^ 20000) (hu : u.natAbs < 2 ^ 9000) (hv : v.natAbs < 2 ^ 9000) (h : List (List D)) :
    Phi fs (m + 2) "line_right" [.tup [.str "line", .int a, .int b, .int c, .int x, .int y, .int u, .int v]] h = .ok (.val (.bl (lineB a b c x y u v))) h := by
  rw [Phi_run lk_line_right rfl]
  have s1 : PyData.canLay0 (.str "off") = true := by decide +kernel
  have s2 : PyData.canLay0 (.str "line") = true := by decide +kernel
  have s3 : (("line" : Str) == ("off" : Str)) = false := by decide +kernel
  have g1 := p_gcd m u v h
  have n1 := bin_mulI (mulOk_lt (big_le (by omega) ha) (big_le (by omega) hx) : mulOk a x = true)
  have n2 := bin_mulI (mulOk_lt (big_le (by omega) hb) (big_le (by omega) hy) : mulOk b y = true)
  have n3 := bin_mulI (mulOk_lt (big_le (by omega) ha) (big_le (by omega) hu) : mulOk a u = true)
  have n4 := bin_mulI (mulOk_lt (big_le (by omega) hb) (big_le (by omega) hv) : mulOk b v = true)
  clear ha hb hx hy hu hv
  obtain ⟨q, hq⟩ : ∃ q, Nat.gcd u.natAbs v.natAbs = q := ⟨_, rfl⟩
  rw [hq] at g1
  have go : ∀ (k1 k2 k3 : Bool), decide (a * x + b * y = c) = k1 → decide (a * u + b * v = 0) = k2 → (q == 1) = k3 → ¬ (a = 0 ∧ b = 0) → lineB a b c x y u v = (k1 && k2 && k3) := fun k1 k2 k3 e1 e2 e3 hz => by
    unfold lineB
    rw [if_neg hz, hq, e1, e2, e3]
  by_cases z : a = 0 ∧ b = 0
  · obtain ⟨rfl, rfl⟩ := z
    simp [f_line_right, TxtDef.def, startT, cutD, sEnd, setAll, lineB]
  · obtain ⟨k1, e1⟩ : ∃ k1, decide (a * x + b * y = c) = k1 := ⟨_, rfl⟩
    obtain ⟨k2, e2⟩ : ∃ k2, decide (a * u + b * v = 0) = k2 := ⟨_, rfl⟩
    obtain ⟨k3, e3⟩ : ∃ k3, (q == 1) = k3 := ⟨_, rfl⟩
    rw [go k1 k2 k3 e1 e2 e3 z]
    have w1 : cmpD .eq (.int (a * x + b * y)) (.int c) = some k1 := by rw [cmp_eqI, e1]
    have w2 : cmpD .eq (.int (a * u + b * v)) (.int 0) = some k2 := by rw [cmp_eqI, e2]
    have w3 : cmpD .eq (.int (q : Int)) (.int 1) = some k3 := by
      rw [cmp_eqI, ← e3]
      have : decide ((q : Int) = 1) = (q == 1) := by
        by_cases z : q = 1
        · subst z; rfl
        · have z2 : ¬ ((q : Int) = 1) := by omega
          simp [z, z2]
      rw [this]
    have w0 : ∀ (Φ : Fns) (s : S), (kEvB Φ true (.cons (.cmp (.var 2) (.cons .eq (.cst (.int 0)) .nil)) .nil) (decide (a = 0)) s) = if a = 0 then evB Φ true (.cons (.cmp (.var 2) (.cons .eq (.cst (.int 0)) .nil)) .nil) s else .ok false s := fun Φ s => by
      by_cases z : a = 0 <;> simp [z]
    clear e1 e2 e3 go hq
    by_cases a0 : a = 0
    · have b0 : ¬ b = 0 := fun q => z ⟨a0, q⟩
      subst a0
      simp only [Int.zero_mul, Int.zero_add] at w1 w2 n1 n3
      cases k1 <;> cases k2 <;> simp [f_line_right, TxtDef.def, startT, cutD, sEnd, setAll, b0, s1, s2, s3, g1, n1, n2, n3, n4, w1, w2, w3, -cmp_eqI, cmp_eqZ]
    · cases k1 <;> cases k2 <;> simp [f_line_right, TxtDef.def, startT, cutD, sEnd, setAll, a0, s1, s2, s3, g1, n1, n2, n3, n4, w1, w2, w3, -cmp_eqI, cmp_eqZ]
theorem p_lline_line (m : Nat) (a b c x y u v : Int) (ha : a.natAbs < 2 ^ 9000) (hb : b.natAbs < 2 ^ 9000) (hx : x.natAbs < 2 ^ 20000) (hy : y.natAbs < 2 ^ 20000) (hu : u.natAbs < 2 ^ 9000) (hv : v.natAbs < 2 ^ 9000) (h : List (List D)) :
    Phi fs (m + 2) "_law_line_right" [.tup [.str "line", .int a, .int b, .int c, .int x, .int y, .int u, .int v]] h = .ok (.val (.bl (lineB a b c x y u v))) h := by
  rw [Phi_run lk__law_line_right rfl]
  have s1 : PyData.canLay0 (.str "off") = true := by decide +kernel
  have s2 : PyData.canLay0 (.str "line") = true := by decide +kernel
  have s3 : (("line" : Str) == ("off" : Str)) = false := by decide +kernel
  have g1 := lgcd1 (k := m) lk__law_gcd u v (by
    by_cases z : v.natAbs = 0
    · rw [z]; decide
    · have := (Nat.log2_lt z).mpr hv; omega) h
  have n1 := bin_mulI (mulOk_lt (big_le (by omega) ha) (big_le (by omega) hx) : mulOk a x = true)
  have n2 := bin_mulI (mulOk_lt (big_le (by omega) hb) (big_le (by omega) hy) : mulOk b y = true)
  have n3 := bin_mulI (mulOk_lt (big_le (by omega) ha) (big_le (by omega) hu) : mulOk a u = true)
  have n4 := bin_mulI (mulOk_lt (big_le (by omega) hb) (big_le (by omega) hv) : mulOk b v = true)
  clear ha hb hx hy hu hv
  obtain ⟨q, hq⟩ : ∃ q, Nat.gcd u.natAbs v.natAbs = q := ⟨_, rfl⟩
  rw [hq] at g1
  have go : ∀ (k1 k2 k3 : Bool), decide (a * x + b * y = c) = k1 → decide (a * u + b * v = 0) = k2 → (q == 1) = k3 → ¬ (a = 0 ∧ b = 0) → lineB a b c x y u v = (k1 && k2 && k3) := fun k1 k2 k3 e1 e2 e3 hz => by
    unfold lineB
    rw [if_neg hz, hq, e1, e2, e3]
  by_cases z : a = 0 ∧ b = 0
  · obtain ⟨rfl, rfl⟩ := z
    simp [f__law_line_right, TxtDef.def, startT, cutD, sEnd, setAll, lineB]
  · obtain ⟨k1, e1⟩ : ∃ k1, decide (a * x + b * y = c) = k1 := ⟨_, rfl⟩
    obtain ⟨k2, e2⟩ : ∃ k2, decide (a * u + b * v = 0) = k2 := ⟨_, rfl⟩
    obtain ⟨k3, e3⟩ : ∃ k3, (q == 1) = k3 := ⟨_, rfl⟩
    rw [go k1 k2 k3 e1 e2 e3 z]
    have w1 : cmpD .eq (.int (a * x + b * y)) (.int c) = some k1 := by rw [cmp_eqI, e1]
    have w2 : cmpD .eq (.int (a * u + b * v)) (.int 0) = some k2 := by rw [cmp_eqI, e2]
    have w3 : cmpD .eq (.int (q : Int)) (.int 1) = some k3 := by
      rw [cmp_eqI, ← e3]
      have : decide ((q : Int) = 1) = (q == 1) := by
        by_cases z : q = 1
        · subst z; rfl
        · have z2 : ¬ ((q : Int) = 1) := by omega
          simp [z, z2]
      rw [this]
    have w0 : ∀ (Φ : Fns) (s : S), (kEvB Φ true (.cons (.cmp (.var 2) (.cons .eq (.cst (.int 0)) .nil)) .nil) (decide (a = 0)) s) = if a = 0 then evB Φ true (.cons (.cmp (.var 2) (.cons .eq (.cst (.int 0)) .nil)) .nil) s else .ok false s := fun Φ s => by
      by_cases z : a = 0 <;> simp [z]
    clear e1 e2 e3 go hq
    by_cases a0 : a = 0
    · have b0 : ¬ b = 0 := fun q => z ⟨a0, q⟩
      subst a0
      simp only [Int.zero_mul, Int.zero_add] at w1 w2 n1 n3
      cases k1 <;> cases k2 <;> simp [f__law_line_right, TxtDef.def, startT, cutD, sEnd, setAll, b0, s1, s2, s3, g1, n1, n2, n3, n4, w1, w2, w3, -cmp_eqI, cmp_eqZ]
    · cases k1 <;> cases k2 <;> simp [f__law_line_right, TxtDef.def, startT, cutD, sEnd, setAll, a0, s1, s2, s3, g1, n1, n2, n3, n4, w1, w2, w3, -cmp_eqI, cmp_eqZ]
end K44

namespace K44
open PySem PI
theorem cnum_two (k : Int) (i : Nat) : 2 * cnum k i = (k - 2) * i * i - (k - 4) * i := by
  unfold cnum
  have h : ((k - 2) * (i : Int) * i - (k - 4) * i) % 2 = 0 := by
    have e : (k - 2) * (i : Int) * i - (k - 4) * i = (k - 2) * ((i : Int) * (i - 1)) + 2 * i := by grind
    have h2 : ((i : Int) * (i - 1)) % 2 = 0 := by
      rcases (by omega : (i : Int) % 2 = 0 ∨ (i : Int) % 2 = 1) with z | z
      · rw [Int.mul_emod, z]; simp
      · have : ((i : Int) - 1) % 2 = 0 := by omega
        rw [Int.mul_emod, this]; simp
    rw [e, Int.add_emod, Int.mul_emod, h2]
    simp
  rw [Int.fdiv_eq_ediv_of_nonneg _ (by omega)]
  omega
theorem cnum_succ (k : Int) (i : Nat) : cnum k ((i + 1 : Nat) : Int) = cnum k i + (k - 2) * i + 1 := by
  have h1 := cnum_two k i
  have h2 := cnum_two k (i + 1)
  push_cast at h2 ⊢
  have : 2 * cnum k ((i : Int) + 1) = 2 * (cnum k i + (k - 2) * i + 1) := by rw [h2]; grind
  omega
theorem cnum_zero (k : Int) : cnum k 0 = 0 := by simp [cnum]
theorem cnum_step {k : Int} (hk : 3 ≤ k) (i : Nat) : cnum k i + 1 ≤ cnum k ((i + 1 : Nat) : Int) := by
  rw [cnum_succ]
  have : 0 ≤ (k - 2) * (i : Int) := Int.mul_nonneg (by omega) (by omega)
  omega
theorem cnum_ge {k : Int} (hk : 3 ≤ k) : ∀ i : Nat, (i : Int) ≤ cnum k i
  | 0 => by rw [show ((0 : Nat) : Int) = 0 from rfl, cnum_zero]; omega
  | i + 1 => by
    have := cnum_ge hk i
    have := cnum_step hk i
    omega
theorem p_corner (m : Nat) (k : Int) (n : Nat) (hk : 3 ≤ k) (hkb : k.natAbs < 2 ^ 9000) (hn : n < 2 ^ 8000) (h : List (List D)) :
    ∃ i : Nat, Phi fs (m + 2) "corner" [.int k, .int n] h = .ok (.val (if cnum k i = n then .tup [.str "corner", .int k, .int n, .int i] else .tup [.str "nocorner", .int k, .int n, .int i])) h ∧ cnum k i ≤ n ∧ (n : Int) < cnum k ((i + 1 : Nat) : Int) ∧ i ≤ n := by
  rw [Phi_run lk_corner rfl]
  have pn : ∀ hi : Nat, hi ≤ 2 * n + 2 → Phi fs (m + 1) "_number" [.int k, .int hi] h = .ok (.val (.int (cnum k hi))) h := fun hi hh => p_number m k hi hkb (by
    have h2 : (2 : Nat) ^ 8000 * 4 ≤ 2 ^ 9000 := by rw [show (4 : Nat) = 2 ^ 2 from rfl, ← Nat.pow_add]; exact Nat.pow_le_pow_right (by omega) (by omega)
    simp only [Int.natAbs_natCast]; omega) h
  have l1 := ex_loop (Φ := Phi fs (m + 1)) (c := .cmp (.call "_number" (.cons (.var 0) (.cons (.var 3) .nil))) (.cons .le (.var 1) .nil)) (b := .cons (.set (.name 3) (.bin .mul (.cst (.int 2)) (.var 3))) .nil)
    (fun s => ∃ hi : Nat, s = ⟨[some (.val (.int k)), some (.val (.int n)), some (.val (.int 0)), some (.val (.int hi)), none], h⟩ ∧ 1 ≤ hi ∧ hi ≤ 2 * n + 2)
    (fun s => n + 1 - (intAt 3 s).toNat)
    (fun r => ∃ hi : Nat, r = .next ⟨[some (.val (.int k)), some (.val (.int n)), some (.val (.int 0)), some (.val (.int hi)), none], h⟩ ∧ (n : Int) < cnum k hi ∧ hi ≤ 2 * n + 2) (fun s hI => by
      obtain ⟨hi, rfl, h1, h2⟩ := hI
      have hr := pn hi h2
      have hg := cnum_ge hk hi
      by_cases c : cnum k hi ≤ n
      · have m2 : binD .mul (.int 2) (.int (hi : Int)) = some (.val (.int (2 * hi))) := bin_mulI (by simp [mulOk])
        have ms : n + 1 - (((2 * hi : Nat) : Int)).toNat < n + 1 - ((hi : Int)).toNat := by omega
        refine .inr ⟨⟨[some (.val (.int k)), some (.val (.int n)), some (.val (.int 0)), some (.val (.int hi)), none], h⟩, by simp [hr, c], .inl ⟨⟨[some (.val (.int k)), some (.val (.int n)), some (.val (.int 0)), some (.val (.int ((2 * hi : Nat) : Int))), none], h⟩, by simp [m2], ⟨2 * hi, rfl, by omega, by omega⟩, by simp only [intAt_mk, List.getElem?_cons_succ, List.getElem?_cons_zero]; exact ms⟩⟩
      · exact .inl ⟨⟨[some (.val (.int k)), some (.val (.int n)), some (.val (.int 0)), some (.val (.int hi)), none], h⟩, by simp [hr, c], hi, rfl, by omega, h2⟩)
    ⟨[some (.val (.int k)), some (.val (.int n)), some (.val (.int 0)), some (.val (.int 1)), none], h⟩ ⟨1, rfl, by omega, by omega⟩
  obtain ⟨hi, e1, h1, h2⟩ := l1
  have l2 := ex_loop (Φ := Phi fs (m + 1)) (c := .cmp (.bin .sub (.var 3) (.var 2)) (.cons .gt (.cst (.int 1)) .nil)) (b := .cons (.set (.name 4) (.bin .fdiv (.bin .add (.var 2) (.var 3)) (.cst (.int 2))))
      (.cons (.ite (.cmp (.call "_number" (.cons (.var 0) (.cons (.var 4) .nil))) (.cons .le (.var 1) .nil)) (.cons (.set (.name 2) (.var 4)) .nil) (.cons (.set (.name 3) (.var 4)) .nil)) .nil))
    (fun s => ∃ (lo hi : Nat) (x : Option Sl), s = ⟨[some (.val (.int k)), some (.val (.int n)), some (.val (.int lo)), some (.val (.int hi)), x], h⟩ ∧ lo < hi ∧ cnum k lo ≤ n ∧ (n : Int) < cnum k hi ∧ hi ≤ 2 * n + 2)
    (fun s => (intAt 3 s - intAt 2 s).toNat)
    (fun r => ∃ (lo : Nat) (x y : Option Sl), r = .next ⟨[some (.val (.int k)), some (.val (.int n)), some (.val (.int lo)), x, y], h⟩ ∧ cnum k lo ≤ n ∧ (n : Int) < cnum k ((lo + 1 : Nat) : Int)) (fun s hI => by
      obtain ⟨lo, hi, x, rfl, h1, h2, h3, h4⟩ := hI
      by_cases c : 1 < hi - lo
      · have c' : (1 : Int) < (hi : Int) - lo := by omega
        obtain ⟨mid, hm⟩ : ∃ mid : Nat, (lo + hi) / 2 = mid := ⟨_, rfl⟩
        have d2 : divOk 2 = true := by decide
        have g2 : ((lo : Int) + hi).fdiv 2 = (mid : Int) := by rw [Int.fdiv_eq_ediv_of_nonneg _ (by omega)]; omega
        have hr := pn mid (by omega)
        refine .inr ⟨⟨[some (.val (.int k)), some (.val (.int n)), some (.val (.int lo)), some (.val (.int hi)), x], h⟩, by simp [c'], .inl ?_⟩
        by_cases c2 : cnum k mid ≤ n
        · refine ⟨⟨[some (.val (.int k)), some (.val (.int n)), some (.val (.int mid)), some (.val (.int hi)), some (.val (.int mid))], h⟩, ?_, ⟨mid, hi, _, rfl, by omega, c2, h3, h4⟩, by simp; omega⟩
          simp [g2, d2, bin_fdivI, hr, c2]
        · refine ⟨⟨[some (.val (.int k)), some (.val (.int n)), some (.val (.int lo)), some (.val (.int mid)), some (.val (.int mid))], h⟩, ?_, ⟨lo, mid, _, rfl, by omega, h2, by omega, by omega⟩, by simp; omega⟩
          simp [g2, d2, bin_fdivI, hr, c2]
      · have c' : ¬ (1 : Int) < (hi : Int) - lo := by omega
        have : hi = lo + 1 := by omega
        subst this
        exact .inl ⟨⟨[some (.val (.int k)), some (.val (.int n)), some (.val (.int lo)), some (.val (.int ((lo + 1 : Nat) : Int))), x], h⟩, by simp; omega, lo, _, _, rfl, h2, h3⟩)
    ⟨[some (.val (.int k)), some (.val (.int n)), some (.val (.int 0)), some (.val (.int hi)), none], h⟩ ⟨0, hi, none, rfl, by
      rcases Nat.eq_zero_or_pos hi with z | z
      · subst z; rw [show ((0 : Nat) : Int) = 0 from rfl, cnum_zero] at h1; omega
      · exact z, by rw [show ((0 : Nat) : Int) = 0 from rfl, cnum_zero]; omega, h1, h2⟩
  obtain ⟨lo, x, y, e2, h3, h4⟩ := l2
  have hlo : lo ≤ n := by have := cnum_ge hk lo; omega
  refine ⟨lo, ?_, h3, h4, hlo⟩
  have c1 : ¬ (k < 3) := by omega
  have c2 : ¬ ((n : Int) < 0) := by omega
  have hr := pn lo (by omega)
  by_cases c3 : cnum k lo = n
  · simp [f_corner, TxtDef.def, startT, c1, c2, e1, e2, hr, c3]
  · simp [f_corner, TxtDef.def, startT, c1, c2, e1, e2, hr, c3]
end K44

namespace K44
open PySem PI
/-! ### the rests of the great twos -/
def ll (M : Int) : Nat → Int
  | 0 => (4 : Int).fmod M
  | j + 1 => (ll M j ^ 2 - 2).fmod M
def lls (M : Int) (n : Nat) : List D := (List.range n).map fun j => D.int (ll M j)
theorem lls_len (M : Int) (n : Nat) : (lls M n).length = n := by simp [lls]
theorem lls_succ (M : Int) (n : Nat) : lls M (n + 1) = lls M n ++ [.int (ll M n)] := by simp [lls, List.range_succ]
theorem lls_last (M : Int) (n : Nat) : (lls M (n + 1)).getLast? = some (.int (ll M n)) := by rw [lls_succ]; simp
theorem ll_bound {M : Int} (hM : 0 < M) : ∀ j, 0 ≤ ll M j ∧ ll M j < M
  | 0 => ⟨Int.fmod_nonneg_of_pos _ hM, Int.fmod_lt_of_pos _ hM⟩
  | j + 1 => ⟨Int.fmod_nonneg_of_pos _ hM, Int.fmod_lt_of_pos _ hM⟩
def lenAt (i : Nat) (s : S) : Nat := match ownAt s.t i with | some ds => ds.length | none => 0
theorem p_rests (m : Nat) (p : Nat) (hp : 2 ≤ p) (hp2 : p ≤ 10000) (h : List (List D)) : Phi fs (m + 2) "_rests" [.int p] h = .ok (.val (.tup (lls (2 ^ p - 1) (p - 1)))) h := by
  rw [Phi_run lk__rests rfl]
  obtain ⟨M, hM⟩ : ∃ M : Int, M = 2 ^ p - 1 := ⟨_, rfl⟩
  have h4 : (4 : Nat) ≤ 2 ^ p := by
    have := Nat.pow_le_pow_right (by omega : 0 < 2) hp
    omega
  have h4' : (4 : Int) ≤ 2 ^ p := by exact_mod_cast h4
  have hM0 : 0 < M := by omega
  have hMb : M < 2 ^ p := by omega
  have pr : Phi fs (m + 1) "raised" [.int 2, .int p] h = .ok (.val (.int (2 ^ p))) h := by
    have := p_raised m 2 p (Nat.pow_lt_pow_right (by omega) (by omega)) h
    simpa using this
  have hmod : M ≠ 0 := by omega
  have bm : ∀ z : Int, binD .mod (.int z) (.int M) = some (.val (.int (z.fmod M))) := fun z => bin_modI hmod
  have bp : ∀ j, binD .pow (.int (ll M j)) (.int 2) = some (.val (.int (ll M j ^ 2))) := fun j => bin_powI (by
    have hb := ll_bound hM0 j
    have e : (ll M j).natAbs < 2 ^ p := by
      have : ((ll M j).natAbs : Int) < ((2 ^ p : Nat) : Int) := by push_cast; omega
      exact_mod_cast this
    have l : (ll M j).natAbs.log2 < 100000 := by
      by_cases z : (ll M j).natAbs = 0
      · rw [z]; decide
      · have := (Nat.log2_lt z).mpr e; omega
    simp only [powOk, Bool.and_eq_true, Bool.or_eq_true, decide_eq_true_eq]
    exact ⟨by omega, .inr ⟨by omega, l⟩⟩)
  have l1 := ex_loop (Φ := Phi fs (m + 1)) (c := .cmp (.blt .len (.cons (.var 2) .nil)) (.cons .lt (.bin .sub (.var 0) (.cst (.int 1))) .nil)) (b := .cons (.app (.var 2) (.bin .mod (.bin .sub (.bin .pow (.idx (.var 2) (.neg (.cst (.int 1)))) (.cst (.int 2))) (.cst (.int 2))) (.var 1))) .nil)
    (fun s => ∃ n : Nat, s = ⟨[some (.val (.int p)), some (.val (.int M)), some (.own (lls M (n + 1)))], h⟩ ∧ n + 1 ≤ p - 1)
    (fun s => p - lenAt 2 s)
    (fun r => r = .next ⟨[some (.val (.int p)), some (.val (.int M)), some (.own (lls M (p - 1)))], h⟩) (fun s hI => by
      obtain ⟨n, rfl, h1⟩ := hI
      have ll1 := lls_len M (n + 1)
      have la := lls_last M n
      by_cases c : n + 1 < p - 1
      · have c' : ((n : Int) + 1 < (p : Int) - 1) := by omega
        have lt : (lls M (n + 1)).length < line := by rw [ll1]; unfold line; omega
        refine .inr ⟨⟨[some (.val (.int p)), some (.val (.int M)), some (.own (lls M (n + 1)))], h⟩, by simp [ll1, c'], .inl ⟨⟨[some (.val (.int p)), some (.val (.int M)), some (.own (lls M (n + 1 + 1)))], h⟩, ?_, ⟨n + 1, rfl, by omega⟩, by simp [lenAt, ownAt, lls_len]; omega⟩⟩
        rw [lls_succ M (n + 1)]
        simp [la, bp, bm, ownAt, lt, ll]
      · have c' : ¬ ((n : Int) + 1 < (p : Int) - 1) := by omega
        have e : n + 1 = p - 1 := by omega
        rw [← e]
        exact .inl ⟨_, by simp [ll1, c'], rfl⟩)
    ⟨[some (.val (.int p)), some (.val (.int M)), some (.own (lls M 1))], h⟩ ⟨0, rfl, by omega⟩
  have e0 : lls M 1 = [.int ((4 : Int).fmod M)] := rfl
  rw [e0] at l1
  rw [← hM]
  simp [f__rests, TxtDef.def, startT, pr, ← hM, bm, l1]
theorem p_lrests (m : Nat) (p : Nat) (hp : 2 ≤ p) (hp2 : p ≤ 10000) (h : List (List D)) : Phi fs (m + 1) "_law_rests" [.int p] h = .ok (.val (.tup (lls (2 ^ p - 1) (p - 1)))) h := by
  rw [Phi_run lk__law_rests rfl]
  obtain ⟨M, hM⟩ : ∃ M : Int, M = 2 ^ p - 1 := ⟨_, rfl⟩
  have h4 : (4 : Nat) ≤ 2 ^ p := by
    have := Nat.pow_le_pow_right (by omega : 0 < 2) hp
    omega
  have h4' : (4 : Int) ≤ 2 ^ p := by exact_mod_cast h4
  have hM0 : 0 < M := by omega
  have hmod : M ≠ 0 := by omega
  have bm : ∀ z : Int, binD .mod (.int z) (.int M) = some (.val (.int (z.fmod M))) := fun z => bin_modI hmod
  have bp : ∀ j, binD .mul (.int (ll M j)) (.int (ll M j)) = some (.val (.int (ll M j * ll M j))) := fun j => bin_mulI (by
    have hb := ll_bound hM0 j
    have e : (ll M j).natAbs < 2 ^ p := by
      have : ((ll M j).natAbs : Int) < ((2 ^ p : Nat) : Int) := by push_cast; omega
      exact_mod_cast this
    exact mulOk_lt (big_le (by omega) e) (big_le (by omega) e))
  have b2 : ∀ z : Int, binD .mul (.int 2) (.int z) = some (.val (.int (2 * z))) := fun z => bin_mulI (by simp [mulOk])
  have l1 := forR_inv (Φ := Phi fs m) (t := .name 2) (b := .cons (.set (.name 1) (.bin .mul (.cst (.int 2)) (.var 1))) .nil) (rangeD 0 p)
    (fun i s => ∃ x, s = ⟨[some (.val (.int p)), some (.val (.int (2 ^ i))), x, none], h⟩) (fun r => ∃ x, r = .next ⟨[some (.val (.int p)), some (.val (.int (2 ^ p))), x, none], h⟩) (fun i d s e hI => by
      obtain ⟨x, rfl⟩ := hI
      have : (2 : Int) ^ (i + 1) = 2 * 2 ^ i := by rw [Int.pow_succ]; omega
      simp [bindT, b2, this]) (fun s hI => by
      obtain ⟨x, rfl⟩ := hI
      rw [range_len]
      exact ⟨x, rfl⟩) ⟨[some (.val (.int p)), some (.val (.int 1)), none, none], h⟩ ⟨none, by simp⟩
  obtain ⟨x, e1⟩ := l1
  have l2 := forR_inv (Φ := Phi fs m) (t := .name 2) (b := .cons (.app (.var 3) (.bin .mod (.blt .int (.cons (.bin .sub (.bin .mul (.idx (.var 3) (.neg (.cst (.int 1)))) (.idx (.var 3) (.neg (.cst (.int 1))))) (.cst (.int 2))) .nil)) (.var 1))) .nil) (rangeD 0 (p - 2))
    (fun i s => ∃ x, s = ⟨[some (.val (.int p)), some (.val (.int M)), x, some (.own (lls M (i + 1)))], h⟩) (fun r => ∃ x, r = .next ⟨[some (.val (.int p)), some (.val (.int M)), x, some (.own (lls M (p - 1)))], h⟩) (fun i d s e hI => by
      obtain ⟨x, rfl⟩ := hI
      obtain ⟨_, hi⟩ := range_get _ _ _ _ e
      have lt : (lls M (i + 1)).length < line := by rw [lls_len]; unfold line; omega
      have la := lls_last M i
      have sq : ll M i * ll M i = ll M i ^ 2 := by grind
      rw [lls_succ M (i + 1)]
      simp [bindT, la, bp, bm, ownAt, lt, ll, sq]) (fun s hI => by
      obtain ⟨x, rfl⟩ := hI
      rw [range_len]
      have : p - 2 + 1 = p - 1 := by omega
      rw [this]
      exact ⟨x, rfl⟩) ⟨[some (.val (.int p)), some (.val (.int M)), x, some (.own (lls M 1))], h⟩ ⟨x, rfl⟩
  obtain ⟨y, e2⟩ := l2
  have e0 : lls M 1 = [.int ((4 : Int).fmod M)] := rfl
  rw [e0] at e2
  have s1 : smallI (p : Int) = true := small_len (by unfold line; omega)
  have s2 : smallI ((p : Int) - 2) = true := by
    have : ((p : Int) - 2) = ((p - 2 : Nat) : Int) := by omega
    rw [this]; exact small_len (by unfold line; omega)
  have s3 : ((p : Int) - 2).toNat = p - 2 := by omega
  rw [← hM]
  simp [f__law_rests, TxtDef.def, startT, s1, s2, s3, e1, ← hM, bm, e2]
theorem small_number : smallD (.str "number") = true := by decide
theorem p_mers_bad (m : Nat) (p : Int) (hp : p < 3 ∨ p.fmod 2 = 0) (h : List (List D)) : Phi fs (m + 1) "mersenne" [.int p] h = .exc 0 (.str "number") h := by
  rw [Phi_run lk_mersenne rfl]
  have e := small_number
  have b2 : binD .mod (.int p) (.int 2) = some (.val (.int (p.fmod 2))) := bin_modI (by decide)
  by_cases c : p < 3
  · simp [f_mersenne, TxtDef.def, startT, c, e]
  · have c2 : p.fmod 2 = 0 := by omega
    simp [f_mersenne, TxtDef.def, startT, c, b2, c2, e]
theorem p_mers_large (m : Nat) (p : Int) (hp : p.fmod 2 ≠ 0) (hp2 : 500 < p) (h : List (List D)) : Phi fs (m + 1) "mersenne" [.int p] h = .exc 1 (.str "number") h := by
  rw [Phi_run lk_mersenne rfl]
  have e := small_number
  have b2 : binD .mod (.int p) (.int 2) = some (.val (.int (p.fmod 2))) := bin_modI (by decide)
  have c : ¬ p < 3 := by omega
  simp [f_mersenne, TxtDef.def, startT, c, b2, hp, hp2, e]
theorem p_mersenne (m : Nat) (p : Nat) (hp : 3 ≤ p) (ho : p % 2 = 1) (hp2 : p ≤ 500) (h : List (List D)) : Phi fs (m + 3) "mersenne" [.int p] h =
    .ok (.val (.tup [.str (if ll (2 ^ p - 1) (p - 2) = 0 then "mersenne" else "nomersenne"), .int p, .tup (lls (2 ^ p - 1) (p - 1))])) h := by
  rw [Phi_run lk_mersenne rfl]
  have b2 : binD .mod (.int (p : Int)) (.int 2) = some (.val (.int ((p : Int).fmod 2))) := bin_modI (by decide)
  have o : ¬ ((p : Int).fmod 2 = 0) := by
    have := fmod_nat p 2
    have e2 : ((2 : Nat) : Int) = 2 := rfl
    rw [e2] at this
    rw [this]; omega
  have c1 : ¬ ((p : Int) < 3) := by omega
  have c2 : ¬ ((500 : Int) < p) := by omega
  have r := p_rests m p (by omega) (by omega) h
  obtain ⟨M, hM⟩ : ∃ M : Int, M = 2 ^ p - 1 := ⟨_, rfl⟩
  rw [← hM] at r ⊢
  have la : (lls M (p - 1)).getLast? = some (.int (ll M (p - 2))) := by
    have := lls_last M (p - 2)
    rwa [show p - 2 + 1 = p - 1 from by omega] at this
  by_cases c3 : ll M (p - 2) = 0
  · simp [f_mersenne, TxtDef.def, startT, c1, c2, b2, o, r, la, c3]
  · simp [f_mersenne, TxtDef.def, startT, c1, c2, b2, o, r, la, c3]
end K44

namespace K44
open PySem PI
theorem p_checked (m : Nat) (n most : Int) (h0 : 0 ≤ n) (h1 : n ≤ most) (h : List (List D)) : Phi fs (m + 1) "_checked" [.int n, .int most] h = .ok (.val .non) h := by
  rw [Phi_run lk__checked rfl]
  have c1 : ¬ n < 0 := by omega
  have c2 : ¬ most < n := by omega
  simp [f__checked, TxtDef.def, startT, c1, c2]
theorem p_seven3 (m : Nat) (n : Nat) (hn : n % 8 = 3) (h : List (List D)) : Phi fs (m + 1) "_seven" [.int n] h = .ok (.val .non) h := by
  rw [Phi_run lk__seven rfl]
  have f4 : ((n : Int)).fmod 4 = 3 := by have := fmod_nat n 4; have e : ((4 : Nat) : Int) = 4 := rfl; rw [e] at this; rw [this]; omega
  have f8 : ((n : Int)).fmod 8 = 3 := by have := fmod_nat n 8; have e : ((8 : Nat) : Int) = 8 := rfl; rw [e] at this; rw [this]; omega
  have b4 : binD .mod (.int (n : Int)) (.int 4) = some (.val (.int 3)) := by rw [bin_modI (by decide), f4]
  have b8 : binD .mod (.int (n : Int)) (.int 8) = some (.val (.int 3)) := by rw [bin_modI (by decide), f8]
  have hp : 0 < n := by omega
  have l1 := ex_loop (Φ := Phi fs m) (c := .bop true (.cons (.cmp (.var 0) (.cons .gt (.cst (.int 0)) .nil)) (.cons (.cmp (.bin .mod (.var 0) (.cst (.int 4))) (.cons .eq (.cst (.int 0)) .nil)) .nil))) (b := .cons (.set (.name 0) (.bin .fdiv (.var 0) (.cst (.int 4)))) (.cons (.aug 1 .add (.cst (.int 1))) .nil))
    (fun s => s = ⟨[some (.val (.int n)), some (.val (.int 0))], h⟩) (fun _ => 0) (fun r => r = .next ⟨[some (.val (.int n)), some (.val (.int 0))], h⟩) (fun s hI => by
      subst hI
      exact .inl ⟨_, by simp [hp, b4], rfl⟩) ⟨[some (.val (.int n)), some (.val (.int 0))], h⟩ rfl
  simp [f__seven, TxtDef.def, startT, l1, b8]
end K44

namespace K44
open PySem PI
def threeT (n x y z : Nat) : D := .tup ([.str "three", .int n] ++ (sortD [(x : Int), y, z]).map D.int)
def bIn : MSs := .cons (.set (.name 5) (.call "root" (.cons (.bin .sub (.var 3) (.bin .mul (.var 4) (.var 4))) (.cons (.cst (.int 2)) .nil))))
  (.cons (.ite (.cmp (.bin .add (.bin .mul (.var 5) (.var 5)) (.bin .mul (.var 4) (.var 4))) (.cons .eq (.var 3) .nil)) (.cons (.ret (.bin .add (.tup (.cons (.cst (.str "three")) (.cons (.var 0) .nil))) (.blt .tuple (.cons (.blt .sorted (.cons (.lst (.cons (.var 5) (.cons (.var 4) (.cons (.var 2) .nil)))) .nil)) .nil))))
  .nil) .nil)
  (.cons (.set (.name 4) (.bin .sub (.var 4) (.cst (.int 1))))
  .nil))
theorem insD_len (i : Int) : ∀ l : List Int, (insD i l).length = l.length + 1
  | [] => rfl
  | j :: r => by
    unfold insD
    split
    · rfl
    · rw [List.length_cons, insD_len i r, List.length_cons]
theorem sortD_len : ∀ l : List Int, (sortD l).length = l.length
  | [] => rfl
  | j :: r => by rw [sortD, insD_len, sortD_len r, List.length_cons]
theorem inner (m : Nat) (n z rest y0 : Nat) (xs : Option Sl) (hr : rest < 2 ^ 100) (hz : z < 2 ^ 100) (hy : y0 * y0 ≤ rest) (hm : ∀ X Y : Nat, X ≤ Y → X * X + Y * Y = rest → Y ≤ y0) (h : List (List D)) :
    (∃ (x y : Nat) (s' : S), x * x + y * y = rest ∧ ex (Phi fs (m + 2)) (.while (.cmp (.bin .mul (.bin .mul (.cst (.int 2)) (.var 4)) (.var 4)) (.cons .ge (.var 3) .nil)) bIn) ⟨[some (.val (.int n)), some (.val .non), some (.val (.int z)), some (.val (.int rest)), some (.val (.int y0)), xs], h⟩ = .ret (.val (threeT n x y z)) s' ∧ s'.h = h) ∨
    ((¬ ∃ X Y : Nat, X ≤ Y ∧ X * X + Y * Y = rest) ∧ ∃ y xs', ex (Phi fs (m + 2)) (.while (.cmp (.bin .mul (.bin .mul (.cst (.int 2)) (.var 4)) (.var 4)) (.cons .ge (.var 3) .nil)) bIn) ⟨[some (.val (.int n)), some (.val .non), some (.val (.int z)), some (.val (.int rest)), some (.val (.int y0)), xs], h⟩ = .next ⟨[some (.val (.int n)), some (.val .non), some (.val (.int z)), some (.val (.int rest)), y, xs'], h⟩) := by
  refine ex_loop (Φ := Phi fs (m + 2)) (b := bIn)
    (fun s => ∃ (y : Nat) (xs : Option Sl), s = ⟨[some (.val (.int n)), some (.val .non), some (.val (.int z)), some (.val (.int rest)), some (.val (.int y)), xs], h⟩ ∧ y * y ≤ rest ∧ ∀ X Y : Nat, X ≤ Y → X * X + Y * Y = rest → Y ≤ y)
    (fun s => (intAt 4 s).toNat)
    (fun r => (∃ (x y : Nat) (s' : S), x * x + y * y = rest ∧ r = .ret (.val (threeT n x y z)) s' ∧ s'.h = h) ∨ ((¬ ∃ X Y : Nat, X ≤ Y ∧ X * X + Y * Y = rest) ∧ ∃ y xs', r = .next ⟨[some (.val (.int n)), some (.val .non), some (.val (.int z)), some (.val (.int rest)), y, xs'], h⟩))
    (fun s hI => ?_) _ ⟨y0, xs, rfl, hy, hm⟩
  obtain ⟨y, xs, rfl, h1, h2⟩ := hI
  have yb : y < 2 ^ 100 := by
    have : y ≤ y * y := Nat.le_mul_self y
    omega
  have m1 : binD .mul (.int 2) (.int (y : Int)) = some (.val (.int (2 * y))) := bin_mulI (by simp [mulOk])
  have lift : ∀ q : Nat, q < 2 ^ 102 → q < 2 ^ 400000 := fun q hq => Nat.lt_trans hq (Nat.pow_lt_pow_right (by omega) (by omega))
  have m2 : binD .mul (.int (2 * (y : Int))) (.int (y : Int)) = some (.val (.int (2 * y * y))) := bin_mulI (mulOk_lt (lift _ (by omega)) (lift _ (by omega)))
  have m3 : binD .mul (.int (y : Int)) (.int (y : Int)) = some (.val (.int ((y * y : Nat) : Int))) := by
    rw [bin_mulI (mulOk_lt (lift _ (by omega)) (lift _ (by omega)))]; simp
  obtain ⟨x, e1, e2, e3⟩ := p_root m (rest - y * y) 2 (by
    have : (2 : Nat) ^ 100 < 2 ^ 1000 := Nat.pow_lt_pow_right (by omega) (by omega)
    omega) (by omega) (by omega) h
  have e1 : Phi fs (m + 2) "root" [.int ((rest - y * y : Nat) : Int), .int 2] h = .ok (.val (.int x)) h := e1
  have ec : (rest : Int) - ((y * y : Nat) : Int) = ((rest - y * y : Nat) : Int) := by omega
  rw [Nat.pow_two] at e2 e3
  have xb : x < 2 ^ 100 := by
    have : x ≤ x * x := Nat.le_mul_self x
    omega
  have m4 : binD .mul (.int (x : Int)) (.int (x : Int)) = some (.val (.int ((x * x : Nat) : Int))) := by
    rw [bin_mulI (mulOk_lt (lift _ (by omega)) (lift _ (by omega)))]; simp
  by_cases c : rest ≤ 2 * y * y
  · have c' : (rest : Int) ≤ 2 * y * y := by exact_mod_cast c
    refine .inr ⟨⟨[some (.val (.int n)), some (.val .non), some (.val (.int z)), some (.val (.int rest)), some (.val (.int y)), xs], h⟩, by simp [m1, m2, c'], ?_⟩
    have nn : ∀ q : Nat, x * x + y * y ≠ rest → ∀ X : Nat, X * X + y * y = rest → False := fun _ f X hX => by
      have h3 : x * x ≤ X * X := by omega
      have h4 : X * X < (x + 1) * (x + 1) := by omega
      have h5 : X < x + 1 := by
        by_cases z : X < x + 1
        · exact z
        · have := Nat.mul_le_mul (Nat.le_of_not_lt z) (Nat.le_of_not_lt z); omega
      have h6 : X * X ≤ x * x := Nat.mul_le_mul (by omega) (by omega)
      omega
    have y1 : x * x + y * y ≠ rest → 1 ≤ y := fun f => by
      rcases Nat.eq_zero_or_pos y with z | z
      · subst z
        simp at c e3 f
        subst c
        have : x = 0 := by
          rcases Nat.eq_zero_or_pos x with q | q
          · exact q
          · have := Nat.mul_le_mul q q; omega
        subst this
        simp at f
      · exact z
    by_cases f : x * x + y * y = rest
    · refine .inr (.inr ⟨.val (threeT n x y z), ⟨[some (.val (.int n)), some (.val .non), some (.val (.int z)), some (.val (.int rest)), some (.val (.int y)), some (.val (.int x))], h⟩, ?_, .inl ⟨x, y, _, f, rfl, rfl⟩⟩)
      have fi : ((x * x : Nat) : Int) + ((y * y : Nat) : Int) = rest := by omega
      have bs : bltD .sorted [.lst [.int (x : Int), .int y, .int z]] = some (.own ((sortD [(x : Int), y, z]).map D.int)) := blt_sorted rfl
      have ba : binD .add (.tup [.str "three", .int (n : Int)]) (.tup ((sortD [(x : Int), y, z]).map D.int)) = some (.val (threeT n x y z)) := by
        rw [bin_addT (by rw [List.length_map, sortD_len]; simp [line])]
        rfl
      generalize x * x = xx at *
      generalize y * y = yy at *
      simp [bIn, m3, ec, e1, m4, fi, bs, ba]
    · have hy1 := y1 f
      refine .inl ⟨⟨[some (.val (.int n)), some (.val .non), some (.val (.int z)), some (.val (.int rest)), some (.val (.int ((y - 1 : Nat) : Int))), some (.val (.int x))], h⟩, ?_, ⟨y - 1, _, rfl, ?_, fun X Y h3 h4 => ?_⟩, ?_⟩
      · have fi : ¬ (((x * x : Nat) : Int) + ((y * y : Nat) : Int) = rest) := by omega
        have ey : ((y - 1 : Nat) : Int) = (y : Int) - 1 := by omega
        rw [ey]
        generalize x * x = xx at *
        generalize y * y = yy at *
        simp [bIn, m3, ec, e1, m4, fi]
      · exact Nat.le_trans (Nat.mul_le_mul (by omega) (by omega)) h1
      · have h5 := h2 X Y h3 h4
        by_cases z : Y = y
        · subst z; exact (nn 0 f X h4).elim
        · omega
      · simp only [intAt_mk, List.getElem?_cons_succ, List.getElem?_cons_zero, Int.toNat_natCast]
        exact Nat.sub_lt hy1 (by decide)
  · have c' : ¬ (rest : Int) ≤ 2 * y * y := by exact_mod_cast c
    refine .inl ⟨⟨[some (.val (.int n)), some (.val .non), some (.val (.int z)), some (.val (.int rest)), some (.val (.int y)), xs], h⟩, by simp [m1, m2, c'], .inr ⟨fun ⟨X, Y, h3, h4⟩ => ?_, _, _, rfl⟩⟩
    have h5 := h2 X Y h3 h4
    have h9 : X ≤ y := Nat.le_trans h3 h5
    have h6 : X * X ≤ y * y := Nat.mul_le_mul h9 h9
    have h7 : Y * Y ≤ y * y := Nat.mul_le_mul h5 h5
    have h8 : 2 * y * y = 2 * (y * y) := Nat.mul_assoc 2 y y
    omega
end K44

namespace K44
open PySem PI
theorem p_three (m : Nat) (n X Y Z : Nat) (hn : n % 8 = 3) (hn2 : n ≤ 1000000) (hXY : X ≤ Y) (hrep : X * X + Y * Y + Z * Z = n) (h : List (List D)) :
    ∃ x y z : Nat, x * x + y * y + z * z = n ∧ Phi fs (m + 3) "three_squares" [.int n] h = .ok (.val (threeT n x y z)) h := by
  rw [Phi_run lk_three_squares rfl]
  have pc := p_checked (m + 1) n 1000000 (by omega) (by omega) h
  have ps := p_seven3 (m + 1) n hn h
  obtain ⟨z0, e0, hz1, hz2⟩ := p_root m n 2 (by
    have : (1000000 : Nat) < 2 ^ 1000 := Nat.lt_of_lt_of_le (by decide : 1000000 < 2 ^ 20) (Nat.pow_le_pow_right (by omega) (by omega))
    omega) (by omega) (by omega) h
  have e0 : Phi fs (m + 2) "root" [.int (n : Int), .int 2] h = .ok (.val (.int z0)) h := e0
  rw [Nat.pow_two] at hz1 hz2
  have hb : (1000000 : Nat) < 2 ^ 100 := Nat.lt_of_lt_of_le (by decide : 1000000 < 2 ^ 20) (Nat.pow_le_pow_right (by omega) (by omega))
  have sqle : ∀ a b : Nat, a * a ≤ b → b < (a + 1) * (a + 1) → ∀ c : Nat, c * c ≤ b → c ≤ a := fun a b _ h2 c h3 => by
    by_cases q : c ≤ a
    · exact q
    · have q' : a + 1 ≤ c := by omega
      have := Nat.mul_le_mul q' q'
      omega
  have l := ex_loop (Φ := Phi fs (m + 2)) (c := .cst (.bl true)) (b := .cons (.set (.name 3) (.bin .sub (.var 0) (.bin .mul (.var 2) (.var 2))))
    (.cons (.set (.name 4) (.call "root" (.cons (.var 3) (.cons (.cst (.int 2)) .nil))))
    (.cons (.while (.cmp (.bin .mul (.bin .mul (.cst (.int 2)) (.var 4)) (.var 4)) (.cons .ge (.var 3) .nil)) bIn)
    (.cons (.set (.name 2) (.bin .sub (.var 2) (.cst (.int 1)))) .nil))))
    (fun s => ∃ (z : Nat) (r y x : Option Sl), s = ⟨[some (.val (.int n)), some (.val .non), some (.val (.int z)), r, y, x], h⟩ ∧ z * z ≤ n ∧ Z ≤ z)
    (fun s => (intAt 2 s).toNat)
    (fun r => ∃ (x y z : Nat) (s' : S), x * x + y * y + z * z = n ∧ r = .ret (.val (threeT n x y z)) s' ∧ s'.h = h) (fun s hI => by
      obtain ⟨z, r, y, x, rfl, h1, h2⟩ := hI
      have zle : z ≤ z * z := Nat.le_mul_self z
      have m3 : binD .mul (.int (z : Int)) (.int (z : Int)) = some (.val (.int ((z * z : Nat) : Int))) := by
        have : (z : Int).natAbs < 2 ^ 400000 := by
          have := Nat.pow_lt_pow_right (by omega : 1 < 2) (by omega : 100 < 400000)
          simp only [Int.natAbs_natCast]; omega
        rw [bin_mulI (mulOk_lt this this)]; simp
      obtain ⟨rest, hrest⟩ : ∃ rest, n - z * z = rest := ⟨_, rfl⟩
      have er : (n : Int) - ((z * z : Nat) : Int) = (rest : Int) := by omega
      obtain ⟨y0, ey, hy1, hy2⟩ := p_root m rest 2 (by
        have : (1000000 : Nat) < 2 ^ 1000 := Nat.lt_of_lt_of_le (by decide : 1000000 < 2 ^ 20) (Nat.pow_le_pow_right (by omega) (by omega))
        omega) (by omega) (by omega) h
      have ey : Phi fs (m + 2) "root" [.int (rest : Int), .int 2] h = .ok (.val (.int y0)) h := ey
      rw [Nat.pow_two] at hy1 hy2
      refine .inr ⟨⟨[some (.val (.int n)), some (.val .non), some (.val (.int z)), r, y, x], h⟩, by simp, ?_⟩
      rcases inner m n z rest y0 x (by omega) (by omega) hy1 (fun A B _ hAB => sqle y0 rest hy1 hy2 B (by omega)) h with ⟨a, b, s', q1, q2, q3⟩ | ⟨q1, y', x', q2⟩
      · refine .inr (.inr ⟨_, s', ?_, a, b, z, s', by omega, rfl, q3⟩)
        generalize z * z = zz at *
        simp [m3, er, ey, q2]
      · have zlt : Z < z := by
          rcases Nat.lt_or_ge Z z with q | q
          · exact q
          · have : Z = z := by omega
            subst this
            exact absurd ⟨X, Y, hXY, by omega⟩ q1
        refine .inl ⟨⟨[some (.val (.int n)), some (.val .non), some (.val (.int ((z - 1 : Nat) : Int))), some (.val (.int rest)), y', x'], h⟩, ?_, ⟨z - 1, _, _, _, rfl, Nat.le_trans (Nat.mul_le_mul (Nat.sub_le _ _) (Nat.sub_le _ _)) h1, by omega⟩, ?_⟩
        · have ez : ((z - 1 : Nat) : Int) = (z : Int) - 1 := by omega
          rw [ez]
          generalize z * z = zz at *
          simp [m3, er, ey, q2]
        · simp only [intAt_mk, List.getElem?_cons_succ, List.getElem?_cons_zero, Int.toNat_natCast]
          omega)
    ⟨[some (.val (.int n)), some (.val .non), some (.val (.int z0)), none, none, none], h⟩ ⟨z0, none, none, none, rfl, hz1, sqle z0 n hz1 hz2 Z (by omega)⟩
  obtain ⟨x, y, z, ⟨t', h'⟩, k1, k2, k3⟩ := l
  subst k3
  refine ⟨x, y, z, k1, ?_⟩
  unfold bIn at k2
  simp [f_three_squares, TxtDef.def, startT, pc, ps, e0, k2]
end K44

namespace K44
open PySem PI
theorem tri_odd (i : Nat) : 8 * tri i + 1 = (2 * i + 1) * (2 * i + 1) := by
  unfold tri
  have h : i * (i + 1) % 2 = 0 := by
    rcases (by omega : i % 2 = 0 ∨ i % 2 = 1) with z | z
    · rw [Nat.mul_mod, z]; simp
    · rw [Nat.mul_mod, Nat.add_mod, z]
  have e : (2 * i + 1) * (2 * i + 1) = 4 * (i * (i + 1)) + 1 := by grind
  rw [e]; omega
theorem rep8 (n : Nat) (hn : n ≤ 100000) : ∃ X Y Z : Nat, X ≤ Y ∧ X * X + Y * Y + Z * Z = 8 * n + 3 := by
  obtain ⟨i, j, k, e⟩ := three_tri n hn
  have h1 := tri_odd i
  have h2 := tri_odd j
  have h3 := tri_odd k
  rcases Nat.le_total (2 * i + 1) (2 * j + 1) with z | z
  · exact ⟨2 * i + 1, 2 * j + 1, 2 * k + 1, z, by omega⟩
  · exact ⟨2 * j + 1, 2 * i + 1, 2 * k + 1, z, by omega⟩
theorem sq8 (x : Nat) : x * x % 8 = 0 ∨ x * x % 8 = 1 ∨ x * x % 8 = 4 := by
  have h : x * x % 8 = (x % 8) * (x % 8) % 8 := Nat.mul_mod x x 8
  have : x % 8 < 8 := Nat.mod_lt _ (by decide)
  rw [h]
  generalize x % 8 = r at this ⊢
  rcases (by omega : r = 0 ∨ r = 1 ∨ r = 2 ∨ r = 3 ∨ r = 4 ∨ r = 5 ∨ r = 6 ∨ r = 7) with rfl | rfl | rfl | rfl | rfl | rfl | rfl | rfl <;> decide
theorem odd3 {x y z n : Nat} (h : x * x + y * y + z * z = 8 * n + 3) : x % 2 = 1 ∧ y % 2 = 1 ∧ z % 2 = 1 := by
  have hx := sq8 x
  have hy := sq8 y
  have hz := sq8 z
  have o : ∀ q : Nat, q * q % 8 = 1 → q % 2 = 1 := fun q hq => by
    rcases (by omega : q % 2 = 0 ∨ q % 2 = 1) with w | w
    · have : q * q % 2 = 0 := by rw [Nat.mul_mod, w]
      omega
    · exact w
  have : x * x % 8 = 1 ∧ y * y % 8 = 1 ∧ z * z % 8 = 1 := by omega
  exact ⟨o x this.1, o y this.2.1, o z this.2.2⟩
/-- three sorted -/
theorem sort3 (x y z : Int) : ∃ a b c : Int, sortD [x, y, z] = [a, b, c] ∧ a ≤ b ∧ b ≤ c ∧ ((a = x ∧ b = y ∧ c = z) ∨ (a = x ∧ b = z ∧ c = y) ∨ (a = y ∧ b = x ∧ c = z) ∨ (a = y ∧ b = z ∧ c = x) ∨ (a = z ∧ b = x ∧ c = y) ∨ (a = z ∧ b = y ∧ c = x)) := by
  by_cases h1 : y ≤ z
  · by_cases h2 : x ≤ y
    · exact ⟨x, y, z, by simp [sortD, insD, h1, h2], h2, h1, by simp⟩
    · by_cases h3 : x ≤ z
      · exact ⟨y, x, z, by simp [sortD, insD, h1, h2, h3], by omega, h3, by simp⟩
      · exact ⟨y, z, x, by simp [sortD, insD, h1, h2, h3], h1, by omega, by simp⟩
  · by_cases h2 : x ≤ z
    · exact ⟨x, z, y, by simp [sortD, insD, h1, h2], h2, by omega, by simp⟩
    · by_cases h3 : x ≤ y
      · exact ⟨z, x, y, by simp [sortD, insD, h1, h2, h3], by omega, h3, by simp⟩
      · exact ⟨z, y, x, by simp [sortD, insD, h1, h2, h3], by omega, by omega, by simp⟩
theorem p_tri (m : Nat) (n : Nat) (hn : n ≤ 100000) (h : List (List D)) :
    ∃ a b c : Nat, Phi fs (m + 4) "triangles" [.int n] h = .ok (.val (.tup [.str "triangles", .int n, .int a, .int b, .int c])) h ∧ a ≤ b ∧ b ≤ c ∧ tri a + tri b + tri c = n := by
  obtain ⟨X, Y, Z, hXY, hr⟩ := rep8 n hn
  obtain ⟨x, y, z, hxyz, e⟩ := p_three m (8 * n + 3) X Y Z (by omega) (by omega) hXY hr h
  obtain ⟨ox, oy, oz⟩ := odd3 hxyz
  obtain ⟨a, b, c, hs, hab, hbc, hp⟩ := sort3 x y z
  have key : ∃ A B C : Nat, a = ((2 * A + 1 : Nat) : Int) ∧ b = ((2 * B + 1 : Nat) : Int) ∧ c = ((2 * C + 1 : Nat) : Int) ∧ tri A + tri B + tri C = n := by
    have sq : ∀ q : Nat, q % 2 = 1 → ∃ Q : Nat, (q : Int) = ((2 * Q + 1 : Nat) : Int) ∧ 8 * tri Q + 1 = q * q := fun q hq => ⟨q / 2, by omega, by
      rw [tri_odd]
      have : 2 * (q / 2) + 1 = q := by omega
      rw [this]⟩
    obtain ⟨A, eA, tA⟩ := sq x ox
    obtain ⟨B, eB, tB⟩ := sq y oy
    obtain ⟨C, eC, tC⟩ := sq z oz
    rw [eA, eB, eC] at hp
    rcases hp with ⟨h1, h2, h3⟩ | ⟨h1, h2, h3⟩ | ⟨h1, h2, h3⟩ | ⟨h1, h2, h3⟩ | ⟨h1, h2, h3⟩ | ⟨h1, h2, h3⟩
    · exact ⟨A, B, C, h1, h2, h3, by omega⟩
    · exact ⟨A, C, B, h1, h2, h3, by omega⟩
    · exact ⟨B, A, C, h1, h2, h3, by omega⟩
    · exact ⟨B, C, A, h1, h2, h3, by omega⟩
    · exact ⟨C, A, B, h1, h2, h3, by omega⟩
    · exact ⟨C, B, A, h1, h2, h3, by omega⟩
  obtain ⟨A, B, C, rfl, rfl, rfl, ht⟩ := key
  refine ⟨A, B, C, ?_, by omega, by omega, ht⟩
  rw [Phi_run lk_triangles rfl]
  have c1 : ¬ ((n : Int) < 0) := by omega
  have c2 : ¬ ((100000 : Int) < n) := by omega
  have b8 : binD .mul (.int 8) (.int (n : Int)) = some (.val (.int (8 * n))) := bin_mulI (by simp [mulOk])
  have e3 : (8 * (n : Int) + 3) = ((8 * n + 3 : Nat) : Int) := by omega
  have d2 : divOk 2 = true := by decide
  have hf : ∀ q : Nat, (((2 * q + 1 : Nat) : Int) - 1).fdiv 2 = q := fun q => by rw [Int.fdiv_eq_ediv_of_nonneg _ (by omega)]; omega
  unfold threeT at e
  rw [hs] at e
  simp only [List.map_cons, List.map_nil] at e
  rw [← e3] at e
  have fA := hf A
  have fB := hf B
  have fC := hf C
  generalize ((2 * A + 1 : Nat) : Int) = a at *
  generalize ((2 * B + 1 : Nat) : Int) = b at *
  generalize ((2 * C + 1 : Nat) : Int) = c at *
  have lc := lcR_fm (Φ := Phi fs (m + 3)) (i := 2) (cond := .none) (elt := .bin .fdiv (.bin .sub (.var 2) (.cst (.int 1))) (.cst (.int 2))) (fun d => match d with | .int i => some (.int ((i - 1).fdiv 2)) | _ => none) [.int a, .int b, .int c]
    [some (.val (.int (n : Int))), some (.val (.tup [.int a, .int b, .int c])), none] h (by simp [line]) (fun d hd x => by
      simp only [List.mem_cons, List.not_mem_nil, or_false] at hd
      rcases hd with rfl | rfl | rfl <;> simp [turnL, wipeT, MT.ids, bindT, bin_fdivI, d2])
  have ba : binD .add (.tup [.str "triangles", .int (n : Int)]) (.tup [.int (A : Int), .int B, .int C]) = some (.val (.tup [.str "triangles", .int (n : Int), .int (A : Int), .int B, .int C])) := by
    rw [bin_addT (by simp [line])]
    rfl
  simp [f_triangles, TxtDef.def, startT, c1, c2, b8, e, cutD, sEnd, lc, fA, fB, fC, ba]
end K44

namespace K44
open PySem PI
theorem p_count_bad (m : Nat) (a b c : Int) (hb : a < 1 ∨ b < 1 ∨ c < 0) (h : List (List D)) : Phi fs (m + 1) "count_line" [.int a, .int b, .int c] h = .exc 0 (.str "number") h := by
  rw [Phi_run lk_count_line rfl]
  have e := small_number
  by_cases c1 : a < 1
  · simp [f_count_line, TxtDef.def, startT, c1, e]
  · by_cases c2 : b < 1
    · simp [f_count_line, TxtDef.def, startT, c1, c2, e]
    · have c3 : c < 0 := by omega
      simp [f_count_line, TxtDef.def, startT, c1, c2, c3, e]
theorem p_corner_bad (m : Nat) (k n : Int) (hb : k < 3 ∨ n < 0) (h : List (List D)) : Phi fs (m + 1) "corner" [.int k, .int n] h = .exc 0 (.str "number") h := by
  rw [Phi_run lk_corner rfl]
  have e := small_number
  by_cases c1 : k < 3
  · simp [f_corner, TxtDef.def, startT, c1, e]
  · have c2 : n < 0 := by omega
    simp [f_corner, TxtDef.def, startT, c1, c2, e]
theorem p_tri_bad (m : Nat) (n : Int) (hb : n < 0) (h : List (List D)) : Phi fs (m + 1) "triangles" [.int n] h = .exc 0 (.str "number") h := by
  rw [Phi_run lk_triangles rfl]
  have e := small_number
  simp [f_triangles, TxtDef.def, startT, hb, e]
theorem p_tri_large (m : Nat) (n : Int) (hb : 100000 < n) (h : List (List D)) : Phi fs (m + 1) "triangles" [.int n] h = .exc 1 (.str "number") h := by
  rw [Phi_run lk_triangles rfl]
  have e := small_number
  have c1 : ¬ n < 0 := by omega
  simp [f_triangles, TxtDef.def, startT, c1, hb, e]
end K44

namespace K44
open PySem PI
theorem count_mod (u r : Nat) (hr : r < u) : ∀ M n : Nat, (∀ j, j < n ↔ r + u * j < M) → ((List.range M).filter fun k => k % u == r).length = n
  | 0, n, h => by
    have := (h 0).mp
    have : n = 0 := by
      rcases Nat.eq_zero_or_pos n with z | z
      · exact z
      · have := (h 0).mp z; omega
    subst this; rfl
  | M + 1, n, h => by
    rw [List.range_succ, List.filter_append, List.length_append]
    by_cases c : M % u = r
    · obtain ⟨d, hd⟩ : ∃ d, M = r + u * d := ⟨M / u, by have := Nat.div_add_mod M u; omega⟩
      have h1 := (h d).mpr (by omega)
      have h2 : ¬ d + 1 < n := fun z => by
        have := (h (d + 1)).mp z
        rw [Nat.mul_add] at this; omega
      have e : n = d + 1 := by omega
      subst e
      rw [count_mod u r hr M d fun j => ?_]
      · simp [c]
      · rw [hd]
        constructor
        · intro z; have := (Nat.mul_lt_mul_left (by omega : 0 < u)).mpr z; omega
        · intro z; exact (Nat.mul_lt_mul_left (by omega : 0 < u)).mp (by omega)
    · rw [count_mod u r hr M n fun j => ?_]
      · simp [c]
      · rw [h j]
        have : r + u * j ≠ M := fun z => c (by rw [← z, Nat.add_mul_mod_self_left, Nat.mod_eq_of_lt hr])
        omega
/-- solutions that are not negative, counted -/
theorem count_sol (a b c : Nat) (x0 y0 : Int) (g : Nat) (a' b' c' : Nat) (ga : a = g * a') (gb : b = g * b') (gc : c = g * c') (hg : 0 < g) (ha : 0 < a') (hb : 0 < b') (bez : ∃ s t : Int, (a' : Int) * s + b' * t = 1) (hs : (a' : Int) * x0 + b' * y0 = c') :
    (((List.range (c / a + 1)).filter fun (k : Nat) => decide (((c : Int) - k * a).fmod b = 0)).length : Int) = (if y0.fdiv a' - (0 - x0.fdiv b') + 1 > 0 then y0.fdiv a' - (0 - x0.fdiv b') + 1 else 0) := by
  have hx := Int.mul_fdiv_add_fmod x0 b'
  have r0 := Int.fmod_nonneg_of_pos x0 (by omega : (0 : Int) < b')
  have r1 := Int.fmod_lt_of_pos x0 (by omega : (0 : Int) < b')
  obtain ⟨r, hr⟩ : ∃ r : Nat, x0.fmod b' = r := ⟨(x0.fmod b').toNat, by omega⟩
  obtain ⟨q, hq⟩ : ∃ q, x0.fdiv b' = q := ⟨_, rfl⟩
  rw [hr] at hx r0 r1
  rw [hq] at hx ⊢
  have hr' : r < b' := by omega
  have key : ∀ k : Nat, decide (((c : Int) - k * a).fmod b = 0) = (k % b' == r) := by
    intro k
    have e : (c : Int) - k * a = g * ((a' : Int) * (x0 - k) + b' * y0) := by
      subst ga gc; push_cast; rw [← hs]; grind
    have h1 : (((c : Int) - k * a).fmod b = 0) ↔ ((b : Int) ∣ (c : Int) - k * a) := ⟨Int.dvd_of_fmod_eq_zero, Int.fmod_eq_zero_of_dvd⟩
    have h2 : ((b : Int) ∣ (c : Int) - k * a) ↔ ((b' : Int) ∣ x0 - k) := by
      rw [e, gb]; push_cast
      rw [Int.mul_dvd_mul_iff_left (by omega : (g : Int) ≠ 0)]
      constructor
      · rintro ⟨w, hw⟩
        obtain ⟨s, t, hst⟩ := bez
        refine ⟨s * (w - y0) + t * (x0 - k), ?_⟩
        have : (x0 - (k : Int)) = ((a' : Int) * s + b' * t) * (x0 - k) := by rw [hst]; omega
        rw [this]
        grind
      · rintro ⟨w, hw⟩
        exact ⟨a' * w + y0, by rw [hw]; grind⟩
    have h3 : ((b' : Int) ∣ x0 - k) ↔ k % b' = r := by
      have e2 : x0 - k = b' * q + (r - k) := by omega
      constructor
      · rintro ⟨w, hw⟩
        have : (k : Int) = r + b' * (q - w) := by grind
        have h4 : (k : Int) % b' = r := by rw [this, Int.add_mul_emod_self_left]; exact Int.emod_eq_of_lt (by omega) (by omega)
        omega
      · intro z
        have h5 := Nat.div_add_mod k b'
        rw [z] at h5
        exact ⟨q - (k / b' : Nat), by rw [e2, ← h5]; push_cast; grind⟩
    have h4 := h1.trans (h2.trans h3)
    by_cases z : k % b' = r
    · rw [decide_eq_true (h4.mpr z)]; simp [z]
    · rw [decide_eq_false (fun w => z (h4.mp w))]; simp [z]
  obtain ⟨t, ht⟩ : ∃ t : Int, t = y0 + a' * q := ⟨_, rfl⟩
  have hc' : (c' : Int) = b' * t + a' * r := by rw [← hs, ht, ← hx]; grind
  have hf : y0.fdiv a' + q = t / a' := by
    rw [ht, Int.fdiv_eq_ediv_of_nonneg _ (by omega), Int.add_mul_ediv_left _ _ (by omega)]
  have ht1 : 0 ≤ t / a' + 1 := by
    have h0 : -(a' : Int) < t := by
      rcases Int.lt_or_le (-(a' : Int)) t with z | z
      · exact z
      · exfalso
        have h1 : (b' : Int) * t ≤ b' * (-(a' : Int)) := Int.mul_le_mul_of_nonneg_left z (by omega)
        have h2 : (a' : Int) * r < a' * b' := Int.mul_lt_mul_of_pos_left (by omega) (by omega)
        have h3 : (b' : Int) * (-(a' : Int)) = -(a' * b') := by grind
        omega
    have : -1 ≤ t / a' := by rw [Int.le_ediv_iff_mul_le (by omega)]; omega
    omega
  have hcount := count_mod b' r hr' (c / a + 1) (t / a' + 1).toNat fun j => by
    have e1 : (j < (t / a' + 1).toNat) ↔ ((j : Int) * a' ≤ t) := by
      rw [← Int.le_ediv_iff_mul_le (by omega)]; omega
    have e2 : (r + b' * j < c / a + 1) ↔ ((r + b' * j) * a' ≤ c') := by
      have : c / a = c' / a' := by rw [ga, gc, Nat.mul_div_mul_left _ _ hg]
      rw [this, ← Nat.le_div_iff_mul_le ha]; omega
    rw [e1, e2]
    have e3 : ((r + b' * j) * a' ≤ c') ↔ (((r : Int) + b' * j) * a' ≤ c') := by
      constructor <;> intro z
      · exact_mod_cast z
      · exact_mod_cast z
    rw [e3, hc']
    have e4 : ((r : Int) + b' * j) * a' = b' * (j * a') + a' * r := by grind
    rw [e4]
    constructor
    · intro z
      have := Int.mul_le_mul_of_nonneg_left z (by omega : (0 : Int) ≤ b')
      omega
    · intro z
      have : (b' : Int) * (j * a') ≤ b' * t := by omega
      exact Int.le_of_mul_le_mul_left this (by omega)
  have ef : (List.range (c / a + 1)).filter (fun (k : Nat) => decide (((c : Int) - k * a).fmod b = 0)) = (List.range (c / a + 1)).filter (fun k => k % b' == r) := by
    congr 1; funext k; exact key k
  rw [ef, hcount]
  split <;> omega
end K44

namespace K44
open PySem PI
theorem p_count (m : Nat) (a b c : Nat) (ha : 1 ≤ a) (hb : 1 ≤ b) (ha2 : a ≤ 1000) (hb2 : b ≤ 1000) (hc2 : c ≤ 1000) (h : List (List D)) :
    Phi fs (m + 4) "count_line" [.int a, .int b, .int c] h = .ok (.val (.int (((List.range (c / a + 1)).filter fun (k : Nat) => decide (((c : Int) - k * a).fmod b = 0)).length : Nat))) h := by
  have lt : ∀ z : Nat, z ≤ 1000 → ((z : Int)).natAbs < 2 ^ 8000 := fun z hz => Nat.lt_of_le_of_lt (by omega : ((z : Int)).natAbs ≤ 1000) (Nat.lt_of_lt_of_le (by decide : 1000 < 2 ^ 10) (Nat.pow_le_pow_right (by decide) (by decide)))
  obtain ⟨g, x, y, hg, hbz, hx, hy, e⟩ := p_line m a b c (.inl (by omega)) (lt a ha2) (lt b hb2) (lt c hc2) h
  have hg' : Nat.gcd a b = g := by rw [hg]; simp
  have gp : 0 < g := by rw [← hg']; exact Nat.gcd_pos_of_pos_left _ (by omega)
  obtain ⟨a', ea⟩ : ∃ a', a = g * a' := by rw [← hg']; exact Nat.gcd_dvd_left a b
  obtain ⟨b', eb⟩ : ∃ b', b = g * b' := by rw [← hg']; exact Nat.gcd_dvd_right a b
  have pa : 0 < a' := Nat.pos_of_ne_zero fun z => by rw [z] at ea; omega
  have pb : 0 < b' := Nat.pos_of_ne_zero fun z => by rw [z] at eb; omega
  have fa : ((a : Int)).fdiv g = a' := by rw [ea]; push_cast; exact Int.mul_fdiv_cancel_left _ (by omega)
  have fb : ((b : Int)).fdiv g = b' := by rw [eb]; push_cast; exact Int.mul_fdiv_cancel_left _ (by omega)
  have bez : (a' : Int) * x + b' * y = 1 := by
    have h1 : (g : Int) * ((a' : Int) * x + b' * y) = g * 1 := by rw [Int.mul_one, ← hbz, ea, eb]; push_cast; grind
    exact Int.eq_of_mul_eq_mul_left (by omega) h1
  rw [Phi_run lk_count_line rfl]
  have c1 : ¬ ((a : Int) < 1) := by omega
  have c2 : ¬ ((b : Int) < 1) := by omega
  have c3 : ¬ ((c : Int) < 0) := by omega
  have s1 : PyData.canLay0 (.str "off") = true := by decide +kernel
  have s2 : PyData.canLay0 (.str "line") = true := by decide +kernel
  have s3 : (("line" : Str) == ("off" : Str)) = false := by decide +kernel
  by_cases c0 : ((c : Int)).fmod g = 0
  · rw [if_pos c0] at e
    obtain ⟨c', ec⟩ : ∃ c' : Nat, c = g * c' := by
      have := Int.dvd_of_fmod_eq_zero c0
      exact_mod_cast this
    have fc : ((c : Int)).fdiv g = c' := by rw [ec]; push_cast; exact Int.mul_fdiv_cancel_left _ (by omega)
    have hs := count_sol a b c (c' * x) (c' * y) g a' b' c' ea eb ec gp pa pb ⟨x, y, bez⟩ (by
      have : (c' : Int) * ((a' : Int) * x + b' * y) = c' * 1 := by rw [bez]
      grind)
    rw [hs]
    rw [fa, fb, fc] at e
    have d1 : divOk (b' : Int) = true := by
      simp only [divOk, Bool.and_eq_true, decide_eq_true_eq]
      have : b' ≤ b := by rw [eb]; exact Nat.le_mul_of_pos_left _ gp
      have h2 : b'.log2 < 11 := (Nat.log2_lt (by omega)).mpr (by omega)
      exact ⟨by omega, by simp only [Int.natAbs_natCast]; omega⟩
    have d2 : divOk (a' : Int) = true := by
      simp only [divOk, Bool.and_eq_true, decide_eq_true_eq]
      have : a' ≤ a := by rw [ea]; exact Nat.le_mul_of_pos_left _ gp
      have h2 : a'.log2 < 11 := (Nat.log2_lt (by omega)).mpr (by omega)
      exact ⟨by omega, by simp only [Int.natAbs_natCast]; omega⟩
    have m0 : (0 : Int) - (0 - a') = a' := by omega
    clear hs bez hx hy hbz fc hg
    generalize (c' : Int) * x = X at *
    generalize (c' : Int) * y = Y at *
    have z1 := bin_fdivI (i := X) d1
    have z2 := bin_fdivI (i := Y) d2
    simp [f_count_line, TxtDef.def, startT, c1, c2, c3, e, s1, s2, s3, cutD, sEnd, setAll, z1, z2]
  · rw [if_neg c0] at e
    have hz : (List.range (c / a + 1)).filter (fun (k : Nat) => decide (((c : Int) - k * a).fmod b = 0)) = [] := by
      rw [List.filter_eq_nil_iff]
      intro k _ z
      have z1 := Int.dvd_of_fmod_eq_zero (of_decide_eq_true z)
      apply c0
      apply Int.fmod_eq_zero_of_dvd
      obtain ⟨w, hw⟩ := z1
      refine ⟨b' * w + k * a', ?_⟩
      have h2 : (c : Int) = b * w + k * a := by omega
      rw [h2, ea, eb]; push_cast; grind
    rw [hz]
    simp [f_count_line, TxtDef.def, startT, c1, c2, c3, e, s1]
/-- a line's own judge and the law's say the same of claims of one shape -/
def JOK (m : Nat) (f1 f2 : Str) (h : List (List D)) (own : D) : Prop := ∃ b : Bool, Phi fs m f1 [own] h = .ok (.val (.bl b)) h ∧ Phi fs m f2 [own] h = .ok (.val (.bl b)) h
theorem shp_int {i : Int} {d : D} (h : shp (.int i) d) : ∃ j, d = .int j := by
  cases d <;> first | exact ⟨_, rfl⟩ | (unfold shp at h; exact h.elim)
theorem shp_str {x : Str} {d : D} (h : shp (.str x) d) : d = .str x := by
  cases d <;> first | (unfold shp at h; rw [h]) | (unfold shp at h; exact h.elim)
theorem shp_tup {ds : List D} {d : D} (h : shp (.tup ds) d) : ∃ es, d = .tup es ∧ shps ds es := by
  cases d <;> first | (unfold shp at h; exact ⟨_, rfl, h⟩) | (unfold shp at h; exact h.elim)
theorem shps_cons {d : D} {ds es : List D} (h : shps (d :: ds) es) : ∃ e es', es = e :: es' ∧ shp d e ∧ shps ds es' := by
  cases es with
  | nil => unfold shps at h; exact h.elim
  | cons e es => unfold shps at h; exact ⟨e, es, rfl, h.1, h.2⟩
theorem shps_nil {es : List D} (h : shps [] es) : es = [] := by
  cases es with
  | nil => rfl
  | cons e es => unfold shps at h; exact h.elim
theorem bnd_at {B n : Nat} {ds : List D} (h : bnd B (n + 1) (.tup ds)) {i : Int} (hi : D.int i ∈ ds) : i.natAbs < B := by
  have := h _ hi
  cases n <;> exact this
theorem j_off (m : Nat) (a b c g : Int) (own : D) (h : List (List D)) (hs : shp (.tup [.str "off", .int a, .int b, .int c, .int g]) own) : JOK (m + 2) "line_right" "_law_line_right" h own := by
  obtain ⟨es, rfl, hs⟩ := shp_tup hs
  obtain ⟨e0, es, rfl, h0, hs⟩ := shps_cons hs
  obtain ⟨e1, es, rfl, h1, hs⟩ := shps_cons hs
  obtain ⟨e2, es, rfl, h2, hs⟩ := shps_cons hs
  obtain ⟨e3, es, rfl, h3, hs⟩ := shps_cons hs
  obtain ⟨e4, es, rfl, h4, hs⟩ := shps_cons hs
  cases shps_nil hs
  cases shp_str h0
  obtain ⟨a, rfl⟩ := shp_int h1
  obtain ⟨b, rfl⟩ := shp_int h2
  obtain ⟨c, rfl⟩ := shp_int h3
  obtain ⟨g, rfl⟩ := shp_int h4
  exact ⟨_, p_line_off m a b c g h, p_lline_off m a b c g h⟩
theorem j_line (m : Nat) (a b c x y u v : Int) (own : D) (h : List (List D)) (hs : shp (.tup [.str "line", .int a, .int b, .int c, .int x, .int y, .int u, .int v]) own) (hb : bnd (2 ^ 9000) 1 own) : JOK (m + 2) "line_right" "_law_line_right" h own := by
  obtain ⟨es, rfl, hs⟩ := shp_tup hs
  obtain ⟨e0, es, rfl, h0, hs⟩ := shps_cons hs
  obtain ⟨e1, es, rfl, h1, hs⟩ := shps_cons hs
  obtain ⟨e2, es, rfl, h2, hs⟩ := shps_cons hs
  obtain ⟨e3, es, rfl, h3, hs⟩ := shps_cons hs
  obtain ⟨e4, es, rfl, h4, hs⟩ := shps_cons hs
  obtain ⟨e5, es, rfl, h5, hs⟩ := shps_cons hs
  obtain ⟨e6, es, rfl, h6, hs⟩ := shps_cons hs
  obtain ⟨e7, es, rfl, h7, hs⟩ := shps_cons hs
  cases shps_nil hs
  cases shp_str h0
  obtain ⟨a, rfl⟩ := shp_int h1
  obtain ⟨b, rfl⟩ := shp_int h2
  obtain ⟨c, rfl⟩ := shp_int h3
  obtain ⟨x, rfl⟩ := shp_int h4
  obtain ⟨y, rfl⟩ := shp_int h5
  obtain ⟨u, rfl⟩ := shp_int h6
  obtain ⟨v, rfl⟩ := shp_int h7
  have b1 := bnd_at hb (i := a) (by simp)
  have b2 := bnd_at hb (i := b) (by simp)
  have b3 := bnd_at hb (i := x) (by simp)
  have b4 := bnd_at hb (i := y) (by simp)
  have b5 := bnd_at hb (i := u) (by simp)
  have b6 := bnd_at hb (i := v) (by simp)
  have up : ∀ z : Nat, z < 2 ^ 9000 → z < 2 ^ 20000 := fun z hz => Nat.lt_of_lt_of_le hz (Nat.pow_le_pow_right (by decide) (by decide))
  exact ⟨_, p_line_line m a b c x y u v b1 b2 (up _ b3) (up _ b4) b5 b6 h, p_lline_line m a b c x y u v b1 b2 (up _ b3) (up _ b4) b5 b6 h⟩
end K44

namespace K44
open PySem PI
def cornerB (f : Bool) (k n i : Int) : Bool := if k < 3 then false else if i < 0 then false else if f then decide (cnum k i = n) else decide (cnum k i < n) && decide (n < cnum k (i + 1))
theorem i1_big {i : Int} (hi : i.natAbs < 2 ^ 8999) : (i + 1).natAbs < 2 ^ 9000 := by
  have : (2 : Nat) ^ 9000 = 2 ^ 8999 * 2 := by rw [← Nat.pow_succ]
  have h1 : 1 ≤ (2 : Nat) ^ 8999 := Nat.one_le_two_pow
  omega
theorem p_cr_corner (m : Nat) (f : Bool) (k n i : Int) (hk : k.natAbs < 2 ^ 8999) (hi : i.natAbs < 2 ^ 8999) (h : List (List D)) :
    Phi fs (m + 2) "corner_right" [.tup [.str (if f then "corner" else "nocorner"), .int k, .int n, .int i]] h = .ok (.val (.bl (cornerB f k n i))) h ∧
    Phi fs (m + 2) "_law_right" [.tup [.str (if f then "corner" else "nocorner"), .int k, .int n, .int i]] h = .ok (.val (.bl (cornerB f k n i))) h := by
  have n1 := p_number m k i (big_le (by omega) hk) (big_le (by omega) hi) h
  have n2 := p_number m k (i + 1) (big_le (by omega) hk) (i1_big hi) h
  have n3 := p_lcorner m k i (big_le (by omega) hk) (big_le (by omega) hi) h
  have n4 := p_lcorner m k (i + 1) (big_le (by omega) hk) (i1_big hi) h
  clear hk hi
  rw [Phi_run lk_corner_right rfl, Phi_run lk__law_right rfl]
  by_cases c1 : k < 3
  · cases f <;> simp [f_corner_right, f__law_right, TxtDef.def, startT, cutD, sEnd, setAll, c1, cornerB]
  · by_cases c2 : i < 0
    · cases f <;> simp [f_corner_right, f__law_right, TxtDef.def, startT, cutD, sEnd, setAll, c1, c2, cornerB]
    · cases f
      · by_cases c3 : cnum k i < n
        · simp [f_corner_right, f__law_right, TxtDef.def, startT, cutD, sEnd, setAll, c1, c2, c3, cornerB, n1, n2, n3, n4]
        · simp [f_corner_right, f__law_right, TxtDef.def, startT, cutD, sEnd, setAll, c1, c2, c3, cornerB, n1, n2, n3, n4]
      · simp [f_corner_right, f__law_right, TxtDef.def, startT, cutD, sEnd, setAll, c1, c2, cornerB, n1, n2, n3, n4]
theorem cnum3 (x : Int) : cnum 3 x = (x * (x + 1)).fdiv 2 := by
  unfold cnum
  congr 1
  grind
def triB (n x y z : Int) : Bool := if x < 0 then false else if y < x then false else if z < y then false else decide (cnum 3 x + cnum 3 y + cnum 3 z = n)
theorem p_cr_tri (m : Nat) (n x y z : Int) (hx : x.natAbs < 2 ^ 8999) (hy : y.natAbs < 2 ^ 8999) (hz : z.natAbs < 2 ^ 8999) (h : List (List D)) :
    Phi fs (m + 2) "corner_right" [.tup [.str "triangles", .int n, .int x, .int y, .int z]] h = .ok (.val (.bl (triB n x y z))) h ∧
    Phi fs (m + 2) "_law_right" [.tup [.str "triangles", .int n, .int x, .int y, .int z]] h = .ok (.val (.bl (triB n x y z))) h := by
  have n1 := fun i (hi : i.natAbs < 2 ^ 8999) => p_number m 3 i (big_le (A := 3) (by omega) (by decide)) (big_le (by omega) hi) h
  have x1 := n1 x hx
  have y1 := n1 y hy
  have z1 := n1 z hz
  have mm : ∀ i : Int, i.natAbs < 2 ^ 8999 → binD .mul (.int i) (.int (i + 1)) = some (.val (.int (i * (i + 1)))) := fun i hi => bin_mulI (mulOk_lt (big_le (by omega) hi) (big_le (by omega) (i1_big hi)))
  have x2 := mm x hx
  have y2 := mm y hy
  have z2 := mm z hz
  have d2 : ∀ i : Int, binD .fdiv (.int i) (.int 2) = some (.val (.int (i.fdiv 2))) := fun i => bin_fdivI (by decide)
  clear hx hy hz n1 mm
  rw [Phi_run lk_corner_right rfl, Phi_run lk__law_right rfl]
  by_cases c1 : x < 0
  · have c1' : ¬ 0 ≤ x := by omega
    simp [f_corner_right, f__law_right, TxtDef.def, startT, cutD, sEnd, setAll, c1, c1', triB]
  · have c1' : 0 ≤ x := by omega
    by_cases c2 : y < x
    · have c2' : ¬ x ≤ y := by omega
      simp [f_corner_right, f__law_right, TxtDef.def, startT, cutD, sEnd, setAll, c1, c1', c2, c2', triB]
    · have c2' : x ≤ y := by omega
      by_cases c3 : z < y
      · have c3' : ¬ y ≤ z := by omega
        simp [f_corner_right, f__law_right, TxtDef.def, startT, cutD, sEnd, setAll, c1, c1', c2, c2', c3, c3', triB]
      · have c3' : y ≤ z := by omega
        simp [f_corner_right, f__law_right, TxtDef.def, startT, cutD, sEnd, setAll, c1, c1', c2, c2', c3, c3', triB, x1, y1, z1, x2, y2, z2, d2, cnum3]
/-- the judge of Mersenne claims -/
def mersB (f : Bool) (p : Int) (rests : List D) : Bool := if p < 3 then false else if p.fmod 2 = 0 then false else if 1000 < p then false else if deqs rests (lls (2 ^ p.toNat - 1) (p.toNat - 1)) then (f == deq (rests.getLast?.getD .non) (.int 0)) else false
theorem deqs_len : ∀ (a b : List D), deqs a b = true → a.length = b.length
  | [], [], _ => rfl
  | [], y :: b, h => by simp at h
  | x :: a, [], h => by simp at h
  | x :: a, y :: b, h => by
    rw [deqs_cons, Bool.and_eq_true] at h
    rw [List.length_cons, List.length_cons, deqs_len a b h.2]
theorem dats_app (n : Nat) : ∀ a b : List D, dats n (a ++ b) = (dats n a && dats n b)
  | [], b => by simp
  | x :: a, b => by simp [dats_app n a b, Bool.and_assoc]
theorem p_cr_mers (m : Nat) (f : Bool) (p : Int) (rests : List D) (hl : rests.length ≤ 990) (hd : dats 59 rests = true) (hr : ∃ i, rests.getLast? = some (.int i)) (h : List (List D)) :
    Phi fs (m + 3) "corner_right" [.tup [.str (if f then "mersenne" else "nomersenne"), .int p, .tup rests]] h = .ok (.val (.bl (mersB f p rests))) h ∧
    Phi fs (m + 3) "_law_right" [.tup [.str (if f then "mersenne" else "nomersenne"), .int p, .tup rests]] h = .ok (.val (.bl (mersB f p rests))) h := by
  have b2 : binD .mod (.int p) (.int 2) = some (.val (.int (p.fmod 2))) := bin_modI (by decide)
  rw [Phi_run lk_corner_right rfl, Phi_run lk__law_right rfl]
  by_cases c1 : p < 3
  · cases f <;> simp [f_corner_right, f__law_right, TxtDef.def, startT, cutD, sEnd, setAll, c1, mersB]
  by_cases c2 : p.fmod 2 = 0
  · cases f <;> simp [f_corner_right, f__law_right, TxtDef.def, startT, cutD, sEnd, setAll, c1, c2, b2, mersB]
  by_cases c3 : 1000 < p
  · have c4 : ¬ ((rests.length : Int) = p - 1) := by omega
    cases f <;> simp [f_corner_right, f__law_right, TxtDef.def, startT, cutD, sEnd, setAll, c1, c2, c3, c4, b2, mersB]
  obtain ⟨q, rfl⟩ : ∃ q : Nat, p = q := ⟨p.toNat, by omega⟩
  have r1 := p_rests (m) q (by omega) (by omega) h
  have r2 := p_lrests (m + 1) q (by omega) (by omega) h
  obtain ⟨j, hj⟩ := hr
  have hq : q - 1 = (q - 2) + 1 := by omega
  have dl : ∀ n k, dats 59 (lls n k) = true := fun n k => by
    unfold lls
    induction k with
    | zero => simp
    | succ k ih => rw [List.range_succ, List.map_append]; simp [dats_app, ih]
  have e1 : cmpD .ne (.tup rests) (.tup (lls (2 ^ q - 1) (q - 1))) = some (!deqs rests (lls (2 ^ q - 1) (q - 1))) := by
    rw [cmp_neD (by simpa using hd) (by simpa using dl _ _), deq_tup]
  have w : ∀ b, deqs rests (lls (2 ^ q - 1) (q - 1)) = b → mersB f q rests = (if b then (f == decide (j = 0)) else false) := fun b hb => by
    unfold mersB
    rw [if_neg c1, if_neg c2, if_neg c3, Int.toNat_natCast, hb, hj]
    simp
  cases hb : deqs rests (lls (2 ^ q - 1) (q - 1)) with
  | false =>
    have w' := w false hb
    rw [hb] at e1
    rw [w']
    clear w w'
    by_cases c4 : (rests.length : Int) = q - 1
    · cases f <;> simp [f_corner_right, f__law_right, TxtDef.def, startT, cutD, sEnd, setAll, c1, c2, c3, c4, b2, r1, r2, e1]
    · cases f <;> simp [f_corner_right, f__law_right, TxtDef.def, startT, cutD, sEnd, setAll, c1, c2, c3, c4, b2, r1, r2, e1]
  | true =>
    have hlen := deqs_len _ _ hb
    rw [lls_len] at hlen
    have c4 : (rests.length : Int) = q - 1 := by omega
    have w' := w true hb
    rw [hb] at e1
    rw [w']
    clear w w'
    cases f <;> simp [f_corner_right, f__law_right, TxtDef.def, startT, cutD, sEnd, setAll, c1, c2, c3, c4, b2, r1, r2, e1, hj]
end K44

namespace PI
open PySem L2
mutual
theorem shp_trans : ∀ (a b c : D), shp a b → shp b c → shp a c
  | .int _, .int _, .int _, _, _ => by unfold shp; trivial
  | .str x, .str y, .str z, h1, h2 => by unfold shp at *; rw [h1, h2]
  | .tup a, .tup b, .tup c, h1, h2 => by unfold shp at *; exact shps_trans a b c h1 h2
  | .int _, .non, _, h, _ => by unfold shp at h; exact h.elim
  | .int _, .bl _, _, h, _ => by unfold shp at h; exact h.elim
  | .int _, .str _, _, h, _ => by unfold shp at h; exact h.elim
  | .int _, .tup _, _, h, _ => by unfold shp at h; exact h.elim
  | .int _, .lst _, _, h, _ => by unfold shp at h; exact h.elim
  | .int _, .ref _, _, h, _ => by unfold shp at h; exact h.elim
  | .str _, .non, _, h, _ => by unfold shp at h; exact h.elim
  | .str _, .bl _, _, h, _ => by unfold shp at h; exact h.elim
  | .str _, .int _, _, h, _ => by unfold shp at h; exact h.elim
  | .str _, .tup _, _, h, _ => by unfold shp at h; exact h.elim
  | .str _, .lst _, _, h, _ => by unfold shp at h; exact h.elim
  | .str _, .ref _, _, h, _ => by unfold shp at h; exact h.elim
  | .tup _, .non, _, h, _ => by unfold shp at h; exact h.elim
  | .tup _, .bl _, _, h, _ => by unfold shp at h; exact h.elim
  | .tup _, .int _, _, h, _ => by unfold shp at h; exact h.elim
  | .tup _, .str _, _, h, _ => by unfold shp at h; exact h.elim
  | .tup _, .lst _, _, h, _ => by unfold shp at h; exact h.elim
  | .tup _, .ref _, _, h, _ => by unfold shp at h; exact h.elim
  | .int _, .int _, .non, _, h => by unfold shp at h; exact h.elim
  | .int _, .int _, .bl _, _, h => by unfold shp at h; exact h.elim
  | .int _, .int _, .str _, _, h => by unfold shp at h; exact h.elim
  | .int _, .int _, .tup _, _, h => by unfold shp at h; exact h.elim
  | .int _, .int _, .lst _, _, h => by unfold shp at h; exact h.elim
  | .int _, .int _, .ref _, _, h => by unfold shp at h; exact h.elim
  | .str _, .str _, .non, _, h => by unfold shp at h; exact h.elim
  | .str _, .str _, .bl _, _, h => by unfold shp at h; exact h.elim
  | .str _, .str _, .int _, _, h => by unfold shp at h; exact h.elim
  | .str _, .str _, .tup _, _, h => by unfold shp at h; exact h.elim
  | .str _, .str _, .lst _, _, h => by unfold shp at h; exact h.elim
  | .str _, .str _, .ref _, _, h => by unfold shp at h; exact h.elim
  | .tup _, .tup _, .non, _, h => by unfold shp at h; exact h.elim
  | .tup _, .tup _, .bl _, _, h => by unfold shp at h; exact h.elim
  | .tup _, .tup _, .str _, _, h => by unfold shp at h; exact h.elim
  | .tup _, .tup _, .int _, _, h => by unfold shp at h; exact h.elim
  | .tup _, .tup _, .lst _, _, h => by unfold shp at h; exact h.elim
  | .tup _, .tup _, .ref _, _, h => by unfold shp at h; exact h.elim
  | .non, _, _, h, _ => by unfold shp at h; exact h.elim
  | .bl _, _, _, h, _ => by unfold shp at h; exact h.elim
  | .lst _, _, _, h, _ => by unfold shp at h; exact h.elim
  | .ref _, _, _, h, _ => by unfold shp at h; exact h.elim
theorem shps_trans : ∀ (a b c : List D), shps a b → shps b c → shps a c
  | [], [], [], _, _ => by unfold shps; trivial
  | x :: a, y :: b, z :: c, h1, h2 => by unfold shps at *; exact ⟨shp_trans x y z h1.1 h2.1, shps_trans a b c h1.2 h2.2⟩
  | [], _ :: _, _, h, _ => by unfold shps at h; exact h.elim
  | _ :: _, [], _, h, _ => by unfold shps at h; exact h.elim
  | [], [], _ :: _, _, h => by unfold shps at h; exact h.elim
  | _ :: _, _ :: _, [], _, h => by unfold shps at h; exact h.elim
end
/-- the bound of ints after touches -/
def Bs (B : Nat) : Nat → Nat
  | 0 => B
  | i + 1 => 3 * Bs B i + 1000000000000
theorem Bs_le (B : Nat) : ∀ i j, i ≤ j → Bs B i ≤ Bs B j
  | i, 0, h => by have : i = 0 := by omega
                  subst this; exact Nat.le_refl _
  | i, j + 1, h => by
    rcases Nat.lt_or_ge i (j + 1) with z | z
    · have := Bs_le B i j (by omega)
      show Bs B i ≤ 3 * Bs B j + 1000000000000
      omega
    · have : i = j + 1 := by omega
      subst this; exact Nat.le_refl _
end PI
namespace K44
open PySem PI
theorem judged1 (m : Nat) (w : Int) (f1 f2 : Str) (hw : w = 0 ∧ f1 = "line_right" ∧ f2 = "_law_line_right" ∨ w = 1 ∧ f1 = "corner_right" ∧ f2 = "_law_right") (d0 : D) (ds : List D) (B : Nat) (hlen : ds.length ≤ 10000)
    (hpl : PL 3 (.tup ds)) (hb : bnd B 3 (.tup ds)) (H : ∀ es h, shps ds es → PL 3 (.tup es) → bnd (Bs B 2) 3 (.tup es) → JOK (m + 20) f1 f2 h (.tup (d0 :: es))) (p : List D) (hp : PoolOk p) :
    ∃ p', PoolOk p' ∧ Phi fs (m + 21) "_law_judged" [.ref 0, .tup (d0 :: ds), .int w] [p] = .ok (.val (.bl true)) [p'] := by
  rw [Phi_run lk__law_judged rfl]
  have sh0 : shps ds ds := by
    have := shp_refl 3 _ hpl
    unfold shp at this; exact this
  have inner : ∀ (cnt : Nat), cnt ≤ 2 → ∀ (p : List D) (tu x : Option Sl), PoolOk p → ∃ es p' x', PoolOk p' ∧ shps ds es ∧ PL 3 (.tup es) ∧ bnd (Bs B 2) 3 (.tup es) ∧
      forR (Phi fs (m + 20)) (.name 5) b_law_judged_1 (rangeD 0 cnt) ⟨[some (.val (.ref 0)), some (.val (.tup (d0 :: ds))), some (.val (.int w)), tu, some (.val (.tup (d0 :: ds))), x], [p]⟩ = .next ⟨[some (.val (.ref 0)), some (.val (.tup (d0 :: ds))), some (.val (.int w)), tu, some (.val (.tup (d0 :: es))), x'], [p']⟩ := by
    intro cnt hcnt p tu x hp
    obtain ⟨s', e, es, p', x', h1, h2, h3, h4, rfl⟩ := forR_all (Φ := Phi fs (m + 20)) (t := .name 5) (b := b_law_judged_1) (rangeD 0 cnt)
      (fun i s => ∃ es p' x', PoolOk p' ∧ shps ds es ∧ PL 3 (.tup es) ∧ bnd (Bs B i) 3 (.tup es) ∧ s = ⟨[some (.val (.ref 0)), some (.val (.tup (d0 :: ds))), some (.val (.int w)), tu, some (.val (.tup (d0 :: es))), x'], [p']⟩)
      (fun i d s e hI => by
        obtain ⟨es, p, x, hp, hs, hpl, hb, rfl⟩ := hI
        obtain ⟨d', p1, e1, hp1, hs1, hpl1, hb1⟩ := touched1 lk__law_draw lk__law_touched 3 (.tup es) hpl hb (m + 18) p (by omega) hp
        obtain ⟨es', rfl, hs2⟩ := shp_tup hs1
        have l1 := shps_len _ _ hs
        have l2 := shps_len _ _ hs2
        have a1 : binD .add (.tup [d0]) (.tup es') = some (.val (.tup (d0 :: es'))) := bin_addT (by simp [line]; omega)
        refine ⟨_, rfl, _, by simp [b_law_judged_1, cutD, sEnd, e1, a1]; rfl, es', p1, _, hp1, shps_trans _ _ _ hs hs2, hpl1, hb1, rfl⟩)
      ⟨[some (.val (.ref 0)), some (.val (.tup (d0 :: ds))), some (.val (.int w)), tu, some (.val (.tup (d0 :: ds))), x], [p]⟩ ⟨ds, p, x, hp, sh0, hpl, hb, rfl⟩
    rw [range_len] at h4
    exact ⟨es, p', x', h1, h2, h3, bnd_mono (Bs_le B _ _ hcnt) _ _ h4, e⟩
  obtain ⟨s', e, p', x', y', z', h1, rfl⟩ := forR_all (Φ := Phi fs (m + 20)) (t := .name 3) (b := b_law_judged_0) (rangeD 0 4)
      (fun i s => ∃ p' x y z, PoolOk p' ∧ s = ⟨[some (.val (.ref 0)), some (.val (.tup (d0 :: ds))), some (.val (.int w)), x, y, z], [p']⟩)
      (fun i d s e hI => by
        obtain ⟨p, x, y, z, hp, rfl⟩ := hI
        obtain ⟨rfl, hi⟩ := range_get _ _ _ _ e
        have tcase : ∃ cnt : Nat, cnt ≤ 2 ∧ atD [.int 0, .int 1, .int 1, .int 2] (0 + (i : Int)) = some (.int cnt) := by
          have : i = 0 ∨ i = 1 ∨ i = 2 ∨ i = 3 := by omega
          rcases this with rfl | rfl | rfl | rfl
          · exact ⟨0, by omega, by simp⟩
          · exact ⟨1, by omega, by simp⟩
          · exact ⟨1, by omega, by simp⟩
          · exact ⟨2, by omega, by simp⟩
        obtain ⟨cnt, hcnt, ht⟩ := tcase
        obtain ⟨es, p', x', h1, h2, h3, h4, h5⟩ := inner cnt hcnt p (some (.val (.int (0 + i)))) z hp
        obtain ⟨b, j1, j2⟩ := H es [p'] h2 h3 h4
        have sr := same_refl lk__law_same [p'] 0 (.bl b) trivial (m + 19) (by omega)
        have sm : smallI (cnt : Int) = true := small_len (by unfold line; omega)
        refine ⟨_, rfl, ⟨[some (.val (.ref 0)), some (.val (.tup (d0 :: ds))), some (.val (.int w)), some (.val (.int (0 + i))), some (.val (.tup (d0 :: es))), x'], [p']⟩, ?_, p', _, _, _, h1, rfl⟩
        rcases hw with ⟨rfl, rfl, rfl⟩ | ⟨rfl, rfl, rfl⟩
        · simp only [Int.zero_add] at ht h5
          simp [b_law_judged_0, ht, h5, j1, j2, sr, sm]
        · simp only [Int.zero_add] at ht h5
          simp [b_law_judged_0, ht, h5, j1, j2, sr, sm])
      ⟨[some (.val (.ref 0)), some (.val (.tup (d0 :: ds))), some (.val (.int w)), none, none, none], [p]⟩ ⟨p, _, _, _, hp, rfl⟩
  refine ⟨p', h1, ?_⟩
  have sm : smallI 4 = true := by decide
  simp [f__law_judged, TxtDef.def, startT, e, sm]
end K44

namespace K44
open PySem PI
def callee (w : Int) : Str := if w = 0 then "line" else if w = 1 then "count_line" else if w = 2 then "corner_number" else if w = 3 then "corner" else if w = 4 then "triangles" else "mersenne"
def cargs (w a b c : Int) : List D := if w = 0 ∨ w = 1 then [.int a, .int b, .int c] else if w = 2 ∨ w = 3 then [.int a, .int b] else [.int a]
theorem told (m : Nat) (w a b c : Int) (hw : 0 ≤ w ∧ w ≤ 5) (k : Bool) (h : List (List D)) (H : Phi fs m (callee w) (cargs w a b c) h = .exc (if k then 1 else 0) (.str "number") h) :
    Phi fs (m + 1) "_law_told" [.int w, .int a, .int b, .int c] h = .ok (.val (.str (if k then "large number" else "bad number"))) h := by
  rw [Phi_run lk__law_told rfl]
  have : w = 0 ∨ w = 1 ∨ w = 2 ∨ w = 3 ∨ w = 4 ∨ w = 5 := by omega
  have b1 := bin_addS "bad " "number" (by decide)
  have b2 := bin_addS "large " "number" (by decide)
  rcases this with rfl | rfl | rfl | rfl | rfl | rfl <;> simp [callee, cargs] at H <;> cases k <;>
    simp [f__law_told, TxtDef.def, startT, H, noExc, Sl.calm, b1, b2, outExc] <;> rfl
end K44

namespace K44
open PySem PI
def mlist : List Nat := [3, 5, 7, 13, 17, 19, 31, 61, 89, 107, 127]
def llN (M : Nat) : Nat → Nat
  | 0 => 4 % M
  | j + 1 => (llN M j * llN M j + M - 2) % M
theorem ll_nat {M : Nat} (hM : 7 ≤ M) : ∀ j, ll M j = (llN M j : Nat)
  | 0 => by unfold ll llN; have := fmod_nat 4 M; exact this
  | j + 1 => by
    unfold ll llN
    rw [ll_nat hM j, ← fmod_nat, Int.fmod_eq_emod_of_nonneg _ (by omega), Int.fmod_eq_emod_of_nonneg _ (by omega)]
    have : ((llN M j * llN M j + M - 2 : Nat) : Int) = ((llN M j : Nat) : Int) ^ 2 - 2 + M := by
      have h : ((llN M j * llN M j : Nat) : Int) = ((llN M j : Nat) : Int) ^ 2 := by push_cast; grind
      rw [← h]; omega
    rw [this, Int.add_emod_right]
theorem mers_list : ∀ j < 64, (llN (2 ^ (3 + 2 * j) - 1) (3 + 2 * j - 2) == 0) = mlist.contains (3 + 2 * j) := by decide +kernel
end K44

set_option exponentiation.threshold 100
namespace K44
open PySem PI
theorem bnd_own {B C n : Nat} {x : Str} {es : List D} (hBC : B ≤ C) (h : bnd B (n + 1) (.tup es)) : bnd C 1 (.tup (.str x :: es)) := by
  intro d hd
  rcases List.mem_cons.mp hd with z | z
  · subst z; trivial
  · have := h d z
    cases d with
    | int i => have h2 : i.natAbs < B := by cases n <;> exact this
               exact Nat.lt_of_lt_of_le h2 hBC
    | _ => trivial
theorem Bs_two0 (B c : Nat) (h : 4 * c ≤ B) : 3 * (3 * B + c) + c ≤ B * 1024 := by omega
theorem Bs_two (B : Nat) (h : 4000000000000 ≤ B) : Bs B 2 ≤ B * 1024 := Bs_two0 B 1000000000000 h
theorem Bs_pow (n k : Nat) (h0 : 60 ≤ n) (h1 : n + 10 ≤ k) : Bs (2 ^ n) 2 ≤ 2 ^ k := by
  have h3 : 2 ^ 60 ≤ 2 ^ n := Nat.pow_le_pow_right (by omega) h0
  have h4 : 2 ^ (n + 10) ≤ 2 ^ k := Nat.pow_le_pow_right (by omega) h1
  have h5 : (4000000000000 : Nat) ≤ 2 ^ 60 := by decide
  have h6 : (2 : Nat) ^ 10 = 1024 := by decide
  have := Bs_two _ (Nat.le_trans h5 h3)
  rw [Nat.pow_add, h6] at h4
  exact Nat.le_trans this h4
theorem big9 : Bs (2 ^ 400) 2 ≤ 2 ^ 8999 := Bs_pow 400 8999 (by omega) (by omega)
theorem big9' : Bs (2 ^ 400) 2 ≤ 2 ^ 9000 := Bs_pow 400 9000 (by omega) (by omega)
theorem jd_line (m : Nat) (a b c x y u v : Int) (hb : bnd (2 ^ 400) 3 (.tup [.int a, .int b, .int c, .int x, .int y, .int u, .int v])) (p : List D) (hp : PoolOk p) :
    ∃ p', PoolOk p' ∧ Phi fs (m + 21) "_law_judged" [.ref 0, .tup [.str "line", .int a, .int b, .int c, .int x, .int y, .int u, .int v], .int 0] [p] = .ok (.val (.bl true)) [p'] := by
  refine judged1 m 0 "line_right" "_law_line_right" (.inl ⟨rfl, rfl, rfl⟩) (.str "line") _ (2 ^ 400) (by simp) (by simp [PL, line]) hb (fun es h hs hpl hbn => ?_) p hp
  have hh := bnd_own (x := "line") big9' hbn
  refine j_line (m + 18) a b c x y u v _ h (by unfold shp shps; exact ⟨by unfold shp; rfl, hs⟩) hh
theorem jd_off (m : Nat) (a b c g : Int) (hb : bnd (2 ^ 400) 3 (.tup [.int a, .int b, .int c, .int g])) (p : List D) (hp : PoolOk p) :
    ∃ p', PoolOk p' ∧ Phi fs (m + 21) "_law_judged" [.ref 0, .tup [.str "off", .int a, .int b, .int c, .int g], .int 0] [p] = .ok (.val (.bl true)) [p'] := by
  refine judged1 m 0 "line_right" "_law_line_right" (.inl ⟨rfl, rfl, rfl⟩) (.str "off") _ (2 ^ 400) (by simp) (by simp [PL, line]) hb (fun es h hs hpl hbn => ?_) p hp
  exact j_off (m + 18) a b c g _ h (by unfold shp shps; exact ⟨by unfold shp; rfl, hs⟩)
theorem jd_corner (m : Nat) (f : Bool) (k n i : Int) (hb : bnd (2 ^ 400) 3 (.tup [.int k, .int n, .int i])) (p : List D) (hp : PoolOk p) :
    ∃ p', PoolOk p' ∧ Phi fs (m + 21) "_law_judged" [.ref 0, .tup [.str (if f then "corner" else "nocorner"), .int k, .int n, .int i], .int 1] [p] = .ok (.val (.bl true)) [p'] := by
  refine judged1 m 1 "corner_right" "_law_right" (.inr ⟨rfl, rfl, rfl⟩) _ _ (2 ^ 400) (by simp) (by simp [PL, line]) hb (fun es h hs hpl hbn => ?_) p hp
  obtain ⟨e1, es, rfl, h1, hs⟩ := shps_cons hs
  obtain ⟨e2, es, rfl, h2, hs⟩ := shps_cons hs
  obtain ⟨e3, es, rfl, h3, hs⟩ := shps_cons hs
  cases shps_nil hs
  obtain ⟨k, rfl⟩ := shp_int h1
  obtain ⟨n, rfl⟩ := shp_int h2
  obtain ⟨i, rfl⟩ := shp_int h3
  have b1 := Nat.lt_of_lt_of_le (bnd_at hbn (i := k) (by simp)) big9
  have b3 := Nat.lt_of_lt_of_le (bnd_at hbn (i := i) (by simp)) big9
  have := p_cr_corner (m + 18) f k n i b1 b3 h
  exact ⟨_, this.1, this.2⟩
theorem jd_tri (m : Nat) (n x y z : Int) (hb : bnd (2 ^ 400) 3 (.tup [.int n, .int x, .int y, .int z])) (p : List D) (hp : PoolOk p) :
    ∃ p', PoolOk p' ∧ Phi fs (m + 21) "_law_judged" [.ref 0, .tup [.str "triangles", .int n, .int x, .int y, .int z], .int 1] [p] = .ok (.val (.bl true)) [p'] := by
  refine judged1 m 1 "corner_right" "_law_right" (.inr ⟨rfl, rfl, rfl⟩) _ _ (2 ^ 400) (by simp) (by simp [PL, line]) hb (fun es h hs hpl hbn => ?_) p hp
  obtain ⟨e1, es, rfl, h1, hs⟩ := shps_cons hs
  obtain ⟨e2, es, rfl, h2, hs⟩ := shps_cons hs
  obtain ⟨e3, es, rfl, h3, hs⟩ := shps_cons hs
  obtain ⟨e4, es, rfl, h4, hs⟩ := shps_cons hs
  cases shps_nil hs
  obtain ⟨n, rfl⟩ := shp_int h1
  obtain ⟨x, rfl⟩ := shp_int h2
  obtain ⟨y, rfl⟩ := shp_int h3
  obtain ⟨z, rfl⟩ := shp_int h4
  have b2 := Nat.lt_of_lt_of_le (bnd_at hbn (i := x) (by simp)) big9
  have b3 := Nat.lt_of_lt_of_le (bnd_at hbn (i := y) (by simp)) big9
  have b4 := Nat.lt_of_lt_of_le (bnd_at hbn (i := z) (by simp)) big9
  have := p_cr_tri (m + 18) n x y z b2 b3 b4 h
  exact ⟨_, this.1, this.2⟩
end K44

namespace K44
open PySem PI
theorem small_pow {z : Int} {B : Nat} (h : z.natAbs < 1000000000000000000000000000000000000000000000000000) (hB : 200 ≤ B) : z.natAbs < 2 ^ B := by
  have h1 : (1000000000000000000000000000000000000000000000000000 : Nat) ≤ 2 ^ 200 := by decide
  have h2 : (2 : Nat) ^ 200 ≤ 2 ^ B := Nat.pow_le_pow_right (by omega) hB
  exact Nat.lt_of_lt_of_le h (Nat.le_trans h1 h2)
theorem fdiv_abs (c : Int) (g : Nat) : (c.fdiv g).natAbs ≤ c.natAbs := by
  rw [Int.fdiv_eq_ediv_of_nonneg _ (by omega)]
  exact Int.natAbs_ediv_le_natAbs c g
theorem off_ok {a b c : Int} {g : Nat} (hg : g = Nat.gcd a.natAbs b.natAbs) (gp : 0 < g) (hz : ¬ (a = 0 ∧ b = 0)) (c0 : ¬ c.fmod g = 0) : offB a b c g = true := by
  have g0 : ¬ ((g : Int) = 0) := by omega
  have d1 : a.fmod g = 0 := Int.fmod_eq_zero_of_dvd (by have := Int.gcd_dvd_left a b; rw [Int.gcd, ← hg] at this; exact this)
  have d2 : b.fmod g = 0 := Int.fmod_eq_zero_of_dvd (by have := Int.gcd_dvd_right a b; rw [Int.gcd, ← hg] at this; exact this)
  unfold offB dvB
  rw [if_neg hz, if_neg g0, if_neg g0, if_neg g0, decide_eq_true d1, decide_eq_true d2, decide_eq_false c0]
  rfl
theorem line_ok {a b c x y : Int} {g : Nat} (hg : g = Nat.gcd a.natAbs b.natAbs) (gp : 0 < g) (hz : ¬ (a = 0 ∧ b = 0)) (c0 : c.fmod g = 0) (hbz : a * x + b * y = g) : lineB a b c (c.fdiv g * x) (c.fdiv g * y) (b.fdiv g) (0 - a.fdiv g) = true := by
  obtain ⟨q, hq⟩ : ∃ q, c = g * q := Int.dvd_of_fmod_eq_zero c0
  have hcq : c.fdiv g = q := by rw [hq]; exact Int.mul_fdiv_cancel_left _ (by omega)
  obtain ⟨a', ea⟩ : ∃ a', a = g * a' := by
    have := Int.gcd_dvd_left a b
    rw [Int.gcd, ← hg] at this; exact this
  obtain ⟨b', eb⟩ : ∃ b', b = g * b' := by
    have := Int.gcd_dvd_right a b
    rw [Int.gcd, ← hg] at this; exact this
  have fa : a.fdiv g = a' := by rw [ea]; exact Int.mul_fdiv_cancel_left _ (by omega)
  have fb : b.fdiv g = b' := by rw [eb]; exact Int.mul_fdiv_cancel_left _ (by omega)
  rw [hcq, fa, fb]
  have bez : a' * x + b' * y = 1 := by
    have h1 : (g : Int) * (a' * x + b' * y) = g * 1 := by rw [Int.mul_one]; rw [← hbz]; rw [ea, eb]; grind
    exact Int.eq_of_mul_eq_mul_left (by omega) h1
  have e1 : a * (q * x) + b * (q * y) = c := by
    have : a * (q * x) + b * (q * y) = q * (a * x + b * y) := by grind
    rw [this, hbz, hq, Int.mul_comm]
  have e2 : a * b' + b * (0 - a') = 0 := by rw [ea, eb]; grind
  have e3 : Nat.gcd b'.natAbs (0 - a').natAbs = 1 := by
    have h1 : ((Nat.gcd b'.natAbs (0 - a').natAbs : Nat) : Int) ∣ b' := Int.gcd_dvd_left b' (0 - a')
    have h2 : ((Nat.gcd b'.natAbs (0 - a').natAbs : Nat) : Int) ∣ 0 - a' := Int.gcd_dvd_right b' (0 - a')
    have h3 : ((Nat.gcd b'.natAbs (0 - a').natAbs : Nat) : Int) ∣ 1 := by
      obtain ⟨s, hs⟩ := h1
      obtain ⟨t, ht⟩ := h2
      generalize ((Nat.gcd b'.natAbs (0 - a').natAbs : Nat) : Int) = G at *
      refine ⟨s * y - t * x, ?_⟩
      rw [← bez]
      have : a' = - (G * t) := by omega
      rw [this, hs]
      grind
    have h4 := Int.natAbs_dvd_natAbs.mpr h3
    simpa using h4
  unfold lineB
  rw [if_neg hz, decide_eq_true e1, decide_eq_true e2, e3]
  rfl
/-- the line's answer, judged -/
theorem line_all (m : Nat) (a b c : Int) (hab : a ≠ 0 ∨ b ≠ 0) (ha : a.natAbs ≤ 350000000000) (hb : b.natAbs ≤ 350000000000) (hc : c.natAbs < 100000000000000000000000000000000000000000) (p : List D) (hp : PoolOk p) :
    ∃ (g : Nat) (ds : List D) (p' : List D) (w : Bool), g = Nat.gcd a.natAbs b.natAbs ∧ 0 < g ∧ w = decide (c.fmod g = 0) ∧ PoolOk p' ∧ Phi fs (m + 21) "line" [.int a, .int b, .int c] [p] = .ok (.val (.tup (.str (if w then "line" else "off") :: .int a :: .int b :: .int c :: ds))) [p] ∧
      PL 1 (.tup (.str (if w then "line" else "off") :: .int a :: .int b :: .int c :: ds)) ∧ Phi fs (m + 21) "_law_line_right" [.tup (.str (if w then "line" else "off") :: .int a :: .int b :: .int c :: ds)] [p] = .ok (.val (.bl true)) [p] ∧
      Phi fs (m + 21) "_law_judged" [.ref 0, .tup (.str (if w then "line" else "off") :: .int a :: .int b :: .int c :: ds), .int 0] [p] = .ok (.val (.bl true)) [p'] := by
  have up : ∀ z : Int, z.natAbs ≤ 10000000000000 → ∀ B, 200 ≤ B → z.natAbs < 2 ^ B := fun z hz B hB => small_pow (Nat.lt_of_le_of_lt hz (by decide)) hB
  have upc : ∀ B, 200 ≤ B → c.natAbs < 2 ^ B := fun B hB => small_pow (Nat.lt_of_lt_of_le hc (by decide)) hB
  have hz : ¬ (a = 0 ∧ b = 0) := by omega
  obtain ⟨g, x, y, hg, hbz, hx, hy, e⟩ := p_line (m + 18) a b c hab (up a (by omega) _ (by omega)) (up b (by omega) _ (by omega)) (upc _ (by omega)) [p]
  have gp : 0 < g := by
    rw [hg]
    rcases hab with z | z
    · exact Nat.gcd_pos_of_pos_left _ (by omega)
    · exact Nat.gcd_pos_of_pos_right _ (by omega)
  have gl : g ≤ 350000000000 := by
    rw [hg]
    rcases hab with z | z
    · exact Nat.le_trans (Nat.gcd_le_left _ (by omega)) ha
    · exact Nat.le_trans (Nat.gcd_le_right _ (by omega)) hb
  have la := fdiv_abs a g
  have lb := fdiv_abs b g
  have lc := fdiv_abs c g
  by_cases c0 : c.fmod g = 0
  · rw [if_pos c0] at e
    have ok := line_ok hg gp hz c0 hbz
    have bq : (c.fdiv g).natAbs < 2 ^ 200 := Nat.lt_of_le_of_lt lc (upc _ (by omega))
    have bx : (c.fdiv g * x).natAbs < 2 ^ 400 := big_mul (A := 200) (B := 200) bq (up x (by omega) _ (by omega))
    have by' : (c.fdiv g * y).natAbs < 2 ^ 400 := big_mul (A := 200) (B := 200) bq (up y (by omega) _ (by omega))
    have bu := up (b.fdiv g) (by omega)
    have bv := up (0 - a.fdiv g) (by omega)
    obtain ⟨p', hp', ej⟩ := jd_line m a b c (c.fdiv g * x) (c.fdiv g * y) (b.fdiv g) (0 - a.fdiv g) (by
      intro d hd
      simp only [List.mem_cons, List.not_mem_nil, or_false] at hd
      rcases hd with rfl | rfl | rfl | rfl | rfl | rfl | rfl
      · exact up a (by omega) _ (by omega)
      · exact up b (by omega) _ (by omega)
      · exact upc _ (by omega)
      · exact bx
      · exact by'
      · exact bu _ (by omega)
      · exact bv _ (by omega)) p hp
    have er := p_lline_line (m + 19) a b c (c.fdiv g * x) (c.fdiv g * y) (b.fdiv g) (0 - a.fdiv g) (up a (by omega) _ (by omega)) (up b (by omega) _ (by omega)) (big_le (by omega) bx) (big_le (by omega) by') (bu _ (by omega)) (bv _ (by omega)) [p]
    rw [ok] at er
    exact ⟨g, _, p', true, hg, gp, (decide_eq_true c0).symm, hp', e, by simp [PL, line], er, ej⟩
  · rw [if_neg c0] at e
    have ok := off_ok hg gp hz c0
    obtain ⟨p', hp', ej⟩ := jd_off m a b c g (by
      intro d hd
      simp only [List.mem_cons, List.not_mem_nil, or_false] at hd
      rcases hd with rfl | rfl | rfl | rfl
      · exact up a (by omega) _ (by omega)
      · exact up b (by omega) _ (by omega)
      · exact upc _ (by omega)
      · exact up _ (by omega) _ (by omega)) p hp
    have er := p_lline_off (m + 19) a b c g [p]
    rw [ok] at er
    exact ⟨g, _, p', false, hg, gp, (decide_eq_false c0).symm, hp', e, by simp [PL, line], er, ej⟩
end K44

namespace K44
open PySem PI
theorem at3 {a b c : D} {u : Int} (h0 : 0 ≤ u) (h1 : u < 3) : ∃ d, atD [a, b, c] u = some d ∧ (d = a ∨ d = b ∨ d = c) := by
  have : u = 0 ∨ u = 1 ∨ u = 2 := by omega
  rcases this with rfl | rfl | rfl
  · exact ⟨a, by simp, .inl rfl⟩
  · exact ⟨b, by simp, .inr (.inl rfl)⟩
  · exact ⟨c, by simp, .inr (.inr rfl)⟩
theorem at2 {a b : D} {u : Int} (h0 : 0 ≤ u) (h1 : u < 2) : ∃ d, atD [a, b] u = some d ∧ (d = a ∨ d = b) := by
  have : u = 0 ∨ u = 1 := by omega
  rcases this with rfl | rfl
  · exact ⟨a, by simp, .inl rfl⟩
  · exact ⟨b, by simp, .inr rfl⟩
theorem chA (m : Nat) (x0 x2 x3 x4 x5 x6 x7 x8 x9 x10 x11 x12 x13 x14 x15 x16 x17 x18 x19 : Option Sl) (p : List D) (hp : PoolOk p) :
    ∃ y4 y8 y9 y13 y14 y15 p', PoolOk p' ∧ exs (Phi fs (m + 40)) blaw_0_0 ⟨[x0, some (.val (.ref 0)), x2, x3, x4, x5, x6, x7, x8, x9, x10, x11, x12, x13, x14, x15, x16, x17, x18, x19], [p]⟩ =
      exs (Phi fs (m + 40)) blaw_0_4 ⟨[x0, some (.val (.ref 0)), x2, x3, y4, x5, x6, x7, y8, y9, x10, x11, x12, y13, y14, y15, x16, x17, x18, x19], [p']⟩ := by
  obtain ⟨u1, p1, e1, hp1, u10, u11⟩ := draw1 (k := m + 39) lk__law_draw hp (size := 3) (by decide) (by decide)
  obtain ⟨d1, at1, hd1⟩ := at3 (a := .int 1) (b := .int 6) (c := .int 35) u10 u11
  obtain ⟨t, ht, ht2⟩ : ∃ t : Int, d1 = .int t ∧ 1 ≤ t ∧ t ≤ 35 := by
    rcases hd1 with rfl | rfl | rfl
    · exact ⟨1, rfl, by omega, by omega⟩
    · exact ⟨6, rfl, by omega, by omega⟩
    · exact ⟨35, rfl, by omega, by omega⟩
  subst ht
  obtain ⟨v2, p2, e2, hp2, v20, v21⟩ := some1 (k := m + 38) lk__law_draw lk__law_some hp1
  obtain ⟨s2, p3, e3, hp3, hs2⟩ := sign1 (k := m + 38) lk__law_draw lk__law_sign hp2 v2
  obtain ⟨v3, p4, e4, hp4, v30, v31⟩ := some1 (k := m + 38) lk__law_draw lk__law_some hp3
  obtain ⟨s3, p5, e5, hp5, hs3⟩ := sign1 (k := m + 38) lk__law_draw lk__law_sign hp4 v3
  obtain ⟨c1, p6, e6, hp6, c10, c11⟩ := huge1 (k := m + 37) lk__law_draw lk__law_sign lk__law_huge hp5
  obtain ⟨v4, p7, e7, hp7, v40, v41⟩ := some1 (k := m + 38) lk__law_draw lk__law_some hp6
  obtain ⟨c2, p8, e8, hp8, hc2⟩ := sign1 (k := m + 38) lk__law_draw lk__law_sign hp7 v4
  obtain ⟨u9, p9, e9, hp9, u90, u91⟩ := draw1 (k := m + 39) lk__law_draw hp8 (size := 2) (by decide) (by decide)
  obtain ⟨d9, at9, hd9⟩ := at2 (a := .int c1) (b := .int c2) u90 u91
  obtain ⟨c, hc, hcb⟩ : ∃ c : Int, d9 = .int c ∧ c.natAbs < 100000000000000000000000000000000000000000 := by
    rcases hd9 with rfl | rfl
    · exact ⟨c1, rfl, by omega⟩
    · exact ⟨c2, rfl, Nat.lt_of_le_of_lt (by omega : c2.natAbs ≤ 10000000000) (by decide)⟩
  subst hc
  clear hd1 hd9
  have ta : (s2 * t).natAbs ≤ 350000000000 := by
    rw [Int.natAbs_mul]
    have h1 : s2.natAbs ≤ 10000000000 := by omega
    have h2 : t.natAbs ≤ 35 := by omega
    exact Nat.mul_le_mul h1 h2
  have tb : (s3 * t).natAbs ≤ 350000000000 := by
    rw [Int.natAbs_mul]
    have h1 : s3.natAbs ≤ 10000000000 := by omega
    have h2 : t.natAbs ≤ 35 := by omega
    exact Nat.mul_le_mul h1 h2
  have m2 : binD .mul (.int s2) (.int t) = some (.val (.int (s2 * t))) := bin_mulI (by simp only [mulOk, Bool.or_eq_true, decide_eq_true_eq]; exact .inl (.inr (by omega)))
  have m3 : binD .mul (.int s3) (.int t) = some (.val (.int (s3 * t))) := bin_mulI (by simp only [mulOk, Bool.or_eq_true, decide_eq_true_eq]; exact .inl (.inr (by omega)))
  generalize s2 * t = a at *
  generalize s3 * t = b at *
  by_cases z : a = 0 ∧ b = 0
  · obtain ⟨rfl, rfl⟩ := z
    have tl := told (m + 39) 0 0 0 c (by omega) false [p9] (by simpa [callee, cargs] using p_line0 (m + 38) c [p9])
    simp only [Bool.false_eq_true, if_false] at tl
    have sr := same_refl lk__law_same [p9] 0 (.str "bad number") (by simp [SD]) (m + 39) (by omega)
    refine ⟨x4, some (.val (.int t)), some (.val (.int c)), some (.val (.int 0)), some (.val (.int 0)), x15, p9, hp9, ?_⟩
    simp [blaw_0_0, blaw_0_1, blaw_0_2, blaw_0_3, e1, at1, e2, e3, e4, e5, e6, e7, e8, e9, at9, m2, m3, tl, sr]
  · have hab : a ≠ 0 ∨ b ≠ 0 := by omega
    obtain ⟨g, ds, p', w, hg, gp, hw, hp', q1, q2, q3, q4⟩ := line_all (m + 19) a b c hab ta tb hcb p9 hp9
    have pl := plain1 (k := m + 39) lk__law_plain [p9] 1 _ q2 (by omega)
    have lg := lgcd1 (k := m + 39) lk__law_gcd a b (by
      have : b.natAbs < 2 ^ 200 := small_pow (Nat.lt_of_le_of_lt tb (by decide)) (by omega)
      by_cases z : b.natAbs = 0
      · rw [z]; decide
      · have := (Nat.log2_lt z).mpr this
        omega) [p9]
    rw [← hg] at lg
    have g0 : ¬ ((g : Int) = 0) := by omega
    have md : binD .mod (.int c) (.int (g : Int)) = some (.val (.int (c.fmod g))) := bin_modI g0
    have w2 : (!decide (c.fmod g = 0)) = !w := by rw [hw]
    refine ⟨some (.val (.tup (.str (if w then "line" else "off") :: .int a :: .int b :: .int c :: ds))), some (.val (.int t)), some (.val (.int c)), some (.val (.int a)), some (.val (.int b)), some (.val (.str (if w then "line" else "off"))), p', hp', ?_⟩
    clear hg q2 hcb hw ta tb
    by_cases a0 : a = 0
    · have b0 : ¬ b = 0 := fun y => z ⟨a0, y⟩
      subst a0
      cases w <;> simp only [Bool.false_eq_true, if_false, if_true] at q1 q3 q4 pl <;> simp [blaw_0_0, blaw_0_1, blaw_0_2, blaw_0_3, e1, at1, e2, e3, e4, e5, e6, e7, e8, e9, at9, m2, m3, b0, q1, q3, q4, pl, lg, md, w2, cutD, sEnd, isTy]
    · cases w <;> simp only [Bool.false_eq_true, if_false, if_true] at q1 q3 q4 pl <;> simp [blaw_0_0, blaw_0_1, blaw_0_2, blaw_0_3, e1, at1, e2, e3, e4, e5, e6, e7, e8, e9, at9, m2, m3, a0, q1, q3, q4, pl, lg, md, w2, cutD, sEnd, isTy]
end K44

namespace K44
open PySem PI
theorem fm_len (P : Nat → Bool) (f : D → Option D) : ∀ l : List Nat, (∀ k ∈ l, f (.int (0 + (k : Int))) = if P k then some (.int (0 + (k : Int))) else none) → ((l.map fun (k : Nat) => D.int (0 + (k : Int))).filterMap f).length = (l.filter P).length
  | [], _ => rfl
  | k :: l, h => by
    have ih := fm_len P f l fun k hk => h k (List.mem_cons_of_mem _ hk)
    have h1 := h k List.mem_cons_self
    rw [List.map_cons]
    cases hp : P k with
    | true =>
      rw [hp] at h1
      rw [List.filterMap_cons_some (by rw [h1]; rfl), List.filter_cons_of_pos hp, List.length_cons, List.length_cons, ih]
    | false =>
      rw [hp] at h1
      rw [List.filterMap_cons_none (by rw [h1]; rfl), List.filter_cons_of_neg (by rw [hp]; simp), ih]
theorem chB (m : Nat) (x0 x2 x3 x4 x5 x6 x7 x8 x9 x10 x11 x12 x13 x14 x15 x16 x17 x18 x19 : Option Sl) (p : List D) (hp : PoolOk p) :
    ∃ y10 y11 y16 y17 y18 p', PoolOk p' ∧ exs (Phi fs (m + 40)) blaw_0_4 ⟨[x0, some (.val (.ref 0)), x2, x3, x4, x5, x6, x7, x8, x9, x10, x11, x12, x13, x14, x15, x16, x17, x18, x19], [p]⟩ =
      exs (Phi fs (m + 40)) blaw_0_8 ⟨[x0, some (.val (.ref 0)), x2, x3, x4, x5, x6, x7, x8, x9, y10, y11, x12, x13, x14, x15, y16, y17, y18, x19], [p']⟩ := by
  obtain ⟨a, p1, e1, hp1, u10, u11⟩ := draw1 (k := m + 39) lk__law_draw hp (size := 20) (by decide) (by decide)
  obtain ⟨b, p2, e2, hp2, u20, u21⟩ := draw1 (k := m + 39) lk__law_draw hp1 (size := 20) (by decide) (by decide)
  obtain ⟨c, p3, e3, hp3, u30, u31⟩ := draw1 (k := m + 39) lk__law_draw hp2 (size := 200) (by decide) (by decide)
  obtain ⟨x, hx⟩ : ∃ x : Nat, 1 + a = x := ⟨(1 + a).toNat, by omega⟩
  obtain ⟨y, hy⟩ : ∃ y : Nat, 1 + b = y := ⟨(1 + b).toNat, by omega⟩
  obtain ⟨n, rfl⟩ : ∃ n : Nat, c = n := ⟨c.toNat, by omega⟩
  have hc := p_count (m + 36) x y n (by omega) (by omega) (by omega) (by omega) (by omega) [p3]
  have d1 : binD .fdiv (.int (n : Int)) (.int (x : Int)) = some (.val (.int ((n / x : Nat) : Int))) := by
    have dv : divOk (x : Int) = true := by
      simp only [divOk, Bool.and_eq_true, decide_eq_true_eq]
      have : x.log2 < 11 := (Nat.log2_lt (by omega)).mpr (by omega)
      exact ⟨by omega, by simp only [Int.natAbs_natCast]; omega⟩
    rw [bin_fdivI dv, Int.fdiv_eq_ediv_of_nonneg _ (by omega)]; simp
  have hq : n / x ≤ 200 := Nat.le_trans (Nat.div_le_self _ _) (by omega)
  obtain ⟨w, hw⟩ : ∃ w, n / x = w := ⟨_, rfl⟩
  rw [hw] at hc d1 hq
  have sm : smallI ((w : Int) + 1) = true := by simp only [smallI, Bool.and_eq_true, decide_eq_true_eq]; omega
  have tn : ((w : Int) + 1).toNat = w + 1 := by omega
  have lc := lcR_fm (Φ := Phi fs (m + 40)) (i := 18) (cond := .some (.cmp (.bin .mod (.blt .int (.cons (.bin .sub (.var 10) (.bin .mul (.var 18) (.var 16))) .nil)) (.var 17)) (.cons .eq (.cst (.int 0)) .nil))) (elt := .var 18)
    (fun d => match d with | .int k => if ((n : Int) - k * x).fmod y = 0 then some (.int k) else none | _ => none) (rangeD 0 (w + 1)) [x0, some (.val (.ref 0)), x2, x3, x4, x5, x6, x7, x8, x9, some (.val (.int n)), x11, x12, x13, x14, x15, some (.val (.int x)), some (.val (.int y)), x18, x19] [p3] (by rw [range_len]; unfold line; omega) (fun d hd z => by
      obtain ⟨i, hi⟩ := List.mem_iff_getElem?.mp hd
      obtain ⟨rfl, hi2⟩ := range_get _ _ _ _ hi
      have mk : binD .mul (.int (i : Int)) (.int (x : Int)) = some (.val (.int ((i : Int) * x))) := bin_mulI (by simp only [mulOk, Bool.or_eq_true, decide_eq_true_eq]; exact .inl (.inr (by omega)))
      have md : ∀ q : Int, binD .mod (.int q) (.int (y : Int)) = some (.val (.int (q.fmod y))) := fun q => bin_modI (by omega)
      by_cases h0 : ((n : Int) - (i : Int) * x).fmod y = 0
      · simp [turnL, wipeT, MT.ids, bindT, mk, md, h0]
      · simp [turnL, wipeT, MT.ids, bindT, mk, md, h0])
  have ln := fm_len (fun (k : Nat) => decide (((n : Int) - k * x).fmod y = 0)) (fun d => match d with | .int k => if ((n : Int) - k * x).fmod y = 0 then some (.int k) else none | _ => none) (List.range (w + 1)) (fun k _ => by
    simp)
  have ln2 : ((rangeD 0 (w + 1)).filterMap (fun d => match d with | .int k => if ((n : Int) - k * x).fmod y = 0 then some (D.int k) else none | _ => none)).length = ((List.range (w + 1)).filter (fun (k : Nat) => decide (((n : Int) - k * x).fmod y = 0))).length := ln
  obtain ⟨L, hL⟩ : ∃ L, (rangeD 0 (w + 1)).filterMap (fun d => match d with | .int k => if ((n : Int) - k * x).fmod y = 0 then some (D.int k) else none | _ => none) = L := ⟨_, rfl⟩
  rw [hL] at lc ln2
  rw [← ln2] at hc
  have sr := same_refl lk__law_same [p3] 0 (.int (L.length : Int)) trivial (m + 39) (by omega)
  obtain ⟨y18, lc⟩ : ∃ y18, lcR (Phi fs (m + 40)) (.var 18) (.name 18) (.some (.cmp (.bin .mod (.blt .int (.cons (.bin .sub (.var 10) (.bin .mul (.var 18) (.var 16))) .nil)) (.var 17)) (.cons .eq (.cst (.int 0)) .nil))) (rangeD 0 (w + 1)) ⟨[x0, some (.val (.ref 0)), x2, x3, x4, x5, x6, x7, x8, x9, some (.val (.int n)), x11, x12, x13, x14, x15, some (.val (.int x)), some (.val (.int y)), x18, x19], [p3]⟩ =
      .ok (.own L) ⟨[x0, some (.val (.ref 0)), x2, x3, x4, x5, x6, x7, x8, x9, some (.val (.int n)), x11, x12, x13, x14, x15, some (.val (.int x)), some (.val (.int y)), y18, x19], [p3]⟩ := ⟨_, lc⟩
  refine ⟨some (.val (.int n)), some (.val (.int L.length)), some (.val (.int x)), some (.val (.int y)), y18, p3, hp3, ?_⟩
  simp [blaw_0_4, blaw_0_5, blaw_0_6, blaw_0_7, e1, e2, e3, hx, hy, setAll, d1, sm, tn, lc, hc, sr]
end K44

namespace K44
open PySem PI
theorem cnum_big {k i : Int} (hk : k.natAbs < 2 ^ 40) (hi : i.natAbs < 2 ^ 40) : (cnum k i).natAbs < 2 ^ 200 := by
  have h2 : (k - 2).natAbs < 2 ^ 41 := (big_add hk (big_le (A := 3) (by omega) (by decide))).1
  have h4 : (k - 4).natAbs < 2 ^ 41 := (big_add hk (big_le (A := 3) (by omega) (by decide))).1
  have h5 := big_mul (big_mul h2 hi) hi
  have h6 := big_le (B := 121) (by omega) (big_mul h4 hi)
  have h7 := (big_add h5 h6).1
  unfold cnum
  have := fdiv_abs ((k - 2) * i * i - (k - 4) * i) 2
  exact Nat.lt_of_le_of_lt this (big_le (by omega) h7)
theorem chC (m : Nat) (x0 x2 x3 x4 x5 x6 x7 x8 x9 x10 x11 x12 x13 x14 x15 x16 x17 x18 x19 : Option Sl) (p : List D) (hp : PoolOk p) :
    ∃ y4 y12 y18 y19 p', PoolOk p' ∧ exs (Phi fs (m + 40)) blaw_0_8 ⟨[x0, some (.val (.ref 0)), x2, x3, x4, x5, x6, x7, x8, x9, x10, x11, x12, x13, x14, x15, x16, x17, x18, x19], [p]⟩ =
      exs (Phi fs (m + 40)) blaw_0_13 ⟨[x0, some (.val (.ref 0)), x2, x3, y4, x5, x6, x7, x8, x9, x10, x11, y12, x13, x14, x15, x16, x17, y18, y19], [p']⟩ := by
  obtain ⟨u1, p1, e1, hp1, u10, u11⟩ := draw1 (k := m + 39) lk__law_draw hp (size := 2) (by decide) (by decide)
  obtain ⟨d1, at1, hd1⟩ := at2 (a := .int 9) (b := .int 1000000000) u10 u11
  obtain ⟨sz, ht, ht2⟩ : ∃ t : Int, d1 = .int t ∧ 1 ≤ t ∧ t ≤ 1000000000 := by
    rcases hd1 with rfl | rfl
    · exact ⟨9, rfl, by omega, by omega⟩
    · exact ⟨1000000000, rfl, by omega, by omega⟩
  subst ht
  obtain ⟨k0, p2, e2, hp2, u20, u21⟩ := draw1 (k := m + 39) lk__law_draw hp1 (size := sz) (by omega) (by
    have : sz.natAbs.log2 < 31 := (Nat.log2_lt (by omega)).mpr (by omega)
    omega)
  obtain ⟨i, p3, e3, hp3, u30, u31⟩ := some1 (k := m + 38) lk__law_draw lk__law_some hp2
  obtain ⟨k, hk⟩ : ∃ k, 3 + k0 = k := ⟨_, rfl⟩
  have kb : k.natAbs < 2 ^ 40 := by have : (2 : Nat) ^ 40 = 1099511627776 := by decide
                                    omega
  have ib : i.natAbs < 2 ^ 40 := by have : (2 : Nat) ^ 40 = 1099511627776 := by decide
                                    omega
  have cb := cnum_big kb ib
  have k3 : 3 ≤ k := by omega
  have lc : ∀ h, Phi fs (m + 40) "_law_corner" [.int k, .int i] h = .ok (.val (.int (cnum k i))) h := fun h => p_lcorner (m + 39) k i (big_le (by omega) kb) (big_le (by omega) ib) h
  have cn : ∀ h, Phi fs (m + 40) "corner_number" [.int k, .int i] h = .ok (.val (.int (cnum k i))) h := fun h => by
    have := p_corner_number (m + 38) k i (big_le (by omega) kb) (big_le (by omega) ib) h
    rw [if_neg (by omega)] at this; exact this
  have c0 : 0 ≤ cnum k i := by
    obtain ⟨j, rfl⟩ : ∃ j : Nat, i = j := ⟨i.toNat, by omega⟩
    have := cnum_ge k3 j
    omega
  obtain ⟨hv, p4, e4, hp4, hv0, hv1⟩ := huge1 (k := m + 37) lk__law_draw lk__law_sign lk__law_huge hp3
  have hvb : hv.natAbs < 2 ^ 200 := by
    have h1 : hv.natAbs < 10 ^ 41 := by omega
    exact Nat.lt_of_lt_of_le h1 (by decide)
  obtain ⟨u5, p5, e5, hp5, u50, u51⟩ := draw1 (k := m + 39) lk__law_draw hp4 (size := 3) (by decide) (by decide)
  obtain ⟨c, hc⟩ : ∃ c, cnum k i = c := ⟨_, rfl⟩
  rw [hc] at cb c0
  have lc' := lc
  have cn' := cn
  rw [hc] at lc' cn'
  obtain ⟨d5, at5, hd5⟩ := at3 (a := .int c) (b := .int (if 1 < c then c - 1 else 0)) (c := .int (if hv < 0 then -hv else hv)) u50 u51
  obtain ⟨n, hn, hnb⟩ : ∃ n : Nat, d5 = .int n ∧ n < 2 ^ 200 := by
    rcases hd5 with rfl | rfl | rfl
    · exact ⟨c.toNat, by congr; omega, by omega⟩
    · refine ⟨(if 1 < c then c - 1 else 0).toNat, ?_, ?_⟩
      · congr; split <;> omega
      · split <;> omega
    · exact ⟨hv.natAbs, by rw [abs_if], hvb⟩
  subst hn
  clear hd1 hd5
  obtain ⟨j, ec, hj1, hj2, hj3⟩ := p_corner (m + 38) k n k3 (big_le (by omega) kb) (Nat.lt_of_lt_of_le hnb (Nat.pow_le_pow_right (by omega) (by omega))) [p5]
  obtain ⟨f, hf⟩ : ∃ f : Bool, decide (cnum k j = n) = f := ⟨_, rfl⟩
  have ec2 : Phi fs (m + 40) "corner" [.int k, .int n] [p5] = .ok (.val (.tup [.str (if f then "corner" else "nocorner"), .int k, .int n, .int j])) [p5] := by
    cases f
    · rw [if_neg (of_decide_eq_false hf)] at ec; exact ec
    · rw [if_pos (of_decide_eq_true hf)] at ec; exact ec
  have jb : ((j : Int)).natAbs < 2 ^ 200 := by simp only [Int.natAbs_natCast]; omega
  have er := (p_cr_corner (m + 38) f k n j (big_le (by omega) kb) (big_le (by omega) jb) [p5]).2
  have ok : cornerB f k n j = true := by
    unfold cornerB
    rw [if_neg (by omega), if_neg (by omega)]
    cases f
    · have h1 := of_decide_eq_false hf
      have h2 : cnum k j < n := by omega
      have h3 : (n : Int) < cnum k ((j : Int) + 1) := by simpa using hj2
      simp [h2, h3]
    · rw [if_pos rfl, hf]
  rw [ok] at er
  obtain ⟨p', hp', ej⟩ := jd_corner (m + 19) f k n j (by
    intro d hd
    simp only [List.mem_cons, List.not_mem_nil, or_false] at hd
    rcases hd with rfl | rfl | rfl
    · exact big_le (by omega) kb
    · exact big_le (A := 200) (i := (n : Int)) (by omega) (by simpa using hnb)
    · exact big_le (by omega) jb) p5 hp5
  have pl : Phi fs (m + 40) "_law_plain" [.tup [.str (if f then "corner" else "nocorner"), .int k, .int n, .int j]] [p5] = .ok (.val (.bl true)) [p5] := plain1 (k := m + 39) lk__law_plain [p5] 1 _ (by simp [PL, line]) (by omega)
  have sr := same_refl lk__law_same [p'] 0 (.int c) trivial (m + 39) (by omega)
  have w9 : powOk 10 9 = true := by decide
  refine ⟨some (.val (.tup [.str (if f then "corner" else "nocorner"), .int k, .int n, .int j])), some (.val (.int n)), some (.val (.int k)), some (.val (.int i)), p', hp', ?_⟩
  clear hf ok cb ib kb hvb hnb jb hj1 hj2 hj3 ec lc cn hc hv0 hv1
  cases f <;> simp only [Bool.false_eq_true, if_false, if_true] at er ej pl ec2 <;> simp [blaw_0_8, blaw_0_9, blaw_0_10, blaw_0_11, blaw_0_12, e1, at1, e2, hk, e3, lc', cn', e4, e5, at5, ec2, er, ej, pl, sr, w9, bin_powI, isTy, cutD, sEnd]
end K44

namespace K44
open PySem PI
theorem tri_cnum (a : Nat) : cnum 3 a = (tri a : Nat) := by
  rw [cnum3]
  unfold tri
  rw [Int.fdiv_eq_ediv_of_nonneg _ (by omega)]
  push_cast
  rfl
theorem chD (m : Nat) (x0 x2 x3 x4 x5 x6 x7 x8 x9 x10 x11 x12 x13 x14 x15 x16 x17 x18 x19 : Option Sl) (p : List D) (hp : PoolOk p) :
    ∃ y4 p' n, PoolOk p' ∧ 0 ≤ n ∧ exs (Phi fs (m + 40)) blaw_0_13 ⟨[x0, some (.val (.ref 0)), x2, x3, x4, x5, x6, x7, x8, x9, x10, x11, x12, x13, x14, x15, x16, x17, x18, x19], [p]⟩ =
      .next ⟨[x0, some (.val (.ref 0)), x2, x3, y4, x5, x6, x7, x8, x9, x10, x11, some (.val (.int n)), x13, x14, x15, x16, x17, x18, x19], [p']⟩ := by
  obtain ⟨u1, p1, e1, hp1, u10, u11⟩ := draw1 (k := m + 39) lk__law_draw hp (size := 2) (by decide) (by decide)
  obtain ⟨d1, at1, hd1⟩ := at2 (a := .int 60) (b := .int 100001) u10 u11
  obtain ⟨sz, ht, ht2⟩ : ∃ t : Int, d1 = .int t ∧ 1 ≤ t ∧ t ≤ 100001 := by
    rcases hd1 with rfl | rfl
    · exact ⟨60, rfl, by omega, by omega⟩
    · exact ⟨100001, rfl, by omega, by omega⟩
  subst ht
  obtain ⟨n, p2, e2, hp2, u20, u21⟩ := draw1 (k := m + 39) lk__law_draw hp1 (size := sz) (by omega) (by
    have : sz.natAbs.log2 < 31 := (Nat.log2_lt (by omega)).mpr (by omega)
    omega)
  obtain ⟨q, rfl⟩ : ∃ q : Nat, n = q := ⟨n.toNat, by omega⟩
  obtain ⟨a, b, c, et, h1, h2, h3⟩ := p_tri (m + 36) q (by omega) [p2]
  have tb : ∀ i : Nat, i ≤ tri i := fun i => by
    have := tri_odd i
    have h : i * i ≥ i := Nat.le_mul_self i
    have : (2 * i + 1) * (2 * i + 1) = 4 * (i * i) + 4 * i + 1 := by grind
    omega
  have ba := tb a
  have bb := tb b
  have bc := tb c
  have up : ∀ z : Nat, z ≤ 10000000000000 → ∀ B, 200 ≤ B → ((z : Int)).natAbs < 2 ^ B := fun z hz B hB => small_pow (Nat.lt_of_le_of_lt (by simpa using hz) (by decide : 10000000000000 < _)) hB
  have er := (p_cr_tri (m + 38) q a b c (up a (by omega) _ (by omega)) (up b (by omega) _ (by omega)) (up c (by omega) _ (by omega)) [p2]).2
  have ok : triB q a b c = true := by
    unfold triB
    rw [if_neg (by omega), if_neg (by omega), if_neg (by omega), tri_cnum, tri_cnum, tri_cnum]
    exact decide_eq_true (by omega)
  rw [ok] at er
  obtain ⟨p', hp', ej⟩ := jd_tri (m + 19) q a b c (by
    intro d hd
    simp only [List.mem_cons, List.not_mem_nil, or_false] at hd
    rcases hd with rfl | rfl | rfl | rfl
    · exact up q (by omega) _ (by omega)
    · exact up a (by omega) _ (by omega)
    · exact up b (by omega) _ (by omega)
    · exact up c (by omega) _ (by omega)) p2 hp2
  have pl : Phi fs (m + 40) "_law_plain" [.tup [.str "triangles", .int q, .int a, .int b, .int c]] [p2] = .ok (.val (.bl true)) [p2] := plain1 (k := m + 39) lk__law_plain [p2] 1 _ (by simp [PL, line]) (by omega)
  have w5 : powOk 10 5 = true := by decide
  refine ⟨some (.val (.tup [.str "triangles", .int q, .int a, .int b, .int c])), p', q, hp', by omega, ?_⟩
  clear ok h1 h2 h3 ba bb bc
  simp [blaw_0_13, blaw_0_14, blaw_0_15, e1, at1, e2, et, er, ej, pl, w5, bin_powI, isTy, cutD, sEnd]
theorem turn (m : Nat) (x0 x2 x3 x4 x5 x6 x7 x8 x9 x10 x11 x12 x13 x14 x15 x16 x17 x18 x19 : Option Sl) (p : List D) (hp : PoolOk p) :
    ∃ y4 y8 y9 y10 y11 n y13 y14 y15 y16 y17 y18 y19 p', PoolOk p' ∧ 0 ≤ n ∧ exs (Phi fs (m + 40)) blaw_0_0 ⟨[x0, some (.val (.ref 0)), x2, x3, x4, x5, x6, x7, x8, x9, x10, x11, x12, x13, x14, x15, x16, x17, x18, x19], [p]⟩ =
      .next ⟨[x0, some (.val (.ref 0)), x2, x3, y4, x5, x6, x7, y8, y9, y10, y11, some (.val (.int n)), y13, y14, y15, y16, y17, y18, y19], [p']⟩ := by
  obtain ⟨y4, y8, y9, y13, y14, y15, p1, hp1, e1⟩ := chA m x0 x2 x3 x4 x5 x6 x7 x8 x9 x10 x11 x12 x13 x14 x15 x16 x17 x18 x19 p hp
  obtain ⟨y10, y11, y16, y17, y18, p2, hp2, e2⟩ := chB m x0 x2 x3 y4 x5 x6 x7 y8 y9 x10 x11 x12 y13 y14 y15 x16 x17 x18 x19 p1 hp1
  obtain ⟨z4, y12, z18, y19, p3, hp3, e3⟩ := chC m x0 x2 x3 y4 x5 x6 x7 y8 y9 y10 y11 x12 y13 y14 y15 y16 y17 y18 x19 p2 hp2
  obtain ⟨w4, p4, n, hp4, hn, e4⟩ := chD m x0 x2 x3 z4 x5 x6 x7 y8 y9 y10 y11 y12 y13 y14 y15 y16 y17 z18 y19 p3 hp3
  exact ⟨w4, y8, y9, y10, y11, n, y13, y14, y15, y16, y17, z18, y19, p4, hp4, hn, by rw [e1, e2, e3, e4]⟩
end K44

namespace K44
open PySem PI
def allInt (ds : List D) : Prop := ∀ d ∈ ds, ∃ i, d = .int i
theorem lls_int (M : Int) (n : Nat) : allInt (lls M n) := fun d hd => by
  unfold lls at hd
  obtain ⟨j, _, rfl⟩ := List.mem_map.mp hd
  exact ⟨_, rfl⟩
theorem allInt_dats (n : Nat) : ∀ ds : List D, allInt ds → dats n ds = true
  | [], _ => by simp
  | d :: ds, h => by
    obtain ⟨i, rfl⟩ := h d List.mem_cons_self
    simp [allInt_dats n ds fun x hx => h x (List.mem_cons_of_mem _ hx)]
theorem allInt_last (ds : List D) (h : allInt ds) (h0 : ds ≠ []) : ∃ i, ds.getLast? = some (.int i) := by
  obtain ⟨i, hi⟩ := h _ (List.getLast_mem h0)
  exact ⟨i, by rw [List.getLast?_eq_some_getLast h0, hi]⟩
theorem shps_int : ∀ (a b : List D), allInt a → shps a b → allInt b
  | [], [], _, _ => fun d hd => by simp at hd
  | x :: a, y :: b, h, hs => by
    unfold shps at hs
    obtain ⟨i, rfl⟩ := h x List.mem_cons_self
    obtain ⟨j, rfl⟩ := shp_int hs.1
    intro d hd
    rcases List.mem_cons.mp hd with z | z
    · exact ⟨j, z⟩
    · exact shps_int a b (fun x hx => h x (List.mem_cons_of_mem _ hx)) hs.2 d z
  | [], _ :: _, _, h => by unfold shps at h; exact h.elim
  | _ :: _, [], _, h => by unfold shps at h; exact h.elim
/-- a claim about 2 to the p less 1 -/
def MC (d : D) : Prop := ∃ (f : Bool) (p : Int) (rests : List D), d = .tup [.str (if f then "mersenne" else "nomersenne"), .int p, .tup rests] ∧ rests.length ≤ 990 ∧ rests ≠ [] ∧ allInt rests
theorem mc_both (m : Nat) (d : D) (hd : MC d) (h : List (List D)) : ∃ b, Phi fs (m + 3) "corner_right" [d] h = .ok (.val (.bl b)) h ∧ Phi fs (m + 3) "_law_right" [d] h = .ok (.val (.bl b)) h := by
  obtain ⟨f, p, rests, rfl, h1, h2, h3⟩ := hd
  have := p_cr_mers m f p rests h1 (allInt_dats _ _ h3) (allInt_last _ h3 h2) h
  exact ⟨_, this.1, this.2⟩
theorem mem_list (q : Nat) : ∀ l : List Nat, isMem (.int (q : Int)) (l.map fun (n : Nat) => D.int (n : Int)) = l.contains q
  | [] => rfl
  | n :: l => by
    rw [List.map_cons, isMem_cons, mem_list q l, List.contains_cons, deq_int']
    congr 1
    by_cases z : q = n
    · subst z; simp
    · have : ¬ ((n : Int) = q) := by omega
      simp [z, this]
theorem loop2 (m : Nat) (x0 x1 x2 x3 x4 x5 x6 x7 x8 x9 x10 x11 x12 x13 x14 x15 x16 x17 x18 x19 : Option Sl) (h : List (List D)) (ds : List D) (hds : ∀ d ∈ ds, MC d) :
    ∃ y6, forR (Phi fs (m + 40)) (.name 6) blaw_1_0 ds ⟨[x0, x1, x2, x3, x4, x5, x6, x7, x8, x9, x10, x11, x12, x13, x14, x15, x16, x17, x18, x19], h⟩ = .next ⟨[x0, x1, x2, x3, x4, x5, y6, x7, x8, x9, x10, x11, x12, x13, x14, x15, x16, x17, x18, x19], h⟩ := by
  obtain ⟨s', e, y, rfl⟩ := forR_all (Φ := Phi fs (m + 40)) (t := .name 6) (b := blaw_1_0) ds
    (fun _ s => ∃ y6, s = ⟨[x0, x1, x2, x3, x4, x5, y6, x7, x8, x9, x10, x11, x12, x13, x14, x15, x16, x17, x18, x19], h⟩) (fun i d s e hI => by
      obtain ⟨y, rfl⟩ := hI
      obtain ⟨b, e1, e2⟩ := mc_both (m + 37) d (hds d (List.mem_iff_getElem?.mpr ⟨i, e⟩)) h
      have sr := same_refl lk__law_same h 0 (.bl b) trivial (m + 39) (by omega)
      exact ⟨_, rfl, _, by simp [blaw_1_0, e1, e2, sr]; rfl, _, rfl⟩) _ ⟨x6, rfl⟩
  exact ⟨y, e⟩
end K44

namespace K44
open PySem PI
theorem last_part (m : Nat) (x0 x2 x3 x4 x5 x6 x7 x8 x9 x10 x11 x13 x14 x15 x16 x17 x18 x19 : Option Sl) (n : Int) (hn : 0 ≤ n) (p : List D) (hp : PoolOk p) :
    ∃ s', exs (Phi fs (m + 40)) t_law_1 ⟨[x0, some (.val (.ref 0)), x2, x3, x4, x5, x6, x7, x8, x9, x10, x11, some (.val (.int n)), x13, x14, x15, x16, x17, x18, x19], [p]⟩ = .ret (.val (.bl true)) s' := by
  obtain ⟨u1, p1, e1, hp1, u10, u11⟩ := draw1 (k := m + 39) lk__law_draw hp (size := 3) (by decide) (by decide)
  obtain ⟨sz, at1, ht2⟩ : ∃ sz : Int, atD [.int 12, .int 64] (if u1 = 0 then 1 else 0) = some (.int sz) ∧ 1 ≤ sz ∧ sz ≤ 64 := by
    split
    · exact ⟨64, by simp, by omega, by omega⟩
    · exact ⟨12, by simp, by omega, by omega⟩
  obtain ⟨u2, p2, e2, hp2, u20, u21⟩ := draw1 (k := m + 39) lk__law_draw hp1 (size := sz) (by omega) (by
    have : sz.natAbs.log2 < 31 := (Nat.log2_lt (by omega)).mpr (by omega)
    omega)
  obtain ⟨j, rfl⟩ : ∃ j : Nat, u2 = j := ⟨u2.toNat, by omega⟩
  obtain ⟨q, hq⟩ : ∃ q : Nat, q = 3 + 2 * j := ⟨_, rfl⟩
  have hqi : 3 + 2 * (j : Int) = q := by omega
  have mj : mulOk 2 (j : Int) = true := by simp [mulOk]
  have em := p_mersenne (m + 37) q (by omega) (by omega) (by omega) [p2]
  have er := p_lrests (m + 39) q (by omega) (by omega) [p2]
  obtain ⟨L, hL⟩ : ∃ L, lls (2 ^ q - 1) (q - 1) = L := ⟨_, rfl⟩
  rw [hL] at er
  have L1 : L.length = q - 1 := by rw [← hL, lls_len]
  have L2 : allInt L := by rw [← hL]; exact lls_int _ _
  have L3 : L.getLast? = some (.int (ll (2 ^ q - 1) (q - 2))) := by
    rw [← hL, show q - 1 = (q - 2) + 1 by omega, lls_last]
  obtain ⟨f, hf⟩ : ∃ f : Bool, decide (ll (2 ^ q - 1) (q - 2) = 0) = f := ⟨_, rfl⟩
  have em2 : Phi fs (m + 40) "mersenne" [.int q] [p2] = .ok (.val (.tup [.str (if f then "mersenne" else "nomersenne"), .int q, .tup L])) [p2] := by
    rw [hL] at em
    cases f
    · rw [if_neg (of_decide_eq_false hf)] at em; exact em
    · rw [if_pos (of_decide_eq_true hf)] at em; exact em
  have hmem : isMem (.int (q : Int)) [.int 3, .int 5, .int 7, .int 13, .int 17, .int 19, .int 31, .int 61, .int 89, .int 107, .int 127] = f := by
    have h1 := mem_list q mlist
    have h2 := mers_list j (by omega)
    rw [← hq] at h2
    have h7 : 7 ≤ 2 ^ q - 1 := by
      have := Nat.pow_le_pow_right (n := 2) (by omega) (by omega : 3 ≤ q)
      omega
    have h3 := ll_nat h7 (q - 2)
    have h4 : (((2 ^ q - 1 : Nat) : Int)) = 2 ^ q - 1 := by
      have : 1 ≤ 2 ^ q := Nat.one_le_two_pow
      push_cast [this]; rfl
    rw [h4] at h3
    have h5 : f = (llN (2 ^ q - 1) (q - 2) == 0) := by
      rw [← hf, h3]
      by_cases z : llN (2 ^ q - 1) (q - 2) = 0
      · simp [z]
      · have : ¬ ((llN (2 ^ q - 1) (q - 2) : Nat) : Int) = 0 := by omega
        simp [z, this]
    rw [h5, h2]
    exact h1
  have sd : SD 2 (.tup [.str (if f then "mersenne" else "nomersenne"), .int q, .tup L]) := by
    refine ⟨by simp [line], fun d hd => ?_⟩
    simp only [List.mem_cons, List.not_mem_nil, or_false] at hd
    rcases hd with rfl | rfl | rfl
    · cases f
      · exact canLay_ofS _
      · exact canLay_ofS _
    · trivial
    · refine ⟨by rw [L1]; unfold line; omega, fun d hd => ?_⟩
      obtain ⟨i, rfl⟩ := L2 d hd
      trivial
  have sr := same_refl lk__law_same [p2] 2 _ sd (m + 39) (by omega)
  have hb : bnd (2 ^ 400) 2 (.tup [.tup L]) := by
    intro d hd
    simp only [List.mem_cons, List.not_mem_nil, or_false] at hd
    subst hd
    intro d hd
    rw [← hL] at hd
    unfold lls at hd
    obtain ⟨k, _, rfl⟩ := List.mem_map.mp hd
    have h4 : (8 : Nat) ≤ 2 ^ q := by
      have := Nat.pow_le_pow_right (by omega : 0 < 2) (by omega : 3 ≤ q)
      omega
    have h5 : ((2 ^ q : Nat) : Int) = 2 ^ q := by push_cast; rfl
    have h6 : (2 : Nat) ^ q ≤ 2 ^ 400 := Nat.pow_le_pow_right (by omega) (by omega)
    have := ll_bound (M := 2 ^ q - 1) (by omega) k
    show (ll (2 ^ q - 1) k).natAbs < 2 ^ 400
    generalize (2 : Nat) ^ 400 = X at *
    omega
  have hpl : PL 2 (.tup [.tup L]) := by
    refine ⟨by simp [line], fun d hd => ?_⟩
    simp only [List.mem_cons, List.not_mem_nil, or_false] at hd
    subst hd
    refine ⟨by rw [L1]; unfold line; omega, fun d hd => ?_⟩
    obtain ⟨i, rfl⟩ := L2 d hd
    trivial
  obtain ⟨d', p3, e3, hp3, hs0, hpl3, _⟩ := touched1 lk__law_draw lk__law_touched 2 _ hpl hb (m + 38) p2 (by omega) hp2
  obtain ⟨es, rfl, hs1⟩ := shp_tup hs0
  obtain ⟨t1, es, rfl, h1, hs2⟩ := shps_cons hs1
  cases shps_nil hs2
  obtain ⟨L', rfl, hs⟩ := shp_tup h1
  have l1 : L'.length = q - 1 := by rw [← shps_len _ _ hs, L1]
  have l2 := shps_int _ _ L2 hs
  have ne : ∀ l : List D, l.length = q - 1 → l ≠ [] := fun l h z => by subst z; simp at h; omega
  have dl : List.take (-1 + (L.length : Int)).toNat L = L.dropLast := by
    have : ((-1 : Int) + (L.length : Int)).toNat = L.length - 1 := by omega
    rw [this, List.dropLast_eq_take]
  have dl2 : allInt L.dropLast := fun d hd => L2 d ((List.dropLast_sublist L).subset hd)
  have dl1 : L.dropLast.length = q - 2 := by rw [List.length_dropLast, L1]; omega
  have t1 := told (m + 39) 1 0 1 1 (by omega) false [p3] (by simpa [callee, cargs] using p_count_bad (m + 38) 0 1 1 (by omega) [p3])
  have t2 := told (m + 39) 1 1 (-1) 1 (by omega) false [p3] (by simpa [callee, cargs] using p_count_bad (m + 38) 1 (-1) 1 (by omega) [p3])
  have t3 := told (m + 39) 1 1 1 (-1) (by omega) false [p3] (by simpa [callee, cargs] using p_count_bad (m + 38) 1 1 (-1) (by omega) [p3])
  have t4 := told (m + 39) 2 2 1 0 (by omega) false [p3] (by
    have := p_corner_number (m + 37) 2 1 (Nat.lt_of_lt_of_le (by decide : _ < 2 ^ 3) (Nat.pow_le_pow_right (by omega) (by omega))) (Nat.lt_of_lt_of_le (by decide : _ < 2 ^ 3) (Nat.pow_le_pow_right (by omega) (by omega))) [p3]
    simpa [callee, cargs] using this)
  have t5 := told (m + 39) 2 3 (-1) 0 (by omega) false [p3] (by
    have := p_corner_number (m + 37) 3 (-1) (Nat.lt_of_lt_of_le (by decide : _ < 2 ^ 3) (Nat.pow_le_pow_right (by omega) (by omega))) (Nat.lt_of_lt_of_le (by decide : _ < 2 ^ 3) (Nat.pow_le_pow_right (by omega) (by omega))) [p3]
    simpa [callee, cargs] using this)
  have t6 := told (m + 39) 3 2 1 0 (by omega) false [p3] (by simpa [callee, cargs] using p_corner_bad (m + 38) 2 1 (by omega) [p3])
  have t7 := told (m + 39) 3 3 (-1) 0 (by omega) false [p3] (by simpa [callee, cargs] using p_corner_bad (m + 38) 3 (-1) (by omega) [p3])
  have t8 := told (m + 39) 4 (-1) 0 0 (by omega) false [p3] (by simpa [callee, cargs] using p_tri_bad (m + 38) (-1) (by omega) [p3])
  have t9 := told (m + 39) 5 1 0 0 (by omega) false [p3] (by simpa [callee, cargs] using p_mers_bad (m + 38) 1 (by omega) [p3])
  have t10 := told (m + 39) 5 (4 + q + 1) 0 0 (by omega) false [p3] (by simpa [callee, cargs] using p_mers_bad (m + 38) (4 + q + 1) (by rw [Int.fmod_eq_emod_of_nonneg _ (by omega)]; omega) [p3])
  have t11 := told (m + 39) 5 (-3) 0 0 (by omega) false [p3] (by simpa [callee, cargs] using p_mers_bad (m + 38) (-3) (by omega) [p3])
  have t12 := told (m + 39) 4 (100001 + n) 0 0 (by omega) true [p3] (by simpa [callee, cargs] using p_tri_large (m + 38) (100001 + n) (by omega) [p3])
  have t13 := told (m + 39) 5 501 0 0 (by omega) true [p3] (by simpa [callee, cargs] using p_mers_large (m + 38) 501 (by decide) (by omega) [p3])
  simp only [Bool.false_eq_true, if_false, if_true] at t1 t2 t3 t4 t5 t6 t7 t8 t9 t10 t11 t12 t13
  have sr2 := same_refl lk__law_same [p3] 1 (.lst [.str "bad number", .str "bad number", .str "bad number", .str "bad number", .str "bad number", .str "bad number", .str "bad number", .str "bad number", .str "bad number", .str "bad number", .str "bad number", .str "large number", .str "large number"]) (by simp [SD, line]) (m + 39) (by omega)
  have w5 : powOk 10 5 = true := by decide
  have a1 : binD .add (.tup [.str (if f then "mersenne" else "nomersenne"), .int (q : Int)]) (.tup [.tup L']) = some (.val (.tup [.str (if f then "mersenne" else "nomersenne"), .int (q : Int), .tup L'])) := bin_addT (by simp [line])
  obtain ⟨y6, el⟩ := loop2 m x0 (some (.val (.ref 0))) x2 (some (.val (.int q))) (some (.val (.tup [.str (if f then "mersenne" else "nomersenne"), .int q, .tup L]))) (some (.val (.tup L))) x6 x7 x8 x9 x10 x11 (some (.val (.int n))) x13 x14 x15 x16 x17 x18 x19 [p3]
    [.tup [.str (if f then "mersenne" else "nomersenne"), .int q, .tup L], .tup [.str "mersenne", .int q, .tup L], .tup [.str "nomersenne", .int q, .tup L], .tup [.str (if f then "mersenne" else "nomersenne"), .int q, .tup L.dropLast], .tup [.str (if f then "mersenne" else "nomersenne"), .int (q + 2), .tup L], .tup [.str (if f then "mersenne" else "nomersenne"), .int q, .tup L']] (fun d hd => by
      simp only [List.mem_cons, List.not_mem_nil, or_false] at hd
      rcases hd with rfl | rfl | rfl | rfl | rfl | rfl
      · exact ⟨f, _, _, rfl, by omega, ne _ L1, L2⟩
      · exact ⟨true, _, _, rfl, by omega, ne _ L1, L2⟩
      · exact ⟨false, _, _, rfl, by omega, ne _ L1, L2⟩
      · exact ⟨f, _, _, rfl, by omega, fun z => by rw [z] at dl1; simp at dl1; omega, dl2⟩
      · exact ⟨f, _, _, rfl, by omega, ne _ L1, L2⟩
      · exact ⟨f, _, _, rfl, by omega, ne _ l1, l2⟩)
  have m11 : binD .mul (.lst [.str "bad number"]) (.int 11) = some (.own (List.replicate 11 (.str "bad number"))) := by rfl
  have m2 : binD .mul (.lst [.str "large number"]) (.int 2) = some (.own (List.replicate 2 (.str "large number"))) := by rfl
  have ad1 : binD .add (.lst [.str "bad number", .str "bad number", .str "bad number", .str "bad number", .str "bad number", .str "bad number", .str "bad number"]) (.lst [.str "bad number", .str "bad number", .str "bad number", .str "bad number", .str "large number", .str "large number"]) = some (.own [.str "bad number", .str "bad number", .str "bad number", .str "bad number", .str "bad number", .str "bad number", .str "bad number", .str "bad number", .str "bad number", .str "bad number", .str "bad number", .str "large number", .str "large number"]) := by rfl
  have ad2 : binD .add (.lst [.str "bad number", .str "bad number", .str "bad number", .str "bad number", .str "bad number", .str "bad number", .str "bad number", .str "bad number", .str "bad number", .str "bad number", .str "bad number"]) (.lst [.str "large number", .str "large number"]) = some (.own [.str "bad number", .str "bad number", .str "bad number", .str "bad number", .str "bad number", .str "bad number", .str "bad number", .str "bad number", .str "bad number", .str "bad number", .str "bad number", .str "large number", .str "large number"]) := by rfl
  clear hb hpl hpl3 sd L1 L2 l1 l2 hs dl1 dl2 ne hL em
  cases f <;> simp only [Bool.false_eq_true, if_false, if_true, decide_eq_false_iff_not, decide_eq_true_eq] at em2 sr a1 el hf <;>
    simp [t_law_1, t_law_2, t_law_3, t_law_4, t_law_5, t_law_6, t_law_7, t_law_8, t_law_9, e1, at1, e2, hqi, mj, bin_mulI, em2, er, L3, hf, hmem, -isMem_cons, -isMem_nil, sr, dl, cutD, sEnd, e3, a1, el, t1, t2, t3, t4, t5, t6, t7, t8, t9, t10, t11, t12, t13, sr2, w5, bin_powI, m11, m2, ad1, ad2, List.replicate]
end K44

namespace PI
open PySem L2
theorem pool_start (ns : List Int) : PoolOk [.lst (ns.map D.int), .int 0, .int 0, .int 1, .int 0, .int 0] := ⟨ns, 0, 0, 1, 0, rfl, by omega⟩
end PI
namespace K44
open PySem PI
theorem law_runs (m : Nat) (p : List D) (hp : PoolOk p) : ∃ s', exs (Phi fs (m + 40)) f_law.body ⟨(List.replicate 20 none).set 1 (some (.val (.ref 0))), [p]⟩ = .ret (.val (.bl true)) s' := by
  have e0 : (List.replicate 20 (none : Option Sl)).set 1 (some (.val (.ref 0))) = [none, some (.val (.ref 0)), none, none, none, none, none, none, none, none, none, none, none, none, none, none, none, none, none, none] := by rfl
  rw [e0]
  obtain ⟨s', e, x0, x2, x3, x4, x5, x6, x7, x8, x9, x10, x11, x12, x13, x14, x15, x16, x17, x18, x19, p', hp', hn, rfl⟩ := forR_all (Φ := Phi fs (m + 40)) (t := .name 2) (b := blaw_0_0) (rangeD 0 4)
    (fun i s => ∃ x0 x2 x3 x4 x5 x6 x7 x8 x9 x10 x11 x12 x13 x14 x15 x16 x17 x18 x19 p', PoolOk p' ∧ (0 < i → ∃ n : Int, 0 ≤ n ∧ x12 = some (.val (.int n))) ∧ s = ⟨[x0, some (.val (.ref 0)), x2, x3, x4, x5, x6, x7, x8, x9, x10, x11, x12, x13, x14, x15, x16, x17, x18, x19], [p']⟩) (fun i d s e hI => by
      obtain ⟨x0, x2, x3, x4, x5, x6, x7, x8, x9, x10, x11, x12, x13, x14, x15, x16, x17, x18, x19, p', hp', hn, rfl⟩ := hI
      obtain ⟨y4, y8, y9, y10, y11, n, y13, y14, y15, y16, y17, y18, y19, p2, hp2, hn2, e2⟩ := turn m x0 (some (.val d)) x3 x4 x5 x6 x7 x8 x9 x10 x11 x12 x13 x14 x15 x16 x17 x18 x19 p' hp'
      exact ⟨_, rfl, _, e2, x0, some (.val d), x3, y4, x5, x6, x7, y8, y9, y10, y11, _, y13, y14, y15, y16, y17, y18, y19, p2, hp2, fun _ => ⟨n, hn2, rfl⟩, rfl⟩)
    _ ⟨none, none, none, none, none, none, none, none, none, none, none, none, none, none, none, none, none, none, none, p, hp, fun z => by omega, rfl⟩
  obtain ⟨n, hn0, rfl⟩ := hn (by rw [range_len]; omega)
  obtain ⟨s', e3⟩ := last_part m x0 x2 x3 x4 x5 x6 x7 x8 x9 x10 x11 x13 x14 x15 x16 x17 x18 x19 n hn0 p' hp'
  have sm : smallI 4 = true := by decide
  refine ⟨s', ?_⟩
  show exs (Phi fs (m + 40)) t_law_0 _ = _
  unfold t_law_0
  simp [sm, e, e3]
end K44
namespace K44
open PySem PI
theorem pure_law : ∀ ns : List Int, ns.length ≤ 63 → ∃ s', exs (Phi (ts.map TxtDef.def) (58 + 1)) f_law.body (lawS f_law 1 ns) = .ret (.val (.bl true)) s' := fun ns _ =>
  law_runs 19 (poolD ns) (pool_start ns)
end K44

namespace K44
open PySem PySem.Spec PyProof.Rows L2 PI
set_option maxHeartbeats 0
theorem ok_all : ∀ t ∈ ts, t.ok T = true := by decide +kernel
theorem ok_law : lawOk T f_law 1 = true := by decide +kernel
theorem ok_pool : poolOk (top 31) = true := by decide +kernel
theorem all_mk {w : World} {K : PySem.W.Frag} {h : Heap} {mg : Str → Option Value} {fa : Addr} (X : K.In h) (G : h.Ns mainGlobals mg) (hfa : mg "law" = some (.ref fa))
    {f0 : Addr} {od0 an0 : Option Addr} {sl0 : Array (Option Value)} {oc0 kV0 dc0 pm0 cd0 ct0 : Value}
    {f1 : Addr} {od1 an1 : Option Addr} {sl1 : Array (Option Value)} {oc1 kV1 dc1 pm1 cd1 ct1 : Value}
    {f2 : Addr} {od2 an2 : Option Addr} {sl2 : Array (Option Value)} {oc2 kV2 dc2 pm2 cd2 ct2 : Value}
    {f3 : Addr} {od3 an3 : Option Addr} {sl3 : Array (Option Value)} {oc3 kV3 dc3 pm3 cd3 ct3 : Value}
    {f4 : Addr} {od4 an4 : Option Addr} {sl4 : Array (Option Value)} {oc4 kV4 dc4 pm4 cd4 ct4 : Value}
    {f5 : Addr} {od5 an5 : Option Addr} {sl5 : Array (Option Value)} {oc5 kV5 dc5 pm5 cd5 ct5 : Value}
    {f6 : Addr} {od6 an6 : Option Addr} {sl6 : Array (Option Value)} {oc6 kV6 dc6 pm6 cd6 ct6 : Value}
    {f7 : Addr} {od7 an7 : Option Addr} {sl7 : Array (Option Value)} {oc7 kV7 dc7 pm7 cd7 ct7 : Value}
    {f8 : Addr} {od8 an8 : Option Addr} {sl8 : Array (Option Value)} {oc8 kV8 dc8 pm8 cd8 ct8 : Value}
    {f9 : Addr} {od9 an9 : Option Addr} {sl9 : Array (Option Value)} {oc9 kV9 dc9 pm9 cd9 ct9 : Value}
    {f10 : Addr} {od10 an10 : Option Addr} {sl10 : Array (Option Value)} {oc10 kV10 dc10 pm10 cd10 ct10 : Value}
    {f11 : Addr} {od11 an11 : Option Addr} {sl11 : Array (Option Value)} {oc11 kV11 dc11 pm11 cd11 ct11 : Value}
    {f12 : Addr} {od12 an12 : Option Addr} {sl12 : Array (Option Value)} {oc12 kV12 dc12 pm12 cd12 ct12 : Value}
    {f13 : Addr} {od13 an13 : Option Addr} {sl13 : Array (Option Value)} {oc13 kV13 dc13 pm13 cd13 ct13 : Value}
    {f14 : Addr} {od14 an14 : Option Addr} {sl14 : Array (Option Value)} {oc14 kV14 dc14 pm14 cd14 ct14 : Value}
    {f15 : Addr} {od15 an15 : Option Addr} {sl15 : Array (Option Value)} {oc15 kV15 dc15 pm15 cd15 ct15 : Value}
    {f16 : Addr} {od16 an16 : Option Addr} {sl16 : Array (Option Value)} {oc16 kV16 dc16 pm16 cd16 ct16 : Value}
    {f17 : Addr} {od17 an17 : Option Addr} {sl17 : Array (Option Value)} {oc17 kV17 dc17 pm17 cd17 ct17 : Value}
    {f18 : Addr} {od18 an18 : Option Addr} {sl18 : Array (Option Value)} {oc18 kV18 dc18 pm18 cd18 ct18 : Value}
    {f19 : Addr} {od19 an19 : Option Addr} {sl19 : Array (Option Value)} {oc19 kV19 dc19 pm19 cd19 ct19 : Value}
    {f20 : Addr} {od20 an20 : Option Addr} {sl20 : Array (Option Value)} {oc20 kV20 dc20 pm20 cd20 ct20 : Value}
    {f21 : Addr} {od21 an21 : Option Addr} {sl21 : Array (Option Value)} {oc21 kV21 dc21 pm21 cd21 ct21 : Value}
    {f22 : Addr} {od22 an22 : Option Addr} {sl22 : Array (Option Value)} {oc22 kV22 dc22 pm22 cd22 ct22 : Value}
    {f23 : Addr} {od23 an23 : Option Addr} {sl23 : Array (Option Value)} {oc23 kV23 dc23 pm23 cd23 ct23 : Value}
    {f24 : Addr} {od24 an24 : Option Addr} {sl24 : Array (Option Value)} {oc24 kV24 dc24 pm24 cd24 ct24 : Value}
    {f25 : Addr} {od25 an25 : Option Addr} {sl25 : Array (Option Value)} {oc25 kV25 dc25 pm25 cd25 ct25 : Value}
    {f26 : Addr} {od26 an26 : Option Addr} {sl26 : Array (Option Value)} {oc26 kV26 dc26 pm26 cd26 ct26 : Value}
    {f27 : Addr} {od27 an27 : Option Addr} {sl27 : Array (Option Value)} {oc27 kV27 dc27 pm27 cd27 ct27 : Value}
    {f28 : Addr} {od28 an28 : Option Addr} {sl28 : Array (Option Value)} {oc28 kV28 dc28 pm28 cd28 ct28 : Value}
    {f29 : Addr} {od29 an29 : Option Addr} {sl29 : Array (Option Value)} {oc29 kV29 dc29 pm29 cd29 ct29 : Value}
    {f30 : Addr} {od30 an30 : Option Addr} {sl30 : Array (Option Value)} {oc30 kV30 dc30 pm30 cd30 ct30 : Value}
    {f31 : Addr} {od31 an31 : Option Addr} {sl31 : Array (Option Value)} {oc31 kV31 dc31 pm31 cd31 ct31 : Value}
    {f32 : Addr} {od32 an32 : Option Addr} {sl32 : Array (Option Value)} {oc32 kV32 dc32 pm32 cd32 ct32 : Value}
    {f33 : Addr} {od33 an33 : Option Addr} {sl33 : Array (Option Value)} {oc33 kV33 dc33 pm33 cd33 ct33 : Value}
    {f34 : Addr} {od34 an34 : Option Addr} {sl34 : Array (Option Value)} {oc34 kV34 dc34 pm34 cd34 ct34 : Value}
    {f35 : Addr} {od35 an35 : Option Addr} {sl35 : Array (Option Value)} {oc35 kV35 dc35 pm35 cd35 ct35 : Value}
    {tk0 : Tok}
    {tk1 : Tok}
    {tk2 : Tok}
    {C0 I0 N0 cc0 ca0 : Addr} {nm0 q0 fi0 : Str} {bs0 bm0 sub0 : List Value} {sn0 : List Str} {ab0 : Bool} {col0 : Option Bool} {dd0 od_0 an_0 cld0 cdd0 : Option Addr} {m0_0 m1_0 m2_0 m3_0 m5_0 : Option Value} {oc_0 dc_0 pm_0 ct_0 cl0 ccl0 : Value} {sl_0 csl0 ccs0 : Array (Option Value)} {vs0 : Array Value} {tf0 : Tok}
    {C1 I1 N1 cc1 ca1 : Addr} {nm1 q1 fi1 : Str} {bs1 bm1 sub1 : List Value} {sn1 : List Str} {ab1 : Bool} {col1 : Option Bool} {dd1 od_1 an_1 cld1 cdd1 : Option Addr} {m0_1 m1_1 m2_1 m3_1 m5_1 : Option Value} {oc_1 dc_1 pm_1 ct_1 cl1 ccl1 : Value} {sl_1 csl1 ccs1 : Array (Option Value)} {vs1 : Array Value} {tf1 : Tok}
    {H0 : Addr}
    {H1 : Addr}
    (a0 : PySem.W.nsIn K mainGlobals "_signed" = some (some (.ref f0)))
    (l0 : K.lookup f0 = some ⟨oc0, od0, .func (PySem.W.fnOf "_signed" "_signed" (defArgs (top 5)) (defBody (top 5)) (defScope (top 5)) .none kV0 dc0 pm0 an0 cd0 ct0), sl0⟩)
    (c0 : PySem.W.codeIn K cd0 "_signed" = true)
    (k0 : PySem.W.keepIn K (.ref f0) = true)
    (a1 : PySem.W.nsIn K mainGlobals "shared" = some (some (.ref f1)))
    (l1 : K.lookup f1 = some ⟨oc1, od1, .func (PySem.W.fnOf "shared" "shared" (defArgs (top 6)) (defBody (top 6)) (defScope (top 6)) .none kV1 dc1 pm1 an1 cd1 ct1), sl1⟩)
    (c1 : PySem.W.codeIn K cd1 "shared" = true)
    (k1 : PySem.W.keepIn K (.ref f1) = true)
    (a2 : PySem.W.nsIn K mainGlobals "greatest_shared" = some (some (.ref f2)))
    (l2 : K.lookup f2 = some ⟨oc2, od2, .func (PySem.W.fnOf "greatest_shared" "greatest_shared" (defArgs (top 7)) (defBody (top 7)) (defScope (top 7)) .none kV2 dc2 pm2 an2 cd2 ct2), sl2⟩)
    (c2 : PySem.W.codeIn K cd2 "greatest_shared" = true)
    (k2 : PySem.W.keepIn K (.ref f2) = true)
    (a3 : PySem.W.nsIn K mainGlobals "raised" = some (some (.ref f3)))
    (l3 : K.lookup f3 = some ⟨oc3, od3, .func (PySem.W.fnOf "raised" "raised" (defArgs (top 8)) (defBody (top 8)) (defScope (top 8)) .none kV3 dc3 pm3 an3 cd3 ct3), sl3⟩)
    (c3 : PySem.W.codeIn K cd3 "raised" = true)
    (k3 : PySem.W.keepIn K (.ref f3) = true)
    (a4 : PySem.W.nsIn K mainGlobals "root" = some (some (.ref f4)))
    (l4 : K.lookup f4 = some ⟨oc4, od4, .func (PySem.W.fnOf "root" "root" (defArgs (top 9)) (defBody (top 9)) (defScope (top 9)) .none kV4 dc4 pm4 an4 cd4 ct4), sl4⟩)
    (c4 : PySem.W.codeIn K cd4 "root" = true)
    (k4 : PySem.W.keepIn K (.ref f4) = true)
    (a5 : PySem.W.nsIn K mainGlobals "divides" = some (some (.ref f5)))
    (l5 : K.lookup f5 = some ⟨oc5, od5, .func (PySem.W.fnOf "divides" "divides" (defArgs (top 10)) (defBody (top 10)) (defScope (top 10)) .none kV5 dc5 pm5 an5 cd5 ct5), sl5⟩)
    (c5 : PySem.W.codeIn K cd5 "divides" = true)
    (k5 : PySem.W.keepIn K (.ref f5) = true)
    (a6 : PySem.W.nsIn K mainGlobals "line" = some (some (.ref f6)))
    (l6 : K.lookup f6 = some ⟨oc6, od6, .func (PySem.W.fnOf "line" "line" (defArgs (top 12)) (defBody (top 12)) (defScope (top 12)) .none kV6 dc6 pm6 an6 cd6 ct6), sl6⟩)
    (c6 : PySem.W.codeIn K cd6 "line" = true)
    (k6 : PySem.W.keepIn K (.ref f6) = true)
    (a7 : PySem.W.nsIn K mainGlobals "count_line" = some (some (.ref f7)))
    (l7 : K.lookup f7 = some ⟨oc7, od7, .func (PySem.W.fnOf "count_line" "count_line" (defArgs (top 13)) (defBody (top 13)) (defScope (top 13)) .none kV7 dc7 pm7 an7 cd7 ct7), sl7⟩)
    (c7 : PySem.W.codeIn K cd7 "count_line" = true)
    (k7 : PySem.W.keepIn K (.ref f7) = true)
    (a8 : PySem.W.nsIn K mainGlobals "line_right" = some (some (.ref f8)))
    (l8 : K.lookup f8 = some ⟨oc8, od8, .func (PySem.W.fnOf "line_right" "line_right" (defArgs (top 14)) (defBody (top 14)) (defScope (top 14)) .none kV8 dc8 pm8 an8 cd8 ct8), sl8⟩)
    (c8 : PySem.W.codeIn K cd8 "line_right" = true)
    (k8 : PySem.W.keepIn K (.ref f8) = true)
    (a9 : PySem.W.nsIn K mainGlobals "_checked" = some (some (.ref f9)))
    (l9 : K.lookup f9 = some ⟨oc9, od9, .func (PySem.W.fnOf "_checked" "_checked" (defArgs (top 17)) (defBody (top 17)) (defScope (top 17)) .none kV9 dc9 pm9 an9 cd9 ct9), sl9⟩)
    (c9 : PySem.W.codeIn K cd9 "_checked" = true)
    (k9 : PySem.W.keepIn K (.ref f9) = true)
    (a10 : PySem.W.nsIn K mainGlobals "_seven" = some (some (.ref f10)))
    (l10 : K.lookup f10 = some ⟨oc10, od10, .func (PySem.W.fnOf "_seven" "_seven" (defArgs (top 18)) (defBody (top 18)) (defScope (top 18)) .none kV10 dc10 pm10 an10 cd10 ct10), sl10⟩)
    (c10 : PySem.W.codeIn K cd10 "_seven" = true)
    (k10 : PySem.W.keepIn K (.ref f10) = true)
    (a11 : PySem.W.nsIn K mainGlobals "three_squares" = some (some (.ref f11)))
    (l11 : K.lookup f11 = some ⟨oc11, od11, .func (PySem.W.fnOf "three_squares" "three_squares" (defArgs (top 19)) (defBody (top 19)) (defScope (top 19)) .none kV11 dc11 pm11 an11 cd11 ct11), sl11⟩)
    (c11 : PySem.W.codeIn K cd11 "three_squares" = true)
    (k11 : PySem.W.keepIn K (.ref f11) = true)
    (a12 : PySem.W.nsIn K mainGlobals "_number" = some (some (.ref f12)))
    (l12 : K.lookup f12 = some ⟨oc12, od12, .func (PySem.W.fnOf "_number" "_number" (defArgs (top 23)) (defBody (top 23)) (defScope (top 23)) .none kV12 dc12 pm12 an12 cd12 ct12), sl12⟩)
    (c12 : PySem.W.codeIn K cd12 "_number" = true)
    (k12 : PySem.W.keepIn K (.ref f12) = true)
    (a13 : PySem.W.nsIn K mainGlobals "corner_number" = some (some (.ref f13)))
    (l13 : K.lookup f13 = some ⟨oc13, od13, .func (PySem.W.fnOf "corner_number" "corner_number" (defArgs (top 24)) (defBody (top 24)) (defScope (top 24)) .none kV13 dc13 pm13 an13 cd13 ct13), sl13⟩)
    (c13 : PySem.W.codeIn K cd13 "corner_number" = true)
    (k13 : PySem.W.keepIn K (.ref f13) = true)
    (a14 : PySem.W.nsIn K mainGlobals "corner" = some (some (.ref f14)))
    (l14 : K.lookup f14 = some ⟨oc14, od14, .func (PySem.W.fnOf "corner" "corner" (defArgs (top 25)) (defBody (top 25)) (defScope (top 25)) .none kV14 dc14 pm14 an14 cd14 ct14), sl14⟩)
    (c14 : PySem.W.codeIn K cd14 "corner" = true)
    (k14 : PySem.W.keepIn K (.ref f14) = true)
    (a15 : PySem.W.nsIn K mainGlobals "triangles" = some (some (.ref f15)))
    (l15 : K.lookup f15 = some ⟨oc15, od15, .func (PySem.W.fnOf "triangles" "triangles" (defArgs (top 26)) (defBody (top 26)) (defScope (top 26)) .none kV15 dc15 pm15 an15 cd15 ct15), sl15⟩)
    (c15 : PySem.W.codeIn K cd15 "triangles" = true)
    (k15 : PySem.W.keepIn K (.ref f15) = true)
    (a16 : PySem.W.nsIn K mainGlobals "_rests" = some (some (.ref f16)))
    (l16 : K.lookup f16 = some ⟨oc16, od16, .func (PySem.W.fnOf "_rests" "_rests" (defArgs (top 27)) (defBody (top 27)) (defScope (top 27)) .none kV16 dc16 pm16 an16 cd16 ct16), sl16⟩)
    (c16 : PySem.W.codeIn K cd16 "_rests" = true)
    (k16 : PySem.W.keepIn K (.ref f16) = true)
    (a17 : PySem.W.nsIn K mainGlobals "mersenne" = some (some (.ref f17)))
    (l17 : K.lookup f17 = some ⟨oc17, od17, .func (PySem.W.fnOf "mersenne" "mersenne" (defArgs (top 28)) (defBody (top 28)) (defScope (top 28)) .none kV17 dc17 pm17 an17 cd17 ct17), sl17⟩)
    (c17 : PySem.W.codeIn K cd17 "mersenne" = true)
    (k17 : PySem.W.keepIn K (.ref f17) = true)
    (a18 : PySem.W.nsIn K mainGlobals "corner_right" = some (some (.ref f18)))
    (l18 : K.lookup f18 = some ⟨oc18, od18, .func (PySem.W.fnOf "corner_right" "corner_right" (defArgs (top 29)) (defBody (top 29)) (defScope (top 29)) .none kV18 dc18 pm18 an18 cd18 ct18), sl18⟩)
    (c18 : PySem.W.codeIn K cd18 "corner_right" = true)
    (k18 : PySem.W.keepIn K (.ref f18) = true)
    (a19 : PySem.W.nsIn K mainGlobals "_law_draw" = some (some (.ref f19)))
    (l19 : K.lookup f19 = some ⟨oc19, od19, .func (PySem.W.fnOf "_law_draw" "_law_draw" (defArgs (top 32)) (defBody (top 32)) (defScope (top 32)) .none kV19 dc19 pm19 an19 cd19 ct19), sl19⟩)
    (c19 : PySem.W.codeIn K cd19 "_law_draw" = true)
    (k19 : PySem.W.keepIn K (.ref f19) = true)
    (a20 : PySem.W.nsIn K mainGlobals "_law_gcd" = some (some (.ref f20)))
    (l20 : K.lookup f20 = some ⟨oc20, od20, .func (PySem.W.fnOf "_law_gcd" "_law_gcd" (defArgs (top 33)) (defBody (top 33)) (defScope (top 33)) .none kV20 dc20 pm20 an20 cd20 ct20), sl20⟩)
    (c20 : PySem.W.codeIn K cd20 "_law_gcd" = true)
    (k20 : PySem.W.keepIn K (.ref f20) = true)
    (a21 : PySem.W.nsIn K mainGlobals "_law_same" = some (some (.ref f21)))
    (l21 : K.lookup f21 = some ⟨oc21, od21, .func (PySem.W.fnOf "_law_same" "_law_same" (defArgs (top 34)) (defBody (top 34)) (defScope (top 34)) .none kV21 dc21 pm21 an21 cd21 ct21), sl21⟩)
    (c21 : PySem.W.codeIn K cd21 "_law_same" = true)
    (k21 : PySem.W.keepIn K (.ref f21) = true)
    (a22 : PySem.W.nsIn K mainGlobals "_law_divides" = some (some (.ref f22)))
    (l22 : K.lookup f22 = some ⟨oc22, od22, .func (PySem.W.fnOf "_law_divides" "_law_divides" (defArgs (top 35)) (defBody (top 35)) (defScope (top 35)) .none kV22 dc22 pm22 an22 cd22 ct22), sl22⟩)
    (c22 : PySem.W.codeIn K cd22 "_law_divides" = true)
    (k22 : PySem.W.keepIn K (.ref f22) = true)
    (a23 : PySem.W.nsIn K mainGlobals "_law_some" = some (some (.ref f23)))
    (l23 : K.lookup f23 = some ⟨oc23, od23, .func (PySem.W.fnOf "_law_some" "_law_some" (defArgs (top 36)) (defBody (top 36)) (defScope (top 36)) .none kV23 dc23 pm23 an23 cd23 ct23), sl23⟩)
    (c23 : PySem.W.codeIn K cd23 "_law_some" = true)
    (k23 : PySem.W.keepIn K (.ref f23) = true)
    (a24 : PySem.W.nsIn K mainGlobals "_law_sign" = some (some (.ref f24)))
    (l24 : K.lookup f24 = some ⟨oc24, od24, .func (PySem.W.fnOf "_law_sign" "_law_sign" (defArgs (top 37)) (defBody (top 37)) (defScope (top 37)) .none kV24 dc24 pm24 an24 cd24 ct24), sl24⟩)
    (c24 : PySem.W.codeIn K cd24 "_law_sign" = true)
    (k24 : PySem.W.keepIn K (.ref f24) = true)
    (a25 : PySem.W.nsIn K mainGlobals "_law_huge" = some (some (.ref f25)))
    (l25 : K.lookup f25 = some ⟨oc25, od25, .func (PySem.W.fnOf "_law_huge" "_law_huge" (defArgs (top 38)) (defBody (top 38)) (defScope (top 38)) .none kV25 dc25 pm25 an25 cd25 ct25), sl25⟩)
    (c25 : PySem.W.codeIn K cd25 "_law_huge" = true)
    (k25 : PySem.W.keepIn K (.ref f25) = true)
    (a26 : PySem.W.nsIn K mainGlobals "_law_touched" = some (some (.ref f26)))
    (l26 : K.lookup f26 = some ⟨oc26, od26, .func (PySem.W.fnOf "_law_touched" "_law_touched" (defArgs (top 39)) (defBody (top 39)) (defScope (top 39)) .none kV26 dc26 pm26 an26 cd26 ct26), sl26⟩)
    (c26 : PySem.W.codeIn K cd26 "_law_touched" = true)
    (k26 : PySem.W.keepIn K (.ref f26) = true)
    (a27 : PySem.W.nsIn K mainGlobals "_law_plain" = some (some (.ref f27)))
    (l27 : K.lookup f27 = some ⟨oc27, od27, .func (PySem.W.fnOf "_law_plain" "_law_plain" (defArgs (top 40)) (defBody (top 40)) (defScope (top 40)) .none kV27 dc27 pm27 an27 cd27 ct27), sl27⟩)
    (c27 : PySem.W.codeIn K cd27 "_law_plain" = true)
    (k27 : PySem.W.keepIn K (.ref f27) = true)
    (a28 : PySem.W.nsIn K mainGlobals "_law_line_right" = some (some (.ref f28)))
    (l28 : K.lookup f28 = some ⟨oc28, od28, .func (PySem.W.fnOf "_law_line_right" "_law_line_right" (defArgs (top 41)) (defBody (top 41)) (defScope (top 41)) .none kV28 dc28 pm28 an28 cd28 ct28), sl28⟩)
    (c28 : PySem.W.codeIn K cd28 "_law_line_right" = true)
    (k28 : PySem.W.keepIn K (.ref f28) = true)
    (a29 : PySem.W.nsIn K mainGlobals "_law_corner" = some (some (.ref f29)))
    (l29 : K.lookup f29 = some ⟨oc29, od29, .func (PySem.W.fnOf "_law_corner" "_law_corner" (defArgs (top 42)) (defBody (top 42)) (defScope (top 42)) .none kV29 dc29 pm29 an29 cd29 ct29), sl29⟩)
    (c29 : PySem.W.codeIn K cd29 "_law_corner" = true)
    (k29 : PySem.W.keepIn K (.ref f29) = true)
    (a30 : PySem.W.nsIn K mainGlobals "_law_rests" = some (some (.ref f30)))
    (l30 : K.lookup f30 = some ⟨oc30, od30, .func (PySem.W.fnOf "_law_rests" "_law_rests" (defArgs (top 43)) (defBody (top 43)) (defScope (top 43)) .none kV30 dc30 pm30 an30 cd30 ct30), sl30⟩)
    (c30 : PySem.W.codeIn K cd30 "_law_rests" = true)
    (k30 : PySem.W.keepIn K (.ref f30) = true)
    (a31 : PySem.W.nsIn K mainGlobals "_law_right" = some (some (.ref f31)))
    (l31 : K.lookup f31 = some ⟨oc31, od31, .func (PySem.W.fnOf "_law_right" "_law_right" (defArgs (top 44)) (defBody (top 44)) (defScope (top 44)) .none kV31 dc31 pm31 an31 cd31 ct31), sl31⟩)
    (c31 : PySem.W.codeIn K cd31 "_law_right" = true)
    (k31 : PySem.W.keepIn K (.ref f31) = true)
    (a32 : PySem.W.nsIn K mainGlobals "_law_told" = some (some (.ref f32)))
    (l32 : K.lookup f32 = some ⟨oc32, od32, .func (PySem.W.fnOf "_law_told" "_law_told" (defArgs (top 45)) (defBody (top 45)) (defScope (top 45)) .none kV32 dc32 pm32 an32 cd32 ct32), sl32⟩)
    (c32 : PySem.W.codeIn K cd32 "_law_told" = true)
    (k32 : PySem.W.keepIn K (.ref f32) = true)
    (a33 : PySem.W.nsIn K mainGlobals "_law_judged" = some (some (.ref f33)))
    (l33 : K.lookup f33 = some ⟨oc33, od33, .func (PySem.W.fnOf "_law_judged" "_law_judged" (defArgs (top 46)) (defBody (top 46)) (defScope (top 46)) .none kV33 dc33 pm33 an33 cd33 ct33), sl33⟩)
    (c33 : PySem.W.codeIn K cd33 "_law_judged" = true)
    (k33 : PySem.W.keepIn K (.ref f33) = true)
    (a34 : PySem.W.nsIn K mainGlobals "_law_pool" = some (some (.ref f34)))
    (l34 : K.lookup f34 = some ⟨oc34, od34, .func (PySem.W.fnOf "_law_pool" "_law_pool" (defArgs (top 31)) (defBody (top 31)) (defScope (top 31)) .none kV34 dc34 pm34 an34 cd34 ct34), sl34⟩)
    (c34 : PySem.W.codeIn K cd34 "_law_pool" = true)
    (k34 : PySem.W.keepIn K (.ref f34) = true)
    (a35 : PySem.W.nsIn K mainGlobals "law" = some (some (.ref f35)))
    (l35 : K.lookup f35 = some ⟨oc35, od35, .func (PySem.W.fnOf "law" "law" (defArgs (top 47)) (defBody (top 47)) (defScope (top 47)) .none kV35 dc35 pm35 an35 cd35 ct35), sl35⟩)
    (c35 : PySem.W.codeIn K cd35 "law" = true)
    (k35 : PySem.W.keepIn K (.ref f35) = true)
    (b0 : PySem.W.nsIn K mainGlobals "len" = some none)
    (b1 : PySem.W.nsIn K mainGlobals "abs" = some none)
    (b2 : PySem.W.nsIn K mainGlobals "int" = some none)
    (b3 : PySem.W.nsIn K mainGlobals "max" = some none)
    (b4 : PySem.W.nsIn K mainGlobals "min" = some none)
    (b5 : PySem.W.nsIn K mainGlobals "sum" = some none)
    (b6 : PySem.W.nsIn K mainGlobals "all" = some none)
    (b7 : PySem.W.nsIn K mainGlobals "any" = some none)
    (b8 : PySem.W.nsIn K mainGlobals "tuple" = some none)
    (b9 : PySem.W.nsIn K mainGlobals "list" = some none)
    (b10 : PySem.W.nsIn K mainGlobals "sorted" = some none)
    (b11 : PySem.W.nsIn K mainGlobals "isinstance" = some none)
    (b12 : PySem.W.nsIn K mainGlobals "bool" = some none)
    (b13 : PySem.W.nsIn K mainGlobals "str" = some none)
    (b14 : PySem.W.nsIn K mainGlobals "range" = some none)
    (b15 : PySem.W.nsIn K mainGlobals "enumerate" = some none)
    (b16 : PySem.W.nsIn K mainGlobals "zip" = some none)
    (b17 : PySem.W.nsIn K mainGlobals "reversed" = some none)
    (glb0 : PySem.W.nsIn K mainGlobals "MOST_SUM" = some (some (.int 1000000 tk0)))
    (glb1 : PySem.W.nsIn K mainGlobals "MOST_TRIANGLES" = some (some (.int 100000 tk1)))
    (glb2 : PySem.W.nsIn K mainGlobals "MOST_MERSENNE" = some (some (.int 500 tk2)))
    (e0g : PySem.W.nsIn K mainGlobals "BadNumber" = some (some (.ref C0)))
    (e0x : K.lookup C0 = some (excClassObj nm0 q0 C0 N0 bs0 bm0 true sn0 sub0 ab0 col0 dd0 m0_0 m1_0 m2_0 m3_0 m5_0 "ValueError.__new__"))
    (e0r : PySem.HandSPX.refsVE bm0 = true)
    (e0s : PySem.W.findIn K (.ref C0) "__setattr__" = some (some (.builtin "object.__setattr__")))
    (e0ga : PySem.W.findIn K (.ref C0) "__getattribute__" = some (some (.builtin "BaseException.__getattribute__")))
    (e0gg : PySem.W.findIn K (.ref C0) "__getattr__" = some none)
    (e0n : PySem.W.findIn K (.ref C0) "what" = some none)
    (e0i : PySem.W.findIn K (.ref C0) "__init__" = some (some (.ref I0)))
    (e0t : PySem.W.typeIn K (.ref I0) = some (.type "function"))
    (e0k : PySem.W.keepIn K (.ref C0) = true)
    (e0b : PySem.W.subIn K (.ref C0) (.type "BaseException") = some true)
    (e0v : PySem.W.subIn K (.ref C0) (.type "ValueError") = some true)
    (e0y : PySem.W.typeIn K (.ref C0) = some (.type "type"))
    (e0h : PySem.W.hasDictIn K C0 = true)
    (e0m : PySem.W.mroIn K C0 (.ref C0) = some true)
    (e0u : PySem.W.ks_superIn K C0 C0 "__init__" = some (some (.builtin "ValueError.__init__")))
    (e0f : K.lookup I0 = some ⟨oc_0, od_0, .func (PySem.W.ksFn "__init__" "BadNumber.__init__" (defArgs (inClass (top 2) 0)) (defBody (inClass (top 2) 0)) (defScope (inClass (top 2) 0)) .none .none dc_0 pm_0 an_0 (.ref ca0) ct_0 cc0), sl_0⟩)
    (e0c : PySem.W.codeIn K (.ref ca0) "BadNumber.__init__" = true)
    (e0z : K.lookup cc0 = some ⟨cl0, cld0, .cell (some (.ref C0)), csl0⟩)
    (e0d : K.lookup ca0 = some ⟨ccl0, cdd0, .fields vs0, ccs0⟩)
    (e0w : vs0[2]? = some (.str fi0 tf0))
    (e0p : ((PySem.Challenge.pw_wholeproof_k44_whole_lines_corners_and_g.main.file : Str) == fi0) = true)
    (e1g : PySem.W.nsIn K mainGlobals "TooLarge" = some (some (.ref C1)))
    (e1x : K.lookup C1 = some (excClassObj nm1 q1 C1 N1 bs1 bm1 true sn1 sub1 ab1 col1 dd1 m0_1 m1_1 m2_1 m3_1 m5_1 "ValueError.__new__"))
    (e1r : PySem.HandSPX.refsVE bm1 = true)
    (e1s : PySem.W.findIn K (.ref C1) "__setattr__" = some (some (.builtin "object.__setattr__")))
    (e1ga : PySem.W.findIn K (.ref C1) "__getattribute__" = some (some (.builtin "BaseException.__getattribute__")))
    (e1gg : PySem.W.findIn K (.ref C1) "__getattr__" = some none)
    (e1n : PySem.W.findIn K (.ref C1) "what" = some none)
    (e1i : PySem.W.findIn K (.ref C1) "__init__" = some (some (.ref I1)))
    (e1t : PySem.W.typeIn K (.ref I1) = some (.type "function"))
    (e1k : PySem.W.keepIn K (.ref C1) = true)
    (e1b : PySem.W.subIn K (.ref C1) (.type "BaseException") = some true)
    (e1v : PySem.W.subIn K (.ref C1) (.type "ValueError") = some true)
    (e1y : PySem.W.typeIn K (.ref C1) = some (.type "type"))
    (e1h : PySem.W.hasDictIn K C1 = true)
    (e1m : PySem.W.mroIn K C1 (.ref C1) = some true)
    (e1u : PySem.W.ks_superIn K C1 C1 "__init__" = some (some (.builtin "ValueError.__init__")))
    (e1f : K.lookup I1 = some ⟨oc_1, od_1, .func (PySem.W.ksFn "__init__" "TooLarge.__init__" (defArgs (inClass (top 3) 0)) (defBody (inClass (top 3) 0)) (defScope (inClass (top 3) 0)) .none .none dc_1 pm_1 an_1 (.ref ca1) ct_1 cc1), sl_1⟩)
    (e1c : PySem.W.codeIn K (.ref ca1) "TooLarge.__init__" = true)
    (e1z : K.lookup cc1 = some ⟨cl1, cld1, .cell (some (.ref C1)), csl1⟩)
    (e1d : K.lookup ca1 = some ⟨ccl1, cdd1, .fields vs1, ccs1⟩)
    (e1w : vs1[2]? = some (.str fi1 tf1))
    (e1p : ((PySem.Challenge.pw_wholeproof_k44_whole_lines_corners_and_g.main.file : Str) == fi1) = true)
    (zo : PySem.W.nsIn K cStatics "thirdparty.any" = some none)
    (zs : PySem.W.nsIn K mainGlobals "super" = some none)
    (h0 : PySem.W.nsIn K mainGlobals "BadNumber" = some (some (.ref H0)))
    (h0c : PySem.W.isClsIn K H0 = true)
    (h0b : PySem.W.subIn K (.ref H0) (.type "BaseException") = some true)
    (h0t : PySem.W.typeIn K (.ref H0) = some (.type "type"))
    (h0_0 : PySem.W.subIn K (.ref C0) (.ref H0) = some true)
    (h0_1 : PySem.W.subIn K (.ref C1) (.ref H0) = some false)
    (h1 : PySem.W.nsIn K mainGlobals "TooLarge" = some (some (.ref H1)))
    (h1c : PySem.W.isClsIn K H1 = true)
    (h1b : PySem.W.subIn K (.ref H1) (.type "BaseException") = some true)
    (h1t : PySem.W.typeIn K (.ref H1) = some (.type "type"))
    (h1_0 : PySem.W.subIn K (.ref C0) (.ref H1) = some false)
    (h1_1 : PySem.W.subIn K (.ref C1) (.ref H1) = some true)
    (nd : ([C0, C1] : List Addr).Nodup)
    (sm : ∀ c ∈ ([C0, C1] : List Addr), c < 1000000000) :
    ∃ fd : FuncData, (∀ (s : Shared) (u : Value), BindsTo s fd ⟨[u], []⟩ [(("script" : Str), u)]) ∧ ∀ base : Heap, K.In base → base.Ns mainGlobals mg → FnOk PySem.Challenge.pw_wholeproof_k44_whole_lines_corners_and_g w K mg base (L2.CX PySem.Challenge.pw_wholeproof_k44_whole_lines_corners_and_g w) 60 fa fd ["script"] (spLaw K 63) := by
  have e := hfa.symm.trans (PySem.W.mg_of X G a35)
  cases e
  have F0 := fun_mk (st := top 5) l0 c0 k0
  have F1 := fun_mk (st := top 6) l1 c1 k1
  have F2 := fun_mk (st := top 7) l2 c2 k2
  have F3 := fun_mk (st := top 8) l3 c3 k3
  have F4 := fun_mk (st := top 9) l4 c4 k4
  have F5 := fun_mk (st := top 10) l5 c5 k5
  have F6 := fun_mk (st := top 12) l6 c6 k6
  have F7 := fun_mk (st := top 13) l7 c7 k7
  have F8 := fun_mk (st := top 14) l8 c8 k8
  have F9 := fun_mk (st := top 17) l9 c9 k9
  have F10 := fun_mk (st := top 18) l10 c10 k10
  have F11 := fun_mk (st := top 19) l11 c11 k11
  have F12 := fun_mk (st := top 23) l12 c12 k12
  have F13 := fun_mk (st := top 24) l13 c13 k13
  have F14 := fun_mk (st := top 25) l14 c14 k14
  have F15 := fun_mk (st := top 26) l15 c15 k15
  have F16 := fun_mk (st := top 27) l16 c16 k16
  have F17 := fun_mk (st := top 28) l17 c17 k17
  have F18 := fun_mk (st := top 29) l18 c18 k18
  have F19 := fun_mk (st := top 32) l19 c19 k19
  have F20 := fun_mk (st := top 33) l20 c20 k20
  have F21 := fun_mk (st := top 34) l21 c21 k21
  have F22 := fun_mk (st := top 35) l22 c22 k22
  have F23 := fun_mk (st := top 36) l23 c23 k23
  have F24 := fun_mk (st := top 37) l24 c24 k24
  have F25 := fun_mk (st := top 38) l25 c25 k25
  have F26 := fun_mk (st := top 39) l26 c26 k26
  have F27 := fun_mk (st := top 40) l27 c27 k27
  have F28 := fun_mk (st := top 41) l28 c28 k28
  have F29 := fun_mk (st := top 42) l29 c29 k29
  have F30 := fun_mk (st := top 43) l30 c30 k30
  have F31 := fun_mk (st := top 44) l31 c31 k31
  have F32 := fun_mk (st := top 45) l32 c32 k32
  have F33 := fun_mk (st := top 46) l33 c33 k33
  have F34 := fun_mk (st := top 31) l34 c34 k34
  have F35 := fun_mk (st := top 47) l35 c35 k35
  have B0 := F0.binds (ps := [("number" : Str), ("part" : Str)]) fun _ _ _ _ _ _ us hl => match us, hl with | [_, _], _ => rfl
  have B1 := F1.binds (ps := [("a" : Str), ("b" : Str)]) fun _ _ _ _ _ _ us hl => match us, hl with | [_, _], _ => rfl
  have B2 := F2.binds (ps := [("a" : Str), ("b" : Str)]) fun _ _ _ _ _ _ us hl => match us, hl with | [_, _], _ => rfl
  have B3 := F3.binds (ps := [("base" : Str), ("exponent" : Str)]) fun _ _ _ _ _ _ us hl => match us, hl with | [_, _], _ => rfl
  have B4 := F4.binds (ps := [("n" : Str), ("k" : Str)]) fun _ _ _ _ _ _ us hl => match us, hl with | [_, _], _ => rfl
  have B5 := F5.binds (ps := [("d" : Str), ("n" : Str)]) fun _ _ _ _ _ _ us hl => match us, hl with | [_, _], _ => rfl
  have B6 := F6.binds (ps := [("a" : Str), ("b" : Str), ("c" : Str)]) fun _ _ _ _ _ _ us hl => match us, hl with | [_, _, _], _ => rfl
  have B7 := F7.binds (ps := [("a" : Str), ("b" : Str), ("c" : Str)]) fun _ _ _ _ _ _ us hl => match us, hl with | [_, _, _], _ => rfl
  have B8 := F8.binds (ps := [("claim" : Str)]) fun _ _ _ _ _ _ us hl => match us, hl with | [_], _ => rfl
  have B9 := F9.binds (ps := [("n" : Str), ("most" : Str)]) fun _ _ _ _ _ _ us hl => match us, hl with | [_, _], _ => rfl
  have B10 := F10.binds (ps := [("n" : Str)]) fun _ _ _ _ _ _ us hl => match us, hl with | [_], _ => rfl
  have B11 := F11.binds (ps := [("n" : Str)]) fun _ _ _ _ _ _ us hl => match us, hl with | [_], _ => rfl
  have B12 := F12.binds (ps := [("k" : Str), ("i" : Str)]) fun _ _ _ _ _ _ us hl => match us, hl with | [_, _], _ => rfl
  have B13 := F13.binds (ps := [("k" : Str), ("i" : Str)]) fun _ _ _ _ _ _ us hl => match us, hl with | [_, _], _ => rfl
  have B14 := F14.binds (ps := [("k" : Str), ("n" : Str)]) fun _ _ _ _ _ _ us hl => match us, hl with | [_, _], _ => rfl
  have B15 := F15.binds (ps := [("n" : Str)]) fun _ _ _ _ _ _ us hl => match us, hl with | [_], _ => rfl
  have B16 := F16.binds (ps := [("p" : Str)]) fun _ _ _ _ _ _ us hl => match us, hl with | [_], _ => rfl
  have B17 := F17.binds (ps := [("p" : Str)]) fun _ _ _ _ _ _ us hl => match us, hl with | [_], _ => rfl
  have B18 := F18.binds (ps := [("claim" : Str)]) fun _ _ _ _ _ _ us hl => match us, hl with | [_], _ => rfl
  have B19 := F19.binds (ps := [("pool" : Str), ("size" : Str)]) fun _ _ _ _ _ _ us hl => match us, hl with | [_, _], _ => rfl
  have B20 := F20.binds (ps := [("one" : Str), ("two" : Str)]) fun _ _ _ _ _ _ us hl => match us, hl with | [_, _], _ => rfl
  have B21 := F21.binds (ps := [("actual" : Str), ("due" : Str)]) fun _ _ _ _ _ _ us hl => match us, hl with | [_, _], _ => rfl
  have B22 := F22.binds (ps := [("d" : Str), ("n" : Str)]) fun _ _ _ _ _ _ us hl => match us, hl with | [_, _], _ => rfl
  have B23 := F23.binds (ps := [("pool" : Str)]) fun _ _ _ _ _ _ us hl => match us, hl with | [_], _ => rfl
  have B24 := F24.binds (ps := [("pool" : Str), ("n" : Str)]) fun _ _ _ _ _ _ us hl => match us, hl with | [_, _], _ => rfl
  have B25 := F25.binds (ps := [("pool" : Str)]) fun _ _ _ _ _ _ us hl => match us, hl with | [_], _ => rfl
  have B26 := F26.binds (ps := [("pool" : Str), ("part" : Str)]) fun _ _ _ _ _ _ us hl => match us, hl with | [_, _], _ => rfl
  have B27 := F27.binds (ps := [("part" : Str)]) fun _ _ _ _ _ _ us hl => match us, hl with | [_], _ => rfl
  have B28 := F28.binds (ps := [("claim" : Str)]) fun _ _ _ _ _ _ us hl => match us, hl with | [_], _ => rfl
  have B29 := F29.binds (ps := [("k" : Str), ("i" : Str)]) fun _ _ _ _ _ _ us hl => match us, hl with | [_, _], _ => rfl
  have B30 := F30.binds (ps := [("p" : Str)]) fun _ _ _ _ _ _ us hl => match us, hl with | [_], _ => rfl
  have B31 := F31.binds (ps := [("claim" : Str)]) fun _ _ _ _ _ _ us hl => match us, hl with | [_], _ => rfl
  have B32 := F32.binds (ps := [("way" : Str), ("one" : Str), ("two" : Str), ("three" : Str)]) fun _ _ _ _ _ _ us hl => match us, hl with | [_, _, _, _], _ => rfl
  have B33 := F33.binds (ps := [("pool" : Str), ("claim" : Str), ("way" : Str)]) fun _ _ _ _ _ _ us hl => match us, hl with | [_, _, _], _ => rfl
  have B34 := F34.binds (ps := [("script" : Str), ("budget" : Str)]) fun _ _ _ _ _ _ us hl => match us, hl with | [_, _], _ => rfl
  have B35 := F35.binds (ps := [("script" : Str)]) fun _ _ _ _ _ _ us hl => match us, hl with | [_], _ => rfl
  have E0 : ExTxt PySem.Challenge.pw_wholeproof_k44_whole_lines_corners_and_g K mg C0 I0 "what" := { cls := ⟨_, _, _, _, _, _, _, _, _, _, _, _, _, _, _, e0x, e0r⟩, sa := e0s, noN := e0n, iC := e0i, tI := e0t, kC := e0k, exC := e0b, veC := e0v, tyC := e0y, self := e0m, up := e0u, opq := zo, nosup := PySem.W.mg_none_of X G zs, top := by decide +kernel, fn := ⟨_, _, _, _, _, _, _, _, _, _, _, _, _, e0f, e0c, fun _ _ => rfl, by decide +kernel, by decide +kernel, by decide +kernel, ⟨_, _, _, e0z⟩, _, _, _, _, _, _, e0d, e0w, e0p⟩ }
  have D0 : FldOk K C0 "what" := ⟨e0ga, e0gg, e0n, e0b, e0h⟩
  have E1 : ExTxt PySem.Challenge.pw_wholeproof_k44_whole_lines_corners_and_g K mg C1 I1 "what" := { cls := ⟨_, _, _, _, _, _, _, _, _, _, _, _, _, _, _, e1x, e1r⟩, sa := e1s, noN := e1n, iC := e1i, tI := e1t, kC := e1k, exC := e1b, veC := e1v, tyC := e1y, self := e1m, up := e1u, opq := zo, nosup := PySem.W.mg_none_of X G zs, top := by decide +kernel, fn := ⟨_, _, _, _, _, _, _, _, _, _, _, _, _, e1f, e1c, fun _ _ => rfl, by decide +kernel, by decide +kernel, by decide +kernel, ⟨_, _, _, e1z⟩, _, _, _, _, _, _, e1d, e1w, e1p⟩ }
  have D1 : FldOk K C1 "what" := ⟨e1ga, e1gg, e1n, e1b, e1h⟩
  have Eo : EnvOk PySem.Challenge.pw_wholeproof_k44_whole_lines_corners_and_g K mg ⟨K, fun k => ([C0, C1] : List Addr)[k]?.getD (1000000000 + k), fun _ => "what", none⟩ T ts := {
    hK := rfl
    blt := fun x hx => by
      simp only [bltNames, List.mem_cons, List.not_mem_nil, or_false] at hx
      rcases hx with rfl | rfl | rfl | rfl | rfl | rfl | rfl | rfl | rfl | rfl | rfl | rfl | rfl | rfl | rfl | rfl | rfl | rfl
      · exact PySem.W.mg_none_of X G b0
      · exact PySem.W.mg_none_of X G b1
      · exact PySem.W.mg_none_of X G b2
      · exact PySem.W.mg_none_of X G b3
      · exact PySem.W.mg_none_of X G b4
      · exact PySem.W.mg_none_of X G b5
      · exact PySem.W.mg_none_of X G b6
      · exact PySem.W.mg_none_of X G b7
      · exact PySem.W.mg_none_of X G b8
      · exact PySem.W.mg_none_of X G b9
      · exact PySem.W.mg_none_of X G b10
      · exact PySem.W.mg_none_of X G b11
      · exact PySem.W.mg_none_of X G b12
      · exact PySem.W.mg_none_of X G b13
      · exact PySem.W.mg_none_of X G b14
      · exact PySem.W.mg_none_of X G b15
      · exact PySem.W.mg_none_of X G b16
      · exact PySem.W.mg_none_of X G b17
    glb := fun x n hx => by
      simp only [T, List.lookup_cons, List.lookup_nil] at hx
      split at hx
      · rename_i e; rw [beq_iff_eq] at e; subst e; cases hx; exact ⟨_, PySem.W.mg_of X G glb0⟩
      split at hx
      · rename_i e; rw [beq_iff_eq] at e; subst e; cases hx; exact ⟨_, PySem.W.mg_of X G glb1⟩
      split at hx
      · rename_i e; rw [beq_iff_eq] at e; subst e; cases hx; exact ⟨_, PySem.W.mg_of X G glb2⟩
      cases hx
    made := fun x n hx => by
      simp only [T, List.lookup_cons, List.lookup_nil] at hx
      split at hx
      · rename_i e; rw [beq_iff_eq] at e; subst e; cases hx; exact mk_ok E0 (PySem.W.mg_of X G e0g) (by decide +kernel)
      split at hx
      · rename_i e; rw [beq_iff_eq] at e; subst e; cases hx; exact mk_ok E1 (PySem.W.mg_of X G e1g) (by decide +kernel)
      cases hx
    hnd := fun x cs no hx => by
      simp only [T, List.lookup_cons, List.lookup_nil] at hx
      split at hx
      · rename_i e; rw [beq_iff_eq] at e; subst e; cases hx; refine ⟨_, PySem.W.mg_of X G h0, fun k hk => ?_, fun k hk => ?_⟩
        · simp only [List.mem_cons, List.not_mem_nil, or_false] at hk
          rcases hk with rfl
          · exact ⟨exm_mk h0b h0c h0t h0_0, rfl, D0⟩
        · simp only [List.mem_cons, List.not_mem_nil, or_false] at hk
          rcases hk with rfl
          · exact exm_mk h0b h0c h0t h0_1
      split at hx
      · rename_i e; rw [beq_iff_eq] at e; subst e; cases hx; refine ⟨_, PySem.W.mg_of X G h1, fun k hk => ?_, fun k hk => ?_⟩
        · simp only [List.mem_cons, List.not_mem_nil, or_false] at hk
          rcases hk with rfl
          · exact ⟨exm_mk h1b h1c h1t h1_1, rfl, D1⟩
        · simp only [List.mem_cons, List.not_mem_nil, or_false] at hk
          rcases hk with rfl
          · exact exm_mk h1b h1c h1t h1_0
      cases hx
    inj := inj_of nd sm
    fns := rfl
    ok := ok_all
    funs := fun t ht => by
      simp only [ts, List.mem_cons, List.not_mem_nil, or_false] at ht
      rcases ht with rfl | rfl | rfl | rfl | rfl | rfl | rfl | rfl | rfl | rfl | rfl | rfl | rfl | rfl | rfl | rfl | rfl | rfl | rfl | rfl | rfl | rfl | rfl | rfl | rfl | rfl | rfl | rfl | rfl | rfl | rfl | rfl | rfl | rfl
      · exact ⟨"_signed", f0, _, PySem.W.mg_of X G a0, F0, B0⟩
      · exact ⟨"shared", f1, _, PySem.W.mg_of X G a1, F1, B1⟩
      · exact ⟨"greatest_shared", f2, _, PySem.W.mg_of X G a2, F2, B2⟩
      · exact ⟨"raised", f3, _, PySem.W.mg_of X G a3, F3, B3⟩
      · exact ⟨"root", f4, _, PySem.W.mg_of X G a4, F4, B4⟩
      · exact ⟨"divides", f5, _, PySem.W.mg_of X G a5, F5, B5⟩
      · exact ⟨"line", f6, _, PySem.W.mg_of X G a6, F6, B6⟩
      · exact ⟨"count_line", f7, _, PySem.W.mg_of X G a7, F7, B7⟩
      · exact ⟨"line_right", f8, _, PySem.W.mg_of X G a8, F8, B8⟩
      · exact ⟨"_checked", f9, _, PySem.W.mg_of X G a9, F9, B9⟩
      · exact ⟨"_seven", f10, _, PySem.W.mg_of X G a10, F10, B10⟩
      · exact ⟨"three_squares", f11, _, PySem.W.mg_of X G a11, F11, B11⟩
      · exact ⟨"_number", f12, _, PySem.W.mg_of X G a12, F12, B12⟩
      · exact ⟨"corner_number", f13, _, PySem.W.mg_of X G a13, F13, B13⟩
      · exact ⟨"corner", f14, _, PySem.W.mg_of X G a14, F14, B14⟩
      · exact ⟨"triangles", f15, _, PySem.W.mg_of X G a15, F15, B15⟩
      · exact ⟨"_rests", f16, _, PySem.W.mg_of X G a16, F16, B16⟩
      · exact ⟨"mersenne", f17, _, PySem.W.mg_of X G a17, F17, B17⟩
      · exact ⟨"corner_right", f18, _, PySem.W.mg_of X G a18, F18, B18⟩
      · exact ⟨"_law_draw", f19, _, PySem.W.mg_of X G a19, F19, B19⟩
      · exact ⟨"_law_gcd", f20, _, PySem.W.mg_of X G a20, F20, B20⟩
      · exact ⟨"_law_same", f21, _, PySem.W.mg_of X G a21, F21, B21⟩
      · exact ⟨"_law_divides", f22, _, PySem.W.mg_of X G a22, F22, B22⟩
      · exact ⟨"_law_some", f23, _, PySem.W.mg_of X G a23, F23, B23⟩
      · exact ⟨"_law_sign", f24, _, PySem.W.mg_of X G a24, F24, B24⟩
      · exact ⟨"_law_huge", f25, _, PySem.W.mg_of X G a25, F25, B25⟩
      · exact ⟨"_law_touched", f26, _, PySem.W.mg_of X G a26, F26, B26⟩
      · exact ⟨"_law_plain", f27, _, PySem.W.mg_of X G a27, F27, B27⟩
      · exact ⟨"_law_line_right", f28, _, PySem.W.mg_of X G a28, F28, B28⟩
      · exact ⟨"_law_corner", f29, _, PySem.W.mg_of X G a29, F29, B29⟩
      · exact ⟨"_law_rests", f30, _, PySem.W.mg_of X G a30, F30, B30⟩
      · exact ⟨"_law_right", f31, _, PySem.W.mg_of X G a31, F31, B31⟩
      · exact ⟨"_law_told", f32, _, PySem.W.mg_of X G a32, F32, B32⟩
      · exact ⟨"_law_judged", f33, _, PySem.W.mg_of X G a33, F33, B33⟩
    }
  exact ⟨_, fun s u => .of_eq rfl, fun base _ _ => law_fn (lv := 58) (n := 63) (t := f_law) Eo F35 F34 (PySem.W.mg_of X G a34) B34 ok_pool ok_law pure_law⟩
end K44
open PySem PySem.W PyProof.Rows
set_option maxHeartbeats 0 in
theorem PySem.Challenge.cw_wholeproof_k44_whole_lines_corners_and_g_holds : PySem.Challenge.rw_wholeproof_k44_whole_lines_corners_and_g.Holds := by
  w_on; o_law; k_head; (case hw => w_witness2)
  k_fill
  refine L2.walk_of (l := PySem.Challenge.rw_wholeproof_k44_whole_lines_corners_and_g) (n := 63) (k := 60) (x := "script") (CX := fun w => L2.CX PySem.Challenge.pw_wholeproof_k44_whole_lines_corners_and_g w) (sp := fun w => PI.spLaw _ 63) rfl (by decide) rfl ⟨rfl, by decide, by decide⟩ (fun w h Y => PySem.W.kIn_of Y) ?F (fun w H a ns hl _ hS => ⟨a, ns, rfl, hl, hS, fun _ => rfl⟩) fun w H s e s' z => PI.cx_end z
  case F =>
    intro w mg fa h KX G hmg
    refine' K44.all_mk KX G hmg ?a0 ?l0 ?c0 ?k0 ?a1 ?l1 ?c1 ?k1 ?a2 ?l2 ?c2 ?k2 ?a3 ?l3 ?c3 ?k3 ?a4 ?l4 ?c4 ?k4 ?a5 ?l5 ?c5 ?k5 ?a6 ?l6 ?c6 ?k6 ?a7 ?l7 ?c7 ?k7 ?a8 ?l8 ?c8 ?k8 ?a9 ?l9 ?c9 ?k9 ?a10 ?l10 ?c10 ?k10 ?a11 ?l11 ?c11 ?k11 ?a12 ?l12 ?c12 ?k12 ?a13 ?l13 ?c13 ?k13 ?a14 ?l14 ?c14 ?k14 ?a15 ?l15 ?c15 ?k15 ?a16 ?l16 ?c16 ?k16 ?a17 ?l17 ?c17 ?k17 ?a18 ?l18 ?c18 ?k18 ?a19 ?l19 ?c19 ?k19 ?a20 ?l20 ?c20 ?k20 ?a21 ?l21 ?c21 ?k21 ?a22 ?l22 ?c22 ?k22 ?a23 ?l23 ?c23 ?k23 ?a24 ?l24 ?c24 ?k24 ?a25 ?l25 ?c25 ?k25 ?a26 ?l26 ?c26 ?k26 ?a27 ?l27 ?c27 ?k27 ?a28 ?l28 ?c28 ?k28 ?a29 ?l29 ?c29 ?k29 ?a30 ?l30 ?c30 ?k30 ?a31 ?l31 ?c31 ?k31 ?a32 ?l32 ?c32 ?k32 ?a33 ?l33 ?c33 ?k33 ?a34 ?l34 ?c34 ?k34 ?a35 ?l35 ?c35 ?k35 ?b0 ?b1 ?b2 ?b3 ?b4 ?b5 ?b6 ?b7 ?b8 ?b9 ?b10 ?b11 ?b12 ?b13 ?b14 ?b15 ?b16 ?b17 ?glb0 ?glb1 ?glb2 ?e0g ?e0x ?e0r ?e0s ?e0ga ?e0gg ?e0n ?e0i ?e0t ?e0k ?e0b ?e0v ?e0y ?e0h ?e0m ?e0u ?e0f ?e0c ?e0z ?e0d ?e0w ?e0p ?e1g ?e1x ?e1r ?e1s ?e1ga ?e1gg ?e1n ?e1i ?e1t ?e1k ?e1b ?e1v ?e1y ?e1h ?e1m ?e1u ?e1f ?e1c ?e1z ?e1d ?e1w ?e1p ?zo ?zs ?h0 ?h0c ?h0b ?h0t ?h0_0 ?h0_1 ?h1 ?h1c ?h1b ?h1t ?h1_0 ?h1_1 ?nd ?sm
    (case a0 => k_is)
    (case l0 => k_is)
    (case c0 => k_is)
    (case k0 => k_is)
    (case a1 => k_is)
    (case l1 => k_is)
    (case c1 => k_is)
    (case k1 => k_is)
    (case a2 => k_is)
    (case l2 => k_is)
    (case c2 => k_is)
    (case k2 => k_is)
    (case a3 => k_is)
    (case l3 => k_is)
    (case c3 => k_is)
    (case k3 => k_is)
    (case a4 => k_is)
    (case l4 => k_is)
    (case c4 => k_is)
    (case k4 => k_is)
    (case a5 => k_is)
    (case l5 => k_is)
    (case c5 => k_is)
    (case k5 => k_is)
    (case a6 => k_is)
    (case l6 => k_is)
    (case c6 => k_is)
    (case k6 => k_is)
    (case a7 => k_is)
    (case l7 => k_is)
    (case c7 => k_is)
    (case k7 => k_is)
    (case a8 => k_is)
    (case l8 => k_is)
    (case c8 => k_is)
    (case k8 => k_is)
    (case a9 => k_is)
    (case l9 => k_is)
    (case c9 => k_is)
    (case k9 => k_is)
    (case a10 => k_is)
    (case l10 => k_is)
    (case c10 => k_is)
    (case k10 => k_is)
    (case a11 => k_is)
    (case l11 => k_is)
    (case c11 => k_is)
    (case k11 => k_is)
    (case a12 => k_is)
    (case l12 => k_is)
    (case c12 => k_is)
    (case k12 => k_is)
    (case a13 => k_is)
    (case l13 => k_is)
    (case c13 => k_is)
    (case k13 => k_is)
    (case a14 => k_is)
    (case l14 => k_is)
    (case c14 => k_is)
    (case k14 => k_is)
    (case a15 => k_is)
    (case l15 => k_is)
    (case c15 => k_is)
    (case k15 => k_is)
    (case a16 => k_is)
    (case l16 => k_is)
    (case c16 => k_is)
    (case k16 => k_is)
    (case a17 => k_is)
    (case l17 => k_is)
    (case c17 => k_is)
    (case k17 => k_is)
    (case a18 => k_is)
    (case l18 => k_is)
    (case c18 => k_is)
    (case k18 => k_is)
    (case a19 => k_is)
    (case l19 => k_is)
    (case c19 => k_is)
    (case k19 => k_is)
    (case a20 => k_is)
    (case l20 => k_is)
    (case c20 => k_is)
    (case k20 => k_is)
    (case a21 => k_is)
    (case l21 => k_is)
    (case c21 => k_is)
    (case k21 => k_is)
    (case a22 => k_is)
    (case l22 => k_is)
    (case c22 => k_is)
    (case k22 => k_is)
    (case a23 => k_is)
    (case l23 => k_is)
    (case c23 => k_is)
    (case k23 => k_is)
    (case a24 => k_is)
    (case l24 => k_is)
    (case c24 => k_is)
    (case k24 => k_is)
    (case a25 => k_is)
    (case l25 => k_is)
    (case c25 => k_is)
    (case k25 => k_is)
    (case a26 => k_is)
    (case l26 => k_is)
    (case c26 => k_is)
    (case k26 => k_is)
    (case a27 => k_is)
    (case l27 => k_is)
    (case c27 => k_is)
    (case k27 => k_is)
    (case a28 => k_is)
    (case l28 => k_is)
    (case c28 => k_is)
    (case k28 => k_is)
    (case a29 => k_is)
    (case l29 => k_is)
    (case c29 => k_is)
    (case k29 => k_is)
    (case a30 => k_is)
    (case l30 => k_is)
    (case c30 => k_is)
    (case k30 => k_is)
    (case a31 => k_is)
    (case l31 => k_is)
    (case c31 => k_is)
    (case k31 => k_is)
    (case a32 => k_is)
    (case l32 => k_is)
    (case c32 => k_is)
    (case k32 => k_is)
    (case a33 => k_is)
    (case l33 => k_is)
    (case c33 => k_is)
    (case k33 => k_is)
    (case a34 => k_is)
    (case l34 => k_is)
    (case c34 => k_is)
    (case k34 => k_is)
    (case a35 => k_is)
    (case l35 => k_is)
    (case c35 => k_is)
    (case k35 => k_is)
    (case b0 => k_is)
    (case b1 => k_is)
    (case b2 => k_is)
    (case b3 => k_is)
    (case b4 => k_is)
    (case b5 => k_is)
    (case b6 => k_is)
    (case b7 => k_is)
    (case b8 => k_is)
    (case b9 => k_is)
    (case b10 => k_is)
    (case b11 => k_is)
    (case b12 => k_is)
    (case b13 => k_is)
    (case b14 => k_is)
    (case b15 => k_is)
    (case b16 => k_is)
    (case b17 => k_is)
    (case glb0 => k_is)
    (case glb1 => k_is)
    (case glb2 => k_is)
    (case e0g => k_is)
    (case e0x => k_is)
    (case e0r => first | rfl | decide +kernel | k_is)
    (case e0s => k_is)
    (case e0ga => k_is)
    (case e0gg => k_is)
    (case e0n => k_is)
    (case e0i => k_is)
    (case e0t => k_is)
    (case e0k => k_is)
    (case e0b => k_is)
    (case e0v => k_is)
    (case e0y => k_is)
    (case e0h => k_is)
    (case e0m => first | rfl | k_is)
    (case e0u => ks_is)
    (case e0f => k_is)
    (case e0c => k_is)
    (case e0z => k_is)
    (case e0d => k_is)
    (case e0w => first | rfl | decide +kernel | k_is)
    (case e0p => first | rfl | decide +kernel | k_is)
    (case e1g => k_is)
    (case e1x => k_is)
    (case e1r => first | rfl | decide +kernel | k_is)
    (case e1s => k_is)
    (case e1ga => k_is)
    (case e1gg => k_is)
    (case e1n => k_is)
    (case e1i => k_is)
    (case e1t => k_is)
    (case e1k => k_is)
    (case e1b => k_is)
    (case e1v => k_is)
    (case e1y => k_is)
    (case e1h => k_is)
    (case e1m => first | rfl | k_is)
    (case e1u => ks_is)
    (case e1f => k_is)
    (case e1c => k_is)
    (case e1z => k_is)
    (case e1d => k_is)
    (case e1w => first | rfl | decide +kernel | k_is)
    (case e1p => first | rfl | decide +kernel | k_is)
    (case zo => k_is)
    (case zs => k_is)
    (case h0 => k_is)
    (case h0c => k_is)
    (case h0b => k_is)
    (case h0t => k_is)
    (case h0_0 => first | rfl | k_is)
    (case h0_1 => first | rfl | k_is)
    (case h1 => k_is)
    (case h1c => k_is)
    (case h1b => k_is)
    (case h1t => k_is)
    (case h1_0 => first | rfl | k_is)
    (case h1_1 => first | rfl | k_is)
    (case nd => decide)
    (case sm => decide)
